import PyProof.Rows.All
import Wide.All
import OpenK.AllK
import Wide.FinOn
import HandS.ForMost
import HandS.Flow
import HandS.IsInst
import HandS.WideBits
import HandS.Style
import HandS.TupAny
import HandS.TupMul
import HandS.Steps
import HandS.Evl
import HandS.Zip
import HandS.Walk
import HandS.Defaults
import HandS.HeadEnd
import HandS.HeadHook2
import HandS.Head2
import PySem.Challenge.RW_sumtold_k06_rows
set_option Elab.async false
set_option linter.all false
set_option maxRecDepth 100000
set_option maxHeartbeats 4000000
namespace Go
open PySem PySem.Spec PyProof.Rows L2
/-! ### readings by short names -/
abbrev rAddI : R2 := rI0 fun i j => .int (i + j)
abbrev rSubI : R2 := rI0 fun i j => .int (i - j)
abbrev rMulI : R2 := rI CMul fun i j => .int (i * j)
abbrev rMulX : R2 := rI CMulX fun i j => .int (i * j)
abbrev rDivI : R2 := rI CDivW fun i j => .int (i / j)
abbrev rModI : R2 := rI (fun _ j => 0 < j) fun i j => .int (i % j)
abbrev rPowI : R2 := rI CPow fun i j => .int (i ^ j.toNat)
abbrev rShlI : R2 := rI CShl fun i j => .int (i * 2 ^ j.toNat)
abbrev rShrI : R2 := rI (fun _ j => 0 ≤ j) fun i j => .int (i / 2 ^ j.toNat)
abbrev rAndI : R2 := rI0 fun i j => .int (Builtin.bitAnd i j)
abbrev rLtI : R2 := rI0 fun i j => .bl (decide (i < j))
abbrev rLeI : R2 := rI0 fun i j => .bl (decide (i ≤ j))
abbrev rGtI : R2 := rI0 fun i j => .bl (decide (j < i))
abbrev rGeI : R2 := rI0 fun i j => .bl (decide (j ≤ i))
abbrev rNegI : V → Hp → VK → Prop := rU fun i => .int (-i)
abbrev rAbs : List V → Hp → VK → Prop := fun xs H Q => ∃ i, xs = [.int i] ∧ Q (.int (if i < 0 then -i else i)) H
abbrev rMin2 : List V → Hp → VK → Prop := fun xs H Q => ∃ i j, xs = [.int i, .int j] ∧ Q (.int (if j < i then j else i)) H
abbrev rInt1 : List V → Hp → VK → Prop := fun xs H Q => (∃ i, xs = [.int i] ∧ Q (.int i) H) ∨ ∃ k, xs = [.bl k] ∧ Q (.int (if k then 1 else 0)) H
abbrev rTupOf (K : PySem.W.Frag) : List V → Hp → VK → Prop := fun xs H Q => ∃ p ys, xs = [.ref p] ∧ ((SqL K H p ys ∧ ∀ l, H l = none → Q (.ref l) (upd H l (.tup ys))) ∨ (SqT K H p ys ∧ Q (.ref p) H))
abbrev rAddStr : R2 := fun x y H Q => ∃ i j, x = .str i ∧ y = .str j ∧ i.length + j.length ≤ sizeLine ∧ Q (.str (i ++ j)) H
abbrev rLenStr : List V → Hp → VK → Prop := fun xs H Q => ∃ z, xs = [.str z] ∧ z.length ≤ sizeLine ∧ Q (.int z.length) H
/-! ### a def that keeps its promise, by its name -/
abbrev FnP (K : PySem.W.Frag) (x : Str) (st : Stmt) (f : Addr) (fd : FuncData) : Prop := FunD K x x (defArgs st) (defBody st) (defScope st) [] [] f fd
def Has (P : Program) (w : World) (K : PySem.W.Frag) (mg : Str → Option Value) (base : Heap) (x : Str) (k : Nat) (ps : List Str) (sp : Sp) : Prop :=
  ∃ (f : Addr) (fd : FuncData), mg x = some (.ref f) ∧ PySem.W.keepIn K (.ref f) = true ∧ Binds K fd ps [] ∧ FnOk P w K mg base CX0 k f fd ps sp
theorem pe_has {X : Cx} {x : Str} {p pos : Pos} {e : Expr} {es : List Expr} {t : TA} {k : Nat} {ps : List Str} {sp : Sp} (h : Has X.prog X.w X.K X.mg X.base x k ps sp) (hr : Room k X.A) (hg : Gl X x) (ha : PA X (e :: es) t)
    (hd : (x == ("__debug__" : Str)) = false := by decide) (he : starEach (e :: es) X.env = (false, eval e X.env) :: starEach es X.env := by rfl) (hpl : (backTo pos (starEach es X.env)).any (·.1) = false := by rfl) :
    PE X (.Call (.Name x p) (e :: es) [] pos) (tCall sp [] E0 t) := by
  obtain ⟨f, fd, gm, kp, b, F⟩ := h
  exact pe_call F hr hg gm kp b .nil pass0 ha hd he hpl
/-! ### stepping -/
section
variable {K : PySem.W.Frag} {σ : L2.St} {H H' : Hp} {Q : VK} {QB : Bool → Hp → Prop} {D : Ends} {t u : TS} {c c' : TT} {te ta tb tc : TE} {tr : TA} {i : Nat} {v x y : V} {r r' : R2} {a b : Addr} {o : HO} {xs ys : List V}
theorem w_seq (h : t { D with nx := u D } σ H) : tSeq t u D σ H := h
theorem w_next (h : D.nx σ H) : tNext D σ H := h
theorem w_asg (h : te σ H fun x H1 => D.nx (σ.set i (some x)) H1) : tAsg te (gName i) D σ H := h
theorem w_drop (h : te σ H fun _ H1 => D.nx σ H1) : tDrop te D σ H := h
theorem w_ret (h : te σ H D.rt) : tRet te D σ H := h
theorem w_if (h : c σ H fun b H1 => if b = true then t D σ H1 else u D σ H1) : tIfS c t u D σ H := h
theorem w_par {j : Nat} (h : tr σ H fun vs H1 => ∃ v w, vs = [v, w] ∧ D.nx ((σ.set i (some v)).set j (some w)) H1) : tPar i j tr D σ H := h
theorem w_sub {to ti : TE} {ts : TSet} (h : te σ H fun x H1 => to σ H1 fun o H2 => ti σ H2 fun i H3 => ts o i x H3 fun H4 => D.nx σ H4) : tAsg te (gSub to ti ts) D σ H := h
theorem w_setL {xs : List V} {k : Int} {j : Nat} {Qh : Hp → Prop} (h : H a = some (.lst xs)) (hj : ixN xs.length k = some j) (q : Qh (upd H a (.lst (xs.set j v)))) : rSetL (.ref a) (.int k) v H Qh := ⟨a, xs, k, j, rfl, rfl, h, hj, q⟩
theorem w_gName {QS : L2.St → Hp → Prop} (q : QS (σ.set i (some v)) H) : gName i v σ H QS := q
theorem w_gTup {n : Nat} {tg : TGs} {QS : L2.St → Hp → Prop} (h : SqT K H a xs) (hn : xs.length = n) (q : tg xs σ H QS) : gTup K n tg (.ref a) σ H QS := ⟨a, xs, rfl, h, hn, q⟩
theorem w_gCons {g1 : TG} {tg : TGs} {QS : L2.St → Hp → Prop} (q : g1 v σ H fun σ' H' => tg xs σ' H' QS) : gCons g1 tg (v :: xs) σ H QS := ⟨v, xs, rfl, q⟩
theorem w_gNil {QS : L2.St → Hp → Prop} (q : QS σ H) : gNil [] σ H QS := ⟨rfl, q⟩
theorem w_asgG {g : TG} (h : te σ H fun x H1 => g x σ H1 D.nx) : tAsg te g D σ H := h
theorem w_var (h : σ[i]? = some (some v)) (q : Q v H) : tVar i σ H Q := ⟨v, h, q⟩
theorem w_con (q : Q v H) : tC v σ H Q := q
theorem w_op (h : ta σ H fun x H1 => tb σ H1 fun y H2 => r x y H2 Q) : tOp r ta tb σ H Q := h
theorem w_un {r : V → Hp → VK → Prop} (h : ta σ H fun x H1 => r x H1 Q) : tUn r ta σ H Q := h
theorem w_I0 {g : Int → Int → V} {i j : Int} (q : Q (g i j) H) : rI0 g (.int i) (.int j) H Q := ⟨i, j, rfl, rfl, q⟩
theorem w_I {C : Int → Int → Prop} {g : Int → Int → V} {i j : Int} (hc : C i j) (q : Q (g i j) H) : rI C g (.int i) (.int j) H Q := ⟨i, j, rfl, rfl, hc, q⟩
theorem w_mulI {i j : Int} (hc : CMul i j) (q : Q (.int (i * j)) H) : rMulI (.int i) (.int j) H Q := w_I hc q
theorem w_modI {i j : Int} (hc : 0 < j) (q : Q (.int (i % j)) H) : rModI (.int i) (.int j) H Q := w_I (C := fun _ j => 0 < j) hc q
theorem w_divI {i j : Int} (hc : CDivW i j) (q : Q (.int (i / j)) H) : rDivI (.int i) (.int j) H Q := w_I hc q
theorem w_powI {i j : Int} (hc : CPow i j) (q : Q (.int (i ^ j.toNat)) H) : rPowI (.int i) (.int j) H Q := w_I hc q
theorem w_shrI {i j : Int} (hc : 0 ≤ j) (q : Q (.int (i / 2 ^ j.toNat)) H) : rShrI (.int i) (.int j) H Q := w_I (C := fun _ j => 0 ≤ j) hc q
theorem w_mulX {i j : Int} (hc : CMulX i j) (q : Q (.int (i * j)) H) : rMulX (.int i) (.int j) H Q := w_I hc q
theorem w_shlI {i j : Int} (hc : CShl i j) (q : Q (.int (i * 2 ^ j.toNat)) H) : rShlI (.int i) (.int j) H Q := w_I hc q
theorem w_U {g : Int → V} {i : Int} (q : Q (g i) H) : rU g (.int i) H Q := ⟨i, rfl, q⟩
theorem w_eq (hs : scal x y = true) (q : Q (.bl (decide (x = y))) H) : rEq x y H Q := ⟨hs, q⟩
theorem w_ne (hs : scal x y = true) (q : Q (.bl (!decide (x = y))) H) : rNe x y H Q := ⟨hs, q⟩
theorem w_isB {p q : Bool} (h : Q (.bl (decide (p = q))) H) : rIsB (.bl p) (.bl q) H Q := ⟨p, q, rfl, rfl, h⟩
theorem w_notB {p q : Bool} (h : Q (.bl (!decide (p = q))) H) : rNotB (.bl p) (.bl q) H Q := ⟨p, q, rfl, rfl, h⟩
theorem w_isN (h : Q (.bl (decide (x = .non))) H) : L2.rIsN x .non H Q := ⟨rfl, h⟩
theorem w_notN (h : Q (.bl (!decide (x = .non))) H) : L2.rNotN x .non H Q := ⟨rfl, h⟩
theorem w_test (h : te σ H fun x H' => ∃ k, x = .bl k ∧ QB k H') : tTest te σ H QB := h
theorem w_tB (h : te σ H fun x H' => ∃ k, x = .bl k ∧ QB k H') : tB te σ H QB := h
theorem w_k {k : Bool} {R : Bool → Prop} (q : R k) : ∃ k', V.bl k = .bl k' ∧ R k' := ⟨k, rfl, q⟩
theorem w_not (h : c σ H fun k H1 => QB (!k) H1) : tNot c σ H QB := h
theorem w_and (h : c σ H fun k H1 => if k = true then c' σ H1 QB else QB false H1) : tAnd c c' σ H QB := h
theorem w_or (h : c σ H fun k H1 => if k = true then QB true H1 else c' σ H1 QB) : tOr c c' σ H QB := h
theorem w_andV (h : ta σ H fun x H1 => ∃ k, x = .bl k ∧ if k = true then tb σ H1 Q else Q (.bl false) H1) : tAndV ta tb σ H Q := h
theorem w_orV (h : ta σ H fun x H1 => ∃ k, x = .bl k ∧ if k = true then Q (.bl true) H1 else tb σ H1 Q) : tOrV ta tb σ H Q := h
theorem w_notV (h : ta σ H fun x H1 => ∃ k, x = .bl k ∧ Q (.bl (!k)) H1) : tNotV ta σ H Q := h
theorem w_chain (h : ta σ H fun x H1 => tb σ H1 fun y H2 => r x y H2 fun z H3 => ∃ k, z = .bl k ∧ (if k = true then tc σ H3 fun w' H4 => r' y w' H4 Q else Q (.bl false) H3)) : tChain r r' ta tb tc σ H Q := h
theorem w_orT (h : ta σ H fun x H1 => ∃ k, TruV K x H1 k ∧ if k = true then Q x H1 else tb σ H1 Q) : tOrT K ta tb σ H Q := h
theorem w_andT (h : ta σ H fun x H1 => ∃ k, TruV K x H1 k ∧ if k = true then tb σ H1 Q else Q x H1) : tAndT K ta tb σ H Q := h
theorem w_truI {n : Int} {R : Bool → Prop} (q : R (n != 0)) : ∃ k, TruV K (.int n) H k ∧ R k := ⟨_, rfl, q⟩
theorem w_ifE (h : c σ H fun k H1 => if k = true then ta σ H1 Q else tb σ H1 Q) : tIf c ta tb σ H Q := h
theorem w_nil {QL : List V → Hp → Prop} (q : QL [] H) : tNil σ H QL := q
theorem w_cons {QL : List V → Hp → Prop} (h : te σ H fun x H1 => tr σ H1 fun xs H2 => QL (x :: xs) H2) : tCons te tr σ H QL := h
theorem w_tup (h : tr σ H fun xs H1 => xs.length ≤ sizeLine ∧ ∀ p, H1 p = none → Q (.ref p) (upd H1 p (.tup xs))) : tTup tr σ H Q := h
theorem w_lst (h : tr σ H fun xs H1 => xs.length ≤ sizeLine ∧ ∀ p, H1 p = none → Q (.ref p) (upd H1 p (.lst xs))) : tLst tr σ H Q := h
theorem w_call {sp : Sp} {E : XK} (h : tr σ H fun vs H1 => sp vs H1 Q E) : tCall sp [] E tr σ H Q := by
  show tr σ H fun vs H1 => sp (vs ++ []) H1 Q E
  simp only [List.append_nil]
  exact h
theorem w_cb {r : List V → Hp → VK → Prop} (h : tr σ H fun vs H1 => r vs H1 Q) : tCB r tr σ H Q := h
theorem w_ixL {k : Int} (h : SqL K H a xs) (ha : atI xs k = some v) (q : Q v H) : rIxL K (.ref a) (.int k) H Q := ⟨a, xs, k, v, rfl, rfl, h, ha, q⟩
theorem w_ixT {k : Int} (h : SqT K H a xs) (ha : atI xs k = some v) (q : Q v H) : rIxT K (.ref a) (.int k) H Q := ⟨a, xs, k, v, rfl, rfl, h, ha, q⟩
theorem w_ixsL {k : Int} (h : SqL K H a xs) (ha : atI xs k = some v) (q : Q v H) : rIx K (.ref a) (.int k) H Q := .inl ⟨a, xs, k, v, rfl, rfl, h, ha, q⟩
theorem w_ixsT {k : Int} (h : SqT K H a xs) (ha : atI xs k = some v) (q : Q v H) : rIx K (.ref a) (.int k) H Q := .inr (.inl ⟨a, xs, k, v, rfl, rfl, h, ha, q⟩)
theorem w_min2 {m n : Int} (q : Q (.int (if n < m then n else m)) H) : rMin2 [.int m, .int n] H Q := ⟨m, n, rfl, q⟩
theorem w_max2 {m n : Int} (q : Q (.int (if n > m then n else m)) H) : Evl.rMax2 [.int m, .int n] H Q := ⟨m, n, rfl, q⟩
theorem w_bitsI {n : Int} {R : Int → Prop} (q : R n) : ∃ i, V.int n = .int i ∧ R i := ⟨n, rfl, q⟩
theorem w_abs {n : Int} (q : Q (.int (n.natAbs : Int)) H) : rAbs [.int n] H Q := ⟨n, rfl, by
  have e : (if n < 0 then -n else n) = (n.natAbs : Int) := by split <;> omega
  rw [e]; exact q⟩
theorem w_intB {k : Bool} (q : Q (.int (if k then 1 else 0)) H) : rInt1 [.bl k] H Q := .inr ⟨k, rfl, q⟩
theorem w_tupOfL (h : SqL K H a ys) (q : ∀ l, H l = none → Q (.ref l) (upd H l (.tup ys))) : rTupOf K [.ref a] H Q := ⟨a, ys, rfl, .inl ⟨h, q⟩⟩
theorem w_lenL (h : SqL K H a xs) (q : Q (.int xs.length) H) : Evl.rLenS K [.ref a] H Q := ⟨a, xs, rfl, .inl h, q⟩
theorem w_lenT (h : SqT K H a xs) (q : Q (.int xs.length) H) : Evl.rLenS K [.ref a] H Q := ⟨a, xs, rfl, .inr h, q⟩
theorem w_isi {cc : V} {tt uu : Value} {k : Bool} (hc : ClsV cc uu) (ht : TyX K H x tt) (hk : PySem.W.kitOne K tt uu = some k) (q : Q (.bl k) H) : rIsi K [x, cc] H Q := ⟨x, cc, tt, uu, k, rfl, hc, ht, hk, q⟩
theorem w_sl {rr : V → Option Int → Option Int → Hp → VK → Prop} {tl th : TO} (h : te σ H fun x H1 => tl σ H1 fun l H2 => th σ H2 fun u H3 => rr x l u H3 Q) : tSl rr te tl th σ H Q := h
theorem w_noPart {QO : Option Int → Hp → Prop} (q : QO none H) : tNoPart σ H QO := q
theorem w_part {QO : Option Int → Hp → Prop} (h : te σ H fun x H1 => ∃ i, x = .int i ∧ QO (some i) H1) : tPart te σ H QO := h
theorem w_partI {R : Int → Prop} {n : Int} (q : R n) : ∃ i, V.int n = .int i ∧ R i := ⟨n, rfl, q⟩
theorem w_slL {lo hi : Option Int} (h : SqL K H a xs) (q : ∀ p, H p = none → Q (.ref p) (upd H p (.lst (cutV xs lo hi)))) : rSlL K (.ref a) lo hi H Q := ⟨a, xs, rfl, h, q⟩
theorem w_cat (h : H a = some (.lst xs)) (h' : H b = some (.lst ys)) (hl : xs.length + ys.length ≤ sizeLine) (q : ∀ p, H p = none → Q (.ref p) (upd H p (.lst (xs ++ ys)))) : rCat (.ref a) (.ref b) H Q := ⟨a, b, xs, ys, rfl, rfl, h, h', hl, q⟩
theorem w_eqD {d e : PyData} (h1 : Dp K H x d) (h2 : Dp K H y e) (s1 : SeqAt.shaped d = true) (s2 : SeqAt.shaped e = true) (q : Q (.bl (PyData.eqv d e)) H) : rEqD K x y H Q := ⟨d, e, h1, h2, s1, s2, q⟩
theorem w_neD {d e : PyData} (h1 : Dp K H x d) (h2 : Dp K H y e) (s1 : SeqAt.shaped d = true) (s2 : SeqAt.shaped e = true) (q : Q (.bl (!PyData.eqv d e)) H) : rNeD K x y H Q := ⟨d, e, h1, h2, s1, s2, q⟩
theorem w_eqD_same {d : PyData} (h1 : Dp K H x d) (h2 : Dp K H y d) (s1 : SeqAt.shaped d = true) (q : Q (.bl true) H) : rEqD K x y H Q := ⟨d, d, h1, h2, s1, s1, by rw [SeqAt.eqv_refl d (SeqAt.canLay_of_shaped s1)]; exact q⟩
theorem w_neD_same {d : PyData} (h1 : Dp K H x d) (h2 : Dp K H y d) (s1 : SeqAt.shaped d = true) (q : Q (.bl false) H) : rNeD K x y H Q := ⟨d, d, h1, h2, s1, s1, by rw [SeqAt.eqv_refl d (SeqAt.canLay_of_shaped s1)]; exact q⟩
theorem dpP {m n : Int} (h : H a = some (.tup [.int m, .int n])) : Dp K H (.ref a) (.tuple [.int m, .int n]) := .tup (SqT.of h) (.cons (.int _) (.cons (.int _) .nil))
theorem dpN (h : H a = some (.lst [])) : Dp K H (.ref a) (.list []) := .lst (SqL.of h) .nil
theorem eqv_pair {m n m' n' : Int} : PyData.eqv (.tuple [.int m, .int n]) (.tuple [.int m', .int n']) = (decide (m = m') && decide (n = n')) := by
  simp [PyData.eqv, PyData.eqvAll, Bool.beq_eq_decide_eq]
theorem w_bits (h : te σ H fun x H1 => ∃ i, x = .int i ∧ Q (.int (Builtin.Int.intBits i : Nat)) H1) : tBits te σ H Q := h
/-! ### heaps -/
theorem w_bm {T : String} {r : V → List V → Hp → VK → Prop} (h : te σ H fun x H1 => tyV K T x H1 ∧ tr σ H1 fun xs H2 => r x xs H2 Q) : tBM K T r te tr σ H Q := h
theorem w_bm0 {T : String} {r : V → List V → Hp → VK → Prop} (h : te σ H fun x H1 => tyV K T x H1 ∧ r x [] H1 Q) : tBM0 K T r te σ H Q := h
theorem w_tyL {R : Prop} (h : H a = some (.lst xs)) (q : R) : tyV K "list" (.ref a) H ∧ R := ⟨.inl ⟨rfl, _, SqL.of h⟩, q⟩
theorem w_tyS {R : Prop} {z : Str} (q : R) : tyV K "str" (.str z) H ∧ R := ⟨rfl, q⟩
theorem w_append (h : H a = some (.lst xs)) (hl : xs.length < sizeLine) (q : Q .non (upd H a (.lst (xs ++ [v])))) : rAppend (.ref a) [v] H Q := ⟨a, xs, v, rfl, rfl, h, hl, q⟩
theorem w_repT {k : Nat} (h : SqT K H a xs) (h0 : xs ≠ []) (h2 : 2 ≤ k) (h3 : k ≤ 1000) (h4 : xs.length ≤ 1000) (q : ∀ p, H p = none → Q (.ref p) (upd H p (.tup (List.replicate k xs).flatten))) : rRepT K (.ref a) (.int (k : Int)) H Q := ⟨a, k, xs, rfl, rfl, h, h0, by omega, by omega, h4, by rw [Int.toNat_natCast]; exact q⟩
theorem keep {p : Addr} {u : HO} (h : H a = some o) (hp : H p = none) : upd H p u a = some o := by
  rw [upd_ne (ne_of_none h hp)]; exact h
theorem get (e : Same H H') (h : H a = some o) : H' a = some o := e a o h
theorem same_new {p : Addr} {u : HO} (hp : H p = none) : Same H (upd H p u) := fun _ _ h => keep h hp
theorem same_in {H0 : Hp} {p : Addr} {u : HO} (s : Same H0 H) (hp : H p = none) : Same H0 (upd H p u) := s.trans (same_new hp)
theorem free_of {p : Addr} {u : HO} {q : Addr} (h : upd H p u q = none) : H q = none := by
  unfold upd at h
  split at h
  · cases h
  · exact h
theorem ne_new {p : Addr} {u : HO} {q : Addr} (h : upd H p u q = none) : q ≠ p := fun e => by
  rw [e, upd_same] at h; cases h
theorem sqL (h : H a = some (.lst xs)) : SqL K H a xs := SqL.of h
theorem sqT (h : H a = some (.tup xs)) : SqT K H a xs := SqT.of h
theorem tyT (h : H a = some (.tup xs)) : TyX K H (.ref a) (.type "tuple") := .base (.tup h)
end
/-! ### isinstance -/
section
variable {K : PySem.W.Frag} {H : Hp} {Q : VK}
theorem i_int_int {n : Int} (q : Q (.bl true) H) : rIsi K [.int n, .ty "int"] H Q := w_isi (.ty _) (.base (.int n)) (kit_ty (a := "int") (b := "int") (r := true) (by decide +kernel)) q
theorem i_int_bool {n : Int} (q : Q (.bl false) H) : rIsi K [.int n, .ty "bool"] H Q := w_isi (.ty _) (.base (.int n)) (kit_ty (a := "int") (b := "bool") (r := false) (by decide +kernel)) q
theorem i_int_str {n : Int} (q : Q (.bl false) H) : rIsi K [.int n, .ty "str"] H Q := w_isi (.ty _) (.base (.int n)) (kit_ty (a := "int") (b := "str") (r := false) (by decide +kernel)) q
theorem i_int_list {n : Int} (q : Q (.bl false) H) : rIsi K [.int n, .ty "list"] H Q := w_isi (.ty _) (.base (.int n)) (kit_ty (a := "int") (b := "list") (r := false) (by decide +kernel)) q
theorem i_int_tuple {n : Int} (q : Q (.bl false) H) : rIsi K [.int n, .ty "tuple"] H Q := w_isi (.ty _) (.base (.int n)) (kit_ty (a := "int") (b := "tuple") (r := false) (by decide +kernel)) q
theorem i_bl_int {b : Bool} (q : Q (.bl true) H) : rIsi K [.bl b, .ty "int"] H Q := w_isi (.ty _) (.base (.bl b)) (kit_ty (a := "bool") (b := "int") (r := true) (by decide +kernel)) q
theorem i_bl_bool {b : Bool} (q : Q (.bl true) H) : rIsi K [.bl b, .ty "bool"] H Q := w_isi (.ty _) (.base (.bl b)) (kit_ty (a := "bool") (b := "bool") (r := true) (by decide +kernel)) q
theorem i_bl_str {b : Bool} (q : Q (.bl false) H) : rIsi K [.bl b, .ty "str"] H Q := w_isi (.ty _) (.base (.bl b)) (kit_ty (a := "bool") (b := "str") (r := false) (by decide +kernel)) q
theorem i_bl_list {b : Bool} (q : Q (.bl false) H) : rIsi K [.bl b, .ty "list"] H Q := w_isi (.ty _) (.base (.bl b)) (kit_ty (a := "bool") (b := "list") (r := false) (by decide +kernel)) q
theorem i_bl_tuple {b : Bool} (q : Q (.bl false) H) : rIsi K [.bl b, .ty "tuple"] H Q := w_isi (.ty _) (.base (.bl b)) (kit_ty (a := "bool") (b := "tuple") (r := false) (by decide +kernel)) q
theorem i_str_int {z : Str} (q : Q (.bl false) H) : rIsi K [.str z, .ty "int"] H Q := w_isi (.ty _) (.base (.str z)) (kit_ty (a := "str") (b := "int") (r := false) (by decide +kernel)) q
theorem i_str_bool {z : Str} (q : Q (.bl false) H) : rIsi K [.str z, .ty "bool"] H Q := w_isi (.ty _) (.base (.str z)) (kit_ty (a := "str") (b := "bool") (r := false) (by decide +kernel)) q
theorem i_str_str {z : Str} (q : Q (.bl true) H) : rIsi K [.str z, .ty "str"] H Q := w_isi (.ty _) (.base (.str z)) (kit_ty (a := "str") (b := "str") (r := true) (by decide +kernel)) q
theorem i_str_list {z : Str} (q : Q (.bl false) H) : rIsi K [.str z, .ty "list"] H Q := w_isi (.ty _) (.base (.str z)) (kit_ty (a := "str") (b := "list") (r := false) (by decide +kernel)) q
theorem i_str_tuple {z : Str} (q : Q (.bl false) H) : rIsi K [.str z, .ty "tuple"] H Q := w_isi (.ty _) (.base (.str z)) (kit_ty (a := "str") (b := "tuple") (r := false) (by decide +kernel)) q
theorem i_non_int (q : Q (.bl false) H) : rIsi K [.non, .ty "int"] H Q := w_isi (.ty _) (.base .non) (kit_ty (a := "NoneType") (b := "int") (r := false) (by decide +kernel)) q
theorem i_non_bool (q : Q (.bl false) H) : rIsi K [.non, .ty "bool"] H Q := w_isi (.ty _) (.base .non) (kit_ty (a := "NoneType") (b := "bool") (r := false) (by decide +kernel)) q
theorem i_non_str (q : Q (.bl false) H) : rIsi K [.non, .ty "str"] H Q := w_isi (.ty _) (.base .non) (kit_ty (a := "NoneType") (b := "str") (r := false) (by decide +kernel)) q
theorem i_non_list (q : Q (.bl false) H) : rIsi K [.non, .ty "list"] H Q := w_isi (.ty _) (.base .non) (kit_ty (a := "NoneType") (b := "list") (r := false) (by decide +kernel)) q
theorem i_non_tuple (q : Q (.bl false) H) : rIsi K [.non, .ty "tuple"] H Q := w_isi (.ty _) (.base .non) (kit_ty (a := "NoneType") (b := "tuple") (r := false) (by decide +kernel)) q
theorem i_lst_int {a : Addr} {xs : List V} (h : H a = some (.lst xs)) (q : Q (.bl false) H) : rIsi K [.ref a, .ty "int"] H Q := w_isi (.ty _) (.base (.lst h)) (kit_ty (a := "list") (b := "int") (r := false) (by decide +kernel)) q
theorem i_lst_bool {a : Addr} {xs : List V} (h : H a = some (.lst xs)) (q : Q (.bl false) H) : rIsi K [.ref a, .ty "bool"] H Q := w_isi (.ty _) (.base (.lst h)) (kit_ty (a := "list") (b := "bool") (r := false) (by decide +kernel)) q
theorem i_lst_str {a : Addr} {xs : List V} (h : H a = some (.lst xs)) (q : Q (.bl false) H) : rIsi K [.ref a, .ty "str"] H Q := w_isi (.ty _) (.base (.lst h)) (kit_ty (a := "list") (b := "str") (r := false) (by decide +kernel)) q
theorem i_lst_list {a : Addr} {xs : List V} (h : H a = some (.lst xs)) (q : Q (.bl true) H) : rIsi K [.ref a, .ty "list"] H Q := w_isi (.ty _) (.base (.lst h)) (kit_ty (a := "list") (b := "list") (r := true) (by decide +kernel)) q
theorem i_lst_tuple {a : Addr} {xs : List V} (h : H a = some (.lst xs)) (q : Q (.bl false) H) : rIsi K [.ref a, .ty "tuple"] H Q := w_isi (.ty _) (.base (.lst h)) (kit_ty (a := "list") (b := "tuple") (r := false) (by decide +kernel)) q
theorem i_tup_int {a : Addr} {xs : List V} (h : H a = some (.tup xs)) (q : Q (.bl false) H) : rIsi K [.ref a, .ty "int"] H Q := w_isi (.ty _) (.base (.tup h)) (kit_ty (a := "tuple") (b := "int") (r := false) (by decide +kernel)) q
theorem i_tup_bool {a : Addr} {xs : List V} (h : H a = some (.tup xs)) (q : Q (.bl false) H) : rIsi K [.ref a, .ty "bool"] H Q := w_isi (.ty _) (.base (.tup h)) (kit_ty (a := "tuple") (b := "bool") (r := false) (by decide +kernel)) q
theorem i_tup_str {a : Addr} {xs : List V} (h : H a = some (.tup xs)) (q : Q (.bl false) H) : rIsi K [.ref a, .ty "str"] H Q := w_isi (.ty _) (.base (.tup h)) (kit_ty (a := "tuple") (b := "str") (r := false) (by decide +kernel)) q
theorem i_tup_list {a : Addr} {xs : List V} (h : H a = some (.tup xs)) (q : Q (.bl false) H) : rIsi K [.ref a, .ty "list"] H Q := w_isi (.ty _) (.base (.tup h)) (kit_ty (a := "tuple") (b := "list") (r := false) (by decide +kernel)) q
theorem i_tup_tuple {a : Addr} {xs : List V} (h : H a = some (.tup xs)) (q : Q (.bl true) H) : rIsi K [.ref a, .ty "tuple"] H Q := w_isi (.ty _) (.base (.tup h)) (kit_ty (a := "tuple") (b := "tuple") (r := true) (by decide +kernel)) q
theorem i_dK_int {a : Addr} {kvs : List (Key × V)} (h : H a = some (.dK kvs)) (q : Q (.bl false) H) : rIsi K [.ref a, .ty "int"] H Q := w_isi (.ty _) (.base (.dK h)) (kit_ty (a := "dict") (b := "int") (r := false) (by decide +kernel)) q
theorem i_dK_bool {a : Addr} {kvs : List (Key × V)} (h : H a = some (.dK kvs)) (q : Q (.bl false) H) : rIsi K [.ref a, .ty "bool"] H Q := w_isi (.ty _) (.base (.dK h)) (kit_ty (a := "dict") (b := "bool") (r := false) (by decide +kernel)) q
theorem i_dK_str {a : Addr} {kvs : List (Key × V)} (h : H a = some (.dK kvs)) (q : Q (.bl false) H) : rIsi K [.ref a, .ty "str"] H Q := w_isi (.ty _) (.base (.dK h)) (kit_ty (a := "dict") (b := "str") (r := false) (by decide +kernel)) q
theorem i_dK_list {a : Addr} {kvs : List (Key × V)} (h : H a = some (.dK kvs)) (q : Q (.bl false) H) : rIsi K [.ref a, .ty "list"] H Q := w_isi (.ty _) (.base (.dK h)) (kit_ty (a := "dict") (b := "list") (r := false) (by decide +kernel)) q
theorem i_dK_tuple {a : Addr} {kvs : List (Key × V)} (h : H a = some (.dK kvs)) (q : Q (.bl false) H) : rIsi K [.ref a, .ty "tuple"] H Q := w_isi (.ty _) (.base (.dK h)) (kit_ty (a := "dict") (b := "tuple") (r := false) (by decide +kernel)) q
end
/-! ### loops -/
/-- a while by a family of states -/
def Wt {α : Type} (S : α → L2.St) (Pv : α → Hp → Prop) (μ : α → Nat) (m : Nat) (tb : TS) (D : Ends) (σ : L2.St) (H : Hp) : Prop :=
  ∃ N : L2.St → Hp → Prop, (∀ σ' H', N σ' H' → ∃ m', m' < m ∧ ∃ a', σ' = S a' ∧ Pv a' H' ∧ m' = μ a') ∧ tb { D with nx := N, ct := N, bk := D.nx } σ H
theorem w_while {α : Type} {c : TT} {tb : TS} {D : Ends} {σ : L2.St} {H : Hp} (S : α → L2.St) (Pv : α → Hp → Prop) (μ : α → Nat) (a0 : α) (e : σ = S a0) (h0 : Pv a0 H)
    (hs : ∀ a H, Pv a H → c (S a) H fun b H1 => if b = true then Wt S Pv μ (μ a) tb D (S a) H1 else D.nx (S a) H1) : tWhile c tb D σ H := by
  refine ⟨fun m σ H => ∃ a, σ = S a ∧ Pv a H ∧ m = μ a, ⟨_, a0, e, h0, rfl⟩, ?_⟩
  rintro m σ H ⟨a, rfl, p, rfl⟩
  exact hs a H p
theorem w_turn {α : Type} {tb : TS} {D : Ends} {σ : L2.St} {H : Hp} {S : α → L2.St} {Pv : α → Hp → Prop} {μ : α → Nat} {m : Nat}
    (h : tb { D with nx := fun σ' H' => ∃ a', σ' = S a' ∧ Pv a' H' ∧ μ a' < m, ct := fun σ' H' => ∃ a', σ' = S a' ∧ Pv a' H' ∧ μ a' < m, bk := D.nx } σ H) : Wt S Pv μ m tb D σ H :=
  ⟨_, fun _ _ ⟨a', e, p, l⟩ => ⟨_, l, a', e, p, rfl⟩, h⟩
section
variable {K : PySem.W.Frag} {σ : L2.St} {H : Hp} {D : Ends} {g : TG} {tb : TS} {tl : TE} {ta : TA}
theorem w_forI {wi : TI} (h : wi σ H fun J H1 => ∃ W : Nat → Nat → L2.St → Hp → Prop, (∃ m, W 0 m σ H1) ∧ ∀ i m σ H, W i m σ H →
    (J.stop i H ∧ D.nx σ H) ∨ (J.go i H ∧ ∃ N : L2.St → Hp → Prop, (∀ σ' H', N σ' H' → ∃ m', m' < m ∧ W (i + 1) m' σ' H') ∧ ∀ x H', J.yld i H x H' → g x σ H' fun σ2 H2 => tb { D with nx := N, ct := N, bk := D.nx } σ2 H2)) : tFor wi g tb D σ H := h
theorem w_iL {R : It → Hp → Prop} (h : tl σ H fun x H1 => ∃ a, x = .ref a ∧ (∃ xs, SqL K H1 a xs) ∧ R (Itl K a) H1) : iList K tl σ H R := h
theorem w_iT {R : It → Hp → Prop} (h : tl σ H fun x H1 => ∃ a, x = .ref a ∧ (∃ xs, SqT K H1 a xs) ∧ R (Itt K a) H1) : iTup K tl σ H R := h
theorem w_iR1 {R : It → Hp → Prop} (h : ta σ H fun vs H1 => ∃ j : Int, vs = [.int j] ∧ -(2 ^ 62) ≤ j ∧ j < 2 ^ 62 ∧ R (Itr 0 j.toNat) H1) : iRng1 ta σ H R := h
theorem w_iR2 {R : It → Hp → Prop} (h : ta σ H fun vs H1 => ∃ i j : Int, vs = [.int i, .int j] ∧ (-(2 ^ 62) ≤ i ∧ i < 2 ^ 62 ∧ -(2 ^ 62) ≤ j ∧ j < 2 ^ 62) ∧ R (Itr i (j - i).toNat) H1) : iRng2 ta σ H R := h
theorem w_iZT {R : It → Hp → Prop} (h : ta σ H fun vs H1 => ∃ a b xs ys, vs = [.ref a, .ref b] ∧ ((SqL K H1 a xs ∧ SqL K H1 b ys ∧ R (Itz K a b) H1) ∨ (SqT K H1 a xs ∧ SqT K H1 b ys ∧ R (RZ.ItzT K a b) H1))) : RZ.iZipA K ta σ H R := h
theorem walk_zipT {a b : Addr} {xs ys : List V} {n : Nat} (hn : n = min xs.length ys.length) : Walk (RZ.ItzT K a b) n (fun H => SqT K H a xs ∧ SqT K H b ys) (YPair (fun i => xs[i]?) (fun i => ys[i]?)) where
  goes := fun i H hi h => ⟨xs, ys, xs[i], ys[i], h.1, h.2, List.getElem?_eq_getElem (by omega), List.getElem?_eq_getElem (by omega)⟩
  stops := fun H h => ⟨xs, ys, h.1, h.2, by omega⟩
  yields := fun i H x H' hi h y => by
    obtain ⟨T, u, v, e, n, e2, f1, f2⟩ := y
    exact ⟨T, u, v, e, n, e2, f1 xs h.1, f2 ys h.2⟩
theorem w_yes {QB : Bool → Hp → Prop} (q : QB true H) : tYes σ H QB := q
theorem w_lc {wi : TI} {tt : TT} {te : TE} {vs : List Nat} {Q : VK} (h : wi σ H fun J H1 => ∀ D, H1 D = none → ∃ W : Nat → Nat → Hp → Prop, (∃ m, W 0 m (upd H1 D (.lst []))) ∧ ∀ i m H, W i m H →
  (J.stop i H ∧ Q (.ref D) H) ∨ (J.go i H ∧ ∃ Nx : Hp → Prop, (∀ H', Nx H' → ∃ m', m' < m ∧ W (i + 1) m' H') ∧ ∀ x H', J.yld i H x H' → g x (wipe σ vs) H' fun σ2 H2 => wipe σ2 vs = wipe σ vs ∧ tt σ2 H2 fun b H3 =>
    if b = true then te σ2 H3 fun y H4 => ∃ acc, H4 D = some (.lst acc) ∧ acc.length < sizeLine ∧ Nx (upd H4 D (.lst (acc ++ [y]))) else Nx H3)) : tLc wi g tt te vs σ H Q := h
end
/-! ### tests that are known -/
theorem if_t {c : Bool} {A B : Prop} (hc : c = true) (h : A) : if c = true then A else B := by rw [if_pos hc]; exact h
theorem if_f {c : Bool} {A B : Prop} (hc : c = false) (h : B) : if c = true then A else B := by rw [hc, if_neg Bool.false_ne_true]; exact h
theorem if_2 {c : Prop} [Decidable c] {A B : Prop} (h1 : c → A) (h2 : ¬ c → B) : if decide c = true then A else B := by
  by_cases h : c
  · exact if_t (decide_eq_true h) (h1 h)
  · exact if_f (decide_eq_false h) (h2 h)
theorem if_n2 {c : Prop} [Decidable c] {A B : Prop} (h1 : ¬ c → A) (h2 : c → B) : if (!decide c) = true then A else B := by
  by_cases h : c
  · exact if_f (by rw [decide_eq_true h]; rfl) (h2 h)
  · exact if_t (by rw [decide_eq_false h]; rfl) (h1 h)
theorem if_b {c : Bool} {A B : Prop} (h1 : c = true → A) (h2 : c = false → B) : if c = true then A else B := by
  cases c with
  | true => exact if_t rfl (h1 rfl)
  | false => exact if_f rfl (h2 rfl)
theorem V.int_inj {i j : Int} : (V.int i = V.int j) ↔ i = j := ⟨fun h => V.int.inj h, fun h => by rw [h]⟩
end Go

/-! The mathematics of pairs. -/
namespace Mth
theorem gcd_step (x y : Int) : Int.gcd y (x % y) = Int.gcd x y := by
  rw [Int.emod_def, Int.gcd_sub_mul_left_right, Int.gcd_comm]
/-- the pair of a by b: its two numbers -/
def pn (a b : Int) : Int := b.sign * a / (Int.gcd a b : Int)
def pd (a b : Int) : Int := (b.natAbs : Int) / (Int.gcd a b : Int)
theorem pair_ex {a b : Int} (hb : b ≠ 0) : ∃ g a' b' : Int, 0 < g ∧ g = Int.gcd a b ∧ a = g * a' ∧ b = g * b' ∧ Int.gcd a' b' = 1 ∧ b' ≠ 0 ∧ pn a b = b'.sign * a' ∧ pd a b = b'.natAbs := by
  have hg : 0 < Int.gcd a b := Int.gcd_pos_of_ne_zero_right a hb
  obtain ⟨a', ha⟩ := Int.gcd_dvd_left a b
  obtain ⟨b', hb'⟩ := Int.gcd_dvd_right a b
  have hg' : (0 : Int) < (Int.gcd a b : Int) := by omega
  generalize hG : (Int.gcd a b : Int) = g at *
  have nb : b' ≠ 0 := fun z => hb (by rw [hb', z, Int.mul_zero])
  have sg : g.sign = 1 := Int.sign_eq_one_of_pos hg'
  have ng : (g.natAbs : Int) = g := by omega
  have gc : Int.gcd a' b' = 1 := by
    have e := Int.gcd_mul_left g a' b'
    rw [← ha, ← hb'] at e
    have e1 : g.natAbs * Int.gcd a' b' = g.natAbs * 1 := by omega
    exact Nat.eq_of_mul_eq_mul_left (by omega) e1
  refine ⟨g, a', b', hg', rfl, ha, hb', gc, nb, ?_, ?_⟩
  · unfold pn
    rw [hG]
    have e : b.sign * a = g * (b'.sign * a') := by
      have e2 : b.sign = b'.sign := by rw [hb', Int.sign_mul, sg, Int.one_mul]
      have e3 : b.sign * a = b.sign * (g * a') := by rw [← ha]
      rw [e3, e2, ← Int.mul_assoc, Int.mul_comm b'.sign g, Int.mul_assoc]
    rw [e, Int.mul_ediv_cancel_left _ (by omega)]
  · unfold pd
    rw [hG]
    have e : (b.natAbs : Int) = g * (b'.natAbs : Int) := by
      rw [hb', Int.natAbs_mul, Int.natCast_mul, ng]
    rw [e, Int.mul_ediv_cancel_left _ (by omega)]
theorem sign_mul_self (b : Int) : b.sign * b = b.natAbs := by
  rcases Int.lt_trichotomy b 0 with h | h | h
  · rw [Int.sign_eq_neg_one_of_neg h]; omega
  · rw [h]; rfl
  · rw [Int.sign_eq_one_of_pos h]; omega
theorem pd_pos {a b : Int} (hb : b ≠ 0) : 0 < pd a b := by
  obtain ⟨g, a', b', _, _, _, _, _, nb, _, e⟩ := pair_ex (a := a) hb
  rw [e]; omega
theorem pn_cross {a b : Int} (hb : b ≠ 0) : pn a b * b = a * pd a b := by
  obtain ⟨g, a', b', hg, _, ha, hb', _, nb, e1, e2⟩ := pair_ex (a := a) hb
  rw [e1, e2, ← sign_mul_self]
  generalize b'.sign = s
  rw [ha, hb']
  simp only [Int.mul_assoc, Int.mul_left_comm, Int.mul_comm]
theorem natAbs_sign {b : Int} (hb : b ≠ 0) : b.sign.natAbs = 1 := by
  rcases Int.lt_or_gt_of_ne hb with h | h
  · rw [Int.sign_eq_neg_one_of_neg h]; rfl
  · rw [Int.sign_eq_one_of_pos h]; rfl
theorem gcd_sign {b x y : Int} (hb : b ≠ 0) : Int.gcd (b.sign * x) y = Int.gcd x y := by
  unfold Int.gcd
  rw [Int.natAbs_mul, natAbs_sign hb, Nat.one_mul]
theorem pair_cop {a b : Int} (hb : b ≠ 0) : Int.gcd (pn a b) (pd a b) = 1 := by
  obtain ⟨g, a', b', hg, _, ha, hb', gc, nb, e1, e2⟩ := pair_ex (a := a) hb
  rw [e1, e2, gcd_sign nb]
  unfold Int.gcd at gc ⊢
  rw [Int.natAbs_natCast]; exact gc
theorem pn_le {a b : Int} (hb : b ≠ 0) : (pn a b).natAbs ≤ a.natAbs := by
  obtain ⟨g, a', b', hg, _, ha, hb', gc, nb, e1, e2⟩ := pair_ex (a := a) hb
  rw [e1, Int.natAbs_mul, natAbs_sign nb, Nat.one_mul, ha, Int.natAbs_mul]
  exact Nat.le_mul_of_pos_left _ (by omega)
theorem pd_le {a b : Int} (hb : b ≠ 0) : (pd a b).natAbs ≤ b.natAbs := by
  obtain ⟨g, a', b', hg, _, ha, hb', gc, nb, e1, e2⟩ := pair_ex (a := a) hb
  rw [e2, Int.natAbs_natCast, hb', Int.natAbs_mul]
  exact Nat.le_mul_of_pos_left _ (by omega)
/-- halving both -/
theorem gcd_both {x y : Int} (hx : x % 2 = 0) (hy : y % 2 = 0) : Int.gcd x y = 2 * Int.gcd (x / 2) (y / 2) := by
  have e := Int.gcd_mul_left 2 (x / 2) (y / 2)
  rw [show (2 : Int) * (x / 2) = x by omega, show (2 : Int) * (y / 2) = y by omega] at e
  exact e
theorem gcd_odd {x y : Int} (hx : x % 2 = 0) (hy : ¬ y % 2 = 0) : Int.gcd x y = Int.gcd (x / 2) y := by
  have e : Int.gcd 2 y = 1 := by
    rw [Int.gcd_eq_one_iff]
    intro c h1 h2
    obtain ⟨k, hk⟩ := h1
    obtain ⟨m, hm⟩ := h2
    have e1 : (1 : Int) = y - 2 * (y / 2) := by omega
    rw [e1, hm]
    have e2 : c * m - 2 * (c * m / 2) = c * m - c * k * (c * m / 2) := by rw [← hk]
    rw [e2, Int.mul_assoc, ← Int.mul_sub]
    exact ⟨_, rfl⟩
  have e2 := Int.gcd_mul_right_left_of_gcd_eq_one (n := 2) (m := y) (k := x / 2) e
  rw [show (2 : Int) * (x / 2) = x by omega] at e2
  exact e2
end Mth

/-! The mathematics of parts. -/
namespace Mth
/-- the part of n by 2 ^ e -/
def prt : Int → Nat → Int × Nat
  | n, 0 => (n, 0)
  | n, e + 1 => if n % 2 = 0 then prt (n / 2) e else (n, e + 1)
theorem prt_even {n : Int} {e : Nat} (h : n % 2 = 0) : prt n (e + 1) = prt (n / 2) e := by rw [prt, if_pos h]
theorem prt_odd {n : Int} {e : Nat} (h : ¬ n % 2 = 0) : prt n (e + 1) = (n, e + 1) := by rw [prt, if_neg h]
theorem prt_zero : ∀ e : Nat, prt 0 e = (0, 0)
  | 0 => rfl
  | e + 1 => by rw [prt_even (by decide)]; exact prt_zero e
theorem prt_twice (n : Int) (e : Nat) : prt (2 * n) (e + 1) = prt n e := by
  rw [prt_even (by omega), show 2 * n / 2 = n by omega]
theorem prt_pow (n : Int) (e : Nat) : ∀ k : Nat, prt (n * 2 ^ k) (e + k) = prt n e
  | 0 => by rw [Int.pow_zero, Int.mul_one, Nat.add_zero]
  | k + 1 => by
    rw [Int.pow_succ, ← Int.mul_assoc, Int.mul_comm _ 2, ← Nat.add_assoc, prt_twice]
    exact prt_pow n e k
theorem prt_norm : ∀ (e : Nat) (n : Int), (prt n e).2 = 0 ∨ (prt n e).1 % 2 = 1
  | 0, n => .inl rfl
  | e + 1, n => by
    by_cases h : n % 2 = 0
    · rw [prt_even h]; exact prt_norm e _
    · rw [prt_odd h]; exact .inr (by show n % 2 = 1; omega)
theorem prt_self {n : Int} {e : Nat} (h : e = 0 ∨ n % 2 = 1) : prt n e = (n, e) := by
  cases e with
  | zero => rfl
  | succ e => exact prt_odd (by omega)
theorem prt_le : ∀ (e : Nat) (n : Int), (prt n e).1.natAbs ≤ n.natAbs ∧ (prt n e).2 ≤ e
  | 0, n => ⟨Nat.le_refl _, Nat.le_refl _⟩
  | e + 1, n => by
    by_cases h : n % 2 = 0
    · rw [prt_even h]
      have := prt_le e (n / 2)
      omega
    · rw [prt_odd h]; exact ⟨Nat.le_refl _, Nat.le_refl _⟩
theorem prt_worth : ∀ (e : Nat) (n : Int), (prt n e).1 * 2 ^ e = n * 2 ^ (prt n e).2
  | 0, n => rfl
  | e + 1, n => by
    by_cases h : n % 2 = 0
    · rw [prt_even h, Int.pow_succ, ← Int.mul_assoc, prt_worth e (n / 2)]
      rw [Int.mul_assoc, Int.mul_comm _ 2, ← Int.mul_assoc, show n / 2 * 2 = n by omega]
    · rw [prt_odd h]
/-- how the program reckons it -/
theorem prt_by {m : Int} (hm : ¬ m % 2 = 0) : ∀ (v e : Nat), prt (m * 2 ^ v) e = (m * 2 ^ v / 2 ^ min e v, e - min e v)
  | 0, e => by
    rw [Nat.min_zero, Int.pow_zero, Int.mul_one, Int.ediv_one]
    exact prt_self (by omega)
  | v + 1, 0 => by
    rw [Nat.zero_min, Int.pow_zero, Int.ediv_one]; rfl
  | v + 1, e + 1 => by
    rw [show min (e + 1) (v + 1) = min e v + 1 by omega, show e + 1 - (min e v + 1) = e - min e v by omega]
    have e1 : m * 2 ^ (v + 1) = 2 * (m * 2 ^ v) := by rw [Int.pow_succ, ← Int.mul_assoc, Int.mul_comm]
    have e2 : (2 : Int) ^ (min e v + 1) = 2 * 2 ^ min e v := by rw [Int.pow_succ, Int.mul_comm]
    rw [e1, prt_twice, prt_by hm v e, e2, Int.mul_ediv_mul_of_pos _ _ (by decide)]
theorem odd_ex : ∀ (k : Nat) (n : Int), n ≠ 0 → n.natAbs < 2 ^ k → ∃ (v : Nat) (m : Int), n = m * 2 ^ v ∧ ¬ m % 2 = 0
  | 0, n, h, hk => by rw [Nat.pow_zero] at hk; omega
  | k + 1, n, h, hk => by
    by_cases he : n % 2 = 0
    · rw [Nat.pow_succ] at hk
      obtain ⟨v, m, e, hm⟩ := odd_ex k (n / 2) (by omega) (by omega)
      refine ⟨v + 1, m, ?_, hm⟩
      rw [Int.pow_succ, ← Int.mul_assoc, ← e]; omega
    · exact ⟨0, n, by rw [Int.pow_zero, Int.mul_one], he⟩
theorem and_half (a b : Nat) : (a &&& b) = 2 * (a / 2 &&& b / 2) + (a % 2) * (b % 2) := by
  have h1 : (a &&& b) / 2 = a / 2 &&& b / 2 := Nat.and_div_two
  have h2 : (a &&& b) % 2 = (a % 2) * (b % 2) := by
    have e := Nat.and_mod_two_pow (a := a) (b := b) (n := 1)
    rw [Nat.pow_one] at e
    rw [e]
    rcases Nat.mod_two_eq_zero_or_one a with x | x <;> rcases Nat.mod_two_eq_zero_or_one b with y | y <;> rw [x, y] <;> rfl
  omega
theorem low_nat (t : Nat) : ∀ v : Nat, (((2 * t + 1) * 2 ^ v) &&& ((2 * t + 1) * 2 ^ v - 1)) = 2 * t * 2 ^ v
  | 0 => by
    rw [Nat.pow_zero, Nat.mul_one, Nat.mul_one, and_half]
    rw [show (2 * t + 1) / 2 = t by omega, show (2 * t + 1 - 1) / 2 = t by omega, show (2 * t + 1 - 1) % 2 = 0 by omega, Nat.mul_zero, Nat.add_zero, Nat.and_self]
  | v + 1 => by
    have ih := low_nat t v
    have e1 : (2 * t + 1) * 2 ^ (v + 1) = 2 * ((2 * t + 1) * 2 ^ v) := by rw [Nat.pow_succ, ← Nat.mul_assoc, Nat.mul_comm]
    have e2 : 2 * t * 2 ^ (v + 1) = 2 * (2 * t * 2 ^ v) := by rw [Nat.pow_succ, ← Nat.mul_assoc, Nat.mul_comm]
    have hp : 0 < (2 * t + 1) * 2 ^ v := Nat.mul_pos (by omega) (Nat.pow_pos (by decide))
    rw [e1, e2, and_half]
    generalize (2 * t + 1) * 2 ^ v = w at *
    rw [show 2 * w / 2 = w by omega, show (2 * w - 1) / 2 = w - 1 by omega, show 2 * w % 2 = 0 by omega, Nat.zero_mul, Nat.add_zero, ih]
open PySem PyProof.Rows in
theorem low_pos {m : Int} {v : Nat} (h0 : 0 < m) (hm : ¬ m % 2 = 0) : Builtin.bitAnd (m * 2 ^ v) (0 - m * 2 ^ v) = 2 ^ v := by
  obtain ⟨t, rfl⟩ : ∃ t : Nat, m = ((2 * t + 1 : Nat) : Int) := ⟨(m / 2).toNat, by omega⟩
  have hc : ((2 * t + 1 : Nat) : Int) * 2 ^ v = (((2 * t + 1) * 2 ^ v : Nat) : Int) := by
    rw [Int.natCast_mul, Int.natCast_pow]; rfl
  have hp : 0 < (2 * t + 1) * 2 ^ v := Nat.mul_pos (by omega) (Nat.pow_pos (by decide))
  have low := low_nat t v
  rw [hc]
  have e : (0 : Int) - (((2 * t + 1) * 2 ^ v : Nat) : Int) = Builtin.bitNot ((((2 * t + 1) * 2 ^ v - 1 : Nat)) : Int) := by
    show _ = -((((2 * t + 1) * 2 ^ v - 1 : Nat)) : Int) - 1
    omega
  rw [e, bitAnd_not, bitAnd_pp (Int.natCast_nonneg _) (Int.natCast_nonneg _), Int.toNat_natCast, Int.toNat_natCast, low]
  have e3 : (2 * t + 1) * 2 ^ v = 2 * t * 2 ^ v + 2 ^ v := by rw [Nat.add_mul, Nat.one_mul]
  rw [e3, Int.natCast_add]
  have e4 : (((2 : Nat) ^ v : Nat) : Int) = 2 ^ v := by rw [Int.natCast_pow]; rfl
  rw [e4]; omega
open PySem PyProof.Rows in
theorem low_bit {m : Int} {v : Nat} (hm : ¬ m % 2 = 0) : Builtin.bitAnd (m * 2 ^ v) (0 - m * 2 ^ v) = 2 ^ v := by
  rcases Int.lt_or_gt_of_ne (show m ≠ 0 by omega) with h | h
  · have e := low_pos (m := -m) (v := v) (by omega) (by omega)
    rw [bitAnd_comm]
    have e1 : -m * 2 ^ v = 0 - m * 2 ^ v := by rw [Int.neg_mul]; omega
    rw [e1] at e
    have e2 : 0 - (0 - m * 2 ^ v) = m * 2 ^ v := by omega
    rw [e2] at e
    exact e
  · exact low_pos h hm
open PySem in
theorem low_bits (v : Nat) : (Builtin.Int.intBits ((2 : Int) ^ v) : Int) - 1 = v := by
  unfold Builtin.Int.intBits
  have hp : 0 < (2 : Nat) ^ v := Nat.pow_pos (by decide)
  have hc : ((2 : Int) ^ v) = (((2 : Nat) ^ v : Nat) : Int) := by rw [Int.natCast_pow]; rfl
  have hn : ¬ (((2 : Int) ^ v) == 0) = true := by
    rw [hc]; simp; omega
  rw [if_neg hn, hc, Int.natAbs_natCast, Nat.log2_two_pow]
  omega
end Mth

namespace Sum
open PySem PySem.Spec PyProof.Rows L2 Go
local macro_rules | `(tactic| walk_at "isi") => `(tactic| first
  | with_reducible refine Go.i_int_int ?_
  | with_reducible refine Go.i_int_bool ?_
  | with_reducible refine Go.i_int_str ?_
  | with_reducible refine Go.i_int_list ?_
  | with_reducible refine Go.i_int_tuple ?_
  | with_reducible refine Go.i_bl_int ?_
  | with_reducible refine Go.i_bl_bool ?_
  | with_reducible refine Go.i_bl_str ?_
  | with_reducible refine Go.i_bl_list ?_
  | with_reducible refine Go.i_bl_tuple ?_
  | with_reducible refine Go.i_str_int ?_
  | with_reducible refine Go.i_str_bool ?_
  | with_reducible refine Go.i_str_str ?_
  | with_reducible refine Go.i_str_list ?_
  | with_reducible refine Go.i_str_tuple ?_
  | with_reducible refine Go.i_non_int ?_
  | with_reducible refine Go.i_non_bool ?_
  | with_reducible refine Go.i_non_str ?_
  | with_reducible refine Go.i_non_list ?_
  | with_reducible refine Go.i_non_tuple ?_
  | ((with_reducible refine' Go.i_lst_int ?hh ?_); (case hh => walk_at "heap"))
  | ((with_reducible refine' Go.i_lst_bool ?hh ?_); (case hh => walk_at "heap"))
  | ((with_reducible refine' Go.i_lst_str ?hh ?_); (case hh => walk_at "heap"))
  | ((with_reducible refine' Go.i_lst_list ?hh ?_); (case hh => walk_at "heap"))
  | ((with_reducible refine' Go.i_lst_tuple ?hh ?_); (case hh => walk_at "heap"))
  | ((with_reducible refine' Go.i_tup_int ?hh ?_); (case hh => walk_at "heap"))
  | ((with_reducible refine' Go.i_tup_bool ?hh ?_); (case hh => walk_at "heap"))
  | ((with_reducible refine' Go.i_tup_str ?hh ?_); (case hh => walk_at "heap"))
  | ((with_reducible refine' Go.i_tup_list ?hh ?_); (case hh => walk_at "heap"))
  | ((with_reducible refine' Go.i_tup_tuple ?hh ?_); (case hh => walk_at "heap"))
  | ((with_reducible refine' Go.i_dK_int ?hh ?_); (case hh => walk_at "heap"))
  | ((with_reducible refine' Go.i_dK_bool ?hh ?_); (case hh => walk_at "heap"))
  | ((with_reducible refine' Go.i_dK_str ?hh ?_); (case hh => walk_at "heap"))
  | ((with_reducible refine' Go.i_dK_list ?hh ?_); (case hh => walk_at "heap"))
  | ((with_reducible refine' Go.i_dK_tuple ?hh ?_); (case hh => walk_at "heap")))
local macro_rules | `(tactic| walk_at "heap") => `(tactic| first | assumption | exact upd_same | (refine Go.keep ?_ (by assumption); walk_at "heap") | (refine Go.get (by assumption) ?_; walk_at "heap"))
local macro_rules | `(tactic| walk_at "s") => `(tactic| first
  | with_reducible refine Go.w_seq ?_
  | with_reducible refine Go.w_asg ?_
  | with_reducible refine Go.w_op ?_
  | ((with_reducible refine' Go.w_var ?hh ?_); (case hh => exact rfl))
  | with_reducible refine Go.w_con ?_
  | with_reducible refine Go.w_I0 ?_
  | ((with_reducible refine Go.w_mulI ?hh ?_); (case hh => first | exact Or.inl ⟨by decide, by decide⟩ | exact Or.inr ⟨by decide, by decide⟩))
  | ((with_reducible refine Go.w_modI ?hh ?_); (case hh => first | decide | omega))
  | ((with_reducible refine Go.w_divI ?hh ?_); (case hh => exact ⟨by decide +kernel, by decide +kernel⟩))
  | ((with_reducible refine Go.w_powI ?hh ?_); (case hh => exact ⟨by decide +kernel, by decide +kernel, by decide +kernel⟩))
  | ((with_reducible refine Go.w_shrI ?hh ?_); (case hh => first | decide | omega))
  | with_reducible refine Go.w_if ?_
  | with_reducible refine Go.w_test ?_
  | with_reducible refine Go.w_tB ?_
  | with_reducible refine Go.w_k ?_
  | with_reducible refine Go.w_call ?_
  | with_reducible refine Go.w_cons ?_
  | with_reducible refine Go.w_nil ?_
  | with_reducible refine Go.w_ret ?_
  | with_reducible refine Go.w_cb ?_
  | with_reducible refine Go.w_tup ?_
  | with_reducible refine Go.w_lst ?_
  | ((with_reducible refine Go.w_eq ?hh ?_); (case hh => exact rfl))
  | ((with_reducible refine Go.w_ne ?hh ?_); (case hh => exact rfl))
  | with_reducible refine Go.w_or ?_
  | with_reducible refine Go.w_and ?_
  | with_reducible refine Go.w_not ?_
  | with_reducible refine Go.w_next ?_
  | with_reducible refine Go.w_drop ?_
  | with_reducible refine Go.w_un ?_
  | with_reducible refine Go.w_U ?_
  | with_reducible refine Go.w_orV ?_
  | with_reducible refine Go.w_andV ?_
  | with_reducible refine Go.w_notV ?_
  | with_reducible refine Go.w_orT ?_
  | with_reducible refine Go.w_andT ?_
  | with_reducible refine Go.w_truI ?_
  | with_reducible refine Go.w_isB ?_
  | with_reducible refine Go.w_notB ?_
  | with_reducible refine Go.w_isN ?_
  | with_reducible refine Go.w_notN ?_
  | with_reducible refine Go.w_chain ?_
  | with_reducible refine Go.w_ifE ?_
  | with_reducible refine Go.w_abs ?_
  | with_reducible refine Go.w_intB ?_
  | with_reducible refine Go.w_sub ?_
  | with_reducible refine Go.w_par ?_
  | with_reducible refine Go.w_sl ?_
  | with_reducible refine Go.w_noPart ?_
  | with_reducible refine Go.w_part ?_
  | with_reducible refine Go.w_partI ?_
  | ((with_reducible refine' Go.w_ixT ?h1 ?h2 ?_); (case h1 => (apply Go.sqT; walk_at "heap")); (case h2 => exact rfl))
  | ((with_reducible refine' Go.w_ixL ?h1 ?h2 ?_); (case h1 => (apply Go.sqL; walk_at "heap")); (case h2 => exact rfl))
  | ((with_reducible refine' Go.w_lenT ?h1 ?_); (case h1 => (apply Go.sqT; walk_at "heap")))
  | ((with_reducible refine' Go.w_lenL ?h1 ?_); (case h1 => (apply Go.sqL; walk_at "heap")))
  | ((with_reducible refine' Go.w_ixsT ?h1 ?h2 ?_); (case h1 => (apply Go.sqT; walk_at "heap")); (case h2 => exact rfl))
  | ((with_reducible refine' Go.w_ixsL ?h1 ?h2 ?_); (case h1 => (apply Go.sqL; walk_at "heap")); (case h2 => exact rfl))
  | with_reducible refine Go.w_bm ?_
  | with_reducible refine Go.w_bm0 ?_
  | ((with_reducible refine' Go.w_tyL ?h1 ?_); (case h1 => walk_at "heap"))
  | with_reducible refine Go.w_tyS ?_
  | with_reducible refine Go.w_min2 ?_
  | with_reducible refine Go.w_max2 ?_
  | with_reducible refine Go.w_bits ?_
  | with_reducible refine Go.w_bitsI ?_
  | with_reducible refine Go.w_gName ?_
  | ((with_reducible refine' Go.w_gTup ?h1 ?h2 ?_); (case h1 => (apply Go.sqT; walk_at "heap")); (case h2 => exact rfl))
  | with_reducible refine Go.w_gCons ?_
  | with_reducible refine Go.w_gNil ?_
  | with_reducible refine Go.w_asgG ?_
  | walk_at "isi"
  | with_reducible refine Go.w_forI ?_
  | with_reducible refine Go.w_iL ?_
  | with_reducible refine Go.w_iT ?_
  | with_reducible refine Go.w_iZT ?_
  | with_reducible refine Go.w_iR1 ?_
  | with_reducible refine Go.w_iR2 ?_
  | with_reducible refine Go.w_lc ?_
  | ((with_reducible refine Go.if_t ?hh ?_); (case hh => exact rfl))
  | ((with_reducible refine Go.if_f ?hh ?_); (case hh => exact rfl)))
local macro_rules | `(tactic| walk_at "go") => `(tactic| repeat (walk_at "s"))

/-! ### promises: pairs -/
def Bits (n : Nat) (i : Int) : Prop := i.natAbs < 2 ^ n
def spDivisor : Sp := fun vs H Q _ => ∃ a b : Int, vs = [.int a, .int b] ∧ 0 ≤ a ∧ 0 ≤ b ∧ Q (.int (Int.gcd a b)) H
def spPair : Sp := fun vs H Q _ => ∃ a b : Int, vs = [.int a, .int b] ∧ b ≠ 0 ∧ Bits 9000 b ∧ ∀ p, H p = none → Q (.ref p) (upd H p (.tup [.int (Mth.pn a b), .int (Mth.pd a b)]))
/-- of a whole number, and of what is none -/
def spWhole (K : PySem.W.Frag) : Sp := fun vs H Q _ => (∃ n : Int, vs = [.int n] ∧ Q (.bl true) H) ∨ (∃ b : Bool, vs = [.bl b] ∧ Q (.bl false) H) ∨ (∃ z : Str, vs = [.str z] ∧ Q (.bl false) H) ∨ (vs = [.non] ∧ Q (.bl false) H) ∨
  (∃ (a : Addr) (xs : List V), vs = [.ref a] ∧ (H a = some (.lst xs) ∨ H a = some (.tup xs)) ∧ Q (.bl false) H) ∨ (∃ (a : Addr) (kvs : List (Key × V)), vs = [.ref a] ∧ H a = some (.dK kvs) ∧ Q (.bl false) H)
/-- of two whole numbers -/
def spIsPair (K : PySem.W.Frag) : Sp := fun vs H Q _ => ∃ (p : Addr) (a b : Int), vs = [.ref p] ∧ H p = some (.tup [.int a, .int b]) ∧ Q (.bl (decide (1 ≤ b) && decide (Int.gcd a b = 1))) H

-- names: 0:thing
abbrev N_is_whole_number : List Str := ["thing"]
def t_is_whole_number (K : PySem.W.Frag) : TS :=
  (tRet (tAndV (tCB (rIsi K) (tCons (tVar 0) (tCons (tC (.ty "int")) tNil))) (tNotV (tCB (rIsi K) (tCons (tVar 0) (tCons (tC (.ty "bool")) tNil))))))

-- names: 0:one 1:other
abbrev N_divisor : List Str := ["one", "other"]
def t_divisor (K : PySem.W.Frag) : TS :=
  (tSeq (tWhile (tTest (tOp rNe (tVar 1) (tC (.int 0)))) (tPar 0 1 (tCons (tVar 1) (tCons (tOp rModI (tVar 0) (tVar 1)) tNil))))
    (tRet (tVar 0)))

-- names: 0:num 1:den 2:most
abbrev N_pair : List Str := ["num", "den", "most"]
def t_pair (K : PySem.W.Frag) : TS :=
  (tSeq (tIfS (tTest (tOp rLtI (tVar 1) (tC (.int 0)))) (tSeq (tAsg (tOp rSubI (tC (.int 0)) (tVar 0)) (gName 0))
      (tAsg (tOp rSubI (tC (.int 0)) (tVar 1)) (gName 1))) tNext)
    (tSeq (tAsg (tCall spDivisor [] E0 (tCons (tCB rAbs (tCons (tVar 0) tNil)) (tCons (tVar 1) tNil))) (gName 2))
    (tRet (tTup (tCons (tOp rDivI (tVar 0) (tVar 2)) (tCons (tOp rDivI (tVar 1) (tVar 2)) tNil))))))

-- names: 0:thing
abbrev N_is_pair : List Str := ["thing"]
def t_is_pair (K : PySem.W.Frag) : TS :=
  (tSeq (tIfS (tOr (tNot (tB (tCB (rIsi K) (tCons (tVar 0) (tCons (tC (.ty "tuple")) tNil))))) (tTest (tOp rNe (tCB (Evl.rLenS K) (tCons (tVar 0) tNil)) (tC (.int 2))))) (tRet (tC (.bl false))) tNext)
    (tSeq (tIfS (tOr (tNot (tB (tCall (spWhole K) [] E0 (tCons (tOp (rIxT K) (tVar 0) (tC (.int 0))) tNil)))) (tOr (tNot (tB (tCall (spWhole K) [] E0 (tCons (tOp (rIxT K) (tVar 0) (tC (.int 1))) tNil)))) (tTest (tOp rLtI (tOp (rIxT K) (tVar 0) (tC (.int 1))) (tC (.int 1)))))) (tRet (tC (.bl false))) tNext)
    (tRet (tOp rEq (tCall spDivisor [] E0 (tCons (tCB rAbs (tCons (tOp (rIxT K) (tVar 0) (tC (.int 0))) tNil)) (tCons (tOp (rIxT K) (tVar 0) (tC (.int 1))) tNil))) (tC (.int 1))))))


theorem divW {i j : Int} (h : 0 < j) (hb : Bits 9000 j) : CDivW i j := wide_div h hb (by decide) (Nat.le_refl _)
theorem p_is_whole_number_len {K : PySem.W.Frag} {vs : List V} {H : Hp} {Q : VK} {E : XK} (h : spWhole K vs H Q E) : vs.length = 1 := by
  rcases h with ⟨n, rfl, _⟩ | ⟨n, rfl, _⟩ | ⟨n, rfl, _⟩ | ⟨rfl, _⟩ | ⟨a, xs, rfl, _⟩ | ⟨a, kvs, rfl, _⟩ <;> rfl
theorem p_is_whole_number {K : PySem.W.Frag} {vs : List V} {H : Hp} {Q : VK} {E : XK} (h : spWhole K vs H Q E) : t_is_whole_number K { nx := fun _ H' => Q .non H', rt := Q } (start N_is_whole_number vs) H := by
  unfold t_is_whole_number
  rcases h with ⟨n, rfl, q⟩ | ⟨n, rfl, q⟩ | ⟨n, rfl, q⟩ | ⟨rfl, q⟩ | ⟨a, xs, rfl, h | h, q⟩ | ⟨a, kvs, rfl, h, q⟩ <;> (walk_at "go"; exact q)
theorem p_divisor_len {vs : List V} {H : Hp} {Q : VK} {E : XK} (h : spDivisor vs H Q E) : vs.length = 2 := by
  obtain ⟨a, b, rfl, _⟩ := h; rfl
theorem p_divisor {K : PySem.W.Frag} {vs : List V} {H : Hp} {Q : VK} {E : XK} (h : spDivisor vs H Q E) : t_divisor K { nx := fun _ H' => Q .non H', rt := Q } (start N_divisor vs) H := by
  obtain ⟨a, b, rfl, ha, hb, q⟩ := h
  unfold t_divisor
  walk_at "go"
  refine w_while (fun (p : Int × Int) => [some (.int p.1), some (.int p.2)]) (fun p H' => H' = H ∧ 0 ≤ p.1 ∧ 0 ≤ p.2 ∧ Int.gcd p.1 p.2 = Int.gcd a b) (fun p => p.2.toNat) (a, b) rfl ⟨rfl, ha, hb, rfl⟩ ?_
  rintro ⟨x, y⟩ H' ⟨rfl, hx, hy, e⟩
  simp only at hx hy e ⊢
  walk_at "go"
  refine if_n2 (fun h => ?_) (fun h => ?_)
  · have hy0 : y ≠ 0 := fun z => h (by rw [z])
    have hy1 : 0 < y := by omega
    refine w_turn ?_
    walk_at "go"
    refine ⟨_, _, rfl, (y, x % y), rfl, ⟨rfl, hy, Int.emod_nonneg _ hy0, ?_⟩, ?_⟩
    · show Int.gcd y (x % y) = Int.gcd a b
      rw [← e, Mth.gcd_step]
    · have := Int.emod_lt_of_pos x hy1
      have := Int.emod_nonneg x hy0
      show (x % y).toNat < y.toNat
      omega
  · have hy0 : y = 0 := V.int.inj h
    subst hy0
    walk_at "go"
    rw [Int.gcd_zero] at e
    have : x = (Int.gcd a b : Int) := by rw [← e]; omega
    rw [this]
    exact q
theorem p_pair_len {vs : List V} {H : Hp} {Q : VK} {E : XK} (h : spPair vs H Q E) : vs.length = 2 := by
  obtain ⟨a, b, rfl, _⟩ := h; rfl
theorem gcdBits {a b : Int} {n : Nat} (h0 : b ≠ 0) (h : Bits n b) : Bits n (Int.gcd a b : Int) := by
  have := Int.gcd_le_natAbs_right a h0
  unfold Bits at h ⊢
  omega
theorem p_pair {K : PySem.W.Frag} {vs : List V} {H : Hp} {Q : VK} {E : XK} (h : spPair vs H Q E) : t_pair K { nx := fun _ H' => Q .non H', rt := Q } (start N_pair vs) H := by
  obtain ⟨a, b, rfl, hb, bb, q⟩ := h
  have hg : 0 < Int.gcd a b := Int.gcd_pos_of_ne_zero_right a hb
  have hB := gcdBits (a := a) hb bb
  unfold t_pair
  walk_at "go"
  refine if_2 (fun h => ?_) (fun h => ?_)
  · walk_at "go"
    refine ⟨_, _, rfl, by omega, by omega, ?_⟩
    have e1 : Int.gcd ((0 - a).natAbs : Int) (0 - b) = Int.gcd a b := by
      unfold Int.gcd; congr 1 <;> omega
    rw [e1]
    walk_at "go"
    refine w_I (divW (by omega) hB) ?_
    walk_at "go"
    refine w_I (divW (by omega) hB) ?_
    walk_at "go"
    refine ⟨by show 2 ≤ sizeLine; decide, fun p hp => ?_⟩
    have e2 : (0 - a) / (Int.gcd a b : Int) = Mth.pn a b := by
      unfold Mth.pn
      rw [Int.sign_eq_neg_one_of_neg h]; congr 1; omega
    have e3 : (0 - b) / (Int.gcd a b : Int) = Mth.pd a b := by
      unfold Mth.pd
      congr 1; omega
    rw [e2, e3]
    exact q p hp
  · walk_at "go"
    refine ⟨_, _, rfl, by omega, by omega, ?_⟩
    have e1 : Int.gcd (a.natAbs : Int) b = Int.gcd a b := by
      unfold Int.gcd; rw [Int.natAbs_natCast]
    rw [e1]
    walk_at "go"
    refine w_I (divW (by omega) hB) ?_
    walk_at "go"
    refine w_I (divW (by omega) hB) ?_
    walk_at "go"
    refine ⟨by show 2 ≤ sizeLine; decide, fun p hp => ?_⟩
    have e2 : a / (Int.gcd a b : Int) = Mth.pn a b := by
      unfold Mth.pn
      rw [Int.sign_eq_one_of_pos (by omega)]; congr 1; omega
    have e3 : b / (Int.gcd a b : Int) = Mth.pd a b := by
      unfold Mth.pd
      congr 1; omega
    rw [e2, e3]
    exact q p hp
theorem p_is_pair_len {K : PySem.W.Frag} {vs : List V} {H : Hp} {Q : VK} {E : XK} (h : spIsPair K vs H Q E) : vs.length = 1 := by
  obtain ⟨a, b, c, rfl, _⟩ := h; rfl
theorem p_is_pair {K : PySem.W.Frag} {vs : List V} {H : Hp} {Q : VK} {E : XK} (h : spIsPair K vs H Q E) : t_is_pair K { nx := fun _ H' => Q .non H', rt := Q } (start N_is_pair vs) H := by
  obtain ⟨p, a, b, rfl, hp, q⟩ := h
  unfold t_is_pair
  walk_at "go"
  refine .inl ⟨_, rfl, ?_⟩
  walk_at "go"
  refine .inl ⟨_, rfl, ?_⟩
  walk_at "go"
  refine if_2 (fun h => ?_) (fun h => ?_)
  · walk_at "go"
    rw [decide_eq_false (by omega)] at q
    exact q
  · rw [decide_eq_true (by omega), Bool.true_and] at q
    walk_at "go"
    refine ⟨_, _, rfl, by omega, by omega, ?_⟩
    walk_at "go"
    have e : decide (V.int ((Int.gcd (a.natAbs : Int) b : Nat) : Int) = V.int 1) = decide (Int.gcd a b = 1) := by
      have e1 : Int.gcd (a.natAbs : Int) b = Int.gcd a b := by
        unfold Int.gcd; rw [Int.natAbs_natCast]
      rw [e1]
      refine decide_eq_decide.mpr ⟨fun h => ?_, fun h => ?_⟩
      · have := V.int.inj h; omega
      · rw [h]; rfl
    rw [e]
    exact q

/-! ### promises: what the law draws by -/
def Src (H : Hp) (l : Addr) : Prop := ∃ a b c : Int, H l = some (.lst [.int a, .int b, .int c])
/-- by a draw the source alone has changed -/
structure Dr (l : Addr) (H H' : Hp) : Prop where
  keep : ∀ p o, p ≠ l → H p = some o → H' p = some o
  src0 : Src H l
  src : Src H' l
theorem Dr.trans {l : Addr} {H H1 H2 : Hp} (a : Dr l H H1) (b : Dr l H1 H2) : Dr l H H2 := ⟨fun p o n h => b.keep p o n (a.keep p o n h), a.src0, b.src⟩
theorem Dr.refl {l : Addr} {H : Hp} (s : Src H l) : Dr l H H := ⟨fun _ _ _ h => h, s, s⟩
theorem Dr.tup {l : Addr} {H H' : Hp} {a : Addr} {xs : List V} (d : Dr l H H') (h : H a = some (.tup xs)) : H' a = some (.tup xs) := by
  obtain ⟨x, y, z, e⟩ := d.src0
  exact d.keep a _ (ne_of h e (by intro z; cases z)) h
theorem Dr.free {l : Addr} {H H' : Hp} {p : Addr} (d : Dr l H H') (h : H' p = none) : H p = none := by
  obtain ⟨x, y, z, e⟩ := d.src
  cases q : H p with
  | none => rfl
  | some o =>
    by_cases n : p = l
    · rw [n, e] at h; cases h
    · rw [d.keep p o n q] at h; cases h
theorem Src.ext {l : Addr} {H H' : Hp} (s : Src H l) (e : Same H H') : Src H' l := by
  obtain ⟨x, y, z, h⟩ := s
  exact ⟨x, y, z, e _ _ h⟩
theorem Dr.same {l : Addr} {H H' : Hp} (s : Src H l) (e : Same H H') : Dr l H H' := ⟨fun p o _ h => e p o h, s, s.ext e⟩
theorem Dr.new {l : Addr} {H H' : Hp} {p : Addr} {o : HO} (d : Dr l H H') (hp : H' p = none) : Dr l H (upd H' p o) := d.trans (Dr.same d.src (same_new hp))
theorem Src.new {l : Addr} {H : Hp} {p : Addr} {o : HO} (s : Src H l) (hp : H p = none) : Src (upd H p o) l := s.ext (same_new hp)
/-- what H0 had stays while a thing that H0 had not is drawn by -/
theorem Dr.same_of {l : Addr} {H0 H H' : Hp} (d : Dr l H H') (s : Same H0 H) (hl : H0 l = none) : Same H0 H' := fun p o h => d.keep p o (ne_of_none h hl) (s p o h)
def spCellAt (K : PySem.W.Frag) : Sp := fun vs H Q _ => ∃ (a : Addr) (ns : List Int) (k : Nat), vs = [.ref a, .int k] ∧ SqL K H a (ns.map V.int) ∧ ∀ n : Int, Q (.int n) H
def spBegin : Sp := fun vs H Q _ => ∃ n : Int, vs = [.int n] ∧ ∀ l H', H l = none → Same H H' → Src H' l → Q (.ref l) H'
def spDraw : Sp := fun vs H Q _ => ∃ (l : Addr) (m : Int), vs = [.ref l, .int m] ∧ Src H l ∧ 0 < m ∧ m.natAbs < 2 ^ 200 ∧ ∀ d H', 0 ≤ d → d < m → Dr l H H' → Q (.int d) H'
def spFar : Sp := fun vs H Q _ => ∃ l : Addr, vs = [.ref l] ∧ Src H l ∧ ∀ n H', Bits 200 n → Dr l H H' → Q (.int n) H'

-- names: 0:_law_script 1:_law_k
abbrev N_l_cell_at : List Str := ["_law_script", "_law_k"]
def t_l_cell_at (K : PySem.W.Frag) : TS :=
  (tSeq (tIfS (tTest (tOp rLtI (tVar 1) (tCB (Evl.rLenS K) (tCons (tVar 0) tNil)))) (tRet (tOp (rIxL K) (tVar 0) (tVar 1))) tNext)
    (tRet (tC (.int 0))))

-- names: 0:_law_cell
abbrev N_l_begin : List Str := ["_law_cell"]
def t_l_begin (K : PySem.W.Frag) : TS :=
  (tRet (tLst (tCons (tOp (rIxL K) (tLst (tCons (tC (.int 0)) (tCons (tVar 0) tNil))) (tCB rInt1 (tCons (tOp rGeI (tVar 0) (tOp rPowI (tC (.int 10)) (tC (.int 18)))) tNil))) (tCons (tOp rModI (tVar 0) (tC (.int 2147483647))) (tCons (tC (.int 0)) tNil)))))

-- names: 0:_law_source 1:_law_most 2:_law_found 3:_law_number
abbrev N_l_draw : List Str := ["_law_source", "_law_most", "_law_found", "_law_number"]
def t_l_draw (K : PySem.W.Frag) : TS :=
  (tSeq (tIfS (tTest (tOp rGtI (tOp (rIxL K) (tVar 0) (tC (.int 0))) (tC (.int 0)))) (tSeq (tAsg (tOp rModI (tOp (rIxL K) (tVar 0) (tC (.int 0))) (tVar 1)) (gName 2))
      (tSeq (tAsg (tOp rDivI (tOp (rIxL K) (tVar 0) (tC (.int 0))) (tVar 1)) (gSub (tVar 0) (tC (.int 0)) rSetL))
      (tRet (tVar 2)))) tNext)
    (tSeq (tAsg (tOp rAddI (tOp (rIxL K) (tVar 0) (tC (.int 2))) (tC (.int 1))) (gSub (tVar 0) (tC (.int 2)) rSetL))
    (tSeq (tAsg (tOp rModI (tOp rMulI (tOp rAddI (tOp rAddI (tOp (rIxL K) (tVar 0) (tC (.int 1))) (tOp rMulI (tC (.int 7919)) (tOp (rIxL K) (tVar 0) (tC (.int 2))))) (tC (.int 1))) (tC (.int 48271))) (tC (.int 2147483647))) (gName 3))
    (tSeq (tAsg (tOp rModI (tOp rMulX (tVar 3) (tOp rAddI (tOp rDivI (tVar 3) (tC (.int 1009))) (tC (.int 69621)))) (tC (.int 2147483647))) (gName 3))
    (tRet (tOp rModI (tOp rModI (tOp rMulX (tVar 3) (tOp rAddI (tOp rDivI (tVar 3) (tC (.int 2003))) (tC (.int 40692)))) (tC (.int 2147483399))) (tVar 1)))))))

-- names: 0:_law_source 1:_law_way 2:_law_small 3:_law_great 4:_law_k 5:_law_twos
abbrev N_l_far : List Str := ["_law_source", "_law_way", "_law_small", "_law_great", "_law_k", "_law_twos"]
def t_l_far (K : PySem.W.Frag) : TS :=
  (tSeq (tAsg (tCall spDraw [] E0 (tCons (tVar 0) (tCons (tC (.int 6)) tNil))) (gName 1))
    (tSeq (tAsg (tOp rSubI (tCall spDraw [] E0 (tCons (tVar 0) (tCons (tC (.int 13)) tNil))) (tC (.int 6))) (gName 2))
    (tSeq (tAsg (tC (.int 0)) (gName 3))
    (tSeq (tFor (iRng1 (tCons (tOp rAddI (tC (.int 1)) (tCall spDraw [] E0 (tCons (tVar 0) (tCons (tC (.int 6)) tNil)))) tNil)) (gName 4) (tAsg (tOp rAddI (tOp rMulX (tVar 3) (tOp rPowI (tC (.int 10)) (tC (.int 10)))) (tCall spDraw [] E0 (tCons (tVar 0) (tCons (tOp rPowI (tC (.int 10)) (tC (.int 10))) tNil)))) (gName 3)))
    (tSeq (tAsg (tOp rSubI (tOp rAddI (tOp rShlI (tC (.int 1)) (tCall spDraw [] E0 (tCons (tVar 0) (tCons (tC (.int 200)) tNil)))) (tCall spDraw [] E0 (tCons (tVar 0) (tCons (tC (.int 3)) tNil)))) (tC (.int 1))) (gName 5))
    (tRet (tOp (rIxL K) (tLst (tCons (tVar 2) (tCons (tVar 2) (tCons (tVar 3) (tCons (tOp rSubI (tC (.int 0)) (tVar 3)) (tCons (tVar 5) (tCons (tOp rSubI (tC (.int 0)) (tVar 5)) tNil))))))) (tVar 1))))))))


theorem p_l_cell_at_len {K : PySem.W.Frag} {vs : List V} {H : Hp} {Q : VK} {E : XK} (h : spCellAt K vs H Q E) : vs.length = 2 := by
  obtain ⟨a, ns, k, rfl, _⟩ := h; rfl
theorem p_l_cell_at {K : PySem.W.Frag} {vs : List V} {H : Hp} {Q : VK} {E : XK} (h : spCellAt K vs H Q E) : t_l_cell_at K { nx := fun _ H' => Q .non H', rt := Q } (start N_l_cell_at vs) H := by
  obtain ⟨a, ns, k, rfl, hS, q⟩ := h
  unfold t_l_cell_at
  walk_at "go"
  refine w_lenL hS ?_
  walk_at "go"
  refine if_2 (fun h => ?_) (fun h => ?_)
  · rw [List.length_map] at h
    have hk : k < ns.length := by omega
    walk_at "go"
    refine w_ixL hS (v := .int ns[k]) (atI_nat (by rw [List.getElem?_map, List.getElem?_eq_getElem hk]; rfl)) ?_
    exact q _
  · walk_at "go"
    exact q _
theorem p_l_begin_len {vs : List V} {H : Hp} {Q : VK} {E : XK} (h : spBegin vs H Q E) : vs.length = 1 := by
  obtain ⟨n, rfl, _⟩ := h; rfl
theorem p_l_begin {K : PySem.W.Frag} {vs : List V} {H : Hp} {Q : VK} {E : XK} (h : spBegin vs H Q E) : t_l_begin K { nx := fun _ H' => Q .non H', rt := Q } (start N_l_begin vs) H := by
  obtain ⟨n, rfl, q⟩ := h
  unfold t_l_begin
  walk_at "go"
  refine ⟨by show 2 ≤ sizeLine; decide, fun p hp => ?_⟩
  walk_at "go"
  have e : atI [V.int 0, V.int n] (if decide ((10 : Int) ^ (18 : Int).toNat ≤ n) = true then 1 else 0) = some (.int (if decide ((10 : Int) ^ (18 : Int).toNat ≤ n) = true then n else 0)) := by
    split <;> rfl
  refine w_ixL (sqL upd_same) e ?_
  walk_at "go"
  refine ⟨by show 3 ≤ sizeLine; decide, fun l hl => ?_⟩
  exact q l _ (free_of hl) (same_in (same_new hp) hl) ⟨_, _, _, upd_same⟩
theorem p_l_draw_len {vs : List V} {H : Hp} {Q : VK} {E : XK} (h : spDraw vs H Q E) : vs.length = 2 := by
  obtain ⟨l, m, rfl, _⟩ := h; rfl
theorem dr_set {l : Addr} {H : Hp} {a b c : Int} (s : Src H l) : Dr l H (upd H l (.lst [.int a, .int b, .int c])) := ⟨fun p o n h => by rw [upd_ne n]; exact h, s, ⟨_, _, _, upd_same⟩⟩
theorem mulS {i j : Int} (h0 : -(2 ^ 64) < i) (h1 : i < 2 ^ 64) (h2 : -(2 ^ 64) < j) (h3 : j < 2 ^ 64) : CMulX i j := by
  have a : i.natAbs < 2 ^ 64 := by omega
  have b : j.natAbs < 2 ^ 64 := by omega
  exact mulx_ok a b (by decide)
theorem p_l_draw {K : PySem.W.Frag} {vs : List V} {H : Hp} {Q : VK} {E : XK} (h : spDraw vs H Q E) : t_l_draw K { nx := fun _ H' => Q .non H', rt := Q } (start N_l_draw vs) H := by
  obtain ⟨l, m, rfl, hs, hm, bm, q⟩ := h
  obtain ⟨a, b, c, hl⟩ := id hs
  unfold t_l_draw
  walk_at "go"
  refine if_2 (fun h => ?_) (fun h => ?_)
  · walk_at "go"
    refine w_I (wide_div hm bm (by decide) (by decide)) ?_
    walk_at "go"
    refine w_setL hl (j := 0) rfl ?_
    walk_at "go"
    exact q _ _ (Int.emod_nonneg _ (by omega)) (Int.emod_lt_of_pos _ hm) (dr_set hs)
  · walk_at "go"
    refine w_setL hl (j := 2) rfl ?_
    walk_at "go"
    have e1 : ∀ n : Int, 0 ≤ n % 2147483647 ∧ n % 2147483647 < 2147483647 := fun n => by omega
    generalize hn1 : (b + 7919 * (c + 1) + 1) * 48271 % 2147483647 = n1
    have b1 := e1 ((b + 7919 * (c + 1) + 1) * 48271)
    rw [hn1] at b1
    have c1 : 0 ≤ n1 / 1009 ∧ n1 / 1009 < 2147483647 := by omega
    refine w_I (mulS (by omega) (by omega) (by omega) (by omega)) ?_
    walk_at "go"
    generalize hn2 : n1 * (n1 / 1009 + 69621) % 2147483647 = n2
    have b2 := e1 (n1 * (n1 / 1009 + 69621))
    rw [hn2] at b2
    have c2 : 0 ≤ n2 / 2003 ∧ n2 / 2003 < 2147483647 := by omega
    refine w_I (mulS (by omega) (by omega) (by omega) (by omega)) ?_
    walk_at "go"
    exact q _ _ (Int.emod_nonneg _ (by omega)) (Int.emod_lt_of_pos _ hm) (dr_set hs)
theorem p_l_far_len {vs : List V} {H : Hp} {Q : VK} {E : XK} (h : spFar vs H Q E) : vs.length = 1 := by
  obtain ⟨l, rfl, _⟩ := h; rfl
theorem far_grow {g d : Int} {i : Nat} (h0 : 0 ≤ g) (h1 : g < 10000000000 ^ i) (hd0 : 0 ≤ d) (hd1 : d < 10000000000) : 0 ≤ g * 10000000000 + d ∧ g * 10000000000 + d < 10000000000 ^ (i + 1) := by
  rw [Int.pow_succ]
  refine ⟨by omega, ?_⟩
  generalize (10000000000 : Int) ^ i = w at *
  omega
theorem far_bound {g : Int} {i : Nat} (h0 : 0 ≤ g) (h1 : g < 10000000000 ^ i) (hi : i ≤ 6) : g < 2 ^ 200 := by
  have : (10000000000 : Int) ^ i ≤ 10000000000 ^ 6 := by
    rcases (by omega : i = 0 ∨ i = 1 ∨ i = 2 ∨ i = 3 ∨ i = 4 ∨ i = 5 ∨ i = 6) with h | h | h | h | h | h | h <;> subst h <;> decide
  have : (10000000000 : Int) ^ 6 < 2 ^ 200 := by decide
  omega
theorem two_pow_le {n : Nat} (h : n < 200) : (2 : Int) ^ n ≤ 2 ^ 199 ∧ 0 < (2 : Int) ^ n := by
  have e := Nat.pow_le_pow_right (n := 2) (by decide) (by omega : n ≤ 199)
  have e1 := PySem.W.kbt_cast n
  have e2 := PySem.W.kbt_cast 199
  have e3 : 0 < (2 : Nat) ^ n := Nat.pow_pos (by decide)
  omega
theorem p_l_far {K : PySem.W.Frag} {vs : List V} {H : Hp} {Q : VK} {E : XK} (h : spFar vs H Q E) : t_l_far K { nx := fun _ H' => Q .non H', rt := Q } (start N_l_far vs) H := by
  obtain ⟨l, rfl, hs, q⟩ := h
  unfold t_l_far
  walk_at "go"
  refine ⟨l, 6, rfl, hs, by decide, by decide, fun way H1 w0 w1 d1 => ?_⟩
  walk_at "go"
  refine ⟨l, 13, rfl, d1.src, by decide, by decide, fun small H2 s0 s1 d2 => ?_⟩
  walk_at "go"
  refine ⟨l, 6, rfl, d2.src, by decide, by decide, fun n H3 n0 n1 d3 => ?_⟩
  walk_at "go"
  have dd3 := (d1.trans d2).trans d3
  refine ⟨_, rfl, by omega, by omega, for_range (lo := 0) (n := (1 + n).toNat) (fun i σ H' => ∃ (g : Int) (k : Option V), σ = [some (.ref l), some (.int way), some (.int (small - 6)), some (.int g), k, none] ∧ 0 ≤ g ∧ g < 10000000000 ^ i ∧ Dr l H H') ⟨0, none, rfl, by decide, by decide, dd3⟩ ?_ ?_⟩
  · rintro i σ H4 hi ⟨g, k, rfl, g0, g1, d4⟩
    have gb := far_bound g0 g1 (by omega)
    walk_at "go"
    refine w_I (mulx_ok (a := 200) (b := 64) (by omega) (by decide +kernel) (by decide)) ?_
    walk_at "go"
    refine ⟨l, _, rfl, d4.src, by decide +kernel, by decide +kernel, fun d H5 e0 e1 d5 => ?_⟩
    walk_at "go"
    have e1' : d < 10000000000 := e1
    have := far_grow g0 g1 e0 e1'
    exact ⟨_, _, rfl, this.1, this.2, d4.trans d5⟩
  · rintro σ H4 ⟨g, k, rfl, g0, g1, d4⟩
    have gb := far_bound g0 g1 (by omega)
    walk_at "go"
    refine ⟨l, 200, rfl, d4.src, by decide, by decide, fun e H5 e0 e1 d5 => ?_⟩
    obtain ⟨en, rfl⟩ := Int.eq_ofNat_of_zero_le e0
    walk_at "go"
    refine w_I (shl_ok (n := 1) (by decide) (by omega)) ?_
    walk_at "go"
    refine ⟨l, 3, rfl, d5.src, by decide, by decide, fun f H6 f0 f1 d6 => ?_⟩
    walk_at "go"
    refine ⟨by show 6 ≤ sizeLine; decide, fun p hp => ?_⟩
    have d7 := ((d4.trans d5).trans d6).new (o := .lst [.int (small - 6), .int (small - 6), .int g, .int (0 - g), .int (1 * 2 ^ (en : Int).toNat + f - 1), .int (0 - (1 * 2 ^ (en : Int).toNat + f - 1))]) hp
    have p1 := two_pow_le (n := en) (by omega)
    have et : (1 : Int) * 2 ^ (en : Int).toNat = 2 ^ en := by rw [Int.one_mul, Int.toNat_natCast]
    rw [et] at d7 ⊢
    have p2 : (2 : Int) ^ 199 < 2 ^ 200 - 10 := by decide
    have p3 : (2 : Int) ^ 200 = ((2 ^ 200 : Nat) : Int) := by decide
    have p4 : (20 : Int) < 2 ^ 200 := by decide
    generalize (2 : Int) ^ en = pw at *
    walk_at "go"
    rcases (by omega : way = 0 ∨ way = 1 ∨ way = 2 ∨ way = 3 ∨ way = 4 ∨ way = 5) with h | h | h | h | h | h <;> subst h <;> refine w_ixL (sqL upd_same) rfl ?_ <;> refine q _ _ ?_ d7 <;> unfold Bits <;> omega
/-! ### the laws' loop over the cells -/
theorem ints_cut {ns : List Int} {lo hi : Option Int} : ∀ x ∈ cutV (ns.map V.int) lo hi, ∃ z, x = V.int z := fun x hx => by
  unfold cutV at hx
  have h1 := List.mem_of_mem_drop (List.mem_of_mem_take hx)
  obtain ⟨z, _, e⟩ := List.mem_map.mp h1
  exact ⟨z, e.symm⟩
theorem w_cells {K : PySem.W.Frag} {H : Hp} {a : Addr} {ns : List Int} {N : Int} {j : Nat} {tb : TS} {D : Ends} {σ : L2.St} (Ok : L2.St → Prop) (h0 : Ok σ) (hσ : σ[0]? = some (some (.ref a))) (hS : SqL K H a (ns.map V.int)) (hlen : ns.length ≤ 63)
    (hs : ∀ z σ' H' (N : L2.St → Hp → Prop), Ok σ' → Same H H' → (∀ σ2 H2, Ok σ2 → Same H' H2 → N σ2 H2) → tb { D with nx := N, ct := N, bk := D.nx } (σ'.set j (some (.int z))) H') (hd : ∀ σ' H', Ok σ' → Same H H' → D.nx σ' H') :
    tFor (iList K (tOp rCat (tLst (tCons (tCall (spCellAt K) [] E0 (tCons (tVar 0) (tCons (tC (.int 0)) tNil))) tNil)) (tSl (rSlL K) (tVar 0) (tPart (tC (.int 1))) (tPart (tC (.int N)))))) (gName j) tb D σ H := by
  refine w_forI (w_iL (w_op (w_lst (w_cons (w_call (w_cons (w_var hσ (w_cons (w_con (w_nil ?_))))))))))
  refine ⟨a, ns, 0, rfl, hS, fun n0 => ?_⟩
  walk_at "go"
  refine ⟨by show 1 ≤ sizeLine; decide, fun L1 hL1 => ?_⟩
  refine w_sl (w_var hσ (w_part (w_con (w_partI (w_part (w_con (w_partI ?_)))))))
  refine w_slL ((same_new hL1).seq hS) fun L2 hL2 => ?_
  have cl := cutV_length (ns.map V.int) (some 1) (some N)
  rw [List.length_map] at cl
  refine w_cat (keep upd_same hL2) upd_same (Nat.le_trans (by rw [List.length_singleton]; omega : _ ≤ 1000) (by decide)) fun L hL => ?_
  have hi : ∀ x ∈ [V.int n0] ++ cutV (ns.map V.int) (some 1) (some N), ∃ z, x = V.int z := fun x hx => by
    rcases List.mem_append.mp hx with h | h
    · exact ⟨n0, by simpa using h⟩
    · exact ints_cut x h
  generalize [V.int n0] ++ cutV (ns.map V.int) (some 1) (some N) = xs at *
  have h1 : (upd (upd (upd H L1 (.lst [.int n0])) L2 (.lst (cutV (ns.map V.int) (some 1) (some N)))) L (.lst xs)) L = some (.lst xs) := upd_same
  have s1 : Same H (upd (upd (upd H L1 (.lst [.int n0])) L2 (.lst (cutV (ns.map V.int) (some 1) (some N)))) L (.lst xs)) := same_in (same_in (same_new hL1) hL2) hL
  generalize upd (upd (upd H L1 (.lst [.int n0])) L2 (.lst (cutV (ns.map V.int) (some 1) (some N)))) L (.lst xs) = H0 at *
  refine ⟨L, rfl, ⟨_, sqL h1⟩, for_list (K := K) (a := L) (xs := xs) (fun i σ H' => Ok σ ∧ Same H0 H') ⟨h0, Same.refl _⟩ (fun i σ H' _ P => sqL (P.2 _ _ h1)) ?_ ?_⟩
  · rintro i x σ1 H1 hx ⟨o1, sm⟩
    obtain ⟨z, rfl⟩ := hi x (List.mem_of_getElem? hx)
    exact hs z σ1 H1 _ o1 (s1.trans sm) fun σ2 H2 o2 s2 => ⟨o2, sm.trans s2⟩
  · rintro σ1 H1 ⟨o1, sm⟩
    exact hd σ1 H1 o1 (s1.trans sm)

/-! ### promises: pairs as rationals -/
abbrev rt (x : Rat) : HO := .tup [.int x.num, .int (x.den : Int)]
def RB (n : Nat) (x : Rat) : Prop := Bits n x.num ∧ x.den < 2 ^ n
def spPlus : Sp := fun vs H Q _ => ∃ (p r : Addr) (x y : Rat), vs = [.ref p, .ref r] ∧ H p = some (rt x) ∧ H r = some (rt y) ∧ RB 2000 x ∧ RB 2000 y ∧ ∀ s, H s = none → Q (.ref s) (upd H s (rt (x + y)))
def spLess : Sp := fun vs H Q _ => ∃ (p r : Addr) (x y : Rat), vs = [.ref p, .ref r] ∧ H p = some (rt x) ∧ H r = some (rt y) ∧ RB 2000 x ∧ RB 2000 y ∧ ∀ s, H s = none → Q (.ref s) (upd H s (rt (x - y)))
def spTimes : Sp := fun vs H Q _ => ∃ (p r : Addr) (x y : Rat), vs = [.ref p, .ref r] ∧ H p = some (rt x) ∧ H r = some (rt y) ∧ RB 2000 x ∧ RB 2000 y ∧ ∀ s, H s = none → Q (.ref s) (upd H s (rt (x * y)))
def spBelow : Sp := fun vs H Q _ => ∃ (p r : Addr) (x y : Rat), vs = [.ref p, .ref r] ∧ H p = some (rt x) ∧ H r = some (rt y) ∧ RB 2000 x ∧ RB 2000 y ∧ Q (.bl (decide (x < y))) H
/-- the nearest whole number, of two alike near the greater -/
def near (x : Rat) : Int := (2 * x.num + x.den) / (2 * x.den)
def spNearest : Sp := fun vs H Q _ => ∃ (p : Addr) (x : Rat), vs = [.ref p] ∧ H p = some (rt x) ∧ RB 2000 x ∧ Q (.int (near x)) H

-- names: 0:one 1:other
abbrev N_plus : List Str := ["one", "other"]
def t_plus (K : PySem.W.Frag) : TS :=
  (tRet (tCall spPair [] E0 (tCons (tOp rAddI (tOp rMulX (tOp (rIxT K) (tVar 0) (tC (.int 0))) (tOp (rIxT K) (tVar 1) (tC (.int 1)))) (tOp rMulX (tOp (rIxT K) (tVar 1) (tC (.int 0))) (tOp (rIxT K) (tVar 0) (tC (.int 1))))) (tCons (tOp rMulX (tOp (rIxT K) (tVar 0) (tC (.int 1))) (tOp (rIxT K) (tVar 1) (tC (.int 1)))) tNil))))

-- names: 0:one 1:other
abbrev N_less : List Str := ["one", "other"]
def t_less (K : PySem.W.Frag) : TS :=
  (tRet (tCall spPair [] E0 (tCons (tOp rSubI (tOp rMulX (tOp (rIxT K) (tVar 0) (tC (.int 0))) (tOp (rIxT K) (tVar 1) (tC (.int 1)))) (tOp rMulX (tOp (rIxT K) (tVar 1) (tC (.int 0))) (tOp (rIxT K) (tVar 0) (tC (.int 1))))) (tCons (tOp rMulX (tOp (rIxT K) (tVar 0) (tC (.int 1))) (tOp (rIxT K) (tVar 1) (tC (.int 1)))) tNil))))

-- names: 0:one 1:other
abbrev N_times : List Str := ["one", "other"]
def t_times (K : PySem.W.Frag) : TS :=
  (tRet (tCall spPair [] E0 (tCons (tOp rMulX (tOp (rIxT K) (tVar 0) (tC (.int 0))) (tOp (rIxT K) (tVar 1) (tC (.int 0)))) (tCons (tOp rMulX (tOp (rIxT K) (tVar 0) (tC (.int 1))) (tOp (rIxT K) (tVar 1) (tC (.int 1)))) tNil))))

-- names: 0:one 1:other
abbrev N_below : List Str := ["one", "other"]
def t_below (K : PySem.W.Frag) : TS :=
  (tRet (tOp rLtI (tOp rMulX (tOp (rIxT K) (tVar 0) (tC (.int 0))) (tOp (rIxT K) (tVar 1) (tC (.int 1)))) (tOp rMulX (tOp (rIxT K) (tVar 1) (tC (.int 0))) (tOp (rIxT K) (tVar 0) (tC (.int 1))))))

-- names: 0:one
abbrev N_nearest : List Str := ["one"]
def t_nearest (K : PySem.W.Frag) : TS :=
  (tRet (tOp rDivI (tOp rAddI (tOp rMulI (tC (.int 2)) (tOp (rIxT K) (tVar 0) (tC (.int 0)))) (tOp (rIxT K) (tVar 0) (tC (.int 1)))) (tOp rMulI (tC (.int 2)) (tOp (rIxT K) (tVar 0) (tC (.int 1))))))


theorem pn_rat (a b : Int) : Mth.pn a b = (Rat.divInt a b).num := by
  rw [Rat.num_divInt, Int.gcd_comm]; rfl
theorem pd_rat {a b : Int} (hb : b ≠ 0) : Mth.pd a b = ((Rat.divInt a b).den : Int) := by
  rw [Rat.den_divInt, if_neg hb, Int.gcd_comm, Int.natCast_ediv]; rfl
theorem Bits.mono {m n : Nat} {i : Int} (h : Bits m i) (hn : m ≤ n) : Bits n i := Nat.lt_of_lt_of_le h (Nat.pow_le_pow_right (by decide) hn)
theorem Bits.le {n : Nat} {i j : Int} (h : Bits n j) (hn : i.natAbs ≤ j.natAbs) : Bits n i := Nat.lt_of_le_of_lt hn h
theorem Bits.mul {m n : Nat} {i j : Int} (h : Bits m i) (h' : Bits n j) : Bits (m + n) (i * j) := wide_lt h h'
theorem Bits.add {n : Nat} {i j : Int} (h : Bits n i) (h' : Bits n j) : Bits (n + 1) (i + j) := by
  unfold Bits at *
  rw [Nat.pow_succ]
  omega
theorem Bits.sub {n : Nat} {i j : Int} (h : Bits n i) (h' : Bits n j) : Bits (n + 1) (i - j) := by
  unfold Bits at *
  rw [Nat.pow_succ]
  omega
theorem RB.mono {m n : Nat} {x : Rat} (h : RB m x) (hn : m ≤ n) : RB n x := ⟨h.1.mono hn, Nat.lt_of_lt_of_le h.2 (Nat.pow_le_pow_right (by decide) hn)⟩
theorem RB.den {n : Nat} {x : Rat} (h : RB n x) : Bits n (x.den : Int) := by
  have := h.2
  unfold Bits
  omega
theorem rb_div {n : Nat} {a b : Int} (hb : b ≠ 0) (ha : Bits n a) (h : Bits n b) : RB n (Rat.divInt a b) := by
  have h1 := Mth.pn_le (a := a) hb
  have h2 := Mth.pd_le (a := a) hb
  rw [pn_rat] at h1
  rw [pd_rat hb] at h2
  exact ⟨ha.le h1, by unfold Bits at h; omega⟩
theorem den_ne (x : Rat) : (x.den : Int) ≠ 0 := by have := x.den_nz; omega
theorem den_pos (x : Rat) : 0 < (x.den : Int) := by have := x.den_nz; omega
theorem den_mul_ne (x y : Rat) : (x.den : Int) * (y.den : Int) ≠ 0 := Int.mul_ne_zero (den_ne x) (den_ne y)
theorem add_rat (x y : Rat) : Rat.divInt (x.num * y.den + y.num * x.den) (x.den * y.den) = x + y := by
  rw [Rat.add_def', ← Rat.divInt_ofNat, Int.natCast_mul]
theorem sub_rat (x y : Rat) : Rat.divInt (x.num * y.den - y.num * x.den) (x.den * y.den) = x - y := by
  rw [Rat.sub_def', ← Rat.divInt_ofNat, Int.natCast_mul]
theorem mul_rat (x y : Rat) : Rat.divInt (x.num * y.num) (x.den * y.den) = x * y := by
  rw [Rat.mul_def', ← Rat.divInt_ofNat, Int.natCast_mul]
theorem rb_add {n : Nat} {x y : Rat} (hx : RB n x) (hy : RB n y) : RB (n + n + 1) (x + y) := by
  rw [← add_rat]
  exact rb_div (den_mul_ne x y) (Bits.add (hx.1.mul hy.den) (hy.1.mul hx.den)) ((hx.den.mul hy.den).mono (by omega))
theorem rb_sub {n : Nat} {x y : Rat} (hx : RB n x) (hy : RB n y) : RB (n + n + 1) (x - y) := by
  rw [← sub_rat]
  exact rb_div (den_mul_ne x y) (Bits.sub (hx.1.mul hy.den) (hy.1.mul hx.den)) ((hx.den.mul hy.den).mono (by omega))
theorem rb_mul {n : Nat} {x y : Rat} (hx : RB n x) (hy : RB n y) : RB (n + n) (x * y) := by
  rw [← mul_rat]
  exact rb_div (den_mul_ne x y) (hx.1.mul hy.1) (hx.den.mul hy.den)
theorem p_plus_len {vs : List V} {H : Hp} {Q : VK} {E : XK} (h : spPlus vs H Q E) : vs.length = 2 := by
  obtain ⟨p, r, x, y, rfl, _⟩ := h; rfl
theorem p_less_len {vs : List V} {H : Hp} {Q : VK} {E : XK} (h : spLess vs H Q E) : vs.length = 2 := by
  obtain ⟨p, r, x, y, rfl, _⟩ := h; rfl
theorem p_times_len {vs : List V} {H : Hp} {Q : VK} {E : XK} (h : spTimes vs H Q E) : vs.length = 2 := by
  obtain ⟨p, r, x, y, rfl, _⟩ := h; rfl
theorem p_below_len {vs : List V} {H : Hp} {Q : VK} {E : XK} (h : spBelow vs H Q E) : vs.length = 2 := by
  obtain ⟨p, r, x, y, rfl, _⟩ := h; rfl
theorem p_nearest_len {vs : List V} {H : Hp} {Q : VK} {E : XK} (h : spNearest vs H Q E) : vs.length = 1 := by
  obtain ⟨p, x, rfl, _⟩ := h; rfl
theorem mulB {m n : Nat} {i j : Int} (h : Bits m i) (h' : Bits n j) (hn : m + n ≤ 134217728) : CMulX i j := mulx_ok h h' hn
theorem p_plus {K : PySem.W.Frag} {vs : List V} {H : Hp} {Q : VK} {E : XK} (h : spPlus vs H Q E) : t_plus K { nx := fun _ H' => Q .non H', rt := Q } (start N_plus vs) H := by
  obtain ⟨p, r, x, y, rfl, hp, hr, bx, bY, q⟩ := h
  unfold t_plus
  walk_at "go"
  refine w_mulX (mulB bx.1 bY.den (by decide)) ?_
  walk_at "go"
  refine w_mulX (mulB bY.1 bx.den (by decide)) ?_
  walk_at "go"
  refine w_mulX (mulB bx.den bY.den (by decide)) ?_
  walk_at "go"
  refine ⟨_, _, rfl, den_mul_ne x y, (bx.den.mul bY.den).mono (by decide), fun s hs => ?_⟩
  rw [pn_rat, pd_rat (den_mul_ne x y), add_rat]
  exact q s hs
theorem p_less {K : PySem.W.Frag} {vs : List V} {H : Hp} {Q : VK} {E : XK} (h : spLess vs H Q E) : t_less K { nx := fun _ H' => Q .non H', rt := Q } (start N_less vs) H := by
  obtain ⟨p, r, x, y, rfl, hp, hr, bx, bY, q⟩ := h
  unfold t_less
  walk_at "go"
  refine w_mulX (mulB bx.1 bY.den (by decide)) ?_
  walk_at "go"
  refine w_mulX (mulB bY.1 bx.den (by decide)) ?_
  walk_at "go"
  refine w_mulX (mulB bx.den bY.den (by decide)) ?_
  walk_at "go"
  refine ⟨_, _, rfl, den_mul_ne x y, (bx.den.mul bY.den).mono (by decide), fun s hs => ?_⟩
  rw [pn_rat, pd_rat (den_mul_ne x y), sub_rat]
  exact q s hs
theorem p_times {K : PySem.W.Frag} {vs : List V} {H : Hp} {Q : VK} {E : XK} (h : spTimes vs H Q E) : t_times K { nx := fun _ H' => Q .non H', rt := Q } (start N_times vs) H := by
  obtain ⟨p, r, x, y, rfl, hp, hr, bx, bY, q⟩ := h
  unfold t_times
  walk_at "go"
  refine w_mulX (mulB bx.1 bY.1 (by decide)) ?_
  walk_at "go"
  refine w_mulX (mulB bx.den bY.den (by decide)) ?_
  walk_at "go"
  refine ⟨_, _, rfl, den_mul_ne x y, (bx.den.mul bY.den).mono (by decide), fun s hs => ?_⟩
  rw [pn_rat, pd_rat (den_mul_ne x y), mul_rat]
  exact q s hs
theorem p_below {K : PySem.W.Frag} {vs : List V} {H : Hp} {Q : VK} {E : XK} (h : spBelow vs H Q E) : t_below K { nx := fun _ H' => Q .non H', rt := Q } (start N_below vs) H := by
  obtain ⟨p, r, x, y, rfl, hp, hr, bx, bY, q⟩ := h
  unfold t_below
  walk_at "go"
  refine w_mulX (mulB bx.1 bY.den (by decide)) ?_
  walk_at "go"
  refine w_mulX (mulB bY.1 bx.den (by decide)) ?_
  walk_at "go"
  have e : decide (x.num * (y.den : Int) < y.num * (x.den : Int)) = decide (x < y) := decide_eq_decide.mpr (Rat.lt_iff x y).symm
  rw [e]
  exact q
theorem p_nearest {K : PySem.W.Frag} {vs : List V} {H : Hp} {Q : VK} {E : XK} (h : spNearest vs H Q E) : t_nearest K { nx := fun _ H' => Q .non H', rt := Q } (start N_nearest vs) H := by
  obtain ⟨p, x, rfl, hp, bx, q⟩ := h
  unfold t_nearest
  walk_at "go"
  refine w_divI (divW (by have := den_pos x; omega) ?_) ?_
  · have h := (show Bits 2 2 by unfold Bits; decide).mul bx.den
    exact h.mono (by decide)
  · exact q
/-! ### expressions that give such pairs -/
def RE (te : TE) (σ : L2.St) (H : Hp) (x : Rat) : Prop := ∀ H1, Same H H1 → ∀ Q : VK, (∀ p H2, Same H1 H2 → H2 p = some (rt x) → Q (.ref p) H2) → te σ H1 Q
section
variable {K : PySem.W.Frag} {σ : L2.St} {H : Hp} {ta tb : TE} {x y : Rat}
theorem re_var {i : Nat} {p : Addr} (h : σ[i]? = some (some (.ref p))) (hp : H p = some (rt x)) : RE (tVar i) σ H x := fun H1 s _ q => ⟨_, h, q p H1 (Same.refl _) (s _ _ hp)⟩
theorem re_call {sp : Sp} {z : Rat} (ha : RE ta σ H x) (hb : RE tb σ H y) (h : ∀ H1 p r (Q : VK), H1 p = some (rt x) → H1 r = some (rt y) → (∀ s, H1 s = none → Q (.ref s) (upd H1 s (rt z))) → sp [.ref p, .ref r] H1 Q E0) :
    RE (tCall sp [] E0 (tCons ta (tCons tb tNil))) σ H z := fun H1 s Q q => by
  refine w_call (w_cons (ha H1 s _ fun p H2 s2 hp => w_cons (hb H2 (s.trans s2) _ fun r H3 s3 hr => w_nil ?_)))
  exact h H3 p r Q (s3 _ _ hp) hr fun t ht => q t _ ((s2.trans s3).trans (same_new ht)) upd_same
theorem re_plus (ha : RE ta σ H x) (hb : RE tb σ H y) (bx : RB 2000 x) (bY : RB 2000 y) : RE (tCall spPlus [] E0 (tCons ta (tCons tb tNil))) σ H (x + y) := re_call ha hb fun H1 p r Q hp hr k => ⟨p, r, x, y, rfl, hp, hr, bx, bY, k⟩
theorem re_less (ha : RE ta σ H x) (hb : RE tb σ H y) (bx : RB 2000 x) (bY : RB 2000 y) : RE (tCall spLess [] E0 (tCons ta (tCons tb tNil))) σ H (x - y) := re_call ha hb fun H1 p r Q hp hr k => ⟨p, r, x, y, rfl, hp, hr, bx, bY, k⟩
theorem re_times (ha : RE ta σ H x) (hb : RE tb σ H y) (bx : RB 2000 x) (bY : RB 2000 y) : RE (tCall spTimes [] E0 (tCons ta (tCons tb tNil))) σ H (x * y) := re_call ha hb fun H1 p r Q hp hr k => ⟨p, r, x, y, rfl, hp, hr, bx, bY, k⟩
theorem re_lit {n d : Int} (h1 : x.num = n) (h2 : (x.den : Int) = d) : RE (tTup (tCons (tC (.int n)) (tCons (tC (.int d)) tNil))) σ H x := fun H1 s Q q => by
  refine w_tup (w_cons (w_con (w_cons (w_con (w_nil ⟨by show 2 ≤ sizeLine; decide, fun p hp => ?_⟩)))))
  subst h1 h2
  exact q p _ (same_new hp) upd_same
theorem ev_below (ha : RE ta σ H x) (hb : RE tb σ H y) (bx : RB 2000 x) (bY : RB 2000 y) : Evl.Ev (tCall spBelow [] E0 (tCons ta (tCons tb tNil))) σ H (.bl (decide (x < y))) := fun H1 s Q q => by
  refine w_call (w_cons (ha H1 s _ fun p H2 s2 hp => w_cons (hb H2 (Same.trans s s2) _ fun r H3 s3 hr => w_nil ?_)))
  exact ⟨p, r, x, y, rfl, s3 _ _ hp, hr, bx, bY, q H3 (Same.trans s2 s3)⟩
theorem eqv_rat : PyData.eqv (.tuple [.int x.num, .int (x.den : Int)]) (.tuple [.int y.num, .int (y.den : Int)]) = decide (x = y) := by
  rw [eqv_pair]
  by_cases h : x = y
  · subst h; simp
  · rw [decide_eq_false h]
    by_cases hn : x.num = y.num
    · have hd : ¬ (x.den : Int) = (y.den : Int) := fun e => h (Rat.ext hn (by omega))
      rw [decide_eq_false hd, Bool.and_false]
    · rw [decide_eq_false hn, Bool.false_and]
theorem et_ne (ha : RE ta σ H x) (hb : RE tb σ H y) : Evl.EvT (tTest (tOp (rNeD K) ta tb)) σ H (!decide (x = y)) := fun H1 s Q q => by
  refine w_test (w_op (ha H1 s _ fun p H2 s2 hp => hb H2 (Same.trans s s2) _ fun r H3 s3 hr => ?_))
  refine w_neD (dpP (s3 _ _ hp)) (dpP hr) rfl rfl ?_
  rw [eqv_rat]
  exact ⟨_, rfl, q H3 (Same.trans s2 s3)⟩
theorem et_ne_f (ha : RE ta σ H x) (hb : RE tb σ H y) (e : x = y) : Evl.EvT (tTest (tOp (rNeD K) ta tb)) σ H false := by
  have h := et_ne (K := K) ha hb
  rw [decide_eq_true e] at h
  exact h
theorem et_or_ff {t u : TT} (h1 : Evl.EvT t σ H false) (h2 : Evl.EvT u σ H false) : Evl.EvT (tOr t u) σ H false := Evl.et_or h1 fun _ => h2
theorem q_pass {t : TT} {tu tz : TS} {D : Ends} (h : Evl.EvT t σ H false) (k : ∀ H1, Same H H1 → tz D σ H1) : tSeq (tIfS t tu tNext) tz D σ H := Evl.q_when h (fun z => by cases z) fun _ => k
end

/-! ### promises: parts -/
abbrev pt (x : Int × Nat) : HO := .tup [.int x.1, .int (x.2 : Int)]
def PB (n : Nat) (x : Int × Nat) : Prop := Bits n x.1 ∧ x.2 ≤ n
def pplus (x y : Int × Nat) : Int × Nat := Mth.prt (x.1 * 2 ^ y.2 + y.1 * 2 ^ x.2) (x.2 + y.2)
def pless (x y : Int × Nat) : Int × Nat := Mth.prt (x.1 * 2 ^ y.2 - y.1 * 2 ^ x.2) (x.2 + y.2)
def spPart : Sp := fun vs H Q _ => ∃ (n : Int) (e : Nat), vs = [.int n, .int (e : Int)] ∧ ∀ p, H p = none → Q (.ref p) (upd H p (pt (Mth.prt n e)))
def spIsPart (K : PySem.W.Frag) : Sp := fun vs H Q _ => ∃ (p : Addr) (a b : Int), vs = [.ref p] ∧ H p = some (.tup [.int a, .int b]) ∧ Q (.bl (decide (0 ≤ b) && (decide (b = 0) || decide (a % 2 = 1)))) H
def spPartPlus : Sp := fun vs H Q _ => ∃ (p r : Addr) (x y : Int × Nat), vs = [.ref p, .ref r] ∧ H p = some (pt x) ∧ H r = some (pt y) ∧ PB 1000000 x ∧ PB 1000000 y ∧ ∀ s, H s = none → Q (.ref s) (upd H s (pt (pplus x y)))
def spPartLess : Sp := fun vs H Q _ => ∃ (p r : Addr) (x y : Int × Nat), vs = [.ref p, .ref r] ∧ H p = some (pt x) ∧ H r = some (pt y) ∧ PB 1000000 x ∧ PB 1000000 y ∧ ∀ s H', Same H H' → H s = none → H' s = some (pt (pless x y)) → Q (.ref s) H'
def spPartOver : Sp := fun vs H Q _ => ∃ (p r : Addr) (x y : Int × Nat), vs = [.ref p, .ref r] ∧ H p = some (pt x) ∧ H r = some (pt y) ∧ PB 2000 x ∧ PB 2000 y ∧ y.1 ≠ 0 ∧ ∀ s, H s = none → Q (.ref s) (upd H s (.tup [.int (Rat.divInt (x.1 * 2 ^ y.2) (y.1 * 2 ^ x.2)).num, .int ((Rat.divInt (x.1 * 2 ^ y.2) (y.1 * 2 ^ x.2)).den : Int)]))
def spHalvings : Sp := fun vs H Q _ => ∃ n : Nat, vs = [.int (n : Int)] ∧ Q (.int ((Builtin.Int.intBits (n : Int) : Nat) : Int)) H

-- names: 0:num 1:e 2:twos
abbrev N_part : List Str := ["num", "e", "twos"]
def t_part (K : PySem.W.Frag) : TS :=
  (tSeq (tIfS (tTest (tOp rEq (tVar 0) (tC (.int 0)))) (tRet (tTup (tCons (tC (.int 0)) (tCons (tC (.int 0)) tNil)))) tNext)
    (tSeq (tAsg (tCB rMin2 (tCons (tVar 1) (tCons (tOp rSubI (tBits (tOp rAndI (tVar 0) (tOp rSubI (tC (.int 0)) (tVar 0)))) (tC (.int 1))) tNil))) (gName 2))
    (tRet (tTup (tCons (tOp rShrI (tVar 0) (tVar 2)) (tCons (tOp rSubI (tVar 1) (tVar 2)) tNil))))))

-- names: 0:thing
abbrev N_is_part : List Str := ["thing"]
def t_is_part (K : PySem.W.Frag) : TS :=
  (tSeq (tIfS (tOr (tNot (tB (tCB (rIsi K) (tCons (tVar 0) (tCons (tC (.ty "tuple")) tNil))))) (tTest (tOp rNe (tCB (Evl.rLenS K) (tCons (tVar 0) tNil)) (tC (.int 2))))) (tRet (tC (.bl false))) tNext)
    (tSeq (tIfS (tOr (tNot (tB (tCall (spWhole K) [] E0 (tCons (tOp (rIxT K) (tVar 0) (tC (.int 0))) tNil)))) (tOr (tNot (tB (tCall (spWhole K) [] E0 (tCons (tOp (rIxT K) (tVar 0) (tC (.int 1))) tNil)))) (tTest (tOp rLtI (tOp (rIxT K) (tVar 0) (tC (.int 1))) (tC (.int 0)))))) (tRet (tC (.bl false))) tNext)
    (tRet (tOrV (tOp rEq (tOp (rIxT K) (tVar 0) (tC (.int 1))) (tC (.int 0))) (tOp rEq (tOp rModI (tOp (rIxT K) (tVar 0) (tC (.int 0))) (tC (.int 2))) (tC (.int 1)))))))

-- names: 0:one 1:other 2:e
abbrev N_part_plus : List Str := ["one", "other", "e"]
def t_part_plus (K : PySem.W.Frag) : TS :=
  (tSeq (tAsg (tCB Evl.rMax2 (tCons (tOp (rIxT K) (tVar 0) (tC (.int 1))) (tCons (tOp (rIxT K) (tVar 1) (tC (.int 1))) tNil))) (gName 2))
    (tRet (tCall spPart [] E0 (tCons (tOp rAddI (tOp rShlI (tOp (rIxT K) (tVar 0) (tC (.int 0))) (tOp rSubI (tVar 2) (tOp (rIxT K) (tVar 0) (tC (.int 1))))) (tOp rShlI (tOp (rIxT K) (tVar 1) (tC (.int 0))) (tOp rSubI (tVar 2) (tOp (rIxT K) (tVar 1) (tC (.int 1)))))) (tCons (tVar 2) tNil)))))

-- names: 0:one 1:other
abbrev N_part_less : List Str := ["one", "other"]
def t_part_less (K : PySem.W.Frag) : TS :=
  (tRet (tCall spPartPlus [] E0 (tCons (tVar 0) (tCons (tTup (tCons (tOp rSubI (tC (.int 0)) (tOp (rIxT K) (tVar 1) (tC (.int 0)))) (tCons (tOp (rIxT K) (tVar 1) (tC (.int 1))) tNil))) tNil))))

-- names: 0:one 1:other
abbrev N_part_over : List Str := ["one", "other"]
def t_part_over (K : PySem.W.Frag) : TS :=
  (tRet (tCall spPair [] E0 (tCons (tOp rShlI (tOp (rIxT K) (tVar 0) (tC (.int 0))) (tOp (rIxT K) (tVar 1) (tC (.int 1)))) (tCons (tOp rShlI (tOp (rIxT K) (tVar 1) (tC (.int 0))) (tOp (rIxT K) (tVar 0) (tC (.int 1)))) tNil))))

-- names: 0:many
abbrev N_halvings : List Str := ["many"]
def t_halvings (K : PySem.W.Frag) : TS :=
  (tRet (tBits (tVar 0)))


theorem p_part_len {vs : List V} {H : Hp} {Q : VK} {E : XK} (h : spPart vs H Q E) : vs.length = 2 := by
  obtain ⟨n, e, rfl, _⟩ := h; rfl
theorem odd_of (n : Int) (h : n ≠ 0) : ∃ (v : Nat) (m : Int), n = m * 2 ^ v ∧ ¬ m % 2 = 0 := Mth.odd_ex (n.natAbs + 1) n h (Nat.lt_of_lt_of_le (Nat.lt_two_pow_self) (Nat.pow_le_pow_right (by decide) (Nat.le_succ _)))
theorem p_part {K : PySem.W.Frag} {vs : List V} {H : Hp} {Q : VK} {E : XK} (h : spPart vs H Q E) : t_part K { nx := fun _ H' => Q .non H', rt := Q } (start N_part vs) H := by
  obtain ⟨n, e, rfl, q⟩ := h
  unfold t_part
  walk_at "go"
  refine if_2 (fun h => ?_) (fun h => ?_)
  · have h0 : n = 0 := V.int.inj h
    subst h0
    walk_at "go"
    refine ⟨by show 2 ≤ sizeLine; decide, fun p hp => ?_⟩
    rw [Mth.prt_zero] at q
    exact q p hp
  · have h0 : n ≠ 0 := fun z => h (by rw [z])
    obtain ⟨v, m, rfl, hm⟩ := odd_of n h0
    walk_at "go"
    rw [Mth.low_bit hm, Mth.low_bits]
    have e1 : (if (v : Int) < (e : Int) then (v : Int) else (e : Int)) = ((min e v : Nat) : Int) := by split <;> omega
    rw [e1]
    have e2 := Mth.prt_by hm v e
    walk_at "go"
    refine ⟨by show 2 ≤ sizeLine; decide, fun p hp => ?_⟩
    have e3 : (e : Int) - ((min e v : Nat) : Int) = ((e - min e v : Nat) : Int) := by omega
    rw [Int.toNat_natCast, e3]
    have := q p hp
    rw [e2] at this
    exact this
theorem p_is_part_len {K : PySem.W.Frag} {vs : List V} {H : Hp} {Q : VK} {E : XK} (h : spIsPart K vs H Q E) : vs.length = 1 := by
  obtain ⟨a, b, c, rfl, _⟩ := h; rfl
theorem dec_int1 {i j : Int} : decide (V.int i = V.int j) = decide (i = j) := decide_eq_decide.mpr Go.V.int_inj
theorem p_is_part {K : PySem.W.Frag} {vs : List V} {H : Hp} {Q : VK} {E : XK} (h : spIsPart K vs H Q E) : t_is_part K { nx := fun _ H' => Q .non H', rt := Q } (start N_is_part vs) H := by
  obtain ⟨p, a, b, rfl, hp, q⟩ := h
  unfold t_is_part
  walk_at "go"
  refine .inl ⟨_, rfl, ?_⟩
  walk_at "go"
  refine .inl ⟨_, rfl, ?_⟩
  walk_at "go"
  refine if_2 (fun h => ?_) (fun h => ?_)
  · walk_at "go"
    rw [decide_eq_false (by omega)] at q
    exact q
  · rw [decide_eq_true (by omega), Bool.true_and] at q
    walk_at "go"
    rw [dec_int1]
    refine if_2 (fun h => ?_) (fun h => ?_)
    · rw [decide_eq_true h] at q
      exact q
    · rw [decide_eq_false h] at q
      walk_at "go"
      rw [dec_int1]
      exact q
theorem p_part_plus_len {vs : List V} {H : Hp} {Q : VK} {E : XK} (h : spPartPlus vs H Q E) : vs.length = 2 := by
  obtain ⟨p, r, x, y, rfl, _⟩ := h; rfl
theorem p_part_less_len {vs : List V} {H : Hp} {Q : VK} {E : XK} (h : spPartLess vs H Q E) : vs.length = 2 := by
  obtain ⟨p, r, x, y, rfl, _⟩ := h; rfl
theorem p_part_over_len {vs : List V} {H : Hp} {Q : VK} {E : XK} (h : spPartOver vs H Q E) : vs.length = 2 := by
  obtain ⟨p, r, x, y, rfl, _⟩ := h; rfl
theorem p_halvings_len {vs : List V} {H : Hp} {Q : VK} {E : XK} (h : spHalvings vs H Q E) : vs.length = 1 := by
  obtain ⟨n, rfl, _⟩ := h; rfl
theorem shlB {i : Int} {j n : Nat} (h : Bits n i) (hn : n + j ≤ 134217728) : CShl i (j : Int) := shl_ok h hn
theorem p_part_plus {K : PySem.W.Frag} {vs : List V} {H : Hp} {Q : VK} {E : XK} (h : spPartPlus vs H Q E) : t_part_plus K { nx := fun _ H' => Q .non H', rt := Q } (start N_part_plus vs) H := by
  obtain ⟨p, r, ⟨a, m⟩, ⟨b, n⟩, rfl, hp, hr, bx, bY, q⟩ := h
  obtain ⟨ba, bm⟩ := bx
  obtain ⟨bb, bn⟩ := bY
  dsimp only at ba bm bb bn
  have key : ∀ E' : Nat, E' = max m n → pplus (a, m) (b, n) = Mth.prt (a * 2 ^ (E' - m) + b * 2 ^ (E' - n)) E' := fun E' hE => by
    unfold pplus
    dsimp only
    rcases Nat.le_total m n with h | h
    · have e0 : E' = n := by omega
      subst e0
      have e1 : a * 2 ^ E' + b * 2 ^ m = (a * 2 ^ (E' - m) + b * 2 ^ (E' - E')) * 2 ^ m := by
        rw [Nat.sub_self, Int.pow_zero, Int.mul_one, Int.add_mul, Int.mul_assoc, ← Int.pow_add, Nat.sub_add_cancel h]
      rw [e1, Nat.add_comm m E', Mth.prt_pow]
    · have e0 : E' = m := by omega
      subst e0
      have e1 : a * 2 ^ n + b * 2 ^ E' = (a * 2 ^ (E' - E') + b * 2 ^ (E' - n)) * 2 ^ n := by
        rw [Nat.sub_self, Int.pow_zero, Int.mul_one, Int.add_mul, Int.mul_assoc b, ← Int.pow_add, Nat.sub_add_cancel h]
      rw [e1, Mth.prt_pow]
  unfold t_part_plus
  walk_at "go"
  obtain ⟨E', hE⟩ : ∃ E' : Nat, E' = max m n := ⟨_, rfl⟩
  have e1 : (if (n : Int) > (m : Int) then (n : Int) else (m : Int)) = (E' : Int) := by split <;> omega
  rw [e1]
  have e2 : (E' : Int) - (m : Int) = ((E' - m : Nat) : Int) := by omega
  have e3 : (E' : Int) - (n : Int) = ((E' - n : Nat) : Int) := by omega
  walk_at "go"
  rw [e2]
  refine w_shlI (shlB ba (by omega)) ?_
  walk_at "go"
  rw [e3]
  refine w_shlI (shlB bb (by omega)) ?_
  walk_at "go"
  refine ⟨_, E', rfl, fun s hs => ?_⟩
  rw [Int.toNat_natCast, Int.toNat_natCast, ← key E' hE]
  exact q s hs
theorem pless_neg (x : Int × Nat) (b : Int) (n : Nat) : pplus x (0 - b, n) = pless x (b, n) := by
  unfold pplus pless
  dsimp only
  rw [Int.zero_sub, Int.neg_mul, Int.sub_eq_add_neg]
theorem p_part_less {K : PySem.W.Frag} {vs : List V} {H : Hp} {Q : VK} {E : XK} (h : spPartLess vs H Q E) : t_part_less K { nx := fun _ H' => Q .non H', rt := Q } (start N_part_less vs) H := by
  obtain ⟨p, r, x, ⟨b, n⟩, rfl, hp, hr, bx, bY, q⟩ := h
  unfold t_part_less
  walk_at "go"
  refine ⟨by show 2 ≤ sizeLine; decide, fun t ht => ?_⟩
  walk_at "go"
  refine ⟨p, t, x, (0 - b, n), rfl, keep hp ht, upd_same, bx, ⟨by have := bY.1; unfold Bits at *; dsimp only at *; omega, bY.2⟩, fun s hs => ?_⟩
  rw [pless_neg]
  exact q s _ (same_in (same_new ht) hs) (free_of hs) upd_same
theorem two_ne (n : Nat) : (2 : Int) ^ n ≠ 0 := by have := PySem.W.kbt_pos n; omega
theorem bits_pow {m n : Nat} {i : Int} (h : Bits m i) : Bits (m + n) (i * 2 ^ n) := by
  unfold Bits at *
  rw [Int.natAbs_mul, Nat.pow_add, Int.natAbs_pow]
  exact Nat.mul_lt_mul_of_pos_right h (Nat.pow_pos (by decide))
theorem p_part_over {K : PySem.W.Frag} {vs : List V} {H : Hp} {Q : VK} {E : XK} (h : spPartOver vs H Q E) : t_part_over K { nx := fun _ H' => Q .non H', rt := Q } (start N_part_over vs) H := by
  obtain ⟨p, r, ⟨a, m⟩, ⟨b, n⟩, rfl, hp, hr, bx, bY, nb, q⟩ := h
  obtain ⟨ba, bm⟩ := bx
  obtain ⟨bb, bn⟩ := bY
  dsimp only at ba bm bb bn nb q
  unfold t_part_over
  walk_at "go"
  refine w_shlI (shlB ba (by omega)) ?_
  walk_at "go"
  refine w_shlI (shlB bb (by omega)) ?_
  walk_at "go"
  rw [Int.toNat_natCast, Int.toNat_natCast]
  have ne : b * 2 ^ m ≠ 0 := Int.mul_ne_zero nb (two_ne m)
  refine ⟨_, _, rfl, ne, (bits_pow bb).mono (by omega), fun s hs => ?_⟩
  rw [pn_rat, pd_rat ne]
  exact q s hs
theorem p_halvings {K : PySem.W.Frag} {vs : List V} {H : Hp} {Q : VK} {E : XK} (h : spHalvings vs H Q E) : t_halvings K { nx := fun _ H' => Q .non H', rt := Q } (start N_halvings vs) H := by
  obtain ⟨n, rfl, q⟩ := h
  unfold t_halvings
  walk_at "go"
  exact q

/-! ### promises: rows -/
def Pts (H : Hp) (as : List Addr) (xs : List (Int × Nat)) : Prop := Paired (fun a x => H a = some (pt x)) as xs
/-- at p a row of these parts -/
def Rw (H : Hp) (p : Addr) (xs : List (Int × Nat)) : Prop := ∃ as : List Addr, H p = some (.tup (as.map V.ref)) ∧ Pts H as xs
def AllB (n : Nat) (xs : List (Int × Nat)) : Prop := ∀ x ∈ xs, PB n x
def spOwnRow (K : PySem.W.Frag) : Sp := fun vs H Q _ => ∃ (p : Addr) (ns : List Int), vs = [.ref p] ∧ H p = some (.tup (ns.map V.int)) ∧ ns.length ≤ 100 ∧ ∀ s H', Same H H' → Rw H' s (ns.map (fun n => (n, 0)) ++ [(1, 0)]) → Q (.ref s) H'
def spZeroRow : Sp := fun vs H Q _ => ∃ n : Nat, vs = [.int (n : Int)] ∧ n ≤ 100 ∧ ∀ s H', Same H H' → Rw H' s (List.replicate (n + 1) (0, 0)) → Q (.ref s) H'
def spRowPlus (K : PySem.W.Frag) : Sp := fun vs H Q _ => ∃ (p r : Addr) (xs ys : List (Int × Nat)), vs = [.ref p, .ref r] ∧ Rw H p xs ∧ Rw H r ys ∧ xs.length = ys.length ∧ xs.length ≤ 100 ∧ AllB 1000000 xs ∧ AllB 1000000 ys ∧ ∀ s H', Same H H' → Rw H' s (List.zipWith pplus xs ys) → Q (.ref s) H'
def spRowLess (K : PySem.W.Frag) : Sp := fun vs H Q _ => ∃ (p r : Addr) (xs ys : List (Int × Nat)), vs = [.ref p, .ref r] ∧ Rw H p xs ∧ Rw H r ys ∧ xs.length = ys.length ∧ xs.length ≤ 100 ∧ AllB 1000000 xs ∧ AllB 1000000 ys ∧ ∀ s H', Same H H' → Rw H' s (List.zipWith pless xs ys) → Q (.ref s) H'
def spRowHalved (K : PySem.W.Frag) : Sp := fun vs H Q _ => ∃ (p : Addr) (xs : List (Int × Nat)) (c : Nat), vs = [.ref p, .int (c : Int)] ∧ Rw H p xs ∧ xs.length ≤ 100 ∧ ∀ s H', Same H H' → Rw H' s (xs.map fun x => Mth.prt x.1 (x.2 + c)) → Q (.ref s) H'
def spRowTimes (K : PySem.W.Frag) : Sp := fun vs H Q _ => ∃ (p : Addr) (xs : List (Int × Nat)) (m : Int), vs = [.ref p, .int m] ∧ Rw H p xs ∧ xs.length ≤ 100 ∧ AllB 1000000 xs ∧ Bits 1000000 m ∧ ∀ s H', Same H H' → Rw H' s (xs.map fun x => Mth.prt (x.1 * m) x.2) → Q (.ref s) H'

-- names: 0:numbers 1:number
abbrev N_own_row : List Str := ["numbers", "number"]
def t_own_row (K : PySem.W.Frag) : TS :=
  (tRet (tCB (rTupOf K) (tCons (tOp rCat (tLc (iTup K (tVar 0)) (gName 1) tYes (tTup (tCons (tVar 1) (tCons (tC (.int 0)) tNil))) [1]) (tLst (tCons (tTup (tCons (tC (.int 1)) (tCons (tC (.int 0)) tNil))) tNil))) tNil)))

-- names: 0:many 1:k
abbrev N_zero_row : List Str := ["many", "k"]
def t_zero_row (K : PySem.W.Frag) : TS :=
  (tRet (tCB (rTupOf K) (tCons (tLc (iRng1 (tCons (tOp rAddI (tVar 0) (tC (.int 1))) tNil)) (gName 1) tYes (tTup (tCons (tC (.int 0)) (tCons (tC (.int 0)) tNil))) [1]) tNil)))

-- names: 0:one 1:other 2:a 3:b
abbrev N_row_plus : List Str := ["one", "other", "a", "b"]
def t_row_plus (K : PySem.W.Frag) : TS :=
  (tRet (tCB (rTupOf K) (tCons (tLc (RZ.iZipA K (tCons (tVar 0) (tCons (tVar 1) tNil))) (gTup K 2 (gCons (gName 2) (gCons (gName 3) gNil))) tYes (tCall spPartPlus [] E0 (tCons (tVar 2) (tCons (tVar 3) tNil))) [2, 3]) tNil)))

-- names: 0:one 1:other 2:a 3:b
abbrev N_row_less : List Str := ["one", "other", "a", "b"]
def t_row_less (K : PySem.W.Frag) : TS :=
  (tRet (tCB (rTupOf K) (tCons (tLc (RZ.iZipA K (tCons (tVar 0) (tCons (tVar 1) tNil))) (gTup K 2 (gCons (gName 2) (gCons (gName 3) gNil))) tYes (tCall spPartLess [] E0 (tCons (tVar 2) (tCons (tVar 3) tNil))) [2, 3]) tNil)))

-- names: 0:row 1:c 2:num 3:e
abbrev N_row_halved : List Str := ["row", "c", "num", "e"]
def t_row_halved (K : PySem.W.Frag) : TS :=
  (tRet (tCB (rTupOf K) (tCons (tLc (iTup K (tVar 0)) (gTup K 2 (gCons (gName 2) (gCons (gName 3) gNil))) tYes (tCall spPart [] E0 (tCons (tVar 2) (tCons (tOp rAddI (tVar 3) (tVar 1)) tNil))) [2, 3]) tNil)))

-- names: 0:row 1:many 2:num 3:e
abbrev N_row_times : List Str := ["row", "many", "num", "e"]
def t_row_times (K : PySem.W.Frag) : TS :=
  (tRet (tCB (rTupOf K) (tCons (tLc (iTup K (tVar 0)) (gTup K 2 (gCons (gName 2) (gCons (gName 3) gNil))) tYes (tCall spPart [] E0 (tCons (tOp rMulX (tVar 2) (tVar 1)) (tCons (tVar 3) tNil))) [2, 3]) tNil)))


theorem Pts.mono {H H' : Hp} {as : List Addr} {xs : List (Int × Nat)} (h : Pts H as xs) (k : ∀ a x, H a = some (pt x) → H' a = some (pt x)) : Pts H' as xs := Paired.mapP h k
theorem Pts.same {H H' : Hp} {as : List Addr} {xs : List (Int × Nat)} (h : Pts H as xs) (s : Same H H') : Pts H' as xs := h.mono fun _ _ e => s _ _ e
theorem Pts.len {H : Hp} {as : List Addr} {xs : List (Int × Nat)} (h : Pts H as xs) : as.length = xs.length := Paired.length h
theorem Pts.get {H : Hp} : ∀ {as : List Addr} {xs : List (Int × Nat)} {i : Nat} {x : Int × Nat}, Pts H as xs → xs[i]? = some x → ∃ a, as[i]? = some a ∧ H a = some (pt x)
  | _, _, _, _, .nil, e => by simp at e
  | _, _, 0, _, .cons r _, e => by simp at e; subst e; exact ⟨_, rfl, r⟩
  | _, _, i + 1, x, .cons _ t, e => by
    obtain ⟨a, h1, h2⟩ := Pts.get (i := i) (x := x) t (by simpa using e)
    exact ⟨a, by simpa using h1, h2⟩
theorem Pts.geta {H : Hp} : ∀ {as : List Addr} {xs : List (Int × Nat)} {i : Nat} {a : Addr}, Pts H as xs → as[i]? = some a → ∃ x, xs[i]? = some x ∧ H a = some (pt x)
  | _, _, _, _, .nil, e => by simp at e
  | _, _, 0, _, .cons r _, e => by simp at e; subst e; exact ⟨_, rfl, r⟩
  | _, _, i + 1, a, .cons _ t, e => by
    obtain ⟨x, h1, h2⟩ := Pts.geta (i := i) (a := a) t (by simpa using e)
    exact ⟨x, by simpa using h1, h2⟩
theorem Pts.app {H : Hp} : ∀ {as : List Addr} {xs : List (Int × Nat)} {bs : List Addr} {ys : List (Int × Nat)}, Pts H as xs → Pts H bs ys → Pts H (as ++ bs) (xs ++ ys)
  | _, _, _, _, .nil, h => h
  | _, _, _, _, .cons r t, h => .cons r (Pts.app t h)
theorem Rw.mono {H H' : Hp} {p : Addr} {xs : List (Int × Nat)} (h : Rw H p xs) (k : ∀ a ys, H a = some (.tup ys) → H' a = some (.tup ys)) : Rw H' p xs := by
  obtain ⟨as, h1, h2⟩ := h
  exact ⟨as, k _ _ h1, h2.mono fun a x e => k _ _ e⟩
theorem Rw.same {H H' : Hp} {p : Addr} {xs : List (Int × Nat)} (h : Rw H p xs) (s : Same H H') : Rw H' p xs := h.mono fun _ _ e => s _ _ e
theorem Rw.dr {l : Addr} {H H' : Hp} {p : Addr} {xs : List (Int × Nat)} (h : Rw H p xs) (d : Dr l H H') : Rw H' p xs := h.mono fun _ _ e => d.tup e
abbrev ptD (x : Int × Nat) : PyData := .tuple [.int x.1, .int (x.2 : Int)]
abbrev rowD (xs : List (Int × Nat)) : PyData := .tuple (xs.map ptD)
theorem Pts.dp {K : PySem.W.Frag} {H : Hp} : ∀ {as : List Addr} {xs : List (Int × Nat)}, Pts H as xs → DpAll K H (as.map V.ref) (xs.map ptD)
  | _, _, .nil => .nil
  | _, _, .cons r t => .cons (dpP r) (Pts.dp t)
theorem Rw.dp {K : PySem.W.Frag} {H : Hp} {p : Addr} {xs : List (Int × Nat)} (h : Rw H p xs) : Dp K H (.ref p) (rowD xs) := by
  obtain ⟨as, h1, h2⟩ := h
  exact .tup (SqT.of h1) h2.dp
theorem lay_all : ∀ xs : List (Int × Nat), PyData.canLayAll0 (xs.map ptD) = true
  | [] => rfl
  | x :: xs => by
    show ((ptD x).canLay0 && PyData.canLayAll0 (xs.map ptD)) = true
    rw [lay_all xs]; rfl
theorem depth_all : ∀ xs : List (Int × Nat), PyData.depthAll (xs.map ptD) ≤ 2
  | [] => by show 0 ≤ 2; decide
  | x :: xs => by
    show max (ptD x).depth (PyData.depthAll (xs.map ptD)) ≤ 2
    have := depth_all xs
    exact Nat.max_le.mpr ⟨Nat.le_of_ble_eq_true rfl, this⟩
theorem row_shaped (xs : List (Int × Nat)) : SeqAt.shaped (rowD xs) = true := by
  unfold SeqAt.shaped
  have h1 : (rowD xs).canLay0 = true := lay_all xs
  have h2 : (rowD xs).depth ≤ 64 := by
    have := depth_all xs
    show PyData.depthAll (xs.map ptD) + 1 ≤ 64
    omega
  rw [h1, decide_eq_true h2]; rfl
/-- a list of new parts is being made at D -/
def Mk (H : Hp) (D : Addr) (xs : List (Int × Nat)) (i : Nat) (H' : Hp) : Prop := Same H H' ∧ H D = none ∧ ∃ as : List Addr, H' D = some (.lst (as.map V.ref)) ∧ Pts H' as (xs.take i)
theorem Mk.start {H : Hp} {D : Addr} {xs : List (Int × Nat)} (hD : H D = none) : Mk H D xs 0 (upd H D (.lst [])) := ⟨same_new hD, hD, [], upd_same, .nil⟩
theorem Mk.step {H H1 H2 : Hp} {D a : Addr} {xs : List (Int × Nat)} {i : Nat} {x : Int × Nat} (m : Mk H D xs i H1) (s : Same H1 H2) (hx : xs[i]? = some x) (hs : H2 a = some (pt x)) (hl : xs.length ≤ 1000) :
    ∃ acc, H2 D = some (.lst acc) ∧ acc.length < sizeLine ∧ Mk H D xs (i + 1) (upd H2 D (.lst (acc ++ [.ref a]))) := by
  obtain ⟨s0, hD, as, h1, h2⟩ := m
  have hD2 := s _ _ h1
  have hle : as.length ≤ 1000 := by rw [h2.len, List.length_take]; omega
  refine ⟨_, hD2, by rw [List.length_map]; exact small1000 hle, fun b o e => ?_, hD, as ++ [a], by rw [upd_same, List.map_append]; rfl, ?_⟩
  · rw [upd_ne (ne_of_none e hD)]
    exact s _ _ (s0 _ _ e)
  · have up : ∀ b y, H2 b = some (pt y) → (upd H2 D (.lst (as.map V.ref ++ [.ref a]))) b = some (pt y) := fun b y e => by
      rw [upd_ne (ne_of e hD2 (by intro z; cases z))]; exact e
    rw [List.take_add_one, hx]
    exact Pts.app ((h2.same s).mono up) (.cons (up _ _ hs) .nil)
theorem Mk.done {H H1 : Hp} {D : Addr} {xs : List (Int × Nat)} {n : Nat} (m : Mk H D xs n H1) (hn : xs.length ≤ n) : ∃ as : List Addr, H1 D = some (.lst (as.map V.ref)) ∧ Pts H1 as xs := by
  obtain ⟨s0, hD, as, h1, h2⟩ := m
  rw [List.take_of_length_le hn] at h2
  exact ⟨as, h1, h2⟩
/-- .. and put into a tuple -/
theorem Mk.tuple {K : PySem.W.Frag} {H H1 : Hp} {D : Addr} {xs : List (Int × Nat)} {n : Nat} {Q : VK} (m : Mk H D xs n H1) (hn : xs.length ≤ n) (q : ∀ s H', Same H H' → Rw H' s xs → Q (.ref s) H') : rTupOf K [.ref D] H1 Q := by
  obtain ⟨as, h1, h2⟩ := m.done hn
  refine w_tupOfL (sqL h1) fun s hs => q s _ (same_in m.1 hs) ⟨as, upd_same, h2.same (same_new hs)⟩
theorem p_own_row_len {K : PySem.W.Frag} {vs : List V} {H : Hp} {Q : VK} {E : XK} (h : spOwnRow K vs H Q E) : vs.length = 1 := by
  obtain ⟨p, ns, rfl, _⟩ := h; rfl
theorem p_zero_row_len {vs : List V} {H : Hp} {Q : VK} {E : XK} (h : spZeroRow vs H Q E) : vs.length = 1 := by
  obtain ⟨n, rfl, _⟩ := h; rfl
theorem p_row_plus_len {K : PySem.W.Frag} {vs : List V} {H : Hp} {Q : VK} {E : XK} (h : spRowPlus K vs H Q E) : vs.length = 2 := by
  obtain ⟨p, r, xs, ys, rfl, _⟩ := h; rfl
theorem p_row_less_len {K : PySem.W.Frag} {vs : List V} {H : Hp} {Q : VK} {E : XK} (h : spRowLess K vs H Q E) : vs.length = 2 := by
  obtain ⟨p, r, xs, ys, rfl, _⟩ := h; rfl
theorem p_row_halved_len {K : PySem.W.Frag} {vs : List V} {H : Hp} {Q : VK} {E : XK} (h : spRowHalved K vs H Q E) : vs.length = 2 := by
  obtain ⟨p, xs, c, rfl, _⟩ := h; rfl
theorem p_row_times_len {K : PySem.W.Frag} {vs : List V} {H : Hp} {Q : VK} {E : XK} (h : spRowTimes K vs H Q E) : vs.length = 2 := by
  obtain ⟨p, xs, c, rfl, _⟩ := h; rfl
theorem p_zero_row {K : PySem.W.Frag} {vs : List V} {H : Hp} {Q : VK} {E : XK} (h : spZeroRow vs H Q E) : t_zero_row K { nx := fun _ H' => Q .non H', rt := Q } (start N_zero_row vs) H := by
  obtain ⟨n, rfl, hn, q⟩ := h
  unfold t_zero_row
  walk_at "go"
  have e : ((n : Int) + 1).toNat = n + 1 := by omega
  refine ⟨_, rfl, by omega, by omega, fun D hD => ?_⟩
  rw [e]
  refine lc_range (lo := 0) (n := n + 1) (Mk H D (List.replicate (n + 1) (0, 0))) (Mk.start hD) ?_ ?_
  · rintro i H1 hi m
    walk_at "go"
    refine ⟨rfl, w_yes (if_t rfl ?_)⟩
    walk_at "go"
    refine ⟨by show 2 ≤ sizeLine; decide, fun s hs => ?_⟩
    exact m.step (same_new hs) (x := (0, 0)) (by rw [List.getElem?_replicate, if_pos hi]) upd_same (by rw [List.length_replicate]; omega)
  · rintro H1 m
    walk_at "go"
    exact m.tuple (by rw [List.length_replicate]; exact Nat.le_refl _) q
theorem p_row_halved {K : PySem.W.Frag} {vs : List V} {H : Hp} {Q : VK} {E : XK} (h : spRowHalved K vs H Q E) : t_row_halved K { nx := fun _ H' => Q .non H', rt := Q } (start N_row_halved vs) H := by
  obtain ⟨p, xs, c, rfl, ⟨as, hp, hxs⟩, hl, q⟩ := h
  have ll := hxs.len
  unfold t_row_halved
  walk_at "go"
  refine ⟨p, rfl, ⟨_, sqT hp⟩, fun D hD => lc_tup (K := K) (xs := as.map V.ref) (Mk H D (xs.map fun x => Mth.prt x.1 (x.2 + c))) (Mk.start hD) (fun i H' _ m => sqT (m.1 _ _ hp)) ?_ ?_⟩
  · rintro i v H1 hv m
    rw [List.getElem?_map] at hv
    obtain ⟨a, ha, rfl⟩ := Option.map_eq_some_iff.mp hv
    obtain ⟨x, hx, hax⟩ := hxs.geta ha
    have hax1 := m.1 _ _ hax
    walk_at "go"
    refine ⟨rfl, w_yes (if_t rfl ?_)⟩
    walk_at "go"
    refine ⟨x.1, x.2 + c, by rw [Int.natCast_add], fun s hs => ?_⟩
    exact m.step (same_new hs) (by rw [List.getElem?_map, hx]; rfl) upd_same (by rw [List.length_map]; omega)
  · rintro H1 m
    walk_at "go"
    exact m.tuple (by rw [List.length_map, List.length_map]; omega) q
theorem p_row_times {K : PySem.W.Frag} {vs : List V} {H : Hp} {Q : VK} {E : XK} (h : spRowTimes K vs H Q E) : t_row_times K { nx := fun _ H' => Q .non H', rt := Q } (start N_row_times vs) H := by
  obtain ⟨p, xs, c, rfl, ⟨as, hp, hxs⟩, hl, bxs, bc, q⟩ := h
  have ll := hxs.len
  unfold t_row_times
  walk_at "go"
  refine ⟨p, rfl, ⟨_, sqT hp⟩, fun D hD => lc_tup (K := K) (xs := as.map V.ref) (Mk H D (xs.map fun x => Mth.prt (x.1 * c) x.2)) (Mk.start hD) (fun i H' _ m => sqT (m.1 _ _ hp)) ?_ ?_⟩
  · rintro i v H1 hv m
    rw [List.getElem?_map] at hv
    obtain ⟨a, ha, rfl⟩ := Option.map_eq_some_iff.mp hv
    obtain ⟨x, hx, hax⟩ := hxs.geta ha
    have hax1 := m.1 _ _ hax
    walk_at "go"
    refine ⟨rfl, w_yes (if_t rfl ?_)⟩
    walk_at "go"
    refine w_mulX (mulB (bxs x (List.mem_of_getElem? hx)).1 bc (by decide)) ?_
    walk_at "go"
    refine ⟨x.1 * c, x.2, rfl, fun s hs => ?_⟩
    exact m.step (same_new hs) (by rw [List.getElem?_map, hx]; rfl) upd_same (by rw [List.length_map]; omega)
  · rintro H1 m
    walk_at "go"
    exact m.tuple (by rw [List.length_map, List.length_map]; omega) q
theorem p_row_plus {K : PySem.W.Frag} {vs : List V} {H : Hp} {Q : VK} {E : XK} (h : spRowPlus K vs H Q E) : t_row_plus K { nx := fun _ H' => Q .non H', rt := Q } (start N_row_plus vs) H := by
  obtain ⟨p, r, xs, ys, rfl, ⟨as, hp, hxs⟩, ⟨bs, hr, hys⟩, hl, hl2, bx, bY, q⟩ := h
  have l1 := hxs.len
  have l2 := hys.len
  unfold t_row_plus
  walk_at "go"
  refine ⟨p, r, as.map V.ref, bs.map V.ref, rfl, .inr ⟨sqT hp, sqT hr, fun D hD => lc_it (walk_zipT (n := xs.length) (by rw [List.length_map, List.length_map]; omega)) (Mk H D (List.zipWith pplus xs ys)) (Mk.start hD) (fun i H' _ m => ⟨sqT (m.1 _ _ hp), sqT (m.1 _ _ hr)⟩) ?_ ?_⟩⟩
  · rintro i v H1 H2 hi m ⟨T, u, w, rfl, hT, rfl, hu, hw⟩
    dsimp only at hu hw
    rw [List.getElem?_map] at hu hw
    obtain ⟨a, ha, rfl⟩ := Option.map_eq_some_iff.mp hu
    obtain ⟨b, hb, rfl⟩ := Option.map_eq_some_iff.mp hw
    obtain ⟨x, hx, hax⟩ := hxs.geta ha
    obtain ⟨y, hy, hby⟩ := hys.geta hb
    have hT2 : (upd H1 T (.tup [.ref a, .ref b])) T = some (.tup [.ref a, .ref b]) := upd_same
    walk_at "go"
    refine ⟨rfl, w_yes (if_t rfl ?_)⟩
    walk_at "go"
    refine ⟨a, b, x, y, rfl, keep (m.1 _ _ hax) hT, keep (m.1 _ _ hby) hT, bx x (List.mem_of_getElem? hx), bY y (List.mem_of_getElem? hy), fun s hs => ?_⟩
    exact m.step (same_in (same_new hT) hs) (by rw [List.getElem?_zipWith, hx, hy]) upd_same (by rw [List.length_zipWith]; omega)
  · rintro H1 m
    walk_at "go"
    exact m.tuple (by rw [List.length_zipWith]; omega) q
theorem p_row_less {K : PySem.W.Frag} {vs : List V} {H : Hp} {Q : VK} {E : XK} (h : spRowLess K vs H Q E) : t_row_less K { nx := fun _ H' => Q .non H', rt := Q } (start N_row_less vs) H := by
  obtain ⟨p, r, xs, ys, rfl, ⟨as, hp, hxs⟩, ⟨bs, hr, hys⟩, hl, hl2, bx, bY, q⟩ := h
  have l1 := hxs.len
  have l2 := hys.len
  unfold t_row_less
  walk_at "go"
  refine ⟨p, r, as.map V.ref, bs.map V.ref, rfl, .inr ⟨sqT hp, sqT hr, fun D hD => lc_it (walk_zipT (n := xs.length) (by rw [List.length_map, List.length_map]; omega)) (Mk H D (List.zipWith pless xs ys)) (Mk.start hD) (fun i H' _ m => ⟨sqT (m.1 _ _ hp), sqT (m.1 _ _ hr)⟩) ?_ ?_⟩⟩
  · rintro i v H1 H2 hi m ⟨T, u, w, rfl, hT, rfl, hu, hw⟩
    dsimp only at hu hw
    rw [List.getElem?_map] at hu hw
    obtain ⟨a, ha, rfl⟩ := Option.map_eq_some_iff.mp hu
    obtain ⟨b, hb, rfl⟩ := Option.map_eq_some_iff.mp hw
    obtain ⟨x, hx, hax⟩ := hxs.geta ha
    obtain ⟨y, hy, hby⟩ := hys.geta hb
    have hT2 : (upd H1 T (.tup [.ref a, .ref b])) T = some (.tup [.ref a, .ref b]) := upd_same
    walk_at "go"
    refine ⟨rfl, w_yes (if_t rfl ?_)⟩
    walk_at "go"
    refine ⟨a, b, x, y, rfl, keep (m.1 _ _ hax) hT, keep (m.1 _ _ hby) hT, bx x (List.mem_of_getElem? hx), bY y (List.mem_of_getElem? hy), fun s H3 s3 _ hs => ?_⟩
    exact m.step ((same_new hT).trans s3) (by rw [List.getElem?_zipWith, hx, hy]) hs (by rw [List.length_zipWith]; omega)
  · rintro H1 m
    walk_at "go"
    exact m.tuple (by rw [List.length_zipWith]; omega) q
/-- [(n, 0) for n in numbers] + [(1, 0)], as a tuple -/
theorem own_ok {K : PySem.W.Frag} {σ : L2.St} {H : Hp} {Q : VK} {i j : Nat} {p : Addr} {ns : List Int} (hi : σ[i]? = some (some (.ref p))) (hw : ∀ v, wipe ((wipe σ [j]).set j (some v)) [j] = wipe σ [j]) (hj : ∀ v, ((wipe σ [j]).set j (some v))[j]? = some (some v)) (hp : H p = some (.tup (ns.map V.int))) (hl : ns.length ≤ 100)
    (q : ∀ s H', Same H H' → Rw H' s (ns.map (fun n => (n, 0)) ++ [(1, 0)]) → Q (.ref s) H') :
    tCB (rTupOf K) (tCons (tOp rCat (tLc (iTup K (tVar i)) (gName j) tYes (tTup (tCons (tVar j) (tCons (tC (.int 0)) tNil))) [j]) (tLst (tCons (tTup (tCons (tC (.int 1)) (tCons (tC (.int 0)) tNil))) tNil))) tNil) σ H Q := by
  refine w_cb (w_cons (w_op (w_lc (w_iT (w_var hi ?_)))))
  refine ⟨p, rfl, ⟨_, sqT hp⟩, fun D hD => lc_tup (K := K) (xs := ns.map V.int) (Mk H D (ns.map fun n => (n, 0))) (Mk.start hD) (fun i H' _ m => sqT (m.1 _ _ hp)) ?_ ?_⟩
  · rintro i v H1 hv m
    rw [List.getElem?_map] at hv
    obtain ⟨n, hn, rfl⟩ := Option.map_eq_some_iff.mp hv
    refine w_gName ⟨hw _, w_yes (if_t rfl ?_)⟩
    refine w_tup (w_cons (w_var (hj _) (w_cons (w_con (w_nil ?_)))))
    refine ⟨by show 2 ≤ sizeLine; decide, fun s hs => ?_⟩
    exact m.step (same_new hs) (x := (n, 0)) (by rw [List.getElem?_map, hn]; rfl) upd_same (by rw [List.length_map]; omega)
  · rintro H1 m
    obtain ⟨as, h1, h2⟩ := m.done (by rw [List.length_map, List.length_map]; exact Nat.le_refl _)
    have la := h2.len
    rw [List.length_map] at la
    walk_at "go"
    refine ⟨by show 2 ≤ sizeLine; decide, fun s hs => ?_⟩
    walk_at "go"
    refine ⟨by show 1 ≤ sizeLine; decide, fun L hL => ?_⟩
    refine w_cat (keep (keep h1 hs) hL) upd_same (Nat.le_trans (by rw [List.length_map, List.length_singleton]; omega : _ ≤ 101) (by decide)) fun L2 hL2 => ?_
    walk_at "go"
    refine w_tupOfL (sqL upd_same) fun t ht => q t _ (same_in (same_in (same_in (same_in m.1 hs) hL) hL2) ht) ⟨as ++ [s], by rw [upd_same, List.map_append]; rfl, ?_⟩
    have sm : Same H1 (upd (upd (upd (upd H1 s (.tup [.int 1, .int 0])) L (.lst [.ref s])) L2 (.lst (as.map V.ref ++ [.ref s]))) t (.tup (as.map V.ref ++ [.ref s]))) := same_in (same_in (same_in (same_new hs) hL) hL2) ht
    exact Pts.app (h2.same sm) (.cons (keep (keep (keep upd_same hL) hL2) ht) .nil)
theorem p_own_row {K : PySem.W.Frag} {vs : List V} {H : Hp} {Q : VK} {E : XK} (h : spOwnRow K vs H Q E) : t_own_row K { nx := fun _ H' => Q .non H', rt := Q } (start N_own_row vs) H := by
  obtain ⟨p, ns, rfl, hp, hl, q⟩ := h
  unfold t_own_row
  exact w_ret (own_ok rfl (fun _ => rfl) (fun _ => rfl) hp hl q)

/-! ### promises of the law of rows -/
def pjoin (sg : Int) (x y : Int × Nat) : Int × Nat := Mth.prt (x.1 * 2 ^ y.2 + sg * (y.1 * 2 ^ x.2)) (x.2 + y.2)
def spJoined (K : PySem.W.Frag) : Sp := fun vs H Q _ => ∃ (p r : Addr) (xs ys : List (Int × Nat)) (sg : Int), vs = [.ref p, .ref r, .int sg] ∧ Rw H p xs ∧ Rw H r ys ∧ xs.length = ys.length ∧ xs.length ≤ 100 ∧ AllB 1000 xs ∧ AllB 1000 ys ∧ Bits 2 sg ∧ ∀ s H', Same H H' → Rw H' s (List.zipWith (pjoin sg) xs ys) → Q (.ref s) H'
def spRow (K : PySem.W.Frag) : Sp := fun vs H Q _ => ∃ (l : Addr) (n : Nat), vs = [.ref l, .int (n : Int)] ∧ Src H l ∧ n ≤ 10 ∧ ∀ s xs H', xs.length = n → AllB 500 xs → Dr l H H' → Rw H' s xs → Q (.ref s) H'
def spLaw (K : PySem.W.Frag) : Sp := fun vs H Q _ => ∃ (a : Addr) (ns : List Int), vs = [.ref a] ∧ SqL K H a (ns.map V.int) ∧ ns.length ≤ 63 ∧ ∀ H', Q (.bl true) H'

-- names: 0:_law_one 1:_law_other 2:_law_sign 3:_law_found 4:_law_k 5:_law_e 6:_law_mine 7:_law_more
abbrev N_l_joined : List Str := ["_law_one", "_law_other", "_law_sign", "_law_found", "_law_k", "_law_e", "_law_mine", "_law_more"]
def t_l_joined (K : PySem.W.Frag) : TS :=
  (tSeq (tAsg (tLst tNil) (gName 3))
    (tSeq (tFor (iRng1 (tCons (tCB (Evl.rLenS K) (tCons (tVar 0) tNil)) tNil)) (gName 4) (tSeq (tAsg (tOp rAddI (tOp (rIxT K) (tOp (rIxT K) (tVar 0) (tVar 4)) (tC (.int 1))) (tOp (rIxT K) (tOp (rIxT K) (tVar 1) (tVar 4)) (tC (.int 1)))) (gName 5))
      (tSeq (tAsg (tOp rMulX (tOp (rIxT K) (tOp (rIxT K) (tVar 0) (tVar 4)) (tC (.int 0))) (tOp rShlI (tC (.int 1)) (tOp (rIxT K) (tOp (rIxT K) (tVar 1) (tVar 4)) (tC (.int 1))))) (gName 6))
      (tSeq (tAsg (tOp rMulX (tOp (rIxT K) (tOp (rIxT K) (tVar 1) (tVar 4)) (tC (.int 0))) (tOp rShlI (tC (.int 1)) (tOp (rIxT K) (tOp (rIxT K) (tVar 0) (tVar 4)) (tC (.int 1))))) (gName 7))
      (tDrop (tBM K "list" rAppend (tVar 3) (tCons (tCall spPart [] E0 (tCons (tOp rAddI (tVar 6) (tOp rMulX (tVar 2) (tVar 7))) (tCons (tVar 5) tNil))) tNil)))))))
    (tRet (tCB (rTupOf K) (tCons (tVar 3) tNil)))))

-- names: 0:_law_source 1:_law_many 2:_law_found 3:_law_k 4:_law_drawn
abbrev N_l_row : List Str := ["_law_source", "_law_many", "_law_found", "_law_k", "_law_drawn"]
def t_l_row (K : PySem.W.Frag) : TS :=
  (tSeq (tAsg (tLst tNil) (gName 2))
    (tSeq (tFor (iRng1 (tCons (tVar 1) tNil)) (gName 3) (tSeq (tAsg (tCall spPart [] E0 (tCons (tCall spFar [] E0 (tCons (tVar 0) tNil)) (tCons (tOp (rIxL K) (tLst (tCons (tC (.int 0)) (tCons (tCall spDraw [] E0 (tCons (tVar 0) (tCons (tC (.int 9)) tNil))) (tCons (tCall spDraw [] E0 (tCons (tVar 0) (tCons (tC (.int 80)) tNil))) tNil)))) (tCall spDraw [] E0 (tCons (tVar 0) (tCons (tC (.int 3)) tNil)))) tNil))) (gName 4))
      (tDrop (tBM K "list" rAppend (tVar 2) (tCons (tOp (rIxL K) (tLst (tCons (tVar 4) (tCons (tVar 4) (tCons (tVar 4) (tCons (tTup (tCons (tC (.int 0)) (tCons (tC (.int 0)) tNil))) (tCons (tOp (rIxL K) (tOp rCat (tVar 2) (tLst (tCons (tVar 4) tNil))) (tC (.int 0))) tNil)))))) (tCall spDraw [] E0 (tCons (tVar 0) (tCons (tC (.int 5)) tNil)))) tNil)))))
    (tRet (tCB (rTupOf K) (tCons (tVar 2) tNil)))))

-- names: 0:_law_script 1:_law_cell 2:_law_source 3:_law_many 4:_law_one 5:_law_other 6:_law_turn 7:_law_c 8:_law_often 9:_law_numbers 10:_law_nought 11:_law_k 12:_law_num 13:_law_e 14:_law_number
abbrev N_law : List Str := ["_law_script", "_law_cell", "_law_source", "_law_many", "_law_one", "_law_other", "_law_turn", "_law_c", "_law_often", "_law_numbers", "_law_nought", "_law_k", "_law_num", "_law_e", "_law_number"]
def t_law (K : PySem.W.Frag) : TS :=
  (tSeq (tFor (iList K (tOp rCat (tLst (tCons (tCall (spCellAt K) [] E0 (tCons (tVar 0) (tCons (tC (.int 0)) tNil))) tNil)) (tSl (rSlL K) (tVar 0) (tPart (tC (.int 1))) (tPart (tC (.int 12)))))) (gName 1) (tSeq (tAsg (tCall spBegin [] E0 (tCons (tVar 1) tNil)) (gName 2))
      (tSeq (tAsg (tOp rAddI (tC (.int 2)) (tCall spDraw [] E0 (tCons (tVar 2) (tCons (tC (.int 7)) tNil)))) (gName 3))
      (tSeq (tAsg (tCall (spRow K) [] E0 (tCons (tVar 2) (tCons (tVar 3) tNil))) (gName 4))
      (tSeq (tAsg (tOp (rIxL K) (tLst (tCons (tCall (spRow K) [] E0 (tCons (tVar 2) (tCons (tVar 3) tNil))) (tCons (tVar 4) tNil))) (tOp rDivI (tCall spDraw [] E0 (tCons (tVar 2) (tCons (tC (.int 5)) tNil))) (tC (.int 4)))) (gName 5))
      (tSeq (tFor (iRng1 (tCons (tC (.int 2)) tNil)) (gName 6) (tSeq (tIfS (tTest (tOp (rNeD K) (tCall (spRowPlus K) [] E0 (tCons (tVar 4) (tCons (tVar 5) tNil))) (tCall (spJoined K) [] E0 (tCons (tVar 4) (tCons (tVar 5) (tCons (tC (.int 1)) tNil)))))) (tRet (tC (.bl false))) tNext)
        (tIfS (tTest (tOp (rNeD K) (tCall (spRowLess K) [] E0 (tCons (tVar 4) (tCons (tVar 5) tNil))) (tCall (spJoined K) [] E0 (tCons (tVar 4) (tCons (tVar 5) (tCons (tUn rNegI (tC (.int 1))) tNil)))))) (tRet (tC (.bl false))) tNext)))
      (tSeq (tAsg (tOp (rIxL K) (tLst (tCons (tC (.int 0)) (tCons (tC (.int 1)) (tCons (tC (.int 2)) (tCons (tCall spDraw [] E0 (tCons (tVar 2) (tCons (tC (.int 61)) tNil))) tNil))))) (tCall spDraw [] E0 (tCons (tVar 2) (tCons (tC (.int 4)) tNil)))) (gName 7))
      (tSeq (tIfS (tTest (tOp (rNeD K) (tCall (spRowHalved K) [] E0 (tCons (tVar 4) (tCons (tVar 7) tNil))) (tCB (rTupOf K) (tCons (tLc (iTup K (tVar 4)) (gTup K 2 (gCons (gName 12) (gCons (gName 13) gNil))) tYes (tCall spPart [] E0 (tCons (tVar 12) (tCons (tOp rAddI (tVar 13) (tVar 7)) tNil))) [12, 13]) tNil)))) (tRet (tC (.bl false))) tNext)
      (tSeq (tAsg (tCall spFar [] E0 (tCons (tVar 2) tNil)) (gName 8))
      (tSeq (tIfS (tTest (tOp (rNeD K) (tCall (spRowTimes K) [] E0 (tCons (tVar 4) (tCons (tVar 8) tNil))) (tCB (rTupOf K) (tCons (tLc (iTup K (tVar 4)) (gTup K 2 (gCons (gName 12) (gCons (gName 13) gNil))) tYes (tCall spPart [] E0 (tCons (tOp rMulX (tVar 12) (tVar 8)) (tCons (tVar 13) tNil))) [12, 13]) tNil)))) (tRet (tC (.bl false))) tNext)
      (tSeq (tIfS (tOr (tTest (tOp (rNeD K) (tCall (spRowLess K) [] E0 (tCons (tVar 4) (tCons (tVar 4) tNil))) (tOp (rRepT K) (tTup (tCons (tTup (tCons (tC (.int 0)) (tCons (tC (.int 0)) tNil))) tNil)) (tVar 3)))) (tNot (tB (tCB (rIsi K) (tCons (tCall (spRowPlus K) [] E0 (tCons (tVar 4) (tCons (tVar 5) tNil))) (tCons (tC (.ty "tuple")) tNil)))))) (tRet (tC (.bl false))) tNext)
      (tSeq (tAsg (tCB (rTupOf K) (tCons (tLc (iRng1 (tCons (tOp rSubI (tVar 3) (tC (.int 1))) tNil)) (gName 11) tYes (tCall spFar [] E0 (tCons (tVar 2) tNil)) [11]) tNil)) (gName 9))
      (tSeq (tIfS (tTest (tOp (rNeD K) (tCall (spOwnRow K) [] E0 (tCons (tVar 9) tNil)) (tCB (rTupOf K) (tCons (tOp rCat (tLc (iTup K (tVar 9)) (gName 14) tYes (tTup (tCons (tVar 14) (tCons (tC (.int 0)) tNil))) [14]) (tLst (tCons (tTup (tCons (tC (.int 1)) (tCons (tC (.int 0)) tNil))) tNil))) tNil)))) (tRet (tC (.bl false))) tNext)
      (tSeq (tAsg (tCall spZeroRow [] E0 (tCons (tOp rSubI (tVar 3) (tC (.int 1))) tNil)) (gName 10))
      (tIfS (tOr (tTest (tOp (rNeD K) (tVar 10) (tOp (rRepT K) (tTup (tCons (tTup (tCons (tC (.int 0)) (tCons (tC (.int 0)) tNil))) tNil)) (tVar 3)))) (tTest (tOp (rNeD K) (tCall (spRowPlus K) [] E0 (tCons (tCall (spOwnRow K) [] E0 (tCons (tVar 9) tNil)) (tCons (tVar 10) tNil))) (tCall (spOwnRow K) [] E0 (tCons (tVar 9) tNil))))) (tRet (tC (.bl false))) tNext)))))))))))))))
    (tRet (tAndV (tOp (rEqD K) (tCall (spOwnRow K) [] E0 (tCons (tTup (tCons (tC (.int 7)) tNil)) tNil)) (tTup (tCons (tTup (tCons (tC (.int 7)) (tCons (tC (.int 0)) tNil))) (tCons (tTup (tCons (tC (.int 1)) (tCons (tC (.int 0)) tNil))) tNil)))) (tOp (rEqD K) (tCall spZeroRow [] E0 (tCons (tC (.int 1)) tNil)) (tTup (tCons (tTup (tCons (tC (.int 0)) (tCons (tC (.int 0)) tNil))) (tCons (tTup (tCons (tC (.int 0)) (tCons (tC (.int 0)) tNil))) tNil)))))))

-- names: 0:_law_num 1:_law_e
abbrev N_l_part : List Str := ["_law_num", "_law_e"]
def t_l_part (K : PySem.W.Frag) : TS :=
  (tSeq (tWhile (tAnd (tTest (tOp rGtI (tVar 1) (tC (.int 0)))) (tTest (tOp rEq (tOp rModI (tVar 0) (tC (.int 2))) (tC (.int 0))))) (tSeq (tAsg (tOp rDivI (tVar 0) (tC (.int 2))) (gName 0))
      (tAsg (tOp rSubI (tVar 1) (tC (.int 1))) (gName 1))))
    (tRet (tTup (tCons (tVar 0) (tCons (tVar 1) tNil)))))


theorem p_l_part_len {vs : List V} {H : Hp} {Q : VK} {E : XK} (h : spPart vs H Q E) : vs.length = 2 := p_part_len h
theorem p_l_part {K : PySem.W.Frag} {vs : List V} {H : Hp} {Q : VK} {E : XK} (h : spPart vs H Q E) : t_l_part K { nx := fun _ H' => Q .non H', rt := Q } (start N_l_part vs) H := by
  obtain ⟨n, e, rfl, q⟩ := h
  unfold t_l_part
  walk_at "go"
  refine w_while (fun (p : Int × Nat) => [some (.int p.1), some (.int (p.2 : Int))]) (fun p H' => H = H' ∧ Mth.prt p.1 p.2 = Mth.prt n e) (fun p => p.2) (n, e) rfl ⟨rfl, rfl⟩ ?_
  rintro ⟨a, m⟩ H' ⟨rfl, c⟩
  dsimp only at c ⊢
  have fin : (m = 0 ∨ a % 2 = 1) → (tRet (tTup (tCons (tVar 0) (tCons (tVar 1) tNil)))) { nx := fun _ H' => Q .non H', rt := Q } [some (.int a), some (.int (m : Int))] H := fun h => by
    walk_at "go"
    refine ⟨by show 2 ≤ sizeLine; decide, fun p hp => ?_⟩
    have := q p hp
    rw [← c, Mth.prt_self h] at this
    exact this
  walk_at "go"
  refine if_2 (fun h => ?_) (fun h => ?_)
  · walk_at "go"
    refine if_2 (fun h2 => ?_) (fun h2 => ?_)
    · have e2 : a % 2 = 0 := V.int.inj h2
      refine w_turn ?_
      walk_at "go"
      obtain ⟨m', rfl⟩ : ∃ m', m = m' + 1 := ⟨m - 1, by omega⟩
      have e3 : ((m' + 1 : Nat) : Int) - 1 = (m' : Int) := by omega
      rw [e3]
      exact ⟨(a / 2, m'), rfl, ⟨rfl, by rw [← c, Mth.prt_even e2]⟩, Nat.lt_succ_self _⟩
    · exact fin (.inr (by have : ¬ a % 2 = 0 := fun z => h2 (by rw [z]); omega))
  · refine if_f rfl ?_
    exact fin (.inl (by omega))

theorem p_l_joined_len {K : PySem.W.Frag} {vs : List V} {H : Hp} {Q : VK} {E : XK} (h : spJoined K vs H Q E) : vs.length = 3 := by
  obtain ⟨p, r, xs, ys, sg, rfl, _⟩ := h; rfl
theorem p_l_row_len {K : PySem.W.Frag} {vs : List V} {H : Hp} {Q : VK} {E : XK} (h : spRow K vs H Q E) : vs.length = 2 := by
  obtain ⟨p, r, rfl, _⟩ := h; rfl
theorem p_law_len {K : PySem.W.Frag} {vs : List V} {H : Hp} {Q : VK} {E : XK} (h : spLaw K vs H Q E) : vs.length = 1 := by
  obtain ⟨a, b, rfl, _⟩ := h; rfl
theorem p_l_joined {K : PySem.W.Frag} {vs : List V} {H : Hp} {Q : VK} {E : XK} (h : spJoined K vs H Q E) : t_l_joined K { nx := fun _ H' => Q .non H', rt := Q } (start N_l_joined vs) H := by
  obtain ⟨p, r, xs, ys, sg, rfl, ⟨as, hp, hxs⟩, ⟨bs, hr, hys⟩, hl, hl2, bx, bY, bsg, q⟩ := h
  have l1 := hxs.len
  have l2 := hys.len
  unfold t_l_joined
  walk_at "go"
  refine ⟨by show 0 ≤ sizeLine; decide, fun D hD => ?_⟩
  walk_at "go"
  have hzl : (List.zipWith (pjoin sg) xs ys).length = xs.length := by rw [List.length_zipWith]; omega
  rw [List.length_map, l1]
  refine ⟨_, rfl, by omega, by omega, for_range (lo := 0) (n := xs.length) (fun i σ H' => ∃ y4 y5 y6 y7, σ = [some (.ref p), some (.ref r), some (.int sg), some (.ref D), y4, y5, y6, y7] ∧ Mk H D (List.zipWith (pjoin sg) xs ys) i H') ⟨none, none, none, none, rfl, Mk.start hD⟩ ?_ ?_⟩
  · rintro i σ H1 hi ⟨y4, y5, y6, y7, rfl, m⟩
    obtain ⟨x, hx⟩ : ∃ x, xs[i]? = some x := ⟨_, List.getElem?_eq_getElem hi⟩
    obtain ⟨y, hy⟩ : ∃ y, ys[i]? = some y := ⟨_, List.getElem?_eq_getElem (by omega)⟩
    obtain ⟨a, ha, hax⟩ := hxs.get hx
    obtain ⟨b, hb, hby⟩ := hys.get hy
    have hp1 := m.1 _ _ hp
    have hr1 := m.1 _ _ hr
    have hax1 := m.1 _ _ hax
    have hby1 := m.1 _ _ hby
    have hD1 := m.2.2
    obtain ⟨cs, hD1, _⟩ := hD1
    have pa : atI (as.map V.ref) (0 + (i : Int)) = some (.ref a) := by rw [Int.zero_add]; exact atI_nat (by rw [List.getElem?_map, ha]; rfl)
    have pb : atI (bs.map V.ref) (0 + (i : Int)) = some (.ref b) := by rw [Int.zero_add]; exact atI_nat (by rw [List.getElem?_map, hb]; rfl)
    have bx1 := bx x (List.mem_of_getElem? hx)
    have by1 := bY y (List.mem_of_getElem? hy)
    obtain ⟨bxa, bxe⟩ := id bx1
    obtain ⟨bya, bye⟩ := id by1
    have one : Bits 1 1 := by unfold Bits; decide
    walk_at "go"
    refine w_ixT (sqT hp1) pa ?_
    walk_at "go"
    refine w_ixT (sqT hr1) pb ?_
    walk_at "go"
    refine w_ixT (sqT hp1) pa ?_
    walk_at "go"
    refine w_ixT (sqT hr1) pb ?_
    walk_at "go"
    refine w_shlI (shlB one (by omega)) ?_
    have px : Bits 2000 (2 ^ x.2) := by
      have h := bits_pow (n := x.2) one
      rw [Int.one_mul] at h; exact h.mono (by omega)
    have py : Bits 2000 (2 ^ y.2) := by
      have h := bits_pow (n := y.2) one
      rw [Int.one_mul] at h; exact h.mono (by omega)
    rw [Int.toNat_natCast, Int.one_mul]
    refine w_mulX (mulB bxa py (by decide)) ?_
    walk_at "go"
    refine w_ixT (sqT hr1) pb ?_
    walk_at "go"
    refine w_ixT (sqT hp1) pa ?_
    walk_at "go"
    refine w_shlI (shlB one (by omega)) ?_
    rw [Int.toNat_natCast, Int.one_mul]
    refine w_mulX (mulB bya px (by decide)) ?_
    walk_at "go"
    refine w_mulX (mulB bsg (bya.mul px) (by decide)) ?_
    walk_at "go"
    refine ⟨_, x.2 + y.2, by rw [Int.natCast_add], fun s hs => ?_⟩
    obtain ⟨acc, g1, g2, g3⟩ := m.step (same_new hs) (x := pjoin sg x y) (by rw [List.getElem?_zipWith, hx, hy]) upd_same (by omega)
    refine w_nil (w_append g1 g2 ?_)
    exact ⟨_, _, _, _, rfl, g3⟩
  · rintro σ H1 ⟨y4, y5, y6, y7, rfl, m⟩
    walk_at "go"
    exact m.tuple (by omega) q
theorem pb_prt {n : Int} {e m : Nat} (h : Bits m n) (he : e ≤ m) : PB m (Mth.prt n e) := by
  obtain ⟨h1, h2⟩ := Mth.prt_le e n
  exact ⟨h.le h1, Nat.le_trans h2 he⟩
/-- [0, draw 9, draw m][draw 3] -/
theorem e_ok {K : PySem.W.Frag} {σ : L2.St} {H : Hp} {Q : VK} {l : Addr} {i : Nat} {m : Int} (hm : 0 < m ∧ m < 1000) (hσ : σ[i]? = some (some (.ref l))) (hs : Src H l) (q : ∀ (e : Nat) H', ((e : Int) < m ∨ e < 9) → Dr l H H' → Q (.int (e : Int)) H') :
    tOp (rIxL K) (tLst (tCons (tC (.int 0)) (tCons (tCall spDraw [] E0 (tCons (tVar i) (tCons (tC (.int 9)) tNil))) (tCons (tCall spDraw [] E0 (tCons (tVar i) (tCons (tC (.int m)) tNil))) tNil)))) (tCall spDraw [] E0 (tCons (tVar i) (tCons (tC (.int 3)) tNil))) σ H Q := by
  have hb : m.natAbs < 2 ^ 200 := Nat.lt_of_lt_of_le (by omega : m.natAbs < 1000) (by decide)
  refine w_op (w_lst (w_cons (w_con (w_cons (w_call (w_cons (w_var hσ (w_cons (w_con (w_nil ?_))))))))))
  refine ⟨l, 9, rfl, hs, by decide, by decide, fun d1 H1 a0 a1 k1 => ?_⟩
  refine w_cons (w_call (w_cons (w_var hσ (w_cons (w_con (w_nil ?_))))))
  refine ⟨l, m, rfl, k1.src, hm.1, hb, fun d2 H2 b0 b1 k2 => ?_⟩
  refine w_nil ⟨by show 3 ≤ sizeLine; decide, fun p hp => ?_⟩
  refine w_call (w_cons (w_var hσ (w_cons (w_con (w_nil ?_)))))
  have kk := (k1.trans k2).new (o := .lst [.int 0, .int d1, .int d2]) hp
  have hlp : p ≠ l := fun e => by
    obtain ⟨x, y, z, h⟩ := k2.src
    rw [e, h] at hp; cases hp
  refine ⟨l, 3, rfl, kk.src, by decide, by decide, fun d H3 e0 e1 k3 => ?_⟩
  have hl := k3.keep p _ hlp upd_same
  have dd := kk.trans k3
  obtain ⟨n1, rfl⟩ := Int.eq_ofNat_of_zero_le a0
  obtain ⟨n2, rfl⟩ := Int.eq_ofNat_of_zero_le b0
  rcases (by omega : d = 0 ∨ d = 1 ∨ d = 2) with h | h | h <;> subst h <;> refine w_ixL (sqL hl) rfl ?_
  · exact q 0 _ (by omega) dd
  · exact q n1 _ (by omega) dd
  · exact q n2 _ (by omega) dd
theorem AllB.mono {m n : Nat} {xs : List (Int × Nat)} (h : AllB m xs) (hm : m ≤ n) : AllB n xs := fun x hx => ⟨(h x hx).1.mono hm, Nat.le_trans (h x hx).2 hm⟩
/-- drawn parts in a list at D -/
def Rl (l D : Addr) (H : Hp) (i : Nat) (H' : Hp) : Prop := Dr l H H' ∧ H D = none ∧ D ≠ l ∧ ∃ (as : List Addr) (xs : List (Int × Nat)), H' D = some (.lst (as.map V.ref)) ∧ Pts H' as xs ∧ xs.length = i ∧ AllB 500 xs
theorem Src.ne_new {H : Hp} {l p : Addr} (s : Src H l) (hp : H p = none) : p ≠ l := fun e => by
  obtain ⟨x, y, z, h⟩ := s
  rw [e, h] at hp; cases hp
theorem p_l_row {K : PySem.W.Frag} {vs : List V} {H : Hp} {Q : VK} {E : XK} (h : spRow K vs H Q E) : t_l_row K { nx := fun _ H' => Q .non H', rt := Q } (start N_l_row vs) H := by
  obtain ⟨l, n, rfl, hs, hn, q⟩ := h
  unfold t_l_row
  walk_at "go"
  refine ⟨by show 0 ≤ sizeLine; decide, fun D hD => ?_⟩
  walk_at "go"
  have nDl := hs.ne_new hD
  refine ⟨_, rfl, by omega, by omega, for_range (lo := 0) (n := n) (fun i σ H' => ∃ y3 y4, σ = [some (.ref l), some (.int n), some (.ref D), y3, y4] ∧ Rl l D H i H') ⟨none, none, rfl, (Dr.refl hs).new hD, hD, nDl, [], [], upd_same, .nil, rfl, fun x hx => by cases hx⟩ ?_ ?_⟩
  · rintro i σ H1 hi ⟨y3, y4, rfl, d1, _, _, as, xs, hD1, hxs, hlx, bxs⟩
    walk_at "go"
    refine ⟨l, rfl, d1.src, fun f H2 bf d2 => ?_⟩
    refine w_cons (e_ok (i := 0) (m := 80) (by decide) (by rfl) d2.src fun e H3 he d3 => ?_)
    have hD3 := d3.keep _ _ nDl (d2.keep _ _ nDl hD1)
    have hx3 : Pts H3 as xs := hxs.mono fun a x e => d3.tup (d2.tup e)
    have d13 := (d1.trans d2).trans d3
    refine w_nil ⟨f, e, rfl, fun pd hpd => ?_⟩
    have bd : PB 500 (Mth.prt f e) := pb_prt (bf.mono (by decide)) (by omega)
    have la := hxs.len
    have g1 : (upd H3 pd (pt (Mth.prt f e))) pd = some (pt (Mth.prt f e)) := upd_same
    have g2 := keep (u := pt (Mth.prt f e)) hD3 hpd
    have g3 := hx3.same (same_new (u := pt (Mth.prt f e)) hpd)
    have d14 := d13.new (o := pt (Mth.prt f e)) hpd
    generalize upd H3 pd (pt (Mth.prt f e)) = H4 at *
    walk_at "go"
    refine ⟨by show 2 ≤ sizeLine; decide, fun pz hz => ?_⟩
    walk_at "go"
    have d15 := d14.new (o := .tup [.int 0, .int 0]) hz
    have k1 := keep (u := .tup [.int 0, .int 0]) g1 hz
    have k2 := keep (u := .tup [.int 0, .int 0]) g2 hz
    have k3 := g3.same (same_new (u := .tup [.int 0, .int 0]) hz)
    have k4 : (upd H4 pz (.tup [.int 0, .int 0])) pz = some (pt (0, 0)) := upd_same
    generalize upd H4 pz (.tup [.int 0, .int 0]) = H5 at *
    refine ⟨by show 1 ≤ sizeLine; decide, fun L1 hL1 => ?_⟩
    refine w_cat (keep k2 hL1) upd_same (Nat.le_trans (by rw [List.length_map, List.length_singleton]; omega : _ ≤ 100) (by decide)) fun L2 hL2 => ?_
    -- the head of what was found, or the drawn one
    obtain ⟨c, u, hc, hu, bu⟩ : ∃ (c : Addr) (u : Int × Nat), atI (as.map V.ref ++ [.ref pd]) 0 = some (.ref c) ∧ H5 c = some (pt u) ∧ PB 500 u := by
      cases hxs with
      | nil => exact ⟨pd, _, rfl, k1, bd⟩
      | @cons a x as xs r t =>
        cases k3 with
        | cons r3 _ => exact ⟨a, x, atI_nat (j := 0) rfl, r3, bxs x (.head _)⟩
    walk_at "go"
    refine w_ixL (sqL upd_same) hc ?_
    walk_at "go"
    refine ⟨by show 5 ≤ sizeLine; decide, fun L3 hL3 => ?_⟩
    have d16 := ((d15.new (o := .lst [.ref pd]) hL1).new (o := .lst (as.map V.ref ++ [.ref pd])) hL2).new (o := .lst [.ref pd, .ref pd, .ref pd, .ref pz, .ref c]) hL3
    have n3 := ((d15.new (o := .lst [.ref pd]) hL1).new (o := .lst (as.map V.ref ++ [.ref pd])) hL2).src.ne_new hL3
    have sm : Same H5 (upd (upd (upd H5 L1 (.lst [.ref pd])) L2 (.lst (as.map V.ref ++ [.ref pd]))) L3 (.lst [.ref pd, .ref pd, .ref pd, .ref pz, .ref c])) := same_in (same_in (same_new hL1) hL2) hL3
    have m0 : (upd (upd (upd H5 L1 (.lst [.ref pd])) L2 (.lst (as.map V.ref ++ [.ref pd]))) L3 (.lst [.ref pd, .ref pd, .ref pd, .ref pz, .ref c])) L3 = _ := upd_same
    clear hL3 hL2 hL1
    generalize (upd (upd (upd H5 L1 (.lst [.ref pd])) L2 (.lst (as.map V.ref ++ [.ref pd]))) L3 (.lst [.ref pd, .ref pd, .ref pd, .ref pz, .ref c])) = H6 at *
    walk_at "go"
    refine ⟨l, 5, rfl, d16.src, by decide, by decide, fun d H7 e0 e1 d7 => ?_⟩
    have m7 := d7.keep _ _ n3 m0
    have mD := d7.keep _ _ nDl (sm _ _ k2)
    have mx : Pts H7 as xs := (k3.same sm).mono fun a x e => d7.tup e
    obtain ⟨v, w, hv, hw, bw⟩ : ∃ (k : Addr) (u : Int × Nat), atI [V.ref pd, .ref pd, .ref pd, .ref pz, .ref c] d = some (.ref k) ∧ H7 k = some (pt u) ∧ PB 500 u := by
      rcases (by omega : d = 0 ∨ d = 1 ∨ d = 2 ∨ d = 3 ∨ d = 4) with h | h | h | h | h <;> subst h
      · exact ⟨pd, _, rfl, d7.tup (sm _ _ k1), bd⟩
      · exact ⟨pd, _, rfl, d7.tup (sm _ _ k1), bd⟩
      · exact ⟨pd, _, rfl, d7.tup (sm _ _ k1), bd⟩
      · exact ⟨pz, (0, 0), rfl, d7.tup (sm _ _ k4), ⟨Nat.pow_pos (by decide), Nat.zero_le _⟩⟩
      · exact ⟨c, u, rfl, d7.tup (sm _ _ hu), bu⟩
    refine w_ixL (sqL m7) hv ?_
    walk_at "go"
    refine w_append mD (Nat.lt_of_le_of_lt (by rw [List.length_map]; omega : _ ≤ 100) (by decide)) ?_
    have d17 := d16.trans d7
    have up : ∀ b y, H7 b = some (pt y) → (upd H7 D (.lst (as.map V.ref ++ [.ref v]))) b = some (pt y) := fun b y e => by
      rw [upd_ne (ne_of e mD (by intro z; cases z))]; exact e
    refine ⟨_, _, rfl, ⟨fun b o nb e => ?_, d17.src0, ?_⟩, hD, nDl, as ++ [v], xs ++ [w], by rw [upd_same, List.map_append]; rfl, Pts.app (mx.mono up) (.cons (up _ _ hw) .nil), by rw [List.length_append, hlx]; rfl, ?_⟩
    · rw [upd_ne (ne_of_none e hD)]
      exact d17.keep b o nb e
    · obtain ⟨x, y, z, h⟩ := d17.src
      exact ⟨x, y, z, by rw [upd_ne nDl.symm]; exact h⟩
    · intro x hx
      rcases List.mem_append.mp hx with h | h
      · exact bxs x h
      · rw [List.mem_singleton.mp h]; exact bw
  · rintro σ H1 ⟨y3, y4, rfl, d1, _, _, as, xs, hD1, hxs, hlx, bxs⟩
    walk_at "go"
    refine w_tupOfL (sqL hD1) fun s hs => q s xs _ hlx bxs (d1.new hs) ⟨as, upd_same, hxs.same (same_new hs)⟩

theorem rep_flat {p : Addr} : ∀ n : Nat, (List.replicate n [V.ref p]).flatten = (List.replicate n p).map V.ref
  | 0 => rfl
  | n + 1 => by rw [List.replicate_succ, List.flatten_cons, rep_flat n, List.replicate_succ]; rfl
theorem pts_rep {H : Hp} {p : Addr} {x : Int × Nat} (h : H p = some (pt x)) : ∀ n : Nat, Pts H (List.replicate n p) (List.replicate n x)
  | 0 => .nil
  | n + 1 => by rw [List.replicate_succ, List.replicate_succ]; exact .cons h (pts_rep h n)
/-- ((0, 0),) * n -/
theorem rep_ok {K : PySem.W.Frag} {σ : L2.St} {H : Hp} {Q : VK} {i n : Nat} (hσ : σ[i]? = some (some (.int (n : Int)))) (h2 : 2 ≤ n) (hn : n ≤ 100) (q : ∀ s H', Same H H' → Rw H' s (List.replicate n (0, 0)) → Q (.ref s) H') :
    tOp (rRepT K) (tTup (tCons (tTup (tCons (tC (.int 0)) (tCons (tC (.int 0)) tNil))) tNil)) (tVar i) σ H Q := by
  refine w_op (w_tup (w_cons (w_tup (w_cons (w_con (w_cons (w_con (w_nil ?_))))))))
  refine ⟨by show 2 ≤ sizeLine; decide, fun p hp => ?_⟩
  refine w_nil ⟨by show 1 ≤ sizeLine; decide, fun t ht => ?_⟩
  refine w_var hσ ?_
  refine w_repT (sqT upd_same) (by intro z; cases z) h2 (by omega) (by show 1 ≤ 1000; decide) fun s hs => ?_
  rw [rep_flat]
  refine q s _ (same_in (same_in (same_new hp) ht) hs) ⟨_, upd_same, ?_⟩
  have hz : (upd (upd (upd H p (.tup [.int 0, .int 0])) t (.tup [.ref p])) s (.tup ((List.replicate n p).map V.ref))) p = some (pt (0, 0)) := keep (keep upd_same ht) hs
  generalize upd (upd (upd H p (.tup [.int 0, .int 0])) t (.tup [.ref p])) s (.tup ((List.replicate n p).map V.ref)) = H' at *
  exact pts_rep hz n
theorem pjoin1 : pjoin 1 = pplus := by
  funext x y
  unfold pjoin pplus
  rw [Int.one_mul]
theorem pjoinm : pjoin (-1) = pless := by
  funext x y
  unfold pjoin pless
  rw [Int.neg_mul, Int.one_mul, Int.sub_eq_add_neg]
theorem pless_self (xs : List (Int × Nat)) : List.zipWith pless xs xs = List.replicate xs.length (0, 0) := by
  induction xs with
  | nil => rfl
  | cons x xs ih =>
    rw [List.zipWith_cons_cons, ih, List.length_cons, List.replicate_succ]
    unfold pless
    rw [Int.sub_self, Mth.prt_zero]
theorem pplus_zero (ns : List Int) : List.zipWith pplus (ns.map (fun n => (n, 0)) ++ [(1, 0)]) (List.replicate (ns.length + 1) (0, 0)) = ns.map (fun n => (n, 0)) ++ [(1, 0)] := by
  induction ns with
  | nil => rfl
  | cons n ns ih =>
    rw [List.length_cons, List.replicate_succ, List.map_cons, List.cons_append, List.zipWith_cons_cons, ih]
    congr 1
    unfold pplus
    dsimp only
    rw [Int.pow_zero, Int.mul_one, Int.mul_one, Int.add_zero]
    rfl
/-- the tuple of the parts that f makes of a row's parts -/
theorem map_ok {K : PySem.W.Frag} {σ : L2.St} {H : Hp} {Q : VK} {i j k : Nat} {te : TE} {p : Addr} {xs : List (Int × Nat)} (f : Int × Nat → Int × Nat) (hi : σ[i]? = some (some (.ref p))) (hp : Rw H p xs) (hl : xs.length ≤ 100)
    (hw : ∀ v w, wipe (((wipe σ [j, k]).set j (some v)).set k (some w)) [j, k] = wipe σ [j, k])
    (he : ∀ x H1 (R : VK), x ∈ xs → (∀ s, H1 s = none → R (.ref s) (upd H1 s (pt (f x)))) → te (((wipe σ [j, k]).set j (some (.int x.1))).set k (some (.int (x.2 : Int)))) H1 R)
    (q : ∀ s H', Same H H' → Rw H' s (xs.map f) → Q (.ref s) H') :
    tCB (rTupOf K) (tCons (tLc (iTup K (tVar i)) (gTup K 2 (gCons (gName j) (gCons (gName k) gNil))) tYes te [j, k]) tNil) σ H Q := by
  obtain ⟨as, hp, hxs⟩ := hp
  have ll := hxs.len
  refine w_cb (w_cons (w_lc (w_iT (w_var hi ?_))))
  refine ⟨p, rfl, ⟨_, sqT hp⟩, fun D hD => lc_tup (K := K) (xs := as.map V.ref) (Mk H D (xs.map f)) (Mk.start hD) (fun i H' _ m => sqT (m.1 _ _ hp)) ?_ ?_⟩
  · rintro i v H1 hv m
    rw [List.getElem?_map] at hv
    obtain ⟨a, ha, rfl⟩ := Option.map_eq_some_iff.mp hv
    obtain ⟨x, hx, hax⟩ := hxs.geta ha
    have hax1 := m.1 _ _ hax
    refine w_gTup (sqT hax1) rfl (w_gCons (w_gName (w_gCons (w_gName (w_gNil ?_)))))
    refine ⟨hw _ _, w_yes (if_t rfl ?_)⟩
    refine he x H1 _ (List.mem_of_getElem? hx) fun s hs => ?_
    exact m.step (same_new hs) (by rw [List.getElem?_map, hx]; rfl) upd_same (by rw [List.length_map]; omega)
  · rintro H1 m
    refine w_nil ?_
    exact m.tuple (by rw [List.length_map, List.length_map]; omega) q
/-- numbers drawn far, in a list at D -/
def Fl (l D : Addr) (H : Hp) (i : Nat) (H' : Hp) : Prop := Dr l H H' ∧ H D = none ∧ D ≠ l ∧ ∃ ns : List Int, H' D = some (.lst (ns.map V.int)) ∧ ns.length = i ∧ ∀ n ∈ ns, Bits 200 n
theorem Fl.step {l D : Addr} {H H1 H2 : Hp} {i : Nat} {n : Int} (f : Fl l D H i H1) (d : Dr l H1 H2) (bn : Bits 200 n) (hi : i ≤ 1000) :
    ∃ acc, H2 D = some (.lst acc) ∧ acc.length < sizeLine ∧ Fl l D H (i + 1) (upd H2 D (.lst (acc ++ [.int n]))) := by
  obtain ⟨d1, hD, nDl, ns, h1, h2, h3⟩ := f
  have dd := d1.trans d
  refine ⟨_, d.keep _ _ nDl h1, by rw [List.length_map]; exact small1000 (by omega), ⟨fun b o nb e => ?_, dd.src0, ?_⟩, hD, nDl, ns ++ [n], by rw [upd_same, List.map_append]; rfl, by rw [List.length_append, h2]; rfl, ?_⟩
  · rw [upd_ne (ne_of_none e hD)]
    exact dd.keep b o nb e
  · obtain ⟨x, y, z, h⟩ := dd.src
    exact ⟨x, y, z, by rw [upd_ne nDl.symm]; exact h⟩
  · intro x hx
    rcases List.mem_append.mp hx with h | h
    · exact h3 x h
    · rw [List.mem_singleton.mp h]; exact bn
theorem own_b {ns : List Int} (h : ∀ n ∈ ns, Bits 200 n) : AllB 1000000 (ns.map (fun n => (n, 0)) ++ [(1, 0)]) := fun x hx => by
  rcases List.mem_append.mp hx with h1 | h1
  · obtain ⟨n, hn, rfl⟩ := List.mem_map.mp h1
    exact ⟨(h n hn).mono (by decide), Nat.zero_le _⟩
  · rw [List.mem_singleton.mp h1]
    exact ⟨Bits.mono (m := 1) (by unfold Bits; decide) (by decide), Nat.zero_le _⟩
theorem rep_b {n : Nat} : AllB 1000000 (List.replicate n (0, 0)) := fun x hx => by
  rw [(List.mem_replicate.mp hx).2]
  exact ⟨Bits.mono (m := 1) (by unfold Bits; decide) (by decide), Nat.zero_le _⟩
theorem p_law {K : PySem.W.Frag} {vs : List V} {H : Hp} {Q : VK} {E : XK} (h : spLaw K vs H Q E) : t_law K { nx := fun _ H' => Q .non H', rt := Q } (start N_law vs) H := by
  obtain ⟨a, ns, rfl, hS, hlen, q⟩ := h
  unfold t_law
  refine w_seq (w_cells (fun σ => ∃ y1 y2 y3 y4 y5 y6 y7 y8 y9 y10 y11 y12 y13 y14, σ = [some (.ref a), y1, y2, y3, y4, y5, y6, y7, y8, y9, y10, y11, y12, y13, y14]) ⟨none, none, none, none, none, none, none, none, none, none, none, none, none, none, rfl⟩ rfl hS hlen ?_ ?_)
  · rintro z σ H1 N ⟨y1, y2, y3, y4, y5, y6, y7, y8, y9, y10, y11, y12, y13, y14, rfl⟩ _ hN
    walk_at "go"
    refine ⟨z, rfl, fun l H2 hl s2 src => ?_⟩
    walk_at "go"
    refine ⟨l, 7, rfl, src, by decide, by decide, fun dm H3 m0 m1 d3 => ?_⟩
    obtain ⟨n, hn⟩ := Int.eq_ofNat_of_zero_le (by omega : 0 ≤ 2 + dm)
    have n2 : 2 ≤ n := by omega
    have n8 : n ≤ 8 := by omega
    walk_at "go"
    rw [hn]
    clear hn m0 m1
    refine ⟨l, n, rfl, d3.src, by omega, fun p1 xs H4 hlx bxs d4 rx => ?_⟩
    have d24 := d3.trans d4
    walk_at "go"
    refine ⟨l, n, rfl, d4.src, by omega, fun p2 ys H5 hly bys d5 ry => ?_⟩
    have d25 := d24.trans d5
    have rx5 := rx.dr d5
    walk_at "go"
    refine ⟨by show 2 ≤ sizeLine; decide, fun L hL => ?_⟩
    have nLl := d25.src.ne_new hL
    have d26 := d25.new (o := .lst [.ref p2, .ref p1]) hL
    walk_at "go"
    refine ⟨l, 5, rfl, d26.src, by decide, by decide, fun dd H6 k0 k1 d6 => ?_⟩
    have hL6 := d6.keep _ _ nLl upd_same
    have rx6 := (rx5.same (same_new hL)).dr d6
    have ry6 := (ry.same (same_new hL)).dr d6
    have d26 := d26.trans d6
    clear d6
    walk_at "go"
    obtain ⟨pr, zs, at1, rz, hlz, bzs⟩ : ∃ (pr : Addr) (zs : List (Int × Nat)), atI [V.ref p2, .ref p1] (dd / 4) = some (.ref pr) ∧ Rw H6 pr zs ∧ zs.length = n ∧ AllB 500 zs := by
      rcases (by omega : dd / 4 = 0 ∨ dd / 4 = 1) with h | h <;> rw [h]
      · exact ⟨p2, ys, rfl, ry6, hly, bys⟩
      · exact ⟨p1, xs, rfl, rx6, hlx, bxs⟩
    refine w_ixL (sqL hL6) at1 ?_
    clear hL6 at1 ry6 ry bys hly hL nLl
    have X : AllB 1000000 xs := bxs.mono (by decide)
    have Z : AllB 1000000 zs := bzs.mono (by decide)
    have X3 : AllB 1000 xs := bxs.mono (by decide)
    have Z3 : AllB 1000 zs := bzs.mono (by decide)
    have sl : ∀ {H' : Hp}, Same H6 H' → Dr l H2 H' := fun s => d26.trans (Dr.same d26.src s)
    walk_at "go"
    refine ⟨2, rfl, by decide, by decide, for_range (lo := 0) (n := 2) (fun i σ H' => ∃ y6, σ = [some (.ref a), some (.int z), some (.ref l), some (.int n), some (.ref p1), some (.ref pr), y6, y7, y8, y9, y10, y11, y12, y13, y14] ∧ Same H6 H') ⟨_, rfl, Same.refl _⟩ ?_ ?_⟩
    · rintro i σ H7 hi ⟨y6, rfl, s7⟩
      walk_at "go"
      refine ⟨p1, pr, xs, zs, rfl, rx6.same s7, rz.same s7, by omega, by omega, X, Z, fun s H8 s8 rs => ?_⟩
      have s8 := s7.trans s8
      walk_at "go"
      refine ⟨p1, pr, xs, zs, 1, rfl, rx6.same s8, rz.same s8, by omega, by omega, X3, Z3, by unfold Bits; decide, fun t H9 s9 rt => ?_⟩
      rw [pjoin1] at rt
      refine w_neD_same (rs.same s9).dp rt.dp (row_shaped _) ?_
      have s9 := s8.trans s9
      walk_at "go"
      refine ⟨p1, pr, xs, zs, rfl, rx6.same s9, rz.same s9, by omega, by omega, X, Z, fun s H10 s10 rs => ?_⟩
      have s10 := s9.trans s10
      walk_at "go"
      refine ⟨p1, pr, xs, zs, -1, rfl, rx6.same s10, rz.same s10, by omega, by omega, X3, Z3, by unfold Bits; decide, fun t H11 s11 rt => ?_⟩
      rw [pjoinm] at rt
      refine w_neD_same (rs.same s11).dp rt.dp (row_shaped _) ?_
      walk_at "go"
      exact ⟨_, rfl, s10.trans s11⟩
    · rintro σ H7 ⟨y6, rfl, s7⟩
      have d27 := sl s7
      have rx7 := rx6.same s7
      have rz7 := rz.same s7
      clear sl rx6 rz
      walk_at "go"
      refine ⟨l, 61, rfl, d27.src, by decide, by decide, fun dc H8 c0 c1 d8 => ?_⟩
      have d28 := d27.trans d8
      walk_at "go"
      refine ⟨by show 4 ≤ sizeLine; decide, fun L hL => ?_⟩
      have nLl := d28.src.ne_new hL
      have d28 := d28.new (o := .lst [.int 0, .int 1, .int 2, .int dc]) hL
      walk_at "go"
      refine ⟨l, 4, rfl, d28.src, by decide, by decide, fun dd H9 k0 k1 d9 => ?_⟩
      have hL9 := d9.keep _ _ nLl upd_same
      have rx9 := ((rx7.dr d8).same (same_new hL)).dr d9
      have rz9 := ((rz7.dr d8).same (same_new hL)).dr d9
      have d29 := d28.trans d9
      clear rx7 rz7 d9 d8 d28 d27
      obtain ⟨c, at1, hc⟩ : ∃ c : Nat, atI [V.int 0, .int 1, .int 2, .int dc] dd = some (.int (c : Int)) ∧ c ≤ 100 := by
        obtain ⟨dc, rfl⟩ := Int.eq_ofNat_of_zero_le c0
        rcases (by omega : dd = 0 ∨ dd = 1 ∨ dd = 2 ∨ dd = 3) with h | h | h | h <;> subst h
        · exact ⟨0, rfl, by decide⟩
        · exact ⟨1, rfl, by decide⟩
        · exact ⟨2, rfl, by decide⟩
        · exact ⟨dc, rfl, by omega⟩
      refine w_ixL (sqL hL9) at1 ?_
      clear hL9 at1 hL nLl
      -- halved
      walk_at "go"
      refine ⟨p1, xs, c, rfl, rx9, by omega, fun s H10 s10 rs => ?_⟩
      refine map_ok (fun x => Mth.prt x.1 (x.2 + c)) (by rfl) (rx9.same s10) (by omega) (fun _ _ => rfl) (fun x H' R hx r => ?_) fun t H11 s11 rt => ?_
      · walk_at "go"
        exact ⟨_, x.2 + c, by rw [Int.natCast_add], r⟩
      refine w_neD_same (rs.same s11).dp rt.dp (row_shaped _) ?_
      have s11 := s10.trans s11
      have rx11 := rx9.same s11
      have rz11 := rz9.same s11
      have d211 := d29.trans (Dr.same d29.src s11)
      clear rs rt s10 rx9 rz9 d29 s11
      walk_at "go"
      refine ⟨l, rfl, d211.src, fun often H12 bo d12 => ?_⟩
      have d212 := d211.trans d12
      have rx12 := rx11.dr d12
      have rz12 := rz11.dr d12
      clear d211 rx11 rz11 d12
      walk_at "go"
      refine ⟨p1, xs, often, rfl, rx12, by omega, X, bo.mono (by decide), fun s H13 s13 rs => ?_⟩
      refine map_ok (fun x => Mth.prt (x.1 * often) x.2) (by rfl) (rx12.same s13) (by omega) (fun _ _ => rfl) (fun x H' R hx r => ?_) fun t H14 s14 rt => ?_
      · walk_at "go"
        refine w_mulX (mulB (X3 x hx).1 bo (by decide)) ?_
        walk_at "go"
        exact ⟨_, x.2, rfl, r⟩
      refine w_neD_same (rs.same s14).dp rt.dp (row_shaped _) ?_
      have s14 := s13.trans s14
      have rx14 := rx12.same s14
      have rz14 := rz12.same s14
      have d214 := d212.trans (Dr.same d212.src s14)
      clear rs rt s13 rx12 rz12 d212 s14
      walk_at "go"
      refine ⟨p1, p1, xs, xs, rfl, rx14, rx14, rfl, by omega, X, X, fun s H15 s15 rs => ?_⟩
      rw [pless_self, hlx] at rs
      refine rep_ok (by rfl) n2 (by omega) fun t H16 s16 rt => ?_
      refine w_neD_same (rs.same s16).dp rt.dp (row_shaped _) ?_
      have s16 := s15.trans s16
      have rx16 := rx14.same s16
      have rz16 := rz14.same s16
      have d216 := d214.trans (Dr.same d214.src s16)
      clear rs rt s15 rx14 rz14 d214 s16
      walk_at "go"
      refine ⟨p1, pr, xs, zs, rfl, rx16, rz16, by omega, by omega, X, Z, fun s H17 s17 rs => ?_⟩
      have d217 := d216.trans (Dr.same d216.src s17)
      obtain ⟨as, hs, _⟩ := rs
      clear d216 rx16 rz16 s17
      walk_at "go"
      -- numbers
      have en : ((n : Int) - 1).toNat = n - 1 := by omega
      refine ⟨_, rfl, by omega, by omega, fun D hD => ?_⟩
      rw [en]
      have nDl := d217.src.ne_new hD
      refine lc_range (lo := 0) (n := n - 1) (Fl l D H17) ⟨(Dr.refl d217.src).new hD, hD, nDl, [], upd_same, rfl, fun n hn => by cases hn⟩ ?_ ?_
      · rintro i H18 hi m
        walk_at "go"
        refine ⟨rfl, w_yes (if_t rfl ?_)⟩
        walk_at "go"
        refine ⟨l, rfl, m.1.src, fun f H19 bf d19 => ?_⟩
        exact m.step d19 bf (by omega)
      · rintro H18 ⟨d18, _, _, ms, hms, lms, bms⟩
        walk_at "go"
        refine w_tupOfL (sqL hms) fun pn hpn => ?_
        have d219 := (d217.trans d18).new (o := .tup (ms.map V.int)) hpn
        have hn19 : (upd H18 pn (.tup (ms.map V.int))) pn = some (.tup (ms.map V.int)) := upd_same
        clear d18 hms hD nDl d217
        generalize upd H18 pn (.tup (ms.map V.int)) = H19 at *
        walk_at "go"
        refine ⟨pn, ms, rfl, hn19, by omega, fun s H20 s20 rs => ?_⟩
        refine own_ok (i := 9) (j := 14) (by rfl) (fun _ => rfl) (fun _ => rfl) (s20 _ _ hn19) (by omega) fun t H21 s21 rt => ?_
        refine w_neD_same (rs.same s21).dp rt.dp (row_shaped _) ?_
        have s21 := s20.trans s21
        have hn21 := s21 _ _ hn19
        have d221 := d219.trans (Dr.same d219.src s21)
        clear rs rt s20 hn19 d219 s21
        walk_at "go"
        have en2 : (n : Int) - 1 = ((n - 1 : Nat) : Int) := by omega
        rw [en2]
        refine ⟨n - 1, rfl, by omega, fun pz H22 s22 rz => ?_⟩
        have e1 : n - 1 + 1 = n := by omega
        rw [e1] at rz
        walk_at "go"
        refine rep_ok (by rfl) n2 (by omega) fun t H23 s23 rt => ?_
        have rz23 := rz.same s23
        refine w_neD_same rz23.dp rt.dp (row_shaped _) ?_
        have s23 := s22.trans s23
        have hn23 := s23 _ _ hn21
        have d223 := d221.trans (Dr.same d221.src s23)
        walk_at "go"
        refine ⟨pn, ms, rfl, hn23, by omega, fun s H24 s24 rs => ?_⟩
        walk_at "go"
        have e2 : ms.length + 1 = n := by omega
        refine ⟨s, pz, _, _, rfl, rs, rz23.same s24, by rw [List.length_append, List.length_map, List.length_replicate]; exact e2, by rw [List.length_append, List.length_map]; show ms.length + 1 ≤ 100; omega, own_b bms, rep_b, fun so H25 s25 rs2 => ?_⟩
        rw [← e2, pplus_zero] at rs2
        have s25 := s24.trans s25
        walk_at "go"
        refine ⟨pn, ms, rfl, s25 _ _ hn23, by omega, fun s3 H26 s26 rs3 => ?_⟩
        refine w_neD_same (rs2.same s26).dp rs3.dp (row_shaped _) ?_
        have d226 := d223.trans (Dr.same d223.src (s25.trans s26))
        walk_at "go"
        exact hN _ _ ⟨_, _, _, _, _, _, _, _, _, _, _, _, _, _, rfl⟩ (d226.same_of s2 hl)
  · rintro σ H1 ⟨y1, y2, y3, y4, y5, y6, y7, y8, y9, y10, y11, y12, y13, y14, rfl⟩ _
    walk_at "go"
    refine ⟨by show 1 ≤ sizeLine; decide, fun p hp => ?_⟩
    walk_at "go"
    refine ⟨p, [7], rfl, upd_same, by decide, fun s H2 s2 rs => ?_⟩
    walk_at "go"
    refine ⟨by show 2 ≤ sizeLine; decide, fun a1 h1 => ?_⟩
    walk_at "go"
    refine ⟨by show 2 ≤ sizeLine; decide, fun a2 h2 => ?_⟩
    walk_at "go"
    refine ⟨by show 2 ≤ sizeLine; decide, fun a3 h3 => ?_⟩
    have r1 : Rw (upd (upd (upd H2 a1 (.tup [.int 7, .int 0])) a2 (.tup [.int 1, .int 0])) a3 (.tup [.ref a1, .ref a2])) a3 [(7, 0), (1, 0)] := ⟨[a1, a2], upd_same, .cons (keep (keep upd_same h2) h3) (.cons (keep upd_same h3) .nil)⟩
    refine w_eqD_same (rs.same (same_in (same_in (same_new h1) h2) h3)).dp r1.dp rfl ?_
    walk_at "go"
    refine ⟨1, rfl, by decide, fun s H5 s5 rs => ?_⟩
    walk_at "go"
    refine ⟨by show 2 ≤ sizeLine; decide, fun a1 h1 => ?_⟩
    walk_at "go"
    refine ⟨by show 2 ≤ sizeLine; decide, fun a2 h2 => ?_⟩
    walk_at "go"
    refine ⟨by show 2 ≤ sizeLine; decide, fun a3 h3 => ?_⟩
    have r1 : Rw (upd (upd (upd H5 a1 (.tup [.int 0, .int 0])) a2 (.tup [.int 0, .int 0])) a3 (.tup [.ref a1, .ref a2])) a3 [(0, 0), (0, 0)] := ⟨[a1, a2], upd_same, .cons (keep (keep upd_same h2) h3) (.cons (keep upd_same h3) .nil)⟩
    refine w_eqD_same (rs.same (same_in (same_in (same_new h1) h2) h3)).dp r1.dp rfl ?_
    exact q _

def top (i : Nat) : Stmt := PySem.Challenge.pw_sumtold_k06_rows.main.body.getD i (.Pass ⟨0, 0, 0, 0⟩)
structure Bl (mg : Str → Option Value) : Prop where
  b_int : mg "int" = none
  b_isinstance : mg "isinstance" = none
  b_len : mg "len" = none
  b_max : mg "max" = none
  b_min : mg "min" = none
  b_range : mg "range" = none
  b_tuple : mg "tuple" = none
  b_zip : mg "zip" = none
section
variable {P : Program} {w : World} {K : PySem.W.Frag} {mg : Str → Option Value} {base : Heap}
abbrev s_part : Stmt := top 1
theorem sc_part : FnScope N_part ["num", "e"] (defScope s_part) := ⟨rfl, rfl, rfl, by decide +kernel, rfl, by decide +kernel, by decide +kernel⟩
theorem ok_part (F : ∃ fd, FnP K "part" s_part (He.ga K "part") fd) (gm : mg "part" = some (.ref (He.ga K "part"))) (B : Bl mg)  : Has P w K mg base "part" 1 ["num", "e"] spPart := by
  obtain ⟨fd, F⟩ := F
  refine ⟨_, fd, gm, F.kp, FunD.bindsN (ps := ["num", "e"]) F fun _ _ _ _ _ _ us hl => match us, hl with | [_, _], _ => rfl, F.ok sc_part (fun vs H Q E h => p_part_len h) (fun cdv A outer s H vs Q E hr h => ⟨t_part K, PSs.nox ?_, p_part h⟩)⟩
  have hu := hu_of hr
  exact (pss_cons (ps_if (pt_cmpR op_eq (pv 0) pe_int (nomark _)) (pss_one (ps_ret (pe_tup (pa_cons pe_int (pa_cons pe_int pa_nil))))) pss_nil)
    (pss_cons (ps_set (i := 2) sc_part.nd rfl (Or.inl rfl) (pe_callB (call_min2 rfl) (by rfl) B.b_min (by decide +kernel) (pa_cons (pv 1) (pa_cons (pe_op op_sub (pe_bits (pe_op op_and (pv 0) (pe_op op_sub pe_int (pv 0)))) pe_int) pa_nil))))
    (pss_one (ps_ret (pe_tup (pa_cons (pe_op op_shr (pv 0) (pv 2)) (pa_cons (pe_op op_sub (pv 1) (pv 2)) pa_nil)))))))

abbrev s_part_plus : Stmt := top 2
theorem sc_part_plus : FnScope N_part_plus ["one", "other"] (defScope s_part_plus) := ⟨rfl, rfl, rfl, by decide +kernel, rfl, by decide +kernel, by decide +kernel⟩
theorem ok_part_plus (F : ∃ fd, FnP K "part_plus" s_part_plus (He.ga K "part_plus") fd) (gm : mg "part_plus" = some (.ref (He.ga K "part_plus"))) (B : Bl mg) (h_part : Has P w K mg base "part" 1 ["num", "e"] spPart) : Has P w K mg base "part_plus" 2 ["one", "other"] spPartPlus := by
  obtain ⟨fd, F⟩ := F
  refine ⟨_, fd, gm, F.kp, FunD.bindsN (ps := ["one", "other"]) F fun _ _ _ _ _ _ us hl => match us, hl with | [_, _], _ => rfl, F.ok sc_part_plus (fun vs H Q E h => p_part_plus_len h) (fun cdv A outer s H vs Q E hr h => ⟨t_part_plus K, PSs.nox ?_, p_part_plus h⟩)⟩
  have hu := hu_of hr
  exact (pss_cons (ps_set (i := 2) sc_part_plus.nd rfl (Or.inl rfl) (pe_callB (call_max2 rfl) (by rfl) B.b_max (by decide +kernel) (pa_cons (pe_ix ix_tup (pv 0) pe_int (fun _ _ => rfl)) (pa_cons (pe_ix ix_tup (pv 1) pe_int (fun _ _ => rfl)) pa_nil))))
    (pss_one (ps_ret (pe_has h_part (hr.mono (by decide)) (by rfl) (pa_cons (pe_op op_add (pe_op op_shlW (pe_ix ix_tup (pv 0) pe_int (fun _ _ => rfl)) (pe_op op_sub (pv 2) (pe_ix ix_tup (pv 0) pe_int (fun _ _ => rfl)))) (pe_op op_shlW (pe_ix ix_tup (pv 1) pe_int (fun _ _ => rfl)) (pe_op op_sub (pv 2) (pe_ix ix_tup (pv 1) pe_int (fun _ _ => rfl))))) (pa_cons (pv 2) pa_nil))))))

abbrev s_part_less : Stmt := top 3
theorem sc_part_less : FnScope N_part_less ["one", "other"] (defScope s_part_less) := ⟨rfl, rfl, rfl, by decide +kernel, rfl, by decide +kernel, by decide +kernel⟩
theorem ok_part_less (F : ∃ fd, FnP K "part_less" s_part_less (He.ga K "part_less") fd) (gm : mg "part_less" = some (.ref (He.ga K "part_less"))) (B : Bl mg) (h_part_plus : Has P w K mg base "part_plus" 2 ["one", "other"] spPartPlus) : Has P w K mg base "part_less" 3 ["one", "other"] spPartLess := by
  obtain ⟨fd, F⟩ := F
  refine ⟨_, fd, gm, F.kp, FunD.bindsN (ps := ["one", "other"]) F fun _ _ _ _ _ _ us hl => match us, hl with | [_, _], _ => rfl, F.ok sc_part_less (fun vs H Q E h => p_part_less_len h) (fun cdv A outer s H vs Q E hr h => ⟨t_part_less K, PSs.nox ?_, p_part_less h⟩)⟩
  have hu := hu_of hr
  exact (pss_one (ps_ret (pe_has h_part_plus (hr.mono (by decide)) (by rfl) (pa_cons (pv 0) (pa_cons (pe_tup (pa_cons (pe_op op_sub pe_int (pe_ix ix_tup (pv 1) pe_int (fun _ _ => rfl))) (pa_cons (pe_ix ix_tup (pv 1) pe_int (fun _ _ => rfl)) pa_nil))) pa_nil)))))

abbrev s_own_row : Stmt := top 4
theorem sc_own_row : FnScope N_own_row ["numbers"] (defScope s_own_row) := ⟨rfl, rfl, rfl, by decide +kernel, rfl, by decide +kernel, by decide +kernel⟩
theorem ok_own_row (F : ∃ fd, FnP K "own_row" s_own_row (He.ga K "own_row") fd) (gm : mg "own_row" = some (.ref (He.ga K "own_row"))) (B : Bl mg)  : Has P w K mg base "own_row" 1 ["numbers"] (spOwnRow K) := by
  obtain ⟨fd, F⟩ := F
  refine ⟨_, fd, gm, F.kp, FunD.bindsN (ps := ["numbers"]) F fun _ _ _ _ _ _ us hl => match us, hl with | [_], _ => rfl, F.ok sc_own_row (fun vs H Q E h => p_own_row_len h) (fun cdv A outer s H vs Q E hr h => ⟨t_own_row K, PSs.nox ?_, p_own_row h⟩)⟩
  have hu := hu_of hr
  exact (pss_one (ps_ret (pe_callTy call_tuple_of (by rfl) B.b_tuple (by decide +kernel) (pa_cons (pe_op op_cat (pe_lc (own := [("number", 1)]) (g := (gName 1)) (tt := tYes) (te := (tTup (tCons (tVar 1) (tCons (tC (.int 0)) tNil)))) (wi := (iTup K (tVar 0))) rfl sc_own_row.nd (pi_tup (pv 0)) (blkOk_by (own := [("number", 1)]) (N := N_own_row) (sc := defScope s_own_row) (by decide +kernel)) (fun _ _ _ _ _ => (pg_name (i := 1) sc_own_row.nd rfl (Or.inl rfl))) (fun _ _ _ _ _ => pts_nil) (fun _ _ _ _ _ => (pe_tup (pa_cons (pv 1) (pa_cons pe_int pa_nil))))) (pe_lst (pa_cons (pe_tup (pa_cons pe_int (pa_cons pe_int pa_nil))) pa_nil))) pa_nil))))

abbrev s_zero_row : Stmt := top 5
theorem sc_zero_row : FnScope N_zero_row ["many"] (defScope s_zero_row) := ⟨rfl, rfl, rfl, by decide +kernel, rfl, by decide +kernel, by decide +kernel⟩
theorem ok_zero_row (F : ∃ fd, FnP K "zero_row" s_zero_row (He.ga K "zero_row") fd) (gm : mg "zero_row" = some (.ref (He.ga K "zero_row"))) (B : Bl mg)  : Has P w K mg base "zero_row" 1 ["many"] spZeroRow := by
  obtain ⟨fd, F⟩ := F
  refine ⟨_, fd, gm, F.kp, FunD.bindsN (ps := ["many"]) F fun _ _ _ _ _ _ us hl => match us, hl with | [_], _ => rfl, F.ok sc_zero_row (fun vs H Q E h => p_zero_row_len h) (fun cdv A outer s H vs Q E hr h => ⟨t_zero_row K, PSs.nox ?_, p_zero_row h⟩)⟩
  have hu := hu_of hr
  exact (pss_one (ps_ret (pe_callTy call_tuple_of (by rfl) B.b_tuple (by decide +kernel) (pa_cons (pe_lc (own := [("k", 1)]) (g := (gName 1)) (tt := tYes) (te := (tTup (tCons (tC (.int 0)) (tCons (tC (.int 0)) tNil)))) (wi := (iRng1 (tCons (tOp rAddI (tVar 0) (tC (.int 1))) tNil))) rfl sc_zero_row.nd (pi_range1 (by rfl) B.b_range (pa_cons (pe_op op_add (pv 0) pe_int) pa_nil)) (blkOk_by (own := [("k", 1)]) (N := N_zero_row) (sc := defScope s_zero_row) (by decide +kernel)) (fun _ _ _ _ _ => (pg_name (i := 1) sc_zero_row.nd rfl (Or.inl rfl))) (fun _ _ _ _ _ => pts_nil) (fun _ _ _ _ _ => (pe_tup (pa_cons pe_int (pa_cons pe_int pa_nil))))) pa_nil))))

abbrev s_row_plus : Stmt := top 6
theorem sc_row_plus : FnScope N_row_plus ["one", "other"] (defScope s_row_plus) := ⟨rfl, rfl, rfl, by decide +kernel, rfl, by decide +kernel, by decide +kernel⟩
theorem ok_row_plus (F : ∃ fd, FnP K "row_plus" s_row_plus (He.ga K "row_plus") fd) (gm : mg "row_plus" = some (.ref (He.ga K "row_plus"))) (B : Bl mg) (h_part_plus : Has P w K mg base "part_plus" 2 ["one", "other"] spPartPlus) : Has P w K mg base "row_plus" 3 ["one", "other"] (spRowPlus K) := by
  obtain ⟨fd, F⟩ := F
  refine ⟨_, fd, gm, F.kp, FunD.bindsN (ps := ["one", "other"]) F fun _ _ _ _ _ _ us hl => match us, hl with | [_, _], _ => rfl, F.ok sc_row_plus (fun vs H Q E h => p_row_plus_len h) (fun cdv A outer s H vs Q E hr h => ⟨t_row_plus K, PSs.nox ?_, p_row_plus h⟩)⟩
  have hu := hu_of hr
  exact (pss_one (ps_ret (pe_callTy call_tuple_of (by rfl) B.b_tuple (by decide +kernel) (pa_cons (pe_lc (own := [("a", 2), ("b", 3)]) (g := (gTup K 2 (gCons (gName 2) (gCons (gName 3) gNil)))) (tt := tYes) (te := (tCall spPartPlus [] E0 (tCons (tVar 2) (tCons (tVar 3) tNil)))) (wi := (RZ.iZipA K (tCons (tVar 0) (tCons (tVar 1) tNil)))) rfl sc_row_plus.nd (RZ.pi_zipA (by rfl) B.b_zip (pa_cons (pv 0) (pa_cons (pv 1) pa_nil))) (blkOk_by (own := [("a", 2), ("b", 3)]) (N := N_row_plus) (sc := defScope s_row_plus) (by decide +kernel)) (fun _ _ _ _ _ => (pg_tup rfl (pgs_cons (pg_name (i := 2) sc_row_plus.nd rfl (Or.inl rfl)) (pgs_cons (pg_name (i := 3) sc_row_plus.nd rfl (Or.inl rfl)) pgs_nil)))) (fun _ _ _ _ _ => pts_nil) (fun _ _ _ _ _ => (pe_has h_part_plus (hr.mono (by decide)) (by rfl) (pa_cons (pv 2) (pa_cons (pv 3) pa_nil))))) pa_nil))))

abbrev s_row_less : Stmt := top 7
theorem sc_row_less : FnScope N_row_less ["one", "other"] (defScope s_row_less) := ⟨rfl, rfl, rfl, by decide +kernel, rfl, by decide +kernel, by decide +kernel⟩
theorem ok_row_less (F : ∃ fd, FnP K "row_less" s_row_less (He.ga K "row_less") fd) (gm : mg "row_less" = some (.ref (He.ga K "row_less"))) (B : Bl mg) (h_part_less : Has P w K mg base "part_less" 3 ["one", "other"] spPartLess) : Has P w K mg base "row_less" 4 ["one", "other"] (spRowLess K) := by
  obtain ⟨fd, F⟩ := F
  refine ⟨_, fd, gm, F.kp, FunD.bindsN (ps := ["one", "other"]) F fun _ _ _ _ _ _ us hl => match us, hl with | [_, _], _ => rfl, F.ok sc_row_less (fun vs H Q E h => p_row_less_len h) (fun cdv A outer s H vs Q E hr h => ⟨t_row_less K, PSs.nox ?_, p_row_less h⟩)⟩
  have hu := hu_of hr
  exact (pss_one (ps_ret (pe_callTy call_tuple_of (by rfl) B.b_tuple (by decide +kernel) (pa_cons (pe_lc (own := [("a", 2), ("b", 3)]) (g := (gTup K 2 (gCons (gName 2) (gCons (gName 3) gNil)))) (tt := tYes) (te := (tCall spPartLess [] E0 (tCons (tVar 2) (tCons (tVar 3) tNil)))) (wi := (RZ.iZipA K (tCons (tVar 0) (tCons (tVar 1) tNil)))) rfl sc_row_less.nd (RZ.pi_zipA (by rfl) B.b_zip (pa_cons (pv 0) (pa_cons (pv 1) pa_nil))) (blkOk_by (own := [("a", 2), ("b", 3)]) (N := N_row_less) (sc := defScope s_row_less) (by decide +kernel)) (fun _ _ _ _ _ => (pg_tup rfl (pgs_cons (pg_name (i := 2) sc_row_less.nd rfl (Or.inl rfl)) (pgs_cons (pg_name (i := 3) sc_row_less.nd rfl (Or.inl rfl)) pgs_nil)))) (fun _ _ _ _ _ => pts_nil) (fun _ _ _ _ _ => (pe_has h_part_less (hr.mono (by decide)) (by rfl) (pa_cons (pv 2) (pa_cons (pv 3) pa_nil))))) pa_nil))))

abbrev s_row_halved : Stmt := top 8
theorem sc_row_halved : FnScope N_row_halved ["row", "c"] (defScope s_row_halved) := ⟨rfl, rfl, rfl, by decide +kernel, rfl, by decide +kernel, by decide +kernel⟩
theorem ok_row_halved (F : ∃ fd, FnP K "row_halved" s_row_halved (He.ga K "row_halved") fd) (gm : mg "row_halved" = some (.ref (He.ga K "row_halved"))) (B : Bl mg) (h_part : Has P w K mg base "part" 1 ["num", "e"] spPart) : Has P w K mg base "row_halved" 2 ["row", "c"] (spRowHalved K) := by
  obtain ⟨fd, F⟩ := F
  refine ⟨_, fd, gm, F.kp, FunD.bindsN (ps := ["row", "c"]) F fun _ _ _ _ _ _ us hl => match us, hl with | [_, _], _ => rfl, F.ok sc_row_halved (fun vs H Q E h => p_row_halved_len h) (fun cdv A outer s H vs Q E hr h => ⟨t_row_halved K, PSs.nox ?_, p_row_halved h⟩)⟩
  have hu := hu_of hr
  exact (pss_one (ps_ret (pe_callTy call_tuple_of (by rfl) B.b_tuple (by decide +kernel) (pa_cons (pe_lc (own := [("num", 2), ("e", 3)]) (g := (gTup K 2 (gCons (gName 2) (gCons (gName 3) gNil)))) (tt := tYes) (te := (tCall spPart [] E0 (tCons (tVar 2) (tCons (tOp rAddI (tVar 3) (tVar 1)) tNil)))) (wi := (iTup K (tVar 0))) rfl sc_row_halved.nd (pi_tup (pv 0)) (blkOk_by (own := [("num", 2), ("e", 3)]) (N := N_row_halved) (sc := defScope s_row_halved) (by decide +kernel)) (fun _ _ _ _ _ => (pg_tup rfl (pgs_cons (pg_name (i := 2) sc_row_halved.nd rfl (Or.inl rfl)) (pgs_cons (pg_name (i := 3) sc_row_halved.nd rfl (Or.inl rfl)) pgs_nil)))) (fun _ _ _ _ _ => pts_nil) (fun _ _ _ _ _ => (pe_has h_part (hr.mono (by decide)) (by rfl) (pa_cons (pv 2) (pa_cons (pe_op op_add (pv 3) (pv 1)) pa_nil))))) pa_nil))))

abbrev s_row_times : Stmt := top 9
theorem sc_row_times : FnScope N_row_times ["row", "many"] (defScope s_row_times) := ⟨rfl, rfl, rfl, by decide +kernel, rfl, by decide +kernel, by decide +kernel⟩
theorem ok_row_times (F : ∃ fd, FnP K "row_times" s_row_times (He.ga K "row_times") fd) (gm : mg "row_times" = some (.ref (He.ga K "row_times"))) (B : Bl mg) (h_part : Has P w K mg base "part" 1 ["num", "e"] spPart) : Has P w K mg base "row_times" 2 ["row", "many"] (spRowTimes K) := by
  obtain ⟨fd, F⟩ := F
  refine ⟨_, fd, gm, F.kp, FunD.bindsN (ps := ["row", "many"]) F fun _ _ _ _ _ _ us hl => match us, hl with | [_, _], _ => rfl, F.ok sc_row_times (fun vs H Q E h => p_row_times_len h) (fun cdv A outer s H vs Q E hr h => ⟨t_row_times K, PSs.nox ?_, p_row_times h⟩)⟩
  have hu := hu_of hr
  exact (pss_one (ps_ret (pe_callTy call_tuple_of (by rfl) B.b_tuple (by decide +kernel) (pa_cons (pe_lc (own := [("num", 2), ("e", 3)]) (g := (gTup K 2 (gCons (gName 2) (gCons (gName 3) gNil)))) (tt := tYes) (te := (tCall spPart [] E0 (tCons (tOp rMulX (tVar 2) (tVar 1)) (tCons (tVar 3) tNil)))) (wi := (iTup K (tVar 0))) rfl sc_row_times.nd (pi_tup (pv 0)) (blkOk_by (own := [("num", 2), ("e", 3)]) (N := N_row_times) (sc := defScope s_row_times) (by decide +kernel)) (fun _ _ _ _ _ => (pg_tup rfl (pgs_cons (pg_name (i := 2) sc_row_times.nd rfl (Or.inl rfl)) (pgs_cons (pg_name (i := 3) sc_row_times.nd rfl (Or.inl rfl)) pgs_nil)))) (fun _ _ _ _ _ => pts_nil) (fun _ _ _ _ _ => (pe_has h_part (hr.mono (by decide)) (by rfl) (pa_cons (pe_op op_mulX (pv 2) (pv 1)) (pa_cons (pv 3) pa_nil))))) pa_nil))))

abbrev s_l_cell_at : Stmt := top 11
theorem sc_l_cell_at : FnScope N_l_cell_at ["_law_script", "_law_k"] (defScope s_l_cell_at) := ⟨rfl, rfl, rfl, by decide +kernel, rfl, by decide +kernel, by decide +kernel⟩
theorem ok_l_cell_at (F : ∃ fd, FnP K "_law_cell_at" s_l_cell_at (He.ga K "_law_cell_at") fd) (gm : mg "_law_cell_at" = some (.ref (He.ga K "_law_cell_at"))) (B : Bl mg)  : Has P w K mg base "_law_cell_at" 1 ["_law_script", "_law_k"] (spCellAt K) := by
  obtain ⟨fd, F⟩ := F
  refine ⟨_, fd, gm, F.kp, FunD.bindsN (ps := ["_law_script", "_law_k"]) F fun _ _ _ _ _ _ us hl => match us, hl with | [_, _], _ => rfl, F.ok sc_l_cell_at (fun vs H Q E h => p_l_cell_at_len h) (fun cdv A outer s H vs Q E hr h => ⟨t_l_cell_at K, PSs.nox ?_, p_l_cell_at h⟩)⟩
  have hu := hu_of hr
  exact (pss_cons (ps_if (pt_cmpR op_lt (pv 1) (pe_callB call_len_seq (by rfl) B.b_len (by decide +kernel) (pa_cons (pv 0) pa_nil)) (nomark _)) (pss_one (ps_ret (pe_ix ix_list (pv 0) (pv 1) (fun _ _ => rfl)))) pss_nil)
    (pss_one (ps_ret pe_int)))

abbrev s_l_begin : Stmt := top 12
theorem sc_l_begin : FnScope N_l_begin ["_law_cell"] (defScope s_l_begin) := ⟨rfl, rfl, rfl, by decide +kernel, rfl, by decide +kernel, by decide +kernel⟩
theorem ok_l_begin (F : ∃ fd, FnP K "_law_begin" s_l_begin (He.ga K "_law_begin") fd) (gm : mg "_law_begin" = some (.ref (He.ga K "_law_begin"))) (B : Bl mg)  : Has P w K mg base "_law_begin" 1 ["_law_cell"] spBegin := by
  obtain ⟨fd, F⟩ := F
  refine ⟨_, fd, gm, F.kp, FunD.bindsN (ps := ["_law_cell"]) F fun _ _ _ _ _ _ us hl => match us, hl with | [_], _ => rfl, F.ok sc_l_begin (fun vs H Q E h => p_l_begin_len h) (fun cdv A outer s H vs Q E hr h => ⟨t_l_begin K, PSs.nox ?_, p_l_begin h⟩)⟩
  have hu := hu_of hr
  exact (pss_one (ps_ret (pe_lst (pa_cons (pe_ix ix_list (pe_lst (pa_cons pe_int (pa_cons (pv 0) pa_nil))) (pe_callTy call_int1 (by rfl) B.b_int (by decide +kernel) (pa_cons (pe_cmpR op_ge (pv 0) (pe_op op_pow pe_int pe_int) (nomark _)) pa_nil)) (fun _ _ => rfl)) (pa_cons (pe_op op_mod (pv 0) pe_int) (pa_cons pe_int pa_nil))))))

abbrev s_l_draw : Stmt := top 13
theorem sc_l_draw : FnScope N_l_draw ["_law_source", "_law_most"] (defScope s_l_draw) := ⟨rfl, rfl, rfl, by decide +kernel, rfl, by decide +kernel, by decide +kernel⟩
theorem ok_l_draw (F : ∃ fd, FnP K "_law_draw" s_l_draw (He.ga K "_law_draw") fd) (gm : mg "_law_draw" = some (.ref (He.ga K "_law_draw"))) (B : Bl mg)  : Has P w K mg base "_law_draw" 1 ["_law_source", "_law_most"] spDraw := by
  obtain ⟨fd, F⟩ := F
  refine ⟨_, fd, gm, F.kp, FunD.bindsN (ps := ["_law_source", "_law_most"]) F fun _ _ _ _ _ _ us hl => match us, hl with | [_, _], _ => rfl, F.ok sc_l_draw (fun vs H Q E h => p_l_draw_len h) (fun cdv A outer s H vs Q E hr h => ⟨t_l_draw K, PSs.nox ?_, p_l_draw h⟩)⟩
  have hu := hu_of hr
  exact (pss_cons (ps_if (pt_cmpR op_gt (pe_ix ix_list (pv 0) pe_int (fun _ _ => rfl)) pe_int (nomark _)) (pss_cons (ps_set (i := 2) sc_l_draw.nd rfl (Or.inl rfl) (pe_op op_mod (pe_ix ix_list (pv 0) pe_int (fun _ _ => rfl)) (pv 1)))
      (pss_cons (ps_asg (pe_op op_fdivW (pe_ix ix_list (pv 0) pe_int (fun _ _ => rfl)) (pv 1)) (pg_sub (pv 0) pe_int set_list))
      (pss_one (ps_ret (pv 2))))) pss_nil)
    (pss_cons (ps_asg (pe_op op_add (pe_ix ix_list (pv 0) pe_int (fun _ _ => rfl)) pe_int) (pg_sub (pv 0) pe_int set_list))
    (pss_cons (ps_set (i := 3) sc_l_draw.nd rfl (Or.inl rfl) (pe_op op_mod (pe_op op_mul (pe_op op_add (pe_op op_add (pe_ix ix_list (pv 0) pe_int (fun _ _ => rfl)) (pe_op op_mul pe_int (pe_ix ix_list (pv 0) pe_int (fun _ _ => rfl)))) pe_int) pe_int) pe_int))
    (pss_cons (ps_set (i := 3) sc_l_draw.nd rfl (Or.inl rfl) (pe_op op_mod (pe_op op_mulX (pv 3) (pe_op op_add (pe_op op_fdivW (pv 3) pe_int) pe_int)) pe_int))
    (pss_one (ps_ret (pe_op op_mod (pe_op op_mod (pe_op op_mulX (pv 3) (pe_op op_add (pe_op op_fdivW (pv 3) pe_int) pe_int)) pe_int) (pv 1))))))))

abbrev s_l_far : Stmt := top 14
theorem sc_l_far : FnScope N_l_far ["_law_source"] (defScope s_l_far) := ⟨rfl, rfl, rfl, by decide +kernel, rfl, by decide +kernel, by decide +kernel⟩
theorem ok_l_far (F : ∃ fd, FnP K "_law_far" s_l_far (He.ga K "_law_far") fd) (gm : mg "_law_far" = some (.ref (He.ga K "_law_far"))) (B : Bl mg) (h_l_draw : Has P w K mg base "_law_draw" 1 ["_law_source", "_law_most"] spDraw) : Has P w K mg base "_law_far" 2 ["_law_source"] spFar := by
  obtain ⟨fd, F⟩ := F
  refine ⟨_, fd, gm, F.kp, FunD.bindsN (ps := ["_law_source"]) F fun _ _ _ _ _ _ us hl => match us, hl with | [_], _ => rfl, F.ok sc_l_far (fun vs H Q E h => p_l_far_len h) (fun cdv A outer s H vs Q E hr h => ⟨t_l_far K, PSs.nox ?_, p_l_far h⟩)⟩
  have hu := hu_of hr
  exact (pss_cons (ps_set (i := 1) sc_l_far.nd rfl (Or.inl rfl) (pe_has h_l_draw (hr.mono (by decide)) (by rfl) (pa_cons (pv 0) (pa_cons pe_int pa_nil))))
    (pss_cons (ps_set (i := 2) sc_l_far.nd rfl (Or.inl rfl) (pe_op op_sub (pe_has h_l_draw (hr.mono (by decide)) (by rfl) (pa_cons (pv 0) (pa_cons pe_int pa_nil))) pe_int))
    (pss_cons (ps_set (i := 3) sc_l_far.nd rfl (Or.inl rfl) pe_int)
    (pss_cons (ps_for PassesOwn.never rfl (pi_range1 (by rfl) B.b_range (pa_cons (pe_op op_add pe_int (pe_has h_l_draw (hr.mono (by decide)) (by rfl) (pa_cons (pv 0) (pa_cons pe_int pa_nil)))) pa_nil)) (pg_name (i := 4) sc_l_far.nd rfl (Or.inl rfl)) (pss_one (ps_set (i := 3) sc_l_far.nd rfl (Or.inl rfl) (pe_op op_add (pe_op op_mulX (pv 3) (pe_op op_pow pe_int pe_int)) (pe_has h_l_draw (hr.mono (by decide)) (by rfl) (pa_cons (pv 0) (pa_cons (pe_op op_pow pe_int pe_int) pa_nil)))))))
    (pss_cons (ps_set (i := 5) sc_l_far.nd rfl (Or.inl rfl) (pe_op op_sub (pe_op op_add (pe_op op_shlW pe_int (pe_has h_l_draw (hr.mono (by decide)) (by rfl) (pa_cons (pv 0) (pa_cons pe_int pa_nil)))) (pe_has h_l_draw (hr.mono (by decide)) (by rfl) (pa_cons (pv 0) (pa_cons pe_int pa_nil)))) pe_int))
    (pss_one (ps_ret (pe_ix ix_list (pe_lst (pa_cons (pv 2) (pa_cons (pv 2) (pa_cons (pv 3) (pa_cons (pe_op op_sub pe_int (pv 3)) (pa_cons (pv 5) (pa_cons (pe_op op_sub pe_int (pv 5)) pa_nil))))))) (pv 1) (fun _ _ => rfl)))))))))

abbrev s_l_part : Stmt := top 15
theorem sc_l_part : FnScope N_l_part ["_law_num", "_law_e"] (defScope s_l_part) := ⟨rfl, rfl, rfl, by decide +kernel, rfl, by decide +kernel, by decide +kernel⟩
theorem ok_l_part (F : ∃ fd, FnP K "_law_part" s_l_part (He.ga K "_law_part") fd) (gm : mg "_law_part" = some (.ref (He.ga K "_law_part"))) (B : Bl mg)  : Has P w K mg base "_law_part" 1 ["_law_num", "_law_e"] spPart := by
  obtain ⟨fd, F⟩ := F
  refine ⟨_, fd, gm, F.kp, FunD.bindsN (ps := ["_law_num", "_law_e"]) F fun _ _ _ _ _ _ us hl => match us, hl with | [_, _], _ => rfl, F.ok sc_l_part (fun vs H Q E h => p_l_part_len h) (fun cdv A outer s H vs Q E hr h => ⟨t_l_part K, PSs.nox ?_, p_l_part h⟩)⟩
  have hu := hu_of hr
  exact (pss_cons (ps_while PassesOwn.never (PW.pt (pw_and (pt_cmpR op_gt (pv 1) pe_int (nomark _)) (pw_and1 (pt_cmpR op_eq (pe_op op_mod (pv 0) pe_int) pe_int (nomark _))))) (pss_cons (ps_set (i := 0) sc_l_part.nd rfl (Or.inl rfl) (pe_op op_fdivW (pv 0) pe_int))
      (pss_one (ps_set (i := 1) sc_l_part.nd rfl (Or.inl rfl) (pe_op op_sub (pv 1) pe_int)))))
    (pss_one (ps_ret (pe_tup (pa_cons (pv 0) (pa_cons (pv 1) pa_nil))))))

abbrev s_l_joined : Stmt := top 16
theorem sc_l_joined : FnScope N_l_joined ["_law_one", "_law_other", "_law_sign"] (defScope s_l_joined) := ⟨rfl, rfl, rfl, by decide +kernel, rfl, by decide +kernel, by decide +kernel⟩
theorem ok_l_joined (F : ∃ fd, FnP K "_law_joined" s_l_joined (He.ga K "_law_joined") fd) (gm : mg "_law_joined" = some (.ref (He.ga K "_law_joined"))) (B : Bl mg) (h_l_part : Has P w K mg base "_law_part" 1 ["_law_num", "_law_e"] spPart) : Has P w K mg base "_law_joined" 2 ["_law_one", "_law_other", "_law_sign"] (spJoined K) := by
  obtain ⟨fd, F⟩ := F
  refine ⟨_, fd, gm, F.kp, FunD.bindsN (ps := ["_law_one", "_law_other", "_law_sign"]) F fun _ _ _ _ _ _ us hl => match us, hl with | [_, _, _], _ => rfl, F.ok sc_l_joined (fun vs H Q E h => p_l_joined_len h) (fun cdv A outer s H vs Q E hr h => ⟨t_l_joined K, PSs.nox ?_, p_l_joined h⟩)⟩
  have hu := hu_of hr
  exact (pss_cons (ps_set (i := 3) sc_l_joined.nd rfl (Or.inl rfl) (pe_lst pa_nil))
    (pss_cons (ps_for PassesOwn.never rfl (pi_range1 (by rfl) B.b_range (pa_cons (pe_callB call_len_seq (by rfl) B.b_len (by decide +kernel) (pa_cons (pv 0) pa_nil)) pa_nil)) (pg_name (i := 4) sc_l_joined.nd rfl (Or.inl rfl)) (pss_cons (ps_set (i := 5) sc_l_joined.nd rfl (Or.inl rfl) (pe_op op_add (pe_ix ix_tup (pe_ix ix_tup (pv 0) (pv 4) (fun _ _ => rfl)) pe_int (fun _ _ => rfl)) (pe_ix ix_tup (pe_ix ix_tup (pv 1) (pv 4) (fun _ _ => rfl)) pe_int (fun _ _ => rfl))))
      (pss_cons (ps_set (i := 6) sc_l_joined.nd rfl (Or.inl rfl) (pe_op op_mulX (pe_ix ix_tup (pe_ix ix_tup (pv 0) (pv 4) (fun _ _ => rfl)) pe_int (fun _ _ => rfl)) (pe_op op_shlW pe_int (pe_ix ix_tup (pe_ix ix_tup (pv 1) (pv 4) (fun _ _ => rfl)) pe_int (fun _ _ => rfl)))))
      (pss_cons (ps_set (i := 7) sc_l_joined.nd rfl (Or.inl rfl) (pe_op op_mulX (pe_ix ix_tup (pe_ix ix_tup (pv 1) (pv 4) (fun _ _ => rfl)) pe_int (fun _ _ => rfl)) (pe_op op_shlW pe_int (pe_ix ix_tup (pe_ix ix_tup (pv 0) (pv 4) (fun _ _ => rfl)) pe_int (fun _ _ => rfl)))))
      (pss_one (ps_expr (pe_bm PySem.F.plainAttrs_list PySem.F.slot_list_append PySem.F.type_list_append mt_append (pv 3) (pa_cons (pe_has h_l_part (hr.mono (by decide)) (by rfl) (pa_cons (pe_op op_add (pv 6) (pe_op op_mulX (pv 2) (pv 7))) (pa_cons (pv 5) pa_nil))) pa_nil))))))))
    (pss_one (ps_ret (pe_callTy call_tuple_of (by rfl) B.b_tuple (by decide +kernel) (pa_cons (pv 3) pa_nil))))))

abbrev s_l_row : Stmt := top 17
theorem sc_l_row : FnScope N_l_row ["_law_source", "_law_many"] (defScope s_l_row) := ⟨rfl, rfl, rfl, by decide +kernel, rfl, by decide +kernel, by decide +kernel⟩
theorem ok_l_row (F : ∃ fd, FnP K "_law_row" s_l_row (He.ga K "_law_row") fd) (gm : mg "_law_row" = some (.ref (He.ga K "_law_row"))) (B : Bl mg) (h_l_draw : Has P w K mg base "_law_draw" 1 ["_law_source", "_law_most"] spDraw) (h_part : Has P w K mg base "part" 1 ["num", "e"] spPart) (h_l_far : Has P w K mg base "_law_far" 2 ["_law_source"] spFar) : Has P w K mg base "_law_row" 3 ["_law_source", "_law_many"] (spRow K) := by
  obtain ⟨fd, F⟩ := F
  refine ⟨_, fd, gm, F.kp, FunD.bindsN (ps := ["_law_source", "_law_many"]) F fun _ _ _ _ _ _ us hl => match us, hl with | [_, _], _ => rfl, F.ok sc_l_row (fun vs H Q E h => p_l_row_len h) (fun cdv A outer s H vs Q E hr h => ⟨t_l_row K, PSs.nox ?_, p_l_row h⟩)⟩
  have hu := hu_of hr
  exact (pss_cons (ps_set (i := 2) sc_l_row.nd rfl (Or.inl rfl) (pe_lst pa_nil))
    (pss_cons (ps_for PassesOwn.never rfl (pi_range1 (by rfl) B.b_range (pa_cons (pv 1) pa_nil)) (pg_name (i := 3) sc_l_row.nd rfl (Or.inl rfl)) (pss_cons (ps_set (i := 4) sc_l_row.nd rfl (Or.inl rfl) (pe_has h_part (hr.mono (by decide)) (by rfl) (pa_cons (pe_has h_l_far (hr.mono (by decide)) (by rfl) (pa_cons (pv 0) pa_nil)) (pa_cons (pe_ix ix_list (pe_lst (pa_cons pe_int (pa_cons (pe_has h_l_draw (hr.mono (by decide)) (by rfl) (pa_cons (pv 0) (pa_cons pe_int pa_nil))) (pa_cons (pe_has h_l_draw (hr.mono (by decide)) (by rfl) (pa_cons (pv 0) (pa_cons pe_int pa_nil))) pa_nil)))) (pe_has h_l_draw (hr.mono (by decide)) (by rfl) (pa_cons (pv 0) (pa_cons pe_int pa_nil))) (fun _ _ => rfl)) pa_nil))))
      (pss_one (ps_expr (pe_bm PySem.F.plainAttrs_list PySem.F.slot_list_append PySem.F.type_list_append mt_append (pv 2) (pa_cons (pe_ix ix_list (pe_lst (pa_cons (pv 4) (pa_cons (pv 4) (pa_cons (pv 4) (pa_cons (pe_tup (pa_cons pe_int (pa_cons pe_int pa_nil))) (pa_cons (pe_ix ix_list (pe_op op_cat (pv 2) (pe_lst (pa_cons (pv 4) pa_nil))) pe_int (fun _ _ => rfl)) pa_nil)))))) (pe_has h_l_draw (hr.mono (by decide)) (by rfl) (pa_cons (pv 0) (pa_cons pe_int pa_nil))) (fun _ _ => rfl)) pa_nil))))))
    (pss_one (ps_ret (pe_callTy call_tuple_of (by rfl) B.b_tuple (by decide +kernel) (pa_cons (pv 2) pa_nil))))))

abbrev s_law : Stmt := top 18
theorem sc_law : FnScope N_law ["_law_script"] (defScope s_law) := ⟨rfl, rfl, rfl, by decide +kernel, rfl, by decide +kernel, by decide +kernel⟩
theorem ok_law {f : Addr} {fd : FuncData} (F : FnP K "law" s_law f fd) (B : Bl mg) (h_zero_row : Has P w K mg base "zero_row" 1 ["many"] spZeroRow) (h_own_row : Has P w K mg base "own_row" 1 ["numbers"] (spOwnRow K)) (h_l_cell_at : Has P w K mg base "_law_cell_at" 1 ["_law_script", "_law_k"] (spCellAt K)) (h_row_plus : Has P w K mg base "row_plus" 3 ["one", "other"] (spRowPlus K)) (h_l_far : Has P w K mg base "_law_far" 2 ["_law_source"] spFar) (h_row_less : Has P w K mg base "row_less" 4 ["one", "other"] (spRowLess K)) (h_row_times : Has P w K mg base "row_times" 2 ["row", "many"] (spRowTimes K)) (h_l_part : Has P w K mg base "_law_part" 1 ["_law_num", "_law_e"] spPart) (h_row_halved : Has P w K mg base "row_halved" 2 ["row", "c"] (spRowHalved K)) (h_l_draw : Has P w K mg base "_law_draw" 1 ["_law_source", "_law_most"] spDraw) (h_l_joined : Has P w K mg base "_law_joined" 2 ["_law_one", "_law_other", "_law_sign"] (spJoined K)) (h_l_row : Has P w K mg base "_law_row" 3 ["_law_source", "_law_many"] (spRow K)) (h_l_begin : Has P w K mg base "_law_begin" 1 ["_law_cell"] spBegin) : FnOk P w K mg base CX0 5 f fd ["_law_script"] (spLaw K) := by
  refine F.ok sc_law (fun vs H Q E h => p_law_len h) (fun cdv A outer s H vs Q E hr h => ⟨t_law K, PSs.nox ?_, p_law h⟩)
  have hu := hu_of hr
  exact (pss_cons (ps_for PassesOwn.never rfl (pi_list (pe_op op_cat (pe_lst (pa_cons (pe_has h_l_cell_at (hr.mono (by decide)) (by rfl) (pa_cons (pv 0) (pa_cons pe_int pa_nil))) pa_nil)) (pe_slice sl_list (pv 0) (po_some pe_int) (po_some pe_int)))) (pg_name (i := 1) sc_law.nd rfl (Or.inl rfl)) (pss_cons (ps_set (i := 2) sc_law.nd rfl (Or.inr rfl) (pe_has h_l_begin (hr.mono (by decide)) (by rfl) (pa_cons (pv 1) pa_nil)))
      (pss_cons (ps_set (i := 3) sc_law.nd rfl (Or.inl rfl) (pe_op op_add pe_int (pe_has h_l_draw (hr.mono (by decide)) (by rfl) (pa_cons (pv 2) (pa_cons pe_int pa_nil)))))
      (pss_cons (ps_set (i := 4) sc_law.nd rfl (Or.inl rfl) (pe_has h_l_row (hr.mono (by decide)) (by rfl) (pa_cons (pv 2) (pa_cons (pv 3) pa_nil))))
      (pss_cons (ps_set (i := 5) sc_law.nd rfl (Or.inl rfl) (pe_ix ix_list (pe_lst (pa_cons (pe_has h_l_row (hr.mono (by decide)) (by rfl) (pa_cons (pv 2) (pa_cons (pv 3) pa_nil))) (pa_cons (pv 4) pa_nil))) (pe_op op_fdivW (pe_has h_l_draw (hr.mono (by decide)) (by rfl) (pa_cons (pv 2) (pa_cons pe_int pa_nil))) pe_int) (fun _ _ => rfl)))
      (pss_cons (ps_for PassesOwn.never rfl (pi_range1 (by rfl) B.b_range (pa_cons pe_int pa_nil)) (pg_name (i := 6) sc_law.nd rfl (Or.inl rfl)) (pss_cons (ps_if (pt_cmpR (op_neD hr.units) (pe_has h_row_plus (hr.mono (by decide)) (by rfl) (pa_cons (pv 4) (pa_cons (pv 5) pa_nil))) (pe_has h_l_joined (hr.mono (by decide)) (by rfl) (pa_cons (pv 4) (pa_cons (pv 5) (pa_cons pe_int pa_nil)))) (nomark _)) (pss_one (ps_ret pe_bl)) pss_nil)
        (pss_one (ps_if (pt_cmpR (op_neD hr.units) (pe_has h_row_less (hr.mono (by decide)) (by rfl) (pa_cons (pv 4) (pa_cons (pv 5) pa_nil))) (pe_has h_l_joined (hr.mono (by decide)) (by rfl) (pa_cons (pv 4) (pa_cons (pv 5) (pa_cons (pe_un un_neg pe_int) pa_nil)))) (nomark _)) (pss_one (ps_ret pe_bl)) pss_nil))))
      (pss_cons (ps_set (i := 7) sc_law.nd rfl (Or.inr rfl) (pe_ix ix_list (pe_lst (pa_cons pe_int (pa_cons pe_int (pa_cons pe_int (pa_cons (pe_has h_l_draw (hr.mono (by decide)) (by rfl) (pa_cons (pv 2) (pa_cons pe_int pa_nil))) pa_nil))))) (pe_has h_l_draw (hr.mono (by decide)) (by rfl) (pa_cons (pv 2) (pa_cons pe_int pa_nil))) (fun _ _ => rfl)))
      (pss_cons (ps_if (pt_cmpR (op_neD hr.units) (pe_has h_row_halved (hr.mono (by decide)) (by rfl) (pa_cons (pv 4) (pa_cons (pv 7) pa_nil))) (pe_callTy call_tuple_of (by rfl) B.b_tuple (by decide +kernel) (pa_cons (pe_lc (own := [("_law_num", 12), ("_law_e", 13)]) (g := (gTup K 2 (gCons (gName 12) (gCons (gName 13) gNil)))) (tt := tYes) (te := (tCall spPart [] E0 (tCons (tVar 12) (tCons (tOp rAddI (tVar 13) (tVar 7)) tNil)))) (wi := (iTup K (tVar 4))) rfl sc_law.nd (pi_tup (pv 4)) (blkOk_by (own := [("_law_num", 12), ("_law_e", 13)]) (N := N_law) (sc := defScope s_law) (by decide +kernel)) (fun _ _ _ _ _ => (pg_tup rfl (pgs_cons (pg_name (i := 12) sc_law.nd rfl (Or.inl rfl)) (pgs_cons (pg_name (i := 13) sc_law.nd rfl (Or.inl rfl)) pgs_nil)))) (fun _ _ _ _ _ => pts_nil) (fun _ _ _ _ _ => (pe_has h_l_part (hr.mono (by decide)) (by rfl) (pa_cons (pv 12) (pa_cons (pe_op op_add (pv 13) (pv 7)) pa_nil))))) pa_nil)) (nomark _)) (pss_one (ps_ret pe_bl)) pss_nil)
      (pss_cons (ps_set (i := 8) sc_law.nd rfl (Or.inr rfl) (pe_has h_l_far (hr.mono (by decide)) (by rfl) (pa_cons (pv 2) pa_nil)))
      (pss_cons (ps_if (pt_cmpR (op_neD hr.units) (pe_has h_row_times (hr.mono (by decide)) (by rfl) (pa_cons (pv 4) (pa_cons (pv 8) pa_nil))) (pe_callTy call_tuple_of (by rfl) B.b_tuple (by decide +kernel) (pa_cons (pe_lc (own := [("_law_num", 12), ("_law_e", 13)]) (g := (gTup K 2 (gCons (gName 12) (gCons (gName 13) gNil)))) (tt := tYes) (te := (tCall spPart [] E0 (tCons (tOp rMulX (tVar 12) (tVar 8)) (tCons (tVar 13) tNil)))) (wi := (iTup K (tVar 4))) rfl sc_law.nd (pi_tup (pv 4)) (blkOk_by (own := [("_law_num", 12), ("_law_e", 13)]) (N := N_law) (sc := defScope s_law) (by decide +kernel)) (fun _ _ _ _ _ => (pg_tup rfl (pgs_cons (pg_name (i := 12) sc_law.nd rfl (Or.inl rfl)) (pgs_cons (pg_name (i := 13) sc_law.nd rfl (Or.inl rfl)) pgs_nil)))) (fun _ _ _ _ _ => pts_nil) (fun _ _ _ _ _ => (pe_has h_l_part (hr.mono (by decide)) (by rfl) (pa_cons (pe_op op_mulX (pv 12) (pv 8)) (pa_cons (pv 13) pa_nil))))) pa_nil)) (nomark _)) (pss_one (ps_ret pe_bl)) pss_nil)
      (pss_cons (ps_if (PW.pt (pw_or (pt_cmpR (op_neD hr.units) (pe_has h_row_less (hr.mono (by decide)) (by rfl) (pa_cons (pv 4) (pa_cons (pv 4) pa_nil))) (pe_op op_repT (pe_tup (pa_cons (pe_tup (pa_cons pe_int (pa_cons pe_int pa_nil))) pa_nil)) (pv 3)) (nomark _)) (pw_or1 (pt_not (pt_val (pe_callB call_isi (by rfl) B.b_isinstance (by decide +kernel) (pa_cons (pe_has h_row_plus (hr.mono (by decide)) (by rfl) (pa_cons (pv 4) (pa_cons (pv 5) pa_nil))) (pa_cons (pe_bltn (v := .ty "tuple") (by rfl) B.b_tuple (by decide +kernel) rfl) pa_nil)))))))) (pss_one (ps_ret pe_bl)) pss_nil)
      (pss_cons (ps_set (i := 9) sc_law.nd rfl (Or.inl rfl) (pe_callTy call_tuple_of (by rfl) B.b_tuple (by decide +kernel) (pa_cons (pe_lc (own := [("_law_k", 11)]) (g := (gName 11)) (tt := tYes) (te := (tCall spFar [] E0 (tCons (tVar 2) tNil))) (wi := (iRng1 (tCons (tOp rSubI (tVar 3) (tC (.int 1))) tNil))) rfl sc_law.nd (pi_range1 (by rfl) B.b_range (pa_cons (pe_op op_sub (pv 3) pe_int) pa_nil)) (blkOk_by (own := [("_law_k", 11)]) (N := N_law) (sc := defScope s_law) (by decide +kernel)) (fun _ _ _ _ _ => (pg_name (i := 11) sc_law.nd rfl (Or.inl rfl))) (fun _ _ _ _ _ => pts_nil) (fun _ _ _ _ _ => (pe_has h_l_far (hr.mono (by decide)) (by rfl) (pa_cons (pv 2) pa_nil)))) pa_nil)))
      (pss_cons (ps_if (pt_cmpR (op_neD hr.units) (pe_has h_own_row (hr.mono (by decide)) (by rfl) (pa_cons (pv 9) pa_nil)) (pe_callTy call_tuple_of (by rfl) B.b_tuple (by decide +kernel) (pa_cons (pe_op op_cat (pe_lc (own := [("_law_number", 14)]) (g := (gName 14)) (tt := tYes) (te := (tTup (tCons (tVar 14) (tCons (tC (.int 0)) tNil)))) (wi := (iTup K (tVar 9))) rfl sc_law.nd (pi_tup (pv 9)) (blkOk_by (own := [("_law_number", 14)]) (N := N_law) (sc := defScope s_law) (by decide +kernel)) (fun _ _ _ _ _ => (pg_name (i := 14) sc_law.nd rfl (Or.inl rfl))) (fun _ _ _ _ _ => pts_nil) (fun _ _ _ _ _ => (pe_tup (pa_cons (pv 14) (pa_cons pe_int pa_nil))))) (pe_lst (pa_cons (pe_tup (pa_cons pe_int (pa_cons pe_int pa_nil))) pa_nil))) pa_nil)) (nomark _)) (pss_one (ps_ret pe_bl)) pss_nil)
      (pss_cons (ps_set (i := 10) sc_law.nd rfl (Or.inl rfl) (pe_has h_zero_row (hr.mono (by decide)) (by rfl) (pa_cons (pe_op op_sub (pv 3) pe_int) pa_nil)))
      (pss_one (ps_if (PW.pt (pw_or (pt_cmpR (op_neD hr.units) (pv 10) (pe_op op_repT (pe_tup (pa_cons (pe_tup (pa_cons pe_int (pa_cons pe_int pa_nil))) pa_nil)) (pv 3)) (nomark _)) (pw_or1 (pt_cmpR (op_neD hr.units) (pe_has h_row_plus (hr.mono (by decide)) (by rfl) (pa_cons (pe_has h_own_row (hr.mono (by decide)) (by rfl) (pa_cons (pv 9) pa_nil)) (pa_cons (pv 10) pa_nil))) (pe_has h_own_row (hr.mono (by decide)) (by rfl) (pa_cons (pv 9) pa_nil)) (nomark _))))) (pss_one (ps_ret pe_bl)) pss_nil))))))))))))))))
    (pss_one (ps_ret (pe_and (pe_cmpR (op_eqD hr.units) (pe_has h_own_row (hr.mono (by decide)) (by rfl) (pa_cons (pe_tup (pa_cons pe_int pa_nil)) pa_nil)) (pe_tup (pa_cons (pe_tup (pa_cons pe_int (pa_cons pe_int pa_nil))) (pa_cons (pe_tup (pa_cons pe_int (pa_cons pe_int pa_nil))) pa_nil))) (nomark _)) (pe_one (pe_cmpR (op_eqD hr.units) (pe_has h_zero_row (hr.mono (by decide)) (by rfl) (pa_cons pe_int pa_nil)) (pe_tup (pa_cons (pe_tup (pa_cons pe_int (pa_cons pe_int pa_nil))) (pa_cons (pe_tup (pa_cons pe_int (pa_cons pe_int pa_nil))) pa_nil))) (nomark _)))))))
end

def dd_part : He.DefD := ⟨("part", none), "part", "part", defArgs s_part, defBody s_part, defScope s_part, [], []⟩
def dd_part_plus : He.DefD := ⟨("part_plus", none), "part_plus", "part_plus", defArgs s_part_plus, defBody s_part_plus, defScope s_part_plus, [], []⟩
def dd_part_less : He.DefD := ⟨("part_less", none), "part_less", "part_less", defArgs s_part_less, defBody s_part_less, defScope s_part_less, [], []⟩
def dd_own_row : He.DefD := ⟨("own_row", none), "own_row", "own_row", defArgs s_own_row, defBody s_own_row, defScope s_own_row, [], []⟩
def dd_zero_row : He.DefD := ⟨("zero_row", none), "zero_row", "zero_row", defArgs s_zero_row, defBody s_zero_row, defScope s_zero_row, [], []⟩
def dd_row_plus : He.DefD := ⟨("row_plus", none), "row_plus", "row_plus", defArgs s_row_plus, defBody s_row_plus, defScope s_row_plus, [], []⟩
def dd_row_less : He.DefD := ⟨("row_less", none), "row_less", "row_less", defArgs s_row_less, defBody s_row_less, defScope s_row_less, [], []⟩
def dd_row_halved : He.DefD := ⟨("row_halved", none), "row_halved", "row_halved", defArgs s_row_halved, defBody s_row_halved, defScope s_row_halved, [], []⟩
def dd_row_times : He.DefD := ⟨("row_times", none), "row_times", "row_times", defArgs s_row_times, defBody s_row_times, defScope s_row_times, [], []⟩
def dd_l_cell_at : He.DefD := ⟨("_law_cell_at", none), "_law_cell_at", "_law_cell_at", defArgs s_l_cell_at, defBody s_l_cell_at, defScope s_l_cell_at, [], []⟩
def dd_l_begin : He.DefD := ⟨("_law_begin", none), "_law_begin", "_law_begin", defArgs s_l_begin, defBody s_l_begin, defScope s_l_begin, [], []⟩
def dd_l_draw : He.DefD := ⟨("_law_draw", none), "_law_draw", "_law_draw", defArgs s_l_draw, defBody s_l_draw, defScope s_l_draw, [], []⟩
def dd_l_far : He.DefD := ⟨("_law_far", none), "_law_far", "_law_far", defArgs s_l_far, defBody s_l_far, defScope s_l_far, [], []⟩
def dd_l_part : He.DefD := ⟨("_law_part", none), "_law_part", "_law_part", defArgs s_l_part, defBody s_l_part, defScope s_l_part, [], []⟩
def dd_l_joined : He.DefD := ⟨("_law_joined", none), "_law_joined", "_law_joined", defArgs s_l_joined, defBody s_l_joined, defScope s_l_joined, [], []⟩
def dd_l_row : He.DefD := ⟨("_law_row", none), "_law_row", "_law_row", defArgs s_l_row, defBody s_l_row, defScope s_l_row, [], []⟩
def dd_law : He.DefD := ⟨("law", none), "law", "law", defArgs s_law, defBody s_law, defScope s_law, [], []⟩
def fn : List He.DefD := [dd_part, dd_part_plus, dd_part_less, dd_own_row, dd_zero_row, dd_row_plus, dd_row_less, dd_row_halved, dd_row_times, dd_l_cell_at, dd_l_begin, dd_l_draw, dd_l_far, dd_l_part, dd_l_joined, dd_l_row, dd_law]
def fa : List He.Fa := [.glo "part", .glo "part_plus", .glo "part_less", .glo "own_row", .glo "zero_row", .glo "row_plus", .glo "row_less", .glo "row_halved", .glo "row_times", .glo "_law_cell_at", .glo "_law_begin", .glo "_law_draw", .glo "_law_far", .glo "_law_part", .glo "_law_joined", .glo "_law_row", .glo "law", .free "int", .free "isinstance", .free "len", .free "max", .free "min", .free "range", .free "tuple", .free "zip"]
def loose : List Str := (["part", "part_plus", "part_less", "own_row", "zero_row", "row_plus", "row_less", "row_halved", "row_times", "_law_cell_at", "_law_begin", "_law_draw", "_law_far", "_law_part", "_law_joined", "_law_row"] : List Str)
abbrev R : PySem.W.OpenRow := PySem.W.OpenLaw.row PySem.Challenge.rw_sumtold_k06_rows
abbrev hk : PySem.W.Hook := He.hookD 4 fa fn
def ob (s : PySem.W.SharedT) : He.AlD := He.obsDG 4 fa fn (HandSHeadRun.getT s)
theorem ob_eq (s : PySem.W.SharedT) : ob s = hk.obs s.abs := He.obsDG_eq (HandSHeadRun.getT_eq s)
theorem run (w : World) : HandSHeadRun.RunEq R (PySem.W.view R.prog [18]) hk ob 2000 loose w := by
  intro os
  kernel_rfl
theorem facts {P : Program} {w : World} {K : PySem.W.Frag} {h : Heap} {mg : Str → Option Value} {f : Addr} (X : K.In h) (G : h.Ns mainGlobals mg) (hfa : mg ("law" : Str) = some (.ref f)) (c : He.SaysD fa fn K) :
    ∃ fd : FuncData, (∀ (s : Shared) (v : Value), BindsTo s fd ⟨[v], []⟩ [("_law_script", v)]) ∧ ∀ base : Heap, K.In base → base.Ns mainGlobals mg → FnOk P w K mg base CX0 5 f fd ["_law_script"] ((spLaw K)) := by
  have F_part := c.def_ 0 (d := dd_part) rfl
  have g_part := He.glo_ok X G (c.fact 0 (f := .glo "part") rfl)
  have F_part_plus := c.def_ 1 (d := dd_part_plus) rfl
  have g_part_plus := He.glo_ok X G (c.fact 1 (f := .glo "part_plus") rfl)
  have F_part_less := c.def_ 2 (d := dd_part_less) rfl
  have g_part_less := He.glo_ok X G (c.fact 2 (f := .glo "part_less") rfl)
  have F_own_row := c.def_ 3 (d := dd_own_row) rfl
  have g_own_row := He.glo_ok X G (c.fact 3 (f := .glo "own_row") rfl)
  have F_zero_row := c.def_ 4 (d := dd_zero_row) rfl
  have g_zero_row := He.glo_ok X G (c.fact 4 (f := .glo "zero_row") rfl)
  have F_row_plus := c.def_ 5 (d := dd_row_plus) rfl
  have g_row_plus := He.glo_ok X G (c.fact 5 (f := .glo "row_plus") rfl)
  have F_row_less := c.def_ 6 (d := dd_row_less) rfl
  have g_row_less := He.glo_ok X G (c.fact 6 (f := .glo "row_less") rfl)
  have F_row_halved := c.def_ 7 (d := dd_row_halved) rfl
  have g_row_halved := He.glo_ok X G (c.fact 7 (f := .glo "row_halved") rfl)
  have F_row_times := c.def_ 8 (d := dd_row_times) rfl
  have g_row_times := He.glo_ok X G (c.fact 8 (f := .glo "row_times") rfl)
  have F_l_cell_at := c.def_ 9 (d := dd_l_cell_at) rfl
  have g_l_cell_at := He.glo_ok X G (c.fact 9 (f := .glo "_law_cell_at") rfl)
  have F_l_begin := c.def_ 10 (d := dd_l_begin) rfl
  have g_l_begin := He.glo_ok X G (c.fact 10 (f := .glo "_law_begin") rfl)
  have F_l_draw := c.def_ 11 (d := dd_l_draw) rfl
  have g_l_draw := He.glo_ok X G (c.fact 11 (f := .glo "_law_draw") rfl)
  have F_l_far := c.def_ 12 (d := dd_l_far) rfl
  have g_l_far := He.glo_ok X G (c.fact 12 (f := .glo "_law_far") rfl)
  have F_l_part := c.def_ 13 (d := dd_l_part) rfl
  have g_l_part := He.glo_ok X G (c.fact 13 (f := .glo "_law_part") rfl)
  have F_l_joined := c.def_ 14 (d := dd_l_joined) rfl
  have g_l_joined := He.glo_ok X G (c.fact 14 (f := .glo "_law_joined") rfl)
  have F_l_row := c.def_ 15 (d := dd_l_row) rfl
  have g_l_row := He.glo_ok X G (c.fact 15 (f := .glo "_law_row") rfl)
  have F_law := c.def_ 16 (d := dd_law) rfl
  have g_law := He.glo_ok X G (c.fact 16 (f := .glo "law") rfl)
  have B : Bl mg := ⟨He.free_ok X G (c.fact 17 (f := .free "int") rfl), He.free_ok X G (c.fact 18 (f := .free "isinstance") rfl), He.free_ok X G (c.fact 19 (f := .free "len") rfl), He.free_ok X G (c.fact 20 (f := .free "max") rfl), He.free_ok X G (c.fact 21 (f := .free "min") rfl), He.free_ok X G (c.fact 22 (f := .free "range") rfl), He.free_ok X G (c.fact 23 (f := .free "tuple") rfl), He.free_ok X G (c.fact 24 (f := .free "zip") rfl)⟩
  have e := hfa.symm.trans g_law
  cases e
  obtain ⟨fd, Fl⟩ := F_law
  refine ⟨fd, fun s v => (FunD.bindsA (ps := ["_law_script"]) Fl fun _ _ _ _ _ _ us hl => match us, hl with | [_], _ => rfl) s [v] rfl, fun base _ _ => ?_⟩
  have h_part := ok_part (P := P) (w := w) (base := base) F_part g_part B 
  have h_part_plus := ok_part_plus (P := P) (w := w) (base := base) F_part_plus g_part_plus B h_part
  have h_part_less := ok_part_less (P := P) (w := w) (base := base) F_part_less g_part_less B h_part_plus
  have h_own_row := ok_own_row (P := P) (w := w) (base := base) F_own_row g_own_row B 
  have h_zero_row := ok_zero_row (P := P) (w := w) (base := base) F_zero_row g_zero_row B 
  have h_row_plus := ok_row_plus (P := P) (w := w) (base := base) F_row_plus g_row_plus B h_part_plus
  have h_row_less := ok_row_less (P := P) (w := w) (base := base) F_row_less g_row_less B h_part_less
  have h_row_halved := ok_row_halved (P := P) (w := w) (base := base) F_row_halved g_row_halved B h_part
  have h_row_times := ok_row_times (P := P) (w := w) (base := base) F_row_times g_row_times B h_part
  have h_l_cell_at := ok_l_cell_at (P := P) (w := w) (base := base) F_l_cell_at g_l_cell_at B 
  have h_l_begin := ok_l_begin (P := P) (w := w) (base := base) F_l_begin g_l_begin B 
  have h_l_draw := ok_l_draw (P := P) (w := w) (base := base) F_l_draw g_l_draw B 
  have h_l_far := ok_l_far (P := P) (w := w) (base := base) F_l_far g_l_far B h_l_draw
  have h_l_part := ok_l_part (P := P) (w := w) (base := base) F_l_part g_l_part B 
  have h_l_joined := ok_l_joined (P := P) (w := w) (base := base) F_l_joined g_l_joined B h_l_part
  have h_l_row := ok_l_row (P := P) (w := w) (base := base) F_l_row g_l_row B h_l_draw h_part h_l_far
  exact ok_law (P := P) (w := w) (base := base) Fl B h_zero_row h_own_row h_l_cell_at h_row_plus h_l_far h_row_less h_row_times h_l_part h_row_halved h_l_draw h_l_joined h_l_row h_l_begin

end Sum
open PySem PySem.W PySem.Calls PyProof.Rows
set_option maxRecDepth 100000 in
set_option maxHeartbeats 0 in
theorem PySem.Challenge.cw_sumtold_k06_rows_holds : PySem.Challenge.rw_sumtold_k06_rows.Holds := by
  w_on; o_law
  refine HandSHeadRun.head_any (r := OpenLaw.row PySem.Challenge.rw_sumtold_k06_rows) (q := view (OpenLaw.row PySem.Challenge.rw_sumtold_k06_rows).prog [18]) (H := Sum.hk) (ob := Sum.ob) (M := 2000) (loose := Sum.loose) (d := HandSHeadRun.topDef (OpenLaw.row PySem.Challenge.rw_sumtold_k06_rows).prog 18) (kwd := []) Sum.ob_eq
    (by kernel_rfl) (fun s => by kernel_rfl) Sum.run (by kernel_rfl) (by kernel_rfl) (by kernel_rfl) (by rfl) (by first | assumption | decide +kernel) (by decide +kernel) ⟨rfl, rfl, rfl, rfl, rfl, by decide +kernel⟩ ?hw ?hc
  case hw => w_witness2
  case hc =>
    refine L2.walk_ofE (l := PySem.Challenge.rw_sumtold_k06_rows) (n := 63) (k := 5) (x := "_law_script") (CX := L2.CX0) rfl (by decide) (by kernel_rfl) ⟨rfl, by decide, by decide⟩ ?F (fun _ _ _ _ z => z)
    intro w mg fa h Y G hmg0
    obtain ⟨K, KX, c⟩ := Y
    have hmg : mg ("law" : PySem.Str) = some (.ref fa) := by
      have e : (HandSHeadRun.topDef (OpenLaw.row PySem.Challenge.rw_sumtold_k06_rows).prog 18).name = ("law" : PySem.Str) := by kernel_rfl
      rw [← e]
      exact hmg0
    obtain ⟨fd, hb, hF⟩ := Sum.facts (P := (PySem.Challenge.rw_sumtold_k06_rows).prog) (w := w) KX G hmg c
    exact ⟨K, fd, Sum.spLaw K, KX, hb, fun H a ns hl _ hS => ⟨a, ns, rfl, hS, hl, fun _ => rfl⟩, hF⟩
#print axioms PySem.Challenge.cw_sumtold_k06_rows_holds
