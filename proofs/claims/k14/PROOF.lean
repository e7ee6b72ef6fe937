import PyProof.Rows.All
import Wide.All
import OpenK.AllK
import Wide.FinOn
import HandS.ForMost
import HandS.Flow
import HandS.IsInst
import HandS.WideBits
import HandS.Style
import HandS.TupAny
import HandS.TupMul
import HandS.Steps
import HandS.Evl
import HandS.Zip
import HandS.Walk
import HandS.Defaults
import HandS.HeadEnd
import HandS.HeadHook2
import HandS.Head2
import HandS.Conv
import HandS.Text
import HandS.Codes
import HandS.NoneIn
import PySem.Challenge.RW_sumtold_k14_what_is_a_deed
set_option Elab.async false
set_option linter.all false
set_option maxRecDepth 100000
set_option maxHeartbeats 4000000
namespace Go
open PySem PySem.Spec PyProof.Rows L2
/-! ### readings by short names -/
abbrev rAddI : R2 := rI0 fun i j => .int (i + j)
abbrev rSubI : R2 := rI0 fun i j => .int (i - j)
abbrev rMulI : R2 := rI CMul fun i j => .int (i * j)
abbrev rMulX : R2 := rI CMulX fun i j => .int (i * j)
abbrev rDivI : R2 := rI CDivW fun i j => .int (i / j)
abbrev rModI : R2 := rI (fun _ j => 0 < j) fun i j => .int (i % j)
abbrev rPowI : R2 := rI CPow fun i j => .int (i ^ j.toNat)
abbrev rShlI : R2 := rI CShl fun i j => .int (i * 2 ^ j.toNat)
abbrev rShrI : R2 := rI (fun _ j => 0 ≤ j) fun i j => .int (i / 2 ^ j.toNat)
abbrev rAndI : R2 := rI0 fun i j => .int (Builtin.bitAnd i j)
abbrev rLtI : R2 := rI0 fun i j => .bl (decide (i < j))
abbrev rLeI : R2 := rI0 fun i j => .bl (decide (i ≤ j))
abbrev rGtI : R2 := rI0 fun i j => .bl (decide (j < i))
abbrev rGeI : R2 := rI0 fun i j => .bl (decide (j ≤ i))
abbrev rNegI : V → Hp → VK → Prop := rU fun i => .int (-i)
abbrev rAbs : List V → Hp → VK → Prop := fun xs H Q => ∃ i, xs = [.int i] ∧ Q (.int (if i < 0 then -i else i)) H
abbrev rMin2 : List V → Hp → VK → Prop := fun xs H Q => ∃ i j, xs = [.int i, .int j] ∧ Q (.int (if j < i then j else i)) H
abbrev rInt1 : List V → Hp → VK → Prop := fun xs H Q => (∃ i, xs = [.int i] ∧ Q (.int i) H) ∨ ∃ k, xs = [.bl k] ∧ Q (.int (if k then 1 else 0)) H
abbrev rTupOf (K : PySem.W.Frag) : List V → Hp → VK → Prop := fun xs H Q => ∃ p ys, xs = [.ref p] ∧ ((SqL K H p ys ∧ ∀ l, H l = none → Q (.ref l) (upd H l (.tup ys))) ∨ (SqT K H p ys ∧ Q (.ref p) H))
abbrev rAddStr : R2 := fun x y H Q => ∃ i j, x = .str i ∧ y = .str j ∧ i.length + j.length ≤ sizeLine ∧ Q (.str (i ++ j)) H
abbrev rLenStr : List V → Hp → VK → Prop := fun xs H Q => ∃ z, xs = [.str z] ∧ z.length ≤ sizeLine ∧ Q (.int z.length) H
/-! ### a def that keeps its promise, by its name -/
abbrev FnP (K : PySem.W.Frag) (x : Str) (st : Stmt) (f : Addr) (fd : FuncData) : Prop := FunD K x x (defArgs st) (defBody st) (defScope st) [] [] f fd
def Has (P : Program) (w : World) (K : PySem.W.Frag) (mg : Str → Option Value) (base : Heap) (x : Str) (k : Nat) (ps : List Str) (sp : Sp) : Prop :=
  ∃ (f : Addr) (fd : FuncData), mg x = some (.ref f) ∧ PySem.W.keepIn K (.ref f) = true ∧ Binds K fd ps [] ∧ FnOk P w K mg base CX0 k f fd ps sp
theorem pe_has {X : Cx} {x : Str} {p pos : Pos} {e : Expr} {es : List Expr} {t : TA} {k : Nat} {ps : List Str} {sp : Sp} (h : Has X.prog X.w X.K X.mg X.base x k ps sp) (hr : Room k X.A) (hg : Gl X x) (ha : PA X (e :: es) t)
    (hd : (x == ("__debug__" : Str)) = false := by decide) (he : starEach (e :: es) X.env = (false, eval e X.env) :: starEach es X.env := by rfl) (hpl : (backTo pos (starEach es X.env)).any (·.1) = false := by rfl) :
    PE X (.Call (.Name x p) (e :: es) [] pos) (tCall sp [] E0 t) := by
  obtain ⟨f, fd, gm, kp, b, F⟩ := h
  exact pe_call F hr hg gm kp b .nil pass0 ha hd he hpl
/-! ### stepping -/
section
variable {K : PySem.W.Frag} {σ : L2.St} {H H' : Hp} {Q : VK} {QB : Bool → Hp → Prop} {D : Ends} {t u : TS} {c c' : TT} {te ta tb tc : TE} {tr : TA} {i : Nat} {v x y : V} {r r' : R2} {a b : Addr} {o : HO} {xs ys : List V}
theorem w_seq (h : t { D with nx := u D } σ H) : tSeq t u D σ H := h
theorem w_next (h : D.nx σ H) : tNext D σ H := h
theorem w_asg (h : te σ H fun x H1 => D.nx (σ.set i (some x)) H1) : tAsg te (gName i) D σ H := h
theorem w_drop (h : te σ H fun _ H1 => D.nx σ H1) : tDrop te D σ H := h
theorem w_ret (h : te σ H D.rt) : tRet te D σ H := h
theorem w_if (h : c σ H fun b H1 => if b = true then t D σ H1 else u D σ H1) : tIfS c t u D σ H := h
theorem w_par {j : Nat} (h : tr σ H fun vs H1 => ∃ v w, vs = [v, w] ∧ D.nx ((σ.set i (some v)).set j (some w)) H1) : tPar i j tr D σ H := h
theorem w_sub {to ti : TE} {ts : TSet} (h : te σ H fun x H1 => to σ H1 fun o H2 => ti σ H2 fun i H3 => ts o i x H3 fun H4 => D.nx σ H4) : tAsg te (gSub to ti ts) D σ H := h
theorem w_setL {xs : List V} {k : Int} {j : Nat} {Qh : Hp → Prop} (h : H a = some (.lst xs)) (hj : ixN xs.length k = some j) (q : Qh (upd H a (.lst (xs.set j v)))) : rSetL (.ref a) (.int k) v H Qh := ⟨a, xs, k, j, rfl, rfl, h, hj, q⟩
theorem w_gName {QS : L2.St → Hp → Prop} (q : QS (σ.set i (some v)) H) : gName i v σ H QS := q
theorem w_gTup {n : Nat} {tg : TGs} {QS : L2.St → Hp → Prop} (h : SqT K H a xs) (hn : xs.length = n) (q : tg xs σ H QS) : gTup K n tg (.ref a) σ H QS := ⟨a, xs, rfl, h, hn, q⟩
theorem w_gCons {g1 : TG} {tg : TGs} {QS : L2.St → Hp → Prop} (q : g1 v σ H fun σ' H' => tg xs σ' H' QS) : gCons g1 tg (v :: xs) σ H QS := ⟨v, xs, rfl, q⟩
theorem w_gNil {QS : L2.St → Hp → Prop} (q : QS σ H) : gNil [] σ H QS := ⟨rfl, q⟩
theorem w_asgG {g : TG} (h : te σ H fun x H1 => g x σ H1 D.nx) : tAsg te g D σ H := h
theorem w_var (h : σ[i]? = some (some v)) (q : Q v H) : tVar i σ H Q := ⟨v, h, q⟩
theorem w_con (q : Q v H) : tC v σ H Q := q
theorem w_op (h : ta σ H fun x H1 => tb σ H1 fun y H2 => r x y H2 Q) : tOp r ta tb σ H Q := h
theorem w_un {r : V → Hp → VK → Prop} (h : ta σ H fun x H1 => r x H1 Q) : tUn r ta σ H Q := h
theorem w_I0 {g : Int → Int → V} {i j : Int} (q : Q (g i j) H) : rI0 g (.int i) (.int j) H Q := ⟨i, j, rfl, rfl, q⟩
theorem w_I {C : Int → Int → Prop} {g : Int → Int → V} {i j : Int} (hc : C i j) (q : Q (g i j) H) : rI C g (.int i) (.int j) H Q := ⟨i, j, rfl, rfl, hc, q⟩
theorem w_mulI {i j : Int} (hc : CMul i j) (q : Q (.int (i * j)) H) : rMulI (.int i) (.int j) H Q := w_I hc q
theorem w_modI {i j : Int} (hc : 0 < j) (q : Q (.int (i % j)) H) : rModI (.int i) (.int j) H Q := w_I (C := fun _ j => 0 < j) hc q
theorem w_divI {i j : Int} (hc : CDivW i j) (q : Q (.int (i / j)) H) : rDivI (.int i) (.int j) H Q := w_I hc q
theorem w_powI {i j : Int} (hc : CPow i j) (q : Q (.int (i ^ j.toNat)) H) : rPowI (.int i) (.int j) H Q := w_I hc q
theorem w_shrI {i j : Int} (hc : 0 ≤ j) (q : Q (.int (i / 2 ^ j.toNat)) H) : rShrI (.int i) (.int j) H Q := w_I (C := fun _ j => 0 ≤ j) hc q
theorem w_mulX {i j : Int} (hc : CMulX i j) (q : Q (.int (i * j)) H) : rMulX (.int i) (.int j) H Q := w_I hc q
theorem w_shlI {i j : Int} (hc : CShl i j) (q : Q (.int (i * 2 ^ j.toNat)) H) : rShlI (.int i) (.int j) H Q := w_I hc q
theorem w_U {g : Int → V} {i : Int} (q : Q (g i) H) : rU g (.int i) H Q := ⟨i, rfl, q⟩
theorem w_eq (hs : scal x y = true) (q : Q (.bl (decide (x = y))) H) : rEq x y H Q := ⟨hs, q⟩
theorem w_ne (hs : scal x y = true) (q : Q (.bl (!decide (x = y))) H) : rNe x y H Q := ⟨hs, q⟩
theorem w_isB {p q : Bool} (h : Q (.bl (decide (p = q))) H) : rIsB (.bl p) (.bl q) H Q := ⟨p, q, rfl, rfl, h⟩
theorem w_notB {p q : Bool} (h : Q (.bl (!decide (p = q))) H) : rNotB (.bl p) (.bl q) H Q := ⟨p, q, rfl, rfl, h⟩
theorem w_isN (h : Q (.bl (decide (x = .non))) H) : L2.rIsN x .non H Q := ⟨rfl, h⟩
theorem w_notN (h : Q (.bl (!decide (x = .non))) H) : L2.rNotN x .non H Q := ⟨rfl, h⟩
theorem w_test (h : te σ H fun x H' => ∃ k, x = .bl k ∧ QB k H') : tTest te σ H QB := h
theorem w_tB (h : te σ H fun x H' => ∃ k, x = .bl k ∧ QB k H') : tB te σ H QB := h
theorem w_k {k : Bool} {R : Bool → Prop} (q : R k) : ∃ k', V.bl k = .bl k' ∧ R k' := ⟨k, rfl, q⟩
theorem w_not (h : c σ H fun k H1 => QB (!k) H1) : tNot c σ H QB := h
theorem w_and (h : c σ H fun k H1 => if k = true then c' σ H1 QB else QB false H1) : tAnd c c' σ H QB := h
theorem w_or (h : c σ H fun k H1 => if k = true then QB true H1 else c' σ H1 QB) : tOr c c' σ H QB := h
theorem w_andV (h : ta σ H fun x H1 => ∃ k, x = .bl k ∧ if k = true then tb σ H1 Q else Q (.bl false) H1) : tAndV ta tb σ H Q := h
theorem w_orV (h : ta σ H fun x H1 => ∃ k, x = .bl k ∧ if k = true then Q (.bl true) H1 else tb σ H1 Q) : tOrV ta tb σ H Q := h
theorem w_notV (h : ta σ H fun x H1 => ∃ k, x = .bl k ∧ Q (.bl (!k)) H1) : tNotV ta σ H Q := h
theorem w_chain (h : ta σ H fun x H1 => tb σ H1 fun y H2 => r x y H2 fun z H3 => ∃ k, z = .bl k ∧ (if k = true then tc σ H3 fun w' H4 => r' y w' H4 Q else Q (.bl false) H3)) : tChain r r' ta tb tc σ H Q := h
theorem w_orT (h : ta σ H fun x H1 => ∃ k, TruV K x H1 k ∧ if k = true then Q x H1 else tb σ H1 Q) : tOrT K ta tb σ H Q := h
theorem w_andT (h : ta σ H fun x H1 => ∃ k, TruV K x H1 k ∧ if k = true then tb σ H1 Q else Q x H1) : tAndT K ta tb σ H Q := h
theorem w_truI {n : Int} {R : Bool → Prop} (q : R (n != 0)) : ∃ k, TruV K (.int n) H k ∧ R k := ⟨_, rfl, q⟩
theorem w_ifE (h : c σ H fun k H1 => if k = true then ta σ H1 Q else tb σ H1 Q) : tIf c ta tb σ H Q := h
theorem w_nil {QL : List V → Hp → Prop} (q : QL [] H) : tNil σ H QL := q
theorem w_cons {QL : List V → Hp → Prop} (h : te σ H fun x H1 => tr σ H1 fun xs H2 => QL (x :: xs) H2) : tCons te tr σ H QL := h
theorem w_tup (h : tr σ H fun xs H1 => xs.length ≤ sizeLine ∧ ∀ p, H1 p = none → Q (.ref p) (upd H1 p (.tup xs))) : tTup tr σ H Q := h
theorem w_lst (h : tr σ H fun xs H1 => xs.length ≤ sizeLine ∧ ∀ p, H1 p = none → Q (.ref p) (upd H1 p (.lst xs))) : tLst tr σ H Q := h
theorem w_call {sp : Sp} {E : XK} (h : tr σ H fun vs H1 => sp vs H1 Q E) : tCall sp [] E tr σ H Q := by
  show tr σ H fun vs H1 => sp (vs ++ []) H1 Q E
  simp only [List.append_nil]
  exact h
theorem w_cb {r : List V → Hp → VK → Prop} (h : tr σ H fun vs H1 => r vs H1 Q) : tCB r tr σ H Q := h
theorem w_ixL {k : Int} (h : SqL K H a xs) (ha : atI xs k = some v) (q : Q v H) : rIxL K (.ref a) (.int k) H Q := ⟨a, xs, k, v, rfl, rfl, h, ha, q⟩
theorem w_ixT {k : Int} (h : SqT K H a xs) (ha : atI xs k = some v) (q : Q v H) : rIxT K (.ref a) (.int k) H Q := ⟨a, xs, k, v, rfl, rfl, h, ha, q⟩
theorem w_ixsL {k : Int} (h : SqL K H a xs) (ha : atI xs k = some v) (q : Q v H) : rIx K (.ref a) (.int k) H Q := .inl ⟨a, xs, k, v, rfl, rfl, h, ha, q⟩
theorem w_ixsT {k : Int} (h : SqT K H a xs) (ha : atI xs k = some v) (q : Q v H) : rIx K (.ref a) (.int k) H Q := .inr (.inl ⟨a, xs, k, v, rfl, rfl, h, ha, q⟩)
theorem w_min2 {m n : Int} (q : Q (.int (if n < m then n else m)) H) : rMin2 [.int m, .int n] H Q := ⟨m, n, rfl, q⟩
theorem w_max2 {m n : Int} (q : Q (.int (if n > m then n else m)) H) : Evl.rMax2 [.int m, .int n] H Q := ⟨m, n, rfl, q⟩
theorem w_bitsI {n : Int} {R : Int → Prop} (q : R n) : ∃ i, V.int n = .int i ∧ R i := ⟨n, rfl, q⟩
theorem w_abs {n : Int} (q : Q (.int (n.natAbs : Int)) H) : rAbs [.int n] H Q := ⟨n, rfl, by
  have e : (if n < 0 then -n else n) = (n.natAbs : Int) := by split <;> omega
  rw [e]; exact q⟩
theorem w_intB {k : Bool} (q : Q (.int (if k then 1 else 0)) H) : rInt1 [.bl k] H Q := .inr ⟨k, rfl, q⟩
theorem w_tupOfL (h : SqL K H a ys) (q : ∀ l, H l = none → Q (.ref l) (upd H l (.tup ys))) : rTupOf K [.ref a] H Q := ⟨a, ys, rfl, .inl ⟨h, q⟩⟩
theorem w_lenL (h : SqL K H a xs) (q : Q (.int xs.length) H) : Evl.rLenS K [.ref a] H Q := ⟨a, xs, rfl, .inl h, q⟩
theorem w_lenT (h : SqT K H a xs) (q : Q (.int xs.length) H) : Evl.rLenS K [.ref a] H Q := ⟨a, xs, rfl, .inr h, q⟩
theorem w_isi {cc : V} {tt uu : Value} {k : Bool} (hc : ClsV cc uu) (ht : TyX K H x tt) (hk : PySem.W.kitOne K tt uu = some k) (q : Q (.bl k) H) : rIsi K [x, cc] H Q := ⟨x, cc, tt, uu, k, rfl, hc, ht, hk, q⟩
theorem w_sl {rr : V → Option Int → Option Int → Hp → VK → Prop} {tl th : TO} (h : te σ H fun x H1 => tl σ H1 fun l H2 => th σ H2 fun u H3 => rr x l u H3 Q) : tSl rr te tl th σ H Q := h
theorem w_noPart {QO : Option Int → Hp → Prop} (q : QO none H) : tNoPart σ H QO := q
theorem w_part {QO : Option Int → Hp → Prop} (h : te σ H fun x H1 => ∃ i, x = .int i ∧ QO (some i) H1) : tPart te σ H QO := h
theorem w_partI {R : Int → Prop} {n : Int} (q : R n) : ∃ i, V.int n = .int i ∧ R i := ⟨n, rfl, q⟩
theorem w_slL {lo hi : Option Int} (h : SqL K H a xs) (q : ∀ p, H p = none → Q (.ref p) (upd H p (.lst (cutV xs lo hi)))) : rSlL K (.ref a) lo hi H Q := ⟨a, xs, rfl, h, q⟩
theorem w_cat (h : H a = some (.lst xs)) (h' : H b = some (.lst ys)) (hl : xs.length + ys.length ≤ sizeLine) (q : ∀ p, H p = none → Q (.ref p) (upd H p (.lst (xs ++ ys)))) : rCat (.ref a) (.ref b) H Q := ⟨a, b, xs, ys, rfl, rfl, h, h', hl, q⟩
theorem w_eqD {d e : PyData} (h1 : Dp K H x d) (h2 : Dp K H y e) (s1 : SeqAt.shaped d = true) (s2 : SeqAt.shaped e = true) (q : Q (.bl (PyData.eqv d e)) H) : rEqD K x y H Q := ⟨d, e, h1, h2, s1, s2, q⟩
theorem w_neD {d e : PyData} (h1 : Dp K H x d) (h2 : Dp K H y e) (s1 : SeqAt.shaped d = true) (s2 : SeqAt.shaped e = true) (q : Q (.bl (!PyData.eqv d e)) H) : rNeD K x y H Q := ⟨d, e, h1, h2, s1, s2, q⟩
theorem w_eqD_same {d : PyData} (h1 : Dp K H x d) (h2 : Dp K H y d) (s1 : SeqAt.shaped d = true) (q : Q (.bl true) H) : rEqD K x y H Q := ⟨d, d, h1, h2, s1, s1, by rw [SeqAt.eqv_refl d (SeqAt.canLay_of_shaped s1)]; exact q⟩
theorem w_neD_same {d : PyData} (h1 : Dp K H x d) (h2 : Dp K H y d) (s1 : SeqAt.shaped d = true) (q : Q (.bl false) H) : rNeD K x y H Q := ⟨d, d, h1, h2, s1, s1, by rw [SeqAt.eqv_refl d (SeqAt.canLay_of_shaped s1)]; exact q⟩
theorem dpP {m n : Int} (h : H a = some (.tup [.int m, .int n])) : Dp K H (.ref a) (.tuple [.int m, .int n]) := .tup (SqT.of h) (.cons (.int _) (.cons (.int _) .nil))
theorem dpN (h : H a = some (.lst [])) : Dp K H (.ref a) (.list []) := .lst (SqL.of h) .nil
theorem eqv_pair {m n m' n' : Int} : PyData.eqv (.tuple [.int m, .int n]) (.tuple [.int m', .int n']) = (decide (m = m') && decide (n = n')) := by
  simp [PyData.eqv, PyData.eqvAll, Bool.beq_eq_decide_eq]
theorem w_bits (h : te σ H fun x H1 => ∃ i, x = .int i ∧ Q (.int (Builtin.Int.intBits i : Nat)) H1) : tBits te σ H Q := h
/-! ### heaps -/
theorem w_bm {T : String} {r : V → List V → Hp → VK → Prop} (h : te σ H fun x H1 => tyV K T x H1 ∧ tr σ H1 fun xs H2 => r x xs H2 Q) : tBM K T r te tr σ H Q := h
theorem w_bm0 {T : String} {r : V → List V → Hp → VK → Prop} (h : te σ H fun x H1 => tyV K T x H1 ∧ r x [] H1 Q) : tBM0 K T r te σ H Q := h
theorem w_tyL {R : Prop} (h : H a = some (.lst xs)) (q : R) : tyV K "list" (.ref a) H ∧ R := ⟨.inl ⟨rfl, _, SqL.of h⟩, q⟩
theorem w_tyS {R : Prop} {z : Str} (q : R) : tyV K "str" (.str z) H ∧ R := ⟨rfl, q⟩
theorem w_append (h : H a = some (.lst xs)) (hl : xs.length < sizeLine) (q : Q .non (upd H a (.lst (xs ++ [v])))) : rAppend (.ref a) [v] H Q := ⟨a, xs, v, rfl, rfl, h, hl, q⟩
theorem w_repT {k : Nat} (h : SqT K H a xs) (h0 : xs ≠ []) (h2 : 2 ≤ k) (h3 : k ≤ 1000) (h4 : xs.length ≤ 1000) (q : ∀ p, H p = none → Q (.ref p) (upd H p (.tup (List.replicate k xs).flatten))) : rRepT K (.ref a) (.int (k : Int)) H Q := ⟨a, k, xs, rfl, rfl, h, h0, by omega, by omega, h4, by rw [Int.toNat_natCast]; exact q⟩
theorem keep {p : Addr} {u : HO} (h : H a = some o) (hp : H p = none) : upd H p u a = some o := by
  rw [upd_ne (ne_of_none h hp)]; exact h
theorem get (e : Same H H') (h : H a = some o) : H' a = some o := e a o h
theorem same_new {p : Addr} {u : HO} (hp : H p = none) : Same H (upd H p u) := fun _ _ h => keep h hp
theorem same_in {H0 : Hp} {p : Addr} {u : HO} (s : Same H0 H) (hp : H p = none) : Same H0 (upd H p u) := s.trans (same_new hp)
theorem free_of {p : Addr} {u : HO} {q : Addr} (h : upd H p u q = none) : H q = none := by
  unfold upd at h
  split at h
  · cases h
  · exact h
theorem ne_new {p : Addr} {u : HO} {q : Addr} (h : upd H p u q = none) : q ≠ p := fun e => by
  rw [e, upd_same] at h; cases h
theorem sqL (h : H a = some (.lst xs)) : SqL K H a xs := SqL.of h
theorem sqT (h : H a = some (.tup xs)) : SqT K H a xs := SqT.of h
theorem tyT (h : H a = some (.tup xs)) : TyX K H (.ref a) (.type "tuple") := .base (.tup h)
end
/-! ### isinstance -/
section
variable {K : PySem.W.Frag} {H : Hp} {Q : VK}
theorem i_int_int {n : Int} (q : Q (.bl true) H) : rIsi K [.int n, .ty "int"] H Q := w_isi (.ty _) (.base (.int n)) (kit_ty (a := "int") (b := "int") (r := true) (by decide +kernel)) q
theorem i_int_bool {n : Int} (q : Q (.bl false) H) : rIsi K [.int n, .ty "bool"] H Q := w_isi (.ty _) (.base (.int n)) (kit_ty (a := "int") (b := "bool") (r := false) (by decide +kernel)) q
theorem i_int_str {n : Int} (q : Q (.bl false) H) : rIsi K [.int n, .ty "str"] H Q := w_isi (.ty _) (.base (.int n)) (kit_ty (a := "int") (b := "str") (r := false) (by decide +kernel)) q
theorem i_int_list {n : Int} (q : Q (.bl false) H) : rIsi K [.int n, .ty "list"] H Q := w_isi (.ty _) (.base (.int n)) (kit_ty (a := "int") (b := "list") (r := false) (by decide +kernel)) q
theorem i_int_tuple {n : Int} (q : Q (.bl false) H) : rIsi K [.int n, .ty "tuple"] H Q := w_isi (.ty _) (.base (.int n)) (kit_ty (a := "int") (b := "tuple") (r := false) (by decide +kernel)) q
theorem i_bl_int {b : Bool} (q : Q (.bl true) H) : rIsi K [.bl b, .ty "int"] H Q := w_isi (.ty _) (.base (.bl b)) (kit_ty (a := "bool") (b := "int") (r := true) (by decide +kernel)) q
theorem i_bl_bool {b : Bool} (q : Q (.bl true) H) : rIsi K [.bl b, .ty "bool"] H Q := w_isi (.ty _) (.base (.bl b)) (kit_ty (a := "bool") (b := "bool") (r := true) (by decide +kernel)) q
theorem i_bl_str {b : Bool} (q : Q (.bl false) H) : rIsi K [.bl b, .ty "str"] H Q := w_isi (.ty _) (.base (.bl b)) (kit_ty (a := "bool") (b := "str") (r := false) (by decide +kernel)) q
theorem i_bl_list {b : Bool} (q : Q (.bl false) H) : rIsi K [.bl b, .ty "list"] H Q := w_isi (.ty _) (.base (.bl b)) (kit_ty (a := "bool") (b := "list") (r := false) (by decide +kernel)) q
theorem i_bl_tuple {b : Bool} (q : Q (.bl false) H) : rIsi K [.bl b, .ty "tuple"] H Q := w_isi (.ty _) (.base (.bl b)) (kit_ty (a := "bool") (b := "tuple") (r := false) (by decide +kernel)) q
theorem i_str_int {z : Str} (q : Q (.bl false) H) : rIsi K [.str z, .ty "int"] H Q := w_isi (.ty _) (.base (.str z)) (kit_ty (a := "str") (b := "int") (r := false) (by decide +kernel)) q
theorem i_str_bool {z : Str} (q : Q (.bl false) H) : rIsi K [.str z, .ty "bool"] H Q := w_isi (.ty _) (.base (.str z)) (kit_ty (a := "str") (b := "bool") (r := false) (by decide +kernel)) q
theorem i_str_str {z : Str} (q : Q (.bl true) H) : rIsi K [.str z, .ty "str"] H Q := w_isi (.ty _) (.base (.str z)) (kit_ty (a := "str") (b := "str") (r := true) (by decide +kernel)) q
theorem i_str_list {z : Str} (q : Q (.bl false) H) : rIsi K [.str z, .ty "list"] H Q := w_isi (.ty _) (.base (.str z)) (kit_ty (a := "str") (b := "list") (r := false) (by decide +kernel)) q
theorem i_str_tuple {z : Str} (q : Q (.bl false) H) : rIsi K [.str z, .ty "tuple"] H Q := w_isi (.ty _) (.base (.str z)) (kit_ty (a := "str") (b := "tuple") (r := false) (by decide +kernel)) q
theorem i_non_int (q : Q (.bl false) H) : rIsi K [.non, .ty "int"] H Q := w_isi (.ty _) (.base .non) (kit_ty (a := "NoneType") (b := "int") (r := false) (by decide +kernel)) q
theorem i_non_bool (q : Q (.bl false) H) : rIsi K [.non, .ty "bool"] H Q := w_isi (.ty _) (.base .non) (kit_ty (a := "NoneType") (b := "bool") (r := false) (by decide +kernel)) q
theorem i_non_str (q : Q (.bl false) H) : rIsi K [.non, .ty "str"] H Q := w_isi (.ty _) (.base .non) (kit_ty (a := "NoneType") (b := "str") (r := false) (by decide +kernel)) q
theorem i_non_list (q : Q (.bl false) H) : rIsi K [.non, .ty "list"] H Q := w_isi (.ty _) (.base .non) (kit_ty (a := "NoneType") (b := "list") (r := false) (by decide +kernel)) q
theorem i_non_tuple (q : Q (.bl false) H) : rIsi K [.non, .ty "tuple"] H Q := w_isi (.ty _) (.base .non) (kit_ty (a := "NoneType") (b := "tuple") (r := false) (by decide +kernel)) q
theorem i_lst_int {a : Addr} {xs : List V} (h : H a = some (.lst xs)) (q : Q (.bl false) H) : rIsi K [.ref a, .ty "int"] H Q := w_isi (.ty _) (.base (.lst h)) (kit_ty (a := "list") (b := "int") (r := false) (by decide +kernel)) q
theorem i_lst_bool {a : Addr} {xs : List V} (h : H a = some (.lst xs)) (q : Q (.bl false) H) : rIsi K [.ref a, .ty "bool"] H Q := w_isi (.ty _) (.base (.lst h)) (kit_ty (a := "list") (b := "bool") (r := false) (by decide +kernel)) q
theorem i_lst_str {a : Addr} {xs : List V} (h : H a = some (.lst xs)) (q : Q (.bl false) H) : rIsi K [.ref a, .ty "str"] H Q := w_isi (.ty _) (.base (.lst h)) (kit_ty (a := "list") (b := "str") (r := false) (by decide +kernel)) q
theorem i_lst_list {a : Addr} {xs : List V} (h : H a = some (.lst xs)) (q : Q (.bl true) H) : rIsi K [.ref a, .ty "list"] H Q := w_isi (.ty _) (.base (.lst h)) (kit_ty (a := "list") (b := "list") (r := true) (by decide +kernel)) q
theorem i_lst_tuple {a : Addr} {xs : List V} (h : H a = some (.lst xs)) (q : Q (.bl false) H) : rIsi K [.ref a, .ty "tuple"] H Q := w_isi (.ty _) (.base (.lst h)) (kit_ty (a := "list") (b := "tuple") (r := false) (by decide +kernel)) q
theorem i_tup_int {a : Addr} {xs : List V} (h : H a = some (.tup xs)) (q : Q (.bl false) H) : rIsi K [.ref a, .ty "int"] H Q := w_isi (.ty _) (.base (.tup h)) (kit_ty (a := "tuple") (b := "int") (r := false) (by decide +kernel)) q
theorem i_tup_bool {a : Addr} {xs : List V} (h : H a = some (.tup xs)) (q : Q (.bl false) H) : rIsi K [.ref a, .ty "bool"] H Q := w_isi (.ty _) (.base (.tup h)) (kit_ty (a := "tuple") (b := "bool") (r := false) (by decide +kernel)) q
theorem i_tup_str {a : Addr} {xs : List V} (h : H a = some (.tup xs)) (q : Q (.bl false) H) : rIsi K [.ref a, .ty "str"] H Q := w_isi (.ty _) (.base (.tup h)) (kit_ty (a := "tuple") (b := "str") (r := false) (by decide +kernel)) q
theorem i_tup_list {a : Addr} {xs : List V} (h : H a = some (.tup xs)) (q : Q (.bl false) H) : rIsi K [.ref a, .ty "list"] H Q := w_isi (.ty _) (.base (.tup h)) (kit_ty (a := "tuple") (b := "list") (r := false) (by decide +kernel)) q
theorem i_tup_tuple {a : Addr} {xs : List V} (h : H a = some (.tup xs)) (q : Q (.bl true) H) : rIsi K [.ref a, .ty "tuple"] H Q := w_isi (.ty _) (.base (.tup h)) (kit_ty (a := "tuple") (b := "tuple") (r := true) (by decide +kernel)) q
theorem i_dK_int {a : Addr} {kvs : List (Key × V)} (h : H a = some (.dK kvs)) (q : Q (.bl false) H) : rIsi K [.ref a, .ty "int"] H Q := w_isi (.ty _) (.base (.dK h)) (kit_ty (a := "dict") (b := "int") (r := false) (by decide +kernel)) q
theorem i_dK_bool {a : Addr} {kvs : List (Key × V)} (h : H a = some (.dK kvs)) (q : Q (.bl false) H) : rIsi K [.ref a, .ty "bool"] H Q := w_isi (.ty _) (.base (.dK h)) (kit_ty (a := "dict") (b := "bool") (r := false) (by decide +kernel)) q
theorem i_dK_str {a : Addr} {kvs : List (Key × V)} (h : H a = some (.dK kvs)) (q : Q (.bl false) H) : rIsi K [.ref a, .ty "str"] H Q := w_isi (.ty _) (.base (.dK h)) (kit_ty (a := "dict") (b := "str") (r := false) (by decide +kernel)) q
theorem i_dK_list {a : Addr} {kvs : List (Key × V)} (h : H a = some (.dK kvs)) (q : Q (.bl false) H) : rIsi K [.ref a, .ty "list"] H Q := w_isi (.ty _) (.base (.dK h)) (kit_ty (a := "dict") (b := "list") (r := false) (by decide +kernel)) q
theorem i_dK_tuple {a : Addr} {kvs : List (Key × V)} (h : H a = some (.dK kvs)) (q : Q (.bl false) H) : rIsi K [.ref a, .ty "tuple"] H Q := w_isi (.ty _) (.base (.dK h)) (kit_ty (a := "dict") (b := "tuple") (r := false) (by decide +kernel)) q
end
/-! ### loops -/
/-- a while by a family of states -/
def Wt {α : Type} (S : α → L2.St) (Pv : α → Hp → Prop) (μ : α → Nat) (m : Nat) (tb : TS) (D : Ends) (σ : L2.St) (H : Hp) : Prop :=
  ∃ N : L2.St → Hp → Prop, (∀ σ' H', N σ' H' → ∃ m', m' < m ∧ ∃ a', σ' = S a' ∧ Pv a' H' ∧ m' = μ a') ∧ tb { D with nx := N, ct := N, bk := D.nx } σ H
theorem w_while {α : Type} {c : TT} {tb : TS} {D : Ends} {σ : L2.St} {H : Hp} (S : α → L2.St) (Pv : α → Hp → Prop) (μ : α → Nat) (a0 : α) (e : σ = S a0) (h0 : Pv a0 H)
    (hs : ∀ a H, Pv a H → c (S a) H fun b H1 => if b = true then Wt S Pv μ (μ a) tb D (S a) H1 else D.nx (S a) H1) : tWhile c tb D σ H := by
  refine ⟨fun m σ H => ∃ a, σ = S a ∧ Pv a H ∧ m = μ a, ⟨_, a0, e, h0, rfl⟩, ?_⟩
  rintro m σ H ⟨a, rfl, p, rfl⟩
  exact hs a H p
theorem w_turn {α : Type} {tb : TS} {D : Ends} {σ : L2.St} {H : Hp} {S : α → L2.St} {Pv : α → Hp → Prop} {μ : α → Nat} {m : Nat}
    (h : tb { D with nx := fun σ' H' => ∃ a', σ' = S a' ∧ Pv a' H' ∧ μ a' < m, ct := fun σ' H' => ∃ a', σ' = S a' ∧ Pv a' H' ∧ μ a' < m, bk := D.nx } σ H) : Wt S Pv μ m tb D σ H :=
  ⟨_, fun _ _ ⟨a', e, p, l⟩ => ⟨_, l, a', e, p, rfl⟩, h⟩
section
variable {K : PySem.W.Frag} {σ : L2.St} {H : Hp} {D : Ends} {g : TG} {tb : TS} {tl : TE} {ta : TA}
theorem w_forI {wi : TI} (h : wi σ H fun J H1 => ∃ W : Nat → Nat → L2.St → Hp → Prop, (∃ m, W 0 m σ H1) ∧ ∀ i m σ H, W i m σ H →
    (J.stop i H ∧ D.nx σ H) ∨ (J.go i H ∧ ∃ N : L2.St → Hp → Prop, (∀ σ' H', N σ' H' → ∃ m', m' < m ∧ W (i + 1) m' σ' H') ∧ ∀ x H', J.yld i H x H' → g x σ H' fun σ2 H2 => tb { D with nx := N, ct := N, bk := D.nx } σ2 H2)) : tFor wi g tb D σ H := h
theorem w_iL {R : It → Hp → Prop} (h : tl σ H fun x H1 => ∃ a, x = .ref a ∧ (∃ xs, SqL K H1 a xs) ∧ R (Itl K a) H1) : iList K tl σ H R := h
theorem w_iT {R : It → Hp → Prop} (h : tl σ H fun x H1 => ∃ a, x = .ref a ∧ (∃ xs, SqT K H1 a xs) ∧ R (Itt K a) H1) : iTup K tl σ H R := h
theorem w_iR1 {R : It → Hp → Prop} (h : ta σ H fun vs H1 => ∃ j : Int, vs = [.int j] ∧ -(2 ^ 62) ≤ j ∧ j < 2 ^ 62 ∧ R (Itr 0 j.toNat) H1) : iRng1 ta σ H R := h
theorem w_iR2 {R : It → Hp → Prop} (h : ta σ H fun vs H1 => ∃ i j : Int, vs = [.int i, .int j] ∧ (-(2 ^ 62) ≤ i ∧ i < 2 ^ 62 ∧ -(2 ^ 62) ≤ j ∧ j < 2 ^ 62) ∧ R (Itr i (j - i).toNat) H1) : iRng2 ta σ H R := h
theorem w_iZT {R : It → Hp → Prop} (h : ta σ H fun vs H1 => ∃ a b xs ys, vs = [.ref a, .ref b] ∧ ((SqL K H1 a xs ∧ SqL K H1 b ys ∧ R (Itz K a b) H1) ∨ (SqT K H1 a xs ∧ SqT K H1 b ys ∧ R (RZ.ItzT K a b) H1))) : RZ.iZipA K ta σ H R := h
theorem walk_zipT {a b : Addr} {xs ys : List V} {n : Nat} (hn : n = min xs.length ys.length) : Walk (RZ.ItzT K a b) n (fun H => SqT K H a xs ∧ SqT K H b ys) (YPair (fun i => xs[i]?) (fun i => ys[i]?)) where
  goes := fun i H hi h => ⟨xs, ys, xs[i], ys[i], h.1, h.2, List.getElem?_eq_getElem (by omega), List.getElem?_eq_getElem (by omega)⟩
  stops := fun H h => ⟨xs, ys, h.1, h.2, by omega⟩
  yields := fun i H x H' hi h y => by
    obtain ⟨T, u, v, e, n, e2, f1, f2⟩ := y
    exact ⟨T, u, v, e, n, e2, f1 xs h.1, f2 ys h.2⟩
theorem w_yes {QB : Bool → Hp → Prop} (q : QB true H) : tYes σ H QB := q
theorem w_lc {wi : TI} {tt : TT} {te : TE} {vs : List Nat} {Q : VK} (h : wi σ H fun J H1 => ∀ D, H1 D = none → ∃ W : Nat → Nat → Hp → Prop, (∃ m, W 0 m (upd H1 D (.lst []))) ∧ ∀ i m H, W i m H →
  (J.stop i H ∧ Q (.ref D) H) ∨ (J.go i H ∧ ∃ Nx : Hp → Prop, (∀ H', Nx H' → ∃ m', m' < m ∧ W (i + 1) m' H') ∧ ∀ x H', J.yld i H x H' → g x (wipe σ vs) H' fun σ2 H2 => wipe σ2 vs = wipe σ vs ∧ tt σ2 H2 fun b H3 =>
    if b = true then te σ2 H3 fun y H4 => ∃ acc, H4 D = some (.lst acc) ∧ acc.length < sizeLine ∧ Nx (upd H4 D (.lst (acc ++ [y]))) else Nx H3)) : tLc wi g tt te vs σ H Q := h
end
/-! ### tests that are known -/
theorem if_t {c : Bool} {A B : Prop} (hc : c = true) (h : A) : if c = true then A else B := by rw [if_pos hc]; exact h
theorem if_f {c : Bool} {A B : Prop} (hc : c = false) (h : B) : if c = true then A else B := by rw [hc, if_neg Bool.false_ne_true]; exact h
theorem if_2 {c : Prop} [Decidable c] {A B : Prop} (h1 : c → A) (h2 : ¬ c → B) : if decide c = true then A else B := by
  by_cases h : c
  · exact if_t (decide_eq_true h) (h1 h)
  · exact if_f (decide_eq_false h) (h2 h)
theorem if_n2 {c : Prop} [Decidable c] {A B : Prop} (h1 : ¬ c → A) (h2 : c → B) : if (!decide c) = true then A else B := by
  by_cases h : c
  · exact if_f (by rw [decide_eq_true h]; rfl) (h2 h)
  · exact if_t (by rw [decide_eq_false h]; rfl) (h1 h)
theorem if_b {c : Bool} {A B : Prop} (h1 : c = true → A) (h2 : c = false → B) : if c = true then A else B := by
  cases c with
  | true => exact if_t rfl (h1 rfl)
  | false => exact if_f rfl (h2 rfl)
theorem V.int_inj {i j : Int} : (V.int i = V.int j) ↔ i = j := ⟨fun h => V.int.inj h, fun h => by rw [h]⟩
end Go

set_option Elab.async false
set_option linter.all false
set_option maxRecDepth 100000
set_option maxHeartbeats 4000000
namespace Go
open PySem PySem.Spec PyProof.Rows L2
/-! ### constants, texts -/
theorem pe_globI {X : Cx} {x : Str} {i : Int} {pos : Pos} (hg : Gl X x) (h : ∃ t, X.mg x = some (.int i t)) (hd : (x == ("__debug__" : Str)) = false := by decide) : PE X (.Name x pos) (tC (.int i)) := by
  obtain ⟨t, h⟩ := h
  exact pe_glob hg h ⟨t, rfl⟩ hd
theorem pe_globS {X : Cx} {x z : Str} {pos : Pos} (hg : Gl X x) (h : ∃ t, X.mg x = some (.str z t)) (hd : (x == ("__debug__" : Str)) = false := by decide) : PE X (.Name x pos) (tC (.str z)) := by
  obtain ⟨t, h⟩ := h
  exact pe_glob hg h ⟨t, rfl⟩ hd
abbrev one1 (c : Nat) : V := .str ⟨#[c]⟩
abbrev rListStr : List V → Hp → VK → Prop := fun xs H Q => ∃ z : Str, xs = [.str z] ∧ z.length ≤ sizeLine ∧ ∀ l, H l = none → Q (.ref l) (upd H l (.lst (z.cps.toList.map one1)))
theorem call_list_sign {X : Cx} (hc : X.calm = true) : CallR X (.type "list") rListStr := by
  intro pins s σ H xs us Q I r h
  obtain ⟨z, rfl, hz, q⟩ := h
  obtain ⟨u, rfl, t, rfl⟩ := vals1 r
  refine call_list_str (I.ok.hd hc) z t (hn := hz) fun h' tk acc c' hk hS hacc => ?_
  refine ⟨.ref s.heap.objs.size, upd H s.heap.objs.size (.lst (z.cps.toList.map one1)), I.laid hk (Nat.le_refl _) (show ObjOk X.prog X.w _ _ _ (.lst (z.cps.toList.map one1)) from ⟨?_, acc.toList, c', ?_, ?_⟩), rfl, q _ (I.hok.fresh (Nat.le_refl _))⟩
  · rw [List.length_map, Array.length_toList]; exact hz
  · have el : acc.toList.length = acc.size := by simp
    refine vals_of_at (by rw [List.length_map, el, hacc.1, Array.length_toList]) fun j x w h1 h2 => ?_
    obtain ⟨c, u, hcu, rfl⟩ := hacc.2 j w (by rw [← Array.getElem?_toList]; exact h2)
    rw [List.getElem?_map, Array.getElem?_toList, hcu] at h1
    cases h1
    exact ⟨u, rfl⟩
  · rw [Array.toArray_toList]; exact hS
abbrev rRepStr : R2 := fun x y H Q => ∃ (z : Str) (n : Nat), x = .str z ∧ y = .int (n : Int) ∧ z.length * n ≤ 1000 ∧ n ≤ 1000 ∧ Q (.str (Txt.mul z (n : Int))) H
theorem op_rep_str {X : Cx} : OpR X (binaryOp .Mult) rRepStr := by
  intro pins s σ H x y v u Q I rx ry h
  obtain ⟨z, n, rfl, rfl, hz, hn, q⟩ := h
  obtain ⟨t, rfl⟩ := rx
  obtain ⟨t', rfl⟩ := ry
  refine SB.mul ⟨?_, fun h1 h2 => ?_, fun h1 h2 => ?_⟩ fun t2 k => ⟨.str (Txt.mul z (n : Int)), H, ?_, ⟨_, rfl⟩, q⟩
  · rw [decide_eq_false (by omega), decide_eq_false (by omega)]; rfl
  · intro h3
    have h4 : (z.length : Int) * n ≤ 1000 := by exact_mod_cast hz
    have h5 : 1 ≤ (n : Int) := by omega
    have h6 : (1000 : Int) ≤ (2 ^ 63 - 1) / n := by
      rw [Int.le_ediv_iff_mul_le (by omega)]
      omega
    have h7 : (z.length : Int) ≤ z.length * n := by
      have := Int.mul_le_mul_of_nonneg_left h5 (Int.natCast_nonneg z.length)
      omega
    omega
  · rw [Int.toNat_natCast]
    have h9 : ¬ z.length * n > sizeLine := Nat.not_lt.mpr (Nat.le_trans hz (by decide))
    exact decide_eq_false h9
  · exact I.tok _
abbrev rLeS : R2 := fun x y H Q => ∃ i j, x = .str i ∧ y = .str j ∧ Q (.bl (!decide (j.cps.toList < i.cps.toList))) H
abbrev rGtS : R2 := fun x y H Q => ∃ i j, x = .str i ∧ y = .str j ∧ Q (.bl (decide (j.cps.toList < i.cps.toList))) H
abbrev rGeS : R2 := fun x y H Q => ∃ i j, x = .str i ∧ y = .str j ∧ Q (.bl (!decide (i.cps.toList < j.cps.toList))) H
abbrev rLtS : R2 := fun x y H Q => ∃ i j, x = .str i ∧ y = .str j ∧ Q (.bl (decide (i.cps.toList < j.cps.toList))) H
abbrev tJoin (K : PySem.W.Frag) (to te : TE) : TE := tM1 (fun x xs H Q => ∃ a p, ∃ ys : List Str, x = .str a ∧ xs = [.ref p] ∧ (SqL K H p (ys.map V.str) ∨ SqT K H p (ys.map V.str)) ∧
      (ys.map (·.length)).sum + ys.length * a.length ≤ 16777216 ∧ Q (.str (Txt.join a ys)) H) to te
abbrev tSplit (to te : TE) : TE := tM1 (fun x xs H Q => ∃ a b, x = .str a ∧ xs = [.str b] ∧ (b.length == 0) = false ∧ a.length + 2 ≤ sizeLine ∧ rNewStrs (Txt.split a b) H Q) to te
section
variable {K : PySem.W.Frag} {σ : L2.St} {H H' : Hp} {Q : VK} {te to : TE} {a b : Addr} {xs ys : List V} {v : V} {z z' : Str}
theorem w_join (h : to σ H fun x H1 => (∃ a, x = .str a) ∧ te σ H1 fun y H2 => ∃ a p, ∃ ys : List Str, x = .str a ∧ [y] = [.ref p] ∧ (SqL K H2 p (ys.map V.str) ∨ SqT K H2 p (ys.map V.str)) ∧
      (ys.map (·.length)).sum + ys.length * a.length ≤ 16777216 ∧ Q (.str (Txt.join a ys)) H2) : tJoin K to te σ H Q := h
theorem w_joinL {ys : List Str} (h : H a = some (.lst (ys.map V.str))) (hl : (ys.map (·.length)).sum + ys.length * z.length ≤ 16777216) (q : Q (.str (Txt.join z ys)) H) :
    ∃ a', ∃ p, ∃ ys : List Str, V.str z = .str a' ∧ [V.ref a] = [.ref p] ∧ (SqL K H p (ys.map V.str) ∨ SqT K H p (ys.map V.str)) ∧ (ys.map (·.length)).sum + ys.length * a'.length ≤ 16777216 ∧ Q (.str (Txt.join a' ys)) H :=
  ⟨z, a, ys, rfl, rfl, .inl (SqL.of h), hl, q⟩
theorem w_strE {R : Prop} (q : R) : (∃ a, V.str z = .str a) ∧ R := ⟨⟨z, rfl⟩, q⟩
theorem w_lenStr (hl : z.length ≤ sizeLine) (q : Q (.int z.length) H) : rLenStr [.str z] H Q := ⟨z, rfl, hl, q⟩
theorem w_ixS {i : Int} {c : Nat} (hl : z.length ≤ sizeLine) (hc : atI z.cps.toList i = some c) (q : Q (one1 c) H) : rIxS (.str z) (.int i) H Q := ⟨z, i, c, rfl, rfl, hl, hc, q⟩
theorem w_slS {lo hi : Option Int} (hl : z.length ≤ sizeLine) (q : Q (.str (cutS z lo hi)) H) : rSlS (.str z) lo hi H Q := ⟨z, rfl, hl, q⟩
theorem w_addStr (hl : z.length + z'.length ≤ sizeLine) (q : Q (.str (z ++ z')) H) : rAddStr (.str z) (.str z') H Q := ⟨z, z', rfl, rfl, hl, q⟩
theorem w_inS {c : Nat} (q : Q (.bl (decide (c ∈ z.cps.toList))) H) : rInS (one1 c) (.str z) H Q := ⟨c, z, rfl, rfl, q⟩
theorem w_leS (q : Q (.bl (!decide (z'.cps.toList < z.cps.toList))) H) : rLeS (.str z) (.str z') H Q := ⟨z, z', rfl, rfl, q⟩
theorem w_all {bs : List Bool} (h : H a = some (.lst (bs.map V.bl))) (q : Q (.bl (bs.all id)) H) : rAll K [.ref a] H Q := ⟨a, bs, rfl, SqL.of h, q⟩
theorem w_any {bs : List Bool} (h : H a = some (.lst (bs.map V.bl))) (q : Q (.bl (bs.any id)) H) : rAny K [.ref a] H Q := ⟨a, bs, rfl, SqL.of h, q⟩
theorem w_iS {R : It → Hp → Prop} (h : te σ H fun v H1 => ∃ x, v = .str x ∧ R (Its x) H1) : iStr te σ H R := h
theorem w_iSE {R : Str → Prop} (q : R z) : ∃ x, V.str z = .str x ∧ R x := ⟨z, rfl, q⟩
theorem w_listStr (hl : z.length ≤ sizeLine) (q : ∀ l, H l = none → Q (.ref l) (upd H l (.lst (z.cps.toList.map one1)))) : rListStr [.str z] H Q := ⟨z, rfl, hl, q⟩
theorem w_listT (h : SqT K H a ys) (q : ∀ l, H l = none → Q (.ref l) (upd H l (.lst ys))) : Evl.rListS K [.ref a] H Q := ⟨a, ys, rfl, .inr h, q⟩
theorem w_listL (h : SqL K H a ys) (q : ∀ l, H l = none → Q (.ref l) (upd H l (.lst ys))) : Evl.rListS K [.ref a] H Q := ⟨a, ys, rfl, .inl h, q⟩
theorem w_gUnl {n : Nat} {tg : TGs} {QS : L2.St → Hp → Prop} (h : SqL K H a xs) (hn : xs.length = n) (q : tg xs σ H QS) : gUnl K n tg (.ref a) σ H QS := ⟨a, xs, rfl, h, hn, q⟩
theorem w_dnew (q : ∀ p, H p = none → Q (.ref p) (upd H p (.dK []))) : tDNewK σ H Q := q
theorem w_in {neg : Bool} (h : SqL K H a xs ∨ SqT K H a xs) (fx : flatV v = true) (fs : xs.all flatV = true) (q : Q (.bl (if neg then !inV v xs else inV v xs)) H) : rIn K neg v (.ref a) H Q := ⟨a, xs, rfl, h, fx, fs, q⟩
theorem w_rep_str {n : Nat} (h1 : z.length * n ≤ 1000) (h2 : n ≤ 1000) (q : Q (.str (Txt.mul z (n : Int))) H) : rRepStr (.str z) (.int (n : Int)) H Q := ⟨z, n, rfl, rfl, h1, h2, q⟩
end
/-! ### what kind of thing a value is -/
inductive Kd (H : Hp) : V → String → Prop
  | int (n : Int) : Kd H (.int n) "int"
  | bl (b : Bool) : Kd H (.bl b) "bool"
  | str (z : Str) : Kd H (.str z) "str"
  | non : Kd H .non "NoneType"
  | lst {a : Addr} {xs : List V} (h : H a = some (.lst xs)) : Kd H (.ref a) "list"
  | tup {a : Addr} {xs : List V} (h : H a = some (.tup xs)) : Kd H (.ref a) "tuple"
  | dict {a : Addr} {kvs : List (Key × V)} (h : H a = some (.dK kvs)) : Kd H (.ref a) "dict"
section
variable {K : PySem.W.Frag} {H H' : Hp} {Q : VK} {v : V} {T : String}
theorem Kd.same (h : Kd H v T) (s : Same H H') : Kd H' v T := by
  cases h with
  | int n => exact .int n
  | bl b => exact .bl b
  | str z => exact .str z
  | non => exact .non
  | lst h => exact .lst (s _ _ h)
  | tup h => exact .tup (s _ _ h)
  | dict h => exact .dict (s _ _ h)
theorem k_int (h : Kd H v T) (q : Q (.bl (T == "int" || T == "bool")) H) : rIsi K [v, .ty "int"] H Q := by
  cases h with
  | int n => exact i_int_int q
  | bl b => exact i_bl_int q
  | str z => exact i_str_int q
  | non => exact i_non_int q
  | lst h => exact i_lst_int h q
  | tup h => exact i_tup_int h q
  | dict h => exact i_dK_int h q
theorem k_bool (h : Kd H v T) (q : Q (.bl (T == "bool")) H) : rIsi K [v, .ty "bool"] H Q := by
  cases h with
  | int n => exact i_int_bool q
  | bl b => exact i_bl_bool q
  | str z => exact i_str_bool q
  | non => exact i_non_bool q
  | lst h => exact i_lst_bool h q
  | tup h => exact i_tup_bool h q
  | dict h => exact i_dK_bool h q
theorem k_str (h : Kd H v T) (q : Q (.bl (T == "str")) H) : rIsi K [v, .ty "str"] H Q := by
  cases h with
  | int n => exact i_int_str q
  | bl b => exact i_bl_str q
  | str z => exact i_str_str q
  | non => exact i_non_str q
  | lst h => exact i_lst_str h q
  | tup h => exact i_tup_str h q
  | dict h => exact i_dK_str h q
theorem k_tuple (h : Kd H v T) (q : Q (.bl (T == "tuple")) H) : rIsi K [v, .ty "tuple"] H Q := by
  cases h with
  | int n => exact i_int_tuple q
  | bl b => exact i_bl_tuple q
  | str z => exact i_str_tuple q
  | non => exact i_non_tuple q
  | lst h => exact i_lst_tuple h q
  | tup h => exact i_tup_tuple h q
  | dict h => exact i_dK_tuple h q
theorem k_list (h : Kd H v T) (q : Q (.bl (T == "list")) H) : rIsi K [v, .ty "list"] H Q := by
  cases h with
  | int n => exact i_int_list q
  | bl b => exact i_bl_list q
  | str z => exact i_str_list q
  | non => exact i_non_list q
  | lst h => exact i_lst_list h q
  | tup h => exact i_tup_list h q
  | dict h => exact i_dK_list h q
end
/-! ### a Hook with one more Bool -/
def obsE (n : Nat) (fa : List He.Fa) (fn : List He.DefD) (ex : PySem.W.Frag → Bool) (g : Addr → Option Obj) : He.AlD × Bool :=
  (fun K => (He.obsD fa fn K, ex K)) (He.frG g (He.asD g n))
def hookE (n : Nat) (fa : List He.Fa) (fn : List He.DefD) (ex : PySem.W.Frag → Bool) : PySem.W.Hook where
  α := He.AlD × Bool
  obs := fun s => obsE n fa fn ex s.heap.get?
  val := fun _ => (He.valD fn, true)
  says := fun _ h => ∃ K : PySem.W.Frag, K.In h ∧ He.SaysD fa fn K ∧ ex K = true
  of := fun _ _ e => ⟨_, He.frG_in, congrArg Prod.fst e, congrArg Prod.snd e⟩
  keeps := fun _ _ _ ⟨K, hK, c⟩ k => ⟨K, PySem.W.Frag.In.keeps hK k, c⟩
theorem obsE_eq {n : Nat} {fa : List He.Fa} {fn : List He.DefD} {ex : PySem.W.Frag → Bool} {g : Addr → Option Obj} {s : Shared} (h : ∀ a, g a = s.heap.get? a) : obsE n fa fn ex g = (hookE n fa fn ex).obs s := by
  have e : g = s.heap.get? := funext h
  rw [e] <;> rfl
end Go

namespace Sum
open PySem PySem.Spec PyProof.Rows L2 Go
local macro_rules | `(tactic| walk_at "isi") => `(tactic| first
  | with_reducible refine Go.i_int_int ?_
  | with_reducible refine Go.i_int_bool ?_
  | with_reducible refine Go.i_int_str ?_
  | with_reducible refine Go.i_int_list ?_
  | with_reducible refine Go.i_int_tuple ?_
  | with_reducible refine Go.i_bl_int ?_
  | with_reducible refine Go.i_bl_bool ?_
  | with_reducible refine Go.i_bl_str ?_
  | with_reducible refine Go.i_bl_list ?_
  | with_reducible refine Go.i_bl_tuple ?_
  | with_reducible refine Go.i_str_int ?_
  | with_reducible refine Go.i_str_bool ?_
  | with_reducible refine Go.i_str_str ?_
  | with_reducible refine Go.i_str_list ?_
  | with_reducible refine Go.i_str_tuple ?_
  | with_reducible refine Go.i_non_int ?_
  | with_reducible refine Go.i_non_bool ?_
  | with_reducible refine Go.i_non_str ?_
  | with_reducible refine Go.i_non_list ?_
  | with_reducible refine Go.i_non_tuple ?_
  | ((with_reducible refine' Go.i_lst_int ?hh ?_); (case hh => walk_at "heap"))
  | ((with_reducible refine' Go.i_lst_bool ?hh ?_); (case hh => walk_at "heap"))
  | ((with_reducible refine' Go.i_lst_str ?hh ?_); (case hh => walk_at "heap"))
  | ((with_reducible refine' Go.i_lst_list ?hh ?_); (case hh => walk_at "heap"))
  | ((with_reducible refine' Go.i_lst_tuple ?hh ?_); (case hh => walk_at "heap"))
  | ((with_reducible refine' Go.i_tup_int ?hh ?_); (case hh => walk_at "heap"))
  | ((with_reducible refine' Go.i_tup_bool ?hh ?_); (case hh => walk_at "heap"))
  | ((with_reducible refine' Go.i_tup_str ?hh ?_); (case hh => walk_at "heap"))
  | ((with_reducible refine' Go.i_tup_list ?hh ?_); (case hh => walk_at "heap"))
  | ((with_reducible refine' Go.i_tup_tuple ?hh ?_); (case hh => walk_at "heap"))
  | ((with_reducible refine' Go.i_dK_int ?hh ?_); (case hh => walk_at "heap"))
  | ((with_reducible refine' Go.i_dK_bool ?hh ?_); (case hh => walk_at "heap"))
  | ((with_reducible refine' Go.i_dK_str ?hh ?_); (case hh => walk_at "heap"))
  | ((with_reducible refine' Go.i_dK_list ?hh ?_); (case hh => walk_at "heap"))
  | ((with_reducible refine' Go.i_dK_tuple ?hh ?_); (case hh => walk_at "heap")))
local macro_rules | `(tactic| walk_at "heap") => `(tactic| first | assumption | exact upd_same | (refine Go.keep ?_ (by assumption); walk_at "heap") | (refine Go.get (by assumption) ?_; walk_at "heap"))
local macro_rules | `(tactic| walk_at "s") => `(tactic| first
  | with_reducible refine Go.w_seq ?_
  | with_reducible refine Go.w_asg ?_
  | with_reducible refine Go.w_op ?_
  | ((with_reducible refine' Go.w_var ?hh ?_); (case hh => exact rfl))
  | with_reducible refine Go.w_con ?_
  | with_reducible refine Go.w_I0 ?_
  | ((with_reducible refine Go.w_mulI ?hh ?_); (case hh => first | exact Or.inl ⟨by decide, by decide⟩ | exact Or.inr ⟨by decide, by decide⟩))
  | ((with_reducible refine Go.w_modI ?hh ?_); (case hh => first | decide | omega))
  | ((with_reducible refine Go.w_divI ?hh ?_); (case hh => exact ⟨by decide +kernel, by decide +kernel⟩))
  | ((with_reducible refine Go.w_powI ?hh ?_); (case hh => exact ⟨by decide +kernel, by decide +kernel, by decide +kernel⟩))
  | ((with_reducible refine Go.w_shrI ?hh ?_); (case hh => first | decide | omega))
  | with_reducible refine Go.w_if ?_
  | with_reducible refine Go.w_test ?_
  | with_reducible refine Go.w_tB ?_
  | with_reducible refine Go.w_k ?_
  | with_reducible refine Go.w_call ?_
  | with_reducible refine Go.w_cons ?_
  | with_reducible refine Go.w_nil ?_
  | with_reducible refine Go.w_ret ?_
  | with_reducible refine Go.w_cb ?_
  | with_reducible refine Go.w_tup ?_
  | with_reducible refine Go.w_lst ?_
  | ((with_reducible refine Go.w_eq ?hh ?_); (case hh => exact rfl))
  | ((with_reducible refine Go.w_ne ?hh ?_); (case hh => exact rfl))
  | with_reducible refine Go.w_or ?_
  | with_reducible refine Go.w_and ?_
  | with_reducible refine Go.w_not ?_
  | with_reducible refine Go.w_next ?_
  | with_reducible refine Go.w_drop ?_
  | with_reducible refine Go.w_un ?_
  | with_reducible refine Go.w_U ?_
  | with_reducible refine Go.w_orV ?_
  | with_reducible refine Go.w_andV ?_
  | with_reducible refine Go.w_notV ?_
  | with_reducible refine Go.w_orT ?_
  | with_reducible refine Go.w_andT ?_
  | with_reducible refine Go.w_truI ?_
  | with_reducible refine Go.w_isB ?_
  | with_reducible refine Go.w_notB ?_
  | with_reducible refine Go.w_isN ?_
  | with_reducible refine Go.w_notN ?_
  | with_reducible refine Go.w_chain ?_
  | with_reducible refine Go.w_ifE ?_
  | with_reducible refine Go.w_abs ?_
  | with_reducible refine Go.w_intB ?_
  | with_reducible refine Go.w_sub ?_
  | with_reducible refine Go.w_par ?_
  | with_reducible refine Go.w_sl ?_
  | with_reducible refine Go.w_noPart ?_
  | with_reducible refine Go.w_part ?_
  | with_reducible refine Go.w_partI ?_
  | ((with_reducible refine' Go.w_ixT ?h1 ?h2 ?_); (case h1 => (apply Go.sqT; walk_at "heap")); (case h2 => exact rfl))
  | ((with_reducible refine' Go.w_ixL ?h1 ?h2 ?_); (case h1 => (apply Go.sqL; walk_at "heap")); (case h2 => exact rfl))
  | ((with_reducible refine' Go.w_lenT ?h1 ?_); (case h1 => (apply Go.sqT; walk_at "heap")))
  | ((with_reducible refine' Go.w_lenL ?h1 ?_); (case h1 => (apply Go.sqL; walk_at "heap")))
  | ((with_reducible refine' Go.w_ixsT ?h1 ?h2 ?_); (case h1 => (apply Go.sqT; walk_at "heap")); (case h2 => exact rfl))
  | ((with_reducible refine' Go.w_ixsL ?h1 ?h2 ?_); (case h1 => (apply Go.sqL; walk_at "heap")); (case h2 => exact rfl))
  | with_reducible refine Go.w_bm ?_
  | with_reducible refine Go.w_bm0 ?_
  | ((with_reducible refine' Go.w_tyL ?h1 ?_); (case h1 => walk_at "heap"))
  | with_reducible refine Go.w_tyS ?_
  | with_reducible refine Go.w_min2 ?_
  | with_reducible refine Go.w_max2 ?_
  | with_reducible refine Go.w_bits ?_
  | with_reducible refine Go.w_bitsI ?_
  | with_reducible refine Go.w_gName ?_
  | ((with_reducible refine' Go.w_gTup ?h1 ?h2 ?_); (case h1 => (apply Go.sqT; walk_at "heap")); (case h2 => exact rfl))
  | ((with_reducible refine' Go.w_gUnl ?h1 ?h2 ?_); (case h1 => (apply Go.sqL; walk_at "heap")); (case h2 => exact rfl))
  | with_reducible refine Go.w_gCons ?_
  | with_reducible refine Go.w_gNil ?_
  | with_reducible refine Go.w_asgG ?_
  | walk_at "isi"
  | with_reducible refine Go.w_forI ?_
  | with_reducible refine Go.w_iL ?_
  | with_reducible refine Go.w_iT ?_
  | with_reducible refine Go.w_iZT ?_
  | with_reducible refine Go.w_iR1 ?_
  | with_reducible refine Go.w_iR2 ?_
  | with_reducible refine Go.w_lc ?_
  | ((with_reducible refine Go.if_t ?hh ?_); (case hh => exact rfl))
  | ((with_reducible refine Go.if_f ?hh ?_); (case hh => exact rfl)))
local macro_rules | `(tactic| walk_at "go") => `(tactic| repeat (walk_at "s"))

/-! ### promises: what the law draws by -/
def Src (H : Hp) (l : Addr) : Prop := ∃ a b c : Int, H l = some (.lst [.int a, .int b, .int c])
/-- by a draw the source alone has changed -/
structure Dr (l : Addr) (H H' : Hp) : Prop where
  keep : ∀ p o, p ≠ l → H p = some o → H' p = some o
  src0 : Src H l
  src : Src H' l
theorem Dr.trans {l : Addr} {H H1 H2 : Hp} (a : Dr l H H1) (b : Dr l H1 H2) : Dr l H H2 := ⟨fun p o n h => b.keep p o n (a.keep p o n h), a.src0, b.src⟩
theorem Dr.refl {l : Addr} {H : Hp} (s : Src H l) : Dr l H H := ⟨fun _ _ _ h => h, s, s⟩
theorem Dr.tup {l : Addr} {H H' : Hp} {a : Addr} {xs : List V} (d : Dr l H H') (h : H a = some (.tup xs)) : H' a = some (.tup xs) := by
  obtain ⟨x, y, z, e⟩ := d.src0
  exact d.keep a _ (ne_of h e (by intro z; cases z)) h
theorem Dr.free {l : Addr} {H H' : Hp} {p : Addr} (d : Dr l H H') (h : H' p = none) : H p = none := by
  obtain ⟨x, y, z, e⟩ := d.src
  cases q : H p with
  | none => rfl
  | some o =>
    by_cases n : p = l
    · rw [n, e] at h; cases h
    · rw [d.keep p o n q] at h; cases h
theorem Src.ext {l : Addr} {H H' : Hp} (s : Src H l) (e : Same H H') : Src H' l := by
  obtain ⟨x, y, z, h⟩ := s
  exact ⟨x, y, z, e _ _ h⟩
theorem Dr.same {l : Addr} {H H' : Hp} (s : Src H l) (e : Same H H') : Dr l H H' := ⟨fun p o _ h => e p o h, s, s.ext e⟩
theorem Dr.new {l : Addr} {H H' : Hp} {p : Addr} {o : HO} (d : Dr l H H') (hp : H' p = none) : Dr l H (upd H' p o) := d.trans (Dr.same d.src (same_new hp))
theorem Src.new {l : Addr} {H : Hp} {p : Addr} {o : HO} (s : Src H l) (hp : H p = none) : Src (upd H p o) l := s.ext (same_new hp)
/-- what H0 had stays while a thing that H0 had not is drawn by -/
theorem Dr.same_of {l : Addr} {H0 H H' : Hp} (d : Dr l H H') (s : Same H0 H) (hl : H0 l = none) : Same H0 H' := fun p o h => d.keep p o (ne_of_none h hl) (s p o h)
def spCellAt (K : PySem.W.Frag) : Sp := fun vs H Q _ => ∃ (a : Addr) (ns : List Int) (k : Nat), vs = [.ref a, .int k] ∧ SqL K H a (ns.map V.int) ∧ ∀ n : Int, Q (.int n) H
def spBegin : Sp := fun vs H Q _ => ∃ n : Int, vs = [.int n] ∧ ∀ l H', H l = none → Same H H' → Src H' l → Q (.ref l) H'
def spDraw : Sp := fun vs H Q _ => ∃ (l : Addr) (m : Int), vs = [.ref l, .int m] ∧ Src H l ∧ 0 < m ∧ m.natAbs < 2 ^ 200 ∧ ∀ d H', 0 ≤ d → d < m → Dr l H H' → Q (.int d) H'

/-! ### promises: a well to draw from -/
def spMixed : Sp := fun vs H Q _ => ∃ c k : Int, vs = [.int c, .int k] ∧ ∀ n : Int, 0 ≤ n → Q (.int n) H
def spPick : Sp := fun vs H Q _ => ∃ (l p : Addr) (xs : List V), vs = [.ref l, .ref p] ∧ Src H l ∧ H p = some (.lst xs) ∧ p ≠ l ∧ xs ≠ [] ∧ xs.length ≤ 1000 ∧ ∀ v H', v ∈ xs → Dr l H H' → Q v H'
theorem Src.ne_new {H : Hp} {l p : Addr} (s : Src H l) (hp : H p = none) : p ≠ l := fun e => by
  obtain ⟨x, y, z, h⟩ := s
  rw [e, h] at hp; cases hp
theorem _root_.Go.Kd.dr {l : Addr} {H H' : Hp} {v : V} {T : String} (h : Kd H v T) (d : Dr l H H') : Kd H' v T := by
  cases h with
  | int n => exact .int n
  | bl b => exact .bl b
  | str z => exact .str z
  | non => exact .non
  | @lst a xs h =>
    by_cases e : a = l
    · obtain ⟨x, y, z, h2⟩ := d.src
      rw [e]; exact .lst h2
    · exact .lst (d.keep _ _ e h)
  | tup h => exact .tup (d.tup h)
  | @dict a kvs h =>
    obtain ⟨x, y, z, h2⟩ := d.src0
    exact .dict (d.keep _ _ (ne_of h h2 (by intro z; cases z)) h)
/-- a list at D that grows while there is drawn at l: its items are of a kind -/
def Dl (l D : Addr) (H : Hp) (P : V → Prop) (i : Nat) (H' : Hp) : Prop := Dr l H H' ∧ H D = none ∧ D ≠ l ∧ ∃ xs : List V, H' D = some (.lst xs) ∧ xs.length = i ∧ ∀ x ∈ xs, P x
theorem Dl.start {l D : Addr} {H : Hp} {P : V → Prop} (s : Src H l) (hD : H D = none) : Dl l D H P 0 (upd H D (.lst [])) := ⟨(Dr.refl s).new hD, hD, s.ne_new hD, [], upd_same, rfl, fun x hx => by cases hx⟩
theorem Dl.put {l D : Addr} {H H1 H2 : Hp} {P : V → Prop} {i : Nat} {v : V} (f : Dl l D H P i H1) (d : Dr l H1 H2) (hv : P v) (hi : i ≤ 1000) :
    ∃ acc, H2 D = some (.lst acc) ∧ acc.length < sizeLine ∧ Dl l D H P (i + 1) (upd H2 D (.lst (acc ++ [v]))) := by
  obtain ⟨d1, hD, nDl, xs, h1, h2, h3⟩ := f
  have dd := d1.trans d
  refine ⟨_, d.keep _ _ nDl h1, by rw [h2]; exact small1000 hi, ⟨fun b o nb e => ?_, dd.src0, ?_⟩, hD, nDl, xs ++ [v], upd_same, by rw [List.length_append, h2]; rfl, ?_⟩
  · rw [upd_ne (ne_of_none e hD)]
    exact dd.keep b o nb e
  · obtain ⟨x, y, z, h⟩ := dd.src
    exact ⟨x, y, z, by rw [upd_ne nDl.symm]; exact h⟩
  · intro x hx
    rcases List.mem_append.mp hx with h | h
    · exact h3 x h
    · rw [List.mem_singleton.mp h]; exact hv
/-- texts of one sign -/
abbrev sg1 (c : Nat) : Str := ⟨#[c]⟩
theorem signs_of {P : Nat → Prop} : ∀ {xs : List V}, (∀ x ∈ xs, ∃ c, x = one1 c ∧ P c) → ∃ cs : List Nat, xs = (cs.map sg1).map V.str ∧ ∀ c ∈ cs, P c
  | [], _ => ⟨[], rfl, fun c hc => by cases hc⟩
  | x :: xs, h => by
    obtain ⟨c, rfl, hc⟩ := h x (.head _)
    obtain ⟨cs, e, hcs⟩ := signs_of (xs := xs) fun y hy => h y (.tail _ hy)
    refine ⟨c :: cs, by rw [e]; rfl, fun d hd => ?_⟩
    rcases List.mem_cons.mp hd with h | h
    · rw [h]; exact hc
    · exact hcs d h
theorem signs_sum : ∀ cs : List Nat, ((cs.map sg1).map (·.length)).sum = cs.length
  | [] => rfl
  | c :: cs => by
    rw [List.map_cons, List.map_cons, List.sum_cons, signs_sum cs, List.length_cons]
    show 1 + cs.length = cs.length + 1
    omega
theorem joinL_signs : ∀ cs : List Nat, TL.joinL [] (cs.map fun c => [c]) = cs
  | [] => rfl
  | [c] => rfl
  | c :: d :: r => by
    have := joinL_signs (d :: r)
    show [c] ++ ([] ++ TL.joinL [] ((d :: r).map fun c => [c])) = _
    rw [this]; rfl
theorem join_signs (cs : List Nat) : Txt.join ("" : Str) (cs.map sg1) = ⟨cs.toArray⟩ := by
  have e := SX.join_S [] (cs.map fun c => [c])
  rw [joinL_signs, List.map_map] at e
  exact e

-- names: 0:_law_script 1:_law_k
abbrev N_l_cell_at : List Str := ["_law_script", "_law_k"]
def t_l_cell_at (K : PySem.W.Frag) : TS :=
  (tSeq (tIfS (tTest (tOp rLtI (tVar 1) (tCB (Evl.rLenS K) (tCons (tVar 0) tNil)))) (tRet (tOp (rIxL K) (tVar 0) (tVar 1))) tNext)
    (tRet (tC (.int 0))))

-- names: 0:_law_cell 1:_law_k 2:_law_number
abbrev N_l_mixed : List Str := ["_law_cell", "_law_k", "_law_number"]
def t_l_mixed (K : PySem.W.Frag) : TS :=
  (tSeq (tAsg (tOp rModI (tOp rMulI (tOp rAddI (tOp rAddI (tOp rModI (tVar 0) (tC (.int 2147483647))) (tOp rMulI (tC (.int 7919)) (tVar 1))) (tC (.int 1))) (tC (.int 48271))) (tC (.int 2147483647))) (gName 2))
    (tSeq (tAsg (tOp rModI (tOp rMulX (tVar 2) (tOp rAddI (tOp rDivI (tVar 2) (tC (.int 1009))) (tC (.int 69621)))) (tC (.int 2147483647))) (gName 2))
    (tRet (tOp rModI (tOp rMulX (tVar 2) (tOp rAddI (tOp rDivI (tVar 2) (tC (.int 2003))) (tC (.int 40692)))) (tC (.int 2147483399))))))

-- names: 0:_law_cell
abbrev N_l_well : List Str := ["_law_cell"]
def t_l_well (K : PySem.W.Frag) : TS :=
  (tRet (tLst (tCons (tOp (rIxL K) (tLst (tCons (tC (.int 0)) (tCons (tVar 0) tNil))) (tCB rInt1 (tCons (tOp rGeI (tVar 0) (tOp rPowI (tC (.int 10)) (tC (.int 18)))) tNil))) (tCons (tVar 0) (tCons (tC (.int 0)) tNil)))))

-- names: 0:_law_well_here 1:_law_many 2:_law_found
abbrev N_l_draw : List Str := ["_law_well_here", "_law_many", "_law_found"]
def t_l_draw (K : PySem.W.Frag) : TS :=
  (tSeq (tIfS (tTest (tOp rGtI (tOp (rIxL K) (tVar 0) (tC (.int 0))) (tC (.int 0)))) (tSeq (tAsg (tOp rModI (tOp (rIxL K) (tVar 0) (tC (.int 0))) (tVar 1)) (gName 2))
      (tSeq (tAsg (tOp rDivI (tOp (rIxL K) (tVar 0) (tC (.int 0))) (tVar 1)) (gSub (tVar 0) (tC (.int 0)) rSetL))
      (tRet (tVar 2)))) tNext)
    (tSeq (tAsg (tOp rAddI (tOp (rIxL K) (tVar 0) (tC (.int 2))) (tC (.int 1))) (gSub (tVar 0) (tC (.int 2)) rSetL))
    (tRet (tOp rModI (tCall spMixed [] E0 (tCons (tOp (rIxL K) (tVar 0) (tC (.int 1))) (tCons (tOp (rIxL K) (tVar 0) (tC (.int 2))) tNil))) (tVar 1)))))

-- names: 0:_law_well_here 1:_law_some
abbrev N_l_pick : List Str := ["_law_well_here", "_law_some"]
def t_l_pick (K : PySem.W.Frag) : TS :=
  (tRet (tOp (rIxL K) (tVar 1) (tCall spDraw [] E0 (tCons (tVar 0) (tCons (tCB (Evl.rLenS K) (tCons (tVar 1) tNil)) tNil)))))


theorem p_l_cell_at_len {K : PySem.W.Frag} {vs : List V} {H : Hp} {Q : VK} {E : XK} (h : spCellAt K vs H Q E) : vs.length = 2 := by
  obtain ⟨a, ns, k, rfl, _⟩ := h; rfl
theorem p_l_cell_at {K : PySem.W.Frag} {vs : List V} {H : Hp} {Q : VK} {E : XK} (h : spCellAt K vs H Q E) : t_l_cell_at K { nx := fun _ H' => Q .non H', rt := Q } (start N_l_cell_at vs) H := by
  obtain ⟨a, ns, k, rfl, hS, q⟩ := h
  unfold t_l_cell_at
  walk_at "go"
  refine w_lenL hS ?_
  walk_at "go"
  refine if_2 (fun h => ?_) (fun h => ?_)
  · rw [List.length_map] at h
    have hk : k < ns.length := by omega
    walk_at "go"
    refine w_ixL hS (v := .int ns[k]) (atI_nat (by rw [List.getElem?_map, List.getElem?_eq_getElem hk]; rfl)) ?_
    exact q _
  · walk_at "go"
    exact q _
theorem dr_set {l : Addr} {H : Hp} {a b c : Int} (s : Src H l) : Dr l H (upd H l (.lst [.int a, .int b, .int c])) := ⟨fun p o n h => by rw [upd_ne n]; exact h, s, ⟨_, _, _, upd_same⟩⟩
theorem mulS {i j : Int} (h0 : -(2 ^ 64) < i) (h1 : i < 2 ^ 64) (h2 : -(2 ^ 64) < j) (h3 : j < 2 ^ 64) : CMulX i j := by
  have a : i.natAbs < 2 ^ 64 := by omega
  have b : j.natAbs < 2 ^ 64 := by omega
  exact mulx_ok a b (by decide)
/-! ### the laws' loop over the cells -/
theorem ints_cut {ns : List Int} {lo hi : Option Int} : ∀ x ∈ cutV (ns.map V.int) lo hi, ∃ z, x = V.int z := fun x hx => by
  unfold cutV at hx
  have h1 := List.mem_of_mem_drop (List.mem_of_mem_take hx)
  obtain ⟨z, _, e⟩ := List.mem_map.mp h1
  exact ⟨z, e.symm⟩
theorem w_cells {K : PySem.W.Frag} {H : Hp} {a : Addr} {ns : List Int} {N : Int} {j : Nat} {tb : TS} {D : Ends} {σ : L2.St} (Ok : L2.St → Prop) (h0 : Ok σ) (hσ : σ[0]? = some (some (.ref a))) (hS : SqL K H a (ns.map V.int)) (hlen : ns.length ≤ 63)
    (hs : ∀ z σ' H' (N : L2.St → Hp → Prop), Ok σ' → Same H H' → (∀ σ2 H2, Ok σ2 → Same H' H2 → N σ2 H2) → tb { D with nx := N, ct := N, bk := D.nx } (σ'.set j (some (.int z))) H') (hd : ∀ σ' H', Ok σ' → Same H H' → D.nx σ' H') :
    tFor (iList K (tOp rCat (tLst (tCons (tCall (spCellAt K) [] E0 (tCons (tVar 0) (tCons (tC (.int 0)) tNil))) tNil)) (tSl (rSlL K) (tVar 0) (tPart (tC (.int 1))) (tPart (tC (.int N)))))) (gName j) tb D σ H := by
  refine w_forI (w_iL (w_op (w_lst (w_cons (w_call (w_cons (w_var hσ (w_cons (w_con (w_nil ?_))))))))))
  refine ⟨a, ns, 0, rfl, hS, fun n0 => ?_⟩
  walk_at "go"
  refine ⟨by show 1 ≤ sizeLine; decide, fun L1 hL1 => ?_⟩
  refine w_sl (w_var hσ (w_part (w_con (w_partI (w_part (w_con (w_partI ?_)))))))
  refine w_slL ((same_new hL1).seq hS) fun L2 hL2 => ?_
  have cl := cutV_length (ns.map V.int) (some 1) (some N)
  rw [List.length_map] at cl
  refine w_cat (keep upd_same hL2) upd_same (Nat.le_trans (by rw [List.length_singleton]; omega : _ ≤ 1000) (by decide)) fun L hL => ?_
  have hi : ∀ x ∈ [V.int n0] ++ cutV (ns.map V.int) (some 1) (some N), ∃ z, x = V.int z := fun x hx => by
    rcases List.mem_append.mp hx with h | h
    · exact ⟨n0, by simpa using h⟩
    · exact ints_cut x h
  generalize [V.int n0] ++ cutV (ns.map V.int) (some 1) (some N) = xs at *
  have h1 : (upd (upd (upd H L1 (.lst [.int n0])) L2 (.lst (cutV (ns.map V.int) (some 1) (some N)))) L (.lst xs)) L = some (.lst xs) := upd_same
  have s1 : Same H (upd (upd (upd H L1 (.lst [.int n0])) L2 (.lst (cutV (ns.map V.int) (some 1) (some N)))) L (.lst xs)) := same_in (same_in (same_new hL1) hL2) hL
  generalize upd (upd (upd H L1 (.lst [.int n0])) L2 (.lst (cutV (ns.map V.int) (some 1) (some N)))) L (.lst xs) = H0 at *
  refine ⟨L, rfl, ⟨_, sqL h1⟩, for_list (K := K) (a := L) (xs := xs) (fun i σ H' => Ok σ ∧ Same H0 H') ⟨h0, Same.refl _⟩ (fun i σ H' _ P => sqL (P.2 _ _ h1)) ?_ ?_⟩
  · rintro i x σ1 H1 hx ⟨o1, sm⟩
    obtain ⟨z, rfl⟩ := hi x (List.mem_of_getElem? hx)
    exact hs z σ1 H1 _ o1 (s1.trans sm) fun σ2 H2 o2 s2 => ⟨o2, sm.trans s2⟩
  · rintro σ1 H1 ⟨o1, sm⟩
    exact hd σ1 H1 o1 (s1.trans sm)

theorem p_l_well_len {vs : List V} {H : Hp} {Q : VK} {E : XK} (h : spBegin vs H Q E) : vs.length = 1 := by
  obtain ⟨n, rfl, _⟩ := h; rfl
theorem p_l_well {K : PySem.W.Frag} {vs : List V} {H : Hp} {Q : VK} {E : XK} (h : spBegin vs H Q E) : t_l_well K { nx := fun _ H' => Q .non H', rt := Q } (start N_l_well vs) H := by
  obtain ⟨n, rfl, q⟩ := h
  unfold t_l_well
  walk_at "go"
  refine ⟨by show 2 ≤ sizeLine; decide, fun p hp => ?_⟩
  walk_at "go"
  have e : atI [V.int 0, V.int n] (if decide ((10 : Int) ^ (18 : Int).toNat ≤ n) = true then 1 else 0) = some (.int (if decide ((10 : Int) ^ (18 : Int).toNat ≤ n) = true then n else 0)) := by
    split <;> rfl
  refine w_ixL (sqL upd_same) e ?_
  walk_at "go"
  refine ⟨by show 3 ≤ sizeLine; decide, fun l hl => ?_⟩
  exact q l _ (free_of hl) (same_in (same_new hp) hl) ⟨_, _, _, upd_same⟩
theorem p_l_mixed_len {vs : List V} {H : Hp} {Q : VK} {E : XK} (h : spMixed vs H Q E) : vs.length = 2 := by
  obtain ⟨l, m, rfl, _⟩ := h; rfl
theorem p_l_mixed {K : PySem.W.Frag} {vs : List V} {H : Hp} {Q : VK} {E : XK} (h : spMixed vs H Q E) : t_l_mixed K { nx := fun _ H' => Q .non H', rt := Q } (start N_l_mixed vs) H := by
  obtain ⟨b, c, rfl, q⟩ := h
  unfold t_l_mixed
  walk_at "go"
  have e1 : ∀ n : Int, 0 ≤ n % 2147483647 ∧ n % 2147483647 < 2147483647 := fun n => by omega
  generalize hn1 : (b % 2147483647 + 7919 * c + 1) * 48271 % 2147483647 = n1
  have b1 := e1 ((b % 2147483647 + 7919 * c + 1) * 48271)
  rw [hn1] at b1
  have c1 : 0 ≤ n1 / 1009 ∧ n1 / 1009 < 2147483647 := by omega
  refine w_I (mulS (by omega) (by omega) (by omega) (by omega)) ?_
  walk_at "go"
  generalize hn2 : n1 * (n1 / 1009 + 69621) % 2147483647 = n2
  have b2 := e1 (n1 * (n1 / 1009 + 69621))
  rw [hn2] at b2
  have c2 : 0 ≤ n2 / 2003 ∧ n2 / 2003 < 2147483647 := by omega
  refine w_I (mulS (by omega) (by omega) (by omega) (by omega)) ?_
  walk_at "go"
  exact q _ (Int.emod_nonneg _ (by omega))
theorem p_l_draw_len {vs : List V} {H : Hp} {Q : VK} {E : XK} (h : spDraw vs H Q E) : vs.length = 2 := by
  obtain ⟨l, m, rfl, _⟩ := h; rfl
theorem p_l_draw {K : PySem.W.Frag} {vs : List V} {H : Hp} {Q : VK} {E : XK} (h : spDraw vs H Q E) : t_l_draw K { nx := fun _ H' => Q .non H', rt := Q } (start N_l_draw vs) H := by
  obtain ⟨l, m, rfl, hs, hm, bm, q⟩ := h
  obtain ⟨a, b, c, hl⟩ := id hs
  unfold t_l_draw
  walk_at "go"
  refine if_2 (fun h => ?_) (fun h => ?_)
  · walk_at "go"
    refine w_I (wide_div hm bm (by decide) (by decide)) ?_
    walk_at "go"
    refine w_setL hl (j := 0) rfl ?_
    walk_at "go"
    exact q _ _ (Int.emod_nonneg _ (by omega)) (Int.emod_lt_of_pos _ hm) (dr_set hs)
  · walk_at "go"
    refine w_setL hl (j := 2) rfl ?_
    walk_at "go"
    refine ⟨_, _, rfl, fun n hn => ?_⟩
    walk_at "go"
    exact q _ _ (Int.emod_nonneg _ (by omega)) (Int.emod_lt_of_pos _ hm) (dr_set hs)
theorem p_l_pick_len {vs : List V} {H : Hp} {Q : VK} {E : XK} (h : spPick vs H Q E) : vs.length = 2 := by
  obtain ⟨l, m, xs, rfl, _⟩ := h; rfl
theorem p_l_pick {K : PySem.W.Frag} {vs : List V} {H : Hp} {Q : VK} {E : XK} (h : spPick vs H Q E) : t_l_pick K { nx := fun _ H' => Q .non H', rt := Q } (start N_l_pick vs) H := by
  obtain ⟨l, p, xs, rfl, hs, hp, npl, hx, hl, q⟩ := h
  have h0 : 0 < xs.length := by
    cases xs with
    | nil => exact absurd rfl hx
    | cons x xs => exact Nat.zero_lt_succ _
  unfold t_l_pick
  walk_at "go"
  refine ⟨l, _, rfl, hs, by omega, Nat.lt_of_le_of_lt (by rw [Int.natAbs_natCast]; exact hl) (by decide), fun d H1 d0 d1 k1 => ?_⟩
  obtain ⟨n, rfl⟩ := Int.eq_ofNat_of_zero_le d0
  have hn : n < xs.length := by omega
  refine w_ixL (sqL (k1.keep _ _ npl hp)) (atI_nat (List.getElem?_eq_getElem hn)) ?_
  exact q _ _ (List.getElem_mem hn) k1

/-! ### promises: names and numbers -/
def smallC (c : Nat) : Bool := decide (97 ≤ c) && decide (c ≤ 122)
def isNm (z : Str) : Bool := decide (1 ≤ z.length) && decide (z.length ≤ 8) && z.cps.toList.all smallC
def nmV : V → Bool
  | .str z => isNm z
  | _ => false
def numI : V → Bool
  | .int i => decide (-1000000000000 ≤ i) && decide (i ≤ 1000000000000)
  | _ => false
def numsOk (xs : List V) : Bool := decide (1 ≤ xs.length) && decide (xs.length ≤ 3) && xs.all numI
def Kds (H : Hp) (xs : List V) : Prop := ∀ x ∈ xs, ∃ T, Kd H x T
def spIsInt : Sp := fun vs H Q _ => ∃ v T, vs = [v] ∧ Kd H v T ∧ Q (.bl (T == "int")) H
def spIsName : Sp := fun vs H Q _ => ∃ v T, vs = [v] ∧ Kd H v T ∧ (∀ z, v = .str z → z.length ≤ 100000) ∧ ∀ H', Same H H' → Q (.bl (nmV v)) H'
def spIsNumbers : Sp := fun vs H Q _ => ∃ v, vs = [v] ∧ ((∃ a xs, v = .ref a ∧ H a = some (.tup xs) ∧ Kds H xs ∧ ∀ H', Same H H' → Q (.bl (numsOk xs)) H') ∨ ∃ T, Kd H v T ∧ T ≠ "tuple" ∧ Q (.bl false) H)
theorem Kds.same {H H' : Hp} {xs : List V} (h : Kds H xs) (s : Same H H') : Kds H' xs := fun x hx => by
  obtain ⟨T, h⟩ := h x hx
  exact ⟨T, h.same s⟩

-- names: 0:thing
abbrev N_is_int : List Str := ["thing"]
def t_is_int (K : PySem.W.Frag) : TS :=
  (tRet (tAndV (tCB (rIsi K) (tCons (tVar 0) (tCons (tC (.ty "int")) tNil))) (tNotV (tCB (rIsi K) (tCons (tVar 0) (tCons (tC (.ty "bool")) tNil))))))

-- names: 0:thing 1:sign
abbrev N_is_name : List Str := ["thing", "sign"]
def t_is_name (K : PySem.W.Frag) : TS :=
  (tSeq (tIfS (tOr (tNot (tB (tCB (rIsi K) (tCons (tVar 0) (tCons (tC (.ty "str")) tNil))))) (tNot (tTest (tChain rLeI rLeI (tC (.int 1)) (tCB rLenStr (tCons (tVar 0) tNil)) (tC (.int 8)))))) (tRet (tC (.bl false))) tNext)
    (tRet (tCB (rAll K) (tCons (tLc (iStr (tVar 0)) (gName 1) tYes (tOp rInS (tVar 1) (tC (.str ("abcdefghijklmnopqrstuvwxyz" : Str)))) [1]) tNil))))

-- names: 0:thing 1:one
abbrev N_is_numbers : List Str := ["thing", "one"]
def t_is_numbers (K : PySem.W.Frag) : TS :=
  (tSeq (tIfS (tOr (tNot (tB (tCB (rIsi K) (tCons (tVar 0) (tCons (tC (.ty "tuple")) tNil))))) (tNot (tTest (tChain rLeI rLeI (tC (.int 1)) (tCB (Evl.rLenS K) (tCons (tVar 0) tNil)) (tC (.int 3)))))) (tRet (tC (.bl false))) tNext)
    (tRet (tCB (rAll K) (tCons (tLc (iTup K (tVar 0)) (gName 1) tYes (tAndV (tCall spIsInt [] E0 (tCons (tVar 1) tNil)) (tChain rLeI rLeI (tOp rSubI (tC (.int 0)) (tC (.int 1000000000000))) (tVar 1) (tC (.int 1000000000000)))) [1]) tNil))))


theorem p_is_int_len {vs : List V} {H : Hp} {Q : VK} {E : XK} (h : spIsInt vs H Q E) : vs.length = 1 := by
  obtain ⟨v, T, rfl, _⟩ := h; rfl
theorem p_is_name_len {vs : List V} {H : Hp} {Q : VK} {E : XK} (h : spIsName vs H Q E) : vs.length = 1 := by
  obtain ⟨v, T, rfl, _⟩ := h; rfl
theorem p_is_numbers_len {vs : List V} {H : Hp} {Q : VK} {E : XK} (h : spIsNumbers vs H Q E) : vs.length = 1 := by
  obtain ⟨v, rfl, _⟩ := h; rfl
theorem p_is_int {K : PySem.W.Frag} {vs : List V} {H : Hp} {Q : VK} {E : XK} (h : spIsInt vs H Q E) : t_is_int K { nx := fun _ H' => Q .non H', rt := Q } (start N_is_int vs) H := by
  obtain ⟨v, T, rfl, h, q⟩ := h
  unfold t_is_int
  walk_at "go"
  refine k_int h ?_
  walk_at "go"
  cases h with
  | int n => walk_at "go"; exact q
  | bl n => walk_at "go"; exact q
  | str n => walk_at "go"; exact q
  | non => walk_at "go"; exact q
  | lst h => walk_at "go"; exact q
  | tup h => walk_at "go"; exact q
  | dict h => walk_at "go"; exact q
theorem letters_eq : (("abcdefghijklmnopqrstuvwxyz" : Str)).cps.toList = List.range' 97 26 := by decide +kernel
theorem in_letters (c : Nat) : decide (c ∈ (("abcdefghijklmnopqrstuvwxyz" : Str)).cps.toList) = smallC c := by
  rw [letters_eq]
  unfold smallC
  by_cases h1 : 97 ≤ c <;> by_cases h2 : c ≤ 122
  · rw [decide_eq_true h1, decide_eq_true h2]
    exact decide_eq_true (List.mem_range'_1.mpr ⟨h1, by omega⟩)
  · rw [decide_eq_true h1, decide_eq_false h2]
    exact decide_eq_false fun h => by have := List.mem_range'_1.mp h; omega
  · rw [decide_eq_false h1]
    exact decide_eq_false fun h => by have := List.mem_range'_1.mp h; omega
  · rw [decide_eq_false h1]
    exact decide_eq_false fun h => by have := List.mem_range'_1.mp h; omega
/-- truths that are put into a list at D, by turns -/
def Bs (H : Hp) (D : Addr) (bs : List Bool) (i : Nat) (H' : Hp) : Prop := Same H H' ∧ H D = none ∧ H' D = some (.lst ((bs.take i).map V.bl))
theorem Bs.start {H : Hp} {D : Addr} {bs : List Bool} (hD : H D = none) : Bs H D bs 0 (upd H D (.lst [])) := ⟨same_new hD, hD, upd_same⟩
theorem Bs.step {H H1 H2 : Hp} {D : Addr} {bs : List Bool} {i : Nat} {b : Bool} (m : Bs H D bs i H1) (s : Same H1 H2) (hb : bs[i]? = some b) (hl : bs.length ≤ 1000) :
    ∃ acc, H2 D = some (.lst acc) ∧ acc.length < sizeLine ∧ Bs H D bs (i + 1) (upd H2 D (.lst (acc ++ [.bl b]))) := by
  obtain ⟨s0, hD, h1⟩ := m
  refine ⟨_, s _ _ h1, by rw [List.length_map, List.length_take]; exact small1000 (by omega), fun a o e => ?_, hD, ?_⟩
  · rw [upd_ne (ne_of_none e hD)]
    exact s _ _ (s0 _ _ e)
  · rw [upd_same, List.take_add_one, hb, List.map_append]; rfl
theorem Bs.all {K : PySem.W.Frag} {H H1 : Hp} {D : Addr} {bs : List Bool} {n : Nat} {Q : VK} (m : Bs H D bs n H1) (hn : bs.length ≤ n) (q : ∀ H', Same H H' → Q (.bl (bs.all id)) H') : rAll K [.ref D] H1 Q := by
  obtain ⟨s0, hD, h1⟩ := m
  rw [List.take_of_length_le hn] at h1
  exact w_all h1 (q _ s0)
theorem p_is_name {K : PySem.W.Frag} {vs : List V} {H : Hp} {Q : VK} {E : XK} (h : spIsName vs H Q E) : t_is_name K { nx := fun _ H' => Q .non H', rt := Q } (start N_is_name vs) H := by
  obtain ⟨v, T, rfl, h, hz, q⟩ := h
  unfold t_is_name
  walk_at "go"
  refine k_str h ?_
  cases h with
  | str z =>
    have hl := hz z rfl
    walk_at "go"
    refine w_lenStr (Nat.le_trans hl (by decide)) ?_
    walk_at "go"
    have fin : ¬ (1 ≤ z.length ∧ z.length ≤ 8) → Q (.bl false) H := fun n => by
      have := q H (Same.refl _)
      have e : nmV (.str z) = false := by
        show isNm z = false
        unfold isNm
        by_cases h1 : 1 ≤ z.length
        · rw [decide_eq_false (p := z.length ≤ 8) (fun h2 => n ⟨h1, h2⟩), Bool.and_false]; rfl
        · rw [decide_eq_false h1]; rfl
      rw [e] at this
      exact this
    refine if_2 (fun h1 => ?_) (fun h1 => ?_)
    · walk_at "go"
      refine if_n2 (fun h2 => ?_) (fun h2 => ?_)
      · walk_at "go"
        exact fin (by omega)
      · walk_at "go"
        have hl8 : z.cps.size ≤ 8 := by
          have : (z.length : Int) ≤ 8 := h2
          exact Int.ofNat_le.mp this
        refine w_iS ?_
        walk_at "go"
        refine w_iSE fun D hD => lc_it walk_str (Bs H D (z.cps.toList.map smallC)) (Bs.start hD) (fun _ _ _ _ => trivial) ?_ ?_
        · rintro i x H1 H2 hi m ⟨rfl, c, hc, rfl⟩
          walk_at "go"
          refine ⟨rfl, w_yes (if_t rfl ?_)⟩
          walk_at "go"
          refine w_inS ?_
          rw [in_letters]
          exact m.step (Same.refl _) (by rw [List.getElem?_map, Array.getElem?_toList, hc]; rfl) (by rw [List.length_map, Array.length_toList]; omega)
        · rintro H1 m
          walk_at "go"
          refine m.all (by rw [List.length_map, Array.length_toList]; exact Nat.le_refl _) fun H' s' => ?_
          have e : (z.cps.toList.map smallC).all id = nmV (.str z) := by
            show _ = isNm z
            have h1' : 1 ≤ z.length := by omega
            have h2' : z.length ≤ 8 := hl8
            unfold isNm
            rw [decide_eq_true h1', decide_eq_true h2', List.all_map]
            rfl
          rw [e]
          exact q _ s'
    · walk_at "go"
      exact fin (by omega)
  | int n => walk_at "go"; exact q H (Same.refl _)
  | bl n => walk_at "go"; exact q H (Same.refl _)
  | non => walk_at "go"; exact q H (Same.refl _)
  | lst h => walk_at "go"; exact q H (Same.refl _)
  | tup h => walk_at "go"; exact q H (Same.refl _)
  | dict h => walk_at "go"; exact q H (Same.refl _)
theorem p_is_numbers {K : PySem.W.Frag} {vs : List V} {H : Hp} {Q : VK} {E : XK} (h : spIsNumbers vs H Q E) : t_is_numbers K { nx := fun _ H' => Q .non H', rt := Q } (start N_is_numbers vs) H := by
  obtain ⟨v, rfl, ⟨a, xs, rfl, ha, hx, q⟩ | ⟨T, h, hT, q⟩⟩ := h
  · unfold t_is_numbers
    walk_at "go"
    have fin : ¬ (1 ≤ xs.length ∧ xs.length ≤ 3) → Q (.bl false) H := fun n => by
      have := q H (Same.refl _)
      have e : numsOk xs = false := by
        unfold numsOk
        by_cases h1 : 1 ≤ xs.length
        · rw [decide_eq_false (p := xs.length ≤ 3) (fun h2 => n ⟨h1, h2⟩), Bool.and_false]; rfl
        · rw [decide_eq_false h1]; rfl
      rw [e] at this
      exact this
    refine if_2 (fun h1 => ?_) (fun h1 => ?_)
    · walk_at "go"
      refine if_n2 (fun h2 => ?_) (fun h2 => ?_)
      · walk_at "go"
        exact fin (by omega)
      · walk_at "go"
        refine ⟨a, rfl, ⟨_, sqT ha⟩, fun D hD => lc_tup (K := K) (xs := xs) (Bs H D (xs.map numI)) (Bs.start hD) (fun i H' _ m => sqT (m.1 _ _ ha)) ?_ ?_⟩
        · rintro i v H1 hv m
          obtain ⟨T, kd⟩ := hx v (List.mem_of_getElem? hv)
          have st : ∀ b, numI v = b → ∃ acc, H1 D = some (.lst acc) ∧ acc.length < sizeLine ∧ Bs H D (xs.map numI) (i + 1) (upd H1 D (.lst (acc ++ [.bl b]))) := fun b hb => m.step (Same.refl _) (by rw [List.getElem?_map, hv, ← hb]; rfl) (by rw [List.length_map]; omega)
          walk_at "go"
          refine ⟨rfl, w_yes (if_t rfl ?_)⟩
          walk_at "go"
          refine ⟨v, T, rfl, kd.same m.1, ?_⟩
          cases kd with
          | int n =>
            walk_at "go"
            refine if_2 (fun h3 => ?_) (fun h3 => ?_)
            · walk_at "go"
              exact st _ (by
                show (decide _ && _) = _
                rw [decide_eq_true (by omega)]; rfl)
            · walk_at "go"
              exact st _ (by
                show (decide _ && _) = _
                rw [decide_eq_false (by omega)]; rfl)
          | bl n => walk_at "go"; exact st _ rfl
          | str n => walk_at "go"; exact st _ rfl
          | non => walk_at "go"; exact st _ rfl
          | lst h => walk_at "go"; exact st _ rfl
          | tup h => walk_at "go"; exact st _ rfl
          | dict h => walk_at "go"; exact st _ rfl
        · rintro H1 m
          walk_at "go"
          refine m.all (by rw [List.length_map]; exact Nat.le_refl _) fun H' s' => ?_
          have e : (xs.map numI).all id = numsOk xs := by
            unfold numsOk
            rw [decide_eq_true (by omega : 1 ≤ xs.length), decide_eq_true (by omega : xs.length ≤ 3), List.all_map]
            rfl
          rw [e]
          exact q _ s'
    · walk_at "go"
      exact fin (by omega)
  · unfold t_is_numbers
    walk_at "go"
    refine k_tuple h ?_
    cases h with
    | tup h => exact absurd rfl hT
    | int n => walk_at "go"; exact q
    | bl n => walk_at "go"; exact q
    | str n => walk_at "go"; exact q
    | non => walk_at "go"; exact q
    | lst h => walk_at "go"; exact q
    | dict h => walk_at "go"; exact q

/-! ### promises: names and numbers that are drawn -/
def spNames : Sp := fun vs H Q _ => ∃ (l : Addr) (n : Nat), vs = [.ref l, .int (n : Int)] ∧ Src H l ∧ 1 ≤ n ∧ n ≤ 8 ∧ ∀ s (zs : List Str) H', Dr l H H' → H' s = some (.lst (zs.map V.str)) → s ≠ l → H s = none → zs.length = n → (∀ z ∈ zs, isNm z = true) → zs.Nodup → Q (.ref s) H'
def farI (n : Int) : Prop := -1000000000000 ≤ n ∧ n ≤ 1000000000000
def spNumbers : Sp := fun vs H Q _ => ∃ (l : Addr) (n : Nat), vs = [.ref l, .int (n : Int)] ∧ Src H l ∧ n ≤ 3 ∧ ∀ s (ns : List Int) H', Dr l H H' → H' s = some (.tup (ns.map V.int)) → ns.length = n → (∀ x ∈ ns, farI x) → Q (.ref s) H'
/-- texts by a function of the turn, put into a list at D -/
def Fs (H : Hp) (D : Addr) (f : Nat → Str) (i : Nat) (H' : Hp) : Prop := Same H H' ∧ H D = none ∧ H' D = some (.lst (((List.range i).map f).map V.str))
theorem Fs.start {H : Hp} {D : Addr} {f : Nat → Str} (hD : H D = none) : Fs H D f 0 (upd H D (.lst [])) := ⟨same_new hD, hD, upd_same⟩
theorem Fs.step {H H1 : Hp} {D : Addr} {f : Nat → Str} {i : Nat} (m : Fs H D f i H1) (hi : i ≤ 1000) :
    ∃ acc, H1 D = some (.lst acc) ∧ acc.length < sizeLine ∧ Fs H D f (i + 1) (upd H1 D (.lst (acc ++ [.str (f i)]))) := by
  obtain ⟨s0, hD, h1⟩ := m
  refine ⟨_, h1, by rw [List.length_map, List.length_map, List.length_range]; exact small1000 hi, fun a o e => ?_, hD, ?_⟩
  · rw [upd_ne (ne_of_none e hD)]
    exact s0 _ _ e
  · rw [upd_same, List.range_succ, List.map_append, List.map_append]; rfl
theorem fs_nodup {f : Nat → Str} {n : Nat} (h : ∀ i j, i < n → j < n → f i = f j → i = j) : ((List.range n).map f).Nodup := by
  refine List.pairwise_map.mpr (List.Pairwise.imp_of_mem (fun {a b} ha hb hne e => hne (h a b (List.mem_range.mp ha) (List.mem_range.mp hb) e)) List.nodup_range)

-- names: 0:_law_well_here 1:_law_many 2:_law_letters 3:_law_words 4:_law_shift 5:_law_way 6:_law_stem 7:_law_at 8:_law_k
abbrev N_l_names : List Str := ["_law_well_here", "_law_many", "_law_letters", "_law_words", "_law_shift", "_law_way", "_law_stem", "_law_at", "_law_k"]
def t_l_names (K : PySem.W.Frag) : TS :=
  (tSeq (tAsg (tC (.str ("abcdefghijklmnopqrstuvwxyz" : Str))) (gName 2))
    (tSeq (tAsg (tSplit (tC (.str ("turn come tie cut set hand web book up held way sure sum" : Str))) (tC (.str (" " : Str)))) (gName 3))
    (tSeq (tAsg (tCall spDraw [] E0 (tCons (tVar 0) (tCons (tC (.int 26)) tNil))) (gName 4))
    (tSeq (tAsg (tCall spDraw [] E0 (tCons (tVar 0) (tCons (tC (.int 4)) tNil))) (gName 5))
    (tSeq (tIfS (tTest (tOp rEq (tVar 5) (tC (.int 0)))) (tRet (tLc (iRng1 (tCons (tVar 1) tNil)) (gName 8) tYes (tOp (rIxL K) (tVar 3) (tOp rModI (tOp rAddI (tVar 4) (tVar 8)) (tC (.int 13)))) [8])) tNext)
    (tSeq (tIfS (tTest (tOp rEq (tVar 5) (tC (.int 1)))) (tRet (tLc (iRng1 (tCons (tVar 1) tNil)) (gName 8) tYes (tOp rRepStr (tOp rIxS (tVar 2) (tVar 4)) (tOp rAddI (tVar 8) (tC (.int 1)))) [8])) tNext)
    (tSeq (tAsg (tJoin K (tC (.str ("" : Str))) (tLc (iRng1 (tCons (tCall spDraw [] E0 (tCons (tVar 0) (tCons (tC (.int 8)) tNil))) tNil)) (gName 8) tYes (tOp rIxS (tVar 2) (tCall spDraw [] E0 (tCons (tVar 0) (tCons (tC (.int 26)) tNil)))) [8])) (gName 6))
    (tSeq (tAsg (tCall spDraw [] E0 (tCons (tVar 0) (tCons (tOp rAddI (tCB rLenStr (tCons (tVar 6) tNil)) (tC (.int 1))) tNil))) (gName 7))
    (tRet (tLc (iRng1 (tCons (tVar 1) tNil)) (gName 8) tYes (tOp rAddStr (tOp rAddStr (tSl rSlS (tVar 6) tNoPart (tPart (tVar 7))) (tOp rIxS (tVar 2) (tOp rModI (tOp rAddI (tVar 4) (tOp rMulI (tC (.int 3)) (tVar 8))) (tC (.int 26))))) (tSl rSlS (tVar 6) (tPart (tVar 7)) tNoPart)) [8]))))))))))

-- names: 0:_law_well_here 1:_law_size 2:_law_found 3:_law_k 4:_law_some
abbrev N_l_numbers : List Str := ["_law_well_here", "_law_size", "_law_found", "_law_k", "_law_some"]
def t_l_numbers (K : PySem.W.Frag) : TS :=
  (tSeq (tAsg (tLst tNil) (gName 2))
    (tSeq (tFor (iRng1 (tCons (tVar 1) tNil)) (gName 3) (tSeq (tAsg (tLst (tCons (tC (.int 0)) (tCons (tOp rSubI (tCall spDraw [] E0 (tCons (tVar 0) (tCons (tC (.int 11)) tNil))) (tC (.int 5))) (tCons (tOp rPowI (tC (.int 10)) (tC (.int 12))) (tCons (tOp rSubI (tC (.int 0)) (tOp rPowI (tC (.int 10)) (tC (.int 12)))) tNil))))) (gName 4))
      (tSeq (tAsg (tOp rCat (tVar 4) (tLst (tCons (tOp rSubI (tCall spDraw [] E0 (tCons (tVar 0) (tCons (tOp rAddI (tOp rMulI (tC (.int 2)) (tOp rPowI (tC (.int 10)) (tC (.int 12)))) (tC (.int 1))) tNil))) (tOp rPowI (tC (.int 10)) (tC (.int 12)))) tNil))) (gName 4))
      (tDrop (tBM K "list" rAppend (tVar 2) (tCons (tOp (rIxL K) (tVar 4) (tCall spDraw [] E0 (tCons (tVar 0) (tCons (tC (.int 5)) tNil)))) tNil))))))
    (tRet (tCB (rTupOf K) (tCons (tVar 2) tNil)))))


theorem letter_at {d : Int} (h0 : 0 ≤ d) (h1 : d < 26) : atI (("abcdefghijklmnopqrstuvwxyz" : Str)).cps.toList d = some (97 + d.toNat) := by
  obtain ⟨n, rfl⟩ := Int.eq_ofNat_of_zero_le h0
  refine atI_nat ?_
  rw [letters_eq, List.getElem?_range' (by omega)]
  simp
theorem cut_len (z : Str) (lo hi : Option Int) : (cutS z lo hi).length ≤ z.length := by
  unfold cutS Str.length
  simp
  omega
theorem cut_list (z : Str) (f : Nat) (h : f ≤ z.length) : (cutS z none (some (f : Int))).cps.toList = z.cps.toList.take f ∧ (cutS z (some (f : Int)) none).cps.toList = z.cps.toList.drop f := by
  have e1 : HT.sIx z.length z.length (some (f : Int)) = f := by
    unfold HT.sIx
    simp
    rw [if_neg (by omega)]
    omega
  have e2 : HT.sIx z.length 0 (some (f : Int)) = f := by
    unfold HT.sIx
    simp
    rw [if_neg (by omega)]
    omega
  have e3 : HT.sIx z.length 0 none = 0 := rfl
  have e4 : HT.sIx z.length z.length none = z.length := rfl
  have lz : z.cps.toList.length = z.length := Array.length_toList
  constructor
  · unfold cutS
    rw [e1, e3, List.drop_zero, Nat.sub_zero]
  · unfold cutS
    rw [e2, e4]
    show (z.cps.toList.drop f).take (z.length - f) = _
    refine List.take_of_length_le ?_
    rw [List.length_drop, lz]
    exact Nat.le_refl _
theorem sz100 {n : Nat} (h : n ≤ 1000) : n ≤ sizeLine := Nat.le_trans h (by decide)
theorem nm_of {z : Str} (h1 : 1 ≤ z.length) (h2 : z.length ≤ 8) (h3 : ∀ c ∈ z.cps.toList, 97 ≤ c ∧ c ≤ 122) : isNm z = true := by
  unfold isNm
  rw [decide_eq_true h1, decide_eq_true h2]
  show z.cps.toList.all smallC = true
  rw [List.all_eq_true]
  intro c hc
  obtain ⟨a, b⟩ := h3 c hc
  unfold smallC
  rw [decide_eq_true a, decide_eq_true b]; rfl
theorem p_l_names_len {vs : List V} {H : Hp} {Q : VK} {E : XK} (h : spNames vs H Q E) : vs.length = 2 := by
  obtain ⟨l, n, rfl, _⟩ := h; rfl
theorem p_l_numbers_len {vs : List V} {H : Hp} {Q : VK} {E : XK} (h : spNumbers vs H Q E) : vs.length = 2 := by
  obtain ⟨l, n, rfl, _⟩ := h; rfl
def wordL : List Str := ["turn", "come", "tie", "cut", "set", "hand", "web", "book", "up", "held", "way", "sure", "sum"]
theorem words_eq : Txt.split ("turn come tie cut set hand web book up held way sure sum" : Str) (" " : Str) = wordL := by decide +kernel
def wordAt (i : Nat) : Str := wordL.getD (i % 13) Str.empty
theorem word_get (i : Nat) : wordL[i % 13]? = some (wordAt i) := by
  have h : i % 13 < wordL.length := Nat.mod_lt _ (by decide)
  unfold wordAt
  rw [List.getD_eq_getElem?_getD, List.getElem?_eq_getElem h]; rfl
theorem word_nm : ∀ i, isNm (wordAt i) = true := fun i => by
  have h : ∀ j, j < 13 → isNm (wordL.getD j Str.empty) = true := by decide +kernel
  exact h _ (Nat.mod_lt _ (by decide))
theorem word_inj : ∀ i j : Nat, wordAt i = wordAt j → i % 13 = j % 13 := fun i j e => by
  have h : ∀ a, a < 13 → ∀ b, b < 13 → wordL.getD a Str.empty = wordL.getD b Str.empty → a = b := by decide +kernel
  exact h _ (Nat.mod_lt _ (by decide)) _ (Nat.mod_lt _ (by decide)) e
theorem mul_list (c n : Nat) : Txt.mul (sg1 c) (n : Int) = ⟨(List.replicate n c).toArray⟩ := by
  have key : ∀ (k : Nat) (acc : Array Nat), (List.replicate k (#[c] : Array Nat)).foldl (· ++ ·) acc = acc ++ (List.replicate k c).toArray := by
    intro k
    induction k with
    | zero => intro acc; simp
    | succ k ih =>
      intro acc
      rw [List.replicate_succ, List.foldl_cons, ih]
      apply Array.toList_inj.mp
      simp [List.replicate_succ]
  unfold Txt.mul
  by_cases h : (n : Int) < 1
  · rw [if_pos h]
    have : n = 0 := by omega
    subst this; rfl
  · rw [if_neg h]
    by_cases h1 : n = 1
    · subst h1; rfl
    · have h2 : (((n : Int) == 1) || ((sg1 c).length == 0)) = false := by
        have : ((n : Int) == 1) = false := by simp; omega
        rw [this]; rfl
      rw [h2]
      show (⟨_⟩ : Str) = _
      rw [Int.toNat_natCast, key]
      simp
theorem p_l_names {K : PySem.W.Frag} {vs : List V} {H : Hp} {Q : VK} {E : XK} (h : spNames vs H Q E) : t_l_names K { nx := fun _ H' => Q .non H', rt := Q } (start N_l_names vs) H := by
  obtain ⟨l, n, rfl, hs, n1, n8, q⟩ := h
  unfold t_l_names
  walk_at "go"
  refine ⟨⟨_, rfl⟩, _, _, rfl, rfl, rfl, by decide +kernel, ?_⟩
  rw [words_eq]
  intro W hW
  have d1 := (Dr.refl hs).new (o := .lst (wordL.map V.str)) hW
  have nW := hs.ne_new hW
  have hW1 : (upd H W (.lst (wordL.map V.str))) W = some (.lst (wordL.map V.str)) := upd_same
  generalize upd H W (.lst (wordL.map V.str)) = H1 at *
  walk_at "go"
  refine ⟨l, 26, rfl, d1.src, by decide, by decide, fun sh H2 a0 a1 k2 => ?_⟩
  obtain ⟨sh, rfl⟩ := Int.eq_ofNat_of_zero_le a0
  have d2 := d1.trans k2
  have hW2 := k2.keep _ _ nW hW1
  walk_at "go"
  refine ⟨l, 4, rfl, d2.src, by decide, by decide, fun way H3 b0 b1 k3 => ?_⟩
  have d3 := d2.trans k3
  have hW3 := k3.keep _ _ nW hW2
  clear hW1 hW2 k2 k3 d1 d2
  walk_at "go"
  refine if_2 (fun h => ?_) (fun h => ?_)
  · walk_at "go"
    refine ⟨_, rfl, by omega, by omega, fun D hD => ?_⟩
    rw [Int.toNat_natCast]
    refine lc_range (lo := 0) (n := n) (Fs H3 D fun i => wordAt (sh + i)) (Fs.start hD) ?_ ?_
    · rintro i H4 hi m
      walk_at "go"
      refine ⟨rfl, w_yes (if_t rfl ?_)⟩
      walk_at "go"
      have e : ((sh : Int) + (0 + (i : Int))) % 13 = (((sh + i) % 13 : Nat) : Int) := by omega
      rw [e]
      refine w_ixL (sqL (m.1 _ _ hW3)) (atI_nat (by rw [List.getElem?_map, word_get]; rfl)) ?_
      exact m.step (by omega)
    · rintro H4 ⟨s4, hD4, m⟩
      refine q D _ H4 (d3.trans (Dr.same d3.src s4)) m (d3.src.ne_new hD) (d3.free hD) (by rw [List.length_map, List.length_range]) (fun z hz => ?_) (fs_nodup fun i j hi hj e => ?_)
      · obtain ⟨i, _, rfl⟩ := List.mem_map.mp hz
        exact word_nm _
      · have := word_inj _ _ e
        omega
  · walk_at "go"
    refine if_2 (fun h2 => ?_) (fun h2 => ?_)
    · walk_at "go"
      refine ⟨_, rfl, by omega, by omega, fun D hD => ?_⟩
      rw [Int.toNat_natCast]
      refine lc_range (lo := 0) (n := n) (Fs H3 D fun i => ⟨(List.replicate (i + 1) (97 + sh)).toArray⟩) (Fs.start hD) ?_ ?_
      · rintro i H4 hi m
        walk_at "go"
        refine ⟨rfl, w_yes (if_t rfl ?_)⟩
        walk_at "go"
        refine w_ixS (by decide +kernel) (letter_at (by omega) (by omega)) ?_
        walk_at "go"
        have e : (0 + (i : Int)) + 1 = ((i + 1 : Nat) : Int) := by omega
        rw [e]
        refine w_rep_str (by show 1 * (i + 1) ≤ 1000; omega) (by omega) ?_
        rw [mul_list, Int.toNat_natCast]
        exact m.step (by omega)
      · rintro H4 ⟨s4, hD4, m⟩
        refine q D _ H4 (d3.trans (Dr.same d3.src s4)) m (d3.src.ne_new hD) (d3.free hD) (by rw [List.length_map, List.length_range]) (fun z hz => ?_) (fs_nodup fun i j hi hj e => ?_)
        · obtain ⟨i, hi, rfl⟩ := List.mem_map.mp hz
          have hi := List.mem_range.mp hi
          have el : Str.length ⟨(List.replicate (i + 1) (97 + sh)).toArray⟩ = i + 1 := by
            show (List.replicate (i + 1) (97 + sh)).toArray.size = i + 1
            simp
          refine nm_of (by omega) (by omega) fun c hc => ?_
          have := (List.mem_replicate.mp hc).2
          omega
        · have e2 := congrArg (fun z : Str => z.cps.toList.length) e
          have e3 : ∀ k : Nat, ((⟨(List.replicate (k + 1) (97 + sh)).toArray⟩ : Str).cps.toList.length) = k + 1 := fun k => List.length_replicate
          have e4 : i + 1 = j + 1 := (e3 i).symm.trans (e2.trans (e3 j))
          omega
    · refine w_seq (w_asg (w_join (w_con (w_strE ?_))))
      walk_at "go"
      refine ⟨l, 8, rfl, d3.src, by decide, by decide, fun d H4 c0 c1 k4 => ?_⟩
      have d4 := d3.trans k4
      have hW4 := k4.keep _ _ nW hW3
      walk_at "go"
      refine ⟨_, rfl, by omega, by omega, fun D hD => ?_⟩
      refine lc_range (lo := 0) (n := d.toNat) (Dl l D H4 fun x => ∃ c, x = one1 c ∧ (97 ≤ c ∧ c ≤ 122)) (Dl.start d4.src hD) ?_ ?_
      · rintro i H5 hi m
        walk_at "go"
        refine ⟨rfl, w_yes (if_t rfl ?_)⟩
        walk_at "go"
        refine ⟨l, 26, rfl, m.1.src, by decide, by decide, fun e H6 e0 e1 k6 => ?_⟩
        refine w_ixS (by decide +kernel) (letter_at e0 e1) ?_
        exact m.put k6 ⟨_, rfl, by omega, by omega⟩ (by omega)
      · rintro H5 ⟨k5, _, nDl, xs, hx, lx, px⟩
        obtain ⟨cs, rfl, pcs⟩ := signs_of px
        have lc : cs.length ≤ 7 := by
          rw [List.length_map, List.length_map] at lx
          omega
        refine ⟨("" : Str), D, cs.map sg1, rfl, rfl, .inl (SqL.of hx), by
          rw [signs_sum, List.length_map]
          show cs.length + cs.length * 0 ≤ 16777216
          omega, ?_⟩
        rw [join_signs]
        have lz : (⟨cs.toArray⟩ : Str).length = cs.length := by
          show cs.toArray.size = cs.length
          simp
        have lt : (⟨cs.toArray⟩ : Str).cps.toList = cs := rfl
        generalize (⟨cs.toArray⟩ : Str) = z at *
        have d5 := d4.trans k5
        walk_at "go"
        refine w_lenStr (sz100 (by omega)) ?_
        walk_at "go"
        refine ⟨l, _, rfl, d5.src, by omega, Nat.lt_of_le_of_lt (by omega : _ ≤ 100) (by decide), fun f H6 f0 f1 k6 => ?_⟩
        obtain ⟨f, rfl⟩ := Int.eq_ofNat_of_zero_le f0
        have d6 := d5.trans k6
        obtain ⟨ct, cd⟩ := cut_list z f (by omega)
        have c1 := cut_len z none (some (f : Int))
        have c2 := cut_len z (some (f : Int)) none
        walk_at "go"
        refine ⟨_, rfl, by omega, by omega, fun D2 hD2 => ?_⟩
        rw [Int.toNat_natCast]
        refine lc_range (lo := 0) (n := n) (Fs H6 D2 fun i => cutS z none (some (f : Int)) ++ sg1 (97 + (sh + 3 * i) % 26) ++ cutS z (some (f : Int)) none) (Fs.start hD2) ?_ ?_
        · rintro i H7 hi m
          walk_at "go"
          refine ⟨rfl, w_yes (if_t rfl ?_)⟩
          walk_at "go"
          refine w_slS (sz100 (by omega)) ?_
          walk_at "go"
          have e : ((sh : Int) + 3 * (0 + (i : Int))) % 26 = (((sh + 3 * i) % 26 : Nat) : Int) := by omega
          rw [e]
          refine w_ixS (by decide +kernel) (letter_at (by omega) (by omega)) ?_
          rw [Int.toNat_natCast]
          have l1 : Str.length { cps := #[97 + (sh + 3 * i) % 26] } = 1 := rfl
          refine w_addStr (sz100 (by omega)) ?_
          walk_at "go"
          refine w_slS (sz100 (by omega)) ?_
          refine w_addStr (sz100 (by rw [Str.length_append]; omega)) ?_
          exact m.step (by omega)
        · rintro H7 ⟨s7, hD7, m⟩
          have tl : ∀ i, (cutS z none (some (f : Int)) ++ sg1 (97 + (sh + 3 * i) % 26) ++ cutS z (some (f : Int)) none).cps.toList = cs.take f ++ (97 + (sh + 3 * i) % 26) :: cs.drop f := fun i => by
            show (_ ++ _ ++ _ : Array Nat).toList = _
            rw [Array.toList_append, Array.toList_append, ct, cd, lt]
            simp
          refine q D2 _ H7 (d6.trans (Dr.same d6.src s7)) m (d6.src.ne_new hD2) (d6.free hD2) (by rw [List.length_map, List.length_range]) (fun w hw => ?_) (fs_nodup fun i j hi hj e => ?_)
          · obtain ⟨i, hi, rfl⟩ := List.mem_map.mp hw
            have ll : (cutS z none (some (f : Int)) ++ sg1 (97 + (sh + 3 * i) % 26) ++ cutS z (some (f : Int)) none).length = cs.length + 1 := by
              have e1 := congrArg List.length (tl i)
              rw [Array.length_toList, List.length_append, List.length_cons, List.length_take, List.length_drop] at e1
              show _ = _
              have : f ≤ cs.length := by omega
              unfold Str.length
              omega
            refine nm_of (by omega) (by omega) fun c hc => ?_
            rw [tl i] at hc
            rcases List.mem_append.mp hc with h | h
            · exact pcs c (List.mem_of_mem_take h)
            · rcases List.mem_cons.mp h with h | h
              · omega
              · exact pcs c (List.mem_of_mem_drop h)
          · have e2 : (cs.take f ++ (97 + (sh + 3 * i) % 26) :: cs.drop f) = cs.take f ++ (97 + (sh + 3 * j) % 26) :: cs.drop f := by
              rw [← tl i, ← tl j]
              exact congrArg (fun z : Str => z.cps.toList) e
            have e3 := (List.cons.inj (List.append_cancel_left e2)).1
            omega
theorem p_l_numbers {K : PySem.W.Frag} {vs : List V} {H : Hp} {Q : VK} {E : XK} (h : spNumbers vs H Q E) : t_l_numbers K { nx := fun _ H' => Q .non H', rt := Q } (start N_l_numbers vs) H := by
  obtain ⟨l, n, rfl, hs, n3, q⟩ := h
  have e12 : (10 : Int) ^ (12 : Int).toNat = 1000000000000 := by decide
  unfold t_l_numbers
  walk_at "go"
  refine ⟨by show 0 ≤ sizeLine; decide, fun D hD => ?_⟩
  have dl := Dl.start (P := fun x => ∃ n, x = V.int n ∧ farI n) hs hD
  walk_at "go"
  refine ⟨_, rfl, by omega, by omega, for_range (lo := 0) (n := n) (fun i σ H' => ∃ y3 y4, σ = [some (.ref l), some (.int n), some (.ref D), y3, y4] ∧ Dl l D H (fun x => ∃ n, x = V.int n ∧ farI n) i H') ⟨_, _, rfl, dl⟩ ?_ ?_⟩
  · rintro i σ H2 hi ⟨y3, y4, rfl, m⟩
    walk_at "go"
    refine ⟨l, 11, rfl, m.1.src, by decide, by decide, fun e H3 e0 e1 k3 => ?_⟩
    walk_at "go"
    refine ⟨by show 4 ≤ sizeLine; decide, fun A hA => ?_⟩
    rw [e12]
    have nA := k3.src.ne_new hA
    have k4 := k3.new (o := .lst [.int 0, .int (e - 5), .int 1000000000000, .int (0 - 1000000000000)]) hA
    walk_at "go"
    refine ⟨l, _, rfl, k4.src, by decide, by decide, fun f H5 f0 f1 k5 => ?_⟩
    rw [e12] at f1
    have hA5 := k5.keep _ _ nA upd_same
    walk_at "go"
    refine ⟨by show 1 ≤ sizeLine; decide, fun B hB => ?_⟩
    rw [e12]
    refine w_cat (keep hA5 hB) upd_same (by show 5 ≤ sizeLine; decide) fun C hC => ?_
    have k6 := ((k4.trans k5).new (o := .lst [.int (f - 1000000000000)]) hB)
    have nC := k6.src.ne_new hC
    have k7 := k6.new (o := .lst ([.int 0, .int (e - 5), .int 1000000000000, .int (0 - 1000000000000)] ++ [.int (f - 1000000000000)])) hC
    obtain ⟨_, hD0, nDl, xs, hx, lx, px⟩ := id m
    have hD7 := k7.keep _ _ nDl hx
    walk_at "go"
    refine ⟨l, 5, rfl, k7.src, by decide, by decide, fun g H8 g0 g1 k8 => ?_⟩
    have hC8 := k8.keep _ _ nC upd_same
    obtain ⟨r, hr, fr⟩ : ∃ r : Int, atI ([V.int 0, .int (e - 5), .int 1000000000000, .int (0 - 1000000000000)] ++ [.int (f - 1000000000000)]) g = some (.int r) ∧ farI r := by
      unfold farI
      rcases (by omega : g = 0 ∨ g = 1 ∨ g = 2 ∨ g = 3 ∨ g = 4) with h | h | h | h | h <;> subst h <;> exact ⟨_, rfl, by omega, by omega⟩
    refine w_ixL (sqL hC8) hr ?_
    walk_at "go"
    obtain ⟨acc, g1, g2, g3⟩ := m.put (k7.trans k8) ⟨r, rfl, fr⟩ (by omega)
    refine w_append g1 g2 ?_
    exact ⟨_, _, rfl, g3⟩
  · rintro σ H2 ⟨y3, y4, rfl, k2, _, nDl, xs, hx, lx, px⟩
    obtain ⟨ns, rfl, pn⟩ : ∃ ns : List Int, xs = ns.map V.int ∧ ∀ n ∈ ns, farI n := by
      clear hx lx
      induction xs with
      | nil => exact ⟨[], rfl, fun n hn => by cases hn⟩
      | cons x xs ih =>
        obtain ⟨n, rfl, fn⟩ := px x (.head _)
        obtain ⟨ns, rfl, pn⟩ := ih fun y hy => px y (.tail _ hy)
        refine ⟨n :: ns, rfl, fun y hy => ?_⟩
        rcases List.mem_cons.mp hy with h | h
        · rw [h]; exact fn
        · exact pn y h
    walk_at "go"
    refine w_tupOfL (sqL hx) fun s hs => ?_
    exact q s ns _ (k2.new hs) upd_same (by rw [List.length_map] at lx; exact lx) pn

/-- the module's tables -/
structure Gt (K : PySem.W.Frag) : Prop where
  s_OF_ONE : ∀ H, SqT K H (He.ga K "OF_ONE") [.str ("turn" : Str), .str ("fall" : Str), .str ("back" : Str), .str ("fresh" : Str), .str ("leave" : Str)]
  s_OF_NUMBERS : ∀ H, SqT K H (He.ga K "OF_NUMBERS") [.str ("set" : Str), .str ("join" : Str)]
  s_OF_TWO : ∀ H, SqT K H (He.ga K "OF_TWO") [.str ("tie" : Str), .str ("cut" : Str)]

/-! ### promises: what is a deed -/
def ofOne : List Str := ["turn", "fall", "back", "fresh", "leave"]
def ofNumbers : List Str := ["set", "join"]
def ofTwo : List Str := ["tie", "cut"]
def numsV (H : Hp) : V → Bool
  | .ref a => match H a with
    | some (.tup xs) => numsOk xs
    | _ => false
  | _ => false
def cntV : V → Bool
  | .int n => decide (0 ≤ n)
  | _ => false
/-- what a deed needs behind its word and its second thing -/
def deedMore (H : Hp) (w : Str) (x1 : V) : List V → Bool
  | [] => decide (w ∈ ofOne)
  | [x2] => !decide (w ∈ ofOne) && (if w ∈ ofNumbers then numsV H x2 else decide (w ∈ ofTwo) && (nmV x2 && !decide (x2 = x1)))
  | _ => false
def deedOk (H : Hp) : List V → Bool
  | .str w :: x1 :: rest => if w = ("come" : Str) then (rest.isEmpty && cntV x1) else nmV x1 && deedMore H w x1 rest
  | _ => false
/-- a thing of a known kind, its items too if it is a tuple -/
def Kd2 (H : Hp) (x : V) : Prop := (∃ T, Kd H x T) ∧ (∀ z, x = .str z → z.length ≤ 1000) ∧ ∀ a ys, x = .ref a → H a = some (.tup ys) → Kds H ys
def spIsDeed : Sp := fun vs H Q _ => ∃ v, vs = [v] ∧ ((∃ a xs, v = .ref a ∧ H a = some (.tup xs) ∧ (∀ x ∈ xs, Kd2 H x) ∧ xs.length ≤ 1000 ∧ ∀ H', Same H H' → Q (.bl (deedOk H xs)) H') ∨ ∃ T, Kd H v T ∧ T ≠ "tuple" ∧ Q (.bl false) H)
theorem kd_lst {H : Hp} {v : V} {T : String} {a : Addr} (h : Kd H v T) (hv : v = .ref a) (hT : T = "list") : ∃ xs, H a = some (.lst xs) := by
  cases h with
  | lst h => cases hv; exact ⟨_, h⟩
  | int n => cases hv
  | bl n => cases hv
  | str n => cases hv
  | non => cases hv
  | tup h => exact absurd hT (by decide)
  | dict h => exact absurd hT (by decide)
theorem kd_dict {H : Hp} {v : V} {T : String} {a : Addr} (h : Kd H v T) (hv : v = .ref a) (hT : T = "dict") : ∃ kvs, H a = some (.dK kvs) := by
  cases h with
  | dict h => cases hv; exact ⟨_, h⟩
  | int n => cases hv
  | bl n => cases hv
  | str n => cases hv
  | non => cases hv
  | tup h => exact absurd hT (by decide)
  | lst h => exact absurd hT (by decide)
theorem Kd2.step {H H' : Hp} {x : V} (h : Kd2 H x) (k : ∀ T, Kd H x T → Kd H' x T) (kt : ∀ a ys, H a = some (.tup ys) → H' a = some (.tup ys)) (ks : ∀ ys, Kds H ys → Kds H' ys) : Kd2 H' x := by
  obtain ⟨⟨T, h1⟩, h2, h3⟩ := h
  refine ⟨⟨T, k T h1⟩, h2, fun a ys e ha => ?_⟩
  subst e
  have k1 := k T h1
  cases h1 with
  | @tup _ zs h =>
    have e2 := kt _ _ h
    rw [e2] at ha
    cases ha
    exact ks _ (h3 a _ rfl h)
  | lst h =>
    obtain ⟨_, h'⟩ := kd_lst k1 rfl rfl
    rw [h'] at ha; cases ha
  | dict h =>
    obtain ⟨_, h'⟩ := kd_dict k1 rfl rfl
    rw [h'] at ha; cases ha
theorem Kd2.same {H H' : Hp} {x : V} (h : Kd2 H x) (s : Same H H') : Kd2 H' x := h.step (fun _ k => k.same s) (fun _ _ e => s _ _ e) (fun _ k => k.same s)
theorem Kds.dr {l : Addr} {H H' : Hp} {xs : List V} (h : Kds H xs) (d : Dr l H H') : Kds H' xs := fun x hx => by
  obtain ⟨T, h⟩ := h x hx
  exact ⟨T, h.dr d⟩
theorem Kd2.dr {l : Addr} {H H' : Hp} {x : V} (h : Kd2 H x) (d : Dr l H H') : Kd2 H' x := h.step (fun _ k => k.dr d) (fun _ _ e => d.tup e) (fun _ k => k.dr d)
theorem Kd2.int {H : Hp} (n : Int) : Kd2 H (.int n) := ⟨⟨_, .int n⟩, fun _ e => (by cases e), fun _ _ e => (by cases e)⟩
theorem Kd2.bl {H : Hp} (n : Bool) : Kd2 H (.bl n) := ⟨⟨_, .bl n⟩, fun _ e => (by cases e), fun _ _ e => (by cases e)⟩
theorem Kd2.non {H : Hp} : Kd2 H .non := ⟨⟨_, .non⟩, fun _ e => (by cases e), fun _ _ e => (by cases e)⟩
theorem Kd2.str {H : Hp} {z : Str} (h : z.length ≤ 1000) : Kd2 H (.str z) := ⟨⟨_, .str z⟩, fun _ e => (by cases e; exact h), fun _ _ e => (by cases e)⟩
theorem Kd2.lst {H : Hp} {a : Addr} {xs : List V} (h : H a = some (.lst xs)) : Kd2 H (.ref a) := ⟨⟨_, .lst h⟩, fun _ e => (by cases e), fun b ys e hb => (by cases e; rw [h] at hb; cases hb)⟩
theorem Kd2.tup {H : Hp} {a : Addr} {xs : List V} (h : H a = some (.tup xs)) (hx : Kds H xs) : Kd2 H (.ref a) := ⟨⟨_, .tup h⟩, fun _ e => (by cases e), fun b ys e hb => (by cases e; rw [h] at hb; cases hb; exact hx)⟩
theorem Kd2.kds {H : Hp} {xs : List V} (h : ∀ x ∈ xs, Kd2 H x) : Kds H xs := fun x hx => (h x hx).1
theorem numsV_kept {H H' : Hp} {x : V} (h : ∃ T, Kd H x T) (k : ∀ T, Kd H x T → Kd H' x T) (kt : ∀ a ys, H a = some (.tup ys) → H' a = some (.tup ys)) : numsV H' x = numsV H x := by
  obtain ⟨T, h⟩ := h
  have k1 := k T h
  cases h with
  | int n => rfl
  | bl n => rfl
  | str n => rfl
  | non => rfl
  | tup h =>
    show (match H' _ with | some (.tup xs) => numsOk xs | _ => false) = match H _ with | some (.tup xs) => numsOk xs | _ => false
    rw [h, kt _ _ h]
  | lst h =>
    obtain ⟨_, h'⟩ := kd_lst k1 rfl rfl
    show (match H' _ with | some (.tup xs) => numsOk xs | _ => false) = match H _ with | some (.tup xs) => numsOk xs | _ => false
    rw [h, h']
  | dict h =>
    obtain ⟨_, h'⟩ := kd_dict k1 rfl rfl
    show (match H' _ with | some (.tup xs) => numsOk xs | _ => false) = match H _ with | some (.tup xs) => numsOk xs | _ => false
    rw [h, h']
theorem numsV_same {H H' : Hp} {x : V} (h : ∃ T, Kd H x T) (s : Same H H') : numsV H' x = numsV H x := numsV_kept h (fun _ k => k.same s) fun _ _ e => s _ _ e
theorem numsV_dr {l : Addr} {H H' : Hp} {x : V} (h : ∃ T, Kd H x T) (d : Dr l H H') : numsV H' x = numsV H x := numsV_kept h (fun _ k => k.dr d) fun _ _ e => d.tup e
theorem Kd2.name {H : Hp} {x : V} {Q : VK} (h : Kd2 H x) (q : ∀ H', Same H H' → Q (.bl (nmV x)) H') : spIsName [x] H Q E0 := by
  obtain ⟨⟨T, h1⟩, h2, h3⟩ := h
  exact ⟨x, T, rfl, h1, fun z e => Nat.le_trans (h2 z e) (by decide), q⟩
theorem Kd2.nums {H : Hp} {x : V} {Q : VK} (h : Kd2 H x) (q : ∀ H', Same H H' → Q (.bl (numsV H x)) H') : spIsNumbers [x] H Q E0 := by
  obtain ⟨⟨T, h1⟩, h2, h3⟩ := h
  cases h1 with
  | @tup a xs h =>
    refine ⟨_, rfl, .inl ⟨a, xs, rfl, h, h3 a xs rfl h, fun H' s => ?_⟩⟩
    have e : numsV H (.ref a) = numsOk xs := by
      show (match H a with | some (.tup xs) => numsOk xs | _ => false) = _
      rw [h]
    rw [e] at q
    exact q H' s
  | int n => exact ⟨_, rfl, .inr ⟨_, .int n, by decide, q _ (Same.refl _)⟩⟩
  | bl n => exact ⟨_, rfl, .inr ⟨_, .bl n, by decide, q _ (Same.refl _)⟩⟩
  | str n => exact ⟨_, rfl, .inr ⟨_, .str n, by decide, q _ (Same.refl _)⟩⟩
  | non => exact ⟨_, rfl, .inr ⟨_, .non, by decide, q _ (Same.refl _)⟩⟩
  | @lst a xs h =>
    refine ⟨_, rfl, .inr ⟨_, .lst h, by decide, ?_⟩⟩
    have e : numsV H (.ref a) = false := by
      show (match H a with | some (.tup xs) => numsOk xs | _ => false) = _
      rw [h]
    rw [e] at q
    exact q _ (Same.refl _)
  | @dict a xs h =>
    refine ⟨_, rfl, .inr ⟨_, .dict h, by decide, ?_⟩⟩
    have e : numsV H (.ref a) = false := by
      show (match H a with | some (.tup xs) => numsOk xs | _ => false) = _
      rw [h]
    rw [e] at q
    exact q _ (Same.refl _)
theorem inV_str (w : Str) : ∀ ws : List Str, inV (.str w) (ws.map V.str) = decide (w ∈ ws)
  | [] => by simp [inV]
  | x :: ws => by
    have ih := inV_str w ws
    unfold inV at ih ⊢
    rw [List.map_cons, List.any_cons, ih]
    show ((x == w) || _) = _
    by_cases h : x = w
    · subst h; simp
    · rw [beq_eq_false_iff_ne.mpr h, Bool.false_or]
      exact decide_eq_decide.mpr ⟨fun m => .tail _ m, fun m => by
        rcases List.mem_cons.mp m with e | e
        · exact absurd e.symm h
        · exact e⟩

-- names: 0:thing
abbrev N_is_deed : List Str := ["thing"]
def t_is_deed (K : PySem.W.Frag) : TS :=
  (tSeq (tIfS (tOr (tNot (tB (tCB (rIsi K) (tCons (tVar 0) (tCons (tC (.ty "tuple")) tNil))))) (tOr (tTest (tOp rLtI (tCB (Evl.rLenS K) (tCons (tVar 0) tNil)) (tC (.int 2)))) (tNot (tB (tCB (rIsi K) (tCons (tOp (rIxT K) (tVar 0) (tC (.int 0))) (tCons (tC (.ty "str")) tNil))))))) (tRet (tC (.bl false))) tNext)
    (tSeq (tIfS (tTest (tOp rEq (tOp (rIxT K) (tVar 0) (tC (.int 0))) (tC (.str ("come" : Str))))) (tRet (tAndV (tOp rEq (tCB (Evl.rLenS K) (tCons (tVar 0) tNil)) (tC (.int 2))) (tAndV (tCall spIsInt [] E0 (tCons (tOp (rIxT K) (tVar 0) (tC (.int 1))) tNil)) (tOp rGeI (tOp (rIxT K) (tVar 0) (tC (.int 1))) (tC (.int 0)))))) tNext)
    (tSeq (tIfS (tNot (tB (tCall spIsName [] E0 (tCons (tOp (rIxT K) (tVar 0) (tC (.int 1))) tNil)))) (tRet (tC (.bl false))) tNext)
    (tSeq (tIfS (tTest (tOp (rIn K false) (tOp (rIxT K) (tVar 0) (tC (.int 0))) (tC (.ref (He.ga K "OF_ONE"))))) (tRet (tOp rEq (tCB (Evl.rLenS K) (tCons (tVar 0) tNil)) (tC (.int 2)))) tNext)
    (tSeq (tIfS (tTest (tOp rNe (tCB (Evl.rLenS K) (tCons (tVar 0) tNil)) (tC (.int 3)))) (tRet (tC (.bl false))) tNext)
    (tSeq (tIfS (tTest (tOp (rIn K false) (tOp (rIxT K) (tVar 0) (tC (.int 0))) (tC (.ref (He.ga K "OF_NUMBERS"))))) (tRet (tCall spIsNumbers [] E0 (tCons (tOp (rIxT K) (tVar 0) (tC (.int 2))) tNil))) tNext)
    (tRet (tAndV (tOp (rIn K false) (tOp (rIxT K) (tVar 0) (tC (.int 0))) (tC (.ref (He.ga K "OF_TWO")))) (tAndV (tCall spIsName [] E0 (tCons (tOp (rIxT K) (tVar 0) (tC (.int 2))) tNil)) (tOp rNe (tOp (rIxT K) (tVar 0) (tC (.int 2))) (tOp (rIxT K) (tVar 0) (tC (.int 1)))))))))))))


theorem p_is_deed_len {vs : List V} {H : Hp} {Q : VK} {E : XK} (h : spIsDeed vs H Q E) : vs.length = 1 := by
  obtain ⟨v, rfl, _⟩ := h; rfl
theorem p_is_deed {K : PySem.W.Frag} {vs : List V} {H : Hp} {Q : VK} {E : XK} (G : Gt K) (h : spIsDeed vs H Q E) : t_is_deed K { nx := fun _ H' => Q .non H', rt := Q } (start N_is_deed vs) H := by
  obtain ⟨v, rfl, ⟨a, xs, rfl, ha, kx, hl, q⟩ | ⟨T, h, hT, q⟩⟩ := h
  · have stop : deedOk H xs = false → Q (.bl false) H := fun e => by
      have := q H (Same.refl _)
      rw [e] at this
      exact this
    unfold t_is_deed
    walk_at "go"
    match xs, kx, hl, q, stop, ha with
    | [], _, _, _, stop, ha => walk_at "go"; exact stop rfl
    | [x], _, _, _, stop, ha =>
      walk_at "go"
      exact stop (by cases x <;> rfl)
    | x0 :: x1 :: rest, kx, hl, q, stop, ha =>
      have c0 : decide (((x0 :: x1 :: rest).length : Int) < 2) = false := decide_eq_false (by rw [List.length_cons, List.length_cons]; omega)
      rw [c0]
      walk_at "go"
      have k0 := kx x0 (.head _)
      have k1 := kx x1 (.tail _ (.head _))
      obtain ⟨⟨T, kd0⟩, _, _⟩ := k0
      have a0 : atI (x0 :: x1 :: rest) 0 = some x0 := atI_nat (j := 0) rfl
      have a1 : atI (x0 :: x1 :: rest) 1 = some x1 := atI_nat (j := 1) rfl
      refine w_ixT (sqT ha) a0 ?_
      walk_at "go"
      refine k_str kd0 ?_
      cases kd0 with
      | str w =>
        walk_at "go"
        refine w_ixT (sqT ha) a0 ?_
        walk_at "go"
        refine if_2 (fun h => ?_) (fun h => ?_)
        · have hw : w = ("come" : Str) := V.str.inj h
          have e0 : deedOk H (.str w :: x1 :: rest) = (rest.isEmpty && cntV x1) := by
            show (if w = ("come" : Str) then _ else _) = _
            rw [if_pos hw]
          rw [e0] at q
          walk_at "go"
          cases rest with
          | cons y rest =>
            refine if_f (decide_eq_false fun e => ?_) ?_
            · have := V.int.inj e
              rw [List.length_cons, List.length_cons, List.length_cons] at this
              omega
            · exact q H (Same.refl _)
          | nil =>
            refine if_t (decide_eq_true rfl) ?_
            walk_at "go"
            obtain ⟨⟨T1, kd1⟩, _, _⟩ := k1
            refine ⟨x1, T1, rfl, kd1, ?_⟩
            have q0 := q H (Same.refl _)
            cases kd1 with
            | int n =>
              walk_at "go"
              exact q0
            | bl n => walk_at "go"; exact q0
            | str n => walk_at "go"; exact q0
            | non => walk_at "go"; exact q0
            | lst h => walk_at "go"; exact q0
            | tup h => walk_at "go"; exact q0
            | dict h => walk_at "go"; exact q0
        · have hw : w ≠ ("come" : Str) := fun e => h (by rw [e])
          have e0 : deedOk H (.str w :: x1 :: rest) = (nmV x1 && deedMore H w x1 rest) := by
            show (if w = ("come" : Str) then _ else _) = _
            rw [if_neg hw]
          rw [e0] at q
          walk_at "go"
          refine w_ixT (sqT ha) a1 ?_
          walk_at "go"
          refine k1.name fun H1 s1 => ?_
          walk_at "go"
          cases hn : nmV x1 with
          | false =>
            rw [hn] at q
            walk_at "go"
            exact q _ s1
          | true =>
            rw [hn, Bool.true_and] at q
            have q1 := q _ s1
            have ha1 := s1 _ _ ha
            walk_at "go"
            refine w_ixT (sqT ha1) a0 ?_
            walk_at "go"
            refine w_in (.inr (G.s_OF_ONE H1)) rfl (by decide +kernel) ?_
            have i1 : inV (.str w) [.str ("turn" : Str), .str ("fall" : Str), .str ("back" : Str), .str ("fresh" : Str), .str ("leave" : Str)] = decide (w ∈ ofOne) := inV_str w ofOne
            rw [i1]
            walk_at "go"
            refine if_2 (fun h1 => ?_) (fun h1 => ?_)
            · walk_at "go"
              cases rest with
              | nil =>
                have e1 : deedMore H w x1 [] = true := decide_eq_true h1
                rw [e1] at q1
                exact q1
              | cons y rest =>
                have e1 : deedMore H w x1 (y :: rest) = false := by
                  cases rest with
                  | nil =>
                    show (!decide (w ∈ ofOne) && _) = false
                    rw [decide_eq_true h1]; rfl
                  | cons z rest => rfl
                rw [e1] at q1
                rw [decide_eq_false fun e => by
                  have := V.int.inj e
                  rw [List.length_cons, List.length_cons, List.length_cons] at this
                  omega]
                exact q1
            · walk_at "go"
              match rest, kx, hl, q1, ha1, q with
              | [], _, _, q1, ha1, _ =>
                have e1 : deedMore H w x1 [] = false := decide_eq_false h1
                rw [e1] at q1
                walk_at "go"
                exact q1
              | y :: z :: rest, _, _, q1, ha1, _ =>
                refine if_n2 (fun h3 => ?_) (fun h3 => ?_)
                · walk_at "go"
                  exact q1
                · have := V.int.inj h3
                  rw [List.length_cons, List.length_cons, List.length_cons, List.length_cons] at this
                  omega
              | [x2], kx, _, q1, ha1, q =>
                have k2 := (kx x2 (.tail _ (.tail _ (.head _)))).same s1
                have a2 : atI [V.str w, x1, x2] 2 = some x2 := rfl
                have e1 : deedMore H w x1 [x2] = (if w ∈ ofNumbers then numsV H x2 else decide (w ∈ ofTwo) && (nmV x2 && !decide (x2 = x1))) := by
                  show (!decide (w ∈ ofOne) && _) = _
                  rw [decide_eq_false h1]; rfl
                rw [e1] at q
                walk_at "go"
                refine w_in (.inr (G.s_OF_NUMBERS H1)) rfl (by decide +kernel) ?_
                have i2 : inV (.str w) [.str ("set" : Str), .str ("join" : Str)] = decide (w ∈ ofNumbers) := inV_str w ofNumbers
                rw [i2]
                walk_at "go"
                refine if_2 (fun h4 => ?_) (fun h4 => ?_)
                · rw [if_pos h4] at q
                  walk_at "go"
                  refine k2.nums fun H2 s2 => ?_
                  rw [numsV_same (kx x2 (.tail _ (.tail _ (.head _)))).1 s1]
                  exact q _ (s1.trans s2)
                · rw [if_neg h4] at q
                  walk_at "go"
                  refine w_in (.inr (G.s_OF_TWO H1)) rfl (by decide +kernel) ?_
                  have i3 : inV (.str w) [.str ("tie" : Str), .str ("cut" : Str)] = decide (w ∈ ofTwo) := inV_str w ofTwo
                  rw [i3]
                  walk_at "go"
                  refine if_2 (fun h5 => ?_) (fun h5 => ?_)
                  · rw [decide_eq_true h5, Bool.true_and] at q
                    walk_at "go"
                    refine k2.name fun H2 s2 => ?_
                    have ha2 := s2 _ _ ha1
                    have q2 := q _ (s1.trans s2)
                    walk_at "go"
                    cases hn2 : nmV x2 with
                    | false =>
                      rw [hn2] at q2
                      walk_at "go"
                      exact q2
                    | true =>
                      rw [hn2, Bool.true_and] at q2
                      walk_at "go"
                      have sc : scal x2 x1 = true := by
                        cases x1 with
                        | str z1 =>
                          cases x2 with
                          | str z2 => rfl
                          | _ => cases hn2
                        | _ => cases hn
                      refine w_ne sc ?_
                      exact q2
                  · rw [decide_eq_false h5] at q
                    walk_at "go"
                    exact q _ s1
      | int n => walk_at "go"; exact stop rfl
      | bl n => walk_at "go"; exact stop rfl
      | non => walk_at "go"; exact stop rfl
      | lst h => walk_at "go"; exact stop rfl
      | tup h => walk_at "go"; exact stop rfl
      | dict h => walk_at "go"; exact stop rfl
  · unfold t_is_deed
    walk_at "go"
    refine k_tuple h ?_
    cases h with
    | tup h => exact absurd rfl hT
    | int n => walk_at "go"; exact q
    | bl n => walk_at "go"; exact q
    | str n => walk_at "go"; exact q
    | non => walk_at "go"; exact q
    | lst h => walk_at "go"; exact q
    | dict h => walk_at "go"; exact q

/-! ### promises of the law of deeds -/
def fiveK : List Str := ["word", "count"]
/-- the forms of a deed, and the sorts of their parts -/
inductive DeedF (H : Hp) : List V → List Str → Prop
  | come (k : Nat) : DeedF H [.str ("come" : Str), .int (k : Int)] ["word", "count"]
  | one {w n : Str} (hw : w ∈ ofOne) (hn : isNm n = true) : DeedF H [.str w, .str n] ["word", "name"]
  | nums {w n : Str} {p : Addr} {ns : List Int} (hw : w ∈ ofNumbers) (hn : isNm n = true) (hp : H p = some (.tup (ns.map V.int))) (h1 : 1 ≤ ns.length) (h3 : ns.length ≤ 3) (hf : ∀ x ∈ ns, farI x) : DeedF H [.str w, .str n, .ref p] ["word", "name", "numbers"]
  | two {w n m : Str} (hw : w ∈ ofTwo) (hn : isNm n = true) (hm : isNm m = true) (hne : n ≠ m) : DeedF H [.str w, .str n, .str m] ["word", "name", "name"]
def wordless : V → Bool
  | .str w => decide (w ≠ ("come" : Str)) && (decide (w ∉ ofOne) && (decide (w ∉ ofNumbers) && decide (w ∉ ofTwo)))
  | _ => true
structure OddV (H : Hp) (sort : Str) (v : V) : Prop where
  kd : Kd2 H v
  word : sort = ("word" : Str) → wordless v = true
  count : sort = ("count" : Str) → cntV v = false
  name : sort = ("name" : Str) → nmV v = false
  nums : sort = ("numbers" : Str) → numsV H v = false
def NotDeed (H : Hp) (v : V) : Prop := (∃ T, Kd H v T ∧ T ≠ "tuple") ∨ ∃ a ys, v = .ref a ∧ H a = some (.tup ys) ∧ (∀ y ∈ ys, Kd2 H y) ∧ ys.length ≤ 1000 ∧ deedOk H ys = false
def sorts4 : List Str := ["word", "count", "name", "numbers"]
def spDeed (K : PySem.W.Frag) : Sp := fun vs H Q _ => ∃ l, vs = [.ref l] ∧ Src H l ∧ ∀ t p s xs ss H', Dr l H H' → H' t = some (.tup [.ref p, .ref s]) → H' p = some (.tup xs) → H' s = some (.lst (ss.map V.str)) → s ≠ l → DeedF H' xs ss → Q (.ref t) H'
def spOdd (K : PySem.W.Frag) : Sp := fun vs H Q _ => ∃ l sort, vs = [.ref l, .str sort] ∧ Src H l ∧ sort ∈ sorts4 ∧ ∀ v H', Dr l H H' → OddV H' sort v → Q v H'
def spSpoilt (K : PySem.W.Frag) : Sp := fun vs H Q _ => ∃ l p s xs ss, vs = [.ref l, .ref p, .ref s] ∧ Src H l ∧ H p = some (.tup xs) ∧ H s = some (.lst (ss.map V.str)) ∧ s ≠ l ∧ DeedF H xs ss ∧ ∀ v H', Dr l H H' → NotDeed H' v → Q v H'
def spLaw (K : PySem.W.Frag) : Sp := fun vs H Q _ => ∃ (a : Addr) (ns : List Int), vs = [.ref a] ∧ SqL K H a (ns.map V.int) ∧ ns.length ≤ 63 ∧ ∀ H', Q (.bl true) H'

-- names: 0:_law_well_here 1:_law_word 2:_law_one 3:_law_other 4:_law_k
abbrev N_l_deed : List Str := ["_law_well_here", "_law_word", "_law_one", "_law_other", "_law_k"]
def t_l_deed (K : PySem.W.Frag) : TS :=
  (tSeq (tAsg (tCall spPick [] E0 (tCons (tVar 0) (tCons (tLst (tCons (tC (.str ("turn" : Str))) (tCons (tC (.str ("come" : Str))) (tCons (tC (.str ("fall" : Str))) (tCons (tC (.str ("back" : Str))) (tCons (tC (.str ("fresh" : Str))) (tCons (tC (.str ("set" : Str))) (tCons (tC (.str ("tie" : Str))) (tCons (tC (.str ("cut" : Str))) (tCons (tC (.str ("join" : Str))) (tCons (tC (.str ("leave" : Str))) tNil))))))))))) tNil))) (gName 1))
    (tSeq (tAsg (tCall spNames [] E0 (tCons (tVar 0) (tCons (tC (.int 2)) tNil))) (gUnl K 2 (gCons (gName 2) (gCons (gName 3) gNil))))
    (tSeq (tIfS (tTest (tOp rEq (tVar 1) (tC (.str ("come" : Str))))) (tSeq (tAsg (tOp (rIxL K) (tLst (tCons (tC (.int 0)) (tCons (tC (.int 1)) (tCons (tCall spDraw [] E0 (tCons (tVar 0) (tCons (tC (.int 300)) tNil))) (tCons (tCall spDraw [] E0 (tCons (tVar 0) (tCons (tOp rPowI (tC (.int 10)) (tC (.int 20))) tNil))) tNil))))) (tCall spDraw [] E0 (tCons (tVar 0) (tCons (tC (.int 4)) tNil)))) (gName 4))
      (tRet (tTup (tCons (tTup (tCons (tVar 1) (tCons (tVar 4) tNil))) (tCons (tLst (tCons (tC (.str ("word" : Str))) (tCons (tC (.str ("count" : Str))) tNil))) tNil))))) tNext)
    (tSeq (tIfS (tTest (tOp (rIn K false) (tVar 1) (tTup (tCons (tC (.str ("set" : Str))) (tCons (tC (.str ("join" : Str))) tNil))))) (tRet (tTup (tCons (tTup (tCons (tVar 1) (tCons (tVar 2) (tCons (tCall spNumbers [] E0 (tCons (tVar 0) (tCons (tOp rAddI (tC (.int 1)) (tCall spDraw [] E0 (tCons (tVar 0) (tCons (tC (.int 3)) tNil)))) tNil))) tNil)))) (tCons (tLst (tCons (tC (.str ("word" : Str))) (tCons (tC (.str ("name" : Str))) (tCons (tC (.str ("numbers" : Str))) tNil)))) tNil)))) tNext)
    (tSeq (tIfS (tTest (tOp (rIn K false) (tVar 1) (tTup (tCons (tC (.str ("tie" : Str))) (tCons (tC (.str ("cut" : Str))) tNil))))) (tRet (tTup (tCons (tTup (tCons (tVar 1) (tCons (tVar 2) (tCons (tVar 3) tNil)))) (tCons (tLst (tCons (tC (.str ("word" : Str))) (tCons (tC (.str ("name" : Str))) (tCons (tC (.str ("name" : Str))) tNil)))) tNil)))) tNext)
    (tRet (tTup (tCons (tTup (tCons (tVar 1) (tCons (tVar 2) tNil))) (tCons (tLst (tCons (tC (.str ("word" : Str))) (tCons (tC (.str ("name" : Str))) tNil))) tNil)))))))))

-- names: 0:_law_well_here 1:_law_sort 2:_law_some
abbrev N_l_odd : List Str := ["_law_well_here", "_law_sort", "_law_some"]
def t_l_odd (K : PySem.W.Frag) : TS :=
  (tSeq (tIfS (tTest (tOp rEq (tVar 1) (tC (.str ("word" : Str))))) (tSeq (tAsg (tLst (tCons (tC (.str ("Turn" : Str))) (tCons (tC (.str ("turns" : Str))) (tCons (tC (.str ("" : Str))) (tCons (tC (.str ("comes" : Str))) (tCons (tC .non) (tCons (tC (.int 0)) (tCons (tC (.str ("turn " : Str))) (tCons (tTup (tCons (tC (.str ("turn" : Str))) tNil)) (tCons (tLst (tCons (tC (.str ("turn" : Str))) tNil)) tNil)))))))))) (gName 2))
      (tRet (tCall spPick [] E0 (tCons (tVar 0) (tCons (tOp rCat (tVar 2) (tLst (tCons (tC (.str ("do" : Str))) (tCons (tC (.bl true)) tNil)))) tNil))))) tNext)
    (tSeq (tIfS (tTest (tOp rEq (tVar 1) (tC (.str ("count" : Str))))) (tRet (tCall spPick [] E0 (tCons (tVar 0) (tCons (tLst (tCons (tUn rNegI (tC (.int 1))) (tCons (tC (.bl true)) (tCons (tC (.bl false)) (tCons (tC .non) (tCons (tC (.str ("0" : Str))) (tCons (tC (.str ("a" : Str))) (tCons (tTup (tCons (tC (.int 0)) tNil)) (tCons (tLst (tCons (tC (.int 0)) tNil)) (tCons (tOp rSubI (tC (.int 0)) (tOp rPowI (tC (.int 10)) (tC (.int 9)))) tNil)))))))))) tNil)))) tNext)
    (tSeq (tIfS (tTest (tOp rEq (tVar 1) (tC (.str ("name" : Str))))) (tRet (tCall spPick [] E0 (tCons (tVar 0) (tCons (tLst (tCons (tC (.str ("" : Str))) (tCons (tC (.str ("A" : Str))) (tCons (tC (.str ("abcdefghi" : Str))) (tCons (tC (.str ("a b" : Str))) (tCons (tC (.str ("a1" : Str))) (tCons (tC .non) (tCons (tC (.int 5)) (tCons (tC (.bl true)) (tCons (tTup (tCons (tC (.str ("a" : Str))) tNil)) (tCons (tLst (tCons (tC (.str ("a" : Str))) tNil)) (tCons (tTup (tCons (tC (.int 1)) tNil)) tNil)))))))))))) tNil)))) tNext)
    (tSeq (tAsg (tLst (tCons (tTup tNil) (tCons (tTup (tCons (tC (.int 1)) (tCons (tC (.int 2)) (tCons (tC (.int 3)) (tCons (tC (.int 4)) tNil))))) (tCons (tTup (tCons (tOp rAddI (tOp rPowI (tC (.int 10)) (tC (.int 12))) (tC (.int 1))) tNil)) (tCons (tTup (tCons (tC (.int 0)) (tCons (tOp rSubI (tOp rSubI (tC (.int 0)) (tOp rPowI (tC (.int 10)) (tC (.int 12)))) (tC (.int 1))) tNil))) (tCons (tTup (tCons (tC (.bl true)) tNil)) (tCons (tTup (tCons (tC (.int 0)) (tCons (tC (.bl false)) tNil))) tNil))))))) (gName 2))
    (tRet (tCall spPick [] E0 (tCons (tVar 0) (tCons (tOp rCat (tVar 2) (tLst (tCons (tTup (tCons (tC .non) tNil)) (tCons (tTup (tCons (tC (.str ("1" : Str))) tNil)) (tCons (tLst (tCons (tC (.int 1)) tNil)) (tCons (tC (.int 1)) (tCons (tC (.str ("a" : Str))) (tCons (tC .non) tNil)))))))) tNil))))))))

-- names: 0:_law_well_here 1:_law_deed_here 2:_law_sorts 3:_law_way 4:_law_at
abbrev N_l_spoilt : List Str := ["_law_well_here", "_law_deed_here", "_law_sorts", "_law_way", "_law_at"]
def t_l_spoilt (K : PySem.W.Frag) : TS :=
  (tSeq (tAsg (tCall spDraw [] E0 (tCons (tVar 0) (tCons (tC (.int 8)) tNil))) (gName 3))
    (tSeq (tIfS (tTest (tOp rEq (tVar 3) (tC (.int 0)))) (tRet (tCall spPick [] E0 (tCons (tVar 0) (tCons (tLst (tCons (tCB (Evl.rListS K) (tCons (tVar 1) tNil)) (tCons (tSl (rSlA K) (tVar 1) tNoPart (tPart (tUn rNegI (tC (.int 1))))) (tCons (tOp (rCatA K) (tVar 1) (tTup (tCons (tC (.int 0)) tNil))) (tCons (tOp (rCatA K) (tVar 1) (tTup (tCons (tOp (rIxT K) (tVar 1) (tUn rNegI (tC (.int 1)))) tNil))) (tCons (tTup (tCons (tVar 1) tNil)) tNil)))))) tNil)))) tNext)
    (tSeq (tIfS (tAnd (tTest (tOp rEq (tVar 3) (tC (.int 1)))) (tTest (tOp (rIn K false) (tOp (rIxT K) (tVar 1) (tC (.int 0))) (tTup (tCons (tC (.str ("tie" : Str))) (tCons (tC (.str ("cut" : Str))) tNil)))))) (tRet (tOp (rCatA K) (tSl (rSlA K) (tVar 1) tNoPart (tPart (tC (.int 2)))) (tTup (tCons (tOp (rIxT K) (tVar 1) (tC (.int 1))) tNil)))) tNext)
    (tSeq (tAsg (tCall spDraw [] E0 (tCons (tVar 0) (tCons (tCB (Evl.rLenS K) (tCons (tVar 1) tNil)) tNil))) (gName 4))
    (tRet (tOp (rCatA K) (tOp (rCatA K) (tSl (rSlA K) (tVar 1) tNoPart (tPart (tVar 4))) (tTup (tCons (tCall (spOdd K) [] E0 (tCons (tVar 0) (tCons (tOp (rIxL K) (tVar 2) (tVar 4)) tNil))) tNil))) (tSl (rSlA K) (tVar 1) (tPart (tOp rAddI (tVar 4) (tC (.int 1)))) tNoPart)))))))

-- names: 0:_law_script 1:_law_cell 2:_law_well_here 3:_law_deed_here 4:_law_sorts 5:_law_bad 6:_law_thing
abbrev N_law : List Str := ["_law_script", "_law_cell", "_law_well_here", "_law_deed_here", "_law_sorts", "_law_bad", "_law_thing"]
def t_law (K : PySem.W.Frag) : TS :=
  (tSeq (tFor (iList K (tOp rCat (tLst (tCons (tCall (spCellAt K) [] E0 (tCons (tVar 0) (tCons (tC (.int 0)) tNil))) tNil)) (tSl (rSlL K) (tVar 0) (tPart (tC (.int 1))) (tPart (tC (.int 40)))))) (gName 1) (tSeq (tAsg (tCall spBegin [] E0 (tCons (tVar 1) tNil)) (gName 2))
      (tSeq (tAsg (tCall (spDeed K) [] E0 (tCons (tVar 2) tNil)) (gTup K 2 (gCons (gName 3) (gCons (gName 4) gNil))))
      (tSeq (tIfS (tOr (tTest (tOp rNotB (tCall spIsDeed [] E0 (tCons (tVar 3) tNil)) (tC (.bl true)))) (tTest (tOp rNotB (tCall spIsDeed [] E0 (tCons (tCB (rTupOf K) (tCons (tCB (Evl.rListS K) (tCons (tVar 3) tNil)) tNil)) tNil)) (tC (.bl true))))) (tRet (tC (.bl false))) tNext)
      (tSeq (tAsg (tCall (spSpoilt K) [] E0 (tCons (tVar 2) (tCons (tVar 3) (tCons (tVar 4) tNil)))) (gName 5))
      (tSeq (tIfS (tTest (tOp rNotB (tCall spIsDeed [] E0 (tCons (tVar 5) tNil)) (tC (.bl false)))) (tRet (tC (.bl false))) tNext)
      (tFor (iList K (tLst (tCons (tC .non) (tCons (tC (.bl true)) (tCons (tC (.int 0)) (tCons (tC (.str ("turn a" : Str))) (tCons (tTup tNil) (tCons (tLst tNil) (tCons tDNewK (tCons (tTup (tCons (tC (.str ("turn" : Str))) tNil)) (tCons (tC (.str ("turn" : Str))) (tCons (tTup (tCons (tC (.str ("a" : Str))) (tCons (tC (.str ("b" : Str))) tNil))) (tCons (tTup (tCons (tTup (tCons (tC (.str ("turn" : Str))) (tCons (tC (.str ("a" : Str))) tNil))) tNil)) tNil))))))))))))) (gName 6) (tIfS (tTest (tOp rNotB (tCall spIsDeed [] E0 (tCons (tVar 6) tNil)) (tC (.bl false)))) (tRet (tC (.bl false))) tNext))))))))
    (tRet (tAndV (tOp rIsB (tCall spIsDeed [] E0 (tCons (tTup (tCons (tC (.str ("leave" : Str))) (tCons (tC (.str ("leave" : Str))) tNil))) tNil)) (tC (.bl true))) (tOp rIsB (tCall spIsDeed [] E0 (tCons (tTup (tCons (tC (.str ("tie" : Str))) (tCons (tC (.str ("tie" : Str))) (tCons (tC (.str ("cut" : Str))) tNil)))) tNil)) (tC (.bl true))))))

theorem p_l_deed_len {K : PySem.W.Frag} {vs : List V} {H : Hp} {Q : VK} {E : XK} (h : spDeed K vs H Q E) : vs.length = 1 := by
  obtain ⟨v, rfl, _⟩ := h; rfl
theorem p_l_odd_len {K : PySem.W.Frag} {vs : List V} {H : Hp} {Q : VK} {E : XK} (h : spOdd K vs H Q E) : vs.length = 2 := by
  obtain ⟨v, s, rfl, _⟩ := h; rfl
theorem p_l_spoilt_len {K : PySem.W.Frag} {vs : List V} {H : Hp} {Q : VK} {E : XK} (h : spSpoilt K vs H Q E) : vs.length = 3 := by
  obtain ⟨l, p, s, xs, ss, rfl, _⟩ := h; rfl
theorem p_law_len {K : PySem.W.Frag} {vs : List V} {H : Hp} {Q : VK} {E : XK} (h : spLaw K vs H Q E) : vs.length = 1 := by
  obtain ⟨a, b, rfl, _⟩ := h; rfl
theorem nm_len {z : Str} (h : isNm z = true) : z.length ≤ 1000 := by
  unfold isNm at h
  simp at h
  omega
theorem of_len {w : Str} (h : w ∈ ofOne ∨ w ∈ ofNumbers ∨ w ∈ ofTwo) : w.length ≤ 1000 := by
  have a : ∀ w ∈ ofOne ++ (ofNumbers ++ ofTwo), w.length ≤ 1000 := by decide +kernel
  exact a w (List.mem_append.mpr (h.imp_right List.mem_append.mpr))
theorem nums_ok {ns : List Int} (h1 : 1 ≤ ns.length) (h3 : ns.length ≤ 3) (hf : ∀ x ∈ ns, farI x) : numsOk (ns.map V.int) = true := by
  unfold numsOk
  rw [List.length_map, decide_eq_true h1, decide_eq_true h3]
  show (ns.map V.int).all numI = true
  rw [List.all_eq_true]
  intro x hx
  obtain ⟨n, hn, rfl⟩ := List.mem_map.mp hx
  obtain ⟨a, b⟩ := hf n hn
  show (decide _ && decide _) = true
  rw [decide_eq_true a, decide_eq_true b]; rfl
theorem kds_ints {H : Hp} {ns : List Int} : Kds H (ns.map V.int) := fun x hx => by
  obtain ⟨n, _, rfl⟩ := List.mem_map.mp hx
  exact ⟨_, .int n⟩
theorem DeedF.kd {H : Hp} {xs : List V} {ss : List Str} (h : DeedF H xs ss) : ∀ x ∈ xs, Kd2 H x := by
  cases h with
  | come k =>
    intro x hx
    rcases List.mem_cons.mp hx with rfl | hx
    · exact .str (by decide +kernel)
    rcases List.mem_cons.mp hx with rfl | hx
    · exact .int _
    cases hx
  | one hw hn =>
    intro x hx
    rcases List.mem_cons.mp hx with rfl | hx
    · exact .str (of_len (.inl hw))
    rcases List.mem_cons.mp hx with rfl | hx
    · exact .str (nm_len hn)
    cases hx
  | nums hw hn hp =>
    intro x hx
    rcases List.mem_cons.mp hx with rfl | hx
    · exact .str (of_len (.inr (.inl hw)))
    rcases List.mem_cons.mp hx with rfl | hx
    · exact .str (nm_len hn)
    rcases List.mem_cons.mp hx with rfl | hx
    · exact .tup hp kds_ints
    cases hx
  | two hw hn hm =>
    intro x hx
    rcases List.mem_cons.mp hx with rfl | hx
    · exact .str (of_len (.inr (.inr hw)))
    rcases List.mem_cons.mp hx with rfl | hx
    · exact .str (nm_len hn)
    rcases List.mem_cons.mp hx with rfl | hx
    · exact .str (nm_len hm)
    cases hx
theorem DeedF.mono {H H' : Hp} {xs : List V} {ss : List Str} (h : DeedF H xs ss) (k : ∀ a ys, H a = some (.tup ys) → H' a = some (.tup ys)) : DeedF H' xs ss := by
  cases h with
  | come k => exact .come k
  | one hw hn => exact .one hw hn
  | nums hw hn hp h1 h3 hf => exact .nums hw hn (k _ _ hp) h1 h3 hf
  | two hw hn hm hne => exact .two hw hn hm hne
theorem DeedF.same {H H' : Hp} {xs : List V} {ss : List Str} (h : DeedF H xs ss) (s : Same H H') : DeedF H' xs ss := h.mono fun _ _ e => s _ _ e
theorem DeedF.dr {l : Addr} {H H' : Hp} {xs : List V} {ss : List Str} (h : DeedF H xs ss) (d : Dr l H H') : DeedF H' xs ss := h.mono fun _ _ e => d.tup e
theorem one_come : ∀ w ∈ ofOne, w ≠ ("come" : Str) ∧ w ∉ ofNumbers ∧ w ∉ ofTwo := by decide +kernel
theorem nums_come : ∀ w ∈ ofNumbers, w ≠ ("come" : Str) ∧ w ∉ ofOne ∧ w ∉ ofTwo := by decide +kernel
theorem two_come : ∀ w ∈ ofTwo, w ≠ ("come" : Str) ∧ w ∉ ofOne ∧ w ∉ ofNumbers := by decide +kernel
theorem ok_come {H : Hp} {x1 : V} {rest : List V} : deedOk H (.str ("come" : Str) :: x1 :: rest) = (rest.isEmpty && cntV x1) := by
  show (if ("come" : Str) = ("come" : Str) then (rest.isEmpty && cntV x1) else (nmV x1 && deedMore H ("come" : Str) x1 rest)) = _
  rw [if_pos rfl]
theorem ok_else {H : Hp} {w : Str} {x1 : V} {rest : List V} (hw : w ≠ ("come" : Str)) : deedOk H (.str w :: x1 :: rest) = (nmV x1 && deedMore H w x1 rest) := by
  show (if w = ("come" : Str) then _ else _) = _
  rw [if_neg hw]
theorem more2 {H : Hp} {w : Str} {x1 x2 : V} : deedMore H w x1 [x2] = (!decide (w ∈ ofOne) && (if w ∈ ofNumbers then numsV H x2 else decide (w ∈ ofTwo) && (nmV x2 && !decide (x2 = x1)))) := rfl
theorem numsV_at {H : Hp} {p : Addr} {xs : List V} (h : H p = some (.tup xs)) : numsV H (.ref p) = numsOk xs := by
  show (match H p with | some (.tup xs) => numsOk xs | _ => false) = _
  rw [h]
theorem DeedF.ok {H : Hp} {xs : List V} {ss : List Str} (h : DeedF H xs ss) : deedOk H xs = true := by
  cases h with
  | come k =>
    rw [ok_come]
    show (true && decide ((0 : Int) ≤ (k : Int))) = true
    rw [decide_eq_true (Int.natCast_nonneg k)]; rfl
  | one hw hn =>
    rw [ok_else (one_come _ hw).1]
    show (isNm _ && decide _) = true
    rw [hn, decide_eq_true hw]; rfl
  | nums hw hn hp h1 h3 hf =>
    obtain ⟨a, b, c⟩ := nums_come _ hw
    rw [ok_else a, more2, decide_eq_false b, if_pos hw, numsV_at hp, nums_ok h1 h3 hf]
    show (isNm _ && _) = true
    rw [hn]; rfl
  | @two w n m hw hn hm hne =>
    obtain ⟨a, b, c⟩ := two_come _ hw
    rw [ok_else a, more2, decide_eq_false b, if_neg c, decide_eq_true hw]
    show (isNm _ && (true && (true && (isNm _ && !decide (V.str m = V.str n))))) = true
    rw [hn, hm, decide_eq_false fun e => hne (V.str.inj e).symm]; rfl
theorem wordless_bad {H : Hp} {v : V} (h : wordless v = true) (rest : List V) : deedOk H (v :: rest) = false := by
  cases v with
  | str w =>
    have h' : (decide (w ≠ ("come" : Str)) && (decide (w ∉ ofOne) && (decide (w ∉ ofNumbers) && decide (w ∉ ofTwo)))) = true := h
    simp only [Bool.and_eq_true, decide_eq_true_eq] at h'
    obtain ⟨a, b, c, d⟩ := h'
    match rest with
    | [] => rfl
    | x1 :: rest =>
      rw [ok_else a]
      match rest with
      | [] =>
        show (_ && decide _) = false
        rw [decide_eq_false b, Bool.and_false]
      | [x2] =>
        rw [more2, if_neg c, decide_eq_false d]
        show (_ && (_ && false)) = false
        rw [Bool.and_false, Bool.and_false]
      | y :: z :: r => show (_ && false) = false; rw [Bool.and_false]
  | _ => cases rest <;> rfl
theorem DeedF.shape {H : Hp} {xs : List V} {ss : List Str} (h : DeedF H xs ss) : ∃ w x1 rest, xs = .str w :: x1 :: rest ∧ xs.length = ss.length ∧ 2 ≤ xs.length ∧ xs.length ≤ 3 ∧ ∀ s ∈ ss, s ∈ sorts4 := by
  cases h with
  | come k => exact ⟨_, _, _, rfl, rfl, by simp, by simp, by decide +kernel⟩
  | one hw hn => exact ⟨_, _, _, rfl, rfl, by simp, by simp, by decide +kernel⟩
  | nums hw hn hp h1 h3 hf => exact ⟨_, _, _, rfl, rfl, by simp, by simp, by decide +kernel⟩
  | two hw hn hm hne => exact ⟨_, _, _, rfl, rfl, by simp, by simp, by decide +kernel⟩
theorem DeedF.less {H H' : Hp} {xs : List V} {ss : List Str} (h : DeedF H xs ss) : deedOk H' xs.dropLast = false := by
  cases h with
  | come k => rfl
  | one hw hn => rfl
  | nums hw hn hp h1 h3 hf =>
    obtain ⟨a, b, c⟩ := nums_come _ hw
    show deedOk H' [_, _] = false
    rw [ok_else a]
    show (_ && decide _) = false
    rw [decide_eq_false b, Bool.and_false]
  | two hw hn hm hne =>
    obtain ⟨a, b, c⟩ := two_come _ hw
    show deedOk H' [_, _] = false
    rw [ok_else a]
    show (_ && decide _) = false
    rw [decide_eq_false b, Bool.and_false]
theorem DeedF.more {H H' : Hp} {xs : List V} {ss : List Str} (h : DeedF H xs ss) (x : V) : deedOk H' (xs ++ [x]) = false := by
  cases h with
  | come k => show deedOk H' (.str _ :: .int k :: [x]) = false; rw [ok_come]; rfl
  | one hw hn =>
    obtain ⟨a, b, c⟩ := one_come _ hw
    show deedOk H' (.str _ :: .str _ :: [x]) = false
    rw [ok_else a, more2, decide_eq_true hw]
    show (_ && false) = false
    rw [Bool.and_false]
  | nums hw hn hp h1 h3 hf =>
    show deedOk H' (.str _ :: .str _ :: [_, x]) = false
    rw [ok_else (nums_come _ hw).1]
    show (_ && false) = false
    rw [Bool.and_false]
  | two hw hn hm hne =>
    show deedOk H' (.str _ :: .str _ :: [_, x]) = false
    rw [ok_else (two_come _ hw).1]
    show (_ && false) = false
    rw [Bool.and_false]
theorem twice_bad {H : Hp} {w : Str} {x : V} (hw : w ∈ ofTwo) : deedOk H [.str w, x, x] = false := by
  obtain ⟨a, b, c⟩ := two_come _ hw
  rw [ok_else a, more2, decide_eq_false b, if_neg c, decide_eq_true rfl]
  show (_ && (true && (_ && (_ && false)))) = false
  rw [Bool.and_false, Bool.and_false, Bool.and_false, Bool.and_false]
theorem DeedF.odd {H H' : Hp} {xs : List V} {ss : List Str} (h : DeedF H xs ss) {i : Nat} {s : Str} {v : V} (hs : ss[i]? = some s) (o : OddV H' s v) : deedOk H' (xs.take i ++ [v] ++ xs.drop (i + 1)) = false := by
  cases h with
  | come k =>
    match i, hs with
    | 0, hs => cases hs; exact wordless_bad (o.word rfl) _
    | 1, hs =>
      cases hs
      show deedOk H' (.str _ :: v :: []) = false
      rw [ok_come, o.count rfl]; rfl
    | i + 2, hs => simp at hs
  | one hw hn =>
    match i, hs with
    | 0, hs => cases hs; exact wordless_bad (o.word rfl) _
    | 1, hs =>
      cases hs
      show deedOk H' (.str _ :: v :: []) = false
      rw [ok_else (one_come _ hw).1, o.name rfl]; rfl
    | i + 2, hs => simp at hs
  | nums hw hn hp h1 h3 hf =>
    obtain ⟨a, b, c⟩ := nums_come _ hw
    match i, hs with
    | 0, hs => cases hs; exact wordless_bad (o.word rfl) _
    | 1, hs =>
      cases hs
      show deedOk H' (.str _ :: v :: [_]) = false
      rw [ok_else a, o.name rfl]; rfl
    | 2, hs =>
      cases hs
      show deedOk H' (.str _ :: .str _ :: [v]) = false
      rw [ok_else a, more2, if_pos hw, o.nums rfl, Bool.and_false, Bool.and_false]
    | i + 3, hs => simp at hs
  | two hw hn hm hne =>
    obtain ⟨a, b, c⟩ := two_come _ hw
    match i, hs with
    | 0, hs => cases hs; exact wordless_bad (o.word rfl) _
    | 1, hs =>
      cases hs
      show deedOk H' (.str _ :: v :: [_]) = false
      rw [ok_else a, o.name rfl]; rfl
    | 2, hs =>
      cases hs
      show deedOk H' (.str _ :: .str _ :: [v]) = false
      rw [ok_else a, more2, if_neg c, o.name rfl]
      show (_ && (_ && (_ && false))) = false
      rw [Bool.and_false, Bool.and_false, Bool.and_false]
    | i + 3, hs => simp at hs
theorem NotDeed.call {H : Hp} {v : V} {Q : VK} (h : NotDeed H v) (q : ∀ H', Same H H' → Q (.bl false) H') : spIsDeed [v] H Q E0 := by
  rcases h with ⟨T, k, nt⟩ | ⟨a, ys, rfl, ha, ky, hl, e⟩
  · exact ⟨v, rfl, .inr ⟨T, k, nt, q _ (Same.refl _)⟩⟩
  · exact ⟨_, rfl, .inl ⟨a, ys, rfl, ha, ky, hl, fun H' s => by rw [e]; exact q H' s⟩⟩
/-! ### tuples put together, and parts of them -/
theorem cutV_all {xs : List V} {lo hi : Option Int} (h : HT.sIx xs.length 0 lo = 0 ∧ HT.sIx xs.length xs.length hi = xs.length) : cutV xs lo hi = xs := by
  unfold cutV
  rw [h.1, h.2, List.drop_zero]
  exact List.take_of_length_le (Nat.le_of_eq (Nat.sub_zero _).symm)
theorem w_slA {K : PySem.W.Frag} {H : Hp} {Q : VK} {a : Addr} {xs : List V} {lo hi : Option Int} (h : H a = some (.tup xs)) (q : ∀ p H', Same H H' → H' p = some (.tup (cutV xs lo hi)) → Q (.ref p) H') : rSlA K (.ref a) lo hi H Q := by
  refine ⟨a, xs, rfl, sqT h, fun e => ?_, fun _ p hp => q p _ (same_new hp) upd_same⟩
  exact q a H (Same.refl _) (by rw [cutV_all e]; exact h)
theorem w_catA {K : PySem.W.Frag} {H : Hp} {Q : VK} {a b : Addr} {xs ys : List V} (h : H a = some (.tup xs)) (h' : H b = some (.tup ys)) (hl : xs.length + ys.length ≤ 1000) (q : ∀ p H', Same H H' → H' p = some (.tup (xs ++ ys)) → Q (.ref p) H') : rCatA K (.ref a) (.ref b) H Q := by
  refine ⟨a, b, xs, ys, rfl, rfl, sqT h, sqT h', Nat.le_trans hl (by decide), fun e => ?_, fun _ e => ?_, fun _ _ p hp => q p _ (same_new hp) upd_same⟩
  · exact q b H (Same.refl _) (by rw [e]; exact h')
  · exact q a H (Same.refl _) (by rw [e, List.append_nil]; exact h)
theorem sIx_nat {n f d : Nat} (h : f ≤ n) : HT.sIx n d (some (f : Int)) = f := by
  unfold HT.sIx
  simp
  rw [if_neg (by omega)]
  omega
theorem cut_take {xs : List V} {f : Nat} (h : f ≤ xs.length) : cutV xs none (some (f : Int)) = xs.take f := by
  unfold cutV
  rw [sIx_nat h]
  rfl
theorem cut_drop {xs : List V} {f : Nat} (h : f ≤ xs.length) : cutV xs (some (f : Int)) none = xs.drop f := by
  unfold cutV
  rw [sIx_nat h]
  show (xs.drop f).take (xs.length - f) = _
  refine List.take_of_length_le ?_
  rw [List.length_drop]
  exact Nat.le_refl _
theorem cut_last {xs : List V} (h : 1 ≤ xs.length) : cutV xs none (some (-1)) = xs.dropLast := by
  unfold cutV
  have e : HT.sIx xs.length xs.length (some (-1)) = xs.length - 1 := by
    unfold HT.sIx
    simp
    omega
  rw [e, List.dropLast_eq_take]
  rfl

def tenL : List Str := ["turn", "come", "fall", "back", "fresh", "set", "tie", "cut", "join", "leave"]
theorem ten_rest : ∀ w ∈ tenL, w ≠ ("come" : Str) → w ∉ ofNumbers → w ∉ ofTwo → w ∈ ofOne := by decide +kernel
theorem p_l_deed {K : PySem.W.Frag} {vs : List V} {H : Hp} {Q : VK} {E : XK} (h : spDeed K vs H Q E) : t_l_deed K { nx := fun _ H' => Q .non H', rt := Q } (start N_l_deed vs) H := by
  obtain ⟨l, rfl, hs, q⟩ := h
  unfold t_l_deed
  walk_at "go"
  refine ⟨by show 10 ≤ sizeLine; decide, fun A hA => ?_⟩
  walk_at "go"
  refine ⟨l, A, tenL.map V.str, rfl, hs.new hA, upd_same, hs.ne_new hA, by decide, by decide, fun v H1 hv k1 => ?_⟩
  obtain ⟨w, hw, rfl⟩ := List.mem_map.mp hv
  have d1 := ((Dr.refl hs).new (o := .lst (tenL.map V.str)) hA).trans k1
  clear k1 hv hA
  walk_at "go"
  refine ⟨l, 2, rfl, d1.src, by decide, by decide, fun Z zs H2 k2 hZ nZ fZ lz nz dz => ?_⟩
  have d2 := d1.trans k2
  clear k2
  match zs, lz, nz, dz, hZ with
  | [n, m], _, nz, dz, hZ =>
  have hn := nz n (.head _)
  have hm := nz m (.tail _ (.head _))
  have hne : n ≠ m := fun e => by
    rw [e] at dz
    exact (List.nodup_cons.mp dz).1 (.head _)
  have hZ : H2 Z = some (.lst [.str n, .str m]) := hZ
  walk_at "go"
  refine if_2 (fun h => ?_) (fun h => ?_)
  · have hw : w = ("come" : Str) := V.str.inj h
    subst hw
    walk_at "go"
    refine ⟨l, 300, rfl, d2.src, by decide, by decide, fun a H3 a0 a1 k3 => ?_⟩
    walk_at "go"
    refine ⟨l, _, rfl, k3.src, by decide +kernel, by decide +kernel, fun b H4 b0 b1 k4 => ?_⟩
    have d4 := (d2.trans k3).trans k4
    walk_at "go"
    refine ⟨by show 4 ≤ sizeLine; decide, fun B hB => ?_⟩
    have nB := d4.src.ne_new hB
    have d5 := d4.new (o := .lst [.int 0, .int 1, .int a, .int b]) hB
    walk_at "go"
    refine ⟨l, 4, rfl, d5.src, by decide, by decide, fun g H6 g0 g1 k6 => ?_⟩
    have hB6 := k6.keep _ _ nB upd_same
    have d6 := d5.trans k6
    obtain ⟨k, hk⟩ : ∃ k : Nat, atI [V.int 0, .int 1, .int a, .int b] g = some (.int (k : Int)) := by
      obtain ⟨a, rfl⟩ := Int.eq_ofNat_of_zero_le a0
      obtain ⟨b, rfl⟩ := Int.eq_ofNat_of_zero_le b0
      rcases (by omega : g = 0 ∨ g = 1 ∨ g = 2 ∨ g = 3) with h | h | h | h <;> subst h
      · exact ⟨0, rfl⟩
      · exact ⟨1, rfl⟩
      · exact ⟨a, rfl⟩
      · exact ⟨b, rfl⟩
    refine w_ixL (sqL hB6) hk ?_
    walk_at "go"
    refine ⟨by show 2 ≤ sizeLine; decide, fun p hp => ?_⟩
    walk_at "go"
    refine ⟨by show 2 ≤ sizeLine; decide, fun s hs2 => ?_⟩
    walk_at "go"
    refine ⟨by show 2 ≤ sizeLine; decide, fun t ht => ?_⟩
    have d7 := d6.new (o := .tup [.str ("come" : Str), .int (k : Int)]) hp
    have ns := d7.src.ne_new hs2
    exact q t p s _ ["word", "count"] _ ((d7.new hs2).new ht) upd_same (keep (keep upd_same hs2) ht) (keep upd_same ht) ns (.come k)
  · have hc : w ≠ ("come" : Str) := fun e => h (by rw [e])
    walk_at "go"
    refine ⟨by show 2 ≤ sizeLine; decide, fun T1 hT1 => ?_⟩
    refine w_in (.inr (sqT upd_same)) rfl (by decide +kernel) ?_
    have i1 : inV (.str w) [.str ("set" : Str), .str ("join" : Str)] = decide (w ∈ ofNumbers) := inV_str w ofNumbers
    rw [i1]
    have d3 := d2.new (o := .tup [.str ("set" : Str), .str ("join" : Str)]) hT1
    generalize upd H2 T1 (.tup [.str ("set" : Str), .str ("join" : Str)]) = H3 at *
    walk_at "go"
    refine if_2 (fun h1 => ?_) (fun h1 => ?_)
    · walk_at "go"
      refine ⟨l, 3, rfl, d3.src, by decide, by decide, fun g H4 g0 g1 k4 => ?_⟩
      have d4 := d3.trans k4
      obtain ⟨gn, hgn⟩ := Int.eq_ofNat_of_zero_le (by omega : 0 ≤ 1 + g)
      walk_at "go"
      rw [hgn]
      refine ⟨l, gn, rfl, d4.src, by omega, fun pn ns H5 k5 hpn ln fn => ?_⟩
      have d5 := d4.trans k5
      walk_at "go"
      refine ⟨by show 3 ≤ sizeLine; decide, fun p hp => ?_⟩
      walk_at "go"
      refine ⟨by show 3 ≤ sizeLine; decide, fun s hs2 => ?_⟩
      walk_at "go"
      refine ⟨by show 2 ≤ sizeLine; decide, fun t ht => ?_⟩
      have d7 := d5.new (o := .tup [.str w, .str n, .ref pn]) hp
      have ns2 := d7.src.ne_new hs2
      exact q t p s _ ["word", "name", "numbers"] _ ((d7.new hs2).new ht) upd_same (keep (keep upd_same hs2) ht) (keep upd_same ht) ns2 (.nums h1 hn (keep (keep (keep hpn hp) hs2) ht) (by omega) (by omega) fn)
    · walk_at "go"
      refine ⟨by show 2 ≤ sizeLine; decide, fun T2 hT2 => ?_⟩
      refine w_in (.inr (sqT upd_same)) rfl (by decide +kernel) ?_
      have i2 : inV (.str w) [.str ("tie" : Str), .str ("cut" : Str)] = decide (w ∈ ofTwo) := inV_str w ofTwo
      rw [i2]
      have d4 := d3.new (o := .tup [.str ("tie" : Str), .str ("cut" : Str)]) hT2
      generalize upd H3 T2 (.tup [.str ("tie" : Str), .str ("cut" : Str)]) = H4 at *
      walk_at "go"
      refine if_2 (fun h2 => ?_) (fun h2 => ?_)
      · walk_at "go"
        refine ⟨by show 3 ≤ sizeLine; decide, fun p hp => ?_⟩
        walk_at "go"
        refine ⟨by show 3 ≤ sizeLine; decide, fun s hs2 => ?_⟩
        walk_at "go"
        refine ⟨by show 2 ≤ sizeLine; decide, fun t ht => ?_⟩
        have d7 := d4.new (o := .tup [.str w, .str n, .str m]) hp
        have ns2 := d7.src.ne_new hs2
        exact q t p s _ ["word", "name", "name"] _ ((d7.new hs2).new ht) upd_same (keep (keep upd_same hs2) ht) (keep upd_same ht) ns2 (.two h2 hn hm hne)
      · walk_at "go"
        refine ⟨by show 2 ≤ sizeLine; decide, fun p hp => ?_⟩
        walk_at "go"
        refine ⟨by show 2 ≤ sizeLine; decide, fun s hs2 => ?_⟩
        walk_at "go"
        refine ⟨by show 2 ≤ sizeLine; decide, fun t ht => ?_⟩
        have d7 := d4.new (o := .tup [.str w, .str n]) hp
        have ns2 := d7.src.ne_new hs2
        exact q t p s _ ["word", "name"] _ ((d7.new hs2).new ht) upd_same (keep (keep upd_same hs2) ht) (keep upd_same ht) ns2 (.one (ten_rest w hw hc h1 h2) hn)
theorem dec_str {z z' : Str} : decide (V.str z = V.str z') = decide (z = z') := decide_eq_decide.mpr ⟨fun e => V.str.inj e, fun e => by rw [e]⟩
/-- what a pick out of odd things gives -/
theorem odd_pick {H : Hp} {Q : VK} {l A : Addr} {xs : List V} (sort : Str) (hs : Src H l) (hA : H A = some (.lst xs)) (nA : A ≠ l) (hx : xs ≠ []) (hl : xs.length ≤ 1000) (hk : ∀ x ∈ xs, OddV H sort x) (q : ∀ v H', Dr l H H' → OddV H' sort v → Q v H') : spPick [.ref l, .ref A] H Q E0 :=
  ⟨l, A, xs, rfl, hs, hA, nA, hx, hl, fun v H' hv d => q v H' d (by
    obtain ⟨a, b, c, e, f⟩ := hk v hv
    exact ⟨a.dr d, b, c, e, fun z => by rw [numsV_dr a.1 d]; exact f z⟩)⟩
theorem OddV.of {H : Hp} {sort : Str} {v : V} (k : Kd2 H v) (i : Nat) (hi : sorts4[i]? = some sort) (h : match i with | 0 => wordless v = true | 1 => cntV v = false | 2 => nmV v = false | _ => numsV H v = false) : OddV H sort v := by
  match i, hi, h with
  | 0, hi, h => cases hi; exact ⟨k, fun _ => h, fun e => absurd e (by decide +kernel), fun e => absurd e (by decide +kernel), fun e => absurd e (by decide +kernel)⟩
  | 1, hi, h => cases hi; exact ⟨k, fun e => absurd e (by decide +kernel), fun _ => h, fun e => absurd e (by decide +kernel), fun e => absurd e (by decide +kernel)⟩
  | 2, hi, h => cases hi; exact ⟨k, fun e => absurd e (by decide +kernel), fun e => absurd e (by decide +kernel), fun _ => h, fun e => absurd e (by decide +kernel)⟩
  | 3, hi, h => cases hi; exact ⟨k, fun e => absurd e (by decide +kernel), fun e => absurd e (by decide +kernel), fun e => absurd e (by decide +kernel), fun _ => h⟩
  | i + 4, hi, h => simp [sorts4] at hi
theorem p_l_odd {K : PySem.W.Frag} {vs : List V} {H : Hp} {Q : VK} {E : XK} (h : spOdd K vs H Q E) : t_l_odd K { nx := fun _ H' => Q .non H', rt := Q } (start N_l_odd vs) H := by
  obtain ⟨l, sort, rfl, hs, h4, q⟩ := h
  have c9 : (10 : Int) ^ (9 : Int).toNat = 1000000000 := by decide
  have e12 : (10 : Int) ^ (12 : Int).toNat = 1000000000000 := by decide
  unfold t_l_odd
  have h4' : sort = ("word" : Str) ∨ sort = ("count" : Str) ∨ sort = ("name" : Str) ∨ sort = ("numbers" : Str) := by
    simpa [sorts4] using h4
  rcases h4' with rfl | rfl | rfl | rfl
  · -- word
    have q0 : ∀ v H', Dr l H H' → OddV H' ("word" : Str) v → Q v H' := q
    have wd : ∀ {H' : Hp} {v : V}, Kd2 H' v → wordless v = true → OddV H' ("word" : Str) v := fun k h => OddV.of k 0 rfl h
    walk_at "go"
    refine ⟨by show 1 ≤ sizeLine; decide, fun A1 h1 => ?_⟩
    walk_at "go"
    refine ⟨by show 1 ≤ sizeLine; decide, fun A2 h2 => ?_⟩
    walk_at "go"
    refine ⟨by show 9 ≤ sizeLine; decide, fun A3 h3 => ?_⟩
    walk_at "go"
    refine ⟨by show 2 ≤ sizeLine; decide, fun A4 h4 => ?_⟩
    refine w_cat (keep upd_same h4) upd_same (by show 11 ≤ sizeLine; decide) fun A5 h5 => ?_
    have d0 := ((((Dr.refl hs).new (o := .tup [.str ("turn" : Str)]) h1).new (o := .lst [.str ("turn" : Str)]) h2).new (o := .lst [.str ("Turn" : Str), .str ("turns" : Str), .str ("" : Str), .str ("comes" : Str), .non, .int 0, .str ("turn " : Str), .ref A1, .ref A2]) h3).new (o := .lst [.str ("do" : Str), .bl true]) h4
    have n5 := d0.src.ne_new h5
    have d1 := d0.new (o := .lst ([.str ("Turn" : Str), .str ("turns" : Str), .str ("" : Str), .str ("comes" : Str), .non, .int 0, .str ("turn " : Str), .ref A1, .ref A2] ++ [.str ("do" : Str), .bl true])) h5
    have t1 : Kd2 (upd (upd (upd (upd (upd H A1 (.tup [.str ("turn" : Str)])) A2 (.lst [.str ("turn" : Str)])) A3 (.lst [.str ("Turn" : Str), .str ("turns" : Str), .str ("" : Str), .str ("comes" : Str), .non, .int 0, .str ("turn " : Str), .ref A1, .ref A2])) A4 (.lst [.str ("do" : Str), .bl true])) A5 (.lst ([.str ("Turn" : Str), .str ("turns" : Str), .str ("" : Str), .str ("comes" : Str), .non, .int 0, .str ("turn " : Str), .ref A1, .ref A2] ++ [.str ("do" : Str), .bl true]))) (.ref A1) := .tup (keep (keep (keep (keep upd_same h2) h3) h4) h5) (fun x hx => by rw [List.mem_singleton.mp hx]; exact ⟨_, .str _⟩)
    have t2 : Kd2 (upd (upd (upd (upd (upd H A1 (.tup [.str ("turn" : Str)])) A2 (.lst [.str ("turn" : Str)])) A3 (.lst [.str ("Turn" : Str), .str ("turns" : Str), .str ("" : Str), .str ("comes" : Str), .non, .int 0, .str ("turn " : Str), .ref A1, .ref A2])) A4 (.lst [.str ("do" : Str), .bl true])) A5 (.lst ([.str ("Turn" : Str), .str ("turns" : Str), .str ("" : Str), .str ("comes" : Str), .non, .int 0, .str ("turn " : Str), .ref A1, .ref A2] ++ [.str ("do" : Str), .bl true]))) (.ref A2) := .lst (keep (keep (keep upd_same h3) h4) h5)
    refine w_nil (odd_pick ("word" : Str) d1.src upd_same n5 (by intro z; cases z) (by show 11 ≤ 1000; decide) ?_ fun v H' d o => q0 v H' (d1.trans d) o)
    generalize (upd (upd (upd (upd (upd H A1 (.tup [.str ("turn" : Str)])) A2 (.lst [.str ("turn" : Str)])) A3 (.lst [.str ("Turn" : Str), .str ("turns" : Str), .str ("" : Str), .str ("comes" : Str), .non, .int 0, .str ("turn " : Str), .ref A1, .ref A2])) A4 (.lst [.str ("do" : Str), .bl true])) A5 (.lst ([.str ("Turn" : Str), .str ("turns" : Str), .str ("" : Str), .str ("comes" : Str), .non, .int 0, .str ("turn " : Str), .ref A1, .ref A2] ++ [.str ("do" : Str), .bl true]))) = H6 at *
    intro x hx
    rcases List.mem_cons.mp hx with rfl | hx
    · exact wd (.str (by decide +kernel)) (by decide +kernel)
    rcases List.mem_cons.mp hx with rfl | hx
    · exact wd (.str (by decide +kernel)) (by decide +kernel)
    rcases List.mem_cons.mp hx with rfl | hx
    · exact wd (.str (by decide +kernel)) (by decide +kernel)
    rcases List.mem_cons.mp hx with rfl | hx
    · exact wd (.str (by decide +kernel)) (by decide +kernel)
    rcases List.mem_cons.mp hx with rfl | hx
    · exact wd .non rfl
    rcases List.mem_cons.mp hx with rfl | hx
    · exact wd (.int _) rfl
    rcases List.mem_cons.mp hx with rfl | hx
    · exact wd (.str (by decide +kernel)) (by decide +kernel)
    rcases List.mem_cons.mp hx with rfl | hx
    · exact wd t1 rfl
    rcases List.mem_cons.mp hx with rfl | hx
    · exact wd t2 rfl
    rcases List.mem_cons.mp hx with rfl | hx
    · exact wd (.str (by decide +kernel)) (by decide +kernel)
    rcases List.mem_cons.mp hx with rfl | hx
    · exact wd (.bl _) rfl
    cases hx
  · -- count
    have wd : ∀ {H' : Hp} {v : V}, Kd2 H' v → cntV v = false → OddV H' ("count" : Str) v := fun k h => OddV.of k 1 rfl h
    walk_at "go"
    refine ⟨by show 1 ≤ sizeLine; decide, fun A1 h1 => ?_⟩
    walk_at "go"
    refine ⟨by show 1 ≤ sizeLine; decide, fun A2 h2 => ?_⟩
    walk_at "go"
    refine ⟨by show 9 ≤ sizeLine; decide, fun A3 h3 => ?_⟩
    rw [c9]
    have d0 := ((Dr.refl hs).new (o := .tup [.int 0]) h1).new (o := .lst [.int 0]) h2
    have n3 := d0.src.ne_new h3
    have d1 := d0.new (o := .lst [.int (-1), .bl true, .bl false, .non, .str ("0" : Str), .str ("a" : Str), .ref A1, .ref A2, .int (0 - 1000000000)]) h3
    have t1 : Kd2 (upd (upd (upd H A1 (.tup [.int 0])) A2 (.lst [.int 0])) A3 (.lst [.int (-1), .bl true, .bl false, .non, .str ("0" : Str), .str ("a" : Str), .ref A1, .ref A2, .int (0 - 1000000000)])) (.ref A1) := .tup (keep (keep upd_same h2) h3) (fun x hx => by rw [List.mem_singleton.mp hx]; exact ⟨_, .int _⟩)
    have t2 : Kd2 (upd (upd (upd H A1 (.tup [.int 0])) A2 (.lst [.int 0])) A3 (.lst [.int (-1), .bl true, .bl false, .non, .str ("0" : Str), .str ("a" : Str), .ref A1, .ref A2, .int (0 - 1000000000)])) (.ref A2) := .lst (keep upd_same h3)
    refine w_nil (odd_pick ("count" : Str) d1.src upd_same n3 (by intro z; cases z) (by show 9 ≤ 1000; decide) ?_ fun v H' d o => q v H' (d1.trans d) o)
    generalize (upd (upd (upd H A1 (.tup [.int 0])) A2 (.lst [.int 0])) A3 (.lst [.int (-1), .bl true, .bl false, .non, .str ("0" : Str), .str ("a" : Str), .ref A1, .ref A2, .int (0 - 1000000000)])) = H6 at *
    intro x hx
    rcases List.mem_cons.mp hx with rfl | hx
    · exact wd (.int _) (by decide)
    rcases List.mem_cons.mp hx with rfl | hx
    · exact wd (.bl _) rfl
    rcases List.mem_cons.mp hx with rfl | hx
    · exact wd (.bl _) rfl
    rcases List.mem_cons.mp hx with rfl | hx
    · exact wd .non rfl
    rcases List.mem_cons.mp hx with rfl | hx
    · exact wd (.str (by decide +kernel)) rfl
    rcases List.mem_cons.mp hx with rfl | hx
    · exact wd (.str (by decide +kernel)) rfl
    rcases List.mem_cons.mp hx with rfl | hx
    · exact wd t1 rfl
    rcases List.mem_cons.mp hx with rfl | hx
    · exact wd t2 rfl
    rcases List.mem_cons.mp hx with rfl | hx
    · exact wd (.int _) (by decide)
    cases hx
  · -- name
    have wd : ∀ {H' : Hp} {v : V}, Kd2 H' v → nmV v = false → OddV H' ("name" : Str) v := fun k h => OddV.of k 2 rfl h
    walk_at "go"
    refine ⟨by show 1 ≤ sizeLine; decide, fun A1 h1 => ?_⟩
    walk_at "go"
    refine ⟨by show 1 ≤ sizeLine; decide, fun A2 h2 => ?_⟩
    walk_at "go"
    refine ⟨by show 1 ≤ sizeLine; decide, fun A4 h4 => ?_⟩
    walk_at "go"
    refine ⟨by show 11 ≤ sizeLine; decide, fun A3 h3 => ?_⟩
    have d0 := (((Dr.refl hs).new (o := .tup [.str ("a" : Str)]) h1).new (o := .lst [.str ("a" : Str)]) h2).new (o := .tup [.int 1]) h4
    have n3 := d0.src.ne_new h3
    have d1 := d0.new (o := .lst [.str ("" : Str), .str ("A" : Str), .str ("abcdefghi" : Str), .str ("a b" : Str), .str ("a1" : Str), .non, .int 5, .bl true, .ref A1, .ref A2, .ref A4]) h3
    have t1 : Kd2 (upd (upd (upd (upd H A1 (.tup [.str ("a" : Str)])) A2 (.lst [.str ("a" : Str)])) A4 (.tup [.int 1])) A3 (.lst [.str ("" : Str), .str ("A" : Str), .str ("abcdefghi" : Str), .str ("a b" : Str), .str ("a1" : Str), .non, .int 5, .bl true, .ref A1, .ref A2, .ref A4])) (.ref A1) := .tup (keep (keep (keep upd_same h2) h4) h3) (fun x hx => by rw [List.mem_singleton.mp hx]; exact ⟨_, .str _⟩)
    have t2 : Kd2 (upd (upd (upd (upd H A1 (.tup [.str ("a" : Str)])) A2 (.lst [.str ("a" : Str)])) A4 (.tup [.int 1])) A3 (.lst [.str ("" : Str), .str ("A" : Str), .str ("abcdefghi" : Str), .str ("a b" : Str), .str ("a1" : Str), .non, .int 5, .bl true, .ref A1, .ref A2, .ref A4])) (.ref A2) := .lst (keep (keep upd_same h4) h3)
    have t3 : Kd2 (upd (upd (upd (upd H A1 (.tup [.str ("a" : Str)])) A2 (.lst [.str ("a" : Str)])) A4 (.tup [.int 1])) A3 (.lst [.str ("" : Str), .str ("A" : Str), .str ("abcdefghi" : Str), .str ("a b" : Str), .str ("a1" : Str), .non, .int 5, .bl true, .ref A1, .ref A2, .ref A4])) (.ref A4) := .tup (keep upd_same h3) (fun x hx => by rw [List.mem_singleton.mp hx]; exact ⟨_, .int _⟩)
    refine w_nil (odd_pick ("name" : Str) d1.src upd_same n3 (by intro z; cases z) (by show 11 ≤ 1000; decide) ?_ fun v H' d o => q v H' (d1.trans d) o)
    generalize (upd (upd (upd (upd H A1 (.tup [.str ("a" : Str)])) A2 (.lst [.str ("a" : Str)])) A4 (.tup [.int 1])) A3 (.lst [.str ("" : Str), .str ("A" : Str), .str ("abcdefghi" : Str), .str ("a b" : Str), .str ("a1" : Str), .non, .int 5, .bl true, .ref A1, .ref A2, .ref A4])) = H6 at *
    intro x hx
    rcases List.mem_cons.mp hx with rfl | hx
    · exact wd (.str (by decide +kernel)) (by decide +kernel)
    rcases List.mem_cons.mp hx with rfl | hx
    · exact wd (.str (by decide +kernel)) (by decide +kernel)
    rcases List.mem_cons.mp hx with rfl | hx
    · exact wd (.str (by decide +kernel)) (by decide +kernel)
    rcases List.mem_cons.mp hx with rfl | hx
    · exact wd (.str (by decide +kernel)) (by decide +kernel)
    rcases List.mem_cons.mp hx with rfl | hx
    · exact wd (.str (by decide +kernel)) (by decide +kernel)
    rcases List.mem_cons.mp hx with rfl | hx
    · exact wd .non rfl
    rcases List.mem_cons.mp hx with rfl | hx
    · exact wd (.int _) rfl
    rcases List.mem_cons.mp hx with rfl | hx
    · exact wd (.bl _) rfl
    rcases List.mem_cons.mp hx with rfl | hx
    · exact wd t1 rfl
    rcases List.mem_cons.mp hx with rfl | hx
    · exact wd t2 rfl
    rcases List.mem_cons.mp hx with rfl | hx
    · exact wd t3 rfl
    cases hx
  · -- numbers
    have wd : ∀ {H' : Hp} {v : V}, Kd2 H' v → numsV H' v = false → OddV H' ("numbers" : Str) v := fun k h => OddV.of k 3 rfl h
    walk_at "go"
    have tp : ∀ {H' : Hp} {a : Addr} {ys : List V}, H' a = some (.tup ys) → (∀ y ∈ ys, (∃ n, y = V.int n) ∨ (∃ b, y = V.bl b) ∨ y = .non ∨ ∃ z, y = V.str z) → numsOk ys = false → Kd2 H' (.ref a) ∧ numsV H' (.ref a) = false := fun h hy e => ⟨.tup h (fun y my => by
      rcases hy y my with ⟨n, rfl⟩ | ⟨b, rfl⟩ | rfl | ⟨z, rfl⟩
      · exact ⟨_, .int n⟩
      · exact ⟨_, .bl b⟩
      · exact ⟨_, .non⟩
      · exact ⟨_, .str z⟩), by rw [numsV_at h]; exact e⟩
    refine ⟨by show 0 ≤ sizeLine; decide, fun A1 h1 => ?_⟩
    have w1 := tp (H' := upd H A1 (.tup [])) (a := A1) upd_same (fun y my => by cases my) rfl
    have d1 := (Dr.refl hs).new (o := .tup []) h1
    generalize upd H A1 (.tup []) = H1 at *
    walk_at "go"
    refine ⟨by show 4 ≤ sizeLine; decide, fun A2 h2 => ?_⟩
    have s2 := same_new (u := .tup [.int 1, .int 2, .int 3, .int 4]) h2
    have w2 := tp (H' := upd H1 A2 (.tup [.int 1, .int 2, .int 3, .int 4])) (a := A2) upd_same (fun y my => by
      simp only [List.mem_cons, List.not_mem_nil, or_false] at my
      rcases my with rfl | rfl | rfl | rfl <;> exact .inl ⟨_, rfl⟩) rfl
    have d2 := d1.new (o := .tup [.int 1, .int 2, .int 3, .int 4]) h2
    generalize upd H1 A2 (.tup [.int 1, .int 2, .int 3, .int 4]) = H2 at *
    walk_at "go"
    rw [e12]
    refine ⟨by show 1 ≤ sizeLine; decide, fun A3 h3 => ?_⟩
    have s3 := same_new (u := .tup [.int (1000000000000 + 1)]) h3
    have w3 := tp (H' := upd H2 A3 (.tup [.int (1000000000000 + 1)])) (a := A3) upd_same (fun y my => by
      rw [List.mem_singleton.mp my]; exact .inl ⟨_, rfl⟩) (by decide)
    have d3 := d2.new (o := .tup [.int (1000000000000 + 1)]) h3
    generalize upd H2 A3 (.tup [.int (1000000000000 + 1)]) = H3 at *
    walk_at "go"
    rw [e12]
    refine ⟨by show 2 ≤ sizeLine; decide, fun A4 h4 => ?_⟩
    have s4 := same_new (u := .tup [.int 0, .int (0 - 1000000000000 - 1)]) h4
    have w4 := tp (H' := upd H3 A4 (.tup [.int 0, .int (0 - 1000000000000 - 1)])) (a := A4) upd_same (fun y my => by
      simp only [List.mem_cons, List.not_mem_nil, or_false] at my
      rcases my with rfl | rfl <;> exact .inl ⟨_, rfl⟩) (by decide)
    have d4 := d3.new (o := .tup [.int 0, .int (0 - 1000000000000 - 1)]) h4
    generalize upd H3 A4 (.tup [.int 0, .int (0 - 1000000000000 - 1)]) = H4 at *
    walk_at "go"
    refine ⟨by show 1 ≤ sizeLine; decide, fun A5 h5 => ?_⟩
    have s5 := same_new (u := .tup [.bl true]) h5
    have w5 := tp (H' := upd H4 A5 (.tup [.bl true])) (a := A5) upd_same (fun y my => by
      rw [List.mem_singleton.mp my]; exact .inr (.inl ⟨_, rfl⟩)) rfl
    have d5 := d4.new (o := .tup [.bl true]) h5
    generalize upd H4 A5 (.tup [.bl true]) = H5 at *
    walk_at "go"
    refine ⟨by show 2 ≤ sizeLine; decide, fun A6 h6 => ?_⟩
    have s6 := same_new (u := .tup [.int 0, .bl false]) h6
    have w6 := tp (H' := upd H5 A6 (.tup [.int 0, .bl false])) (a := A6) upd_same (fun y my => by
      simp only [List.mem_cons, List.not_mem_nil, or_false] at my
      rcases my with rfl | rfl
      · exact .inl ⟨_, rfl⟩
      · exact .inr (.inl ⟨_, rfl⟩)) (by decide)
    have d6 := d5.new (o := .tup [.int 0, .bl false]) h6
    generalize upd H5 A6 (.tup [.int 0, .bl false]) = H6 at *
    walk_at "go"
    refine ⟨by show 6 ≤ sizeLine; decide, fun A7 h7 => ?_⟩
    have s7 := same_new (u := .lst [.ref A1, .ref A2, .ref A3, .ref A4, .ref A5, .ref A6]) h7
    have d7 := d6.new (o := .lst [.ref A1, .ref A2, .ref A3, .ref A4, .ref A5, .ref A6]) h7
    have g7 : (upd H6 A7 (.lst [.ref A1, .ref A2, .ref A3, .ref A4, .ref A5, .ref A6])) A7 = _ := upd_same
    generalize upd H6 A7 (.lst [.ref A1, .ref A2, .ref A3, .ref A4, .ref A5, .ref A6]) = H7 at *
    walk_at "go"
    refine ⟨by show 1 ≤ sizeLine; decide, fun B1 b1 => ?_⟩
    have t1 := same_new (u := .tup [.non]) b1
    have v1 := tp (H' := upd H7 B1 (.tup [.non])) (a := B1) upd_same (fun y my => by
      rw [List.mem_singleton.mp my]; exact .inr (.inr (.inl rfl))) rfl
    have d8 := d7.new (o := .tup [.non]) b1
    generalize upd H7 B1 (.tup [.non]) = H8 at *
    walk_at "go"
    refine ⟨by show 1 ≤ sizeLine; decide, fun B2 b2 => ?_⟩
    have t2 := same_new (u := .tup [.str ("1" : Str)]) b2
    have v2 := tp (H' := upd H8 B2 (.tup [.str ("1" : Str)])) (a := B2) upd_same (fun y my => by
      rw [List.mem_singleton.mp my]; exact .inr (.inr (.inr ⟨_, rfl⟩))) rfl
    have d9 := d8.new (o := .tup [.str ("1" : Str)]) b2
    generalize upd H8 B2 (.tup [.str ("1" : Str)]) = H9 at *
    walk_at "go"
    refine ⟨by show 1 ≤ sizeLine; decide, fun B3 b3 => ?_⟩
    have t3 := same_new (u := .lst [.int 1]) b3
    have v3 : Kd2 (upd H9 B3 (.lst [.int 1])) (.ref B3) ∧ numsV (upd H9 B3 (.lst [.int 1])) (.ref B3) = false := ⟨.lst upd_same, by
      show (match (upd H9 B3 (.lst [.int 1])) B3 with | some (.tup xs) => numsOk xs | _ => false) = _
      rw [upd_same]⟩
    have d10 := d9.new (o := .lst [.int 1]) b3
    generalize upd H9 B3 (.lst [.int 1]) = H10 at *
    walk_at "go"
    refine ⟨by show 6 ≤ sizeLine; decide, fun B4 b4 => ?_⟩
    refine w_cat (keep (t3 _ _ (t2 _ _ (t1 _ _ g7))) b4) upd_same (by show 12 ≤ sizeLine; decide) fun C hC => ?_
    have d11 := d10.new (o := .lst [.ref B1, .ref B2, .ref B3, .int 1, .str ("a" : Str), .non]) b4
    have nC := d11.src.ne_new hC
    have d12 := d11.new (o := .lst ([.ref A1, .ref A2, .ref A3, .ref A4, .ref A5, .ref A6] ++ [.ref B1, .ref B2, .ref B3, .int 1, .str ("a" : Str), .non])) hC
    have sE : Same H10 (upd (upd H10 B4 (.lst [.ref B1, .ref B2, .ref B3, .int 1, .str ("a" : Str), .non])) C (.lst ([.ref A1, .ref A2, .ref A3, .ref A4, .ref A5, .ref A6] ++ [.ref B1, .ref B2, .ref B3, .int 1, .str ("a" : Str), .non]))) := same_in (same_new b4) hC
    refine w_nil (odd_pick ("numbers" : Str) d12.src upd_same nC (by intro z; cases z) (by show 12 ≤ 1000; decide) ?_ fun v H' d o => q v H' (d12.trans d) o)
    generalize (upd (upd H10 B4 (.lst [.ref B1, .ref B2, .ref B3, .int 1, .str ("a" : Str), .non])) C (.lst ([.ref A1, .ref A2, .ref A3, .ref A4, .ref A5, .ref A6] ++ [.ref B1, .ref B2, .ref B3, .int 1, .str ("a" : Str), .non]))) = HE at *
    have up : ∀ {Ha : Hp} {v : V}, Kd2 Ha v ∧ numsV Ha v = false → Same Ha HE → OddV HE ("numbers" : Str) v := fun w s => wd (w.1.same s) (by rw [numsV_same w.1.1 s]; exact w.2)
    have u9 := t3.trans sE
    have u8 := t2.trans u9
    have u7 := t1.trans u8
    have u6 := s7.trans u7
    have u5 := s6.trans u6
    have u4 := s5.trans u5
    have u3 := s4.trans u4
    have u2 := s3.trans u3
    have u1 := s2.trans u2
    intro x hx
    rcases List.mem_cons.mp hx with rfl | hx
    · exact up w1 u1
    rcases List.mem_cons.mp hx with rfl | hx
    · exact up w2 u2
    rcases List.mem_cons.mp hx with rfl | hx
    · exact up w3 u3
    rcases List.mem_cons.mp hx with rfl | hx
    · exact up w4 u4
    rcases List.mem_cons.mp hx with rfl | hx
    · exact up w5 u5
    rcases List.mem_cons.mp hx with rfl | hx
    · exact up w6 u6
    rcases List.mem_cons.mp hx with rfl | hx
    · exact up v1 u8
    rcases List.mem_cons.mp hx with rfl | hx
    · exact up v2 u9
    rcases List.mem_cons.mp hx with rfl | hx
    · exact up v3 sE
    rcases List.mem_cons.mp hx with rfl | hx
    · exact wd (.int _) rfl
    rcases List.mem_cons.mp hx with rfl | hx
    · exact wd (.str (by decide +kernel)) rfl
    rcases List.mem_cons.mp hx with rfl | hx
    · exact wd .non rfl
    cases hx

theorem NotDeed.dr {l : Addr} {H H' : Hp} {v : V} (h : NotDeed H v) (d : Dr l H H') (e : ∀ ys, deedOk H ys = false → (∀ y ∈ ys, Kd2 H y) → deedOk H' ys = false) : NotDeed H' v := by
  rcases h with ⟨T, k, nt⟩ | ⟨a, ys, rfl, ha, ky, hl, f⟩
  · exact .inl ⟨T, k.dr d, nt⟩
  · exact .inr ⟨a, ys, rfl, d.tup ha, fun y hy => (ky y hy).dr d, hl, e ys f ky⟩
theorem deedOk_dr {l : Addr} {H H' : Hp} (d : Dr l H H') : ∀ ys : List V, deedOk H ys = false → (∀ y ∈ ys, Kd2 H y) → deedOk H' ys = false
  | [], _, _ => rfl
  | [x], _, _ => by cases x <;> rfl
  | x0 :: x1 :: rest, h, hk => by
    cases x0 with
    | str w =>
      by_cases hw : w = ("come" : Str)
      · subst hw
        rw [ok_come] at h ⊢
        exact h
      · rw [ok_else hw] at h ⊢
        match rest, h, hk with
        | [], h, _ => exact h
        | [x2], h, hk =>
          rw [more2] at h ⊢
          rw [numsV_dr (hk x2 (.tail _ (.tail _ (.head _)))).1 d]
          exact h
        | y :: z :: r, h, _ => exact h
    | _ => rfl
theorem p_l_spoilt {K : PySem.W.Frag} {vs : List V} {H : Hp} {Q : VK} {E : XK} (h : spSpoilt K vs H Q E) : t_l_spoilt K { nx := fun _ H' => Q .non H', rt := Q } (start N_l_spoilt vs) H := by
  obtain ⟨l, p, s, xs, ss, rfl, hs, hp, hss, nsl, F, q⟩ := h
  obtain ⟨w, x1, rest, ex, el, l2, l3, s4⟩ := F.shape
  have kx := F.kd
  unfold t_l_spoilt
  walk_at "go"
  refine ⟨l, 8, rfl, hs, by decide, by decide, fun way H1 a0 a1 d1 => ?_⟩
  have hp1 := d1.tup hp
  have F1 := F.dr d1
  have kx1 : ∀ x ∈ xs, Kd2 H1 x := fun x hx => (kx x hx).dr d1
  have hss1 := d1.keep _ _ nsl hss
  walk_at "go"
  refine if_2 (fun h => ?_) (fun h => ?_)
  · walk_at "go"
    refine w_listT (sqT hp1) fun A1 h1 => ?_
    have t1 := same_new (u := .lst xs) h1
    have n1 : NotDeed (upd H1 A1 (.lst xs)) (.ref A1) := .inl ⟨"list", .lst upd_same, by decide⟩
    have d2 := d1.new (o := .lst xs) h1
    generalize upd H1 A1 (.lst xs) = H2 at *
    have hp2 := t1 _ _ hp1
    walk_at "go"
    refine w_slA hp2 fun A2 H3 t2 g2 => ?_
    rw [cut_last (by omega)] at g2
    have n2 : NotDeed H3 (.ref A2) := .inr ⟨A2, _, rfl, g2, fun y hy => ((kx1 y (List.dropLast_subset _ hy)).same t1).same t2, by rw [List.length_dropLast]; omega, F.less⟩
    have hp3 := t2 _ _ hp2
    walk_at "go"
    refine ⟨by show 1 ≤ sizeLine; decide, fun Z hZ => ?_⟩
    have t3 := same_new (u := .tup [.int 0]) hZ
    have gZ : (upd H3 Z (.tup [.int 0])) Z = some (.tup [.int 0]) := upd_same
    generalize upd H3 Z (.tup [.int 0]) = H4 at *
    have hp4 := t3 _ _ hp3
    refine w_catA hp4 gZ (by show xs.length + 1 ≤ 1000; omega) fun A3 H5 t4 g3 => ?_
    have s15 := ((t1.trans t2).trans t3).trans t4
    have n3 : NotDeed H5 (.ref A3) := .inr ⟨A3, _, rfl, g3, fun y hy => by
      rcases List.mem_append.mp hy with h | h
      · exact (kx1 y h).same s15
      · rw [List.mem_singleton.mp h]; exact .int _, by rw [List.length_append]; show xs.length + 1 ≤ 1000; omega, F.more _⟩
    have hp5 := t4 _ _ hp4
    walk_at "go"
    obtain ⟨xl, hxl⟩ : ∃ xl, xs[xs.length - 1]? = some xl := ⟨_, List.getElem?_eq_getElem (by omega)⟩
    have al : atI xs (-1) = some xl := by
      unfold atI ixN
      rw [if_neg (by omega), if_pos (by omega)]
      show xs[((-1 : Int) + xs.length).toNat]? = some xl
      rw [show ((-1 : Int) + xs.length).toNat = xs.length - 1 by omega]
      exact hxl
    refine w_ixT (sqT hp5) al ?_
    walk_at "go"
    refine ⟨by show 1 ≤ sizeLine; decide, fun Y hY => ?_⟩
    have t5 := same_new (u := .tup [xl]) hY
    have gY : (upd H5 Y (.tup [xl])) Y = some (.tup [xl]) := upd_same
    generalize upd H5 Y (.tup [xl]) = H6 at *
    have hp6 := t5 _ _ hp5
    refine w_catA hp6 gY (by show xs.length + 1 ≤ 1000; omega) fun A4 H7 t6 g4 => ?_
    have s17 := (s15.trans t5).trans t6
    have n4 : NotDeed H7 (.ref A4) := .inr ⟨A4, _, rfl, g4, fun y hy => by
      rcases List.mem_append.mp hy with h | h
      · exact (kx1 y h).same s17
      · rw [List.mem_singleton.mp h]; exact (kx1 xl (List.mem_of_getElem? hxl)).same s17, by rw [List.length_append]; show xs.length + 1 ≤ 1000; omega, F.more _⟩
    have hp7 := t6 _ _ hp6
    walk_at "go"
    refine ⟨by show 1 ≤ sizeLine; decide, fun A5 h5 => ?_⟩
    have t7 := same_new (u := .tup [.ref p]) h5
    have n5 : NotDeed (upd H7 A5 (.tup [.ref p])) (.ref A5) := .inr ⟨A5, [.ref p], rfl, upd_same, fun y hy => by
      rw [List.mem_singleton.mp hy]
      exact .tup (keep hp7 h5) (Kd2.kds fun x hx => (kx1 x hx).same (s17.trans t7)), by show 1 ≤ 1000; decide, rfl⟩
    have d8 := d1.trans (Dr.same d1.src (s17.trans t7))
    generalize upd H7 A5 (.tup [.ref p]) = H8 at *
    walk_at "go"
    refine ⟨by show 5 ≤ sizeLine; decide, fun B hB => ?_⟩
    have nB := d8.src.ne_new hB
    have d9 := d8.new (o := .lst [.ref A1, .ref A2, .ref A3, .ref A4, .ref A5]) hB
    walk_at "go"
    refine ⟨l, B, _, rfl, d9.src, upd_same, nB, (by intro z; cases z), by show 5 ≤ 1000; decide, fun v H10 hv k10 => ?_⟩
    have fin : ∀ {Ha : Hp} {v : V}, NotDeed Ha v → Same Ha H8 → NotDeed H10 v := fun {Ha v} n sm => by
      have z1 : NotDeed H8 v := by
        rcases n with ⟨T, k, nt⟩ | ⟨a, ys, rfl, ha, ky, hl, f⟩
        · exact .inl ⟨T, k.same sm, nt⟩
        · refine .inr ⟨a, ys, rfl, sm _ _ ha, fun y hy => (ky y hy).same sm, hl, ?_⟩
          match ys, f, ky with
          | [], _, _ => rfl
          | [x], _, _ => cases x <;> rfl
          | x0 :: y1 :: rs, f, ky =>
            cases x0 with
            | str w =>
              by_cases hw : w = ("come" : Str)
              · subst hw
                rw [ok_come] at f ⊢
                exact f
              · rw [ok_else hw] at f ⊢
                match rs, f, ky with
                | [], f, _ => exact f
                | [x2], f, ky =>
                  rw [more2] at f ⊢
                  rw [numsV_same (ky x2 (.tail _ (.tail _ (.head _)))).1 sm]
                  exact f
                | y :: z :: r, f, _ => exact f
            | _ => rfl
      have z2 : NotDeed (upd H8 B (.lst [.ref A1, .ref A2, .ref A3, .ref A4, .ref A5])) v := z1.dr (Dr.same d8.src (same_new hB)) (deedOk_dr (Dr.same d8.src (same_new hB)))
      exact z2.dr k10 (deedOk_dr k10)
    refine q v H10 (d9.trans k10) ?_
    rcases List.mem_cons.mp hv with rfl | hv
    · exact fin n1 ((((((t2.trans t3).trans t4).trans t5).trans t6).trans t7))
    rcases List.mem_cons.mp hv with rfl | hv
    · exact fin n2 (((((t3).trans t4).trans t5).trans t6).trans t7)
    rcases List.mem_cons.mp hv with rfl | hv
    · exact fin n3 ((t5.trans t6).trans t7)
    rcases List.mem_cons.mp hv with rfl | hv
    · exact fin n4 t7
    rcases List.mem_cons.mp hv with rfl | hv
    · exact fin n5 (Same.refl _)
    cases hv
  · have hrest : ∀ H2, Same H1 H2 → (tSeq (tAsg (tCall spDraw [] E0 (tCons (tVar 0) (tCons (tCB (Evl.rLenS K) (tCons (tVar 1) tNil)) tNil))) (gName 4))
    (tRet (tOp (rCatA K) (tOp (rCatA K) (tSl (rSlA K) (tVar 1) tNoPart (tPart (tVar 4))) (tTup (tCons (tCall (spOdd K) [] E0 (tCons (tVar 0) (tCons (tOp (rIxL K) (tVar 2) (tVar 4)) tNil))) tNil))) (tSl (rSlA K) (tVar 1) (tPart (tOp rAddI (tVar 4) (tC (.int 1)))) tNoPart)))) { nx := fun _ H' => Q .non H', rt := Q } [some (.ref l), some (.ref p), some (.ref s), some (.int way), none] H2 := by
      intro H2 s2
      have d2 := d1.trans (Dr.same d1.src s2)
      have hp2 := s2 _ _ hp1
      have hss2 := s2 _ _ hss1
      have F2 := F1.same s2
      walk_at "go"
      refine ⟨l, _, rfl, d2.src, by omega, Nat.lt_of_le_of_lt (by omega : _ ≤ 100) (by decide), fun at_ H3 g0 g1 k3 => ?_⟩
      obtain ⟨i, rfl⟩ := Int.eq_ofNat_of_zero_le g0
      have d3 := d2.trans k3
      have hp3 := k3.tup hp2
      have hss3 := k3.keep _ _ nsl hss2
      have F3 := F2.dr k3
      have hi : i < xs.length := by omega
      walk_at "go"
      refine w_slA hp3 fun P1 H4 t4 g4 => ?_
      rw [cut_take (by omega)] at g4
      have hss4 := t4 _ _ hss3
      obtain ⟨so, hso⟩ : ∃ so, ss[i]? = some so := ⟨_, List.getElem?_eq_getElem (by omega)⟩
      have d4 := d3.trans (Dr.same d3.src t4)
      walk_at "go"
      refine w_ixL (sqL hss4) (atI_nat (by rw [List.getElem?_map, hso]; rfl)) ?_
      walk_at "go"
      refine ⟨l, so, rfl, d4.src, s4 so (List.mem_of_getElem? hso), fun v H5 k5 ov => ?_⟩
      have d5 := d4.trans k5
      have g5 := k5.tup g4
      have hp5 := k5.tup (t4 _ _ hp3)
      walk_at "go"
      refine ⟨by show 1 ≤ sizeLine; decide, fun P2 hP2 => ?_⟩
      have t6 := same_new (u := .tup [v]) hP2
      have gP : (upd H5 P2 (.tup [v])) P2 = some (.tup [v]) := upd_same
      generalize upd H5 P2 (.tup [v]) = H6 at *
      refine w_catA (t6 _ _ g5) gP (by rw [List.length_take]; show _ + 1 ≤ 1000; omega) fun P3 H7 t7 g7 => ?_
      have hp7 := t7 _ _ (t6 _ _ hp5)
      walk_at "go"
      have e1 : (i : Int) + 1 = ((i + 1 : Nat) : Int) := by omega
      rw [e1]
      refine w_slA hp7 fun P4 H8 t8 g8 => ?_
      rw [cut_drop (by omega)] at g8
      refine w_catA (t8 _ _ g7) g8 (by rw [List.length_append, List.length_take, List.length_drop]; show _ + 1 + _ ≤ 1000; omega) fun P5 H9 t9 g9 => ?_
      have s59 := ((t6.trans t7).trans t8).trans t9
      have d9 := d5.trans (Dr.same d5.src s59)
      refine q _ _ d9 (.inr ⟨P5, _, rfl, g9, fun y hy => ?_, by rw [List.length_append, List.length_append, List.length_take, List.length_drop]; show _ + 1 + _ ≤ 1000; omega, ?_⟩)
      · have k9 : ∀ x ∈ xs, Kd2 H9 x := fun x hx => (kx x hx).dr d9
        rcases List.mem_append.mp hy with h | h
        · rcases List.mem_append.mp h with h | h
          · exact k9 y (List.mem_of_mem_take h)
          · rw [List.mem_singleton.mp h]; exact ov.kd.same s59
        · exact k9 y (List.mem_of_mem_drop h)
      · obtain ⟨a, b, c, e, f⟩ := ov
        exact F.odd hso ⟨a.same s59, b, c, e, fun z => by rw [numsV_same a.1 s59]; exact f z⟩
    walk_at "go"
    refine if_2 (fun h2 => ?_) (fun h2 => ?_)
    · walk_at "go"
      have a0 : atI xs 0 = some (.str w) := by rw [ex]; exact atI_nat (j := 0) rfl
      have a1 : atI xs 1 = some x1 := by rw [ex]; exact atI_nat (j := 1) rfl
      refine w_ixT (sqT hp1) a0 ?_
      walk_at "go"
      refine ⟨by show 2 ≤ sizeLine; decide, fun T1 hT1 => ?_⟩
      refine w_in (.inr (sqT upd_same)) rfl (by decide +kernel) ?_
      have i1 : inV (.str w) [.str ("tie" : Str), .str ("cut" : Str)] = decide (w ∈ ofTwo) := inV_str w ofTwo
      rw [i1]
      have s2 := same_new (u := .tup [.str ("tie" : Str), .str ("cut" : Str)]) hT1
      generalize upd H1 T1 (.tup [.str ("tie" : Str), .str ("cut" : Str)]) = H2 at *
      have hp2 := s2 _ _ hp1
      walk_at "go"
      refine if_2 (fun h3 => ?_) (fun h3 => ?_)
      · walk_at "go"
        refine w_slA hp2 fun P1 H3 t3 g3 => ?_
        have e2 : cutV xs none (some 2) = [.str w, x1] := by
          have := cut_take (xs := xs) (f := 2) (by omega)
          rw [show ((2 : Nat) : Int) = 2 from rfl] at this
          rw [this, ex]; rfl
        rw [e2] at g3
        have hp3 := t3 _ _ hp2
        walk_at "go"
        refine w_ixT (sqT hp3) a1 ?_
        walk_at "go"
        refine ⟨by show 1 ≤ sizeLine; decide, fun P2 hP2 => ?_⟩
        refine w_catA (keep g3 hP2) upd_same (by show 3 ≤ 1000; decide) fun P3 H4 t4 g4 => ?_
        have s14 := ((s2.trans t3).trans (same_new hP2)).trans t4
        have d4 := d1.trans (Dr.same d1.src s14)
        refine q _ _ d4 (.inr ⟨P3, _, rfl, g4, fun y hy => ?_, by show 3 ≤ 1000; decide, twice_bad h3⟩)
        have m0 : V.str w ∈ xs := by rw [ex]; exact .head _
        have m1 : x1 ∈ xs := by rw [ex]; exact .tail _ (.head _)
        rcases List.mem_cons.mp hy with rfl | hy
        · exact (kx _ m0).dr d4
        rcases List.mem_cons.mp hy with rfl | hy
        · exact (kx _ m1).dr d4
        rcases List.mem_cons.mp hy with rfl | hy
        · exact (kx _ m1).dr d4
        cases hy
      · walk_at "s"
        exact hrest _ s2
    · walk_at "s"
      walk_at "s"
      exact hrest _ (Same.refl _)
theorem p_law {K : PySem.W.Frag} {vs : List V} {H : Hp} {Q : VK} {E : XK} (h : spLaw K vs H Q E) : t_law K { nx := fun _ H' => Q .non H', rt := Q } (start N_law vs) H := by
  obtain ⟨a, ns, rfl, hS, hlen, q⟩ := h
  unfold t_law
  refine w_seq (w_cells (fun σ => ∃ y1 y2 y3 y4 y5 y6, σ = [some (.ref a), y1, y2, y3, y4, y5, y6]) ⟨none, none, none, none, none, none, rfl⟩ rfl hS hlen ?_ ?_)
  · rintro z σ H1 N ⟨y1, y2, y3, y4, y5, y6, rfl⟩ _ hN
    walk_at "go"
    refine ⟨z, rfl, fun l H2 hl s2 src => ?_⟩
    walk_at "go"
    refine ⟨l, rfl, src, fun t p s xs ss H3 d3 ht hp hs nsl F => ?_⟩
    have len := F.shape
    obtain ⟨_, _, _, _, _, _, l3, _⟩ := len
    walk_at "go"
    refine ⟨.ref p, rfl, .inl ⟨p, xs, rfl, hp, F.kd, by omega, fun H4 s4 => ?_⟩⟩
    rw [F.ok]
    have d4 := d3.trans (Dr.same d3.src s4)
    have F4 := F.same s4
    have hp4 := s4 _ _ hp
    walk_at "go"
    refine w_listT (sqT hp4) fun L1 h1 => ?_
    walk_at "go"
    refine w_tupOfL (sqL upd_same) fun P1 h2 => ?_
    have s5 : Same H4 (upd (upd H4 L1 (.lst xs)) P1 (.tup xs)) := same_in (same_new h1) h2
    have g5 : (upd (upd H4 L1 (.lst xs)) P1 (.tup xs)) P1 = some (.tup xs) := upd_same
    generalize upd (upd H4 L1 (.lst xs)) P1 (.tup xs) = H5 at *
    have F5 := F4.same s5
    walk_at "go"
    refine ⟨.ref P1, rfl, .inl ⟨P1, xs, rfl, g5, F5.kd, by omega, fun H6 s6 => ?_⟩⟩
    rw [F5.ok]
    have F6 := F5.same s6
    have d6 := d4.trans (Dr.same d4.src (s5.trans s6))
    have hp6 := s6 _ _ (s5 _ _ hp4)
    have hs6 := s6 _ _ (s5 _ _ (s4 _ _ hs))
    walk_at "go"
    refine ⟨l, p, s, xs, ss, rfl, d6.src, hp6, hs6, nsl, F6, fun v H7 d7 nv => ?_⟩
    have d7 := d6.trans d7
    walk_at "go"
    refine nv.call fun H8 s8 => ?_
    have d8 := d7.trans (Dr.same d7.src s8)
    walk_at "go"
    refine ⟨by show 0 ≤ sizeLine; decide, fun A1 h1 => ?_⟩
    walk_at "go"
    refine ⟨by show 0 ≤ sizeLine; decide, fun A2 h2 => ?_⟩
    refine w_cons (w_dnew fun A3 h3 => ?_)
    walk_at "go"
    refine ⟨by show 1 ≤ sizeLine; decide, fun A4 h4 => ?_⟩
    walk_at "go"
    refine ⟨by show 2 ≤ sizeLine; decide, fun A5 h5 => ?_⟩
    walk_at "go"
    refine ⟨by show 2 ≤ sizeLine; decide, fun A6 h6 => ?_⟩
    walk_at "go"
    refine ⟨by show 1 ≤ sizeLine; decide, fun A7 h7 => ?_⟩
    walk_at "go"
    refine ⟨by show 11 ≤ sizeLine; decide, fun B hB => ?_⟩
    obtain ⟨H9, e9⟩ : ∃ H9, H9 = upd (upd (upd (upd (upd (upd (upd H8 A1 (.tup [])) A2 (.lst [])) A3 (.dK [])) A4 (.tup [.str ("turn" : Str)])) A5 (.tup [.str ("a" : Str), .str ("b" : Str)])) A6 (.tup [.str ("turn" : Str), .str ("a" : Str)])) A7 (.tup [.ref A6]) := ⟨_, rfl⟩
    have s9 : Same H8 H9 := by rw [e9]; exact same_in (same_in (same_in (same_in (same_in (same_in (same_new h1) h2) h3) h4) h5) h6) h7
    have ks : ∀ {H' : Hp} (z : Str), z.length ≤ 1000 → Kd2 H' (.str z) := fun z h => .str h
    have o1 : NotDeed H9 (.ref A1) := .inr ⟨A1, [], rfl, by rw [e9]; exact keep (keep (keep (keep (keep (keep upd_same h2) h3) h4) h5) h6) h7, fun y hy => (by cases hy), by decide, rfl⟩
    have o2 : NotDeed H9 (.ref A2) := .inl ⟨"list", .lst (xs := []) (by rw [e9]; exact keep (keep (keep (keep (keep upd_same h3) h4) h5) h6) h7), by decide⟩
    have o3 : NotDeed H9 (.ref A3) := .inl ⟨"dict", .dict (kvs := []) (by rw [e9]; exact keep (keep (keep (keep upd_same h4) h5) h6) h7), by decide⟩
    have o4 : NotDeed H9 (.ref A4) := .inr ⟨A4, [.str ("turn" : Str)], rfl, by rw [e9]; exact keep (keep (keep upd_same h5) h6) h7, fun y hy => by rw [List.mem_singleton.mp hy]; exact ks _ (by decide +kernel), by decide, rfl⟩
    have o5 : NotDeed H9 (.ref A5) := .inr ⟨A5, [.str ("a" : Str), .str ("b" : Str)], rfl, by rw [e9]; exact keep (keep upd_same h6) h7, fun y hy => (by
      rcases List.mem_cons.mp hy with rfl | hy
      · exact ks _ (by decide +kernel)
      rcases List.mem_cons.mp hy with rfl | hy
      · exact ks _ (by decide +kernel)
      cases hy), by decide, wordless_bad (by decide +kernel) _⟩
    have o7 : NotDeed H9 (.ref A7) := .inr ⟨A7, [.ref A6], rfl, by rw [e9]; exact upd_same, fun y hy => (by
      rw [List.mem_singleton.mp hy]
      exact .tup (xs := [.str ("turn" : Str), .str ("a" : Str)]) (by rw [e9]; exact keep upd_same h7) (fun y hy => by
        rcases List.mem_cons.mp hy with rfl | hy
        · exact ⟨_, .str _⟩
        rcases List.mem_cons.mp hy with rfl | hy
        · exact ⟨_, .str _⟩
        cases hy)), by show 1 ≤ 1000; decide, rfl⟩
    rw [← e9] at hB ⊢
    clear e9 h1 h2 h3 h4 h5 h6 h7
    have s10 : Same H9 (upd H9 B (.lst [.non, .bl true, .int 0, .str ("turn a" : Str), .ref A1, .ref A2, .ref A3, .ref A4, .str ("turn" : Str), .ref A5, .ref A7])) := same_new hB
    have h10 : (upd H9 B (.lst [.non, .bl true, .int 0, .str ("turn a" : Str), .ref A1, .ref A2, .ref A3, .ref A4, .str ("turn" : Str), .ref A5, .ref A7])) B = _ := upd_same
    have d9 := d8.trans (Dr.same d8.src s9)
    have d10 := d9.trans (Dr.same d9.src s10)
    generalize upd H9 B (.lst [.non, .bl true, .int 0, .str ("turn a" : Str), .ref A1, .ref A2, .ref A3, .ref A4, .str ("turn" : Str), .ref A5, .ref A7]) = H10 at *
    have odds : ∀ v ∈ [V.non, .bl true, .int 0, .str ("turn a" : Str), .ref A1, .ref A2, .ref A3, .ref A4, .str ("turn" : Str), .ref A5, .ref A7], NotDeed H9 v := by
      intro v hv
      rcases List.mem_cons.mp hv with rfl | hv
      · exact .inl ⟨_, .non, by decide⟩
      rcases List.mem_cons.mp hv with rfl | hv
      · exact .inl ⟨_, .bl _, by decide⟩
      rcases List.mem_cons.mp hv with rfl | hv
      · exact .inl ⟨_, .int _, by decide⟩
      rcases List.mem_cons.mp hv with rfl | hv
      · exact .inl ⟨_, .str _, by decide⟩
      rcases List.mem_cons.mp hv with rfl | hv
      · exact o1
      rcases List.mem_cons.mp hv with rfl | hv
      · exact o2
      rcases List.mem_cons.mp hv with rfl | hv
      · exact o3
      rcases List.mem_cons.mp hv with rfl | hv
      · exact o4
      rcases List.mem_cons.mp hv with rfl | hv
      · exact .inl ⟨_, .str _, by decide⟩
      rcases List.mem_cons.mp hv with rfl | hv
      · exact o5
      rcases List.mem_cons.mp hv with rfl | hv
      · exact o7
      cases hv
    have sq : Src H9 l := d9.src
    generalize [V.non, .bl true, .int 0, .str ("turn a" : Str), .ref A1, .ref A2, .ref A3, .ref A4, .str ("turn" : Str), .ref A5, .ref A7] = vs at *
    refine ⟨B, rfl, ⟨_, sqL h10⟩, for_list (K := K) (a := B) (xs := vs) (fun i σ H' => (∃ y1 y2 y3 y4 y5 y6, σ = [some (.ref a), y1, y2, y3, y4, y5, y6]) ∧ Same H10 H') ⟨⟨_, _, _, _, _, _, rfl⟩, Same.refl _⟩ (fun i σ H' _ P => sqL (P.2 _ _ h10)) ?_ ?_⟩
    · rintro i x σ1 H14 hx ⟨⟨y1, y2, y3, y4, y5, y6, rfl⟩, s14⟩
      have o := odds x (List.mem_of_getElem? hx)
      have dd := Dr.same sq (s10.trans s14)
      walk_at "go"
      refine (o.dr dd (deedOk_dr dd)).call fun H15 s15 => ?_
      walk_at "go"
      exact ⟨⟨_, _, _, _, _, _, rfl⟩, s14.trans s15⟩
    · rintro σ1 H14 ⟨⟨y1, y2, y3, y4, y5, y6, rfl⟩, s14⟩
      exact hN _ _ ⟨_, _, _, _, _, _, rfl⟩ ((d10.trans (Dr.same d10.src s14)).same_of s2 hl)
  · rintro σ H1 ⟨y1, y2, y3, y4, y5, y6, rfl⟩ _
    walk_at "go"
    refine ⟨by show 2 ≤ sizeLine; decide, fun A1 h1 => ?_⟩
    walk_at "go"
    have F1 : ∀ H', DeedF H' [.str ("leave" : Str), .str ("leave" : Str)] ["word", "name"] := fun _ => .one (by decide +kernel) (by decide +kernel)
    have F2 : ∀ H', DeedF H' [.str ("tie" : Str), .str ("tie" : Str), .str ("cut" : Str)] ["word", "name", "name"] := fun _ => .two (by decide +kernel) (by decide +kernel) (by decide +kernel) (by decide +kernel)
    refine ⟨_, rfl, .inl ⟨A1, _, rfl, upd_same, (F1 _).kd, by show 2 ≤ 1000; decide, fun H2 s2 => ?_⟩⟩
    rw [(F1 _).ok]
    walk_at "go"
    refine ⟨by show 3 ≤ sizeLine; decide, fun A2 h2 => ?_⟩
    walk_at "go"
    refine ⟨_, rfl, .inl ⟨A2, _, rfl, upd_same, (F2 _).kd, by show 3 ≤ 1000; decide, fun H3 s3 => ?_⟩⟩
    rw [(F2 _).ok]
    walk_at "go"
    exact q _

def top (i : Nat) : Stmt := PySem.Challenge.pw_sumtold_k14_what_is_a_deed.main.body.getD i (.Pass ⟨0, 0, 0, 0⟩)
structure Gs (K : PySem.W.Frag) (mg : Str → Option Value) : Prop where
  tt : Gt K
  g_LETTERS : ∃ t, mg "LETTERS" = some (.str ("abcdefghijklmnopqrstuvwxyz" : Str) t)
  g_MOST_LETTERS : ∃ t, mg "MOST_LETTERS" = some (.int 8 t)
  g_MOST_NUMBERS : ∃ t, mg "MOST_NUMBERS" = some (.int 3 t)
  g_FAR : ∃ t, mg "FAR" = some (.int 1000000000000 t)
  g_OF_ONE : mg "OF_ONE" = some (.ref (He.ga K "OF_ONE"))
  g_OF_NUMBERS : mg "OF_NUMBERS" = some (.ref (He.ga K "OF_NUMBERS"))
  g_OF_TWO : mg "OF_TWO" = some (.ref (He.ga K "OF_TWO"))
structure Bl (mg : Str → Option Value) : Prop where
  b_all : mg "all" = none
  b_bool : mg "bool" = none
  b_int : mg "int" = none
  b_isinstance : mg "isinstance" = none
  b_len : mg "len" = none
  b_list : mg "list" = none
  b_range : mg "range" = none
  b_str : mg "str" = none
  b_tuple : mg "tuple" = none
section
variable {P : Program} {w : World} {K : PySem.W.Frag} {mg : Str → Option Value} {base : Heap}
abbrev s_is_int : Stmt := top 8
theorem sc_is_int : FnScope N_is_int ["thing"] (defScope s_is_int) := ⟨rfl, rfl, rfl, by decide +kernel, rfl, by decide +kernel, by decide +kernel⟩
theorem ok_is_int (F : ∃ fd, FnP K "is_int" s_is_int (He.ga K "is_int") fd) (gm : mg "is_int" = some (.ref (He.ga K "is_int"))) (B : Bl mg)  : Has P w K mg base "is_int" 1 ["thing"] spIsInt := by
  obtain ⟨fd, F⟩ := F
  refine ⟨_, fd, gm, F.kp, FunD.bindsN (ps := ["thing"]) F fun _ _ _ _ _ _ us hl => match us, hl with | [_], _ => rfl, F.ok sc_is_int (fun vs H Q E h => p_is_int_len h) (fun cdv A outer s H vs Q E hr h => ⟨t_is_int K, PSs.nox ?_, p_is_int h⟩)⟩
  have hu := hu_of hr
  exact (pss_one (ps_ret (pe_and (pe_callB call_isi (by rfl) B.b_isinstance (by decide +kernel) (pa_cons (pv 0) (pa_cons (pe_bltn (v := .ty "int") (by rfl) B.b_int (by decide +kernel) rfl) pa_nil))) (pe_one (pe_not (pe_callB call_isi (by rfl) B.b_isinstance (by decide +kernel) (pa_cons (pv 0) (pa_cons (pe_bltn (v := .ty "bool") (by rfl) B.b_bool (by decide +kernel) rfl) pa_nil))))))))

abbrev s_is_name : Stmt := top 9
theorem sc_is_name : FnScope N_is_name ["thing"] (defScope s_is_name) := ⟨rfl, rfl, rfl, by decide +kernel, rfl, by decide +kernel, by decide +kernel⟩
theorem ok_is_name (F : ∃ fd, FnP K "is_name" s_is_name (He.ga K "is_name") fd) (gm : mg "is_name" = some (.ref (He.ga K "is_name"))) (B : Bl mg) (G : Gs K mg)  : Has P w K mg base "is_name" 1 ["thing"] spIsName := by
  obtain ⟨fd, F⟩ := F
  refine ⟨_, fd, gm, F.kp, FunD.bindsN (ps := ["thing"]) F fun _ _ _ _ _ _ us hl => match us, hl with | [_], _ => rfl, F.ok sc_is_name (fun vs H Q E h => p_is_name_len h) (fun cdv A outer s H vs Q E hr h => ⟨t_is_name K, PSs.nox ?_, p_is_name h⟩)⟩
  have hu := hu_of hr
  exact (pss_cons (ps_if (PW.pt (pw_or (pt_not (pt_val (pe_callB call_isi (by rfl) B.b_isinstance (by decide +kernel) (pa_cons (pv 0) (pa_cons (pe_bltn (v := .ty "str") (by rfl) B.b_str (by decide +kernel) rfl) pa_nil))))) (pw_or1 (pt_not (pt_chain op_le op_le pe_int (pe_callB call_len_str (by rfl) B.b_len (by decide +kernel) (pa_cons (pv 0) pa_nil)) (pe_globI (by rfl) G.g_MOST_LETTERS)))))) (pss_one (ps_ret pe_bl)) pss_nil)
    (pss_one (ps_ret (pe_callB (cr_all rfl) (by rfl) B.b_all (by decide +kernel) (pa_cons (pe_lc (own := [("sign", 1)]) (g := (gName 1)) (tt := tYes) (te := (tOp rInS (tVar 1) (tC (.str ("abcdefghijklmnopqrstuvwxyz" : Str))))) (wi := (iStr (tVar 0))) rfl sc_is_name.nd (pi_str (pv 0)) (blkOk_by (own := [("sign", 1)]) (N := N_is_name) (sc := defScope s_is_name) (by decide +kernel)) (fun _ _ _ _ _ => (pg_name (i := 1) sc_is_name.nd rfl (Or.inl rfl))) (fun _ _ _ _ _ => pts_nil) (fun _ _ _ _ _ => (pe_cmpR op_inS (pv 1) (pe_globS (by rfl) G.g_LETTERS) rfl))) pa_nil)))))

abbrev s_is_numbers : Stmt := top 10
theorem sc_is_numbers : FnScope N_is_numbers ["thing"] (defScope s_is_numbers) := ⟨rfl, rfl, rfl, by decide +kernel, rfl, by decide +kernel, by decide +kernel⟩
theorem ok_is_numbers (F : ∃ fd, FnP K "is_numbers" s_is_numbers (He.ga K "is_numbers") fd) (gm : mg "is_numbers" = some (.ref (He.ga K "is_numbers"))) (B : Bl mg) (G : Gs K mg) (h_is_int : Has P w K mg base "is_int" 1 ["thing"] spIsInt) : Has P w K mg base "is_numbers" 2 ["thing"] spIsNumbers := by
  obtain ⟨fd, F⟩ := F
  refine ⟨_, fd, gm, F.kp, FunD.bindsN (ps := ["thing"]) F fun _ _ _ _ _ _ us hl => match us, hl with | [_], _ => rfl, F.ok sc_is_numbers (fun vs H Q E h => p_is_numbers_len h) (fun cdv A outer s H vs Q E hr h => ⟨t_is_numbers K, PSs.nox ?_, p_is_numbers h⟩)⟩
  have hu := hu_of hr
  exact (pss_cons (ps_if (PW.pt (pw_or (pt_not (pt_val (pe_callB call_isi (by rfl) B.b_isinstance (by decide +kernel) (pa_cons (pv 0) (pa_cons (pe_bltn (v := .ty "tuple") (by rfl) B.b_tuple (by decide +kernel) rfl) pa_nil))))) (pw_or1 (pt_not (pt_chain op_le op_le pe_int (pe_callB call_len_seq (by rfl) B.b_len (by decide +kernel) (pa_cons (pv 0) pa_nil)) (pe_globI (by rfl) G.g_MOST_NUMBERS)))))) (pss_one (ps_ret pe_bl)) pss_nil)
    (pss_one (ps_ret (pe_callB (cr_all rfl) (by rfl) B.b_all (by decide +kernel) (pa_cons (pe_lc (own := [("one", 1)]) (g := (gName 1)) (tt := tYes) (te := (tAndV (tCall spIsInt [] E0 (tCons (tVar 1) tNil)) (tChain rLeI rLeI (tOp rSubI (tC (.int 0)) (tC (.int 1000000000000))) (tVar 1) (tC (.int 1000000000000))))) (wi := (iTup K (tVar 0))) rfl sc_is_numbers.nd (pi_tup (pv 0)) (blkOk_by (own := [("one", 1)]) (N := N_is_numbers) (sc := defScope s_is_numbers) (by decide +kernel)) (fun _ _ _ _ _ => (pg_name (i := 1) sc_is_numbers.nd rfl (Or.inl rfl))) (fun _ _ _ _ _ => pts_nil) (fun _ _ _ _ _ => (pe_and (pe_has h_is_int (hr.mono (by decide)) (by rfl) (pa_cons (pv 1) pa_nil)) (pe_one (pe_chain op_le op_le (pe_op op_sub pe_int (pe_globI (by rfl) G.g_FAR)) (pv 1) (pe_globI (by rfl) G.g_FAR)))))) pa_nil)))))

abbrev s_is_deed : Stmt := top 11
theorem sc_is_deed : FnScope N_is_deed ["thing"] (defScope s_is_deed) := ⟨rfl, rfl, rfl, by decide +kernel, rfl, by decide +kernel, by decide +kernel⟩
theorem ok_is_deed (F : ∃ fd, FnP K "is_deed" s_is_deed (He.ga K "is_deed") fd) (gm : mg "is_deed" = some (.ref (He.ga K "is_deed"))) (B : Bl mg) (G : Gs K mg) (h_is_name : Has P w K mg base "is_name" 1 ["thing"] spIsName) (h_is_numbers : Has P w K mg base "is_numbers" 2 ["thing"] spIsNumbers) (h_is_int : Has P w K mg base "is_int" 1 ["thing"] spIsInt) : Has P w K mg base "is_deed" 3 ["thing"] spIsDeed := by
  obtain ⟨fd, F⟩ := F
  refine ⟨_, fd, gm, F.kp, FunD.bindsN (ps := ["thing"]) F fun _ _ _ _ _ _ us hl => match us, hl with | [_], _ => rfl, F.ok sc_is_deed (fun vs H Q E h => p_is_deed_len h) (fun cdv A outer s H vs Q E hr h => ⟨t_is_deed K, PSs.nox ?_, p_is_deed G.tt h⟩)⟩
  have hu := hu_of hr
  exact (pss_cons (ps_if (PW.pt (pw_or (pt_not (pt_val (pe_callB call_isi (by rfl) B.b_isinstance (by decide +kernel) (pa_cons (pv 0) (pa_cons (pe_bltn (v := .ty "tuple") (by rfl) B.b_tuple (by decide +kernel) rfl) pa_nil))))) (pw_or (pt_cmpR op_lt (pe_callB call_len_seq (by rfl) B.b_len (by decide +kernel) (pa_cons (pv 0) pa_nil)) pe_int (nomark _)) (pw_or1 (pt_not (pt_val (pe_callB call_isi (by rfl) B.b_isinstance (by decide +kernel) (pa_cons (pe_ix ix_tup (pv 0) pe_int (fun _ _ => rfl)) (pa_cons (pe_bltn (v := .ty "str") (by rfl) B.b_str (by decide +kernel) rfl) pa_nil))))))))) (pss_one (ps_ret pe_bl)) pss_nil)
    (pss_cons (ps_if (pt_cmpR op_eq (pe_ix ix_tup (pv 0) pe_int (fun _ _ => rfl)) pe_str (nomark _)) (pss_one (ps_ret (pe_and (pe_cmpR op_eq (pe_callB call_len_seq (by rfl) B.b_len (by decide +kernel) (pa_cons (pv 0) pa_nil)) pe_int (nomark _)) (pe_and (pe_has h_is_int (hr.mono (by decide)) (by rfl) (pa_cons (pe_ix ix_tup (pv 0) pe_int (fun _ _ => rfl)) pa_nil)) (pe_one (pe_cmpR op_ge (pe_ix ix_tup (pv 0) pe_int (fun _ _ => rfl)) pe_int (nomark _))))))) pss_nil)
    (pss_cons (ps_if (pt_not (pt_val (pe_has h_is_name (hr.mono (by decide)) (by rfl) (pa_cons (pe_ix ix_tup (pv 0) pe_int (fun _ _ => rfl)) pa_nil)))) (pss_one (ps_ret pe_bl)) pss_nil)
    (pss_cons (ps_if (pt_cmpR op_in_seq (pe_ix ix_tup (pv 0) pe_int (fun _ _ => rfl)) (pe_glob (by rfl) G.g_OF_ONE rfl) (by rfl)) (pss_one (ps_ret (pe_cmpR op_eq (pe_callB call_len_seq (by rfl) B.b_len (by decide +kernel) (pa_cons (pv 0) pa_nil)) pe_int (nomark _)))) pss_nil)
    (pss_cons (ps_if (pt_cmpR op_ne (pe_callB call_len_seq (by rfl) B.b_len (by decide +kernel) (pa_cons (pv 0) pa_nil)) pe_int (nomark _)) (pss_one (ps_ret pe_bl)) pss_nil)
    (pss_cons (ps_if (pt_cmpR op_in_seq (pe_ix ix_tup (pv 0) pe_int (fun _ _ => rfl)) (pe_glob (by rfl) G.g_OF_NUMBERS rfl) (by rfl)) (pss_one (ps_ret (pe_has h_is_numbers (hr.mono (by decide)) (by rfl) (pa_cons (pe_ix ix_tup (pv 0) pe_int (fun _ _ => rfl)) pa_nil)))) pss_nil)
    (pss_one (ps_ret (pe_and (pe_cmpR op_in_seq (pe_ix ix_tup (pv 0) pe_int (fun _ _ => rfl)) (pe_glob (by rfl) G.g_OF_TWO rfl) (by rfl)) (pe_and (pe_has h_is_name (hr.mono (by decide)) (by rfl) (pa_cons (pe_ix ix_tup (pv 0) pe_int (fun _ _ => rfl)) pa_nil)) (pe_one (pe_cmpR op_ne (pe_ix ix_tup (pv 0) pe_int (fun _ _ => rfl)) (pe_ix ix_tup (pv 0) pe_int (fun _ _ => rfl)) (nomark _)))))))))))))

abbrev s_l_cell_at : Stmt := top 13
theorem sc_l_cell_at : FnScope N_l_cell_at ["_law_script", "_law_k"] (defScope s_l_cell_at) := ⟨rfl, rfl, rfl, by decide +kernel, rfl, by decide +kernel, by decide +kernel⟩
theorem ok_l_cell_at (F : ∃ fd, FnP K "_law_cell_at" s_l_cell_at (He.ga K "_law_cell_at") fd) (gm : mg "_law_cell_at" = some (.ref (He.ga K "_law_cell_at"))) (B : Bl mg)  : Has P w K mg base "_law_cell_at" 1 ["_law_script", "_law_k"] (spCellAt K) := by
  obtain ⟨fd, F⟩ := F
  refine ⟨_, fd, gm, F.kp, FunD.bindsN (ps := ["_law_script", "_law_k"]) F fun _ _ _ _ _ _ us hl => match us, hl with | [_, _], _ => rfl, F.ok sc_l_cell_at (fun vs H Q E h => p_l_cell_at_len h) (fun cdv A outer s H vs Q E hr h => ⟨t_l_cell_at K, PSs.nox ?_, p_l_cell_at h⟩)⟩
  have hu := hu_of hr
  exact (pss_cons (ps_if (pt_cmpR op_lt (pv 1) (pe_callB call_len_seq (by rfl) B.b_len (by decide +kernel) (pa_cons (pv 0) pa_nil)) (nomark _)) (pss_one (ps_ret (pe_ix ix_list (pv 0) (pv 1) (fun _ _ => rfl)))) pss_nil)
    (pss_one (ps_ret pe_int)))

abbrev s_l_mixed : Stmt := top 14
theorem sc_l_mixed : FnScope N_l_mixed ["_law_cell", "_law_k"] (defScope s_l_mixed) := ⟨rfl, rfl, rfl, by decide +kernel, rfl, by decide +kernel, by decide +kernel⟩
theorem ok_l_mixed (F : ∃ fd, FnP K "_law_mixed" s_l_mixed (He.ga K "_law_mixed") fd) (gm : mg "_law_mixed" = some (.ref (He.ga K "_law_mixed"))) (B : Bl mg)  : Has P w K mg base "_law_mixed" 1 ["_law_cell", "_law_k"] spMixed := by
  obtain ⟨fd, F⟩ := F
  refine ⟨_, fd, gm, F.kp, FunD.bindsN (ps := ["_law_cell", "_law_k"]) F fun _ _ _ _ _ _ us hl => match us, hl with | [_, _], _ => rfl, F.ok sc_l_mixed (fun vs H Q E h => p_l_mixed_len h) (fun cdv A outer s H vs Q E hr h => ⟨t_l_mixed K, PSs.nox ?_, p_l_mixed h⟩)⟩
  have hu := hu_of hr
  exact (pss_cons (ps_set (i := 2) sc_l_mixed.nd rfl (Or.inl rfl) (pe_op op_mod (pe_op op_mul (pe_op op_add (pe_op op_add (pe_op op_mod (pv 0) pe_int) (pe_op op_mul pe_int (pv 1))) pe_int) pe_int) pe_int))
    (pss_cons (ps_set (i := 2) sc_l_mixed.nd rfl (Or.inl rfl) (pe_op op_mod (pe_op op_mulX (pv 2) (pe_op op_add (pe_op op_fdivW (pv 2) pe_int) pe_int)) pe_int))
    (pss_one (ps_ret (pe_op op_mod (pe_op op_mulX (pv 2) (pe_op op_add (pe_op op_fdivW (pv 2) pe_int) pe_int)) pe_int)))))

abbrev s_l_well : Stmt := top 15
theorem sc_l_well : FnScope N_l_well ["_law_cell"] (defScope s_l_well) := ⟨rfl, rfl, rfl, by decide +kernel, rfl, by decide +kernel, by decide +kernel⟩
theorem ok_l_well (F : ∃ fd, FnP K "_law_well" s_l_well (He.ga K "_law_well") fd) (gm : mg "_law_well" = some (.ref (He.ga K "_law_well"))) (B : Bl mg)  : Has P w K mg base "_law_well" 1 ["_law_cell"] spBegin := by
  obtain ⟨fd, F⟩ := F
  refine ⟨_, fd, gm, F.kp, FunD.bindsN (ps := ["_law_cell"]) F fun _ _ _ _ _ _ us hl => match us, hl with | [_], _ => rfl, F.ok sc_l_well (fun vs H Q E h => p_l_well_len h) (fun cdv A outer s H vs Q E hr h => ⟨t_l_well K, PSs.nox ?_, p_l_well h⟩)⟩
  have hu := hu_of hr
  exact (pss_one (ps_ret (pe_lst (pa_cons (pe_ix ix_list (pe_lst (pa_cons pe_int (pa_cons (pv 0) pa_nil))) (pe_callTy call_int1 (by rfl) B.b_int (by decide +kernel) (pa_cons (pe_cmpR op_ge (pv 0) (pe_op op_pow pe_int pe_int) (nomark _)) pa_nil)) (fun _ _ => rfl)) (pa_cons (pv 0) (pa_cons pe_int pa_nil))))))

abbrev s_l_draw : Stmt := top 16
theorem sc_l_draw : FnScope N_l_draw ["_law_well_here", "_law_many"] (defScope s_l_draw) := ⟨rfl, rfl, rfl, by decide +kernel, rfl, by decide +kernel, by decide +kernel⟩
theorem ok_l_draw (F : ∃ fd, FnP K "_law_draw" s_l_draw (He.ga K "_law_draw") fd) (gm : mg "_law_draw" = some (.ref (He.ga K "_law_draw"))) (B : Bl mg) (h_l_mixed : Has P w K mg base "_law_mixed" 1 ["_law_cell", "_law_k"] spMixed) : Has P w K mg base "_law_draw" 2 ["_law_well_here", "_law_many"] spDraw := by
  obtain ⟨fd, F⟩ := F
  refine ⟨_, fd, gm, F.kp, FunD.bindsN (ps := ["_law_well_here", "_law_many"]) F fun _ _ _ _ _ _ us hl => match us, hl with | [_, _], _ => rfl, F.ok sc_l_draw (fun vs H Q E h => p_l_draw_len h) (fun cdv A outer s H vs Q E hr h => ⟨t_l_draw K, PSs.nox ?_, p_l_draw h⟩)⟩
  have hu := hu_of hr
  exact (pss_cons (ps_if (pt_cmpR op_gt (pe_ix ix_list (pv 0) pe_int (fun _ _ => rfl)) pe_int (nomark _)) (pss_cons (ps_set (i := 2) sc_l_draw.nd rfl (Or.inl rfl) (pe_op op_mod (pe_ix ix_list (pv 0) pe_int (fun _ _ => rfl)) (pv 1)))
      (pss_cons (ps_asg (pe_op op_fdivW (pe_ix ix_list (pv 0) pe_int (fun _ _ => rfl)) (pv 1)) (pg_sub (pv 0) pe_int set_list))
      (pss_one (ps_ret (pv 2))))) pss_nil)
    (pss_cons (ps_asg (pe_op op_add (pe_ix ix_list (pv 0) pe_int (fun _ _ => rfl)) pe_int) (pg_sub (pv 0) pe_int set_list))
    (pss_one (ps_ret (pe_op op_mod (pe_has h_l_mixed (hr.mono (by decide)) (by rfl) (pa_cons (pe_ix ix_list (pv 0) pe_int (fun _ _ => rfl)) (pa_cons (pe_ix ix_list (pv 0) pe_int (fun _ _ => rfl)) pa_nil))) (pv 1))))))

abbrev s_l_pick : Stmt := top 17
theorem sc_l_pick : FnScope N_l_pick ["_law_well_here", "_law_some"] (defScope s_l_pick) := ⟨rfl, rfl, rfl, by decide +kernel, rfl, by decide +kernel, by decide +kernel⟩
theorem ok_l_pick (F : ∃ fd, FnP K "_law_pick" s_l_pick (He.ga K "_law_pick") fd) (gm : mg "_law_pick" = some (.ref (He.ga K "_law_pick"))) (B : Bl mg) (h_l_draw : Has P w K mg base "_law_draw" 2 ["_law_well_here", "_law_many"] spDraw) : Has P w K mg base "_law_pick" 3 ["_law_well_here", "_law_some"] spPick := by
  obtain ⟨fd, F⟩ := F
  refine ⟨_, fd, gm, F.kp, FunD.bindsN (ps := ["_law_well_here", "_law_some"]) F fun _ _ _ _ _ _ us hl => match us, hl with | [_, _], _ => rfl, F.ok sc_l_pick (fun vs H Q E h => p_l_pick_len h) (fun cdv A outer s H vs Q E hr h => ⟨t_l_pick K, PSs.nox ?_, p_l_pick h⟩)⟩
  have hu := hu_of hr
  exact (pss_one (ps_ret (pe_ix ix_list (pv 1) (pe_has h_l_draw (hr.mono (by decide)) (by rfl) (pa_cons (pv 0) (pa_cons (pe_callB call_len_seq (by rfl) B.b_len (by decide +kernel) (pa_cons (pv 1) pa_nil)) pa_nil))) (fun _ _ => rfl))))

abbrev s_l_names : Stmt := top 18
theorem sc_l_names : FnScope N_l_names ["_law_well_here", "_law_many"] (defScope s_l_names) := ⟨rfl, rfl, rfl, by decide +kernel, rfl, by decide +kernel, by decide +kernel⟩
theorem ok_l_names (F : ∃ fd, FnP K "_law_names" s_l_names (He.ga K "_law_names") fd) (gm : mg "_law_names" = some (.ref (He.ga K "_law_names"))) (B : Bl mg) (h_l_draw : Has P w K mg base "_law_draw" 2 ["_law_well_here", "_law_many"] spDraw) : Has P w K mg base "_law_names" 3 ["_law_well_here", "_law_many"] spNames := by
  obtain ⟨fd, F⟩ := F
  refine ⟨_, fd, gm, F.kp, FunD.bindsN (ps := ["_law_well_here", "_law_many"]) F fun _ _ _ _ _ _ us hl => match us, hl with | [_, _], _ => rfl, F.ok sc_l_names (fun vs H Q E h => p_l_names_len h) (fun cdv A outer s H vs Q E hr h => ⟨t_l_names K, PSs.nox ?_, p_l_names h⟩)⟩
  have hu := hu_of hr
  exact (pss_cons (ps_set (i := 2) sc_l_names.nd rfl (Or.inr rfl) pe_str)
    (pss_cons (ps_set (i := 3) sc_l_names.nd rfl (Or.inr rfl) (pe_split pe_str pe_str))
    (pss_cons (ps_set (i := 4) sc_l_names.nd rfl (Or.inr rfl) (pe_has h_l_draw (hr.mono (by decide)) (by rfl) (pa_cons (pv 0) (pa_cons pe_int pa_nil))))
    (pss_cons (ps_set (i := 5) sc_l_names.nd rfl (Or.inl rfl) (pe_has h_l_draw (hr.mono (by decide)) (by rfl) (pa_cons (pv 0) (pa_cons pe_int pa_nil))))
    (pss_cons (ps_if (pt_cmpR op_eq (pv 5) pe_int (nomark _)) (pss_one (ps_ret (pe_lc (own := [("_law_k", 8)]) (g := (gName 8)) (tt := tYes) (te := (tOp (rIxL K) (tVar 3) (tOp rModI (tOp rAddI (tVar 4) (tVar 8)) (tC (.int 13))))) (wi := (iRng1 (tCons (tVar 1) tNil))) rfl sc_l_names.nd (pi_range1 (by rfl) B.b_range (pa_cons (pv 1) pa_nil)) (blkOk_by (own := [("_law_k", 8)]) (N := N_l_names) (sc := defScope s_l_names) (by decide +kernel)) (fun _ _ _ _ _ => (pg_name (i := 8) sc_l_names.nd rfl (Or.inl rfl))) (fun _ _ _ _ _ => pts_nil) (fun _ _ _ _ _ => (pe_ix ix_list (pv 3) (pe_op op_mod (pe_op op_add (pv 4) (pv 8)) pe_int) (fun _ _ => rfl)))))) pss_nil)
    (pss_cons (ps_if (pt_cmpR op_eq (pv 5) pe_int (nomark _)) (pss_one (ps_ret (pe_lc (own := [("_law_k", 8)]) (g := (gName 8)) (tt := tYes) (te := (tOp rRepStr (tOp rIxS (tVar 2) (tVar 4)) (tOp rAddI (tVar 8) (tC (.int 1))))) (wi := (iRng1 (tCons (tVar 1) tNil))) rfl sc_l_names.nd (pi_range1 (by rfl) B.b_range (pa_cons (pv 1) pa_nil)) (blkOk_by (own := [("_law_k", 8)]) (N := N_l_names) (sc := defScope s_l_names) (by decide +kernel)) (fun _ _ _ _ _ => (pg_name (i := 8) sc_l_names.nd rfl (Or.inl rfl))) (fun _ _ _ _ _ => pts_nil) (fun _ _ _ _ _ => (pe_op op_rep_str (pe_ix ix_str (pv 2) (pv 4) (fun _ _ => rfl)) (pe_op op_add (pv 8) pe_int)))))) pss_nil)
    (pss_cons (ps_set (i := 6) sc_l_names.nd rfl (Or.inr rfl) (pe_join pe_str (pe_lc (own := [("_law_k", 8)]) (g := (gName 8)) (tt := tYes) (te := (tOp rIxS (tVar 2) (tCall spDraw [] E0 (tCons (tVar 0) (tCons (tC (.int 26)) tNil))))) (wi := (iRng1 (tCons (tCall spDraw [] E0 (tCons (tVar 0) (tCons (tC (.int 8)) tNil))) tNil))) rfl sc_l_names.nd (pi_range1 (by rfl) B.b_range (pa_cons (pe_has h_l_draw (hr.mono (by decide)) (by rfl) (pa_cons (pv 0) (pa_cons pe_int pa_nil))) pa_nil)) (blkOk_by (own := [("_law_k", 8)]) (N := N_l_names) (sc := defScope s_l_names) (by decide +kernel)) (fun _ _ _ _ _ => (pg_name (i := 8) sc_l_names.nd rfl (Or.inl rfl))) (fun _ _ _ _ _ => pts_nil) (fun _ _ _ _ _ => (pe_ix ix_str (pv 2) (pe_has h_l_draw (hr.mono (by decide)) (by rfl) (pa_cons (pv 0) (pa_cons pe_int pa_nil))) (fun _ _ => rfl))))))
    (pss_cons (ps_set (i := 7) sc_l_names.nd rfl (Or.inr rfl) (pe_has h_l_draw (hr.mono (by decide)) (by rfl) (pa_cons (pv 0) (pa_cons (pe_op op_add (pe_callB call_len_str (by rfl) B.b_len (by decide +kernel) (pa_cons (pv 6) pa_nil)) pe_int) pa_nil))))
    (pss_one (ps_ret (pe_lc (own := [("_law_k", 8)]) (g := (gName 8)) (tt := tYes) (te := (tOp rAddStr (tOp rAddStr (tSl rSlS (tVar 6) tNoPart (tPart (tVar 7))) (tOp rIxS (tVar 2) (tOp rModI (tOp rAddI (tVar 4) (tOp rMulI (tC (.int 3)) (tVar 8))) (tC (.int 26))))) (tSl rSlS (tVar 6) (tPart (tVar 7)) tNoPart))) (wi := (iRng1 (tCons (tVar 1) tNil))) rfl sc_l_names.nd (pi_range1 (by rfl) B.b_range (pa_cons (pv 1) pa_nil)) (blkOk_by (own := [("_law_k", 8)]) (N := N_l_names) (sc := defScope s_l_names) (by decide +kernel)) (fun _ _ _ _ _ => (pg_name (i := 8) sc_l_names.nd rfl (Or.inl rfl))) (fun _ _ _ _ _ => pts_nil) (fun _ _ _ _ _ => (pe_op op_add_str (pe_op op_add_str (pe_slice sl_str (pv 6) po_none (po_some (pv 7))) (pe_ix ix_str (pv 2) (pe_op op_mod (pe_op op_add (pv 4) (pe_op op_mul pe_int (pv 8))) pe_int) (fun _ _ => rfl))) (pe_slice sl_str (pv 6) (po_some (pv 7)) po_none))))))))))))))

abbrev s_l_numbers : Stmt := top 19
theorem sc_l_numbers : FnScope N_l_numbers ["_law_well_here", "_law_size"] (defScope s_l_numbers) := ⟨rfl, rfl, rfl, by decide +kernel, rfl, by decide +kernel, by decide +kernel⟩
theorem ok_l_numbers (F : ∃ fd, FnP K "_law_numbers" s_l_numbers (He.ga K "_law_numbers") fd) (gm : mg "_law_numbers" = some (.ref (He.ga K "_law_numbers"))) (B : Bl mg) (h_l_draw : Has P w K mg base "_law_draw" 2 ["_law_well_here", "_law_many"] spDraw) : Has P w K mg base "_law_numbers" 3 ["_law_well_here", "_law_size"] spNumbers := by
  obtain ⟨fd, F⟩ := F
  refine ⟨_, fd, gm, F.kp, FunD.bindsN (ps := ["_law_well_here", "_law_size"]) F fun _ _ _ _ _ _ us hl => match us, hl with | [_, _], _ => rfl, F.ok sc_l_numbers (fun vs H Q E h => p_l_numbers_len h) (fun cdv A outer s H vs Q E hr h => ⟨t_l_numbers K, PSs.nox ?_, p_l_numbers h⟩)⟩
  have hu := hu_of hr
  exact (pss_cons (ps_set (i := 2) sc_l_numbers.nd rfl (Or.inl rfl) (pe_lst pa_nil))
    (pss_cons (ps_for PassesOwn.never rfl (pi_range1 (by rfl) B.b_range (pa_cons (pv 1) pa_nil)) (pg_name (i := 3) sc_l_numbers.nd rfl (Or.inl rfl)) (pss_cons (ps_set (i := 4) sc_l_numbers.nd rfl (Or.inl rfl) (pe_lst (pa_cons pe_int (pa_cons (pe_op op_sub (pe_has h_l_draw (hr.mono (by decide)) (by rfl) (pa_cons (pv 0) (pa_cons pe_int pa_nil))) pe_int) (pa_cons (pe_op op_pow pe_int pe_int) (pa_cons (pe_op op_sub pe_int (pe_op op_pow pe_int pe_int)) pa_nil))))))
      (pss_cons (ps_set (i := 4) sc_l_numbers.nd rfl (Or.inl rfl) (pe_op op_cat (pv 4) (pe_lst (pa_cons (pe_op op_sub (pe_has h_l_draw (hr.mono (by decide)) (by rfl) (pa_cons (pv 0) (pa_cons (pe_op op_add (pe_op op_mul pe_int (pe_op op_pow pe_int pe_int)) pe_int) pa_nil))) (pe_op op_pow pe_int pe_int)) pa_nil))))
      (pss_one (ps_expr (pe_bm PySem.F.plainAttrs_list PySem.F.slot_list_append PySem.F.type_list_append mt_append (pv 2) (pa_cons (pe_ix ix_list (pv 4) (pe_has h_l_draw (hr.mono (by decide)) (by rfl) (pa_cons (pv 0) (pa_cons pe_int pa_nil))) (fun _ _ => rfl)) pa_nil)))))))
    (pss_one (ps_ret (pe_callTy call_tuple_of (by rfl) B.b_tuple (by decide +kernel) (pa_cons (pv 2) pa_nil))))))

abbrev s_l_deed : Stmt := top 22
theorem sc_l_deed : FnScope N_l_deed ["_law_well_here"] (defScope s_l_deed) := ⟨rfl, rfl, rfl, by decide +kernel, rfl, by decide +kernel, by decide +kernel⟩
theorem ok_l_deed (F : ∃ fd, FnP K "_law_deed" s_l_deed (He.ga K "_law_deed") fd) (gm : mg "_law_deed" = some (.ref (He.ga K "_law_deed"))) (B : Bl mg) (h_l_numbers : Has P w K mg base "_law_numbers" 3 ["_law_well_here", "_law_size"] spNumbers) (h_l_draw : Has P w K mg base "_law_draw" 2 ["_law_well_here", "_law_many"] spDraw) (h_l_names : Has P w K mg base "_law_names" 3 ["_law_well_here", "_law_many"] spNames) (h_l_pick : Has P w K mg base "_law_pick" 3 ["_law_well_here", "_law_some"] spPick) : Has P w K mg base "_law_deed" 4 ["_law_well_here"] (spDeed K) := by
  obtain ⟨fd, F⟩ := F
  refine ⟨_, fd, gm, F.kp, FunD.bindsN (ps := ["_law_well_here"]) F fun _ _ _ _ _ _ us hl => match us, hl with | [_], _ => rfl, F.ok sc_l_deed (fun vs H Q E h => p_l_deed_len h) (fun cdv A outer s H vs Q E hr h => ⟨t_l_deed K, PSs.nox ?_, p_l_deed h⟩)⟩
  have hu := hu_of hr
  exact (pss_cons (ps_set (i := 1) sc_l_deed.nd rfl (Or.inl rfl) (pe_has h_l_pick (hr.mono (by decide)) (by rfl) (pa_cons (pv 0) (pa_cons (pe_lst (pa_cons pe_str (pa_cons pe_str (pa_cons pe_str (pa_cons pe_str (pa_cons pe_str (pa_cons pe_str (pa_cons pe_str (pa_cons pe_str (pa_cons pe_str (pa_cons pe_str pa_nil))))))))))) pa_nil))))
    (pss_cons (ps_asg (pe_has h_l_names (hr.mono (by decide)) (by rfl) (pa_cons (pv 0) (pa_cons pe_int pa_nil))) (pg_unl rfl (pgs_cons (pg_name (i := 2) sc_l_deed.nd rfl (Or.inl rfl)) (pgs_cons (pg_name (i := 3) sc_l_deed.nd rfl (Or.inl rfl)) pgs_nil))))
    (pss_cons (ps_if (pt_cmpR op_eq (pv 1) pe_str (nomark _)) (pss_cons (ps_set (i := 4) sc_l_deed.nd rfl (Or.inl rfl) (pe_ix ix_list (pe_lst (pa_cons pe_int (pa_cons pe_int (pa_cons (pe_has h_l_draw (hr.mono (by decide)) (by rfl) (pa_cons (pv 0) (pa_cons pe_int pa_nil))) (pa_cons (pe_has h_l_draw (hr.mono (by decide)) (by rfl) (pa_cons (pv 0) (pa_cons (pe_op op_pow pe_int pe_int) pa_nil))) pa_nil))))) (pe_has h_l_draw (hr.mono (by decide)) (by rfl) (pa_cons (pv 0) (pa_cons pe_int pa_nil))) (fun _ _ => rfl)))
      (pss_one (ps_ret (pe_tup (pa_cons (pe_tup (pa_cons (pv 1) (pa_cons (pv 4) pa_nil))) (pa_cons (pe_lst (pa_cons pe_str (pa_cons pe_str pa_nil))) pa_nil)))))) pss_nil)
    (pss_cons (ps_if (pt_cmpR op_in_seq (pv 1) (pe_tup (pa_cons pe_str (pa_cons pe_str pa_nil))) (by rfl)) (pss_one (ps_ret (pe_tup (pa_cons (pe_tup (pa_cons (pv 1) (pa_cons (pv 2) (pa_cons (pe_has h_l_numbers (hr.mono (by decide)) (by rfl) (pa_cons (pv 0) (pa_cons (pe_op op_add pe_int (pe_has h_l_draw (hr.mono (by decide)) (by rfl) (pa_cons (pv 0) (pa_cons pe_int pa_nil)))) pa_nil))) pa_nil)))) (pa_cons (pe_lst (pa_cons pe_str (pa_cons pe_str (pa_cons pe_str pa_nil)))) pa_nil))))) pss_nil)
    (pss_cons (ps_if (pt_cmpR op_in_seq (pv 1) (pe_tup (pa_cons pe_str (pa_cons pe_str pa_nil))) (by rfl)) (pss_one (ps_ret (pe_tup (pa_cons (pe_tup (pa_cons (pv 1) (pa_cons (pv 2) (pa_cons (pv 3) pa_nil)))) (pa_cons (pe_lst (pa_cons pe_str (pa_cons pe_str (pa_cons pe_str pa_nil)))) pa_nil))))) pss_nil)
    (pss_one (ps_ret (pe_tup (pa_cons (pe_tup (pa_cons (pv 1) (pa_cons (pv 2) pa_nil))) (pa_cons (pe_lst (pa_cons pe_str (pa_cons pe_str pa_nil))) pa_nil))))))))))

abbrev s_l_odd : Stmt := top 23
theorem sc_l_odd : FnScope N_l_odd ["_law_well_here", "_law_sort"] (defScope s_l_odd) := ⟨rfl, rfl, rfl, by decide +kernel, rfl, by decide +kernel, by decide +kernel⟩
theorem ok_l_odd (F : ∃ fd, FnP K "_law_odd" s_l_odd (He.ga K "_law_odd") fd) (gm : mg "_law_odd" = some (.ref (He.ga K "_law_odd"))) (B : Bl mg) (h_l_pick : Has P w K mg base "_law_pick" 3 ["_law_well_here", "_law_some"] spPick) : Has P w K mg base "_law_odd" 4 ["_law_well_here", "_law_sort"] (spOdd K) := by
  obtain ⟨fd, F⟩ := F
  refine ⟨_, fd, gm, F.kp, FunD.bindsN (ps := ["_law_well_here", "_law_sort"]) F fun _ _ _ _ _ _ us hl => match us, hl with | [_, _], _ => rfl, F.ok sc_l_odd (fun vs H Q E h => p_l_odd_len h) (fun cdv A outer s H vs Q E hr h => ⟨t_l_odd K, PSs.nox ?_, p_l_odd h⟩)⟩
  have hu := hu_of hr
  exact (pss_cons (ps_if (pt_cmpR op_eq (pv 1) pe_str (nomark _)) (pss_cons (ps_set (i := 2) sc_l_odd.nd rfl (Or.inl rfl) (pe_lst (pa_cons pe_str (pa_cons pe_str (pa_cons pe_str (pa_cons pe_str (pa_cons pe_non (pa_cons pe_int (pa_cons pe_str (pa_cons (pe_tup (pa_cons pe_str pa_nil)) (pa_cons (pe_lst (pa_cons pe_str pa_nil)) pa_nil)))))))))))
      (pss_one (ps_ret (pe_has h_l_pick (hr.mono (by decide)) (by rfl) (pa_cons (pv 0) (pa_cons (pe_op op_cat (pv 2) (pe_lst (pa_cons pe_str (pa_cons pe_bl pa_nil)))) pa_nil)))))) pss_nil)
    (pss_cons (ps_if (pt_cmpR op_eq (pv 1) pe_str (nomark _)) (pss_one (ps_ret (pe_has h_l_pick (hr.mono (by decide)) (by rfl) (pa_cons (pv 0) (pa_cons (pe_lst (pa_cons (pe_un un_neg pe_int) (pa_cons pe_bl (pa_cons pe_bl (pa_cons pe_non (pa_cons pe_str (pa_cons pe_str (pa_cons (pe_tup (pa_cons pe_int pa_nil)) (pa_cons (pe_lst (pa_cons pe_int pa_nil)) (pa_cons (pe_op op_sub pe_int (pe_op op_pow pe_int pe_int)) pa_nil)))))))))) pa_nil))))) pss_nil)
    (pss_cons (ps_if (pt_cmpR op_eq (pv 1) pe_str (nomark _)) (pss_one (ps_ret (pe_has h_l_pick (hr.mono (by decide)) (by rfl) (pa_cons (pv 0) (pa_cons (pe_lst (pa_cons pe_str (pa_cons pe_str (pa_cons pe_str (pa_cons pe_str (pa_cons pe_str (pa_cons pe_non (pa_cons pe_int (pa_cons pe_bl (pa_cons (pe_tup (pa_cons pe_str pa_nil)) (pa_cons (pe_lst (pa_cons pe_str pa_nil)) (pa_cons (pe_tup (pa_cons pe_int pa_nil)) pa_nil)))))))))))) pa_nil))))) pss_nil)
    (pss_cons (ps_set (i := 2) sc_l_odd.nd rfl (Or.inl rfl) (pe_lst (pa_cons (pe_tup pa_nil) (pa_cons (pe_tup (pa_cons pe_int (pa_cons pe_int (pa_cons pe_int (pa_cons pe_int pa_nil))))) (pa_cons (pe_tup (pa_cons (pe_op op_add (pe_op op_pow pe_int pe_int) pe_int) pa_nil)) (pa_cons (pe_tup (pa_cons pe_int (pa_cons (pe_op op_sub (pe_op op_sub pe_int (pe_op op_pow pe_int pe_int)) pe_int) pa_nil))) (pa_cons (pe_tup (pa_cons pe_bl pa_nil)) (pa_cons (pe_tup (pa_cons pe_int (pa_cons pe_bl pa_nil))) pa_nil))))))))
    (pss_one (ps_ret (pe_has h_l_pick (hr.mono (by decide)) (by rfl) (pa_cons (pv 0) (pa_cons (pe_op op_cat (pv 2) (pe_lst (pa_cons (pe_tup (pa_cons pe_non pa_nil)) (pa_cons (pe_tup (pa_cons pe_str pa_nil)) (pa_cons (pe_lst (pa_cons pe_int pa_nil)) (pa_cons pe_int (pa_cons pe_str (pa_cons pe_non pa_nil)))))))) pa_nil)))))))))

abbrev s_l_spoilt : Stmt := top 24
theorem sc_l_spoilt : FnScope N_l_spoilt ["_law_well_here", "_law_deed_here", "_law_sorts"] (defScope s_l_spoilt) := ⟨rfl, rfl, rfl, by decide +kernel, rfl, by decide +kernel, by decide +kernel⟩
theorem ok_l_spoilt (F : ∃ fd, FnP K "_law_spoilt" s_l_spoilt (He.ga K "_law_spoilt") fd) (gm : mg "_law_spoilt" = some (.ref (He.ga K "_law_spoilt"))) (B : Bl mg) (h_l_odd : Has P w K mg base "_law_odd" 4 ["_law_well_here", "_law_sort"] (spOdd K)) (h_l_draw : Has P w K mg base "_law_draw" 2 ["_law_well_here", "_law_many"] spDraw) (h_l_pick : Has P w K mg base "_law_pick" 3 ["_law_well_here", "_law_some"] spPick) : Has P w K mg base "_law_spoilt" 5 ["_law_well_here", "_law_deed_here", "_law_sorts"] (spSpoilt K) := by
  obtain ⟨fd, F⟩ := F
  refine ⟨_, fd, gm, F.kp, FunD.bindsN (ps := ["_law_well_here", "_law_deed_here", "_law_sorts"]) F fun _ _ _ _ _ _ us hl => match us, hl with | [_, _, _], _ => rfl, F.ok sc_l_spoilt (fun vs H Q E h => p_l_spoilt_len h) (fun cdv A outer s H vs Q E hr h => ⟨t_l_spoilt K, PSs.nox ?_, p_l_spoilt h⟩)⟩
  have hu := hu_of hr
  exact (pss_cons (ps_set (i := 3) sc_l_spoilt.nd rfl (Or.inl rfl) (pe_has h_l_draw (hr.mono (by decide)) (by rfl) (pa_cons (pv 0) (pa_cons pe_int pa_nil))))
    (pss_cons (ps_if (pt_cmpR op_eq (pv 3) pe_int (nomark _)) (pss_one (ps_ret (pe_has h_l_pick (hr.mono (by decide)) (by rfl) (pa_cons (pv 0) (pa_cons (pe_lst (pa_cons (pe_callTy call_list_of (by rfl) B.b_list (by decide +kernel) (pa_cons (pv 1) pa_nil)) (pa_cons (pe_slice sl_tupA (pv 1) po_none (po_some (pe_un un_neg pe_int))) (pa_cons (pe_op op_catA (pv 1) (pe_tup (pa_cons pe_int pa_nil))) (pa_cons (pe_op op_catA (pv 1) (pe_tup (pa_cons (pe_ix ix_tup (pv 1) (pe_un un_neg pe_int) (fun _ _ => rfl)) pa_nil))) (pa_cons (pe_tup (pa_cons (pv 1) pa_nil)) pa_nil)))))) pa_nil))))) pss_nil)
    (pss_cons (ps_if (PW.pt (pw_and (pt_cmpR op_eq (pv 3) pe_int (nomark _)) (pw_and1 (pt_cmpR op_in_seq (pe_ix ix_tup (pv 1) pe_int (fun _ _ => rfl)) (pe_tup (pa_cons pe_str (pa_cons pe_str pa_nil))) (by rfl))))) (pss_one (ps_ret (pe_op op_catA (pe_slice sl_tupA (pv 1) po_none (po_some pe_int)) (pe_tup (pa_cons (pe_ix ix_tup (pv 1) pe_int (fun _ _ => rfl)) pa_nil))))) pss_nil)
    (pss_cons (ps_set (i := 4) sc_l_spoilt.nd rfl (Or.inl rfl) (pe_has h_l_draw (hr.mono (by decide)) (by rfl) (pa_cons (pv 0) (pa_cons (pe_callB call_len_seq (by rfl) B.b_len (by decide +kernel) (pa_cons (pv 1) pa_nil)) pa_nil))))
    (pss_one (ps_ret (pe_op op_catA (pe_op op_catA (pe_slice sl_tupA (pv 1) po_none (po_some (pv 4))) (pe_tup (pa_cons (pe_has h_l_odd (hr.mono (by decide)) (by rfl) (pa_cons (pv 0) (pa_cons (pe_ix ix_list (pv 2) (pv 4) (fun _ _ => rfl)) pa_nil))) pa_nil))) (pe_slice sl_tupA (pv 1) (po_some (pe_op op_add (pv 4) pe_int)) po_none))))))))

abbrev s_law : Stmt := top 25
theorem sc_law : FnScope N_law ["_law_script"] (defScope s_law) := ⟨rfl, rfl, rfl, by decide +kernel, rfl, by decide +kernel, by decide +kernel⟩
theorem ok_law {f : Addr} {fd : FuncData} (F : FnP K "law" s_law f fd) (B : Bl mg) (h_is_deed : Has P w K mg base "is_deed" 3 ["thing"] spIsDeed) (h_l_cell_at : Has P w K mg base "_law_cell_at" 1 ["_law_script", "_law_k"] (spCellAt K)) (h_l_spoilt : Has P w K mg base "_law_spoilt" 5 ["_law_well_here", "_law_deed_here", "_law_sorts"] (spSpoilt K)) (h_l_deed : Has P w K mg base "_law_deed" 4 ["_law_well_here"] (spDeed K)) (h_l_well : Has P w K mg base "_law_well" 1 ["_law_cell"] spBegin) : FnOk P w K mg base CX0 6 f fd ["_law_script"] (spLaw K) := by
  refine F.ok sc_law (fun vs H Q E h => p_law_len h) (fun cdv A outer s H vs Q E hr h => ⟨t_law K, PSs.nox ?_, p_law h⟩)
  have hu := hu_of hr
  exact (pss_cons (ps_for PassesOwn.never rfl (pi_list (pe_op op_cat (pe_lst (pa_cons (pe_has h_l_cell_at (hr.mono (by decide)) (by rfl) (pa_cons (pv 0) (pa_cons pe_int pa_nil))) pa_nil)) (pe_slice sl_list (pv 0) (po_some pe_int) (po_some pe_int)))) (pg_name (i := 1) sc_law.nd rfl (Or.inl rfl)) (pss_cons (ps_set (i := 2) sc_law.nd rfl (Or.inl rfl) (pe_has h_l_well (hr.mono (by decide)) (by rfl) (pa_cons (pv 1) pa_nil)))
      (pss_cons (ps_asg (pe_has h_l_deed (hr.mono (by decide)) (by rfl) (pa_cons (pv 2) pa_nil)) (pg_tup rfl (pgs_cons (pg_name (i := 3) sc_law.nd rfl (Or.inl rfl)) (pgs_cons (pg_name (i := 4) sc_law.nd rfl (Or.inl rfl)) pgs_nil))))
      (pss_cons (ps_if (PW.pt (pw_or (pt_cmpR op_notBl (pe_has h_is_deed (hr.mono (by decide)) (by rfl) (pa_cons (pv 3) pa_nil)) pe_bl (nomark _)) (pw_or1 (pt_cmpR op_notBl (pe_has h_is_deed (hr.mono (by decide)) (by rfl) (pa_cons (pe_callTy call_tuple_of (by rfl) B.b_tuple (by decide +kernel) (pa_cons (pe_callTy call_list_of (by rfl) B.b_list (by decide +kernel) (pa_cons (pv 3) pa_nil)) pa_nil)) pa_nil)) pe_bl (nomark _))))) (pss_one (ps_ret pe_bl)) pss_nil)
      (pss_cons (ps_set (i := 5) sc_law.nd rfl (Or.inl rfl) (pe_has h_l_spoilt (hr.mono (by decide)) (by rfl) (pa_cons (pv 2) (pa_cons (pv 3) (pa_cons (pv 4) pa_nil)))))
      (pss_cons (ps_if (pt_cmpR op_notBl (pe_has h_is_deed (hr.mono (by decide)) (by rfl) (pa_cons (pv 5) pa_nil)) pe_bl (nomark _)) (pss_one (ps_ret pe_bl)) pss_nil)
      (pss_one (ps_for PassesOwn.never rfl (pi_list (pe_lst (pa_cons pe_non (pa_cons pe_bl (pa_cons pe_int (pa_cons pe_str (pa_cons (pe_tup pa_nil) (pa_cons (pe_lst pa_nil) (pa_cons pe_dnewK (pa_cons (pe_tup (pa_cons pe_str pa_nil)) (pa_cons pe_str (pa_cons (pe_tup (pa_cons pe_str (pa_cons pe_str pa_nil))) (pa_cons (pe_tup (pa_cons (pe_tup (pa_cons pe_str (pa_cons pe_str pa_nil))) pa_nil)) pa_nil))))))))))))) (pg_name (i := 6) sc_law.nd rfl (Or.inl rfl)) (pss_one (ps_if (pt_cmpR op_notBl (pe_has h_is_deed (hr.mono (by decide)) (by rfl) (pa_cons (pv 6) pa_nil)) pe_bl (nomark _)) (pss_one (ps_ret pe_bl)) pss_nil))))))))))
    (pss_one (ps_ret (pe_and (pe_cmpR op_isBl (pe_has h_is_deed (hr.mono (by decide)) (by rfl) (pa_cons (pe_tup (pa_cons pe_str (pa_cons pe_str pa_nil))) pa_nil)) pe_bl (nomark _)) (pe_one (pe_cmpR op_isBl (pe_has h_is_deed (hr.mono (by decide)) (by rfl) (pa_cons (pe_tup (pa_cons pe_str (pa_cons pe_str (pa_cons pe_str pa_nil)))) pa_nil)) pe_bl (nomark _)))))))
end

def dd_is_int : He.DefD := ⟨("is_int", none), "is_int", "is_int", defArgs s_is_int, defBody s_is_int, defScope s_is_int, [], []⟩
def dd_is_name : He.DefD := ⟨("is_name", none), "is_name", "is_name", defArgs s_is_name, defBody s_is_name, defScope s_is_name, [], []⟩
def dd_is_numbers : He.DefD := ⟨("is_numbers", none), "is_numbers", "is_numbers", defArgs s_is_numbers, defBody s_is_numbers, defScope s_is_numbers, [], []⟩
def dd_is_deed : He.DefD := ⟨("is_deed", none), "is_deed", "is_deed", defArgs s_is_deed, defBody s_is_deed, defScope s_is_deed, [], []⟩
def dd_l_cell_at : He.DefD := ⟨("_law_cell_at", none), "_law_cell_at", "_law_cell_at", defArgs s_l_cell_at, defBody s_l_cell_at, defScope s_l_cell_at, [], []⟩
def dd_l_mixed : He.DefD := ⟨("_law_mixed", none), "_law_mixed", "_law_mixed", defArgs s_l_mixed, defBody s_l_mixed, defScope s_l_mixed, [], []⟩
def dd_l_well : He.DefD := ⟨("_law_well", none), "_law_well", "_law_well", defArgs s_l_well, defBody s_l_well, defScope s_l_well, [], []⟩
def dd_l_draw : He.DefD := ⟨("_law_draw", none), "_law_draw", "_law_draw", defArgs s_l_draw, defBody s_l_draw, defScope s_l_draw, [], []⟩
def dd_l_pick : He.DefD := ⟨("_law_pick", none), "_law_pick", "_law_pick", defArgs s_l_pick, defBody s_l_pick, defScope s_l_pick, [], []⟩
def dd_l_names : He.DefD := ⟨("_law_names", none), "_law_names", "_law_names", defArgs s_l_names, defBody s_l_names, defScope s_l_names, [], []⟩
def dd_l_numbers : He.DefD := ⟨("_law_numbers", none), "_law_numbers", "_law_numbers", defArgs s_l_numbers, defBody s_l_numbers, defScope s_l_numbers, [], []⟩
def dd_l_deed : He.DefD := ⟨("_law_deed", none), "_law_deed", "_law_deed", defArgs s_l_deed, defBody s_l_deed, defScope s_l_deed, [], []⟩
def dd_l_odd : He.DefD := ⟨("_law_odd", none), "_law_odd", "_law_odd", defArgs s_l_odd, defBody s_l_odd, defScope s_l_odd, [], []⟩
def dd_l_spoilt : He.DefD := ⟨("_law_spoilt", none), "_law_spoilt", "_law_spoilt", defArgs s_l_spoilt, defBody s_l_spoilt, defScope s_l_spoilt, [], []⟩
def dd_law : He.DefD := ⟨("law", none), "law", "law", defArgs s_law, defBody s_law, defScope s_law, [], []⟩
def fn : List He.DefD := [dd_is_int, dd_is_name, dd_is_numbers, dd_is_deed, dd_l_cell_at, dd_l_mixed, dd_l_well, dd_l_draw, dd_l_pick, dd_l_names, dd_l_numbers, dd_l_deed, dd_l_odd, dd_l_spoilt, dd_law]
def fa : List He.Fa := [.glo "is_int", .glo "is_name", .glo "is_numbers", .glo "is_deed", .glo "_law_cell_at", .glo "_law_mixed", .glo "_law_well", .glo "_law_draw", .glo "_law_pick", .glo "_law_names", .glo "_law_numbers", .glo "_law_deed", .glo "_law_odd", .glo "_law_spoilt", .glo "law", .free "all", .free "bool", .free "int", .free "isinstance", .free "len", .free "list", .free "range", .free "str", .free "tuple", .str "LETTERS" "abcdefghijklmnopqrstuvwxyz", .int "MOST_LETTERS" 8, .int "MOST_NUMBERS" 3, .int "FAR" 1000000000000, .glo "OF_ONE", .glo "OF_NUMBERS", .glo "OF_TWO"]
def loose : List Str := (["LETTERS", "MOST_LETTERS", "MOST_NUMBERS", "FAR", "OF_ONE", "OF_NUMBERS", "OF_TWO", "is_int", "is_name", "is_numbers", "is_deed", "_law_cell_at", "_law_mixed", "_law_well", "_law_draw", "_law_pick", "_law_names", "_law_numbers", "_law_ties", "_law_web", "_law_deed", "_law_odd", "_law_spoilt"] : List Str)
def ex (K : PySem.W.Frag) : Bool := He.tupB K "OF_ONE" [.str "turn", .str "fall", .str "back", .str "fresh", .str "leave"] && He.tupB K "OF_NUMBERS" [.str "set", .str "join"] && He.tupB K "OF_TWO" [.str "tie", .str "cut"]
abbrev R : PySem.W.OpenRow := PySem.W.OpenLaw.row PySem.Challenge.rw_sumtold_k14_what_is_a_deed
abbrev hk : PySem.W.Hook := Go.hookE 4 fa fn ex
def ob (s : PySem.W.SharedT) : He.AlD × Bool := Go.obsE 4 fa fn ex (HandSHeadRun.getT s)
theorem ob_eq (s : PySem.W.SharedT) : ob s = hk.obs s.abs := Go.obsE_eq (HandSHeadRun.getT_eq s)
theorem run (w : World) : HandSHeadRun.RunEq R (PySem.W.view R.prog [25]) hk ob 2000 loose w := by
  intro os
  kernel_rfl
theorem facts {P : Program} {w : World} {K : PySem.W.Frag} {h : Heap} {mg : Str → Option Value} {f : Addr} (X : K.In h) (G : h.Ns mainGlobals mg) (hfa : mg ("law" : Str) = some (.ref f)) (c : He.SaysD fa fn K) (cx : ex K = true) :
    ∃ fd : FuncData, (∀ (s : Shared) (v : Value), BindsTo s fd ⟨[v], []⟩ [("_law_script", v)]) ∧ ∀ base : Heap, K.In base → base.Ns mainGlobals mg → FnOk P w K mg base CX0 6 f fd ["_law_script"] ((spLaw K)) := by
  have F_is_int := c.def_ 0 (d := dd_is_int) rfl
  have g_is_int := He.glo_ok X G (c.fact 0 (f := .glo "is_int") rfl)
  have F_is_name := c.def_ 1 (d := dd_is_name) rfl
  have g_is_name := He.glo_ok X G (c.fact 1 (f := .glo "is_name") rfl)
  have F_is_numbers := c.def_ 2 (d := dd_is_numbers) rfl
  have g_is_numbers := He.glo_ok X G (c.fact 2 (f := .glo "is_numbers") rfl)
  have F_is_deed := c.def_ 3 (d := dd_is_deed) rfl
  have g_is_deed := He.glo_ok X G (c.fact 3 (f := .glo "is_deed") rfl)
  have F_l_cell_at := c.def_ 4 (d := dd_l_cell_at) rfl
  have g_l_cell_at := He.glo_ok X G (c.fact 4 (f := .glo "_law_cell_at") rfl)
  have F_l_mixed := c.def_ 5 (d := dd_l_mixed) rfl
  have g_l_mixed := He.glo_ok X G (c.fact 5 (f := .glo "_law_mixed") rfl)
  have F_l_well := c.def_ 6 (d := dd_l_well) rfl
  have g_l_well := He.glo_ok X G (c.fact 6 (f := .glo "_law_well") rfl)
  have F_l_draw := c.def_ 7 (d := dd_l_draw) rfl
  have g_l_draw := He.glo_ok X G (c.fact 7 (f := .glo "_law_draw") rfl)
  have F_l_pick := c.def_ 8 (d := dd_l_pick) rfl
  have g_l_pick := He.glo_ok X G (c.fact 8 (f := .glo "_law_pick") rfl)
  have F_l_names := c.def_ 9 (d := dd_l_names) rfl
  have g_l_names := He.glo_ok X G (c.fact 9 (f := .glo "_law_names") rfl)
  have F_l_numbers := c.def_ 10 (d := dd_l_numbers) rfl
  have g_l_numbers := He.glo_ok X G (c.fact 10 (f := .glo "_law_numbers") rfl)
  have F_l_deed := c.def_ 11 (d := dd_l_deed) rfl
  have g_l_deed := He.glo_ok X G (c.fact 11 (f := .glo "_law_deed") rfl)
  have F_l_odd := c.def_ 12 (d := dd_l_odd) rfl
  have g_l_odd := He.glo_ok X G (c.fact 12 (f := .glo "_law_odd") rfl)
  have F_l_spoilt := c.def_ 13 (d := dd_l_spoilt) rfl
  have g_l_spoilt := He.glo_ok X G (c.fact 13 (f := .glo "_law_spoilt") rfl)
  have F_law := c.def_ 14 (d := dd_law) rfl
  have g_law := He.glo_ok X G (c.fact 14 (f := .glo "law") rfl)
  have B : Bl mg := ⟨He.free_ok X G (c.fact 15 (f := .free "all") rfl), He.free_ok X G (c.fact 16 (f := .free "bool") rfl), He.free_ok X G (c.fact 17 (f := .free "int") rfl), He.free_ok X G (c.fact 18 (f := .free "isinstance") rfl), He.free_ok X G (c.fact 19 (f := .free "len") rfl), He.free_ok X G (c.fact 20 (f := .free "list") rfl), He.free_ok X G (c.fact 21 (f := .free "range") rfl), He.free_ok X G (c.fact 22 (f := .free "str") rfl), He.free_ok X G (c.fact 23 (f := .free "tuple") rfl)⟩
  unfold ex at cx
  obtain ⟨cx, x2⟩ := He.ba cx
  obtain ⟨cx, x1⟩ := He.ba cx
  have x0 := cx
  have TT : Gt K := ⟨fun H => He.tupB_ok x0 H, fun H => He.tupB_ok x1 H, fun H => He.tupB_ok x2 H⟩
  have GG : Gs K mg := ⟨TT, He.str_ok X G (c.fact 24 (f := .str "LETTERS" "abcdefghijklmnopqrstuvwxyz") rfl), He.int_ok X G (c.fact 25 (f := .int "MOST_LETTERS" 8) rfl), He.int_ok X G (c.fact 26 (f := .int "MOST_NUMBERS" 3) rfl), He.int_ok X G (c.fact 27 (f := .int "FAR" 1000000000000) rfl), He.glo_ok X G (c.fact 28 (f := .glo "OF_ONE") rfl), He.glo_ok X G (c.fact 29 (f := .glo "OF_NUMBERS") rfl), He.glo_ok X G (c.fact 30 (f := .glo "OF_TWO") rfl)⟩
  have e := hfa.symm.trans g_law
  cases e
  obtain ⟨fd, Fl⟩ := F_law
  refine ⟨fd, fun s v => (FunD.bindsA (ps := ["_law_script"]) Fl fun _ _ _ _ _ _ us hl => match us, hl with | [_], _ => rfl) s [v] rfl, fun base _ _ => ?_⟩
  have h_is_int := ok_is_int (P := P) (w := w) (base := base) F_is_int g_is_int B 
  have h_is_name := ok_is_name (P := P) (w := w) (base := base) F_is_name g_is_name B GG 
  have h_is_numbers := ok_is_numbers (P := P) (w := w) (base := base) F_is_numbers g_is_numbers B GG h_is_int
  have h_is_deed := ok_is_deed (P := P) (w := w) (base := base) F_is_deed g_is_deed B GG h_is_name h_is_numbers h_is_int
  have h_l_cell_at := ok_l_cell_at (P := P) (w := w) (base := base) F_l_cell_at g_l_cell_at B 
  have h_l_mixed := ok_l_mixed (P := P) (w := w) (base := base) F_l_mixed g_l_mixed B 
  have h_l_well := ok_l_well (P := P) (w := w) (base := base) F_l_well g_l_well B 
  have h_l_draw := ok_l_draw (P := P) (w := w) (base := base) F_l_draw g_l_draw B h_l_mixed
  have h_l_pick := ok_l_pick (P := P) (w := w) (base := base) F_l_pick g_l_pick B h_l_draw
  have h_l_names := ok_l_names (P := P) (w := w) (base := base) F_l_names g_l_names B h_l_draw
  have h_l_numbers := ok_l_numbers (P := P) (w := w) (base := base) F_l_numbers g_l_numbers B h_l_draw
  have h_l_deed := ok_l_deed (P := P) (w := w) (base := base) F_l_deed g_l_deed B h_l_numbers h_l_draw h_l_names h_l_pick
  have h_l_odd := ok_l_odd (P := P) (w := w) (base := base) F_l_odd g_l_odd B h_l_pick
  have h_l_spoilt := ok_l_spoilt (P := P) (w := w) (base := base) F_l_spoilt g_l_spoilt B h_l_odd h_l_draw h_l_pick
  exact ok_law (P := P) (w := w) (base := base) Fl B h_is_deed h_l_cell_at h_l_spoilt h_l_deed h_l_well

end Sum
open PySem PySem.W PySem.Calls PyProof.Rows
set_option maxRecDepth 100000 in
set_option maxHeartbeats 0 in
theorem PySem.Challenge.cw_sumtold_k14_what_is_a_deed_holds : PySem.Challenge.rw_sumtold_k14_what_is_a_deed.Holds := by
  w_on; o_law
  refine HandSHeadRun.head_any (r := OpenLaw.row PySem.Challenge.rw_sumtold_k14_what_is_a_deed) (q := view (OpenLaw.row PySem.Challenge.rw_sumtold_k14_what_is_a_deed).prog [25]) (H := Sum.hk) (ob := Sum.ob) (M := 2000) (loose := Sum.loose) (d := HandSHeadRun.topDef (OpenLaw.row PySem.Challenge.rw_sumtold_k14_what_is_a_deed).prog 25) (kwd := []) Sum.ob_eq
    (by kernel_rfl) (fun s => by kernel_rfl) Sum.run (by kernel_rfl) (by kernel_rfl) (by kernel_rfl) (by rfl) (by first | assumption | decide +kernel) (by decide +kernel) ⟨rfl, rfl, rfl, rfl, rfl, by decide +kernel⟩ ?hw ?hc
  case hw => w_witness2
  case hc =>
    refine L2.walk_ofE (l := PySem.Challenge.rw_sumtold_k14_what_is_a_deed) (n := 63) (k := 6) (x := "_law_script") (CX := L2.CX0) rfl (by decide) (by kernel_rfl) ⟨rfl, by decide, by decide⟩ ?F (fun _ _ _ _ z => z)
    intro w mg fa h Y G hmg0
    obtain ⟨K, KX, c, cx⟩ := Y
    have hmg : mg ("law" : PySem.Str) = some (.ref fa) := by
      have e : (HandSHeadRun.topDef (OpenLaw.row PySem.Challenge.rw_sumtold_k14_what_is_a_deed).prog 25).name = ("law" : PySem.Str) := by kernel_rfl
      rw [← e]
      exact hmg0
    obtain ⟨fd, hb, hF⟩ := Sum.facts (P := (PySem.Challenge.rw_sumtold_k14_what_is_a_deed).prog) (w := w) KX G hmg c cx
    exact ⟨K, fd, Sum.spLaw K, KX, hb, fun H a ns hl _ hS => ⟨a, ns, rfl, hS, hl, fun _ => rfl⟩, hF⟩
#print axioms PySem.Challenge.cw_sumtold_k14_what_is_a_deed_holds
