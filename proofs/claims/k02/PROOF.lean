import PyProof.Rows.All
import Wide.All
import OpenK.AllK
import Wide.FinOn
import HandS.ForMost
import HandS.Flow
import HandS.IsInst
import HandS.WideBits
import HandS.Style
import HandS.TupAny
import HandS.TupMul
import HandS.Steps
import HandS.Evl
import HandS.Zip
import HandS.Walk
import HandS.Defaults
import HandS.HeadEnd
import HandS.HeadHook2
import HandS.Head2
import HandS.Conv
import HandS.Text
import HandS.Codes
import HandS.NoneIn
import HandS.CallLocal
import PySem.Challenge.RW_sumtold_k02_what_is_a_pair_or_part
set_option Elab.async false
set_option linter.all false
set_option maxRecDepth 100000
set_option maxHeartbeats 4000000
namespace Go
open PySem PySem.Spec PyProof.Rows L2
/-! ### readings by short names -/
abbrev rAddI : R2 := rI0 fun i j => .int (i + j)
abbrev rSubI : R2 := rI0 fun i j => .int (i - j)
abbrev rMulI : R2 := rI CMul fun i j => .int (i * j)
abbrev rMulX : R2 := rI CMulX fun i j => .int (i * j)
abbrev rDivI : R2 := rI CDivW fun i j => .int (i / j)
abbrev rModI : R2 := rI (fun _ j => 0 < j) fun i j => .int (i % j)
abbrev rPowI : R2 := rI CPow fun i j => .int (i ^ j.toNat)
abbrev rShlI : R2 := rI CShl fun i j => .int (i * 2 ^ j.toNat)
abbrev rShrI : R2 := rI (fun _ j => 0 ≤ j) fun i j => .int (i / 2 ^ j.toNat)
abbrev rAndI : R2 := rI0 fun i j => .int (Builtin.bitAnd i j)
abbrev rLtI : R2 := rI0 fun i j => .bl (decide (i < j))
abbrev rLeI : R2 := rI0 fun i j => .bl (decide (i ≤ j))
abbrev rGtI : R2 := rI0 fun i j => .bl (decide (j < i))
abbrev rGeI : R2 := rI0 fun i j => .bl (decide (j ≤ i))
abbrev rNegI : V → Hp → VK → Prop := rU fun i => .int (-i)
abbrev rAbs : List V → Hp → VK → Prop := fun xs H Q => ∃ i, xs = [.int i] ∧ Q (.int (if i < 0 then -i else i)) H
abbrev rMin2 : List V → Hp → VK → Prop := fun xs H Q => ∃ i j, xs = [.int i, .int j] ∧ Q (.int (if j < i then j else i)) H
abbrev rInt1 : List V → Hp → VK → Prop := fun xs H Q => (∃ i, xs = [.int i] ∧ Q (.int i) H) ∨ ∃ k, xs = [.bl k] ∧ Q (.int (if k then 1 else 0)) H
abbrev rTupOf (K : PySem.W.Frag) : List V → Hp → VK → Prop := fun xs H Q => ∃ p ys, xs = [.ref p] ∧ ((SqL K H p ys ∧ ∀ l, H l = none → Q (.ref l) (upd H l (.tup ys))) ∨ (SqT K H p ys ∧ Q (.ref p) H))
abbrev rAddStr : R2 := fun x y H Q => ∃ i j, x = .str i ∧ y = .str j ∧ i.length + j.length ≤ sizeLine ∧ Q (.str (i ++ j)) H
abbrev rLenStr : List V → Hp → VK → Prop := fun xs H Q => ∃ z, xs = [.str z] ∧ z.length ≤ sizeLine ∧ Q (.int z.length) H
/-! ### a def that keeps its promise, by its name -/
abbrev FnP (K : PySem.W.Frag) (x : Str) (st : Stmt) (f : Addr) (fd : FuncData) : Prop := FunD K x x (defArgs st) (defBody st) (defScope st) [] [] f fd
def Has (P : Program) (w : World) (K : PySem.W.Frag) (mg : Str → Option Value) (base : Heap) (x : Str) (k : Nat) (ps : List Str) (sp : Sp) : Prop :=
  ∃ (f : Addr) (fd : FuncData), mg x = some (.ref f) ∧ PySem.W.keepIn K (.ref f) = true ∧ Binds K fd ps [] ∧ FnOk P w K mg base CX0 k f fd ps sp
theorem pe_has {X : Cx} {x : Str} {p pos : Pos} {e : Expr} {es : List Expr} {t : TA} {k : Nat} {ps : List Str} {sp : Sp} (h : Has X.prog X.w X.K X.mg X.base x k ps sp) (hr : Room k X.A) (hg : Gl X x) (ha : PA X (e :: es) t)
    (hd : (x == ("__debug__" : Str)) = false := by decide) (he : starEach (e :: es) X.env = (false, eval e X.env) :: starEach es X.env := by rfl) (hpl : (backTo pos (starEach es X.env)).any (·.1) = false := by rfl) :
    PE X (.Call (.Name x p) (e :: es) [] pos) (tCall sp [] E0 t) := by
  obtain ⟨f, fd, gm, kp, b, F⟩ := h
  exact pe_call F hr hg gm kp b .nil pass0 ha hd he hpl
/-! ### stepping -/
section
variable {K : PySem.W.Frag} {σ : L2.St} {H H' : Hp} {Q : VK} {QB : Bool → Hp → Prop} {D : Ends} {t u : TS} {c c' : TT} {te ta tb tc : TE} {tr : TA} {i : Nat} {v x y : V} {r r' : R2} {a b : Addr} {o : HO} {xs ys : List V}
theorem w_seq (h : t { D with nx := u D } σ H) : tSeq t u D σ H := h
theorem w_next (h : D.nx σ H) : tNext D σ H := h
theorem w_asg (h : te σ H fun x H1 => D.nx (σ.set i (some x)) H1) : tAsg te (gName i) D σ H := h
theorem w_drop (h : te σ H fun _ H1 => D.nx σ H1) : tDrop te D σ H := h
theorem w_ret (h : te σ H D.rt) : tRet te D σ H := h
theorem w_if (h : c σ H fun b H1 => if b = true then t D σ H1 else u D σ H1) : tIfS c t u D σ H := h
theorem w_par {j : Nat} (h : tr σ H fun vs H1 => ∃ v w, vs = [v, w] ∧ D.nx ((σ.set i (some v)).set j (some w)) H1) : tPar i j tr D σ H := h
theorem w_sub {to ti : TE} {ts : TSet} (h : te σ H fun x H1 => to σ H1 fun o H2 => ti σ H2 fun i H3 => ts o i x H3 fun H4 => D.nx σ H4) : tAsg te (gSub to ti ts) D σ H := h
theorem w_setL {xs : List V} {k : Int} {j : Nat} {Qh : Hp → Prop} (h : H a = some (.lst xs)) (hj : ixN xs.length k = some j) (q : Qh (upd H a (.lst (xs.set j v)))) : rSetL (.ref a) (.int k) v H Qh := ⟨a, xs, k, j, rfl, rfl, h, hj, q⟩
theorem w_gName {QS : L2.St → Hp → Prop} (q : QS (σ.set i (some v)) H) : gName i v σ H QS := q
theorem w_gTup {n : Nat} {tg : TGs} {QS : L2.St → Hp → Prop} (h : SqT K H a xs) (hn : xs.length = n) (q : tg xs σ H QS) : gTup K n tg (.ref a) σ H QS := ⟨a, xs, rfl, h, hn, q⟩
theorem w_gCons {g1 : TG} {tg : TGs} {QS : L2.St → Hp → Prop} (q : g1 v σ H fun σ' H' => tg xs σ' H' QS) : gCons g1 tg (v :: xs) σ H QS := ⟨v, xs, rfl, q⟩
theorem w_gNil {QS : L2.St → Hp → Prop} (q : QS σ H) : gNil [] σ H QS := ⟨rfl, q⟩
theorem w_asgG {g : TG} (h : te σ H fun x H1 => g x σ H1 D.nx) : tAsg te g D σ H := h
theorem w_var (h : σ[i]? = some (some v)) (q : Q v H) : tVar i σ H Q := ⟨v, h, q⟩
theorem w_con (q : Q v H) : tC v σ H Q := q
theorem w_op (h : ta σ H fun x H1 => tb σ H1 fun y H2 => r x y H2 Q) : tOp r ta tb σ H Q := h
theorem w_un {r : V → Hp → VK → Prop} (h : ta σ H fun x H1 => r x H1 Q) : tUn r ta σ H Q := h
theorem w_I0 {g : Int → Int → V} {i j : Int} (q : Q (g i j) H) : rI0 g (.int i) (.int j) H Q := ⟨i, j, rfl, rfl, q⟩
theorem w_I {C : Int → Int → Prop} {g : Int → Int → V} {i j : Int} (hc : C i j) (q : Q (g i j) H) : rI C g (.int i) (.int j) H Q := ⟨i, j, rfl, rfl, hc, q⟩
theorem w_mulI {i j : Int} (hc : CMul i j) (q : Q (.int (i * j)) H) : rMulI (.int i) (.int j) H Q := w_I hc q
theorem w_modI {i j : Int} (hc : 0 < j) (q : Q (.int (i % j)) H) : rModI (.int i) (.int j) H Q := w_I (C := fun _ j => 0 < j) hc q
theorem w_divI {i j : Int} (hc : CDivW i j) (q : Q (.int (i / j)) H) : rDivI (.int i) (.int j) H Q := w_I hc q
theorem w_powI {i j : Int} (hc : CPow i j) (q : Q (.int (i ^ j.toNat)) H) : rPowI (.int i) (.int j) H Q := w_I hc q
theorem w_shrI {i j : Int} (hc : 0 ≤ j) (q : Q (.int (i / 2 ^ j.toNat)) H) : rShrI (.int i) (.int j) H Q := w_I (C := fun _ j => 0 ≤ j) hc q
theorem w_mulX {i j : Int} (hc : CMulX i j) (q : Q (.int (i * j)) H) : rMulX (.int i) (.int j) H Q := w_I hc q
theorem w_shlI {i j : Int} (hc : CShl i j) (q : Q (.int (i * 2 ^ j.toNat)) H) : rShlI (.int i) (.int j) H Q := w_I hc q
theorem w_U {g : Int → V} {i : Int} (q : Q (g i) H) : rU g (.int i) H Q := ⟨i, rfl, q⟩
theorem w_eq (hs : scal x y = true) (q : Q (.bl (decide (x = y))) H) : rEq x y H Q := ⟨hs, q⟩
theorem w_ne (hs : scal x y = true) (q : Q (.bl (!decide (x = y))) H) : rNe x y H Q := ⟨hs, q⟩
theorem w_isB {p q : Bool} (h : Q (.bl (decide (p = q))) H) : rIsB (.bl p) (.bl q) H Q := ⟨p, q, rfl, rfl, h⟩
theorem w_notB {p q : Bool} (h : Q (.bl (!decide (p = q))) H) : rNotB (.bl p) (.bl q) H Q := ⟨p, q, rfl, rfl, h⟩
theorem w_isN (h : Q (.bl (decide (x = .non))) H) : L2.rIsN x .non H Q := ⟨rfl, h⟩
theorem w_notN (h : Q (.bl (!decide (x = .non))) H) : L2.rNotN x .non H Q := ⟨rfl, h⟩
theorem w_test (h : te σ H fun x H' => ∃ k, x = .bl k ∧ QB k H') : tTest te σ H QB := h
theorem w_tB (h : te σ H fun x H' => ∃ k, x = .bl k ∧ QB k H') : tB te σ H QB := h
theorem w_k {k : Bool} {R : Bool → Prop} (q : R k) : ∃ k', V.bl k = .bl k' ∧ R k' := ⟨k, rfl, q⟩
theorem w_not (h : c σ H fun k H1 => QB (!k) H1) : tNot c σ H QB := h
theorem w_and (h : c σ H fun k H1 => if k = true then c' σ H1 QB else QB false H1) : tAnd c c' σ H QB := h
theorem w_or (h : c σ H fun k H1 => if k = true then QB true H1 else c' σ H1 QB) : tOr c c' σ H QB := h
theorem w_andV (h : ta σ H fun x H1 => ∃ k, x = .bl k ∧ if k = true then tb σ H1 Q else Q (.bl false) H1) : tAndV ta tb σ H Q := h
theorem w_orV (h : ta σ H fun x H1 => ∃ k, x = .bl k ∧ if k = true then Q (.bl true) H1 else tb σ H1 Q) : tOrV ta tb σ H Q := h
theorem w_notV (h : ta σ H fun x H1 => ∃ k, x = .bl k ∧ Q (.bl (!k)) H1) : tNotV ta σ H Q := h
theorem w_chain (h : ta σ H fun x H1 => tb σ H1 fun y H2 => r x y H2 fun z H3 => ∃ k, z = .bl k ∧ (if k = true then tc σ H3 fun w' H4 => r' y w' H4 Q else Q (.bl false) H3)) : tChain r r' ta tb tc σ H Q := h
theorem w_orT (h : ta σ H fun x H1 => ∃ k, TruV K x H1 k ∧ if k = true then Q x H1 else tb σ H1 Q) : tOrT K ta tb σ H Q := h
theorem w_andT (h : ta σ H fun x H1 => ∃ k, TruV K x H1 k ∧ if k = true then tb σ H1 Q else Q x H1) : tAndT K ta tb σ H Q := h
theorem w_truI {n : Int} {R : Bool → Prop} (q : R (n != 0)) : ∃ k, TruV K (.int n) H k ∧ R k := ⟨_, rfl, q⟩
theorem w_ifE (h : c σ H fun k H1 => if k = true then ta σ H1 Q else tb σ H1 Q) : tIf c ta tb σ H Q := h
theorem w_nil {QL : List V → Hp → Prop} (q : QL [] H) : tNil σ H QL := q
theorem w_cons {QL : List V → Hp → Prop} (h : te σ H fun x H1 => tr σ H1 fun xs H2 => QL (x :: xs) H2) : tCons te tr σ H QL := h
theorem w_tup (h : tr σ H fun xs H1 => xs.length ≤ sizeLine ∧ ∀ p, H1 p = none → Q (.ref p) (upd H1 p (.tup xs))) : tTup tr σ H Q := h
theorem w_lst (h : tr σ H fun xs H1 => xs.length ≤ sizeLine ∧ ∀ p, H1 p = none → Q (.ref p) (upd H1 p (.lst xs))) : tLst tr σ H Q := h
theorem w_call {sp : Sp} {E : XK} (h : tr σ H fun vs H1 => sp vs H1 Q E) : tCall sp [] E tr σ H Q := by
  show tr σ H fun vs H1 => sp (vs ++ []) H1 Q E
  simp only [List.append_nil]
  exact h
theorem w_cb {r : List V → Hp → VK → Prop} (h : tr σ H fun vs H1 => r vs H1 Q) : tCB r tr σ H Q := h
theorem w_ixL {k : Int} (h : SqL K H a xs) (ha : atI xs k = some v) (q : Q v H) : rIxL K (.ref a) (.int k) H Q := ⟨a, xs, k, v, rfl, rfl, h, ha, q⟩
theorem w_ixT {k : Int} (h : SqT K H a xs) (ha : atI xs k = some v) (q : Q v H) : rIxT K (.ref a) (.int k) H Q := ⟨a, xs, k, v, rfl, rfl, h, ha, q⟩
theorem w_ixsL {k : Int} (h : SqL K H a xs) (ha : atI xs k = some v) (q : Q v H) : rIx K (.ref a) (.int k) H Q := .inl ⟨a, xs, k, v, rfl, rfl, h, ha, q⟩
theorem w_ixsT {k : Int} (h : SqT K H a xs) (ha : atI xs k = some v) (q : Q v H) : rIx K (.ref a) (.int k) H Q := .inr (.inl ⟨a, xs, k, v, rfl, rfl, h, ha, q⟩)
theorem w_min2 {m n : Int} (q : Q (.int (if n < m then n else m)) H) : rMin2 [.int m, .int n] H Q := ⟨m, n, rfl, q⟩
theorem w_max2 {m n : Int} (q : Q (.int (if n > m then n else m)) H) : Evl.rMax2 [.int m, .int n] H Q := ⟨m, n, rfl, q⟩
theorem w_bitsI {n : Int} {R : Int → Prop} (q : R n) : ∃ i, V.int n = .int i ∧ R i := ⟨n, rfl, q⟩
theorem w_abs {n : Int} (q : Q (.int (n.natAbs : Int)) H) : rAbs [.int n] H Q := ⟨n, rfl, by
  have e : (if n < 0 then -n else n) = (n.natAbs : Int) := by split <;> omega
  rw [e]; exact q⟩
theorem w_intB {k : Bool} (q : Q (.int (if k then 1 else 0)) H) : rInt1 [.bl k] H Q := .inr ⟨k, rfl, q⟩
theorem w_tupOfL (h : SqL K H a ys) (q : ∀ l, H l = none → Q (.ref l) (upd H l (.tup ys))) : rTupOf K [.ref a] H Q := ⟨a, ys, rfl, .inl ⟨h, q⟩⟩
theorem w_lenL (h : SqL K H a xs) (q : Q (.int xs.length) H) : Evl.rLenS K [.ref a] H Q := ⟨a, xs, rfl, .inl h, q⟩
theorem w_lenT (h : SqT K H a xs) (q : Q (.int xs.length) H) : Evl.rLenS K [.ref a] H Q := ⟨a, xs, rfl, .inr h, q⟩
theorem w_isi {cc : V} {tt uu : Value} {k : Bool} (hc : ClsV cc uu) (ht : TyX K H x tt) (hk : PySem.W.kitOne K tt uu = some k) (q : Q (.bl k) H) : rIsi K [x, cc] H Q := ⟨x, cc, tt, uu, k, rfl, hc, ht, hk, q⟩
theorem w_sl {rr : V → Option Int → Option Int → Hp → VK → Prop} {tl th : TO} (h : te σ H fun x H1 => tl σ H1 fun l H2 => th σ H2 fun u H3 => rr x l u H3 Q) : tSl rr te tl th σ H Q := h
theorem w_noPart {QO : Option Int → Hp → Prop} (q : QO none H) : tNoPart σ H QO := q
theorem w_part {QO : Option Int → Hp → Prop} (h : te σ H fun x H1 => ∃ i, x = .int i ∧ QO (some i) H1) : tPart te σ H QO := h
theorem w_partI {R : Int → Prop} {n : Int} (q : R n) : ∃ i, V.int n = .int i ∧ R i := ⟨n, rfl, q⟩
theorem w_slL {lo hi : Option Int} (h : SqL K H a xs) (q : ∀ p, H p = none → Q (.ref p) (upd H p (.lst (cutV xs lo hi)))) : rSlL K (.ref a) lo hi H Q := ⟨a, xs, rfl, h, q⟩
theorem w_cat (h : H a = some (.lst xs)) (h' : H b = some (.lst ys)) (hl : xs.length + ys.length ≤ sizeLine) (q : ∀ p, H p = none → Q (.ref p) (upd H p (.lst (xs ++ ys)))) : rCat (.ref a) (.ref b) H Q := ⟨a, b, xs, ys, rfl, rfl, h, h', hl, q⟩
theorem w_eqD {d e : PyData} (h1 : Dp K H x d) (h2 : Dp K H y e) (s1 : SeqAt.shaped d = true) (s2 : SeqAt.shaped e = true) (q : Q (.bl (PyData.eqv d e)) H) : rEqD K x y H Q := ⟨d, e, h1, h2, s1, s2, q⟩
theorem w_neD {d e : PyData} (h1 : Dp K H x d) (h2 : Dp K H y e) (s1 : SeqAt.shaped d = true) (s2 : SeqAt.shaped e = true) (q : Q (.bl (!PyData.eqv d e)) H) : rNeD K x y H Q := ⟨d, e, h1, h2, s1, s2, q⟩
theorem w_eqD_same {d : PyData} (h1 : Dp K H x d) (h2 : Dp K H y d) (s1 : SeqAt.shaped d = true) (q : Q (.bl true) H) : rEqD K x y H Q := ⟨d, d, h1, h2, s1, s1, by rw [SeqAt.eqv_refl d (SeqAt.canLay_of_shaped s1)]; exact q⟩
theorem w_neD_same {d : PyData} (h1 : Dp K H x d) (h2 : Dp K H y d) (s1 : SeqAt.shaped d = true) (q : Q (.bl false) H) : rNeD K x y H Q := ⟨d, d, h1, h2, s1, s1, by rw [SeqAt.eqv_refl d (SeqAt.canLay_of_shaped s1)]; exact q⟩
theorem dpP {m n : Int} (h : H a = some (.tup [.int m, .int n])) : Dp K H (.ref a) (.tuple [.int m, .int n]) := .tup (SqT.of h) (.cons (.int _) (.cons (.int _) .nil))
theorem dpN (h : H a = some (.lst [])) : Dp K H (.ref a) (.list []) := .lst (SqL.of h) .nil
theorem eqv_pair {m n m' n' : Int} : PyData.eqv (.tuple [.int m, .int n]) (.tuple [.int m', .int n']) = (decide (m = m') && decide (n = n')) := by
  simp [PyData.eqv, PyData.eqvAll, Bool.beq_eq_decide_eq]
theorem w_bits (h : te σ H fun x H1 => ∃ i, x = .int i ∧ Q (.int (Builtin.Int.intBits i : Nat)) H1) : tBits te σ H Q := h
/-! ### heaps -/
theorem w_bm {T : String} {r : V → List V → Hp → VK → Prop} (h : te σ H fun x H1 => tyV K T x H1 ∧ tr σ H1 fun xs H2 => r x xs H2 Q) : tBM K T r te tr σ H Q := h
theorem w_bm0 {T : String} {r : V → List V → Hp → VK → Prop} (h : te σ H fun x H1 => tyV K T x H1 ∧ r x [] H1 Q) : tBM0 K T r te σ H Q := h
theorem w_tyL {R : Prop} (h : H a = some (.lst xs)) (q : R) : tyV K "list" (.ref a) H ∧ R := ⟨.inl ⟨rfl, _, SqL.of h⟩, q⟩
theorem w_tyS {R : Prop} {z : Str} (q : R) : tyV K "str" (.str z) H ∧ R := ⟨rfl, q⟩
theorem w_append (h : H a = some (.lst xs)) (hl : xs.length < sizeLine) (q : Q .non (upd H a (.lst (xs ++ [v])))) : rAppend (.ref a) [v] H Q := ⟨a, xs, v, rfl, rfl, h, hl, q⟩
theorem w_repT {k : Nat} (h : SqT K H a xs) (h0 : xs ≠ []) (h2 : 2 ≤ k) (h3 : k ≤ 1000) (h4 : xs.length ≤ 1000) (q : ∀ p, H p = none → Q (.ref p) (upd H p (.tup (List.replicate k xs).flatten))) : rRepT K (.ref a) (.int (k : Int)) H Q := ⟨a, k, xs, rfl, rfl, h, h0, by omega, by omega, h4, by rw [Int.toNat_natCast]; exact q⟩
theorem keep {p : Addr} {u : HO} (h : H a = some o) (hp : H p = none) : upd H p u a = some o := by
  rw [upd_ne (ne_of_none h hp)]; exact h
theorem get (e : Same H H') (h : H a = some o) : H' a = some o := e a o h
theorem same_new {p : Addr} {u : HO} (hp : H p = none) : Same H (upd H p u) := fun _ _ h => keep h hp
theorem same_in {H0 : Hp} {p : Addr} {u : HO} (s : Same H0 H) (hp : H p = none) : Same H0 (upd H p u) := s.trans (same_new hp)
theorem free_of {p : Addr} {u : HO} {q : Addr} (h : upd H p u q = none) : H q = none := by
  unfold upd at h
  split at h
  · cases h
  · exact h
theorem ne_new {p : Addr} {u : HO} {q : Addr} (h : upd H p u q = none) : q ≠ p := fun e => by
  rw [e, upd_same] at h; cases h
theorem sqL (h : H a = some (.lst xs)) : SqL K H a xs := SqL.of h
theorem sqT (h : H a = some (.tup xs)) : SqT K H a xs := SqT.of h
theorem tyT (h : H a = some (.tup xs)) : TyX K H (.ref a) (.type "tuple") := .base (.tup h)
end
/-! ### isinstance -/
section
variable {K : PySem.W.Frag} {H : Hp} {Q : VK}
theorem i_int_int {n : Int} (q : Q (.bl true) H) : rIsi K [.int n, .ty "int"] H Q := w_isi (.ty _) (.base (.int n)) (kit_ty (a := "int") (b := "int") (r := true) (by decide +kernel)) q
theorem i_int_bool {n : Int} (q : Q (.bl false) H) : rIsi K [.int n, .ty "bool"] H Q := w_isi (.ty _) (.base (.int n)) (kit_ty (a := "int") (b := "bool") (r := false) (by decide +kernel)) q
theorem i_int_str {n : Int} (q : Q (.bl false) H) : rIsi K [.int n, .ty "str"] H Q := w_isi (.ty _) (.base (.int n)) (kit_ty (a := "int") (b := "str") (r := false) (by decide +kernel)) q
theorem i_int_list {n : Int} (q : Q (.bl false) H) : rIsi K [.int n, .ty "list"] H Q := w_isi (.ty _) (.base (.int n)) (kit_ty (a := "int") (b := "list") (r := false) (by decide +kernel)) q
theorem i_int_tuple {n : Int} (q : Q (.bl false) H) : rIsi K [.int n, .ty "tuple"] H Q := w_isi (.ty _) (.base (.int n)) (kit_ty (a := "int") (b := "tuple") (r := false) (by decide +kernel)) q
theorem i_bl_int {b : Bool} (q : Q (.bl true) H) : rIsi K [.bl b, .ty "int"] H Q := w_isi (.ty _) (.base (.bl b)) (kit_ty (a := "bool") (b := "int") (r := true) (by decide +kernel)) q
theorem i_bl_bool {b : Bool} (q : Q (.bl true) H) : rIsi K [.bl b, .ty "bool"] H Q := w_isi (.ty _) (.base (.bl b)) (kit_ty (a := "bool") (b := "bool") (r := true) (by decide +kernel)) q
theorem i_bl_str {b : Bool} (q : Q (.bl false) H) : rIsi K [.bl b, .ty "str"] H Q := w_isi (.ty _) (.base (.bl b)) (kit_ty (a := "bool") (b := "str") (r := false) (by decide +kernel)) q
theorem i_bl_list {b : Bool} (q : Q (.bl false) H) : rIsi K [.bl b, .ty "list"] H Q := w_isi (.ty _) (.base (.bl b)) (kit_ty (a := "bool") (b := "list") (r := false) (by decide +kernel)) q
theorem i_bl_tuple {b : Bool} (q : Q (.bl false) H) : rIsi K [.bl b, .ty "tuple"] H Q := w_isi (.ty _) (.base (.bl b)) (kit_ty (a := "bool") (b := "tuple") (r := false) (by decide +kernel)) q
theorem i_str_int {z : Str} (q : Q (.bl false) H) : rIsi K [.str z, .ty "int"] H Q := w_isi (.ty _) (.base (.str z)) (kit_ty (a := "str") (b := "int") (r := false) (by decide +kernel)) q
theorem i_str_bool {z : Str} (q : Q (.bl false) H) : rIsi K [.str z, .ty "bool"] H Q := w_isi (.ty _) (.base (.str z)) (kit_ty (a := "str") (b := "bool") (r := false) (by decide +kernel)) q
theorem i_str_str {z : Str} (q : Q (.bl true) H) : rIsi K [.str z, .ty "str"] H Q := w_isi (.ty _) (.base (.str z)) (kit_ty (a := "str") (b := "str") (r := true) (by decide +kernel)) q
theorem i_str_list {z : Str} (q : Q (.bl false) H) : rIsi K [.str z, .ty "list"] H Q := w_isi (.ty _) (.base (.str z)) (kit_ty (a := "str") (b := "list") (r := false) (by decide +kernel)) q
theorem i_str_tuple {z : Str} (q : Q (.bl false) H) : rIsi K [.str z, .ty "tuple"] H Q := w_isi (.ty _) (.base (.str z)) (kit_ty (a := "str") (b := "tuple") (r := false) (by decide +kernel)) q
theorem i_non_int (q : Q (.bl false) H) : rIsi K [.non, .ty "int"] H Q := w_isi (.ty _) (.base .non) (kit_ty (a := "NoneType") (b := "int") (r := false) (by decide +kernel)) q
theorem i_non_bool (q : Q (.bl false) H) : rIsi K [.non, .ty "bool"] H Q := w_isi (.ty _) (.base .non) (kit_ty (a := "NoneType") (b := "bool") (r := false) (by decide +kernel)) q
theorem i_non_str (q : Q (.bl false) H) : rIsi K [.non, .ty "str"] H Q := w_isi (.ty _) (.base .non) (kit_ty (a := "NoneType") (b := "str") (r := false) (by decide +kernel)) q
theorem i_non_list (q : Q (.bl false) H) : rIsi K [.non, .ty "list"] H Q := w_isi (.ty _) (.base .non) (kit_ty (a := "NoneType") (b := "list") (r := false) (by decide +kernel)) q
theorem i_non_tuple (q : Q (.bl false) H) : rIsi K [.non, .ty "tuple"] H Q := w_isi (.ty _) (.base .non) (kit_ty (a := "NoneType") (b := "tuple") (r := false) (by decide +kernel)) q
theorem i_lst_int {a : Addr} {xs : List V} (h : H a = some (.lst xs)) (q : Q (.bl false) H) : rIsi K [.ref a, .ty "int"] H Q := w_isi (.ty _) (.base (.lst h)) (kit_ty (a := "list") (b := "int") (r := false) (by decide +kernel)) q
theorem i_lst_bool {a : Addr} {xs : List V} (h : H a = some (.lst xs)) (q : Q (.bl false) H) : rIsi K [.ref a, .ty "bool"] H Q := w_isi (.ty _) (.base (.lst h)) (kit_ty (a := "list") (b := "bool") (r := false) (by decide +kernel)) q
theorem i_lst_str {a : Addr} {xs : List V} (h : H a = some (.lst xs)) (q : Q (.bl false) H) : rIsi K [.ref a, .ty "str"] H Q := w_isi (.ty _) (.base (.lst h)) (kit_ty (a := "list") (b := "str") (r := false) (by decide +kernel)) q
theorem i_lst_list {a : Addr} {xs : List V} (h : H a = some (.lst xs)) (q : Q (.bl true) H) : rIsi K [.ref a, .ty "list"] H Q := w_isi (.ty _) (.base (.lst h)) (kit_ty (a := "list") (b := "list") (r := true) (by decide +kernel)) q
theorem i_lst_tuple {a : Addr} {xs : List V} (h : H a = some (.lst xs)) (q : Q (.bl false) H) : rIsi K [.ref a, .ty "tuple"] H Q := w_isi (.ty _) (.base (.lst h)) (kit_ty (a := "list") (b := "tuple") (r := false) (by decide +kernel)) q
theorem i_tup_int {a : Addr} {xs : List V} (h : H a = some (.tup xs)) (q : Q (.bl false) H) : rIsi K [.ref a, .ty "int"] H Q := w_isi (.ty _) (.base (.tup h)) (kit_ty (a := "tuple") (b := "int") (r := false) (by decide +kernel)) q
theorem i_tup_bool {a : Addr} {xs : List V} (h : H a = some (.tup xs)) (q : Q (.bl false) H) : rIsi K [.ref a, .ty "bool"] H Q := w_isi (.ty _) (.base (.tup h)) (kit_ty (a := "tuple") (b := "bool") (r := false) (by decide +kernel)) q
theorem i_tup_str {a : Addr} {xs : List V} (h : H a = some (.tup xs)) (q : Q (.bl false) H) : rIsi K [.ref a, .ty "str"] H Q := w_isi (.ty _) (.base (.tup h)) (kit_ty (a := "tuple") (b := "str") (r := false) (by decide +kernel)) q
theorem i_tup_list {a : Addr} {xs : List V} (h : H a = some (.tup xs)) (q : Q (.bl false) H) : rIsi K [.ref a, .ty "list"] H Q := w_isi (.ty _) (.base (.tup h)) (kit_ty (a := "tuple") (b := "list") (r := false) (by decide +kernel)) q
theorem i_tup_tuple {a : Addr} {xs : List V} (h : H a = some (.tup xs)) (q : Q (.bl true) H) : rIsi K [.ref a, .ty "tuple"] H Q := w_isi (.ty _) (.base (.tup h)) (kit_ty (a := "tuple") (b := "tuple") (r := true) (by decide +kernel)) q
theorem i_dK_int {a : Addr} {kvs : List (Key × V)} (h : H a = some (.dK kvs)) (q : Q (.bl false) H) : rIsi K [.ref a, .ty "int"] H Q := w_isi (.ty _) (.base (.dK h)) (kit_ty (a := "dict") (b := "int") (r := false) (by decide +kernel)) q
theorem i_dK_bool {a : Addr} {kvs : List (Key × V)} (h : H a = some (.dK kvs)) (q : Q (.bl false) H) : rIsi K [.ref a, .ty "bool"] H Q := w_isi (.ty _) (.base (.dK h)) (kit_ty (a := "dict") (b := "bool") (r := false) (by decide +kernel)) q
theorem i_dK_str {a : Addr} {kvs : List (Key × V)} (h : H a = some (.dK kvs)) (q : Q (.bl false) H) : rIsi K [.ref a, .ty "str"] H Q := w_isi (.ty _) (.base (.dK h)) (kit_ty (a := "dict") (b := "str") (r := false) (by decide +kernel)) q
theorem i_dK_list {a : Addr} {kvs : List (Key × V)} (h : H a = some (.dK kvs)) (q : Q (.bl false) H) : rIsi K [.ref a, .ty "list"] H Q := w_isi (.ty _) (.base (.dK h)) (kit_ty (a := "dict") (b := "list") (r := false) (by decide +kernel)) q
theorem i_dK_tuple {a : Addr} {kvs : List (Key × V)} (h : H a = some (.dK kvs)) (q : Q (.bl false) H) : rIsi K [.ref a, .ty "tuple"] H Q := w_isi (.ty _) (.base (.dK h)) (kit_ty (a := "dict") (b := "tuple") (r := false) (by decide +kernel)) q
end
/-! ### loops -/
/-- a while by a family of states -/
def Wt {α : Type} (S : α → L2.St) (Pv : α → Hp → Prop) (μ : α → Nat) (m : Nat) (tb : TS) (D : Ends) (σ : L2.St) (H : Hp) : Prop :=
  ∃ N : L2.St → Hp → Prop, (∀ σ' H', N σ' H' → ∃ m', m' < m ∧ ∃ a', σ' = S a' ∧ Pv a' H' ∧ m' = μ a') ∧ tb { D with nx := N, ct := N, bk := D.nx } σ H
theorem w_while {α : Type} {c : TT} {tb : TS} {D : Ends} {σ : L2.St} {H : Hp} (S : α → L2.St) (Pv : α → Hp → Prop) (μ : α → Nat) (a0 : α) (e : σ = S a0) (h0 : Pv a0 H)
    (hs : ∀ a H, Pv a H → c (S a) H fun b H1 => if b = true then Wt S Pv μ (μ a) tb D (S a) H1 else D.nx (S a) H1) : tWhile c tb D σ H := by
  refine ⟨fun m σ H => ∃ a, σ = S a ∧ Pv a H ∧ m = μ a, ⟨_, a0, e, h0, rfl⟩, ?_⟩
  rintro m σ H ⟨a, rfl, p, rfl⟩
  exact hs a H p
theorem w_turn {α : Type} {tb : TS} {D : Ends} {σ : L2.St} {H : Hp} {S : α → L2.St} {Pv : α → Hp → Prop} {μ : α → Nat} {m : Nat}
    (h : tb { D with nx := fun σ' H' => ∃ a', σ' = S a' ∧ Pv a' H' ∧ μ a' < m, ct := fun σ' H' => ∃ a', σ' = S a' ∧ Pv a' H' ∧ μ a' < m, bk := D.nx } σ H) : Wt S Pv μ m tb D σ H :=
  ⟨_, fun _ _ ⟨a', e, p, l⟩ => ⟨_, l, a', e, p, rfl⟩, h⟩
section
variable {K : PySem.W.Frag} {σ : L2.St} {H : Hp} {D : Ends} {g : TG} {tb : TS} {tl : TE} {ta : TA}
theorem w_forI {wi : TI} (h : wi σ H fun J H1 => ∃ W : Nat → Nat → L2.St → Hp → Prop, (∃ m, W 0 m σ H1) ∧ ∀ i m σ H, W i m σ H →
    (J.stop i H ∧ D.nx σ H) ∨ (J.go i H ∧ ∃ N : L2.St → Hp → Prop, (∀ σ' H', N σ' H' → ∃ m', m' < m ∧ W (i + 1) m' σ' H') ∧ ∀ x H', J.yld i H x H' → g x σ H' fun σ2 H2 => tb { D with nx := N, ct := N, bk := D.nx } σ2 H2)) : tFor wi g tb D σ H := h
theorem w_iL {R : It → Hp → Prop} (h : tl σ H fun x H1 => ∃ a, x = .ref a ∧ (∃ xs, SqL K H1 a xs) ∧ R (Itl K a) H1) : iList K tl σ H R := h
theorem w_iT {R : It → Hp → Prop} (h : tl σ H fun x H1 => ∃ a, x = .ref a ∧ (∃ xs, SqT K H1 a xs) ∧ R (Itt K a) H1) : iTup K tl σ H R := h
theorem w_iR1 {R : It → Hp → Prop} (h : ta σ H fun vs H1 => ∃ j : Int, vs = [.int j] ∧ -(2 ^ 62) ≤ j ∧ j < 2 ^ 62 ∧ R (Itr 0 j.toNat) H1) : iRng1 ta σ H R := h
theorem w_iR2 {R : It → Hp → Prop} (h : ta σ H fun vs H1 => ∃ i j : Int, vs = [.int i, .int j] ∧ (-(2 ^ 62) ≤ i ∧ i < 2 ^ 62 ∧ -(2 ^ 62) ≤ j ∧ j < 2 ^ 62) ∧ R (Itr i (j - i).toNat) H1) : iRng2 ta σ H R := h
theorem w_iZT {R : It → Hp → Prop} (h : ta σ H fun vs H1 => ∃ a b xs ys, vs = [.ref a, .ref b] ∧ ((SqL K H1 a xs ∧ SqL K H1 b ys ∧ R (Itz K a b) H1) ∨ (SqT K H1 a xs ∧ SqT K H1 b ys ∧ R (RZ.ItzT K a b) H1))) : RZ.iZipA K ta σ H R := h
theorem walk_zipT {a b : Addr} {xs ys : List V} {n : Nat} (hn : n = min xs.length ys.length) : Walk (RZ.ItzT K a b) n (fun H => SqT K H a xs ∧ SqT K H b ys) (YPair (fun i => xs[i]?) (fun i => ys[i]?)) where
  goes := fun i H hi h => ⟨xs, ys, xs[i], ys[i], h.1, h.2, List.getElem?_eq_getElem (by omega), List.getElem?_eq_getElem (by omega)⟩
  stops := fun H h => ⟨xs, ys, h.1, h.2, by omega⟩
  yields := fun i H x H' hi h y => by
    obtain ⟨T, u, v, e, n, e2, f1, f2⟩ := y
    exact ⟨T, u, v, e, n, e2, f1 xs h.1, f2 ys h.2⟩
theorem w_yes {QB : Bool → Hp → Prop} (q : QB true H) : tYes σ H QB := q
theorem w_lc {wi : TI} {tt : TT} {te : TE} {vs : List Nat} {Q : VK} (h : wi σ H fun J H1 => ∀ D, H1 D = none → ∃ W : Nat → Nat → Hp → Prop, (∃ m, W 0 m (upd H1 D (.lst []))) ∧ ∀ i m H, W i m H →
  (J.stop i H ∧ Q (.ref D) H) ∨ (J.go i H ∧ ∃ Nx : Hp → Prop, (∀ H', Nx H' → ∃ m', m' < m ∧ W (i + 1) m' H') ∧ ∀ x H', J.yld i H x H' → g x (wipe σ vs) H' fun σ2 H2 => wipe σ2 vs = wipe σ vs ∧ tt σ2 H2 fun b H3 =>
    if b = true then te σ2 H3 fun y H4 => ∃ acc, H4 D = some (.lst acc) ∧ acc.length < sizeLine ∧ Nx (upd H4 D (.lst (acc ++ [y]))) else Nx H3)) : tLc wi g tt te vs σ H Q := h
end
/-! ### tests that are known -/
theorem if_t {c : Bool} {A B : Prop} (hc : c = true) (h : A) : if c = true then A else B := by rw [if_pos hc]; exact h
theorem if_f {c : Bool} {A B : Prop} (hc : c = false) (h : B) : if c = true then A else B := by rw [hc, if_neg Bool.false_ne_true]; exact h
theorem if_2 {c : Prop} [Decidable c] {A B : Prop} (h1 : c → A) (h2 : ¬ c → B) : if decide c = true then A else B := by
  by_cases h : c
  · exact if_t (decide_eq_true h) (h1 h)
  · exact if_f (decide_eq_false h) (h2 h)
theorem if_n2 {c : Prop} [Decidable c] {A B : Prop} (h1 : ¬ c → A) (h2 : c → B) : if (!decide c) = true then A else B := by
  by_cases h : c
  · exact if_f (by rw [decide_eq_true h]; rfl) (h2 h)
  · exact if_t (by rw [decide_eq_false h]; rfl) (h1 h)
theorem if_b {c : Bool} {A B : Prop} (h1 : c = true → A) (h2 : c = false → B) : if c = true then A else B := by
  cases c with
  | true => exact if_t rfl (h1 rfl)
  | false => exact if_f rfl (h2 rfl)
theorem V.int_inj {i j : Int} : (V.int i = V.int j) ↔ i = j := ⟨fun h => V.int.inj h, fun h => by rw [h]⟩
end Go

/-! The mathematics of pairs. -/
namespace Mth
theorem gcd_step (x y : Int) : Int.gcd y (x % y) = Int.gcd x y := by
  rw [Int.emod_def, Int.gcd_sub_mul_left_right, Int.gcd_comm]
/-- the pair of a by b: its two numbers -/
def pn (a b : Int) : Int := b.sign * a / (Int.gcd a b : Int)
def pd (a b : Int) : Int := (b.natAbs : Int) / (Int.gcd a b : Int)
theorem pair_ex {a b : Int} (hb : b ≠ 0) : ∃ g a' b' : Int, 0 < g ∧ g = Int.gcd a b ∧ a = g * a' ∧ b = g * b' ∧ Int.gcd a' b' = 1 ∧ b' ≠ 0 ∧ pn a b = b'.sign * a' ∧ pd a b = b'.natAbs := by
  have hg : 0 < Int.gcd a b := Int.gcd_pos_of_ne_zero_right a hb
  obtain ⟨a', ha⟩ := Int.gcd_dvd_left a b
  obtain ⟨b', hb'⟩ := Int.gcd_dvd_right a b
  have hg' : (0 : Int) < (Int.gcd a b : Int) := by omega
  generalize hG : (Int.gcd a b : Int) = g at *
  have nb : b' ≠ 0 := fun z => hb (by rw [hb', z, Int.mul_zero])
  have sg : g.sign = 1 := Int.sign_eq_one_of_pos hg'
  have ng : (g.natAbs : Int) = g := by omega
  have gc : Int.gcd a' b' = 1 := by
    have e := Int.gcd_mul_left g a' b'
    rw [← ha, ← hb'] at e
    have e1 : g.natAbs * Int.gcd a' b' = g.natAbs * 1 := by omega
    exact Nat.eq_of_mul_eq_mul_left (by omega) e1
  refine ⟨g, a', b', hg', rfl, ha, hb', gc, nb, ?_, ?_⟩
  · unfold pn
    rw [hG]
    have e : b.sign * a = g * (b'.sign * a') := by
      have e2 : b.sign = b'.sign := by rw [hb', Int.sign_mul, sg, Int.one_mul]
      have e3 : b.sign * a = b.sign * (g * a') := by rw [← ha]
      rw [e3, e2, ← Int.mul_assoc, Int.mul_comm b'.sign g, Int.mul_assoc]
    rw [e, Int.mul_ediv_cancel_left _ (by omega)]
  · unfold pd
    rw [hG]
    have e : (b.natAbs : Int) = g * (b'.natAbs : Int) := by
      rw [hb', Int.natAbs_mul, Int.natCast_mul, ng]
    rw [e, Int.mul_ediv_cancel_left _ (by omega)]
theorem sign_mul_self (b : Int) : b.sign * b = b.natAbs := by
  rcases Int.lt_trichotomy b 0 with h | h | h
  · rw [Int.sign_eq_neg_one_of_neg h]; omega
  · rw [h]; rfl
  · rw [Int.sign_eq_one_of_pos h]; omega
theorem pd_pos {a b : Int} (hb : b ≠ 0) : 0 < pd a b := by
  obtain ⟨g, a', b', _, _, _, _, _, nb, _, e⟩ := pair_ex (a := a) hb
  rw [e]; omega
theorem pn_cross {a b : Int} (hb : b ≠ 0) : pn a b * b = a * pd a b := by
  obtain ⟨g, a', b', hg, _, ha, hb', _, nb, e1, e2⟩ := pair_ex (a := a) hb
  rw [e1, e2, ← sign_mul_self]
  generalize b'.sign = s
  rw [ha, hb']
  simp only [Int.mul_assoc, Int.mul_left_comm, Int.mul_comm]
theorem natAbs_sign {b : Int} (hb : b ≠ 0) : b.sign.natAbs = 1 := by
  rcases Int.lt_or_gt_of_ne hb with h | h
  · rw [Int.sign_eq_neg_one_of_neg h]; rfl
  · rw [Int.sign_eq_one_of_pos h]; rfl
theorem gcd_sign {b x y : Int} (hb : b ≠ 0) : Int.gcd (b.sign * x) y = Int.gcd x y := by
  unfold Int.gcd
  rw [Int.natAbs_mul, natAbs_sign hb, Nat.one_mul]
theorem pair_cop {a b : Int} (hb : b ≠ 0) : Int.gcd (pn a b) (pd a b) = 1 := by
  obtain ⟨g, a', b', hg, _, ha, hb', gc, nb, e1, e2⟩ := pair_ex (a := a) hb
  rw [e1, e2, gcd_sign nb]
  unfold Int.gcd at gc ⊢
  rw [Int.natAbs_natCast]; exact gc
theorem pn_le {a b : Int} (hb : b ≠ 0) : (pn a b).natAbs ≤ a.natAbs := by
  obtain ⟨g, a', b', hg, _, ha, hb', gc, nb, e1, e2⟩ := pair_ex (a := a) hb
  rw [e1, Int.natAbs_mul, natAbs_sign nb, Nat.one_mul, ha, Int.natAbs_mul]
  exact Nat.le_mul_of_pos_left _ (by omega)
theorem pd_le {a b : Int} (hb : b ≠ 0) : (pd a b).natAbs ≤ b.natAbs := by
  obtain ⟨g, a', b', hg, _, ha, hb', gc, nb, e1, e2⟩ := pair_ex (a := a) hb
  rw [e2, Int.natAbs_natCast, hb', Int.natAbs_mul]
  exact Nat.le_mul_of_pos_left _ (by omega)
/-- halving both -/
theorem gcd_both {x y : Int} (hx : x % 2 = 0) (hy : y % 2 = 0) : Int.gcd x y = 2 * Int.gcd (x / 2) (y / 2) := by
  have e := Int.gcd_mul_left 2 (x / 2) (y / 2)
  rw [show (2 : Int) * (x / 2) = x by omega, show (2 : Int) * (y / 2) = y by omega] at e
  exact e
theorem gcd_odd {x y : Int} (hx : x % 2 = 0) (hy : ¬ y % 2 = 0) : Int.gcd x y = Int.gcd (x / 2) y := by
  have e : Int.gcd 2 y = 1 := by
    rw [Int.gcd_eq_one_iff]
    intro c h1 h2
    obtain ⟨k, hk⟩ := h1
    obtain ⟨m, hm⟩ := h2
    have e1 : (1 : Int) = y - 2 * (y / 2) := by omega
    rw [e1, hm]
    have e2 : c * m - 2 * (c * m / 2) = c * m - c * k * (c * m / 2) := by rw [← hk]
    rw [e2, Int.mul_assoc, ← Int.mul_sub]
    exact ⟨_, rfl⟩
  have e2 := Int.gcd_mul_right_left_of_gcd_eq_one (n := 2) (m := y) (k := x / 2) e
  rw [show (2 : Int) * (x / 2) = x by omega] at e2
  exact e2
end Mth

/-! The mathematics of parts. -/
namespace Mth
/-- the part of n by 2 ^ e -/
def prt : Int → Nat → Int × Nat
  | n, 0 => (n, 0)
  | n, e + 1 => if n % 2 = 0 then prt (n / 2) e else (n, e + 1)
theorem prt_even {n : Int} {e : Nat} (h : n % 2 = 0) : prt n (e + 1) = prt (n / 2) e := by rw [prt, if_pos h]
theorem prt_odd {n : Int} {e : Nat} (h : ¬ n % 2 = 0) : prt n (e + 1) = (n, e + 1) := by rw [prt, if_neg h]
theorem prt_zero : ∀ e : Nat, prt 0 e = (0, 0)
  | 0 => rfl
  | e + 1 => by rw [prt_even (by decide)]; exact prt_zero e
theorem prt_twice (n : Int) (e : Nat) : prt (2 * n) (e + 1) = prt n e := by
  rw [prt_even (by omega), show 2 * n / 2 = n by omega]
theorem prt_pow (n : Int) (e : Nat) : ∀ k : Nat, prt (n * 2 ^ k) (e + k) = prt n e
  | 0 => by rw [Int.pow_zero, Int.mul_one, Nat.add_zero]
  | k + 1 => by
    rw [Int.pow_succ, ← Int.mul_assoc, Int.mul_comm _ 2, ← Nat.add_assoc, prt_twice]
    exact prt_pow n e k
theorem prt_norm : ∀ (e : Nat) (n : Int), (prt n e).2 = 0 ∨ (prt n e).1 % 2 = 1
  | 0, n => .inl rfl
  | e + 1, n => by
    by_cases h : n % 2 = 0
    · rw [prt_even h]; exact prt_norm e _
    · rw [prt_odd h]; exact .inr (by show n % 2 = 1; omega)
theorem prt_self {n : Int} {e : Nat} (h : e = 0 ∨ n % 2 = 1) : prt n e = (n, e) := by
  cases e with
  | zero => rfl
  | succ e => exact prt_odd (by omega)
theorem prt_le : ∀ (e : Nat) (n : Int), (prt n e).1.natAbs ≤ n.natAbs ∧ (prt n e).2 ≤ e
  | 0, n => ⟨Nat.le_refl _, Nat.le_refl _⟩
  | e + 1, n => by
    by_cases h : n % 2 = 0
    · rw [prt_even h]
      have := prt_le e (n / 2)
      omega
    · rw [prt_odd h]; exact ⟨Nat.le_refl _, Nat.le_refl _⟩
theorem prt_worth : ∀ (e : Nat) (n : Int), (prt n e).1 * 2 ^ e = n * 2 ^ (prt n e).2
  | 0, n => rfl
  | e + 1, n => by
    by_cases h : n % 2 = 0
    · rw [prt_even h, Int.pow_succ, ← Int.mul_assoc, prt_worth e (n / 2)]
      rw [Int.mul_assoc, Int.mul_comm _ 2, ← Int.mul_assoc, show n / 2 * 2 = n by omega]
    · rw [prt_odd h]
/-- how the program reckons it -/
theorem prt_by {m : Int} (hm : ¬ m % 2 = 0) : ∀ (v e : Nat), prt (m * 2 ^ v) e = (m * 2 ^ v / 2 ^ min e v, e - min e v)
  | 0, e => by
    rw [Nat.min_zero, Int.pow_zero, Int.mul_one, Int.ediv_one]
    exact prt_self (by omega)
  | v + 1, 0 => by
    rw [Nat.zero_min, Int.pow_zero, Int.ediv_one]; rfl
  | v + 1, e + 1 => by
    rw [show min (e + 1) (v + 1) = min e v + 1 by omega, show e + 1 - (min e v + 1) = e - min e v by omega]
    have e1 : m * 2 ^ (v + 1) = 2 * (m * 2 ^ v) := by rw [Int.pow_succ, ← Int.mul_assoc, Int.mul_comm]
    have e2 : (2 : Int) ^ (min e v + 1) = 2 * 2 ^ min e v := by rw [Int.pow_succ, Int.mul_comm]
    rw [e1, prt_twice, prt_by hm v e, e2, Int.mul_ediv_mul_of_pos _ _ (by decide)]
theorem odd_ex : ∀ (k : Nat) (n : Int), n ≠ 0 → n.natAbs < 2 ^ k → ∃ (v : Nat) (m : Int), n = m * 2 ^ v ∧ ¬ m % 2 = 0
  | 0, n, h, hk => by rw [Nat.pow_zero] at hk; omega
  | k + 1, n, h, hk => by
    by_cases he : n % 2 = 0
    · rw [Nat.pow_succ] at hk
      obtain ⟨v, m, e, hm⟩ := odd_ex k (n / 2) (by omega) (by omega)
      refine ⟨v + 1, m, ?_, hm⟩
      rw [Int.pow_succ, ← Int.mul_assoc, ← e]; omega
    · exact ⟨0, n, by rw [Int.pow_zero, Int.mul_one], he⟩
theorem and_half (a b : Nat) : (a &&& b) = 2 * (a / 2 &&& b / 2) + (a % 2) * (b % 2) := by
  have h1 : (a &&& b) / 2 = a / 2 &&& b / 2 := Nat.and_div_two
  have h2 : (a &&& b) % 2 = (a % 2) * (b % 2) := by
    have e := Nat.and_mod_two_pow (a := a) (b := b) (n := 1)
    rw [Nat.pow_one] at e
    rw [e]
    rcases Nat.mod_two_eq_zero_or_one a with x | x <;> rcases Nat.mod_two_eq_zero_or_one b with y | y <;> rw [x, y] <;> rfl
  omega
theorem low_nat (t : Nat) : ∀ v : Nat, (((2 * t + 1) * 2 ^ v) &&& ((2 * t + 1) * 2 ^ v - 1)) = 2 * t * 2 ^ v
  | 0 => by
    rw [Nat.pow_zero, Nat.mul_one, Nat.mul_one, and_half]
    rw [show (2 * t + 1) / 2 = t by omega, show (2 * t + 1 - 1) / 2 = t by omega, show (2 * t + 1 - 1) % 2 = 0 by omega, Nat.mul_zero, Nat.add_zero, Nat.and_self]
  | v + 1 => by
    have ih := low_nat t v
    have e1 : (2 * t + 1) * 2 ^ (v + 1) = 2 * ((2 * t + 1) * 2 ^ v) := by rw [Nat.pow_succ, ← Nat.mul_assoc, Nat.mul_comm]
    have e2 : 2 * t * 2 ^ (v + 1) = 2 * (2 * t * 2 ^ v) := by rw [Nat.pow_succ, ← Nat.mul_assoc, Nat.mul_comm]
    have hp : 0 < (2 * t + 1) * 2 ^ v := Nat.mul_pos (by omega) (Nat.pow_pos (by decide))
    rw [e1, e2, and_half]
    generalize (2 * t + 1) * 2 ^ v = w at *
    rw [show 2 * w / 2 = w by omega, show (2 * w - 1) / 2 = w - 1 by omega, show 2 * w % 2 = 0 by omega, Nat.zero_mul, Nat.add_zero, ih]
open PySem PyProof.Rows in
theorem low_pos {m : Int} {v : Nat} (h0 : 0 < m) (hm : ¬ m % 2 = 0) : Builtin.bitAnd (m * 2 ^ v) (0 - m * 2 ^ v) = 2 ^ v := by
  obtain ⟨t, rfl⟩ : ∃ t : Nat, m = ((2 * t + 1 : Nat) : Int) := ⟨(m / 2).toNat, by omega⟩
  have hc : ((2 * t + 1 : Nat) : Int) * 2 ^ v = (((2 * t + 1) * 2 ^ v : Nat) : Int) := by
    rw [Int.natCast_mul, Int.natCast_pow]; rfl
  have hp : 0 < (2 * t + 1) * 2 ^ v := Nat.mul_pos (by omega) (Nat.pow_pos (by decide))
  have low := low_nat t v
  rw [hc]
  have e : (0 : Int) - (((2 * t + 1) * 2 ^ v : Nat) : Int) = Builtin.bitNot ((((2 * t + 1) * 2 ^ v - 1 : Nat)) : Int) := by
    show _ = -((((2 * t + 1) * 2 ^ v - 1 : Nat)) : Int) - 1
    omega
  rw [e, bitAnd_not, bitAnd_pp (Int.natCast_nonneg _) (Int.natCast_nonneg _), Int.toNat_natCast, Int.toNat_natCast, low]
  have e3 : (2 * t + 1) * 2 ^ v = 2 * t * 2 ^ v + 2 ^ v := by rw [Nat.add_mul, Nat.one_mul]
  rw [e3, Int.natCast_add]
  have e4 : (((2 : Nat) ^ v : Nat) : Int) = 2 ^ v := by rw [Int.natCast_pow]; rfl
  rw [e4]; omega
open PySem PyProof.Rows in
theorem low_bit {m : Int} {v : Nat} (hm : ¬ m % 2 = 0) : Builtin.bitAnd (m * 2 ^ v) (0 - m * 2 ^ v) = 2 ^ v := by
  rcases Int.lt_or_gt_of_ne (show m ≠ 0 by omega) with h | h
  · have e := low_pos (m := -m) (v := v) (by omega) (by omega)
    rw [bitAnd_comm]
    have e1 : -m * 2 ^ v = 0 - m * 2 ^ v := by rw [Int.neg_mul]; omega
    rw [e1] at e
    have e2 : 0 - (0 - m * 2 ^ v) = m * 2 ^ v := by omega
    rw [e2] at e
    exact e
  · exact low_pos h hm
open PySem in
theorem low_bits (v : Nat) : (Builtin.Int.intBits ((2 : Int) ^ v) : Int) - 1 = v := by
  unfold Builtin.Int.intBits
  have hp : 0 < (2 : Nat) ^ v := Nat.pow_pos (by decide)
  have hc : ((2 : Int) ^ v) = (((2 : Nat) ^ v : Nat) : Int) := by rw [Int.natCast_pow]; rfl
  have hn : ¬ (((2 : Int) ^ v) == 0) = true := by
    rw [hc]; simp; omega
  rw [if_neg hn, hc, Int.natAbs_natCast, Nat.log2_two_pow]
  omega
end Mth

set_option Elab.async false
set_option linter.all false
set_option maxRecDepth 100000
set_option maxHeartbeats 4000000
namespace Go
open PySem PySem.Spec PyProof.Rows L2
/-! ### constants, texts -/
theorem pe_globI {X : Cx} {x : Str} {i : Int} {pos : Pos} (hg : Gl X x) (h : ∃ t, X.mg x = some (.int i t)) (hd : (x == ("__debug__" : Str)) = false := by decide) : PE X (.Name x pos) (tC (.int i)) := by
  obtain ⟨t, h⟩ := h
  exact pe_glob hg h ⟨t, rfl⟩ hd
theorem pe_globS {X : Cx} {x z : Str} {pos : Pos} (hg : Gl X x) (h : ∃ t, X.mg x = some (.str z t)) (hd : (x == ("__debug__" : Str)) = false := by decide) : PE X (.Name x pos) (tC (.str z)) := by
  obtain ⟨t, h⟩ := h
  exact pe_glob hg h ⟨t, rfl⟩ hd
abbrev one1 (c : Nat) : V := .str ⟨#[c]⟩
abbrev rListStr : List V → Hp → VK → Prop := fun xs H Q => ∃ z : Str, xs = [.str z] ∧ z.length ≤ sizeLine ∧ ∀ l, H l = none → Q (.ref l) (upd H l (.lst (z.cps.toList.map one1)))
theorem call_list_sign {X : Cx} (hc : X.calm = true) : CallR X (.type "list") rListStr := by
  intro pins s σ H xs us Q I r h
  obtain ⟨z, rfl, hz, q⟩ := h
  obtain ⟨u, rfl, t, rfl⟩ := vals1 r
  refine call_list_str (I.ok.hd hc) z t (hn := hz) fun h' tk acc c' hk hS hacc => ?_
  refine ⟨.ref s.heap.objs.size, upd H s.heap.objs.size (.lst (z.cps.toList.map one1)), I.laid hk (Nat.le_refl _) (show ObjOk X.prog X.w _ _ _ (.lst (z.cps.toList.map one1)) from ⟨?_, acc.toList, c', ?_, ?_⟩), rfl, q _ (I.hok.fresh (Nat.le_refl _))⟩
  · rw [List.length_map, Array.length_toList]; exact hz
  · have el : acc.toList.length = acc.size := by simp
    refine vals_of_at (by rw [List.length_map, el, hacc.1, Array.length_toList]) fun j x w h1 h2 => ?_
    obtain ⟨c, u, hcu, rfl⟩ := hacc.2 j w (by rw [← Array.getElem?_toList]; exact h2)
    rw [List.getElem?_map, Array.getElem?_toList, hcu] at h1
    cases h1
    exact ⟨u, rfl⟩
  · rw [Array.toArray_toList]; exact hS
abbrev rRepStr : R2 := fun x y H Q => ∃ (z : Str) (n : Nat), x = .str z ∧ y = .int (n : Int) ∧ z.length * n ≤ 1000 ∧ n ≤ 1000 ∧ Q (.str (Txt.mul z (n : Int))) H
theorem op_rep_str {X : Cx} : OpR X (binaryOp .Mult) rRepStr := by
  intro pins s σ H x y v u Q I rx ry h
  obtain ⟨z, n, rfl, rfl, hz, hn, q⟩ := h
  obtain ⟨t, rfl⟩ := rx
  obtain ⟨t', rfl⟩ := ry
  refine SB.mul ⟨?_, fun h1 h2 => ?_, fun h1 h2 => ?_⟩ fun t2 k => ⟨.str (Txt.mul z (n : Int)), H, ?_, ⟨_, rfl⟩, q⟩
  · rw [decide_eq_false (by omega), decide_eq_false (by omega)]; rfl
  · intro h3
    have h4 : (z.length : Int) * n ≤ 1000 := by exact_mod_cast hz
    have h5 : 1 ≤ (n : Int) := by omega
    have h6 : (1000 : Int) ≤ (2 ^ 63 - 1) / n := by
      rw [Int.le_ediv_iff_mul_le (by omega)]
      omega
    have h7 : (z.length : Int) ≤ z.length * n := by
      have := Int.mul_le_mul_of_nonneg_left h5 (Int.natCast_nonneg z.length)
      omega
    omega
  · rw [Int.toNat_natCast]
    have h9 : ¬ z.length * n > sizeLine := Nat.not_lt.mpr (Nat.le_trans hz (by decide))
    exact decide_eq_false h9
  · exact I.tok _
abbrev rLeS : R2 := fun x y H Q => ∃ i j, x = .str i ∧ y = .str j ∧ Q (.bl (!decide (j.cps.toList < i.cps.toList))) H
abbrev rGtS : R2 := fun x y H Q => ∃ i j, x = .str i ∧ y = .str j ∧ Q (.bl (decide (j.cps.toList < i.cps.toList))) H
abbrev rGeS : R2 := fun x y H Q => ∃ i j, x = .str i ∧ y = .str j ∧ Q (.bl (!decide (i.cps.toList < j.cps.toList))) H
abbrev rLtS : R2 := fun x y H Q => ∃ i j, x = .str i ∧ y = .str j ∧ Q (.bl (decide (i.cps.toList < j.cps.toList))) H
abbrev tJoin (K : PySem.W.Frag) (to te : TE) : TE := tM1 (fun x xs H Q => ∃ a p, ∃ ys : List Str, x = .str a ∧ xs = [.ref p] ∧ (SqL K H p (ys.map V.str) ∨ SqT K H p (ys.map V.str)) ∧
      (ys.map (·.length)).sum + ys.length * a.length ≤ 16777216 ∧ Q (.str (Txt.join a ys)) H) to te
abbrev tSplit (to te : TE) : TE := tM1 (fun x xs H Q => ∃ a b, x = .str a ∧ xs = [.str b] ∧ (b.length == 0) = false ∧ a.length + 2 ≤ sizeLine ∧ rNewStrs (Txt.split a b) H Q) to te
section
variable {K : PySem.W.Frag} {σ : L2.St} {H H' : Hp} {Q : VK} {te to : TE} {a b : Addr} {xs ys : List V} {v : V} {z z' : Str}
theorem w_join (h : to σ H fun x H1 => (∃ a, x = .str a) ∧ te σ H1 fun y H2 => ∃ a p, ∃ ys : List Str, x = .str a ∧ [y] = [.ref p] ∧ (SqL K H2 p (ys.map V.str) ∨ SqT K H2 p (ys.map V.str)) ∧
      (ys.map (·.length)).sum + ys.length * a.length ≤ 16777216 ∧ Q (.str (Txt.join a ys)) H2) : tJoin K to te σ H Q := h
theorem w_joinL {ys : List Str} (h : H a = some (.lst (ys.map V.str))) (hl : (ys.map (·.length)).sum + ys.length * z.length ≤ 16777216) (q : Q (.str (Txt.join z ys)) H) :
    ∃ a', ∃ p, ∃ ys : List Str, V.str z = .str a' ∧ [V.ref a] = [.ref p] ∧ (SqL K H p (ys.map V.str) ∨ SqT K H p (ys.map V.str)) ∧ (ys.map (·.length)).sum + ys.length * a'.length ≤ 16777216 ∧ Q (.str (Txt.join a' ys)) H :=
  ⟨z, a, ys, rfl, rfl, .inl (SqL.of h), hl, q⟩
theorem w_strE {R : Prop} (q : R) : (∃ a, V.str z = .str a) ∧ R := ⟨⟨z, rfl⟩, q⟩
theorem w_lenStr (hl : z.length ≤ sizeLine) (q : Q (.int z.length) H) : rLenStr [.str z] H Q := ⟨z, rfl, hl, q⟩
theorem w_ixS {i : Int} {c : Nat} (hl : z.length ≤ sizeLine) (hc : atI z.cps.toList i = some c) (q : Q (one1 c) H) : rIxS (.str z) (.int i) H Q := ⟨z, i, c, rfl, rfl, hl, hc, q⟩
theorem w_slS {lo hi : Option Int} (hl : z.length ≤ sizeLine) (q : Q (.str (cutS z lo hi)) H) : rSlS (.str z) lo hi H Q := ⟨z, rfl, hl, q⟩
theorem w_addStr (hl : z.length + z'.length ≤ sizeLine) (q : Q (.str (z ++ z')) H) : rAddStr (.str z) (.str z') H Q := ⟨z, z', rfl, rfl, hl, q⟩
theorem w_inS {c : Nat} (q : Q (.bl (decide (c ∈ z.cps.toList))) H) : rInS (one1 c) (.str z) H Q := ⟨c, z, rfl, rfl, q⟩
theorem w_leS (q : Q (.bl (!decide (z'.cps.toList < z.cps.toList))) H) : rLeS (.str z) (.str z') H Q := ⟨z, z', rfl, rfl, q⟩
theorem w_all {bs : List Bool} (h : H a = some (.lst (bs.map V.bl))) (q : Q (.bl (bs.all id)) H) : rAll K [.ref a] H Q := ⟨a, bs, rfl, SqL.of h, q⟩
theorem w_any {bs : List Bool} (h : H a = some (.lst (bs.map V.bl))) (q : Q (.bl (bs.any id)) H) : rAny K [.ref a] H Q := ⟨a, bs, rfl, SqL.of h, q⟩
theorem w_iS {R : It → Hp → Prop} (h : te σ H fun v H1 => ∃ x, v = .str x ∧ R (Its x) H1) : iStr te σ H R := h
theorem w_iSE {R : Str → Prop} (q : R z) : ∃ x, V.str z = .str x ∧ R x := ⟨z, rfl, q⟩
theorem w_listStr (hl : z.length ≤ sizeLine) (q : ∀ l, H l = none → Q (.ref l) (upd H l (.lst (z.cps.toList.map one1)))) : rListStr [.str z] H Q := ⟨z, rfl, hl, q⟩
theorem w_listT (h : SqT K H a ys) (q : ∀ l, H l = none → Q (.ref l) (upd H l (.lst ys))) : Evl.rListS K [.ref a] H Q := ⟨a, ys, rfl, .inr h, q⟩
theorem w_listL (h : SqL K H a ys) (q : ∀ l, H l = none → Q (.ref l) (upd H l (.lst ys))) : Evl.rListS K [.ref a] H Q := ⟨a, ys, rfl, .inl h, q⟩
theorem w_gUnl {n : Nat} {tg : TGs} {QS : L2.St → Hp → Prop} (h : SqL K H a xs) (hn : xs.length = n) (q : tg xs σ H QS) : gUnl K n tg (.ref a) σ H QS := ⟨a, xs, rfl, h, hn, q⟩
theorem w_dnew (q : ∀ p, H p = none → Q (.ref p) (upd H p (.dK []))) : tDNewK σ H Q := q
theorem w_in {neg : Bool} (h : SqL K H a xs ∨ SqT K H a xs) (fx : flatV v = true) (fs : xs.all flatV = true) (q : Q (.bl (if neg then !inV v xs else inV v xs)) H) : rIn K neg v (.ref a) H Q := ⟨a, xs, rfl, h, fx, fs, q⟩
theorem w_rep_str {n : Nat} (h1 : z.length * n ≤ 1000) (h2 : n ≤ 1000) (q : Q (.str (Txt.mul z (n : Int))) H) : rRepStr (.str z) (.int (n : Int)) H Q := ⟨z, n, rfl, rfl, h1, h2, q⟩
end
/-! ### what kind of thing a value is -/
inductive Kd (H : Hp) : V → String → Prop
  | int (n : Int) : Kd H (.int n) "int"
  | bl (b : Bool) : Kd H (.bl b) "bool"
  | str (z : Str) : Kd H (.str z) "str"
  | non : Kd H .non "NoneType"
  | lst {a : Addr} {xs : List V} (h : H a = some (.lst xs)) : Kd H (.ref a) "list"
  | tup {a : Addr} {xs : List V} (h : H a = some (.tup xs)) : Kd H (.ref a) "tuple"
  | dict {a : Addr} {kvs : List (Key × V)} (h : H a = some (.dK kvs)) : Kd H (.ref a) "dict"
section
variable {K : PySem.W.Frag} {H H' : Hp} {Q : VK} {v : V} {T : String}
theorem Kd.same (h : Kd H v T) (s : Same H H') : Kd H' v T := by
  cases h with
  | int n => exact .int n
  | bl b => exact .bl b
  | str z => exact .str z
  | non => exact .non
  | lst h => exact .lst (s _ _ h)
  | tup h => exact .tup (s _ _ h)
  | dict h => exact .dict (s _ _ h)
theorem k_int (h : Kd H v T) (q : Q (.bl (T == "int" || T == "bool")) H) : rIsi K [v, .ty "int"] H Q := by
  cases h with
  | int n => exact i_int_int q
  | bl b => exact i_bl_int q
  | str z => exact i_str_int q
  | non => exact i_non_int q
  | lst h => exact i_lst_int h q
  | tup h => exact i_tup_int h q
  | dict h => exact i_dK_int h q
theorem k_bool (h : Kd H v T) (q : Q (.bl (T == "bool")) H) : rIsi K [v, .ty "bool"] H Q := by
  cases h with
  | int n => exact i_int_bool q
  | bl b => exact i_bl_bool q
  | str z => exact i_str_bool q
  | non => exact i_non_bool q
  | lst h => exact i_lst_bool h q
  | tup h => exact i_tup_bool h q
  | dict h => exact i_dK_bool h q
theorem k_str (h : Kd H v T) (q : Q (.bl (T == "str")) H) : rIsi K [v, .ty "str"] H Q := by
  cases h with
  | int n => exact i_int_str q
  | bl b => exact i_bl_str q
  | str z => exact i_str_str q
  | non => exact i_non_str q
  | lst h => exact i_lst_str h q
  | tup h => exact i_tup_str h q
  | dict h => exact i_dK_str h q
theorem k_tuple (h : Kd H v T) (q : Q (.bl (T == "tuple")) H) : rIsi K [v, .ty "tuple"] H Q := by
  cases h with
  | int n => exact i_int_tuple q
  | bl b => exact i_bl_tuple q
  | str z => exact i_str_tuple q
  | non => exact i_non_tuple q
  | lst h => exact i_lst_tuple h q
  | tup h => exact i_tup_tuple h q
  | dict h => exact i_dK_tuple h q
theorem k_list (h : Kd H v T) (q : Q (.bl (T == "list")) H) : rIsi K [v, .ty "list"] H Q := by
  cases h with
  | int n => exact i_int_list q
  | bl b => exact i_bl_list q
  | str z => exact i_str_list q
  | non => exact i_non_list q
  | lst h => exact i_lst_list h q
  | tup h => exact i_tup_list h q
  | dict h => exact i_dK_list h q
end
/-! ### a Hook with one more Bool -/
def obsE (n : Nat) (fa : List He.Fa) (fn : List He.DefD) (ex : PySem.W.Frag → Bool) (g : Addr → Option Obj) : He.AlD × Bool :=
  (fun K => (He.obsD fa fn K, ex K)) (He.frG g (He.asD g n))
def hookE (n : Nat) (fa : List He.Fa) (fn : List He.DefD) (ex : PySem.W.Frag → Bool) : PySem.W.Hook where
  α := He.AlD × Bool
  obs := fun s => obsE n fa fn ex s.heap.get?
  val := fun _ => (He.valD fn, true)
  says := fun _ h => ∃ K : PySem.W.Frag, K.In h ∧ He.SaysD fa fn K ∧ ex K = true
  of := fun _ _ e => ⟨_, He.frG_in, congrArg Prod.fst e, congrArg Prod.snd e⟩
  keeps := fun _ _ _ ⟨K, hK, c⟩ k => ⟨K, PySem.W.Frag.In.keeps hK k, c⟩
theorem obsE_eq {n : Nat} {fa : List He.Fa} {fn : List He.DefD} {ex : PySem.W.Frag → Bool} {g : Addr → Option Obj} {s : Shared} (h : ∀ a, g a = s.heap.get? a) : obsE n fa fn ex g = (hookE n fa fn ex).obs s := by
  have e : g = s.heap.get? := funext h
  rw [e] <;> rfl
/-! ### defs as values -/
theorem fun_ne {K : PySem.W.Frag} {x y : Str} {st st' : Stmt} {f g : Addr} {fd gd : FuncData} (F : FnP K x st f fd) (G : FnP K y st' g gd) (h : x ≠ y) : f ≠ g := fun e => by
  subst e
  obtain ⟨_, _, _, _, _, _, _, _, _, _, e1, l1, _⟩ := F.ex
  obtain ⟨_, _, _, _, _, _, _, _, _, _, e2, l2, _⟩ := G.ex
  rw [l1] at l2
  have e3 : fd = gd := by
    have := Option.some.inj l2
    injection this with _ _ d _
    injection d
  rw [e1, e2] at e3
  have e4 := congrArg FuncData.name e3
  exact h e4
theorem held_of {P : Program} {w : World} {K : PySem.W.Frag} {mg : Str → Option Value} {base : Heap} {x : Str} {k : Nat} {ps : List Str} {sp : Sp} {f : Addr} (g : mg x = some (.ref f)) (h : Has P w K mg base x k ps sp) : Held P w K mg base k f sp := by
  obtain ⟨f', fd, gm, kp, b, F⟩ := h
  rw [g] at gm
  cases gm
  exact ⟨fd, ps, F, kp, b⟩
theorem w_callA {σ : L2.St} {H : Hp} {Q : VK} {i : Nat} {f : Addr} {sp : Sp} {S : Addr → Option Sp} {tr : TA} (hs : σ[i]? = some (some (.ref f))) (hS : S f = some sp) (h : tr σ H fun vs H1 => sp vs H1 Q E0) : tCallA i S tr σ H Q := ⟨f, sp, hs, hS, h⟩
abbrev rStrInt : List V → Hp → VK → Prop := fun xs H Q => ∃ i : Int, xs = [.int i] ∧ i.natAbs.log2 < 1920 ∧ Q (.str (toString i)) H
end Go

namespace Sum
open PySem PySem.Spec PyProof.Rows L2 Go
local macro_rules | `(tactic| walk_at "isi") => `(tactic| first
  | with_reducible refine Go.i_int_int ?_
  | with_reducible refine Go.i_int_bool ?_
  | with_reducible refine Go.i_int_str ?_
  | with_reducible refine Go.i_int_list ?_
  | with_reducible refine Go.i_int_tuple ?_
  | with_reducible refine Go.i_bl_int ?_
  | with_reducible refine Go.i_bl_bool ?_
  | with_reducible refine Go.i_bl_str ?_
  | with_reducible refine Go.i_bl_list ?_
  | with_reducible refine Go.i_bl_tuple ?_
  | with_reducible refine Go.i_str_int ?_
  | with_reducible refine Go.i_str_bool ?_
  | with_reducible refine Go.i_str_str ?_
  | with_reducible refine Go.i_str_list ?_
  | with_reducible refine Go.i_str_tuple ?_
  | with_reducible refine Go.i_non_int ?_
  | with_reducible refine Go.i_non_bool ?_
  | with_reducible refine Go.i_non_str ?_
  | with_reducible refine Go.i_non_list ?_
  | with_reducible refine Go.i_non_tuple ?_
  | ((with_reducible refine' Go.i_lst_int ?hh ?_); (case hh => walk_at "heap"))
  | ((with_reducible refine' Go.i_lst_bool ?hh ?_); (case hh => walk_at "heap"))
  | ((with_reducible refine' Go.i_lst_str ?hh ?_); (case hh => walk_at "heap"))
  | ((with_reducible refine' Go.i_lst_list ?hh ?_); (case hh => walk_at "heap"))
  | ((with_reducible refine' Go.i_lst_tuple ?hh ?_); (case hh => walk_at "heap"))
  | ((with_reducible refine' Go.i_tup_int ?hh ?_); (case hh => walk_at "heap"))
  | ((with_reducible refine' Go.i_tup_bool ?hh ?_); (case hh => walk_at "heap"))
  | ((with_reducible refine' Go.i_tup_str ?hh ?_); (case hh => walk_at "heap"))
  | ((with_reducible refine' Go.i_tup_list ?hh ?_); (case hh => walk_at "heap"))
  | ((with_reducible refine' Go.i_tup_tuple ?hh ?_); (case hh => walk_at "heap"))
  | ((with_reducible refine' Go.i_dK_int ?hh ?_); (case hh => walk_at "heap"))
  | ((with_reducible refine' Go.i_dK_bool ?hh ?_); (case hh => walk_at "heap"))
  | ((with_reducible refine' Go.i_dK_str ?hh ?_); (case hh => walk_at "heap"))
  | ((with_reducible refine' Go.i_dK_list ?hh ?_); (case hh => walk_at "heap"))
  | ((with_reducible refine' Go.i_dK_tuple ?hh ?_); (case hh => walk_at "heap")))
local macro_rules | `(tactic| walk_at "heap") => `(tactic| first | assumption | exact upd_same | (refine Go.keep ?_ (by assumption); walk_at "heap") | (refine Go.get (by assumption) ?_; walk_at "heap"))
local macro_rules | `(tactic| walk_at "s") => `(tactic| first
  | with_reducible refine Go.w_seq ?_
  | with_reducible refine Go.w_asg ?_
  | with_reducible refine Go.w_op ?_
  | ((with_reducible refine' Go.w_var ?hh ?_); (case hh => exact rfl))
  | with_reducible refine Go.w_con ?_
  | with_reducible refine Go.w_I0 ?_
  | ((with_reducible refine Go.w_mulI ?hh ?_); (case hh => first | exact Or.inl ⟨by decide, by decide⟩ | exact Or.inr ⟨by decide, by decide⟩))
  | ((with_reducible refine Go.w_modI ?hh ?_); (case hh => first | decide | omega))
  | ((with_reducible refine Go.w_divI ?hh ?_); (case hh => exact ⟨by decide +kernel, by decide +kernel⟩))
  | ((with_reducible refine Go.w_powI ?hh ?_); (case hh => exact ⟨by decide +kernel, by decide +kernel, by decide +kernel⟩))
  | ((with_reducible refine Go.w_shrI ?hh ?_); (case hh => first | decide | omega))
  | with_reducible refine Go.w_if ?_
  | with_reducible refine Go.w_test ?_
  | with_reducible refine Go.w_tB ?_
  | with_reducible refine Go.w_k ?_
  | with_reducible refine Go.w_call ?_
  | with_reducible refine Go.w_cons ?_
  | with_reducible refine Go.w_nil ?_
  | with_reducible refine Go.w_ret ?_
  | with_reducible refine Go.w_cb ?_
  | with_reducible refine Go.w_tup ?_
  | with_reducible refine Go.w_lst ?_
  | ((with_reducible refine Go.w_eq ?hh ?_); (case hh => exact rfl))
  | ((with_reducible refine Go.w_ne ?hh ?_); (case hh => exact rfl))
  | with_reducible refine Go.w_or ?_
  | with_reducible refine Go.w_and ?_
  | with_reducible refine Go.w_not ?_
  | with_reducible refine Go.w_next ?_
  | with_reducible refine Go.w_drop ?_
  | with_reducible refine Go.w_un ?_
  | with_reducible refine Go.w_U ?_
  | with_reducible refine Go.w_orV ?_
  | with_reducible refine Go.w_andV ?_
  | with_reducible refine Go.w_notV ?_
  | with_reducible refine Go.w_orT ?_
  | with_reducible refine Go.w_andT ?_
  | with_reducible refine Go.w_truI ?_
  | with_reducible refine Go.w_isB ?_
  | with_reducible refine Go.w_notB ?_
  | with_reducible refine Go.w_isN ?_
  | with_reducible refine Go.w_notN ?_
  | with_reducible refine Go.w_chain ?_
  | with_reducible refine Go.w_ifE ?_
  | with_reducible refine Go.w_abs ?_
  | with_reducible refine Go.w_intB ?_
  | with_reducible refine Go.w_sub ?_
  | with_reducible refine Go.w_par ?_
  | with_reducible refine Go.w_sl ?_
  | with_reducible refine Go.w_noPart ?_
  | with_reducible refine Go.w_part ?_
  | with_reducible refine Go.w_partI ?_
  | ((with_reducible refine' Go.w_ixT ?h1 ?h2 ?_); (case h1 => (apply Go.sqT; walk_at "heap")); (case h2 => exact rfl))
  | ((with_reducible refine' Go.w_ixL ?h1 ?h2 ?_); (case h1 => (apply Go.sqL; walk_at "heap")); (case h2 => exact rfl))
  | ((with_reducible refine' Go.w_lenT ?h1 ?_); (case h1 => (apply Go.sqT; walk_at "heap")))
  | ((with_reducible refine' Go.w_lenL ?h1 ?_); (case h1 => (apply Go.sqL; walk_at "heap")))
  | ((with_reducible refine' Go.w_ixsT ?h1 ?h2 ?_); (case h1 => (apply Go.sqT; walk_at "heap")); (case h2 => exact rfl))
  | ((with_reducible refine' Go.w_ixsL ?h1 ?h2 ?_); (case h1 => (apply Go.sqL; walk_at "heap")); (case h2 => exact rfl))
  | with_reducible refine Go.w_bm ?_
  | with_reducible refine Go.w_bm0 ?_
  | ((with_reducible refine' Go.w_tyL ?h1 ?_); (case h1 => walk_at "heap"))
  | with_reducible refine Go.w_tyS ?_
  | with_reducible refine Go.w_min2 ?_
  | with_reducible refine Go.w_max2 ?_
  | with_reducible refine Go.w_bits ?_
  | with_reducible refine Go.w_bitsI ?_
  | with_reducible refine Go.w_gName ?_
  | ((with_reducible refine' Go.w_gTup ?h1 ?h2 ?_); (case h1 => (apply Go.sqT; walk_at "heap")); (case h2 => exact rfl))
  | ((with_reducible refine' Go.w_gUnl ?h1 ?h2 ?_); (case h1 => (apply Go.sqL; walk_at "heap")); (case h2 => exact rfl))
  | with_reducible refine Go.w_gCons ?_
  | with_reducible refine Go.w_gNil ?_
  | with_reducible refine Go.w_asgG ?_
  | walk_at "isi"
  | with_reducible refine Go.w_forI ?_
  | with_reducible refine Go.w_iL ?_
  | with_reducible refine Go.w_iT ?_
  | with_reducible refine Go.w_iZT ?_
  | with_reducible refine Go.w_iR1 ?_
  | with_reducible refine Go.w_iR2 ?_
  | with_reducible refine Go.w_lc ?_
  | ((with_reducible refine Go.if_t ?hh ?_); (case hh => exact rfl))
  | ((with_reducible refine Go.if_f ?hh ?_); (case hh => exact rfl)))
local macro_rules | `(tactic| walk_at "go") => `(tactic| repeat (walk_at "s"))

/-! ### promises: pairs -/
def Bits (n : Nat) (i : Int) : Prop := i.natAbs < 2 ^ n
def spDivisor : Sp := fun vs H Q _ => ∃ a b : Int, vs = [.int a, .int b] ∧ 0 ≤ a ∧ 0 ≤ b ∧ Q (.int (Int.gcd a b)) H
def spPair : Sp := fun vs H Q _ => ∃ a b : Int, vs = [.int a, .int b] ∧ b ≠ 0 ∧ Bits 9000 b ∧ ∀ p, H p = none → Q (.ref p) (upd H p (.tup [.int (Mth.pn a b), .int (Mth.pd a b)]))
/-- of a whole number, and of what is none -/
def spWhole (K : PySem.W.Frag) : Sp := fun vs H Q _ => (∃ n : Int, vs = [.int n] ∧ Q (.bl true) H) ∨ (∃ b : Bool, vs = [.bl b] ∧ Q (.bl false) H) ∨ (∃ z : Str, vs = [.str z] ∧ Q (.bl false) H) ∨ (vs = [.non] ∧ Q (.bl false) H) ∨
  (∃ (a : Addr) (xs : List V), vs = [.ref a] ∧ (H a = some (.lst xs) ∨ H a = some (.tup xs)) ∧ Q (.bl false) H) ∨ (∃ (a : Addr) (kvs : List (Key × V)), vs = [.ref a] ∧ H a = some (.dK kvs) ∧ Q (.bl false) H)
/-- of two whole numbers -/
def spIsPair (K : PySem.W.Frag) : Sp := fun vs H Q _ => ∃ (p : Addr) (a b : Int), vs = [.ref p] ∧ H p = some (.tup [.int a, .int b]) ∧ Q (.bl (decide (1 ≤ b) && decide (Int.gcd a b = 1))) H

/-! ### promises: what the law draws by -/
def Src (H : Hp) (l : Addr) : Prop := ∃ a b c : Int, H l = some (.lst [.int a, .int b, .int c])
/-- by a draw the source alone has changed -/
structure Dr (l : Addr) (H H' : Hp) : Prop where
  keep : ∀ p o, p ≠ l → H p = some o → H' p = some o
  src0 : Src H l
  src : Src H' l
theorem Dr.trans {l : Addr} {H H1 H2 : Hp} (a : Dr l H H1) (b : Dr l H1 H2) : Dr l H H2 := ⟨fun p o n h => b.keep p o n (a.keep p o n h), a.src0, b.src⟩
theorem Dr.refl {l : Addr} {H : Hp} (s : Src H l) : Dr l H H := ⟨fun _ _ _ h => h, s, s⟩
theorem Dr.tup {l : Addr} {H H' : Hp} {a : Addr} {xs : List V} (d : Dr l H H') (h : H a = some (.tup xs)) : H' a = some (.tup xs) := by
  obtain ⟨x, y, z, e⟩ := d.src0
  exact d.keep a _ (ne_of h e (by intro z; cases z)) h
theorem Dr.free {l : Addr} {H H' : Hp} {p : Addr} (d : Dr l H H') (h : H' p = none) : H p = none := by
  obtain ⟨x, y, z, e⟩ := d.src
  cases q : H p with
  | none => rfl
  | some o =>
    by_cases n : p = l
    · rw [n, e] at h; cases h
    · rw [d.keep p o n q] at h; cases h
theorem Src.ext {l : Addr} {H H' : Hp} (s : Src H l) (e : Same H H') : Src H' l := by
  obtain ⟨x, y, z, h⟩ := s
  exact ⟨x, y, z, e _ _ h⟩
theorem Dr.same {l : Addr} {H H' : Hp} (s : Src H l) (e : Same H H') : Dr l H H' := ⟨fun p o _ h => e p o h, s, s.ext e⟩
theorem Dr.new {l : Addr} {H H' : Hp} {p : Addr} {o : HO} (d : Dr l H H') (hp : H' p = none) : Dr l H (upd H' p o) := d.trans (Dr.same d.src (same_new hp))
theorem Src.new {l : Addr} {H : Hp} {p : Addr} {o : HO} (s : Src H l) (hp : H p = none) : Src (upd H p o) l := s.ext (same_new hp)
/-- what H0 had stays while a thing that H0 had not is drawn by -/
theorem Dr.same_of {l : Addr} {H0 H H' : Hp} (d : Dr l H H') (s : Same H0 H) (hl : H0 l = none) : Same H0 H' := fun p o h => d.keep p o (ne_of_none h hl) (s p o h)
def spCellAt (K : PySem.W.Frag) : Sp := fun vs H Q _ => ∃ (a : Addr) (ns : List Int) (k : Nat), vs = [.ref a, .int k] ∧ SqL K H a (ns.map V.int) ∧ ∀ n : Int, Q (.int n) H
def spBegin : Sp := fun vs H Q _ => ∃ n : Int, vs = [.int n] ∧ ∀ l H', H l = none → Same H H' → Src H' l → Q (.ref l) H'
def spDraw : Sp := fun vs H Q _ => ∃ (l : Addr) (m : Int), vs = [.ref l, .int m] ∧ Src H l ∧ 0 < m ∧ m.natAbs < 2 ^ 200 ∧ ∀ d H', 0 ≤ d → d < m → Dr l H H' → Q (.int d) H'

/-! ### promises: parts -/
abbrev pt (x : Int × Nat) : HO := .tup [.int x.1, .int (x.2 : Int)]
def PB (n : Nat) (x : Int × Nat) : Prop := Bits n x.1 ∧ x.2 ≤ n
def pplus (x y : Int × Nat) : Int × Nat := Mth.prt (x.1 * 2 ^ y.2 + y.1 * 2 ^ x.2) (x.2 + y.2)
def pless (x y : Int × Nat) : Int × Nat := Mth.prt (x.1 * 2 ^ y.2 - y.1 * 2 ^ x.2) (x.2 + y.2)
def spPart : Sp := fun vs H Q _ => ∃ (n : Int) (e : Nat), vs = [.int n, .int (e : Int)] ∧ ∀ p, H p = none → Q (.ref p) (upd H p (pt (Mth.prt n e)))
def spIsPart (K : PySem.W.Frag) : Sp := fun vs H Q _ => ∃ (p : Addr) (a b : Int), vs = [.ref p] ∧ H p = some (.tup [.int a, .int b]) ∧ Q (.bl (decide (0 ≤ b) && (decide (b = 0) || decide (a % 2 = 1)))) H
def spPartPlus : Sp := fun vs H Q _ => ∃ (p r : Addr) (x y : Int × Nat), vs = [.ref p, .ref r] ∧ H p = some (pt x) ∧ H r = some (pt y) ∧ PB 1000000 x ∧ PB 1000000 y ∧ ∀ s, H s = none → Q (.ref s) (upd H s (pt (pplus x y)))
def spPartLess : Sp := fun vs H Q _ => ∃ (p r : Addr) (x y : Int × Nat), vs = [.ref p, .ref r] ∧ H p = some (pt x) ∧ H r = some (pt y) ∧ PB 1000000 x ∧ PB 1000000 y ∧ ∀ s H', Same H H' → H s = none → H' s = some (pt (pless x y)) → Q (.ref s) H'
def spPartOver : Sp := fun vs H Q _ => ∃ (p r : Addr) (x y : Int × Nat), vs = [.ref p, .ref r] ∧ H p = some (pt x) ∧ H r = some (pt y) ∧ PB 2000 x ∧ PB 2000 y ∧ y.1 ≠ 0 ∧ ∀ s, H s = none → Q (.ref s) (upd H s (.tup [.int (Rat.divInt (x.1 * 2 ^ y.2) (y.1 * 2 ^ x.2)).num, .int ((Rat.divInt (x.1 * 2 ^ y.2) (y.1 * 2 ^ x.2)).den : Int)]))
def spHalvings : Sp := fun vs H Q _ => ∃ n : Nat, vs = [.int (n : Int)] ∧ Q (.int ((Builtin.Int.intBits (n : Int) : Nat) : Int)) H

/-! ### promises: what is a pair, what is a part, of anything -/
def Kds (H : Hp) (xs : List V) : Prop := ∀ x ∈ xs, ∃ T, Kd H x T
theorem Kds.same {H H' : Hp} {xs : List V} (h : Kds H xs) (s : Same H H') : Kds H' xs := fun x hx => by
  obtain ⟨T, h⟩ := h x hx
  exact ⟨T, h.same s⟩
def isPr : List V → Bool
  | [.int a, .int b] => decide (1 ≤ b) && decide (Int.gcd a b = 1)
  | _ => false
def isPt : List V → Bool
  | [.int a, .int b] => decide (0 ≤ b) && (decide (b = 0) || decide (a % 2 = 1))
  | _ => false
def spIsInt : Sp := fun vs H Q _ => ∃ v T, vs = [v] ∧ Kd H v T ∧ Q (.bl (T == "int")) H
def spOf (f : List V → Bool) : Sp := fun vs H Q _ => ∃ v, vs = [v] ∧ ((∃ a xs, v = .ref a ∧ H a = some (.tup xs) ∧ Kds H xs ∧ Q (.bl (f xs)) H) ∨ ∃ T, Kd H v T ∧ T ≠ "tuple" ∧ Q (.bl false) H)
def spIsPairX : Sp := spOf isPr
def spIsPartX : Sp := spOf isPt

-- names: 0:thing
abbrev N_is_whole_number : List Str := ["thing"]
def t_is_whole_number (K : PySem.W.Frag) : TS :=
  (tRet (tAndV (tCB (rIsi K) (tCons (tVar 0) (tCons (tC (.ty "int")) tNil))) (tNotV (tCB (rIsi K) (tCons (tVar 0) (tCons (tC (.ty "bool")) tNil))))))

-- names: 0:one 1:other
abbrev N_divisor : List Str := ["one", "other"]
def t_divisor (K : PySem.W.Frag) : TS :=
  (tSeq (tWhile (tTest (tOp rNe (tVar 1) (tC (.int 0)))) (tPar 0 1 (tCons (tVar 1) (tCons (tOp rModI (tVar 0) (tVar 1)) tNil))))
    (tRet (tVar 0)))

-- names: 0:num 1:den 2:most
abbrev N_pair : List Str := ["num", "den", "most"]
def t_pair (K : PySem.W.Frag) : TS :=
  (tSeq (tIfS (tTest (tOp rLtI (tVar 1) (tC (.int 0)))) (tSeq (tAsg (tOp rSubI (tC (.int 0)) (tVar 0)) (gName 0))
      (tAsg (tOp rSubI (tC (.int 0)) (tVar 1)) (gName 1))) tNext)
    (tSeq (tAsg (tCall spDivisor [] E0 (tCons (tCB rAbs (tCons (tVar 0) tNil)) (tCons (tVar 1) tNil))) (gName 2))
    (tRet (tTup (tCons (tOp rDivI (tVar 0) (tVar 2)) (tCons (tOp rDivI (tVar 1) (tVar 2)) tNil))))))

-- names: 0:thing
abbrev N_is_pair : List Str := ["thing"]
def t_is_pair (K : PySem.W.Frag) : TS :=
  (tSeq (tIfS (tOr (tNot (tB (tCB (rIsi K) (tCons (tVar 0) (tCons (tC (.ty "tuple")) tNil))))) (tTest (tOp rNe (tCB (Evl.rLenS K) (tCons (tVar 0) tNil)) (tC (.int 2))))) (tRet (tC (.bl false))) tNext)
    (tSeq (tIfS (tOr (tNot (tB (tCall spIsInt [] E0 (tCons (tOp (rIxT K) (tVar 0) (tC (.int 0))) tNil)))) (tOr (tNot (tB (tCall spIsInt [] E0 (tCons (tOp (rIxT K) (tVar 0) (tC (.int 1))) tNil)))) (tTest (tOp rLtI (tOp (rIxT K) (tVar 0) (tC (.int 1))) (tC (.int 1)))))) (tRet (tC (.bl false))) tNext)
    (tRet (tOp rEq (tCall spDivisor [] E0 (tCons (tCB rAbs (tCons (tOp (rIxT K) (tVar 0) (tC (.int 0))) tNil)) (tCons (tOp (rIxT K) (tVar 0) (tC (.int 1))) tNil))) (tC (.int 1))))))

-- names: 0:num 1:e 2:twos
abbrev N_part : List Str := ["num", "e", "twos"]
def t_part (K : PySem.W.Frag) : TS :=
  (tSeq (tIfS (tTest (tOp rEq (tVar 0) (tC (.int 0)))) (tRet (tTup (tCons (tC (.int 0)) (tCons (tC (.int 0)) tNil)))) tNext)
    (tSeq (tAsg (tCB rMin2 (tCons (tVar 1) (tCons (tOp rSubI (tBits (tOp rAndI (tVar 0) (tOp rSubI (tC (.int 0)) (tVar 0)))) (tC (.int 1))) tNil))) (gName 2))
    (tRet (tTup (tCons (tOp rShrI (tVar 0) (tVar 2)) (tCons (tOp rSubI (tVar 1) (tVar 2)) tNil))))))

-- names: 0:thing
abbrev N_is_part : List Str := ["thing"]
def t_is_part (K : PySem.W.Frag) : TS :=
  (tSeq (tIfS (tOr (tNot (tB (tCB (rIsi K) (tCons (tVar 0) (tCons (tC (.ty "tuple")) tNil))))) (tTest (tOp rNe (tCB (Evl.rLenS K) (tCons (tVar 0) tNil)) (tC (.int 2))))) (tRet (tC (.bl false))) tNext)
    (tSeq (tIfS (tOr (tNot (tB (tCall spIsInt [] E0 (tCons (tOp (rIxT K) (tVar 0) (tC (.int 0))) tNil)))) (tOr (tNot (tB (tCall spIsInt [] E0 (tCons (tOp (rIxT K) (tVar 0) (tC (.int 1))) tNil)))) (tTest (tOp rLtI (tOp (rIxT K) (tVar 0) (tC (.int 1))) (tC (.int 0)))))) (tRet (tC (.bl false))) tNext)
    (tRet (tOrV (tOp rEq (tOp (rIxT K) (tVar 0) (tC (.int 1))) (tC (.int 0))) (tOp rEq (tOp rModI (tOp (rIxT K) (tVar 0) (tC (.int 0))) (tC (.int 2))) (tC (.int 1)))))))


-- names: 0:_law_script 1:_law_k
abbrev N_l_cell_at : List Str := ["_law_script", "_law_k"]
def t_l_cell_at (K : PySem.W.Frag) : TS :=
  (tSeq (tIfS (tTest (tOp rLtI (tVar 1) (tCB (Evl.rLenS K) (tCons (tVar 0) tNil)))) (tRet (tOp (rIxL K) (tVar 0) (tVar 1))) tNext)
    (tRet (tC (.int 0))))

-- names: 0:_law_cell
abbrev N_l_begin : List Str := ["_law_cell"]
def t_l_begin (K : PySem.W.Frag) : TS :=
  (tRet (tLst (tCons (tOp (rIxL K) (tLst (tCons (tC (.int 0)) (tCons (tVar 0) tNil))) (tCB rInt1 (tCons (tOp rGeI (tVar 0) (tOp rPowI (tC (.int 10)) (tC (.int 18)))) tNil))) (tCons (tOp rModI (tVar 0) (tC (.int 2147483647))) (tCons (tC (.int 0)) tNil)))))

-- names: 0:_law_source 1:_law_most 2:_law_found 3:_law_number
abbrev N_l_draw : List Str := ["_law_source", "_law_most", "_law_found", "_law_number"]
def t_l_draw (K : PySem.W.Frag) : TS :=
  (tSeq (tIfS (tTest (tOp rGtI (tOp (rIxL K) (tVar 0) (tC (.int 0))) (tC (.int 0)))) (tSeq (tAsg (tOp rModI (tOp (rIxL K) (tVar 0) (tC (.int 0))) (tVar 1)) (gName 2))
      (tSeq (tAsg (tOp rDivI (tOp (rIxL K) (tVar 0) (tC (.int 0))) (tVar 1)) (gSub (tVar 0) (tC (.int 0)) rSetL))
      (tRet (tVar 2)))) tNext)
    (tSeq (tAsg (tOp rAddI (tOp (rIxL K) (tVar 0) (tC (.int 2))) (tC (.int 1))) (gSub (tVar 0) (tC (.int 2)) rSetL))
    (tSeq (tAsg (tOp rModI (tOp rMulI (tOp rAddI (tOp rAddI (tOp (rIxL K) (tVar 0) (tC (.int 1))) (tOp rMulI (tC (.int 7919)) (tOp (rIxL K) (tVar 0) (tC (.int 2))))) (tC (.int 1))) (tC (.int 48271))) (tC (.int 2147483647))) (gName 3))
    (tSeq (tAsg (tOp rModI (tOp rMulX (tVar 3) (tOp rAddI (tOp rDivI (tVar 3) (tC (.int 1009))) (tC (.int 69621)))) (tC (.int 2147483647))) (gName 3))
    (tRet (tOp rModI (tOp rModI (tOp rMulX (tVar 3) (tOp rAddI (tOp rDivI (tVar 3) (tC (.int 2003))) (tC (.int 40692)))) (tC (.int 2147483399))) (tVar 1)))))))

-- names: 0:_law_source 1:_law_way 2:_law_small 3:_law_great 4:_law_k 5:_law_twos
abbrev N_l_far : List Str := ["_law_source", "_law_way", "_law_small", "_law_great", "_law_k", "_law_twos"]
def t_l_far (K : PySem.W.Frag) : TS :=
  (tSeq (tAsg (tCall spDraw [] E0 (tCons (tVar 0) (tCons (tC (.int 6)) tNil))) (gName 1))
    (tSeq (tAsg (tOp rSubI (tCall spDraw [] E0 (tCons (tVar 0) (tCons (tC (.int 13)) tNil))) (tC (.int 6))) (gName 2))
    (tSeq (tAsg (tC (.int 0)) (gName 3))
    (tSeq (tFor (iRng1 (tCons (tOp rAddI (tC (.int 1)) (tCall spDraw [] E0 (tCons (tVar 0) (tCons (tC (.int 6)) tNil)))) tNil)) (gName 4) (tAsg (tOp rAddI (tOp rMulX (tVar 3) (tOp rPowI (tC (.int 10)) (tC (.int 10)))) (tCall spDraw [] E0 (tCons (tVar 0) (tCons (tOp rPowI (tC (.int 10)) (tC (.int 10))) tNil)))) (gName 3)))
    (tSeq (tAsg (tOp rSubI (tOp rAddI (tOp rShlI (tC (.int 1)) (tCall spDraw [] E0 (tCons (tVar 0) (tCons (tC (.int 200)) tNil)))) (tCall spDraw [] E0 (tCons (tVar 0) (tCons (tC (.int 3)) tNil)))) (tC (.int 1))) (gName 5))
    (tRet (tOp (rIxL K) (tLst (tCons (tVar 2) (tCons (tVar 2) (tCons (tVar 3) (tCons (tOp rSubI (tC (.int 0)) (tVar 3)) (tCons (tVar 5) (tCons (tOp rSubI (tC (.int 0)) (tVar 5)) tNil))))))) (tVar 1))))))))


theorem divW {i j : Int} (h : 0 < j) (hb : Bits 9000 j) : CDivW i j := wide_div h hb (by decide) (Nat.le_refl _)
theorem p_divisor_len {vs : List V} {H : Hp} {Q : VK} {E : XK} (h : spDivisor vs H Q E) : vs.length = 2 := by
  obtain ⟨a, b, rfl, _⟩ := h; rfl
theorem p_divisor {K : PySem.W.Frag} {vs : List V} {H : Hp} {Q : VK} {E : XK} (h : spDivisor vs H Q E) : t_divisor K { nx := fun _ H' => Q .non H', rt := Q } (start N_divisor vs) H := by
  obtain ⟨a, b, rfl, ha, hb, q⟩ := h
  unfold t_divisor
  walk_at "go"
  refine w_while (fun (p : Int × Int) => [some (.int p.1), some (.int p.2)]) (fun p H' => H' = H ∧ 0 ≤ p.1 ∧ 0 ≤ p.2 ∧ Int.gcd p.1 p.2 = Int.gcd a b) (fun p => p.2.toNat) (a, b) rfl ⟨rfl, ha, hb, rfl⟩ ?_
  rintro ⟨x, y⟩ H' ⟨rfl, hx, hy, e⟩
  simp only at hx hy e ⊢
  walk_at "go"
  refine if_n2 (fun h => ?_) (fun h => ?_)
  · have hy0 : y ≠ 0 := fun z => h (by rw [z])
    have hy1 : 0 < y := by omega
    refine w_turn ?_
    walk_at "go"
    refine ⟨_, _, rfl, (y, x % y), rfl, ⟨rfl, hy, Int.emod_nonneg _ hy0, ?_⟩, ?_⟩
    · show Int.gcd y (x % y) = Int.gcd a b
      rw [← e, Mth.gcd_step]
    · have := Int.emod_lt_of_pos x hy1
      have := Int.emod_nonneg x hy0
      show (x % y).toNat < y.toNat
      omega
  · have hy0 : y = 0 := V.int.inj h
    subst hy0
    walk_at "go"
    rw [Int.gcd_zero] at e
    have : x = (Int.gcd a b : Int) := by rw [← e]; omega
    rw [this]
    exact q
theorem p_pair_len {vs : List V} {H : Hp} {Q : VK} {E : XK} (h : spPair vs H Q E) : vs.length = 2 := by
  obtain ⟨a, b, rfl, _⟩ := h; rfl
theorem gcdBits {a b : Int} {n : Nat} (h0 : b ≠ 0) (h : Bits n b) : Bits n (Int.gcd a b : Int) := by
  have := Int.gcd_le_natAbs_right a h0
  unfold Bits at h ⊢
  omega
theorem p_pair {K : PySem.W.Frag} {vs : List V} {H : Hp} {Q : VK} {E : XK} (h : spPair vs H Q E) : t_pair K { nx := fun _ H' => Q .non H', rt := Q } (start N_pair vs) H := by
  obtain ⟨a, b, rfl, hb, bb, q⟩ := h
  have hg : 0 < Int.gcd a b := Int.gcd_pos_of_ne_zero_right a hb
  have hB := gcdBits (a := a) hb bb
  unfold t_pair
  walk_at "go"
  refine if_2 (fun h => ?_) (fun h => ?_)
  · walk_at "go"
    refine ⟨_, _, rfl, by omega, by omega, ?_⟩
    have e1 : Int.gcd ((0 - a).natAbs : Int) (0 - b) = Int.gcd a b := by
      unfold Int.gcd; congr 1 <;> omega
    rw [e1]
    walk_at "go"
    refine w_I (divW (by omega) hB) ?_
    walk_at "go"
    refine w_I (divW (by omega) hB) ?_
    walk_at "go"
    refine ⟨by show 2 ≤ sizeLine; decide, fun p hp => ?_⟩
    have e2 : (0 - a) / (Int.gcd a b : Int) = Mth.pn a b := by
      unfold Mth.pn
      rw [Int.sign_eq_neg_one_of_neg h]; congr 1; omega
    have e3 : (0 - b) / (Int.gcd a b : Int) = Mth.pd a b := by
      unfold Mth.pd
      congr 1; omega
    rw [e2, e3]
    exact q p hp
  · walk_at "go"
    refine ⟨_, _, rfl, by omega, by omega, ?_⟩
    have e1 : Int.gcd (a.natAbs : Int) b = Int.gcd a b := by
      unfold Int.gcd; rw [Int.natAbs_natCast]
    rw [e1]
    walk_at "go"
    refine w_I (divW (by omega) hB) ?_
    walk_at "go"
    refine w_I (divW (by omega) hB) ?_
    walk_at "go"
    refine ⟨by show 2 ≤ sizeLine; decide, fun p hp => ?_⟩
    have e2 : a / (Int.gcd a b : Int) = Mth.pn a b := by
      unfold Mth.pn
      rw [Int.sign_eq_one_of_pos (by omega)]; congr 1; omega
    have e3 : b / (Int.gcd a b : Int) = Mth.pd a b := by
      unfold Mth.pd
      congr 1; omega
    rw [e2, e3]
    exact q p hp

theorem p_part_len {vs : List V} {H : Hp} {Q : VK} {E : XK} (h : spPart vs H Q E) : vs.length = 2 := by
  obtain ⟨n, e, rfl, _⟩ := h; rfl
theorem odd_of (n : Int) (h : n ≠ 0) : ∃ (v : Nat) (m : Int), n = m * 2 ^ v ∧ ¬ m % 2 = 0 := Mth.odd_ex (n.natAbs + 1) n h (Nat.lt_of_lt_of_le (Nat.lt_two_pow_self) (Nat.pow_le_pow_right (by decide) (Nat.le_succ _)))
theorem p_part {K : PySem.W.Frag} {vs : List V} {H : Hp} {Q : VK} {E : XK} (h : spPart vs H Q E) : t_part K { nx := fun _ H' => Q .non H', rt := Q } (start N_part vs) H := by
  obtain ⟨n, e, rfl, q⟩ := h
  unfold t_part
  walk_at "go"
  refine if_2 (fun h => ?_) (fun h => ?_)
  · have h0 : n = 0 := V.int.inj h
    subst h0
    walk_at "go"
    refine ⟨by show 2 ≤ sizeLine; decide, fun p hp => ?_⟩
    rw [Mth.prt_zero] at q
    exact q p hp
  · have h0 : n ≠ 0 := fun z => h (by rw [z])
    obtain ⟨v, m, rfl, hm⟩ := odd_of n h0
    walk_at "go"
    rw [Mth.low_bit hm, Mth.low_bits]
    have e1 : (if (v : Int) < (e : Int) then (v : Int) else (e : Int)) = ((min e v : Nat) : Int) := by split <;> omega
    rw [e1]
    have e2 := Mth.prt_by hm v e
    walk_at "go"
    refine ⟨by show 2 ≤ sizeLine; decide, fun p hp => ?_⟩
    have e3 : (e : Int) - ((min e v : Nat) : Int) = ((e - min e v : Nat) : Int) := by omega
    rw [Int.toNat_natCast, e3]
    have := q p hp
    rw [e2] at this
    exact this

theorem p_l_cell_at_len {K : PySem.W.Frag} {vs : List V} {H : Hp} {Q : VK} {E : XK} (h : spCellAt K vs H Q E) : vs.length = 2 := by
  obtain ⟨a, ns, k, rfl, _⟩ := h; rfl
theorem p_l_cell_at {K : PySem.W.Frag} {vs : List V} {H : Hp} {Q : VK} {E : XK} (h : spCellAt K vs H Q E) : t_l_cell_at K { nx := fun _ H' => Q .non H', rt := Q } (start N_l_cell_at vs) H := by
  obtain ⟨a, ns, k, rfl, hS, q⟩ := h
  unfold t_l_cell_at
  walk_at "go"
  refine w_lenL hS ?_
  walk_at "go"
  refine if_2 (fun h => ?_) (fun h => ?_)
  · rw [List.length_map] at h
    have hk : k < ns.length := by omega
    walk_at "go"
    refine w_ixL hS (v := .int ns[k]) (atI_nat (by rw [List.getElem?_map, List.getElem?_eq_getElem hk]; rfl)) ?_
    exact q _
  · walk_at "go"
    exact q _
theorem dr_set {l : Addr} {H : Hp} {a b c : Int} (s : Src H l) : Dr l H (upd H l (.lst [.int a, .int b, .int c])) := ⟨fun p o n h => by rw [upd_ne n]; exact h, s, ⟨_, _, _, upd_same⟩⟩
theorem mulS {i j : Int} (h0 : -(2 ^ 64) < i) (h1 : i < 2 ^ 64) (h2 : -(2 ^ 64) < j) (h3 : j < 2 ^ 64) : CMulX i j := by
  have a : i.natAbs < 2 ^ 64 := by omega
  have b : j.natAbs < 2 ^ 64 := by omega
  exact mulx_ok a b (by decide)
/-! ### the laws' loop over the cells -/
theorem ints_cut {ns : List Int} {lo hi : Option Int} : ∀ x ∈ cutV (ns.map V.int) lo hi, ∃ z, x = V.int z := fun x hx => by
  unfold cutV at hx
  have h1 := List.mem_of_mem_drop (List.mem_of_mem_take hx)
  obtain ⟨z, _, e⟩ := List.mem_map.mp h1
  exact ⟨z, e.symm⟩
theorem w_cells {K : PySem.W.Frag} {H : Hp} {a : Addr} {ns : List Int} {N : Int} {j : Nat} {tb : TS} {D : Ends} {σ : L2.St} (Ok : L2.St → Prop) (h0 : Ok σ) (hσ : σ[0]? = some (some (.ref a))) (hS : SqL K H a (ns.map V.int)) (hlen : ns.length ≤ 63)
    (hs : ∀ z σ' H' (N : L2.St → Hp → Prop), Ok σ' → Same H H' → (∀ σ2 H2, Ok σ2 → Same H' H2 → N σ2 H2) → tb { D with nx := N, ct := N, bk := D.nx } (σ'.set j (some (.int z))) H') (hd : ∀ σ' H', Ok σ' → Same H H' → D.nx σ' H') :
    tFor (iList K (tOp rCat (tLst (tCons (tCall (spCellAt K) [] E0 (tCons (tVar 0) (tCons (tC (.int 0)) tNil))) tNil)) (tSl (rSlL K) (tVar 0) (tPart (tC (.int 1))) (tPart (tC (.int N)))))) (gName j) tb D σ H := by
  refine w_forI (w_iL (w_op (w_lst (w_cons (w_call (w_cons (w_var hσ (w_cons (w_con (w_nil ?_))))))))))
  refine ⟨a, ns, 0, rfl, hS, fun n0 => ?_⟩
  walk_at "go"
  refine ⟨by show 1 ≤ sizeLine; decide, fun L1 hL1 => ?_⟩
  refine w_sl (w_var hσ (w_part (w_con (w_partI (w_part (w_con (w_partI ?_)))))))
  refine w_slL ((same_new hL1).seq hS) fun L2 hL2 => ?_
  have cl := cutV_length (ns.map V.int) (some 1) (some N)
  rw [List.length_map] at cl
  refine w_cat (keep upd_same hL2) upd_same (Nat.le_trans (by rw [List.length_singleton]; omega : _ ≤ 1000) (by decide)) fun L hL => ?_
  have hi : ∀ x ∈ [V.int n0] ++ cutV (ns.map V.int) (some 1) (some N), ∃ z, x = V.int z := fun x hx => by
    rcases List.mem_append.mp hx with h | h
    · exact ⟨n0, by simpa using h⟩
    · exact ints_cut x h
  generalize [V.int n0] ++ cutV (ns.map V.int) (some 1) (some N) = xs at *
  have h1 : (upd (upd (upd H L1 (.lst [.int n0])) L2 (.lst (cutV (ns.map V.int) (some 1) (some N)))) L (.lst xs)) L = some (.lst xs) := upd_same
  have s1 : Same H (upd (upd (upd H L1 (.lst [.int n0])) L2 (.lst (cutV (ns.map V.int) (some 1) (some N)))) L (.lst xs)) := same_in (same_in (same_new hL1) hL2) hL
  generalize upd (upd (upd H L1 (.lst [.int n0])) L2 (.lst (cutV (ns.map V.int) (some 1) (some N)))) L (.lst xs) = H0 at *
  refine ⟨L, rfl, ⟨_, sqL h1⟩, for_list (K := K) (a := L) (xs := xs) (fun i σ H' => Ok σ ∧ Same H0 H') ⟨h0, Same.refl _⟩ (fun i σ H' _ P => sqL (P.2 _ _ h1)) ?_ ?_⟩
  · rintro i x σ1 H1 hx ⟨o1, sm⟩
    obtain ⟨z, rfl⟩ := hi x (List.mem_of_getElem? hx)
    exact hs z σ1 H1 _ o1 (s1.trans sm) fun σ2 H2 o2 s2 => ⟨o2, sm.trans s2⟩
  · rintro σ1 H1 ⟨o1, sm⟩
    exact hd σ1 H1 o1 (s1.trans sm)

def spFar : Sp := fun vs H Q _ => ∃ l : Addr, vs = [.ref l] ∧ Src H l ∧ ∀ n H', Bits 200 n → Dr l H H' → Q (.int n) H'
theorem p_l_begin_len {vs : List V} {H : Hp} {Q : VK} {E : XK} (h : spBegin vs H Q E) : vs.length = 1 := by
  obtain ⟨n, rfl, _⟩ := h; rfl
theorem p_l_begin {K : PySem.W.Frag} {vs : List V} {H : Hp} {Q : VK} {E : XK} (h : spBegin vs H Q E) : t_l_begin K { nx := fun _ H' => Q .non H', rt := Q } (start N_l_begin vs) H := by
  obtain ⟨n, rfl, q⟩ := h
  unfold t_l_begin
  walk_at "go"
  refine ⟨by show 2 ≤ sizeLine; decide, fun p hp => ?_⟩
  walk_at "go"
  have e : atI [V.int 0, V.int n] (if decide ((10 : Int) ^ (18 : Int).toNat ≤ n) = true then 1 else 0) = some (.int (if decide ((10 : Int) ^ (18 : Int).toNat ≤ n) = true then n else 0)) := by
    split <;> rfl
  refine w_ixL (sqL upd_same) e ?_
  walk_at "go"
  refine ⟨by show 3 ≤ sizeLine; decide, fun l hl => ?_⟩
  exact q l _ (free_of hl) (same_in (same_new hp) hl) ⟨_, _, _, upd_same⟩
theorem p_l_draw_len {vs : List V} {H : Hp} {Q : VK} {E : XK} (h : spDraw vs H Q E) : vs.length = 2 := by
  obtain ⟨l, m, rfl, _⟩ := h; rfl
theorem p_l_draw {K : PySem.W.Frag} {vs : List V} {H : Hp} {Q : VK} {E : XK} (h : spDraw vs H Q E) : t_l_draw K { nx := fun _ H' => Q .non H', rt := Q } (start N_l_draw vs) H := by
  obtain ⟨l, m, rfl, hs, hm, bm, q⟩ := h
  obtain ⟨a, b, c, hl⟩ := id hs
  unfold t_l_draw
  walk_at "go"
  refine if_2 (fun h => ?_) (fun h => ?_)
  · walk_at "go"
    refine w_I (wide_div hm bm (by decide) (by decide)) ?_
    walk_at "go"
    refine w_setL hl (j := 0) rfl ?_
    walk_at "go"
    exact q _ _ (Int.emod_nonneg _ (by omega)) (Int.emod_lt_of_pos _ hm) (dr_set hs)
  · walk_at "go"
    refine w_setL hl (j := 2) rfl ?_
    walk_at "go"
    have e1 : ∀ n : Int, 0 ≤ n % 2147483647 ∧ n % 2147483647 < 2147483647 := fun n => by omega
    generalize hn1 : (b + 7919 * (c + 1) + 1) * 48271 % 2147483647 = n1
    have b1 := e1 ((b + 7919 * (c + 1) + 1) * 48271)
    rw [hn1] at b1
    have c1 : 0 ≤ n1 / 1009 ∧ n1 / 1009 < 2147483647 := by omega
    refine w_I (mulS (by omega) (by omega) (by omega) (by omega)) ?_
    walk_at "go"
    generalize hn2 : n1 * (n1 / 1009 + 69621) % 2147483647 = n2
    have b2 := e1 (n1 * (n1 / 1009 + 69621))
    rw [hn2] at b2
    have c2 : 0 ≤ n2 / 2003 ∧ n2 / 2003 < 2147483647 := by omega
    refine w_I (mulS (by omega) (by omega) (by omega) (by omega)) ?_
    walk_at "go"
    exact q _ _ (Int.emod_nonneg _ (by omega)) (Int.emod_lt_of_pos _ hm) (dr_set hs)
theorem p_l_far_len {vs : List V} {H : Hp} {Q : VK} {E : XK} (h : spFar vs H Q E) : vs.length = 1 := by
  obtain ⟨l, rfl, _⟩ := h; rfl
theorem far_grow {g d : Int} {i : Nat} (h0 : 0 ≤ g) (h1 : g < 10000000000 ^ i) (hd0 : 0 ≤ d) (hd1 : d < 10000000000) : 0 ≤ g * 10000000000 + d ∧ g * 10000000000 + d < 10000000000 ^ (i + 1) := by
  rw [Int.pow_succ]
  refine ⟨by omega, ?_⟩
  generalize (10000000000 : Int) ^ i = w at *
  omega
theorem far_bound {g : Int} {i : Nat} (h0 : 0 ≤ g) (h1 : g < 10000000000 ^ i) (hi : i ≤ 6) : g < 2 ^ 200 := by
  have : (10000000000 : Int) ^ i ≤ 10000000000 ^ 6 := by
    rcases (by omega : i = 0 ∨ i = 1 ∨ i = 2 ∨ i = 3 ∨ i = 4 ∨ i = 5 ∨ i = 6) with h | h | h | h | h | h | h <;> subst h <;> decide
  have : (10000000000 : Int) ^ 6 < 2 ^ 200 := by decide
  omega
theorem two_pow_le {n : Nat} (h : n < 200) : (2 : Int) ^ n ≤ 2 ^ 199 ∧ 0 < (2 : Int) ^ n := by
  have e := Nat.pow_le_pow_right (n := 2) (by decide) (by omega : n ≤ 199)
  have e1 := PySem.W.kbt_cast n
  have e2 := PySem.W.kbt_cast 199
  have e3 : 0 < (2 : Nat) ^ n := Nat.pow_pos (by decide)
  omega
theorem p_l_far {K : PySem.W.Frag} {vs : List V} {H : Hp} {Q : VK} {E : XK} (h : spFar vs H Q E) : t_l_far K { nx := fun _ H' => Q .non H', rt := Q } (start N_l_far vs) H := by
  obtain ⟨l, rfl, hs, q⟩ := h
  unfold t_l_far
  walk_at "go"
  refine ⟨l, 6, rfl, hs, by decide, by decide, fun way H1 w0 w1 d1 => ?_⟩
  walk_at "go"
  refine ⟨l, 13, rfl, d1.src, by decide, by decide, fun small H2 s0 s1 d2 => ?_⟩
  walk_at "go"
  refine ⟨l, 6, rfl, d2.src, by decide, by decide, fun n H3 n0 n1 d3 => ?_⟩
  walk_at "go"
  have dd3 := (d1.trans d2).trans d3
  refine ⟨_, rfl, by omega, by omega, for_range (lo := 0) (n := (1 + n).toNat) (fun i σ H' => ∃ (g : Int) (k : Option V), σ = [some (.ref l), some (.int way), some (.int (small - 6)), some (.int g), k, none] ∧ 0 ≤ g ∧ g < 10000000000 ^ i ∧ Dr l H H') ⟨0, none, rfl, by decide, by decide, dd3⟩ ?_ ?_⟩
  · rintro i σ H4 hi ⟨g, k, rfl, g0, g1, d4⟩
    have gb := far_bound g0 g1 (by omega)
    walk_at "go"
    refine w_I (mulx_ok (a := 200) (b := 64) (by omega) (by decide +kernel) (by decide)) ?_
    walk_at "go"
    refine ⟨l, _, rfl, d4.src, by decide +kernel, by decide +kernel, fun d H5 e0 e1 d5 => ?_⟩
    walk_at "go"
    have e1' : d < 10000000000 := e1
    have := far_grow g0 g1 e0 e1'
    exact ⟨_, _, rfl, this.1, this.2, d4.trans d5⟩
  · rintro σ H4 ⟨g, k, rfl, g0, g1, d4⟩
    have gb := far_bound g0 g1 (by omega)
    walk_at "go"
    refine ⟨l, 200, rfl, d4.src, by decide, by decide, fun e H5 e0 e1 d5 => ?_⟩
    obtain ⟨en, rfl⟩ := Int.eq_ofNat_of_zero_le e0
    walk_at "go"
    refine w_I (shl_ok (n := 1) (by decide) (by omega)) ?_
    walk_at "go"
    refine ⟨l, 3, rfl, d5.src, by decide, by decide, fun f H6 f0 f1 d6 => ?_⟩
    walk_at "go"
    refine ⟨by show 6 ≤ sizeLine; decide, fun p hp => ?_⟩
    have d7 := ((d4.trans d5).trans d6).new (o := .lst [.int (small - 6), .int (small - 6), .int g, .int (0 - g), .int (1 * 2 ^ (en : Int).toNat + f - 1), .int (0 - (1 * 2 ^ (en : Int).toNat + f - 1))]) hp
    have p1 := two_pow_le (n := en) (by omega)
    have et : (1 : Int) * 2 ^ (en : Int).toNat = 2 ^ en := by rw [Int.one_mul, Int.toNat_natCast]
    rw [et] at d7 ⊢
    have p2 : (2 : Int) ^ 199 < 2 ^ 200 - 10 := by decide
    have p3 : (2 : Int) ^ 200 = ((2 ^ 200 : Nat) : Int) := by decide
    have p4 : (20 : Int) < 2 ^ 200 := by decide
    generalize (2 : Int) ^ en = pw at *
    walk_at "go"
    rcases (by omega : way = 0 ∨ way = 1 ∨ way = 2 ∨ way = 3 ∨ way = 4 ∨ way = 5) with h | h | h | h | h | h <;> subst h <;> refine w_ixL (sqL upd_same) rfl ?_ <;> refine q _ _ ?_ d7 <;> unfold Bits <;> omega

theorem p_is_whole_number_len {vs : List V} {H : Hp} {Q : VK} {E : XK} (h : spIsInt vs H Q E) : vs.length = 1 := by
  obtain ⟨v, T, rfl, _⟩ := h; rfl
theorem p_is_whole_number {K : PySem.W.Frag} {vs : List V} {H : Hp} {Q : VK} {E : XK} (h : spIsInt vs H Q E) : t_is_whole_number K { nx := fun _ H' => Q .non H', rt := Q } (start N_is_whole_number vs) H := by
  obtain ⟨v, T, rfl, h, q⟩ := h
  unfold t_is_whole_number
  walk_at "go"
  refine k_int h ?_
  walk_at "go"
  cases h with
  | int n => walk_at "go"; exact q
  | bl n => walk_at "go"; exact q
  | str n => walk_at "go"; exact q
  | non => walk_at "go"; exact q
  | lst h => walk_at "go"; exact q
  | tup h => walk_at "go"; exact q
  | dict h => walk_at "go"; exact q
theorem p_is_pair_len {vs : List V} {H : Hp} {Q : VK} {E : XK} (h : spIsPairX vs H Q E) : vs.length = 1 := by
  obtain ⟨v, rfl, _⟩ := h; rfl
theorem p_is_part_len {vs : List V} {H : Hp} {Q : VK} {E : XK} (h : spIsPartX vs H Q E) : vs.length = 1 := by
  obtain ⟨v, rfl, _⟩ := h; rfl
theorem kd_int {H : Hp} {v : V} {T : String} (h : Kd H v T) (hT : (T == "int") = true) : ∃ n, v = .int n := by
  cases h with
  | int n => exact ⟨n, rfl⟩
  | bl b => exact absurd hT (by decide)
  | str b => exact absurd hT (by decide)
  | non => exact absurd hT (by decide)
  | lst b => exact absurd hT (by decide)
  | tup b => exact absurd hT (by decide)
  | dict b => exact absurd hT (by decide)
theorem not_int {H : Hp} {v : V} {T : String} (h : Kd H v T) (hT : (T == "int") = false) (n : Int) : v ≠ .int n := by
  intro e
  subst e
  cases h
  exact absurd hT (by decide)
theorem dec_int {i j : Int} : decide (V.int i = V.int j) = decide (i = j) := decide_eq_decide.mpr Go.V.int_inj
theorem p_is_pair {K : PySem.W.Frag} {vs : List V} {H : Hp} {Q : VK} {E : XK} (h : spIsPairX vs H Q E) : t_is_pair K { nx := fun _ H' => Q .non H', rt := Q } (start N_is_pair vs) H := by
  obtain ⟨v, rfl, ⟨a, xs, rfl, ha, kx, q⟩ | ⟨T, h, hT, q⟩⟩ := h
  · unfold t_is_pair
    walk_at "go"
    match xs, kx, q, ha with
    | [], _, q, ha => walk_at "go"; exact q
    | [x], _, q, ha =>
      walk_at "go"
      have e : isPr [x] = false := by cases x <;> rfl
      rw [e] at q
      exact q
    | x :: y :: z :: r, _, q, ha =>
      have e : isPr (x :: y :: z :: r) = false := by cases x <;> cases y <;> rfl
      rw [e] at q
      refine if_n2 (fun h => ?_) (fun h => ?_)
      · walk_at "go"
        exact q
      · have := V.int.inj h
        simp only [List.length_cons] at this
        omega
    | [x, y], kx, q, ha =>
      obtain ⟨T0, k0⟩ := kx x (.head _)
      obtain ⟨T1, k1⟩ := kx y (.tail _ (.head _))
      walk_at "go"
      refine ⟨x, T0, rfl, k0, ?_⟩
      walk_at "go"
      cases h0 : (T0 == "int") with
      | false =>
        have e : isPr [x, y] = false := by
          cases x with
          | int n => exact absurd rfl (not_int k0 h0 n)
          | _ => rfl
        rw [e] at q
        walk_at "go"
        exact q
      | true =>
        obtain ⟨m, rfl⟩ := kd_int k0 h0
        walk_at "go"
        refine ⟨y, T1, rfl, k1, ?_⟩
        walk_at "go"
        cases h1 : (T1 == "int") with
        | false =>
          have e : isPr [.int m, y] = false := by
            cases y with
            | int n => exact absurd rfl (not_int k1 h1 n)
            | _ => rfl
          rw [e] at q
          walk_at "go"
          exact q
        | true =>
          obtain ⟨n, rfl⟩ := kd_int k1 h1
          have q1 : Q (.bl (decide (1 ≤ n) && decide (Int.gcd m n = 1))) H := q
          walk_at "go"
          refine if_2 (fun h => ?_) (fun h => ?_)
          · walk_at "go"
            rw [decide_eq_false (by omega)] at q1
            exact q1
          · rw [decide_eq_true (by omega), Bool.true_and] at q1
            walk_at "go"
            refine ⟨_, _, rfl, by omega, by omega, ?_⟩
            walk_at "go"
            rw [dec_int]
            have e : decide (((Int.gcd (m.natAbs : Int) n : Nat) : Int) = 1) = decide (Int.gcd m n = 1) := by
              refine decide_eq_decide.mpr ?_
              have e2 : Int.gcd (m.natAbs : Int) n = Int.gcd m n := by
                unfold Int.gcd
                rw [Int.natAbs_natCast]
              rw [e2]
              omega
            rw [e]
            exact q1
  · unfold t_is_pair
    walk_at "go"
    refine k_tuple h ?_
    cases h with
    | tup h => exact absurd rfl hT
    | int n => walk_at "go"; exact q
    | bl n => walk_at "go"; exact q
    | str n => walk_at "go"; exact q
    | non => walk_at "go"; exact q
    | lst h => walk_at "go"; exact q
    | dict h => walk_at "go"; exact q
theorem p_is_part {K : PySem.W.Frag} {vs : List V} {H : Hp} {Q : VK} {E : XK} (h : spIsPartX vs H Q E) : t_is_part K { nx := fun _ H' => Q .non H', rt := Q } (start N_is_part vs) H := by
  obtain ⟨v, rfl, ⟨a, xs, rfl, ha, kx, q⟩ | ⟨T, h, hT, q⟩⟩ := h
  · unfold t_is_part
    walk_at "go"
    match xs, kx, q, ha with
    | [], _, q, ha => walk_at "go"; exact q
    | [x], _, q, ha =>
      walk_at "go"
      have e : isPt [x] = false := by cases x <;> rfl
      rw [e] at q
      exact q
    | x :: y :: z :: r, _, q, ha =>
      have e : isPt (x :: y :: z :: r) = false := by cases x <;> cases y <;> rfl
      rw [e] at q
      refine if_n2 (fun h => ?_) (fun h => ?_)
      · walk_at "go"
        exact q
      · have := V.int.inj h
        simp only [List.length_cons] at this
        omega
    | [x, y], kx, q, ha =>
      obtain ⟨T0, k0⟩ := kx x (.head _)
      obtain ⟨T1, k1⟩ := kx y (.tail _ (.head _))
      walk_at "go"
      refine ⟨x, T0, rfl, k0, ?_⟩
      walk_at "go"
      cases h0 : (T0 == "int") with
      | false =>
        have e : isPt [x, y] = false := by
          cases x with
          | int n => exact absurd rfl (not_int k0 h0 n)
          | _ => rfl
        rw [e] at q
        walk_at "go"
        exact q
      | true =>
        obtain ⟨m, rfl⟩ := kd_int k0 h0
        walk_at "go"
        refine ⟨y, T1, rfl, k1, ?_⟩
        walk_at "go"
        cases h1 : (T1 == "int") with
        | false =>
          have e : isPt [.int m, y] = false := by
            cases y with
            | int n => exact absurd rfl (not_int k1 h1 n)
            | _ => rfl
          rw [e] at q
          walk_at "go"
          exact q
        | true =>
          obtain ⟨n, rfl⟩ := kd_int k1 h1
          have q1 : Q (.bl (decide (0 ≤ n) && (decide (n = 0) || decide (m % 2 = 1)))) H := q
          walk_at "go"
          refine if_2 (fun h => ?_) (fun h => ?_)
          · walk_at "go"
            rw [decide_eq_false (by omega)] at q1
            exact q1
          · rw [decide_eq_true (by omega), Bool.true_and] at q1
            walk_at "go"
            rw [dec_int]
            refine if_2 (fun h => ?_) (fun h => ?_)
            · rw [decide_eq_true h] at q1
              exact q1
            · rw [decide_eq_false h, Bool.false_or] at q1
              walk_at "go"
              rw [dec_int]
              exact q1
  · unfold t_is_part
    walk_at "go"
    refine k_tuple h ?_
    cases h with
    | tup h => exact absurd rfl hT
    | int n => walk_at "go"; exact q
    | bl n => walk_at "go"; exact q
    | str n => walk_at "go"; exact q
    | non => walk_at "go"; exact q
    | lst h => walk_at "go"; exact q
    | dict h => walk_at "go"; exact q

structure Gt (K : PySem.W.Frag) : Prop where
  ne : He.ga K "is_pair" ≠ He.ga K "is_part"

/-! ### tuples put together, and parts of them -/
theorem cutV_all {xs : List V} {lo hi : Option Int} (h : HT.sIx xs.length 0 lo = 0 ∧ HT.sIx xs.length xs.length hi = xs.length) : cutV xs lo hi = xs := by
  unfold cutV
  rw [h.1, h.2, List.drop_zero]
  exact List.take_of_length_le (Nat.le_of_eq (Nat.sub_zero _).symm)
theorem w_slA {K : PySem.W.Frag} {H : Hp} {Q : VK} {a : Addr} {xs : List V} {lo hi : Option Int} (h : H a = some (.tup xs)) (q : ∀ p H', Same H H' → H' p = some (.tup (cutV xs lo hi)) → Q (.ref p) H') : rSlA K (.ref a) lo hi H Q := by
  refine ⟨a, xs, rfl, sqT h, fun e => ?_, fun _ p hp => q p _ (same_new hp) upd_same⟩
  exact q a H (Same.refl _) (by rw [cutV_all e]; exact h)
theorem w_catA {K : PySem.W.Frag} {H : Hp} {Q : VK} {a b : Addr} {xs ys : List V} (h : H a = some (.tup xs)) (h' : H b = some (.tup ys)) (hl : xs.length + ys.length ≤ 1000) (q : ∀ p H', Same H H' → H' p = some (.tup (xs ++ ys)) → Q (.ref p) H') : rCatA K (.ref a) (.ref b) H Q := by
  refine ⟨a, b, xs, ys, rfl, rfl, sqT h, sqT h', Nat.le_trans hl (by decide), fun e => ?_, fun _ e => ?_, fun _ _ p hp => q p _ (same_new hp) upd_same⟩
  · exact q b H (Same.refl _) (by rw [e]; exact h')
  · exact q a H (Same.refl _) (by rw [e, List.append_nil]; exact h)
theorem sIx_nat {n f d : Nat} (h : f ≤ n) : HT.sIx n d (some (f : Int)) = f := by
  unfold HT.sIx
  simp
  rw [if_neg (by omega)]
  omega
theorem cut_take {xs : List V} {f : Nat} (h : f ≤ xs.length) : cutV xs none (some (f : Int)) = xs.take f := by
  unfold cutV
  rw [sIx_nat h]
  rfl
theorem cut_drop {xs : List V} {f : Nat} (h : f ≤ xs.length) : cutV xs (some (f : Int)) none = xs.drop f := by
  unfold cutV
  rw [sIx_nat h]
  show (xs.drop f).take (xs.length - f) = _
  refine List.take_of_length_le ?_
  rw [List.length_drop]
  exact Nat.le_refl _
theorem cut_last {xs : List V} (h : 1 ≤ xs.length) : cutV xs none (some (-1)) = xs.dropLast := by
  unfold cutV
  have e : HT.sIx xs.length xs.length (some (-1)) = xs.length - 1 := by
    unfold HT.sIx
    simp
    omega
  rw [e, List.dropLast_eq_take]
  rfl

/-! ### promises of the law -/
def askS (K : PySem.W.Frag) (f : Addr) : Option Sp := if f = He.ga K "is_pair" then some spIsPairX else if f = He.ga K "is_part" then some spIsPartX else none
def spIs (K : PySem.W.Frag) : Sp := fun vs H Q _ => ∃ (g : List V → Bool) (f : Addr) (v : V) (due : Bool), vs = [.ref f, v, .bl due] ∧ askS K f = some (spOf g) ∧
  ((∃ a xs, v = .ref a ∧ H a = some (.tup xs) ∧ Kds H xs ∧ Q (.bl (decide (g xs = due))) H) ∨ ∃ T, Kd H v T ∧ T ≠ "tuple" ∧ Q (.bl (decide (false = due))) H)
def NotPP (H : Hp) (v : V) : Prop := (∃ T, Kd H v T ∧ T ≠ "tuple") ∨ ∃ a ys, v = .ref a ∧ H a = some (.tup ys) ∧ Kds H ys ∧ isPr ys = false ∧ isPt ys = false
def spSpoilt (K : PySem.W.Frag) : Sp := fun vs H Q _ => ∃ (l p : Addr) (a b : Int), vs = [.ref l, .ref p] ∧ Src H l ∧ H p = some (.tup [.int a, .int b]) ∧ Bits 1000 a ∧ ∀ v H', Dr l H H' → NotPP H' v → Q v H'
def spLaw (K : PySem.W.Frag) : Sp := fun vs H Q _ => ∃ (a : Addr) (ns : List Int), vs = [.ref a] ∧ SqL K H a (ns.map V.int) ∧ ns.length ≤ 63 ∧ ∀ H', Q (.bl true) H'
theorem held_ask {P : Program} {w : World} {K : PySem.W.Frag} {mg : Str → Option Value} {base : Heap} (g1 : mg "is_pair" = some (.ref (He.ga K "is_pair"))) (h1 : Has P w K mg base "is_pair" 2 ["thing"] spIsPairX) (g2 : mg "is_part" = some (.ref (He.ga K "is_part"))) (h2 : Has P w K mg base "is_part" 2 ["thing"] spIsPartX) :
    ∀ f sp, askS K f = some sp → Held P w K mg base 2 f sp := fun f sp e => by
  unfold askS at e
  by_cases c1 : f = He.ga K "is_pair"
  · rw [if_pos c1] at e
    cases e
    subst c1
    exact held_of g1 h1
  · rw [if_neg c1] at e
    by_cases c2 : f = He.ga K "is_part"
    · rw [if_pos c2] at e
      cases e
      subst c2
      exact held_of g2 h2
    · rw [if_neg c2] at e
      cases e
theorem ask_pair {K : PySem.W.Frag} : askS K (He.ga K "is_pair") = some (spOf isPr) := if_pos rfl
theorem ask_part {K : PySem.W.Frag} (h : He.ga K "is_pair" ≠ He.ga K "is_part") : askS K (He.ga K "is_part") = some (spOf isPt) := by
  unfold askS
  rw [if_neg h.symm, if_pos rfl]; rfl

-- names: 0:_law_source 1:_law_good 2:_law_odd 3:_law_at 4:_law_some
abbrev N_l_spoilt : List Str := ["_law_source", "_law_good", "_law_odd", "_law_at", "_law_some"]
def t_l_spoilt (K : PySem.W.Frag) : TS :=
  (tSeq (tAsg (tOp (rIxL K) (tLst (tCons (tC (.bl true)) (tCons (tC (.bl false)) (tCons (tC .non) (tCons (tCB rStrInt (tCons (tOp (rIxT K) (tVar 1) (tC (.int 0))) tNil)) (tCons (tLst (tCons (tOp (rIxT K) (tVar 1) (tC (.int 0))) tNil)) (tCons (tTup (tCons (tOp (rIxT K) (tVar 1) (tC (.int 0))) tNil)) (tCons tDNewK tNil)))))))) (tCall spDraw [] E0 (tCons (tVar 0) (tCons (tC (.int 7)) tNil)))) (gName 2))
    (tSeq (tAsg (tCall spDraw [] E0 (tCons (tVar 0) (tCons (tC (.int 2)) tNil))) (gName 3))
    (tSeq (tAsg (tLst (tCons (tOp (rCatA K) (tOp (rCatA K) (tSl (rSlA K) (tVar 1) tNoPart (tPart (tVar 3))) (tTup (tCons (tVar 2) tNil))) (tSl (rSlA K) (tVar 1) (tPart (tOp rAddI (tVar 3) (tC (.int 1)))) tNoPart)) (tCons (tOp (rCatA K) (tOp (rCatA K) (tSl (rSlA K) (tVar 1) tNoPart (tPart (tVar 3))) (tTup (tCons (tVar 2) tNil))) (tSl (rSlA K) (tVar 1) (tPart (tVar 3)) tNoPart)) (tCons (tOp (rCatA K) (tSl (rSlA K) (tVar 1) tNoPart (tPart (tVar 3))) (tSl (rSlA K) (tVar 1) (tPart (tOp rAddI (tVar 3) (tC (.int 1)))) tNoPart)) tNil)))) (gName 4))
    (tSeq (tAsg (tOp rCat (tVar 4) (tLst (tCons (tCB (Evl.rListS K) (tCons (tVar 1) tNil)) (tCons (tTup (tCons (tOp (rIxT K) (tVar 1) (tC (.int 0))) (tCons (tOp rSubI (tOp rSubI (tC (.int 0)) (tC (.int 1))) (tCB rAbs (tCons (tOp (rIxT K) (tVar 1) (tC (.int 1))) tNil))) tNil))) (tCons (tTup (tCons (tVar 1) tNil)) (tCons (tOp (rCatA K) (tVar 1) (tVar 1)) (tCons (tOp (rCatA K) (tVar 1) (tTup (tCons (tC (.int 0)) tNil))) tNil))))))) (gName 4))
    (tSeq (tAsg (tOp rCat (tVar 4) (tLst (tCons (tC .non) (tCons (tOp (rIxT K) (tVar 1) (tC (.int 0))) (tCons (tC (.str ("1/2" : Str))) tNil))))) (gName 4))
    (tRet (tOp (rIxL K) (tVar 4) (tCall spDraw [] E0 (tCons (tVar 0) (tCons (tC (.int 11)) tNil))))))))))

-- names: 0:_law_asked 1:_law_thing 2:_law_due 3:_law_found
abbrev N_l_is : List Str := ["_law_asked", "_law_thing", "_law_due", "_law_found"]
def t_l_is (K : PySem.W.Frag) : TS :=
  (tSeq (tAsg (tCallA 0 (askS K) (tCons (tVar 1) tNil)) (gName 3))
    (tRet (tAndV (tCB (rIsi K) (tCons (tVar 3) (tCons (tC (.ty "bool")) tNil))) (tOp rEq (tVar 3) (tVar 2)))))

-- names: 0:_law_script 1:_law_cell 2:_law_source 3:_law_num 4:_law_den 5:_law_e 6:_law_good 7:_law_some 8:_law_more 9:_law_tower 10:_law_k 11:_law_odd 12:_law_one
abbrev N_law : List Str := ["_law_script", "_law_cell", "_law_source", "_law_num", "_law_den", "_law_e", "_law_good", "_law_some", "_law_more", "_law_tower", "_law_k", "_law_odd", "_law_one"]
def t_law (K : PySem.W.Frag) : TS :=
  (tSeq (tFor (iList K (tOp rCat (tLst (tCons (tCall (spCellAt K) [] E0 (tCons (tVar 0) (tCons (tC (.int 0)) tNil))) tNil)) (tSl (rSlL K) (tVar 0) (tPart (tC (.int 1))) (tPart (tC (.int 30)))))) (gName 1) (tSeq (tAsg (tCall spBegin [] E0 (tCons (tVar 1) tNil)) (gName 2))
      (tSeq (tAsg (tCall spFar [] E0 (tCons (tVar 2) tNil)) (gName 3))
      (tSeq (tAsg (tOrT K (tCB rAbs (tCons (tCall spFar [] E0 (tCons (tVar 2) tNil)) tNil)) (tC (.int 1))) (gName 4))
      (tSeq (tAsg (tOp (rIxL K) (tLst (tCons (tC (.int 0)) (tCons (tC (.int 1)) (tCons (tCall spDraw [] E0 (tCons (tVar 2) (tCons (tC (.int 300)) tNil))) tNil)))) (tCall spDraw [] E0 (tCons (tVar 2) (tCons (tC (.int 3)) tNil)))) (gName 5))
      (tSeq (tAsg (tCall spPair [] E0 (tCons (tVar 3) (tCons (tVar 4) tNil))) (gName 6))
      (tSeq (tAsg (tCall spPart [] E0 (tCons (tVar 3) (tCons (tVar 5) tNil))) (gName 7))
      (tSeq (tAsg (tOp rAddI (tC (.int 2)) (tCall spDraw [] E0 (tCons (tVar 2) (tCons (tC (.int 30)) tNil)))) (gName 8))
      (tSeq (tIfS (tOr (tNot (tB (tCall (spIs K) [] E0 (tCons (tC (.ref (He.ga K "is_pair"))) (tCons (tVar 6) (tCons (tC (.bl true)) tNil)))))) (tNot (tB (tCall (spIs K) [] E0 (tCons (tC (.ref (He.ga K "is_part"))) (tCons (tVar 7) (tCons (tC (.bl true)) tNil))))))) (tRet (tC (.bl false))) tNext)
      (tSeq (tIfS (tOr (tNot (tB (tCall (spIs K) [] E0 (tCons (tC (.ref (He.ga K "is_pair"))) (tCons (tTup (tCons (tOp rMulX (tOp (rIxT K) (tVar 6) (tC (.int 0))) (tVar 8)) (tCons (tOp rMulX (tOp (rIxT K) (tVar 6) (tC (.int 1))) (tVar 8)) tNil))) (tCons (tC (.bl false)) tNil)))))) (tNot (tB (tCall (spIs K) [] E0 (tCons (tC (.ref (He.ga K "is_pair"))) (tCons (tTup (tCons (tVar 3) (tCons (tC (.int 0)) tNil))) (tCons (tC (.bl false)) tNil))))))) (tRet (tC (.bl false))) tNext)
      (tSeq (tIfS (tOr (tNot (tB (tCall (spIs K) [] E0 (tCons (tC (.ref (He.ga K "is_part"))) (tCons (tTup (tCons (tOp rMulI (tOp (rIxT K) (tVar 7) (tC (.int 0))) (tC (.int 2))) (tCons (tOp rAddI (tOp (rIxT K) (tVar 7) (tC (.int 1))) (tC (.int 1))) tNil))) (tCons (tC (.bl false)) tNil)))))) (tNot (tB (tCall (spIs K) [] E0 (tCons (tC (.ref (He.ga K "is_part"))) (tCons (tTup (tCons (tVar 3) (tCons (tC (.int 0)) tNil))) (tCons (tC (.bl true)) tNil))))))) (tRet (tC (.bl false))) tNext)
      (tSeq (tIfS (tNot (tB (tCall (spIs K) [] E0 (tCons (tC (.ref (He.ga K "is_part"))) (tCons (tCall (spSpoilt K) [] E0 (tCons (tVar 2) (tCons (tVar 7) tNil))) (tCons (tC (.bl false)) tNil)))))) (tRet (tC (.bl false))) tNext)
      (tIfS (tNot (tB (tCall (spIs K) [] E0 (tCons (tC (.ref (He.ga K "is_pair"))) (tCons (tCall (spSpoilt K) [] E0 (tCons (tVar 2) (tCons (tVar 6) tNil))) (tCons (tC (.bl false)) tNil)))))) (tRet (tC (.bl false))) tNext)))))))))))))
    (tSeq (tAsg (tTup (tCons (tC (.int 1)) (tCons (tC (.int 1)) tNil))) (gName 9))
    (tSeq (tFor (iRng1 (tCons (tC (.int 2000)) tNil)) (gName 10) (tAsg (tTup (tCons (tVar 9) (tCons (tC (.int 1)) tNil))) (gName 9)))
    (tSeq (tFor (iList K (tLst (tCons (tVar 9) (tCons (tTup tNil) (tCons (tTup (tCons (tC (.int 0)) (tCons (tC (.int 2)) tNil))) (tCons (tTup (tCons (tC (.int 0)) (tCons (tUn rNegI (tC (.int 1))) tNil))) (tCons tDNewK (tCons (tC (.int 5)) (tCons (tC (.bl true)) (tCons (tLst (tCons (tC (.int 1)) (tCons (tC (.int 2)) tNil))) (tCons (tTup (tCons (tTup (tCons (tC (.int 1)) (tCons (tC (.int 2)) tNil))) tNil)) tNil))))))))))) (gName 11) (tIfS (tNot (tB (tCall (spIs K) [] E0 (tCons (tC (.ref (He.ga K "is_pair"))) (tCons (tVar 11) (tCons (tC (.bl false)) tNil)))))) (tRet (tC (.bl false))) tNext))
    (tSeq (tAsg (tLst (tCons (tVar 9) (tCons (tTup tNil) (tCons (tTup (tCons (tC (.int 0)) (tCons (tC (.int 2)) tNil))) (tCons (tTup (tCons (tC (.int 4)) (tCons (tC (.int 1)) tNil))) (tCons (tTup (tCons (tC (.int 1)) (tCons (tUn rNegI (tC (.int 1))) tNil))) (tCons tDNewK (tCons (tC (.int 5)) (tCons (tC (.bl true)) (tCons (tLst (tCons (tC (.int 1)) (tCons (tC (.int 2)) tNil))) tNil)))))))))) (gName 11))
    (tRet (tAndV (tOp (rEqD K) (tLc (iList K (tVar 11)) (gName 12) (tNot (tB (tCall (spIs K) [] E0 (tCons (tC (.ref (He.ga K "is_part"))) (tCons (tVar 12) (tCons (tC (.bl false)) tNil)))))) (tVar 12) [12]) (tLst tNil)) (tAndV (tCall spIsPairX [] E0 (tCons (tTup (tCons (tC (.int 0)) (tCons (tC (.int 1)) tNil))) tNil)) (tCall spIsPartX [] E0 (tCons (tTup (tCons (tC (.int 0)) (tCons (tC (.int 0)) tNil))) tNil))))))))))

theorem p_l_is_len {K : PySem.W.Frag} {vs : List V} {H : Hp} {Q : VK} {E : XK} (h : spIs K vs H Q E) : vs.length = 3 := by
  obtain ⟨g, f, v, d, rfl, _⟩ := h; rfl
theorem p_l_spoilt_len {K : PySem.W.Frag} {vs : List V} {H : Hp} {Q : VK} {E : XK} (h : spSpoilt K vs H Q E) : vs.length = 2 := by
  obtain ⟨l, p, a, b, rfl, _⟩ := h; rfl
theorem p_law_len {K : PySem.W.Frag} {vs : List V} {H : Hp} {Q : VK} {E : XK} (h : spLaw K vs H Q E) : vs.length = 1 := by
  obtain ⟨a, b, rfl, _⟩ := h; rfl
theorem dec_bl {i j : Bool} : decide (V.bl i = V.bl j) = decide (i = j) := decide_eq_decide.mpr ⟨fun e => V.bl.inj e, fun e => by rw [e]⟩
theorem p_l_is {K : PySem.W.Frag} {vs : List V} {H : Hp} {Q : VK} {E : XK} (h : spIs K vs H Q E) : t_l_is K { nx := fun _ H' => Q .non H', rt := Q } (start N_l_is vs) H := by
  obtain ⟨g, f, v, due, rfl, hS, h⟩ := h
  unfold t_l_is
  refine w_seq (w_asg (w_callA rfl hS ?_))
  walk_at "go"
  rcases h with ⟨a, xs, rfl, ha, kx, q⟩ | ⟨T, k, hT, q⟩
  · refine ⟨_, rfl, .inl ⟨a, xs, rfl, ha, kx, ?_⟩⟩
    walk_at "go"
    rw [dec_bl]
    exact q
  · refine ⟨_, rfl, .inr ⟨T, k, hT, ?_⟩⟩
    walk_at "go"
    rw [dec_bl]
    exact q
theorem Kds.dr {l : Addr} {H H' : Hp} {xs : List V} (h : Kds H xs) (d : ∀ v T, Kd H v T → Kd H' v T) : Kds H' xs := fun x hx => by
  obtain ⟨T, h⟩ := h x hx
  exact ⟨T, d _ _ h⟩
theorem Src.ne_new {H : Hp} {l p : Addr} (s : Src H l) (hp : H p = none) : p ≠ l := fun e => by
  obtain ⟨x, y, z, h⟩ := s
  rw [e, h] at hp; cases hp
theorem kd_dr {l : Addr} {H H' : Hp} (d : Dr l H H') : ∀ v T, Kd H v T → Kd H' v T := by
  intro v T h
  cases h with
  | int n => exact .int n
  | bl b => exact .bl b
  | str z => exact .str z
  | non => exact .non
  | @lst a xs h =>
    by_cases e : a = l
    · obtain ⟨x, y, z, h2⟩ := d.src
      rw [e]; exact .lst h2
    · exact .lst (d.keep _ _ e h)
  | tup h => exact .tup (d.tup h)
  | @dict a kvs h =>
    obtain ⟨x, y, z, h2⟩ := d.src0
    exact .dict (d.keep _ _ (ne_of h h2 (by intro z; cases z)) h)
theorem NotPP.dr {l : Addr} {H H' : Hp} {v : V} (h : NotPP H v) (d : Dr l H H') : NotPP H' v := by
  rcases h with ⟨T, k, n⟩ | ⟨a, ys, rfl, ha, ky, e1, e2⟩
  · exact .inl ⟨T, kd_dr d _ _ k, n⟩
  · exact .inr ⟨a, ys, rfl, d.tup ha, ky.dr (l := l) (kd_dr d), e1, e2⟩
theorem NotPP.same {H H' : Hp} {v : V} (h : NotPP H v) (s : Same H H') : NotPP H' v := by
  rcases h with ⟨T, k, n⟩ | ⟨a, ys, rfl, ha, ky, e1, e2⟩
  · exact .inl ⟨T, k.same s, n⟩
  · exact .inr ⟨a, ys, rfl, s _ _ ha, ky.same s, e1, e2⟩
theorem NotPP.pair {K : PySem.W.Frag} {H : Hp} {v : V} {Q : VK} (h : NotPP H v) (q : Q (.bl true) H) : spIs K [.ref (He.ga K "is_pair"), v, .bl false] H Q E0 := by
  refine ⟨isPr, _, v, false, rfl, ask_pair, ?_⟩
  rcases h with ⟨T, k, n⟩ | ⟨a, ys, rfl, ha, ky, e1, e2⟩
  · exact .inr ⟨T, k, n, q⟩
  · exact .inl ⟨a, ys, rfl, ha, ky, by rw [e1]; exact q⟩
theorem NotPP.part {K : PySem.W.Frag} {H : Hp} {v : V} {Q : VK} (G : Gt K) (h : NotPP H v) (q : Q (.bl true) H) : spIs K [.ref (He.ga K "is_part"), v, .bl false] H Q E0 := by
  refine ⟨isPt, _, v, false, rfl, ask_part G.ne, ?_⟩
  rcases h with ⟨T, k, n⟩ | ⟨a, ys, rfl, ha, ky, e1, e2⟩
  · exact .inr ⟨T, k, n, q⟩
  · exact .inl ⟨a, ys, rfl, ha, ky, by rw [e2]; exact q⟩
theorem len_bad : ∀ {xs : List V}, xs.length ≠ 2 → isPr xs = false ∧ isPt xs = false
  | [], _ => ⟨rfl, rfl⟩
  | [x], _ => by cases x <;> exact ⟨rfl, rfl⟩
  | [x, y], h => absurd rfl h
  | x :: y :: z :: r, _ => by cases x <;> cases y <;> exact ⟨rfl, rfl⟩
theorem odd_bad {x y : V} (h : (∀ n, x ≠ .int n) ∨ ∀ n, y ≠ .int n) : isPr [x, y] = false ∧ isPt [x, y] = false := by
  rcases h with h | h
  · cases x with
    | int n => exact absurd rfl (h n)
    | _ => exact ⟨rfl, rfl⟩
  · cases y with
    | int n => exact absurd rfl (h n)
    | _ => cases x <;> exact ⟨rfl, rfl⟩
theorem kds2 {H : Hp} {x y : V} {T U : String} (h : Kd H x T) (k : Kd H y U) : Kds H [x, y] := fun z hz => by
  rcases List.mem_cons.mp hz with rfl | hz
  · exact ⟨T, h⟩
  · rw [List.mem_singleton.mp hz]; exact ⟨U, k⟩
theorem kds_app {H : Hp} {xs ys : List V} (h : Kds H xs) (k : Kds H ys) : Kds H (xs ++ ys) := fun z hz => by
  rcases List.mem_append.mp hz with m | m
  · exact h z m
  · exact k z m
theorem p_l_spoilt {K : PySem.W.Frag} {vs : List V} {H : Hp} {Q : VK} {E : XK} (h : spSpoilt K vs H Q E) : t_l_spoilt K { nx := fun _ H' => Q .non H', rt := Q } (start N_l_spoilt vs) H := by
  obtain ⟨l, p, a, b, rfl, hs, hp, ba, q⟩ := h
  have hlog : a.natAbs.log2 < 1920 := by
    by_cases h0 : a.natAbs = 0
    · rw [h0]; decide
    · exact Nat.lt_of_lt_of_le ((Nat.log2_lt h0).mpr ba) (by decide)
  unfold t_l_spoilt
  walk_at "go"
  refine ⟨a, rfl, hlog, ?_⟩
  walk_at "go"
  refine ⟨by show 1 ≤ sizeLine; decide, fun A1 h1 => ?_⟩
  have t1 := same_new (u := .lst [.int a]) h1
  have k1 : Kd (upd H A1 (.lst [.int a])) (.ref A1) "list" := .lst upd_same
  generalize upd H A1 (.lst [.int a]) = H1 at *
  have hp1 := t1 _ _ hp
  walk_at "go"
  refine ⟨by show 1 ≤ sizeLine; decide, fun A2 h2 => ?_⟩
  have t2 := same_new (u := .tup [.int a]) h2
  have k2 : Kd (upd H1 A2 (.tup [.int a])) (.ref A2) "tuple" := .tup upd_same
  generalize upd H1 A2 (.tup [.int a]) = H2 at *
  have hp2 := t2 _ _ hp1
  refine w_cons (w_dnew fun A3 h3 => ?_)
  have t3 := same_new (u := .dK []) h3
  have k3 : Kd (upd H2 A3 (.dK [])) (.ref A3) "dict" := .dict upd_same
  generalize upd H2 A3 (.dK []) = H3 at *
  have hp3 := t3 _ _ hp2
  have d3 := Dr.same hs ((t1.trans t2).trans t3)
  walk_at "go"
  refine ⟨by show 7 ≤ sizeLine; decide, fun L hL => ?_⟩
  have nL := d3.src.ne_new hL
  have d4 := d3.new (o := .lst [.bl true, .bl false, .non, .str (toString a), .ref A1, .ref A2, .ref A3]) hL
  have t4 := same_new (u := .lst [.bl true, .bl false, .non, .str (toString a), .ref A1, .ref A2, .ref A3]) hL
  walk_at "go"
  refine ⟨l, 7, rfl, d4.src, by decide, by decide, fun g H5 g0 g1 d5 => ?_⟩
  have hL5 := d5.keep _ _ nL upd_same
  have hp5 := d5.tup (t4 _ _ hp3)
  obtain ⟨od, To, ho, ko, no⟩ : ∃ (v : V) (T : String), atI [V.bl true, .bl false, .non, .str (toString a), .ref A1, .ref A2, .ref A3] g = some v ∧ Kd H5 v T ∧ ∀ n, v ≠ .int n := by
    rcases (by omega : g = 0 ∨ g = 1 ∨ g = 2 ∨ g = 3 ∨ g = 4 ∨ g = 5 ∨ g = 6) with h | h | h | h | h | h | h <;> subst h
    · exact ⟨_, _, rfl, .bl _, fun n e => by cases e⟩
    · exact ⟨_, _, rfl, .bl _, fun n e => by cases e⟩
    · exact ⟨_, _, rfl, .non, fun n e => by cases e⟩
    · exact ⟨_, _, rfl, .str _, fun n e => by cases e⟩
    · exact ⟨_, _, rfl, kd_dr d5 _ _ ((((k1.same t2).same t3)).same t4), fun n e => by cases e⟩
    · exact ⟨_, _, rfl, kd_dr d5 _ _ (((k2.same t3)).same t4), fun n e => by cases e⟩
    · exact ⟨_, _, rfl, kd_dr d5 _ _ (k3.same t4), fun n e => by cases e⟩
  refine w_ixL (sqL hL5) ho ?_
  have d5 := d4.trans d5
  clear hL5 ho k1 k2 k3 t1 t2 t3 t4
  walk_at "go"
  refine ⟨l, 2, rfl, d5.src, by decide, by decide, fun at_ H6 g0 g1 d6 => ?_⟩
  obtain ⟨i, rfl⟩ := Int.eq_ofNat_of_zero_le g0
  have hi : i < 2 := by omega
  have hp6 := d6.tup hp5
  have ko := kd_dr d6 _ _ ko
  have d6 := d5.trans d6
  have e1 : (i : Int) + 1 = ((i + 1 : Nat) : Int) := by omega
  have ct : cutV [V.int a, .int b] none (some (i : Int)) = [V.int a, .int b].take i := cut_take (by show i ≤ 2; omega)
  have cd : cutV [V.int a, .int b] (some (i : Int)) none = [V.int a, .int b].drop i := cut_drop (by show i ≤ 2; omega)
  have cd1 : cutV [V.int a, .int b] (some ((i + 1 : Nat) : Int)) none = [V.int a, .int b].drop (i + 1) := cut_drop (by show i + 1 ≤ 2; omega)
  have kab : ∀ H' : Hp, Kds H' [V.int a, .int b] := fun H' => kds2 (.int a) (.int b)
  have kt : ∀ H' : Hp, Kds H' ([V.int a, .int b].take i) := fun H' x hx => kab H' x (List.mem_of_mem_take hx)
  have kd : ∀ (H' : Hp) (j : Nat), Kds H' ([V.int a, .int b].drop j) := fun H' j x hx => kab H' x (List.mem_of_mem_drop hx)
  walk_at "go"
  -- one thing otherwise
  refine w_slA hp6 fun P1 H7 t7 g7 => ?_
  rw [ct] at g7
  walk_at "go"
  refine ⟨by show 1 ≤ sizeLine; decide, fun P2 hP2 => ?_⟩
  have t8 := same_new (u := .tup [od]) hP2
  have g8 : (upd H7 P2 (.tup [od])) P2 = some (.tup [od]) := upd_same
  generalize upd H7 P2 (.tup [od]) = H8 at *
  refine w_catA (t8 _ _ g7) g8 (by rw [List.length_take]; show _ + 1 ≤ 1000; omega) fun P3 H9 t9 g9 => ?_
  have hp9 := t9 _ _ (t8 _ _ (t7 _ _ hp6))
  walk_at "go"
  rw [e1]
  refine w_slA hp9 fun P4 H10 t10 g10 => ?_
  rw [cd1] at g10
  refine w_catA (t10 _ _ g9) g10 (by rw [List.length_append, List.length_take, List.length_drop]; simp only [List.length_cons, List.length_nil]; omega) fun Q1 H11 t11 g11 => ?_
  have s11 := (((t7.trans t8).trans t9).trans t10).trans t11
  have N1 : NotPP H11 (.ref Q1) := by
    refine .inr ⟨Q1, _, rfl, g11, kds_app (kds_app (kt _) (fun x hx => by rw [List.mem_singleton.mp hx]; exact ⟨To, ko.same s11⟩)) (kd _ _), ?_⟩
    rcases (by omega : i = 0 ∨ i = 1) with h | h <;> subst h
    · exact odd_bad (.inl no)
    · exact odd_bad (.inr no)
  have hp11 := s11 _ _ hp6
  -- one thing more
  walk_at "go"
  refine w_slA hp11 fun P5 H12 t12 g12 => ?_
  rw [ct] at g12
  walk_at "go"
  refine ⟨by show 1 ≤ sizeLine; decide, fun P6 hP6 => ?_⟩
  have t13 := same_new (u := .tup [od]) hP6
  have g13 : (upd H12 P6 (.tup [od])) P6 = some (.tup [od]) := upd_same
  generalize upd H12 P6 (.tup [od]) = H13 at *
  refine w_catA (t13 _ _ g12) g13 (by rw [List.length_take]; show _ + 1 ≤ 1000; omega) fun P7 H14 t14 g14 => ?_
  have hp14 := t14 _ _ (t13 _ _ (t12 _ _ hp11))
  walk_at "go"
  refine w_slA hp14 fun P8 H15 t15 g15 => ?_
  rw [cd] at g15
  refine w_catA (t15 _ _ g14) g15 (by rw [List.length_append, List.length_take, List.length_drop]; simp only [List.length_cons, List.length_nil]; omega) fun Q2 H16 t16 g16 => ?_
  have s16 := (((t12.trans t13).trans t14).trans t15).trans t16
  have N2 : NotPP H16 (.ref Q2) := by
    refine .inr ⟨Q2, _, rfl, g16, kds_app (kds_app (kt _) (fun x hx => by rw [List.mem_singleton.mp hx]; exact ⟨To, (ko.same s11).same s16⟩)) (kd _ _), ?_⟩
    rcases (by omega : i = 0 ∨ i = 1) with h | h <;> subst h
    · exact len_bad (by show 3 ≠ 2; decide)
    · exact len_bad (by show 3 ≠ 2; decide)
  have N1 := N1.same s16
  have hp16 := s16 _ _ hp11
  -- one thing less
  walk_at "go"
  refine w_slA hp16 fun P9 H17 t17 g17 => ?_
  rw [ct] at g17
  walk_at "go"
  rw [e1]
  refine w_slA (t17 _ _ hp16) fun P10 H18 t18 g18 => ?_
  rw [cd1] at g18
  refine w_catA (t18 _ _ g17) g18 (by rw [List.length_take, List.length_drop]; show _ ≤ 1000; simp only [List.length_cons, List.length_nil]; omega) fun Q3 H19 t19 g19 => ?_
  have s19 := (t17.trans t18).trans t19
  have N3 : NotPP H19 (.ref Q3) := by
    refine .inr ⟨Q3, _, rfl, g19, kds_app (kt _) (kd _ _), ?_⟩
    rcases (by omega : i = 0 ∨ i = 1) with h | h <;> subst h
    · exact len_bad (by show 1 ≠ 2; decide)
    · exact len_bad (by show 1 ≠ 2; decide)
  have N1 := N1.same s19
  have N2 := N2.same s19
  have hp19 := s19 _ _ hp16
  walk_at "go"
  refine ⟨by show 3 ≤ sizeLine; decide, fun S1 hS1 => ?_⟩
  have t20 := same_new (u := .lst [.ref Q1, .ref Q2, .ref Q3]) hS1
  have gS1 : (upd H19 S1 (.lst [.ref Q1, .ref Q2, .ref Q3])) S1 = _ := upd_same
  generalize upd H19 S1 (.lst [.ref Q1, .ref Q2, .ref Q3]) = H20 at *
  have hp20 := t20 _ _ hp19
  -- the others
  walk_at "go"
  refine w_listT (sqT hp20) fun Q4 h4 => ?_
  have t21 := same_new (u := .lst [.int a, .int b]) h4
  have N4 : NotPP (upd H20 Q4 (.lst [.int a, .int b])) (.ref Q4) := .inl ⟨"list", .lst upd_same, by decide⟩
  generalize upd H20 Q4 (.lst [.int a, .int b]) = H21 at *
  have hp21 := t21 _ _ hp20
  walk_at "go"
  refine ⟨by show 2 ≤ sizeLine; decide, fun Q5 h5 => ?_⟩
  have t22 := same_new (u := .tup [.int a, .int (0 - 1 - (b.natAbs : Int))]) h5
  have N5 : NotPP (upd H21 Q5 (.tup [.int a, .int (0 - 1 - (b.natAbs : Int))])) (.ref Q5) := .inr ⟨Q5, _, rfl, upd_same, kds2 (.int _) (.int _), by
    show (decide _ && _) = false
    rw [decide_eq_false (by omega)]; rfl, by
    show (decide _ && _) = false
    rw [decide_eq_false (by omega)]; rfl⟩
  generalize upd H21 Q5 (.tup [.int a, .int (0 - 1 - (b.natAbs : Int))]) = H22 at *
  have hp22 := t22 _ _ hp21
  walk_at "go"
  refine ⟨by show 1 ≤ sizeLine; decide, fun Q6 h6 => ?_⟩
  have t23 := same_new (u := .tup [.ref p]) h6
  have N6 : NotPP (upd H22 Q6 (.tup [.ref p])) (.ref Q6) := .inr ⟨Q6, _, rfl, upd_same, fun x hx => by rw [List.mem_singleton.mp hx]; exact ⟨"tuple", .tup (t23 _ _ hp22)⟩, len_bad (by show 1 ≠ 2; decide)⟩
  generalize upd H22 Q6 (.tup [.ref p]) = H23 at *
  have hp23 := t23 _ _ hp22
  walk_at "go"
  refine w_catA hp23 hp23 (by show 4 ≤ 1000; decide) fun Q7 H24 t24 g24 => ?_
  have N7 : NotPP H24 (.ref Q7) := .inr ⟨Q7, _, rfl, g24, kds_app (kab _) (kab _), len_bad (by show 4 ≠ 2; decide)⟩
  have hp24 := t24 _ _ hp23
  walk_at "go"
  refine ⟨by show 1 ≤ sizeLine; decide, fun Z hZ => ?_⟩
  have t25 := same_new (u := .tup [.int 0]) hZ
  have gZ : (upd H24 Z (.tup [.int 0])) Z = _ := upd_same
  generalize upd H24 Z (.tup [.int 0]) = H25 at *
  refine w_catA (t25 _ _ hp24) gZ (by show 3 ≤ 1000; decide) fun Q8 H26 t26 g26 => ?_
  have N8 : NotPP H26 (.ref Q8) := .inr ⟨Q8, _, rfl, g26, kds_app (kab _) (fun x hx => by rw [List.mem_singleton.mp hx]; exact ⟨_, .int _⟩), len_bad (by show 3 ≠ 2; decide)⟩
  have s26 := (((((t21.trans t22).trans t23).trans t24).trans t25).trans t26)
  walk_at "go"
  refine ⟨by show 5 ≤ sizeLine; decide, fun S2 hS2 => ?_⟩
  refine w_cat (keep (s26 _ _ gS1) hS2) upd_same (by show 8 ≤ sizeLine; decide) fun S3 hS3 => ?_
  have t27 : Same H26 (upd (upd H26 S2 (.lst [.ref Q4, .ref Q5, .ref Q6, .ref Q7, .ref Q8])) S3 (.lst ([.ref Q1, .ref Q2, .ref Q3] ++ [.ref Q4, .ref Q5, .ref Q6, .ref Q7, .ref Q8]))) := same_in (same_new hS2) hS3
  have gS3 : (upd (upd H26 S2 (.lst [.ref Q4, .ref Q5, .ref Q6, .ref Q7, .ref Q8])) S3 (.lst ([.ref Q1, .ref Q2, .ref Q3] ++ [.ref Q4, .ref Q5, .ref Q6, .ref Q7, .ref Q8]))) S3 = _ := upd_same
  generalize upd (upd H26 S2 (.lst [.ref Q4, .ref Q5, .ref Q6, .ref Q7, .ref Q8])) S3 (.lst ([.ref Q1, .ref Q2, .ref Q3] ++ [.ref Q4, .ref Q5, .ref Q6, .ref Q7, .ref Q8])) = H27 at *
  have hp27 := t27 _ _ (t26 _ _ (t25 _ _ hp24))
  walk_at "go"
  refine ⟨by show 3 ≤ sizeLine; decide, fun S4 hS4 => ?_⟩
  refine w_cat (keep gS3 hS4) upd_same (by show 11 ≤ sizeLine; decide) fun S5 hS5 => ?_
  have t28 : Same H27 (upd (upd H27 S4 (.lst [.non, .int a, .str ("1/2" : Str)])) S5 (.lst ([.ref Q1, .ref Q2, .ref Q3] ++ [.ref Q4, .ref Q5, .ref Q6, .ref Q7, .ref Q8] ++ [.non, .int a, .str ("1/2" : Str)]))) := same_in (same_new hS4) hS5
  have d27 := d6.trans (Dr.same d6.src ((((s11.trans s16).trans s19).trans t20).trans (s26.trans t27)))
  have n5 := (d27.new (o := .lst [.non, .int a, .str ("1/2" : Str)]) hS4).src.ne_new hS5
  have gS5 : (upd (upd H27 S4 (.lst [.non, .int a, .str ("1/2" : Str)])) S5 (.lst ([.ref Q1, .ref Q2, .ref Q3] ++ [.ref Q4, .ref Q5, .ref Q6, .ref Q7, .ref Q8] ++ [.non, .int a, .str ("1/2" : Str)]))) S5 = _ := upd_same
  have d28 := d27.trans (Dr.same d27.src t28)
  generalize upd (upd H27 S4 (.lst [.non, .int a, .str ("1/2" : Str)])) S5 (.lst ([.ref Q1, .ref Q2, .ref Q3] ++ [.ref Q4, .ref Q5, .ref Q6, .ref Q7, .ref Q8] ++ [.non, .int a, .str ("1/2" : Str)])) = H28 at *
  walk_at "go"
  refine ⟨l, 11, rfl, d28.src, by decide, by decide, fun g H29 g0 g1 d29 => ?_⟩
  have gS := d29.keep _ _ n5 gS5
  have u26 := t27.trans t28
  have u25 := t26.trans u26
  have u24 := t25.trans u25
  have u23 := t24.trans u24
  have u22 := t23.trans u23
  have u21 := t22.trans u22
  have u20 := t21.trans u21
  have u19 := t20.trans u20
  obtain ⟨v, hv, nv⟩ : ∃ v, atI ([V.ref Q1, .ref Q2, .ref Q3] ++ [.ref Q4, .ref Q5, .ref Q6, .ref Q7, .ref Q8] ++ [.non, .int a, .str ("1/2" : Str)]) g = some v ∧ NotPP H29 v := by
    rcases (by omega : g = 0 ∨ g = 1 ∨ g = 2 ∨ g = 3 ∨ g = 4 ∨ g = 5 ∨ g = 6 ∨ g = 7 ∨ g = 8 ∨ g = 9 ∨ g = 10) with h | h | h | h | h | h | h | h | h | h | h <;> subst h
    · exact ⟨_, rfl, (N1.same u19).dr d29⟩
    · exact ⟨_, rfl, (N2.same u19).dr d29⟩
    · exact ⟨_, rfl, (N3.same u19).dr d29⟩
    · exact ⟨_, rfl, (N4.same u21).dr d29⟩
    · exact ⟨_, rfl, (N5.same u22).dr d29⟩
    · exact ⟨_, rfl, (N6.same u23).dr d29⟩
    · exact ⟨_, rfl, (N7.same u24).dr d29⟩
    · exact ⟨_, rfl, (N8.same u26).dr d29⟩
    · exact ⟨_, rfl, .inl ⟨_, .non, by decide⟩⟩
    · exact ⟨_, rfl, .inl ⟨_, .int _, by decide⟩⟩
    · exact ⟨_, rfl, .inl ⟨_, .str _, by decide⟩⟩
  refine w_ixL (sqL gS) hv ?_
  exact q v _ (d28.trans d29) nv

theorem mulB {m n : Nat} {i j : Int} (h : Bits m i) (h' : Bits n j) (hn : m + n ≤ 134217728) : CMulX i j := mulx_ok h h' hn
theorem gcd_more {x y m : Int} (h : Int.gcd x y = 1) (hm : 2 ≤ m) : Int.gcd (x * m) (y * m) ≠ 1 := by
  rw [Int.gcd_mul_right, h]
  omega
theorem isPt_prt {n : Int} {e : Nat} : isPt [.int (Mth.prt n e).1, .int ((Mth.prt n e).2 : Int)] = true := by
  show (decide (0 ≤ ((Mth.prt n e).2 : Int)) && (decide (((Mth.prt n e).2 : Int) = 0) || decide ((Mth.prt n e).1 % 2 = 1))) = true
  rw [decide_eq_true (Int.natCast_nonneg _), Bool.true_and]
  rcases Mth.prt_norm e n with h | h
  · rw [h]; rfl
  · rw [decide_eq_true h, Bool.or_true]
theorem is_true {K : PySem.W.Frag} {H : Hp} {Q : VK} {g : List V → Bool} {f p : Addr} {xs : List V} {due : Bool} (hf : askS K f = some (spOf g)) (hp : H p = some (.tup xs)) (kx : Kds H xs) (e : g xs = due) (q : Q (.bl true) H) : spIs K [.ref f, .ref p, .bl due] H Q E0 :=
  ⟨g, f, _, due, rfl, hf, .inl ⟨p, xs, rfl, hp, kx, by rw [decide_eq_true e]; exact q⟩⟩
theorem kints {H : Hp} (m n : Int) : Kds H [.int m, .int n] := kds2 (.int m) (.int n)
/-- abs(far) or 1 -/
theorem den_ok {K : PySem.W.Frag} {σ : L2.St} {H : Hp} {Q : VK} {l : Addr} (hσ : σ[2]? = some (some (.ref l))) (hs : Src H l) (q : ∀ den H', 0 < den → Bits 200 den → Dr l H H' → Q (.int den) H') : tOrT K (tCB rAbs (tCons (tCall spFar [] E0 (tCons (tVar 2) tNil)) tNil)) (tC (.int 1)) σ H Q := by
  refine w_orT (w_cb (w_cons (w_call (w_cons (w_var hσ (w_nil ?_))))))
  refine ⟨l, rfl, hs, fun fd H4 bd d4 => ?_⟩
  walk_at "go"
  refine if_b (fun h => ?_) (fun h => ?_)
  · have h0 : (fd.natAbs : Int) ≠ 0 := by simpa using h
    exact q _ _ (by omega) (by unfold Bits at *; rw [Int.natAbs_natCast]; exact bd) d4
  · walk_at "go"
    exact q 1 _ (by decide) (by unfold Bits; decide) d4
theorem p_law {K : PySem.W.Frag} {vs : List V} {H : Hp} {Q : VK} {E : XK} (G : Gt K) (h : spLaw K vs H Q E) : t_law K { nx := fun _ H' => Q .non H', rt := Q } (start N_law vs) H := by
  obtain ⟨a, ns, rfl, hS, hlen, q⟩ := h
  have apt := ask_part G.ne
  unfold t_law
  refine w_seq (w_cells (fun σ => ∃ y1 y2 y3 y4 y5 y6 y7 y8, σ = [some (.ref a), y1, y2, y3, y4, y5, y6, y7, y8, none, none, none, none]) ⟨none, none, none, none, none, none, none, none, rfl⟩ rfl hS hlen ?_ ?_)
  · rintro z σ H1 N ⟨y1, y2, y3, y4, y5, y6, y7, y8, rfl⟩ _ hN
    walk_at "go"
    refine ⟨z, rfl, fun l H2 hl s2 src => ?_⟩
    walk_at "go"
    refine ⟨l, rfl, src, fun num H3 bn d3 => ?_⟩
    walk_at "s"
    walk_at "s"
    refine den_ok (l := l) (by rfl) d3.src fun den H4 hden bden d4 => ?_
    have d4 := d3.trans d4
    walk_at "go"
    refine ⟨l, 300, rfl, d4.src, by decide, by decide, fun e0 H5 a0 a1 d5 => ?_⟩
    obtain ⟨e0, rfl⟩ := Int.eq_ofNat_of_zero_le a0
    have d5 := d4.trans d5
    walk_at "go"
    refine ⟨by show 3 ≤ sizeLine; decide, fun L hL => ?_⟩
    have nL := d5.src.ne_new hL
    have d6 := d5.new (o := .lst [.int 0, .int 1, .int (e0 : Int)]) hL
    walk_at "go"
    refine ⟨l, 3, rfl, d6.src, by decide, by decide, fun g H7 g0 g1 d7 => ?_⟩
    have hL7 := d7.keep _ _ nL upd_same
    have d7 := d6.trans d7
    obtain ⟨e, he, le⟩ : ∃ e : Nat, atI [V.int 0, .int 1, .int (e0 : Int)] g = some (.int (e : Int)) ∧ e ≤ 300 := by
      rcases (by omega : g = 0 ∨ g = 1 ∨ g = 2) with h | h | h <;> subst h
      · exact ⟨0, rfl, by decide⟩
      · exact ⟨1, rfl, by decide⟩
      · exact ⟨e0, rfl, by omega⟩
    refine w_ixL (sqL hL7) he ?_
    clear hL7 he hL nL
    walk_at "go"
    have hd0 : den ≠ 0 := by omega
    refine ⟨num, den, rfl, hd0, Nat.lt_of_lt_of_le bden (Nat.pow_le_pow_right (by decide) (by decide)), fun pg hpg => ?_⟩
    have d8 := d7.new (o := .tup [.int (Mth.pn num den), .int (Mth.pd num den)]) hpg
    have gg : (upd H7 pg (.tup [.int (Mth.pn num den), .int (Mth.pd num den)])) pg = _ := upd_same
    generalize upd H7 pg (.tup [.int (Mth.pn num den), .int (Mth.pd num den)]) = H8 at *
    walk_at "go"
    refine ⟨num, e, rfl, fun ps hps => ?_⟩
    have d9 := d8.new (o := pt (Mth.prt num e)) hps
    have gs : (upd H8 ps (pt (Mth.prt num e))) ps = some (.tup [.int (Mth.prt num e).1, .int ((Mth.prt num e).2 : Int)]) := upd_same
    have gg9 := keep (u := pt (Mth.prt num e)) gg hps
    generalize upd H8 ps (pt (Mth.prt num e)) = H9 at *
    have bpn : Bits 1000 (Mth.pn num den) := Nat.lt_of_le_of_lt (Mth.pn_le hd0) (Nat.lt_of_lt_of_le bn (Nat.pow_le_pow_right (by decide) (by decide)))
    have bpd : Bits 1000 (Mth.pd num den) := Nat.lt_of_le_of_lt (Mth.pd_le hd0) (Nat.lt_of_lt_of_le bden (Nat.pow_le_pow_right (by decide) (by decide)))
    have bprt : Bits 1000 (Mth.prt num e).1 := Nat.lt_of_le_of_lt (Mth.prt_le e num).1 (Nat.lt_of_lt_of_le bn (Nat.pow_le_pow_right (by decide) (by decide)))
    have cop := Mth.pair_cop (a := num) hd0
    have pos := Mth.pd_pos (a := num) hd0
    generalize Mth.pn num den = x at *
    generalize Mth.pd num den = y at *
    walk_at "go"
    refine ⟨l, 30, rfl, d9.src, by decide, by decide, fun mo H10 m0 m1 d10 => ?_⟩
    have gg10 := d10.tup gg9
    have gs10 := d10.tup gs
    have d10 := d9.trans d10
    clear gg gg9 gs d9 d8 d7 d6 d5 hpg hps
    have bmo : Bits 100 (2 + mo) := Nat.lt_of_le_of_lt (by omega : (2 + mo).natAbs ≤ 40) (by decide)
    walk_at "go"
    refine is_true ask_pair gg10 (kints _ _) (by
      show (decide (1 ≤ y) && decide (Int.gcd x y = 1)) = true
      rw [decide_eq_true (by omega), decide_eq_true cop]; rfl) ?_
    walk_at "go"
    refine is_true apt gs10 (kints _ _) isPt_prt ?_
    walk_at "go"
    refine w_mulX (mulB bpn bmo (by decide)) ?_
    walk_at "go"
    refine w_mulX (mulB bpd bmo (by decide)) ?_
    walk_at "go"
    refine ⟨by show 2 ≤ sizeLine; decide, fun A1 h1 => ?_⟩
    walk_at "go"
    refine is_true ask_pair upd_same (kints _ _) (by
      show (decide (1 ≤ y * (2 + mo)) && decide (Int.gcd (x * (2 + mo)) (y * (2 + mo)) = 1)) = false
      rw [decide_eq_false (gcd_more cop (by omega)), Bool.and_false]) ?_
    have d11 := d10.new (o := .tup [.int (x * (2 + mo)), .int (y * (2 + mo))]) h1
    have gg11 := keep (u := .tup [.int (x * (2 + mo)), .int (y * (2 + mo))]) gg10 h1
    have gs11 := keep (u := .tup [.int (x * (2 + mo)), .int (y * (2 + mo))]) gs10 h1
    generalize upd H10 A1 (.tup [.int (x * (2 + mo)), .int (y * (2 + mo))]) = H11 at *
    walk_at "go"
    refine ⟨by show 2 ≤ sizeLine; decide, fun A2 h2 => ?_⟩
    walk_at "go"
    refine is_true ask_pair upd_same (kints _ _) rfl ?_
    have d12 := d11.new (o := .tup [.int num, .int 0]) h2
    have gg12 := keep (u := .tup [.int num, .int 0]) gg11 h2
    have gs12 := keep (u := .tup [.int num, .int 0]) gs11 h2
    generalize upd H11 A2 (.tup [.int num, .int 0]) = H12 at *
    walk_at "go"
    refine ⟨by show 2 ≤ sizeLine; decide, fun A3 h3 => ?_⟩
    walk_at "go"
    refine is_true apt upd_same (kints _ _) (by
      show (decide (0 ≤ ((Mth.prt num e).2 : Int) + 1) && (decide (((Mth.prt num e).2 : Int) + 1 = 0) || decide ((Mth.prt num e).1 * 2 % 2 = 1))) = false
      rw [decide_eq_false (p := ((Mth.prt num e).2 : Int) + 1 = 0) (by omega), decide_eq_false (p := (Mth.prt num e).1 * 2 % 2 = 1) (by omega), Bool.or_false, Bool.and_false]) ?_
    have d13 := d12.new (o := .tup [.int ((Mth.prt num e).1 * 2), .int (((Mth.prt num e).2 : Int) + 1)]) h3
    have gg13 := keep (u := .tup [.int ((Mth.prt num e).1 * 2), .int (((Mth.prt num e).2 : Int) + 1)]) gg12 h3
    have gs13 := keep (u := .tup [.int ((Mth.prt num e).1 * 2), .int (((Mth.prt num e).2 : Int) + 1)]) gs12 h3
    generalize upd H12 A3 (.tup [.int ((Mth.prt num e).1 * 2), .int (((Mth.prt num e).2 : Int) + 1)]) = H13 at *
    walk_at "go"
    refine ⟨by show 2 ≤ sizeLine; decide, fun A4 h4 => ?_⟩
    walk_at "go"
    refine is_true apt upd_same (kints _ _) rfl ?_
    have d14 := d13.new (o := .tup [.int num, .int 0]) h4
    have gg14 := keep (u := .tup [.int num, .int 0]) gg13 h4
    have gs14 := keep (u := .tup [.int num, .int 0]) gs13 h4
    generalize upd H13 A4 (.tup [.int num, .int 0]) = H14 at *
    walk_at "go"
    refine ⟨l, ps, _, _, rfl, d14.src, gs14, bprt, fun v H15 d15 nv => ?_⟩
    have gg15 := d15.tup gg14
    have d15 := d14.trans d15
    walk_at "go"
    refine nv.part G ?_
    walk_at "go"
    refine ⟨l, pg, _, _, rfl, d15.src, gg15, bpn, fun w H16 d16 nw => ?_⟩
    have d16 := d15.trans d16
    walk_at "go"
    refine nw.pair ?_
    walk_at "go"
    exact hN _ _ ⟨_, _, _, _, _, _, _, _, rfl⟩ (d16.same_of s2 hl)
  · rintro σ H1 ⟨y1, y2, y3, y4, y5, y6, y7, y8, rfl⟩ _
    walk_at "go"
    refine ⟨by show 2 ≤ sizeLine; decide, fun T0 hT0 => ?_⟩
    walk_at "go"
    have e2k : (2000 : Int).toNat = 2000 := by decide
    refine ⟨2000, rfl, by decide, by decide, ?_⟩
    rw [e2k]
    refine for_range (lo := 0) (n := 2000) (fun i σ H' => ∃ (T : Addr) (xs : List V) (y10 : Option V), σ = [some (.ref a), y1, y2, y3, y4, y5, y6, y7, y8, some (.ref T), y10, none, none] ∧ H' T = some (.tup xs) ∧ Kds H' xs ∧ (1 ≤ i → ∃ y, xs = [V.ref y, .int 1])) ⟨T0, _, none, rfl, upd_same, kints _ _, fun h => by omega⟩ ?_ ?_
    · rintro i σ H2 hi ⟨T, xs, y10, rfl, hT, kx, _⟩
      walk_at "go"
      refine ⟨by show 2 ≤ sizeLine; decide, fun T2 hT2 => ?_⟩
      exact ⟨T2, _, _, rfl, upd_same, kds2 (.tup (keep hT hT2)) (.int 1), fun _ => ⟨T, rfl⟩⟩
    · rintro σ H2 ⟨T, xs, y10, rfl, hT, kx, hx⟩
      obtain ⟨y, rfl⟩ := hx (by omega)
      have nT : NotPP H2 (.ref T) := .inr ⟨T, _, rfl, hT, kx, rfl, rfl⟩
      walk_at "go"
      refine ⟨by show 0 ≤ sizeLine; decide, fun A1 h1 => ?_⟩
      walk_at "go"
      refine ⟨by show 2 ≤ sizeLine; decide, fun A2 h2 => ?_⟩
      walk_at "go"
      refine ⟨by show 2 ≤ sizeLine; decide, fun A3 h3 => ?_⟩
      refine w_cons (w_dnew fun A4 h4 => ?_)
      walk_at "go"
      refine ⟨by show 2 ≤ sizeLine; decide, fun A5 h5 => ?_⟩
      walk_at "go"
      refine ⟨by show 2 ≤ sizeLine; decide, fun A6 h6 => ?_⟩
      walk_at "go"
      refine ⟨by show 1 ≤ sizeLine; decide, fun A7 h7 => ?_⟩
      walk_at "go"
      refine ⟨by show 9 ≤ sizeLine; decide, fun B hB => ?_⟩
      obtain ⟨H9, e9⟩ : ∃ H9, H9 = upd (upd (upd (upd (upd (upd (upd H2 A1 (.tup [])) A2 (.tup [.int 0, .int 2])) A3 (.tup [.int 0, .int (-1)])) A4 (.dK [])) A5 (.lst [.int 1, .int 2])) A6 (.tup [.int 1, .int 2])) A7 (.tup [.ref A6]) := ⟨_, rfl⟩
      have s9 : Same H2 H9 := by rw [e9]; exact same_in (same_in (same_in (same_in (same_in (same_in (same_new h1) h2) h3) h4) h5) h6) h7
      -- (0, 2) is no pair, but what of a part: it is even, so none
      have o1 : NotPP H9 (.ref A1) := .inr ⟨A1, [], rfl, by rw [e9]; exact keep (keep (keep (keep (keep (keep upd_same h2) h3) h4) h5) h6) h7, fun y hy => (by cases hy), rfl, rfl⟩
      have o2 : NotPP H9 (.ref A2) := .inr ⟨A2, [.int 0, .int 2], rfl, by rw [e9]; exact keep (keep (keep (keep (keep upd_same h3) h4) h5) h6) h7, kints _ _, by decide, by decide⟩
      have o3 : NotPP H9 (.ref A3) := .inr ⟨A3, [.int 0, .int (-1)], rfl, by rw [e9]; exact keep (keep (keep (keep upd_same h4) h5) h6) h7, kints _ _, by decide, by decide⟩
      have o4 : NotPP H9 (.ref A4) := .inl ⟨"dict", .dict (kvs := []) (by rw [e9]; exact keep (keep (keep upd_same h5) h6) h7), by decide⟩
      have o5 : NotPP H9 (.ref A5) := .inl ⟨"list", .lst (xs := [.int 1, .int 2]) (by rw [e9]; exact keep (keep upd_same h6) h7), by decide⟩
      have o7 : NotPP H9 (.ref A7) := .inr ⟨A7, [.ref A6], rfl, by rw [e9]; exact upd_same, fun y hy => (by rw [List.mem_singleton.mp hy]; exact ⟨"tuple", .tup (xs := [.int 1, .int 2]) (by rw [e9]; exact keep upd_same h7)⟩), rfl, rfl⟩
      rw [← e9] at hB ⊢
      clear e9 h1 h2 h3 h4 h5 h6 h7
      have s10 : Same H9 (upd H9 B (.lst [.ref T, .ref A1, .ref A2, .ref A3, .ref A4, .int 5, .bl true, .ref A5, .ref A7])) := same_new hB
      have h10 : (upd H9 B (.lst [.ref T, .ref A1, .ref A2, .ref A3, .ref A4, .int 5, .bl true, .ref A5, .ref A7])) B = _ := upd_same
      generalize upd H9 B (.lst [.ref T, .ref A1, .ref A2, .ref A3, .ref A4, .int 5, .bl true, .ref A5, .ref A7]) = H10 at *
      have nT9 := nT.same s9
      have odds : ∀ v ∈ [V.ref T, .ref A1, .ref A2, .ref A3, .ref A4, .int 5, .bl true, .ref A5, .ref A7], NotPP H9 v := by
        intro v hv
        rcases List.mem_cons.mp hv with rfl | hv
        · exact nT9
        rcases List.mem_cons.mp hv with rfl | hv
        · exact o1
        rcases List.mem_cons.mp hv with rfl | hv
        · exact o2
        rcases List.mem_cons.mp hv with rfl | hv
        · exact o3
        rcases List.mem_cons.mp hv with rfl | hv
        · exact o4
        rcases List.mem_cons.mp hv with rfl | hv
        · exact .inl ⟨_, .int _, by decide⟩
        rcases List.mem_cons.mp hv with rfl | hv
        · exact .inl ⟨_, .bl _, by decide⟩
        rcases List.mem_cons.mp hv with rfl | hv
        · exact o5
        rcases List.mem_cons.mp hv with rfl | hv
        · exact o7
        cases hv
      generalize [V.ref T, .ref A1, .ref A2, .ref A3, .ref A4, .int 5, .bl true, .ref A5, .ref A7] = vs at *
      refine ⟨B, rfl, ⟨_, sqL h10⟩, for_list (K := K) (a := B) (xs := vs) (fun i σ H' => (∃ y11, σ = [some (.ref a), y1, y2, y3, y4, y5, y6, y7, y8, some (.ref T), y10, y11, none]) ∧ H' = H10) ⟨⟨_, rfl⟩, rfl⟩ (fun i σ H' _ P => by rw [P.2]; exact sqL h10) ?_ ?_⟩
      · rintro i x σ1 H14 hx ⟨⟨y11, rfl⟩, rfl⟩
        have o := (odds x (List.mem_of_getElem? hx)).same s10
        walk_at "go"
        refine o.pair ?_
        walk_at "go"
        exact ⟨⟨_, rfl⟩, rfl⟩
      · rintro σ1 H14 ⟨⟨y11, rfl⟩, rfl⟩
        have nT10 := nT9.same s10
        clear odds o1 o2 o3 o4 o5 o7 h10 hB s10 s9
        walk_at "go"
        refine ⟨by show 0 ≤ sizeLine; decide, fun A1 h1 => ?_⟩
        walk_at "go"
        refine ⟨by show 2 ≤ sizeLine; decide, fun A2 h2 => ?_⟩
        walk_at "go"
        refine ⟨by show 2 ≤ sizeLine; decide, fun A3 h3 => ?_⟩
        walk_at "go"
        refine ⟨by show 2 ≤ sizeLine; decide, fun A6 h6 => ?_⟩
        refine w_cons (w_dnew fun A4 h4 => ?_)
        walk_at "go"
        refine ⟨by show 2 ≤ sizeLine; decide, fun A5 h5 => ?_⟩
        walk_at "go"
        refine ⟨by show 9 ≤ sizeLine; decide, fun B hB => ?_⟩
        obtain ⟨H9, e9⟩ : ∃ H9, H9 = upd (upd (upd (upd (upd (upd H14 A1 (.tup [])) A2 (.tup [.int 0, .int 2])) A3 (.tup [.int 4, .int 1])) A6 (.tup [.int 1, .int (-1)])) A4 (.dK [])) A5 (.lst [.int 1, .int 2]) := ⟨_, rfl⟩
        have s9 : Same H14 H9 := by rw [e9]; exact same_in (same_in (same_in (same_in (same_in (same_new h1) h2) h3) h6) h4) h5
        -- of these (4, 1) is a pair: it is asked as a part alone
        have q1 : ∀ v ∈ [V.ref T, .ref A1, .ref A2, .ref A3, .ref A6, .ref A4, .int 5, .bl true, .ref A5], (∃ T, Kd H9 v T ∧ T ≠ "tuple") ∨ ∃ a ys, v = .ref a ∧ H9 a = some (.tup ys) ∧ Kds H9 ys ∧ isPt ys = false := by
          intro v hv
          rcases List.mem_cons.mp hv with rfl | hv
          · rcases nT10.same s9 with h | ⟨a, ys, e, h1, h2, _, h3⟩
            · exact .inl h
            · exact .inr ⟨a, ys, e, h1, h2, h3⟩
          rcases List.mem_cons.mp hv with rfl | hv
          · exact .inr ⟨A1, [], rfl, by rw [e9]; exact keep (keep (keep (keep (keep upd_same h2) h3) h6) h4) h5, fun y hy => (by cases hy), rfl⟩
          rcases List.mem_cons.mp hv with rfl | hv
          · exact .inr ⟨A2, _, rfl, by rw [e9]; exact keep (keep (keep (keep upd_same h3) h6) h4) h5, kints _ _, by decide⟩
          rcases List.mem_cons.mp hv with rfl | hv
          · exact .inr ⟨A3, _, rfl, by rw [e9]; exact keep (keep (keep upd_same h6) h4) h5, kints _ _, by decide⟩
          rcases List.mem_cons.mp hv with rfl | hv
          · exact .inr ⟨A6, _, rfl, by rw [e9]; exact keep (keep upd_same h4) h5, kints _ _, by decide⟩
          rcases List.mem_cons.mp hv with rfl | hv
          · exact .inl ⟨"dict", .dict (kvs := []) (by rw [e9]; exact keep upd_same h5), by decide⟩
          rcases List.mem_cons.mp hv with rfl | hv
          · exact .inl ⟨_, .int _, by decide⟩
          rcases List.mem_cons.mp hv with rfl | hv
          · exact .inl ⟨_, .bl _, by decide⟩
          rcases List.mem_cons.mp hv with rfl | hv
          · exact .inl ⟨"list", .lst (xs := [.int 1, .int 2]) (by rw [e9]; exact upd_same), by decide⟩
          cases hv
        rw [← e9] at hB ⊢
        clear e9 h1 h2 h3 h4 h5 h6
        have s10 : Same H9 (upd H9 B (.lst [.ref T, .ref A1, .ref A2, .ref A3, .ref A6, .ref A4, .int 5, .bl true, .ref A5])) := same_new hB
        have h10 : (upd H9 B (.lst [.ref T, .ref A1, .ref A2, .ref A3, .ref A6, .ref A4, .int 5, .bl true, .ref A5])) B = _ := upd_same
        generalize upd H9 B (.lst [.ref T, .ref A1, .ref A2, .ref A3, .ref A6, .ref A4, .int 5, .bl true, .ref A5]) = H10 at *
        generalize [V.ref T, .ref A1, .ref A2, .ref A3, .ref A6, .ref A4, .int 5, .bl true, .ref A5] = ws at *
        walk_at "go"
        refine ⟨B, rfl, ⟨_, sqL h10⟩, fun D hD => lc_list (K := K) (xs := ws) (fun i H' => Same H10 H' ∧ H' D = some (.lst [])) ⟨same_new hD, upd_same⟩ (fun i H' _ m => sqL (m.1 _ _ h10)) ?_ ?_⟩
        · rintro i v H3 hv ⟨s3, hD3⟩
          have o := q1 v (List.mem_of_getElem? hv)
          walk_at "go"
          refine ⟨rfl, ?_⟩
          walk_at "go"
          refine ⟨isPt, _, v, false, rfl, apt, ?_⟩
          have ss := s10.trans s3
          rcases o with ⟨T, k, n⟩ | ⟨a, ys, rfl, ha, ky, e2⟩
          · refine .inr ⟨T, k.same ss, n, ?_⟩
            walk_at "go"
            exact ⟨s3, hD3⟩
          · refine .inl ⟨a, ys, rfl, ss _ _ ha, ky.same ss, ?_⟩
            rw [e2]
            walk_at "go"
            exact ⟨s3, hD3⟩
        · rintro H3 ⟨s3, hD3⟩
          walk_at "go"
          refine ⟨by show 0 ≤ sizeLine; decide, fun Z hZ => ?_⟩
          refine w_eqD_same (dpN (keep hD3 hZ)) (dpN upd_same) rfl ?_
          walk_at "go"
          refine ⟨by show 2 ≤ sizeLine; decide, fun Y hY => ?_⟩
          walk_at "go"
          refine ⟨_, rfl, .inl ⟨Y, _, rfl, upd_same, kints _ _, ?_⟩⟩
          have e1 : isPr [.int 0, .int 1] = true := by decide
          rw [e1]
          walk_at "go"
          refine ⟨by show 2 ≤ sizeLine; decide, fun X hX => ?_⟩
          walk_at "go"
          refine ⟨_, rfl, .inl ⟨X, _, rfl, upd_same, kints _ _, ?_⟩⟩
          have e2 : isPt [.int 0, .int 0] = true := by decide
          rw [e2]
          exact q _

def top (i : Nat) : Stmt := PySem.Challenge.pw_sumtold_k02_what_is_a_pair_or_part.main.body.getD i (.Pass ⟨0, 0, 0, 0⟩)
structure Gs (K : PySem.W.Frag) (mg : Str → Option Value) : Prop where
  tt : Gt K
  g_is_pair : mg "is_pair" = some (.ref (He.ga K "is_pair"))
  g_is_part : mg "is_part" = some (.ref (He.ga K "is_part"))
structure Bl (mg : Str → Option Value) : Prop where
  b_abs : mg "abs" = none
  b_bool : mg "bool" = none
  b_int : mg "int" = none
  b_isinstance : mg "isinstance" = none
  b_len : mg "len" = none
  b_list : mg "list" = none
  b_min : mg "min" = none
  b_range : mg "range" = none
  b_str : mg "str" = none
  b_tuple : mg "tuple" = none
section
variable {P : Program} {w : World} {K : PySem.W.Frag} {mg : Str → Option Value} {base : Heap}
abbrev s_is_whole_number : Stmt := top 1
theorem sc_is_whole_number : FnScope N_is_whole_number ["thing"] (defScope s_is_whole_number) := ⟨rfl, rfl, rfl, by decide +kernel, rfl, by decide +kernel, by decide +kernel⟩
theorem ok_is_whole_number (F : ∃ fd, FnP K "is_whole_number" s_is_whole_number (He.ga K "is_whole_number") fd) (gm : mg "is_whole_number" = some (.ref (He.ga K "is_whole_number"))) (B : Bl mg)  : Has P w K mg base "is_whole_number" 1 ["thing"] spIsInt := by
  obtain ⟨fd, F⟩ := F
  refine ⟨_, fd, gm, F.kp, FunD.bindsN (ps := ["thing"]) F fun _ _ _ _ _ _ us hl => match us, hl with | [_], _ => rfl, F.ok sc_is_whole_number (fun vs H Q E h => p_is_whole_number_len h) (fun cdv A outer s H vs Q E hr h => ⟨t_is_whole_number K, PSs.nox ?_, p_is_whole_number h⟩)⟩
  have hu := hu_of hr
  exact (pss_one (ps_ret (pe_and (pe_callB call_isi (by rfl) B.b_isinstance (by decide +kernel) (pa_cons (pv 0) (pa_cons (pe_bltn (v := .ty "int") (by rfl) B.b_int (by decide +kernel) rfl) pa_nil))) (pe_one (pe_not (pe_callB call_isi (by rfl) B.b_isinstance (by decide +kernel) (pa_cons (pv 0) (pa_cons (pe_bltn (v := .ty "bool") (by rfl) B.b_bool (by decide +kernel) rfl) pa_nil))))))))

abbrev s_divisor : Stmt := top 2
theorem sc_divisor : FnScope N_divisor ["one", "other"] (defScope s_divisor) := ⟨rfl, rfl, rfl, by decide +kernel, rfl, by decide +kernel, by decide +kernel⟩
theorem ok_divisor (F : ∃ fd, FnP K "divisor" s_divisor (He.ga K "divisor") fd) (gm : mg "divisor" = some (.ref (He.ga K "divisor"))) (B : Bl mg)  : Has P w K mg base "divisor" 1 ["one", "other"] spDivisor := by
  obtain ⟨fd, F⟩ := F
  refine ⟨_, fd, gm, F.kp, FunD.bindsN (ps := ["one", "other"]) F fun _ _ _ _ _ _ us hl => match us, hl with | [_, _], _ => rfl, F.ok sc_divisor (fun vs H Q E h => p_divisor_len h) (fun cdv A outer s H vs Q E hr h => ⟨t_divisor K, PSs.nox ?_, p_divisor h⟩)⟩
  have hu := hu_of hr
  exact (pss_cons (ps_while PassesOwn.never (pt_cmpR op_ne (pv 1) pe_int (nomark _)) (pss_one (ps_par (i := 0) (j := 1) rfl sc_divisor.nd rfl rfl (by decide) rfl rfl (pa_cons (pv 1) (pa_cons (pe_op op_mod (pv 0) (pv 1)) pa_nil)) (by rfl))))
    (pss_one (ps_ret (pv 0))))

abbrev s_pair : Stmt := top 3
theorem sc_pair : FnScope N_pair ["num", "den"] (defScope s_pair) := ⟨rfl, rfl, rfl, by decide +kernel, rfl, by decide +kernel, by decide +kernel⟩
theorem ok_pair (F : ∃ fd, FnP K "pair" s_pair (He.ga K "pair") fd) (gm : mg "pair" = some (.ref (He.ga K "pair"))) (B : Bl mg) (h_divisor : Has P w K mg base "divisor" 1 ["one", "other"] spDivisor) : Has P w K mg base "pair" 2 ["num", "den"] spPair := by
  obtain ⟨fd, F⟩ := F
  refine ⟨_, fd, gm, F.kp, FunD.bindsN (ps := ["num", "den"]) F fun _ _ _ _ _ _ us hl => match us, hl with | [_, _], _ => rfl, F.ok sc_pair (fun vs H Q E h => p_pair_len h) (fun cdv A outer s H vs Q E hr h => ⟨t_pair K, PSs.nox ?_, p_pair h⟩)⟩
  have hu := hu_of hr
  exact (pss_cons (ps_if (pt_cmpR op_lt (pv 1) pe_int (nomark _)) (pss_cons (ps_set (i := 0) sc_pair.nd rfl (Or.inl rfl) (pe_op op_sub pe_int (pv 0)))
      (pss_one (ps_set (i := 1) sc_pair.nd rfl (Or.inl rfl) (pe_op op_sub pe_int (pv 1))))) pss_nil)
    (pss_cons (ps_set (i := 2) sc_pair.nd rfl (Or.inl rfl) (pe_has h_divisor (hr.mono (by decide)) (by rfl) (pa_cons (pe_callB call_abs (by rfl) B.b_abs (by decide +kernel) (pa_cons (pv 0) pa_nil)) (pa_cons (pv 1) pa_nil))))
    (pss_one (ps_ret (pe_tup (pa_cons (pe_op op_fdivW (pv 0) (pv 2)) (pa_cons (pe_op op_fdivW (pv 1) (pv 2)) pa_nil)))))))

abbrev s_is_pair : Stmt := top 4
theorem sc_is_pair : FnScope N_is_pair ["thing"] (defScope s_is_pair) := ⟨rfl, rfl, rfl, by decide +kernel, rfl, by decide +kernel, by decide +kernel⟩
theorem ok_is_pair (F : ∃ fd, FnP K "is_pair" s_is_pair (He.ga K "is_pair") fd) (gm : mg "is_pair" = some (.ref (He.ga K "is_pair"))) (B : Bl mg) (h_divisor : Has P w K mg base "divisor" 1 ["one", "other"] spDivisor) (h_is_whole_number : Has P w K mg base "is_whole_number" 1 ["thing"] spIsInt) : Has P w K mg base "is_pair" 2 ["thing"] spIsPairX := by
  obtain ⟨fd, F⟩ := F
  refine ⟨_, fd, gm, F.kp, FunD.bindsN (ps := ["thing"]) F fun _ _ _ _ _ _ us hl => match us, hl with | [_], _ => rfl, F.ok sc_is_pair (fun vs H Q E h => p_is_pair_len h) (fun cdv A outer s H vs Q E hr h => ⟨t_is_pair K, PSs.nox ?_, p_is_pair h⟩)⟩
  have hu := hu_of hr
  exact (pss_cons (ps_if (PW.pt (pw_or (pt_not (pt_val (pe_callB call_isi (by rfl) B.b_isinstance (by decide +kernel) (pa_cons (pv 0) (pa_cons (pe_bltn (v := .ty "tuple") (by rfl) B.b_tuple (by decide +kernel) rfl) pa_nil))))) (pw_or1 (pt_cmpR op_ne (pe_callB call_len_seq (by rfl) B.b_len (by decide +kernel) (pa_cons (pv 0) pa_nil)) pe_int (nomark _))))) (pss_one (ps_ret pe_bl)) pss_nil)
    (pss_cons (ps_if (PW.pt (pw_or (pt_not (pt_val (pe_has h_is_whole_number (hr.mono (by decide)) (by rfl) (pa_cons (pe_ix ix_tup (pv 0) pe_int (fun _ _ => rfl)) pa_nil)))) (pw_or (pt_not (pt_val (pe_has h_is_whole_number (hr.mono (by decide)) (by rfl) (pa_cons (pe_ix ix_tup (pv 0) pe_int (fun _ _ => rfl)) pa_nil)))) (pw_or1 (pt_cmpR op_lt (pe_ix ix_tup (pv 0) pe_int (fun _ _ => rfl)) pe_int (nomark _)))))) (pss_one (ps_ret pe_bl)) pss_nil)
    (pss_one (ps_ret (pe_cmpR op_eq (pe_has h_divisor (hr.mono (by decide)) (by rfl) (pa_cons (pe_callB call_abs (by rfl) B.b_abs (by decide +kernel) (pa_cons (pe_ix ix_tup (pv 0) pe_int (fun _ _ => rfl)) pa_nil)) (pa_cons (pe_ix ix_tup (pv 0) pe_int (fun _ _ => rfl)) pa_nil))) pe_int (nomark _))))))

abbrev s_part : Stmt := top 5
theorem sc_part : FnScope N_part ["num", "e"] (defScope s_part) := ⟨rfl, rfl, rfl, by decide +kernel, rfl, by decide +kernel, by decide +kernel⟩
theorem ok_part (F : ∃ fd, FnP K "part" s_part (He.ga K "part") fd) (gm : mg "part" = some (.ref (He.ga K "part"))) (B : Bl mg)  : Has P w K mg base "part" 1 ["num", "e"] spPart := by
  obtain ⟨fd, F⟩ := F
  refine ⟨_, fd, gm, F.kp, FunD.bindsN (ps := ["num", "e"]) F fun _ _ _ _ _ _ us hl => match us, hl with | [_, _], _ => rfl, F.ok sc_part (fun vs H Q E h => p_part_len h) (fun cdv A outer s H vs Q E hr h => ⟨t_part K, PSs.nox ?_, p_part h⟩)⟩
  have hu := hu_of hr
  exact (pss_cons (ps_if (pt_cmpR op_eq (pv 0) pe_int (nomark _)) (pss_one (ps_ret (pe_tup (pa_cons pe_int (pa_cons pe_int pa_nil))))) pss_nil)
    (pss_cons (ps_set (i := 2) sc_part.nd rfl (Or.inl rfl) (pe_callB (call_min2 rfl) (by rfl) B.b_min (by decide +kernel) (pa_cons (pv 1) (pa_cons (pe_op op_sub (pe_bits (pe_op op_and (pv 0) (pe_op op_sub pe_int (pv 0)))) pe_int) pa_nil))))
    (pss_one (ps_ret (pe_tup (pa_cons (pe_op op_shr (pv 0) (pv 2)) (pa_cons (pe_op op_sub (pv 1) (pv 2)) pa_nil)))))))

abbrev s_is_part : Stmt := top 6
theorem sc_is_part : FnScope N_is_part ["thing"] (defScope s_is_part) := ⟨rfl, rfl, rfl, by decide +kernel, rfl, by decide +kernel, by decide +kernel⟩
theorem ok_is_part (F : ∃ fd, FnP K "is_part" s_is_part (He.ga K "is_part") fd) (gm : mg "is_part" = some (.ref (He.ga K "is_part"))) (B : Bl mg) (h_is_whole_number : Has P w K mg base "is_whole_number" 1 ["thing"] spIsInt) : Has P w K mg base "is_part" 2 ["thing"] spIsPartX := by
  obtain ⟨fd, F⟩ := F
  refine ⟨_, fd, gm, F.kp, FunD.bindsN (ps := ["thing"]) F fun _ _ _ _ _ _ us hl => match us, hl with | [_], _ => rfl, F.ok sc_is_part (fun vs H Q E h => p_is_part_len h) (fun cdv A outer s H vs Q E hr h => ⟨t_is_part K, PSs.nox ?_, p_is_part h⟩)⟩
  have hu := hu_of hr
  exact (pss_cons (ps_if (PW.pt (pw_or (pt_not (pt_val (pe_callB call_isi (by rfl) B.b_isinstance (by decide +kernel) (pa_cons (pv 0) (pa_cons (pe_bltn (v := .ty "tuple") (by rfl) B.b_tuple (by decide +kernel) rfl) pa_nil))))) (pw_or1 (pt_cmpR op_ne (pe_callB call_len_seq (by rfl) B.b_len (by decide +kernel) (pa_cons (pv 0) pa_nil)) pe_int (nomark _))))) (pss_one (ps_ret pe_bl)) pss_nil)
    (pss_cons (ps_if (PW.pt (pw_or (pt_not (pt_val (pe_has h_is_whole_number (hr.mono (by decide)) (by rfl) (pa_cons (pe_ix ix_tup (pv 0) pe_int (fun _ _ => rfl)) pa_nil)))) (pw_or (pt_not (pt_val (pe_has h_is_whole_number (hr.mono (by decide)) (by rfl) (pa_cons (pe_ix ix_tup (pv 0) pe_int (fun _ _ => rfl)) pa_nil)))) (pw_or1 (pt_cmpR op_lt (pe_ix ix_tup (pv 0) pe_int (fun _ _ => rfl)) pe_int (nomark _)))))) (pss_one (ps_ret pe_bl)) pss_nil)
    (pss_one (ps_ret (pe_or (pe_cmpR op_eq (pe_ix ix_tup (pv 0) pe_int (fun _ _ => rfl)) pe_int (nomark _)) (pe_one (pe_cmpR op_eq (pe_op op_mod (pe_ix ix_tup (pv 0) pe_int (fun _ _ => rfl)) pe_int) pe_int (nomark _))))))))

abbrev s_l_cell_at : Stmt := top 8
theorem sc_l_cell_at : FnScope N_l_cell_at ["_law_script", "_law_k"] (defScope s_l_cell_at) := ⟨rfl, rfl, rfl, by decide +kernel, rfl, by decide +kernel, by decide +kernel⟩
theorem ok_l_cell_at (F : ∃ fd, FnP K "_law_cell_at" s_l_cell_at (He.ga K "_law_cell_at") fd) (gm : mg "_law_cell_at" = some (.ref (He.ga K "_law_cell_at"))) (B : Bl mg)  : Has P w K mg base "_law_cell_at" 1 ["_law_script", "_law_k"] (spCellAt K) := by
  obtain ⟨fd, F⟩ := F
  refine ⟨_, fd, gm, F.kp, FunD.bindsN (ps := ["_law_script", "_law_k"]) F fun _ _ _ _ _ _ us hl => match us, hl with | [_, _], _ => rfl, F.ok sc_l_cell_at (fun vs H Q E h => p_l_cell_at_len h) (fun cdv A outer s H vs Q E hr h => ⟨t_l_cell_at K, PSs.nox ?_, p_l_cell_at h⟩)⟩
  have hu := hu_of hr
  exact (pss_cons (ps_if (pt_cmpR op_lt (pv 1) (pe_callB call_len_seq (by rfl) B.b_len (by decide +kernel) (pa_cons (pv 0) pa_nil)) (nomark _)) (pss_one (ps_ret (pe_ix ix_list (pv 0) (pv 1) (fun _ _ => rfl)))) pss_nil)
    (pss_one (ps_ret pe_int)))

abbrev s_l_begin : Stmt := top 9
theorem sc_l_begin : FnScope N_l_begin ["_law_cell"] (defScope s_l_begin) := ⟨rfl, rfl, rfl, by decide +kernel, rfl, by decide +kernel, by decide +kernel⟩
theorem ok_l_begin (F : ∃ fd, FnP K "_law_begin" s_l_begin (He.ga K "_law_begin") fd) (gm : mg "_law_begin" = some (.ref (He.ga K "_law_begin"))) (B : Bl mg)  : Has P w K mg base "_law_begin" 1 ["_law_cell"] spBegin := by
  obtain ⟨fd, F⟩ := F
  refine ⟨_, fd, gm, F.kp, FunD.bindsN (ps := ["_law_cell"]) F fun _ _ _ _ _ _ us hl => match us, hl with | [_], _ => rfl, F.ok sc_l_begin (fun vs H Q E h => p_l_begin_len h) (fun cdv A outer s H vs Q E hr h => ⟨t_l_begin K, PSs.nox ?_, p_l_begin h⟩)⟩
  have hu := hu_of hr
  exact (pss_one (ps_ret (pe_lst (pa_cons (pe_ix ix_list (pe_lst (pa_cons pe_int (pa_cons (pv 0) pa_nil))) (pe_callTy call_int1 (by rfl) B.b_int (by decide +kernel) (pa_cons (pe_cmpR op_ge (pv 0) (pe_op op_pow pe_int pe_int) (nomark _)) pa_nil)) (fun _ _ => rfl)) (pa_cons (pe_op op_mod (pv 0) pe_int) (pa_cons pe_int pa_nil))))))

abbrev s_l_draw : Stmt := top 10
theorem sc_l_draw : FnScope N_l_draw ["_law_source", "_law_most"] (defScope s_l_draw) := ⟨rfl, rfl, rfl, by decide +kernel, rfl, by decide +kernel, by decide +kernel⟩
theorem ok_l_draw (F : ∃ fd, FnP K "_law_draw" s_l_draw (He.ga K "_law_draw") fd) (gm : mg "_law_draw" = some (.ref (He.ga K "_law_draw"))) (B : Bl mg)  : Has P w K mg base "_law_draw" 1 ["_law_source", "_law_most"] spDraw := by
  obtain ⟨fd, F⟩ := F
  refine ⟨_, fd, gm, F.kp, FunD.bindsN (ps := ["_law_source", "_law_most"]) F fun _ _ _ _ _ _ us hl => match us, hl with | [_, _], _ => rfl, F.ok sc_l_draw (fun vs H Q E h => p_l_draw_len h) (fun cdv A outer s H vs Q E hr h => ⟨t_l_draw K, PSs.nox ?_, p_l_draw h⟩)⟩
  have hu := hu_of hr
  exact (pss_cons (ps_if (pt_cmpR op_gt (pe_ix ix_list (pv 0) pe_int (fun _ _ => rfl)) pe_int (nomark _)) (pss_cons (ps_set (i := 2) sc_l_draw.nd rfl (Or.inl rfl) (pe_op op_mod (pe_ix ix_list (pv 0) pe_int (fun _ _ => rfl)) (pv 1)))
      (pss_cons (ps_asg (pe_op op_fdivW (pe_ix ix_list (pv 0) pe_int (fun _ _ => rfl)) (pv 1)) (pg_sub (pv 0) pe_int set_list))
      (pss_one (ps_ret (pv 2))))) pss_nil)
    (pss_cons (ps_asg (pe_op op_add (pe_ix ix_list (pv 0) pe_int (fun _ _ => rfl)) pe_int) (pg_sub (pv 0) pe_int set_list))
    (pss_cons (ps_set (i := 3) sc_l_draw.nd rfl (Or.inl rfl) (pe_op op_mod (pe_op op_mul (pe_op op_add (pe_op op_add (pe_ix ix_list (pv 0) pe_int (fun _ _ => rfl)) (pe_op op_mul pe_int (pe_ix ix_list (pv 0) pe_int (fun _ _ => rfl)))) pe_int) pe_int) pe_int))
    (pss_cons (ps_set (i := 3) sc_l_draw.nd rfl (Or.inl rfl) (pe_op op_mod (pe_op op_mulX (pv 3) (pe_op op_add (pe_op op_fdivW (pv 3) pe_int) pe_int)) pe_int))
    (pss_one (ps_ret (pe_op op_mod (pe_op op_mod (pe_op op_mulX (pv 3) (pe_op op_add (pe_op op_fdivW (pv 3) pe_int) pe_int)) pe_int) (pv 1))))))))

abbrev s_l_far : Stmt := top 11
theorem sc_l_far : FnScope N_l_far ["_law_source"] (defScope s_l_far) := ⟨rfl, rfl, rfl, by decide +kernel, rfl, by decide +kernel, by decide +kernel⟩
theorem ok_l_far (F : ∃ fd, FnP K "_law_far" s_l_far (He.ga K "_law_far") fd) (gm : mg "_law_far" = some (.ref (He.ga K "_law_far"))) (B : Bl mg) (h_l_draw : Has P w K mg base "_law_draw" 1 ["_law_source", "_law_most"] spDraw) : Has P w K mg base "_law_far" 2 ["_law_source"] spFar := by
  obtain ⟨fd, F⟩ := F
  refine ⟨_, fd, gm, F.kp, FunD.bindsN (ps := ["_law_source"]) F fun _ _ _ _ _ _ us hl => match us, hl with | [_], _ => rfl, F.ok sc_l_far (fun vs H Q E h => p_l_far_len h) (fun cdv A outer s H vs Q E hr h => ⟨t_l_far K, PSs.nox ?_, p_l_far h⟩)⟩
  have hu := hu_of hr
  exact (pss_cons (ps_set (i := 1) sc_l_far.nd rfl (Or.inl rfl) (pe_has h_l_draw (hr.mono (by decide)) (by rfl) (pa_cons (pv 0) (pa_cons pe_int pa_nil))))
    (pss_cons (ps_set (i := 2) sc_l_far.nd rfl (Or.inl rfl) (pe_op op_sub (pe_has h_l_draw (hr.mono (by decide)) (by rfl) (pa_cons (pv 0) (pa_cons pe_int pa_nil))) pe_int))
    (pss_cons (ps_set (i := 3) sc_l_far.nd rfl (Or.inl rfl) pe_int)
    (pss_cons (ps_for PassesOwn.never rfl (pi_range1 (by rfl) B.b_range (pa_cons (pe_op op_add pe_int (pe_has h_l_draw (hr.mono (by decide)) (by rfl) (pa_cons (pv 0) (pa_cons pe_int pa_nil)))) pa_nil)) (pg_name (i := 4) sc_l_far.nd rfl (Or.inl rfl)) (pss_one (ps_set (i := 3) sc_l_far.nd rfl (Or.inl rfl) (pe_op op_add (pe_op op_mulX (pv 3) (pe_op op_pow pe_int pe_int)) (pe_has h_l_draw (hr.mono (by decide)) (by rfl) (pa_cons (pv 0) (pa_cons (pe_op op_pow pe_int pe_int) pa_nil)))))))
    (pss_cons (ps_set (i := 5) sc_l_far.nd rfl (Or.inl rfl) (pe_op op_sub (pe_op op_add (pe_op op_shlW pe_int (pe_has h_l_draw (hr.mono (by decide)) (by rfl) (pa_cons (pv 0) (pa_cons pe_int pa_nil)))) (pe_has h_l_draw (hr.mono (by decide)) (by rfl) (pa_cons (pv 0) (pa_cons pe_int pa_nil)))) pe_int))
    (pss_one (ps_ret (pe_ix ix_list (pe_lst (pa_cons (pv 2) (pa_cons (pv 2) (pa_cons (pv 3) (pa_cons (pe_op op_sub pe_int (pv 3)) (pa_cons (pv 5) (pa_cons (pe_op op_sub pe_int (pv 5)) pa_nil))))))) (pv 1) (fun _ _ => rfl)))))))))

abbrev s_l_spoilt : Stmt := top 12
theorem sc_l_spoilt : FnScope N_l_spoilt ["_law_source", "_law_good"] (defScope s_l_spoilt) := ⟨rfl, rfl, rfl, by decide +kernel, rfl, by decide +kernel, by decide +kernel⟩
theorem ok_l_spoilt (F : ∃ fd, FnP K "_law_spoilt" s_l_spoilt (He.ga K "_law_spoilt") fd) (gm : mg "_law_spoilt" = some (.ref (He.ga K "_law_spoilt"))) (B : Bl mg) (h_l_draw : Has P w K mg base "_law_draw" 1 ["_law_source", "_law_most"] spDraw) : Has P w K mg base "_law_spoilt" 2 ["_law_source", "_law_good"] (spSpoilt K) := by
  obtain ⟨fd, F⟩ := F
  refine ⟨_, fd, gm, F.kp, FunD.bindsN (ps := ["_law_source", "_law_good"]) F fun _ _ _ _ _ _ us hl => match us, hl with | [_, _], _ => rfl, F.ok sc_l_spoilt (fun vs H Q E h => p_l_spoilt_len h) (fun cdv A outer s H vs Q E hr h => ⟨t_l_spoilt K, PSs.nox ?_, p_l_spoilt h⟩)⟩
  have hu := hu_of hr
  exact (pss_cons (ps_set (i := 2) sc_l_spoilt.nd rfl (Or.inl rfl) (pe_ix ix_list (pe_lst (pa_cons pe_bl (pa_cons pe_bl (pa_cons pe_non (pa_cons (pe_callTy call_str_int (by rfl) B.b_str (by decide +kernel) (pa_cons (pe_ix ix_tup (pv 1) pe_int (fun _ _ => rfl)) pa_nil)) (pa_cons (pe_lst (pa_cons (pe_ix ix_tup (pv 1) pe_int (fun _ _ => rfl)) pa_nil)) (pa_cons (pe_tup (pa_cons (pe_ix ix_tup (pv 1) pe_int (fun _ _ => rfl)) pa_nil)) (pa_cons pe_dnewK pa_nil)))))))) (pe_has h_l_draw (hr.mono (by decide)) (by rfl) (pa_cons (pv 0) (pa_cons pe_int pa_nil))) (fun _ _ => rfl)))
    (pss_cons (ps_set (i := 3) sc_l_spoilt.nd rfl (Or.inl rfl) (pe_has h_l_draw (hr.mono (by decide)) (by rfl) (pa_cons (pv 0) (pa_cons pe_int pa_nil))))
    (pss_cons (ps_set (i := 4) sc_l_spoilt.nd rfl (Or.inl rfl) (pe_lst (pa_cons (pe_op op_catA (pe_op op_catA (pe_slice sl_tupA (pv 1) po_none (po_some (pv 3))) (pe_tup (pa_cons (pv 2) pa_nil))) (pe_slice sl_tupA (pv 1) (po_some (pe_op op_add (pv 3) pe_int)) po_none)) (pa_cons (pe_op op_catA (pe_op op_catA (pe_slice sl_tupA (pv 1) po_none (po_some (pv 3))) (pe_tup (pa_cons (pv 2) pa_nil))) (pe_slice sl_tupA (pv 1) (po_some (pv 3)) po_none)) (pa_cons (pe_op op_catA (pe_slice sl_tupA (pv 1) po_none (po_some (pv 3))) (pe_slice sl_tupA (pv 1) (po_some (pe_op op_add (pv 3) pe_int)) po_none)) pa_nil)))))
    (pss_cons (ps_set (i := 4) sc_l_spoilt.nd rfl (Or.inl rfl) (pe_op op_cat (pv 4) (pe_lst (pa_cons (pe_callTy call_list_of (by rfl) B.b_list (by decide +kernel) (pa_cons (pv 1) pa_nil)) (pa_cons (pe_tup (pa_cons (pe_ix ix_tup (pv 1) pe_int (fun _ _ => rfl)) (pa_cons (pe_op op_sub (pe_op op_sub pe_int pe_int) (pe_callB call_abs (by rfl) B.b_abs (by decide +kernel) (pa_cons (pe_ix ix_tup (pv 1) pe_int (fun _ _ => rfl)) pa_nil))) pa_nil))) (pa_cons (pe_tup (pa_cons (pv 1) pa_nil)) (pa_cons (pe_op op_catA (pv 1) (pv 1)) (pa_cons (pe_op op_catA (pv 1) (pe_tup (pa_cons pe_int pa_nil))) pa_nil))))))))
    (pss_cons (ps_set (i := 4) sc_l_spoilt.nd rfl (Or.inl rfl) (pe_op op_cat (pv 4) (pe_lst (pa_cons pe_non (pa_cons (pe_ix ix_tup (pv 1) pe_int (fun _ _ => rfl)) (pa_cons pe_str pa_nil))))))
    (pss_one (ps_ret (pe_ix ix_list (pv 4) (pe_has h_l_draw (hr.mono (by decide)) (by rfl) (pa_cons (pv 0) (pa_cons pe_int pa_nil))) (fun _ _ => rfl)))))))))

abbrev s_l_is : Stmt := top 13
theorem sc_l_is : FnScope N_l_is ["_law_asked", "_law_thing", "_law_due"] (defScope s_l_is) := ⟨rfl, rfl, rfl, by decide +kernel, rfl, by decide +kernel, by decide +kernel⟩
theorem ok_l_is (F : ∃ fd, FnP K "_law_is" s_l_is (He.ga K "_law_is") fd) (gm : mg "_law_is" = some (.ref (He.ga K "_law_is"))) (B : Bl mg) (G : Gs K mg) (h_is_pair : Has P w K mg base "is_pair" 2 ["thing"] spIsPairX) (h_is_part : Has P w K mg base "is_part" 2 ["thing"] spIsPartX) : Has P w K mg base "_law_is" 3 ["_law_asked", "_law_thing", "_law_due"] (spIs K) := by
  obtain ⟨fd, F⟩ := F
  refine ⟨_, fd, gm, F.kp, FunD.bindsN (ps := ["_law_asked", "_law_thing", "_law_due"]) F fun _ _ _ _ _ _ us hl => match us, hl with | [_, _, _], _ => rfl, F.ok sc_l_is (fun vs H Q E h => p_l_is_len h) (fun cdv A outer s H vs Q E hr h => ⟨t_l_is K, PSs.nox ?_, p_l_is h⟩)⟩
  have hu := hu_of hr
  exact (pss_cons (ps_set (i := 3) sc_l_is.nd rfl (Or.inl rfl) (pe_callA (i := 0) (S := (askS K)) (held_ask G.g_is_pair h_is_pair G.g_is_part h_is_part) (hr.mono (by decide)) rfl (by first | exact Or.inl rfl | exact Or.inr rfl) (pa_cons (pv 1) pa_nil)))
    (pss_one (ps_ret (pe_and (pe_callB call_isi (by rfl) B.b_isinstance (by decide +kernel) (pa_cons (pv 3) (pa_cons (pe_bltn (v := .ty "bool") (by rfl) B.b_bool (by decide +kernel) rfl) pa_nil))) (pe_one (pe_cmpR op_eq (pv 3) (pv 2) (nomark _)))))))

abbrev s_law : Stmt := top 14
theorem sc_law : FnScope N_law ["_law_script"] (defScope s_law) := ⟨rfl, rfl, rfl, by decide +kernel, rfl, by decide +kernel, by decide +kernel⟩
theorem ok_law {f : Addr} {fd : FuncData} (F : FnP K "law" s_law f fd) (B : Bl mg) (G : Gs K mg) (h_is_part : Has P w K mg base "is_part" 2 ["thing"] spIsPartX) (h_is_pair : Has P w K mg base "is_pair" 2 ["thing"] spIsPairX) (h_l_is : Has P w K mg base "_law_is" 3 ["_law_asked", "_law_thing", "_law_due"] (spIs K)) (h_l_cell_at : Has P w K mg base "_law_cell_at" 1 ["_law_script", "_law_k"] (spCellAt K)) (h_l_spoilt : Has P w K mg base "_law_spoilt" 2 ["_law_source", "_law_good"] (spSpoilt K)) (h_l_draw : Has P w K mg base "_law_draw" 1 ["_law_source", "_law_most"] spDraw) (h_part : Has P w K mg base "part" 1 ["num", "e"] spPart) (h_pair : Has P w K mg base "pair" 2 ["num", "den"] spPair) (h_l_far : Has P w K mg base "_law_far" 2 ["_law_source"] spFar) (h_l_begin : Has P w K mg base "_law_begin" 1 ["_law_cell"] spBegin) : FnOk P w K mg base CX0 4 f fd ["_law_script"] (spLaw K) := by
  refine F.ok sc_law (fun vs H Q E h => p_law_len h) (fun cdv A outer s H vs Q E hr h => ⟨t_law K, PSs.nox ?_, p_law G.tt h⟩)
  have hu := hu_of hr
  exact (pss_cons (ps_for PassesOwn.never rfl (pi_list (pe_op op_cat (pe_lst (pa_cons (pe_has h_l_cell_at (hr.mono (by decide)) (by rfl) (pa_cons (pv 0) (pa_cons pe_int pa_nil))) pa_nil)) (pe_slice sl_list (pv 0) (po_some pe_int) (po_some pe_int)))) (pg_name (i := 1) sc_law.nd rfl (Or.inl rfl)) (pss_cons (ps_set (i := 2) sc_law.nd rfl (Or.inl rfl) (pe_has h_l_begin (hr.mono (by decide)) (by rfl) (pa_cons (pv 1) pa_nil)))
      (pss_cons (ps_set (i := 3) sc_law.nd rfl (Or.inl rfl) (pe_has h_l_far (hr.mono (by decide)) (by rfl) (pa_cons (pv 2) pa_nil)))
      (pss_cons (ps_set (i := 4) sc_law.nd rfl (Or.inl rfl) (pe_orT (pe_callB call_abs (by rfl) B.b_abs (by decide +kernel) (pa_cons (pe_has h_l_far (hr.mono (by decide)) (by rfl) (pa_cons (pv 2) pa_nil)) pa_nil)) (pe_one pe_int)))
      (pss_cons (ps_set (i := 5) sc_law.nd rfl (Or.inl rfl) (pe_ix ix_list (pe_lst (pa_cons pe_int (pa_cons pe_int (pa_cons (pe_has h_l_draw (hr.mono (by decide)) (by rfl) (pa_cons (pv 2) (pa_cons pe_int pa_nil))) pa_nil)))) (pe_has h_l_draw (hr.mono (by decide)) (by rfl) (pa_cons (pv 2) (pa_cons pe_int pa_nil))) (fun _ _ => rfl)))
      (pss_cons (ps_set (i := 6) sc_law.nd rfl (Or.inl rfl) (pe_has h_pair (hr.mono (by decide)) (by rfl) (pa_cons (pv 3) (pa_cons (pv 4) pa_nil))))
      (pss_cons (ps_set (i := 7) sc_law.nd rfl (Or.inl rfl) (pe_has h_part (hr.mono (by decide)) (by rfl) (pa_cons (pv 3) (pa_cons (pv 5) pa_nil))))
      (pss_cons (ps_set (i := 8) sc_law.nd rfl (Or.inl rfl) (pe_op op_add pe_int (pe_has h_l_draw (hr.mono (by decide)) (by rfl) (pa_cons (pv 2) (pa_cons pe_int pa_nil)))))
      (pss_cons (ps_if (PW.pt (pw_or (pt_not (pt_val (pe_has h_l_is (hr.mono (by decide)) (by rfl) (pa_cons (pe_glob (by rfl) G.g_is_pair rfl) (pa_cons (pv 6) (pa_cons pe_bl pa_nil)))))) (pw_or1 (pt_not (pt_val (pe_has h_l_is (hr.mono (by decide)) (by rfl) (pa_cons (pe_glob (by rfl) G.g_is_part rfl) (pa_cons (pv 7) (pa_cons pe_bl pa_nil))))))))) (pss_one (ps_ret pe_bl)) pss_nil)
      (pss_cons (ps_if (PW.pt (pw_or (pt_not (pt_val (pe_has h_l_is (hr.mono (by decide)) (by rfl) (pa_cons (pe_glob (by rfl) G.g_is_pair rfl) (pa_cons (pe_tup (pa_cons (pe_op op_mulX (pe_ix ix_tup (pv 6) pe_int (fun _ _ => rfl)) (pv 8)) (pa_cons (pe_op op_mulX (pe_ix ix_tup (pv 6) pe_int (fun _ _ => rfl)) (pv 8)) pa_nil))) (pa_cons pe_bl pa_nil)))))) (pw_or1 (pt_not (pt_val (pe_has h_l_is (hr.mono (by decide)) (by rfl) (pa_cons (pe_glob (by rfl) G.g_is_pair rfl) (pa_cons (pe_tup (pa_cons (pv 3) (pa_cons pe_int pa_nil))) (pa_cons pe_bl pa_nil))))))))) (pss_one (ps_ret pe_bl)) pss_nil)
      (pss_cons (ps_if (PW.pt (pw_or (pt_not (pt_val (pe_has h_l_is (hr.mono (by decide)) (by rfl) (pa_cons (pe_glob (by rfl) G.g_is_part rfl) (pa_cons (pe_tup (pa_cons (pe_op op_mul (pe_ix ix_tup (pv 7) pe_int (fun _ _ => rfl)) pe_int) (pa_cons (pe_op op_add (pe_ix ix_tup (pv 7) pe_int (fun _ _ => rfl)) pe_int) pa_nil))) (pa_cons pe_bl pa_nil)))))) (pw_or1 (pt_not (pt_val (pe_has h_l_is (hr.mono (by decide)) (by rfl) (pa_cons (pe_glob (by rfl) G.g_is_part rfl) (pa_cons (pe_tup (pa_cons (pv 3) (pa_cons pe_int pa_nil))) (pa_cons pe_bl pa_nil))))))))) (pss_one (ps_ret pe_bl)) pss_nil)
      (pss_cons (ps_if (pt_not (pt_val (pe_has h_l_is (hr.mono (by decide)) (by rfl) (pa_cons (pe_glob (by rfl) G.g_is_part rfl) (pa_cons (pe_has h_l_spoilt (hr.mono (by decide)) (by rfl) (pa_cons (pv 2) (pa_cons (pv 7) pa_nil))) (pa_cons pe_bl pa_nil)))))) (pss_one (ps_ret pe_bl)) pss_nil)
      (pss_one (ps_if (pt_not (pt_val (pe_has h_l_is (hr.mono (by decide)) (by rfl) (pa_cons (pe_glob (by rfl) G.g_is_pair rfl) (pa_cons (pe_has h_l_spoilt (hr.mono (by decide)) (by rfl) (pa_cons (pv 2) (pa_cons (pv 6) pa_nil))) (pa_cons pe_bl pa_nil)))))) (pss_one (ps_ret pe_bl)) pss_nil))))))))))))))
    (pss_cons (ps_set (i := 9) sc_law.nd rfl (Or.inl rfl) (pe_tup (pa_cons pe_int (pa_cons pe_int pa_nil))))
    (pss_cons (ps_for PassesOwn.never rfl (pi_range1 (by rfl) B.b_range (pa_cons pe_int pa_nil)) (pg_name (i := 10) sc_law.nd rfl (Or.inl rfl)) (pss_one (ps_set (i := 9) sc_law.nd rfl (Or.inl rfl) (pe_tup (pa_cons (pv 9) (pa_cons pe_int pa_nil))))))
    (pss_cons (ps_for PassesOwn.never rfl (pi_list (pe_lst (pa_cons (pv 9) (pa_cons (pe_tup pa_nil) (pa_cons (pe_tup (pa_cons pe_int (pa_cons pe_int pa_nil))) (pa_cons (pe_tup (pa_cons pe_int (pa_cons (pe_un un_neg pe_int) pa_nil))) (pa_cons pe_dnewK (pa_cons pe_int (pa_cons pe_bl (pa_cons (pe_lst (pa_cons pe_int (pa_cons pe_int pa_nil))) (pa_cons (pe_tup (pa_cons (pe_tup (pa_cons pe_int (pa_cons pe_int pa_nil))) pa_nil)) pa_nil))))))))))) (pg_name (i := 11) sc_law.nd rfl (Or.inl rfl)) (pss_one (ps_if (pt_not (pt_val (pe_has h_l_is (hr.mono (by decide)) (by rfl) (pa_cons (pe_glob (by rfl) G.g_is_pair rfl) (pa_cons (pv 11) (pa_cons pe_bl pa_nil)))))) (pss_one (ps_ret pe_bl)) pss_nil)))
    (pss_cons (ps_set (i := 11) sc_law.nd rfl (Or.inl rfl) (pe_lst (pa_cons (pv 9) (pa_cons (pe_tup pa_nil) (pa_cons (pe_tup (pa_cons pe_int (pa_cons pe_int pa_nil))) (pa_cons (pe_tup (pa_cons pe_int (pa_cons pe_int pa_nil))) (pa_cons (pe_tup (pa_cons pe_int (pa_cons (pe_un un_neg pe_int) pa_nil))) (pa_cons pe_dnewK (pa_cons pe_int (pa_cons pe_bl (pa_cons (pe_lst (pa_cons pe_int (pa_cons pe_int pa_nil))) pa_nil)))))))))))
    (pss_one (ps_ret (pe_and (pe_cmpR (op_eqD hr.units) (pe_lc (own := [("_law_one", 12)]) (g := (gName 12)) (tt := (tNot (tB (tCall (spIs K) [] E0 (tCons (tC (.ref (He.ga K "is_part"))) (tCons (tVar 12) (tCons (tC (.bl false)) tNil))))))) (te := (tVar 12)) (wi := (iList K (tVar 11))) rfl sc_law.nd (pi_list (pv 11)) (blkOk_by (own := [("_law_one", 12)]) (N := N_law) (sc := defScope s_law) (by decide +kernel)) (fun _ _ _ _ _ => (pg_name (i := 12) sc_law.nd rfl (Or.inl rfl))) (fun _ _ _ _ _ => (pts_one (pt_not (pt_val (pe_has h_l_is (hr.mono (by decide)) (by rfl) (pa_cons (pe_glob (by rfl) G.g_is_part rfl) (pa_cons (pv 12) (pa_cons pe_bl pa_nil)))))))) (fun _ _ _ _ _ => (pv 12))) (pe_lst pa_nil) (nomark _)) (pe_and (pe_has h_is_pair (hr.mono (by decide)) (by rfl) (pa_cons (pe_tup (pa_cons pe_int (pa_cons pe_int pa_nil))) pa_nil)) (pe_one (pe_has h_is_part (hr.mono (by decide)) (by rfl) (pa_cons (pe_tup (pa_cons pe_int (pa_cons pe_int pa_nil))) pa_nil))))))))))))
end

def dd_is_whole_number : He.DefD := ⟨("is_whole_number", none), "is_whole_number", "is_whole_number", defArgs s_is_whole_number, defBody s_is_whole_number, defScope s_is_whole_number, [], []⟩
def dd_divisor : He.DefD := ⟨("divisor", none), "divisor", "divisor", defArgs s_divisor, defBody s_divisor, defScope s_divisor, [], []⟩
def dd_pair : He.DefD := ⟨("pair", none), "pair", "pair", defArgs s_pair, defBody s_pair, defScope s_pair, [], []⟩
def dd_is_pair : He.DefD := ⟨("is_pair", none), "is_pair", "is_pair", defArgs s_is_pair, defBody s_is_pair, defScope s_is_pair, [], []⟩
def dd_part : He.DefD := ⟨("part", none), "part", "part", defArgs s_part, defBody s_part, defScope s_part, [], []⟩
def dd_is_part : He.DefD := ⟨("is_part", none), "is_part", "is_part", defArgs s_is_part, defBody s_is_part, defScope s_is_part, [], []⟩
def dd_l_cell_at : He.DefD := ⟨("_law_cell_at", none), "_law_cell_at", "_law_cell_at", defArgs s_l_cell_at, defBody s_l_cell_at, defScope s_l_cell_at, [], []⟩
def dd_l_begin : He.DefD := ⟨("_law_begin", none), "_law_begin", "_law_begin", defArgs s_l_begin, defBody s_l_begin, defScope s_l_begin, [], []⟩
def dd_l_draw : He.DefD := ⟨("_law_draw", none), "_law_draw", "_law_draw", defArgs s_l_draw, defBody s_l_draw, defScope s_l_draw, [], []⟩
def dd_l_far : He.DefD := ⟨("_law_far", none), "_law_far", "_law_far", defArgs s_l_far, defBody s_l_far, defScope s_l_far, [], []⟩
def dd_l_spoilt : He.DefD := ⟨("_law_spoilt", none), "_law_spoilt", "_law_spoilt", defArgs s_l_spoilt, defBody s_l_spoilt, defScope s_l_spoilt, [], []⟩
def dd_l_is : He.DefD := ⟨("_law_is", none), "_law_is", "_law_is", defArgs s_l_is, defBody s_l_is, defScope s_l_is, [], []⟩
def dd_law : He.DefD := ⟨("law", none), "law", "law", defArgs s_law, defBody s_law, defScope s_law, [], []⟩
def fn : List He.DefD := [dd_is_whole_number, dd_divisor, dd_pair, dd_is_pair, dd_part, dd_is_part, dd_l_cell_at, dd_l_begin, dd_l_draw, dd_l_far, dd_l_spoilt, dd_l_is, dd_law]
def fa : List He.Fa := [.glo "is_whole_number", .glo "divisor", .glo "pair", .glo "is_pair", .glo "part", .glo "is_part", .glo "_law_cell_at", .glo "_law_begin", .glo "_law_draw", .glo "_law_far", .glo "_law_spoilt", .glo "_law_is", .glo "law", .free "abs", .free "bool", .free "int", .free "isinstance", .free "len", .free "list", .free "min", .free "range", .free "str", .free "tuple", .glo "is_pair", .glo "is_part"]
def loose : List Str := (["is_whole_number", "divisor", "pair", "is_pair", "part", "is_part", "_law_cell_at", "_law_begin", "_law_draw", "_law_far", "_law_spoilt", "_law_is"] : List Str)
abbrev R : PySem.W.OpenRow := PySem.W.OpenLaw.row PySem.Challenge.rw_sumtold_k02_what_is_a_pair_or_part
abbrev hk : PySem.W.Hook := He.hookD 4 fa fn
def ob (s : PySem.W.SharedT) : He.AlD := He.obsDG 4 fa fn (HandSHeadRun.getT s)
theorem ob_eq (s : PySem.W.SharedT) : ob s = hk.obs s.abs := He.obsDG_eq (HandSHeadRun.getT_eq s)
theorem run (w : World) : HandSHeadRun.RunEq R (PySem.W.view R.prog [14]) hk ob 2000 loose w := by
  intro os
  kernel_rfl
theorem facts {P : Program} {w : World} {K : PySem.W.Frag} {h : Heap} {mg : Str → Option Value} {f : Addr} (X : K.In h) (G : h.Ns mainGlobals mg) (hfa : mg ("law" : Str) = some (.ref f)) (c : He.SaysD fa fn K) :
    ∃ fd : FuncData, (∀ (s : Shared) (v : Value), BindsTo s fd ⟨[v], []⟩ [("_law_script", v)]) ∧ ∀ base : Heap, K.In base → base.Ns mainGlobals mg → FnOk P w K mg base CX0 4 f fd ["_law_script"] ((spLaw K)) := by
  have F_is_whole_number := c.def_ 0 (d := dd_is_whole_number) rfl
  have g_is_whole_number := He.glo_ok X G (c.fact 0 (f := .glo "is_whole_number") rfl)
  have F_divisor := c.def_ 1 (d := dd_divisor) rfl
  have g_divisor := He.glo_ok X G (c.fact 1 (f := .glo "divisor") rfl)
  have F_pair := c.def_ 2 (d := dd_pair) rfl
  have g_pair := He.glo_ok X G (c.fact 2 (f := .glo "pair") rfl)
  have F_is_pair := c.def_ 3 (d := dd_is_pair) rfl
  have g_is_pair := He.glo_ok X G (c.fact 3 (f := .glo "is_pair") rfl)
  have F_part := c.def_ 4 (d := dd_part) rfl
  have g_part := He.glo_ok X G (c.fact 4 (f := .glo "part") rfl)
  have F_is_part := c.def_ 5 (d := dd_is_part) rfl
  have g_is_part := He.glo_ok X G (c.fact 5 (f := .glo "is_part") rfl)
  have F_l_cell_at := c.def_ 6 (d := dd_l_cell_at) rfl
  have g_l_cell_at := He.glo_ok X G (c.fact 6 (f := .glo "_law_cell_at") rfl)
  have F_l_begin := c.def_ 7 (d := dd_l_begin) rfl
  have g_l_begin := He.glo_ok X G (c.fact 7 (f := .glo "_law_begin") rfl)
  have F_l_draw := c.def_ 8 (d := dd_l_draw) rfl
  have g_l_draw := He.glo_ok X G (c.fact 8 (f := .glo "_law_draw") rfl)
  have F_l_far := c.def_ 9 (d := dd_l_far) rfl
  have g_l_far := He.glo_ok X G (c.fact 9 (f := .glo "_law_far") rfl)
  have F_l_spoilt := c.def_ 10 (d := dd_l_spoilt) rfl
  have g_l_spoilt := He.glo_ok X G (c.fact 10 (f := .glo "_law_spoilt") rfl)
  have F_l_is := c.def_ 11 (d := dd_l_is) rfl
  have g_l_is := He.glo_ok X G (c.fact 11 (f := .glo "_law_is") rfl)
  have F_law := c.def_ 12 (d := dd_law) rfl
  have g_law := He.glo_ok X G (c.fact 12 (f := .glo "law") rfl)
  have B : Bl mg := ⟨He.free_ok X G (c.fact 13 (f := .free "abs") rfl), He.free_ok X G (c.fact 14 (f := .free "bool") rfl), He.free_ok X G (c.fact 15 (f := .free "int") rfl), He.free_ok X G (c.fact 16 (f := .free "isinstance") rfl), He.free_ok X G (c.fact 17 (f := .free "len") rfl), He.free_ok X G (c.fact 18 (f := .free "list") rfl), He.free_ok X G (c.fact 19 (f := .free "min") rfl), He.free_ok X G (c.fact 20 (f := .free "range") rfl), He.free_ok X G (c.fact 21 (f := .free "str") rfl), He.free_ok X G (c.fact 22 (f := .free "tuple") rfl)⟩
  have TT : Gt K := ⟨by
    obtain ⟨f1, F1⟩ := F_is_pair
    obtain ⟨f2, F2⟩ := F_is_part
    exact fun_ne (x := "is_pair") (y := "is_part") (show FnP K "is_pair" s_is_pair (He.ga K "is_pair") f1 from F1) (show FnP K "is_part" s_is_part (He.ga K "is_part") f2 from F2) (by decide +kernel)⟩
  have GG : Gs K mg := ⟨TT, He.glo_ok X G (c.fact 23 (f := .glo "is_pair") rfl), He.glo_ok X G (c.fact 24 (f := .glo "is_part") rfl)⟩
  have e := hfa.symm.trans g_law
  cases e
  obtain ⟨fd, Fl⟩ := F_law
  refine ⟨fd, fun s v => (FunD.bindsA (ps := ["_law_script"]) Fl fun _ _ _ _ _ _ us hl => match us, hl with | [_], _ => rfl) s [v] rfl, fun base _ _ => ?_⟩
  have h_is_whole_number := ok_is_whole_number (P := P) (w := w) (base := base) F_is_whole_number g_is_whole_number B 
  have h_divisor := ok_divisor (P := P) (w := w) (base := base) F_divisor g_divisor B 
  have h_pair := ok_pair (P := P) (w := w) (base := base) F_pair g_pair B h_divisor
  have h_is_pair := ok_is_pair (P := P) (w := w) (base := base) F_is_pair g_is_pair B h_divisor h_is_whole_number
  have h_part := ok_part (P := P) (w := w) (base := base) F_part g_part B 
  have h_is_part := ok_is_part (P := P) (w := w) (base := base) F_is_part g_is_part B h_is_whole_number
  have h_l_cell_at := ok_l_cell_at (P := P) (w := w) (base := base) F_l_cell_at g_l_cell_at B 
  have h_l_begin := ok_l_begin (P := P) (w := w) (base := base) F_l_begin g_l_begin B 
  have h_l_draw := ok_l_draw (P := P) (w := w) (base := base) F_l_draw g_l_draw B 
  have h_l_far := ok_l_far (P := P) (w := w) (base := base) F_l_far g_l_far B h_l_draw
  have h_l_spoilt := ok_l_spoilt (P := P) (w := w) (base := base) F_l_spoilt g_l_spoilt B h_l_draw
  have h_l_is := ok_l_is (P := P) (w := w) (base := base) F_l_is g_l_is B GG h_is_pair h_is_part
  exact ok_law (P := P) (w := w) (base := base) Fl B GG h_is_part h_is_pair h_l_is h_l_cell_at h_l_spoilt h_l_draw h_part h_pair h_l_far h_l_begin

end Sum
open PySem PySem.W PySem.Calls PyProof.Rows
set_option maxRecDepth 100000 in
set_option maxHeartbeats 0 in
theorem PySem.Challenge.cw_sumtold_k02_what_is_a_pair_or_part_holds : PySem.Challenge.rw_sumtold_k02_what_is_a_pair_or_part.Holds := by
  w_on; o_law
  refine HandSHeadRun.head_any (r := OpenLaw.row PySem.Challenge.rw_sumtold_k02_what_is_a_pair_or_part) (q := view (OpenLaw.row PySem.Challenge.rw_sumtold_k02_what_is_a_pair_or_part).prog [14]) (H := Sum.hk) (ob := Sum.ob) (M := 2000) (loose := Sum.loose) (d := HandSHeadRun.topDef (OpenLaw.row PySem.Challenge.rw_sumtold_k02_what_is_a_pair_or_part).prog 14) (kwd := []) Sum.ob_eq
    (by kernel_rfl) (fun s => by kernel_rfl) Sum.run (by kernel_rfl) (by kernel_rfl) (by kernel_rfl) (by rfl) (by first | assumption | decide +kernel) (by decide +kernel) ⟨rfl, rfl, rfl, rfl, rfl, by decide +kernel⟩ ?hw ?hc
  case hw => w_witness2
  case hc =>
    refine L2.walk_ofE (l := PySem.Challenge.rw_sumtold_k02_what_is_a_pair_or_part) (n := 63) (k := 4) (x := "_law_script") (CX := L2.CX0) rfl (by decide) (by kernel_rfl) ⟨rfl, by decide, by decide⟩ ?F (fun _ _ _ _ z => z)
    intro w mg fa h Y G hmg0
    obtain ⟨K, KX, c⟩ := Y
    have hmg : mg ("law" : PySem.Str) = some (.ref fa) := by
      have e : (HandSHeadRun.topDef (OpenLaw.row PySem.Challenge.rw_sumtold_k02_what_is_a_pair_or_part).prog 14).name = ("law" : PySem.Str) := by kernel_rfl
      rw [← e]
      exact hmg0
    obtain ⟨fd, hb, hF⟩ := Sum.facts (P := (PySem.Challenge.rw_sumtold_k02_what_is_a_pair_or_part).prog) (w := w) KX G hmg c
    exact ⟨K, fd, Sum.spLaw K, KX, hb, fun H a ns hl _ hS => ⟨a, ns, rfl, hS, hl, fun _ => rfl⟩, hF⟩
#print axioms PySem.Challenge.cw_sumtold_k02_what_is_a_pair_or_part_holds
