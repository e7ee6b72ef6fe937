import PyProof.Rows.All
import Wide.All
import OpenK.AllK
import Wide.FinOn
import HandS.ForMost
import HandS.Flow
import HandS.IsInst
import HandS.WideBits
import HandS.Style
import HandS.TupAny
import HandS.TupMul
import HandS.Steps
import HandS.Evl
import HandS.Zip
import HandS.Walk
import HandS.Defaults
import HandS.HeadEnd
import HandS.HeadHook2
import HandS.Head2
import HandS.Conv
import HandS.Text
import HandS.Codes
import PySem.Challenge.RW_sumtold_k11_names_and_numbers
set_option Elab.async false
set_option linter.all false
set_option maxRecDepth 100000
set_option maxHeartbeats 4000000
namespace Go
open PySem PySem.Spec PyProof.Rows L2
/-! ### readings by short names -/
abbrev rAddI : R2 := rI0 fun i j => .int (i + j)
abbrev rSubI : R2 := rI0 fun i j => .int (i - j)
abbrev rMulI : R2 := rI CMul fun i j => .int (i * j)
abbrev rMulX : R2 := rI CMulX fun i j => .int (i * j)
abbrev rDivI : R2 := rI CDivW fun i j => .int (i / j)
abbrev rModI : R2 := rI (fun _ j => 0 < j) fun i j => .int (i % j)
abbrev rPowI : R2 := rI CPow fun i j => .int (i ^ j.toNat)
abbrev rShlI : R2 := rI CShl fun i j => .int (i * 2 ^ j.toNat)
abbrev rShrI : R2 := rI (fun _ j => 0 ≤ j) fun i j => .int (i / 2 ^ j.toNat)
abbrev rAndI : R2 := rI0 fun i j => .int (Builtin.bitAnd i j)
abbrev rLtI : R2 := rI0 fun i j => .bl (decide (i < j))
abbrev rLeI : R2 := rI0 fun i j => .bl (decide (i ≤ j))
abbrev rGtI : R2 := rI0 fun i j => .bl (decide (j < i))
abbrev rGeI : R2 := rI0 fun i j => .bl (decide (j ≤ i))
abbrev rNegI : V → Hp → VK → Prop := rU fun i => .int (-i)
abbrev rAbs : List V → Hp → VK → Prop := fun xs H Q => ∃ i, xs = [.int i] ∧ Q (.int (if i < 0 then -i else i)) H
abbrev rMin2 : List V → Hp → VK → Prop := fun xs H Q => ∃ i j, xs = [.int i, .int j] ∧ Q (.int (if j < i then j else i)) H
abbrev rInt1 : List V → Hp → VK → Prop := fun xs H Q => (∃ i, xs = [.int i] ∧ Q (.int i) H) ∨ ∃ k, xs = [.bl k] ∧ Q (.int (if k then 1 else 0)) H
abbrev rTupOf (K : PySem.W.Frag) : List V → Hp → VK → Prop := fun xs H Q => ∃ p ys, xs = [.ref p] ∧ ((SqL K H p ys ∧ ∀ l, H l = none → Q (.ref l) (upd H l (.tup ys))) ∨ (SqT K H p ys ∧ Q (.ref p) H))
abbrev rAddStr : R2 := fun x y H Q => ∃ i j, x = .str i ∧ y = .str j ∧ i.length + j.length ≤ sizeLine ∧ Q (.str (i ++ j)) H
abbrev rLenStr : List V → Hp → VK → Prop := fun xs H Q => ∃ z, xs = [.str z] ∧ z.length ≤ sizeLine ∧ Q (.int z.length) H
/-! ### a def that keeps its promise, by its name -/
abbrev FnP (K : PySem.W.Frag) (x : Str) (st : Stmt) (f : Addr) (fd : FuncData) : Prop := FunD K x x (defArgs st) (defBody st) (defScope st) [] [] f fd
def Has (P : Program) (w : World) (K : PySem.W.Frag) (mg : Str → Option Value) (base : Heap) (x : Str) (k : Nat) (ps : List Str) (sp : Sp) : Prop :=
  ∃ (f : Addr) (fd : FuncData), mg x = some (.ref f) ∧ PySem.W.keepIn K (.ref f) = true ∧ Binds K fd ps [] ∧ FnOk P w K mg base CX0 k f fd ps sp
theorem pe_has {X : Cx} {x : Str} {p pos : Pos} {e : Expr} {es : List Expr} {t : TA} {k : Nat} {ps : List Str} {sp : Sp} (h : Has X.prog X.w X.K X.mg X.base x k ps sp) (hr : Room k X.A) (hg : Gl X x) (ha : PA X (e :: es) t)
    (hd : (x == ("__debug__" : Str)) = false := by decide) (he : starEach (e :: es) X.env = (false, eval e X.env) :: starEach es X.env := by rfl) (hpl : (backTo pos (starEach es X.env)).any (·.1) = false := by rfl) :
    PE X (.Call (.Name x p) (e :: es) [] pos) (tCall sp [] E0 t) := by
  obtain ⟨f, fd, gm, kp, b, F⟩ := h
  exact pe_call F hr hg gm kp b .nil pass0 ha hd he hpl
/-! ### stepping -/
section
variable {K : PySem.W.Frag} {σ : L2.St} {H H' : Hp} {Q : VK} {QB : Bool → Hp → Prop} {D : Ends} {t u : TS} {c c' : TT} {te ta tb tc : TE} {tr : TA} {i : Nat} {v x y : V} {r r' : R2} {a b : Addr} {o : HO} {xs ys : List V}
theorem w_seq (h : t { D with nx := u D } σ H) : tSeq t u D σ H := h
theorem w_next (h : D.nx σ H) : tNext D σ H := h
theorem w_asg (h : te σ H fun x H1 => D.nx (σ.set i (some x)) H1) : tAsg te (gName i) D σ H := h
theorem w_drop (h : te σ H fun _ H1 => D.nx σ H1) : tDrop te D σ H := h
theorem w_ret (h : te σ H D.rt) : tRet te D σ H := h
theorem w_if (h : c σ H fun b H1 => if b = true then t D σ H1 else u D σ H1) : tIfS c t u D σ H := h
theorem w_par {j : Nat} (h : tr σ H fun vs H1 => ∃ v w, vs = [v, w] ∧ D.nx ((σ.set i (some v)).set j (some w)) H1) : tPar i j tr D σ H := h
theorem w_sub {to ti : TE} {ts : TSet} (h : te σ H fun x H1 => to σ H1 fun o H2 => ti σ H2 fun i H3 => ts o i x H3 fun H4 => D.nx σ H4) : tAsg te (gSub to ti ts) D σ H := h
theorem w_setL {xs : List V} {k : Int} {j : Nat} {Qh : Hp → Prop} (h : H a = some (.lst xs)) (hj : ixN xs.length k = some j) (q : Qh (upd H a (.lst (xs.set j v)))) : rSetL (.ref a) (.int k) v H Qh := ⟨a, xs, k, j, rfl, rfl, h, hj, q⟩
theorem w_gName {QS : L2.St → Hp → Prop} (q : QS (σ.set i (some v)) H) : gName i v σ H QS := q
theorem w_gTup {n : Nat} {tg : TGs} {QS : L2.St → Hp → Prop} (h : SqT K H a xs) (hn : xs.length = n) (q : tg xs σ H QS) : gTup K n tg (.ref a) σ H QS := ⟨a, xs, rfl, h, hn, q⟩
theorem w_gCons {g1 : TG} {tg : TGs} {QS : L2.St → Hp → Prop} (q : g1 v σ H fun σ' H' => tg xs σ' H' QS) : gCons g1 tg (v :: xs) σ H QS := ⟨v, xs, rfl, q⟩
theorem w_gNil {QS : L2.St → Hp → Prop} (q : QS σ H) : gNil [] σ H QS := ⟨rfl, q⟩
theorem w_asgG {g : TG} (h : te σ H fun x H1 => g x σ H1 D.nx) : tAsg te g D σ H := h
theorem w_var (h : σ[i]? = some (some v)) (q : Q v H) : tVar i σ H Q := ⟨v, h, q⟩
theorem w_con (q : Q v H) : tC v σ H Q := q
theorem w_op (h : ta σ H fun x H1 => tb σ H1 fun y H2 => r x y H2 Q) : tOp r ta tb σ H Q := h
theorem w_un {r : V → Hp → VK → Prop} (h : ta σ H fun x H1 => r x H1 Q) : tUn r ta σ H Q := h
theorem w_I0 {g : Int → Int → V} {i j : Int} (q : Q (g i j) H) : rI0 g (.int i) (.int j) H Q := ⟨i, j, rfl, rfl, q⟩
theorem w_I {C : Int → Int → Prop} {g : Int → Int → V} {i j : Int} (hc : C i j) (q : Q (g i j) H) : rI C g (.int i) (.int j) H Q := ⟨i, j, rfl, rfl, hc, q⟩
theorem w_mulI {i j : Int} (hc : CMul i j) (q : Q (.int (i * j)) H) : rMulI (.int i) (.int j) H Q := w_I hc q
theorem w_modI {i j : Int} (hc : 0 < j) (q : Q (.int (i % j)) H) : rModI (.int i) (.int j) H Q := w_I (C := fun _ j => 0 < j) hc q
theorem w_divI {i j : Int} (hc : CDivW i j) (q : Q (.int (i / j)) H) : rDivI (.int i) (.int j) H Q := w_I hc q
theorem w_powI {i j : Int} (hc : CPow i j) (q : Q (.int (i ^ j.toNat)) H) : rPowI (.int i) (.int j) H Q := w_I hc q
theorem w_shrI {i j : Int} (hc : 0 ≤ j) (q : Q (.int (i / 2 ^ j.toNat)) H) : rShrI (.int i) (.int j) H Q := w_I (C := fun _ j => 0 ≤ j) hc q
theorem w_mulX {i j : Int} (hc : CMulX i j) (q : Q (.int (i * j)) H) : rMulX (.int i) (.int j) H Q := w_I hc q
theorem w_shlI {i j : Int} (hc : CShl i j) (q : Q (.int (i * 2 ^ j.toNat)) H) : rShlI (.int i) (.int j) H Q := w_I hc q
theorem w_U {g : Int → V} {i : Int} (q : Q (g i) H) : rU g (.int i) H Q := ⟨i, rfl, q⟩
theorem w_eq (hs : scal x y = true) (q : Q (.bl (decide (x = y))) H) : rEq x y H Q := ⟨hs, q⟩
theorem w_ne (hs : scal x y = true) (q : Q (.bl (!decide (x = y))) H) : rNe x y H Q := ⟨hs, q⟩
theorem w_isB {p q : Bool} (h : Q (.bl (decide (p = q))) H) : rIsB (.bl p) (.bl q) H Q := ⟨p, q, rfl, rfl, h⟩
theorem w_notB {p q : Bool} (h : Q (.bl (!decide (p = q))) H) : rNotB (.bl p) (.bl q) H Q := ⟨p, q, rfl, rfl, h⟩
theorem w_isN (h : Q (.bl (decide (x = .non))) H) : L2.rIsN x .non H Q := ⟨rfl, h⟩
theorem w_notN (h : Q (.bl (!decide (x = .non))) H) : L2.rNotN x .non H Q := ⟨rfl, h⟩
theorem w_test (h : te σ H fun x H' => ∃ k, x = .bl k ∧ QB k H') : tTest te σ H QB := h
theorem w_tB (h : te σ H fun x H' => ∃ k, x = .bl k ∧ QB k H') : tB te σ H QB := h
theorem w_k {k : Bool} {R : Bool → Prop} (q : R k) : ∃ k', V.bl k = .bl k' ∧ R k' := ⟨k, rfl, q⟩
theorem w_not (h : c σ H fun k H1 => QB (!k) H1) : tNot c σ H QB := h
theorem w_and (h : c σ H fun k H1 => if k = true then c' σ H1 QB else QB false H1) : tAnd c c' σ H QB := h
theorem w_or (h : c σ H fun k H1 => if k = true then QB true H1 else c' σ H1 QB) : tOr c c' σ H QB := h
theorem w_andV (h : ta σ H fun x H1 => ∃ k, x = .bl k ∧ if k = true then tb σ H1 Q else Q (.bl false) H1) : tAndV ta tb σ H Q := h
theorem w_orV (h : ta σ H fun x H1 => ∃ k, x = .bl k ∧ if k = true then Q (.bl true) H1 else tb σ H1 Q) : tOrV ta tb σ H Q := h
theorem w_notV (h : ta σ H fun x H1 => ∃ k, x = .bl k ∧ Q (.bl (!k)) H1) : tNotV ta σ H Q := h
theorem w_chain (h : ta σ H fun x H1 => tb σ H1 fun y H2 => r x y H2 fun z H3 => ∃ k, z = .bl k ∧ (if k = true then tc σ H3 fun w' H4 => r' y w' H4 Q else Q (.bl false) H3)) : tChain r r' ta tb tc σ H Q := h
theorem w_orT (h : ta σ H fun x H1 => ∃ k, TruV K x H1 k ∧ if k = true then Q x H1 else tb σ H1 Q) : tOrT K ta tb σ H Q := h
theorem w_andT (h : ta σ H fun x H1 => ∃ k, TruV K x H1 k ∧ if k = true then tb σ H1 Q else Q x H1) : tAndT K ta tb σ H Q := h
theorem w_truI {n : Int} {R : Bool → Prop} (q : R (n != 0)) : ∃ k, TruV K (.int n) H k ∧ R k := ⟨_, rfl, q⟩
theorem w_ifE (h : c σ H fun k H1 => if k = true then ta σ H1 Q else tb σ H1 Q) : tIf c ta tb σ H Q := h
theorem w_nil {QL : List V → Hp → Prop} (q : QL [] H) : tNil σ H QL := q
theorem w_cons {QL : List V → Hp → Prop} (h : te σ H fun x H1 => tr σ H1 fun xs H2 => QL (x :: xs) H2) : tCons te tr σ H QL := h
theorem w_tup (h : tr σ H fun xs H1 => xs.length ≤ sizeLine ∧ ∀ p, H1 p = none → Q (.ref p) (upd H1 p (.tup xs))) : tTup tr σ H Q := h
theorem w_lst (h : tr σ H fun xs H1 => xs.length ≤ sizeLine ∧ ∀ p, H1 p = none → Q (.ref p) (upd H1 p (.lst xs))) : tLst tr σ H Q := h
theorem w_call {sp : Sp} {E : XK} (h : tr σ H fun vs H1 => sp vs H1 Q E) : tCall sp [] E tr σ H Q := by
  show tr σ H fun vs H1 => sp (vs ++ []) H1 Q E
  simp only [List.append_nil]
  exact h
theorem w_cb {r : List V → Hp → VK → Prop} (h : tr σ H fun vs H1 => r vs H1 Q) : tCB r tr σ H Q := h
theorem w_ixL {k : Int} (h : SqL K H a xs) (ha : atI xs k = some v) (q : Q v H) : rIxL K (.ref a) (.int k) H Q := ⟨a, xs, k, v, rfl, rfl, h, ha, q⟩
theorem w_ixT {k : Int} (h : SqT K H a xs) (ha : atI xs k = some v) (q : Q v H) : rIxT K (.ref a) (.int k) H Q := ⟨a, xs, k, v, rfl, rfl, h, ha, q⟩
theorem w_ixsL {k : Int} (h : SqL K H a xs) (ha : atI xs k = some v) (q : Q v H) : rIx K (.ref a) (.int k) H Q := .inl ⟨a, xs, k, v, rfl, rfl, h, ha, q⟩
theorem w_ixsT {k : Int} (h : SqT K H a xs) (ha : atI xs k = some v) (q : Q v H) : rIx K (.ref a) (.int k) H Q := .inr (.inl ⟨a, xs, k, v, rfl, rfl, h, ha, q⟩)
theorem w_min2 {m n : Int} (q : Q (.int (if n < m then n else m)) H) : rMin2 [.int m, .int n] H Q := ⟨m, n, rfl, q⟩
theorem w_max2 {m n : Int} (q : Q (.int (if n > m then n else m)) H) : Evl.rMax2 [.int m, .int n] H Q := ⟨m, n, rfl, q⟩
theorem w_bitsI {n : Int} {R : Int → Prop} (q : R n) : ∃ i, V.int n = .int i ∧ R i := ⟨n, rfl, q⟩
theorem w_abs {n : Int} (q : Q (.int (n.natAbs : Int)) H) : rAbs [.int n] H Q := ⟨n, rfl, by
  have e : (if n < 0 then -n else n) = (n.natAbs : Int) := by split <;> omega
  rw [e]; exact q⟩
theorem w_intB {k : Bool} (q : Q (.int (if k then 1 else 0)) H) : rInt1 [.bl k] H Q := .inr ⟨k, rfl, q⟩
theorem w_tupOfL (h : SqL K H a ys) (q : ∀ l, H l = none → Q (.ref l) (upd H l (.tup ys))) : rTupOf K [.ref a] H Q := ⟨a, ys, rfl, .inl ⟨h, q⟩⟩
theorem w_lenL (h : SqL K H a xs) (q : Q (.int xs.length) H) : Evl.rLenS K [.ref a] H Q := ⟨a, xs, rfl, .inl h, q⟩
theorem w_lenT (h : SqT K H a xs) (q : Q (.int xs.length) H) : Evl.rLenS K [.ref a] H Q := ⟨a, xs, rfl, .inr h, q⟩
theorem w_isi {cc : V} {tt uu : Value} {k : Bool} (hc : ClsV cc uu) (ht : TyX K H x tt) (hk : PySem.W.kitOne K tt uu = some k) (q : Q (.bl k) H) : rIsi K [x, cc] H Q := ⟨x, cc, tt, uu, k, rfl, hc, ht, hk, q⟩
theorem w_sl {rr : V → Option Int → Option Int → Hp → VK → Prop} {tl th : TO} (h : te σ H fun x H1 => tl σ H1 fun l H2 => th σ H2 fun u H3 => rr x l u H3 Q) : tSl rr te tl th σ H Q := h
theorem w_noPart {QO : Option Int → Hp → Prop} (q : QO none H) : tNoPart σ H QO := q
theorem w_part {QO : Option Int → Hp → Prop} (h : te σ H fun x H1 => ∃ i, x = .int i ∧ QO (some i) H1) : tPart te σ H QO := h
theorem w_partI {R : Int → Prop} {n : Int} (q : R n) : ∃ i, V.int n = .int i ∧ R i := ⟨n, rfl, q⟩
theorem w_slL {lo hi : Option Int} (h : SqL K H a xs) (q : ∀ p, H p = none → Q (.ref p) (upd H p (.lst (cutV xs lo hi)))) : rSlL K (.ref a) lo hi H Q := ⟨a, xs, rfl, h, q⟩
theorem w_cat (h : H a = some (.lst xs)) (h' : H b = some (.lst ys)) (hl : xs.length + ys.length ≤ sizeLine) (q : ∀ p, H p = none → Q (.ref p) (upd H p (.lst (xs ++ ys)))) : rCat (.ref a) (.ref b) H Q := ⟨a, b, xs, ys, rfl, rfl, h, h', hl, q⟩
theorem w_eqD {d e : PyData} (h1 : Dp K H x d) (h2 : Dp K H y e) (s1 : SeqAt.shaped d = true) (s2 : SeqAt.shaped e = true) (q : Q (.bl (PyData.eqv d e)) H) : rEqD K x y H Q := ⟨d, e, h1, h2, s1, s2, q⟩
theorem w_neD {d e : PyData} (h1 : Dp K H x d) (h2 : Dp K H y e) (s1 : SeqAt.shaped d = true) (s2 : SeqAt.shaped e = true) (q : Q (.bl (!PyData.eqv d e)) H) : rNeD K x y H Q := ⟨d, e, h1, h2, s1, s2, q⟩
theorem w_eqD_same {d : PyData} (h1 : Dp K H x d) (h2 : Dp K H y d) (s1 : SeqAt.shaped d = true) (q : Q (.bl true) H) : rEqD K x y H Q := ⟨d, d, h1, h2, s1, s1, by rw [SeqAt.eqv_refl d (SeqAt.canLay_of_shaped s1)]; exact q⟩
theorem w_neD_same {d : PyData} (h1 : Dp K H x d) (h2 : Dp K H y d) (s1 : SeqAt.shaped d = true) (q : Q (.bl false) H) : rNeD K x y H Q := ⟨d, d, h1, h2, s1, s1, by rw [SeqAt.eqv_refl d (SeqAt.canLay_of_shaped s1)]; exact q⟩
theorem dpP {m n : Int} (h : H a = some (.tup [.int m, .int n])) : Dp K H (.ref a) (.tuple [.int m, .int n]) := .tup (SqT.of h) (.cons (.int _) (.cons (.int _) .nil))
theorem dpN (h : H a = some (.lst [])) : Dp K H (.ref a) (.list []) := .lst (SqL.of h) .nil
theorem eqv_pair {m n m' n' : Int} : PyData.eqv (.tuple [.int m, .int n]) (.tuple [.int m', .int n']) = (decide (m = m') && decide (n = n')) := by
  simp [PyData.eqv, PyData.eqvAll, Bool.beq_eq_decide_eq]
theorem w_bits (h : te σ H fun x H1 => ∃ i, x = .int i ∧ Q (.int (Builtin.Int.intBits i : Nat)) H1) : tBits te σ H Q := h
/-! ### heaps -/
theorem w_bm {T : String} {r : V → List V → Hp → VK → Prop} (h : te σ H fun x H1 => tyV K T x H1 ∧ tr σ H1 fun xs H2 => r x xs H2 Q) : tBM K T r te tr σ H Q := h
theorem w_bm0 {T : String} {r : V → List V → Hp → VK → Prop} (h : te σ H fun x H1 => tyV K T x H1 ∧ r x [] H1 Q) : tBM0 K T r te σ H Q := h
theorem w_tyL {R : Prop} (h : H a = some (.lst xs)) (q : R) : tyV K "list" (.ref a) H ∧ R := ⟨.inl ⟨rfl, _, SqL.of h⟩, q⟩
theorem w_tyS {R : Prop} {z : Str} (q : R) : tyV K "str" (.str z) H ∧ R := ⟨rfl, q⟩
theorem w_append (h : H a = some (.lst xs)) (hl : xs.length < sizeLine) (q : Q .non (upd H a (.lst (xs ++ [v])))) : rAppend (.ref a) [v] H Q := ⟨a, xs, v, rfl, rfl, h, hl, q⟩
theorem w_repT {k : Nat} (h : SqT K H a xs) (h0 : xs ≠ []) (h2 : 2 ≤ k) (h3 : k ≤ 1000) (h4 : xs.length ≤ 1000) (q : ∀ p, H p = none → Q (.ref p) (upd H p (.tup (List.replicate k xs).flatten))) : rRepT K (.ref a) (.int (k : Int)) H Q := ⟨a, k, xs, rfl, rfl, h, h0, by omega, by omega, h4, by rw [Int.toNat_natCast]; exact q⟩
theorem keep {p : Addr} {u : HO} (h : H a = some o) (hp : H p = none) : upd H p u a = some o := by
  rw [upd_ne (ne_of_none h hp)]; exact h
theorem get (e : Same H H') (h : H a = some o) : H' a = some o := e a o h
theorem same_new {p : Addr} {u : HO} (hp : H p = none) : Same H (upd H p u) := fun _ _ h => keep h hp
theorem same_in {H0 : Hp} {p : Addr} {u : HO} (s : Same H0 H) (hp : H p = none) : Same H0 (upd H p u) := s.trans (same_new hp)
theorem free_of {p : Addr} {u : HO} {q : Addr} (h : upd H p u q = none) : H q = none := by
  unfold upd at h
  split at h
  · cases h
  · exact h
theorem ne_new {p : Addr} {u : HO} {q : Addr} (h : upd H p u q = none) : q ≠ p := fun e => by
  rw [e, upd_same] at h; cases h
theorem sqL (h : H a = some (.lst xs)) : SqL K H a xs := SqL.of h
theorem sqT (h : H a = some (.tup xs)) : SqT K H a xs := SqT.of h
theorem tyT (h : H a = some (.tup xs)) : TyX K H (.ref a) (.type "tuple") := .base (.tup h)
end
/-! ### isinstance -/
section
variable {K : PySem.W.Frag} {H : Hp} {Q : VK}
theorem i_int_int {n : Int} (q : Q (.bl true) H) : rIsi K [.int n, .ty "int"] H Q := w_isi (.ty _) (.base (.int n)) (kit_ty (a := "int") (b := "int") (r := true) (by decide +kernel)) q
theorem i_int_bool {n : Int} (q : Q (.bl false) H) : rIsi K [.int n, .ty "bool"] H Q := w_isi (.ty _) (.base (.int n)) (kit_ty (a := "int") (b := "bool") (r := false) (by decide +kernel)) q
theorem i_int_str {n : Int} (q : Q (.bl false) H) : rIsi K [.int n, .ty "str"] H Q := w_isi (.ty _) (.base (.int n)) (kit_ty (a := "int") (b := "str") (r := false) (by decide +kernel)) q
theorem i_int_list {n : Int} (q : Q (.bl false) H) : rIsi K [.int n, .ty "list"] H Q := w_isi (.ty _) (.base (.int n)) (kit_ty (a := "int") (b := "list") (r := false) (by decide +kernel)) q
theorem i_int_tuple {n : Int} (q : Q (.bl false) H) : rIsi K [.int n, .ty "tuple"] H Q := w_isi (.ty _) (.base (.int n)) (kit_ty (a := "int") (b := "tuple") (r := false) (by decide +kernel)) q
theorem i_bl_int {b : Bool} (q : Q (.bl true) H) : rIsi K [.bl b, .ty "int"] H Q := w_isi (.ty _) (.base (.bl b)) (kit_ty (a := "bool") (b := "int") (r := true) (by decide +kernel)) q
theorem i_bl_bool {b : Bool} (q : Q (.bl true) H) : rIsi K [.bl b, .ty "bool"] H Q := w_isi (.ty _) (.base (.bl b)) (kit_ty (a := "bool") (b := "bool") (r := true) (by decide +kernel)) q
theorem i_bl_str {b : Bool} (q : Q (.bl false) H) : rIsi K [.bl b, .ty "str"] H Q := w_isi (.ty _) (.base (.bl b)) (kit_ty (a := "bool") (b := "str") (r := false) (by decide +kernel)) q
theorem i_bl_list {b : Bool} (q : Q (.bl false) H) : rIsi K [.bl b, .ty "list"] H Q := w_isi (.ty _) (.base (.bl b)) (kit_ty (a := "bool") (b := "list") (r := false) (by decide +kernel)) q
theorem i_bl_tuple {b : Bool} (q : Q (.bl false) H) : rIsi K [.bl b, .ty "tuple"] H Q := w_isi (.ty _) (.base (.bl b)) (kit_ty (a := "bool") (b := "tuple") (r := false) (by decide +kernel)) q
theorem i_str_int {z : Str} (q : Q (.bl false) H) : rIsi K [.str z, .ty "int"] H Q := w_isi (.ty _) (.base (.str z)) (kit_ty (a := "str") (b := "int") (r := false) (by decide +kernel)) q
theorem i_str_bool {z : Str} (q : Q (.bl false) H) : rIsi K [.str z, .ty "bool"] H Q := w_isi (.ty _) (.base (.str z)) (kit_ty (a := "str") (b := "bool") (r := false) (by decide +kernel)) q
theorem i_str_str {z : Str} (q : Q (.bl true) H) : rIsi K [.str z, .ty "str"] H Q := w_isi (.ty _) (.base (.str z)) (kit_ty (a := "str") (b := "str") (r := true) (by decide +kernel)) q
theorem i_str_list {z : Str} (q : Q (.bl false) H) : rIsi K [.str z, .ty "list"] H Q := w_isi (.ty _) (.base (.str z)) (kit_ty (a := "str") (b := "list") (r := false) (by decide +kernel)) q
theorem i_str_tuple {z : Str} (q : Q (.bl false) H) : rIsi K [.str z, .ty "tuple"] H Q := w_isi (.ty _) (.base (.str z)) (kit_ty (a := "str") (b := "tuple") (r := false) (by decide +kernel)) q
theorem i_non_int (q : Q (.bl false) H) : rIsi K [.non, .ty "int"] H Q := w_isi (.ty _) (.base .non) (kit_ty (a := "NoneType") (b := "int") (r := false) (by decide +kernel)) q
theorem i_non_bool (q : Q (.bl false) H) : rIsi K [.non, .ty "bool"] H Q := w_isi (.ty _) (.base .non) (kit_ty (a := "NoneType") (b := "bool") (r := false) (by decide +kernel)) q
theorem i_non_str (q : Q (.bl false) H) : rIsi K [.non, .ty "str"] H Q := w_isi (.ty _) (.base .non) (kit_ty (a := "NoneType") (b := "str") (r := false) (by decide +kernel)) q
theorem i_non_list (q : Q (.bl false) H) : rIsi K [.non, .ty "list"] H Q := w_isi (.ty _) (.base .non) (kit_ty (a := "NoneType") (b := "list") (r := false) (by decide +kernel)) q
theorem i_non_tuple (q : Q (.bl false) H) : rIsi K [.non, .ty "tuple"] H Q := w_isi (.ty _) (.base .non) (kit_ty (a := "NoneType") (b := "tuple") (r := false) (by decide +kernel)) q
theorem i_lst_int {a : Addr} {xs : List V} (h : H a = some (.lst xs)) (q : Q (.bl false) H) : rIsi K [.ref a, .ty "int"] H Q := w_isi (.ty _) (.base (.lst h)) (kit_ty (a := "list") (b := "int") (r := false) (by decide +kernel)) q
theorem i_lst_bool {a : Addr} {xs : List V} (h : H a = some (.lst xs)) (q : Q (.bl false) H) : rIsi K [.ref a, .ty "bool"] H Q := w_isi (.ty _) (.base (.lst h)) (kit_ty (a := "list") (b := "bool") (r := false) (by decide +kernel)) q
theorem i_lst_str {a : Addr} {xs : List V} (h : H a = some (.lst xs)) (q : Q (.bl false) H) : rIsi K [.ref a, .ty "str"] H Q := w_isi (.ty _) (.base (.lst h)) (kit_ty (a := "list") (b := "str") (r := false) (by decide +kernel)) q
theorem i_lst_list {a : Addr} {xs : List V} (h : H a = some (.lst xs)) (q : Q (.bl true) H) : rIsi K [.ref a, .ty "list"] H Q := w_isi (.ty _) (.base (.lst h)) (kit_ty (a := "list") (b := "list") (r := true) (by decide +kernel)) q
theorem i_lst_tuple {a : Addr} {xs : List V} (h : H a = some (.lst xs)) (q : Q (.bl false) H) : rIsi K [.ref a, .ty "tuple"] H Q := w_isi (.ty _) (.base (.lst h)) (kit_ty (a := "list") (b := "tuple") (r := false) (by decide +kernel)) q
theorem i_tup_int {a : Addr} {xs : List V} (h : H a = some (.tup xs)) (q : Q (.bl false) H) : rIsi K [.ref a, .ty "int"] H Q := w_isi (.ty _) (.base (.tup h)) (kit_ty (a := "tuple") (b := "int") (r := false) (by decide +kernel)) q
theorem i_tup_bool {a : Addr} {xs : List V} (h : H a = some (.tup xs)) (q : Q (.bl false) H) : rIsi K [.ref a, .ty "bool"] H Q := w_isi (.ty _) (.base (.tup h)) (kit_ty (a := "tuple") (b := "bool") (r := false) (by decide +kernel)) q
theorem i_tup_str {a : Addr} {xs : List V} (h : H a = some (.tup xs)) (q : Q (.bl false) H) : rIsi K [.ref a, .ty "str"] H Q := w_isi (.ty _) (.base (.tup h)) (kit_ty (a := "tuple") (b := "str") (r := false) (by decide +kernel)) q
theorem i_tup_list {a : Addr} {xs : List V} (h : H a = some (.tup xs)) (q : Q (.bl false) H) : rIsi K [.ref a, .ty "list"] H Q := w_isi (.ty _) (.base (.tup h)) (kit_ty (a := "tuple") (b := "list") (r := false) (by decide +kernel)) q
theorem i_tup_tuple {a : Addr} {xs : List V} (h : H a = some (.tup xs)) (q : Q (.bl true) H) : rIsi K [.ref a, .ty "tuple"] H Q := w_isi (.ty _) (.base (.tup h)) (kit_ty (a := "tuple") (b := "tuple") (r := true) (by decide +kernel)) q
theorem i_dK_int {a : Addr} {kvs : List (Key × V)} (h : H a = some (.dK kvs)) (q : Q (.bl false) H) : rIsi K [.ref a, .ty "int"] H Q := w_isi (.ty _) (.base (.dK h)) (kit_ty (a := "dict") (b := "int") (r := false) (by decide +kernel)) q
theorem i_dK_bool {a : Addr} {kvs : List (Key × V)} (h : H a = some (.dK kvs)) (q : Q (.bl false) H) : rIsi K [.ref a, .ty "bool"] H Q := w_isi (.ty _) (.base (.dK h)) (kit_ty (a := "dict") (b := "bool") (r := false) (by decide +kernel)) q
theorem i_dK_str {a : Addr} {kvs : List (Key × V)} (h : H a = some (.dK kvs)) (q : Q (.bl false) H) : rIsi K [.ref a, .ty "str"] H Q := w_isi (.ty _) (.base (.dK h)) (kit_ty (a := "dict") (b := "str") (r := false) (by decide +kernel)) q
theorem i_dK_list {a : Addr} {kvs : List (Key × V)} (h : H a = some (.dK kvs)) (q : Q (.bl false) H) : rIsi K [.ref a, .ty "list"] H Q := w_isi (.ty _) (.base (.dK h)) (kit_ty (a := "dict") (b := "list") (r := false) (by decide +kernel)) q
theorem i_dK_tuple {a : Addr} {kvs : List (Key × V)} (h : H a = some (.dK kvs)) (q : Q (.bl false) H) : rIsi K [.ref a, .ty "tuple"] H Q := w_isi (.ty _) (.base (.dK h)) (kit_ty (a := "dict") (b := "tuple") (r := false) (by decide +kernel)) q
end
/-! ### loops -/
/-- a while by a family of states -/
def Wt {α : Type} (S : α → L2.St) (Pv : α → Hp → Prop) (μ : α → Nat) (m : Nat) (tb : TS) (D : Ends) (σ : L2.St) (H : Hp) : Prop :=
  ∃ N : L2.St → Hp → Prop, (∀ σ' H', N σ' H' → ∃ m', m' < m ∧ ∃ a', σ' = S a' ∧ Pv a' H' ∧ m' = μ a') ∧ tb { D with nx := N, ct := N, bk := D.nx } σ H
theorem w_while {α : Type} {c : TT} {tb : TS} {D : Ends} {σ : L2.St} {H : Hp} (S : α → L2.St) (Pv : α → Hp → Prop) (μ : α → Nat) (a0 : α) (e : σ = S a0) (h0 : Pv a0 H)
    (hs : ∀ a H, Pv a H → c (S a) H fun b H1 => if b = true then Wt S Pv μ (μ a) tb D (S a) H1 else D.nx (S a) H1) : tWhile c tb D σ H := by
  refine ⟨fun m σ H => ∃ a, σ = S a ∧ Pv a H ∧ m = μ a, ⟨_, a0, e, h0, rfl⟩, ?_⟩
  rintro m σ H ⟨a, rfl, p, rfl⟩
  exact hs a H p
theorem w_turn {α : Type} {tb : TS} {D : Ends} {σ : L2.St} {H : Hp} {S : α → L2.St} {Pv : α → Hp → Prop} {μ : α → Nat} {m : Nat}
    (h : tb { D with nx := fun σ' H' => ∃ a', σ' = S a' ∧ Pv a' H' ∧ μ a' < m, ct := fun σ' H' => ∃ a', σ' = S a' ∧ Pv a' H' ∧ μ a' < m, bk := D.nx } σ H) : Wt S Pv μ m tb D σ H :=
  ⟨_, fun _ _ ⟨a', e, p, l⟩ => ⟨_, l, a', e, p, rfl⟩, h⟩
section
variable {K : PySem.W.Frag} {σ : L2.St} {H : Hp} {D : Ends} {g : TG} {tb : TS} {tl : TE} {ta : TA}
theorem w_forI {wi : TI} (h : wi σ H fun J H1 => ∃ W : Nat → Nat → L2.St → Hp → Prop, (∃ m, W 0 m σ H1) ∧ ∀ i m σ H, W i m σ H →
    (J.stop i H ∧ D.nx σ H) ∨ (J.go i H ∧ ∃ N : L2.St → Hp → Prop, (∀ σ' H', N σ' H' → ∃ m', m' < m ∧ W (i + 1) m' σ' H') ∧ ∀ x H', J.yld i H x H' → g x σ H' fun σ2 H2 => tb { D with nx := N, ct := N, bk := D.nx } σ2 H2)) : tFor wi g tb D σ H := h
theorem w_iL {R : It → Hp → Prop} (h : tl σ H fun x H1 => ∃ a, x = .ref a ∧ (∃ xs, SqL K H1 a xs) ∧ R (Itl K a) H1) : iList K tl σ H R := h
theorem w_iT {R : It → Hp → Prop} (h : tl σ H fun x H1 => ∃ a, x = .ref a ∧ (∃ xs, SqT K H1 a xs) ∧ R (Itt K a) H1) : iTup K tl σ H R := h
theorem w_iR1 {R : It → Hp → Prop} (h : ta σ H fun vs H1 => ∃ j : Int, vs = [.int j] ∧ -(2 ^ 62) ≤ j ∧ j < 2 ^ 62 ∧ R (Itr 0 j.toNat) H1) : iRng1 ta σ H R := h
theorem w_iR2 {R : It → Hp → Prop} (h : ta σ H fun vs H1 => ∃ i j : Int, vs = [.int i, .int j] ∧ (-(2 ^ 62) ≤ i ∧ i < 2 ^ 62 ∧ -(2 ^ 62) ≤ j ∧ j < 2 ^ 62) ∧ R (Itr i (j - i).toNat) H1) : iRng2 ta σ H R := h
theorem w_iZT {R : It → Hp → Prop} (h : ta σ H fun vs H1 => ∃ a b xs ys, vs = [.ref a, .ref b] ∧ ((SqL K H1 a xs ∧ SqL K H1 b ys ∧ R (Itz K a b) H1) ∨ (SqT K H1 a xs ∧ SqT K H1 b ys ∧ R (RZ.ItzT K a b) H1))) : RZ.iZipA K ta σ H R := h
theorem walk_zipT {a b : Addr} {xs ys : List V} {n : Nat} (hn : n = min xs.length ys.length) : Walk (RZ.ItzT K a b) n (fun H => SqT K H a xs ∧ SqT K H b ys) (YPair (fun i => xs[i]?) (fun i => ys[i]?)) where
  goes := fun i H hi h => ⟨xs, ys, xs[i], ys[i], h.1, h.2, List.getElem?_eq_getElem (by omega), List.getElem?_eq_getElem (by omega)⟩
  stops := fun H h => ⟨xs, ys, h.1, h.2, by omega⟩
  yields := fun i H x H' hi h y => by
    obtain ⟨T, u, v, e, n, e2, f1, f2⟩ := y
    exact ⟨T, u, v, e, n, e2, f1 xs h.1, f2 ys h.2⟩
theorem w_yes {QB : Bool → Hp → Prop} (q : QB true H) : tYes σ H QB := q
theorem w_lc {wi : TI} {tt : TT} {te : TE} {vs : List Nat} {Q : VK} (h : wi σ H fun J H1 => ∀ D, H1 D = none → ∃ W : Nat → Nat → Hp → Prop, (∃ m, W 0 m (upd H1 D (.lst []))) ∧ ∀ i m H, W i m H →
  (J.stop i H ∧ Q (.ref D) H) ∨ (J.go i H ∧ ∃ Nx : Hp → Prop, (∀ H', Nx H' → ∃ m', m' < m ∧ W (i + 1) m' H') ∧ ∀ x H', J.yld i H x H' → g x (wipe σ vs) H' fun σ2 H2 => wipe σ2 vs = wipe σ vs ∧ tt σ2 H2 fun b H3 =>
    if b = true then te σ2 H3 fun y H4 => ∃ acc, H4 D = some (.lst acc) ∧ acc.length < sizeLine ∧ Nx (upd H4 D (.lst (acc ++ [y]))) else Nx H3)) : tLc wi g tt te vs σ H Q := h
end
/-! ### tests that are known -/
theorem if_t {c : Bool} {A B : Prop} (hc : c = true) (h : A) : if c = true then A else B := by rw [if_pos hc]; exact h
theorem if_f {c : Bool} {A B : Prop} (hc : c = false) (h : B) : if c = true then A else B := by rw [hc, if_neg Bool.false_ne_true]; exact h
theorem if_2 {c : Prop} [Decidable c] {A B : Prop} (h1 : c → A) (h2 : ¬ c → B) : if decide c = true then A else B := by
  by_cases h : c
  · exact if_t (decide_eq_true h) (h1 h)
  · exact if_f (decide_eq_false h) (h2 h)
theorem if_n2 {c : Prop} [Decidable c] {A B : Prop} (h1 : ¬ c → A) (h2 : c → B) : if (!decide c) = true then A else B := by
  by_cases h : c
  · exact if_f (by rw [decide_eq_true h]; rfl) (h2 h)
  · exact if_t (by rw [decide_eq_false h]; rfl) (h1 h)
theorem if_b {c : Bool} {A B : Prop} (h1 : c = true → A) (h2 : c = false → B) : if c = true then A else B := by
  cases c with
  | true => exact if_t rfl (h1 rfl)
  | false => exact if_f rfl (h2 rfl)
theorem V.int_inj {i j : Int} : (V.int i = V.int j) ↔ i = j := ⟨fun h => V.int.inj h, fun h => by rw [h]⟩
end Go

set_option Elab.async false
set_option linter.all false
set_option maxRecDepth 100000
set_option maxHeartbeats 4000000
namespace Go
open PySem PySem.Spec PyProof.Rows L2
/-! ### constants, texts -/
theorem pe_globI {X : Cx} {x : Str} {i : Int} {pos : Pos} (hg : Gl X x) (h : ∃ t, X.mg x = some (.int i t)) (hd : (x == ("__debug__" : Str)) = false := by decide) : PE X (.Name x pos) (tC (.int i)) := by
  obtain ⟨t, h⟩ := h
  exact pe_glob hg h ⟨t, rfl⟩ hd
theorem pe_globS {X : Cx} {x z : Str} {pos : Pos} (hg : Gl X x) (h : ∃ t, X.mg x = some (.str z t)) (hd : (x == ("__debug__" : Str)) = false := by decide) : PE X (.Name x pos) (tC (.str z)) := by
  obtain ⟨t, h⟩ := h
  exact pe_glob hg h ⟨t, rfl⟩ hd
abbrev one1 (c : Nat) : V := .str ⟨#[c]⟩
abbrev rListStr : List V → Hp → VK → Prop := fun xs H Q => ∃ z : Str, xs = [.str z] ∧ z.length ≤ sizeLine ∧ ∀ l, H l = none → Q (.ref l) (upd H l (.lst (z.cps.toList.map one1)))
theorem call_list_sign {X : Cx} (hc : X.calm = true) : CallR X (.type "list") rListStr := by
  intro pins s σ H xs us Q I r h
  obtain ⟨z, rfl, hz, q⟩ := h
  obtain ⟨u, rfl, t, rfl⟩ := vals1 r
  refine call_list_str (I.ok.hd hc) z t (hn := hz) fun h' tk acc c' hk hS hacc => ?_
  refine ⟨.ref s.heap.objs.size, upd H s.heap.objs.size (.lst (z.cps.toList.map one1)), I.laid hk (Nat.le_refl _) (show ObjOk X.prog X.w _ _ _ (.lst (z.cps.toList.map one1)) from ⟨?_, acc.toList, c', ?_, ?_⟩), rfl, q _ (I.hok.fresh (Nat.le_refl _))⟩
  · rw [List.length_map, Array.length_toList]; exact hz
  · have el : acc.toList.length = acc.size := by simp
    refine vals_of_at (by rw [List.length_map, el, hacc.1, Array.length_toList]) fun j x w h1 h2 => ?_
    obtain ⟨c, u, hcu, rfl⟩ := hacc.2 j w (by rw [← Array.getElem?_toList]; exact h2)
    rw [List.getElem?_map, Array.getElem?_toList, hcu] at h1
    cases h1
    exact ⟨u, rfl⟩
  · rw [Array.toArray_toList]; exact hS
abbrev rRepStr : R2 := fun x y H Q => ∃ (z : Str) (n : Nat), x = .str z ∧ y = .int (n : Int) ∧ z.length * n ≤ 1000 ∧ n ≤ 1000 ∧ Q (.str (Txt.mul z (n : Int))) H
theorem op_rep_str {X : Cx} : OpR X (binaryOp .Mult) rRepStr := by
  intro pins s σ H x y v u Q I rx ry h
  obtain ⟨z, n, rfl, rfl, hz, hn, q⟩ := h
  obtain ⟨t, rfl⟩ := rx
  obtain ⟨t', rfl⟩ := ry
  refine SB.mul ⟨?_, fun h1 h2 => ?_, fun h1 h2 => ?_⟩ fun t2 k => ⟨.str (Txt.mul z (n : Int)), H, ?_, ⟨_, rfl⟩, q⟩
  · rw [decide_eq_false (by omega), decide_eq_false (by omega)]; rfl
  · intro h3
    have h4 : (z.length : Int) * n ≤ 1000 := by exact_mod_cast hz
    have h5 : 1 ≤ (n : Int) := by omega
    have h6 : (1000 : Int) ≤ (2 ^ 63 - 1) / n := by
      rw [Int.le_ediv_iff_mul_le (by omega)]
      omega
    have h7 : (z.length : Int) ≤ z.length * n := by
      have := Int.mul_le_mul_of_nonneg_left h5 (Int.natCast_nonneg z.length)
      omega
    omega
  · rw [Int.toNat_natCast]
    have h9 : ¬ z.length * n > sizeLine := Nat.not_lt.mpr (Nat.le_trans hz (by decide))
    exact decide_eq_false h9
  · exact I.tok _
abbrev rLeS : R2 := fun x y H Q => ∃ i j, x = .str i ∧ y = .str j ∧ Q (.bl (!decide (j.cps.toList < i.cps.toList))) H
abbrev rGtS : R2 := fun x y H Q => ∃ i j, x = .str i ∧ y = .str j ∧ Q (.bl (decide (j.cps.toList < i.cps.toList))) H
abbrev rGeS : R2 := fun x y H Q => ∃ i j, x = .str i ∧ y = .str j ∧ Q (.bl (!decide (i.cps.toList < j.cps.toList))) H
abbrev rLtS : R2 := fun x y H Q => ∃ i j, x = .str i ∧ y = .str j ∧ Q (.bl (decide (i.cps.toList < j.cps.toList))) H
abbrev tJoin (K : PySem.W.Frag) (to te : TE) : TE := tM1 (fun x xs H Q => ∃ a p, ∃ ys : List Str, x = .str a ∧ xs = [.ref p] ∧ (SqL K H p (ys.map V.str) ∨ SqT K H p (ys.map V.str)) ∧
      (ys.map (·.length)).sum + ys.length * a.length ≤ 16777216 ∧ Q (.str (Txt.join a ys)) H) to te
abbrev tSplit (to te : TE) : TE := tM1 (fun x xs H Q => ∃ a b, x = .str a ∧ xs = [.str b] ∧ (b.length == 0) = false ∧ a.length + 2 ≤ sizeLine ∧ rNewStrs (Txt.split a b) H Q) to te
section
variable {K : PySem.W.Frag} {σ : L2.St} {H H' : Hp} {Q : VK} {te to : TE} {a b : Addr} {xs ys : List V} {v : V} {z z' : Str}
theorem w_join (h : to σ H fun x H1 => (∃ a, x = .str a) ∧ te σ H1 fun y H2 => ∃ a p, ∃ ys : List Str, x = .str a ∧ [y] = [.ref p] ∧ (SqL K H2 p (ys.map V.str) ∨ SqT K H2 p (ys.map V.str)) ∧
      (ys.map (·.length)).sum + ys.length * a.length ≤ 16777216 ∧ Q (.str (Txt.join a ys)) H2) : tJoin K to te σ H Q := h
theorem w_joinL {ys : List Str} (h : H a = some (.lst (ys.map V.str))) (hl : (ys.map (·.length)).sum + ys.length * z.length ≤ 16777216) (q : Q (.str (Txt.join z ys)) H) :
    ∃ a', ∃ p, ∃ ys : List Str, V.str z = .str a' ∧ [V.ref a] = [.ref p] ∧ (SqL K H p (ys.map V.str) ∨ SqT K H p (ys.map V.str)) ∧ (ys.map (·.length)).sum + ys.length * a'.length ≤ 16777216 ∧ Q (.str (Txt.join a' ys)) H :=
  ⟨z, a, ys, rfl, rfl, .inl (SqL.of h), hl, q⟩
theorem w_strE {R : Prop} (q : R) : (∃ a, V.str z = .str a) ∧ R := ⟨⟨z, rfl⟩, q⟩
theorem w_lenStr (hl : z.length ≤ sizeLine) (q : Q (.int z.length) H) : rLenStr [.str z] H Q := ⟨z, rfl, hl, q⟩
theorem w_ixS {i : Int} {c : Nat} (hl : z.length ≤ sizeLine) (hc : atI z.cps.toList i = some c) (q : Q (one1 c) H) : rIxS (.str z) (.int i) H Q := ⟨z, i, c, rfl, rfl, hl, hc, q⟩
theorem w_slS {lo hi : Option Int} (hl : z.length ≤ sizeLine) (q : Q (.str (cutS z lo hi)) H) : rSlS (.str z) lo hi H Q := ⟨z, rfl, hl, q⟩
theorem w_addStr (hl : z.length + z'.length ≤ sizeLine) (q : Q (.str (z ++ z')) H) : rAddStr (.str z) (.str z') H Q := ⟨z, z', rfl, rfl, hl, q⟩
theorem w_inS {c : Nat} (q : Q (.bl (decide (c ∈ z.cps.toList))) H) : rInS (one1 c) (.str z) H Q := ⟨c, z, rfl, rfl, q⟩
theorem w_leS (q : Q (.bl (!decide (z'.cps.toList < z.cps.toList))) H) : rLeS (.str z) (.str z') H Q := ⟨z, z', rfl, rfl, q⟩
theorem w_all {bs : List Bool} (h : H a = some (.lst (bs.map V.bl))) (q : Q (.bl (bs.all id)) H) : rAll K [.ref a] H Q := ⟨a, bs, rfl, SqL.of h, q⟩
theorem w_any {bs : List Bool} (h : H a = some (.lst (bs.map V.bl))) (q : Q (.bl (bs.any id)) H) : rAny K [.ref a] H Q := ⟨a, bs, rfl, SqL.of h, q⟩
theorem w_iS {R : It → Hp → Prop} (h : te σ H fun v H1 => ∃ x, v = .str x ∧ R (Its x) H1) : iStr te σ H R := h
theorem w_iSE {R : Str → Prop} (q : R z) : ∃ x, V.str z = .str x ∧ R x := ⟨z, rfl, q⟩
theorem w_listStr (hl : z.length ≤ sizeLine) (q : ∀ l, H l = none → Q (.ref l) (upd H l (.lst (z.cps.toList.map one1)))) : rListStr [.str z] H Q := ⟨z, rfl, hl, q⟩
theorem w_listT (h : SqT K H a ys) (q : ∀ l, H l = none → Q (.ref l) (upd H l (.lst ys))) : Evl.rListS K [.ref a] H Q := ⟨a, ys, rfl, .inr h, q⟩
theorem w_listL (h : SqL K H a ys) (q : ∀ l, H l = none → Q (.ref l) (upd H l (.lst ys))) : Evl.rListS K [.ref a] H Q := ⟨a, ys, rfl, .inl h, q⟩
theorem w_dnew (q : ∀ p, H p = none → Q (.ref p) (upd H p (.dK []))) : tDNewK σ H Q := q
theorem w_in {neg : Bool} (h : SqL K H a xs ∨ SqT K H a xs) (fx : flatV v = true) (fs : xs.all flatV = true) (q : Q (.bl (if neg then !inV v xs else inV v xs)) H) : rIn K neg v (.ref a) H Q := ⟨a, xs, rfl, h, fx, fs, q⟩
theorem w_rep_str {n : Nat} (h1 : z.length * n ≤ 1000) (h2 : n ≤ 1000) (q : Q (.str (Txt.mul z (n : Int))) H) : rRepStr (.str z) (.int (n : Int)) H Q := ⟨z, n, rfl, rfl, h1, h2, q⟩
end
/-! ### what kind of thing a value is -/
inductive Kd (H : Hp) : V → String → Prop
  | int (n : Int) : Kd H (.int n) "int"
  | bl (b : Bool) : Kd H (.bl b) "bool"
  | str (z : Str) : Kd H (.str z) "str"
  | non : Kd H .non "NoneType"
  | lst {a : Addr} {xs : List V} (h : H a = some (.lst xs)) : Kd H (.ref a) "list"
  | tup {a : Addr} {xs : List V} (h : H a = some (.tup xs)) : Kd H (.ref a) "tuple"
  | dict {a : Addr} {kvs : List (Key × V)} (h : H a = some (.dK kvs)) : Kd H (.ref a) "dict"
section
variable {K : PySem.W.Frag} {H H' : Hp} {Q : VK} {v : V} {T : String}
theorem Kd.same (h : Kd H v T) (s : Same H H') : Kd H' v T := by
  cases h with
  | int n => exact .int n
  | bl b => exact .bl b
  | str z => exact .str z
  | non => exact .non
  | lst h => exact .lst (s _ _ h)
  | tup h => exact .tup (s _ _ h)
  | dict h => exact .dict (s _ _ h)
theorem k_int (h : Kd H v T) (q : Q (.bl (T == "int" || T == "bool")) H) : rIsi K [v, .ty "int"] H Q := by
  cases h with
  | int n => exact i_int_int q
  | bl b => exact i_bl_int q
  | str z => exact i_str_int q
  | non => exact i_non_int q
  | lst h => exact i_lst_int h q
  | tup h => exact i_tup_int h q
  | dict h => exact i_dK_int h q
theorem k_bool (h : Kd H v T) (q : Q (.bl (T == "bool")) H) : rIsi K [v, .ty "bool"] H Q := by
  cases h with
  | int n => exact i_int_bool q
  | bl b => exact i_bl_bool q
  | str z => exact i_str_bool q
  | non => exact i_non_bool q
  | lst h => exact i_lst_bool h q
  | tup h => exact i_tup_bool h q
  | dict h => exact i_dK_bool h q
theorem k_str (h : Kd H v T) (q : Q (.bl (T == "str")) H) : rIsi K [v, .ty "str"] H Q := by
  cases h with
  | int n => exact i_int_str q
  | bl b => exact i_bl_str q
  | str z => exact i_str_str q
  | non => exact i_non_str q
  | lst h => exact i_lst_str h q
  | tup h => exact i_tup_str h q
  | dict h => exact i_dK_str h q
theorem k_tuple (h : Kd H v T) (q : Q (.bl (T == "tuple")) H) : rIsi K [v, .ty "tuple"] H Q := by
  cases h with
  | int n => exact i_int_tuple q
  | bl b => exact i_bl_tuple q
  | str z => exact i_str_tuple q
  | non => exact i_non_tuple q
  | lst h => exact i_lst_tuple h q
  | tup h => exact i_tup_tuple h q
  | dict h => exact i_dK_tuple h q
theorem k_list (h : Kd H v T) (q : Q (.bl (T == "list")) H) : rIsi K [v, .ty "list"] H Q := by
  cases h with
  | int n => exact i_int_list q
  | bl b => exact i_bl_list q
  | str z => exact i_str_list q
  | non => exact i_non_list q
  | lst h => exact i_lst_list h q
  | tup h => exact i_tup_list h q
  | dict h => exact i_dK_list h q
end
end Go

namespace Sum
open PySem PySem.Spec PyProof.Rows L2 Go
local macro_rules | `(tactic| walk_at "isi") => `(tactic| first
  | with_reducible refine Go.i_int_int ?_
  | with_reducible refine Go.i_int_bool ?_
  | with_reducible refine Go.i_int_str ?_
  | with_reducible refine Go.i_int_list ?_
  | with_reducible refine Go.i_int_tuple ?_
  | with_reducible refine Go.i_bl_int ?_
  | with_reducible refine Go.i_bl_bool ?_
  | with_reducible refine Go.i_bl_str ?_
  | with_reducible refine Go.i_bl_list ?_
  | with_reducible refine Go.i_bl_tuple ?_
  | with_reducible refine Go.i_str_int ?_
  | with_reducible refine Go.i_str_bool ?_
  | with_reducible refine Go.i_str_str ?_
  | with_reducible refine Go.i_str_list ?_
  | with_reducible refine Go.i_str_tuple ?_
  | with_reducible refine Go.i_non_int ?_
  | with_reducible refine Go.i_non_bool ?_
  | with_reducible refine Go.i_non_str ?_
  | with_reducible refine Go.i_non_list ?_
  | with_reducible refine Go.i_non_tuple ?_
  | ((with_reducible refine' Go.i_lst_int ?hh ?_); (case hh => walk_at "heap"))
  | ((with_reducible refine' Go.i_lst_bool ?hh ?_); (case hh => walk_at "heap"))
  | ((with_reducible refine' Go.i_lst_str ?hh ?_); (case hh => walk_at "heap"))
  | ((with_reducible refine' Go.i_lst_list ?hh ?_); (case hh => walk_at "heap"))
  | ((with_reducible refine' Go.i_lst_tuple ?hh ?_); (case hh => walk_at "heap"))
  | ((with_reducible refine' Go.i_tup_int ?hh ?_); (case hh => walk_at "heap"))
  | ((with_reducible refine' Go.i_tup_bool ?hh ?_); (case hh => walk_at "heap"))
  | ((with_reducible refine' Go.i_tup_str ?hh ?_); (case hh => walk_at "heap"))
  | ((with_reducible refine' Go.i_tup_list ?hh ?_); (case hh => walk_at "heap"))
  | ((with_reducible refine' Go.i_tup_tuple ?hh ?_); (case hh => walk_at "heap"))
  | ((with_reducible refine' Go.i_dK_int ?hh ?_); (case hh => walk_at "heap"))
  | ((with_reducible refine' Go.i_dK_bool ?hh ?_); (case hh => walk_at "heap"))
  | ((with_reducible refine' Go.i_dK_str ?hh ?_); (case hh => walk_at "heap"))
  | ((with_reducible refine' Go.i_dK_list ?hh ?_); (case hh => walk_at "heap"))
  | ((with_reducible refine' Go.i_dK_tuple ?hh ?_); (case hh => walk_at "heap")))
local macro_rules | `(tactic| walk_at "heap") => `(tactic| first | assumption | exact upd_same | (refine Go.keep ?_ (by assumption); walk_at "heap") | (refine Go.get (by assumption) ?_; walk_at "heap"))
local macro_rules | `(tactic| walk_at "s") => `(tactic| first
  | with_reducible refine Go.w_seq ?_
  | with_reducible refine Go.w_asg ?_
  | with_reducible refine Go.w_op ?_
  | ((with_reducible refine' Go.w_var ?hh ?_); (case hh => exact rfl))
  | with_reducible refine Go.w_con ?_
  | with_reducible refine Go.w_I0 ?_
  | ((with_reducible refine Go.w_mulI ?hh ?_); (case hh => first | exact Or.inl ⟨by decide, by decide⟩ | exact Or.inr ⟨by decide, by decide⟩))
  | ((with_reducible refine Go.w_modI ?hh ?_); (case hh => first | decide | omega))
  | ((with_reducible refine Go.w_divI ?hh ?_); (case hh => exact ⟨by decide +kernel, by decide +kernel⟩))
  | ((with_reducible refine Go.w_powI ?hh ?_); (case hh => exact ⟨by decide +kernel, by decide +kernel, by decide +kernel⟩))
  | ((with_reducible refine Go.w_shrI ?hh ?_); (case hh => first | decide | omega))
  | with_reducible refine Go.w_if ?_
  | with_reducible refine Go.w_test ?_
  | with_reducible refine Go.w_tB ?_
  | with_reducible refine Go.w_k ?_
  | with_reducible refine Go.w_call ?_
  | with_reducible refine Go.w_cons ?_
  | with_reducible refine Go.w_nil ?_
  | with_reducible refine Go.w_ret ?_
  | with_reducible refine Go.w_cb ?_
  | with_reducible refine Go.w_tup ?_
  | with_reducible refine Go.w_lst ?_
  | ((with_reducible refine Go.w_eq ?hh ?_); (case hh => exact rfl))
  | ((with_reducible refine Go.w_ne ?hh ?_); (case hh => exact rfl))
  | with_reducible refine Go.w_or ?_
  | with_reducible refine Go.w_and ?_
  | with_reducible refine Go.w_not ?_
  | with_reducible refine Go.w_next ?_
  | with_reducible refine Go.w_drop ?_
  | with_reducible refine Go.w_un ?_
  | with_reducible refine Go.w_U ?_
  | with_reducible refine Go.w_orV ?_
  | with_reducible refine Go.w_andV ?_
  | with_reducible refine Go.w_notV ?_
  | with_reducible refine Go.w_orT ?_
  | with_reducible refine Go.w_andT ?_
  | with_reducible refine Go.w_truI ?_
  | with_reducible refine Go.w_isB ?_
  | with_reducible refine Go.w_notB ?_
  | with_reducible refine Go.w_isN ?_
  | with_reducible refine Go.w_notN ?_
  | with_reducible refine Go.w_chain ?_
  | with_reducible refine Go.w_ifE ?_
  | with_reducible refine Go.w_abs ?_
  | with_reducible refine Go.w_intB ?_
  | with_reducible refine Go.w_sub ?_
  | with_reducible refine Go.w_par ?_
  | with_reducible refine Go.w_sl ?_
  | with_reducible refine Go.w_noPart ?_
  | with_reducible refine Go.w_part ?_
  | with_reducible refine Go.w_partI ?_
  | ((with_reducible refine' Go.w_ixT ?h1 ?h2 ?_); (case h1 => (apply Go.sqT; walk_at "heap")); (case h2 => exact rfl))
  | ((with_reducible refine' Go.w_ixL ?h1 ?h2 ?_); (case h1 => (apply Go.sqL; walk_at "heap")); (case h2 => exact rfl))
  | ((with_reducible refine' Go.w_lenT ?h1 ?_); (case h1 => (apply Go.sqT; walk_at "heap")))
  | ((with_reducible refine' Go.w_lenL ?h1 ?_); (case h1 => (apply Go.sqL; walk_at "heap")))
  | ((with_reducible refine' Go.w_ixsT ?h1 ?h2 ?_); (case h1 => (apply Go.sqT; walk_at "heap")); (case h2 => exact rfl))
  | ((with_reducible refine' Go.w_ixsL ?h1 ?h2 ?_); (case h1 => (apply Go.sqL; walk_at "heap")); (case h2 => exact rfl))
  | with_reducible refine Go.w_bm ?_
  | with_reducible refine Go.w_bm0 ?_
  | ((with_reducible refine' Go.w_tyL ?h1 ?_); (case h1 => walk_at "heap"))
  | with_reducible refine Go.w_tyS ?_
  | with_reducible refine Go.w_min2 ?_
  | with_reducible refine Go.w_max2 ?_
  | with_reducible refine Go.w_bits ?_
  | with_reducible refine Go.w_bitsI ?_
  | with_reducible refine Go.w_gName ?_
  | ((with_reducible refine' Go.w_gTup ?h1 ?h2 ?_); (case h1 => (apply Go.sqT; walk_at "heap")); (case h2 => exact rfl))
  | with_reducible refine Go.w_gCons ?_
  | with_reducible refine Go.w_gNil ?_
  | with_reducible refine Go.w_asgG ?_
  | walk_at "isi"
  | with_reducible refine Go.w_forI ?_
  | with_reducible refine Go.w_iL ?_
  | with_reducible refine Go.w_iT ?_
  | with_reducible refine Go.w_iZT ?_
  | with_reducible refine Go.w_iR1 ?_
  | with_reducible refine Go.w_iR2 ?_
  | with_reducible refine Go.w_lc ?_
  | ((with_reducible refine Go.if_t ?hh ?_); (case hh => exact rfl))
  | ((with_reducible refine Go.if_f ?hh ?_); (case hh => exact rfl)))
local macro_rules | `(tactic| walk_at "go") => `(tactic| repeat (walk_at "s"))

/-! ### promises: what the law draws by -/
def Src (H : Hp) (l : Addr) : Prop := ∃ a b c : Int, H l = some (.lst [.int a, .int b, .int c])
/-- by a draw the source alone has changed -/
structure Dr (l : Addr) (H H' : Hp) : Prop where
  keep : ∀ p o, p ≠ l → H p = some o → H' p = some o
  src0 : Src H l
  src : Src H' l
theorem Dr.trans {l : Addr} {H H1 H2 : Hp} (a : Dr l H H1) (b : Dr l H1 H2) : Dr l H H2 := ⟨fun p o n h => b.keep p o n (a.keep p o n h), a.src0, b.src⟩
theorem Dr.refl {l : Addr} {H : Hp} (s : Src H l) : Dr l H H := ⟨fun _ _ _ h => h, s, s⟩
theorem Dr.tup {l : Addr} {H H' : Hp} {a : Addr} {xs : List V} (d : Dr l H H') (h : H a = some (.tup xs)) : H' a = some (.tup xs) := by
  obtain ⟨x, y, z, e⟩ := d.src0
  exact d.keep a _ (ne_of h e (by intro z; cases z)) h
theorem Dr.free {l : Addr} {H H' : Hp} {p : Addr} (d : Dr l H H') (h : H' p = none) : H p = none := by
  obtain ⟨x, y, z, e⟩ := d.src
  cases q : H p with
  | none => rfl
  | some o =>
    by_cases n : p = l
    · rw [n, e] at h; cases h
    · rw [d.keep p o n q] at h; cases h
theorem Src.ext {l : Addr} {H H' : Hp} (s : Src H l) (e : Same H H') : Src H' l := by
  obtain ⟨x, y, z, h⟩ := s
  exact ⟨x, y, z, e _ _ h⟩
theorem Dr.same {l : Addr} {H H' : Hp} (s : Src H l) (e : Same H H') : Dr l H H' := ⟨fun p o _ h => e p o h, s, s.ext e⟩
theorem Dr.new {l : Addr} {H H' : Hp} {p : Addr} {o : HO} (d : Dr l H H') (hp : H' p = none) : Dr l H (upd H' p o) := d.trans (Dr.same d.src (same_new hp))
theorem Src.new {l : Addr} {H : Hp} {p : Addr} {o : HO} (s : Src H l) (hp : H p = none) : Src (upd H p o) l := s.ext (same_new hp)
/-- what H0 had stays while a thing that H0 had not is drawn by -/
theorem Dr.same_of {l : Addr} {H0 H H' : Hp} (d : Dr l H H') (s : Same H0 H) (hl : H0 l = none) : Same H0 H' := fun p o h => d.keep p o (ne_of_none h hl) (s p o h)
def spCellAt (K : PySem.W.Frag) : Sp := fun vs H Q _ => ∃ (a : Addr) (ns : List Int) (k : Nat), vs = [.ref a, .int k] ∧ SqL K H a (ns.map V.int) ∧ ∀ n : Int, Q (.int n) H
def spBegin : Sp := fun vs H Q _ => ∃ n : Int, vs = [.int n] ∧ ∀ l H', H l = none → Same H H' → Src H' l → Q (.ref l) H'
def spDraw : Sp := fun vs H Q _ => ∃ (l : Addr) (m : Int), vs = [.ref l, .int m] ∧ Src H l ∧ 0 < m ∧ m.natAbs < 2 ^ 200 ∧ ∀ d H', 0 ≤ d → d < m → Dr l H H' → Q (.int d) H'

/-! ### promises: a well to draw from -/
def spMixed : Sp := fun vs H Q _ => ∃ c k : Int, vs = [.int c, .int k] ∧ ∀ n : Int, 0 ≤ n → Q (.int n) H
def spPick : Sp := fun vs H Q _ => ∃ (l p : Addr) (xs : List V), vs = [.ref l, .ref p] ∧ Src H l ∧ H p = some (.lst xs) ∧ p ≠ l ∧ xs ≠ [] ∧ xs.length ≤ 1000 ∧ ∀ v H', v ∈ xs → Dr l H H' → Q v H'
theorem Src.ne_new {H : Hp} {l p : Addr} (s : Src H l) (hp : H p = none) : p ≠ l := fun e => by
  obtain ⟨x, y, z, h⟩ := s
  rw [e, h] at hp; cases hp
theorem _root_.Go.Kd.dr {l : Addr} {H H' : Hp} {v : V} {T : String} (h : Kd H v T) (d : Dr l H H') : Kd H' v T := by
  cases h with
  | int n => exact .int n
  | bl b => exact .bl b
  | str z => exact .str z
  | non => exact .non
  | @lst a xs h =>
    by_cases e : a = l
    · obtain ⟨x, y, z, h2⟩ := d.src
      rw [e]; exact .lst h2
    · exact .lst (d.keep _ _ e h)
  | tup h => exact .tup (d.tup h)
  | @dict a kvs h =>
    obtain ⟨x, y, z, h2⟩ := d.src0
    exact .dict (d.keep _ _ (ne_of h h2 (by intro z; cases z)) h)
/-- a list at D that grows while there is drawn at l: its items are of a kind -/
def Dl (l D : Addr) (H : Hp) (P : V → Prop) (i : Nat) (H' : Hp) : Prop := Dr l H H' ∧ H D = none ∧ D ≠ l ∧ ∃ xs : List V, H' D = some (.lst xs) ∧ xs.length = i ∧ ∀ x ∈ xs, P x
theorem Dl.start {l D : Addr} {H : Hp} {P : V → Prop} (s : Src H l) (hD : H D = none) : Dl l D H P 0 (upd H D (.lst [])) := ⟨(Dr.refl s).new hD, hD, s.ne_new hD, [], upd_same, rfl, fun x hx => by cases hx⟩
theorem Dl.put {l D : Addr} {H H1 H2 : Hp} {P : V → Prop} {i : Nat} {v : V} (f : Dl l D H P i H1) (d : Dr l H1 H2) (hv : P v) (hi : i ≤ 1000) :
    ∃ acc, H2 D = some (.lst acc) ∧ acc.length < sizeLine ∧ Dl l D H P (i + 1) (upd H2 D (.lst (acc ++ [v]))) := by
  obtain ⟨d1, hD, nDl, xs, h1, h2, h3⟩ := f
  have dd := d1.trans d
  refine ⟨_, d.keep _ _ nDl h1, by rw [h2]; exact small1000 hi, ⟨fun b o nb e => ?_, dd.src0, ?_⟩, hD, nDl, xs ++ [v], upd_same, by rw [List.length_append, h2]; rfl, ?_⟩
  · rw [upd_ne (ne_of_none e hD)]
    exact dd.keep b o nb e
  · obtain ⟨x, y, z, h⟩ := dd.src
    exact ⟨x, y, z, by rw [upd_ne nDl.symm]; exact h⟩
  · intro x hx
    rcases List.mem_append.mp hx with h | h
    · exact h3 x h
    · rw [List.mem_singleton.mp h]; exact hv
/-- texts of one sign -/
abbrev sg1 (c : Nat) : Str := ⟨#[c]⟩
theorem signs_of {P : Nat → Prop} : ∀ {xs : List V}, (∀ x ∈ xs, ∃ c, x = one1 c ∧ P c) → ∃ cs : List Nat, xs = (cs.map sg1).map V.str ∧ ∀ c ∈ cs, P c
  | [], _ => ⟨[], rfl, fun c hc => by cases hc⟩
  | x :: xs, h => by
    obtain ⟨c, rfl, hc⟩ := h x (.head _)
    obtain ⟨cs, e, hcs⟩ := signs_of (xs := xs) fun y hy => h y (.tail _ hy)
    refine ⟨c :: cs, by rw [e]; rfl, fun d hd => ?_⟩
    rcases List.mem_cons.mp hd with h | h
    · rw [h]; exact hc
    · exact hcs d h
theorem signs_sum : ∀ cs : List Nat, ((cs.map sg1).map (·.length)).sum = cs.length
  | [] => rfl
  | c :: cs => by
    rw [List.map_cons, List.map_cons, List.sum_cons, signs_sum cs, List.length_cons]
    show 1 + cs.length = cs.length + 1
    omega
theorem joinL_signs : ∀ cs : List Nat, TL.joinL [] (cs.map fun c => [c]) = cs
  | [] => rfl
  | [c] => rfl
  | c :: d :: r => by
    have := joinL_signs (d :: r)
    show [c] ++ ([] ++ TL.joinL [] ((d :: r).map fun c => [c])) = _
    rw [this]; rfl
theorem join_signs (cs : List Nat) : Txt.join ("" : Str) (cs.map sg1) = ⟨cs.toArray⟩ := by
  have e := SX.join_S [] (cs.map fun c => [c])
  rw [joinL_signs, List.map_map] at e
  exact e

-- names: 0:_law_script 1:_law_k
abbrev N_l_cell_at : List Str := ["_law_script", "_law_k"]
def t_l_cell_at (K : PySem.W.Frag) : TS :=
  (tSeq (tIfS (tTest (tOp rLtI (tVar 1) (tCB (Evl.rLenS K) (tCons (tVar 0) tNil)))) (tRet (tOp (rIxL K) (tVar 0) (tVar 1))) tNext)
    (tRet (tC (.int 0))))

-- names: 0:_law_cell 1:_law_k 2:_law_number
abbrev N_l_mixed : List Str := ["_law_cell", "_law_k", "_law_number"]
def t_l_mixed (K : PySem.W.Frag) : TS :=
  (tSeq (tAsg (tOp rModI (tOp rMulI (tOp rAddI (tOp rAddI (tOp rModI (tVar 0) (tC (.int 2147483647))) (tOp rMulI (tC (.int 7919)) (tVar 1))) (tC (.int 1))) (tC (.int 48271))) (tC (.int 2147483647))) (gName 2))
    (tSeq (tAsg (tOp rModI (tOp rMulX (tVar 2) (tOp rAddI (tOp rDivI (tVar 2) (tC (.int 1009))) (tC (.int 69621)))) (tC (.int 2147483647))) (gName 2))
    (tRet (tOp rModI (tOp rMulX (tVar 2) (tOp rAddI (tOp rDivI (tVar 2) (tC (.int 2003))) (tC (.int 40692)))) (tC (.int 2147483399))))))

-- names: 0:_law_cell
abbrev N_l_well : List Str := ["_law_cell"]
def t_l_well (K : PySem.W.Frag) : TS :=
  (tRet (tLst (tCons (tOp (rIxL K) (tLst (tCons (tC (.int 0)) (tCons (tVar 0) tNil))) (tCB rInt1 (tCons (tOp rGeI (tVar 0) (tOp rPowI (tC (.int 10)) (tC (.int 18)))) tNil))) (tCons (tVar 0) (tCons (tC (.int 0)) tNil)))))

-- names: 0:_law_well_here 1:_law_many_here 2:_law_found
abbrev N_l_draw : List Str := ["_law_well_here", "_law_many_here", "_law_found"]
def t_l_draw (K : PySem.W.Frag) : TS :=
  (tSeq (tIfS (tTest (tOp rGtI (tOp (rIxL K) (tVar 0) (tC (.int 0))) (tC (.int 0)))) (tSeq (tAsg (tOp rModI (tOp (rIxL K) (tVar 0) (tC (.int 0))) (tVar 1)) (gName 2))
      (tSeq (tAsg (tOp rDivI (tOp (rIxL K) (tVar 0) (tC (.int 0))) (tVar 1)) (gSub (tVar 0) (tC (.int 0)) rSetL))
      (tRet (tVar 2)))) tNext)
    (tSeq (tAsg (tOp rAddI (tOp (rIxL K) (tVar 0) (tC (.int 2))) (tC (.int 1))) (gSub (tVar 0) (tC (.int 2)) rSetL))
    (tRet (tOp rModI (tCall spMixed [] E0 (tCons (tOp (rIxL K) (tVar 0) (tC (.int 1))) (tCons (tOp (rIxL K) (tVar 0) (tC (.int 2))) tNil))) (tVar 1)))))

-- names: 0:_law_well_here 1:_law_some
abbrev N_l_pick : List Str := ["_law_well_here", "_law_some"]
def t_l_pick (K : PySem.W.Frag) : TS :=
  (tRet (tOp (rIxL K) (tVar 1) (tCall spDraw [] E0 (tCons (tVar 0) (tCons (tCB (Evl.rLenS K) (tCons (tVar 1) tNil)) tNil)))))


theorem p_l_cell_at_len {K : PySem.W.Frag} {vs : List V} {H : Hp} {Q : VK} {E : XK} (h : spCellAt K vs H Q E) : vs.length = 2 := by
  obtain ⟨a, ns, k, rfl, _⟩ := h; rfl
theorem p_l_cell_at {K : PySem.W.Frag} {vs : List V} {H : Hp} {Q : VK} {E : XK} (h : spCellAt K vs H Q E) : t_l_cell_at K { nx := fun _ H' => Q .non H', rt := Q } (start N_l_cell_at vs) H := by
  obtain ⟨a, ns, k, rfl, hS, q⟩ := h
  unfold t_l_cell_at
  walk_at "go"
  refine w_lenL hS ?_
  walk_at "go"
  refine if_2 (fun h => ?_) (fun h => ?_)
  · rw [List.length_map] at h
    have hk : k < ns.length := by omega
    walk_at "go"
    refine w_ixL hS (v := .int ns[k]) (atI_nat (by rw [List.getElem?_map, List.getElem?_eq_getElem hk]; rfl)) ?_
    exact q _
  · walk_at "go"
    exact q _
theorem dr_set {l : Addr} {H : Hp} {a b c : Int} (s : Src H l) : Dr l H (upd H l (.lst [.int a, .int b, .int c])) := ⟨fun p o n h => by rw [upd_ne n]; exact h, s, ⟨_, _, _, upd_same⟩⟩
theorem mulS {i j : Int} (h0 : -(2 ^ 64) < i) (h1 : i < 2 ^ 64) (h2 : -(2 ^ 64) < j) (h3 : j < 2 ^ 64) : CMulX i j := by
  have a : i.natAbs < 2 ^ 64 := by omega
  have b : j.natAbs < 2 ^ 64 := by omega
  exact mulx_ok a b (by decide)
/-! ### the laws' loop over the cells -/
theorem ints_cut {ns : List Int} {lo hi : Option Int} : ∀ x ∈ cutV (ns.map V.int) lo hi, ∃ z, x = V.int z := fun x hx => by
  unfold cutV at hx
  have h1 := List.mem_of_mem_drop (List.mem_of_mem_take hx)
  obtain ⟨z, _, e⟩ := List.mem_map.mp h1
  exact ⟨z, e.symm⟩
theorem w_cells {K : PySem.W.Frag} {H : Hp} {a : Addr} {ns : List Int} {N : Int} {j : Nat} {tb : TS} {D : Ends} {σ : L2.St} (Ok : L2.St → Prop) (h0 : Ok σ) (hσ : σ[0]? = some (some (.ref a))) (hS : SqL K H a (ns.map V.int)) (hlen : ns.length ≤ 63)
    (hs : ∀ z σ' H' (N : L2.St → Hp → Prop), Ok σ' → Same H H' → (∀ σ2 H2, Ok σ2 → Same H' H2 → N σ2 H2) → tb { D with nx := N, ct := N, bk := D.nx } (σ'.set j (some (.int z))) H') (hd : ∀ σ' H', Ok σ' → Same H H' → D.nx σ' H') :
    tFor (iList K (tOp rCat (tLst (tCons (tCall (spCellAt K) [] E0 (tCons (tVar 0) (tCons (tC (.int 0)) tNil))) tNil)) (tSl (rSlL K) (tVar 0) (tPart (tC (.int 1))) (tPart (tC (.int N)))))) (gName j) tb D σ H := by
  refine w_forI (w_iL (w_op (w_lst (w_cons (w_call (w_cons (w_var hσ (w_cons (w_con (w_nil ?_))))))))))
  refine ⟨a, ns, 0, rfl, hS, fun n0 => ?_⟩
  walk_at "go"
  refine ⟨by show 1 ≤ sizeLine; decide, fun L1 hL1 => ?_⟩
  refine w_sl (w_var hσ (w_part (w_con (w_partI (w_part (w_con (w_partI ?_)))))))
  refine w_slL ((same_new hL1).seq hS) fun L2 hL2 => ?_
  have cl := cutV_length (ns.map V.int) (some 1) (some N)
  rw [List.length_map] at cl
  refine w_cat (keep upd_same hL2) upd_same (Nat.le_trans (by rw [List.length_singleton]; omega : _ ≤ 1000) (by decide)) fun L hL => ?_
  have hi : ∀ x ∈ [V.int n0] ++ cutV (ns.map V.int) (some 1) (some N), ∃ z, x = V.int z := fun x hx => by
    rcases List.mem_append.mp hx with h | h
    · exact ⟨n0, by simpa using h⟩
    · exact ints_cut x h
  generalize [V.int n0] ++ cutV (ns.map V.int) (some 1) (some N) = xs at *
  have h1 : (upd (upd (upd H L1 (.lst [.int n0])) L2 (.lst (cutV (ns.map V.int) (some 1) (some N)))) L (.lst xs)) L = some (.lst xs) := upd_same
  have s1 : Same H (upd (upd (upd H L1 (.lst [.int n0])) L2 (.lst (cutV (ns.map V.int) (some 1) (some N)))) L (.lst xs)) := same_in (same_in (same_new hL1) hL2) hL
  generalize upd (upd (upd H L1 (.lst [.int n0])) L2 (.lst (cutV (ns.map V.int) (some 1) (some N)))) L (.lst xs) = H0 at *
  refine ⟨L, rfl, ⟨_, sqL h1⟩, for_list (K := K) (a := L) (xs := xs) (fun i σ H' => Ok σ ∧ Same H0 H') ⟨h0, Same.refl _⟩ (fun i σ H' _ P => sqL (P.2 _ _ h1)) ?_ ?_⟩
  · rintro i x σ1 H1 hx ⟨o1, sm⟩
    obtain ⟨z, rfl⟩ := hi x (List.mem_of_getElem? hx)
    exact hs z σ1 H1 _ o1 (s1.trans sm) fun σ2 H2 o2 s2 => ⟨o2, sm.trans s2⟩
  · rintro σ1 H1 ⟨o1, sm⟩
    exact hd σ1 H1 o1 (s1.trans sm)

theorem p_l_well_len {vs : List V} {H : Hp} {Q : VK} {E : XK} (h : spBegin vs H Q E) : vs.length = 1 := by
  obtain ⟨n, rfl, _⟩ := h; rfl
theorem p_l_well {K : PySem.W.Frag} {vs : List V} {H : Hp} {Q : VK} {E : XK} (h : spBegin vs H Q E) : t_l_well K { nx := fun _ H' => Q .non H', rt := Q } (start N_l_well vs) H := by
  obtain ⟨n, rfl, q⟩ := h
  unfold t_l_well
  walk_at "go"
  refine ⟨by show 2 ≤ sizeLine; decide, fun p hp => ?_⟩
  walk_at "go"
  have e : atI [V.int 0, V.int n] (if decide ((10 : Int) ^ (18 : Int).toNat ≤ n) = true then 1 else 0) = some (.int (if decide ((10 : Int) ^ (18 : Int).toNat ≤ n) = true then n else 0)) := by
    split <;> rfl
  refine w_ixL (sqL upd_same) e ?_
  walk_at "go"
  refine ⟨by show 3 ≤ sizeLine; decide, fun l hl => ?_⟩
  exact q l _ (free_of hl) (same_in (same_new hp) hl) ⟨_, _, _, upd_same⟩
theorem p_l_mixed_len {vs : List V} {H : Hp} {Q : VK} {E : XK} (h : spMixed vs H Q E) : vs.length = 2 := by
  obtain ⟨l, m, rfl, _⟩ := h; rfl
theorem p_l_mixed {K : PySem.W.Frag} {vs : List V} {H : Hp} {Q : VK} {E : XK} (h : spMixed vs H Q E) : t_l_mixed K { nx := fun _ H' => Q .non H', rt := Q } (start N_l_mixed vs) H := by
  obtain ⟨b, c, rfl, q⟩ := h
  unfold t_l_mixed
  walk_at "go"
  have e1 : ∀ n : Int, 0 ≤ n % 2147483647 ∧ n % 2147483647 < 2147483647 := fun n => by omega
  generalize hn1 : (b % 2147483647 + 7919 * c + 1) * 48271 % 2147483647 = n1
  have b1 := e1 ((b % 2147483647 + 7919 * c + 1) * 48271)
  rw [hn1] at b1
  have c1 : 0 ≤ n1 / 1009 ∧ n1 / 1009 < 2147483647 := by omega
  refine w_I (mulS (by omega) (by omega) (by omega) (by omega)) ?_
  walk_at "go"
  generalize hn2 : n1 * (n1 / 1009 + 69621) % 2147483647 = n2
  have b2 := e1 (n1 * (n1 / 1009 + 69621))
  rw [hn2] at b2
  have c2 : 0 ≤ n2 / 2003 ∧ n2 / 2003 < 2147483647 := by omega
  refine w_I (mulS (by omega) (by omega) (by omega) (by omega)) ?_
  walk_at "go"
  exact q _ (Int.emod_nonneg _ (by omega))
theorem p_l_draw_len {vs : List V} {H : Hp} {Q : VK} {E : XK} (h : spDraw vs H Q E) : vs.length = 2 := by
  obtain ⟨l, m, rfl, _⟩ := h; rfl
theorem p_l_draw {K : PySem.W.Frag} {vs : List V} {H : Hp} {Q : VK} {E : XK} (h : spDraw vs H Q E) : t_l_draw K { nx := fun _ H' => Q .non H', rt := Q } (start N_l_draw vs) H := by
  obtain ⟨l, m, rfl, hs, hm, bm, q⟩ := h
  obtain ⟨a, b, c, hl⟩ := id hs
  unfold t_l_draw
  walk_at "go"
  refine if_2 (fun h => ?_) (fun h => ?_)
  · walk_at "go"
    refine w_I (wide_div hm bm (by decide) (by decide)) ?_
    walk_at "go"
    refine w_setL hl (j := 0) rfl ?_
    walk_at "go"
    exact q _ _ (Int.emod_nonneg _ (by omega)) (Int.emod_lt_of_pos _ hm) (dr_set hs)
  · walk_at "go"
    refine w_setL hl (j := 2) rfl ?_
    walk_at "go"
    refine ⟨_, _, rfl, fun n hn => ?_⟩
    walk_at "go"
    exact q _ _ (Int.emod_nonneg _ (by omega)) (Int.emod_lt_of_pos _ hm) (dr_set hs)
theorem p_l_pick_len {vs : List V} {H : Hp} {Q : VK} {E : XK} (h : spPick vs H Q E) : vs.length = 2 := by
  obtain ⟨l, m, xs, rfl, _⟩ := h; rfl
theorem p_l_pick {K : PySem.W.Frag} {vs : List V} {H : Hp} {Q : VK} {E : XK} (h : spPick vs H Q E) : t_l_pick K { nx := fun _ H' => Q .non H', rt := Q } (start N_l_pick vs) H := by
  obtain ⟨l, p, xs, rfl, hs, hp, npl, hx, hl, q⟩ := h
  have h0 : 0 < xs.length := by
    cases xs with
    | nil => exact absurd rfl hx
    | cons x xs => exact Nat.zero_lt_succ _
  unfold t_l_pick
  walk_at "go"
  refine ⟨l, _, rfl, hs, by omega, Nat.lt_of_le_of_lt (by rw [Int.natAbs_natCast]; exact hl) (by decide), fun d H1 d0 d1 k1 => ?_⟩
  obtain ⟨n, rfl⟩ := Int.eq_ofNat_of_zero_le d0
  have hn : n < xs.length := by omega
  refine w_ixL (sqL (k1.keep _ _ npl hp)) (atI_nat (List.getElem?_eq_getElem hn)) ?_
  exact q _ _ (List.getElem_mem hn) k1

/-! ### promises: names and numbers -/
def smallC (c : Nat) : Bool := decide (97 ≤ c) && decide (c ≤ 122)
def isNm (z : Str) : Bool := decide (1 ≤ z.length) && decide (z.length ≤ 8) && z.cps.toList.all smallC
def nmV : V → Bool
  | .str z => isNm z
  | _ => false
def numI : V → Bool
  | .int i => decide (-1000000000000 ≤ i) && decide (i ≤ 1000000000000)
  | _ => false
def numsOk (xs : List V) : Bool := decide (1 ≤ xs.length) && decide (xs.length ≤ 3) && xs.all numI
def Kds (H : Hp) (xs : List V) : Prop := ∀ x ∈ xs, ∃ T, Kd H x T
def spIsInt : Sp := fun vs H Q _ => ∃ v T, vs = [v] ∧ Kd H v T ∧ Q (.bl (T == "int")) H
def spIsName : Sp := fun vs H Q _ => ∃ v T, vs = [v] ∧ Kd H v T ∧ (∀ z, v = .str z → z.length ≤ 100000) ∧ ∀ H', Same H H' → Q (.bl (nmV v)) H'
def spIsNumbers : Sp := fun vs H Q _ => ∃ v, vs = [v] ∧ ((∃ a xs, v = .ref a ∧ H a = some (.tup xs) ∧ Kds H xs ∧ ∀ H', Same H H' → Q (.bl (numsOk xs)) H') ∨ ∃ T, Kd H v T ∧ T ≠ "tuple" ∧ Q (.bl false) H)
theorem Kds.same {H H' : Hp} {xs : List V} (h : Kds H xs) (s : Same H H') : Kds H' xs := fun x hx => by
  obtain ⟨T, h⟩ := h x hx
  exact ⟨T, h.same s⟩

-- names: 0:thing
abbrev N_is_int : List Str := ["thing"]
def t_is_int (K : PySem.W.Frag) : TS :=
  (tRet (tAndV (tCB (rIsi K) (tCons (tVar 0) (tCons (tC (.ty "int")) tNil))) (tNotV (tCB (rIsi K) (tCons (tVar 0) (tCons (tC (.ty "bool")) tNil))))))

-- names: 0:thing 1:sign
abbrev N_is_name : List Str := ["thing", "sign"]
def t_is_name (K : PySem.W.Frag) : TS :=
  (tSeq (tIfS (tOr (tNot (tB (tCB (rIsi K) (tCons (tVar 0) (tCons (tC (.ty "str")) tNil))))) (tNot (tTest (tChain rLeI rLeI (tC (.int 1)) (tCB rLenStr (tCons (tVar 0) tNil)) (tC (.int 8)))))) (tRet (tC (.bl false))) tNext)
    (tRet (tCB (rAll K) (tCons (tLc (iStr (tVar 0)) (gName 1) tYes (tOp rInS (tVar 1) (tC (.str ("abcdefghijklmnopqrstuvwxyz" : Str)))) [1]) tNil))))

-- names: 0:thing 1:one
abbrev N_is_numbers : List Str := ["thing", "one"]
def t_is_numbers (K : PySem.W.Frag) : TS :=
  (tSeq (tIfS (tOr (tNot (tB (tCB (rIsi K) (tCons (tVar 0) (tCons (tC (.ty "tuple")) tNil))))) (tNot (tTest (tChain rLeI rLeI (tC (.int 1)) (tCB (Evl.rLenS K) (tCons (tVar 0) tNil)) (tC (.int 3)))))) (tRet (tC (.bl false))) tNext)
    (tRet (tCB (rAll K) (tCons (tLc (iTup K (tVar 0)) (gName 1) tYes (tAndV (tCall spIsInt [] E0 (tCons (tVar 1) tNil)) (tChain rLeI rLeI (tOp rSubI (tC (.int 0)) (tC (.int 1000000000000))) (tVar 1) (tC (.int 1000000000000)))) [1]) tNil))))


theorem p_is_int_len {vs : List V} {H : Hp} {Q : VK} {E : XK} (h : spIsInt vs H Q E) : vs.length = 1 := by
  obtain ⟨v, T, rfl, _⟩ := h; rfl
theorem p_is_name_len {vs : List V} {H : Hp} {Q : VK} {E : XK} (h : spIsName vs H Q E) : vs.length = 1 := by
  obtain ⟨v, T, rfl, _⟩ := h; rfl
theorem p_is_numbers_len {vs : List V} {H : Hp} {Q : VK} {E : XK} (h : spIsNumbers vs H Q E) : vs.length = 1 := by
  obtain ⟨v, rfl, _⟩ := h; rfl
theorem p_is_int {K : PySem.W.Frag} {vs : List V} {H : Hp} {Q : VK} {E : XK} (h : spIsInt vs H Q E) : t_is_int K { nx := fun _ H' => Q .non H', rt := Q } (start N_is_int vs) H := by
  obtain ⟨v, T, rfl, h, q⟩ := h
  unfold t_is_int
  walk_at "go"
  refine k_int h ?_
  walk_at "go"
  cases h with
  | int n => walk_at "go"; exact q
  | bl n => walk_at "go"; exact q
  | str n => walk_at "go"; exact q
  | non => walk_at "go"; exact q
  | lst h => walk_at "go"; exact q
  | tup h => walk_at "go"; exact q
  | dict h => walk_at "go"; exact q
theorem letters_eq : (("abcdefghijklmnopqrstuvwxyz" : Str)).cps.toList = List.range' 97 26 := by decide +kernel
theorem in_letters (c : Nat) : decide (c ∈ (("abcdefghijklmnopqrstuvwxyz" : Str)).cps.toList) = smallC c := by
  rw [letters_eq]
  unfold smallC
  by_cases h1 : 97 ≤ c <;> by_cases h2 : c ≤ 122
  · rw [decide_eq_true h1, decide_eq_true h2]
    exact decide_eq_true (List.mem_range'_1.mpr ⟨h1, by omega⟩)
  · rw [decide_eq_true h1, decide_eq_false h2]
    exact decide_eq_false fun h => by have := List.mem_range'_1.mp h; omega
  · rw [decide_eq_false h1]
    exact decide_eq_false fun h => by have := List.mem_range'_1.mp h; omega
  · rw [decide_eq_false h1]
    exact decide_eq_false fun h => by have := List.mem_range'_1.mp h; omega
/-- truths that are put into a list at D, by turns -/
def Bs (H : Hp) (D : Addr) (bs : List Bool) (i : Nat) (H' : Hp) : Prop := Same H H' ∧ H D = none ∧ H' D = some (.lst ((bs.take i).map V.bl))
theorem Bs.start {H : Hp} {D : Addr} {bs : List Bool} (hD : H D = none) : Bs H D bs 0 (upd H D (.lst [])) := ⟨same_new hD, hD, upd_same⟩
theorem Bs.step {H H1 H2 : Hp} {D : Addr} {bs : List Bool} {i : Nat} {b : Bool} (m : Bs H D bs i H1) (s : Same H1 H2) (hb : bs[i]? = some b) (hl : bs.length ≤ 1000) :
    ∃ acc, H2 D = some (.lst acc) ∧ acc.length < sizeLine ∧ Bs H D bs (i + 1) (upd H2 D (.lst (acc ++ [.bl b]))) := by
  obtain ⟨s0, hD, h1⟩ := m
  refine ⟨_, s _ _ h1, by rw [List.length_map, List.length_take]; exact small1000 (by omega), fun a o e => ?_, hD, ?_⟩
  · rw [upd_ne (ne_of_none e hD)]
    exact s _ _ (s0 _ _ e)
  · rw [upd_same, List.take_add_one, hb, List.map_append]; rfl
theorem Bs.all {K : PySem.W.Frag} {H H1 : Hp} {D : Addr} {bs : List Bool} {n : Nat} {Q : VK} (m : Bs H D bs n H1) (hn : bs.length ≤ n) (q : ∀ H', Same H H' → Q (.bl (bs.all id)) H') : rAll K [.ref D] H1 Q := by
  obtain ⟨s0, hD, h1⟩ := m
  rw [List.take_of_length_le hn] at h1
  exact w_all h1 (q _ s0)
theorem p_is_name {K : PySem.W.Frag} {vs : List V} {H : Hp} {Q : VK} {E : XK} (h : spIsName vs H Q E) : t_is_name K { nx := fun _ H' => Q .non H', rt := Q } (start N_is_name vs) H := by
  obtain ⟨v, T, rfl, h, hz, q⟩ := h
  unfold t_is_name
  walk_at "go"
  refine k_str h ?_
  cases h with
  | str z =>
    have hl := hz z rfl
    walk_at "go"
    refine w_lenStr (Nat.le_trans hl (by decide)) ?_
    walk_at "go"
    have fin : ¬ (1 ≤ z.length ∧ z.length ≤ 8) → Q (.bl false) H := fun n => by
      have := q H (Same.refl _)
      have e : nmV (.str z) = false := by
        show isNm z = false
        unfold isNm
        by_cases h1 : 1 ≤ z.length
        · rw [decide_eq_false (p := z.length ≤ 8) (fun h2 => n ⟨h1, h2⟩), Bool.and_false]; rfl
        · rw [decide_eq_false h1]; rfl
      rw [e] at this
      exact this
    refine if_2 (fun h1 => ?_) (fun h1 => ?_)
    · walk_at "go"
      refine if_n2 (fun h2 => ?_) (fun h2 => ?_)
      · walk_at "go"
        exact fin (by omega)
      · walk_at "go"
        have hl8 : z.cps.size ≤ 8 := by
          have : (z.length : Int) ≤ 8 := h2
          exact Int.ofNat_le.mp this
        refine w_iS ?_
        walk_at "go"
        refine w_iSE fun D hD => lc_it walk_str (Bs H D (z.cps.toList.map smallC)) (Bs.start hD) (fun _ _ _ _ => trivial) ?_ ?_
        · rintro i x H1 H2 hi m ⟨rfl, c, hc, rfl⟩
          walk_at "go"
          refine ⟨rfl, w_yes (if_t rfl ?_)⟩
          walk_at "go"
          refine w_inS ?_
          rw [in_letters]
          exact m.step (Same.refl _) (by rw [List.getElem?_map, Array.getElem?_toList, hc]; rfl) (by rw [List.length_map, Array.length_toList]; omega)
        · rintro H1 m
          walk_at "go"
          refine m.all (by rw [List.length_map, Array.length_toList]; exact Nat.le_refl _) fun H' s' => ?_
          have e : (z.cps.toList.map smallC).all id = nmV (.str z) := by
            show _ = isNm z
            have h1' : 1 ≤ z.length := by omega
            have h2' : z.length ≤ 8 := hl8
            unfold isNm
            rw [decide_eq_true h1', decide_eq_true h2', List.all_map]
            rfl
          rw [e]
          exact q _ s'
    · walk_at "go"
      exact fin (by omega)
  | int n => walk_at "go"; exact q H (Same.refl _)
  | bl n => walk_at "go"; exact q H (Same.refl _)
  | non => walk_at "go"; exact q H (Same.refl _)
  | lst h => walk_at "go"; exact q H (Same.refl _)
  | tup h => walk_at "go"; exact q H (Same.refl _)
  | dict h => walk_at "go"; exact q H (Same.refl _)
theorem p_is_numbers {K : PySem.W.Frag} {vs : List V} {H : Hp} {Q : VK} {E : XK} (h : spIsNumbers vs H Q E) : t_is_numbers K { nx := fun _ H' => Q .non H', rt := Q } (start N_is_numbers vs) H := by
  obtain ⟨v, rfl, ⟨a, xs, rfl, ha, hx, q⟩ | ⟨T, h, hT, q⟩⟩ := h
  · unfold t_is_numbers
    walk_at "go"
    have fin : ¬ (1 ≤ xs.length ∧ xs.length ≤ 3) → Q (.bl false) H := fun n => by
      have := q H (Same.refl _)
      have e : numsOk xs = false := by
        unfold numsOk
        by_cases h1 : 1 ≤ xs.length
        · rw [decide_eq_false (p := xs.length ≤ 3) (fun h2 => n ⟨h1, h2⟩), Bool.and_false]; rfl
        · rw [decide_eq_false h1]; rfl
      rw [e] at this
      exact this
    refine if_2 (fun h1 => ?_) (fun h1 => ?_)
    · walk_at "go"
      refine if_n2 (fun h2 => ?_) (fun h2 => ?_)
      · walk_at "go"
        exact fin (by omega)
      · walk_at "go"
        refine ⟨a, rfl, ⟨_, sqT ha⟩, fun D hD => lc_tup (K := K) (xs := xs) (Bs H D (xs.map numI)) (Bs.start hD) (fun i H' _ m => sqT (m.1 _ _ ha)) ?_ ?_⟩
        · rintro i v H1 hv m
          obtain ⟨T, kd⟩ := hx v (List.mem_of_getElem? hv)
          have st : ∀ b, numI v = b → ∃ acc, H1 D = some (.lst acc) ∧ acc.length < sizeLine ∧ Bs H D (xs.map numI) (i + 1) (upd H1 D (.lst (acc ++ [.bl b]))) := fun b hb => m.step (Same.refl _) (by rw [List.getElem?_map, hv, ← hb]; rfl) (by rw [List.length_map]; omega)
          walk_at "go"
          refine ⟨rfl, w_yes (if_t rfl ?_)⟩
          walk_at "go"
          refine ⟨v, T, rfl, kd.same m.1, ?_⟩
          cases kd with
          | int n =>
            walk_at "go"
            refine if_2 (fun h3 => ?_) (fun h3 => ?_)
            · walk_at "go"
              exact st _ (by
                show (decide _ && _) = _
                rw [decide_eq_true (by omega)]; rfl)
            · walk_at "go"
              exact st _ (by
                show (decide _ && _) = _
                rw [decide_eq_false (by omega)]; rfl)
          | bl n => walk_at "go"; exact st _ rfl
          | str n => walk_at "go"; exact st _ rfl
          | non => walk_at "go"; exact st _ rfl
          | lst h => walk_at "go"; exact st _ rfl
          | tup h => walk_at "go"; exact st _ rfl
          | dict h => walk_at "go"; exact st _ rfl
        · rintro H1 m
          walk_at "go"
          refine m.all (by rw [List.length_map]; exact Nat.le_refl _) fun H' s' => ?_
          have e : (xs.map numI).all id = numsOk xs := by
            unfold numsOk
            rw [decide_eq_true (by omega : 1 ≤ xs.length), decide_eq_true (by omega : xs.length ≤ 3), List.all_map]
            rfl
          rw [e]
          exact q _ s'
    · walk_at "go"
      exact fin (by omega)
  · unfold t_is_numbers
    walk_at "go"
    refine k_tuple h ?_
    cases h with
    | tup h => exact absurd rfl hT
    | int n => walk_at "go"; exact q
    | bl n => walk_at "go"; exact q
    | str n => walk_at "go"; exact q
    | non => walk_at "go"; exact q
    | lst h => walk_at "go"; exact q
    | dict h => walk_at "go"; exact q

/-! ### promises of the law of names and numbers -/
def spText : Sp := fun vs H Q _ => ∃ l, vs = [.ref l] ∧ Src H l ∧ ∀ z H', z.length ≤ 100 → Dr l H H' → Q (.str z) H'
def spLawIsName : Sp := fun vs H Q _ => ∃ z, vs = [.str z] ∧ z.length ≤ 100 ∧ ∀ H', Same H H' → Q (.bl (isNm z)) H'
def spMany : Sp := fun vs H Q _ => ∃ l, vs = [.ref l] ∧ Src H l ∧ ∀ s xs H', Dr l H H' → H' s = some (.tup xs) → Kds H' xs → xs.length ≤ 5 → Q (.ref s) H'
def spAre : Sp := fun vs H Q _ => ∃ p xs, vs = [.ref p] ∧ H p = some (.tup xs) ∧ Kds H xs ∧ xs.length ≤ 100 ∧ ∀ H', Same H H' → Q (.bl (numsOk xs)) H'
def spLaw (K : PySem.W.Frag) : Sp := fun vs H Q _ => ∃ (a : Addr) (ns : List Int), vs = [.ref a] ∧ SqL K H a (ns.map V.int) ∧ ns.length ≤ 63 ∧ ∀ H', Q (.bl true) H'

-- names: 0:_law_well_here 1:_law_small 2:_law_text_here 3:_law_at 4:_law_k
abbrev N_l_text : List Str := ["_law_well_here", "_law_small", "_law_text_here", "_law_at", "_law_k"]
def t_l_text (K : PySem.W.Frag) : TS :=
  (tSeq (tAsg (tC (.str ("abcdefghijklmnopqrstuvwxyz" : Str))) (gName 1))
    (tSeq (tAsg (tJoin K (tC (.str ("" : Str))) (tLc (iRng1 (tCons (tCall spDraw [] E0 (tCons (tVar 0) (tCons (tC (.int 10)) tNil))) tNil)) (gName 4) tYes (tOp rIxS (tVar 1) (tCall spDraw [] E0 (tCons (tVar 0) (tCons (tC (.int 26)) tNil)))) [4])) (gName 2))
    (tSeq (tIfS (tTest (tOp rEq (tCall spDraw [] E0 (tCons (tVar 0) (tCons (tC (.int 3)) tNil))) (tC (.int 0)))) (tSeq (tAsg (tCall spDraw [] E0 (tCons (tVar 0) (tCons (tOp rAddI (tCB rLenStr (tCons (tVar 2) tNil)) (tC (.int 1))) tNil))) (gName 3))
      (tAsg (tOp rAddStr (tOp rAddStr (tSl rSlS (tVar 2) tNoPart (tPart (tVar 3))) (tCall spPick [] E0 (tCons (tVar 0) (tCons (tCB rListStr (tCons (tC (.str ("AMZ0189 _-.\n{`\x40[" : Str))) tNil)) tNil)))) (tSl rSlS (tVar 2) (tPart (tVar 3)) tNoPart)) (gName 2))) tNext)
    (tRet (tVar 2)))))

-- names: 0:_law_text_here 1:_law_some 2:_law_sign
abbrev N_l_is_name : List Str := ["_law_text_here", "_law_some", "_law_sign"]
def t_l_is_name (K : PySem.W.Frag) : TS :=
  (tSeq (tAsg (tLc (iStr (tVar 0)) (gName 2) (tAnd (tTest (tOp rLeS (tC (.str ("a" : Str))) (tVar 2))) (tTest (tOp rLeS (tVar 2) (tC (.str ("z" : Str)))))) (tVar 2) [2]) (gName 1))
    (tRet (tAndV (tOp rEq (tCB (Evl.rLenS K) (tCons (tVar 1) tNil)) (tCB rLenStr (tCons (tVar 0) tNil))) (tAndV (tOp rLeI (tC (.int 1)) (tCB rLenStr (tCons (tVar 0) tNil))) (tOp rLeI (tCB rLenStr (tCons (tVar 0) tNil)) (tC (.int 8)))))))

-- names: 0:_law_well_here 1:_law_far 2:_law_found 3:_law_k 4:_law_some
abbrev N_l_many : List Str := ["_law_well_here", "_law_far", "_law_found", "_law_k", "_law_some"]
def t_l_many (K : PySem.W.Frag) : TS :=
  (tSeq (tAsg (tOp rPowI (tC (.int 10)) (tC (.int 12))) (gName 1))
    (tSeq (tAsg (tLst tNil) (gName 2))
    (tSeq (tFor (iRng1 (tCons (tCall spDraw [] E0 (tCons (tVar 0) (tCons (tC (.int 5)) tNil))) tNil)) (gName 3) (tSeq (tAsg (tLst (tCons (tC (.int 0)) (tCons (tVar 1) (tCons (tOp rSubI (tC (.int 0)) (tVar 1)) (tCons (tOp rAddI (tVar 1) (tC (.int 1))) (tCons (tOp rSubI (tOp rSubI (tC (.int 0)) (tVar 1)) (tC (.int 1))) (tCons (tOp rSubI (tCall spDraw [] E0 (tCons (tVar 0) (tCons (tC (.int 9)) tNil))) (tC (.int 4))) tNil))))))) (gName 4))
      (tSeq (tAsg (tOp rCat (tVar 4) (tLst (tCons (tOp rSubI (tCall spDraw [] E0 (tCons (tVar 0) (tCons (tOp rMulI (tC (.int 2)) (tVar 1)) tNil))) (tVar 1)) tNil))) (gName 4))
      (tDrop (tBM K "list" rAppend (tVar 2) (tCons (tOp (rIxL K) (tVar 4) (tCall spDraw [] E0 (tCons (tVar 0) (tCons (tC (.int 7)) tNil)))) tNil))))))
    (tSeq (tIfS (tAnd (tTest (tOp (rNeD K) (tVar 2) (tLst tNil))) (tTest (tOp rEq (tCall spDraw [] E0 (tCons (tVar 0) (tCons (tC (.int 3)) tNil))) (tC (.int 0))))) (tAsg (tCall spPick [] E0 (tCons (tVar 0) (tCons (tLst (tCons (tC (.bl true)) (tCons (tC (.bl false)) (tCons (tC .non) (tCons (tC (.str ("1" : Str))) (tCons (tTup (tCons (tC (.int 1)) tNil)) (tCons (tLst (tCons (tC (.int 1)) tNil)) (tCons (tC (.str ("" : Str))) tNil)))))))) tNil))) (gSub (tVar 2) (tCall spDraw [] E0 (tCons (tVar 0) (tCons (tCB (Evl.rLenS K) (tCons (tVar 2) tNil)) tNil))) rSetL)) tNext)
    (tRet (tCB (rTupOf K) (tCons (tVar 2) tNil)))))))

-- names: 0:_law_things 1:_law_one
abbrev N_l_are_numbers : List Str := ["_law_things", "_law_one"]
def t_l_are_numbers (K : PySem.W.Frag) : TS :=
  (tSeq (tIfS (tTest (tOp (rIn K true) (tCB (Evl.rLenS K) (tCons (tVar 0) tNil)) (tTup (tCons (tC (.int 1)) (tCons (tC (.int 2)) (tCons (tC (.int 3)) tNil)))))) (tRet (tC (.bl false))) tNext)
    (tSeq (tFor (iTup K (tVar 0)) (gName 1) (tIfS (tOr (tB (tCB (rIsi K) (tCons (tVar 1) (tCons (tC (.ty "bool")) tNil)))) (tOr (tNot (tB (tCB (rIsi K) (tCons (tVar 1) (tCons (tC (.ty "int")) tNil))))) (tOr (tTest (tOp rGtI (tVar 1) (tOp rPowI (tC (.int 10)) (tC (.int 12))))) (tTest (tOp rLtI (tVar 1) (tOp rSubI (tC (.int 0)) (tOp rPowI (tC (.int 10)) (tC (.int 12))))))))) (tRet (tC (.bl false))) tNext))
    (tRet (tC (.bl true)))))

-- names: 0:_law_script 1:_law_cell 2:_law_well_here 3:_law_text_here 4:_law_told 5:_law_many_here 6:_law_some 7:_law_thing
abbrev N_law : List Str := ["_law_script", "_law_cell", "_law_well_here", "_law_text_here", "_law_told", "_law_many_here", "_law_some", "_law_thing"]
def t_law (K : PySem.W.Frag) : TS :=
  (tSeq (tFor (iList K (tOp rCat (tLst (tCons (tCall (spCellAt K) [] E0 (tCons (tVar 0) (tCons (tC (.int 0)) tNil))) tNil)) (tSl (rSlL K) (tVar 0) (tPart (tC (.int 1))) (tPart (tC (.int 40)))))) (gName 1) (tSeq (tAsg (tCall spBegin [] E0 (tCons (tVar 1) tNil)) (gName 2))
      (tSeq (tAsg (tCall spText [] E0 (tCons (tVar 2) tNil)) (gName 3))
      (tSeq (tAsg (tCall spIsName [] E0 (tCons (tVar 3) tNil)) (gName 4))
      (tSeq (tIfS (tOr (tNot (tB (tCB (rIsi K) (tCons (tVar 4) (tCons (tC (.ty "bool")) tNil))))) (tOr (tTest (tOp rNe (tVar 4) (tCall spLawIsName [] E0 (tCons (tVar 3) tNil)))) (tTest (tOp rNotB (tCall spIsNumbers [] E0 (tCons (tVar 3) tNil)) (tC (.bl false)))))) (tRet (tC (.bl false))) tNext)
      (tSeq (tAsg (tCall spMany [] E0 (tCons (tVar 2) tNil)) (gName 5))
      (tSeq (tAsg (tCall spIsNumbers [] E0 (tCons (tVar 5) tNil)) (gName 4))
      (tSeq (tIfS (tOr (tNot (tB (tCB (rIsi K) (tCons (tVar 4) (tCons (tC (.ty "bool")) tNil))))) (tTest (tOp rNe (tVar 4) (tCall spAre [] E0 (tCons (tVar 5) tNil))))) (tRet (tC (.bl false))) tNext)
      (tSeq (tAsg (tLst (tCons (tCB (Evl.rListS K) (tCons (tVar 5) tNil)) (tCons (tC .non) (tCons (tC (.bl true)) (tCons (tC (.bl false)) (tCons (tC (.int 0)) (tCons (tC (.int 7)) (tCons (tTup tNil) (tCons (tLst tNil) (tCons tDNewK (tCons (tTup (tCons (tC (.str ("a" : Str))) tNil)) (tCons (tLst (tCons (tC (.str ("a" : Str))) tNil)) (tCons (tTup (tCons (tVar 3) tNil)) tNil))))))))))))) (gName 6))
      (tFor (iList K (tOp rCat (tVar 6) (tLst (tCons (tDisp (((tVar 3), (tC (.int 1))) :: [])) (tCons (tTup (tCons (tTup (tCons (tC (.int 0)) tNil)) tNil)) tNil))))) (gName 7) (tIfS (tOr (tTest (tOp rNotB (tCall spIsName [] E0 (tCons (tVar 7) tNil)) (tC (.bl false)))) (tTest (tOp rNotB (tCall spIsNumbers [] E0 (tCons (tVar 7) tNil)) (tC (.bl false))))) (tRet (tC (.bl false))) tNext)))))))))))
    (tRet (tAndV (tOp rIsB (tCall spIsName [] E0 (tCons (tC (.str ("abcdefgh" : Str))) tNil)) (tC (.bl true))) (tAndV (tOp rIsB (tCall spIsName [] E0 (tCons (tC (.str ("abcdefghi" : Str))) tNil)) (tC (.bl false))) (tOp rIsB (tCall spIsName [] E0 (tCons (tC (.str ("" : Str))) tNil)) (tC (.bl false)))))))

theorem p_l_text_len {vs : List V} {H : Hp} {Q : VK} {E : XK} (h : spText vs H Q E) : vs.length = 1 := by
  obtain ⟨v, rfl, _⟩ := h; rfl
theorem p_l_is_name_len {vs : List V} {H : Hp} {Q : VK} {E : XK} (h : spLawIsName vs H Q E) : vs.length = 1 := by
  obtain ⟨v, rfl, _⟩ := h; rfl
theorem p_l_many_len {vs : List V} {H : Hp} {Q : VK} {E : XK} (h : spMany vs H Q E) : vs.length = 1 := by
  obtain ⟨v, rfl, _⟩ := h; rfl
theorem p_l_are_numbers_len {vs : List V} {H : Hp} {Q : VK} {E : XK} (h : spAre vs H Q E) : vs.length = 1 := by
  obtain ⟨v, xs, rfl, _⟩ := h; rfl
theorem p_law_len {K : PySem.W.Frag} {vs : List V} {H : Hp} {Q : VK} {E : XK} (h : spLaw K vs H Q E) : vs.length = 1 := by
  obtain ⟨a, b, rfl, _⟩ := h; rfl
theorem letter_at {d : Int} (h0 : 0 ≤ d) (h1 : d < 26) : ∃ c, atI (("abcdefghijklmnopqrstuvwxyz" : Str)).cps.toList d = some c ∧ 97 ≤ c ∧ c ≤ 122 := by
  obtain ⟨n, rfl⟩ := Int.eq_ofNat_of_zero_le h0
  refine ⟨97 + n, atI_nat ?_, by omega, by omega⟩
  rw [letters_eq, List.getElem?_range' (by omega)]
  simp
theorem cut_len (z : Str) (lo hi : Option Int) : (cutS z lo hi).length ≤ z.length := by
  unfold cutS Str.length
  simp
  omega
theorem sz100 {n : Nat} (h : n ≤ 1000) : n ≤ sizeLine := Nat.le_trans h (by decide)
theorem p_l_text {K : PySem.W.Frag} {vs : List V} {H : Hp} {Q : VK} {E : XK} (h : spText vs H Q E) : t_l_text K { nx := fun _ H' => Q .non H', rt := Q } (start N_l_text vs) H := by
  obtain ⟨l, rfl, hs, q⟩ := h
  unfold t_l_text
  walk_at "go"
  refine w_join (w_con (w_strE ?_))
  walk_at "go"
  refine ⟨l, 10, rfl, hs, by decide, by decide, fun d H1 d0 d1 k1 => ?_⟩
  walk_at "go"
  refine ⟨_, rfl, by omega, by omega, fun D hD => ?_⟩
  refine lc_range (lo := 0) (n := d.toNat) (Dl l D H1 fun x => ∃ c, x = one1 c ∧ True) (Dl.start k1.src hD) ?_ ?_
  · rintro i H2 hi m
    walk_at "go"
    refine ⟨rfl, w_yes (if_t rfl ?_)⟩
    walk_at "go"
    refine ⟨l, 26, rfl, m.1.src, by decide, by decide, fun e H3 e0 e1 k3 => ?_⟩
    obtain ⟨c, hc, _⟩ := letter_at e0 e1
    refine w_ixS (by decide +kernel) hc ?_
    exact m.put k3 ⟨c, rfl, trivial⟩ (by omega)
  · rintro H2 ⟨k2, _, nDl, xs, hx, lx, px⟩
    obtain ⟨cs, rfl, _⟩ := signs_of px
    have lc : cs.length ≤ 9 := by
      rw [List.length_map, List.length_map] at lx
      omega
    refine ⟨("" : Str), D, cs.map sg1, rfl, rfl, .inl (SqL.of hx), by
      rw [signs_sum, List.length_map]
      show cs.length + cs.length * 0 ≤ 16777216
      omega, ?_⟩
    rw [join_signs]
    have lz : (⟨cs.toArray⟩ : Str).length ≤ 9 := by
      show cs.toArray.size ≤ 9
      simpa using lc
    generalize (⟨cs.toArray⟩ : Str) = z at *
    have k12 := k1.trans k2
    walk_at "go"
    refine ⟨l, 3, rfl, k2.src, by decide, by decide, fun e H3 e0 e1 k3 => ?_⟩
    have k13 := k12.trans k3
    walk_at "go"
    refine if_2 (fun h => ?_) (fun h => ?_)
    · walk_at "go"
      refine w_lenStr (sz100 (by omega)) ?_
      walk_at "go"
      refine ⟨l, _, rfl, k3.src, by omega, Nat.lt_of_le_of_lt (by omega : _ ≤ 100) (by decide), fun f H4 f0 f1 k4 => ?_⟩
      have k14 := k13.trans k4
      walk_at "go"
      refine w_slS (sz100 (by omega)) ?_
      walk_at "go"
      refine w_listStr (by decide +kernel) fun p hp => ?_
      walk_at "go"
      have hne := k14.src.ne_new hp
      refine ⟨l, p, _, rfl, (k14.new hp).src, upd_same, hne, by decide +kernel, by decide +kernel, fun v H5 hv k5 => ?_⟩
      obtain ⟨c, _, rfl⟩ := List.mem_map.mp hv
      have c1 := cut_len z none (some f)
      have c2 := cut_len z (some f) none
      have l1 : Str.length { cps := #[c] } = 1 := rfl
      refine w_addStr (sz100 (by omega)) ?_
      walk_at "go"
      refine w_slS (sz100 (by omega)) ?_
      refine w_addStr (sz100 (by rw [Str.length_append]; omega)) ?_
      walk_at "go"
      exact q _ _ (by rw [Str.length_append, Str.length_append]; omega) ((k14.new hp).trans k5)
    · walk_at "go"
      exact q _ _ (by omega) k13
theorem lt_one (c d : Nat) : decide ((sg1 c).cps.toList < (sg1 d).cps.toList) = decide (c < d) := by
  refine decide_eq_decide.mpr ?_
  show [c] < [d] ↔ c < d
  simp [List.cons_lt_cons_iff]
/-- signs of a text kept by a test, in a list at D -/
theorem p_l_is_name {K : PySem.W.Frag} {vs : List V} {H : Hp} {Q : VK} {E : XK} (h : spLawIsName vs H Q E) : t_l_is_name K { nx := fun _ H' => Q .non H', rt := Q } (start N_l_is_name vs) H := by
  obtain ⟨z, rfl, hz, q⟩ := h
  unfold t_l_is_name
  walk_at "go"
  refine w_iS ?_
  walk_at "go"
  refine w_iSE fun D hD => lc_it walk_str (fun i H' => Same H H' ∧ H' D = some (.lst (((z.cps.toList.take i).filter smallC).map one1))) ⟨same_new hD, upd_same⟩ (fun _ _ _ _ => trivial) ?_ ?_
  · rintro i x H1 H2 hi ⟨s1, h1⟩ ⟨rfl, c, hc, rfl⟩
    have hc' : z.cps.toList[i]? = some c := by rw [Array.getElem?_toList]; exact hc
    have stay : smallC c = false → Same H H2 ∧ H2 D = some (.lst (((z.cps.toList.take (i + 1)).filter smallC).map one1)) := fun e => by
      refine ⟨s1, ?_⟩
      rw [List.take_add_one, hc', List.filter_append]
      show H2 D = some (.lst ((_ ++ List.filter smallC [c]).map one1))
      rw [List.filter_cons_of_neg (by rw [e]; exact Bool.false_ne_true), List.filter_nil, List.append_nil]
      exact h1
    have ea : decide ((sg1 c).cps.toList < (("a" : Str)).cps.toList) = decide (c < 97) := lt_one c 97
    have ez : decide ((("z" : Str)).cps.toList < (sg1 c).cps.toList) = decide (122 < c) := lt_one 122 c
    walk_at "go"
    refine ⟨rfl, ?_⟩
    walk_at "go"
    refine w_leS ?_
    rw [ea]
    walk_at "go"
    refine if_n2 (fun h2 => ?_) (fun h2 => ?_)
    · walk_at "go"
      refine w_leS ?_
      rw [ez]
      walk_at "go"
      refine if_n2 (fun h3 => ?_) (fun h3 => ?_)
      · walk_at "go"
        have e : smallC c = true := by
          unfold smallC
          rw [decide_eq_true (by omega), decide_eq_true (by omega)]; rfl
        refine ⟨_, h1, ?_, ?_, ?_⟩
        · rw [List.length_map]
          refine small1000 (Nat.le_trans (List.length_filter_le _ _) ?_)
          rw [List.length_take]
          have : z.cps.toList.length ≤ 100 := by rw [Array.length_toList]; exact hz
          omega
        · intro b o e
          rw [upd_ne (ne_of_none e hD)]
          exact s1 _ _ e
        · rw [upd_same, List.take_add_one, hc', List.filter_append, List.map_append]
          show _ = some (HO.lst (_ ++ (List.filter smallC [c]).map one1))
          rw [List.filter_cons_of_pos e]; rfl
      · walk_at "go"
        exact stay (by
          unfold smallC
          rw [decide_eq_false (p := c ≤ 122) (by omega), Bool.and_false])
    · walk_at "go"
      exact stay (by
        unfold smallC
        rw [decide_eq_false (p := 97 ≤ c) (by omega)]; rfl)
  · rintro H1 ⟨s1, h1⟩
    have le : z.cps.toList.take z.cps.size = z.cps.toList := List.take_of_length_le (by rw [Array.length_toList]; exact Nat.le_refl _)
    rw [le] at h1
    have lt : z.cps.toList.length = z.length := Array.length_toList
    have hfin := q _ s1
    unfold isNm at hfin
    walk_at "go"
    refine w_lenStr (sz100 (by omega)) ?_
    walk_at "go"
    rw [List.length_map]
    refine if_2 (fun h2 => ?_) (fun h2 => ?_)
    · have h3 : (z.cps.toList.filter smallC).length = z.cps.toList.length := by
        have := V.int.inj h2
        omega
      have h4 : z.cps.toList.all smallC = true := by
        rw [List.all_eq_true]
        exact List.length_filter_eq_length_iff.mp h3
      rw [h4, Bool.and_true] at hfin
      walk_at "go"
      refine w_lenStr (sz100 (by omega)) ?_
      walk_at "go"
      refine if_2 (fun h5 => ?_) (fun h5 => ?_)
      · rw [decide_eq_true (by omega), Bool.true_and] at hfin
        walk_at "go"
        refine w_lenStr (sz100 (by omega)) ?_
        walk_at "go"
        have e8 : decide ((z.length : Int) ≤ 8) = decide (z.length ≤ 8) := decide_eq_decide.mpr (by omega)
        rw [e8]
        exact hfin
      · rw [decide_eq_false (by omega)] at hfin
        walk_at "go"
        exact hfin
    · have h4 : z.cps.toList.all smallC = false := by
        cases h5 : z.cps.toList.all smallC with
        | false => rfl
        | true =>
          rw [List.all_eq_true] at h5
          have := List.length_filter_eq_length_iff.mpr h5
          exact absurd (by rw [this, lt]) h2
      rw [h4, Bool.and_false] at hfin
      walk_at "go"
      exact hfin
theorem p_l_are_numbers {K : PySem.W.Frag} {vs : List V} {H : Hp} {Q : VK} {E : XK} (h : spAre vs H Q E) : t_l_are_numbers K { nx := fun _ H' => Q .non H', rt := Q } (start N_l_are_numbers vs) H := by
  obtain ⟨p, xs, rfl, hp, hx, hl, q⟩ := h
  unfold t_l_are_numbers
  walk_at "go"
  refine ⟨by show 3 ≤ sizeLine; decide, fun t ht => ?_⟩
  have ein : inV (.int (xs.length : Int)) [.int 1, .int 2, .int 3] = (decide (1 ≤ xs.length) && decide (xs.length ≤ 3)) := by
    rcases (by omega : xs.length = 0 ∨ xs.length = 1 ∨ xs.length = 2 ∨ xs.length = 3 ∨ 4 ≤ xs.length) with h | h | h | h | h
    · rw [h]; rfl
    · rw [h]; rfl
    · rw [h]; rfl
    · rw [h]; rfl
    · rw [decide_eq_false (p := xs.length ≤ 3) (by omega), Bool.and_false]
      show (decide ((1 : Int) = (xs.length : Int)) || (decide ((2 : Int) = (xs.length : Int)) || (decide ((3 : Int) = (xs.length : Int)) || false))) = false
      rw [decide_eq_false (by omega), decide_eq_false (by omega), decide_eq_false (by omega)]; rfl
  refine w_in (.inr (sqT upd_same)) rfl rfl ?_
  rw [ein]
  have hp1 := keep (u := .tup [.int 1, .int 2, .int 3]) hp ht
  have s1 := same_new (u := .tup [.int 1, .int 2, .int 3]) ht
  have hx1 := hx.same s1
  generalize upd H t (.tup [.int 1, .int 2, .int 3]) = H1 at *
  have hfin := q H1 s1
  unfold numsOk at hfin
  cases hd : (decide (1 ≤ xs.length) && decide (xs.length ≤ 3)) with
  | false =>
    rw [hd] at hfin
    walk_at "go"
    exact hfin
  | true =>
    rw [hd, Bool.true_and] at hfin
    walk_at "go"
    refine ⟨p, rfl, ⟨_, sqT hp1⟩, for_tup (K := K) (xs := xs) (fun i σ H' => ∃ y, σ = [some (.ref p), y] ∧ H' = H1 ∧ (xs.take i).all numI = true) ⟨none, rfl, rfl, rfl⟩ (fun i σ H' _ m => by obtain ⟨y, _, e, _⟩ := m; rw [e]; exact sqT hp1) ?_ ?_⟩
    · rintro i v σ H' hv ⟨y, rfl, rfl, ha⟩
      obtain ⟨T, kd⟩ := hx1 v (List.mem_of_getElem? hv)
      have bad : numI v = false → Q (.bl false) H' := fun e => by
        have : xs.all numI = false := by
          rw [List.all_eq_false]
          exact ⟨v, List.mem_of_getElem? hv, by rw [e]; exact Bool.false_ne_true⟩
        rw [this] at hfin
        exact hfin
      have good : numI v = true → ((xs.take (i + 1)).all numI) = true := fun e => by
        rw [List.take_add_one, hv, List.all_append, ha]
        show (true && (numI v && true)) = true
        rw [e]; rfl
      walk_at "go"
      cases kd with
      | int n =>
        walk_at "go"
        have e12 : (10 : Int) ^ (12 : Int).toNat = 1000000000000 := by decide
        rw [e12]
        refine if_2 (fun h => ?_) (fun h => ?_)
        · walk_at "go"
          exact bad (by
            show (decide _ && decide _) = _
            rw [decide_eq_false (p := n ≤ 1000000000000) (by omega), Bool.and_false])
        · walk_at "go"
          rw [e12]
          refine if_2 (fun h2 => ?_) (fun h2 => ?_)
          · walk_at "go"
            exact bad (by
              show (decide _ && decide _) = _
              rw [decide_eq_false (p := -1000000000000 ≤ n) (by omega)]; rfl)
          · walk_at "go"
            exact ⟨_, rfl, rfl, good (by
              show (decide _ && decide _) = _
              rw [decide_eq_true (p := -1000000000000 ≤ n) (by omega), decide_eq_true (p := n ≤ 1000000000000) (by omega)]; rfl)⟩
      | bl n => walk_at "go"; exact bad rfl
      | str n => walk_at "go"; exact bad rfl
      | non => walk_at "go"; exact bad rfl
      | lst h => walk_at "go"; exact bad rfl
      | tup h => walk_at "go"; exact bad rfl
      | dict h => walk_at "go"; exact bad rfl
    · rintro σ H' ⟨y, rfl, rfl, ha⟩
      rw [List.take_of_length_le (Nat.le_refl _)] at ha
      rw [ha] at hfin
      walk_at "go"
      exact hfin
theorem dp_ints {K : PySem.W.Frag} {H : Hp} : ∀ {xs : List V}, (∀ x ∈ xs, ∃ n, x = V.int n) → ∃ ds, DpAll K H xs ds ∧ PyData.canLayAll0 ds = true ∧ PyData.depthAll ds ≤ 1 ∧ ds.length = xs.length
  | [], _ => ⟨[], .nil, rfl, Nat.zero_le _, rfl⟩
  | x :: xs, h => by
    obtain ⟨n, rfl⟩ := h x (.head _)
    obtain ⟨ds, a, b, c, d⟩ := dp_ints (K := K) (H := H) (xs := xs) fun y hy => h y (.tail _ hy)
    refine ⟨.int n :: ds, .cons (.int n) a, ?_, ?_, by rw [List.length_cons, d]; rfl⟩
    · show ((PyData.int n).canLay0 && PyData.canLayAll0 ds) = true
      rw [b]; rfl
    · show max (PyData.int n).depth (PyData.depthAll ds) ≤ 1
      exact Nat.max_le.mpr ⟨Nat.le_of_ble_eq_true rfl, c⟩
theorem p_l_many {K : PySem.W.Frag} {vs : List V} {H : Hp} {Q : VK} {E : XK} (h : spMany vs H Q E) : t_l_many K { nx := fun _ H' => Q .non H', rt := Q } (start N_l_many vs) H := by
  obtain ⟨l, rfl, hs, q⟩ := h
  have e12 : (10 : Int) ^ (12 : Int).toNat = 1000000000000 := by decide
  unfold t_l_many
  walk_at "go"
  rw [e12]
  refine ⟨by show 0 ≤ sizeLine; decide, fun D hD => ?_⟩
  have dl := Dl.start (P := fun x => ∃ n, x = V.int n) hs hD
  walk_at "go"
  refine ⟨l, 5, rfl, dl.1.src, by decide, by decide, fun d H1 d0 d1 k1 => ?_⟩
  walk_at "go"
  have dl1 : Dl l D H (fun x => ∃ n, x = V.int n) 0 H1 := by
    obtain ⟨a1, a2, a3, xs, a4, a5, a6⟩ := dl
    exact ⟨a1.trans k1, a2, a3, xs, k1.keep _ _ a3 a4, a5, a6⟩
  refine ⟨_, rfl, by omega, by omega, for_range (lo := 0) (n := d.toNat) (fun i σ H' => ∃ y3 y4, σ = [some (.ref l), some (.int 1000000000000), some (.ref D), y3, y4] ∧ Dl l D H (fun x => ∃ n, x = V.int n) i H') ⟨_, _, rfl, dl1⟩ ?_ ?_⟩
  · rintro i σ H2 hi ⟨y3, y4, rfl, m⟩
    walk_at "go"
    refine ⟨l, 9, rfl, m.1.src, by decide, by decide, fun e H3 e0 e1 k3 => ?_⟩
    walk_at "go"
    refine ⟨by show 6 ≤ sizeLine; decide, fun A hA => ?_⟩
    have nA := k3.src.ne_new hA
    have k4 := k3.new (o := .lst [.int 0, .int 1000000000000, .int (0 - 1000000000000), .int (1000000000000 + 1), .int (0 - 1000000000000 - 1), .int (e - 4)]) hA
    walk_at "go"
    refine ⟨l, _, rfl, k4.src, by decide, by decide, fun f H5 f0 f1 k5 => ?_⟩
    have hA5 := k5.keep _ _ nA upd_same
    walk_at "go"
    refine ⟨by show 1 ≤ sizeLine; decide, fun B hB => ?_⟩
    refine w_cat (keep hA5 hB) upd_same (by show 7 ≤ sizeLine; decide) fun C hC => ?_
    have k6 := ((k4.trans k5).new (o := .lst [.int (f - 1000000000000)]) hB)
    have nC := k6.src.ne_new hC
    have k7 := k6.new (o := .lst ([.int 0, .int 1000000000000, .int (0 - 1000000000000), .int (1000000000000 + 1), .int (0 - 1000000000000 - 1), .int (e - 4)] ++ [.int (f - 1000000000000)])) hC
    obtain ⟨_, hD0, nDl, xs, hx, lx, px⟩ := id m
    have hD7 := k7.keep _ _ nDl hx
    walk_at "go"
    refine ⟨l, 7, rfl, k7.src, by decide, by decide, fun g H8 g0 g1 k8 => ?_⟩
    have hC8 := k8.keep _ _ nC upd_same
    obtain ⟨r, hr⟩ : ∃ r : Int, atI ([V.int 0, .int 1000000000000, .int (0 - 1000000000000), .int (1000000000000 + 1), .int (0 - 1000000000000 - 1), .int (e - 4)] ++ [.int (f - 1000000000000)]) g = some (.int r) := by
      rcases (by omega : g = 0 ∨ g = 1 ∨ g = 2 ∨ g = 3 ∨ g = 4 ∨ g = 5 ∨ g = 6) with h | h | h | h | h | h | h <;> subst h <;> exact ⟨_, rfl⟩
    refine w_ixL (sqL hC8) hr ?_
    walk_at "go"
    obtain ⟨acc, g1, g2, g3⟩ := m.put (k7.trans k8) ⟨r, rfl⟩ (by omega)
    refine w_append g1 g2 ?_
    exact ⟨_, _, rfl, g3⟩
  · rintro σ H2 ⟨y3, y4, rfl, m⟩
    obtain ⟨k2, _, nDl, xs, hx, lx, px⟩ := m
    have kx : ∀ H' : Hp, Kds H' xs := fun H' x hm => by
      obtain ⟨n, rfl⟩ := px x hm
      exact ⟨_, .int n⟩
    walk_at "go"
    refine ⟨by show 0 ≤ sizeLine; decide, fun N0 hN => ?_⟩
    have hx1 := keep (u := .lst []) hx hN
    have k3 := k2.new (o := .lst []) hN
    cases xs with
    | nil =>
      refine w_neD_same (dpN hx1) (dpN upd_same) rfl ?_
      walk_at "go"
      refine w_tupOfL (sqL hx1) fun s hs => ?_
      exact q s [] _ (k3.new hs) upd_same (fun x hx => by cases hx) (by decide)
    | cons x xs =>
      obtain ⟨ds, e1, e2, e3, e4⟩ := dp_ints (K := K) (H := upd H2 N0 (.lst [])) px
      cases ds with
      | nil => cases e4
      | cons d0 ds =>
      refine w_neD (Dp.lst (SqL.of hx1) e1) (dpN upd_same) ?_ rfl ?_
      · unfold SeqAt.shaped
        have h1 : (PyData.list (d0 :: ds)).canLay0 = true := e2
        have h2 : (PyData.list (d0 :: ds)).depth ≤ 64 := by
          show PyData.depthAll (d0 :: ds) + 1 ≤ 64
          omega
        rw [h1, decide_eq_true h2]; rfl
      have ef : PyData.eqv (.list (d0 :: ds)) (.list []) = false := rfl
      rw [ef]
      generalize upd H2 N0 (.lst []) = H3 at *
      walk_at "go"
      refine ⟨l, 3, rfl, k3.src, by decide, by decide, fun e H4 e0 e1 k4 => ?_⟩
      have hx4 := k4.keep _ _ nDl hx1
      have k14 := k3.trans k4
      walk_at "go"
      refine if_2 (fun h => ?_) (fun h => ?_)
      · walk_at "go"
        refine ⟨by show 1 ≤ sizeLine; decide, fun T1 hT1 => ?_⟩
        walk_at "go"
        refine ⟨by show 1 ≤ sizeLine; decide, fun T2 hT2 => ?_⟩
        walk_at "go"
        refine ⟨by show 7 ≤ sizeLine; decide, fun A hA => ?_⟩
        have k15 := (k14.new (o := .tup [.int 1]) hT1).new (o := .lst [.int 1]) hT2
        have nA := k15.src.ne_new hA
        have k16 := k15.new (o := .lst [.bl true, .bl false, .non, .str ("1" : Str), .ref T1, .ref T2, .str ("" : Str)]) hA
        have a1 : Kd (upd (upd (upd H4 T1 (.tup [.int 1])) T2 (.lst [.int 1])) A (.lst [.bl true, .bl false, .non, .str ("1" : Str), .ref T1, .ref T2, .str ("" : Str)])) (.ref T1) "tuple" := .tup (keep (keep upd_same hT2) hA)
        have a2 : Kd (upd (upd (upd H4 T1 (.tup [.int 1])) T2 (.lst [.int 1])) A (.lst [.bl true, .bl false, .non, .str ("1" : Str), .ref T1, .ref T2, .str ("" : Str)])) (.ref T2) "list" := .lst (keep upd_same hA)
        have hA6 : (upd (upd (upd H4 T1 (.tup [.int 1])) T2 (.lst [.int 1])) A (.lst [.bl true, .bl false, .non, .str ("1" : Str), .ref T1, .ref T2, .str ("" : Str)])) A = _ := upd_same
        have hx6 := keep (u := .lst [.bl true, .bl false, .non, .str ("1" : Str), .ref T1, .ref T2, .str ("" : Str)]) (keep (u := .lst [.int 1]) (keep (u := .tup [.int 1]) hx4 hT1) hT2) hA
        clear hA hT2 hT1
        generalize (upd (upd (upd H4 T1 (.tup [.int 1])) T2 (.lst [.int 1])) A (.lst [.bl true, .bl false, .non, .str ("1" : Str), .ref T1, .ref T2, .str ("" : Str)])) = H6 at *
        walk_at "go"
        refine ⟨l, A, _, rfl, k16.src, hA6, nA, (by intro z; cases z), by show 7 ≤ 1000; decide, fun v H7 hv k7 => ?_⟩
        have kv : ∃ T, Kd H7 v T := by
          rcases List.mem_cons.mp hv with rfl | hv
          · exact ⟨_, .bl _⟩
          rcases List.mem_cons.mp hv with rfl | hv
          · exact ⟨_, .bl _⟩
          rcases List.mem_cons.mp hv with rfl | hv
          · exact ⟨_, .non⟩
          rcases List.mem_cons.mp hv with rfl | hv
          · exact ⟨_, .str _⟩
          rcases List.mem_cons.mp hv with rfl | hv
          · exact ⟨_, a1.dr k7⟩
          rcases List.mem_cons.mp hv with rfl | hv
          · exact ⟨_, a2.dr k7⟩
          rcases List.mem_cons.mp hv with rfl | hv
          · exact ⟨_, .str _⟩
          cases hv
        have hx7 := k7.keep _ _ nDl hx6
        walk_at "go"
        refine ⟨l, _, rfl, k7.src, by rw [List.length_cons]; omega, Nat.lt_of_le_of_lt (by rw [Int.natAbs_natCast]; omega : _ ≤ 100) (by decide), fun g H8 g0 g1 k8 => ?_⟩
        obtain ⟨gn, rfl⟩ := Int.eq_ofNat_of_zero_le g0
        have hx8 := k8.keep _ _ nDl hx7
        have k18 := (k16.trans k7).trans k8
        refine w_setL hx8 (j := gn) (Evl.ixN_nat (by omega)) ?_
        walk_at "go"
        refine w_tupOfL (sqL upd_same) fun s hs => ?_
        have kk : Dr l H (upd H8 D (.lst ((x :: xs).set gn v))) := ⟨fun b o nb e => by
          rw [upd_ne (ne_of_none e hD)]
          exact k18.keep b o nb e, k18.src0, by
          obtain ⟨x, y, z, h⟩ := k18.src
          exact ⟨x, y, z, by rw [upd_ne nDl.symm]; exact h⟩⟩
        refine q s _ _ (kk.new hs) upd_same (fun y hy => ?_) (by rw [List.length_set]; omega)
        rcases List.mem_or_eq_of_mem_set hy with h | h
        · exact kx _ y h
        · rw [h]
          obtain ⟨T, kd⟩ := kv
          have kd8 := kd.dr k8
          refine ⟨T, ?_⟩
          have : Kd (upd H8 D (.lst ((x :: xs).set gn v))) v T := by
            cases kd8 with
            | int n => exact .int n
            | bl b => exact .bl b
            | str z => exact .str z
            | non => exact .non
            | @lst a ys h2 =>
              by_cases e : a = D
              · rw [e]; exact .lst upd_same
              · exact .lst (by rw [upd_ne e]; exact h2)
            | tup h2 => exact .tup (by rw [upd_ne (ne_of h2 hx8 (by intro z; cases z))]; exact h2)
            | dict h2 => exact .dict (by rw [upd_ne (ne_of h2 hx8 (by intro z; cases z))]; exact h2)
          exact this.same (same_new hs)
      · walk_at "go"
        refine w_tupOfL (sqL hx4) fun s hs => ?_
        exact q s _ _ (k14.new hs) upd_same (kx _) (by omega)

/-- a thing that is neither a name nor numbers -/
inductive Odd (H : Hp) : V → Prop
  | k {v : V} {T : String} (h : Kd H v T) (h1 : T ≠ "tuple") (h2 : T ≠ "str") : Odd H v
  | t {a : Addr} {xs : List V} (h : H a = some (.tup xs)) (hx : Kds H xs) (hn : numsOk xs = false) : Odd H (.ref a)
theorem Odd.same {H H' : Hp} {v : V} (o : Odd H v) (s : Same H H') : Odd H' v := by
  cases o with
  | k h h1 h2 => exact .k (h.same s) h1 h2
  | t h hx hn => exact .t (s _ _ h) (hx.same s) hn
theorem Odd.name {H : Hp} {v : V} {Q : VK} (o : Odd H v) (q : ∀ H', Same H H' → Q (.bl false) H') : spIsName [v] H Q E0 := by
  cases o with
  | @k _ T h h1 h2 =>
    have e : nmV v = false := by cases h <;> first | rfl | exact absurd rfl h2
    exact ⟨v, T, rfl, h, fun z hz => by subst hz; cases h; exact absurd rfl h2, fun H' s => by rw [e]; exact q H' s⟩
  | @t a xs h hx hn => exact ⟨_, "tuple", rfl, .tup h, fun z hz => (by cases hz), q⟩
theorem Odd.nums {H : Hp} {v : V} {Q : VK} (o : Odd H v) (q : ∀ H', Same H H' → Q (.bl false) H') : spIsNumbers [v] H Q E0 := by
  cases o with
  | @k _ T h h1 h2 => exact ⟨v, rfl, .inr ⟨T, h, h1, q _ (Same.refl _)⟩⟩
  | @t a xs h hx hn => exact ⟨_, rfl, .inl ⟨a, xs, rfl, h, hx, fun H' s => by rw [hn]; exact q H' s⟩⟩
theorem kds1 {H : Hp} {v : V} {T : String} (h : Kd H v T) : Kds H [v] := fun x hx => by
  rw [List.mem_singleton.mp hx]; exact ⟨T, h⟩
theorem p_law {K : PySem.W.Frag} {vs : List V} {H : Hp} {Q : VK} {E : XK} (h : spLaw K vs H Q E) : t_law K { nx := fun _ H' => Q .non H', rt := Q } (start N_law vs) H := by
  obtain ⟨a, ns, rfl, hS, hlen, q⟩ := h
  unfold t_law
  refine w_seq (w_cells (fun σ => ∃ y1 y2 y3 y4 y5 y6 y7, σ = [some (.ref a), y1, y2, y3, y4, y5, y6, y7]) ⟨none, none, none, none, none, none, none, rfl⟩ rfl hS hlen ?_ ?_)
  · rintro z σ H1 N ⟨y1, y2, y3, y4, y5, y6, y7, rfl⟩ _ hN
    walk_at "go"
    refine ⟨z, rfl, fun l H2 hl s2 src => ?_⟩
    walk_at "go"
    refine ⟨l, rfl, src, fun tx H3 hz d3 => ?_⟩
    walk_at "go"
    refine ⟨.str tx, "str", rfl, .str tx, fun z e => by cases e; omega, fun H4 s4 => ?_⟩
    have d4 := d3.trans (Dr.same d3.src s4)
    walk_at "go"
    refine ⟨tx, rfl, hz, fun H5 s5 => ?_⟩
    have d5 := d4.trans (Dr.same d4.src s5)
    refine w_ne rfl ?_
    have e1 : (!decide (V.bl (nmV (.str tx)) = V.bl (isNm tx))) = false := by
      show (!decide (V.bl (isNm tx) = V.bl (isNm tx))) = false
      rw [decide_eq_true rfl]; rfl
    rw [e1]
    walk_at "go"
    refine ⟨.str tx, rfl, .inr ⟨"str", .str tx, by decide, ?_⟩⟩
    walk_at "go"
    refine ⟨l, rfl, d5.src, fun pm xs H6 d6 hm kx lx => ?_⟩
    have d6 := d5.trans d6
    walk_at "go"
    refine ⟨.ref pm, rfl, .inl ⟨pm, xs, rfl, hm, kx, fun H7 s7 => ?_⟩⟩
    have d7 := d6.trans (Dr.same d6.src s7)
    have hm7 := s7 _ _ hm
    have kx7 := kx.same s7
    walk_at "go"
    refine ⟨pm, xs, rfl, hm7, kx7, by omega, fun H8 s8 => ?_⟩
    have d8 := d7.trans (Dr.same d7.src s8)
    have hm8 := s8 _ _ hm7
    have kx8 := kx7.same s8
    refine w_ne rfl ?_
    have e2 : (!decide (V.bl (numsOk xs) = V.bl (numsOk xs))) = false := by
      rw [decide_eq_true rfl]; rfl
    rw [e2]
    walk_at "go"
    -- the list of odd things
    refine w_listT (sqT hm8) fun A1 h1 => ?_
    walk_at "go"
    refine ⟨by show 0 ≤ sizeLine; decide, fun A2 h2 => ?_⟩
    walk_at "go"
    refine ⟨by show 0 ≤ sizeLine; decide, fun A3 h3 => ?_⟩
    refine w_cons (w_dnew fun A4 h4 => ?_)
    walk_at "go"
    refine ⟨by show 1 ≤ sizeLine; decide, fun A5 h5 => ?_⟩
    walk_at "go"
    refine ⟨by show 1 ≤ sizeLine; decide, fun A6 h6 => ?_⟩
    walk_at "go"
    refine ⟨by show 1 ≤ sizeLine; decide, fun A7 h7 => ?_⟩
    walk_at "go"
    refine ⟨by show 12 ≤ sizeLine; decide, fun A8 h8 => ?_⟩
    obtain ⟨H9, e9⟩ : ∃ H9, H9 = upd (upd (upd (upd (upd (upd (upd H8 A1 (.lst xs)) A2 (.tup [])) A3 (.lst [])) A4 (.dK [])) A5 (.tup [.str ("a" : Str)])) A6 (.lst [.str ("a" : Str)])) A7 (.tup [.str tx]) := ⟨_, rfl⟩
    have s9 : Same H8 H9 := by rw [e9]; exact same_in (same_in (same_in (same_in (same_in (same_in (same_new h1) h2) h3) h4) h5) h6) h7
    have o1 : Odd H9 (.ref A1) := .k (T := "list") (.lst (xs := xs) (by rw [e9]; exact keep (keep (keep (keep (keep (keep upd_same h2) h3) h4) h5) h6) h7)) (by decide) (by decide)
    have o2 : Odd H9 (.ref A2) := .t (xs := []) (by rw [e9]; exact keep (keep (keep (keep (keep upd_same h3) h4) h5) h6) h7) (fun x hx => by cases hx) rfl
    have o3 : Odd H9 (.ref A3) := .k (T := "list") (.lst (xs := []) (by rw [e9]; exact keep (keep (keep (keep upd_same h4) h5) h6) h7)) (by decide) (by decide)
    have o4 : Odd H9 (.ref A4) := .k (T := "dict") (.dict (kvs := []) (by rw [e9]; exact keep (keep (keep upd_same h5) h6) h7)) (by decide) (by decide)
    have o5 : Odd H9 (.ref A5) := .t (xs := [.str ("a" : Str)]) (by rw [e9]; exact keep (keep upd_same h6) h7) (kds1 (.str _)) rfl
    have o6 : Odd H9 (.ref A6) := .k (T := "list") (.lst (xs := [.str ("a" : Str)]) (by rw [e9]; exact keep upd_same h7)) (by decide) (by decide)
    have o7 : Odd H9 (.ref A7) := .t (xs := [.str tx]) (by rw [e9]; exact upd_same) (kds1 (.str _)) rfl
    rw [← e9] at h8 ⊢
    clear e9 h1 h2 h3 h4 h5 h6 h7
    have s10 : Same H9 (upd H9 A8 (.lst [.ref A1, .non, .bl true, .bl false, .int 0, .int 7, .ref A2, .ref A3, .ref A4, .ref A5, .ref A6, .ref A7])) := same_new h8
    have h10 : (upd H9 A8 (.lst [.ref A1, .non, .bl true, .bl false, .int 0, .int 7, .ref A2, .ref A3, .ref A4, .ref A5, .ref A6, .ref A7])) A8 = _ := upd_same
    generalize upd H9 A8 (.lst [.ref A1, .non, .bl true, .bl false, .int 0, .int 7, .ref A2, .ref A3, .ref A4, .ref A5, .ref A6, .ref A7]) = H10 at *
    refine w_forI (w_iL (w_op (w_var rfl (w_lst (w_cons ?_)))))
    intro B1 g1
    refine w_var rfl (w_con ⟨upd_same, [(.inr tx, .int 1)], rfl, (by show 1 ≤ 15; decide), ?_⟩)
    have eu : ∀ kvs : List (Key × V), Same H10 (upd (upd H10 B1 (.dK [])) B1 (.dK kvs)) := fun kvs b o e => by
      have : b ≠ B1 := ne_of_none e g1
      rw [upd_ne this, upd_ne this]; exact e
    have s11 := eu (mergeK [] [(.inr tx, .int 1)])
    have o8 : Odd (upd (upd H10 B1 (.dK [])) B1 (.dK (mergeK [] [(.inr tx, .int 1)]))) (.ref B1) := .k (T := "dict") (.dict upd_same) (by decide) (by decide)
    clear eu
    generalize upd (upd H10 B1 (.dK [])) B1 (.dK (mergeK [] [(.inr tx, .int 1)])) = H11 at *
    walk_at "go"
    refine ⟨by show 1 ≤ sizeLine; decide, fun B2 g2 => ?_⟩
    walk_at "go"
    refine ⟨by show 1 ≤ sizeLine; decide, fun B3 g3 => ?_⟩
    walk_at "go"
    refine ⟨by show 2 ≤ sizeLine; decide, fun B4 g4 => ?_⟩
    have o9 : Odd (upd (upd H11 B2 (.tup [.int 0])) B3 (.tup [.ref B2])) (.ref B3) := .t (xs := [.ref B2]) upd_same (kds1 (.tup (keep upd_same g3))) rfl
    have s12 : Same H11 (upd (upd H11 B2 (.tup [.int 0])) B3 (.tup [.ref B2])) := same_in (same_new g2) g3
    generalize upd (upd H11 B2 (.tup [.int 0])) B3 (.tup [.ref B2]) = H12 at *
    refine w_cat (keep (s12 _ _ (s11 _ _ h10)) g4) upd_same (by show 14 ≤ sizeLine; decide) fun B5 g5 => ?_
    have s13 : Same H12 (upd (upd H12 B4 (.lst [.ref B1, .ref B3])) B5 (.lst ([.ref A1, .non, .bl true, .bl false, .int 0, .int 7, .ref A2, .ref A3, .ref A4, .ref A5, .ref A6, .ref A7] ++ [.ref B1, .ref B3]))) := same_in (same_new g4) g5
    have hB : (upd (upd H12 B4 (.lst [.ref B1, .ref B3])) B5 (.lst ([.ref A1, .non, .bl true, .bl false, .int 0, .int 7, .ref A2, .ref A3, .ref A4, .ref A5, .ref A6, .ref A7] ++ [.ref B1, .ref B3]))) B5 = some (.lst [.ref A1, .non, .bl true, .bl false, .int 0, .int 7, .ref A2, .ref A3, .ref A4, .ref A5, .ref A6, .ref A7, .ref B1, .ref B3]) := upd_same
    generalize upd (upd H12 B4 (.lst [.ref B1, .ref B3])) B5 (.lst ([.ref A1, .non, .bl true, .bl false, .int 0, .int 7, .ref A2, .ref A3, .ref A4, .ref A5, .ref A6, .ref A7] ++ [.ref B1, .ref B3])) = H13 at *
    have s913 := ((s10.trans s11).trans s12).trans s13
    have odds : ∀ v ∈ [V.ref A1, .non, .bl true, .bl false, .int 0, .int 7, .ref A2, .ref A3, .ref A4, .ref A5, .ref A6, .ref A7, .ref B1, .ref B3], Odd H13 v := by
      intro v hv
      rcases List.mem_cons.mp hv with rfl | hv
      · exact o1.same s913
      rcases List.mem_cons.mp hv with rfl | hv
      · exact .k .non (by decide) (by decide)
      rcases List.mem_cons.mp hv with rfl | hv
      · exact .k (.bl _) (by decide) (by decide)
      rcases List.mem_cons.mp hv with rfl | hv
      · exact .k (.bl _) (by decide) (by decide)
      rcases List.mem_cons.mp hv with rfl | hv
      · exact .k (.int _) (by decide) (by decide)
      rcases List.mem_cons.mp hv with rfl | hv
      · exact .k (.int _) (by decide) (by decide)
      rcases List.mem_cons.mp hv with rfl | hv
      · exact o2.same s913
      rcases List.mem_cons.mp hv with rfl | hv
      · exact o3.same s913
      rcases List.mem_cons.mp hv with rfl | hv
      · exact o4.same s913
      rcases List.mem_cons.mp hv with rfl | hv
      · exact o5.same s913
      rcases List.mem_cons.mp hv with rfl | hv
      · exact o6.same s913
      rcases List.mem_cons.mp hv with rfl | hv
      · exact o7.same s913
      rcases List.mem_cons.mp hv with rfl | hv
      · exact o8.same (s12.trans s13)
      rcases List.mem_cons.mp hv with rfl | hv
      · exact o9.same s13
      cases hv
    have d13 := d8.trans (Dr.same d8.src (s9.trans s913))
    generalize [V.ref A1, .non, .bl true, .bl false, .int 0, .int 7, .ref A2, .ref A3, .ref A4, .ref A5, .ref A6, .ref A7, .ref B1, .ref B3] = vs at *
    refine ⟨B5, rfl, ⟨_, sqL hB⟩, for_list (K := K) (a := B5) (xs := vs) (fun i σ H' => (∃ y1 y2 y3 y4 y5 y6 y7, σ = [some (.ref a), y1, y2, y3, y4, y5, y6, y7]) ∧ Same H13 H') ⟨⟨_, _, _, _, _, _, _, rfl⟩, Same.refl _⟩ (fun i σ H' _ P => sqL (P.2 _ _ hB)) ?_ ?_⟩
    · rintro i x σ1 H14 hx ⟨⟨y1, y2, y3, y4, y5, y6, y7, rfl⟩, s14⟩
      have o := odds x (List.mem_of_getElem? hx)
      walk_at "go"
      refine (o.same s14).name fun H15 s15 => ?_
      walk_at "go"
      refine (o.same (s14.trans s15)).nums fun H16 s16 => ?_
      walk_at "go"
      exact ⟨⟨_, _, _, _, _, _, _, rfl⟩, (s14.trans s15).trans s16⟩
    · rintro σ1 H14 ⟨⟨y1, y2, y3, y4, y5, y6, y7, rfl⟩, s14⟩
      exact hN _ _ ⟨_, _, _, _, _, _, _, rfl⟩ ((d13.trans (Dr.same d13.src s14)).same_of s2 hl)
  · rintro σ H1 ⟨y1, y2, y3, y4, y5, y6, y7, rfl⟩ _
    walk_at "go"
    refine ⟨_, "str", rfl, .str _, fun z e => by cases e; decide +kernel, fun H2 s2 => ?_⟩
    have e1 : nmV (.str ("abcdefgh" : Str)) = true := by decide +kernel
    have e2 : nmV (.str ("abcdefghi" : Str)) = false := by decide +kernel
    have e3 : nmV (.str ("" : Str)) = false := by decide +kernel
    rw [e1]
    walk_at "go"
    refine ⟨_, "str", rfl, .str _, fun z e => by cases e; decide +kernel, fun H3 s3 => ?_⟩
    rw [e2]
    walk_at "go"
    refine ⟨_, "str", rfl, .str _, fun z e => by cases e; decide +kernel, fun H4 s4 => ?_⟩
    rw [e3]
    walk_at "go"
    exact q _

def top (i : Nat) : Stmt := PySem.Challenge.pw_sumtold_k11_names_and_numbers.main.body.getD i (.Pass ⟨0, 0, 0, 0⟩)
structure Gs (K : PySem.W.Frag) (mg : Str → Option Value) : Prop where
  g_LETTERS : ∃ t, mg "LETTERS" = some (.str ("abcdefghijklmnopqrstuvwxyz" : Str) t)
  g_MOST_LETTERS : ∃ t, mg "MOST_LETTERS" = some (.int 8 t)
  g_MOST_NUMBERS : ∃ t, mg "MOST_NUMBERS" = some (.int 3 t)
  g_FAR : ∃ t, mg "FAR" = some (.int 1000000000000 t)
structure Bl (mg : Str → Option Value) : Prop where
  b_all : mg "all" = none
  b_bool : mg "bool" = none
  b_int : mg "int" = none
  b_isinstance : mg "isinstance" = none
  b_len : mg "len" = none
  b_list : mg "list" = none
  b_range : mg "range" = none
  b_str : mg "str" = none
  b_tuple : mg "tuple" = none
section
variable {P : Program} {w : World} {K : PySem.W.Frag} {mg : Str → Option Value} {base : Heap}
abbrev s_is_int : Stmt := top 5
theorem sc_is_int : FnScope N_is_int ["thing"] (defScope s_is_int) := ⟨rfl, rfl, rfl, by decide +kernel, rfl, by decide +kernel, by decide +kernel⟩
theorem ok_is_int (F : ∃ fd, FnP K "is_int" s_is_int (He.ga K "is_int") fd) (gm : mg "is_int" = some (.ref (He.ga K "is_int"))) (B : Bl mg)  : Has P w K mg base "is_int" 1 ["thing"] spIsInt := by
  obtain ⟨fd, F⟩ := F
  refine ⟨_, fd, gm, F.kp, FunD.bindsN (ps := ["thing"]) F fun _ _ _ _ _ _ us hl => match us, hl with | [_], _ => rfl, F.ok sc_is_int (fun vs H Q E h => p_is_int_len h) (fun cdv A outer s H vs Q E hr h => ⟨t_is_int K, PSs.nox ?_, p_is_int h⟩)⟩
  have hu := hu_of hr
  exact (pss_one (ps_ret (pe_and (pe_callB call_isi (by rfl) B.b_isinstance (by decide +kernel) (pa_cons (pv 0) (pa_cons (pe_bltn (v := .ty "int") (by rfl) B.b_int (by decide +kernel) rfl) pa_nil))) (pe_one (pe_not (pe_callB call_isi (by rfl) B.b_isinstance (by decide +kernel) (pa_cons (pv 0) (pa_cons (pe_bltn (v := .ty "bool") (by rfl) B.b_bool (by decide +kernel) rfl) pa_nil))))))))

abbrev s_is_name : Stmt := top 6
theorem sc_is_name : FnScope N_is_name ["thing"] (defScope s_is_name) := ⟨rfl, rfl, rfl, by decide +kernel, rfl, by decide +kernel, by decide +kernel⟩
theorem ok_is_name (F : ∃ fd, FnP K "is_name" s_is_name (He.ga K "is_name") fd) (gm : mg "is_name" = some (.ref (He.ga K "is_name"))) (B : Bl mg) (G : Gs K mg)  : Has P w K mg base "is_name" 1 ["thing"] spIsName := by
  obtain ⟨fd, F⟩ := F
  refine ⟨_, fd, gm, F.kp, FunD.bindsN (ps := ["thing"]) F fun _ _ _ _ _ _ us hl => match us, hl with | [_], _ => rfl, F.ok sc_is_name (fun vs H Q E h => p_is_name_len h) (fun cdv A outer s H vs Q E hr h => ⟨t_is_name K, PSs.nox ?_, p_is_name h⟩)⟩
  have hu := hu_of hr
  exact (pss_cons (ps_if (PW.pt (pw_or (pt_not (pt_val (pe_callB call_isi (by rfl) B.b_isinstance (by decide +kernel) (pa_cons (pv 0) (pa_cons (pe_bltn (v := .ty "str") (by rfl) B.b_str (by decide +kernel) rfl) pa_nil))))) (pw_or1 (pt_not (pt_chain op_le op_le pe_int (pe_callB call_len_str (by rfl) B.b_len (by decide +kernel) (pa_cons (pv 0) pa_nil)) (pe_globI (by rfl) G.g_MOST_LETTERS)))))) (pss_one (ps_ret pe_bl)) pss_nil)
    (pss_one (ps_ret (pe_callB (cr_all rfl) (by rfl) B.b_all (by decide +kernel) (pa_cons (pe_lc (own := [("sign", 1)]) (g := (gName 1)) (tt := tYes) (te := (tOp rInS (tVar 1) (tC (.str ("abcdefghijklmnopqrstuvwxyz" : Str))))) (wi := (iStr (tVar 0))) rfl sc_is_name.nd (pi_str (pv 0)) (blkOk_by (own := [("sign", 1)]) (N := N_is_name) (sc := defScope s_is_name) (by decide +kernel)) (fun _ _ _ _ _ => (pg_name (i := 1) sc_is_name.nd rfl (Or.inl rfl))) (fun _ _ _ _ _ => pts_nil) (fun _ _ _ _ _ => (pe_cmpR op_inS (pv 1) (pe_globS (by rfl) G.g_LETTERS) rfl))) pa_nil)))))

abbrev s_is_numbers : Stmt := top 7
theorem sc_is_numbers : FnScope N_is_numbers ["thing"] (defScope s_is_numbers) := ⟨rfl, rfl, rfl, by decide +kernel, rfl, by decide +kernel, by decide +kernel⟩
theorem ok_is_numbers (F : ∃ fd, FnP K "is_numbers" s_is_numbers (He.ga K "is_numbers") fd) (gm : mg "is_numbers" = some (.ref (He.ga K "is_numbers"))) (B : Bl mg) (G : Gs K mg) (h_is_int : Has P w K mg base "is_int" 1 ["thing"] spIsInt) : Has P w K mg base "is_numbers" 2 ["thing"] spIsNumbers := by
  obtain ⟨fd, F⟩ := F
  refine ⟨_, fd, gm, F.kp, FunD.bindsN (ps := ["thing"]) F fun _ _ _ _ _ _ us hl => match us, hl with | [_], _ => rfl, F.ok sc_is_numbers (fun vs H Q E h => p_is_numbers_len h) (fun cdv A outer s H vs Q E hr h => ⟨t_is_numbers K, PSs.nox ?_, p_is_numbers h⟩)⟩
  have hu := hu_of hr
  exact (pss_cons (ps_if (PW.pt (pw_or (pt_not (pt_val (pe_callB call_isi (by rfl) B.b_isinstance (by decide +kernel) (pa_cons (pv 0) (pa_cons (pe_bltn (v := .ty "tuple") (by rfl) B.b_tuple (by decide +kernel) rfl) pa_nil))))) (pw_or1 (pt_not (pt_chain op_le op_le pe_int (pe_callB call_len_seq (by rfl) B.b_len (by decide +kernel) (pa_cons (pv 0) pa_nil)) (pe_globI (by rfl) G.g_MOST_NUMBERS)))))) (pss_one (ps_ret pe_bl)) pss_nil)
    (pss_one (ps_ret (pe_callB (cr_all rfl) (by rfl) B.b_all (by decide +kernel) (pa_cons (pe_lc (own := [("one", 1)]) (g := (gName 1)) (tt := tYes) (te := (tAndV (tCall spIsInt [] E0 (tCons (tVar 1) tNil)) (tChain rLeI rLeI (tOp rSubI (tC (.int 0)) (tC (.int 1000000000000))) (tVar 1) (tC (.int 1000000000000))))) (wi := (iTup K (tVar 0))) rfl sc_is_numbers.nd (pi_tup (pv 0)) (blkOk_by (own := [("one", 1)]) (N := N_is_numbers) (sc := defScope s_is_numbers) (by decide +kernel)) (fun _ _ _ _ _ => (pg_name (i := 1) sc_is_numbers.nd rfl (Or.inl rfl))) (fun _ _ _ _ _ => pts_nil) (fun _ _ _ _ _ => (pe_and (pe_has h_is_int (hr.mono (by decide)) (by rfl) (pa_cons (pv 1) pa_nil)) (pe_one (pe_chain op_le op_le (pe_op op_sub pe_int (pe_globI (by rfl) G.g_FAR)) (pv 1) (pe_globI (by rfl) G.g_FAR)))))) pa_nil)))))

abbrev s_l_cell_at : Stmt := top 9
theorem sc_l_cell_at : FnScope N_l_cell_at ["_law_script", "_law_k"] (defScope s_l_cell_at) := ⟨rfl, rfl, rfl, by decide +kernel, rfl, by decide +kernel, by decide +kernel⟩
theorem ok_l_cell_at (F : ∃ fd, FnP K "_law_cell_at" s_l_cell_at (He.ga K "_law_cell_at") fd) (gm : mg "_law_cell_at" = some (.ref (He.ga K "_law_cell_at"))) (B : Bl mg)  : Has P w K mg base "_law_cell_at" 1 ["_law_script", "_law_k"] (spCellAt K) := by
  obtain ⟨fd, F⟩ := F
  refine ⟨_, fd, gm, F.kp, FunD.bindsN (ps := ["_law_script", "_law_k"]) F fun _ _ _ _ _ _ us hl => match us, hl with | [_, _], _ => rfl, F.ok sc_l_cell_at (fun vs H Q E h => p_l_cell_at_len h) (fun cdv A outer s H vs Q E hr h => ⟨t_l_cell_at K, PSs.nox ?_, p_l_cell_at h⟩)⟩
  have hu := hu_of hr
  exact (pss_cons (ps_if (pt_cmpR op_lt (pv 1) (pe_callB call_len_seq (by rfl) B.b_len (by decide +kernel) (pa_cons (pv 0) pa_nil)) (nomark _)) (pss_one (ps_ret (pe_ix ix_list (pv 0) (pv 1) (fun _ _ => rfl)))) pss_nil)
    (pss_one (ps_ret pe_int)))

abbrev s_l_mixed : Stmt := top 10
theorem sc_l_mixed : FnScope N_l_mixed ["_law_cell", "_law_k"] (defScope s_l_mixed) := ⟨rfl, rfl, rfl, by decide +kernel, rfl, by decide +kernel, by decide +kernel⟩
theorem ok_l_mixed (F : ∃ fd, FnP K "_law_mixed" s_l_mixed (He.ga K "_law_mixed") fd) (gm : mg "_law_mixed" = some (.ref (He.ga K "_law_mixed"))) (B : Bl mg)  : Has P w K mg base "_law_mixed" 1 ["_law_cell", "_law_k"] spMixed := by
  obtain ⟨fd, F⟩ := F
  refine ⟨_, fd, gm, F.kp, FunD.bindsN (ps := ["_law_cell", "_law_k"]) F fun _ _ _ _ _ _ us hl => match us, hl with | [_, _], _ => rfl, F.ok sc_l_mixed (fun vs H Q E h => p_l_mixed_len h) (fun cdv A outer s H vs Q E hr h => ⟨t_l_mixed K, PSs.nox ?_, p_l_mixed h⟩)⟩
  have hu := hu_of hr
  exact (pss_cons (ps_set (i := 2) sc_l_mixed.nd rfl (Or.inl rfl) (pe_op op_mod (pe_op op_mul (pe_op op_add (pe_op op_add (pe_op op_mod (pv 0) pe_int) (pe_op op_mul pe_int (pv 1))) pe_int) pe_int) pe_int))
    (pss_cons (ps_set (i := 2) sc_l_mixed.nd rfl (Or.inl rfl) (pe_op op_mod (pe_op op_mulX (pv 2) (pe_op op_add (pe_op op_fdivW (pv 2) pe_int) pe_int)) pe_int))
    (pss_one (ps_ret (pe_op op_mod (pe_op op_mulX (pv 2) (pe_op op_add (pe_op op_fdivW (pv 2) pe_int) pe_int)) pe_int)))))

abbrev s_l_well : Stmt := top 11
theorem sc_l_well : FnScope N_l_well ["_law_cell"] (defScope s_l_well) := ⟨rfl, rfl, rfl, by decide +kernel, rfl, by decide +kernel, by decide +kernel⟩
theorem ok_l_well (F : ∃ fd, FnP K "_law_well" s_l_well (He.ga K "_law_well") fd) (gm : mg "_law_well" = some (.ref (He.ga K "_law_well"))) (B : Bl mg)  : Has P w K mg base "_law_well" 1 ["_law_cell"] spBegin := by
  obtain ⟨fd, F⟩ := F
  refine ⟨_, fd, gm, F.kp, FunD.bindsN (ps := ["_law_cell"]) F fun _ _ _ _ _ _ us hl => match us, hl with | [_], _ => rfl, F.ok sc_l_well (fun vs H Q E h => p_l_well_len h) (fun cdv A outer s H vs Q E hr h => ⟨t_l_well K, PSs.nox ?_, p_l_well h⟩)⟩
  have hu := hu_of hr
  exact (pss_one (ps_ret (pe_lst (pa_cons (pe_ix ix_list (pe_lst (pa_cons pe_int (pa_cons (pv 0) pa_nil))) (pe_callTy call_int1 (by rfl) B.b_int (by decide +kernel) (pa_cons (pe_cmpR op_ge (pv 0) (pe_op op_pow pe_int pe_int) (nomark _)) pa_nil)) (fun _ _ => rfl)) (pa_cons (pv 0) (pa_cons pe_int pa_nil))))))

abbrev s_l_draw : Stmt := top 12
theorem sc_l_draw : FnScope N_l_draw ["_law_well_here", "_law_many_here"] (defScope s_l_draw) := ⟨rfl, rfl, rfl, by decide +kernel, rfl, by decide +kernel, by decide +kernel⟩
theorem ok_l_draw (F : ∃ fd, FnP K "_law_draw" s_l_draw (He.ga K "_law_draw") fd) (gm : mg "_law_draw" = some (.ref (He.ga K "_law_draw"))) (B : Bl mg) (h_l_mixed : Has P w K mg base "_law_mixed" 1 ["_law_cell", "_law_k"] spMixed) : Has P w K mg base "_law_draw" 2 ["_law_well_here", "_law_many_here"] spDraw := by
  obtain ⟨fd, F⟩ := F
  refine ⟨_, fd, gm, F.kp, FunD.bindsN (ps := ["_law_well_here", "_law_many_here"]) F fun _ _ _ _ _ _ us hl => match us, hl with | [_, _], _ => rfl, F.ok sc_l_draw (fun vs H Q E h => p_l_draw_len h) (fun cdv A outer s H vs Q E hr h => ⟨t_l_draw K, PSs.nox ?_, p_l_draw h⟩)⟩
  have hu := hu_of hr
  exact (pss_cons (ps_if (pt_cmpR op_gt (pe_ix ix_list (pv 0) pe_int (fun _ _ => rfl)) pe_int (nomark _)) (pss_cons (ps_set (i := 2) sc_l_draw.nd rfl (Or.inl rfl) (pe_op op_mod (pe_ix ix_list (pv 0) pe_int (fun _ _ => rfl)) (pv 1)))
      (pss_cons (ps_asg (pe_op op_fdivW (pe_ix ix_list (pv 0) pe_int (fun _ _ => rfl)) (pv 1)) (pg_sub (pv 0) pe_int set_list))
      (pss_one (ps_ret (pv 2))))) pss_nil)
    (pss_cons (ps_asg (pe_op op_add (pe_ix ix_list (pv 0) pe_int (fun _ _ => rfl)) pe_int) (pg_sub (pv 0) pe_int set_list))
    (pss_one (ps_ret (pe_op op_mod (pe_has h_l_mixed (hr.mono (by decide)) (by rfl) (pa_cons (pe_ix ix_list (pv 0) pe_int (fun _ _ => rfl)) (pa_cons (pe_ix ix_list (pv 0) pe_int (fun _ _ => rfl)) pa_nil))) (pv 1))))))

abbrev s_l_pick : Stmt := top 13
theorem sc_l_pick : FnScope N_l_pick ["_law_well_here", "_law_some"] (defScope s_l_pick) := ⟨rfl, rfl, rfl, by decide +kernel, rfl, by decide +kernel, by decide +kernel⟩
theorem ok_l_pick (F : ∃ fd, FnP K "_law_pick" s_l_pick (He.ga K "_law_pick") fd) (gm : mg "_law_pick" = some (.ref (He.ga K "_law_pick"))) (B : Bl mg) (h_l_draw : Has P w K mg base "_law_draw" 2 ["_law_well_here", "_law_many_here"] spDraw) : Has P w K mg base "_law_pick" 3 ["_law_well_here", "_law_some"] spPick := by
  obtain ⟨fd, F⟩ := F
  refine ⟨_, fd, gm, F.kp, FunD.bindsN (ps := ["_law_well_here", "_law_some"]) F fun _ _ _ _ _ _ us hl => match us, hl with | [_, _], _ => rfl, F.ok sc_l_pick (fun vs H Q E h => p_l_pick_len h) (fun cdv A outer s H vs Q E hr h => ⟨t_l_pick K, PSs.nox ?_, p_l_pick h⟩)⟩
  have hu := hu_of hr
  exact (pss_one (ps_ret (pe_ix ix_list (pv 1) (pe_has h_l_draw (hr.mono (by decide)) (by rfl) (pa_cons (pv 0) (pa_cons (pe_callB call_len_seq (by rfl) B.b_len (by decide +kernel) (pa_cons (pv 1) pa_nil)) pa_nil))) (fun _ _ => rfl))))

abbrev s_l_text : Stmt := top 14
theorem sc_l_text : FnScope N_l_text ["_law_well_here"] (defScope s_l_text) := ⟨rfl, rfl, rfl, by decide +kernel, rfl, by decide +kernel, by decide +kernel⟩
theorem ok_l_text (F : ∃ fd, FnP K "_law_text" s_l_text (He.ga K "_law_text") fd) (gm : mg "_law_text" = some (.ref (He.ga K "_law_text"))) (B : Bl mg) (h_l_draw : Has P w K mg base "_law_draw" 2 ["_law_well_here", "_law_many_here"] spDraw) (h_l_pick : Has P w K mg base "_law_pick" 3 ["_law_well_here", "_law_some"] spPick) : Has P w K mg base "_law_text" 4 ["_law_well_here"] spText := by
  obtain ⟨fd, F⟩ := F
  refine ⟨_, fd, gm, F.kp, FunD.bindsN (ps := ["_law_well_here"]) F fun _ _ _ _ _ _ us hl => match us, hl with | [_], _ => rfl, F.ok sc_l_text (fun vs H Q E h => p_l_text_len h) (fun cdv A outer s H vs Q E hr h => ⟨t_l_text K, PSs.nox ?_, p_l_text h⟩)⟩
  have hu := hu_of hr
  exact (pss_cons (ps_set (i := 1) sc_l_text.nd rfl (Or.inr rfl) pe_str)
    (pss_cons (ps_set (i := 2) sc_l_text.nd rfl (Or.inl rfl) (pe_join pe_str (pe_lc (own := [("_law_k", 4)]) (g := (gName 4)) (tt := tYes) (te := (tOp rIxS (tVar 1) (tCall spDraw [] E0 (tCons (tVar 0) (tCons (tC (.int 26)) tNil))))) (wi := (iRng1 (tCons (tCall spDraw [] E0 (tCons (tVar 0) (tCons (tC (.int 10)) tNil))) tNil))) rfl sc_l_text.nd (pi_range1 (by rfl) B.b_range (pa_cons (pe_has h_l_draw (hr.mono (by decide)) (by rfl) (pa_cons (pv 0) (pa_cons pe_int pa_nil))) pa_nil)) (blkOk_by (own := [("_law_k", 4)]) (N := N_l_text) (sc := defScope s_l_text) (by decide +kernel)) (fun _ _ _ _ _ => (pg_name (i := 4) sc_l_text.nd rfl (Or.inl rfl))) (fun _ _ _ _ _ => pts_nil) (fun _ _ _ _ _ => (pe_ix ix_str (pv 1) (pe_has h_l_draw (hr.mono (by decide)) (by rfl) (pa_cons (pv 0) (pa_cons pe_int pa_nil))) (fun _ _ => rfl))))))
    (pss_cons (ps_if (pt_cmpR op_eq (pe_has h_l_draw (hr.mono (by decide)) (by rfl) (pa_cons (pv 0) (pa_cons pe_int pa_nil))) pe_int (nomark _)) (pss_cons (ps_set (i := 3) sc_l_text.nd rfl (Or.inl rfl) (pe_has h_l_draw (hr.mono (by decide)) (by rfl) (pa_cons (pv 0) (pa_cons (pe_op op_add (pe_callB call_len_str (by rfl) B.b_len (by decide +kernel) (pa_cons (pv 2) pa_nil)) pe_int) pa_nil))))
      (pss_one (ps_set (i := 2) sc_l_text.nd rfl (Or.inl rfl) (pe_op op_add_str (pe_op op_add_str (pe_slice sl_str (pv 2) po_none (po_some (pv 3))) (pe_has h_l_pick (hr.mono (by decide)) (by rfl) (pa_cons (pv 0) (pa_cons (pe_callTy (call_list_sign rfl) (by rfl) B.b_list (by decide +kernel) (pa_cons pe_str pa_nil)) pa_nil)))) (pe_slice sl_str (pv 2) (po_some (pv 3)) po_none))))) pss_nil)
    (pss_one (ps_ret (pv 2))))))

abbrev s_l_is_name : Stmt := top 15
theorem sc_l_is_name : FnScope N_l_is_name ["_law_text_here"] (defScope s_l_is_name) := ⟨rfl, rfl, rfl, by decide +kernel, rfl, by decide +kernel, by decide +kernel⟩
theorem ok_l_is_name (F : ∃ fd, FnP K "_law_is_name" s_l_is_name (He.ga K "_law_is_name") fd) (gm : mg "_law_is_name" = some (.ref (He.ga K "_law_is_name"))) (B : Bl mg)  : Has P w K mg base "_law_is_name" 1 ["_law_text_here"] spLawIsName := by
  obtain ⟨fd, F⟩ := F
  refine ⟨_, fd, gm, F.kp, FunD.bindsN (ps := ["_law_text_here"]) F fun _ _ _ _ _ _ us hl => match us, hl with | [_], _ => rfl, F.ok sc_l_is_name (fun vs H Q E h => p_l_is_name_len h) (fun cdv A outer s H vs Q E hr h => ⟨t_l_is_name K, PSs.nox ?_, p_l_is_name h⟩)⟩
  have hu := hu_of hr
  exact (pss_cons (ps_setLc (i := 1) (own := [("_law_sign", 2)]) (g := (gName 2)) (tt := (tAnd (tTest (tOp rLeS (tC (.str ("a" : Str))) (tVar 2))) (tTest (tOp rLeS (tVar 2) (tC (.str ("z" : Str))))))) (te := (tVar 2)) (wi := (iStr (tVar 0))) rfl sc_l_is_name.nd rfl rfl (sw_true rfl rfl rfl (by decide +kernel)) (pi_str (pv 0)) (blkOk_by (own := [("_law_sign", 2)]) (N := N_l_is_name) (sc := defScope s_l_is_name) (by decide +kernel)) (fun _ _ _ _ _ => (pg_name (i := 2) sc_l_is_name.nd rfl (Or.inl rfl))) (fun _ _ _ _ _ => (pts_one (PW.pt (pw_and (pt_cmpR op_le_str pe_str (pv 2) (nomark _)) (pw_and1 (pt_cmpR op_le_str (pv 2) pe_str (nomark _))))))) (fun _ _ _ _ _ => (pv 2)))
    (pss_one (ps_ret (pe_and (pe_cmpR op_eq (pe_callB call_len_seq (by rfl) B.b_len (by decide +kernel) (pa_cons (pv 1) pa_nil)) (pe_callB call_len_str (by rfl) B.b_len (by decide +kernel) (pa_cons (pv 0) pa_nil)) (nomark _)) (pe_and (pe_cmpR op_le pe_int (pe_callB call_len_str (by rfl) B.b_len (by decide +kernel) (pa_cons (pv 0) pa_nil)) (nomark _)) (pe_one (pe_cmpR op_le (pe_callB call_len_str (by rfl) B.b_len (by decide +kernel) (pa_cons (pv 0) pa_nil)) pe_int (nomark _))))))))

abbrev s_l_many : Stmt := top 16
theorem sc_l_many : FnScope N_l_many ["_law_well_here"] (defScope s_l_many) := ⟨rfl, rfl, rfl, by decide +kernel, rfl, by decide +kernel, by decide +kernel⟩
theorem ok_l_many (F : ∃ fd, FnP K "_law_many" s_l_many (He.ga K "_law_many") fd) (gm : mg "_law_many" = some (.ref (He.ga K "_law_many"))) (B : Bl mg) (h_l_draw : Has P w K mg base "_law_draw" 2 ["_law_well_here", "_law_many_here"] spDraw) (h_l_pick : Has P w K mg base "_law_pick" 3 ["_law_well_here", "_law_some"] spPick) : Has P w K mg base "_law_many" 4 ["_law_well_here"] spMany := by
  obtain ⟨fd, F⟩ := F
  refine ⟨_, fd, gm, F.kp, FunD.bindsN (ps := ["_law_well_here"]) F fun _ _ _ _ _ _ us hl => match us, hl with | [_], _ => rfl, F.ok sc_l_many (fun vs H Q E h => p_l_many_len h) (fun cdv A outer s H vs Q E hr h => ⟨t_l_many K, PSs.nox ?_, p_l_many h⟩)⟩
  have hu := hu_of hr
  exact (pss_cons (ps_set (i := 1) sc_l_many.nd rfl (Or.inl rfl) (pe_op op_pow pe_int pe_int))
    (pss_cons (ps_set (i := 2) sc_l_many.nd rfl (Or.inl rfl) (pe_lst pa_nil))
    (pss_cons (ps_for PassesOwn.never rfl (pi_range1 (by rfl) B.b_range (pa_cons (pe_has h_l_draw (hr.mono (by decide)) (by rfl) (pa_cons (pv 0) (pa_cons pe_int pa_nil))) pa_nil)) (pg_name (i := 3) sc_l_many.nd rfl (Or.inl rfl)) (pss_cons (ps_set (i := 4) sc_l_many.nd rfl (Or.inl rfl) (pe_lst (pa_cons pe_int (pa_cons (pv 1) (pa_cons (pe_op op_sub pe_int (pv 1)) (pa_cons (pe_op op_add (pv 1) pe_int) (pa_cons (pe_op op_sub (pe_op op_sub pe_int (pv 1)) pe_int) (pa_cons (pe_op op_sub (pe_has h_l_draw (hr.mono (by decide)) (by rfl) (pa_cons (pv 0) (pa_cons pe_int pa_nil))) pe_int) pa_nil))))))))
      (pss_cons (ps_set (i := 4) sc_l_many.nd rfl (Or.inl rfl) (pe_op op_cat (pv 4) (pe_lst (pa_cons (pe_op op_sub (pe_has h_l_draw (hr.mono (by decide)) (by rfl) (pa_cons (pv 0) (pa_cons (pe_op op_mul pe_int (pv 1)) pa_nil))) (pv 1)) pa_nil))))
      (pss_one (ps_expr (pe_bm PySem.F.plainAttrs_list PySem.F.slot_list_append PySem.F.type_list_append mt_append (pv 2) (pa_cons (pe_ix ix_list (pv 4) (pe_has h_l_draw (hr.mono (by decide)) (by rfl) (pa_cons (pv 0) (pa_cons pe_int pa_nil))) (fun _ _ => rfl)) pa_nil)))))))
    (pss_cons (ps_if (PW.pt (pw_and (pt_cmpR (op_neD hr.units) (pv 2) (pe_lst pa_nil) (nomark _)) (pw_and1 (pt_cmpR op_eq (pe_has h_l_draw (hr.mono (by decide)) (by rfl) (pa_cons (pv 0) (pa_cons pe_int pa_nil))) pe_int (nomark _))))) (pss_one (ps_asg (pe_has h_l_pick (hr.mono (by decide)) (by rfl) (pa_cons (pv 0) (pa_cons (pe_lst (pa_cons pe_bl (pa_cons pe_bl (pa_cons pe_non (pa_cons pe_str (pa_cons (pe_tup (pa_cons pe_int pa_nil)) (pa_cons (pe_lst (pa_cons pe_int pa_nil)) (pa_cons pe_str pa_nil)))))))) pa_nil))) (pg_sub (pv 2) (pe_has h_l_draw (hr.mono (by decide)) (by rfl) (pa_cons (pv 0) (pa_cons (pe_callB call_len_seq (by rfl) B.b_len (by decide +kernel) (pa_cons (pv 2) pa_nil)) pa_nil))) set_list))) pss_nil)
    (pss_one (ps_ret (pe_callTy call_tuple_of (by rfl) B.b_tuple (by decide +kernel) (pa_cons (pv 2) pa_nil))))))))

abbrev s_l_are_numbers : Stmt := top 17
theorem sc_l_are_numbers : FnScope N_l_are_numbers ["_law_things"] (defScope s_l_are_numbers) := ⟨rfl, rfl, rfl, by decide +kernel, rfl, by decide +kernel, by decide +kernel⟩
theorem ok_l_are_numbers (F : ∃ fd, FnP K "_law_are_numbers" s_l_are_numbers (He.ga K "_law_are_numbers") fd) (gm : mg "_law_are_numbers" = some (.ref (He.ga K "_law_are_numbers"))) (B : Bl mg)  : Has P w K mg base "_law_are_numbers" 1 ["_law_things"] spAre := by
  obtain ⟨fd, F⟩ := F
  refine ⟨_, fd, gm, F.kp, FunD.bindsN (ps := ["_law_things"]) F fun _ _ _ _ _ _ us hl => match us, hl with | [_], _ => rfl, F.ok sc_l_are_numbers (fun vs H Q E h => p_l_are_numbers_len h) (fun cdv A outer s H vs Q E hr h => ⟨t_l_are_numbers K, PSs.nox ?_, p_l_are_numbers h⟩)⟩
  have hu := hu_of hr
  exact (pss_cons (ps_if (pt_cmpR op_notIn_seq (pe_callB call_len_seq (by rfl) B.b_len (by decide +kernel) (pa_cons (pv 0) pa_nil)) (pe_tup (pa_cons pe_int (pa_cons pe_int (pa_cons pe_int pa_nil)))) (by rfl)) (pss_one (ps_ret pe_bl)) pss_nil)
    (pss_cons (ps_for PassesOwn.never rfl (pi_tup (pv 0)) (pg_name (i := 1) sc_l_are_numbers.nd rfl (Or.inl rfl)) (pss_one (ps_if (PW.pt (pw_or (pt_val (pe_callB call_isi (by rfl) B.b_isinstance (by decide +kernel) (pa_cons (pv 1) (pa_cons (pe_bltn (v := .ty "bool") (by rfl) B.b_bool (by decide +kernel) rfl) pa_nil)))) (pw_or (pt_not (pt_val (pe_callB call_isi (by rfl) B.b_isinstance (by decide +kernel) (pa_cons (pv 1) (pa_cons (pe_bltn (v := .ty "int") (by rfl) B.b_int (by decide +kernel) rfl) pa_nil))))) (pw_or (pt_cmpR op_gt (pv 1) (pe_op op_pow pe_int pe_int) (nomark _)) (pw_or1 (pt_cmpR op_lt (pv 1) (pe_op op_sub pe_int (pe_op op_pow pe_int pe_int)) (nomark _))))))) (pss_one (ps_ret pe_bl)) pss_nil)))
    (pss_one (ps_ret pe_bl))))

abbrev s_law : Stmt := top 18
theorem sc_law : FnScope N_law ["_law_script"] (defScope s_law) := ⟨rfl, rfl, rfl, by decide +kernel, rfl, by decide +kernel, by decide +kernel⟩
theorem ok_law {f : Addr} {fd : FuncData} (F : FnP K "law" s_law f fd) (B : Bl mg) (h_is_name : Has P w K mg base "is_name" 1 ["thing"] spIsName) (h_l_cell_at : Has P w K mg base "_law_cell_at" 1 ["_law_script", "_law_k"] (spCellAt K)) (h_is_numbers : Has P w K mg base "is_numbers" 2 ["thing"] spIsNumbers) (h_l_are_numbers : Has P w K mg base "_law_are_numbers" 1 ["_law_things"] spAre) (h_l_many : Has P w K mg base "_law_many" 4 ["_law_well_here"] spMany) (h_l_is_name : Has P w K mg base "_law_is_name" 1 ["_law_text_here"] spLawIsName) (h_l_text : Has P w K mg base "_law_text" 4 ["_law_well_here"] spText) (h_l_well : Has P w K mg base "_law_well" 1 ["_law_cell"] spBegin) : FnOk P w K mg base CX0 5 f fd ["_law_script"] (spLaw K) := by
  refine F.ok sc_law (fun vs H Q E h => p_law_len h) (fun cdv A outer s H vs Q E hr h => ⟨t_law K, PSs.nox ?_, p_law h⟩)
  have hu := hu_of hr
  exact (pss_cons (ps_for PassesOwn.never rfl (pi_list (pe_op op_cat (pe_lst (pa_cons (pe_has h_l_cell_at (hr.mono (by decide)) (by rfl) (pa_cons (pv 0) (pa_cons pe_int pa_nil))) pa_nil)) (pe_slice sl_list (pv 0) (po_some pe_int) (po_some pe_int)))) (pg_name (i := 1) sc_law.nd rfl (Or.inl rfl)) (pss_cons (ps_set (i := 2) sc_law.nd rfl (Or.inl rfl) (pe_has h_l_well (hr.mono (by decide)) (by rfl) (pa_cons (pv 1) pa_nil)))
      (pss_cons (ps_set (i := 3) sc_law.nd rfl (Or.inl rfl) (pe_has h_l_text (hr.mono (by decide)) (by rfl) (pa_cons (pv 2) pa_nil)))
      (pss_cons (ps_set (i := 4) sc_law.nd rfl (Or.inl rfl) (pe_has h_is_name (hr.mono (by decide)) (by rfl) (pa_cons (pv 3) pa_nil)))
      (pss_cons (ps_if (PW.pt (pw_or (pt_not (pt_val (pe_callB call_isi (by rfl) B.b_isinstance (by decide +kernel) (pa_cons (pv 4) (pa_cons (pe_bltn (v := .ty "bool") (by rfl) B.b_bool (by decide +kernel) rfl) pa_nil))))) (pw_or (pt_cmpR op_ne (pv 4) (pe_has h_l_is_name (hr.mono (by decide)) (by rfl) (pa_cons (pv 3) pa_nil)) (nomark _)) (pw_or1 (pt_cmpR op_notBl (pe_has h_is_numbers (hr.mono (by decide)) (by rfl) (pa_cons (pv 3) pa_nil)) pe_bl (nomark _)))))) (pss_one (ps_ret pe_bl)) pss_nil)
      (pss_cons (ps_set (i := 5) sc_law.nd rfl (Or.inl rfl) (pe_has h_l_many (hr.mono (by decide)) (by rfl) (pa_cons (pv 2) pa_nil)))
      (pss_cons (ps_set (i := 4) sc_law.nd rfl (Or.inl rfl) (pe_has h_is_numbers (hr.mono (by decide)) (by rfl) (pa_cons (pv 5) pa_nil)))
      (pss_cons (ps_if (PW.pt (pw_or (pt_not (pt_val (pe_callB call_isi (by rfl) B.b_isinstance (by decide +kernel) (pa_cons (pv 4) (pa_cons (pe_bltn (v := .ty "bool") (by rfl) B.b_bool (by decide +kernel) rfl) pa_nil))))) (pw_or1 (pt_cmpR op_ne (pv 4) (pe_has h_l_are_numbers (hr.mono (by decide)) (by rfl) (pa_cons (pv 5) pa_nil)) (nomark _))))) (pss_one (ps_ret pe_bl)) pss_nil)
      (pss_cons (ps_set (i := 6) sc_law.nd rfl (Or.inl rfl) (pe_lst (pa_cons (pe_callTy call_list_of (by rfl) B.b_list (by decide +kernel) (pa_cons (pv 5) pa_nil)) (pa_cons pe_non (pa_cons pe_bl (pa_cons pe_bl (pa_cons pe_int (pa_cons pe_int (pa_cons (pe_tup pa_nil) (pa_cons (pe_lst pa_nil) (pa_cons pe_dnewK (pa_cons (pe_tup (pa_cons pe_str pa_nil)) (pa_cons (pe_lst (pa_cons pe_str pa_nil)) (pa_cons (pe_tup (pa_cons (pv 3) pa_nil)) pa_nil))))))))))))))
      (pss_one (ps_for PassesOwn.never rfl (pi_list (pe_op op_cat (pv 6) (pe_lst (pa_cons (pe_disp (pps_cons (pv 3) pe_int pps_nil) (by rfl) (by rfl) (fun z => by cases z) (by decide)) (pa_cons (pe_tup (pa_cons (pe_tup (pa_cons pe_int pa_nil)) pa_nil)) pa_nil))))) (pg_name (i := 7) sc_law.nd rfl (Or.inl rfl)) (pss_one (ps_if (PW.pt (pw_or (pt_cmpR op_notBl (pe_has h_is_name (hr.mono (by decide)) (by rfl) (pa_cons (pv 7) pa_nil)) pe_bl (nomark _)) (pw_or1 (pt_cmpR op_notBl (pe_has h_is_numbers (hr.mono (by decide)) (by rfl) (pa_cons (pv 7) pa_nil)) pe_bl (nomark _))))) (pss_one (ps_ret pe_bl)) pss_nil)))))))))))))
    (pss_one (ps_ret (pe_and (pe_cmpR op_isBl (pe_has h_is_name (hr.mono (by decide)) (by rfl) (pa_cons pe_str pa_nil)) pe_bl (nomark _)) (pe_and (pe_cmpR op_isBl (pe_has h_is_name (hr.mono (by decide)) (by rfl) (pa_cons pe_str pa_nil)) pe_bl (nomark _)) (pe_one (pe_cmpR op_isBl (pe_has h_is_name (hr.mono (by decide)) (by rfl) (pa_cons pe_str pa_nil)) pe_bl (nomark _))))))))
end

def dd_is_int : He.DefD := ⟨("is_int", none), "is_int", "is_int", defArgs s_is_int, defBody s_is_int, defScope s_is_int, [], []⟩
def dd_is_name : He.DefD := ⟨("is_name", none), "is_name", "is_name", defArgs s_is_name, defBody s_is_name, defScope s_is_name, [], []⟩
def dd_is_numbers : He.DefD := ⟨("is_numbers", none), "is_numbers", "is_numbers", defArgs s_is_numbers, defBody s_is_numbers, defScope s_is_numbers, [], []⟩
def dd_l_cell_at : He.DefD := ⟨("_law_cell_at", none), "_law_cell_at", "_law_cell_at", defArgs s_l_cell_at, defBody s_l_cell_at, defScope s_l_cell_at, [], []⟩
def dd_l_mixed : He.DefD := ⟨("_law_mixed", none), "_law_mixed", "_law_mixed", defArgs s_l_mixed, defBody s_l_mixed, defScope s_l_mixed, [], []⟩
def dd_l_well : He.DefD := ⟨("_law_well", none), "_law_well", "_law_well", defArgs s_l_well, defBody s_l_well, defScope s_l_well, [], []⟩
def dd_l_draw : He.DefD := ⟨("_law_draw", none), "_law_draw", "_law_draw", defArgs s_l_draw, defBody s_l_draw, defScope s_l_draw, [], []⟩
def dd_l_pick : He.DefD := ⟨("_law_pick", none), "_law_pick", "_law_pick", defArgs s_l_pick, defBody s_l_pick, defScope s_l_pick, [], []⟩
def dd_l_text : He.DefD := ⟨("_law_text", none), "_law_text", "_law_text", defArgs s_l_text, defBody s_l_text, defScope s_l_text, [], []⟩
def dd_l_is_name : He.DefD := ⟨("_law_is_name", none), "_law_is_name", "_law_is_name", defArgs s_l_is_name, defBody s_l_is_name, defScope s_l_is_name, [], []⟩
def dd_l_many : He.DefD := ⟨("_law_many", none), "_law_many", "_law_many", defArgs s_l_many, defBody s_l_many, defScope s_l_many, [], []⟩
def dd_l_are_numbers : He.DefD := ⟨("_law_are_numbers", none), "_law_are_numbers", "_law_are_numbers", defArgs s_l_are_numbers, defBody s_l_are_numbers, defScope s_l_are_numbers, [], []⟩
def dd_law : He.DefD := ⟨("law", none), "law", "law", defArgs s_law, defBody s_law, defScope s_law, [], []⟩
def fn : List He.DefD := [dd_is_int, dd_is_name, dd_is_numbers, dd_l_cell_at, dd_l_mixed, dd_l_well, dd_l_draw, dd_l_pick, dd_l_text, dd_l_is_name, dd_l_many, dd_l_are_numbers, dd_law]
def fa : List He.Fa := [.glo "is_int", .glo "is_name", .glo "is_numbers", .glo "_law_cell_at", .glo "_law_mixed", .glo "_law_well", .glo "_law_draw", .glo "_law_pick", .glo "_law_text", .glo "_law_is_name", .glo "_law_many", .glo "_law_are_numbers", .glo "law", .free "all", .free "bool", .free "int", .free "isinstance", .free "len", .free "list", .free "range", .free "str", .free "tuple", .str "LETTERS" "abcdefghijklmnopqrstuvwxyz", .int "MOST_LETTERS" 8, .int "MOST_NUMBERS" 3, .int "FAR" 1000000000000]
def loose : List Str := (["LETTERS", "MOST_LETTERS", "MOST_NUMBERS", "FAR", "is_int", "is_name", "is_numbers", "_law_cell_at", "_law_mixed", "_law_well", "_law_draw", "_law_pick", "_law_text", "_law_is_name", "_law_many", "_law_are_numbers"] : List Str)
abbrev R : PySem.W.OpenRow := PySem.W.OpenLaw.row PySem.Challenge.rw_sumtold_k11_names_and_numbers
abbrev hk : PySem.W.Hook := He.hookD 4 fa fn
def ob (s : PySem.W.SharedT) : He.AlD := He.obsDG 4 fa fn (HandSHeadRun.getT s)
theorem ob_eq (s : PySem.W.SharedT) : ob s = hk.obs s.abs := He.obsDG_eq (HandSHeadRun.getT_eq s)
theorem run (w : World) : HandSHeadRun.RunEq R (PySem.W.view R.prog [18]) hk ob 2000 loose w := by
  intro os
  kernel_rfl
theorem facts {P : Program} {w : World} {K : PySem.W.Frag} {h : Heap} {mg : Str → Option Value} {f : Addr} (X : K.In h) (G : h.Ns mainGlobals mg) (hfa : mg ("law" : Str) = some (.ref f)) (c : He.SaysD fa fn K) :
    ∃ fd : FuncData, (∀ (s : Shared) (v : Value), BindsTo s fd ⟨[v], []⟩ [("_law_script", v)]) ∧ ∀ base : Heap, K.In base → base.Ns mainGlobals mg → FnOk P w K mg base CX0 5 f fd ["_law_script"] ((spLaw K)) := by
  have F_is_int := c.def_ 0 (d := dd_is_int) rfl
  have g_is_int := He.glo_ok X G (c.fact 0 (f := .glo "is_int") rfl)
  have F_is_name := c.def_ 1 (d := dd_is_name) rfl
  have g_is_name := He.glo_ok X G (c.fact 1 (f := .glo "is_name") rfl)
  have F_is_numbers := c.def_ 2 (d := dd_is_numbers) rfl
  have g_is_numbers := He.glo_ok X G (c.fact 2 (f := .glo "is_numbers") rfl)
  have F_l_cell_at := c.def_ 3 (d := dd_l_cell_at) rfl
  have g_l_cell_at := He.glo_ok X G (c.fact 3 (f := .glo "_law_cell_at") rfl)
  have F_l_mixed := c.def_ 4 (d := dd_l_mixed) rfl
  have g_l_mixed := He.glo_ok X G (c.fact 4 (f := .glo "_law_mixed") rfl)
  have F_l_well := c.def_ 5 (d := dd_l_well) rfl
  have g_l_well := He.glo_ok X G (c.fact 5 (f := .glo "_law_well") rfl)
  have F_l_draw := c.def_ 6 (d := dd_l_draw) rfl
  have g_l_draw := He.glo_ok X G (c.fact 6 (f := .glo "_law_draw") rfl)
  have F_l_pick := c.def_ 7 (d := dd_l_pick) rfl
  have g_l_pick := He.glo_ok X G (c.fact 7 (f := .glo "_law_pick") rfl)
  have F_l_text := c.def_ 8 (d := dd_l_text) rfl
  have g_l_text := He.glo_ok X G (c.fact 8 (f := .glo "_law_text") rfl)
  have F_l_is_name := c.def_ 9 (d := dd_l_is_name) rfl
  have g_l_is_name := He.glo_ok X G (c.fact 9 (f := .glo "_law_is_name") rfl)
  have F_l_many := c.def_ 10 (d := dd_l_many) rfl
  have g_l_many := He.glo_ok X G (c.fact 10 (f := .glo "_law_many") rfl)
  have F_l_are_numbers := c.def_ 11 (d := dd_l_are_numbers) rfl
  have g_l_are_numbers := He.glo_ok X G (c.fact 11 (f := .glo "_law_are_numbers") rfl)
  have F_law := c.def_ 12 (d := dd_law) rfl
  have g_law := He.glo_ok X G (c.fact 12 (f := .glo "law") rfl)
  have B : Bl mg := ⟨He.free_ok X G (c.fact 13 (f := .free "all") rfl), He.free_ok X G (c.fact 14 (f := .free "bool") rfl), He.free_ok X G (c.fact 15 (f := .free "int") rfl), He.free_ok X G (c.fact 16 (f := .free "isinstance") rfl), He.free_ok X G (c.fact 17 (f := .free "len") rfl), He.free_ok X G (c.fact 18 (f := .free "list") rfl), He.free_ok X G (c.fact 19 (f := .free "range") rfl), He.free_ok X G (c.fact 20 (f := .free "str") rfl), He.free_ok X G (c.fact 21 (f := .free "tuple") rfl)⟩
  have GG : Gs K mg := ⟨He.str_ok X G (c.fact 22 (f := .str "LETTERS" "abcdefghijklmnopqrstuvwxyz") rfl), He.int_ok X G (c.fact 23 (f := .int "MOST_LETTERS" 8) rfl), He.int_ok X G (c.fact 24 (f := .int "MOST_NUMBERS" 3) rfl), He.int_ok X G (c.fact 25 (f := .int "FAR" 1000000000000) rfl)⟩
  have e := hfa.symm.trans g_law
  cases e
  obtain ⟨fd, Fl⟩ := F_law
  refine ⟨fd, fun s v => (FunD.bindsA (ps := ["_law_script"]) Fl fun _ _ _ _ _ _ us hl => match us, hl with | [_], _ => rfl) s [v] rfl, fun base _ _ => ?_⟩
  have h_is_int := ok_is_int (P := P) (w := w) (base := base) F_is_int g_is_int B 
  have h_is_name := ok_is_name (P := P) (w := w) (base := base) F_is_name g_is_name B GG 
  have h_is_numbers := ok_is_numbers (P := P) (w := w) (base := base) F_is_numbers g_is_numbers B GG h_is_int
  have h_l_cell_at := ok_l_cell_at (P := P) (w := w) (base := base) F_l_cell_at g_l_cell_at B 
  have h_l_mixed := ok_l_mixed (P := P) (w := w) (base := base) F_l_mixed g_l_mixed B 
  have h_l_well := ok_l_well (P := P) (w := w) (base := base) F_l_well g_l_well B 
  have h_l_draw := ok_l_draw (P := P) (w := w) (base := base) F_l_draw g_l_draw B h_l_mixed
  have h_l_pick := ok_l_pick (P := P) (w := w) (base := base) F_l_pick g_l_pick B h_l_draw
  have h_l_text := ok_l_text (P := P) (w := w) (base := base) F_l_text g_l_text B h_l_draw h_l_pick
  have h_l_is_name := ok_l_is_name (P := P) (w := w) (base := base) F_l_is_name g_l_is_name B 
  have h_l_many := ok_l_many (P := P) (w := w) (base := base) F_l_many g_l_many B h_l_draw h_l_pick
  have h_l_are_numbers := ok_l_are_numbers (P := P) (w := w) (base := base) F_l_are_numbers g_l_are_numbers B 
  exact ok_law (P := P) (w := w) (base := base) Fl B h_is_name h_l_cell_at h_is_numbers h_l_are_numbers h_l_many h_l_is_name h_l_text h_l_well

end Sum
open PySem PySem.W PySem.Calls PyProof.Rows
set_option maxRecDepth 100000 in
set_option maxHeartbeats 0 in
theorem PySem.Challenge.cw_sumtold_k11_names_and_numbers_holds : PySem.Challenge.rw_sumtold_k11_names_and_numbers.Holds := by
  w_on; o_law
  refine HandSHeadRun.head_any (r := OpenLaw.row PySem.Challenge.rw_sumtold_k11_names_and_numbers) (q := view (OpenLaw.row PySem.Challenge.rw_sumtold_k11_names_and_numbers).prog [18]) (H := Sum.hk) (ob := Sum.ob) (M := 2000) (loose := Sum.loose) (d := HandSHeadRun.topDef (OpenLaw.row PySem.Challenge.rw_sumtold_k11_names_and_numbers).prog 18) (kwd := []) Sum.ob_eq
    (by kernel_rfl) (fun s => by kernel_rfl) Sum.run (by kernel_rfl) (by kernel_rfl) (by kernel_rfl) (by rfl) (by first | assumption | decide +kernel) (by decide +kernel) ⟨rfl, rfl, rfl, rfl, rfl, by decide +kernel⟩ ?hw ?hc
  case hw => w_witness2
  case hc =>
    refine L2.walk_ofE (l := PySem.Challenge.rw_sumtold_k11_names_and_numbers) (n := 63) (k := 5) (x := "_law_script") (CX := L2.CX0) rfl (by decide) (by kernel_rfl) ⟨rfl, by decide, by decide⟩ ?F (fun _ _ _ _ z => z)
    intro w mg fa h Y G hmg0
    obtain ⟨K, KX, c⟩ := Y
    have hmg : mg ("law" : PySem.Str) = some (.ref fa) := by
      have e : (HandSHeadRun.topDef (OpenLaw.row PySem.Challenge.rw_sumtold_k11_names_and_numbers).prog 18).name = ("law" : PySem.Str) := by kernel_rfl
      rw [← e]
      exact hmg0
    obtain ⟨fd, hb, hF⟩ := Sum.facts (P := (PySem.Challenge.rw_sumtold_k11_names_and_numbers).prog) (w := w) KX G hmg c
    exact ⟨K, fd, Sum.spLaw K, KX, hb, fun H a ns hl _ hS => ⟨a, ns, rfl, hS, hl, fun _ => rfl⟩, hF⟩
#print axioms PySem.Challenge.cw_sumtold_k11_names_and_numbers_holds
