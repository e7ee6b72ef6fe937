import PyProof.Rows.All
import Wide.All
import OpenK.AllK
import Wide.FinOn
import HandS.ForMost
import HandS.Flow
import HandS.IsInst
import HandS.WideBits
import HandS.Style
import HandS.TupAny
import HandS.TupMul
import HandS.Steps
import HandS.Evl
import HandS.Zip
import HandS.Walk
import HandS.Defaults
import HandS.HeadEnd
import HandS.HeadHook2
import HandS.Head2
import HandS.Conv
import HandS.Text
import HandS.Codes
import HandS.NoneIn
import HandS.CallLocal
import HandS.Strs
import HandS.Set
import HandS.SetKeys
import KE.KDictList
import HandS.TupLe
import HandS.Dict
import PySem.Challenge.RW_sumtold_k31_rolls_merged
set_option Elab.async false
set_option linter.all false
set_option maxRecDepth 100000
set_option maxHeartbeats 4000000
namespace Go
open PySem PySem.Spec PyProof.Rows L2
/-! ### readings by short names -/
abbrev rAddI : R2 := rI0 fun i j => .int (i + j)
abbrev rSubI : R2 := rI0 fun i j => .int (i - j)
abbrev rMulI : R2 := rI CMul fun i j => .int (i * j)
abbrev rMulX : R2 := rI CMulX fun i j => .int (i * j)
abbrev rDivI : R2 := rI CDivW fun i j => .int (i / j)
abbrev rModI : R2 := rI (fun _ j => 0 < j) fun i j => .int (i % j)
abbrev rPowI : R2 := rI CPow fun i j => .int (i ^ j.toNat)
abbrev rShlI : R2 := rI CShl fun i j => .int (i * 2 ^ j.toNat)
abbrev rShrI : R2 := rI (fun _ j => 0 ≤ j) fun i j => .int (i / 2 ^ j.toNat)
abbrev rAndI : R2 := rI0 fun i j => .int (Builtin.bitAnd i j)
abbrev rLtI : R2 := rI0 fun i j => .bl (decide (i < j))
abbrev rLeI : R2 := rI0 fun i j => .bl (decide (i ≤ j))
abbrev rGtI : R2 := rI0 fun i j => .bl (decide (j < i))
abbrev rGeI : R2 := rI0 fun i j => .bl (decide (j ≤ i))
abbrev rNegI : V → Hp → VK → Prop := rU fun i => .int (-i)
abbrev rAbs : List V → Hp → VK → Prop := fun xs H Q => ∃ i, xs = [.int i] ∧ Q (.int (if i < 0 then -i else i)) H
abbrev rMin2 : List V → Hp → VK → Prop := fun xs H Q => ∃ i j, xs = [.int i, .int j] ∧ Q (.int (if j < i then j else i)) H
abbrev rInt1 : List V → Hp → VK → Prop := fun xs H Q => (∃ i, xs = [.int i] ∧ Q (.int i) H) ∨ ∃ k, xs = [.bl k] ∧ Q (.int (if k then 1 else 0)) H
abbrev rTupOf (K : PySem.W.Frag) : List V → Hp → VK → Prop := fun xs H Q => ∃ p ys, xs = [.ref p] ∧ ((SqL K H p ys ∧ ∀ l, H l = none → Q (.ref l) (upd H l (.tup ys))) ∨ (SqT K H p ys ∧ Q (.ref p) H))
abbrev rAddStr : R2 := fun x y H Q => ∃ i j, x = .str i ∧ y = .str j ∧ i.length + j.length ≤ sizeLine ∧ Q (.str (i ++ j)) H
abbrev rLenStr : List V → Hp → VK → Prop := fun xs H Q => ∃ z, xs = [.str z] ∧ z.length ≤ sizeLine ∧ Q (.int z.length) H
/-! ### a def that keeps its promise, by its name -/
abbrev FnP (K : PySem.W.Frag) (x : Str) (st : Stmt) (f : Addr) (fd : FuncData) : Prop := FunD K x x (defArgs st) (defBody st) (defScope st) [] [] f fd
def Has (P : Program) (w : World) (K : PySem.W.Frag) (mg : Str → Option Value) (base : Heap) (x : Str) (k : Nat) (ps : List Str) (sp : Sp) : Prop :=
  ∃ (f : Addr) (fd : FuncData), mg x = some (.ref f) ∧ PySem.W.keepIn K (.ref f) = true ∧ Binds K fd ps [] ∧ FnOk P w K mg base CX0 k f fd ps sp
theorem pe_has {X : Cx} {x : Str} {p pos : Pos} {e : Expr} {es : List Expr} {t : TA} {k : Nat} {ps : List Str} {sp : Sp} (h : Has X.prog X.w X.K X.mg X.base x k ps sp) (hr : Room k X.A) (hg : Gl X x) (ha : PA X (e :: es) t)
    (hd : (x == ("__debug__" : Str)) = false := by decide) (he : starEach (e :: es) X.env = (false, eval e X.env) :: starEach es X.env := by rfl) (hpl : (backTo pos (starEach es X.env)).any (·.1) = false := by rfl) :
    PE X (.Call (.Name x p) (e :: es) [] pos) (tCall sp [] E0 t) := by
  obtain ⟨f, fd, gm, kp, b, F⟩ := h
  exact pe_call F hr hg gm kp b .nil pass0 ha hd he hpl
/-! ### stepping -/
section
variable {K : PySem.W.Frag} {σ : L2.St} {H H' : Hp} {Q : VK} {QB : Bool → Hp → Prop} {D : Ends} {t u : TS} {c c' : TT} {te ta tb tc : TE} {tr : TA} {i : Nat} {v x y : V} {r r' : R2} {a b : Addr} {o : HO} {xs ys : List V}
theorem w_seq (h : t { D with nx := u D } σ H) : tSeq t u D σ H := h
theorem w_next (h : D.nx σ H) : tNext D σ H := h
theorem w_asg (h : te σ H fun x H1 => D.nx (σ.set i (some x)) H1) : tAsg te (gName i) D σ H := h
theorem w_drop (h : te σ H fun _ H1 => D.nx σ H1) : tDrop te D σ H := h
theorem w_ret (h : te σ H D.rt) : tRet te D σ H := h
theorem w_if (h : c σ H fun b H1 => if b = true then t D σ H1 else u D σ H1) : tIfS c t u D σ H := h
theorem w_par {j : Nat} (h : tr σ H fun vs H1 => ∃ v w, vs = [v, w] ∧ D.nx ((σ.set i (some v)).set j (some w)) H1) : tPar i j tr D σ H := h
theorem w_sub {to ti : TE} {ts : TSet} (h : te σ H fun x H1 => to σ H1 fun o H2 => ti σ H2 fun i H3 => ts o i x H3 fun H4 => D.nx σ H4) : tAsg te (gSub to ti ts) D σ H := h
theorem w_setL {xs : List V} {k : Int} {j : Nat} {Qh : Hp → Prop} (h : H a = some (.lst xs)) (hj : ixN xs.length k = some j) (q : Qh (upd H a (.lst (xs.set j v)))) : rSetL (.ref a) (.int k) v H Qh := ⟨a, xs, k, j, rfl, rfl, h, hj, q⟩
theorem w_gName {QS : L2.St → Hp → Prop} (q : QS (σ.set i (some v)) H) : gName i v σ H QS := q
theorem w_gTup {n : Nat} {tg : TGs} {QS : L2.St → Hp → Prop} (h : SqT K H a xs) (hn : xs.length = n) (q : tg xs σ H QS) : gTup K n tg (.ref a) σ H QS := ⟨a, xs, rfl, h, hn, q⟩
theorem w_gCons {g1 : TG} {tg : TGs} {QS : L2.St → Hp → Prop} (q : g1 v σ H fun σ' H' => tg xs σ' H' QS) : gCons g1 tg (v :: xs) σ H QS := ⟨v, xs, rfl, q⟩
theorem w_gNil {QS : L2.St → Hp → Prop} (q : QS σ H) : gNil [] σ H QS := ⟨rfl, q⟩
theorem w_asgG {g : TG} (h : te σ H fun x H1 => g x σ H1 D.nx) : tAsg te g D σ H := h
theorem w_var (h : σ[i]? = some (some v)) (q : Q v H) : tVar i σ H Q := ⟨v, h, q⟩
theorem w_con (q : Q v H) : tC v σ H Q := q
theorem w_op (h : ta σ H fun x H1 => tb σ H1 fun y H2 => r x y H2 Q) : tOp r ta tb σ H Q := h
theorem w_un {r : V → Hp → VK → Prop} (h : ta σ H fun x H1 => r x H1 Q) : tUn r ta σ H Q := h
theorem w_I0 {g : Int → Int → V} {i j : Int} (q : Q (g i j) H) : rI0 g (.int i) (.int j) H Q := ⟨i, j, rfl, rfl, q⟩
theorem w_I {C : Int → Int → Prop} {g : Int → Int → V} {i j : Int} (hc : C i j) (q : Q (g i j) H) : rI C g (.int i) (.int j) H Q := ⟨i, j, rfl, rfl, hc, q⟩
theorem w_mulI {i j : Int} (hc : CMul i j) (q : Q (.int (i * j)) H) : rMulI (.int i) (.int j) H Q := w_I hc q
theorem w_modI {i j : Int} (hc : 0 < j) (q : Q (.int (i % j)) H) : rModI (.int i) (.int j) H Q := w_I (C := fun _ j => 0 < j) hc q
theorem w_divI {i j : Int} (hc : CDivW i j) (q : Q (.int (i / j)) H) : rDivI (.int i) (.int j) H Q := w_I hc q
theorem w_powI {i j : Int} (hc : CPow i j) (q : Q (.int (i ^ j.toNat)) H) : rPowI (.int i) (.int j) H Q := w_I hc q
theorem w_shrI {i j : Int} (hc : 0 ≤ j) (q : Q (.int (i / 2 ^ j.toNat)) H) : rShrI (.int i) (.int j) H Q := w_I (C := fun _ j => 0 ≤ j) hc q
theorem w_mulX {i j : Int} (hc : CMulX i j) (q : Q (.int (i * j)) H) : rMulX (.int i) (.int j) H Q := w_I hc q
theorem w_shlI {i j : Int} (hc : CShl i j) (q : Q (.int (i * 2 ^ j.toNat)) H) : rShlI (.int i) (.int j) H Q := w_I hc q
theorem w_U {g : Int → V} {i : Int} (q : Q (g i) H) : rU g (.int i) H Q := ⟨i, rfl, q⟩
theorem w_eq (hs : scal x y = true) (q : Q (.bl (decide (x = y))) H) : rEq x y H Q := ⟨hs, q⟩
theorem w_ne (hs : scal x y = true) (q : Q (.bl (!decide (x = y))) H) : rNe x y H Q := ⟨hs, q⟩
theorem w_isB {p q : Bool} (h : Q (.bl (decide (p = q))) H) : rIsB (.bl p) (.bl q) H Q := ⟨p, q, rfl, rfl, h⟩
theorem w_notB {p q : Bool} (h : Q (.bl (!decide (p = q))) H) : rNotB (.bl p) (.bl q) H Q := ⟨p, q, rfl, rfl, h⟩
theorem w_isN (h : Q (.bl (decide (x = .non))) H) : L2.rIsN x .non H Q := ⟨rfl, h⟩
theorem w_notN (h : Q (.bl (!decide (x = .non))) H) : L2.rNotN x .non H Q := ⟨rfl, h⟩
theorem w_test (h : te σ H fun x H' => ∃ k, x = .bl k ∧ QB k H') : tTest te σ H QB := h
theorem w_tB (h : te σ H fun x H' => ∃ k, x = .bl k ∧ QB k H') : tB te σ H QB := h
theorem w_k {k : Bool} {R : Bool → Prop} (q : R k) : ∃ k', V.bl k = .bl k' ∧ R k' := ⟨k, rfl, q⟩
theorem w_not (h : c σ H fun k H1 => QB (!k) H1) : tNot c σ H QB := h
theorem w_and (h : c σ H fun k H1 => if k = true then c' σ H1 QB else QB false H1) : tAnd c c' σ H QB := h
theorem w_or (h : c σ H fun k H1 => if k = true then QB true H1 else c' σ H1 QB) : tOr c c' σ H QB := h
theorem w_andV (h : ta σ H fun x H1 => ∃ k, x = .bl k ∧ if k = true then tb σ H1 Q else Q (.bl false) H1) : tAndV ta tb σ H Q := h
theorem w_orV (h : ta σ H fun x H1 => ∃ k, x = .bl k ∧ if k = true then Q (.bl true) H1 else tb σ H1 Q) : tOrV ta tb σ H Q := h
theorem w_notV (h : ta σ H fun x H1 => ∃ k, x = .bl k ∧ Q (.bl (!k)) H1) : tNotV ta σ H Q := h
theorem w_chain (h : ta σ H fun x H1 => tb σ H1 fun y H2 => r x y H2 fun z H3 => ∃ k, z = .bl k ∧ (if k = true then tc σ H3 fun w' H4 => r' y w' H4 Q else Q (.bl false) H3)) : tChain r r' ta tb tc σ H Q := h
theorem w_orT (h : ta σ H fun x H1 => ∃ k, TruV K x H1 k ∧ if k = true then Q x H1 else tb σ H1 Q) : tOrT K ta tb σ H Q := h
theorem w_andT (h : ta σ H fun x H1 => ∃ k, TruV K x H1 k ∧ if k = true then tb σ H1 Q else Q x H1) : tAndT K ta tb σ H Q := h
theorem w_truI {n : Int} {R : Bool → Prop} (q : R (n != 0)) : ∃ k, TruV K (.int n) H k ∧ R k := ⟨_, rfl, q⟩
theorem w_ifE (h : c σ H fun k H1 => if k = true then ta σ H1 Q else tb σ H1 Q) : tIf c ta tb σ H Q := h
theorem w_nil {QL : List V → Hp → Prop} (q : QL [] H) : tNil σ H QL := q
theorem w_cons {QL : List V → Hp → Prop} (h : te σ H fun x H1 => tr σ H1 fun xs H2 => QL (x :: xs) H2) : tCons te tr σ H QL := h
theorem w_tup (h : tr σ H fun xs H1 => xs.length ≤ sizeLine ∧ ∀ p, H1 p = none → Q (.ref p) (upd H1 p (.tup xs))) : tTup tr σ H Q := h
theorem w_lst (h : tr σ H fun xs H1 => xs.length ≤ sizeLine ∧ ∀ p, H1 p = none → Q (.ref p) (upd H1 p (.lst xs))) : tLst tr σ H Q := h
theorem w_call {sp : Sp} {E : XK} (h : tr σ H fun vs H1 => sp vs H1 Q E) : tCall sp [] E tr σ H Q := by
  show tr σ H fun vs H1 => sp (vs ++ []) H1 Q E
  simp only [List.append_nil]
  exact h
theorem w_cb {r : List V → Hp → VK → Prop} (h : tr σ H fun vs H1 => r vs H1 Q) : tCB r tr σ H Q := h
theorem w_ixL {k : Int} (h : SqL K H a xs) (ha : atI xs k = some v) (q : Q v H) : rIxL K (.ref a) (.int k) H Q := ⟨a, xs, k, v, rfl, rfl, h, ha, q⟩
theorem w_ixT {k : Int} (h : SqT K H a xs) (ha : atI xs k = some v) (q : Q v H) : rIxT K (.ref a) (.int k) H Q := ⟨a, xs, k, v, rfl, rfl, h, ha, q⟩
theorem w_ixsL {k : Int} (h : SqL K H a xs) (ha : atI xs k = some v) (q : Q v H) : rIx K (.ref a) (.int k) H Q := .inl ⟨a, xs, k, v, rfl, rfl, h, ha, q⟩
theorem w_ixsT {k : Int} (h : SqT K H a xs) (ha : atI xs k = some v) (q : Q v H) : rIx K (.ref a) (.int k) H Q := .inr (.inl ⟨a, xs, k, v, rfl, rfl, h, ha, q⟩)
theorem w_min2 {m n : Int} (q : Q (.int (if n < m then n else m)) H) : rMin2 [.int m, .int n] H Q := ⟨m, n, rfl, q⟩
theorem w_max2 {m n : Int} (q : Q (.int (if n > m then n else m)) H) : Evl.rMax2 [.int m, .int n] H Q := ⟨m, n, rfl, q⟩
theorem w_bitsI {n : Int} {R : Int → Prop} (q : R n) : ∃ i, V.int n = .int i ∧ R i := ⟨n, rfl, q⟩
theorem w_abs {n : Int} (q : Q (.int (n.natAbs : Int)) H) : rAbs [.int n] H Q := ⟨n, rfl, by
  have e : (if n < 0 then -n else n) = (n.natAbs : Int) := by split <;> omega
  rw [e]; exact q⟩
theorem w_intB {k : Bool} (q : Q (.int (if k then 1 else 0)) H) : rInt1 [.bl k] H Q := .inr ⟨k, rfl, q⟩
theorem w_tupOfL (h : SqL K H a ys) (q : ∀ l, H l = none → Q (.ref l) (upd H l (.tup ys))) : rTupOf K [.ref a] H Q := ⟨a, ys, rfl, .inl ⟨h, q⟩⟩
theorem w_lenL (h : SqL K H a xs) (q : Q (.int xs.length) H) : Evl.rLenS K [.ref a] H Q := ⟨a, xs, rfl, .inl h, q⟩
theorem w_lenT (h : SqT K H a xs) (q : Q (.int xs.length) H) : Evl.rLenS K [.ref a] H Q := ⟨a, xs, rfl, .inr h, q⟩
theorem w_isi {cc : V} {tt uu : Value} {k : Bool} (hc : ClsV cc uu) (ht : TyX K H x tt) (hk : PySem.W.kitOne K tt uu = some k) (q : Q (.bl k) H) : rIsi K [x, cc] H Q := ⟨x, cc, tt, uu, k, rfl, hc, ht, hk, q⟩
theorem w_sl {rr : V → Option Int → Option Int → Hp → VK → Prop} {tl th : TO} (h : te σ H fun x H1 => tl σ H1 fun l H2 => th σ H2 fun u H3 => rr x l u H3 Q) : tSl rr te tl th σ H Q := h
theorem w_noPart {QO : Option Int → Hp → Prop} (q : QO none H) : tNoPart σ H QO := q
theorem w_part {QO : Option Int → Hp → Prop} (h : te σ H fun x H1 => ∃ i, x = .int i ∧ QO (some i) H1) : tPart te σ H QO := h
theorem w_partI {R : Int → Prop} {n : Int} (q : R n) : ∃ i, V.int n = .int i ∧ R i := ⟨n, rfl, q⟩
theorem w_slL {lo hi : Option Int} (h : SqL K H a xs) (q : ∀ p, H p = none → Q (.ref p) (upd H p (.lst (cutV xs lo hi)))) : rSlL K (.ref a) lo hi H Q := ⟨a, xs, rfl, h, q⟩
theorem w_cat (h : H a = some (.lst xs)) (h' : H b = some (.lst ys)) (hl : xs.length + ys.length ≤ sizeLine) (q : ∀ p, H p = none → Q (.ref p) (upd H p (.lst (xs ++ ys)))) : rCat (.ref a) (.ref b) H Q := ⟨a, b, xs, ys, rfl, rfl, h, h', hl, q⟩
theorem w_eqD {d e : PyData} (h1 : Dp K H x d) (h2 : Dp K H y e) (s1 : SeqAt.shaped d = true) (s2 : SeqAt.shaped e = true) (q : Q (.bl (PyData.eqv d e)) H) : rEqD K x y H Q := ⟨d, e, h1, h2, s1, s2, q⟩
theorem w_neD {d e : PyData} (h1 : Dp K H x d) (h2 : Dp K H y e) (s1 : SeqAt.shaped d = true) (s2 : SeqAt.shaped e = true) (q : Q (.bl (!PyData.eqv d e)) H) : rNeD K x y H Q := ⟨d, e, h1, h2, s1, s2, q⟩
theorem w_eqD_same {d : PyData} (h1 : Dp K H x d) (h2 : Dp K H y d) (s1 : SeqAt.shaped d = true) (q : Q (.bl true) H) : rEqD K x y H Q := ⟨d, d, h1, h2, s1, s1, by rw [SeqAt.eqv_refl d (SeqAt.canLay_of_shaped s1)]; exact q⟩
theorem w_neD_same {d : PyData} (h1 : Dp K H x d) (h2 : Dp K H y d) (s1 : SeqAt.shaped d = true) (q : Q (.bl false) H) : rNeD K x y H Q := ⟨d, d, h1, h2, s1, s1, by rw [SeqAt.eqv_refl d (SeqAt.canLay_of_shaped s1)]; exact q⟩
theorem dpP {m n : Int} (h : H a = some (.tup [.int m, .int n])) : Dp K H (.ref a) (.tuple [.int m, .int n]) := .tup (SqT.of h) (.cons (.int _) (.cons (.int _) .nil))
theorem dpN (h : H a = some (.lst [])) : Dp K H (.ref a) (.list []) := .lst (SqL.of h) .nil
theorem eqv_pair {m n m' n' : Int} : PyData.eqv (.tuple [.int m, .int n]) (.tuple [.int m', .int n']) = (decide (m = m') && decide (n = n')) := by
  simp [PyData.eqv, PyData.eqvAll, Bool.beq_eq_decide_eq]
theorem w_bits (h : te σ H fun x H1 => ∃ i, x = .int i ∧ Q (.int (Builtin.Int.intBits i : Nat)) H1) : tBits te σ H Q := h
/-! ### heaps -/
theorem w_bm {T : String} {r : V → List V → Hp → VK → Prop} (h : te σ H fun x H1 => tyV K T x H1 ∧ tr σ H1 fun xs H2 => r x xs H2 Q) : tBM K T r te tr σ H Q := h
theorem w_bm0 {T : String} {r : V → List V → Hp → VK → Prop} (h : te σ H fun x H1 => tyV K T x H1 ∧ r x [] H1 Q) : tBM0 K T r te σ H Q := h
theorem w_tyL {R : Prop} (h : H a = some (.lst xs)) (q : R) : tyV K "list" (.ref a) H ∧ R := ⟨.inl ⟨rfl, _, SqL.of h⟩, q⟩
theorem w_tyS {R : Prop} {z : Str} (q : R) : tyV K "str" (.str z) H ∧ R := ⟨rfl, q⟩
theorem w_append (h : H a = some (.lst xs)) (hl : xs.length < sizeLine) (q : Q .non (upd H a (.lst (xs ++ [v])))) : rAppend (.ref a) [v] H Q := ⟨a, xs, v, rfl, rfl, h, hl, q⟩
theorem w_repT {k : Nat} (h : SqT K H a xs) (h0 : xs ≠ []) (h2 : 2 ≤ k) (h3 : k ≤ 1000) (h4 : xs.length ≤ 1000) (q : ∀ p, H p = none → Q (.ref p) (upd H p (.tup (List.replicate k xs).flatten))) : rRepT K (.ref a) (.int (k : Int)) H Q := ⟨a, k, xs, rfl, rfl, h, h0, by omega, by omega, h4, by rw [Int.toNat_natCast]; exact q⟩
theorem keep {p : Addr} {u : HO} (h : H a = some o) (hp : H p = none) : upd H p u a = some o := by
  rw [upd_ne (ne_of_none h hp)]; exact h
theorem get (e : Same H H') (h : H a = some o) : H' a = some o := e a o h
theorem same_new {p : Addr} {u : HO} (hp : H p = none) : Same H (upd H p u) := fun _ _ h => keep h hp
theorem same_in {H0 : Hp} {p : Addr} {u : HO} (s : Same H0 H) (hp : H p = none) : Same H0 (upd H p u) := s.trans (same_new hp)
theorem free_of {p : Addr} {u : HO} {q : Addr} (h : upd H p u q = none) : H q = none := by
  unfold upd at h
  split at h
  · cases h
  · exact h
theorem ne_new {p : Addr} {u : HO} {q : Addr} (h : upd H p u q = none) : q ≠ p := fun e => by
  rw [e, upd_same] at h; cases h
theorem sqL (h : H a = some (.lst xs)) : SqL K H a xs := SqL.of h
theorem sqT (h : H a = some (.tup xs)) : SqT K H a xs := SqT.of h
theorem tyT (h : H a = some (.tup xs)) : TyX K H (.ref a) (.type "tuple") := .base (.tup h)
end
/-! ### isinstance -/
section
variable {K : PySem.W.Frag} {H : Hp} {Q : VK}
theorem i_int_int {n : Int} (q : Q (.bl true) H) : rIsi K [.int n, .ty "int"] H Q := w_isi (.ty _) (.base (.int n)) (kit_ty (a := "int") (b := "int") (r := true) (by decide +kernel)) q
theorem i_int_bool {n : Int} (q : Q (.bl false) H) : rIsi K [.int n, .ty "bool"] H Q := w_isi (.ty _) (.base (.int n)) (kit_ty (a := "int") (b := "bool") (r := false) (by decide +kernel)) q
theorem i_int_str {n : Int} (q : Q (.bl false) H) : rIsi K [.int n, .ty "str"] H Q := w_isi (.ty _) (.base (.int n)) (kit_ty (a := "int") (b := "str") (r := false) (by decide +kernel)) q
theorem i_int_list {n : Int} (q : Q (.bl false) H) : rIsi K [.int n, .ty "list"] H Q := w_isi (.ty _) (.base (.int n)) (kit_ty (a := "int") (b := "list") (r := false) (by decide +kernel)) q
theorem i_int_tuple {n : Int} (q : Q (.bl false) H) : rIsi K [.int n, .ty "tuple"] H Q := w_isi (.ty _) (.base (.int n)) (kit_ty (a := "int") (b := "tuple") (r := false) (by decide +kernel)) q
theorem i_bl_int {b : Bool} (q : Q (.bl true) H) : rIsi K [.bl b, .ty "int"] H Q := w_isi (.ty _) (.base (.bl b)) (kit_ty (a := "bool") (b := "int") (r := true) (by decide +kernel)) q
theorem i_bl_bool {b : Bool} (q : Q (.bl true) H) : rIsi K [.bl b, .ty "bool"] H Q := w_isi (.ty _) (.base (.bl b)) (kit_ty (a := "bool") (b := "bool") (r := true) (by decide +kernel)) q
theorem i_bl_str {b : Bool} (q : Q (.bl false) H) : rIsi K [.bl b, .ty "str"] H Q := w_isi (.ty _) (.base (.bl b)) (kit_ty (a := "bool") (b := "str") (r := false) (by decide +kernel)) q
theorem i_bl_list {b : Bool} (q : Q (.bl false) H) : rIsi K [.bl b, .ty "list"] H Q := w_isi (.ty _) (.base (.bl b)) (kit_ty (a := "bool") (b := "list") (r := false) (by decide +kernel)) q
theorem i_bl_tuple {b : Bool} (q : Q (.bl false) H) : rIsi K [.bl b, .ty "tuple"] H Q := w_isi (.ty _) (.base (.bl b)) (kit_ty (a := "bool") (b := "tuple") (r := false) (by decide +kernel)) q
theorem i_str_int {z : Str} (q : Q (.bl false) H) : rIsi K [.str z, .ty "int"] H Q := w_isi (.ty _) (.base (.str z)) (kit_ty (a := "str") (b := "int") (r := false) (by decide +kernel)) q
theorem i_str_bool {z : Str} (q : Q (.bl false) H) : rIsi K [.str z, .ty "bool"] H Q := w_isi (.ty _) (.base (.str z)) (kit_ty (a := "str") (b := "bool") (r := false) (by decide +kernel)) q
theorem i_str_str {z : Str} (q : Q (.bl true) H) : rIsi K [.str z, .ty "str"] H Q := w_isi (.ty _) (.base (.str z)) (kit_ty (a := "str") (b := "str") (r := true) (by decide +kernel)) q
theorem i_str_list {z : Str} (q : Q (.bl false) H) : rIsi K [.str z, .ty "list"] H Q := w_isi (.ty _) (.base (.str z)) (kit_ty (a := "str") (b := "list") (r := false) (by decide +kernel)) q
theorem i_str_tuple {z : Str} (q : Q (.bl false) H) : rIsi K [.str z, .ty "tuple"] H Q := w_isi (.ty _) (.base (.str z)) (kit_ty (a := "str") (b := "tuple") (r := false) (by decide +kernel)) q
theorem i_non_int (q : Q (.bl false) H) : rIsi K [.non, .ty "int"] H Q := w_isi (.ty _) (.base .non) (kit_ty (a := "NoneType") (b := "int") (r := false) (by decide +kernel)) q
theorem i_non_bool (q : Q (.bl false) H) : rIsi K [.non, .ty "bool"] H Q := w_isi (.ty _) (.base .non) (kit_ty (a := "NoneType") (b := "bool") (r := false) (by decide +kernel)) q
theorem i_non_str (q : Q (.bl false) H) : rIsi K [.non, .ty "str"] H Q := w_isi (.ty _) (.base .non) (kit_ty (a := "NoneType") (b := "str") (r := false) (by decide +kernel)) q
theorem i_non_list (q : Q (.bl false) H) : rIsi K [.non, .ty "list"] H Q := w_isi (.ty _) (.base .non) (kit_ty (a := "NoneType") (b := "list") (r := false) (by decide +kernel)) q
theorem i_non_tuple (q : Q (.bl false) H) : rIsi K [.non, .ty "tuple"] H Q := w_isi (.ty _) (.base .non) (kit_ty (a := "NoneType") (b := "tuple") (r := false) (by decide +kernel)) q
theorem i_lst_int {a : Addr} {xs : List V} (h : H a = some (.lst xs)) (q : Q (.bl false) H) : rIsi K [.ref a, .ty "int"] H Q := w_isi (.ty _) (.base (.lst h)) (kit_ty (a := "list") (b := "int") (r := false) (by decide +kernel)) q
theorem i_lst_bool {a : Addr} {xs : List V} (h : H a = some (.lst xs)) (q : Q (.bl false) H) : rIsi K [.ref a, .ty "bool"] H Q := w_isi (.ty _) (.base (.lst h)) (kit_ty (a := "list") (b := "bool") (r := false) (by decide +kernel)) q
theorem i_lst_str {a : Addr} {xs : List V} (h : H a = some (.lst xs)) (q : Q (.bl false) H) : rIsi K [.ref a, .ty "str"] H Q := w_isi (.ty _) (.base (.lst h)) (kit_ty (a := "list") (b := "str") (r := false) (by decide +kernel)) q
theorem i_lst_list {a : Addr} {xs : List V} (h : H a = some (.lst xs)) (q : Q (.bl true) H) : rIsi K [.ref a, .ty "list"] H Q := w_isi (.ty _) (.base (.lst h)) (kit_ty (a := "list") (b := "list") (r := true) (by decide +kernel)) q
theorem i_lst_tuple {a : Addr} {xs : List V} (h : H a = some (.lst xs)) (q : Q (.bl false) H) : rIsi K [.ref a, .ty "tuple"] H Q := w_isi (.ty _) (.base (.lst h)) (kit_ty (a := "list") (b := "tuple") (r := false) (by decide +kernel)) q
theorem i_tup_int {a : Addr} {xs : List V} (h : H a = some (.tup xs)) (q : Q (.bl false) H) : rIsi K [.ref a, .ty "int"] H Q := w_isi (.ty _) (.base (.tup h)) (kit_ty (a := "tuple") (b := "int") (r := false) (by decide +kernel)) q
theorem i_tup_bool {a : Addr} {xs : List V} (h : H a = some (.tup xs)) (q : Q (.bl false) H) : rIsi K [.ref a, .ty "bool"] H Q := w_isi (.ty _) (.base (.tup h)) (kit_ty (a := "tuple") (b := "bool") (r := false) (by decide +kernel)) q
theorem i_tup_str {a : Addr} {xs : List V} (h : H a = some (.tup xs)) (q : Q (.bl false) H) : rIsi K [.ref a, .ty "str"] H Q := w_isi (.ty _) (.base (.tup h)) (kit_ty (a := "tuple") (b := "str") (r := false) (by decide +kernel)) q
theorem i_tup_list {a : Addr} {xs : List V} (h : H a = some (.tup xs)) (q : Q (.bl false) H) : rIsi K [.ref a, .ty "list"] H Q := w_isi (.ty _) (.base (.tup h)) (kit_ty (a := "tuple") (b := "list") (r := false) (by decide +kernel)) q
theorem i_tup_tuple {a : Addr} {xs : List V} (h : H a = some (.tup xs)) (q : Q (.bl true) H) : rIsi K [.ref a, .ty "tuple"] H Q := w_isi (.ty _) (.base (.tup h)) (kit_ty (a := "tuple") (b := "tuple") (r := true) (by decide +kernel)) q
theorem i_dK_int {a : Addr} {kvs : List (Key × V)} (h : H a = some (.dK kvs)) (q : Q (.bl false) H) : rIsi K [.ref a, .ty "int"] H Q := w_isi (.ty _) (.base (.dK h)) (kit_ty (a := "dict") (b := "int") (r := false) (by decide +kernel)) q
theorem i_dK_bool {a : Addr} {kvs : List (Key × V)} (h : H a = some (.dK kvs)) (q : Q (.bl false) H) : rIsi K [.ref a, .ty "bool"] H Q := w_isi (.ty _) (.base (.dK h)) (kit_ty (a := "dict") (b := "bool") (r := false) (by decide +kernel)) q
theorem i_dK_str {a : Addr} {kvs : List (Key × V)} (h : H a = some (.dK kvs)) (q : Q (.bl false) H) : rIsi K [.ref a, .ty "str"] H Q := w_isi (.ty _) (.base (.dK h)) (kit_ty (a := "dict") (b := "str") (r := false) (by decide +kernel)) q
theorem i_dK_list {a : Addr} {kvs : List (Key × V)} (h : H a = some (.dK kvs)) (q : Q (.bl false) H) : rIsi K [.ref a, .ty "list"] H Q := w_isi (.ty _) (.base (.dK h)) (kit_ty (a := "dict") (b := "list") (r := false) (by decide +kernel)) q
theorem i_dK_tuple {a : Addr} {kvs : List (Key × V)} (h : H a = some (.dK kvs)) (q : Q (.bl false) H) : rIsi K [.ref a, .ty "tuple"] H Q := w_isi (.ty _) (.base (.dK h)) (kit_ty (a := "dict") (b := "tuple") (r := false) (by decide +kernel)) q
end
/-! ### loops -/
/-- a while by a family of states -/
def Wt {α : Type} (S : α → L2.St) (Pv : α → Hp → Prop) (μ : α → Nat) (m : Nat) (tb : TS) (D : Ends) (σ : L2.St) (H : Hp) : Prop :=
  ∃ N : L2.St → Hp → Prop, (∀ σ' H', N σ' H' → ∃ m', m' < m ∧ ∃ a', σ' = S a' ∧ Pv a' H' ∧ m' = μ a') ∧ tb { D with nx := N, ct := N, bk := D.nx } σ H
theorem w_while {α : Type} {c : TT} {tb : TS} {D : Ends} {σ : L2.St} {H : Hp} (S : α → L2.St) (Pv : α → Hp → Prop) (μ : α → Nat) (a0 : α) (e : σ = S a0) (h0 : Pv a0 H)
    (hs : ∀ a H, Pv a H → c (S a) H fun b H1 => if b = true then Wt S Pv μ (μ a) tb D (S a) H1 else D.nx (S a) H1) : tWhile c tb D σ H := by
  refine ⟨fun m σ H => ∃ a, σ = S a ∧ Pv a H ∧ m = μ a, ⟨_, a0, e, h0, rfl⟩, ?_⟩
  rintro m σ H ⟨a, rfl, p, rfl⟩
  exact hs a H p
theorem w_turn {α : Type} {tb : TS} {D : Ends} {σ : L2.St} {H : Hp} {S : α → L2.St} {Pv : α → Hp → Prop} {μ : α → Nat} {m : Nat}
    (h : tb { D with nx := fun σ' H' => ∃ a', σ' = S a' ∧ Pv a' H' ∧ μ a' < m, ct := fun σ' H' => ∃ a', σ' = S a' ∧ Pv a' H' ∧ μ a' < m, bk := D.nx } σ H) : Wt S Pv μ m tb D σ H :=
  ⟨_, fun _ _ ⟨a', e, p, l⟩ => ⟨_, l, a', e, p, rfl⟩, h⟩
section
variable {K : PySem.W.Frag} {σ : L2.St} {H : Hp} {D : Ends} {g : TG} {tb : TS} {tl : TE} {ta : TA}
theorem w_forI {wi : TI} (h : wi σ H fun J H1 => ∃ W : Nat → Nat → L2.St → Hp → Prop, (∃ m, W 0 m σ H1) ∧ ∀ i m σ H, W i m σ H →
    (J.stop i H ∧ D.nx σ H) ∨ (J.go i H ∧ ∃ N : L2.St → Hp → Prop, (∀ σ' H', N σ' H' → ∃ m', m' < m ∧ W (i + 1) m' σ' H') ∧ ∀ x H', J.yld i H x H' → g x σ H' fun σ2 H2 => tb { D with nx := N, ct := N, bk := D.nx } σ2 H2)) : tFor wi g tb D σ H := h
theorem w_iL {R : It → Hp → Prop} (h : tl σ H fun x H1 => ∃ a, x = .ref a ∧ (∃ xs, SqL K H1 a xs) ∧ R (Itl K a) H1) : iList K tl σ H R := h
theorem w_iT {R : It → Hp → Prop} (h : tl σ H fun x H1 => ∃ a, x = .ref a ∧ (∃ xs, SqT K H1 a xs) ∧ R (Itt K a) H1) : iTup K tl σ H R := h
theorem w_iR1 {R : It → Hp → Prop} (h : ta σ H fun vs H1 => ∃ j : Int, vs = [.int j] ∧ -(2 ^ 62) ≤ j ∧ j < 2 ^ 62 ∧ R (Itr 0 j.toNat) H1) : iRng1 ta σ H R := h
theorem w_iR2 {R : It → Hp → Prop} (h : ta σ H fun vs H1 => ∃ i j : Int, vs = [.int i, .int j] ∧ (-(2 ^ 62) ≤ i ∧ i < 2 ^ 62 ∧ -(2 ^ 62) ≤ j ∧ j < 2 ^ 62) ∧ R (Itr i (j - i).toNat) H1) : iRng2 ta σ H R := h
theorem w_iZT {R : It → Hp → Prop} (h : ta σ H fun vs H1 => ∃ a b xs ys, vs = [.ref a, .ref b] ∧ ((SqL K H1 a xs ∧ SqL K H1 b ys ∧ R (Itz K a b) H1) ∨ (SqT K H1 a xs ∧ SqT K H1 b ys ∧ R (RZ.ItzT K a b) H1))) : RZ.iZipA K ta σ H R := h
theorem walk_zipT {a b : Addr} {xs ys : List V} {n : Nat} (hn : n = min xs.length ys.length) : Walk (RZ.ItzT K a b) n (fun H => SqT K H a xs ∧ SqT K H b ys) (YPair (fun i => xs[i]?) (fun i => ys[i]?)) where
  goes := fun i H hi h => ⟨xs, ys, xs[i], ys[i], h.1, h.2, List.getElem?_eq_getElem (by omega), List.getElem?_eq_getElem (by omega)⟩
  stops := fun H h => ⟨xs, ys, h.1, h.2, by omega⟩
  yields := fun i H x H' hi h y => by
    obtain ⟨T, u, v, e, n, e2, f1, f2⟩ := y
    exact ⟨T, u, v, e, n, e2, f1 xs h.1, f2 ys h.2⟩
theorem w_yes {QB : Bool → Hp → Prop} (q : QB true H) : tYes σ H QB := q
theorem w_lc {wi : TI} {tt : TT} {te : TE} {vs : List Nat} {Q : VK} (h : wi σ H fun J H1 => ∀ D, H1 D = none → ∃ W : Nat → Nat → Hp → Prop, (∃ m, W 0 m (upd H1 D (.lst []))) ∧ ∀ i m H, W i m H →
  (J.stop i H ∧ Q (.ref D) H) ∨ (J.go i H ∧ ∃ Nx : Hp → Prop, (∀ H', Nx H' → ∃ m', m' < m ∧ W (i + 1) m' H') ∧ ∀ x H', J.yld i H x H' → g x (wipe σ vs) H' fun σ2 H2 => wipe σ2 vs = wipe σ vs ∧ tt σ2 H2 fun b H3 =>
    if b = true then te σ2 H3 fun y H4 => ∃ acc, H4 D = some (.lst acc) ∧ acc.length < sizeLine ∧ Nx (upd H4 D (.lst (acc ++ [y]))) else Nx H3)) : tLc wi g tt te vs σ H Q := h
end
/-! ### tests that are known -/
theorem if_t {c : Bool} {A B : Prop} (hc : c = true) (h : A) : if c = true then A else B := by rw [if_pos hc]; exact h
theorem if_f {c : Bool} {A B : Prop} (hc : c = false) (h : B) : if c = true then A else B := by rw [hc, if_neg Bool.false_ne_true]; exact h
theorem if_2 {c : Prop} [Decidable c] {A B : Prop} (h1 : c → A) (h2 : ¬ c → B) : if decide c = true then A else B := by
  by_cases h : c
  · exact if_t (decide_eq_true h) (h1 h)
  · exact if_f (decide_eq_false h) (h2 h)
theorem if_n2 {c : Prop} [Decidable c] {A B : Prop} (h1 : ¬ c → A) (h2 : c → B) : if (!decide c) = true then A else B := by
  by_cases h : c
  · exact if_f (by rw [decide_eq_true h]; rfl) (h2 h)
  · exact if_t (by rw [decide_eq_false h]; rfl) (h1 h)
theorem if_b {c : Bool} {A B : Prop} (h1 : c = true → A) (h2 : c = false → B) : if c = true then A else B := by
  cases c with
  | true => exact if_t rfl (h1 rfl)
  | false => exact if_f rfl (h2 rfl)
theorem V.int_inj {i j : Int} : (V.int i = V.int j) ↔ i = j := ⟨fun h => V.int.inj h, fun h => by rw [h]⟩
end Go

set_option Elab.async false
set_option linter.all false
set_option maxRecDepth 100000
set_option maxHeartbeats 4000000
namespace Go
open PySem PySem.Spec PyProof.Rows L2
/-! ### constants, texts -/
theorem pe_globI {X : Cx} {x : Str} {i : Int} {pos : Pos} (hg : Gl X x) (h : ∃ t, X.mg x = some (.int i t)) (hd : (x == ("__debug__" : Str)) = false := by decide) : PE X (.Name x pos) (tC (.int i)) := by
  obtain ⟨t, h⟩ := h
  exact pe_glob hg h ⟨t, rfl⟩ hd
theorem pe_globS {X : Cx} {x z : Str} {pos : Pos} (hg : Gl X x) (h : ∃ t, X.mg x = some (.str z t)) (hd : (x == ("__debug__" : Str)) = false := by decide) : PE X (.Name x pos) (tC (.str z)) := by
  obtain ⟨t, h⟩ := h
  exact pe_glob hg h ⟨t, rfl⟩ hd
abbrev one1 (c : Nat) : V := .str ⟨#[c]⟩
abbrev rListStr : List V → Hp → VK → Prop := fun xs H Q => ∃ z : Str, xs = [.str z] ∧ z.length ≤ sizeLine ∧ ∀ l, H l = none → Q (.ref l) (upd H l (.lst (z.cps.toList.map one1)))
theorem call_list_sign {X : Cx} (hc : X.calm = true) : CallR X (.type "list") rListStr := by
  intro pins s σ H xs us Q I r h
  obtain ⟨z, rfl, hz, q⟩ := h
  obtain ⟨u, rfl, t, rfl⟩ := vals1 r
  refine call_list_str (I.ok.hd hc) z t (hn := hz) fun h' tk acc c' hk hS hacc => ?_
  refine ⟨.ref s.heap.objs.size, upd H s.heap.objs.size (.lst (z.cps.toList.map one1)), I.laid hk (Nat.le_refl _) (show ObjOk X.prog X.w _ _ _ (.lst (z.cps.toList.map one1)) from ⟨?_, acc.toList, c', ?_, ?_⟩), rfl, q _ (I.hok.fresh (Nat.le_refl _))⟩
  · rw [List.length_map, Array.length_toList]; exact hz
  · have el : acc.toList.length = acc.size := by simp
    refine vals_of_at (by rw [List.length_map, el, hacc.1, Array.length_toList]) fun j x w h1 h2 => ?_
    obtain ⟨c, u, hcu, rfl⟩ := hacc.2 j w (by rw [← Array.getElem?_toList]; exact h2)
    rw [List.getElem?_map, Array.getElem?_toList, hcu] at h1
    cases h1
    exact ⟨u, rfl⟩
  · rw [Array.toArray_toList]; exact hS
abbrev rRepStr : R2 := fun x y H Q => ∃ (z : Str) (n : Nat), x = .str z ∧ y = .int (n : Int) ∧ z.length * n ≤ 1000 ∧ n ≤ 1000 ∧ Q (.str (Txt.mul z (n : Int))) H
theorem op_rep_str {X : Cx} : OpR X (binaryOp .Mult) rRepStr := by
  intro pins s σ H x y v u Q I rx ry h
  obtain ⟨z, n, rfl, rfl, hz, hn, q⟩ := h
  obtain ⟨t, rfl⟩ := rx
  obtain ⟨t', rfl⟩ := ry
  refine SB.mul ⟨?_, fun h1 h2 => ?_, fun h1 h2 => ?_⟩ fun t2 k => ⟨.str (Txt.mul z (n : Int)), H, ?_, ⟨_, rfl⟩, q⟩
  · rw [decide_eq_false (by omega), decide_eq_false (by omega)]; rfl
  · intro h3
    have h4 : (z.length : Int) * n ≤ 1000 := by exact_mod_cast hz
    have h5 : 1 ≤ (n : Int) := by omega
    have h6 : (1000 : Int) ≤ (2 ^ 63 - 1) / n := by
      rw [Int.le_ediv_iff_mul_le (by omega)]
      omega
    have h7 : (z.length : Int) ≤ z.length * n := by
      have := Int.mul_le_mul_of_nonneg_left h5 (Int.natCast_nonneg z.length)
      omega
    omega
  · rw [Int.toNat_natCast]
    have h9 : ¬ z.length * n > sizeLine := Nat.not_lt.mpr (Nat.le_trans hz (by decide))
    exact decide_eq_false h9
  · exact I.tok _
abbrev rLeS : R2 := fun x y H Q => ∃ i j, x = .str i ∧ y = .str j ∧ Q (.bl (!decide (j.cps.toList < i.cps.toList))) H
abbrev rGtS : R2 := fun x y H Q => ∃ i j, x = .str i ∧ y = .str j ∧ Q (.bl (decide (j.cps.toList < i.cps.toList))) H
abbrev rGeS : R2 := fun x y H Q => ∃ i j, x = .str i ∧ y = .str j ∧ Q (.bl (!decide (i.cps.toList < j.cps.toList))) H
abbrev rLtS : R2 := fun x y H Q => ∃ i j, x = .str i ∧ y = .str j ∧ Q (.bl (decide (i.cps.toList < j.cps.toList))) H
abbrev tJoin (K : PySem.W.Frag) (to te : TE) : TE := tM1 (fun x xs H Q => ∃ a p, ∃ ys : List Str, x = .str a ∧ xs = [.ref p] ∧ (SqL K H p (ys.map V.str) ∨ SqT K H p (ys.map V.str)) ∧
      (ys.map (·.length)).sum + ys.length * a.length ≤ 16777216 ∧ Q (.str (Txt.join a ys)) H) to te
abbrev tSplit (to te : TE) : TE := tM1 (fun x xs H Q => ∃ a b, x = .str a ∧ xs = [.str b] ∧ (b.length == 0) = false ∧ a.length + 2 ≤ sizeLine ∧ rNewStrs (Txt.split a b) H Q) to te
section
variable {K : PySem.W.Frag} {σ : L2.St} {H H' : Hp} {Q : VK} {te to : TE} {a b : Addr} {xs ys : List V} {v : V} {z z' : Str}
theorem w_join (h : to σ H fun x H1 => (∃ a, x = .str a) ∧ te σ H1 fun y H2 => ∃ a p, ∃ ys : List Str, x = .str a ∧ [y] = [.ref p] ∧ (SqL K H2 p (ys.map V.str) ∨ SqT K H2 p (ys.map V.str)) ∧
      (ys.map (·.length)).sum + ys.length * a.length ≤ 16777216 ∧ Q (.str (Txt.join a ys)) H2) : tJoin K to te σ H Q := h
theorem w_joinL {ys : List Str} (h : H a = some (.lst (ys.map V.str))) (hl : (ys.map (·.length)).sum + ys.length * z.length ≤ 16777216) (q : Q (.str (Txt.join z ys)) H) :
    ∃ a', ∃ p, ∃ ys : List Str, V.str z = .str a' ∧ [V.ref a] = [.ref p] ∧ (SqL K H p (ys.map V.str) ∨ SqT K H p (ys.map V.str)) ∧ (ys.map (·.length)).sum + ys.length * a'.length ≤ 16777216 ∧ Q (.str (Txt.join a' ys)) H :=
  ⟨z, a, ys, rfl, rfl, .inl (SqL.of h), hl, q⟩
theorem w_strE {R : Prop} (q : R) : (∃ a, V.str z = .str a) ∧ R := ⟨⟨z, rfl⟩, q⟩
theorem w_lenStr (hl : z.length ≤ sizeLine) (q : Q (.int z.length) H) : rLenStr [.str z] H Q := ⟨z, rfl, hl, q⟩
theorem w_ixS {i : Int} {c : Nat} (hl : z.length ≤ sizeLine) (hc : atI z.cps.toList i = some c) (q : Q (one1 c) H) : rIxS (.str z) (.int i) H Q := ⟨z, i, c, rfl, rfl, hl, hc, q⟩
theorem w_slS {lo hi : Option Int} (hl : z.length ≤ sizeLine) (q : Q (.str (cutS z lo hi)) H) : rSlS (.str z) lo hi H Q := ⟨z, rfl, hl, q⟩
theorem w_addStr (hl : z.length + z'.length ≤ sizeLine) (q : Q (.str (z ++ z')) H) : rAddStr (.str z) (.str z') H Q := ⟨z, z', rfl, rfl, hl, q⟩
theorem w_inS {c : Nat} (q : Q (.bl (decide (c ∈ z.cps.toList))) H) : rInS (one1 c) (.str z) H Q := ⟨c, z, rfl, rfl, q⟩
theorem w_leS (q : Q (.bl (!decide (z'.cps.toList < z.cps.toList))) H) : rLeS (.str z) (.str z') H Q := ⟨z, z', rfl, rfl, q⟩
theorem w_all {bs : List Bool} (h : H a = some (.lst (bs.map V.bl))) (q : Q (.bl (bs.all id)) H) : rAll K [.ref a] H Q := ⟨a, bs, rfl, SqL.of h, q⟩
theorem w_any {bs : List Bool} (h : H a = some (.lst (bs.map V.bl))) (q : Q (.bl (bs.any id)) H) : rAny K [.ref a] H Q := ⟨a, bs, rfl, SqL.of h, q⟩
theorem w_iS {R : It → Hp → Prop} (h : te σ H fun v H1 => ∃ x, v = .str x ∧ R (Its x) H1) : iStr te σ H R := h
theorem w_iSE {R : Str → Prop} (q : R z) : ∃ x, V.str z = .str x ∧ R x := ⟨z, rfl, q⟩
theorem w_listStr (hl : z.length ≤ sizeLine) (q : ∀ l, H l = none → Q (.ref l) (upd H l (.lst (z.cps.toList.map one1)))) : rListStr [.str z] H Q := ⟨z, rfl, hl, q⟩
theorem w_listT (h : SqT K H a ys) (q : ∀ l, H l = none → Q (.ref l) (upd H l (.lst ys))) : Evl.rListS K [.ref a] H Q := ⟨a, ys, rfl, .inr h, q⟩
theorem w_listL (h : SqL K H a ys) (q : ∀ l, H l = none → Q (.ref l) (upd H l (.lst ys))) : Evl.rListS K [.ref a] H Q := ⟨a, ys, rfl, .inl h, q⟩
theorem w_gUnl {n : Nat} {tg : TGs} {QS : L2.St → Hp → Prop} (h : SqL K H a xs) (hn : xs.length = n) (q : tg xs σ H QS) : gUnl K n tg (.ref a) σ H QS := ⟨a, xs, rfl, h, hn, q⟩
theorem w_dnew (q : ∀ p, H p = none → Q (.ref p) (upd H p (.dK []))) : tDNewK σ H Q := q
theorem w_in {neg : Bool} (h : SqL K H a xs ∨ SqT K H a xs) (fx : flatV v = true) (fs : xs.all flatV = true) (q : Q (.bl (if neg then !inV v xs else inV v xs)) H) : rIn K neg v (.ref a) H Q := ⟨a, xs, rfl, h, fx, fs, q⟩
theorem w_rep_str {n : Nat} (h1 : z.length * n ≤ 1000) (h2 : n ≤ 1000) (q : Q (.str (Txt.mul z (n : Int))) H) : rRepStr (.str z) (.int (n : Int)) H Q := ⟨z, n, rfl, rfl, h1, h2, q⟩
end
/-! ### what kind of thing a value is -/
inductive Kd (H : Hp) : V → String → Prop
  | int (n : Int) : Kd H (.int n) "int"
  | bl (b : Bool) : Kd H (.bl b) "bool"
  | str (z : Str) : Kd H (.str z) "str"
  | non : Kd H .non "NoneType"
  | lst {a : Addr} {xs : List V} (h : H a = some (.lst xs)) : Kd H (.ref a) "list"
  | tup {a : Addr} {xs : List V} (h : H a = some (.tup xs)) : Kd H (.ref a) "tuple"
  | dict {a : Addr} {kvs : List (Key × V)} (h : H a = some (.dK kvs)) : Kd H (.ref a) "dict"
section
variable {K : PySem.W.Frag} {H H' : Hp} {Q : VK} {v : V} {T : String}
theorem Kd.same (h : Kd H v T) (s : Same H H') : Kd H' v T := by
  cases h with
  | int n => exact .int n
  | bl b => exact .bl b
  | str z => exact .str z
  | non => exact .non
  | lst h => exact .lst (s _ _ h)
  | tup h => exact .tup (s _ _ h)
  | dict h => exact .dict (s _ _ h)
theorem k_int (h : Kd H v T) (q : Q (.bl (T == "int" || T == "bool")) H) : rIsi K [v, .ty "int"] H Q := by
  cases h with
  | int n => exact i_int_int q
  | bl b => exact i_bl_int q
  | str z => exact i_str_int q
  | non => exact i_non_int q
  | lst h => exact i_lst_int h q
  | tup h => exact i_tup_int h q
  | dict h => exact i_dK_int h q
theorem k_bool (h : Kd H v T) (q : Q (.bl (T == "bool")) H) : rIsi K [v, .ty "bool"] H Q := by
  cases h with
  | int n => exact i_int_bool q
  | bl b => exact i_bl_bool q
  | str z => exact i_str_bool q
  | non => exact i_non_bool q
  | lst h => exact i_lst_bool h q
  | tup h => exact i_tup_bool h q
  | dict h => exact i_dK_bool h q
theorem k_str (h : Kd H v T) (q : Q (.bl (T == "str")) H) : rIsi K [v, .ty "str"] H Q := by
  cases h with
  | int n => exact i_int_str q
  | bl b => exact i_bl_str q
  | str z => exact i_str_str q
  | non => exact i_non_str q
  | lst h => exact i_lst_str h q
  | tup h => exact i_tup_str h q
  | dict h => exact i_dK_str h q
theorem k_tuple (h : Kd H v T) (q : Q (.bl (T == "tuple")) H) : rIsi K [v, .ty "tuple"] H Q := by
  cases h with
  | int n => exact i_int_tuple q
  | bl b => exact i_bl_tuple q
  | str z => exact i_str_tuple q
  | non => exact i_non_tuple q
  | lst h => exact i_lst_tuple h q
  | tup h => exact i_tup_tuple h q
  | dict h => exact i_dK_tuple h q
theorem k_list (h : Kd H v T) (q : Q (.bl (T == "list")) H) : rIsi K [v, .ty "list"] H Q := by
  cases h with
  | int n => exact i_int_list q
  | bl b => exact i_bl_list q
  | str z => exact i_str_list q
  | non => exact i_non_list q
  | lst h => exact i_lst_list h q
  | tup h => exact i_tup_list h q
  | dict h => exact i_dK_list h q
end
/-! ### a Hook with one more Bool -/
def obsE (n : Nat) (fa : List He.Fa) (fn : List He.DefD) (ex : PySem.W.Frag → Bool) (g : Addr → Option Obj) : He.AlD × Bool :=
  (fun K => (He.obsD fa fn K, ex K)) (He.frG g (He.asD g n))
def hookE (n : Nat) (fa : List He.Fa) (fn : List He.DefD) (ex : PySem.W.Frag → Bool) : PySem.W.Hook where
  α := He.AlD × Bool
  obs := fun s => obsE n fa fn ex s.heap.get?
  val := fun _ => (He.valD fn, true)
  says := fun _ h => ∃ K : PySem.W.Frag, K.In h ∧ He.SaysD fa fn K ∧ ex K = true
  of := fun _ _ e => ⟨_, He.frG_in, congrArg Prod.fst e, congrArg Prod.snd e⟩
  keeps := fun _ _ _ ⟨K, hK, c⟩ k => ⟨K, PySem.W.Frag.In.keeps hK k, c⟩
theorem obsE_eq {n : Nat} {fa : List He.Fa} {fn : List He.DefD} {ex : PySem.W.Frag → Bool} {g : Addr → Option Obj} {s : Shared} (h : ∀ a, g a = s.heap.get? a) : obsE n fa fn ex g = (hookE n fa fn ex).obs s := by
  have e : g = s.heap.get? := funext h
  rw [e] <;> rfl
/-! ### defs as values -/
theorem fun_ne {K : PySem.W.Frag} {x y : Str} {st st' : Stmt} {f g : Addr} {fd gd : FuncData} (F : FnP K x st f fd) (G : FnP K y st' g gd) (h : x ≠ y) : f ≠ g := fun e => by
  subst e
  obtain ⟨_, _, _, _, _, _, _, _, _, _, e1, l1, _⟩ := F.ex
  obtain ⟨_, _, _, _, _, _, _, _, _, _, e2, l2, _⟩ := G.ex
  rw [l1] at l2
  have e3 : fd = gd := by
    have := Option.some.inj l2
    injection this with _ _ d _
    injection d
  rw [e1, e2] at e3
  have e4 := congrArg FuncData.name e3
  exact h e4
theorem held_of {P : Program} {w : World} {K : PySem.W.Frag} {mg : Str → Option Value} {base : Heap} {x : Str} {k : Nat} {ps : List Str} {sp : Sp} {f : Addr} (g : mg x = some (.ref f)) (h : Has P w K mg base x k ps sp) : Held P w K mg base k f sp := by
  obtain ⟨f', fd, gm, kp, b, F⟩ := h
  rw [g] at gm
  cases gm
  exact ⟨fd, ps, F, kp, b⟩
theorem w_callA {σ : L2.St} {H : Hp} {Q : VK} {i : Nat} {f : Addr} {sp : Sp} {S : Addr → Option Sp} {tr : TA} (hs : σ[i]? = some (some (.ref f))) (hS : S f = some sp) (h : tr σ H fun vs H1 => sp vs H1 Q E0) : tCallA i S tr σ H Q := ⟨f, sp, hs, hS, h⟩
abbrev rStrInt : List V → Hp → VK → Prop := fun xs H Q => ∃ i : Int, xs = [.int i] ∧ i.natAbs.log2 < 1920 ∧ Q (.str (toString i)) H
end Go

set_option Elab.async false
set_option linter.all false
set_option maxRecDepth 100000
set_option maxHeartbeats 4000000
namespace Go
open PySem PySem.Spec PyProof.Rows L2
/-! ### set(xs), xs a list of keys of one kind (ints or texts) -/
section
variable {κ : Type} [DecidableEq κ]
/-- each once, as first met -/
def once (l : List κ) : List κ := l.foldl (fun acc k => if k ∈ acc then acc else acc ++ [k]) []
theorem once_snoc (l : List κ) (k : κ) : once (l ++ [k]) = if k ∈ once l then once l else once l ++ [k] := by
  unfold once
  rw [List.foldl_append]; rfl
theorem snoc_ind {P : List κ → Prop} (h0 : P []) (hs : ∀ l x, P l → P (l ++ [x])) (l : List κ) : P l := by
  have h : ∀ m : List κ, P m.reverse := fun m => by
    induction m with
    | nil => exact h0
    | cons x m ih => rw [List.reverse_cons]; exact hs _ _ ih
  have := h l.reverse
  rw [List.reverse_reverse] at this
  exact this
theorem mem_once {k : κ} : ∀ {l : List κ}, k ∈ once l ↔ k ∈ l := by
  intro l
  refine snoc_ind (P := fun l => k ∈ once l ↔ k ∈ l) Iff.rfl (fun l x ih => ?_) l
  · rw [once_snoc]
    by_cases h : x ∈ once l
    · rw [if_pos h]
      constructor
      · intro m; exact List.mem_append.mpr (.inl (ih.mp m))
      · intro m
        rcases List.mem_append.mp m with m | m
        · exact ih.mpr m
        · rw [List.mem_singleton.mp m]; exact h
    · rw [if_neg h, List.mem_append, List.mem_append, ih]
theorem once_len (l : List κ) : (once l).length ≤ l.length := by
  refine snoc_ind (P := fun l => (once l).length ≤ l.length) (Nat.le_refl _) (fun l x ih => ?_) l
  · rw [once_snoc, List.length_append]
    split
    · exact Nat.le_succ_of_le ih
    · rw [List.length_append]; exact Nat.add_le_add_right ih _
theorem one_nodup (x : κ) : [x].Nodup := List.nodup_cons.mpr ⟨List.not_mem_nil, .nil⟩
theorem once_nodup_iff (l : List κ) : (once l).length = l.length ↔ l.Nodup := by
  refine snoc_ind (P := fun l => (once l).length = l.length ↔ l.Nodup) ⟨fun _ => .nil, fun _ => rfl⟩ (fun l x ih => ?_) l
  have hl := once_len l
  rw [once_snoc, List.length_append, List.nodup_append]
  by_cases h : x ∈ once l
  · rw [if_pos h]
    refine ⟨fun e => ?_, fun ⟨_, _, d⟩ => absurd rfl (d x (mem_once.mp h) x (.head _))⟩
    have : (once l).length = l.length + 1 := e
    omega
  · rw [if_neg h, List.length_append]
    refine ⟨fun e => ⟨ih.mp (Nat.add_right_cancel e), one_nodup x, fun a ha b hb e2 => ?_⟩, fun ⟨n, _, _⟩ => by rw [ih.mpr n]⟩
    rw [List.mem_singleton.mp hb] at e2
    rw [← e2] at h
    exact h (mem_once.mpr ha)
theorem once_const {l : List κ} {k : κ} (h : ∀ x ∈ l, x = k) : (once l).length ≤ 1 := by
  have key : once l = [] ∨ once l = [k] := by
    revert h
    refine snoc_ind (P := fun l => (∀ x ∈ l, x = k) → once l = [] ∨ once l = [k]) (fun _ => .inl rfl) (fun l x ih h => ?_) l
    have hx : x = k := h x (List.mem_append.mpr (.inr (.head _)))
    rw [once_snoc, hx]
    rcases ih fun y hy => h y (List.mem_append.mpr (.inl hy)) with e | e
    · rw [e, if_neg (fun m => by cases m)]; exact .inr rfl
    · rw [e, if_pos (.head _)]; exact .inr rfl
  rcases key with e | e <;> rw [e]
  · exact Nat.zero_le _
  · exact Nat.le_refl _
theorem once_two {l : List κ} {x y : κ} (hx : x ∈ l) (hy : y ∈ l) (ne : x ≠ y) : 1 < (once l).length := by
  have h1 := mem_once.mpr hx
  have h2 := mem_once.mpr hy
  match once l, h1, h2 with
  | [], h1, _ => cases h1
  | [a], h1, h2 =>
    rw [List.mem_singleton] at h1 h2
    exact absurd (h1.trans h2.symm) ne
  | a :: b :: r, _, _ => exact Nat.succ_lt_succ (Nat.zero_lt_succ _)
theorem once_own (l : List κ) : (once l).Nodup := by
  refine snoc_ind (P := fun l => (once l).Nodup) .nil (fun l x ih => ?_) l
  rw [once_snoc]
  split
  · exact ih
  · rename_i h
    refine List.nodup_append.mpr ⟨ih, one_nodup x, fun a ha b hb e => ?_⟩
    rw [List.mem_singleton.mp hb] at e
    exact h (e ▸ ha)
end
/-! ### the loop of set.update over what is walked, any kind of keys -/
section
variable {prog : Program} {w : World} {A : Around} {R : Result → Shared → Prop} {I : Addr} {fp wr : List Addr} {G : Array GenState → Array GenState → Prop} {n : Nat} {P : Nat → Value → Prop} {St : Nat → Shared → Prop}
  {κ : Type} [DecidableEq κ] {knd : PySem.KeyKind prog w κ}
theorem set_same {h h' : Heap} {S : Addr} {f : κ → Bool} {m : Nat} (hS : h.SetOf knd S f m) (k : ∀ o, h.get? S = some o → h'.get? S = some o) : h'.SetOf knd S f m := by
  obtain ⟨o, es, ep, t, ho, r⟩ := hS
  exact ⟨o, es, ep, t, k o ho, r⟩
theorem set_step {h : Heap} {S : Addr} {ks : List κ} {i : Nat} {k : κ} (hk : ks[i]? = some k) (hS : h.SetOf knd S (fun x => decide (x ∈ once (ks.take i)) || decide (x = k)) (if decide (k ∈ once (ks.take i)) = true then (once (ks.take i)).length else (once (ks.take i)).length + 1)) :
    h.SetOf knd S (fun x => decide (x ∈ once (ks.take (i + 1)))) (once (ks.take (i + 1))).length := by
  have e0 : ks.take (i + 1) = ks.take i ++ [k] := by rw [List.take_add_one, hk]; rfl
  have e1 : (fun x => decide (x ∈ once (ks.take i)) || decide (x = k)) = fun x => decide (x ∈ once (ks.take (i + 1))) := by
    funext x
    rw [← Bool.decide_or]
    refine decide_eq_decide.mpr ?_
    rw [mem_once, mem_once, e0, List.mem_append, List.mem_singleton]
  have e2 : (if decide (k ∈ once (ks.take i)) = true then (once (ks.take i)).length else (once (ks.take i)).length + 1) = (once (ks.take (i + 1))).length := by
    rw [e0, once_snoc]
    by_cases m : k ∈ once (ks.take i)
    · rw [if_pos m, if_pos (decide_eq_true m)]
    · rw [if_neg m, if_neg (by rw [decide_eq_false m]; exact Bool.false_ne_true), List.length_append]; rfl
  rw [e1, e2] at hS
  exact hS
theorem set_loop (W : WalksS prog w A.in1 I fp wr G n P St) (S : Addr) (hSf : S ∉ fp) (ks : List κ) (hn : ks.length = n) (hb : n + 1 < scanBound)
    (hval : ∀ i v, P i v → ∃ k, ks[i]? = some k ∧ knd.is k v = true ∧ v.scannable = true) :
    ∀ (m i : Nat) (s : Shared), n - i = m → i ≤ n → St i s → s.heap.SetOf knd S (fun x => decide (x ∈ once (ks.take i))) (once (ks.take i)).length →
      (∀ s', Moved (S :: wr) G s s' → s'.heap.SetOf knd S (fun x => decide (x ∈ once ks)) (once ks).length → R (.ok (.ret .none)) s') →
      codeAny (model prog w) A (.builtin "set.update.loop" ⟨[.ref S, .ref I], []⟩) R s := by
  have up : ∀ b ∈ wr, b ∈ S :: wr := fun b hb => .tail _ hb
  have out : S ∉ wr := fun h => hSf (W.sub _ h)
  intro m
  induction m with
  | zero =>
    intro i s hm hi st hS fin
    obtain rfl : i = n := by omega
    rw [List.take_of_length_le (by omega)] at hS
    refine codeAny_builtin PyProof.Rows.F.entry_set_update_loop ?_
    rw [Around.under_plainId PyProof.Rows.F.plain_set_update_loop _]
    refine wpAny_bind (m := pyNext (.ref I)) (W.done s _ _ st fun s' mv => ?_)
    exact wpAny_pure (fin s' (mv.mono up) (set_same hS fun o e => mv.heap S _ out e))
  | succ m ih =>
    intro i s hm hi st hS fin
    refine codeAny_builtin PyProof.Rows.F.entry_set_update_loop ?_
    rw [Around.under_plainId PyProof.Rows.F.plain_set_update_loop _]
    refine wpAny_bind (m := pyNext (.ref I)) (W.item i s _ _ (by omega) st fun v s' hP st' mv => ?_)
    obtain ⟨k, hk, is_k, sc⟩ := hval i v hP
    have hS' := set_same (h' := s'.heap) hS fun o e => mv.heap S _ out e
    have few := once_len (ks.take i)
    rw [List.length_take] at few
    refine wpAny_bind (m := holding [v] (setAdd S v)) (wpAny_holding ?_)
    unfold setAdd
    refine wpAny_holding (wpAny_bind (knd.pyHash is_k ?_))
    refine wpAny_setAddHashed_of (knd := knd) (s := { s' with toks := s'.toks + 1 }) is_k sc hS' (by omega) fun h' sb hS2 => ?_
    have off : ∀ b o, b ≠ S → s'.heap.get? b = some o → h'.get? b = some o := fun b o nb e => by rw [sb.2 b nb]; exact e
    refine wpAny_pure ⟨plainId_quiet PyProof.Rows.F.plain_set_update_loop _, ih (i + 1) _ (by omega) (by omega) (W.frame _ s' _ _ st' (Nat.le_succ _) fun b hb o e => off b o (fun z => hSf (z ▸ hb)) e) (set_step hk hS2) fun s'' mv2 hS3 => ?_⟩
    exact fin s'' (Moved.trans W.gtrans ((mv.mono up).then_heap (Nat.le_succ _) fun b o hb e => off b o (fun z => hb (z ▸ .head _)) e) mv2) hS3
end
/-! ### set(xs) of a list of keys -/
section
variable {prog : Program} {w : World} {A : Around} {E : Value → Shared → Prop} {s : Shared} {κ : Type} [DecidableEq κ] {knd : PySem.KeyKind prog w κ}
/-- a new set -/
abbrev set0 (led : Bool) : Obj := { cls := .type "set", dict := none, data := .set #[] 0 (.fresh 0 0 led) }
theorem set_of_list {l : Addr} {items : Array Value} (ks : List κ) {Q : Value → Shared → Prop} (hh : A.handled = none) (hl : s.heap.IsList l items) (hn : ks.length = items.size) (hb : items.size + 1 < scanBound)
    (hi : ∀ (i : Nat) (v : Value), items[i]? = some v → ∃ k, ks[i]? = some k ∧ knd.is k v = true ∧ v.scannable = true)
    (h : ∀ (h' : Heap) (tk : Nat), h'.SetOf knd s.heap.objs.size (fun x => decide (x ∈ once ks)) (once ks).length → (∀ b o, s.heap.get? b = some o → h'.get? b = some o) → Q (.ref s.heap.objs.size) { s with heap := h', toks := tk }) :
    wpAny (model prog w) A (call (.type "set") [.ref l]) Q E s := by
  obtain ⟨c, tl, hmro⟩ := PySem.F.called_set.mro
  have hmade := PySem.F.called_set.made
  have hsub := PySem.F.called_set.sub
  have h1 := PySem.F.called_set.notType
  have h2 := PySem.F.called_set.canCreate
  have hct := PySem.F.typeCall_set_1 (.ref l)
  refine wpAny_call (codeAny_of_tree ?_)
  refine wpAny_pure ⟨Code.quiet_builtin _ (by decide +kernel), codeAny_builtin PySem.F.entry_type_call ?_⟩
  rw [Around.under_plain (weight_type_call_type "set" [.ref l] []) rfl]
  repeat (any_goals (first | assumption | wp_step))
  refine codeAny_mono (code_set_new_1 (.ref l) (E := E) (Q₁ := fun obj s₁ => ∃ led : Bool, obj = .ref s.heap.objs.size ∧ s₁ = { s with heap := s.heap.push (set0 led) }) fun led => ⟨led, rfl, rfl⟩) fun r s₁ hr => ?_
  cases r with
  | error e => exact hr
  | ok fl =>
  cases fl with
  | ret obj =>
    obtain ⟨led, rfl, rfl⟩ := hr
    have hT : Shared.TypeIs { s with heap := s.heap.push (set0 led) } (.ref s.heap.objs.size) "set" := ⟨_, Heap.get?_push_size _ rfl, rfl⟩
    have hli := PySem.F.called_set.init.lookup
    have hbi := PySem.F.called_set.init.bind (.ref s.heap.objs.size)
    repeat (any_goals (first | assumption | wp_step))
    refine codeAny_mono (codeAny_call_builtin (R := wants (fun r s₂ => r = .none ∧ ∃ h' tk, s₂ = { s with heap := h', toks := tk } ∧ h'.SetOf knd s.heap.objs.size (fun x => decide (x ∈ once ks)) (once ks).length ∧ ∀ b o, s.heap.get? b = some o → h'.get? b = some o) E)
      PySem.F.called_set.init.plain PySem.F.entry_set_init (check_set_init_1 hT ?_)) fun r₂ s₂ hr₂ => ?_
    · obtain ⟨⟨cl, di, da, sl⟩, hol, hcl, nl, hdl⟩ := hl
      simp only at hcl hdl
      subst hcl; subst hdl
      have hlS : l < s.heap.objs.size := Heap.lt_size hol
      have hol' : (s.heap.push (set0 led)).get? l = some { cls := .type "list", dict := di, data := .seq items nl, slots := sl } := Heap.get?_push_of_some _ hol
      have hsls := PySem.F.sub_list_set
      have hslf := PySem.F.sub_list_frozenset
      have hne : (Value.type "list" == Value.type "dict") = false := by decide
      have hl1 : (s.heap.push (set0 led)).IsList l items := ⟨_, hol', rfl, nl, rfl⟩
      unfold Builtin.«set.__init__» noKeywords Builtin.Frozenset.updateFrom
      generalize hPI : pyIter = PI
      wp_walk
      subst hPI
      refine wpAny_pyIter_list hl1 (wpAny_bind (wpAny_runValue ?_))
      have hI : (s.heap.push (set0 led)).objs.size = s.heap.objs.size + 1 := Heap.size_push ..
      have hh3 : A.in1.in1.in1.handled = none := by simp [hh]
      refine set_loop (knd := knd) ((Walks.list hh3 _ l (by rw [hI]; exact Nat.ne_of_lt (Nat.lt_succ_of_lt hlS)) items).toS) s.heap.objs.size (by
        rw [hI]
        simp only [List.mem_cons, List.not_mem_nil, or_false, not_or]
        exact ⟨Nat.ne_of_lt (Nat.lt_succ_self _), Nat.ne_of_gt hlS⟩) ks hn hb hi (items.size - 0) 0 _ rfl (Nat.zero_le _) ⟨⟨_, Heap.get?_push_size _ rfl, rfl, rfl⟩, hl1.push _⟩ ?_ ?_
      · have hget : ((s.heap.push (set0 led)).push { cls := .type "list_iterator", data := .fields #[.ref l, .int 0 0] }).get? s.heap.objs.size = some (set0 led) := Heap.get?_push_of_some _ (Heap.get?_push_size _ rfl)
        exact (PyProof.Rows.setObjOf_fresh (knd := knd) led).setOf hget (by unfold scanBound; omega)
      · intro s' mv hS'
        obtain ⟨h', g', d', tk', os'⟩ := s'
        obtain rfl : g' = s.gens := mv.gens
        obtain rfl : d' = s.drawn := mv.drawn
        obtain rfl : os' = s.os := mv.os
        refine wpAny_pure (wpAny_pure ⟨rfl, h', tk', rfl, hS', fun b o e => ?_⟩)
        have hb := Heap.lt_size e
        exact mv.heap b o (by
          rw [hI]
          simp only [List.mem_cons, List.not_mem_nil, or_false, not_or]
          exact ⟨Nat.ne_of_lt hb, Nat.ne_of_lt (Nat.lt_succ_of_lt hb)⟩) (Heap.get?_push_of_some _ (Heap.get?_push_of_some _ e))
    · cases r₂ with
      | error e => exact hr₂
      | ok fl₂ =>
      cases fl₂ with
      | ret r =>
        obtain ⟨rfl, h', tk, rfl, hS', hk'⟩ := hr₂
        repeat (any_goals (first | assumption | wp_step))
        exact h _ _ hS' hk'
      | _ => exact hr₂.elim
  | _ => exact hr.elim
end
/-! ### len(set(e)), e a list of keys -/
section
variable {X : Cx}
theorem key_ok {P : Program} {w : World} {ks : List Key} {us : List Value} (r : Vals (ks.map kV) us) : ∀ (i : Nat) (v : Value), us.toArray[i]? = some v → ∃ k, ks[i]? = some k ∧ (mixKind P w).is k v = true ∧ v.scannable = true := fun i v hv => by
  have hv : us[i]? = some v := by simpa using hv
  have hl := r.length
  rw [List.length_map] at hl
  have hi : i < ks.length := by rw [hl]; exact (List.getElem?_eq_some_iff.mp hv).1
  obtain ⟨u, hu, ru⟩ := r.get (i := i) (x := kV ks[i]) (by rw [List.getElem?_map, List.getElem?_eq_getElem hi]; rfl)
  rw [hv] at hu
  cases hu
  refine ⟨ks[i], List.getElem?_eq_getElem hi, kV_is ru, ?_⟩
  rcases keyIs_shape (kV_is (P := P) (w := w) ru) with ⟨_, _, _, e⟩ | ⟨_, _, _, e⟩ <;> rw [e] <;> rfl
def tLenSetK (K : PySem.W.Frag) (ta : TE) : TE := fun σ H Q => ta σ H fun x H1 => ∃ (l : Addr) (ks : List Key), x = .ref l ∧ SqL K H1 l (ks.map kV) ∧ ks.length ≤ 1000 ∧ Q (.int ((once ks).length : Nat)) H1
theorem pe_lenSetK {a : Expr} {ta : TE} {p p2 q pos : Pos} (hg : Gl X "len") (hm : X.mg "len" = none) (hg2 : Gl X "set") (hm2 : X.mg "set" = none) (ha : PE X a ta) (hc : X.calm = true := by rfl)
    (na : starEach [a] X.env = (false, eval a X.env) :: starEach [] X.env := by rfl) : PE X (.Call (.Name "len" p) [.Call (.Name "set" p2) [a] [] q] [] pos) (tLenSetK X.K ta) := by
  refine ⟨fun pins s σ H Q I h => ?_⟩
  refine Call_ (ld_blt I hg hm PySem.boot_len ?_)
  refine PyProof.Rows.callWith_builtin1 (PyProof.Rows.args_cons ?_ rfl) rfl rfl
  refine Call_ (ld_blt I hg2 hm2 PyProof.Rows.boot_set ?_)
  refine PyProof.Rows.callWith_type1 (PyProof.Rows.args_cons (thn (ha.run pins s σ H _ I h) fun v s1 ⟨x, H1, I1, r1, q1⟩ => PyProof.Rows.args_nil ?_) na) na rfl
  obtain ⟨l, ks, rfl, hq, hl, q1⟩ := q1
  cases r1
  obtain ⟨its, r, pl, hz⟩ := I1.list hq
  have hlen : ks.length = its.toArray.size := by
    have := r.length
    rw [List.length_map] at this
    rw [List.size_toArray, this]
  refine set_of_list (knd := mixKind X.prog X.w) ks (I1.ok.hd hc) pl.isList hlen (by unfold scanBound; omega) (key_ok r) fun h' tk hS hk => ?_
  refine PyProof.Rows.args_nil ?_
  obtain ⟨o, es, ep, t, ho, hex, hd, _, _, hb, hf, hn⟩ := hS
  have I2 : Inv X pins σ H1 { s1 with heap := h', toks := tk } := I1.kept fun b o e => hk b o e
  have h1 := once_len ks
  exact call_len_set ho hex hd hf (by rw [hn]; omega) ⟨.int ((once ks).length : Nat), H1, I2.tok _, ⟨_, by rw [hn]⟩, q1⟩
theorem w_lenSetK {K : PySem.W.Frag} {σ : L2.St} {H : Hp} {Q : VK} {te : TE} (h : te σ H fun x H1 => ∃ (l : Addr) (ks : List Key), x = .ref l ∧ SqL K H1 l (ks.map kV) ∧ ks.length ≤ 1000 ∧ Q (.int ((once ks).length : Nat)) H1) : tLenSetK K te σ H Q := h
end
end Go

set_option Elab.async false
set_option linter.all false
set_option maxRecDepth 100000
set_option maxHeartbeats 4000000
namespace Go
open PySem PySem.Spec PyProof.Rows L2
/-! ### sets of texts whose members can be walked -/
def txK (e : Int × Value) : Str := match e.2 with | .str k _ => k | _ => Str.empty
def TxE (w : World) (e : Int × Value) : Prop := ∃ k tk, e.2 = Value.str k tk ∧ e.1 = hashStr w k
/-- the set of texts at a: its members are zs -/
def TxR (w : World) (h : Heap) (a : Addr) (zs : List Str) : Prop :=
  ∃ o es ep t, h.get? a = some o ∧ o.ExactSet ∧ o.data = .set es ep t ∧ (∀ e ∈ es.toList, TxE w e) ∧ (es.toList.map txK).Perm zs ∧ zs.Nodup ∧ es.size < scanBound ∧ t.fits es.size = true ∧ Ris t.place.toList ∧ (w.params.followText "set-order" = true ∨ t.led = true)
section
variable {P : Program} {w : World} {h h' : Heap} {a : Addr} {zs : List Str}
theorem TxR.off (R : TxR w h a zs) (k : ∀ o, h.get? a = some o → h'.get? a = some o) : TxR w h' a zs := by
  obtain ⟨o, es, ep, t, ho, r⟩ := R
  exact ⟨o, es, ep, t, k o ho, r⟩
theorem tx_is (k : Str) (tk : Tok) : (PySem.strKind P w).is k (.str k tk) = true := by
  show Value.isStrOf k (.str k tk) = true
  unfold Value.isStrOf
  simp
theorem tx_elems {l : List (Int × Value)} (g : ∀ e ∈ l, TxE w e) : ElemsOf (PySem.strKind P w) l := fun e he => by
  obtain ⟨k, tk, e1, e2⟩ := g e he
  refine ⟨⟨k, ?_, e2⟩, ?_⟩
  · rw [e1]; exact tx_is k tk
  · rw [e1]; rfl
theorem tx_at {e : Int × Value} (g : TxE w e) (k : Str) (hk : (PySem.strKind P w).is k e.2 = true) : txK e = k := by
  obtain ⟨k0, tk, e1, _⟩ := g
  rw [e1] at hk
  have : Value.isStrOf k (.str k0 tk) = true := hk
  obtain ⟨t, q⟩ := Value.isStrOf_shape this
  injection q with q1
  unfold txK
  rw [e1]; exact q1
theorem tx_of {e : Int × Value} (g : TxE w e) : (PySem.strKind P w).is (txK e) e.2 = true := by
  obtain ⟨k0, tk, e1, _⟩ := g
  unfold txK
  rw [e1]; exact tx_is k0 tk
end
section
variable {P : Program} {w : World} {A : Around} {E : Value → Shared → Prop} {s : Shared} {a : Addr} {zs : List Str}
theorem tx_tail {g : Bool → Sem Unit} (hg : ∀ (b : Bool) (s₁ : Shared) (Q' : Unit → Shared → Prop), Q' () s₁ → wpAny (model P w) A (g b) Q' E s₁) {o : Obj} {es : Array (Int × Value)} {ep : Nat} {t : SetTable} (ho : s.heap.get? a = some o) (hex : o.ExactSet) (hd : o.data = .set es ep t)
    {fs : Array (Int × Value)} {u : SetTable} {ys : List Str} (g1 : ∀ e ∈ fs.toList, TxE w e) (p1 : (fs.toList.map txK).Perm ys) (n1 : ys.Nodup) (b1 : fs.size < scanBound) (f1 : u.fits fs.size = true) (r1 : Ris u.place.toList) (l1 : w.params.followText "set-order" = true ∨ u.led = true) {wd : Bool} {R : Option Bool → Shared → Prop}
    (hR : ∀ h', Heap.SameBut a s.heap h' → TxR w h' a ys → R (some true) { s with heap := h' }) :
    wpAny (model P w) A (do storeSet a fs u
                            if (!wd && u.tooFull) = true then do g (relayAll u fs (SetTable.grown fs.size)).2.2
                                                                 storeSet a (relayAll u fs (SetTable.grown fs.size)).1 (relayAll u fs (SetTable.grown fs.size)).2.1
                                                                 pure (some true)
                            else pure (some true)) R E s := by
  refine wpAny_bind (wpAny_storeSet_of ho hd ?_ (fits_of_scanBound b1))
  have o1 := L2.store_at (es' := fs) (t' := u) ho hd
  have same := Heap.SameBut.update s.heap a (Obj.putSet fs u)
  split
  · have q1 := relayAll_perm u fs (SetTable.grown fs.size)
    have q2 := relayAll_fits u fs (SetTable.grown fs.size)
    have q3 := L2.relayAll_ris u fs (SetTable.grown fs.size)
    have q4 := L2.relayAll_led u fs (SetTable.grown fs.size)
    generalize relayAll u fs (SetTable.grown fs.size) = Z at q1 q2 q3 q4 ⊢
    obtain ⟨gs, u2, gave⟩ := Z
    dsimp only at q1 q2 q3 q4 ⊢
    have z : gs.size = fs.size := by rw [← Array.length_toList, q1.length_eq, Array.length_toList]
    have b2 : gs.size < scanBound := by rw [z]; exact b1
    refine wpAny_bind (hg _ _ _ ?_)
    refine wpAny_bind (wpAny_storeSet_of o1 rfl ?_ (fits_of_scanBound b2))
    have o2 := L2.store_at (es' := gs) (t' := u2) o1 rfl
    exact wpAny_pure (hR _ (same.trans (Heap.SameBut.update _ a _)) ⟨_, gs, _, u2, o2, hex, rfl, fun e he => g1 e (q1.mem_iff.mp he), (q1.map txK).trans p1, n1, b2, q2, q3, l1.imp id fun y => by rw [q4]; exact y⟩)
  · exact wpAny_pure (hR _ same ⟨_, fs, _, u, o1, hex, rfl, g1, p1, n1, b1, f1, r1, l1⟩)
theorem tx_add {k : Str} {tk : Tok} {Q : Bool → Shared → Prop} (R : TxR w s.heap a zs) (room : zs.length + 1 < scanBound) (hQ : ∀ h' b, Heap.SameBut a s.heap h' → TxR w h' a (if k ∈ zs then zs else zs ++ [k]) → Q b { s with heap := h' }) :
    wpAny (model P w) A (setAddHashed a (.str k tk) ((PySem.strKind P w).hash k)) Q E s := by
  obtain ⟨o, es, ep, t, ho, hex, hd, g, pz, nd, hb, hf, hr, hl⟩ := R
  have sc : (Value.str k tk).scannable = true := rfl
  have el : ElemsOf (PySem.strKind P w) es.toList := tx_elems g
  unfold setAddHashed setAddHashedIn
  refine wpAny_holding (wpAny_bind (wpAny_setState_of ho hd hf ?_))
  dsimp only
  rw [byScan_of sc hb el]
  simp only [↓reduceIte]
  unfold setAddByScan
  refine wpAny_bind ?_
  refine wpAny_bind (wpAny_rule ?_)
  refine wpAny_bind (wpAny_setScan_of (tx_is k tk) ho hd hf el ?_)
  cases fi : List.findIdx? (fun e => (PySem.strKind P w).is k e.2) es.toList with
  | some j =>
    dsimp only
    obtain ⟨hj, pj, _⟩ := List.findIdx?_eq_some_iff_getElem.mp fi
    have m : k ∈ zs := pz.mem_iff.mp (List.mem_map.mpr ⟨es.toList[j], List.getElem_mem hj, tx_at (g _ (List.getElem_mem hj)) k pj⟩)
    refine wpAny_pure (wpAny_pure ?_)
    have q := hQ s.heap false (Heap.SameBut.refl a s.heap)
    rw [if_pos m] at q
    exact q ⟨o, es, ep, t, ho, hex, hd, g, pz, nd, hb, hf, hr, hl⟩
  | none =>
    dsimp only
    have m : k ∉ zs := fun z => by
      obtain ⟨e, he, e2⟩ := List.mem_map.mp (pz.mem_iff.mpr z)
      have c := List.findIdx?_eq_none_iff.mp fi e he
      have c2 := tx_of (P := P) (g e he)
      rw [e2, c] at c2
      cases c2
    have gw : ∀ (b : Bool) {s₁ : Shared} {Q' : Unit → Shared → Prop}, Q' () s₁ → wpAny (model P w) A (match b with | true => rule "set.scan.the-table-gave-way" | false => pure ()) Q' E s₁ := fun b s₁ Q' q => by cases b <;> first | exact wpAny_pure q | exact wpAny_rule q
    have q1 := layNew_perm t es ((PySem.strKind P w).hash k) (.str k tk)
    have q2 := layNew_fits t es ((PySem.strKind P w).hash k) (.str k tk)
    have q3 := L2.layNew_ris t es ((PySem.strKind P w).hash k) (.str k tk) hr
    have q4 := L2.layNew_led t es ((PySem.strKind P w).hash k) (.str k tk)
    generalize layNew t es ((PySem.strKind P w).hash k) (.str k tk) = Z at q1 q2 q3 q4 ⊢
    obtain ⟨fs, u, wd, gave⟩ := Z
    dsimp only at q1 q2 q3 q4 ⊢
    rw [Array.toList_push] at q1
    have pc : fs.toList.Perm (((PySem.strKind P w).hash k, Value.str k tk) :: es.toList) := q1.trans (List.perm_append_singleton _ _)
    have pk : (fs.toList.map txK).Perm (zs ++ [k]) := (pc.map txK).trans ((pz.cons k).trans (List.perm_append_singleton _ _).symm)
    have g1 : ∀ e ∈ fs.toList, TxE w e := fun e he => by
      rcases List.mem_cons.mp (pc.mem_iff.mp he) with y | y
      · rw [y]; exact ⟨k, tk, rfl, rfl⟩
      · exact g e y
    have n1 : (zs ++ [k]).Nodup := List.nodup_append.mpr ⟨nd, one_nodup k, fun x hx y hy e => by
      rw [List.mem_singleton.mp hy] at e
      exact m (e ▸ hx)⟩
    have z : fs.size = zs.length + 1 := by
      have := pk.length_eq
      rw [List.length_map, Array.length_toList, List.length_append] at this
      exact this
    have b1 : fs.size < scanBound := by rw [z]; exact room
    have l1 : w.params.followText "set-order" = true ∨ u.led = true := hl.imp id fun y => by rw [q4]; exact y
    have fin : ∀ h', Heap.SameBut a s.heap h' → TxR w h' a (zs ++ [k]) → Q true { s with heap := h' } := fun h' sb r => by
      have q := hQ h' true sb
      rw [if_neg m] at q
      exact q r
    refine wpAny_bind (gw _ ?_)
    split
    · refine wpAny_bind ?_
      rw [hashByValue_scannable 8 sc]
      refine wpAny_pure ?_
      refine tx_tail ?_ ho hex hd g1 pk n1 b1 ?_ ?_ ?_ ?_
      · intro b s₁ Q' q; cases b <;> first | exact wpAny_pure q | exact wpAny_rule q
      · first | (split <;> first | exact q2 | exact SetTable.fits_plain_off q2) | exact q2
      · first | (split <;> exact q3) | exact q3
      · first | (split <;> exact l1) | exact l1
      · intro h' sb r; dsimp only; exact wpAny_pure (fin h' sb r)
    · refine wpAny_bind (wpAny_pure ?_)
      simp only [↓reduceIte]
      refine tx_tail ?_ ho hex hd g1 pk n1 b1 q2 q3 l1 ?_
      · intro b s₁ Q' q; cases b <;> first | exact wpAny_pure q | exact wpAny_rule q
      · intro h' sb r; dsimp only; exact wpAny_pure (fin h' sb r)
theorem tx_fresh {h : Heap} (w : World) (ho : h.get? a = some (set0 (!w.params.followText "set-order"))) : TxR w h a [] :=
  ⟨_, #[], 0, _, ho, ⟨rfl, rfl, rfl⟩, rfl, (fun e he => by simp at he), (by simp), .nil, (by decide), (by rfl), List.Pairwise.nil, by
    show _ ∨ (!w.params.followText "set-order") = true
    cases w.params.followText "set-order"
    · exact .inr rfl
    · exact .inl rfl⟩
theorem code_set_one (v : Value) {Q₁ : Value → Shared → Prop} (h : Q₁ (.ref s.heap.objs.size) { s with heap := s.heap.push (set0 (!w.params.followText "set-order")) }) : codeAny (model P w) A (.call (.builtin "set.__new__") ⟨[.type "set", v], []⟩) (wants Q₁ E) s := by
  refine codeAny_of_tree ?_
  show wpAny _ A.in1 (do checkBuiltinCall "set.__new__" ⟨[.type "set", v], []⟩; again (.builtin "set.__new__" ⟨[.type "set", v], []⟩)) _ _ s
  refine wpAny_bind (wpAny_of_eq (PySem.F.newCall_set_1 v) (wpAny_pure ⟨plainId_quiet PySem.F.plain_set_new _, codeAny_builtin PySem.F.entry_set_new ?_⟩))
  rw [Around.under_plainId PySem.F.plain_set_new _]
  unfold Builtin.«set.__new__» Builtin.Frozenset.newClass
  have hsub := PySem.sub_set_self
  obtain ⟨hp, gg, d, tk, os⟩ := s
  dsimp only
  wp_walk
  refine wpAny_askSetting (wpAny_pure ?_)
  dsimp only
  simp only [newObj]
  refine wpAny_bind (wpAny_alloc (wpAny_pure ?_))
  exact wpAny_pure h
end
section
variable {prog : Program} {w : World} {A : Around} {E : Value → Shared → Prop} {R : Result → Shared → Prop} {I : Addr} {fp wr : List Addr} {G : Array GenState → Array GenState → Prop} {n : Nat} {P : Nat → Value → Prop} {St : Nat → Shared → Prop}
theorem tx_loop (W : WalksS prog w A.in1 I fp wr G n P St) (S : Addr) (nS : S ∉ fp) (ks : List Str) (hn : ks.length = n) (hb : n + 1 < scanBound) (hval : ∀ i v, P i v → ∃ k tk, ks[i]? = some k ∧ v = .str k tk) :
    ∀ (m i : Nat) (s : Shared), n - i = m → i ≤ n → St i s → TxR w s.heap S (once (ks.take i)) → (∀ s', Moved (S :: wr) G s s' → TxR w s'.heap S (once ks) → R (.ok (.ret .none)) s') →
      codeAny (model prog w) A (.builtin "set.update.loop" ⟨[.ref S, .ref I], []⟩) R s := by
  have up : ∀ b ∈ wr, b ∈ S :: wr := fun b hb => .tail _ hb
  have out : S ∉ wr := fun h => nS (W.sub _ h)
  intro m
  induction m with
  | zero =>
    intro i s hm hi st hS fin
    obtain rfl : i = n := by omega
    rw [List.take_of_length_le (by omega)] at hS
    refine codeAny_builtin PyProof.Rows.F.entry_set_update_loop ?_
    rw [Around.under_plainId PyProof.Rows.F.plain_set_update_loop _]
    refine wpAny_bind (m := pyNext (.ref I)) (W.done s _ _ st fun s' mv => ?_)
    exact wpAny_pure (fin s' (mv.mono up) (hS.off fun o e => mv.heap S _ out e))
  | succ m ih =>
    intro i s hm hi st hS fin
    refine codeAny_builtin PyProof.Rows.F.entry_set_update_loop ?_
    rw [Around.under_plainId PyProof.Rows.F.plain_set_update_loop _]
    refine wpAny_bind (m := pyNext (.ref I)) (W.item i s _ _ (by omega) st fun v s' hP st' mv => ?_)
    obtain ⟨k, tk, hk, rfl⟩ := hval i v hP
    have hS' := hS.off (h' := s'.heap) fun o e => mv.heap S _ out e
    have few := once_len (ks.take i)
    rw [List.length_take] at few
    refine wpAny_bind (m := holding [.str k tk] (setAdd S (.str k tk))) (wpAny_holding ?_)
    unfold setAdd
    refine wpAny_holding (wpAny_bind ((PySem.strKind prog w).pyHash (tx_is k tk) ?_))
    refine tx_add (s := { s' with toks := s'.toks + 1 }) hS' (by omega) fun h' b sb hS2 => ?_
    have off : ∀ b o, b ≠ S → s'.heap.get? b = some o → h'.get? b = some o := fun b o nb e => by rw [sb.2 b nb]; exact e
    have e0 : ks.take (i + 1) = ks.take i ++ [k] := by rw [List.take_add_one, hk]; rfl
    rw [← once_snoc, ← e0] at hS2
    refine wpAny_pure ⟨plainId_quiet PyProof.Rows.F.plain_set_update_loop _, ih (i + 1) _ (by omega) (by omega) (W.frame _ s' _ _ st' (Nat.le_succ _) fun b hb o e => off b o (fun z => nS (z ▸ hb)) e) hS2 fun s'' mv2 hS3 => ?_⟩
    exact fin s'' (Moved.trans W.gtrans ((mv.mono up).then_heap (Nat.le_succ _) fun b o hb e => off b o (fun z => hb (z ▸ .head _)) e) mv2) hS3
end
section
variable {prog : Program} {w : World} {A : Around} {E : Value → Shared → Prop} {s : Shared}
theorem set_of_texts {l : Addr} {items : Array Value} (ks : List Str) {Q : Value → Shared → Prop} (hh : A.handled = none) (hl : s.heap.IsList l items) (hn : ks.length = items.size) (hb : items.size + 1 < scanBound)
    (hi : ∀ (i : Nat) (v : Value), items[i]? = some v → ∃ k tk, ks[i]? = some k ∧ v = .str k tk)
    (h : ∀ (h' : Heap) (tk : Nat), TxR w h' s.heap.objs.size (once ks) → (∀ b o, s.heap.get? b = some o → h'.get? b = some o) → s.heap.objs.size < h'.objs.size → Q (.ref s.heap.objs.size) { s with heap := h', toks := tk }) :
    wpAny (model prog w) A (call (.type "set") [.ref l]) Q E s := by
  obtain ⟨c, tl, hmro⟩ := PySem.F.called_set.mro
  have hmade := PySem.F.called_set.made
  have hsub := PySem.F.called_set.sub
  have h1 := PySem.F.called_set.notType
  have h2 := PySem.F.called_set.canCreate
  have hct := PySem.F.typeCall_set_1 (.ref l)
  refine wpAny_call (codeAny_of_tree ?_)
  refine wpAny_pure ⟨Code.quiet_builtin _ (by decide +kernel), codeAny_builtin PySem.F.entry_type_call ?_⟩
  rw [Around.under_plain (weight_type_call_type "set" [.ref l] []) rfl]
  repeat (any_goals (first | assumption | wp_step))
  refine codeAny_mono (code_set_one (.ref l) (E := E) (Q₁ := fun obj s₁ => obj = .ref s.heap.objs.size ∧ s₁ = { s with heap := s.heap.push (set0 (!w.params.followText "set-order")) }) ⟨rfl, rfl⟩) fun r s₁ hr => ?_
  generalize hled : (!w.params.followText "set-order") = led at hr
  cases r with
  | error e => exact hr
  | ok fl =>
  cases fl with
  | ret obj =>
    obtain ⟨rfl, rfl⟩ := hr
    have hT : Shared.TypeIs { s with heap := s.heap.push (set0 led) } (.ref s.heap.objs.size) "set" := ⟨_, Heap.get?_push_size _ rfl, rfl⟩
    have hli := PySem.F.called_set.init.lookup
    have hbi := PySem.F.called_set.init.bind (.ref s.heap.objs.size)
    repeat (any_goals (first | assumption | wp_step))
    refine codeAny_mono (codeAny_call_builtin (R := wants (fun r s₂ => r = .none ∧ ∃ h' tk, s₂ = { s with heap := h', toks := tk } ∧ TxR w h' s.heap.objs.size (once ks) ∧ ∀ b o, s.heap.get? b = some o → h'.get? b = some o) E)
      PySem.F.called_set.init.plain PySem.F.entry_set_init (check_set_init_1 hT ?_)) fun r₂ s₂ hr₂ => ?_
    · obtain ⟨⟨cl, di, da, sl⟩, hol, hcl, nl, hdl⟩ := hl
      simp only at hcl hdl
      subst hcl; subst hdl
      have hlS : l < s.heap.objs.size := Heap.lt_size hol
      have hol' : (s.heap.push (set0 led)).get? l = some { cls := .type "list", dict := di, data := .seq items nl, slots := sl } := Heap.get?_push_of_some _ hol
      have hsls := PySem.F.sub_list_set
      have hslf := PySem.F.sub_list_frozenset
      have hne : (Value.type "list" == Value.type "dict") = false := by decide
      have hl1 : (s.heap.push (set0 led)).IsList l items := ⟨_, hol', rfl, nl, rfl⟩
      unfold Builtin.«set.__init__» noKeywords Builtin.Frozenset.updateFrom
      generalize hPI : pyIter = PI
      wp_walk
      subst hPI
      refine wpAny_pyIter_list hl1 (wpAny_bind (wpAny_runValue ?_))
      have hI : (s.heap.push (set0 led)).objs.size = s.heap.objs.size + 1 := Heap.size_push ..
      have hh3 : A.in1.in1.in1.handled = none := by simp [hh]
      refine tx_loop ((Walks.list hh3 _ l (by rw [hI]; exact Nat.ne_of_lt (Nat.lt_succ_of_lt hlS)) items).toS) s.heap.objs.size (by
        rw [hI]
        simp only [List.mem_cons, List.not_mem_nil, or_false, not_or]
        exact ⟨Nat.ne_of_lt (Nat.lt_succ_self _), Nat.ne_of_gt hlS⟩) ks hn hb hi (items.size - 0) 0 _ rfl (Nat.zero_le _) ⟨⟨_, Heap.get?_push_size _ rfl, rfl, rfl⟩, hl1.push _⟩ ?_ ?_
      · refine tx_fresh w ?_
        rw [hled]
        exact Heap.get?_push_of_some _ (Heap.get?_push_size _ rfl)
      · intro s' mv hS'
        obtain ⟨h', g', d', tk', os'⟩ := s'
        obtain rfl : g' = s.gens := mv.gens
        obtain rfl : d' = s.drawn := mv.drawn
        obtain rfl : os' = s.os := mv.os
        refine wpAny_pure (wpAny_pure ⟨rfl, h', tk', rfl, hS', fun b o e => ?_⟩)
        have hb := Heap.lt_size e
        exact mv.heap b o (by
          rw [hI]
          simp only [List.mem_cons, List.not_mem_nil, or_false, not_or]
          exact ⟨Nat.ne_of_lt hb, Nat.ne_of_lt (Nat.lt_succ_of_lt hb)⟩) (Heap.get?_push_of_some _ (Heap.get?_push_of_some _ e))
    · cases r₂ with
      | error e => exact hr₂
      | ok fl₂ =>
      cases fl₂ with
      | ret r =>
        obtain ⟨rfl, h', tk, rfl, hS', hk'⟩ := hr₂
        repeat (any_goals (first | assumption | wp_step))
        obtain ⟨o, es, ep, t, ho, rest⟩ := id hS'
        exact h _ _ hS' hk' (Heap.lt_size ho)
      | _ => exact hr₂.elim
  | _ => exact hr.elim
theorem sorted_tx {a : Addr} {zs : List Str} {Q : Value → Shared → Prop} (R : TxR w s.heap a zs) (hh : A.handled = none) (h64 : zs.length < 64)
    (hQ : ∀ s' p (out : Array Value) (c : Nat) (ys : List Str), (∀ b o, s.heap.get? b = some o → s'.heap.get? b = some o) → s'.gens = s.gens → s'.os = s.os → s.heap.objs.size ≤ p →
      s'.heap.get? p = some (seqObj "list" out c) → StrsAre out.toList ys → sortedS ys = true → ys.Perm zs → Q (.ref p) s') :
    wpAny (model prog w) A (call (.builtin "sorted") [.ref a]) Q E s := by
  obtain ⟨o, es, ep, t, ho, hex, hd, g, pz, nd, hb, hf, hr, hl⟩ := R
  refine Calls.call_function_entry kind_sorted plain_sorted entry_sorted (args_sorted1 _) ?_
  unfold Builtin.«sorted»
  refine wpAny_bind (m := checkCount "sorted" 1 1 _) (wpAny_pure ?_)
  refine wpAny_bind (L2.collect_set (A := A.in1) hh ⟨o, ho, hex.1, hd⟩ hf hb hr hl fun s1 vs k1 hz g1 o1 pm => ?_)
  have es1 : ∀ v ∈ vs, ∃ k tk, v = Value.str k tk := fun v hv => by
    obtain ⟨e, he, q⟩ := List.mem_map.mp (pm.mem_iff.mp hv)
    obtain ⟨k, tk, q1, _⟩ := g e he
    exact ⟨k, tk, by rw [← q]; exact q1⟩
  have key : ∀ l : List Value, (∀ v ∈ l, ∃ k tk, v = Value.str k tk) → StrsAre l (l.map fun v => txK (0, v)) := by
    intro l
    induction l with
    | nil => intro _; exact .nil
    | cons v l ih =>
      intro h
      obtain ⟨k, tk, rfl⟩ := h v (.head _)
      exact .cons k tk (ih fun u hu => h u (.tail _ hu))
  have hS := key vs es1
  have pk : (vs.map fun v => txK (0, v)).Perm zs := by
    have q := pm.map fun v => txK (0, v)
    rw [List.map_map] at q
    exact q.trans pz
  have hvl : vs.length < 64 := by
    have := pk.length_eq
    rw [List.length_map] at this
    omega
  refine wpAny_bind (wpAny_newList ?_ (by rw [sizeLine_eq]; omega))
  have hoL : (s1.heap.push (seqObj "list" vs.toArray 0)).get? s1.heap.objs.size = some (seqObj "list" vs.toArray 0) := Heap.get?_push_size _ rfl
  refine wpAny_bind (wpAny_holding (wpAny_call_entry slot_list_sort ⟨_, hoL, rfl⟩ entry_list_sort (list_sort_treeK strKind_oneLt hoL hS.keysOf (fun v₁ v₂ rest e => keyKind_strs (by rw [← e]; exact hS)) hvl fun st' a1 a2 => ⟨_, rfl, ?_⟩) (args_list_sort _)))
  obtain ⟨ss', b1, b2, b3⟩ := sorted_out_str hS a1 a2
  obtain ⟨c, hc⟩ := sortedHeap_at (vs := vs) (out := _) hoL
  refine wpAny_pure ⟨_, rfl, hQ _ s1.heap.objs.size _ c ss' (fun b u e => ?_) g1 o1 hz hc b1 b3 (b2.trans pk)⟩
  have q := k1 b u e
  have lt := Heap.lt_size q
  show (sortedHeap (s1.heap.push (seqObj "list" vs.toArray 0)) s1.heap.objs.size vs _).get? b = some u
  rw [sortedHeap_old (Nat.ne_of_lt lt) (by rw [size_push']; exact Nat.lt_succ_of_lt lt)]
  exact Heap.get?_push_of_some _ q
end
/-! ### sorted(set(e)), e a list of texts -/
section
variable {X : Cx}
def tSortSetS (K : PySem.W.Frag) (ta : TE) : TE := fun σ H Q => ta σ H fun x H1 => ∃ (l : Addr) (zs : List Str), x = .ref l ∧ SqL K H1 l (zs.map V.str) ∧ zs.length < 64 ∧ ∀ (ys : List Str) (p : Addr), ys.Perm (once zs) → sortedS ys = true → H1 p = none → Q (.ref p) (upd H1 p (.lst (ys.map V.str)))
theorem tx_items {us : List Value} {zs : List Str} (r : StrsAre us zs) : ∀ (i : Nat) (v : Value), us.toArray[i]? = some v → ∃ k tk, zs[i]? = some k ∧ v = .str k tk := by
  have key : ∀ (i : Nat) (v : Value), us[i]? = some v → ∃ k tk, zs[i]? = some k ∧ v = .str k tk := by
    induction r with
    | nil => intro i v h; cases h
    | cons k tk t ih =>
      intro i v h
      cases i with
      | zero => cases h; exact ⟨k, tk, rfl, rfl⟩
      | succ i => exact ih i v h
  intro i v h
  exact key i v (by simpa using h)
theorem pe_sortSetS {a : Expr} {ta : TE} {p p2 q pos : Pos} (hg : Gl X "sorted") (hm : X.mg "sorted" = none) (hg2 : Gl X "set") (hm2 : X.mg "set" = none) (ha : PE X a ta) (hc : X.calm = true := by rfl)
    (na : starEach [a] X.env = (false, eval a X.env) :: starEach [] X.env := by rfl) : PE X (.Call (.Name "sorted" p) [.Call (.Name "set" p2) [a] [] q] [] pos) (tSortSetS X.K ta) := by
  refine ⟨fun pins s σ H Q I h => ?_⟩
  refine Call_ (ld_blt I hg hm PyProof.Rows.boot_sorted ?_)
  refine PyProof.Rows.callWith_builtin1 (PyProof.Rows.args_cons ?_ rfl) rfl rfl
  refine Call_ (ld_blt I hg2 hm2 PyProof.Rows.boot_set ?_)
  refine PyProof.Rows.callWith_type1 (PyProof.Rows.args_cons (thn (ha.run pins s σ H _ I h) fun v s1 ⟨x, H1, I1, r1, q1⟩ => PyProof.Rows.args_nil ?_) na) na rfl
  obtain ⟨l, zs, rfl, hq, hl, q1⟩ := q1
  cases r1
  obtain ⟨its, r, pl, hz⟩ := I1.list hq
  have rs := r.strs
  have el : zs.length = its.length := by
    have := r.length
    rw [List.length_map] at this
    exact this
  refine set_of_texts zs (I1.ok.hd hc) pl.isList (by simpa using el) (by simp; rw [← el]; unfold scanBound; omega) (tx_items rs) fun h' tk R kp lt => ?_
  refine PyProof.Rows.args_nil ?_
  have I2 : Inv X pins σ H1 { s1 with heap := h', toks := tk } := I1.kept fun b o e => kp b o e
  have few := once_len zs
  have R2 : TxR X.w ({ s1 with heap := h', toks := tk } : Shared).heap s1.heap.objs.size (once zs) := R
  generalize ({ s1 with heap := h', toks := tk } : Shared) = s2 at I2 R2 ⊢
  refine sorted_tx R2 (I2.ok.hd hc) (by omega) fun s' p out c ys k g o hp hg hS hs pm => ?_
  have hlen : (ys.map V.str).length ≤ sizeLine := by rw [List.length_map, pm.length_eq, sizeLine_eq]; omega
  have hn : H1 p = none := I2.hok.fresh hp
  have J : Inv X pins σ (upd H1 p (.lst (ys.map V.str))) { s2 with heap := s'.heap, gens := s'.gens, drawn := s'.drawn, toks := s'.toks } :=
    I2.call (ch := []) (Un.laid k hp hn) (I2.hok.laid k hp ⟨hlen, out.toList, c, vals_of_strs hS, hg⟩) (by rw [g]; exact I2.bare) (fun _ z => nomatch z)
  have e : s' = { s2 with heap := s'.heap, gens := s'.gens, drawn := s'.drawn, toks := s'.toks } := by
    cases s'
    cases s2
    cases o
    rfl
  rw [e]
  exact ⟨.ref p, _, J, rfl, q1 ys p pm hs hn⟩
theorem w_sortSetS {K : PySem.W.Frag} {σ : L2.St} {H : Hp} {Q : VK} {te : TE} (h : te σ H fun x H1 => ∃ (l : Addr) (zs : List Str), x = .ref l ∧ SqL K H1 l (zs.map V.str) ∧ zs.length < 64 ∧ ∀ (ys : List Str) (p : Addr), ys.Perm (once zs) → sortedS ys = true → H1 p = none → Q (.ref p) (upd H1 p (.lst (ys.map V.str)))) : tSortSetS K te σ H Q := h
end
end Go

set_option Elab.async false
set_option linter.all false
set_option maxRecDepth 100000
set_option maxHeartbeats 4000000
namespace Go
open PySem PySem.Spec PyProof.Rows L2
/-! ### sorted(d), d a dict with texts as keys -/
section
variable {prog : Program} {w : World} {A : Around} {E : Value → Shared → Prop} {s : Shared} {κ : Type} [DecidableEq κ] {knd : PySem.KeyKind prog w κ}
def ColD (knd : PySem.KeyKind prog w κ) (s : Shared) (kvs : List (κ × Value)) (r : Result) (s' : Shared) : Prop :=
  ∃ (h' : Heap) (tk : Nat) (acc : Array Value) (c : Nat), r = .ok (.ret (.ref s.heap.objs.size)) ∧ s' = { s with heap := h', toks := tk } ∧ (∀ b o, s.heap.get? b = some o → h'.get? b = some o) ∧ h'.get? s.heap.objs.size = some { cls := .type "list", dict := none, data := .seq acc c, slots := #[] } ∧
    ItemsOf (fun i v => ∃ k x, kvs[i]? = some (k, x) ∧ knd.is k v = true) acc kvs.length
theorem collect_dict {d : Addr} {kvs : List (κ × Value)} {ep : Nat} {Q : List Value → Shared → Prop} (hh : A.handled = none) (lo : (d == sysModules) = false) (hm : s.heap.DictAt knd d kvs ep) (hn : kvs.length ≤ sizeLine)
    (hQ : ∀ h' tk (acc : Array Value), (∀ b o, s.heap.get? b = some o → h'.get? b = some o) → s.heap.objs.size < h'.objs.size → ItemsOf (fun i v => ∃ k x, kvs[i]? = some (k, x) ∧ knd.is k v = true) acc kvs.length → Q acc.toList { s with heap := h', toks := tk }) :
    wpAny (model prog w) A (collect (.ref d)) Q E s := by
  have lt : d < s.heap.objs.size := hm.lt_size
  unfold collect
  refine wpAny_bind (wpAny_runValue (codeAny_mono (codeAny_builtin (R := ColD knd s kvs) PySem.F.entry_proto_collect ?_) fun r s' hr => ?_))
  case refine_2 =>
    obtain ⟨h', tk, acc, c, rfl, rfl, hk, hS', hacc⟩ := hr
    show wpAny _ A (load s.heap.objs.size >>= _) _ _ _
    refine wpAny_bind (wpAny_load hS' ?_)
    refine wpAny_pure ?_
    exact hQ h' tk acc hk (Heap.lt_size hS') hacc
  rw [Around.under_plainId PySem.F.plain_proto_collect _]
  show wpAny _ A.in1 (newList [] >>= fun l => again (.builtin "list.__iadd__" ⟨[l, .ref d], []⟩)) _ _ s
  refine wpAny_bind (wpAny_newObj_type ?_)
  refine wpAny_pure ⟨plainId_quiet PySem.F.plain_list_iadd _, codeAny_builtin PySem.F.entry_list_iadd ?_⟩
  rw [Around.under_plainId PySem.F.plain_list_iadd _]
  have hS : (s.heap.push { cls := .type "list", data := .seq ([] : List Value).toArray }).get? s.heap.objs.size = some { cls := .type "list", data := .seq ([] : List Value).toArray } := Heap.get?_push_size _ rfl
  show wpAny _ A.in1 (Builtin.List.listExtendWith (.ref s.heap.objs.size) (.ref d) (.ref s.heap.objs.size)) _ _ { s with heap := s.heap.push { cls := .type "list", data := .seq ([] : List Value).toArray } }
  refine PySem.W.kdl_extend (A := A) (R := ColD knd s kvs) (s := { s with heap := s.heap.push { cls := .type "list", data := .seq ([] : List Value).toArray } }) (PySem.W.kdl_dict (knd := knd) (kvs := kvs) (ep := ep) lo) hh (hm.push _) s.heap.objs.size (Nat.ne_of_gt lt) (Nat.ne_of_gt lt) _ _ hS (fun h' tk acc c hk hS' hacc => ⟨h', tk, acc, c, rfl, rfl, fun b o e => hk b o (Nat.ne_of_lt (Heap.lt_size e)) (Heap.get?_push_of_some _ e), hS', hacc⟩) hn
end
section
variable {X : Cx}
def rSortedDS : List V → Hp → VK → Prop := fun vs H Q => ∃ (a : Addr) (kvs : List (Str × V)), vs = [V.ref a] ∧ H a = some (.dK (kvs.map fun kv => (.inr kv.1, kv.2))) ∧ kvs.length < 64 ∧ ∀ (ys : List Str) (p : Addr), ys.Perm (kvs.map (·.1)) → sortedS ys = true → H p = none → Q (.ref p) (upd H p (.lst (ys.map V.str)))
theorem strs_at : ∀ {vs : List Value} {zs : List Str}, vs.length = zs.length → (∀ (i : Nat) (v : Value) (z : Str), vs[i]? = some v → zs[i]? = some z → ∃ tk, v = .str z tk) → StrsAre vs zs
  | [], [], _, _ => .nil
  | [], z :: zs, h, _ => by cases h
  | v :: vs, [], h, _ => by cases h
  | v :: vs, z :: zs, h, k => by
    obtain ⟨tk, rfl⟩ := k 0 v z rfl rfl
    exact .cons z tk (strs_at (by simpa using h) fun i v' z' h1 h2 => k (i + 1) v' z' h1 h2)
theorem cr_sortedDS (hc : X.calm = true) : CallR X (.builtin "sorted") rSortedDS := by
  intro pins s σ H vs us Q I r h
  obtain ⟨a, kvs, rfl, ha, h64, q⟩ := h
  rw [Vals.ref1 r]
  obtain ⟨z, lo, ws, rk, hd⟩ := (show ObjOk X.prog X.w H s.heap a (.dK _) from I.hok a _ ha)
  obtain ⟨ep, hat⟩ := hd.dictAt
  have hl : kvs.length = ws.length := by
    have := Paired.length rk
    rw [List.length_map] at this
    exact this
  refine Calls.call_function_entry kind_sorted plain_sorted entry_sorted (args_sorted1 _) ?_
  unfold Builtin.«sorted»
  refine wpAny_bind (m := checkCount "sorted" 1 1 _) (wpAny_pure ?_)
  refine wpAny_bind (collect_dict (A := X.A.in1) (knd := mixKind X.prog X.w) (I.ok.hd hc) lo hat (by rw [← hl, sizeLine_eq]; omega) fun h' tk acc hk hlt hacc => ?_)
  have hS : StrsAre acc.toList (kvs.map (·.1)) := by
    refine strs_at (by rw [Array.length_toList, hacc.1, List.length_map, hl]) fun i v zz h1 h2 => ?_
    obtain ⟨k, y, hky, hi⟩ := hacc.2 i v (by rw [← Array.getElem?_toList]; exact h1)
    have e1 : ((kvs.map fun kv => ((Sum.inr kv.1 : Key), kv.2)).map (·.1))[i]? = some k := by
      rw [KV.keys rk, List.getElem?_map, hky]; rfl
    rw [List.map_map, List.getElem?_map] at e1
    rw [List.getElem?_map] at h2
    cases hkv : kvs[i]? with
    | none => rw [hkv] at h2; cases h2
    | some kv =>
      rw [hkv] at h2 e1
      cases h2
      cases e1
      have := keyIs_rel (k := .inr kv.1) hi
      exact this
  have hvl : acc.toList.length < 64 := by rw [Array.length_toList, hacc.1, ← hl]; exact h64
  refine wpAny_bind (wpAny_newList ?_ (by rw [sizeLine_eq]; omega))
  have hoL : (h'.push (seqObj "list" acc.toList.toArray 0)).get? h'.objs.size = some (seqObj "list" acc.toList.toArray 0) := Heap.get?_push_size _ rfl
  refine wpAny_bind (wpAny_holding (wpAny_call_entry slot_list_sort ⟨_, hoL, rfl⟩ entry_list_sort (list_sort_treeK (s := { s with heap := h'.push (seqObj "list" acc.toList.toArray 0), toks := tk }) strKind_oneLt hoL hS.keysOf (fun v₁ v₂ rest e => keyKind_strs (by rw [← e]; exact hS)) hvl fun st' a1 a2 => ⟨_, rfl, ?_⟩) (args_list_sort _)))
  obtain ⟨ys, b1, b2, b3⟩ := sorted_out_str hS a1 a2
  obtain ⟨out, eout⟩ : ∃ out, out = Array.map (fun x => x.snd) (arrOf st') := ⟨_, rfl⟩
  rw [← eout] at b1 ⊢
  obtain ⟨c, hcc⟩ := sortedHeap_at (vs := acc.toList) (out := out) hoL
  have hlen : (ys.map V.str).length ≤ sizeLine := by rw [List.length_map, b2.length_eq, List.length_map, sizeLine_eq]; omega
  have old : ∀ b u, s.heap.get? b = some u → (sortedHeap (h'.push (seqObj "list" acc.toList.toArray 0)) h'.objs.size acc.toList out).get? b = some u := fun b u e => by
    have q := hk b u e
    have lt := Heap.lt_size q
    rw [sortedHeap_old (Nat.ne_of_lt lt) (by rw [size_push']; exact Nat.lt_succ_of_lt lt)]
    exact Heap.get?_push_of_some _ q
  refine wpAny_pure ⟨_, rfl, ?_⟩
  exact ⟨.ref _, upd H h'.objs.size (.lst (ys.map V.str)), I.laid (t' := tk) old (Nat.le_of_lt hlt) ⟨hlen, _, c, vals_of_strs b1, hcc⟩, rfl, q ys _ b2 b3 (I.hok.fresh (Nat.le_of_lt hlt))⟩
/-! ### (i, j) > (k, l) -/
def rGtT2 (K : PySem.W.Frag) : R2 := fun x y H Q => ∃ (a b : Addr) (i j k l : Int), x = .ref a ∧ y = .ref b ∧ SqT K H a [.int i, .int j] ∧ SqT K H b [.int k, .int l] ∧ Q (.bl (decide (k < i ∨ (i = k ∧ l < j)))) H
theorem op_gtT2 (hu : X.A.units < cLine) : OpR X (compareOp .Gt) (rGtT2 X.K) := by
  intro pins s σ H x y v u Q I rx ry h
  obtain ⟨a, b, i, j, k, l, rfl, rfl, ha, hb, q⟩ := h
  cases rx
  cases ry
  obtain ⟨its, r1, p1, _⟩ := I.tuple ha
  obtain ⟨its2, r2, p2, _⟩ := I.tuple hb
  have i1 : IntsAre its [i, j] := Vals.ints (ns := [i, j]) r1
  have i2 : IntsAre its2 [k, l] := Vals.ints (ns := [k, l]) r2
  have e1 : its.toArray.size = 2 := by rw [List.size_toArray]; exact i1.length
  have e2 : its2.toArray.size = 2 := by rw [List.size_toArray]; exact i2.length
  have at1 : ∀ n (h1 : n < its.toArray.size), ∃ t, its.toArray[n] = .int ([i, j].getD n 0) t := fun n h1 => PyProof.Rows.IntsAre.int_at i1 _ _ (by simp at h1; simp [h1])
  have at2 : ∀ n (h1 : n < its2.toArray.size), ∃ t, its2.toArray[n] = .int ([k, l].getD n 0) t := fun n h1 => PyProof.Rows.IntsAre.int_at i2 _ _ (by simp at h1; simp [h1])
  have R := Ob.RcOp.tuples_gt (A := X.A) (s := s) (e := fun n => decide ([i, j].getD n 0 = [k, l].getD n 0)) (r := fun n => decide ([k, l].getD n 0 < [i, j].getD n 0)) p1 p2 hu (fun n h1 h2 => by
    obtain ⟨t, et⟩ := at1 n h1
    obtain ⟨t', et'⟩ := at2 n h2
    have z : decide ([i, j].getD n 0 = [k, l].getD n 0) = ([i, j].getD n 0 == [k, l].getD n 0) := by
      rw [Bool.eq_iff_iff]
      simp only [decide_eq_true_eq, beq_iff_eq]
    rw [et, et', z]
    exact SeqAt.EqAt.int_int _ _ _ _) (fun n h1 h2 _ => by
    obtain ⟨t, et⟩ := at1 n h1
    obtain ⟨t', et'⟩ := at2 n h2
    rw [et, et']
    exact Ob.RcOp.gt_int _ _ _ _)
  rw [e1, e2] at R
  refine R X.prog X.w X.xe (EP X pins σ Q) ⟨.bl _, H, I, rfl, ?_⟩
  have e : Ob.lexAt (fun n => decide ([i, j].getD n 0 = [k, l].getD n 0)) (fun n => decide ([k, l].getD n 0 < [i, j].getD n 0)) (decide (2 > 2)) 0 (min 2 2) = decide (k < i ∨ (i = k ∧ l < j)) := by
    show (if decide (i = k) = true then (if decide (j = l) = true then false else decide (l < j)) else decide (k < i)) = _
    by_cases h1 : i = k
    · rw [if_pos (decide_eq_true h1)]
      by_cases h2 : j = l
      · rw [if_pos (decide_eq_true h2), decide_eq_false (by omega)]
      · rw [if_neg (by simpa using h2)]
        by_cases h3 : l < j
        · rw [decide_eq_true h3, decide_eq_true (.inr ⟨h1, h3⟩)]
        · rw [decide_eq_false h3, decide_eq_false (by omega)]
    · rw [if_neg (by simpa using h1)]
      by_cases h3 : k < i
      · rw [decide_eq_true h3, decide_eq_true (.inl h3)]
      · rw [decide_eq_false h3, decide_eq_false (by omega)]
  rw [e]
  exact q
end
end Go

namespace Sum
open PySem PySem.Spec PyProof.Rows L2 Go
local macro_rules | `(tactic| walk_at "isi") => `(tactic| first
  | with_reducible refine Go.i_int_int ?_
  | with_reducible refine Go.i_int_bool ?_
  | with_reducible refine Go.i_int_str ?_
  | with_reducible refine Go.i_int_list ?_
  | with_reducible refine Go.i_int_tuple ?_
  | with_reducible refine Go.i_bl_int ?_
  | with_reducible refine Go.i_bl_bool ?_
  | with_reducible refine Go.i_bl_str ?_
  | with_reducible refine Go.i_bl_list ?_
  | with_reducible refine Go.i_bl_tuple ?_
  | with_reducible refine Go.i_str_int ?_
  | with_reducible refine Go.i_str_bool ?_
  | with_reducible refine Go.i_str_str ?_
  | with_reducible refine Go.i_str_list ?_
  | with_reducible refine Go.i_str_tuple ?_
  | with_reducible refine Go.i_non_int ?_
  | with_reducible refine Go.i_non_bool ?_
  | with_reducible refine Go.i_non_str ?_
  | with_reducible refine Go.i_non_list ?_
  | with_reducible refine Go.i_non_tuple ?_
  | ((with_reducible refine' Go.i_lst_int ?hh ?_); (case hh => walk_at "heap"))
  | ((with_reducible refine' Go.i_lst_bool ?hh ?_); (case hh => walk_at "heap"))
  | ((with_reducible refine' Go.i_lst_str ?hh ?_); (case hh => walk_at "heap"))
  | ((with_reducible refine' Go.i_lst_list ?hh ?_); (case hh => walk_at "heap"))
  | ((with_reducible refine' Go.i_lst_tuple ?hh ?_); (case hh => walk_at "heap"))
  | ((with_reducible refine' Go.i_tup_int ?hh ?_); (case hh => walk_at "heap"))
  | ((with_reducible refine' Go.i_tup_bool ?hh ?_); (case hh => walk_at "heap"))
  | ((with_reducible refine' Go.i_tup_str ?hh ?_); (case hh => walk_at "heap"))
  | ((with_reducible refine' Go.i_tup_list ?hh ?_); (case hh => walk_at "heap"))
  | ((with_reducible refine' Go.i_tup_tuple ?hh ?_); (case hh => walk_at "heap"))
  | ((with_reducible refine' Go.i_dK_int ?hh ?_); (case hh => walk_at "heap"))
  | ((with_reducible refine' Go.i_dK_bool ?hh ?_); (case hh => walk_at "heap"))
  | ((with_reducible refine' Go.i_dK_str ?hh ?_); (case hh => walk_at "heap"))
  | ((with_reducible refine' Go.i_dK_list ?hh ?_); (case hh => walk_at "heap"))
  | ((with_reducible refine' Go.i_dK_tuple ?hh ?_); (case hh => walk_at "heap")))
local macro_rules | `(tactic| walk_at "heap") => `(tactic| first | assumption | exact upd_same | (refine Go.keep ?_ (by assumption); walk_at "heap") | (refine Go.get (by assumption) ?_; walk_at "heap"))
local macro_rules | `(tactic| walk_at "s") => `(tactic| first
  | with_reducible refine Go.w_seq ?_
  | with_reducible refine Go.w_asg ?_
  | with_reducible refine Go.w_op ?_
  | ((with_reducible refine' Go.w_var ?hh ?_); (case hh => exact rfl))
  | with_reducible refine Go.w_con ?_
  | with_reducible refine Go.w_I0 ?_
  | ((with_reducible refine Go.w_mulI ?hh ?_); (case hh => first | exact Or.inl ⟨by decide, by decide⟩ | exact Or.inr ⟨by decide, by decide⟩))
  | ((with_reducible refine Go.w_modI ?hh ?_); (case hh => first | decide | omega))
  | ((with_reducible refine Go.w_divI ?hh ?_); (case hh => exact ⟨by decide +kernel, by decide +kernel⟩))
  | ((with_reducible refine Go.w_powI ?hh ?_); (case hh => exact ⟨by decide +kernel, by decide +kernel, by decide +kernel⟩))
  | ((with_reducible refine Go.w_shrI ?hh ?_); (case hh => first | decide | omega))
  | with_reducible refine Go.w_if ?_
  | with_reducible refine Go.w_test ?_
  | with_reducible refine Go.w_tB ?_
  | with_reducible refine Go.w_k ?_
  | with_reducible refine Go.w_call ?_
  | with_reducible refine Go.w_cons ?_
  | with_reducible refine Go.w_nil ?_
  | with_reducible refine Go.w_ret ?_
  | with_reducible refine Go.w_cb ?_
  | with_reducible refine Go.w_tup ?_
  | with_reducible refine Go.w_lst ?_
  | ((with_reducible refine Go.w_eq ?hh ?_); (case hh => exact rfl))
  | ((with_reducible refine Go.w_ne ?hh ?_); (case hh => exact rfl))
  | with_reducible refine Go.w_or ?_
  | with_reducible refine Go.w_and ?_
  | with_reducible refine Go.w_not ?_
  | with_reducible refine Go.w_next ?_
  | with_reducible refine Go.w_drop ?_
  | with_reducible refine Go.w_un ?_
  | with_reducible refine Go.w_U ?_
  | with_reducible refine Go.w_orV ?_
  | with_reducible refine Go.w_andV ?_
  | with_reducible refine Go.w_notV ?_
  | with_reducible refine Go.w_orT ?_
  | with_reducible refine Go.w_andT ?_
  | with_reducible refine Go.w_truI ?_
  | with_reducible refine Go.w_isB ?_
  | with_reducible refine Go.w_notB ?_
  | with_reducible refine Go.w_isN ?_
  | with_reducible refine Go.w_notN ?_
  | with_reducible refine Go.w_chain ?_
  | with_reducible refine Go.w_ifE ?_
  | with_reducible refine Go.w_abs ?_
  | with_reducible refine Go.w_intB ?_
  | with_reducible refine Go.w_sub ?_
  | with_reducible refine Go.w_par ?_
  | with_reducible refine Go.w_sl ?_
  | with_reducible refine Go.w_noPart ?_
  | with_reducible refine Go.w_part ?_
  | with_reducible refine Go.w_partI ?_
  | ((with_reducible refine' Go.w_ixT ?h1 ?h2 ?_); (case h1 => (apply Go.sqT; walk_at "heap")); (case h2 => exact rfl))
  | ((with_reducible refine' Go.w_ixL ?h1 ?h2 ?_); (case h1 => (apply Go.sqL; walk_at "heap")); (case h2 => exact rfl))
  | ((with_reducible refine' Go.w_lenT ?h1 ?_); (case h1 => (apply Go.sqT; walk_at "heap")))
  | ((with_reducible refine' Go.w_lenL ?h1 ?_); (case h1 => (apply Go.sqL; walk_at "heap")))
  | ((with_reducible refine' Go.w_ixsT ?h1 ?h2 ?_); (case h1 => (apply Go.sqT; walk_at "heap")); (case h2 => exact rfl))
  | ((with_reducible refine' Go.w_ixsL ?h1 ?h2 ?_); (case h1 => (apply Go.sqL; walk_at "heap")); (case h2 => exact rfl))
  | with_reducible refine Go.w_bm ?_
  | with_reducible refine Go.w_bm0 ?_
  | ((with_reducible refine' Go.w_tyL ?h1 ?_); (case h1 => walk_at "heap"))
  | with_reducible refine Go.w_tyS ?_
  | with_reducible refine Go.w_min2 ?_
  | with_reducible refine Go.w_max2 ?_
  | with_reducible refine Go.w_bits ?_
  | with_reducible refine Go.w_bitsI ?_
  | with_reducible refine Go.w_gName ?_
  | ((with_reducible refine' Go.w_gTup ?h1 ?h2 ?_); (case h1 => (apply Go.sqT; walk_at "heap")); (case h2 => exact rfl))
  | ((with_reducible refine' Go.w_gUnl ?h1 ?h2 ?_); (case h1 => (apply Go.sqL; walk_at "heap")); (case h2 => exact rfl))
  | with_reducible refine Go.w_gCons ?_
  | with_reducible refine Go.w_gNil ?_
  | with_reducible refine Go.w_asgG ?_
  | walk_at "isi"
  | with_reducible refine Go.w_forI ?_
  | with_reducible refine Go.w_iL ?_
  | with_reducible refine Go.w_iT ?_
  | with_reducible refine Go.w_iZT ?_
  | with_reducible refine Go.w_iR1 ?_
  | with_reducible refine Go.w_iR2 ?_
  | with_reducible refine Go.w_lc ?_
  | ((with_reducible refine Go.if_t ?hh ?_); (case hh => exact rfl))
  | ((with_reducible refine Go.if_f ?hh ?_); (case hh => exact rfl)))
local macro_rules | `(tactic| walk_at "go") => `(tactic| repeat (walk_at "s"))

/-! ### promises: names and numbers -/
def smallC (c : Nat) : Bool := decide (97 ≤ c) && decide (c ≤ 122)
def isNm (z : Str) : Bool := decide (1 ≤ z.length) && decide (z.length ≤ 8) && z.cps.toList.all smallC
def nmV : V → Bool
  | .str z => isNm z
  | _ => false
def numI : V → Bool
  | .int i => decide (-1000000000000 ≤ i) && decide (i ≤ 1000000000000)
  | _ => false
def numsOk (xs : List V) : Bool := decide (1 ≤ xs.length) && decide (xs.length ≤ 3) && xs.all numI
def Kds (H : Hp) (xs : List V) : Prop := ∀ x ∈ xs, ∃ T, Kd H x T
def spIsInt : Sp := fun vs H Q _ => ∃ v T, vs = [v] ∧ Kd H v T ∧ Q (.bl (T == "int")) H
def spIsName : Sp := fun vs H Q _ => ∃ v T, vs = [v] ∧ Kd H v T ∧ (∀ z, v = .str z → z.length ≤ 100000) ∧ ∀ H', Same H H' → Q (.bl (nmV v)) H'
def spIsNumbers : Sp := fun vs H Q _ => ∃ v, vs = [v] ∧ ((∃ a xs, v = .ref a ∧ H a = some (.tup xs) ∧ Kds H xs ∧ ∀ H', Same H H' → Q (.bl (numsOk xs)) H') ∨ ∃ T, Kd H v T ∧ T ≠ "tuple" ∧ Q (.bl false) H)
theorem Kds.same {H H' : Hp} {xs : List V} (h : Kds H xs) (s : Same H H') : Kds H' xs := fun x hx => by
  obtain ⟨T, h⟩ := h x hx
  exact ⟨T, h.same s⟩

/-! ### promises: a dict to draw by -/
abbrev srcD (c : Int) (n : Nat) : HO := .dK [(.inr ("cell" : Str), .int c), (.inr ("at" : Str), .int (n : Int))]
def Src (H : Hp) (l : Addr) : Prop := ∃ (c : Int) (n : Nat), H l = some (srcD c n)
/-- .. of at most a draws -/
def Cn (H : Hp) (l : Addr) (a : Nat) : Prop := ∃ (c : Int) (n : Nat), H l = some (srcD c n) ∧ n ≤ a
theorem Cn.src {H : Hp} {l : Addr} {a : Nat} (h : Cn H l a) : Src H l := by
  obtain ⟨c, n, h, _⟩ := h
  exact ⟨c, n, h⟩
theorem Cn.mono {H : Hp} {l : Addr} {a b : Nat} (h : Cn H l a) (k : a ≤ b) : Cn H l b := by
  obtain ⟨c, n, h, e⟩ := h
  exact ⟨c, n, h, Nat.le_trans e k⟩
theorem Cn.same {H H' : Hp} {l : Addr} {a : Nat} (h : Cn H l a) (s : Same H H') : Cn H' l a := by
  obtain ⟨c, n, h, e⟩ := h
  exact ⟨c, n, s _ _ h, e⟩
theorem Cn.put {H : Hp} {l D : Addr} {a : Nat} {o : HO} (h : Cn H l a) (n : D ≠ l) : Cn (upd H D o) l a := by
  obtain ⟨c, k, h, e⟩ := h
  exact ⟨c, k, by rw [upd_ne n.symm]; exact h, e⟩
/-- by a draw the source alone has changed -/
structure Dr (l : Addr) (H H' : Hp) : Prop where
  keep : ∀ p o, p ≠ l → H p = some o → H' p = some o
  src0 : Src H l
  src : Src H' l
theorem Dr.trans {l : Addr} {H H1 H2 : Hp} (a : Dr l H H1) (b : Dr l H1 H2) : Dr l H H2 := ⟨fun p o n h => b.keep p o n (a.keep p o n h), a.src0, b.src⟩
theorem Dr.refl {l : Addr} {H : Hp} (s : Src H l) : Dr l H H := ⟨fun _ _ _ h => h, s, s⟩
theorem Dr.tup {l : Addr} {H H' : Hp} {a : Addr} {xs : List V} (d : Dr l H H') (h : H a = some (.tup xs)) : H' a = some (.tup xs) := by
  obtain ⟨x, y, e⟩ := d.src0
  exact d.keep a _ (ne_of h e (by intro z; cases z)) h
theorem Dr.free {l : Addr} {H H' : Hp} {p : Addr} (d : Dr l H H') (h : H' p = none) : H p = none := by
  obtain ⟨x, y, e⟩ := d.src
  cases q : H p with
  | none => rfl
  | some o =>
    by_cases n : p = l
    · rw [n, e] at h; cases h
    · rw [d.keep p o n q] at h; cases h
theorem Src.ext {l : Addr} {H H' : Hp} (s : Src H l) (e : Same H H') : Src H' l := by
  obtain ⟨x, y, h⟩ := s
  exact ⟨x, y, e _ _ h⟩
theorem Dr.same {l : Addr} {H H' : Hp} (s : Src H l) (e : Same H H') : Dr l H H' := ⟨fun p o _ h => e p o h, s, s.ext e⟩
theorem Dr.new {l : Addr} {H H' : Hp} {p : Addr} {o : HO} (d : Dr l H H') (hp : H' p = none) : Dr l H (upd H' p o) := d.trans (Dr.same d.src (same_new hp))
/-- what H0 had stays while a thing that H0 had not is drawn by -/
theorem Dr.same_of {l : Addr} {H0 H H' : Hp} (d : Dr l H H') (s : Same H0 H) (hl : H0 l = none) : Same H0 H' := fun p o h => d.keep p o (ne_of_none h hl) (s p o h)
theorem Src.ne_new {H : Hp} {l p : Addr} (s : Src H l) (hp : H p = none) : p ≠ l := fun e => by
  obtain ⟨x, y, h⟩ := s
  rw [e, h] at hp; cases hp
theorem Src.ne_lst {H : Hp} {l p : Addr} {xs : List V} (s : Src H l) (hp : H p = some (.lst xs)) : p ≠ l := fun e => by
  obtain ⟨x, y, h⟩ := s
  rw [e, h] at hp; cases hp
theorem Dr.lst {l : Addr} {H H' : Hp} {a : Addr} {xs : List V} (d : Dr l H H') (h : H a = some (.lst xs)) : H' a = some (.lst xs) := d.keep a _ (d.src0.ne_lst h) h
theorem Dr.put {l D : Addr} {H H' : Hp} {o : HO} (d : Dr l H H') (hD : H D = none) (n : D ≠ l) : Dr l H (upd H' D o) := by
  refine ⟨fun b ob nb e => ?_, d.src0, ?_⟩
  · rw [upd_ne (ne_of_none e hD)]
    exact d.keep b ob nb e
  · obtain ⟨x, y, h⟩ := d.src
    exact ⟨x, y, by rw [upd_ne n.symm]; exact h⟩
def spCellAt (K : PySem.W.Frag) : Sp := fun vs H Q _ => ∃ (a : Addr) (ns : List Int) (k : Nat), vs = [.ref a, .int k] ∧ SqL K H a (ns.map V.int) ∧ ∀ n : Int, Q (.int n) H
def spMixed : Sp := fun vs H Q _ => ∃ (c : Int) (k : Nat), vs = [.int c, .int (k : Int)] ∧ k ≤ 2000000 ∧ ∀ n : Int, 0 ≤ n → Q (.int n) H
def spDraw : Sp := fun vs H Q _ => ∃ (l : Addr) (m : Int) (a : Nat), vs = [.ref l, .int m] ∧ Cn H l a ∧ a ≤ 1000000 ∧ 0 < m ∧ ∀ d H', 0 ≤ d → d < m → Dr l H H' → Cn H' l (a + 1) → Q (.int d) H'
def spPick : Sp := fun vs H Q _ => ∃ (l p : Addr) (ns : List Int) (a : Nat), vs = [.ref l, .ref p] ∧ Cn H l a ∧ a ≤ 1000000 ∧ H p = some (.lst (ns.map V.int)) ∧ ns ≠ [] ∧ ∀ n H', n ∈ ns → Dr l H H' → Cn H' l (a + 1) → Q (.int n) H'
theorem Src.put {H : Hp} {l D : Addr} {o : HO} (s : Src H l) (n : D ≠ l) : Src (upd H D o) l := by
  obtain ⟨x, y, h⟩ := s
  exact ⟨x, y, by rw [upd_ne n.symm]; exact h⟩

/-! ### things that stay: tuples of tuples, texts, numbers -/
mutual
inductive Fz (H : Hp) : V → PyData → Prop
  | non : Fz H .non .none
  | bl (b : Bool) : Fz H (.bl b) (.bool b)
  | int (i : Int) : Fz H (.int i) (.int i)
  | str (x : Str) : Fz H (.str x) (.str x)
  | tup {a : Addr} {xs : List V} {ds : List PyData} : H a = some (.tup xs) → FzAll H xs ds → Fz H (.ref a) (.tuple ds)
inductive FzAll (H : Hp) : List V → List PyData → Prop
  | nil : FzAll H [] []
  | cons {v : V} {vs : List V} {d : PyData} {ds : List PyData} : Fz H v d → FzAll H vs ds → FzAll H (v :: vs) (d :: ds)
end
mutual
theorem Fz.mono {H H' : Hp} (k : ∀ a xs, H a = some (.tup xs) → H' a = some (.tup xs)) : ∀ {v : V} {d : PyData}, Fz H v d → Fz H' v d
  | _, _, .non => .non
  | _, _, .bl b => .bl b
  | _, _, .int i => .int i
  | _, _, .str x => .str x
  | _, _, .tup h t => .tup (k _ _ h) (FzAll.mono k t)
theorem FzAll.mono {H H' : Hp} (k : ∀ a xs, H a = some (.tup xs) → H' a = some (.tup xs)) : ∀ {vs : List V} {ds : List PyData}, FzAll H vs ds → FzAll H' vs ds
  | _, _, .nil => .nil
  | _, _, .cons h t => .cons (Fz.mono k h) (FzAll.mono k t)
end
mutual
theorem Fz.dp {K : PySem.W.Frag} {H : Hp} : ∀ {v : V} {d : PyData}, Fz H v d → Dp K H v d
  | _, _, .non => .non
  | _, _, .bl b => .bl b
  | _, _, .int i => .int i
  | _, _, .str x => .str x
  | _, _, .tup h t => .tup (SqT.of h) (FzAll.dp t)
theorem FzAll.dp {K : PySem.W.Frag} {H : Hp} : ∀ {vs : List V} {ds : List PyData}, FzAll H vs ds → DpAll K H vs ds
  | _, _, .nil => .nil
  | _, _, .cons h t => .cons (Fz.dp h) (FzAll.dp t)
end
section
variable {H H' : Hp} {v : V} {vs ws : List V} {d : PyData} {ds es : List PyData} {l : Addr}
theorem Fz.same (h : Fz H v d) (s : Same H H') : Fz H' v d := h.mono fun _ _ e => s _ _ e
theorem FzAll.same (h : FzAll H vs ds) (s : Same H H') : FzAll H' vs ds := h.mono fun _ _ e => s _ _ e
theorem Fz.dr (h : Fz H v d) (k : Dr l H H') : Fz H' v d := h.mono fun _ _ e => k.tup e
theorem FzAll.dr (h : FzAll H vs ds) (k : Dr l H H') : FzAll H' vs ds := h.mono fun _ _ e => k.tup e
theorem keep_tup {D a : Addr} {xs ys ws : List V} (hD : H D = some (.lst ys)) (h : H a = some (.tup xs)) : (upd H D (.lst ws)) a = some (.tup xs) := by
  rw [upd_ne (ne_of h hD (by intro z; cases z))]; exact h
theorem Fz.put {D : Addr} {ys ws : List V} (h : Fz H v d) (hD : H D = some (.lst ys)) : Fz (upd H D (.lst ws)) v d := h.mono fun _ _ e => keep_tup hD e
theorem FzAll.put {D : Addr} {ys ws : List V} (h : FzAll H vs ds) (hD : H D = some (.lst ys)) : FzAll (upd H D (.lst ws)) vs ds := h.mono fun _ _ e => keep_tup hD e
theorem FzAll.app (h : FzAll H vs ds) (h2 : FzAll H ws es) : FzAll H (vs ++ ws) (ds ++ es) := by
  induction vs generalizing ds with
  | nil => cases h; exact h2
  | cons v vs ih => cases h with | cons a t => exact .cons a (ih t)
theorem FzAll.len (h : FzAll H vs ds) : vs.length = ds.length := by
  induction vs generalizing ds with
  | nil => cases h; rfl
  | cons v vs ih => cases h with | cons a t => rw [List.length_cons, List.length_cons, ih t]
theorem FzAll.at (h : FzAll H vs ds) {i : Nat} {x : V} (hx : vs[i]? = some x) : ∃ d, ds[i]? = some d ∧ Fz H x d := by
  induction vs generalizing ds i with
  | nil => cases hx
  | cons v vs ih =>
    cases h with
    | cons a t =>
      cases i with
      | zero => cases hx; exact ⟨_, rfl, a⟩
      | succ i => exact ih t hx
theorem FzAll.take (h : FzAll H vs ds) (n : Nat) : FzAll H (vs.take n) (ds.take n) := by
  induction vs generalizing ds n with
  | nil => cases h; rw [List.take_nil, List.take_nil]; exact .nil
  | cons v vs ih =>
    cases h with
    | cons a t =>
      cases n with
      | zero => exact .nil
      | succ n => exact .cons a (ih t n)
theorem FzAll.drop (h : FzAll H vs ds) (n : Nat) : FzAll H (vs.drop n) (ds.drop n) := by
  induction vs generalizing ds n with
  | nil => cases h; rw [List.drop_nil, List.drop_nil]; exact .nil
  | cons v vs ih =>
    cases h with
    | cons a t =>
      cases n with
      | zero => exact .cons a t
      | succ n => exact ih t n
theorem FzAll.rev (h : FzAll H vs ds) : FzAll H vs.reverse ds.reverse := by
  induction vs generalizing ds with
  | nil => cases h; exact .nil
  | cons v vs ih =>
    cases h with
    | cons a t => rw [List.reverse_cons, List.reverse_cons]; exact (ih t).app (.cons a .nil)
theorem fz_tup (h : Fz H v (.tuple ds)) : ∃ a xs, v = .ref a ∧ H a = some (.tup xs) ∧ FzAll H xs ds := by
  cases h with
  | tup h t => exact ⟨_, _, rfl, h, t⟩
theorem fz_ints : ∀ {ns : List Int}, FzAll H (ns.map V.int) (ns.map PyData.int)
  | [] => .nil
  | n :: ns => .cons (.int n) fz_ints
theorem fz_strs : ∀ {zs : List Str}, FzAll H (zs.map V.str) (zs.map PyData.str)
  | [] => .nil
  | z :: zs => .cons (.str z) fz_strs
theorem fz_ints_of {ns : List Int} {vs : List V} (h : FzAll H vs (ns.map PyData.int)) : vs = ns.map V.int := by
  induction ns generalizing vs with
  | nil => cases h; rfl
  | cons n ns ih =>
    cases h with
    | cons a t =>
      cases a
      rw [ih t]; rfl
theorem fz_strs_of {zs : List Str} {vs : List V} (h : FzAll H vs (zs.map PyData.str)) : vs = zs.map V.str := by
  induction zs generalizing vs with
  | nil => cases h; rfl
  | cons n ns ih =>
    cases h with
    | cons a t =>
      cases a
      rw [ih t]; rfl
def kdD : PyData → String
  | .none => "NoneType"
  | .bool _ => "bool"
  | .int _ => "int"
  | .str _ => "str"
  | _ => "tuple"
theorem Fz.kd (h : Fz H v d) : Kd H v (kdD d) := by
  cases h with
  | non => exact .non
  | bl b => exact .bl b
  | int i => exact .int i
  | str x => exact .str x
  | tup h t => exact .tup h
theorem FzAll.kds (h : FzAll H vs ds) : Kds H vs := by
  induction vs generalizing ds with
  | nil => intro x hx; cases hx
  | cons v vs ih =>
    cases h with
    | cons a t =>
      intro x hx
      rcases List.mem_cons.mp hx with e | e
      · rw [e]; exact ⟨_, a.kd⟩
      · exact ih t x e
end
/-- a list at D that grows while there is drawn at l: its items stay -/
def Df (l D : Addr) (H : Hp) (R : List PyData → Prop) (H' : Hp) : Prop := Dr l H H' ∧ H D = none ∧ D ≠ l ∧ ∃ xs ds, H' D = some (.lst xs) ∧ FzAll H' xs ds ∧ R ds
theorem Df.start {l D : Addr} {H : Hp} {R : List PyData → Prop} (s : Src H l) (hD : H D = none) (r : R []) : Df l D H R (upd H D (.lst [])) := ⟨(Dr.refl s).new hD, hD, s.ne_new hD, [], [], upd_same, .nil, r⟩
theorem Df.put {l D : Addr} {H H1 H2 : Hp} {R R' : List PyData → Prop} {v : V} {d : PyData} (f : Df l D H R H1) (k : Dr l H1 H2) (hv : Fz H2 v d) (hr : ∀ ds, R ds → R' (ds ++ [d])) (hl : ∀ ds, R ds → ds.length ≤ 1000) :
    ∃ acc, H2 D = some (.lst acc) ∧ acc.length < sizeLine ∧ Df l D H R' (upd H2 D (.lst (acc ++ [v]))) := by
  obtain ⟨d1, hD, nDl, xs, ds, h1, h2, h3⟩ := f
  have dd := d1.trans k
  have hD2 := k.keep _ _ nDl h1
  refine ⟨_, hD2, small1000 (by rw [h2.len]; exact hl _ h3), ⟨fun b o nb e => ?_, dd.src0, ?_⟩, hD, nDl, xs ++ [v], ds ++ [d], upd_same, ?_, hr _ h3⟩
  · rw [upd_ne (ne_of_none e hD)]
    exact dd.keep b o nb e
  · exact dd.src.put nDl
  · exact ((h2.dr k).app (.cons hv .nil)).put hD2
theorem Df.imp {l D : Addr} {H H1 : Hp} {R R' : List PyData → Prop} (f : Df l D H R H1) (hr : ∀ ds, R ds → R' ds) : Df l D H R' H1 := by
  obtain ⟨d1, hD, nDl, xs, ds, h1, h2, h3⟩ := f
  exact ⟨d1, hD, nDl, xs, ds, h1, h2, hr _ h3⟩
theorem Df.dr {l D : Addr} {H H1 H2 : Hp} {R : List PyData → Prop} (f : Df l D H R H1) (k : Dr l H1 H2) : Df l D H R H2 := by
  obtain ⟨d1, hD, nDl, xs, ds, h1, h2, h3⟩ := f
  exact ⟨d1.trans k, hD, nDl, xs, ds, k.keep _ _ nDl h1, h2.dr k, h3⟩
/-- .. without drawing -/
def Lf (H : Hp) (D : Addr) (ds : List PyData) (i : Nat) (H' : Hp) : Prop := Same H H' ∧ H D = none ∧ ∃ xs, H' D = some (.lst xs) ∧ FzAll H' xs (ds.take i)
theorem Lf.start {H : Hp} {D : Addr} {ds : List PyData} (hD : H D = none) : Lf H D ds 0 (upd H D (.lst [])) := ⟨same_new hD, hD, [], upd_same, .nil⟩
theorem Lf.step {H H1 H2 : Hp} {D : Addr} {ds : List PyData} {i : Nat} {v : V} {d : PyData} (m : Lf H D ds i H1) (s : Same H1 H2) (hd : ds[i]? = some d) (hv : Fz H2 v d) (hl : ds.length ≤ 1000) :
    ∃ acc, H2 D = some (.lst acc) ∧ acc.length < sizeLine ∧ Lf H D ds (i + 1) (upd H2 D (.lst (acc ++ [v]))) := by
  obtain ⟨s0, hD, xs, h1, h2⟩ := m
  have hD2 := s _ _ h1
  refine ⟨_, hD2, small1000 (by rw [h2.len, List.length_take]; omega), fun b o e => ?_, hD, xs ++ [v], upd_same, ?_⟩
  · rw [upd_ne (ne_of_none e hD)]
    exact s _ _ (s0 _ _ e)
  · rw [List.take_add_one, hd]
    exact ((h2.same s).app (.cons hv .nil)).put hD2
theorem Lf.full {H H' : Hp} {D : Addr} {ds : List PyData} {n : Nat} (m : Lf H D ds n H') (hn : ds.length ≤ n) : ∃ xs, H' D = some (.lst xs) ∧ FzAll H' xs ds := by
  obtain ⟨_, _, xs, h, t⟩ := m
  rw [List.take_of_length_le hn] at t
  exact ⟨xs, h, t⟩

/-! ### promises: rolls -/
/-- a text of letters -/
def isTx (z : Str) : Prop := z.length ≤ 20 ∧ ∀ c ∈ z.cps.toList, 97 ≤ c ∧ c ≤ 122
structure En where
  nm : Str
  li : Int
  ve : Int
  nu : List Int
  ot : List Str
abbrev entD (e : En) : PyData := .tuple [.str e.nm, .int e.li, .int e.ve, .tuple (e.nu.map PyData.int), .tuple (e.ot.map PyData.str)]
def goodE (e : En) : Prop := isTx e.nm ∧ ∀ z ∈ e.ot, isTx z
def newerP (x y : En) : Bool := decide (y.li < x.li ∨ (x.li = y.li ∧ y.ve < x.ve))
/-- of a name the first one that is the newest -/
def cmb : Option En → Option En → Option En
  | none, y => y
  | x, none => x
  | some x, some y => some (if newerP y x = true then y else x)
def one? (n : Str) (e : En) : Option En := if e.nm = n then some e else none
def bst (n : Str) (es : List En) : Option En := es.foldl (fun acc e => cmb acc (one? n e)) none
structure Mg (es R : List En) : Prop where
  so : sortedS (R.map (·.nm)) = true
  nd : (R.map (·.nm)).Nodup
  mem : ∀ n, n ∈ R.map (·.nm) ↔ ∃ e ∈ es, e.nm = n
  bs : ∀ e ∈ R, bst e.nm es = some e
def spNewer : Sp := fun vs H Q _ => ∃ (v w : V) (x y : En), vs = [v, w] ∧ Fz H v (entD x) ∧ Fz H w (entD y) ∧ ∀ H', Same H H' → Q (.bl (newerP x y)) H'
/-- a roll at a -/
def Rl (H : Hp) (a : Addr) (es : List En) : Prop := ∃ xs, H a = some (.tup xs) ∧ FzAll H xs (es.map entD)
def spMerged (K : PySem.W.Frag) : Sp := fun vs H Q _ => ∃ (a b : Addr) (es fs : List En), vs = [.ref a, .ref b] ∧ Rl H a es ∧ Rl H b fs ∧ es.length + fs.length ≤ 40 ∧ ∀ (c : Addr) (R : List En) (H' : Hp), Same H H' → Rl H' c R → Mg (es ++ fs) R → Q (.ref c) H'
def spDue (K : PySem.W.Frag) : Sp := fun vs H Q _ => ∃ (a b : Addr) (es fs : List En), vs = [.ref a, .ref b] ∧ Rl H a es ∧ Rl H b fs ∧ es.length + fs.length ≤ 40 ∧ (es.map (·.nm)).Nodup ∧ (fs.map (·.nm)).Nodup ∧ ∀ (c : Addr) (R : List En) (H' : Hp), Same H H' → Rl H' c R → Mg (es ++ fs) R → Q (.ref c) H'
def spName : Sp := fun vs H Q _ => ∃ (l : Addr) (a : Nat), vs = [.ref l] ∧ Cn H l a ∧ a ≤ 900000 ∧ ∀ z H', isTx z → Dr l H H' → Cn H' l (a + 9) → Q (.str z) H'
def spNames : Sp := fun vs H Q _ => ∃ (l : Addr) (a : Nat), vs = [.ref l, .int 8] ∧ Cn H l a ∧ a ≤ 800000 ∧ ∀ (s : Addr) (zs : List Str) (H' : Hp), Dr l H H' → Cn H' l (a + 288) → H' s = some (.lst (zs.map V.str)) → H s = none → s ≠ l → zs.length ≤ 8 → zs.Nodup → (∀ z ∈ zs, isTx z) → Q (.ref s) H'
def spNumber : Sp := fun vs H Q _ => ∃ (l : Addr) (a : Nat), vs = [.ref l] ∧ Cn H l a ∧ a ≤ 900000 ∧ ∀ n H', Dr l H H' → Cn H' l (a + 3) → Q (.int n) H'
def spRoll : Sp := fun vs H Q _ => ∃ (l n : Addr) (zs : List Str) (m : Nat) (b : Bool) (a : Nat), vs = [.ref l, .ref n, .int (m : Int), .bl b] ∧ Cn H l a ∧ a ≤ 700000 ∧ H n = some (.lst (zs.map V.str)) ∧ zs.length ≤ 8 ∧ (∀ z ∈ zs, isTx z) ∧ m ≤ 3 ∧
  ∀ (s : Addr) (es : List En) (H' : Hp), Dr l H H' → Cn H' l (a + 104) → Rl H' s es → es.length ≤ 8 → (es.map (·.nm)).Sublist zs → (∀ e ∈ es, goodE e) → Q (.ref s) H'
def spLaw (K : PySem.W.Frag) : Sp := fun vs H Q _ => ∃ a ns, vs = [.ref a] ∧ SqL K H a (List.map V.int ns) ∧ ns.length ≤ 63 ∧ ∀ H', Q (.bl true) H'

theorem str_eq {a b : Str} (h : a.cps.toList = b.cps.toList) : a = b := by
  obtain ⟨a⟩ := a
  obtain ⟨b⟩ := b
  have : a = b := Array.toList_inj.mp h
  rw [this]

/-- sorted texts with the same members are the same -/
theorem sortedS_tail {x : Str} {l : List Str} (h : sortedS (x :: l) = true) : sortedS l = true ∧ ∀ y ∈ l, ¬ y.cps.toList < x.cps.toList := by
  induction l generalizing x with
  | nil => exact ⟨rfl, fun y hy => by cases hy⟩
  | cons y l ih =>
    have h2 : (!Spec.ltCps y.cps.toList x.cps.toList && risingS y l) = true := h
    obtain ⟨h3, h4⟩ := Bool.and_eq_true_iff.mp h2
    have h5 : sortedS (y :: l) = true := h4
    rw [ltCps_eq] at h3
    have n1 : ¬ y.cps.toList < x.cps.toList := by simpa using h3
    refine ⟨h5, fun z hz => ?_⟩
    rcases List.mem_cons.mp hz with e | e
    · rw [e]; exact n1
    · have n2 := (ih h5).2 z e
      exact List.not_lt.mpr (List.le_trans (List.not_lt.mp n1) (List.not_lt.mp n2))
theorem sorted_uniq {l m : List Str} (p : l.Perm m) (hl : sortedS l = true) (hm : sortedS m = true) : l = m := by
  induction l generalizing m with
  | nil => exact (List.nil_perm.mp p).symm
  | cons x l ih =>
    cases m with
    | nil => exact absurd p.length_eq (by simp)
    | cons y m =>
      obtain ⟨h1, h2⟩ := sortedS_tail hl
      obtain ⟨k1, k2⟩ := sortedS_tail hm
      have exy : x = y := by
        have mx : x ∈ y :: m := p.mem_iff.mp (.head _)
        have my : y ∈ x :: l := p.mem_iff.mpr (.head _)
        rcases List.mem_cons.mp mx with e | e
        · exact e
        · rcases List.mem_cons.mp my with e2 | e2
          · exact e2.symm
          · exact str_eq (List.le_antisymm (List.not_lt.mp (h2 y e2)) (List.not_lt.mp (k2 x e)))
      subst exy
      rw [ih ((List.perm_cons x).mp p) h1 k1]

/-! ### the newest of a name -/
theorem cmb_assoc (x y z : Option En) : cmb (cmb x y) z = cmb x (cmb y z) := by
  cases x with
  | none => rfl
  | some x =>
    cases y with
    | none => rfl
    | some y =>
      cases z with
      | none => rfl
      | some z =>
        show cmb (some (if newerP y x = true then y else x)) (some z) = cmb (some x) (some (if newerP z y = true then z else y))
        unfold newerP
        simp only [decide_eq_true_eq]
        by_cases h1 : x.li < y.li ∨ (y.li = x.li ∧ x.ve < y.ve) <;> by_cases h2 : y.li < z.li ∨ (z.li = y.li ∧ y.ve < z.ve)
        · rw [if_pos h1, if_pos h2]
          show some (if newerP z y = true then z else y) = some (if newerP z x = true then z else x)
          unfold newerP
          simp only [decide_eq_true_eq]
          rw [if_pos h2, if_pos (by omega)]
        · rw [if_pos h1, if_neg h2]
          show some (if newerP z y = true then z else y) = some (if newerP y x = true then y else x)
          unfold newerP
          simp only [decide_eq_true_eq]
          rw [if_neg h2, if_pos h1]
        · rw [if_neg h1, if_pos h2]
        · rw [if_neg h1, if_neg h2]
          show some (if newerP z x = true then z else x) = some (if newerP y x = true then y else x)
          unfold newerP
          simp only [decide_eq_true_eq]
          rw [if_neg h1, if_neg (by omega)]
theorem cmb_none (x : Option En) : cmb x none = x := by cases x <;> rfl
theorem fold_cmb (n : Str) (es : List En) (a : Option En) : es.foldl (fun acc e => cmb acc (one? n e)) a = cmb a (bst n es) := by
  induction es generalizing a with
  | nil => exact (cmb_none a).symm
  | cons e es ih =>
    unfold bst
    rw [List.foldl_cons, List.foldl_cons, ih, ih, cmb_assoc]; rfl
theorem bst_app (n : Str) (es fs : List En) : bst n (es ++ fs) = cmb (bst n es) (bst n fs) := by
  rw [← fold_cmb]
  unfold bst
  rw [List.foldl_append]
theorem bst_cons (n : Str) (e : En) (es : List En) : bst n (e :: es) = cmb (one? n e) (bst n es) := by
  rw [← fold_cmb]; rfl
theorem one_self (e : En) : one? e.nm e = some e := if_pos rfl
theorem bst_none {n : Str} {es : List En} (h : ∀ e ∈ es, e.nm ≠ n) : bst n es = none := by
  induction es with
  | nil => rfl
  | cons e es ih =>
    rw [bst_cons, ih fun d hd => h d (.tail _ hd)]
    unfold one?
    rw [if_neg (h e (.head _))]; rfl
theorem bst_uniq {es : List En} (nd : (es.map (·.nm)).Nodup) {e : En} (he : e ∈ es) : bst e.nm es = some e := by
  induction es with
  | nil => cases he
  | cons d es ih =>
    rw [List.map_cons] at nd
    obtain ⟨n1, n2⟩ := List.nodup_cons.mp nd
    rw [bst_cons]
    rcases List.mem_cons.mp he with h | h
    · subst h
      rw [one_self, bst_none fun d hd e2 => n1 (List.mem_map.mpr ⟨d, hd, e2⟩)]; rfl
    · have : d.nm ≠ e.nm := fun e2 => n1 (List.mem_map.mpr ⟨e, h, e2.symm⟩)
      unfold one?
      rw [if_neg this, ih n2 h]; rfl
theorem newer_irr (e : En) : newerP e e = false := by
  unfold newerP
  exact decide_eq_false (by omega)
theorem cmb_self (x : Option En) : cmb x x = x := by
  cases x with
  | none => rfl
  | some x =>
    show some (if newerP x x = true then x else x) = some x
    rw [newer_irr]; rfl
theorem Mg.bstn {es R : List En} (m : Mg es R) (n : Str) : bst n R = bst n es := by
  by_cases h : n ∈ R.map (·.nm)
  · obtain ⟨e, he, rfl⟩ := List.mem_map.mp h
    rw [bst_uniq m.nd he, m.bs e he]
  · rw [bst_none fun e he e2 => h (List.mem_map.mpr ⟨e, he, e2⟩), bst_none fun e he e2 => h ((m.mem n).mpr ⟨e, he, e2⟩)]
theorem nm_inj {R R' : List En} (hn : R.map (·.nm) = R'.map (·.nm)) (h : ∀ e ∈ R, ∀ e' ∈ R', e.nm = e'.nm → e = e') : R = R' := by
  induction R generalizing R' with
  | nil =>
    cases R' with
    | nil => rfl
    | cons x l => cases hn
  | cons x l ih =>
    cases R' with
    | nil => cases hn
    | cons y m =>
      rw [List.map_cons, List.map_cons] at hn
      obtain ⟨e1, e2⟩ := List.cons.inj hn
      rw [h x (.head _) y (.head _) e1, ih e2 fun a ha b hb => h a (.tail _ ha) b (.tail _ hb)]
theorem Mg.same {es fs R R' : List En} (m : Mg es R) (m' : Mg fs R') (hn : ∀ n, (∃ e ∈ es, e.nm = n) ↔ ∃ e ∈ fs, e.nm = n) (hb : ∀ n, bst n es = bst n fs) : R = R' := by
  have p : (R.map (·.nm)).Perm (R'.map (·.nm)) := (List.perm_ext_iff_of_nodup m.nd m'.nd).mpr fun n => by rw [m.mem, m'.mem, hn]
  refine nm_inj (sorted_uniq p m.so m'.so) fun e he e' he' en => ?_
  have h1 := m.bs e he
  have h2 := m'.bs e' he'
  rw [hb, en, h2] at h1
  exact (Option.some.inj h1).symm
theorem mg_own {es : List En} (so : sortedS (es.map (·.nm)) = true) (nd : (es.map (·.nm)).Nodup) {fs : List En} (hn : ∀ n, (∃ e ∈ fs, e.nm = n) ↔ ∃ e ∈ es, e.nm = n) (hb : ∀ n, bst n fs = bst n es) : Mg fs es :=
  ⟨so, nd, fun n => by rw [List.mem_map]; exact (hn n).symm, fun e he => by rw [hb, bst_uniq nd he]⟩
theorem mg_twice {es R : List En} (so : sortedS (es.map (·.nm)) = true) (nd : (es.map (·.nm)).Nodup) (m : Mg (es ++ es) R) : R = es := by
  refine m.same (mg_own so nd (fs := es ++ es) (fun n => ?_) fun n => by rw [bst_app, cmb_self]) (fun n => Iff.rfl) fun n => rfl
  constructor
  · rintro ⟨e, he, e2⟩
    rcases List.mem_append.mp he with h | h <;> exact ⟨e, h, e2⟩
  · rintro ⟨e, he, e2⟩
    exact ⟨e, List.mem_append.mpr (.inl he), e2⟩
theorem mg_alone {es R : List En} (so : sortedS (es.map (·.nm)) = true) (nd : (es.map (·.nm)).Nodup) (m : Mg es R) : R = es := m.same (mg_own so nd (fun _ => Iff.rfl) fun _ => rfl) (fun _ => Iff.rfl) fun _ => rfl
theorem mem_app_nm {es fs : List En} {n : Str} : (∃ e ∈ es ++ fs, e.nm = n) ↔ (∃ e ∈ es, e.nm = n) ∨ ∃ e ∈ fs, e.nm = n := by
  constructor
  · rintro ⟨e, he, e2⟩
    rcases List.mem_append.mp he with h | h
    · exact .inl ⟨e, h, e2⟩
    · exact .inr ⟨e, h, e2⟩
  · rintro (⟨e, h, e2⟩ | ⟨e, h, e2⟩)
    · exact ⟨e, List.mem_append.mpr (.inl h), e2⟩
    · exact ⟨e, List.mem_append.mpr (.inr h), e2⟩
theorem Mg.memE {es R : List En} (m : Mg es R) (n : Str) : (∃ e ∈ R, e.nm = n) ↔ ∃ e ∈ es, e.nm = n := by
  rw [← m.mem, List.mem_map]
theorem mg_assoc {a b c F G R S : List En} (f : Mg (a ++ b) F) (g : Mg (b ++ c) G) (r : Mg (F ++ c) R) (s : Mg (a ++ G) S) : R = S := by
  refine r.same s (fun n => ?_) fun n => ?_
  · rw [mem_app_nm, mem_app_nm, f.memE, g.memE, mem_app_nm, mem_app_nm, or_assoc]
  · rw [bst_app, bst_app, f.bstn, g.bstn, bst_app, bst_app, cmb_assoc]
theorem bst_mem {n : Str} {es : List En} {e : En} (h : bst n es = some e) : e ∈ es ∧ e.nm = n := by
  induction es generalizing e with
  | nil => cases h
  | cons d es ih =>
    rw [bst_cons] at h
    unfold one? at h
    by_cases hd : d.nm = n
    · rw [if_pos hd] at h
      cases hb : bst n es with
      | none =>
        rw [hb] at h
        cases h
        exact ⟨.head _, hd⟩
      | some x =>
        rw [hb] at h
        have h2 : some (if newerP x d = true then x else d) = some e := h
        have h3 := Option.some.inj h2
        split at h3
        · subst h3
          obtain ⟨m1, m2⟩ := ih hb
          exact ⟨.tail _ m1, m2⟩
        · subst h3
          exact ⟨.head _, hd⟩
    · rw [if_neg hd] at h
      obtain ⟨m1, m2⟩ := ih (e := e) h
      exact ⟨.tail _ m1, m2⟩
/-! ### sorted texts -/
theorem sorted_pw {l : List Str} (h : sortedS l = true) : l.Pairwise fun a b => ¬ b.cps.toList < a.cps.toList := by
  induction l with
  | nil => exact .nil
  | cons x l ih =>
    obtain ⟨h1, h2⟩ := sortedS_tail h
    exact List.pairwise_cons.mpr ⟨h2, ih h1⟩
theorem pw_sorted {l : List Str} (h : l.Pairwise fun a b => ¬ b.cps.toList < a.cps.toList) : sortedS l = true :=
  sortedS_of_pairwise l (h.imp fun {a b} n => by rw [ltCps_eq]; exact decide_eq_false n)
theorem sorted_sub {l m : List Str} (h : sortedS m = true) (s : l.Sublist m) : sortedS l = true := pw_sorted ((sorted_pw h).sublist s)
/-! ### the shape of rolls -/
theorem lay_map {α : Type} (f : α → PyData) : ∀ (l : List α), (∀ x ∈ l, (f x).canLay0 = true) → PyData.canLayAll0 (l.map f) = true
  | [], _ => rfl
  | x :: l, h => by
    show ((f x).canLay0 && PyData.canLayAll0 (l.map f)) = true
    rw [h x (.head _), lay_map f l fun y hy => h y (.tail _ hy)]; rfl
theorem depth_map {α : Type} (f : α → PyData) {n : Nat} (hf : ∀ x, (f x).depth ≤ n) : ∀ l : List α, PyData.depthAll (l.map f) ≤ n
  | [] => Nat.zero_le _
  | x :: l => by
    show max (f x).depth (PyData.depthAll (l.map f)) ≤ n
    exact Nat.max_le.mpr ⟨hf x, depth_map f hf l⟩
theorem tx_lay {z : Str} (h : isTx z) : (PyData.str z).canLay0 = true := by
  show z.cps.all (· < 0x110000) = true
  rw [← Array.all_toList, List.all_eq_true]
  intro c hc
  have := h.2 c hc
  exact decide_eq_true (by omega)
theorem roll_shaped {es : List En} (g : ∀ e ∈ es, goodE e) : SeqAt.shaped (.tuple (es.map entD)) = true := by
  have c0 : ∀ ns : List Int, PyData.canLayAll0 (ns.map PyData.int) = true := fun ns => lay_map _ ns fun _ _ => rfl
  have c1 : PyData.canLayAll0 (es.map entD) = true := lay_map _ es (fun e he => by
    show ((PyData.str e.nm).canLay0 && (true && (true && (PyData.canLayAll0 (e.nu.map PyData.int) && (PyData.canLayAll0 (e.ot.map PyData.str) && true))))) = true
    rw [c0, tx_lay (g e he).1, lay_map PyData.str e.ot fun z hz => tx_lay ((g e he).2 z hz)]; rfl)
  have d0 : ∀ ns : List Int, PyData.depthAll (ns.map PyData.int) ≤ 1 := depth_map _ fun _ => Nat.le_of_ble_eq_true rfl
  have d1 : ∀ zs : List Str, PyData.depthAll (zs.map PyData.str) ≤ 1 := depth_map _ fun _ => Nat.le_of_ble_eq_true rfl
  have d2 : PyData.depthAll (es.map entD) ≤ 4 := depth_map _ (fun e => by
    have h1 := d0 e.nu
    have h2 := d1 e.ot
    show max (PyData.str e.nm).depth (max (PyData.int e.li).depth (max (PyData.int e.ve).depth (max (PyData.depthAll (e.nu.map PyData.int) + 1) (max (PyData.depthAll (e.ot.map PyData.str) + 1) 0)))) + 1 ≤ 4
    have e1 : (PyData.str e.nm).depth ≤ 1 := Nat.le_of_ble_eq_true rfl
    have e2 : (PyData.int e.li).depth ≤ 1 := Nat.le_of_ble_eq_true rfl
    have e3 : (PyData.int e.ve).depth ≤ 1 := Nat.le_of_ble_eq_true rfl
    omega) es
  unfold SeqAt.shaped
  have h1 : (PyData.tuple (es.map entD)).canLay0 = true := c1
  have h2 : (PyData.tuple (es.map entD)).depth ≤ 64 := by
    show PyData.depthAll (es.map entD) + 1 ≤ 64
    omega
  rw [h1, decide_eq_true h2]; rfl
theorem Mg.good {es R : List En} (m : Mg es R) (g : ∀ e ∈ es, goodE e) : ∀ e ∈ R, goodE e := fun e he => g e (bst_mem (m.bs e he)).1

-- names: 0:_law_script 1:_law_k
abbrev N_l_cell_at : List Str := ["_law_script", "_law_k"]
def t_l_cell_at (K : PySem.W.Frag) : TS :=
  (tSeq (tIfS (tTest (tOp rLtI (tVar 1) (tCB (Evl.rLenS K) (tCons (tVar 0) tNil)))) (tRet (tOp (rIxL K) (tVar 0) (tVar 1))) tNext)
    (tRet (tC (.int 0))))

-- names: 0:_law_cell 1:_law_k 2:_law_number_here
abbrev N_l_mixed : List Str := ["_law_cell", "_law_k", "_law_number_here"]
def t_l_mixed (K : PySem.W.Frag) : TS :=
  (tSeq (tIfS (tAnd (tTest (tOp rGeI (tVar 0) (tOp rShlI (tC (.int 1)) (tC (.int 90))))) (tAnd (tTest (tOp rEq (tOp rModI (tVar 0) (tC (.int 2))) (tC (.int 1)))) (tTest (tOp rGtI (tOp rShrI (tVar 0) (tOp rAddI (tC (.int 1)) (tOp rMulI (tC (.int 31)) (tVar 1)))) (tC (.int 0)))))) (tRet (tOp rModI (tOp rShrI (tVar 0) (tOp rAddI (tC (.int 1)) (tOp rMulI (tC (.int 31)) (tVar 1)))) (tC (.int 2147483648)))) tNext)
    (tSeq (tAsg (tOp rModI (tOp rMulI (tOp rAddI (tOp rAddI (tOp rModI (tVar 0) (tC (.int 2147483647))) (tOp rMulI (tC (.int 7919)) (tVar 1))) (tC (.int 1))) (tC (.int 48271))) (tC (.int 2147483647))) (gName 2))
    (tSeq (tAsg (tOp rModI (tOp rMulX (tVar 2) (tOp rAddI (tOp rDivI (tVar 2) (tC (.int 1009))) (tC (.int 69621)))) (tC (.int 2147483647))) (gName 2))
    (tRet (tOp rModI (tOp rMulX (tVar 2) (tOp rAddI (tOp rAddI (tOp rDivI (tVar 2) (tC (.int 2003))) (tC (.int 39373))) (tVar 1))) (tC (.int 2147483629)))))))

-- names: 0:_law_draw_here 1:_law_many
abbrev N_l_draw : List Str := ["_law_draw_here", "_law_many"]
def t_l_draw (K : PySem.W.Frag) : TS :=
  (tSeq (sDPut (tVar 0) (tC (.str ("at" : Str))) (tOp rAddI (tDGet (tVar 0) (tC (.str ("at" : Str)))) (tC (.int 1))))
    (tRet (tOp rModI (tOp rDivI (tCall spMixed [] E0 (tCons (tDGet (tVar 0) (tC (.str ("cell" : Str)))) (tCons (tDGet (tVar 0) (tC (.str ("at" : Str)))) tNil))) (tC (.int 3))) (tVar 1))))

-- names: 0:_law_draw_here 1:_law_some
abbrev N_l_one : List Str := ["_law_draw_here", "_law_some"]
def t_l_one (K : PySem.W.Frag) : TS :=
  (tRet (tOp (rIxL K) (tVar 1) (tCall spDraw [] E0 (tCons (tVar 0) (tCons (tCB (Evl.rLenS K) (tCons (tVar 1) tNil)) tNil)))))


theorem p_l_cell_at_len {K : PySem.W.Frag} {vs : List V} {H : Hp} {Q : VK} {E : XK} (h : spCellAt K vs H Q E) : vs.length = 2 := by
  obtain ⟨a, ns, k, rfl, _⟩ := h; rfl
theorem p_l_cell_at {K : PySem.W.Frag} {vs : List V} {H : Hp} {Q : VK} {E : XK} (h : spCellAt K vs H Q E) : t_l_cell_at K { nx := fun _ H' => Q .non H', rt := Q } (start N_l_cell_at vs) H := by
  obtain ⟨a, ns, k, rfl, hS, q⟩ := h
  unfold t_l_cell_at
  walk_at "go"
  refine w_lenL hS ?_
  walk_at "go"
  refine if_2 (fun h => ?_) (fun h => ?_)
  · rw [List.length_map] at h
    have hk : k < ns.length := by omega
    walk_at "go"
    refine w_ixL hS (v := .int ns[k]) (atI_nat (by rw [List.getElem?_map, List.getElem?_eq_getElem hk]; rfl)) ?_
    exact q _
  · walk_at "go"
    exact q _
theorem mulS {i j : Int} (h0 : -(2 ^ 64) < i) (h1 : i < 2 ^ 64) (h2 : -(2 ^ 64) < j) (h3 : j < 2 ^ 64) : CMulX i j := by
  have a : i.natAbs < 2 ^ 64 := by omega
  have b : j.natAbs < 2 ^ 64 := by omega
  exact mulx_ok a b (by decide)
/-! ### the laws' loop over the cells -/
theorem ints_cut {ns : List Int} {lo hi : Option Int} : ∀ x ∈ cutV (ns.map V.int) lo hi, ∃ z, x = V.int z := fun x hx => by
  unfold cutV at hx
  have h1 := List.mem_of_mem_drop (List.mem_of_mem_take hx)
  obtain ⟨z, _, e⟩ := List.mem_map.mp h1
  exact ⟨z, e.symm⟩
theorem w_cells {K : PySem.W.Frag} {H : Hp} {a : Addr} {ns : List Int} {N : Int} {j : Nat} {tb : TS} {D : Ends} {σ : L2.St} (Ok : L2.St → Prop) (h0 : Ok σ) (hσ : σ[0]? = some (some (.ref a))) (hS : SqL K H a (ns.map V.int)) (hlen : ns.length ≤ 63)
    (hs : ∀ z σ' H' (N : L2.St → Hp → Prop), Ok σ' → Same H H' → (∀ σ2 H2, Ok σ2 → Same H' H2 → N σ2 H2) → tb { D with nx := N, ct := N, bk := D.nx } (σ'.set j (some (.int z))) H') (hd : ∀ σ' H', Ok σ' → Same H H' → D.nx σ' H') :
    tFor (iList K (tOp rCat (tLst (tCons (tCall (spCellAt K) [] E0 (tCons (tVar 0) (tCons (tC (.int 0)) tNil))) tNil)) (tSl (rSlL K) (tVar 0) (tPart (tC (.int 1))) (tPart (tC (.int N)))))) (gName j) tb D σ H := by
  refine w_forI (w_iL (w_op (w_lst (w_cons (w_call (w_cons (w_var hσ (w_cons (w_con (w_nil ?_))))))))))
  refine ⟨a, ns, 0, rfl, hS, fun n0 => ?_⟩
  walk_at "go"
  refine ⟨by show 1 ≤ sizeLine; decide, fun L1 hL1 => ?_⟩
  refine w_sl (w_var hσ (w_part (w_con (w_partI (w_part (w_con (w_partI ?_)))))))
  refine w_slL ((same_new hL1).seq hS) fun L2 hL2 => ?_
  have cl := cutV_length (ns.map V.int) (some 1) (some N)
  rw [List.length_map] at cl
  refine w_cat (keep upd_same hL2) upd_same (Nat.le_trans (by rw [List.length_singleton]; omega : _ ≤ 1000) (by decide)) fun L hL => ?_
  have hi : ∀ x ∈ [V.int n0] ++ cutV (ns.map V.int) (some 1) (some N), ∃ z, x = V.int z := fun x hx => by
    rcases List.mem_append.mp hx with h | h
    · exact ⟨n0, by simpa using h⟩
    · exact ints_cut x h
  generalize [V.int n0] ++ cutV (ns.map V.int) (some 1) (some N) = xs at *
  have h1 : (upd (upd (upd H L1 (.lst [.int n0])) L2 (.lst (cutV (ns.map V.int) (some 1) (some N)))) L (.lst xs)) L = some (.lst xs) := upd_same
  have s1 : Same H (upd (upd (upd H L1 (.lst [.int n0])) L2 (.lst (cutV (ns.map V.int) (some 1) (some N)))) L (.lst xs)) := same_in (same_in (same_new hL1) hL2) hL
  generalize upd (upd (upd H L1 (.lst [.int n0])) L2 (.lst (cutV (ns.map V.int) (some 1) (some N)))) L (.lst xs) = H0 at *
  refine ⟨L, rfl, ⟨_, sqL h1⟩, for_list (K := K) (a := L) (xs := xs) (fun i σ H' => Ok σ ∧ Same H0 H') ⟨h0, Same.refl _⟩ (fun i σ H' _ P => sqL (P.2 _ _ h1)) ?_ ?_⟩
  · rintro i x σ1 H1 hx ⟨o1, sm⟩
    obtain ⟨z, rfl⟩ := hi x (List.mem_of_getElem? hx)
    exact hs z σ1 H1 _ o1 (s1.trans sm) fun σ2 H2 o2 s2 => ⟨o2, sm.trans s2⟩
  · rintro σ1 H1 ⟨o1, sm⟩
    exact hd σ1 H1 o1 (s1.trans sm)

-- names: 0:_law_draw_here 1:_law_letters 2:_law_name_here 3:_law_k
abbrev N_l_name : List Str := ["_law_draw_here", "_law_letters", "_law_name_here", "_law_k"]
def t_l_name (K : PySem.W.Frag) : TS :=
  (tSeq (tAsg (tC (.str ("abcdefghijklmnopqrstuvwxyz" : Str))) (gName 1))
    (tSeq (tAsg (tC (.str ("" : Str))) (gName 2))
    (tSeq (tFor (iRng1 (tCons (tOp rAddI (tC (.int 1)) (tCall spDraw [] E0 (tCons (tVar 0) (tCons (tC (.int 8)) tNil)))) tNil)) (gName 3) (tAsg (tOp rAddStr (tVar 2) (tOp rIxS (tVar 1) (tCall spDraw [] E0 (tCons (tVar 0) (tCons (tC (.int 26)) tNil))))) (gName 2)))
    (tRet (tVar 2)))))

-- names: 0:_law_draw_here 1:_law_many 2:_law_found 3:_law_k 4:_law_name_here 5:_law_letter
abbrev N_l_names : List Str := ["_law_draw_here", "_law_many", "_law_found", "_law_k", "_law_name_here", "_law_letter"]
def t_l_names (K : PySem.W.Frag) : TS :=
  (tSeq (tAsg (tLst tNil) (gName 2))
    (tSeq (tFor (iRng1 (tCons (tOp rMulI (tC (.int 4)) (tVar 1)) tNil)) (gName 3) (tSeq (tAsg (tCall spName [] E0 (tCons (tVar 0) tNil)) (gName 4))
      (tIfS (tTest (tOp (rIn K true) (tVar 4) (tVar 2))) (tDrop (tBM K "list" rAppend (tVar 2) (tCons (tVar 4) tNil))) tNext)))
    (tRet (tSl (rSlL K) (tOp rCat (tVar 2) (tLc (iStr (tC (.str ("abcdefgh" : Str)))) (gName 5) (tTest (tOp (rIn K true) (tOp rAddStr (tC (.str ("zz" : Str))) (tVar 5)) (tVar 2))) (tOp rAddStr (tC (.str ("zz" : Str))) (tVar 5)) [5])) tNoPart (tPart (tVar 1))))))

-- names: 0:_law_draw_here 1:_law_way 2:_law_top
abbrev N_l_number : List Str := ["_law_draw_here", "_law_way", "_law_top"]
def t_l_number (K : PySem.W.Frag) : TS :=
  (tSeq (tAsg (tCall spDraw [] E0 (tCons (tVar 0) (tCons (tC (.int 4)) tNil))) (gName 1))
    (tSeq (tIfS (tTest (tOp rEq (tVar 1) (tC (.int 0)))) (tRet (tCall spPick [] E0 (tCons (tVar 0) (tCons (tLst (tCons (tC (.int 0)) (tCons (tC (.int 1)) (tCons (tUn rNegI (tC (.int 1))) (tCons (tOp rPowI (tC (.int 10)) (tC (.int 12))) (tCons (tUn rNegI (tOp rPowI (tC (.int 10)) (tC (.int 12)))) tNil)))))) tNil)))) tNext)
    (tSeq (tAsg (tOp (rIxL K) (tLst (tCons (tC (.int 20)) (tCons (tC (.int 1000)) (tCons (tOp rMulI (tC (.int 2)) (tOp rPowI (tC (.int 10)) (tC (.int 9)))) tNil)))) (tOp rSubI (tVar 1) (tC (.int 1)))) (gName 2))
    (tRet (tOp rSubI (tCall spDraw [] E0 (tCons (tVar 0) (tCons (tVar 2) tNil))) (tOp rMulX (tCall spDraw [] E0 (tCons (tVar 0) (tCons (tC (.int 2)) tNil))) (tOp rDivI (tVar 2) (tC (.int 2)))))))))


theorem w_dget {σ : L2.St} {H : Hp} {Q : VK} {td ty : TE} (h : td σ H fun x H1 => ty σ H1 fun y H2 => ∃ a v, x = .ref a ∧ DGet H2 a y (some v) ∧ Q v H2) : tDGet td ty σ H Q := h
theorem w_dput {σ : L2.St} {H : Hp} {D : Ends} {td ty tv : TE} (h : tv σ H fun v H1 => td σ H1 fun x H2 => ty σ H2 fun y H3 => ∃ a H4, x = .ref a ∧ DPut H3 a y v H4 ∧ D.nx σ H4) : sDPut td ty tv D σ H := h
theorem p_l_mixed_len {vs : List V} {H : Hp} {Q : VK} {E : XK} (h : spMixed vs H Q E) : vs.length = 2 := by
  obtain ⟨l, m, rfl, _⟩ := h; rfl
theorem p_l_mixed {K : PySem.W.Frag} {vs : List V} {H : Hp} {Q : VK} {E : XK} (h : spMixed vs H Q E) : t_l_mixed K { nx := fun _ H' => Q .non H', rt := Q } (start N_l_mixed vs) H := by
  obtain ⟨b, c, rfl, hc, q⟩ := h
  have rest : (tSeq (tAsg (tOp rModI (tOp rMulI (tOp rAddI (tOp rAddI (tOp rModI (tVar 0) (tC (.int 2147483647))) (tOp rMulI (tC (.int 7919)) (tVar 1))) (tC (.int 1))) (tC (.int 48271))) (tC (.int 2147483647))) (gName 2))
    (tSeq (tAsg (tOp rModI (tOp rMulX (tVar 2) (tOp rAddI (tOp rDivI (tVar 2) (tC (.int 1009))) (tC (.int 69621)))) (tC (.int 2147483647))) (gName 2))
    (tRet (tOp rModI (tOp rMulX (tVar 2) (tOp rAddI (tOp rAddI (tOp rDivI (tVar 2) (tC (.int 2003))) (tC (.int 39373))) (tVar 1))) (tC (.int 2147483629)))))) { nx := fun _ H' => Q .non H', rt := Q } [some (.int b), some (.int (c : Int)), none] H := by
    walk_at "go"
    have e1 : ∀ n : Int, 0 ≤ n % 2147483647 ∧ n % 2147483647 < 2147483647 := fun n => by omega
    generalize hn1 : (b % 2147483647 + 7919 * (c : Int) + 1) * 48271 % 2147483647 = n1
    have b1 := e1 ((b % 2147483647 + 7919 * (c : Int) + 1) * 48271)
    rw [hn1] at b1
    have c1 : 0 ≤ n1 / 1009 ∧ n1 / 1009 < 2147483647 := by omega
    refine w_I (mulS (by omega) (by omega) (by omega) (by omega)) ?_
    walk_at "go"
    generalize hn2 : n1 * (n1 / 1009 + 69621) % 2147483647 = n2
    have b2 := e1 (n1 * (n1 / 1009 + 69621))
    rw [hn2] at b2
    have c2 : 0 ≤ n2 / 2003 ∧ n2 / 2003 < 2147483647 := by omega
    refine w_I (mulS (by omega) (by omega) (by omega) (by omega)) ?_
    walk_at "go"
    exact q _ (Int.emod_nonneg _ (by omega))
  unfold t_l_mixed
  walk_at "s"
  walk_at "s"
  walk_at "s"
  walk_at "s"
  walk_at "s"
  walk_at "s"
  walk_at "s"
  walk_at "s"
  walk_at "s"
  refine w_shlI ⟨by decide +kernel, by decide +kernel⟩ ?_
  walk_at "s"
  walk_at "s"
  refine if_2 (fun h1 => ?_) (fun h1 => ?_)
  · walk_at "go"
    refine if_2 (fun h2 => ?_) (fun h2 => ?_)
    · walk_at "go"
      refine if_2 (fun h3 => ?_) (fun h3 => ?_)
      · walk_at "go"
        exact q _ (Int.emod_nonneg _ (by omega))
      · walk_at "s"
        walk_at "s"
        exact rest
    · walk_at "s"
      walk_at "s"
      exact rest
  · walk_at "s"
    walk_at "s"
    walk_at "s"
    exact rest
theorem at_get (c : Int) (n : Nat) : valV [((Sum.inr ("cell" : Str) : Key), V.int c), (.inr ("at" : Str), .int (n : Int))] (.inr ("at" : Str)) = some (.int (n : Int)) := by
  have h1 : ¬ ((Sum.inr ("cell" : Str) : Key) = .inr ("at" : Str)) := by decide +kernel
  rw [valV_neg h1, valV_pos rfl]
theorem cell_get (c : Int) (n : Nat) : valV [((Sum.inr ("cell" : Str) : Key), V.int c), (.inr ("at" : Str), .int (n : Int))] (.inr ("cell" : Str)) = some (.int c) := by
  rw [valV_pos rfl]
theorem at_put (c : Int) (n m : Nat) : putK [((Sum.inr ("cell" : Str) : Key), V.int c), (.inr ("at" : Str), .int (n : Int))] (.inr ("at" : Str)) (.int (m : Int)) = [(.inr ("cell" : Str), .int c), (.inr ("at" : Str), .int (m : Int))] := by
  unfold putK
  have h1 : ¬ ((Sum.inr ("cell" : Str) : Key) = .inr ("at" : Str)) := by decide +kernel
  have h2 : ((Sum.inr ("at" : Str) : Key) = .inr ("at" : Str)) := rfl
  rw [if_pos (by simp [h1])]
  simp [h1]
theorem p_l_draw_len {vs : List V} {H : Hp} {Q : VK} {E : XK} (h : spDraw vs H Q E) : vs.length = 2 := by
  obtain ⟨l, m, a, rfl, _⟩ := h; rfl
theorem p_l_draw {K : PySem.W.Frag} {vs : List V} {H : Hp} {Q : VK} {E : XK} (h : spDraw vs H Q E) : t_l_draw K { nx := fun _ H' => Q .non H', rt := Q } (start N_l_draw vs) H := by
  obtain ⟨l, m, a, rfl, cn, ha, hm, q⟩ := h
  obtain ⟨c, n, hl, hn⟩ := id cn
  unfold t_l_draw
  refine w_seq (w_dput (w_op (w_dget (w_var rfl (w_con ⟨l, .int (n : Int), rfl, .inl ⟨_, .inr ("at" : Str), .inl hl, rfl, (at_get c n).symm⟩, w_con (w_I0 ?_)⟩)))))
  refine w_var rfl (w_con ⟨l, _, rfl, DPut.k (k := .inr ("at" : Str)) hl (by show 2 < sizeLine; decide), ?_⟩)
  have e1 : (n : Int) + 1 = ((n + 1 : Nat) : Int) := by omega
  rw [e1, at_put]
  have hl2 : (upd H l (srcD c (n + 1))) l = some (srcD c (n + 1)) := upd_same
  have d2 : Dr l H (upd H l (srcD c (n + 1))) := ⟨fun p o np h => by rw [upd_ne np]; exact h, cn.src, ⟨c, n + 1, hl2⟩⟩
  have c2 : Cn (upd H l (srcD c (n + 1))) l (a + 1) := ⟨c, n + 1, hl2, by omega⟩
  generalize upd H l (srcD c (n + 1)) = H2 at *
  refine w_ret (w_op (w_op (w_call (w_cons (w_dget (w_var rfl (w_con ⟨l, .int c, rfl, .inl ⟨_, .inr ("cell" : Str), .inl hl2, rfl, (cell_get c (n + 1)).symm⟩, ?_⟩)))))))
  refine w_cons (w_dget (w_var rfl (w_con ⟨l, .int ((n + 1 : Nat) : Int), rfl, .inl ⟨_, .inr ("at" : Str), .inl hl2, rfl, (at_get c (n + 1)).symm⟩, w_nil ?_⟩)))
  refine ⟨c, n + 1, rfl, by omega, fun r hr => ?_⟩
  walk_at "go"
  exact q _ _ (Int.emod_nonneg _ (by omega)) (Int.emod_lt_of_pos _ hm) d2 c2
theorem p_l_one_len {vs : List V} {H : Hp} {Q : VK} {E : XK} (h : spPick vs H Q E) : vs.length = 2 := by
  obtain ⟨l, p, ns, a, rfl, _⟩ := h; rfl
theorem p_l_one {K : PySem.W.Frag} {vs : List V} {H : Hp} {Q : VK} {E : XK} (h : spPick vs H Q E) : t_l_one K { nx := fun _ H' => Q .non H', rt := Q } (start N_l_one vs) H := by
  obtain ⟨l, p, ns, a, rfl, cn, ha, hp, hx, q⟩ := h
  have h0 : 0 < ns.length := by
    cases ns with
    | nil => exact absurd rfl hx
    | cons x xs => exact Nat.zero_lt_succ _
  unfold t_l_one
  walk_at "go"
  refine ⟨l, _, a, rfl, cn, ha, by rw [List.length_map]; omega, fun d H1 d0 d1 k1 c1 => ?_⟩
  rw [List.length_map] at d1
  obtain ⟨n, rfl⟩ := Int.eq_ofNat_of_zero_le d0
  have hn : n < ns.length := by omega
  refine w_ixL (sqL (k1.lst hp)) (v := .int ns[n]) (atI_nat (by rw [List.getElem?_map, List.getElem?_eq_getElem hn]; rfl)) ?_
  exact q _ _ (List.getElem_mem hn) k1 c1
theorem letters_eq : (("abcdefghijklmnopqrstuvwxyz" : Str)).cps.toList = List.range' 97 26 := by decide +kernel
theorem letter_at {d : Int} (h0 : 0 ≤ d) (h1 : d < 26) : atI (("abcdefghijklmnopqrstuvwxyz" : Str)).cps.toList d = some (97 + d.toNat) := by
  obtain ⟨n, rfl⟩ := Int.eq_ofNat_of_zero_le h0
  refine atI_nat ?_
  rw [letters_eq, List.getElem?_range' (by omega)]
  simp
theorem sz100 {n : Nat} (h : n ≤ 1000) : n ≤ sizeLine := Nat.le_trans h (by decide)
theorem app_list (z w : Str) : (z ++ w).cps.toList = z.cps.toList ++ w.cps.toList := by
  show (z.cps ++ w.cps).toList = _
  rw [Array.toList_append]
theorem p_l_name_len {vs : List V} {H : Hp} {Q : VK} {E : XK} (h : spName vs H Q E) : vs.length = 1 := by
  obtain ⟨l, a, rfl, _⟩ := h; rfl
theorem p_l_name {K : PySem.W.Frag} {vs : List V} {H : Hp} {Q : VK} {E : XK} (h : spName vs H Q E) : t_l_name K { nx := fun _ H' => Q .non H', rt := Q } (start N_l_name vs) H := by
  obtain ⟨l, a, rfl, cn, ha, q⟩ := h
  unfold t_l_name
  walk_at "go"
  refine ⟨l, 8, a, rfl, cn, by omega, by decide, fun d H1 d0 d1 k1 c1 => ?_⟩
  walk_at "go"
  refine ⟨_, rfl, by omega, by omega, for_range (lo := 0) (n := (1 + d).toNat) (fun i σ H' => (∃ z y3, σ = [some (.ref l), some (.str ("abcdefghijklmnopqrstuvwxyz" : Str)), some (.str z), y3] ∧ z.length ≤ i ∧ ∀ c ∈ z.cps.toList, 97 ≤ c ∧ c ≤ 122) ∧ Dr l H H' ∧ Cn H' l (a + 1 + i)) ⟨⟨_, _, rfl, Nat.le_refl _, fun c hc => by cases hc⟩, k1, c1⟩ ?_ ?_⟩
  · rintro i σ H2 hi ⟨⟨z, y3, rfl, lz, pz⟩, k2, c2⟩
    walk_at "go"
    refine ⟨l, 26, a + 1 + i, rfl, c2, by omega, by decide, fun e H3 e0 e1 k3 c3 => ?_⟩
    refine w_ixS (by decide +kernel) (letter_at e0 e1) ?_
    have l1 : Str.length { cps := #[97 + e.toNat] } = 1 := rfl
    refine w_addStr (sz100 (by omega)) ?_
    refine ⟨⟨_, _, rfl, by rw [Str.length_append]; omega, fun c hc => ?_⟩, k2.trans k3, c3⟩
    rw [app_list] at hc
    rcases List.mem_append.mp hc with h | h
    · exact pz c h
    · have : c = 97 + e.toNat := List.mem_singleton.mp h
      omega
  · rintro σ H2 ⟨⟨z, y3, rfl, lz, pz⟩, k2, c2⟩
    walk_at "go"
    exact q z H2 ⟨by omega, pz⟩ k2 (c2.mono (by omega))
theorem inV_str (z : Str) (names : List Str) : inV (.str z) (names.map V.str) = decide (z ∈ names) := by
  unfold inV
  rw [List.any_map]
  by_cases h : z ∈ names
  · rw [decide_eq_true h, List.any_eq_true]
    exact ⟨z, h, by show (z == z) = true; simp⟩
  · rw [decide_eq_false h, List.any_eq_false]
    intro y hy e
    have e2 : (y == z) = true := e
    exact h (by rw [← eq_of_beq e2]; exact hy)
theorem flat_strs (names : List Str) : (names.map V.str).all flatV = true := by
  rw [List.all_map, List.all_eq_true]
  intro x _; rfl
theorem snoc_nodup {l : List Str} {x : Str} (h : l.Nodup) (n : x ∉ l) : (l ++ [x]).Nodup := List.nodup_append.mpr ⟨h, one_nodup x, fun a ha b hb e => by
  rw [List.mem_singleton.mp hb] at e
  exact n (e ▸ ha)⟩
theorem cut_take' {xs : List V} (m : Nat) : cutV xs none (some (m : Int)) = xs.take m := by
  unfold cutV
  have e : HT.sIx xs.length xs.length (some (m : Int)) = min m xs.length := by
    unfold HT.sIx
    simp
    omega
  rw [e]
  show (xs.drop 0).take (min m xs.length - 0) = _
  rw [List.drop_zero, Nat.sub_zero, List.take_eq_take_iff]
  omega
theorem zz_inj (c d : Nat) (h : (("zz" : Str) ++ (⟨#[c]⟩ : Str)) = ("zz" : Str) ++ (⟨#[d]⟩ : Str)) : c = d := by
  have e := congrArg (fun z : Str => z.cps.toList) h
  have e2 : (("zz" : Str) ++ (⟨#[c]⟩ : Str)).cps.toList = (("zz" : Str) ++ (⟨#[d]⟩ : Str)).cps.toList := e
  rw [app_list, app_list] at e2
  have e3 := List.append_cancel_left e2
  exact (List.cons.inj e3).1
theorem p_l_names_len {vs : List V} {H : Hp} {Q : VK} {E : XK} (h : spNames vs H Q E) : vs.length = 2 := by
  obtain ⟨l, a, rfl, _⟩ := h; rfl
theorem p_l_names {K : PySem.W.Frag} {vs : List V} {H : Hp} {Q : VK} {E : XK} (h : spNames vs H Q E) : t_l_names K { nx := fun _ H' => Q .non H', rt := Q } (start N_l_names vs) H := by
  obtain ⟨l, a, rfl, cn, ha, q⟩ := h
  unfold t_l_names
  walk_at "go"
  refine ⟨by show 0 ≤ sizeLine; decide, fun D hD => ?_⟩
  have nD := cn.src.ne_new hD
  have hD1 : (upd H D (.lst [])) D = some (.lst (([] : List Str).map V.str)) := upd_same
  walk_at "go"
  refine ⟨_, rfl, by decide, by decide, for_range (lo := 0) (n := 32) (fun i σ H' => (∃ y3 y4 y5, σ = [some (.ref l), some (.int 8), some (.ref D), y3, y4, y5]) ∧ Dr l H H' ∧ Cn H' l (a + 9 * i) ∧ ∃ zs : List Str, H' D = some (.lst (zs.map V.str)) ∧ zs.length ≤ i ∧ zs.Nodup ∧ ∀ z ∈ zs, isTx z) ⟨⟨_, _, _, rfl⟩, (Dr.refl cn.src).new hD, cn.put nD, [], hD1, Nat.le_refl _, .nil, fun z hz => by cases hz⟩ ?_ ?_⟩
  · rintro i σ H1 hi ⟨⟨y3, y4, y5, rfl⟩, k1, c1, zs, h1, lz, nz, tz⟩
    walk_at "go"
    refine ⟨l, a + 9 * i, rfl, c1, by omega, fun z H2 tz2 k2 c2 => ?_⟩
    have h2 := k2.lst h1
    walk_at "go"
    refine w_in (.inl (sqL h2)) rfl (flat_strs _) ?_
    show ∃ k, V.bl (!inV _ _) = .bl k ∧ _
    rw [inV_str]
    walk_at "go"
    refine if_n2 (fun n2 => ?_) (fun m2 => ?_)
    · walk_at "go"
      refine w_append h2 (by rw [List.length_map]; exact small1000 (by omega)) ?_
      refine ⟨⟨_, _, _, rfl⟩, (k1.trans k2).put hD nD, (c2.put nD).mono (by omega), zs ++ [z], by rw [upd_same, List.map_append]; rfl, by rw [List.length_append, List.length_singleton]; omega, snoc_nodup nz n2, fun w hw => ?_⟩
      rcases List.mem_append.mp hw with h | h
      · exact tz w h
      · rw [List.mem_singleton.mp h]; exact tz2
    · walk_at "go"
      exact ⟨⟨_, _, _, rfl⟩, k1.trans k2, c2.mono (by omega), zs, h2, by omega, nz, tz⟩
  · rintro σ H1 ⟨⟨y3, y4, y5, rfl⟩, k1, c1, zs, h1, lz, nz, tz⟩
    walk_at "go"
    refine w_iS (w_con (w_iSE fun D2 hD2 => lc_it walk_str (fun i H' => Same H1 H' ∧ ∃ ws : List Str, H' D2 = some (.lst (ws.map V.str)) ∧ ws.length ≤ i ∧ ws.Nodup ∧ (∀ w ∈ ws, w ∉ zs ∧ isTx w ∧ ∃ (k : Nat) (c : Nat), k < i ∧ (("abcdefgh" : Str)).cps[k]? = some c ∧ w = ("zz" : Str) ++ (⟨#[c]⟩ : Str))) ⟨same_new hD2, [], upd_same, Nat.le_refl _, .nil, fun w hw => by cases hw⟩ (fun _ _ _ _ => trivial) ?_ ?_))
    · rintro i x H2 H3 hi ⟨s2, ws, h2, lw, nw, pw⟩ ⟨rfl, c, hc, rfl⟩
      have hcs : 97 ≤ c ∧ c ≤ 104 := by
        have h8 : ∀ k, k < 8 → ∀ c, (("abcdefgh" : Str)).cps[k]? = some c → 97 ≤ c ∧ c ≤ 104 := by decide +kernel
        exact h8 i hi c hc
      have l2 : (("zz" : Str) ++ (⟨#[c]⟩ : Str)).length ≤ 20 := by rw [Str.length_append]; show 2 + 1 ≤ 20; decide
      have cw : ∀ d ∈ (("zz" : Str) ++ (⟨#[c]⟩ : Str)).cps.toList, 97 ≤ d ∧ d ≤ 122 := fun d hd => by
        rw [app_list] at hd
        rcases List.mem_append.mp hd with h | h
        · have hz : ∀ d ∈ (("zz" : Str)).cps.toList, d = 122 := by decide +kernel
          have := hz d h
          omega
        · have : d = c := List.mem_singleton.mp h
          omega
      have lz2 : (("zz" : Str)).length + Str.length { cps := #[c] } ≤ sizeLine := by show 2 + 1 ≤ sizeLine; decide
      have h1' := s2 _ _ h1
      walk_at "go"
      refine ⟨rfl, ?_⟩
      walk_at "go"
      refine w_addStr lz2 ?_
      walk_at "go"
      refine w_in (.inl (sqL h1')) rfl (flat_strs _) ?_
      show ∃ k, V.bl (!inV _ _) = .bl k ∧ _
      rw [inV_str]
      walk_at "go"
      refine if_n2 (fun n2 => ?_) (fun m2 => ?_)
      · walk_at "go"
        refine w_addStr lz2 ?_
        have nin : (("zz" : Str) ++ (⟨#[c]⟩ : Str)) ∉ ws := fun m => by
          obtain ⟨_, _, k, c', hk, hck, e⟩ := pw _ m
          have := zz_inj _ _ e
          subst this
          have nd8 : ∀ k, k < 8 → ∀ i, i < 8 → (("abcdefgh" : Str)).cps[k]? = (("abcdefgh" : Str)).cps[i]? → k = i := by decide +kernel
          have hi8 : i < 8 := hi
          have := nd8 k (by omega) i hi8 (hck.trans hc.symm)
          omega
        refine ⟨_, h2, by rw [List.length_map]; exact small1000 (by have : i < 8 := hi; omega), fun b o e => ?_, ws ++ [("zz" : Str) ++ (⟨#[c]⟩ : Str)], by rw [upd_same, List.map_append]; rfl, by rw [List.length_append, List.length_singleton]; omega, snoc_nodup nw nin, fun w hw => ?_⟩
        · rw [upd_ne (ne_of_none e hD2)]
          exact s2 _ _ e
        · rcases List.mem_append.mp hw with h | h
          · obtain ⟨p1, p2, k, c', p3, p4⟩ := pw w h
            exact ⟨p1, p2, k, c', by omega, p4⟩
          · rw [List.mem_singleton.mp h]
            exact ⟨n2, ⟨l2, cw⟩, i, c, Nat.lt_succ_self _, hc, rfl⟩
      · refine ⟨s2, ws, h2, by omega, nw, fun w hw => ?_⟩
        obtain ⟨p1, p2, k, c', p3, p4⟩ := pw w hw
        exact ⟨p1, p2, k, c', by omega, p4⟩
    · rintro H2 ⟨s2, ws, h2, lw, nw, pw⟩
      have lw8 : ws.length ≤ 8 := lw
      have h1' := s2 _ _ h1
      refine w_cat h1' h2 (sz100 (by rw [List.length_map, List.length_map]; omega)) fun D3 hD3 => ?_
      have hD3' : (upd H2 D3 (.lst (zs.map V.str ++ ws.map V.str))) D3 = some (.lst (zs.map V.str ++ ws.map V.str)) := upd_same
      walk_at "go"
      refine w_slL (sqL hD3') fun D4 hD4 => ?_
      have e8 : cutV (zs.map V.str ++ ws.map V.str) none (some 8) = ((zs ++ ws).take 8).map V.str := by
        rw [← List.map_append, List.map_take]
        exact cut_take' 8
      rw [e8]
      have s3 : Same H2 (upd (upd H2 D3 (.lst (zs.map V.str ++ ws.map V.str))) D4 (.lst (((zs ++ ws).take 8).map V.str))) := same_in (same_new hD3) hD4
      have k4 := k1.trans (Dr.same k1.src (s2.trans s3))
      have c4 : Cn _ l (a + 288) := (c1.same (s2.trans s3)).mono (by omega)
      have src2 := k1.src.ext s2
      refine q D4 _ _ k4 c4 upd_same (k1.free (by
        have := free_of hD4
        cases h0 : H1 D4 with
        | none => rfl
        | some o => rw [s2 _ _ h0] at this; cases this)) ((src2.ext (same_new hD3)).ne_new hD4) (by rw [List.length_take]; omega) ?_ ?_
      · refine List.Nodup.sublist (List.take_sublist _ _) (List.nodup_append.mpr ⟨nz, nw, fun x hx y hy e => ?_⟩)
        exact (pw y hy).1 (e ▸ hx)
      · intro z hz
        rcases List.mem_append.mp (List.mem_of_mem_take hz) with h | h
        · exact tz z h
        · exact (pw z h).2.1
theorem p_l_number_len {vs : List V} {H : Hp} {Q : VK} {E : XK} (h : spNumber vs H Q E) : vs.length = 1 := by
  obtain ⟨l, a, rfl, _⟩ := h; rfl
theorem p_l_number {K : PySem.W.Frag} {vs : List V} {H : Hp} {Q : VK} {E : XK} (h : spNumber vs H Q E) : t_l_number K { nx := fun _ H' => Q .non H', rt := Q } (start N_l_number vs) H := by
  obtain ⟨l, a, rfl, cn, ha, q⟩ := h
  unfold t_l_number
  walk_at "go"
  refine ⟨l, 4, a, rfl, cn, by omega, by decide, fun d H1 d0 d1 k1 c1 => ?_⟩
  walk_at "go"
  refine if_2 (fun hd => ?_) (fun hd => ?_)
  · walk_at "go"
    refine ⟨by show 5 ≤ sizeLine; decide, fun A hA => ?_⟩
    refine ⟨l, A, [0, 1, -1, 10 ^ (12 : Int).toNat, -(10 ^ (12 : Int).toNat)], a + 1, rfl, c1.same (same_new hA), by omega, upd_same, by simp, fun n H2 _ k2 c2 => ?_⟩
    exact q n H2 ((k1.new hA).trans k2) (c2.mono (by omega))
  · walk_at "go"
    refine ⟨by show 3 ≤ sizeLine; decide, fun A hA => ?_⟩
    have hd' : ¬ d = 0 := fun e => hd (by rw [e])
    obtain ⟨t, ht, t0, t1⟩ : ∃ t : Int, atI [V.int 20, .int 1000, .int (2 * 10 ^ (9 : Int).toNat)] (d - 1) = some (.int t) ∧ 2 ≤ t ∧ t ≤ 2000000000 := by
      rcases (by omega : d = 1 ∨ d = 2 ∨ d = 3) with h | h | h <;> subst h <;> exact ⟨_, rfl, by decide, by decide⟩
    walk_at "go"
    refine w_ixL (sqL upd_same) ht ?_
    walk_at "go"
    refine ⟨l, t, a + 1, rfl, c1.same (same_new hA), by omega, by omega, fun e H2 e0 e1 k2 c2 => ?_⟩
    walk_at "go"
    refine ⟨l, 2, a + 1 + 1, rfl, c2, by omega, by decide, fun f H3 f0 f1 k3 c3 => ?_⟩
    walk_at "go"
    refine w_I (mulS (by omega) (by omega) (by omega) (by omega)) ?_
    walk_at "go"
    exact q _ H3 (((k1.new hA).trans k2).trans k3) c3

-- names: 0:_law_draw_here 1:_law_names_here 2:_law_many 3:_law_plain 4:_law_found 5:_law_name_here 6:_law_top 7:_law_life 8:_law_version 9:_law_numbers 10:_law_others 11:_law_k 12:_law_one_here
abbrev N_l_roll : List Str := ["_law_draw_here", "_law_names_here", "_law_many", "_law_plain", "_law_found", "_law_name_here", "_law_top", "_law_life", "_law_version", "_law_numbers", "_law_others", "_law_k", "_law_one_here"]
def t_l_roll (K : PySem.W.Frag) : TS :=
  (tSeq (tAsg (tLst tNil) (gName 4))
    (tSeq (tFor (iList K (tVar 1)) (gName 5) (tIfS (tAnd (tTest (tOp rGtI (tCall spDraw [] E0 (tCons (tVar 0) (tCons (tC (.int 4)) tNil))) (tC (.int 0)))) (tTest (tOp rLtI (tCB (Evl.rLenS K) (tCons (tVar 4) tNil)) (tC (.int 6))))) (tSeq (tAsg (tOp (rIxL K) (tLst (tCons (tC (.int 3)) (tCons (tC (.int 300)) tNil))) (tCB rInt1 (tCons (tOp rEq (tCall spDraw [] E0 (tCons (tVar 0) (tCons (tC (.int 5)) tNil))) (tC (.int 0))) tNil))) (gName 6))
        (tSeq (tAsg (tTup (tCons (tOp rAddI (tC (.int 1)) (tCall spDraw [] E0 (tCons (tVar 0) (tCons (tVar 6) tNil)))) (tCons (tOp rAddI (tC (.int 1)) (tCall spDraw [] E0 (tCons (tVar 0) (tCons (tVar 6) tNil)))) tNil))) (gTup K 2 (gCons (gName 7) (gCons (gName 8) gNil))))
        (tSeq (tAsg (tCB (rTupOf K) (tCons (tLc (iRng1 (tCons (tVar 2) tNil)) (gName 11) tYes (tOp rAddI (tOp rAddI (tOp rMulI (tVar 7) (tC (.int 1000))) (tVar 8)) (tVar 11)) [11]) tNil)) (gName 9))
        (tSeq (tIfS (tNot (tB (tVar 3))) (tAsg (tCB (rTupOf K) (tCons (tLc (iRng1 (tCons (tVar 2) tNil)) (gName 11) tYes (tCall spNumber [] E0 (tCons (tVar 0) tNil)) [11]) tNil)) (gName 9)) tNext)
        (tSeq (tAsg (tCB (rTupOf K) (tCons (tLc (iList K (tVar 1)) (gName 12) (tAnd (tTest (tOp rNe (tVar 12) (tVar 5))) (tTest (tOp rEq (tOp rModI (tOp rAddI (tOp rAddI (tVar 7) (tVar 8)) (tCB rLenStr (tCons (tVar 12) tNil))) (tC (.int 3))) (tC (.int 0))))) (tVar 12) [12]) tNil)) (gName 10))
        (tDrop (tBM K "list" rAppend (tVar 4) (tCons (tTup (tCons (tVar 5) (tCons (tVar 7) (tCons (tVar 8) (tCons (tVar 9) (tCons (tVar 10) tNil)))))) tNil)))))))) tNext))
    (tRet (tCB (rTupOf K) (tCons (tVar 4) tNil)))))


def r_roll (K : PySem.W.Frag) : TS :=
  (tSeq (tAsg (tCB (rTupOf K) (tCons (tLc (iList K (tVar 1)) (gName 12) (tAnd (tTest (tOp rNe (tVar 12) (tVar 5))) (tTest (tOp rEq (tOp rModI (tOp rAddI (tOp rAddI (tVar 7) (tVar 8)) (tCB rLenStr (tCons (tVar 12) tNil))) (tC (.int 3))) (tC (.int 0))))) (tVar 12) [12]) tNil)) (gName 10))
        (tDrop (tBM K "list" rAppend (tVar 4) (tCons (tTup (tCons (tVar 5) (tCons (tVar 7) (tCons (tVar 8) (tCons (tVar 9) (tCons (tVar 10) tNil)))))) tNil))))

/-- whole numbers that are put into a list at D -/
def Li (H : Hp) (D : Addr) (i : Nat) (H' : Hp) : Prop := Same H H' ∧ H D = none ∧ ∃ ns : List Int, H' D = some (.lst (ns.map V.int)) ∧ ns.length = i
theorem Li.start {H : Hp} {D : Addr} (hD : H D = none) : Li H D 0 (upd H D (.lst [])) := ⟨same_new hD, hD, [], upd_same, rfl⟩
theorem Li.step {H H1 : Hp} {D : Addr} {i : Nat} {n : Int} (m : Li H D i H1) (hi : i ≤ 1000) : ∃ acc, H1 D = some (.lst acc) ∧ acc.length < sizeLine ∧ Li H D (i + 1) (upd H1 D (.lst (acc ++ [.int n]))) := by
  obtain ⟨s0, hD, ns, h1, h2⟩ := m
  refine ⟨_, h1, by rw [List.length_map, h2]; exact small1000 hi, fun a o e => ?_, hD, ns ++ [n], by rw [upd_same, List.map_append]; rfl, by rw [List.length_append, h2]; rfl⟩
  rw [upd_ne (ne_of_none e hD)]
  exact s0 _ _ e
def RollR (zs : List Str) (i : Nat) (ds : List PyData) : Prop := ∃ es : List En, ds = es.map entD ∧ es.length ≤ i ∧ (es.map (·.nm)).Sublist (zs.take i) ∧ ∀ e ∈ es, goodE e
theorem p_roll_rest {K : PySem.W.Frag} {l n D N0 : Addr} {zs : List Str} {z : Str} {m : Nat} {b : Bool} {i c : Nat} {li ve : Int} {ns : List Int} {H H1 : Hp} {u : Ends} {y6 y10 y11 y12 : Option V} (hn : H n = some (.lst (zs.map V.str))) (l8 : zs.length ≤ 8) (tz : ∀ z ∈ zs, isTx z) (hz : zs[i]? = some z)
    (f : Df l D H (RollR zs i) H1) (cn : Cn H1 l c) (hN : H1 N0 = some (.tup (ns.map V.int)))
    (q : ∀ y9 y10 y11 y12 H', Df l D H (RollR zs (i + 1)) H' → Cn H' l c → u.nx [some (.ref l), some (.ref n), some (.int (m : Int)), some (.bl b), some (.ref D), some (.str z), y6, some (.int li), some (.int ve), y9, y10, y11, y12] H') :
    r_roll K u [some (.ref l), some (.ref n), some (.int (m : Int)), some (.bl b), some (.ref D), some (.str z), y6, some (.int li), some (.int ve), some (.ref N0), y10, y11, y12] H1 := by
  have hn1 := f.1.lst hn
  have li8 := (List.getElem?_eq_some_iff.mp hz).1
  unfold r_roll
  walk_at "go"
  refine ⟨n, rfl, ⟨_, sqL hn1⟩, fun C hC => lc_list (K := K) (xs := zs.map V.str) (fun i H' => Same H1 H' ∧ ∃ ws : List Str, H' C = some (.lst (ws.map V.str)) ∧ ws.length ≤ i ∧ ∀ w ∈ ws, w ∈ zs) ⟨same_new hC, [], upd_same, Nat.le_refl _, fun w hw => by cases hw⟩ (fun i H' _ P => sqL (P.1 _ _ hn1)) ?_ ?_⟩
  · rintro j x H2 hx ⟨s2, ws, h2, lw, pw⟩
    rw [List.getElem?_map] at hx
    cases hy : zs[j]? with
    | none => rw [hy] at hx; cases hx
    | some y =>
      rw [hy] at hx
      cases hx
      have lj := (List.getElem?_eq_some_iff.mp hy).1
      have my := List.mem_of_getElem? hy
      have ly := (tz y my).1
      have stay : Same H1 H2 ∧ ∃ ws : List Str, H2 C = some (.lst (ws.map V.str)) ∧ ws.length ≤ j + 1 ∧ ∀ w ∈ ws, w ∈ zs := ⟨s2, ws, h2, by omega, pw⟩
      have grow : ∃ acc, H2 C = some (.lst acc) ∧ acc.length < sizeLine ∧ (Same H1 (upd H2 C (.lst (acc ++ [.str y]))) ∧ ∃ ws : List Str, (upd H2 C (.lst (acc ++ [.str y]))) C = some (.lst (ws.map V.str)) ∧ ws.length ≤ j + 1 ∧ ∀ w ∈ ws, w ∈ zs) := by
        refine ⟨_, h2, by rw [List.length_map]; exact small1000 (by omega), fun b o e => ?_, ws ++ [y], by rw [upd_same, List.map_append]; rfl, by rw [List.length_append, List.length_singleton]; omega, fun w hw => ?_⟩
        · rw [upd_ne (ne_of_none e hC)]
          exact s2 _ _ e
        · rcases List.mem_append.mp hw with h | h
          · exact pw w h
          · rw [List.mem_singleton.mp h]; exact my
      walk_at "go"
      refine ⟨rfl, ?_⟩
      walk_at "go"
      refine if_b (fun _ => ?_) (fun _ => ?_)
      · walk_at "go"
        refine w_lenStr (sz100 (by omega)) ?_
        walk_at "go"
        refine if_b (fun _ => ?_) (fun _ => ?_)
        · walk_at "go"
          exact grow
        · exact stay
      · exact stay
  · rintro H2 ⟨s2, ws, h2, lw, pw⟩
    walk_at "go"
    refine w_tupOfL (sqL h2) fun O hO => ?_
    have s3 : Same H1 (upd H2 O (.tup (ws.map V.str))) := s2.trans (same_new hO)
    have hO3 : (upd H2 O (.tup (ws.map V.str))) O = some (.tup (ws.map V.str)) := upd_same
    generalize upd H2 O (.tup (ws.map V.str)) = H3 at *
    have k3 := Dr.same f.1.src s3
    have f3 := f.dr k3
    obtain ⟨_, hD, nDl, xs, ds, hx, fx, rx⟩ := id f3
    walk_at "go"
    refine ⟨by show 5 ≤ sizeLine; decide, fun T hT => ?_⟩
    have k4 := (Dr.refl f3.1.src).new (o := .tup [.str z, .int li, .int ve, .ref N0, .ref O]) hT
    have hr : ∀ ds, RollR zs i ds → RollR zs (i + 1) (ds ++ [entD ⟨z, li, ve, ns, ws⟩]) := by
      rintro ds ⟨es, e, le, sb, ge⟩
      refine ⟨es ++ [⟨z, li, ve, ns, ws⟩], by rw [e, List.map_append]; rfl, by rw [List.length_append, List.length_singleton]; omega, ?_, fun e he => ?_⟩
      · rw [List.map_append, List.take_add_one, hz]
        exact List.Sublist.append sb (List.Sublist.refl _)
      · rcases List.mem_append.mp he with h | h
        · exact ge e h
        · rw [List.mem_singleton.mp h]
          exact ⟨tz z (List.mem_of_getElem? hz), fun w hw => tz w (pw w hw)⟩
    obtain ⟨acc, g1, g2, g3⟩ := f3.put (R' := RollR zs (i + 1)) (v := .ref T) (d := entD ⟨z, li, ve, ns, ws⟩) k4 (.tup upd_same (.cons (.str _) (.cons (.int _) (.cons (.int _) (.cons (.tup (keep (s3 _ _ hN) hT) fz_ints) (.cons (.tup (keep hO3 hT) fz_strs) .nil)))))) hr (fun ds ⟨es, e, le, _⟩ => by rw [e, List.length_map]; omega)
    walk_at "go"
    refine w_append g1 g2 ?_
    exact q _ _ _ _ _ g3 (((cn.same s3).same (same_new hT)).put nDl)
theorem p_l_roll_len {vs : List V} {H : Hp} {Q : VK} {E : XK} (h : spRoll vs H Q E) : vs.length = 4 := by
  obtain ⟨l, n, zs, m, b, a, rfl, _⟩ := h; rfl
theorem p_l_roll {K : PySem.W.Frag} {vs : List V} {H : Hp} {Q : VK} {E : XK} (h : spRoll vs H Q E) : t_l_roll K { nx := fun _ H' => Q .non H', rt := Q } (start N_l_roll vs) H := by
  obtain ⟨l, n, zs, m, b, a, rfl, cn, ha, hn, l8, tz, m3, q⟩ := h
  unfold t_l_roll
  walk_at "go"
  refine ⟨by show 0 ≤ sizeLine; decide, fun D hD => ?_⟩
  have nD := cn.src.ne_new hD
  have f0 : Df l D H (RollR zs 0) (upd H D (.lst [])) := Df.start cn.src hD ⟨[], rfl, Nat.le_refl _, List.Sublist.refl _, fun e he => by cases he⟩
  have hn0 := keep (u := HO.lst []) hn hD
  walk_at "go"
  refine ⟨n, rfl, ⟨_, sqL hn0⟩, for_list (K := K) (a := n) (xs := zs.map V.str) (fun i σ H' => (∃ y5 y6 y7 y8 y9 y10 y11 y12, σ = [some (.ref l), some (.ref n), some (.int (m : Int)), some (.bl b), some (.ref D), y5, y6, y7, y8, y9, y10, y11, y12]) ∧ Df l D H (RollR zs i) H' ∧ Cn H' l (a + 13 * i)) ⟨⟨_, _, _, _, _, _, _, _, rfl⟩, f0, cn.put nD⟩ (fun i σ H' _ P => sqL (P.2.1.1.lst hn)) ?_ ?_⟩
  · rintro i x σ H1 hx ⟨⟨y5, y6, y7, y8, y9, y10, y11, y12, rfl⟩, f1, c1⟩
    rw [List.getElem?_map] at hx
    cases hz : zs[i]? with
    | none => rw [hz] at hx; cases hx
    | some z =>
      rw [hz] at hx
      cases hx
      have li8 := (List.getElem?_eq_some_iff.mp hz).1
      have wait : ∀ H', Df l D H (RollR zs i) H' → Df l D H (RollR zs (i + 1)) H' := fun H' f => f.imp fun ds ⟨es, e, le, sb, ge⟩ => ⟨es, e, by omega, sb.trans (List.take_sublist_take_left (Nat.le_succ i)), ge⟩
      walk_at "go"
      refine ⟨l, 4, a + 13 * i, rfl, c1, by omega, by decide, fun d H2 d0 d1 k2 c2 => ?_⟩
      have f2 := f1.dr k2
      obtain ⟨_, _, _, xs2, ds2, hx2, fx2, rx2⟩ := id f2
      walk_at "go"
      refine if_2 (fun hd => ?_) (fun hd => ?_)
      · walk_at "go"
        refine if_2 (fun h6 => ?_) (fun h6 => ?_)
        · walk_at "go"
          refine ⟨by show 2 ≤ sizeLine; decide, fun A hA => ?_⟩
          have nA := f2.1.src.ne_new hA
          have k3 := (Dr.refl f2.1.src).new (o := .lst [.int 3, .int 300]) hA
          have c3 : Cn (upd H2 A (.lst [.int 3, .int 300])) l (a + 13 * i + 1) := c2.same (same_new hA)
          have hA3 : (upd H2 A (.lst [.int 3, .int 300])) A = some (.lst [.int 3, .int 300]) := upd_same
          generalize upd H2 A (.lst [.int 3, .int 300]) = H3 at *
          have f3 := f2.dr k3
          walk_at "go"
          refine ⟨l, 5, _, rfl, c3, by omega, by decide, fun e H4 e0 e1 k4 c4 => ?_⟩
          walk_at "go"
          obtain ⟨tp, ht, t0⟩ : ∃ tp : Int, atI [V.int 3, .int 300] (if decide (V.int e = V.int 0) = true then 1 else 0) = some (.int tp) ∧ 0 < tp := by
            by_cases he : V.int e = V.int 0
            · rw [decide_eq_true he]; exact ⟨300, rfl, by decide⟩
            · rw [decide_eq_false he]; exact ⟨3, rfl, by decide⟩
          refine w_ixL (sqL (k4.lst hA3)) ht ?_
          walk_at "go"
          refine ⟨l, tp, _, rfl, c4, by omega, t0, fun g H5 _ _ k5 c5 => ?_⟩
          walk_at "go"
          refine ⟨l, tp, _, rfl, c5, by omega, t0, fun h H6 _ _ k6 c6 => ?_⟩
          have f6 := ((f3.dr k4).dr k5).dr k6
          walk_at "go"
          refine ⟨by show 2 ≤ sizeLine; decide, fun T hT => ?_⟩
          have s7 : Same H6 (upd H6 T (.tup [.int (1 + g), .int (1 + h)])) := same_new hT
          have hT7 : (upd H6 T (.tup [.int (1 + g), .int (1 + h)])) T = some (.tup [.int (1 + g), .int (1 + h)]) := upd_same
          generalize upd H6 T (.tup [.int (1 + g), .int (1 + h)]) = H7 at *
          have f7 := f6.dr (Dr.same f6.1.src s7)
          have c7 := c6.same s7
          walk_at "go"
          refine ⟨_, rfl, by omega, by omega, fun B hB => ?_⟩
          rw [Int.toNat_natCast]
          refine lc_range (lo := 0) (n := m) (Li H7 B) (Li.start hB) ?_ ?_
          · rintro j H8 hj mm
            walk_at "go"
            refine ⟨rfl, w_yes (if_t rfl ?_)⟩
            walk_at "go"
            exact mm.step (by omega)
          · rintro H8 ⟨s8, _, ns, h8, ln⟩
            walk_at "go"
            refine w_tupOfL (sqL h8) fun N0 hN0 => ?_
            have s9 : Same H7 (upd H8 N0 (.tup (ns.map V.int))) := s8.trans (same_new hN0)
            have hN9 : (upd H8 N0 (.tup (ns.map V.int))) N0 = some (.tup (ns.map V.int)) := upd_same
            generalize upd H8 N0 (.tup (ns.map V.int)) = H9 at *
            have f9 := f7.dr (Dr.same f7.1.src s9)
            have c9 := c7.same s9
            walk_at "go"
            refine if_b (fun hb => ?_) (fun hb => ?_)
            · walk_at "go"
              refine ⟨_, rfl, by omega, by omega, fun B2 hB2 => ?_⟩
              rw [Int.toNat_natCast]
              have nB2 := f9.1.src.ne_new hB2
              refine lc_range (lo := 0) (n := m) (fun j H' => Dr l H9 H' ∧ Cn H' l (a + 13 * i + 1 + 1 + 1 + 1 + 3 * j) ∧ ∃ ns : List Int, H' B2 = some (.lst (ns.map V.int)) ∧ ns.length = j) ⟨(Dr.refl f9.1.src).new hB2, c9.same (same_new hB2), [], upd_same, rfl⟩ ?_ ?_
              · rintro j H10 hj ⟨k10, c10, ms, h10, lm⟩
                walk_at "go"
                refine ⟨rfl, w_yes (if_t rfl ?_)⟩
                walk_at "go"
                refine ⟨l, _, rfl, c10, by omega, fun r H11 k11 c11 => ?_⟩
                refine ⟨_, k11.lst h10, by rw [List.length_map]; exact small1000 (by omega), (k10.trans k11).put hB2 nB2, (c11.put nB2).mono (by omega), ms ++ [r], by rw [upd_same, List.map_append]; rfl, by rw [List.length_append, lm]; rfl⟩
              · rintro H10 ⟨k10, c10, ms, h10, lm⟩
                walk_at "s"
                refine w_tupOfL (sqL h10) fun N1 hN1 => ?_
                have s11 : Same H10 (upd H10 N1 (.tup (ms.map V.int))) := same_new hN1
                have f11 := (f9.dr k10).dr (Dr.same k10.src s11)
                refine p_roll_rest (K := K) (c := a + 13 * (i + 1)) hn l8 tz hz f11 ((c10.same s11).mono (by omega)) upd_same fun y9 y10 y11 y12 H' f' c' => ⟨⟨_, _, _, _, _, _, _, _, rfl⟩, f', c'⟩
            · walk_at "s"
              walk_at "s"
              refine p_roll_rest (K := K) (c := a + 13 * (i + 1)) hn l8 tz hz f9 (c9.mono (by omega)) hN9 fun y9 y10 y11 y12 H' f' c' => ⟨⟨_, _, _, _, _, _, _, _, rfl⟩, f', c'⟩
        · walk_at "go"
          exact ⟨⟨_, _, _, _, _, _, _, _, rfl⟩, wait _ f2, c2.mono (by omega)⟩
      · walk_at "go"
        exact ⟨⟨_, _, _, _, _, _, _, _, rfl⟩, wait _ f2, c2.mono (by omega)⟩
  · rintro σ H1 ⟨⟨y5, y6, y7, y8, y9, y10, y11, y12, rfl⟩, ⟨k1, _, _, xs, ds, hx, fx, es, rfl, le, sb, ge⟩, c1⟩
    rw [List.length_map] at le c1
    walk_at "go"
    refine w_tupOfL (sqL hx) fun S hS => ?_
    refine q S es _ (k1.new hS) ((c1.same (same_new hS)).mono (by omega)) ⟨xs, upd_same, fx.same (same_new hS)⟩ (by omega) ?_ ge
    exact sb.trans (List.take_sublist _ _)

/-! ### tuples put together, and parts of them -/
theorem cutV_all {xs : List V} {lo hi : Option Int} (h : HT.sIx xs.length 0 lo = 0 ∧ HT.sIx xs.length xs.length hi = xs.length) : cutV xs lo hi = xs := by
  unfold cutV
  rw [h.1, h.2, List.drop_zero]
  exact List.take_of_length_le (Nat.le_of_eq (Nat.sub_zero _).symm)
theorem w_slA {K : PySem.W.Frag} {H : Hp} {Q : VK} {a : Addr} {xs : List V} {lo hi : Option Int} (h : H a = some (.tup xs)) (q : ∀ p H', Same H H' → H' p = some (.tup (cutV xs lo hi)) → Q (.ref p) H') : rSlA K (.ref a) lo hi H Q := by
  refine ⟨a, xs, rfl, sqT h, fun e => ?_, fun _ p hp => q p _ (same_new hp) upd_same⟩
  exact q a H (Same.refl _) (by rw [cutV_all e]; exact h)
theorem w_catA {K : PySem.W.Frag} {H : Hp} {Q : VK} {a b : Addr} {xs ys : List V} (h : H a = some (.tup xs)) (h' : H b = some (.tup ys)) (hl : xs.length + ys.length ≤ 1000) (q : ∀ p H', Same H H' → H' p = some (.tup (xs ++ ys)) → Q (.ref p) H') : rCatA K (.ref a) (.ref b) H Q := by
  refine ⟨a, b, xs, ys, rfl, rfl, sqT h, sqT h', Nat.le_trans hl (by decide), fun e => ?_, fun _ e => ?_, fun _ _ p hp => q p _ (same_new hp) upd_same⟩
  · exact q b H (Same.refl _) (by rw [e]; exact h')
  · exact q a H (Same.refl _) (by rw [e, List.append_nil]; exact h)
theorem sIx_nat {n f d : Nat} (h : f ≤ n) : HT.sIx n d (some (f : Int)) = f := by
  unfold HT.sIx
  simp
  rw [if_neg (by omega)]
  omega
theorem cut_take {xs : List V} {f : Nat} (h : f ≤ xs.length) : cutV xs none (some (f : Int)) = xs.take f := by
  unfold cutV
  rw [sIx_nat h]
  rfl
theorem cut_drop {xs : List V} {f : Nat} (h : f ≤ xs.length) : cutV xs (some (f : Int)) none = xs.drop f := by
  unfold cutV
  rw [sIx_nat h]
  show (xs.drop f).take (xs.length - f) = _
  refine List.take_of_length_le ?_
  rw [List.length_drop]
  exact Nat.le_refl _
theorem cut_last {xs : List V} (h : 1 ≤ xs.length) : cutV xs none (some (-1)) = xs.dropLast := by
  unfold cutV
  have e : HT.sIx xs.length xs.length (some (-1)) = xs.length - 1 := by
    unfold HT.sIx
    simp
    omega
  rw [e, List.dropLast_eq_take]
  rfl

-- names: 0:one 1:other
abbrev N_newer : List Str := ["one", "other"]
def t_newer (K : PySem.W.Frag) : TS :=
  (tRet (tOp (rGtT2 K) (tTup (tCons (tOp (rIxT K) (tVar 0) (tC (.int 1))) (tCons (tOp (rIxT K) (tVar 0) (tC (.int 2))) tNil))) (tTup (tCons (tOp (rIxT K) (tVar 1) (tC (.int 1))) (tCons (tOp (rIxT K) (tVar 1) (tC (.int 2))) tNil)))))

-- names: 0:roll 1:other 2:found 3:entry 4:name
abbrev N_merged : List Str := ["roll", "other", "found", "entry", "name"]
def t_merged (K : PySem.W.Frag) : TS :=
  (tSeq (tAsg tDNewK (gName 2))
    (tSeq (tFor (iTup K (tOp (rCatA K) (tVar 0) (tVar 1))) (gName 3) (tIfS (tOr (tB (tDNotIn (tOp (rIxT K) (tVar 3) (tC (.int 0))) (tVar 2))) (tB (tCall spNewer [] E0 (tCons (tVar 3) (tCons (tDGet (tVar 2) (tOp (rIxT K) (tVar 3) (tC (.int 0)))) tNil))))) (sDPut (tVar 2) (tOp (rIxT K) (tVar 3) (tC (.int 0))) (tVar 3)) tNext))
    (tRet (tCB (rTupOf K) (tCons (tLc (iList K (tCB rSortedDS (tCons (tVar 2) tNil))) (gName 4) tYes (tDGet (tVar 2) (tVar 4)) [4]) tNil)))))

-- names: 0:_law_one_here 1:_law_other 2:_law_found 3:_law_name_here 4:_law_some 5:_law_entry
abbrev N_l_due : List Str := ["_law_one_here", "_law_other", "_law_found", "_law_name_here", "_law_some", "_law_entry"]
def t_l_due (K : PySem.W.Frag) : TS :=
  (tSeq (tAsg (tLst tNil) (gName 2))
    (tSeq (tFor (iList K (tSortSetS K (tLc (iTup K (tOp (rCatA K) (tVar 0) (tVar 1))) (gName 5) tYes (tOp (rIxT K) (tVar 5) (tC (.int 0))) [5]))) (gName 3) (tSeq (tAsg (tLc (iTup K (tOp (rCatA K) (tVar 0) (tVar 1))) (gName 5) (tTest (tOp rEq (tOp (rIxT K) (tVar 5) (tC (.int 0))) (tVar 3))) (tVar 5) [5]) (gName 4))
      (tSeq (tIfS (tAnd (tTest (tOp rEq (tCB (Evl.rLenS K) (tCons (tVar 4) tNil)) (tC (.int 2)))) (tTest (tOp (rGtT2 K) (tSl (rSlA K) (tOp (rIxL K) (tVar 4) (tC (.int 1))) (tPart (tC (.int 1))) (tPart (tC (.int 3)))) (tSl (rSlA K) (tOp (rIxL K) (tVar 4) (tC (.int 0))) (tPart (tC (.int 1))) (tPart (tC (.int 3))))))) (tAsg (tSl (rSlL K) (tVar 4) (tPart (tC (.int 1))) tNoPart) (gName 4)) tNext)
      (tDrop (tBM K "list" rAppend (tVar 2) (tCons (tOp (rIxL K) (tVar 4) (tC (.int 0))) tNil))))))
    (tRet (tCB (rTupOf K) (tCons (tVar 2) tNil)))))


theorem ent_at {H : Hp} {v : V} {e : En} (h : Fz H v (entD e)) : ∃ p b c, v = .ref p ∧ H p = some (.tup [.str e.nm, .int e.li, .int e.ve, .ref b, .ref c]) := by
  obtain ⟨p, xs, rfl, hp, t⟩ := fz_tup h
  cases t with
  | cons f0 t =>
    cases f0
    cases t with
    | cons f1 t =>
      cases f1
      cases t with
      | cons f2 t =>
        cases f2
        cases t with
        | cons f3 t =>
          obtain ⟨b, ys, rfl, _, _⟩ := fz_tup f3
          cases t with
          | cons f4 t =>
            obtain ⟨c, zs, rfl, _, _⟩ := fz_tup f4
            cases t
            exact ⟨p, b, c, rfl, hp⟩
theorem w_gtT2 {K : PySem.W.Frag} {H : Hp} {Q : VK} {a b : Addr} {i j k l : Int} (ha : H a = some (.tup [.int i, .int j])) (hb : H b = some (.tup [.int k, .int l])) (q : Q (.bl (decide (k < i ∨ (i = k ∧ l < j)))) H) : rGtT2 K (.ref a) (.ref b) H Q := ⟨a, b, i, j, k, l, rfl, rfl, sqT ha, sqT hb, q⟩
theorem p_newer_len {vs : List V} {H : Hp} {Q : VK} {E : XK} (h : spNewer vs H Q E) : vs.length = 2 := by
  obtain ⟨v, w, x, y, rfl, _⟩ := h; rfl
theorem p_newer {K : PySem.W.Frag} {vs : List V} {H : Hp} {Q : VK} {E : XK} (h : spNewer vs H Q E) : t_newer K { nx := fun _ H' => Q .non H', rt := Q } (start N_newer vs) H := by
  obtain ⟨v, w, x, y, rfl, hv, hw, q⟩ := h
  obtain ⟨p, b, c, rfl, hp⟩ := ent_at hv
  obtain ⟨p', b', c', rfl, hp'⟩ := ent_at hw
  unfold t_newer
  walk_at "go"
  refine ⟨by show 2 ≤ sizeLine; decide, fun A hA => ?_⟩
  have hp2 := keep (u := HO.tup [.int x.li, .int x.ve]) hp' hA
  walk_at "go"
  refine ⟨by show 2 ≤ sizeLine; decide, fun B hB => ?_⟩
  refine w_gtT2 (keep upd_same hB) upd_same ?_
  exact q _ (same_in (same_new hA) hB)
/-! ### a dict with texts as keys -/
abbrev dkv (kvs : List (Str × V)) : List (Key × V) := kvs.map fun kv => ((Sum.inr kv.1 : Key), kv.2)
theorem val_some {kvs : List (Str × V)} {n : Str} {v : V} (h : valV (dkv kvs) (.inr n) = some v) : (n, v) ∈ kvs := by
  induction kvs with
  | nil => cases h
  | cons kv kvs ih =>
    by_cases e : kv.1 = n
    · rw [show dkv (kv :: kvs) = (Sum.inr kv.1, kv.2) :: dkv kvs from rfl, valV_pos (by rw [e])] at h
      have : kv.2 = v := Option.some.inj h
      rw [← e, ← this]
      exact .head _
    · rw [show dkv (kv :: kvs) = (Sum.inr kv.1, kv.2) :: dkv kvs from rfl, valV_neg (fun z => e (Sum.inr.inj z))] at h
      exact .tail _ (ih h)
theorem val_none {kvs : List (Str × V)} {n : Str} (h : valV (dkv kvs) (.inr n) = none) : n ∉ kvs.map (·.1) := by
  induction kvs with
  | nil => intro m; cases m
  | cons kv kvs ih =>
    by_cases e : kv.1 = n
    · rw [show dkv (kv :: kvs) = (Sum.inr kv.1, kv.2) :: dkv kvs from rfl, valV_pos (by rw [e])] at h
      cases h
    · rw [show dkv (kv :: kvs) = (Sum.inr kv.1, kv.2) :: dkv kvs from rfl, valV_neg (fun z => e (Sum.inr.inj z))] at h
      intro m
      rcases List.mem_cons.mp m with z | z
      · exact e z.symm
      · exact ih h z
theorem val_in {kvs : List (Str × V)} {n : Str} (h : n ∈ kvs.map (·.1)) : ∃ v, valV (dkv kvs) (.inr n) = some v := by
  cases e : valV (dkv kvs) (.inr n) with
  | some v => exact ⟨v, rfl⟩
  | none => exact absurd h (val_none e)
theorem put_new {kvs : List (Str × V)} {n : Str} {v : V} (h : n ∉ kvs.map (·.1)) : putK (dkv kvs) (.inr n) v = dkv (kvs ++ [(n, v)]) := by
  unfold putK
  rw [if_neg ?_]
  · show dkv kvs ++ _ = (kvs ++ [(n, v)]).map _
    rw [List.map_append]; rfl
  · rw [Bool.not_eq_true, List.any_eq_false]
    intro kv hkv
    obtain ⟨x, hx, rfl⟩ := List.mem_map.mp hkv
    simp only [decide_eq_true_eq]
    intro z
    exact h (List.mem_map.mpr ⟨x, hx, Sum.inr.inj z⟩)
theorem put_old {kvs : List (Str × V)} {n : Str} {v : V} (h : n ∈ kvs.map (·.1)) : putK (dkv kvs) (.inr n) v = dkv (kvs.map fun kv => if kv.1 = n then (kv.1, v) else kv) := by
  unfold putK
  rw [if_pos ?_]
  · show (kvs.map _).map _ = (kvs.map _).map _
    rw [List.map_map, List.map_map]
    refine List.map_congr_left fun kv _ => ?_
    show (if (Sum.inr kv.1 : Key) = .inr n then ((Sum.inr kv.1 : Key), v) else (Sum.inr kv.1, kv.2)) = _
    by_cases e : kv.1 = n
    · rw [if_pos (by rw [e])]
      show _ = ((Sum.inr (if kv.1 = n then (kv.1, v) else kv).1 : Key), (if kv.1 = n then (kv.1, v) else kv).2)
      rw [if_pos e]
    · rw [if_neg (fun z => e (Sum.inr.inj z))]
      show _ = ((Sum.inr (if kv.1 = n then (kv.1, v) else kv).1 : Key), (if kv.1 = n then (kv.1, v) else kv).2)
      rw [if_neg e]
  · rw [List.any_eq_true]
    obtain ⟨x, hx, e⟩ := List.mem_map.mp h
    exact ⟨(Sum.inr x.1, x.2), List.mem_map.mpr ⟨x, hx, rfl⟩, by
      show decide ((Sum.inr x.1 : Key) = .inr n) = true
      rw [decide_eq_true_eq, e]⟩
/-- the dict at a holds of each name the newest entry of es -/
def Dk (H : Hp) (a : Addr) (es : List En) : Prop := ∃ kvs : List (Str × V), H a = some (.dK (dkv kvs)) ∧ (kvs.map (·.1)).Nodup ∧ kvs.length ≤ es.length ∧ (∀ n, n ∈ kvs.map (·.1) ↔ ∃ e ∈ es, e.nm = n) ∧ ∀ kv ∈ kvs, ∃ e, bst kv.1 es = some e ∧ Fz H kv.2 (entD e)
theorem bst_snoc (n : Str) (es : List En) (e : En) : bst n (es ++ [e]) = cmb (bst n es) (one? n e) := by
  rw [bst_app, bst_cons]
  show cmb _ (cmb (one? n e) none) = _
  rw [cmb_none]
theorem mem_snoc_nm {es : List En} {e : En} {n : Str} : (∃ d ∈ es ++ [e], d.nm = n) ↔ (∃ d ∈ es, d.nm = n) ∨ e.nm = n := by
  rw [mem_app_nm]
  constructor
  · rintro (h | ⟨d, hd, e2⟩)
    · exact .inl h
    · rw [List.mem_singleton.mp hd] at e2; exact .inr e2
  · rintro (h | h)
    · exact .inl h
    · exact .inr ⟨e, .head _, h⟩
theorem keep_dk {H : Hp} {D a : Addr} {xs : List V} {kvs ws : List (Key × V)} (hD : H D = some (.dK kvs)) (h : H a = some (.tup xs)) : (upd H D (.dK ws)) a = some (.tup xs) := by
  rw [upd_ne (ne_of h hD (by intro z; cases z))]; exact h
theorem fz_dk {H : Hp} {D : Addr} {v : V} {d : PyData} {kvs ws : List (Key × V)} (h : Fz H v d) (hD : H D = some (.dK kvs)) : Fz (upd H D (.dK ws)) v d := h.mono fun _ _ e => keep_dk hD e
theorem p_merged_len {K : PySem.W.Frag} {vs : List V} {H : Hp} {Q : VK} {E : XK} (h : spMerged K vs H Q E) : vs.length = 2 := by
  obtain ⟨a, b, es, fs, rfl, _⟩ := h; rfl
theorem ents_at {H : Hp} {xs : List V} {es : List En} (f : FzAll H xs (es.map entD)) {i : Nat} {x : V} (hx : xs[i]? = some x) : ∃ e, es[i]? = some e ∧ Fz H x (entD e) := by
  obtain ⟨d, hd, fd⟩ := f.at hx
  rw [List.getElem?_map] at hd
  cases he : es[i]? with
  | none => rw [he] at hd; cases hd
  | some e => rw [he] at hd; cases hd; exact ⟨e, rfl, fd⟩
theorem p_merged {K : PySem.W.Frag} {vs : List V} {H : Hp} {Q : VK} {E : XK} (h : spMerged K vs H Q E) : t_merged K { nx := fun _ H' => Q .non H', rt := Q } (start N_merged vs) H := by
  obtain ⟨a, b, es1, fs1, rfl, ⟨xs, hxs, fxs⟩, ⟨ys, hys, fys⟩, l40, q⟩ := h
  have lx := fxs.len
  have ly := fys.len
  rw [List.length_map] at lx ly
  unfold t_merged
  walk_at "s"
  walk_at "s"
  refine w_dnew fun F hF => ?_
  have sF : Same H (upd H F (.dK [])) := same_new hF
  have hF1 : (upd H F (.dK [])) F = some (.dK []) := upd_same
  generalize upd H F (.dK []) = H0 at *
  walk_at "go"
  refine w_catA (sF _ _ hxs) (sF _ _ hys) (by omega) fun T H1 s1 hT => ?_
  have f1 : FzAll H1 (xs ++ ys) ((es1 ++ fs1).map entD) := by
    rw [List.map_append]
    exact ((fxs.app fys).same sF).same s1
  have q' : ∀ (c : Addr) (R : List En) (H' : Hp), Same H H' → Rl H' c R → Mg (es1 ++ fs1) R → Q (.ref c) H' := q
  have lzs : (xs ++ ys).length = (es1 ++ fs1).length := by rw [List.length_append, List.length_append]; omega
  have l40' : (es1 ++ fs1).length ≤ 40 := by rw [List.length_append]; exact l40
  have hF2 := s1 _ _ hF1
  have s01 := sF.trans s1
  clear q fxs fys hxs hys
  generalize xs ++ ys = zs at *
  generalize es1 ++ fs1 = es at *
  refine ⟨T, rfl, ⟨_, sqT hT⟩, for_tup (K := K) (a := T) (xs := zs) (fun i σ H' => (∃ y3, σ = [some (.ref a), some (.ref b), some (.ref F), y3, none]) ∧ (∀ p o, p ≠ F → H1 p = some o → H' p = some o) ∧ Dk H' F (es.take i)) ⟨⟨_, rfl⟩, fun p o _ h => h, [], hF2, .nil, Nat.le_refl _, fun n => ⟨(fun h => by cases h), (fun ⟨e, he, _⟩ => by cases he)⟩, fun kv h => by cases h⟩ (fun i σ H' _ P => sqT (P.2.1 _ _ (ne_of hT hF2 (by intro z; cases z)) hT)) ?_ ?_⟩
  · rintro i x σ H2 hx ⟨⟨y3, rfl⟩, kp, kvs, hk, nd, lk, mk, bk⟩
    have tupk : ∀ p ws, H1 p = some (.tup ws) → H2 p = some (.tup ws) := fun p ws h => kp p _ (ne_of h hF2 (by intro z; cases z)) h
    obtain ⟨e, he, fe⟩ := ents_at f1 hx
    have fe2 := fe.mono tupk
    obtain ⟨p, c1, c2, rfl, hp⟩ := ent_at fe2
    have et : es.take (i + 1) = es.take i ++ [e] := by rw [List.take_add_one, he]; rfl
    have le40 : (es.take i).length ≤ 40 := by rw [List.length_take]; omega
    -- what a put does
    have put : ∀ H3, Same H2 H3 → (∀ d, bst e.nm (es.take i) = some d → newerP e d = true) → ∃ H4, DPut H3 F (.str e.nm) (.ref p) H4 ∧ (∀ p o, p ≠ F → H1 p = some o → H4 p = some o) ∧ Dk H4 F (es.take (i + 1)) := by
      intro H3 s3 hnew
      have hk3 := s3 _ _ hk
      refine ⟨_, DPut.k (k := .inr e.nm) hk3 (by rw [List.length_map]; exact small1000 (by omega)), fun r o nr h => by rw [upd_ne nr]; exact s3 _ _ (kp r o nr h), ?_⟩
      have bnew : bst e.nm (es.take (i + 1)) = some e := by
        rw [et, bst_snoc, one_self]
        cases hb : bst e.nm (es.take i) with
        | none => rfl
        | some d =>
          show some (if newerP e d = true then e else d) = some e
          rw [if_pos (hnew d hb)]
      have both : ∀ n, n ≠ e.nm → bst n (es.take (i + 1)) = bst n (es.take i) := fun n nn => by
        rw [et, bst_snoc]
        unfold one?
        rw [if_neg (fun z => nn z.symm), cmb_none]
      by_cases hin : e.nm ∈ kvs.map (·.1)
      · have ek : (kvs.map fun kv => if kv.1 = e.nm then (kv.1, V.ref p) else kv).map (·.1) = kvs.map (·.1) := by
          rw [List.map_map]
          refine List.map_congr_left fun kv _ => ?_
          show (if kv.1 = e.nm then (kv.1, V.ref p) else kv).1 = kv.1
          split <;> rfl
        rw [put_old hin]
        refine ⟨_, upd_same, by rw [ek]; exact nd, by rw [List.length_map, et, List.length_append]; omega, fun n => ?_, fun kv hkv => ?_⟩
        · rw [ek, et, mem_snoc_nm, mk]
          constructor
          · exact .inl
          · rintro (h | h)
            · exact h
            · rw [← h]; exact (mk _).mp hin
        · obtain ⟨kv0, h0, rfl⟩ := List.mem_map.mp hkv
          by_cases e1 : kv0.1 = e.nm
          · rw [if_pos e1]
            refine ⟨e, ?_, fz_dk (fe2.same s3) hk3⟩
            show bst kv0.1 _ = _
            rw [e1]; exact bnew
          · rw [if_neg e1]
            obtain ⟨d, hd, fd⟩ := bk kv0 h0
            exact ⟨d, by rw [both _ e1]; exact hd, fz_dk (fd.same s3) hk3⟩
      · rw [put_new hin]
        refine ⟨_, upd_same, ?_, by rw [List.length_append, et, List.length_append]; show kvs.length + 1 ≤ _ + 1; omega, fun n => ?_, fun kv hkv => ?_⟩
        · rw [List.map_append]
          exact snoc_nodup nd hin
        · rw [List.map_append, List.mem_append, mk, et, mem_snoc_nm]
          constructor
          · rintro (h | h)
            · exact .inl h
            · exact .inr (List.mem_singleton.mp h).symm
          · rintro (h | h)
            · exact .inl h
            · exact .inr (by rw [← h]; exact .head _)
        · rcases List.mem_append.mp hkv with h | h
          · have e1 : kv.1 ≠ e.nm := fun z => hin (by rw [← z]; exact List.mem_map.mpr ⟨kv, h, rfl⟩)
            obtain ⟨d, hd, fd⟩ := bk kv h
            exact ⟨d, by rw [both _ e1]; exact hd, fz_dk (fd.same s3) hk3⟩
          · rw [List.mem_singleton.mp h]
            exact ⟨e, bnew, fz_dk (fe2.same s3) hk3⟩
    have doput : ∀ H3, Same H2 H3 → (∀ d, bst e.nm (es.take i) = some d → newerP e d = true) → (sDPut (tVar 2) (tOp (rIxT K) (tVar 3) (tC (.int 0))) (tVar 3)) { nx := fun σ H' => (∃ y3, σ = [some (.ref a), some (.ref b), some (.ref F), y3, none]) ∧ (∀ p o, p ≠ F → H1 p = some o → H' p = some o) ∧ Dk H' F (es.take (i + 1)), rt := Q } [some (.ref a), some (.ref b), some (.ref F), some (.ref p), none] H3 := by
      intro H3 s3 hnew
      obtain ⟨H4, g1, g2, g3⟩ := put H3 s3 hnew
      have hp3 := s3 _ _ hp
      refine w_dput (w_var rfl (w_var rfl (w_op (w_var rfl (w_con (w_ixT (sqT hp3) rfl ?_))))))
      exact ⟨F, H4, rfl, g1, ⟨_, rfl⟩, g2, g3⟩
    walk_at "go"
    refine w_op (w_var rfl (w_con (w_ixT (sqT hp) rfl (w_var rfl ?_))))
    cases hv : valV (dkv kvs) (.inr e.nm) with
    | none =>
      refine ⟨F, none, rfl, .inl ⟨_, .inr e.nm, .inl hk, rfl, hv.symm⟩, ?_⟩
      walk_at "s"
      walk_at "s"
      walk_at "s"
      refine doput H2 (Same.refl _) fun d hd => ?_
      have := val_none hv
      exact absurd ((mk e.nm).mpr ⟨d, (bst_mem hd).1, (bst_mem hd).2⟩) this
    | some v =>
      refine ⟨F, some v, rfl, .inl ⟨_, .inr e.nm, .inl hk, rfl, hv.symm⟩, ?_⟩
      walk_at "go"
      obtain ⟨d, hd, fd⟩ := bk _ (val_some hv)
      refine w_dget (w_var rfl (w_op (w_var rfl (w_con (w_ixT (sqT hp) rfl ⟨F, v, rfl, .inl ⟨_, .inr e.nm, .inl hk, rfl, hv.symm⟩, ?_⟩)))))
      walk_at "go"
      refine ⟨.ref p, v, e, d, rfl, fe2, fd, fun H3 s3 => ?_⟩
      walk_at "go"
      refine if_b (fun hnw => ?_) (fun hnw => ?_)
      · refine doput H3 s3 fun d' hd' => ?_
        have hd : bst e.nm (es.take i) = some d := hd
        rw [hd] at hd'
        cases hd'
        exact hnw
      · walk_at "go"
        have hd : bst e.nm (es.take i) = some d := hd
        refine ⟨⟨_, rfl⟩, fun r o nr h => s3 _ _ (kp r o nr h), kvs, s3 _ _ hk, nd, by rw [et, List.length_append]; omega, fun n => ?_, fun kv hkv => ?_⟩
        · rw [mk, et, mem_snoc_nm]
          constructor
          · exact .inl
          · rintro (h | h)
            · exact h
            · obtain ⟨m1, m2⟩ := bst_mem hd
              exact ⟨d, m1, by rw [m2]; exact h⟩
        · obtain ⟨d', hd', fd'⟩ := bk kv hkv
          refine ⟨d', ?_, fd'.same s3⟩
          rw [et, bst_snoc]
          unfold one?
          by_cases e1 : e.nm = kv.1
          · rw [if_pos e1]
            rw [← e1] at hd' ⊢
            rw [hd] at hd'
            cases hd'
            rw [hd]
            show some (if newerP e d = true then e else d) = some d
            rw [hnw]; rfl
          · rw [if_neg e1, cmb_none]; exact hd'
  · rintro σ H2 ⟨⟨y3, rfl⟩, kp, kvs, hk, nd, lk, mk, bk⟩
    rw [lzs, List.take_of_length_le (Nat.le_refl _)] at lk mk bk
    have s02 : Same H H2 := fun p o h => kp p o (ne_of_none h hF) (s01 p o h)
    walk_at "go"
    refine ⟨F, kvs, rfl, hk, by omega, fun ns P pn sn hP => ?_⟩
    have lns : ns.length ≤ 40 := by
      have := pn.length_eq
      rw [List.length_map] at this
      omega
    have hk3 := keep (u := HO.lst (ns.map V.str)) hk hP
    have s23 : Same H2 (upd H2 P (.lst (ns.map V.str))) := same_new hP
    have hP3 : (upd H2 P (.lst (ns.map V.str))) P = some (.lst (ns.map V.str)) := upd_same
    generalize upd H2 P (.lst (ns.map V.str)) = H3 at *
    -- the entries by their names
    have pick : ∀ n, n ∈ ns → ∃ e v, valV (dkv kvs) (.inr n) = some v ∧ bst n es = some e ∧ Fz H2 v (entD e) := fun n hn => by
      obtain ⟨v, hv⟩ := val_in (pn.mem_iff.mp hn)
      obtain ⟨e, he, fe⟩ := bk _ (val_some hv)
      exact ⟨e, v, hv, he, fe⟩
    obtain ⟨R, eR, bR⟩ : ∃ R : List En, R.map (·.nm) = ns ∧ ∀ e ∈ R, bst e.nm es = some e := by
      have key : ∀ l : List Str, (∀ n ∈ l, n ∈ ns) → ∃ R : List En, R.map (·.nm) = l ∧ ∀ e ∈ R, bst e.nm es = some e := by
        intro l
        induction l with
        | nil => intro _; exact ⟨[], rfl, fun e he => by cases he⟩
        | cons n l ih =>
          intro h
          obtain ⟨R, e1, e2⟩ := ih fun m hm => h m (.tail _ hm)
          obtain ⟨e, v, _, hb, _⟩ := pick n (h n (.head _))
          have en := (bst_mem hb).2
          refine ⟨e :: R, by rw [List.map_cons, e1, en], fun d hd => ?_⟩
          rcases List.mem_cons.mp hd with z | z
          · rw [z, en]; exact hb
          · exact e2 d z
      exact key ns fun n hn => hn
    have lR : R.length = ns.length := by rw [← eR, List.length_map]
    refine ⟨P, rfl, ⟨_, sqL hP3⟩, fun D hD => lc_list (K := K) (xs := ns.map V.str) (Lf H3 D (R.map entD)) (Lf.start hD) (fun i H' _ m => sqL (m.1 _ _ hP3)) ?_ ?_⟩
    · rintro i x H4 hx m
      rw [List.getElem?_map] at hx
      cases hn : ns[i]? with
      | none => rw [hn] at hx; cases hx
      | some n =>
        rw [hn] at hx
        cases hx
        obtain ⟨e, v, hv, hb, fv⟩ := pick n (List.mem_of_getElem? hn)
        have hR : R[i]? = some e := by
          have h1 : (R.map (·.nm))[i]? = some n := by rw [eR]; exact hn
          rw [List.getElem?_map] at h1
          cases hr : R[i]? with
          | none => rw [hr] at h1; cases h1
          | some r =>
            rw [hr] at h1
            have h2 : r.nm = n := Option.some.inj h1
            have h3 := bR r (List.mem_of_getElem? hr)
            rw [h2, hb] at h3
            rw [Option.some.inj h3]
        walk_at "go"
        refine ⟨rfl, w_yes (if_t rfl ?_)⟩
        refine w_dget (w_var rfl (w_var rfl ⟨F, v, rfl, .inl ⟨_, .inr n, .inl (m.1 _ _ hk3), rfl, hv.symm⟩, ?_⟩))
        exact m.step (Same.refl _) (by rw [List.getElem?_map, hR]; rfl) ((fv.same s23).same m.1) (by rw [List.length_map]; omega)
    · rintro H4 m
      obtain ⟨vs4, h4, f4⟩ := m.full (by rw [List.length_map, List.length_map]; omega)
      walk_at "go"
      refine w_tupOfL (sqL h4) fun C hC => ?_
      refine q' C R _ (((s02.trans s23).trans m.1).trans (same_new hC)) ⟨vs4, upd_same, f4.same (same_new hC)⟩ ⟨by rw [eR]; exact sn, by rw [eR]; exact pn.nodup_iff.mpr nd, fun n => ?_, bR⟩
      rw [eR, pn.mem_iff, mk]

theorem Rl.same {H H' : Hp} {a : Addr} {es : List En} (h : Rl H a es) (s : Same H H') : Rl H' a es := by
  obtain ⟨xs, h, t⟩ := h
  exact ⟨xs, s _ _ h, t.same s⟩
theorem Rl.dr {H H' : Hp} {l a : Addr} {es : List En} (h : Rl H a es) (d : Dr l H H') : Rl H' a es := by
  obtain ⟨xs, h, t⟩ := h
  exact ⟨xs, d.tup h, t.dr d⟩
theorem Rl.put {H : Hp} {D a : Addr} {es : List En} {ys ws : List V} (h : Rl H a es) (hD : H D = some (.lst ys)) : Rl (upd H D (.lst ws)) a es := by
  obtain ⟨xs, h, t⟩ := h
  exact ⟨xs, keep_tup hD h, t.put hD⟩
theorem Rl.dp {K : PySem.W.Frag} {H : Hp} {a : Addr} {es : List En} (h : Rl H a es) : Dp K H (.ref a) (.tuple (es.map entD)) := by
  obtain ⟨xs, h, t⟩ := h
  exact .tup (SqT.of h) t.dp
abbrev flt (n : Str) (es : List En) : List En := es.filter fun e => decide (e.nm = n)
theorem bst_flt (n : Str) (es : List En) : bst n (flt n es) = bst n es := by
  induction es with
  | nil => rfl
  | cons e es ih =>
    by_cases h : e.nm = n
    · rw [show flt n (e :: es) = e :: flt n es from List.filter_cons_of_pos (by simpa using h), bst_cons, bst_cons, ih]
    · rw [show flt n (e :: es) = flt n es from List.filter_cons_of_neg (by simpa using h), ih, bst_cons]
      unfold one?
      rw [if_neg h]; rfl
theorem flt_one {n : Str} {es : List En} (nd : (es.map (·.nm)).Nodup) : (flt n es).length ≤ 1 := by
  induction es with
  | nil => exact Nat.zero_le _
  | cons e es ih =>
    rw [List.map_cons] at nd
    obtain ⟨n1, n2⟩ := List.nodup_cons.mp nd
    by_cases h : e.nm = n
    · rw [show flt n (e :: es) = e :: flt n es from List.filter_cons_of_pos (by simpa using h)]
      have : flt n es = [] := by
        rw [List.filter_eq_nil_iff]
        intro d hd hn
        have hn : d.nm = n := by simpa using hn
        exact n1 (List.mem_map.mpr ⟨d, hd, hn.trans h.symm⟩)
      rw [this]
      exact Nat.le_refl _
    · rw [show flt n (e :: es) = flt n es from List.filter_cons_of_neg (by simpa using h)]
      exact ih n2
theorem flt_nm {n : Str} {es : List En} {e : En} (h : e ∈ flt n es) : e.nm = n := by
  have := (List.mem_filter.mp h).2
  simpa using this
theorem p_l_due_len {K : PySem.W.Frag} {vs : List V} {H : Hp} {Q : VK} {E : XK} (h : spDue K vs H Q E) : vs.length = 2 := by
  obtain ⟨a, b, es, fs, rfl, _⟩ := h; rfl
theorem p_l_due {K : PySem.W.Frag} {vs : List V} {H : Hp} {Q : VK} {E : XK} (h : spDue K vs H Q E) : t_l_due K { nx := fun _ H' => Q .non H', rt := Q } (start N_l_due vs) H := by
  obtain ⟨a, b, es1, fs1, rfl, ⟨xs, hxs, fxs⟩, ⟨ys, hys, fys⟩, l40, nd1, nd2, q⟩ := h
  have lx := fxs.len
  have ly := fys.len
  rw [List.length_map] at lx ly
  have lzs : (xs ++ ys).length = (es1 ++ fs1).length := by rw [List.length_append, List.length_append]; omega
  have l40' : (es1 ++ fs1).length ≤ 40 := by rw [List.length_append]; exact l40
  have fall : FzAll H (xs ++ ys) ((es1 ++ fs1).map entD) := by
    rw [List.map_append]
    exact fxs.app fys
  have cat : ∀ {H1 : Hp} {Q1 : VK}, Same H H1 → (∀ p H', Same H1 H' → H' p = some (.tup (xs ++ ys)) → Q1 (.ref p) H') → rCatA K (.ref a) (.ref b) H1 Q1 := fun s1 k => w_catA (s1 _ _ hxs) (s1 _ _ hys) (by omega) k
  have two : ∀ n, (flt n (es1 ++ fs1)).length ≤ 2 := fun n => by
    have h1 := flt_one (n := n) nd1
    have h2 := flt_one (n := n) nd2
    show ((es1 ++ fs1).filter _).length ≤ 2
    rw [List.filter_append, List.length_append]
    exact Nat.add_le_add h1 h2
  clear fxs fys hxs hys nd1 nd2 lx ly l40
  generalize xs ++ ys = zs at *
  generalize es1 ++ fs1 = es at *
  unfold t_l_due
  walk_at "go"
  refine ⟨by show 0 ≤ sizeLine; decide, fun D hD => ?_⟩
  have sD : Same H (upd H D (.lst [])) := same_new hD
  have hD1 : (upd H D (.lst [])) D = some (.lst []) := upd_same
  generalize upd H D (.lst []) = H1 at *
  walk_at "go"
  refine w_sortSetS ?_
  walk_at "go"
  refine cat sD fun T H2 s2 hT => ⟨T, rfl, ⟨_, sqT hT⟩, fun N hN => lc_tup (K := K) (xs := zs) (fun i H' => Same H2 H' ∧ H' N = some (.lst (((es.take i).map (·.nm)).map V.str))) ⟨same_new hN, upd_same⟩ (fun i H' _ m => sqT (m.1 _ _ hT)) ?_ ?_⟩
  · rintro i x H3 hx ⟨s3, h3⟩
    obtain ⟨e, he, fe⟩ := ents_at (((fall.same sD).same s2).same s3) hx
    obtain ⟨p, c1, c2, rfl, hp⟩ := ent_at fe
    have li := (List.getElem?_eq_some_iff.mp he).1
    walk_at "go"
    refine ⟨rfl, w_yes (if_t rfl ?_)⟩
    walk_at "go"
    refine ⟨_, h3, by rw [List.length_map, List.length_map, List.length_take]; exact small1000 (by omega), fun b o e' => ?_, ?_⟩
    · rw [upd_ne (ne_of_none e' hN)]
      exact s3 _ _ e'
    · rw [upd_same, List.take_add_one, he, List.map_append, List.map_append]; rfl
  · rintro H3 ⟨s3, h3⟩
    rw [lzs, List.take_of_length_le (Nat.le_refl _)] at h3
    refine ⟨N, es.map (·.nm), rfl, sqL h3, by rw [List.length_map]; omega, fun ns P pn sn hP => ?_⟩
    have sP : Same H3 (upd H3 P (.lst (ns.map V.str))) := same_new hP
    have hP4 : (upd H3 P (.lst (ns.map V.str))) P = some (.lst (ns.map V.str)) := upd_same
    have s14 : Same H1 (upd H3 P (.lst (ns.map V.str))) := (s2.trans s3).trans sP
    generalize upd H3 P (.lst (ns.map V.str)) = H4 at *
    have hD4 := s14 _ _ hD1
    have nPD : P ≠ D := fun z => by
      rw [z] at hP
      have := (s2.trans s3) _ _ hD1
      rw [hP] at this
      cases this
    have lns : ns.length ≤ 40 := by
      have h1 := pn.length_eq
      have h2 := once_len (es.map (·.nm))
      rw [List.length_map] at h2
      omega
    refine ⟨P, rfl, ⟨_, sqL hP4⟩, for_list (K := K) (a := P) (xs := ns.map V.str) (fun i σ H' => (∃ y3 y4, σ = [some (.ref a), some (.ref b), some (.ref D), y3, y4, none]) ∧ (∀ p o, p ≠ D → H4 p = some o → H' p = some o) ∧ ∃ (vs : List V) (R : List En), H' D = some (.lst vs) ∧ FzAll H' vs (R.map entD) ∧ R.map (·.nm) = ns.take i ∧ ∀ e ∈ R, bst e.nm es = some e) ⟨⟨_, _, rfl⟩, fun p o _ h => h, [], [], hD4, .nil, rfl, fun e he => by cases he⟩ (fun i σ H' _ W => sqL (W.2.1 _ _ nPD hP4)) ?_ ?_⟩
    · rintro i x σ H5 hx ⟨⟨y3, y4, rfl⟩, kp, vs5, R, h5, f5, eR, bR⟩
      rw [List.getElem?_map] at hx
      cases hn : ns[i]? with
      | none => rw [hn] at hx; cases hx
      | some n =>
        rw [hn] at hx
        cases hx
        have s05 : Same H H5 := fun p o h => kp p o (ne_of_none h hD) (s14 _ _ (sD _ _ h))
        have inn : n ∈ es.map (·.nm) := mem_once.mp (pn.mem_iff.mp (List.mem_of_getElem? hn))
        have li := (List.getElem?_eq_some_iff.mp hn).1
        have lR : R.length ≤ 40 := by
          have := congrArg List.length eR
          rw [List.length_map, List.length_take] at this
          omega
        -- the end of a turn
        have fin : ∀ (H7 : Hp) (S : Addr) (y3 : Option V) (v : V) (vs7 : List V) (e : En), Same H5 H7 → H7 S = some (.lst (v :: vs7)) → Fz H7 v (entD e) → e.nm = n → bst n es = some e →
            (tDrop (tBM K "list" rAppend (tVar 2) (tCons (tOp (rIxL K) (tVar 4) (tC (.int 0))) tNil))) { nx := fun σ H' => (∃ y3 y4, σ = [some (.ref a), some (.ref b), some (.ref D), y3, y4, none]) ∧ (∀ p o, p ≠ D → H4 p = some o → H' p = some o) ∧ ∃ (vs : List V) (R : List En), H' D = some (.lst vs) ∧ FzAll H' vs (R.map entD) ∧ R.map (·.nm) = ns.take (i + 1) ∧ ∀ e ∈ R, bst e.nm es = some e, rt := Q } [some (.ref a), some (.ref b), some (.ref D), y3, some (.ref S), none] H7 := by
          intro H7 S y3 v vs7 e s7 hS fv en hb
          have h7 := s7 _ _ h5
          walk_at "go"
          have lv : vs5.length = R.length := by
            have := f5.len
            rw [List.length_map] at this
            exact this
          refine w_ixL (sqL hS) (v := v) (by exact atI_nat (show (v :: vs7)[0]? = some v from rfl)) ?_
          walk_at "go"
          refine w_append h7 (small1000 (by omega)) ?_
          refine ⟨⟨_, _, rfl⟩, fun p o np h => by rw [upd_ne np]; exact s7 _ _ (kp p o np h), vs5 ++ [v], R ++ [e], upd_same, ?_, ?_, fun d hd => ?_⟩
          · rw [List.map_append]
            exact ((f5.same s7).app (.cons fv .nil)).put h7
          · rw [List.map_append, eR, List.take_add_one, hn, List.map_cons, en]; rfl
          · rcases List.mem_append.mp hd with h | h
            · exact bR d h
            · rw [List.mem_singleton.mp h, en]; exact hb
        walk_at "go"
        refine cat s05 fun T' H6 s6 hT' => ⟨T', rfl, ⟨_, sqT hT'⟩, fun S hS => lc_tup (K := K) (xs := zs) (fun i H' => Same H6 H' ∧ ∃ vs, H' S = some (.lst vs) ∧ FzAll H' vs ((flt n (es.take i)).map entD)) ⟨same_new hS, [], upd_same, .nil⟩ (fun i H' _ m => sqT (m.1 _ _ hT')) ?_ ?_⟩
        · rintro j x H7 hx ⟨s7, vs7, h7, f7⟩
          obtain ⟨e, he, fe⟩ := ents_at (((fall.same s05).same s6).same s7) hx
          obtain ⟨p, c1, c2, rfl, hp⟩ := ent_at fe
          have lj := (List.getElem?_eq_some_iff.mp he).1
          have et : es.take (j + 1) = es.take j ++ [e] := by rw [List.take_add_one, he]; rfl
          have l7 : vs7.length ≤ 40 := by
            have h1 := f7.len
            rw [List.length_map] at h1
            have h2 := List.length_filter_le (fun e : En => decide (e.nm = n)) (es.take j)
            rw [List.length_take] at h2
            have h3 : (flt n (es.take j)).length ≤ min j es.length := h2
            omega
          walk_at "go"
          refine ⟨rfl, ?_⟩
          walk_at "go"
          have ecz : decide (V.str e.nm = V.str n) = decide (e.nm = n) := decide_eq_decide.mpr ⟨fun h => V.str.inj h, fun h => by rw [h]⟩
          rw [ecz]
          refine if_2 (fun hn' => ?_) (fun hn' => ?_)
          · walk_at "go"
            refine ⟨_, h7, small1000 (by omega), fun b o e' => ?_, vs7 ++ [.ref p], upd_same, ?_⟩
            · rw [upd_ne (ne_of_none e' hS)]
              exact s7 _ _ e'
            · rw [et, show flt n (es.take j ++ [e]) = flt n (es.take j) ++ [e] from by
                show List.filter _ _ = _
                rw [List.filter_append, List.filter_cons_of_pos (by simpa using hn')]; rfl, List.map_append]
              exact (f7.app (.cons fe .nil)).put h7
          · refine ⟨s7, vs7, h7, ?_⟩
            rw [et, show flt n (es.take j ++ [e]) = flt n (es.take j) from by
              show List.filter _ _ = _
              rw [List.filter_append, List.filter_cons_of_neg (by simpa using hn')]
              exact List.append_nil _]
            exact f7
        · rintro H7 ⟨s7, vs7, h7, f7⟩
          rw [lzs, List.take_of_length_le (Nat.le_refl _)] at f7
          have s57 := s6.trans s7
          have h2 := two n
          have hb := bst_flt n es
          have hne : flt n es ≠ [] := fun z => by
            obtain ⟨e, he, e2⟩ := List.mem_map.mp inn
            have : e ∈ flt n es := List.mem_filter.mpr ⟨he, by simpa using e2⟩
            rw [z] at this
            cases this
          have hnm : ∀ e ∈ flt n es, e.nm = n := fun e he => flt_nm he
          generalize flt n es = fl at *
          match fl, h2, hne, f7, hb, hnm with
          | [x], _, _, f7, hb, hnm =>
            cases f7 with
            | cons fx t =>
              cases t
              iterate 16 (walk_at "s")
              exact fin H7 S _ _ [] x s57 h7 fx (hnm x (.head _)) (by
                rw [← hb, ← hnm x (.head _), bst_cons, one_self]; rfl)
          | [x, y], _, _, f7, hb, hnm =>
            cases f7 with
            | cons fx t =>
              cases t with
              | cons fy t =>
                cases t
                have ex := hnm x (.head _)
                have ey := hnm y (.tail _ (.head _))
                have hbb : bst n es = some (if newerP y x = true then y else x) := by
                  rw [← hb, bst_cons, bst_cons]
                  unfold one?
                  rw [if_pos ex, if_pos ey]; rfl
                obtain ⟨px, c1, c2, rfl, hpx⟩ := ent_at fx
                obtain ⟨py, c3, c4, rfl, hpy⟩ := ent_at fy
                walk_at "go"
                refine w_slA hpy fun A1 H8 s8 hA1 => ?_
                have hA1 : H8 A1 = some (.tup [.int y.li, .int y.ve]) := hA1
                have h8 := s8 _ _ h7
                have hpx8 := s8 _ _ hpx
                walk_at "go"
                refine w_slA hpx8 fun A2 H9 s9 hA2 => ?_
                have hA2 : H9 A2 = some (.tup [.int x.li, .int x.ve]) := hA2
                have h9 := s9 _ _ h8
                have s59 := (s57.trans s8).trans s9
                refine w_gtT2 (s9 _ _ hA1) hA2 ?_
                walk_at "go"
                refine if_b (fun hnw => ?_) (fun hnw => ?_)
                · walk_at "go"
                  refine w_slL (sqL h9) fun S2 hS2 => ?_
                  have e1 : cutV [V.ref px, .ref py] (some 1) none = [.ref py] := rfl
                  rw [e1]
                  refine fin _ S2 _ (.ref py) [] y (s59.trans (same_new hS2)) upd_same (((fy.same s8).same s9).same (same_new hS2)) ey ?_
                  have hnw : newerP y x = true := hnw
                  rw [hbb, if_pos hnw]
                · walk_at "s"
                  walk_at "s"
                  refine fin _ S _ (.ref px) [.ref py] x s59 h9 ((fx.same s8).same s9) ex ?_
                  have hnw : newerP y x = false := hnw
                  rw [hbb, hnw]; rfl
    · rintro σ H5 ⟨⟨y3, y4, rfl⟩, kp, vs5, R, h5, f5, eR, bR⟩
      rw [List.length_map, List.take_of_length_le (Nat.le_refl _)] at eR
      have s05 : Same H H5 := fun p o h => kp p o (ne_of_none h hD) (s14 _ _ (sD _ _ h))
      walk_at "go"
      refine w_tupOfL (sqL h5) fun C hC => ?_
      refine q C R _ (s05.trans (same_new hC)) ⟨vs5, upd_same, f5.same (same_new hC)⟩ ⟨by rw [eR]; exact sn, by rw [eR]; exact pn.nodup_iff.mpr (once_own _), fun m => ?_, bR⟩
      rw [eR, pn.mem_iff, mem_once, List.mem_map]

-- names: 0:_law_script 1:_law_cell 2:_law_draw_here 3:_law_names_here 4:_law_plain 5:_law_many 6:_law_one_here 7:_law_other 8:_law_third 9:_law_found 10:_law_k
abbrev N_law : List Str := ["_law_script", "_law_cell", "_law_draw_here", "_law_names_here", "_law_plain", "_law_many", "_law_one_here", "_law_other", "_law_third", "_law_found", "_law_k"]
def t_law (K : PySem.W.Frag) : TS :=
  (tSeq (tFor (iList K (tOp rCat (tLst (tCons (tCall (spCellAt K) [] E0 (tCons (tVar 0) (tCons (tC (.int 0)) tNil))) tNil)) (tSl (rSlL K) (tVar 0) (tPart (tC (.int 1))) (tPart (tC (.int 20)))))) (gName 1) (tSeq (tAsg (tDisp (((tC (.str ("cell" : Str))), (tVar 1)) :: (((tC (.str ("at" : Str))), (tC (.int 0))) :: []))) (gName 2))
      (tSeq (tAsg (tCB (rSortedS K) (tCons (tCall spNames [] E0 (tCons (tVar 2) (tCons (tC (.int 8)) tNil))) tNil)) (gName 3))
      (tSeq (tAsg (tOp rEq (tCall spDraw [] E0 (tCons (tVar 2) (tCons (tC (.int 2)) tNil))) (tC (.int 0))) (gName 4))
      (tSeq (tAsg (tOp rAddI (tC (.int 1)) (tCall spDraw [] E0 (tCons (tVar 2) (tCons (tC (.int 3)) tNil)))) (gName 5))
      (tSeq (tAsg (tLc (iRng1 (tCons (tC (.int 3)) tNil)) (gName 10) tYes (tCall spRoll [] E0 (tCons (tVar 2) (tCons (tVar 3) (tCons (tVar 5) (tCons (tVar 4) tNil))))) [10]) (gUnl K 3 (gCons (gName 6) (gCons (gName 7) (gCons (gName 8) gNil)))))
      (tSeq (tAsg (tCall (spMerged K) [] E0 (tCons (tVar 6) (tCons (tVar 7) tNil))) (gName 9))
      (tSeq (tIfS (tOr (tNot (tB (tCB (rIsi K) (tCons (tVar 9) (tCons (tC (.ty "tuple")) tNil))))) (tOr (tTest (tOp (rNeD K) (tVar 9) (tCall (spDue K) [] E0 (tCons (tVar 6) (tCons (tVar 7) tNil))))) (tTest (tOp (rNeD K) (tCall (spMerged K) [] E0 (tCons (tVar 6) (tCons (tVar 7) tNil))) (tVar 9))))) (tRet (tC (.bl false))) tNext)
      (tSeq (tIfS (tOr (tTest (tOp (rNeD K) (tCall (spMerged K) [] E0 (tCons (tVar 6) (tCons (tVar 6) tNil))) (tVar 6))) (tOr (tTest (tOp (rNeD K) (tCall (spMerged K) [] E0 (tCons (tVar 6) (tCons (tTup tNil) tNil))) (tVar 6))) (tTest (tOp (rNeD K) (tCall (spMerged K) [] E0 (tCons (tTup tNil) (tCons (tVar 6) tNil))) (tVar 6))))) (tRet (tC (.bl false))) tNext)
      (tIfS (tAnd (tB (tVar 4)) (tTest (tOp (rNeD K) (tCall (spMerged K) [] E0 (tCons (tVar 9) (tCons (tVar 8) tNil))) (tCall (spMerged K) [] E0 (tCons (tVar 6) (tCons (tCall (spMerged K) [] E0 (tCons (tVar 7) (tCons (tVar 8) tNil))) tNil)))))) (tRet (tC (.bl false))) tNext))))))))))
    (tRet (tC (.bl true))))

theorem sub_len {l m : List Str} (hl : l.Nodup) (h : ∀ x ∈ l, x ∈ m) : l.length ≤ m.length := by
  induction l generalizing m with
  | nil => exact Nat.zero_le _
  | cons x l ih =>
    obtain ⟨n1, n2⟩ := List.nodup_cons.mp hl
    have hx := h x (.head _)
    have := ih n2 (m := m.erase x) fun y hy => (List.mem_erase_of_ne (fun e : y = x => n1 (e ▸ hy))).mpr (h y (.tail _ hy))
    rw [List.length_erase_of_mem hx] at this
    have : 0 < m.length := List.length_pos_of_mem hx
    rw [List.length_cons]
    omega

theorem src_new (c : Int) : mergeK [] [((Sum.inr ("cell" : Str) : Key), V.int c), (.inr ("at" : Str), .int 0)] = [(.inr ("cell" : Str), .int c), (.inr ("at" : Str), .int ((0 : Nat) : Int))] := by
  have h1 : ¬ ((Sum.inr ("cell" : Str) : Key) = .inr ("at" : Str)) := by decide +kernel
  show putK (putK ([] : List (Key × V)) (.inr ("cell" : Str)) (.int c)) (.inr ("at" : Str)) (.int 0) = _
  unfold putK
  simp [h1]
structure Rok (zs : List Str) (es : List En) : Prop where
  few : es.length ≤ 8
  sub : (es.map (·.nm)).Sublist zs
  gd : ∀ e ∈ es, goodE e
theorem Rok.nd {zs : List Str} {es : List En} (r : Rok zs es) (h : zs.Nodup) : (es.map (·.nm)).Nodup := h.sublist r.sub
theorem Rok.so {zs : List Str} {es : List En} (r : Rok zs es) (h : sortedS zs = true) : sortedS (es.map (·.nm)) = true := sorted_sub h r.sub
theorem gd_app {es fs : List En} (h : ∀ e ∈ es, goodE e) (k : ∀ e ∈ fs, goodE e) : ∀ e ∈ es ++ fs, goodE e := fun e he => by
  rcases List.mem_append.mp he with z | z
  · exact h e z
  · exact k e z
theorem Mg.few {es R : List En} (m : Mg es R) : R.length ≤ es.length := by
  have h := sub_len m.nd (m := es.map (·.nm)) fun n hn => by
    obtain ⟨e, he, e2⟩ := (m.mem n).mp hn
    exact List.mem_map.mpr ⟨e, he, e2⟩
  rw [List.length_map, List.length_map] at h
  exact h
theorem p_law_len {K : PySem.W.Frag} {vs : List V} {H : Hp} {Q : VK} {E : XK} (h : spLaw K vs H Q E) : vs.length = 1 := by
  obtain ⟨a, ns, rfl, _⟩ := h; rfl
theorem p_law {K : PySem.W.Frag} {vs : List V} {H : Hp} {Q : VK} {E : XK} (h : spLaw K vs H Q E) : t_law K { nx := fun _ H' => Q .non H', rt := Q } (start N_law vs) H := by
  obtain ⟨a, ns, rfl, hS, hlen, q⟩ := h
  unfold t_law
  refine w_seq (w_cells (fun σ => ∃ y1 y2 y3 y4 y5 y6 y7 y8 y9 y10, σ = [some (.ref a), y1, y2, y3, y4, y5, y6, y7, y8, y9, y10]) ⟨none, none, none, none, none, none, none, none, none, none, rfl⟩ rfl hS hlen ?_ ?_)
  · rintro z σ H1 N ⟨y1, y2, y3, y4, y5, y6, y7, y8, y9, y10, rfl⟩ _ hN
    walk_at "s"
    walk_at "s"
    intro l hl
    refine w_con (w_var rfl (w_con (w_con ⟨upd_same, [(.inr ("cell" : Str), .int z), (.inr ("at" : Str), .int 0)], rfl, (by show 2 ≤ 15; decide), ?_⟩)))
    rw [src_new]
    have s2 : Same H1 (upd (upd H1 l (.dK [])) l (srcD z 0)) := fun b o e => by
      have : b ≠ l := ne_of_none e hl
      rw [upd_ne this, upd_ne this]; exact e
    have c2 : Cn (upd (upd H1 l (.dK [])) l (srcD z 0)) l 0 := ⟨z, 0, upd_same, Nat.le_refl _⟩
    generalize upd (upd H1 l (.dK [])) l (srcD z 0) = H2 at *
    walk_at "go"
    refine ⟨l, 0, rfl, c2, by omega, fun S0 zs0 H3 k3 c3 hS0 _ _ lz0 nd0 tz0 => ?_⟩
    walk_at "go"
    refine ⟨S0, zs0, rfl, sqL hS0, by omega, fun zs N' pz sz hN' => ?_⟩
    have s4 : Same H3 (upd H3 N' (.lst (zs.map V.str))) := same_new hN'
    have hN4 : (upd H3 N' (.lst (zs.map V.str))) N' = some (.lst (zs.map V.str)) := upd_same
    generalize upd H3 N' (.lst (zs.map V.str)) = H4 at *
    have k4 := k3.trans (Dr.same k3.src s4)
    have c4 := c3.same s4
    have lz : zs.length ≤ 8 := by rw [pz.length_eq]; exact lz0
    have nd := pz.nodup_iff.mpr nd0
    have tz : ∀ w ∈ zs, isTx w := fun w hw => tz0 w (pz.mem_iff.mp hw)
    walk_at "go"
    refine ⟨l, 2, _, rfl, c4, by omega, by decide, fun d H5 _ _ k5 c5 => ?_⟩
    walk_at "go"
    generalize decide (V.int d = V.int 0) = plain
    refine ⟨l, 3, _, rfl, c5, by omega, by decide, fun m H6 m0 m1 k6 c6 => ?_⟩
    obtain ⟨m, rfl⟩ := Int.eq_ofNat_of_zero_le m0
    have em : (1 : Int) + (m : Int) = ((1 + m : Nat) : Int) := by omega
    have k26 := (k4.trans k5).trans k6
    have hN6 := k6.lst (k5.lst hN4)
    walk_at "go"
    rw [em]
    refine ⟨_, rfl, by decide, by decide, fun L hL => ?_⟩
    have nL := k6.src.ne_new hL
    refine lc_range (lo := 0) (n := 3) (fun i H' => Dr l H6 H' ∧ Cn H' l (290 + 104 * i) ∧ ∃ (vs : List V), H' L = some (.lst vs) ∧ vs.length = i ∧ ∀ v ∈ vs, ∃ s es, v = .ref s ∧ Rl H' s es ∧ Rok zs es) ⟨(Dr.refl k6.src).new hL, (c6.same (same_new hL)).mono (by omega), [], upd_same, rfl, fun v hv => by cases hv⟩ ?_ ?_
    · rintro i H7 hi ⟨k7, c7, vs7, h7, l7, p7⟩
      walk_at "go"
      refine ⟨rfl, w_yes (if_t rfl ?_)⟩
      walk_at "go"
      refine ⟨l, N', zs, 1 + m, plain, _, rfl, c7, by omega, k7.lst hN6, lz, tz, by omega, fun s es H8 k8 c8 rl8 le8 sb8 ge8 => ?_⟩
      have h8 := k8.lst h7
      refine ⟨_, h8, small1000 (by omega), (k7.trans k8).put hL nL, (c8.put nL).mono (by omega), vs7 ++ [.ref s], upd_same, by rw [List.length_append, l7]; rfl, fun v hv => ?_⟩
      rcases List.mem_append.mp hv with h | h
      · obtain ⟨s', es', e1, r1, r2⟩ := p7 v h
        exact ⟨s', es', e1, (r1.dr k8).put h8, r2⟩
      · rw [List.mem_singleton.mp h]
        exact ⟨s, es, rfl, rl8.put h8, ⟨le8, sb8, ge8⟩⟩
    · rintro H7 ⟨k7, c7, vs7, h7, l7, p7⟩
      have sm7 : Same H1 H7 := (k26.trans k7).same_of s2 hl
      match vs7, l7, h7, p7 with
      | [v1, v2, v3], _, h7, p7 =>
        obtain ⟨a1, es1, rfl, r1, o1⟩ := p7 v1 (.head _)
        obtain ⟨a2, es2, rfl, r2, o2⟩ := p7 v2 (.tail _ (.head _))
        obtain ⟨a3, es3, rfl, r3, o3⟩ := p7 v3 (.tail _ (.tail _ (.head _)))
        have f1 := o1.few
        have f2 := o2.few
        have f3 := o3.few
        have g12 := gd_app o1.gd o2.gd
        have g23 := gd_app o2.gd o3.gd
        walk_at "go"
        refine ⟨a1, a2, es1, es2, rfl, r1, r2, by omega, fun b1 F1 H8 s8 q1 m1 => ?_⟩
        have sh1 := roll_shaped (m1.good g12)
        have lF := m1.few
        rw [List.length_append] at lF
        obtain ⟨xb, hxb, fxb⟩ := id q1
        walk_at "go"
        refine ⟨a1, a2, es1, es2, rfl, r1.same s8, r2.same s8, by omega, o1.nd nd, o2.nd nd, fun b2 F2 H9 s9 q2 m2 => ?_⟩
        have e2 : F2 = F1 := m2.same m1 (fun _ => Iff.rfl) fun _ => rfl
        subst e2
        refine w_neD_same (q1.same s9).dp q2.dp sh1 ?_
        walk_at "go"
        have s79 := s8.trans s9
        refine ⟨a1, a2, es1, es2, rfl, r1.same s79, r2.same s79, by omega, fun b3 F3 H10 s10 q3 m3 => ?_⟩
        have e3 : F3 = F2 := m3.same m1 (fun _ => Iff.rfl) fun _ => rfl
        subst e3
        walk_at "go"
        refine w_neD_same q3.dp (q1.same (s9.trans s10)).dp sh1 ?_
        have s710 := s79.trans s10
        walk_at "go"
        refine ⟨a1, a1, es1, es1, rfl, r1.same s710, r1.same s710, by omega, fun b4 F4 H11 s11 q4 m4 => ?_⟩
        have e4 : F4 = es1 := mg_twice (o1.so sz) (o1.nd nd) m4
        subst e4
        have sh2 := roll_shaped o1.gd
        have s711 := s710.trans s11
        walk_at "go"
        refine w_neD_same q4.dp (r1.same s711).dp sh2 ?_
        walk_at "go"
        refine ⟨by show 0 ≤ sizeLine; decide, fun U1 u1 => ?_⟩
        have s12 := s711.trans (same_new (u := HO.tup []) u1)
        refine ⟨a1, U1, F4, [], rfl, r1.same s12, ⟨[], upd_same, .nil⟩, by show F4.length + 0 ≤ 40; omega, fun b5 F5 H13 s13 q5 m5 => ?_⟩
        rw [List.append_nil] at m5
        have e5 : F5 = F4 := mg_alone (o1.so sz) (o1.nd nd) m5
        subst e5
        have s713 := s12.trans s13
        walk_at "go"
        refine w_neD_same q5.dp (r1.same s713).dp sh2 ?_
        walk_at "go"
        refine ⟨by show 0 ≤ sizeLine; decide, fun U2 u2 => ?_⟩
        have s14 := s713.trans (same_new (u := HO.tup []) u2)
        walk_at "go"
        refine ⟨U2, a1, [], F5, rfl, ⟨[], upd_same, .nil⟩, r1.same s14, by show 0 + F5.length ≤ 40; omega, fun b6 F6 H15 s15 q6 m6 => ?_⟩
        rw [List.nil_append] at m6
        have e6 : F6 = F5 := mg_alone (o1.so sz) (o1.nd nd) m6
        subst e6
        have s715 := s14.trans s15
        walk_at "go"
        refine w_neD_same q6.dp (r1.same s715).dp sh2 ?_
        walk_at "go"
        refine if_b (fun hp => ?_) (fun hp => ?_)
        · have s815 : Same H8 H15 := ((((((s9.trans s10).trans s11).trans (same_new u1)).trans s13).trans (same_new u2)).trans s15)
          walk_at "go"
          refine ⟨b1, a3, F3, es3, rfl, q1.same s815, r3.same s715, by omega, fun b7 F7 H16 s16 q7 m7 => ?_⟩
          have s716 := s715.trans s16
          walk_at "go"
          refine ⟨a2, a3, es2, es3, rfl, r2.same s716, r3.same s716, by omega, fun b8 F8 H17 s17 q8 m8 => ?_⟩
          have s717 := s716.trans s17
          have lG := m8.few
          rw [List.length_append] at lG
          walk_at "go"
          refine ⟨a1, b8, F6, F8, rfl, r1.same s717, q8, by omega, fun b9 F9 H18 s18 q9 m9 => ?_⟩
          have e9 : F7 = F9 := mg_assoc m1 m8 m7 m9
          subst e9
          refine w_neD_same (q7.same (s17.trans s18)).dp q9.dp (roll_shaped (m7.good (gd_app (m1.good g12) o3.gd))) ?_
          walk_at "go"
          exact hN _ _ ⟨_, _, _, _, _, _, _, _, _, _, rfl⟩ ((sm7.trans s717).trans s18)
        · walk_at "go"
          exact hN _ _ ⟨_, _, _, _, _, _, _, _, _, _, rfl⟩ (sm7.trans s715)
  · rintro σ H1 ⟨y1, y2, y3, y4, y5, y6, y7, y8, y9, y10, rfl⟩ _
    walk_at "go"
    exact q _

def top (i : Nat) : Stmt := PySem.Challenge.pw_sumtold_k31_rolls_merged.main.body.getD i (.Pass ⟨0, 0, 0, 0⟩)
structure Bl (mg : Str → Option Value) : Prop where
  b_int : mg "int" = none
  b_isinstance : mg "isinstance" = none
  b_len : mg "len" = none
  b_range : mg "range" = none
  b_set : mg "set" = none
  b_sorted : mg "sorted" = none
  b_tuple : mg "tuple" = none
section
variable {P : Program} {w : World} {K : PySem.W.Frag} {mg : Str → Option Value} {base : Heap}
abbrev s_newer : Stmt := top 1
theorem sc_newer : FnScope N_newer ["one", "other"] (defScope s_newer) := ⟨rfl, rfl, rfl, by decide +kernel, rfl, by decide +kernel, by decide +kernel⟩
theorem ok_newer (F : ∃ fd, FnP K "newer" s_newer (He.ga K "newer") fd) (gm : mg "newer" = some (.ref (He.ga K "newer"))) (B : Bl mg)  : Has P w K mg base "newer" 1 ["one", "other"] spNewer := by
  obtain ⟨fd, F⟩ := F
  refine ⟨_, fd, gm, F.kp, FunD.bindsN (ps := ["one", "other"]) F fun _ _ _ _ _ _ us hl => match us, hl with | [_, _], _ => rfl, F.ok sc_newer (fun vs H Q E h => p_newer_len h) (fun cdv A outer s H vs Q E hr h => ⟨t_newer K, PSs.nox ?_, p_newer h⟩)⟩
  have hu := hu_of hr
  exact (pss_one (ps_ret (pe_cmpR (op_gtT2 (Nat.lt_of_le_of_lt (Nat.le_add_right _ 64) hr.units)) (pe_tup (pa_cons (pe_ix ix_tup (pv 0) pe_int (fun _ _ => rfl)) (pa_cons (pe_ix ix_tup (pv 0) pe_int (fun _ _ => rfl)) pa_nil))) (pe_tup (pa_cons (pe_ix ix_tup (pv 1) pe_int (fun _ _ => rfl)) (pa_cons (pe_ix ix_tup (pv 1) pe_int (fun _ _ => rfl)) pa_nil))) (nomark _))))

abbrev s_merged : Stmt := top 2
theorem sc_merged : FnScope N_merged ["roll", "other"] (defScope s_merged) := ⟨rfl, rfl, rfl, by decide +kernel, rfl, by decide +kernel, by decide +kernel⟩
theorem ok_merged (F : ∃ fd, FnP K "merged" s_merged (He.ga K "merged") fd) (gm : mg "merged" = some (.ref (He.ga K "merged"))) (B : Bl mg) (h_newer : Has P w K mg base "newer" 1 ["one", "other"] spNewer) : Has P w K mg base "merged" 2 ["roll", "other"] (spMerged K) := by
  obtain ⟨fd, F⟩ := F
  refine ⟨_, fd, gm, F.kp, FunD.bindsN (ps := ["roll", "other"]) F fun _ _ _ _ _ _ us hl => match us, hl with | [_, _], _ => rfl, F.ok sc_merged (fun vs H Q E h => p_merged_len h) (fun cdv A outer s H vs Q E hr h => ⟨t_merged K, PSs.nox ?_, p_merged h⟩)⟩
  have hu := hu_of hr
  exact (pss_cons (ps_set (i := 2) sc_merged.nd rfl (Or.inr rfl) pe_dnewK)
    (pss_cons (ps_for PassesOwn.never rfl (pi_tup (pe_op op_catA (pv 0) (pv 1))) (pg_name (i := 3) sc_merged.nd rfl (Or.inl rfl)) (pss_one (ps_if (PW.pt (pw_or (pt_cmp (pc_dnotin hu (pe_ix ix_tup (pv 3) pe_int (fun _ _ => rfl)) (pv 2)) rfl) (pw_or1 (pt_val (pe_has h_newer (hr.mono (by decide)) (by rfl) (pa_cons (pv 3) (pa_cons (pe_dget hu (pv 2) (pe_ix ix_tup (pv 3) pe_int (fun _ _ => rfl)) (fun _ _ => rfl)) pa_nil))))))) (pss_one (ps_dput hu (pv 2) (pe_ix ix_tup (pv 3) pe_int (fun _ _ => rfl)) (pv 3) rfl)) pss_nil)))
    (pss_one (ps_ret (pe_callTy call_tuple_of (by rfl) B.b_tuple (by decide +kernel) (pa_cons (pe_lc (own := [("name", 4)]) (g := (gName 4)) (tt := tYes) (te := (tDGet (tVar 2) (tVar 4))) (wi := (iList K (tCB rSortedDS (tCons (tVar 2) tNil)))) rfl sc_merged.nd (pi_list (pe_callB (cr_sortedDS rfl) (by rfl) B.b_sorted (by decide +kernel) (pa_cons (pv 2) pa_nil))) (blkOk_by (own := [("name", 4)]) (N := N_merged) (sc := defScope s_merged) (by decide +kernel)) (fun _ _ _ _ _ => (pg_name (i := 4) sc_merged.nd rfl (Or.inl rfl))) (fun _ _ _ _ _ => pts_nil) (fun _ _ _ _ _ => (pe_dget hu (pv 2) (pv 4) (fun _ _ => rfl)))) pa_nil))))))

abbrev s_l_cell_at : Stmt := top 4
theorem sc_l_cell_at : FnScope N_l_cell_at ["_law_script", "_law_k"] (defScope s_l_cell_at) := ⟨rfl, rfl, rfl, by decide +kernel, rfl, by decide +kernel, by decide +kernel⟩
theorem ok_l_cell_at (F : ∃ fd, FnP K "_law_cell_at" s_l_cell_at (He.ga K "_law_cell_at") fd) (gm : mg "_law_cell_at" = some (.ref (He.ga K "_law_cell_at"))) (B : Bl mg)  : Has P w K mg base "_law_cell_at" 1 ["_law_script", "_law_k"] (spCellAt K) := by
  obtain ⟨fd, F⟩ := F
  refine ⟨_, fd, gm, F.kp, FunD.bindsN (ps := ["_law_script", "_law_k"]) F fun _ _ _ _ _ _ us hl => match us, hl with | [_, _], _ => rfl, F.ok sc_l_cell_at (fun vs H Q E h => p_l_cell_at_len h) (fun cdv A outer s H vs Q E hr h => ⟨t_l_cell_at K, PSs.nox ?_, p_l_cell_at h⟩)⟩
  have hu := hu_of hr
  exact (pss_cons (ps_if (pt_cmpR op_lt (pv 1) (pe_callB call_len_seq (by rfl) B.b_len (by decide +kernel) (pa_cons (pv 0) pa_nil)) (nomark _)) (pss_one (ps_ret (pe_ix ix_list (pv 0) (pv 1) (fun _ _ => rfl)))) pss_nil)
    (pss_one (ps_ret pe_int)))

abbrev s_l_mixed : Stmt := top 5
theorem sc_l_mixed : FnScope N_l_mixed ["_law_cell", "_law_k"] (defScope s_l_mixed) := ⟨rfl, rfl, rfl, by decide +kernel, rfl, by decide +kernel, by decide +kernel⟩
theorem ok_l_mixed (F : ∃ fd, FnP K "_law_mixed" s_l_mixed (He.ga K "_law_mixed") fd) (gm : mg "_law_mixed" = some (.ref (He.ga K "_law_mixed"))) (B : Bl mg)  : Has P w K mg base "_law_mixed" 1 ["_law_cell", "_law_k"] spMixed := by
  obtain ⟨fd, F⟩ := F
  refine ⟨_, fd, gm, F.kp, FunD.bindsN (ps := ["_law_cell", "_law_k"]) F fun _ _ _ _ _ _ us hl => match us, hl with | [_, _], _ => rfl, F.ok sc_l_mixed (fun vs H Q E h => p_l_mixed_len h) (fun cdv A outer s H vs Q E hr h => ⟨t_l_mixed K, PSs.nox ?_, p_l_mixed h⟩)⟩
  have hu := hu_of hr
  exact (pss_cons (ps_if (PW.pt (pw_and (pt_cmpR op_ge (pv 0) (pe_op op_shlW pe_int pe_int) (nomark _)) (pw_and (pt_cmpR op_eq (pe_op op_mod (pv 0) pe_int) pe_int (nomark _)) (pw_and1 (pt_cmpR op_gt (pe_op op_shr (pv 0) (pe_op op_add pe_int (pe_op op_mul pe_int (pv 1)))) pe_int (nomark _)))))) (pss_one (ps_ret (pe_op op_mod (pe_op op_shr (pv 0) (pe_op op_add pe_int (pe_op op_mul pe_int (pv 1)))) pe_int))) pss_nil)
    (pss_cons (ps_set (i := 2) sc_l_mixed.nd rfl (Or.inl rfl) (pe_op op_mod (pe_op op_mul (pe_op op_add (pe_op op_add (pe_op op_mod (pv 0) pe_int) (pe_op op_mul pe_int (pv 1))) pe_int) pe_int) pe_int))
    (pss_cons (ps_set (i := 2) sc_l_mixed.nd rfl (Or.inl rfl) (pe_op op_mod (pe_op op_mulX (pv 2) (pe_op op_add (pe_op op_fdivW (pv 2) pe_int) pe_int)) pe_int))
    (pss_one (ps_ret (pe_op op_mod (pe_op op_mulX (pv 2) (pe_op op_add (pe_op op_add (pe_op op_fdivW (pv 2) pe_int) pe_int) (pv 1))) pe_int))))))

abbrev s_l_draw : Stmt := top 6
theorem sc_l_draw : FnScope N_l_draw ["_law_draw_here", "_law_many"] (defScope s_l_draw) := ⟨rfl, rfl, rfl, by decide +kernel, rfl, by decide +kernel, by decide +kernel⟩
theorem ok_l_draw (F : ∃ fd, FnP K "_law_draw" s_l_draw (He.ga K "_law_draw") fd) (gm : mg "_law_draw" = some (.ref (He.ga K "_law_draw"))) (B : Bl mg) (h_l_mixed : Has P w K mg base "_law_mixed" 1 ["_law_cell", "_law_k"] spMixed) : Has P w K mg base "_law_draw" 2 ["_law_draw_here", "_law_many"] spDraw := by
  obtain ⟨fd, F⟩ := F
  refine ⟨_, fd, gm, F.kp, FunD.bindsN (ps := ["_law_draw_here", "_law_many"]) F fun _ _ _ _ _ _ us hl => match us, hl with | [_, _], _ => rfl, F.ok sc_l_draw (fun vs H Q E h => p_l_draw_len h) (fun cdv A outer s H vs Q E hr h => ⟨t_l_draw K, PSs.nox ?_, p_l_draw h⟩)⟩
  have hu := hu_of hr
  exact (pss_cons (ps_dput hu (pv 0) pe_str (pe_op op_add (pe_dget hu (pv 0) pe_str (fun _ _ => rfl)) pe_int) rfl)
    (pss_one (ps_ret (pe_op op_mod (pe_op op_fdivW (pe_has h_l_mixed (hr.mono (by decide)) (by rfl) (pa_cons (pe_dget hu (pv 0) pe_str (fun _ _ => rfl)) (pa_cons (pe_dget hu (pv 0) pe_str (fun _ _ => rfl)) pa_nil))) pe_int) (pv 1)))))

abbrev s_l_one : Stmt := top 7
theorem sc_l_one : FnScope N_l_one ["_law_draw_here", "_law_some"] (defScope s_l_one) := ⟨rfl, rfl, rfl, by decide +kernel, rfl, by decide +kernel, by decide +kernel⟩
theorem ok_l_one (F : ∃ fd, FnP K "_law_one" s_l_one (He.ga K "_law_one") fd) (gm : mg "_law_one" = some (.ref (He.ga K "_law_one"))) (B : Bl mg) (h_l_draw : Has P w K mg base "_law_draw" 2 ["_law_draw_here", "_law_many"] spDraw) : Has P w K mg base "_law_one" 3 ["_law_draw_here", "_law_some"] spPick := by
  obtain ⟨fd, F⟩ := F
  refine ⟨_, fd, gm, F.kp, FunD.bindsN (ps := ["_law_draw_here", "_law_some"]) F fun _ _ _ _ _ _ us hl => match us, hl with | [_, _], _ => rfl, F.ok sc_l_one (fun vs H Q E h => p_l_one_len h) (fun cdv A outer s H vs Q E hr h => ⟨t_l_one K, PSs.nox ?_, p_l_one h⟩)⟩
  have hu := hu_of hr
  exact (pss_one (ps_ret (pe_ix ix_list (pv 1) (pe_has h_l_draw (hr.mono (by decide)) (by rfl) (pa_cons (pv 0) (pa_cons (pe_callB call_len_seq (by rfl) B.b_len (by decide +kernel) (pa_cons (pv 1) pa_nil)) pa_nil))) (fun _ _ => rfl))))

abbrev s_l_name : Stmt := top 8
theorem sc_l_name : FnScope N_l_name ["_law_draw_here"] (defScope s_l_name) := ⟨rfl, rfl, rfl, by decide +kernel, rfl, by decide +kernel, by decide +kernel⟩
theorem ok_l_name (F : ∃ fd, FnP K "_law_name" s_l_name (He.ga K "_law_name") fd) (gm : mg "_law_name" = some (.ref (He.ga K "_law_name"))) (B : Bl mg) (h_l_draw : Has P w K mg base "_law_draw" 2 ["_law_draw_here", "_law_many"] spDraw) : Has P w K mg base "_law_name" 3 ["_law_draw_here"] spName := by
  obtain ⟨fd, F⟩ := F
  refine ⟨_, fd, gm, F.kp, FunD.bindsN (ps := ["_law_draw_here"]) F fun _ _ _ _ _ _ us hl => match us, hl with | [_], _ => rfl, F.ok sc_l_name (fun vs H Q E h => p_l_name_len h) (fun cdv A outer s H vs Q E hr h => ⟨t_l_name K, PSs.nox ?_, p_l_name h⟩)⟩
  have hu := hu_of hr
  exact (pss_cons (ps_set (i := 1) sc_l_name.nd rfl (Or.inl rfl) pe_str)
    (pss_cons (ps_set (i := 2) sc_l_name.nd rfl (Or.inl rfl) pe_str)
    (pss_cons (ps_for PassesOwn.never rfl (pi_range1 (by rfl) B.b_range (pa_cons (pe_op op_add pe_int (pe_has h_l_draw (hr.mono (by decide)) (by rfl) (pa_cons (pv 0) (pa_cons pe_int pa_nil)))) pa_nil)) (pg_name (i := 3) sc_l_name.nd rfl (Or.inl rfl)) (pss_one (ps_set (i := 2) sc_l_name.nd rfl (Or.inl rfl) (pe_op op_add_str (pv 2) (pe_ix ix_str (pv 1) (pe_has h_l_draw (hr.mono (by decide)) (by rfl) (pa_cons (pv 0) (pa_cons pe_int pa_nil))) (fun _ _ => rfl))))))
    (pss_one (ps_ret (pv 2))))))

abbrev s_l_names : Stmt := top 9
theorem sc_l_names : FnScope N_l_names ["_law_draw_here", "_law_many"] (defScope s_l_names) := ⟨rfl, rfl, rfl, by decide +kernel, rfl, by decide +kernel, by decide +kernel⟩
theorem ok_l_names (F : ∃ fd, FnP K "_law_names" s_l_names (He.ga K "_law_names") fd) (gm : mg "_law_names" = some (.ref (He.ga K "_law_names"))) (B : Bl mg) (h_l_name : Has P w K mg base "_law_name" 3 ["_law_draw_here"] spName) : Has P w K mg base "_law_names" 4 ["_law_draw_here", "_law_many"] spNames := by
  obtain ⟨fd, F⟩ := F
  refine ⟨_, fd, gm, F.kp, FunD.bindsN (ps := ["_law_draw_here", "_law_many"]) F fun _ _ _ _ _ _ us hl => match us, hl with | [_, _], _ => rfl, F.ok sc_l_names (fun vs H Q E h => p_l_names_len h) (fun cdv A outer s H vs Q E hr h => ⟨t_l_names K, PSs.nox ?_, p_l_names h⟩)⟩
  have hu := hu_of hr
  exact (pss_cons (ps_set (i := 2) sc_l_names.nd rfl (Or.inr rfl) (pe_lst pa_nil))
    (pss_cons (ps_for PassesOwn.never rfl (pi_range1 (by rfl) B.b_range (pa_cons (pe_op op_mul pe_int (pv 1)) pa_nil)) (pg_name (i := 3) sc_l_names.nd rfl (Or.inl rfl)) (pss_cons (ps_set (i := 4) sc_l_names.nd rfl (Or.inl rfl) (pe_has h_l_name (hr.mono (by decide)) (by rfl) (pa_cons (pv 0) pa_nil)))
      (pss_one (ps_if (pt_cmpR op_notIn_seq (pv 4) (pv 2) (by rfl)) (pss_one (ps_expr (pe_bm PySem.F.plainAttrs_list PySem.F.slot_list_append PySem.F.type_list_append mt_append (pv 2) (pa_cons (pv 4) pa_nil)))) pss_nil))))
    (pss_one (ps_ret (pe_slice sl_list (pe_op op_cat (pv 2) (pe_lc (own := [("_law_letter", 5)]) (g := (gName 5)) (tt := (tTest (tOp (rIn K true) (tOp rAddStr (tC (.str ("zz" : Str))) (tVar 5)) (tVar 2)))) (te := (tOp rAddStr (tC (.str ("zz" : Str))) (tVar 5))) (wi := (iStr (tC (.str ("abcdefgh" : Str))))) rfl sc_l_names.nd (pi_str pe_str) (blkOk_by (own := [("_law_letter", 5)]) (N := N_l_names) (sc := defScope s_l_names) (by decide +kernel)) (fun _ _ _ _ _ => (pg_name (i := 5) sc_l_names.nd rfl (Or.inl rfl))) (fun _ _ _ _ _ => (pts_one (pt_cmpR op_notIn_seq (pe_op op_add_str pe_str (pv 5)) (pv 2) (by rfl)))) (fun _ _ _ _ _ => (pe_op op_add_str pe_str (pv 5))))) po_none (po_some (pv 1)))))))

abbrev s_l_number : Stmt := top 10
theorem sc_l_number : FnScope N_l_number ["_law_draw_here"] (defScope s_l_number) := ⟨rfl, rfl, rfl, by decide +kernel, rfl, by decide +kernel, by decide +kernel⟩
theorem ok_l_number (F : ∃ fd, FnP K "_law_number" s_l_number (He.ga K "_law_number") fd) (gm : mg "_law_number" = some (.ref (He.ga K "_law_number"))) (B : Bl mg) (h_l_draw : Has P w K mg base "_law_draw" 2 ["_law_draw_here", "_law_many"] spDraw) (h_l_one : Has P w K mg base "_law_one" 3 ["_law_draw_here", "_law_some"] spPick) : Has P w K mg base "_law_number" 4 ["_law_draw_here"] spNumber := by
  obtain ⟨fd, F⟩ := F
  refine ⟨_, fd, gm, F.kp, FunD.bindsN (ps := ["_law_draw_here"]) F fun _ _ _ _ _ _ us hl => match us, hl with | [_], _ => rfl, F.ok sc_l_number (fun vs H Q E h => p_l_number_len h) (fun cdv A outer s H vs Q E hr h => ⟨t_l_number K, PSs.nox ?_, p_l_number h⟩)⟩
  have hu := hu_of hr
  exact (pss_cons (ps_set (i := 1) sc_l_number.nd rfl (Or.inl rfl) (pe_has h_l_draw (hr.mono (by decide)) (by rfl) (pa_cons (pv 0) (pa_cons pe_int pa_nil))))
    (pss_cons (ps_if (pt_cmpR op_eq (pv 1) pe_int (nomark _)) (pss_one (ps_ret (pe_has h_l_one (hr.mono (by decide)) (by rfl) (pa_cons (pv 0) (pa_cons (pe_lst (pa_cons pe_int (pa_cons pe_int (pa_cons (pe_un un_neg pe_int) (pa_cons (pe_op op_pow pe_int pe_int) (pa_cons (pe_un un_neg (pe_op op_pow pe_int pe_int)) pa_nil)))))) pa_nil))))) pss_nil)
    (pss_cons (ps_set (i := 2) sc_l_number.nd rfl (Or.inl rfl) (pe_ix ix_list (pe_lst (pa_cons pe_int (pa_cons pe_int (pa_cons (pe_op op_mul pe_int (pe_op op_pow pe_int pe_int)) pa_nil)))) (pe_op op_sub (pv 1) pe_int) (fun _ _ => rfl)))
    (pss_one (ps_ret (pe_op op_sub (pe_has h_l_draw (hr.mono (by decide)) (by rfl) (pa_cons (pv 0) (pa_cons (pv 2) pa_nil))) (pe_op op_mulX (pe_has h_l_draw (hr.mono (by decide)) (by rfl) (pa_cons (pv 0) (pa_cons pe_int pa_nil))) (pe_op op_fdivW (pv 2) pe_int))))))))

abbrev s_l_roll : Stmt := top 11
theorem sc_l_roll : FnScope N_l_roll ["_law_draw_here", "_law_names_here", "_law_many", "_law_plain"] (defScope s_l_roll) := ⟨rfl, rfl, rfl, by decide +kernel, rfl, by decide +kernel, by decide +kernel⟩
theorem ok_l_roll (F : ∃ fd, FnP K "_law_roll" s_l_roll (He.ga K "_law_roll") fd) (gm : mg "_law_roll" = some (.ref (He.ga K "_law_roll"))) (B : Bl mg) (h_l_draw : Has P w K mg base "_law_draw" 2 ["_law_draw_here", "_law_many"] spDraw) (h_l_number : Has P w K mg base "_law_number" 4 ["_law_draw_here"] spNumber) : Has P w K mg base "_law_roll" 5 ["_law_draw_here", "_law_names_here", "_law_many", "_law_plain"] spRoll := by
  obtain ⟨fd, F⟩ := F
  refine ⟨_, fd, gm, F.kp, FunD.bindsN (ps := ["_law_draw_here", "_law_names_here", "_law_many", "_law_plain"]) F fun _ _ _ _ _ _ us hl => match us, hl with | [_, _, _, _], _ => rfl, F.ok sc_l_roll (fun vs H Q E h => p_l_roll_len h) (fun cdv A outer s H vs Q E hr h => ⟨t_l_roll K, PSs.nox ?_, p_l_roll h⟩)⟩
  have hu := hu_of hr
  exact (pss_cons (ps_set (i := 4) sc_l_roll.nd rfl (Or.inl rfl) (pe_lst pa_nil))
    (pss_cons (ps_for PassesOwn.never rfl (pi_list (pv 1)) (pg_name (i := 5) sc_l_roll.nd rfl (Or.inr rfl)) (pss_one (ps_if (PW.pt (pw_and (pt_cmpR op_gt (pe_has h_l_draw (hr.mono (by decide)) (by rfl) (pa_cons (pv 0) (pa_cons pe_int pa_nil))) pe_int (nomark _)) (pw_and1 (pt_cmpR op_lt (pe_callB call_len_seq (by rfl) B.b_len (by decide +kernel) (pa_cons (pv 4) pa_nil)) pe_int (nomark _))))) (pss_cons (ps_set (i := 6) sc_l_roll.nd rfl (Or.inl rfl) (pe_ix ix_list (pe_lst (pa_cons pe_int (pa_cons pe_int pa_nil))) (pe_callTy call_int1 (by rfl) B.b_int (by decide +kernel) (pa_cons (pe_cmpR op_eq (pe_has h_l_draw (hr.mono (by decide)) (by rfl) (pa_cons (pv 0) (pa_cons pe_int pa_nil))) pe_int (nomark _)) pa_nil)) (fun _ _ => rfl)))
        (pss_cons (ps_asg (pe_tup (pa_cons (pe_op op_add pe_int (pe_has h_l_draw (hr.mono (by decide)) (by rfl) (pa_cons (pv 0) (pa_cons (pv 6) pa_nil)))) (pa_cons (pe_op op_add pe_int (pe_has h_l_draw (hr.mono (by decide)) (by rfl) (pa_cons (pv 0) (pa_cons (pv 6) pa_nil)))) pa_nil))) (pg_tup rfl (pgs_cons (pg_name (i := 7) sc_l_roll.nd rfl (Or.inr rfl)) (pgs_cons (pg_name (i := 8) sc_l_roll.nd rfl (Or.inr rfl)) pgs_nil))))
        (pss_cons (ps_set (i := 9) sc_l_roll.nd rfl (Or.inl rfl) (pe_callTy call_tuple_of (by rfl) B.b_tuple (by decide +kernel) (pa_cons (pe_lc (own := [("_law_k", 11)]) (g := (gName 11)) (tt := tYes) (te := (tOp rAddI (tOp rAddI (tOp rMulI (tVar 7) (tC (.int 1000))) (tVar 8)) (tVar 11))) (wi := (iRng1 (tCons (tVar 2) tNil))) rfl sc_l_roll.nd (pi_range1 (by rfl) B.b_range (pa_cons (pv 2) pa_nil)) (blkOk_by (own := [("_law_k", 11)]) (N := N_l_roll) (sc := defScope s_l_roll) (by decide +kernel)) (fun _ _ _ _ _ => (pg_name (i := 11) sc_l_roll.nd rfl (Or.inl rfl))) (fun _ _ _ _ _ => pts_nil) (fun _ _ _ _ _ => (pe_op op_add (pe_op op_add (pe_op op_mul (pv 7) pe_int) (pv 8)) (pv 11)))) pa_nil)))
        (pss_cons (ps_if (pt_not (pt_val (pv 3))) (pss_one (ps_set (i := 9) sc_l_roll.nd rfl (Or.inl rfl) (pe_callTy call_tuple_of (by rfl) B.b_tuple (by decide +kernel) (pa_cons (pe_lc (own := [("_law_k", 11)]) (g := (gName 11)) (tt := tYes) (te := (tCall spNumber [] E0 (tCons (tVar 0) tNil))) (wi := (iRng1 (tCons (tVar 2) tNil))) rfl sc_l_roll.nd (pi_range1 (by rfl) B.b_range (pa_cons (pv 2) pa_nil)) (blkOk_by (own := [("_law_k", 11)]) (N := N_l_roll) (sc := defScope s_l_roll) (by decide +kernel)) (fun _ _ _ _ _ => (pg_name (i := 11) sc_l_roll.nd rfl (Or.inl rfl))) (fun _ _ _ _ _ => pts_nil) (fun _ _ _ _ _ => (pe_has h_l_number (hr.mono (by decide)) (by rfl) (pa_cons (pv 0) pa_nil)))) pa_nil)))) pss_nil)
        (pss_cons (ps_set (i := 10) sc_l_roll.nd rfl (Or.inl rfl) (pe_callTy call_tuple_of (by rfl) B.b_tuple (by decide +kernel) (pa_cons (pe_lc (own := [("_law_one_here", 12)]) (g := (gName 12)) (tt := (tAnd (tTest (tOp rNe (tVar 12) (tVar 5))) (tTest (tOp rEq (tOp rModI (tOp rAddI (tOp rAddI (tVar 7) (tVar 8)) (tCB rLenStr (tCons (tVar 12) tNil))) (tC (.int 3))) (tC (.int 0)))))) (te := (tVar 12)) (wi := (iList K (tVar 1))) rfl sc_l_roll.nd (pi_list (pv 1)) (blkOk_by (own := [("_law_one_here", 12)]) (N := N_l_roll) (sc := defScope s_l_roll) (by decide +kernel)) (fun _ _ _ _ _ => (pg_name (i := 12) sc_l_roll.nd rfl (Or.inl rfl))) (fun _ _ _ _ _ => (pts_one (PW.pt (pw_and (pt_cmpR op_ne (pv 12) (pv 5) (nomark _)) (pw_and1 (pt_cmpR op_eq (pe_op op_mod (pe_op op_add (pe_op op_add (pv 7) (pv 8)) (pe_callB call_len_str (by rfl) B.b_len (by decide +kernel) (pa_cons (pv 12) pa_nil))) pe_int) pe_int (nomark _))))))) (fun _ _ _ _ _ => (pv 12))) pa_nil)))
        (pss_one (ps_expr (pe_bm PySem.F.plainAttrs_list PySem.F.slot_list_append PySem.F.type_list_append mt_append (pv 4) (pa_cons (pe_tup (pa_cons (pv 5) (pa_cons (pv 7) (pa_cons (pv 8) (pa_cons (pv 9) (pa_cons (pv 10) pa_nil)))))) pa_nil))))))))) pss_nil)))
    (pss_one (ps_ret (pe_callTy call_tuple_of (by rfl) B.b_tuple (by decide +kernel) (pa_cons (pv 4) pa_nil))))))

abbrev s_l_due : Stmt := top 12
theorem sc_l_due : FnScope N_l_due ["_law_one_here", "_law_other"] (defScope s_l_due) := ⟨rfl, rfl, rfl, by decide +kernel, rfl, by decide +kernel, by decide +kernel⟩
theorem ok_l_due (F : ∃ fd, FnP K "_law_due" s_l_due (He.ga K "_law_due") fd) (gm : mg "_law_due" = some (.ref (He.ga K "_law_due"))) (B : Bl mg)  : Has P w K mg base "_law_due" 2 ["_law_one_here", "_law_other"] (spDue K) := by
  obtain ⟨fd, F⟩ := F
  refine ⟨_, fd, gm, F.kp, FunD.bindsN (ps := ["_law_one_here", "_law_other"]) F fun _ _ _ _ _ _ us hl => match us, hl with | [_, _], _ => rfl, F.ok sc_l_due (fun vs H Q E h => p_l_due_len h) (fun cdv A outer s H vs Q E hr h => ⟨t_l_due K, PSs.nox ?_, p_l_due h⟩)⟩
  have hu := hu_of hr
  exact (pss_cons (ps_set (i := 2) sc_l_due.nd rfl (Or.inl rfl) (pe_lst pa_nil))
    (pss_cons (ps_for PassesOwn.never rfl (pi_list (pe_sortSetS (by rfl) B.b_sorted (by rfl) B.b_set (pe_lc (own := [("_law_entry", 5)]) (g := (gName 5)) (tt := tYes) (te := (tOp (rIxT K) (tVar 5) (tC (.int 0)))) (wi := (iTup K (tOp (rCatA K) (tVar 0) (tVar 1)))) rfl sc_l_due.nd (pi_tup (pe_op op_catA (pv 0) (pv 1))) (blkOk_by (own := [("_law_entry", 5)]) (N := N_l_due) (sc := defScope s_l_due) (by decide +kernel)) (fun _ _ _ _ _ => (pg_name (i := 5) sc_l_due.nd rfl (Or.inl rfl))) (fun _ _ _ _ _ => pts_nil) (fun _ _ _ _ _ => (pe_ix ix_tup (pv 5) pe_int (fun _ _ => rfl)))))) (pg_name (i := 3) sc_l_due.nd rfl (Or.inr rfl)) (pss_cons (ps_setLc (i := 4) (own := [("_law_entry", 5)]) (g := (gName 5)) (tt := (tTest (tOp rEq (tOp (rIxT K) (tVar 5) (tC (.int 0))) (tVar 3)))) (te := (tVar 5)) (wi := (iTup K (tOp (rCatA K) (tVar 0) (tVar 1)))) rfl sc_l_due.nd rfl rfl (sw_true rfl rfl rfl (by decide +kernel)) (pi_tup (pe_op op_catA (pv 0) (pv 1))) (blkOk_by (own := [("_law_entry", 5)]) (N := N_l_due) (sc := defScope s_l_due) (by decide +kernel)) (fun _ _ _ _ _ => (pg_name (i := 5) sc_l_due.nd rfl (Or.inl rfl))) (fun _ _ _ _ _ => (pts_one (pt_cmpR op_eq (pe_ix ix_tup (pv 5) pe_int (fun _ _ => rfl)) (pv 3) (nomark _)))) (fun _ _ _ _ _ => (pv 5)))
      (pss_cons (ps_if (PW.pt (pw_and (pt_cmpR op_eq (pe_callB call_len_seq (by rfl) B.b_len (by decide +kernel) (pa_cons (pv 4) pa_nil)) pe_int (nomark _)) (pw_and1 (pt_cmpR (op_gtT2 (Nat.lt_of_le_of_lt (Nat.le_add_right _ 64) hr.units)) (pe_slice sl_tupA (pe_ix ix_list (pv 4) pe_int (fun _ _ => rfl)) (po_some pe_int) (po_some pe_int)) (pe_slice sl_tupA (pe_ix ix_list (pv 4) pe_int (fun _ _ => rfl)) (po_some pe_int) (po_some pe_int)) (nomark _))))) (pss_one (ps_set (i := 4) sc_l_due.nd rfl (Or.inl rfl) (pe_slice sl_list (pv 4) (po_some pe_int) po_none))) pss_nil)
      (pss_one (ps_expr (pe_bm PySem.F.plainAttrs_list PySem.F.slot_list_append PySem.F.type_list_append mt_append (pv 2) (pa_cons (pe_ix ix_list (pv 4) pe_int (fun _ _ => rfl)) pa_nil)))))))
    (pss_one (ps_ret (pe_callTy call_tuple_of (by rfl) B.b_tuple (by decide +kernel) (pa_cons (pv 2) pa_nil))))))

abbrev s_law : Stmt := top 13
theorem sc_law : FnScope N_law ["_law_script"] (defScope s_law) := ⟨rfl, rfl, rfl, by decide +kernel, rfl, by decide +kernel, by decide +kernel⟩
theorem ok_law {f : Addr} {fd : FuncData} (F : FnP K "law" s_law f fd) (B : Bl mg) (h_l_cell_at : Has P w K mg base "_law_cell_at" 1 ["_law_script", "_law_k"] (spCellAt K)) (h_merged : Has P w K mg base "merged" 2 ["roll", "other"] (spMerged K)) (h_l_due : Has P w K mg base "_law_due" 2 ["_law_one_here", "_law_other"] (spDue K)) (h_l_roll : Has P w K mg base "_law_roll" 5 ["_law_draw_here", "_law_names_here", "_law_many", "_law_plain"] spRoll) (h_l_draw : Has P w K mg base "_law_draw" 2 ["_law_draw_here", "_law_many"] spDraw) (h_l_names : Has P w K mg base "_law_names" 4 ["_law_draw_here", "_law_many"] spNames) : FnOk P w K mg base CX0 6 f fd ["_law_script"] (spLaw K) := by
  refine F.ok sc_law (fun vs H Q E h => p_law_len h) (fun cdv A outer s H vs Q E hr h => ⟨t_law K, PSs.nox ?_, p_law h⟩)
  have hu := hu_of hr
  exact (pss_cons (ps_for PassesOwn.never rfl (pi_list (pe_op op_cat (pe_lst (pa_cons (pe_has h_l_cell_at (hr.mono (by decide)) (by rfl) (pa_cons (pv 0) (pa_cons pe_int pa_nil))) pa_nil)) (pe_slice sl_list (pv 0) (po_some pe_int) (po_some pe_int)))) (pg_name (i := 1) sc_law.nd rfl (Or.inl rfl)) (pss_cons (ps_set (i := 2) sc_law.nd rfl (Or.inr rfl) (pe_disp (pps_cons pe_str (pv 1) (pps_cons pe_str pe_int pps_nil)) (by rfl) (by rfl) (fun z => by cases z) (by decide)))
      (pss_cons (ps_set (i := 3) sc_law.nd rfl (Or.inr rfl) (pe_callB cr_sortedS (by rfl) B.b_sorted (by decide +kernel) (pa_cons (pe_has h_l_names (hr.mono (by decide)) (by rfl) (pa_cons (pv 2) (pa_cons pe_int pa_nil))) pa_nil)))
      (pss_cons (ps_set (i := 4) sc_law.nd rfl (Or.inr rfl) (pe_cmpR op_eq (pe_has h_l_draw (hr.mono (by decide)) (by rfl) (pa_cons (pv 2) (pa_cons pe_int pa_nil))) pe_int (nomark _)))
      (pss_cons (ps_set (i := 5) sc_law.nd rfl (Or.inr rfl) (pe_op op_add pe_int (pe_has h_l_draw (hr.mono (by decide)) (by rfl) (pa_cons (pv 2) (pa_cons pe_int pa_nil)))))
      (pss_cons (ps_asg (pe_lc (own := [("_law_k", 10)]) (g := (gName 10)) (tt := tYes) (te := (tCall spRoll [] E0 (tCons (tVar 2) (tCons (tVar 3) (tCons (tVar 5) (tCons (tVar 4) tNil)))))) (wi := (iRng1 (tCons (tC (.int 3)) tNil))) rfl sc_law.nd (pi_range1 (by rfl) B.b_range (pa_cons pe_int pa_nil)) (blkOk_by (own := [("_law_k", 10)]) (N := N_law) (sc := defScope s_law) (by decide +kernel)) (fun _ _ _ _ _ => (pg_name (i := 10) sc_law.nd rfl (Or.inl rfl))) (fun _ _ _ _ _ => pts_nil) (fun _ _ _ _ _ => (pe_has h_l_roll (hr.mono (by decide)) (by rfl) (pa_cons (pv 2) (pa_cons (pv 3) (pa_cons (pv 5) (pa_cons (pv 4) pa_nil))))))) (pg_unl rfl (pgs_cons (pg_name (i := 6) sc_law.nd rfl (Or.inl rfl)) (pgs_cons (pg_name (i := 7) sc_law.nd rfl (Or.inl rfl)) (pgs_cons (pg_name (i := 8) sc_law.nd rfl (Or.inl rfl)) pgs_nil)))))
      (pss_cons (ps_set (i := 9) sc_law.nd rfl (Or.inl rfl) (pe_has h_merged (hr.mono (by decide)) (by rfl) (pa_cons (pv 6) (pa_cons (pv 7) pa_nil))))
      (pss_cons (ps_if (PW.pt (pw_or (pt_not (pt_val (pe_callB call_isi (by rfl) B.b_isinstance (by decide +kernel) (pa_cons (pv 9) (pa_cons (pe_bltn (v := .ty "tuple") (by rfl) B.b_tuple (by decide +kernel) rfl) pa_nil))))) (pw_or (pt_cmpR (op_neD hr.units) (pv 9) (pe_has h_l_due (hr.mono (by decide)) (by rfl) (pa_cons (pv 6) (pa_cons (pv 7) pa_nil))) (nomark _)) (pw_or1 (pt_cmpR (op_neD hr.units) (pe_has h_merged (hr.mono (by decide)) (by rfl) (pa_cons (pv 6) (pa_cons (pv 7) pa_nil))) (pv 9) (nomark _)))))) (pss_one (ps_ret pe_bl)) pss_nil)
      (pss_cons (ps_if (PW.pt (pw_or (pt_cmpR (op_neD hr.units) (pe_has h_merged (hr.mono (by decide)) (by rfl) (pa_cons (pv 6) (pa_cons (pv 6) pa_nil))) (pv 6) (nomark _)) (pw_or (pt_cmpR (op_neD hr.units) (pe_has h_merged (hr.mono (by decide)) (by rfl) (pa_cons (pv 6) (pa_cons (pe_tup pa_nil) pa_nil))) (pv 6) (nomark _)) (pw_or1 (pt_cmpR (op_neD hr.units) (pe_has h_merged (hr.mono (by decide)) (by rfl) (pa_cons (pe_tup pa_nil) (pa_cons (pv 6) pa_nil))) (pv 6) (nomark _)))))) (pss_one (ps_ret pe_bl)) pss_nil)
      (pss_one (ps_if (PW.pt (pw_and (pt_val (pv 4)) (pw_and1 (pt_cmpR (op_neD hr.units) (pe_has h_merged (hr.mono (by decide)) (by rfl) (pa_cons (pv 9) (pa_cons (pv 8) pa_nil))) (pe_has h_merged (hr.mono (by decide)) (by rfl) (pa_cons (pv 6) (pa_cons (pe_has h_merged (hr.mono (by decide)) (by rfl) (pa_cons (pv 7) (pa_cons (pv 8) pa_nil))) pa_nil))) (nomark _))))) (pss_one (ps_ret pe_bl)) pss_nil)))))))))))
    (pss_one (ps_ret pe_bl)))
end

def dd_newer : He.DefD := ⟨("newer", none), "newer", "newer", defArgs s_newer, defBody s_newer, defScope s_newer, [], []⟩
def dd_merged : He.DefD := ⟨("merged", none), "merged", "merged", defArgs s_merged, defBody s_merged, defScope s_merged, [], []⟩
def dd_l_cell_at : He.DefD := ⟨("_law_cell_at", none), "_law_cell_at", "_law_cell_at", defArgs s_l_cell_at, defBody s_l_cell_at, defScope s_l_cell_at, [], []⟩
def dd_l_mixed : He.DefD := ⟨("_law_mixed", none), "_law_mixed", "_law_mixed", defArgs s_l_mixed, defBody s_l_mixed, defScope s_l_mixed, [], []⟩
def dd_l_draw : He.DefD := ⟨("_law_draw", none), "_law_draw", "_law_draw", defArgs s_l_draw, defBody s_l_draw, defScope s_l_draw, [], []⟩
def dd_l_one : He.DefD := ⟨("_law_one", none), "_law_one", "_law_one", defArgs s_l_one, defBody s_l_one, defScope s_l_one, [], []⟩
def dd_l_name : He.DefD := ⟨("_law_name", none), "_law_name", "_law_name", defArgs s_l_name, defBody s_l_name, defScope s_l_name, [], []⟩
def dd_l_names : He.DefD := ⟨("_law_names", none), "_law_names", "_law_names", defArgs s_l_names, defBody s_l_names, defScope s_l_names, [], []⟩
def dd_l_number : He.DefD := ⟨("_law_number", none), "_law_number", "_law_number", defArgs s_l_number, defBody s_l_number, defScope s_l_number, [], []⟩
def dd_l_roll : He.DefD := ⟨("_law_roll", none), "_law_roll", "_law_roll", defArgs s_l_roll, defBody s_l_roll, defScope s_l_roll, [], []⟩
def dd_l_due : He.DefD := ⟨("_law_due", none), "_law_due", "_law_due", defArgs s_l_due, defBody s_l_due, defScope s_l_due, [], []⟩
def dd_law : He.DefD := ⟨("law", none), "law", "law", defArgs s_law, defBody s_law, defScope s_law, [], []⟩
def fn : List He.DefD := [dd_newer, dd_merged, dd_l_cell_at, dd_l_mixed, dd_l_draw, dd_l_one, dd_l_name, dd_l_names, dd_l_number, dd_l_roll, dd_l_due, dd_law]
def fa : List He.Fa := [.glo "newer", .glo "merged", .glo "_law_cell_at", .glo "_law_mixed", .glo "_law_draw", .glo "_law_one", .glo "_law_name", .glo "_law_names", .glo "_law_number", .glo "_law_roll", .glo "_law_due", .glo "law", .free "int", .free "isinstance", .free "len", .free "range", .free "set", .free "sorted", .free "tuple"]
def loose : List Str := (["newer", "merged", "_law_cell_at", "_law_mixed", "_law_draw", "_law_one", "_law_name", "_law_names", "_law_number", "_law_roll", "_law_due"] : List Str)
abbrev R : PySem.W.OpenRow := PySem.W.OpenLaw.row PySem.Challenge.rw_sumtold_k31_rolls_merged
abbrev hk : PySem.W.Hook := He.hookD 4 fa fn
def ob (s : PySem.W.SharedT) : He.AlD := He.obsDG 4 fa fn (HandSHeadRun.getT s)
theorem ob_eq (s : PySem.W.SharedT) : ob s = hk.obs s.abs := He.obsDG_eq (HandSHeadRun.getT_eq s)
theorem run (w : World) : HandSHeadRun.RunEq R (PySem.W.view R.prog [13]) hk ob 2000 loose w := by
  intro os
  kernel_rfl
theorem facts {P : Program} {w : World} {K : PySem.W.Frag} {h : Heap} {mg : Str → Option Value} {f : Addr} (X : K.In h) (G : h.Ns mainGlobals mg) (hfa : mg ("law" : Str) = some (.ref f)) (c : He.SaysD fa fn K) :
    ∃ fd : FuncData, (∀ (s : Shared) (v : Value), BindsTo s fd ⟨[v], []⟩ [("_law_script", v)]) ∧ ∀ base : Heap, K.In base → base.Ns mainGlobals mg → FnOk P w K mg base CX0 6 f fd ["_law_script"] ((spLaw K)) := by
  have F_newer := c.def_ 0 (d := dd_newer) rfl
  have g_newer := He.glo_ok X G (c.fact 0 (f := .glo "newer") rfl)
  have F_merged := c.def_ 1 (d := dd_merged) rfl
  have g_merged := He.glo_ok X G (c.fact 1 (f := .glo "merged") rfl)
  have F_l_cell_at := c.def_ 2 (d := dd_l_cell_at) rfl
  have g_l_cell_at := He.glo_ok X G (c.fact 2 (f := .glo "_law_cell_at") rfl)
  have F_l_mixed := c.def_ 3 (d := dd_l_mixed) rfl
  have g_l_mixed := He.glo_ok X G (c.fact 3 (f := .glo "_law_mixed") rfl)
  have F_l_draw := c.def_ 4 (d := dd_l_draw) rfl
  have g_l_draw := He.glo_ok X G (c.fact 4 (f := .glo "_law_draw") rfl)
  have F_l_one := c.def_ 5 (d := dd_l_one) rfl
  have g_l_one := He.glo_ok X G (c.fact 5 (f := .glo "_law_one") rfl)
  have F_l_name := c.def_ 6 (d := dd_l_name) rfl
  have g_l_name := He.glo_ok X G (c.fact 6 (f := .glo "_law_name") rfl)
  have F_l_names := c.def_ 7 (d := dd_l_names) rfl
  have g_l_names := He.glo_ok X G (c.fact 7 (f := .glo "_law_names") rfl)
  have F_l_number := c.def_ 8 (d := dd_l_number) rfl
  have g_l_number := He.glo_ok X G (c.fact 8 (f := .glo "_law_number") rfl)
  have F_l_roll := c.def_ 9 (d := dd_l_roll) rfl
  have g_l_roll := He.glo_ok X G (c.fact 9 (f := .glo "_law_roll") rfl)
  have F_l_due := c.def_ 10 (d := dd_l_due) rfl
  have g_l_due := He.glo_ok X G (c.fact 10 (f := .glo "_law_due") rfl)
  have F_law := c.def_ 11 (d := dd_law) rfl
  have g_law := He.glo_ok X G (c.fact 11 (f := .glo "law") rfl)
  have B : Bl mg := ⟨He.free_ok X G (c.fact 12 (f := .free "int") rfl), He.free_ok X G (c.fact 13 (f := .free "isinstance") rfl), He.free_ok X G (c.fact 14 (f := .free "len") rfl), He.free_ok X G (c.fact 15 (f := .free "range") rfl), He.free_ok X G (c.fact 16 (f := .free "set") rfl), He.free_ok X G (c.fact 17 (f := .free "sorted") rfl), He.free_ok X G (c.fact 18 (f := .free "tuple") rfl)⟩
  have e := hfa.symm.trans g_law
  cases e
  obtain ⟨fd, Fl⟩ := F_law
  refine ⟨fd, fun s v => (FunD.bindsA (ps := ["_law_script"]) Fl fun _ _ _ _ _ _ us hl => match us, hl with | [_], _ => rfl) s [v] rfl, fun base _ _ => ?_⟩
  have h_newer := ok_newer (P := P) (w := w) (base := base) F_newer g_newer B 
  have h_merged := ok_merged (P := P) (w := w) (base := base) F_merged g_merged B h_newer
  have h_l_cell_at := ok_l_cell_at (P := P) (w := w) (base := base) F_l_cell_at g_l_cell_at B 
  have h_l_mixed := ok_l_mixed (P := P) (w := w) (base := base) F_l_mixed g_l_mixed B 
  have h_l_draw := ok_l_draw (P := P) (w := w) (base := base) F_l_draw g_l_draw B h_l_mixed
  have h_l_one := ok_l_one (P := P) (w := w) (base := base) F_l_one g_l_one B h_l_draw
  have h_l_name := ok_l_name (P := P) (w := w) (base := base) F_l_name g_l_name B h_l_draw
  have h_l_names := ok_l_names (P := P) (w := w) (base := base) F_l_names g_l_names B h_l_name
  have h_l_number := ok_l_number (P := P) (w := w) (base := base) F_l_number g_l_number B h_l_draw h_l_one
  have h_l_roll := ok_l_roll (P := P) (w := w) (base := base) F_l_roll g_l_roll B h_l_draw h_l_number
  have h_l_due := ok_l_due (P := P) (w := w) (base := base) F_l_due g_l_due B 
  exact ok_law (P := P) (w := w) (base := base) Fl B h_l_cell_at h_merged h_l_due h_l_roll h_l_draw h_l_names

end Sum
open PySem PySem.W PySem.Calls PyProof.Rows
set_option maxRecDepth 100000 in
set_option maxHeartbeats 0 in
theorem PySem.Challenge.cw_sumtold_k31_rolls_merged_holds : PySem.Challenge.rw_sumtold_k31_rolls_merged.Holds := by
  w_on; o_law
  refine HandSHeadRun.head_any (r := OpenLaw.row PySem.Challenge.rw_sumtold_k31_rolls_merged) (q := view (OpenLaw.row PySem.Challenge.rw_sumtold_k31_rolls_merged).prog [13]) (H := Sum.hk) (ob := Sum.ob) (M := 2000) (loose := Sum.loose) (d := HandSHeadRun.topDef (OpenLaw.row PySem.Challenge.rw_sumtold_k31_rolls_merged).prog 13) (kwd := []) Sum.ob_eq
    (by kernel_rfl) (fun s => by kernel_rfl) Sum.run (by kernel_rfl) (by kernel_rfl) (by kernel_rfl) (by rfl) (by first | assumption | decide +kernel) (by decide +kernel) ⟨rfl, rfl, rfl, rfl, rfl, by decide +kernel⟩ ?hw ?hc
  case hw => w_witness2
  case hc =>
    refine L2.walk_ofE (l := PySem.Challenge.rw_sumtold_k31_rolls_merged) (n := 63) (k := 6) (x := "_law_script") (CX := L2.CX0) rfl (by decide) (by kernel_rfl) ⟨rfl, by decide, by decide⟩ ?F (fun _ _ _ _ z => z)
    intro w mg fa h Y G hmg0
    obtain ⟨K, KX, c⟩ := Y
    have hmg : mg ("law" : PySem.Str) = some (.ref fa) := by
      have e : (HandSHeadRun.topDef (OpenLaw.row PySem.Challenge.rw_sumtold_k31_rolls_merged).prog 13).name = ("law" : PySem.Str) := by kernel_rfl
      rw [← e]
      exact hmg0
    obtain ⟨fd, hb, hF⟩ := Sum.facts (P := (PySem.Challenge.rw_sumtold_k31_rolls_merged).prog) (w := w) KX G hmg c
    exact ⟨K, fd, Sum.spLaw K, KX, hb, fun H a ns hl _ hS => ⟨a, ns, rfl, hS, hl, fun _ => rfl⟩, hF⟩
#print axioms PySem.Challenge.cw_sumtold_k31_rolls_merged_holds
