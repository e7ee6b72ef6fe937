import PyProof.Rows.All
import Wide.All
import OpenK.AllK
import Wide.FinOn
import HandS.ForMost
import HandS.Flow
import HandS.IsInst
import HandS.WideBits
import HandS.Style
import HandS.TupAny
import HandS.TupMul
import HandS.Steps
import HandS.Evl
import HandS.Zip
import HandS.Walk
import HandS.Defaults
import HandS.HeadEnd
import HandS.HeadHook2
import HandS.Head2
import HandS.Conv
import HandS.Text
import HandS.Codes
import HandS.NoneIn
import HandS.CallLocal
import HandS.Strs
import HandS.Set
import HandS.SetKeys
import HandS.TupSets
import PyProof.Rows.SortShellK
import PyProof.Rows.SortStr
import HandS.Exc
import HandS.ExcOwn
import HandS.ExcIs
import HandS.WordsExc
import HandS.Deep
import KE.KDictList
import HandS.TupLe
import HandS.Dict
import KE.DataMinMax
import KE.DatumOrd
import PySem.Challenge.RW_sumtold_k32_whole_sure_by_rolls
set_option Elab.async false
set_option linter.all false
set_option maxRecDepth 100000
set_option maxHeartbeats 4000000
namespace Go
open PySem PySem.Spec PyProof.Rows L2
/-! ### readings by short names -/
abbrev rAddI : R2 := rI0 fun i j => .int (i + j)
abbrev rSubI : R2 := rI0 fun i j => .int (i - j)
abbrev rMulI : R2 := rI CMul fun i j => .int (i * j)
abbrev rMulX : R2 := rI CMulX fun i j => .int (i * j)
abbrev rDivI : R2 := rI CDivW fun i j => .int (i / j)
abbrev rModI : R2 := rI (fun _ j => 0 < j) fun i j => .int (i % j)
abbrev rPowI : R2 := rI CPow fun i j => .int (i ^ j.toNat)
abbrev rShlI : R2 := rI CShl fun i j => .int (i * 2 ^ j.toNat)
abbrev rShrI : R2 := rI (fun _ j => 0 ≤ j) fun i j => .int (i / 2 ^ j.toNat)
abbrev rAndI : R2 := rI0 fun i j => .int (Builtin.bitAnd i j)
abbrev rLtI : R2 := rI0 fun i j => .bl (decide (i < j))
abbrev rLeI : R2 := rI0 fun i j => .bl (decide (i ≤ j))
abbrev rGtI : R2 := rI0 fun i j => .bl (decide (j < i))
abbrev rGeI : R2 := rI0 fun i j => .bl (decide (j ≤ i))
abbrev rNegI : V → Hp → VK → Prop := rU fun i => .int (-i)
abbrev rAbs : List V → Hp → VK → Prop := fun xs H Q => ∃ i, xs = [.int i] ∧ Q (.int (if i < 0 then -i else i)) H
abbrev rMin2 : List V → Hp → VK → Prop := fun xs H Q => ∃ i j, xs = [.int i, .int j] ∧ Q (.int (if j < i then j else i)) H
abbrev rInt1 : List V → Hp → VK → Prop := fun xs H Q => (∃ i, xs = [.int i] ∧ Q (.int i) H) ∨ ∃ k, xs = [.bl k] ∧ Q (.int (if k then 1 else 0)) H
abbrev rTupOf (K : PySem.W.Frag) : List V → Hp → VK → Prop := fun xs H Q => ∃ p ys, xs = [.ref p] ∧ ((SqL K H p ys ∧ ∀ l, H l = none → Q (.ref l) (upd H l (.tup ys))) ∨ (SqT K H p ys ∧ Q (.ref p) H))
abbrev rAddStr : R2 := fun x y H Q => ∃ i j, x = .str i ∧ y = .str j ∧ i.length + j.length ≤ sizeLine ∧ Q (.str (i ++ j)) H
abbrev rLenStr : List V → Hp → VK → Prop := fun xs H Q => ∃ z, xs = [.str z] ∧ z.length ≤ sizeLine ∧ Q (.int z.length) H
/-! ### a def that keeps its promise, by its name -/
abbrev FnP (K : PySem.W.Frag) (x : Str) (st : Stmt) (f : Addr) (fd : FuncData) : Prop := FunD K x x (defArgs st) (defBody st) (defScope st) [] [] f fd
def Has (P : Program) (w : World) (K : PySem.W.Frag) (mg : Str → Option Value) (base : Heap) (x : Str) (k : Nat) (ps : List Str) (sp : Sp) : Prop :=
  ∃ (f : Addr) (fd : FuncData), mg x = some (.ref f) ∧ PySem.W.keepIn K (.ref f) = true ∧ Binds K fd ps [] ∧ FnOk P w K mg base CX0 k f fd ps sp
theorem pe_has {X : Cx} {x : Str} {p pos : Pos} {e : Expr} {es : List Expr} {t : TA} {k : Nat} {ps : List Str} {sp : Sp} (h : Has X.prog X.w X.K X.mg X.base x k ps sp) (hr : Room k X.A) (hg : Gl X x) (ha : PA X (e :: es) t)
    (hd : (x == ("__debug__" : Str)) = false := by decide) (he : starEach (e :: es) X.env = (false, eval e X.env) :: starEach es X.env := by rfl) (hpl : (backTo pos (starEach es X.env)).any (·.1) = false := by rfl) :
    PE X (.Call (.Name x p) (e :: es) [] pos) (tCall sp [] E0 t) := by
  obtain ⟨f, fd, gm, kp, b, F⟩ := h
  exact pe_call F hr hg gm kp b .nil pass0 ha hd he hpl
/-! ### stepping -/
section
variable {K : PySem.W.Frag} {σ : L2.St} {H H' : Hp} {Q : VK} {QB : Bool → Hp → Prop} {D : Ends} {t u : TS} {c c' : TT} {te ta tb tc : TE} {tr : TA} {i : Nat} {v x y : V} {r r' : R2} {a b : Addr} {o : HO} {xs ys : List V}
theorem w_seq (h : t { D with nx := u D } σ H) : tSeq t u D σ H := h
theorem w_next (h : D.nx σ H) : tNext D σ H := h
theorem w_asg (h : te σ H fun x H1 => D.nx (σ.set i (some x)) H1) : tAsg te (gName i) D σ H := h
theorem w_drop (h : te σ H fun _ H1 => D.nx σ H1) : tDrop te D σ H := h
theorem w_ret (h : te σ H D.rt) : tRet te D σ H := h
theorem w_if (h : c σ H fun b H1 => if b = true then t D σ H1 else u D σ H1) : tIfS c t u D σ H := h
theorem w_par {j : Nat} (h : tr σ H fun vs H1 => ∃ v w, vs = [v, w] ∧ D.nx ((σ.set i (some v)).set j (some w)) H1) : tPar i j tr D σ H := h
theorem w_sub {to ti : TE} {ts : TSet} (h : te σ H fun x H1 => to σ H1 fun o H2 => ti σ H2 fun i H3 => ts o i x H3 fun H4 => D.nx σ H4) : tAsg te (gSub to ti ts) D σ H := h
theorem w_setL {xs : List V} {k : Int} {j : Nat} {Qh : Hp → Prop} (h : H a = some (.lst xs)) (hj : ixN xs.length k = some j) (q : Qh (upd H a (.lst (xs.set j v)))) : rSetL (.ref a) (.int k) v H Qh := ⟨a, xs, k, j, rfl, rfl, h, hj, q⟩
theorem w_gName {QS : L2.St → Hp → Prop} (q : QS (σ.set i (some v)) H) : gName i v σ H QS := q
theorem w_gTup {n : Nat} {tg : TGs} {QS : L2.St → Hp → Prop} (h : SqT K H a xs) (hn : xs.length = n) (q : tg xs σ H QS) : gTup K n tg (.ref a) σ H QS := ⟨a, xs, rfl, h, hn, q⟩
theorem w_gCons {g1 : TG} {tg : TGs} {QS : L2.St → Hp → Prop} (q : g1 v σ H fun σ' H' => tg xs σ' H' QS) : gCons g1 tg (v :: xs) σ H QS := ⟨v, xs, rfl, q⟩
theorem w_gNil {QS : L2.St → Hp → Prop} (q : QS σ H) : gNil [] σ H QS := ⟨rfl, q⟩
theorem w_asgG {g : TG} (h : te σ H fun x H1 => g x σ H1 D.nx) : tAsg te g D σ H := h
theorem w_var (h : σ[i]? = some (some v)) (q : Q v H) : tVar i σ H Q := ⟨v, h, q⟩
theorem w_con (q : Q v H) : tC v σ H Q := q
theorem w_op (h : ta σ H fun x H1 => tb σ H1 fun y H2 => r x y H2 Q) : tOp r ta tb σ H Q := h
theorem w_un {r : V → Hp → VK → Prop} (h : ta σ H fun x H1 => r x H1 Q) : tUn r ta σ H Q := h
theorem w_I0 {g : Int → Int → V} {i j : Int} (q : Q (g i j) H) : rI0 g (.int i) (.int j) H Q := ⟨i, j, rfl, rfl, q⟩
theorem w_I {C : Int → Int → Prop} {g : Int → Int → V} {i j : Int} (hc : C i j) (q : Q (g i j) H) : rI C g (.int i) (.int j) H Q := ⟨i, j, rfl, rfl, hc, q⟩
theorem w_mulI {i j : Int} (hc : CMul i j) (q : Q (.int (i * j)) H) : rMulI (.int i) (.int j) H Q := w_I hc q
theorem w_modI {i j : Int} (hc : 0 < j) (q : Q (.int (i % j)) H) : rModI (.int i) (.int j) H Q := w_I (C := fun _ j => 0 < j) hc q
theorem w_divI {i j : Int} (hc : CDivW i j) (q : Q (.int (i / j)) H) : rDivI (.int i) (.int j) H Q := w_I hc q
theorem w_powI {i j : Int} (hc : CPow i j) (q : Q (.int (i ^ j.toNat)) H) : rPowI (.int i) (.int j) H Q := w_I hc q
theorem w_shrI {i j : Int} (hc : 0 ≤ j) (q : Q (.int (i / 2 ^ j.toNat)) H) : rShrI (.int i) (.int j) H Q := w_I (C := fun _ j => 0 ≤ j) hc q
theorem w_mulX {i j : Int} (hc : CMulX i j) (q : Q (.int (i * j)) H) : rMulX (.int i) (.int j) H Q := w_I hc q
theorem w_shlI {i j : Int} (hc : CShl i j) (q : Q (.int (i * 2 ^ j.toNat)) H) : rShlI (.int i) (.int j) H Q := w_I hc q
theorem w_U {g : Int → V} {i : Int} (q : Q (g i) H) : rU g (.int i) H Q := ⟨i, rfl, q⟩
theorem w_eq (hs : scal x y = true) (q : Q (.bl (decide (x = y))) H) : rEq x y H Q := ⟨hs, q⟩
theorem w_ne (hs : scal x y = true) (q : Q (.bl (!decide (x = y))) H) : rNe x y H Q := ⟨hs, q⟩
theorem w_isB {p q : Bool} (h : Q (.bl (decide (p = q))) H) : rIsB (.bl p) (.bl q) H Q := ⟨p, q, rfl, rfl, h⟩
theorem w_notB {p q : Bool} (h : Q (.bl (!decide (p = q))) H) : rNotB (.bl p) (.bl q) H Q := ⟨p, q, rfl, rfl, h⟩
theorem w_isN (h : Q (.bl (decide (x = .non))) H) : L2.rIsN x .non H Q := ⟨rfl, h⟩
theorem w_notN (h : Q (.bl (!decide (x = .non))) H) : L2.rNotN x .non H Q := ⟨rfl, h⟩
theorem w_test (h : te σ H fun x H' => ∃ k, x = .bl k ∧ QB k H') : tTest te σ H QB := h
theorem w_tB (h : te σ H fun x H' => ∃ k, x = .bl k ∧ QB k H') : tB te σ H QB := h
theorem w_k {k : Bool} {R : Bool → Prop} (q : R k) : ∃ k', V.bl k = .bl k' ∧ R k' := ⟨k, rfl, q⟩
theorem w_not (h : c σ H fun k H1 => QB (!k) H1) : tNot c σ H QB := h
theorem w_and (h : c σ H fun k H1 => if k = true then c' σ H1 QB else QB false H1) : tAnd c c' σ H QB := h
theorem w_or (h : c σ H fun k H1 => if k = true then QB true H1 else c' σ H1 QB) : tOr c c' σ H QB := h
theorem w_andV (h : ta σ H fun x H1 => ∃ k, x = .bl k ∧ if k = true then tb σ H1 Q else Q (.bl false) H1) : tAndV ta tb σ H Q := h
theorem w_orV (h : ta σ H fun x H1 => ∃ k, x = .bl k ∧ if k = true then Q (.bl true) H1 else tb σ H1 Q) : tOrV ta tb σ H Q := h
theorem w_notV (h : ta σ H fun x H1 => ∃ k, x = .bl k ∧ Q (.bl (!k)) H1) : tNotV ta σ H Q := h
theorem w_chain (h : ta σ H fun x H1 => tb σ H1 fun y H2 => r x y H2 fun z H3 => ∃ k, z = .bl k ∧ (if k = true then tc σ H3 fun w' H4 => r' y w' H4 Q else Q (.bl false) H3)) : tChain r r' ta tb tc σ H Q := h
theorem w_orT (h : ta σ H fun x H1 => ∃ k, TruV K x H1 k ∧ if k = true then Q x H1 else tb σ H1 Q) : tOrT K ta tb σ H Q := h
theorem w_andT (h : ta σ H fun x H1 => ∃ k, TruV K x H1 k ∧ if k = true then tb σ H1 Q else Q x H1) : tAndT K ta tb σ H Q := h
theorem w_truI {n : Int} {R : Bool → Prop} (q : R (n != 0)) : ∃ k, TruV K (.int n) H k ∧ R k := ⟨_, rfl, q⟩
theorem w_ifE (h : c σ H fun k H1 => if k = true then ta σ H1 Q else tb σ H1 Q) : tIf c ta tb σ H Q := h
theorem w_nil {QL : List V → Hp → Prop} (q : QL [] H) : tNil σ H QL := q
theorem w_cons {QL : List V → Hp → Prop} (h : te σ H fun x H1 => tr σ H1 fun xs H2 => QL (x :: xs) H2) : tCons te tr σ H QL := h
theorem w_tup (h : tr σ H fun xs H1 => xs.length ≤ sizeLine ∧ ∀ p, H1 p = none → Q (.ref p) (upd H1 p (.tup xs))) : tTup tr σ H Q := h
theorem w_lst (h : tr σ H fun xs H1 => xs.length ≤ sizeLine ∧ ∀ p, H1 p = none → Q (.ref p) (upd H1 p (.lst xs))) : tLst tr σ H Q := h
theorem w_call {sp : Sp} {E : XK} (h : tr σ H fun vs H1 => sp vs H1 Q E) : tCall sp [] E tr σ H Q := by
  show tr σ H fun vs H1 => sp (vs ++ []) H1 Q E
  simp only [List.append_nil]
  exact h
theorem w_cb {r : List V → Hp → VK → Prop} (h : tr σ H fun vs H1 => r vs H1 Q) : tCB r tr σ H Q := h
theorem w_ixL {k : Int} (h : SqL K H a xs) (ha : atI xs k = some v) (q : Q v H) : rIxL K (.ref a) (.int k) H Q := ⟨a, xs, k, v, rfl, rfl, h, ha, q⟩
theorem w_ixT {k : Int} (h : SqT K H a xs) (ha : atI xs k = some v) (q : Q v H) : rIxT K (.ref a) (.int k) H Q := ⟨a, xs, k, v, rfl, rfl, h, ha, q⟩
theorem w_ixsL {k : Int} (h : SqL K H a xs) (ha : atI xs k = some v) (q : Q v H) : rIx K (.ref a) (.int k) H Q := .inl ⟨a, xs, k, v, rfl, rfl, h, ha, q⟩
theorem w_ixsT {k : Int} (h : SqT K H a xs) (ha : atI xs k = some v) (q : Q v H) : rIx K (.ref a) (.int k) H Q := .inr (.inl ⟨a, xs, k, v, rfl, rfl, h, ha, q⟩)
theorem w_min2 {m n : Int} (q : Q (.int (if n < m then n else m)) H) : rMin2 [.int m, .int n] H Q := ⟨m, n, rfl, q⟩
theorem w_max2 {m n : Int} (q : Q (.int (if n > m then n else m)) H) : Evl.rMax2 [.int m, .int n] H Q := ⟨m, n, rfl, q⟩
theorem w_bitsI {n : Int} {R : Int → Prop} (q : R n) : ∃ i, V.int n = .int i ∧ R i := ⟨n, rfl, q⟩
theorem w_abs {n : Int} (q : Q (.int (n.natAbs : Int)) H) : rAbs [.int n] H Q := ⟨n, rfl, by
  have e : (if n < 0 then -n else n) = (n.natAbs : Int) := by split <;> omega
  rw [e]; exact q⟩
theorem w_intB {k : Bool} (q : Q (.int (if k then 1 else 0)) H) : rInt1 [.bl k] H Q := .inr ⟨k, rfl, q⟩
theorem w_tupOfL (h : SqL K H a ys) (q : ∀ l, H l = none → Q (.ref l) (upd H l (.tup ys))) : rTupOf K [.ref a] H Q := ⟨a, ys, rfl, .inl ⟨h, q⟩⟩
theorem w_lenL (h : SqL K H a xs) (q : Q (.int xs.length) H) : Evl.rLenS K [.ref a] H Q := ⟨a, xs, rfl, .inl h, q⟩
theorem w_lenT (h : SqT K H a xs) (q : Q (.int xs.length) H) : Evl.rLenS K [.ref a] H Q := ⟨a, xs, rfl, .inr h, q⟩
theorem w_isi {cc : V} {tt uu : Value} {k : Bool} (hc : ClsV cc uu) (ht : TyX K H x tt) (hk : PySem.W.kitOne K tt uu = some k) (q : Q (.bl k) H) : rIsi K [x, cc] H Q := ⟨x, cc, tt, uu, k, rfl, hc, ht, hk, q⟩
theorem w_sl {rr : V → Option Int → Option Int → Hp → VK → Prop} {tl th : TO} (h : te σ H fun x H1 => tl σ H1 fun l H2 => th σ H2 fun u H3 => rr x l u H3 Q) : tSl rr te tl th σ H Q := h
theorem w_noPart {QO : Option Int → Hp → Prop} (q : QO none H) : tNoPart σ H QO := q
theorem w_part {QO : Option Int → Hp → Prop} (h : te σ H fun x H1 => ∃ i, x = .int i ∧ QO (some i) H1) : tPart te σ H QO := h
theorem w_partI {R : Int → Prop} {n : Int} (q : R n) : ∃ i, V.int n = .int i ∧ R i := ⟨n, rfl, q⟩
theorem w_slL {lo hi : Option Int} (h : SqL K H a xs) (q : ∀ p, H p = none → Q (.ref p) (upd H p (.lst (cutV xs lo hi)))) : rSlL K (.ref a) lo hi H Q := ⟨a, xs, rfl, h, q⟩
theorem w_cat (h : H a = some (.lst xs)) (h' : H b = some (.lst ys)) (hl : xs.length + ys.length ≤ sizeLine) (q : ∀ p, H p = none → Q (.ref p) (upd H p (.lst (xs ++ ys)))) : rCat (.ref a) (.ref b) H Q := ⟨a, b, xs, ys, rfl, rfl, h, h', hl, q⟩
theorem w_eqD {d e : PyData} (h1 : Dp K H x d) (h2 : Dp K H y e) (s1 : SeqAt.shaped d = true) (s2 : SeqAt.shaped e = true) (q : Q (.bl (PyData.eqv d e)) H) : rEqD K x y H Q := ⟨d, e, h1, h2, s1, s2, q⟩
theorem w_neD {d e : PyData} (h1 : Dp K H x d) (h2 : Dp K H y e) (s1 : SeqAt.shaped d = true) (s2 : SeqAt.shaped e = true) (q : Q (.bl (!PyData.eqv d e)) H) : rNeD K x y H Q := ⟨d, e, h1, h2, s1, s2, q⟩
theorem w_eqD_same {d : PyData} (h1 : Dp K H x d) (h2 : Dp K H y d) (s1 : SeqAt.shaped d = true) (q : Q (.bl true) H) : rEqD K x y H Q := ⟨d, d, h1, h2, s1, s1, by rw [SeqAt.eqv_refl d (SeqAt.canLay_of_shaped s1)]; exact q⟩
theorem w_neD_same {d : PyData} (h1 : Dp K H x d) (h2 : Dp K H y d) (s1 : SeqAt.shaped d = true) (q : Q (.bl false) H) : rNeD K x y H Q := ⟨d, d, h1, h2, s1, s1, by rw [SeqAt.eqv_refl d (SeqAt.canLay_of_shaped s1)]; exact q⟩
theorem dpP {m n : Int} (h : H a = some (.tup [.int m, .int n])) : Dp K H (.ref a) (.tuple [.int m, .int n]) := .tup (SqT.of h) (.cons (.int _) (.cons (.int _) .nil))
theorem dpN (h : H a = some (.lst [])) : Dp K H (.ref a) (.list []) := .lst (SqL.of h) .nil
theorem eqv_pair {m n m' n' : Int} : PyData.eqv (.tuple [.int m, .int n]) (.tuple [.int m', .int n']) = (decide (m = m') && decide (n = n')) := by
  simp [PyData.eqv, PyData.eqvAll, Bool.beq_eq_decide_eq]
theorem w_bits (h : te σ H fun x H1 => ∃ i, x = .int i ∧ Q (.int (Builtin.Int.intBits i : Nat)) H1) : tBits te σ H Q := h
/-! ### heaps -/
theorem w_bm {T : String} {r : V → List V → Hp → VK → Prop} (h : te σ H fun x H1 => tyV K T x H1 ∧ tr σ H1 fun xs H2 => r x xs H2 Q) : tBM K T r te tr σ H Q := h
theorem w_bm0 {T : String} {r : V → List V → Hp → VK → Prop} (h : te σ H fun x H1 => tyV K T x H1 ∧ r x [] H1 Q) : tBM0 K T r te σ H Q := h
theorem w_tyL {R : Prop} (h : H a = some (.lst xs)) (q : R) : tyV K "list" (.ref a) H ∧ R := ⟨.inl ⟨rfl, _, SqL.of h⟩, q⟩
theorem w_tyS {R : Prop} {z : Str} (q : R) : tyV K "str" (.str z) H ∧ R := ⟨rfl, q⟩
theorem w_append (h : H a = some (.lst xs)) (hl : xs.length < sizeLine) (q : Q .non (upd H a (.lst (xs ++ [v])))) : rAppend (.ref a) [v] H Q := ⟨a, xs, v, rfl, rfl, h, hl, q⟩
theorem w_repT {k : Nat} (h : SqT K H a xs) (h0 : xs ≠ []) (h2 : 2 ≤ k) (h3 : k ≤ 1000) (h4 : xs.length ≤ 1000) (q : ∀ p, H p = none → Q (.ref p) (upd H p (.tup (List.replicate k xs).flatten))) : rRepT K (.ref a) (.int (k : Int)) H Q := ⟨a, k, xs, rfl, rfl, h, h0, by omega, by omega, h4, by rw [Int.toNat_natCast]; exact q⟩
theorem keep {p : Addr} {u : HO} (h : H a = some o) (hp : H p = none) : upd H p u a = some o := by
  rw [upd_ne (ne_of_none h hp)]; exact h
theorem get (e : Same H H') (h : H a = some o) : H' a = some o := e a o h
theorem same_new {p : Addr} {u : HO} (hp : H p = none) : Same H (upd H p u) := fun _ _ h => keep h hp
theorem same_in {H0 : Hp} {p : Addr} {u : HO} (s : Same H0 H) (hp : H p = none) : Same H0 (upd H p u) := s.trans (same_new hp)
theorem free_of {p : Addr} {u : HO} {q : Addr} (h : upd H p u q = none) : H q = none := by
  unfold upd at h
  split at h
  · cases h
  · exact h
theorem ne_new {p : Addr} {u : HO} {q : Addr} (h : upd H p u q = none) : q ≠ p := fun e => by
  rw [e, upd_same] at h; cases h
theorem sqL (h : H a = some (.lst xs)) : SqL K H a xs := SqL.of h
theorem sqT (h : H a = some (.tup xs)) : SqT K H a xs := SqT.of h
theorem tyT (h : H a = some (.tup xs)) : TyX K H (.ref a) (.type "tuple") := .base (.tup h)
end
/-! ### isinstance -/
section
variable {K : PySem.W.Frag} {H : Hp} {Q : VK}
theorem i_int_int {n : Int} (q : Q (.bl true) H) : rIsi K [.int n, .ty "int"] H Q := w_isi (.ty _) (.base (.int n)) (kit_ty (a := "int") (b := "int") (r := true) (by decide +kernel)) q
theorem i_int_bool {n : Int} (q : Q (.bl false) H) : rIsi K [.int n, .ty "bool"] H Q := w_isi (.ty _) (.base (.int n)) (kit_ty (a := "int") (b := "bool") (r := false) (by decide +kernel)) q
theorem i_int_str {n : Int} (q : Q (.bl false) H) : rIsi K [.int n, .ty "str"] H Q := w_isi (.ty _) (.base (.int n)) (kit_ty (a := "int") (b := "str") (r := false) (by decide +kernel)) q
theorem i_int_list {n : Int} (q : Q (.bl false) H) : rIsi K [.int n, .ty "list"] H Q := w_isi (.ty _) (.base (.int n)) (kit_ty (a := "int") (b := "list") (r := false) (by decide +kernel)) q
theorem i_int_tuple {n : Int} (q : Q (.bl false) H) : rIsi K [.int n, .ty "tuple"] H Q := w_isi (.ty _) (.base (.int n)) (kit_ty (a := "int") (b := "tuple") (r := false) (by decide +kernel)) q
theorem i_bl_int {b : Bool} (q : Q (.bl true) H) : rIsi K [.bl b, .ty "int"] H Q := w_isi (.ty _) (.base (.bl b)) (kit_ty (a := "bool") (b := "int") (r := true) (by decide +kernel)) q
theorem i_bl_bool {b : Bool} (q : Q (.bl true) H) : rIsi K [.bl b, .ty "bool"] H Q := w_isi (.ty _) (.base (.bl b)) (kit_ty (a := "bool") (b := "bool") (r := true) (by decide +kernel)) q
theorem i_bl_str {b : Bool} (q : Q (.bl false) H) : rIsi K [.bl b, .ty "str"] H Q := w_isi (.ty _) (.base (.bl b)) (kit_ty (a := "bool") (b := "str") (r := false) (by decide +kernel)) q
theorem i_bl_list {b : Bool} (q : Q (.bl false) H) : rIsi K [.bl b, .ty "list"] H Q := w_isi (.ty _) (.base (.bl b)) (kit_ty (a := "bool") (b := "list") (r := false) (by decide +kernel)) q
theorem i_bl_tuple {b : Bool} (q : Q (.bl false) H) : rIsi K [.bl b, .ty "tuple"] H Q := w_isi (.ty _) (.base (.bl b)) (kit_ty (a := "bool") (b := "tuple") (r := false) (by decide +kernel)) q
theorem i_str_int {z : Str} (q : Q (.bl false) H) : rIsi K [.str z, .ty "int"] H Q := w_isi (.ty _) (.base (.str z)) (kit_ty (a := "str") (b := "int") (r := false) (by decide +kernel)) q
theorem i_str_bool {z : Str} (q : Q (.bl false) H) : rIsi K [.str z, .ty "bool"] H Q := w_isi (.ty _) (.base (.str z)) (kit_ty (a := "str") (b := "bool") (r := false) (by decide +kernel)) q
theorem i_str_str {z : Str} (q : Q (.bl true) H) : rIsi K [.str z, .ty "str"] H Q := w_isi (.ty _) (.base (.str z)) (kit_ty (a := "str") (b := "str") (r := true) (by decide +kernel)) q
theorem i_str_list {z : Str} (q : Q (.bl false) H) : rIsi K [.str z, .ty "list"] H Q := w_isi (.ty _) (.base (.str z)) (kit_ty (a := "str") (b := "list") (r := false) (by decide +kernel)) q
theorem i_str_tuple {z : Str} (q : Q (.bl false) H) : rIsi K [.str z, .ty "tuple"] H Q := w_isi (.ty _) (.base (.str z)) (kit_ty (a := "str") (b := "tuple") (r := false) (by decide +kernel)) q
theorem i_non_int (q : Q (.bl false) H) : rIsi K [.non, .ty "int"] H Q := w_isi (.ty _) (.base .non) (kit_ty (a := "NoneType") (b := "int") (r := false) (by decide +kernel)) q
theorem i_non_bool (q : Q (.bl false) H) : rIsi K [.non, .ty "bool"] H Q := w_isi (.ty _) (.base .non) (kit_ty (a := "NoneType") (b := "bool") (r := false) (by decide +kernel)) q
theorem i_non_str (q : Q (.bl false) H) : rIsi K [.non, .ty "str"] H Q := w_isi (.ty _) (.base .non) (kit_ty (a := "NoneType") (b := "str") (r := false) (by decide +kernel)) q
theorem i_non_list (q : Q (.bl false) H) : rIsi K [.non, .ty "list"] H Q := w_isi (.ty _) (.base .non) (kit_ty (a := "NoneType") (b := "list") (r := false) (by decide +kernel)) q
theorem i_non_tuple (q : Q (.bl false) H) : rIsi K [.non, .ty "tuple"] H Q := w_isi (.ty _) (.base .non) (kit_ty (a := "NoneType") (b := "tuple") (r := false) (by decide +kernel)) q
theorem i_lst_int {a : Addr} {xs : List V} (h : H a = some (.lst xs)) (q : Q (.bl false) H) : rIsi K [.ref a, .ty "int"] H Q := w_isi (.ty _) (.base (.lst h)) (kit_ty (a := "list") (b := "int") (r := false) (by decide +kernel)) q
theorem i_lst_bool {a : Addr} {xs : List V} (h : H a = some (.lst xs)) (q : Q (.bl false) H) : rIsi K [.ref a, .ty "bool"] H Q := w_isi (.ty _) (.base (.lst h)) (kit_ty (a := "list") (b := "bool") (r := false) (by decide +kernel)) q
theorem i_lst_str {a : Addr} {xs : List V} (h : H a = some (.lst xs)) (q : Q (.bl false) H) : rIsi K [.ref a, .ty "str"] H Q := w_isi (.ty _) (.base (.lst h)) (kit_ty (a := "list") (b := "str") (r := false) (by decide +kernel)) q
theorem i_lst_list {a : Addr} {xs : List V} (h : H a = some (.lst xs)) (q : Q (.bl true) H) : rIsi K [.ref a, .ty "list"] H Q := w_isi (.ty _) (.base (.lst h)) (kit_ty (a := "list") (b := "list") (r := true) (by decide +kernel)) q
theorem i_lst_tuple {a : Addr} {xs : List V} (h : H a = some (.lst xs)) (q : Q (.bl false) H) : rIsi K [.ref a, .ty "tuple"] H Q := w_isi (.ty _) (.base (.lst h)) (kit_ty (a := "list") (b := "tuple") (r := false) (by decide +kernel)) q
theorem i_tup_int {a : Addr} {xs : List V} (h : H a = some (.tup xs)) (q : Q (.bl false) H) : rIsi K [.ref a, .ty "int"] H Q := w_isi (.ty _) (.base (.tup h)) (kit_ty (a := "tuple") (b := "int") (r := false) (by decide +kernel)) q
theorem i_tup_bool {a : Addr} {xs : List V} (h : H a = some (.tup xs)) (q : Q (.bl false) H) : rIsi K [.ref a, .ty "bool"] H Q := w_isi (.ty _) (.base (.tup h)) (kit_ty (a := "tuple") (b := "bool") (r := false) (by decide +kernel)) q
theorem i_tup_str {a : Addr} {xs : List V} (h : H a = some (.tup xs)) (q : Q (.bl false) H) : rIsi K [.ref a, .ty "str"] H Q := w_isi (.ty _) (.base (.tup h)) (kit_ty (a := "tuple") (b := "str") (r := false) (by decide +kernel)) q
theorem i_tup_list {a : Addr} {xs : List V} (h : H a = some (.tup xs)) (q : Q (.bl false) H) : rIsi K [.ref a, .ty "list"] H Q := w_isi (.ty _) (.base (.tup h)) (kit_ty (a := "tuple") (b := "list") (r := false) (by decide +kernel)) q
theorem i_tup_tuple {a : Addr} {xs : List V} (h : H a = some (.tup xs)) (q : Q (.bl true) H) : rIsi K [.ref a, .ty "tuple"] H Q := w_isi (.ty _) (.base (.tup h)) (kit_ty (a := "tuple") (b := "tuple") (r := true) (by decide +kernel)) q
theorem i_dK_int {a : Addr} {kvs : List (Key × V)} (h : H a = some (.dK kvs)) (q : Q (.bl false) H) : rIsi K [.ref a, .ty "int"] H Q := w_isi (.ty _) (.base (.dK h)) (kit_ty (a := "dict") (b := "int") (r := false) (by decide +kernel)) q
theorem i_dK_bool {a : Addr} {kvs : List (Key × V)} (h : H a = some (.dK kvs)) (q : Q (.bl false) H) : rIsi K [.ref a, .ty "bool"] H Q := w_isi (.ty _) (.base (.dK h)) (kit_ty (a := "dict") (b := "bool") (r := false) (by decide +kernel)) q
theorem i_dK_str {a : Addr} {kvs : List (Key × V)} (h : H a = some (.dK kvs)) (q : Q (.bl false) H) : rIsi K [.ref a, .ty "str"] H Q := w_isi (.ty _) (.base (.dK h)) (kit_ty (a := "dict") (b := "str") (r := false) (by decide +kernel)) q
theorem i_dK_list {a : Addr} {kvs : List (Key × V)} (h : H a = some (.dK kvs)) (q : Q (.bl false) H) : rIsi K [.ref a, .ty "list"] H Q := w_isi (.ty _) (.base (.dK h)) (kit_ty (a := "dict") (b := "list") (r := false) (by decide +kernel)) q
theorem i_dK_tuple {a : Addr} {kvs : List (Key × V)} (h : H a = some (.dK kvs)) (q : Q (.bl false) H) : rIsi K [.ref a, .ty "tuple"] H Q := w_isi (.ty _) (.base (.dK h)) (kit_ty (a := "dict") (b := "tuple") (r := false) (by decide +kernel)) q
end
/-! ### loops -/
/-- a while by a family of states -/
def Wt {α : Type} (S : α → L2.St) (Pv : α → Hp → Prop) (μ : α → Nat) (m : Nat) (tb : TS) (D : Ends) (σ : L2.St) (H : Hp) : Prop :=
  ∃ N : L2.St → Hp → Prop, (∀ σ' H', N σ' H' → ∃ m', m' < m ∧ ∃ a', σ' = S a' ∧ Pv a' H' ∧ m' = μ a') ∧ tb { D with nx := N, ct := N, bk := D.nx } σ H
theorem w_while {α : Type} {c : TT} {tb : TS} {D : Ends} {σ : L2.St} {H : Hp} (S : α → L2.St) (Pv : α → Hp → Prop) (μ : α → Nat) (a0 : α) (e : σ = S a0) (h0 : Pv a0 H)
    (hs : ∀ a H, Pv a H → c (S a) H fun b H1 => if b = true then Wt S Pv μ (μ a) tb D (S a) H1 else D.nx (S a) H1) : tWhile c tb D σ H := by
  refine ⟨fun m σ H => ∃ a, σ = S a ∧ Pv a H ∧ m = μ a, ⟨_, a0, e, h0, rfl⟩, ?_⟩
  rintro m σ H ⟨a, rfl, p, rfl⟩
  exact hs a H p
theorem w_turn {α : Type} {tb : TS} {D : Ends} {σ : L2.St} {H : Hp} {S : α → L2.St} {Pv : α → Hp → Prop} {μ : α → Nat} {m : Nat}
    (h : tb { D with nx := fun σ' H' => ∃ a', σ' = S a' ∧ Pv a' H' ∧ μ a' < m, ct := fun σ' H' => ∃ a', σ' = S a' ∧ Pv a' H' ∧ μ a' < m, bk := D.nx } σ H) : Wt S Pv μ m tb D σ H :=
  ⟨_, fun _ _ ⟨a', e, p, l⟩ => ⟨_, l, a', e, p, rfl⟩, h⟩
section
variable {K : PySem.W.Frag} {σ : L2.St} {H : Hp} {D : Ends} {g : TG} {tb : TS} {tl : TE} {ta : TA}
theorem w_forI {wi : TI} (h : wi σ H fun J H1 => ∃ W : Nat → Nat → L2.St → Hp → Prop, (∃ m, W 0 m σ H1) ∧ ∀ i m σ H, W i m σ H →
    (J.stop i H ∧ D.nx σ H) ∨ (J.go i H ∧ ∃ N : L2.St → Hp → Prop, (∀ σ' H', N σ' H' → ∃ m', m' < m ∧ W (i + 1) m' σ' H') ∧ ∀ x H', J.yld i H x H' → g x σ H' fun σ2 H2 => tb { D with nx := N, ct := N, bk := D.nx } σ2 H2)) : tFor wi g tb D σ H := h
theorem w_iL {R : It → Hp → Prop} (h : tl σ H fun x H1 => ∃ a, x = .ref a ∧ (∃ xs, SqL K H1 a xs) ∧ R (Itl K a) H1) : iList K tl σ H R := h
theorem w_iT {R : It → Hp → Prop} (h : tl σ H fun x H1 => ∃ a, x = .ref a ∧ (∃ xs, SqT K H1 a xs) ∧ R (Itt K a) H1) : iTup K tl σ H R := h
theorem w_iR1 {R : It → Hp → Prop} (h : ta σ H fun vs H1 => ∃ j : Int, vs = [.int j] ∧ -(2 ^ 62) ≤ j ∧ j < 2 ^ 62 ∧ R (Itr 0 j.toNat) H1) : iRng1 ta σ H R := h
theorem w_iR2 {R : It → Hp → Prop} (h : ta σ H fun vs H1 => ∃ i j : Int, vs = [.int i, .int j] ∧ (-(2 ^ 62) ≤ i ∧ i < 2 ^ 62 ∧ -(2 ^ 62) ≤ j ∧ j < 2 ^ 62) ∧ R (Itr i (j - i).toNat) H1) : iRng2 ta σ H R := h
theorem w_iZT {R : It → Hp → Prop} (h : ta σ H fun vs H1 => ∃ a b xs ys, vs = [.ref a, .ref b] ∧ ((SqL K H1 a xs ∧ SqL K H1 b ys ∧ R (Itz K a b) H1) ∨ (SqT K H1 a xs ∧ SqT K H1 b ys ∧ R (RZ.ItzT K a b) H1))) : RZ.iZipA K ta σ H R := h
theorem walk_zipT {a b : Addr} {xs ys : List V} {n : Nat} (hn : n = min xs.length ys.length) : Walk (RZ.ItzT K a b) n (fun H => SqT K H a xs ∧ SqT K H b ys) (YPair (fun i => xs[i]?) (fun i => ys[i]?)) where
  goes := fun i H hi h => ⟨xs, ys, xs[i], ys[i], h.1, h.2, List.getElem?_eq_getElem (by omega), List.getElem?_eq_getElem (by omega)⟩
  stops := fun H h => ⟨xs, ys, h.1, h.2, by omega⟩
  yields := fun i H x H' hi h y => by
    obtain ⟨T, u, v, e, n, e2, f1, f2⟩ := y
    exact ⟨T, u, v, e, n, e2, f1 xs h.1, f2 ys h.2⟩
theorem w_yes {QB : Bool → Hp → Prop} (q : QB true H) : tYes σ H QB := q
theorem w_lc {wi : TI} {tt : TT} {te : TE} {vs : List Nat} {Q : VK} (h : wi σ H fun J H1 => ∀ D, H1 D = none → ∃ W : Nat → Nat → Hp → Prop, (∃ m, W 0 m (upd H1 D (.lst []))) ∧ ∀ i m H, W i m H →
  (J.stop i H ∧ Q (.ref D) H) ∨ (J.go i H ∧ ∃ Nx : Hp → Prop, (∀ H', Nx H' → ∃ m', m' < m ∧ W (i + 1) m' H') ∧ ∀ x H', J.yld i H x H' → g x (wipe σ vs) H' fun σ2 H2 => wipe σ2 vs = wipe σ vs ∧ tt σ2 H2 fun b H3 =>
    if b = true then te σ2 H3 fun y H4 => ∃ acc, H4 D = some (.lst acc) ∧ acc.length < sizeLine ∧ Nx (upd H4 D (.lst (acc ++ [y]))) else Nx H3)) : tLc wi g tt te vs σ H Q := h
end
/-! ### tests that are known -/
theorem if_t {c : Bool} {A B : Prop} (hc : c = true) (h : A) : if c = true then A else B := by rw [if_pos hc]; exact h
theorem if_f {c : Bool} {A B : Prop} (hc : c = false) (h : B) : if c = true then A else B := by rw [hc, if_neg Bool.false_ne_true]; exact h
theorem if_2 {c : Prop} [Decidable c] {A B : Prop} (h1 : c → A) (h2 : ¬ c → B) : if decide c = true then A else B := by
  by_cases h : c
  · exact if_t (decide_eq_true h) (h1 h)
  · exact if_f (decide_eq_false h) (h2 h)
theorem if_n2 {c : Prop} [Decidable c] {A B : Prop} (h1 : ¬ c → A) (h2 : c → B) : if (!decide c) = true then A else B := by
  by_cases h : c
  · exact if_f (by rw [decide_eq_true h]; rfl) (h2 h)
  · exact if_t (by rw [decide_eq_false h]; rfl) (h1 h)
theorem if_b {c : Bool} {A B : Prop} (h1 : c = true → A) (h2 : c = false → B) : if c = true then A else B := by
  cases c with
  | true => exact if_t rfl (h1 rfl)
  | false => exact if_f rfl (h2 rfl)
theorem V.int_inj {i j : Int} : (V.int i = V.int j) ↔ i = j := ⟨fun h => V.int.inj h, fun h => by rw [h]⟩
end Go

set_option Elab.async false
set_option linter.all false
set_option maxRecDepth 100000
set_option maxHeartbeats 4000000
namespace Go
open PySem PySem.Spec PyProof.Rows L2
/-! ### constants, texts -/
theorem pe_globI {X : Cx} {x : Str} {i : Int} {pos : Pos} (hg : Gl X x) (h : ∃ t, X.mg x = some (.int i t)) (hd : (x == ("__debug__" : Str)) = false := by decide) : PE X (.Name x pos) (tC (.int i)) := by
  obtain ⟨t, h⟩ := h
  exact pe_glob hg h ⟨t, rfl⟩ hd
theorem pe_globS {X : Cx} {x z : Str} {pos : Pos} (hg : Gl X x) (h : ∃ t, X.mg x = some (.str z t)) (hd : (x == ("__debug__" : Str)) = false := by decide) : PE X (.Name x pos) (tC (.str z)) := by
  obtain ⟨t, h⟩ := h
  exact pe_glob hg h ⟨t, rfl⟩ hd
abbrev one1 (c : Nat) : V := .str ⟨#[c]⟩
abbrev rListStr : List V → Hp → VK → Prop := fun xs H Q => ∃ z : Str, xs = [.str z] ∧ z.length ≤ sizeLine ∧ ∀ l, H l = none → Q (.ref l) (upd H l (.lst (z.cps.toList.map one1)))
theorem call_list_sign {X : Cx} (hc : X.calm = true) : CallR X (.type "list") rListStr := by
  intro pins s σ H xs us Q I r h
  obtain ⟨z, rfl, hz, q⟩ := h
  obtain ⟨u, rfl, t, rfl⟩ := vals1 r
  refine call_list_str (I.ok.hd hc) z t (hn := hz) fun h' tk acc c' hk hS hacc => ?_
  refine ⟨.ref s.heap.objs.size, upd H s.heap.objs.size (.lst (z.cps.toList.map one1)), I.laid hk (Nat.le_refl _) (show ObjOk X.prog X.w _ _ _ (.lst (z.cps.toList.map one1)) from ⟨?_, acc.toList, c', ?_, ?_⟩), rfl, q _ (I.hok.fresh (Nat.le_refl _))⟩
  · rw [List.length_map, Array.length_toList]; exact hz
  · have el : acc.toList.length = acc.size := by simp
    refine vals_of_at (by rw [List.length_map, el, hacc.1, Array.length_toList]) fun j x w h1 h2 => ?_
    obtain ⟨c, u, hcu, rfl⟩ := hacc.2 j w (by rw [← Array.getElem?_toList]; exact h2)
    rw [List.getElem?_map, Array.getElem?_toList, hcu] at h1
    cases h1
    exact ⟨u, rfl⟩
  · rw [Array.toArray_toList]; exact hS
abbrev rRepStr : R2 := fun x y H Q => ∃ (z : Str) (n : Nat), x = .str z ∧ y = .int (n : Int) ∧ z.length * n ≤ 1000 ∧ n ≤ 1000 ∧ Q (.str (Txt.mul z (n : Int))) H
theorem op_rep_str {X : Cx} : OpR X (binaryOp .Mult) rRepStr := by
  intro pins s σ H x y v u Q I rx ry h
  obtain ⟨z, n, rfl, rfl, hz, hn, q⟩ := h
  obtain ⟨t, rfl⟩ := rx
  obtain ⟨t', rfl⟩ := ry
  refine SB.mul ⟨?_, fun h1 h2 => ?_, fun h1 h2 => ?_⟩ fun t2 k => ⟨.str (Txt.mul z (n : Int)), H, ?_, ⟨_, rfl⟩, q⟩
  · rw [decide_eq_false (by omega), decide_eq_false (by omega)]; rfl
  · intro h3
    have h4 : (z.length : Int) * n ≤ 1000 := by exact_mod_cast hz
    have h5 : 1 ≤ (n : Int) := by omega
    have h6 : (1000 : Int) ≤ (2 ^ 63 - 1) / n := by
      rw [Int.le_ediv_iff_mul_le (by omega)]
      omega
    have h7 : (z.length : Int) ≤ z.length * n := by
      have := Int.mul_le_mul_of_nonneg_left h5 (Int.natCast_nonneg z.length)
      omega
    omega
  · rw [Int.toNat_natCast]
    have h9 : ¬ z.length * n > sizeLine := Nat.not_lt.mpr (Nat.le_trans hz (by decide))
    exact decide_eq_false h9
  · exact I.tok _
abbrev rLeS : R2 := fun x y H Q => ∃ i j, x = .str i ∧ y = .str j ∧ Q (.bl (!decide (j.cps.toList < i.cps.toList))) H
abbrev rGtS : R2 := fun x y H Q => ∃ i j, x = .str i ∧ y = .str j ∧ Q (.bl (decide (j.cps.toList < i.cps.toList))) H
abbrev rGeS : R2 := fun x y H Q => ∃ i j, x = .str i ∧ y = .str j ∧ Q (.bl (!decide (i.cps.toList < j.cps.toList))) H
abbrev rLtS : R2 := fun x y H Q => ∃ i j, x = .str i ∧ y = .str j ∧ Q (.bl (decide (i.cps.toList < j.cps.toList))) H
abbrev tJoin (K : PySem.W.Frag) (to te : TE) : TE := tM1 (fun x xs H Q => ∃ a p, ∃ ys : List Str, x = .str a ∧ xs = [.ref p] ∧ (SqL K H p (ys.map V.str) ∨ SqT K H p (ys.map V.str)) ∧
      (ys.map (·.length)).sum + ys.length * a.length ≤ 16777216 ∧ Q (.str (Txt.join a ys)) H) to te
abbrev tSplit (to te : TE) : TE := tM1 (fun x xs H Q => ∃ a b, x = .str a ∧ xs = [.str b] ∧ (b.length == 0) = false ∧ a.length + 2 ≤ sizeLine ∧ rNewStrs (Txt.split a b) H Q) to te
section
variable {K : PySem.W.Frag} {σ : L2.St} {H H' : Hp} {Q : VK} {te to : TE} {a b : Addr} {xs ys : List V} {v : V} {z z' : Str}
theorem w_join (h : to σ H fun x H1 => (∃ a, x = .str a) ∧ te σ H1 fun y H2 => ∃ a p, ∃ ys : List Str, x = .str a ∧ [y] = [.ref p] ∧ (SqL K H2 p (ys.map V.str) ∨ SqT K H2 p (ys.map V.str)) ∧
      (ys.map (·.length)).sum + ys.length * a.length ≤ 16777216 ∧ Q (.str (Txt.join a ys)) H2) : tJoin K to te σ H Q := h
theorem w_joinL {ys : List Str} (h : H a = some (.lst (ys.map V.str))) (hl : (ys.map (·.length)).sum + ys.length * z.length ≤ 16777216) (q : Q (.str (Txt.join z ys)) H) :
    ∃ a', ∃ p, ∃ ys : List Str, V.str z = .str a' ∧ [V.ref a] = [.ref p] ∧ (SqL K H p (ys.map V.str) ∨ SqT K H p (ys.map V.str)) ∧ (ys.map (·.length)).sum + ys.length * a'.length ≤ 16777216 ∧ Q (.str (Txt.join a' ys)) H :=
  ⟨z, a, ys, rfl, rfl, .inl (SqL.of h), hl, q⟩
theorem w_strE {R : Prop} (q : R) : (∃ a, V.str z = .str a) ∧ R := ⟨⟨z, rfl⟩, q⟩
theorem w_lenStr (hl : z.length ≤ sizeLine) (q : Q (.int z.length) H) : rLenStr [.str z] H Q := ⟨z, rfl, hl, q⟩
theorem w_ixS {i : Int} {c : Nat} (hl : z.length ≤ sizeLine) (hc : atI z.cps.toList i = some c) (q : Q (one1 c) H) : rIxS (.str z) (.int i) H Q := ⟨z, i, c, rfl, rfl, hl, hc, q⟩
theorem w_slS {lo hi : Option Int} (hl : z.length ≤ sizeLine) (q : Q (.str (cutS z lo hi)) H) : rSlS (.str z) lo hi H Q := ⟨z, rfl, hl, q⟩
theorem w_addStr (hl : z.length + z'.length ≤ sizeLine) (q : Q (.str (z ++ z')) H) : rAddStr (.str z) (.str z') H Q := ⟨z, z', rfl, rfl, hl, q⟩
theorem w_inS {c : Nat} (q : Q (.bl (decide (c ∈ z.cps.toList))) H) : rInS (one1 c) (.str z) H Q := ⟨c, z, rfl, rfl, q⟩
theorem w_leS (q : Q (.bl (!decide (z'.cps.toList < z.cps.toList))) H) : rLeS (.str z) (.str z') H Q := ⟨z, z', rfl, rfl, q⟩
theorem w_all {bs : List Bool} (h : H a = some (.lst (bs.map V.bl))) (q : Q (.bl (bs.all id)) H) : rAll K [.ref a] H Q := ⟨a, bs, rfl, SqL.of h, q⟩
theorem w_any {bs : List Bool} (h : H a = some (.lst (bs.map V.bl))) (q : Q (.bl (bs.any id)) H) : rAny K [.ref a] H Q := ⟨a, bs, rfl, SqL.of h, q⟩
theorem w_iS {R : It → Hp → Prop} (h : te σ H fun v H1 => ∃ x, v = .str x ∧ R (Its x) H1) : iStr te σ H R := h
theorem w_iSE {R : Str → Prop} (q : R z) : ∃ x, V.str z = .str x ∧ R x := ⟨z, rfl, q⟩
theorem w_listStr (hl : z.length ≤ sizeLine) (q : ∀ l, H l = none → Q (.ref l) (upd H l (.lst (z.cps.toList.map one1)))) : rListStr [.str z] H Q := ⟨z, rfl, hl, q⟩
theorem w_listT (h : SqT K H a ys) (q : ∀ l, H l = none → Q (.ref l) (upd H l (.lst ys))) : Evl.rListS K [.ref a] H Q := ⟨a, ys, rfl, .inr h, q⟩
theorem w_listL (h : SqL K H a ys) (q : ∀ l, H l = none → Q (.ref l) (upd H l (.lst ys))) : Evl.rListS K [.ref a] H Q := ⟨a, ys, rfl, .inl h, q⟩
theorem w_gUnl {n : Nat} {tg : TGs} {QS : L2.St → Hp → Prop} (h : SqL K H a xs) (hn : xs.length = n) (q : tg xs σ H QS) : gUnl K n tg (.ref a) σ H QS := ⟨a, xs, rfl, h, hn, q⟩
theorem w_dnew (q : ∀ p, H p = none → Q (.ref p) (upd H p (.dK []))) : tDNewK σ H Q := q
theorem w_in {neg : Bool} (h : SqL K H a xs ∨ SqT K H a xs) (fx : flatV v = true) (fs : xs.all flatV = true) (q : Q (.bl (if neg then !inV v xs else inV v xs)) H) : rIn K neg v (.ref a) H Q := ⟨a, xs, rfl, h, fx, fs, q⟩
theorem w_rep_str {n : Nat} (h1 : z.length * n ≤ 1000) (h2 : n ≤ 1000) (q : Q (.str (Txt.mul z (n : Int))) H) : rRepStr (.str z) (.int (n : Int)) H Q := ⟨z, n, rfl, rfl, h1, h2, q⟩
end
/-! ### what kind of thing a value is -/
inductive Kd (H : Hp) : V → String → Prop
  | int (n : Int) : Kd H (.int n) "int"
  | bl (b : Bool) : Kd H (.bl b) "bool"
  | str (z : Str) : Kd H (.str z) "str"
  | non : Kd H .non "NoneType"
  | lst {a : Addr} {xs : List V} (h : H a = some (.lst xs)) : Kd H (.ref a) "list"
  | tup {a : Addr} {xs : List V} (h : H a = some (.tup xs)) : Kd H (.ref a) "tuple"
  | dict {a : Addr} {kvs : List (Key × V)} (h : H a = some (.dK kvs)) : Kd H (.ref a) "dict"
section
variable {K : PySem.W.Frag} {H H' : Hp} {Q : VK} {v : V} {T : String}
theorem Kd.same (h : Kd H v T) (s : Same H H') : Kd H' v T := by
  cases h with
  | int n => exact .int n
  | bl b => exact .bl b
  | str z => exact .str z
  | non => exact .non
  | lst h => exact .lst (s _ _ h)
  | tup h => exact .tup (s _ _ h)
  | dict h => exact .dict (s _ _ h)
theorem k_int (h : Kd H v T) (q : Q (.bl (T == "int" || T == "bool")) H) : rIsi K [v, .ty "int"] H Q := by
  cases h with
  | int n => exact i_int_int q
  | bl b => exact i_bl_int q
  | str z => exact i_str_int q
  | non => exact i_non_int q
  | lst h => exact i_lst_int h q
  | tup h => exact i_tup_int h q
  | dict h => exact i_dK_int h q
theorem k_bool (h : Kd H v T) (q : Q (.bl (T == "bool")) H) : rIsi K [v, .ty "bool"] H Q := by
  cases h with
  | int n => exact i_int_bool q
  | bl b => exact i_bl_bool q
  | str z => exact i_str_bool q
  | non => exact i_non_bool q
  | lst h => exact i_lst_bool h q
  | tup h => exact i_tup_bool h q
  | dict h => exact i_dK_bool h q
theorem k_str (h : Kd H v T) (q : Q (.bl (T == "str")) H) : rIsi K [v, .ty "str"] H Q := by
  cases h with
  | int n => exact i_int_str q
  | bl b => exact i_bl_str q
  | str z => exact i_str_str q
  | non => exact i_non_str q
  | lst h => exact i_lst_str h q
  | tup h => exact i_tup_str h q
  | dict h => exact i_dK_str h q
theorem k_tuple (h : Kd H v T) (q : Q (.bl (T == "tuple")) H) : rIsi K [v, .ty "tuple"] H Q := by
  cases h with
  | int n => exact i_int_tuple q
  | bl b => exact i_bl_tuple q
  | str z => exact i_str_tuple q
  | non => exact i_non_tuple q
  | lst h => exact i_lst_tuple h q
  | tup h => exact i_tup_tuple h q
  | dict h => exact i_dK_tuple h q
theorem k_list (h : Kd H v T) (q : Q (.bl (T == "list")) H) : rIsi K [v, .ty "list"] H Q := by
  cases h with
  | int n => exact i_int_list q
  | bl b => exact i_bl_list q
  | str z => exact i_str_list q
  | non => exact i_non_list q
  | lst h => exact i_lst_list h q
  | tup h => exact i_tup_list h q
  | dict h => exact i_dK_list h q
end
/-! ### a Hook with one more Bool -/
def obsE (n : Nat) (fa : List He.Fa) (fn : List He.DefD) (ex : PySem.W.Frag → Bool) (g : Addr → Option Obj) : He.AlD × Bool :=
  (fun K => (He.obsD fa fn K, ex K)) (He.frG g (He.asD g n))
def hookE (n : Nat) (fa : List He.Fa) (fn : List He.DefD) (ex : PySem.W.Frag → Bool) : PySem.W.Hook where
  α := He.AlD × Bool
  obs := fun s => obsE n fa fn ex s.heap.get?
  val := fun _ => (He.valD fn, true)
  says := fun _ h => ∃ K : PySem.W.Frag, K.In h ∧ He.SaysD fa fn K ∧ ex K = true
  of := fun _ _ e => ⟨_, He.frG_in, congrArg Prod.fst e, congrArg Prod.snd e⟩
  keeps := fun _ _ _ ⟨K, hK, c⟩ k => ⟨K, PySem.W.Frag.In.keeps hK k, c⟩
theorem obsE_eq {n : Nat} {fa : List He.Fa} {fn : List He.DefD} {ex : PySem.W.Frag → Bool} {g : Addr → Option Obj} {s : Shared} (h : ∀ a, g a = s.heap.get? a) : obsE n fa fn ex g = (hookE n fa fn ex).obs s := by
  have e : g = s.heap.get? := funext h
  rw [e] <;> rfl
/-! ### defs as values -/
theorem fun_ne {K : PySem.W.Frag} {x y : Str} {st st' : Stmt} {f g : Addr} {fd gd : FuncData} (F : FnP K x st f fd) (G : FnP K y st' g gd) (h : x ≠ y) : f ≠ g := fun e => by
  subst e
  obtain ⟨_, _, _, _, _, _, _, _, _, _, e1, l1, _⟩ := F.ex
  obtain ⟨_, _, _, _, _, _, _, _, _, _, e2, l2, _⟩ := G.ex
  rw [l1] at l2
  have e3 : fd = gd := by
    have := Option.some.inj l2
    injection this with _ _ d _
    injection d
  rw [e1, e2] at e3
  have e4 := congrArg FuncData.name e3
  exact h e4
theorem held_of {P : Program} {w : World} {K : PySem.W.Frag} {mg : Str → Option Value} {base : Heap} {x : Str} {k : Nat} {ps : List Str} {sp : Sp} {f : Addr} (g : mg x = some (.ref f)) (h : Has P w K mg base x k ps sp) : Held P w K mg base k f sp := by
  obtain ⟨f', fd, gm, kp, b, F⟩ := h
  rw [g] at gm
  cases gm
  exact ⟨fd, ps, F, kp, b⟩
theorem w_callA {σ : L2.St} {H : Hp} {Q : VK} {i : Nat} {f : Addr} {sp : Sp} {S : Addr → Option Sp} {tr : TA} (hs : σ[i]? = some (some (.ref f))) (hS : S f = some sp) (h : tr σ H fun vs H1 => sp vs H1 Q E0) : tCallA i S tr σ H Q := ⟨f, sp, hs, hS, h⟩
abbrev rStrInt : List V → Hp → VK → Prop := fun xs H Q => ∃ i : Int, xs = [.int i] ∧ i.natAbs.log2 < 1920 ∧ Q (.str (toString i)) H
end Go

set_option Elab.async false
set_option linter.all false
set_option maxRecDepth 100000
set_option maxHeartbeats 4000000
namespace Go
open PySem PySem.Spec PyProof.Rows L2
/-! ### set(xs), xs a list of keys of one kind (ints or texts) -/
section
variable {κ : Type} [DecidableEq κ]
/-- each once, as first met -/
def once (l : List κ) : List κ := l.foldl (fun acc k => if k ∈ acc then acc else acc ++ [k]) []
theorem once_snoc (l : List κ) (k : κ) : once (l ++ [k]) = if k ∈ once l then once l else once l ++ [k] := by
  unfold once
  rw [List.foldl_append]; rfl
theorem snoc_ind {P : List κ → Prop} (h0 : P []) (hs : ∀ l x, P l → P (l ++ [x])) (l : List κ) : P l := by
  have h : ∀ m : List κ, P m.reverse := fun m => by
    induction m with
    | nil => exact h0
    | cons x m ih => rw [List.reverse_cons]; exact hs _ _ ih
  have := h l.reverse
  rw [List.reverse_reverse] at this
  exact this
theorem mem_once {k : κ} : ∀ {l : List κ}, k ∈ once l ↔ k ∈ l := by
  intro l
  refine snoc_ind (P := fun l => k ∈ once l ↔ k ∈ l) Iff.rfl (fun l x ih => ?_) l
  · rw [once_snoc]
    by_cases h : x ∈ once l
    · rw [if_pos h]
      constructor
      · intro m; exact List.mem_append.mpr (.inl (ih.mp m))
      · intro m
        rcases List.mem_append.mp m with m | m
        · exact ih.mpr m
        · rw [List.mem_singleton.mp m]; exact h
    · rw [if_neg h, List.mem_append, List.mem_append, ih]
theorem once_len (l : List κ) : (once l).length ≤ l.length := by
  refine snoc_ind (P := fun l => (once l).length ≤ l.length) (Nat.le_refl _) (fun l x ih => ?_) l
  · rw [once_snoc, List.length_append]
    split
    · exact Nat.le_succ_of_le ih
    · rw [List.length_append]; exact Nat.add_le_add_right ih _
theorem one_nodup (x : κ) : [x].Nodup := List.nodup_cons.mpr ⟨List.not_mem_nil, .nil⟩
theorem once_nodup_iff (l : List κ) : (once l).length = l.length ↔ l.Nodup := by
  refine snoc_ind (P := fun l => (once l).length = l.length ↔ l.Nodup) ⟨fun _ => .nil, fun _ => rfl⟩ (fun l x ih => ?_) l
  have hl := once_len l
  rw [once_snoc, List.length_append, List.nodup_append]
  by_cases h : x ∈ once l
  · rw [if_pos h]
    refine ⟨fun e => ?_, fun ⟨_, _, d⟩ => absurd rfl (d x (mem_once.mp h) x (.head _))⟩
    have : (once l).length = l.length + 1 := e
    omega
  · rw [if_neg h, List.length_append]
    refine ⟨fun e => ⟨ih.mp (Nat.add_right_cancel e), one_nodup x, fun a ha b hb e2 => ?_⟩, fun ⟨n, _, _⟩ => by rw [ih.mpr n]⟩
    rw [List.mem_singleton.mp hb] at e2
    rw [← e2] at h
    exact h (mem_once.mpr ha)
theorem once_const {l : List κ} {k : κ} (h : ∀ x ∈ l, x = k) : (once l).length ≤ 1 := by
  have key : once l = [] ∨ once l = [k] := by
    revert h
    refine snoc_ind (P := fun l => (∀ x ∈ l, x = k) → once l = [] ∨ once l = [k]) (fun _ => .inl rfl) (fun l x ih h => ?_) l
    have hx : x = k := h x (List.mem_append.mpr (.inr (.head _)))
    rw [once_snoc, hx]
    rcases ih fun y hy => h y (List.mem_append.mpr (.inl hy)) with e | e
    · rw [e, if_neg (fun m => by cases m)]; exact .inr rfl
    · rw [e, if_pos (.head _)]; exact .inr rfl
  rcases key with e | e <;> rw [e]
  · exact Nat.zero_le _
  · exact Nat.le_refl _
theorem once_two {l : List κ} {x y : κ} (hx : x ∈ l) (hy : y ∈ l) (ne : x ≠ y) : 1 < (once l).length := by
  have h1 := mem_once.mpr hx
  have h2 := mem_once.mpr hy
  match once l, h1, h2 with
  | [], h1, _ => cases h1
  | [a], h1, h2 =>
    rw [List.mem_singleton] at h1 h2
    exact absurd (h1.trans h2.symm) ne
  | a :: b :: r, _, _ => exact Nat.succ_lt_succ (Nat.zero_lt_succ _)
theorem once_own (l : List κ) : (once l).Nodup := by
  refine snoc_ind (P := fun l => (once l).Nodup) .nil (fun l x ih => ?_) l
  rw [once_snoc]
  split
  · exact ih
  · rename_i h
    refine List.nodup_append.mpr ⟨ih, one_nodup x, fun a ha b hb e => ?_⟩
    rw [List.mem_singleton.mp hb] at e
    exact h (e ▸ ha)
end
/-! ### the loop of set.update over what is walked, any kind of keys -/
section
variable {prog : Program} {w : World} {A : Around} {R : Result → Shared → Prop} {I : Addr} {fp wr : List Addr} {G : Array GenState → Array GenState → Prop} {n : Nat} {P : Nat → Value → Prop} {St : Nat → Shared → Prop}
  {κ : Type} [DecidableEq κ] {knd : PySem.KeyKind prog w κ}
theorem set_same {h h' : Heap} {S : Addr} {f : κ → Bool} {m : Nat} (hS : h.SetOf knd S f m) (k : ∀ o, h.get? S = some o → h'.get? S = some o) : h'.SetOf knd S f m := by
  obtain ⟨o, es, ep, t, ho, r⟩ := hS
  exact ⟨o, es, ep, t, k o ho, r⟩
theorem set_step {h : Heap} {S : Addr} {ks : List κ} {i : Nat} {k : κ} (hk : ks[i]? = some k) (hS : h.SetOf knd S (fun x => decide (x ∈ once (ks.take i)) || decide (x = k)) (if decide (k ∈ once (ks.take i)) = true then (once (ks.take i)).length else (once (ks.take i)).length + 1)) :
    h.SetOf knd S (fun x => decide (x ∈ once (ks.take (i + 1)))) (once (ks.take (i + 1))).length := by
  have e0 : ks.take (i + 1) = ks.take i ++ [k] := by rw [List.take_add_one, hk]; rfl
  have e1 : (fun x => decide (x ∈ once (ks.take i)) || decide (x = k)) = fun x => decide (x ∈ once (ks.take (i + 1))) := by
    funext x
    rw [← Bool.decide_or]
    refine decide_eq_decide.mpr ?_
    rw [mem_once, mem_once, e0, List.mem_append, List.mem_singleton]
  have e2 : (if decide (k ∈ once (ks.take i)) = true then (once (ks.take i)).length else (once (ks.take i)).length + 1) = (once (ks.take (i + 1))).length := by
    rw [e0, once_snoc]
    by_cases m : k ∈ once (ks.take i)
    · rw [if_pos m, if_pos (decide_eq_true m)]
    · rw [if_neg m, if_neg (by rw [decide_eq_false m]; exact Bool.false_ne_true), List.length_append]; rfl
  rw [e1, e2] at hS
  exact hS
theorem set_loop (W : WalksS prog w A.in1 I fp wr G n P St) (S : Addr) (hSf : S ∉ fp) (ks : List κ) (hn : ks.length = n) (hb : n + 1 < scanBound)
    (hval : ∀ i v, P i v → ∃ k, ks[i]? = some k ∧ knd.is k v = true ∧ v.scannable = true) :
    ∀ (m i : Nat) (s : Shared), n - i = m → i ≤ n → St i s → s.heap.SetOf knd S (fun x => decide (x ∈ once (ks.take i))) (once (ks.take i)).length →
      (∀ s', Moved (S :: wr) G s s' → s'.heap.SetOf knd S (fun x => decide (x ∈ once ks)) (once ks).length → R (.ok (.ret .none)) s') →
      codeAny (model prog w) A (.builtin "set.update.loop" ⟨[.ref S, .ref I], []⟩) R s := by
  have up : ∀ b ∈ wr, b ∈ S :: wr := fun b hb => .tail _ hb
  have out : S ∉ wr := fun h => hSf (W.sub _ h)
  intro m
  induction m with
  | zero =>
    intro i s hm hi st hS fin
    obtain rfl : i = n := by omega
    rw [List.take_of_length_le (by omega)] at hS
    refine codeAny_builtin PyProof.Rows.F.entry_set_update_loop ?_
    rw [Around.under_plainId PyProof.Rows.F.plain_set_update_loop _]
    refine wpAny_bind (m := pyNext (.ref I)) (W.done s _ _ st fun s' mv => ?_)
    exact wpAny_pure (fin s' (mv.mono up) (set_same hS fun o e => mv.heap S _ out e))
  | succ m ih =>
    intro i s hm hi st hS fin
    refine codeAny_builtin PyProof.Rows.F.entry_set_update_loop ?_
    rw [Around.under_plainId PyProof.Rows.F.plain_set_update_loop _]
    refine wpAny_bind (m := pyNext (.ref I)) (W.item i s _ _ (by omega) st fun v s' hP st' mv => ?_)
    obtain ⟨k, hk, is_k, sc⟩ := hval i v hP
    have hS' := set_same (h' := s'.heap) hS fun o e => mv.heap S _ out e
    have few := once_len (ks.take i)
    rw [List.length_take] at few
    refine wpAny_bind (m := holding [v] (setAdd S v)) (wpAny_holding ?_)
    unfold setAdd
    refine wpAny_holding (wpAny_bind (knd.pyHash is_k ?_))
    refine wpAny_setAddHashed_of (knd := knd) (s := { s' with toks := s'.toks + 1 }) is_k sc hS' (by omega) fun h' sb hS2 => ?_
    have off : ∀ b o, b ≠ S → s'.heap.get? b = some o → h'.get? b = some o := fun b o nb e => by rw [sb.2 b nb]; exact e
    refine wpAny_pure ⟨plainId_quiet PyProof.Rows.F.plain_set_update_loop _, ih (i + 1) _ (by omega) (by omega) (W.frame _ s' _ _ st' (Nat.le_succ _) fun b hb o e => off b o (fun z => hSf (z ▸ hb)) e) (set_step hk hS2) fun s'' mv2 hS3 => ?_⟩
    exact fin s'' (Moved.trans W.gtrans ((mv.mono up).then_heap (Nat.le_succ _) fun b o hb e => off b o (fun z => hb (z ▸ .head _)) e) mv2) hS3
end
/-! ### set(xs) of a list of keys -/
section
variable {prog : Program} {w : World} {A : Around} {E : Value → Shared → Prop} {s : Shared} {κ : Type} [DecidableEq κ] {knd : PySem.KeyKind prog w κ}
/-- a new set -/
abbrev set0 (led : Bool) : Obj := { cls := .type "set", dict := none, data := .set #[] 0 (.fresh 0 0 led) }
theorem set_of_list {l : Addr} {items : Array Value} (ks : List κ) {Q : Value → Shared → Prop} (hh : A.handled = none) (hl : s.heap.IsList l items) (hn : ks.length = items.size) (hb : items.size + 1 < scanBound)
    (hi : ∀ (i : Nat) (v : Value), items[i]? = some v → ∃ k, ks[i]? = some k ∧ knd.is k v = true ∧ v.scannable = true)
    (h : ∀ (h' : Heap) (tk : Nat), h'.SetOf knd s.heap.objs.size (fun x => decide (x ∈ once ks)) (once ks).length → (∀ b o, s.heap.get? b = some o → h'.get? b = some o) → Q (.ref s.heap.objs.size) { s with heap := h', toks := tk }) :
    wpAny (model prog w) A (call (.type "set") [.ref l]) Q E s := by
  obtain ⟨c, tl, hmro⟩ := PySem.F.called_set.mro
  have hmade := PySem.F.called_set.made
  have hsub := PySem.F.called_set.sub
  have h1 := PySem.F.called_set.notType
  have h2 := PySem.F.called_set.canCreate
  have hct := PySem.F.typeCall_set_1 (.ref l)
  refine wpAny_call (codeAny_of_tree ?_)
  refine wpAny_pure ⟨Code.quiet_builtin _ (by decide +kernel), codeAny_builtin PySem.F.entry_type_call ?_⟩
  rw [Around.under_plain (weight_type_call_type "set" [.ref l] []) rfl]
  repeat (any_goals (first | assumption | wp_step))
  refine codeAny_mono (code_set_new_1 (.ref l) (E := E) (Q₁ := fun obj s₁ => ∃ led : Bool, obj = .ref s.heap.objs.size ∧ s₁ = { s with heap := s.heap.push (set0 led) }) fun led => ⟨led, rfl, rfl⟩) fun r s₁ hr => ?_
  cases r with
  | error e => exact hr
  | ok fl =>
  cases fl with
  | ret obj =>
    obtain ⟨led, rfl, rfl⟩ := hr
    have hT : Shared.TypeIs { s with heap := s.heap.push (set0 led) } (.ref s.heap.objs.size) "set" := ⟨_, Heap.get?_push_size _ rfl, rfl⟩
    have hli := PySem.F.called_set.init.lookup
    have hbi := PySem.F.called_set.init.bind (.ref s.heap.objs.size)
    repeat (any_goals (first | assumption | wp_step))
    refine codeAny_mono (codeAny_call_builtin (R := wants (fun r s₂ => r = .none ∧ ∃ h' tk, s₂ = { s with heap := h', toks := tk } ∧ h'.SetOf knd s.heap.objs.size (fun x => decide (x ∈ once ks)) (once ks).length ∧ ∀ b o, s.heap.get? b = some o → h'.get? b = some o) E)
      PySem.F.called_set.init.plain PySem.F.entry_set_init (check_set_init_1 hT ?_)) fun r₂ s₂ hr₂ => ?_
    · obtain ⟨⟨cl, di, da, sl⟩, hol, hcl, nl, hdl⟩ := hl
      simp only at hcl hdl
      subst hcl; subst hdl
      have hlS : l < s.heap.objs.size := Heap.lt_size hol
      have hol' : (s.heap.push (set0 led)).get? l = some { cls := .type "list", dict := di, data := .seq items nl, slots := sl } := Heap.get?_push_of_some _ hol
      have hsls := PySem.F.sub_list_set
      have hslf := PySem.F.sub_list_frozenset
      have hne : (Value.type "list" == Value.type "dict") = false := by decide
      have hl1 : (s.heap.push (set0 led)).IsList l items := ⟨_, hol', rfl, nl, rfl⟩
      unfold Builtin.«set.__init__» noKeywords Builtin.Frozenset.updateFrom
      generalize hPI : pyIter = PI
      wp_walk
      subst hPI
      refine wpAny_pyIter_list hl1 (wpAny_bind (wpAny_runValue ?_))
      have hI : (s.heap.push (set0 led)).objs.size = s.heap.objs.size + 1 := Heap.size_push ..
      have hh3 : A.in1.in1.in1.handled = none := by simp [hh]
      refine set_loop (knd := knd) ((Walks.list hh3 _ l (by rw [hI]; exact Nat.ne_of_lt (Nat.lt_succ_of_lt hlS)) items).toS) s.heap.objs.size (by
        rw [hI]
        simp only [List.mem_cons, List.not_mem_nil, or_false, not_or]
        exact ⟨Nat.ne_of_lt (Nat.lt_succ_self _), Nat.ne_of_gt hlS⟩) ks hn hb hi (items.size - 0) 0 _ rfl (Nat.zero_le _) ⟨⟨_, Heap.get?_push_size _ rfl, rfl, rfl⟩, hl1.push _⟩ ?_ ?_
      · have hget : ((s.heap.push (set0 led)).push { cls := .type "list_iterator", data := .fields #[.ref l, .int 0 0] }).get? s.heap.objs.size = some (set0 led) := Heap.get?_push_of_some _ (Heap.get?_push_size _ rfl)
        exact (PyProof.Rows.setObjOf_fresh (knd := knd) led).setOf hget (by unfold scanBound; omega)
      · intro s' mv hS'
        obtain ⟨h', g', d', tk', os'⟩ := s'
        obtain rfl : g' = s.gens := mv.gens
        obtain rfl : d' = s.drawn := mv.drawn
        obtain rfl : os' = s.os := mv.os
        refine wpAny_pure (wpAny_pure ⟨rfl, h', tk', rfl, hS', fun b o e => ?_⟩)
        have hb := Heap.lt_size e
        exact mv.heap b o (by
          rw [hI]
          simp only [List.mem_cons, List.not_mem_nil, or_false, not_or]
          exact ⟨Nat.ne_of_lt hb, Nat.ne_of_lt (Nat.lt_succ_of_lt hb)⟩) (Heap.get?_push_of_some _ (Heap.get?_push_of_some _ e))
    · cases r₂ with
      | error e => exact hr₂
      | ok fl₂ =>
      cases fl₂ with
      | ret r =>
        obtain ⟨rfl, h', tk, rfl, hS', hk'⟩ := hr₂
        repeat (any_goals (first | assumption | wp_step))
        exact h _ _ hS' hk'
      | _ => exact hr₂.elim
  | _ => exact hr.elim
end
/-! ### len(set(e)), e a list of keys -/
section
variable {X : Cx}
theorem key_ok {P : Program} {w : World} {ks : List Key} {us : List Value} (r : Vals (ks.map kV) us) : ∀ (i : Nat) (v : Value), us.toArray[i]? = some v → ∃ k, ks[i]? = some k ∧ (mixKind P w).is k v = true ∧ v.scannable = true := fun i v hv => by
  have hv : us[i]? = some v := by simpa using hv
  have hl := r.length
  rw [List.length_map] at hl
  have hi : i < ks.length := by rw [hl]; exact (List.getElem?_eq_some_iff.mp hv).1
  obtain ⟨u, hu, ru⟩ := r.get (i := i) (x := kV ks[i]) (by rw [List.getElem?_map, List.getElem?_eq_getElem hi]; rfl)
  rw [hv] at hu
  cases hu
  refine ⟨ks[i], List.getElem?_eq_getElem hi, kV_is ru, ?_⟩
  rcases keyIs_shape (kV_is (P := P) (w := w) ru) with ⟨_, _, _, e⟩ | ⟨_, _, _, e⟩ <;> rw [e] <;> rfl
def tLenSetK (K : PySem.W.Frag) (ta : TE) : TE := fun σ H Q => ta σ H fun x H1 => ∃ (l : Addr) (ks : List Key), x = .ref l ∧ SqL K H1 l (ks.map kV) ∧ ks.length ≤ 1000 ∧ Q (.int ((once ks).length : Nat)) H1
theorem pe_lenSetK {a : Expr} {ta : TE} {p p2 q pos : Pos} (hg : Gl X "len") (hm : X.mg "len" = none) (hg2 : Gl X "set") (hm2 : X.mg "set" = none) (ha : PE X a ta) (hc : X.calm = true := by rfl)
    (na : starEach [a] X.env = (false, eval a X.env) :: starEach [] X.env := by rfl) : PE X (.Call (.Name "len" p) [.Call (.Name "set" p2) [a] [] q] [] pos) (tLenSetK X.K ta) := by
  refine ⟨fun pins s σ H Q I h => ?_⟩
  refine Call_ (ld_blt I hg hm PySem.boot_len ?_)
  refine PyProof.Rows.callWith_builtin1 (PyProof.Rows.args_cons ?_ rfl) rfl rfl
  refine Call_ (ld_blt I hg2 hm2 PyProof.Rows.boot_set ?_)
  refine PyProof.Rows.callWith_type1 (PyProof.Rows.args_cons (thn (ha.run pins s σ H _ I h) fun v s1 ⟨x, H1, I1, r1, q1⟩ => PyProof.Rows.args_nil ?_) na) na rfl
  obtain ⟨l, ks, rfl, hq, hl, q1⟩ := q1
  cases r1
  obtain ⟨its, r, pl, hz⟩ := I1.list hq
  have hlen : ks.length = its.toArray.size := by
    have := r.length
    rw [List.length_map] at this
    rw [List.size_toArray, this]
  refine set_of_list (knd := mixKind X.prog X.w) ks (I1.ok.hd hc) pl.isList hlen (by unfold scanBound; omega) (key_ok r) fun h' tk hS hk => ?_
  refine PyProof.Rows.args_nil ?_
  obtain ⟨o, es, ep, t, ho, hex, hd, _, _, hb, hf, hn⟩ := hS
  have I2 : Inv X pins σ H1 { s1 with heap := h', toks := tk } := I1.kept fun b o e => hk b o e
  have h1 := once_len ks
  exact call_len_set ho hex hd hf (by rw [hn]; omega) ⟨.int ((once ks).length : Nat), H1, I2.tok _, ⟨_, by rw [hn]⟩, q1⟩
theorem w_lenSetK {K : PySem.W.Frag} {σ : L2.St} {H : Hp} {Q : VK} {te : TE} (h : te σ H fun x H1 => ∃ (l : Addr) (ks : List Key), x = .ref l ∧ SqL K H1 l (ks.map kV) ∧ ks.length ≤ 1000 ∧ Q (.int ((once ks).length : Nat)) H1) : tLenSetK K te σ H Q := h
end
end Go

set_option Elab.async false
set_option linter.all false
set_option maxRecDepth 100000
set_option maxHeartbeats 4000000
/-! ### sets of tuples of keys, any kind of keys: how many they hold -/
namespace Go
open PySem PySem.Spec PyProof.Rows L2
section
variable {P : Program} {w : World} {A : Around} {E : Value → Shared → Prop} {s : Shared} {κ : Type} [DecidableEq κ] {knd : PySem.KeyKind P w κ}
/-- what is carried by value is of no class statement -/
theorem plain_ofAClass {v : Value} (h : carriedByValue v = true) (n : Nat) : ofAClassStatement n v = pure false := by
  cases v with
  | ref a => exact absurd (show false = true from h) Bool.false_ne_true
  | _ => cases n <;> rfl
theorem walk_all {items : Array Value} {β : Type} (f : Value → β → Sem (ForInStep β)) (b0 : β) (hf : ∀ v ∈ items, f v b0 = pure (.yield b0)) {Q : β → Shared → Prop} (q : Q b0 s) : wpAny (model P w) A (forIn items b0 f) Q E s := by
  rw [← Array.forIn_toList]
  refine wpAny_forIn_list _ (fun rest r s' => r = b0 ∧ s' = s ∧ ∀ v ∈ rest, v ∈ items) _ ?_ ?_ _ _ ⟨rfl, rfl, fun v hv => by simpa using hv⟩
  · rintro v rest r s' ⟨rfl, rfl, hall⟩
    rw [hf v (hall v (.head _))]
    exact wpAny_pure ⟨rfl, rfl, fun u hu => hall u (.tail _ hu)⟩
  · rintro r s' ⟨rfl, rfl, _⟩
    exact q
theorem tk_class {k : List κ} {b : Addr} {Q : Bool → Shared → Prop} (hk : IsTupleKey knd s.heap k b) (h : Q false s) : wpAny (model P w) A (ofAClassStatement 8 (.ref b)) Q E s := by
  have hT := hk.typeIs
  obtain ⟨o, items, n, ho, _, hd, hi⟩ := hk
  unfold ofAClassStatement
  refine wpAny_bind (wpAny_typeOf hT ?_)
  dsimp only
  simp only [show (("tuple" : String) == "tuple") = true by decide, if_true]
  refine wpAny_bind (wpAny_pure ?_)
  simp only [Bool.not_true, Bool.false_eq_true, if_false]
  refine wpAny_bind (m := seqItems? (.ref b)) (wpAny_seqItems ho hd ?_)
  dsimp only
  refine wpAny_bind (walk_all _ _ (fun v hv => ?_) ?_)
  · rw [plain_ofAClass (hi.byValue v (by simpa using hv))]
    rfl
  · exact wpAny_pure h
theorem plain_hashBy {v : Value} (h : carriedByValue v = true) (n : Nat) : ∃ c, hashByValue n v = pure c := by
  cases v with
  | ref a => exact absurd (show false = true from h) Bool.false_ne_true
  | _ => cases n <;> exact ⟨_, rfl⟩
theorem tk_hashBy {k : List κ} {b : Addr} {Q : Bool → Shared → Prop} (hk : IsTupleKey knd s.heap k b) (h : ∀ c, Q c s) : wpAny (model P w) A (hashByValue 8 (.ref b)) Q E s := by
  have hT := hk.typeIs
  obtain ⟨o, items, n, ho, _, hd, hi⟩ := hk
  unfold hashByValue
  refine wpAny_bind (wpAny_specialOf hT F.slot_tuple_hash.lookup ?_)
  refine wpAny_bind (m := seqItems? (.ref b)) (wpAny_seqItems ho hd ?_)
  refine wpAny_bind ?_
  show wpAny _ _ (forIn items _ _) _ _ s
  rw [← Array.forIn_toList]
  refine wpAny_forIn_list _ (fun rest r s' => s' = s ∧ ∀ v ∈ rest, carriedByValue v = true) _ ?_ ?_ _ _ ⟨rfl, hi.byValue⟩
  · rintro v rest r s' ⟨rfl, hall⟩
    obtain ⟨c, e⟩ := plain_hashBy (hall v (.head _)) 7
    rw [e]
    refine wpAny_bind (wpAny_pure ?_)
    cases c with
    | true =>
      simp only [Bool.not_true, Bool.false_eq_true, if_false]
      exact wpAny_pure ⟨rfl, fun u hu => hall u (.tail _ hu)⟩
    | false =>
      simp only [Bool.not_false, if_true]
      exact wpAny_pure (wpAny_pure (h false))
  · rintro ⟨r1, r2⟩ s' ⟨rfl, _⟩
    cases r1 with
    | none => exact wpAny_pure (h _)
    | some c => exact wpAny_pure (h _)
/-- a search among such tuples shows nothing of the table -/
theorem tk_seen {k : List κ} {b : Addr} {Q : Bool → Shared → Prop} (hk : IsTupleKey knd s.heap k b) {ys : List Value} (hy : ∀ y ∈ ys, ∃ k' c, y = Value.ref c ∧ IsTupleKey knd s.heap k' c) (h : Q false s) :
    wpAny (model P w) A (searchCouldBeSeen (.ref b) ys) Q E s := by
  unfold searchCouldBeSeen
  refine wpAny_bind (wpAny_forIn_list _ (fun rest r s' => r.1 = none ∧ s' = s ∧ ∀ y ∈ rest, y ∈ ys) _ ?_ ?_ _ _ ⟨rfl, rfl, fun y hy => hy⟩)
  · rintro v rest r s' ⟨hr, rfl, sub⟩
    obtain ⟨k', c, rfl, hc⟩ := hy v (sub v (.head _))
    have next : ∀ y ∈ rest, y ∈ ys := fun y my => sub y (.tail _ my)
    dsimp only
    by_cases same : (b == c || (carriedByValue (.ref b) && carriedByValue (.ref c))) = true
    · exact wp_if_pos same (wpAny_pure ⟨rfl, rfl, next⟩)
    · refine wp_if_neg same (wpAny_bind (wpAny_eqIsQuiet_tuple hk ?_))
      simp only [Bool.not_true, Bool.false_eq_true, if_false]
      refine wpAny_bind (wpAny_eqIsQuiet_tuple hc ?_)
      simp only [Bool.not_true, Bool.false_eq_true, if_false]
      refine wpAny_bind (tk_class hk ?_)
      simp only [Bool.false_eq_true, if_false]
      refine wpAny_bind (tk_class hc ?_)
      simp only [Bool.false_eq_true, if_false]
      exact wpAny_pure ⟨rfl, rfl, next⟩
  · rintro ⟨r1, r2⟩ s' ⟨hr, rfl, _⟩
    obtain rfl : r1 = none := hr
    exact wpAny_pure h
/-! ### the set itself -/
variable (knd) in
/-- a tuple's hash -/
abbrev th (k : List κ) : Int := tupleKeyHash knd k
variable (knd) in
def rws (L : List (Addr × List κ)) : List (Int × Value) := L.map fun p => (th knd p.2, Value.ref p.1)
variable (knd) in
/-- at a the set of the tuples L, in the order of its table -/
structure TupS (h : Heap) (a : Addr) (L : List (Addr × List κ)) (es : Array (Int × Value)) (ep : Nat) (t : SetTable) : Prop where
  ob : ∃ o, h.get? a = some o ∧ o.ExactSet ∧ o.data = .set es ep t
  rows : es.toList = rws knd L
  tab : TabOk t (L.map fun p => th knd p.2)
  nd : (L.map (·.2)).Nodup
  tup : ∀ p ∈ L, IsTupleKey knd h p.2 p.1
  room : L.length * 5 < t.mask * 3
  few : L.length < 64
variable {a : Addr} {L : List (Addr × List κ)} {es : Array (Int × Value)} {ep : Nat} {t : SetTable}
theorem rws_len (hr : es.toList = rws knd L) : es.size = L.length := by
  rw [← Array.length_toList, hr]
  exact List.length_map _
theorem rws_at (hr : es.toList = rws knd L) {i : Nat} {p : Addr × List κ} (h : L[i]? = some p) : es[i]? = some (th knd p.2, Value.ref p.1) := by
  rw [← Array.getElem?_toList, hr]
  unfold rws
  rw [List.getElem?_map, h]; rfl
theorem TupS.fits (R : TupS knd s.heap a L es ep t) : t.fits es.size = true := by
  have h1 : t.place.size = L.length := by rw [R.tab.sz, List.length_map]
  have h2 := rws_len R.rows
  have h3 := R.room
  unfold SetTable.fits SetTable.fill
  rw [R.tab.dm, Bool.and_eq_true, beq_iff_eq, decide_eq_true_eq]
  show t.place.size = es.size ∧ t.place.size + 0 ≤ t.mask
  omega
theorem TupS.firm (R : TupS knd s.heap a L es ep t) : ¬ t.gaveWay = true := by
  unfold SetTable.gaveWay
  rw [mask_odd R.tab.mok]
  decide
/-! ### the search -/
/-- where a search for the hash h stands behind c steps -/
abbrev stand (m : Nat) (h : Int) (c : Nat) : SetTable.Probe := nth m (runAt m (SetTable.bits h % (m + 1)) (SetTable.bits h)) c
theorem stand_add (m : Nat) (h : Int) (c q : Nat) : nth m (stand m h c) q = stand m h (c + q) := (nth_add m c _ q).symm
theorem nth_dummy (m : Nat) : ∀ (n : Nat) (p : SetTable.Probe), p.dummy = none → (nth m p n).dummy = none
  | 0, _, h => h
  | n + 1, p, h => nth_dummy m n (adv m p) (by unfold adv; split <;> exact h)
theorem TupS.search_from (R : TupS knd s.heap a L es ep t) {x : Addr} {k : List κ} (hx : IsTupleKey knd s.heap k x) (hu : A.units < cLine) {K : Nat} (hKf : K < 10 * SetTable.turns t.mask)
    (hK : way t.mask (th knd k) K ∉ t.place.toList) (hb : ∀ c, c < K → way t.mask (th knd k) c ∈ t.place.toList) {Q : SetFound → Shared → Prop}
    (hin : k ∈ L.map (·.2) → Q (.there none) s) (hout : k ∉ L.map (·.2) → Q (.free (way t.mask (th knd k) K) false) s) :
    ∀ (f c : Nat) (at_ : Option SetTable.Probe), at_.getD (t.probeStart (th knd k)) = stand t.mask (th knd k) c → c ≤ K → K - c < f →
      (∀ (i : Nat) p, L[i]? = some p → p.2 = k → ∃ c', c ≤ c' ∧ c' < K ∧ t.place.toList[i]? = some (way t.mask (th knd k) c')) →
      wpAny (model P w) A (setSearchFrom a (.ref x) (th knd k) true f at_) Q E s := by
  obtain ⟨o, ho, hex, hd⟩ := R.ob
  have hashAt : ∀ (i : Nat) p, L[i]? = some p → (fun i => (es[i]?.map (·.1)).getD 0) i = th knd p.2 := fun i p hp => by
    show (es[i]?.map (·.1)).getD 0 = _
    rw [rws_at R.rows hp]; rfl
  intro f
  induction f with
  | zero => intro c at_ _ _ hf _; exact absurd hf (Nat.not_lt_zero _)
  | succ f ih =>
    intro c at_ hat hc hf left
    rw [setSearchFrom_succ]
    refine wpAny_bind (wpAny_setState_of ho hd R.fits ?_)
    dsimp only
    refine wp_if_neg R.firm ?_
    try refine wpAny_bind (wpAny_pure ?_)
    have je : ∀ q, (nth t.mask (stand t.mask (th knd k) c) q).j = way t.mask (th knd k) (c + q) := fun q => congrArg SetTable.Probe.j (stand_add t.mask (th knd k) c q)
    have spec := go_spec t R.tab.ris R.tab.dm (fun i => (es[i]?.map (·.1)).getD 0) (th knd k) (10 * SetTable.turns t.mask) (K - c) (stand t.mask (th knd k) c) (nth_dummy t.mask c _ rfl) (by omega)
      (fun q hq => by rw [je]; exact hb (c + q) (by omega)) (by rw [je, show c + (K - c) = K by omega]; exact hK)
    rcases spec with ⟨q, i, hq, hi, hh, hno, hpr⟩ | ⟨hno, hpr⟩
    · rw [je] at hi
      have hpr' : t.probe (fun i => (es[i]?.map (·.1)).getD 0) (th knd k) (at_.getD (t.probeStart (th knd k))) = some (.candidate (way t.mask (th knd k) (c + q)) i (stand t.mask (th knd k) (c + (q + 1)))) := by
        rw [hat, ← je, ← stand_add]; exact hpr
      rw [hpr']
      dsimp only
      have hil : i < L.length := by
        have h1 := (List.getElem?_eq_some_iff.mp hi).1
        have h2 := R.tab.sz
        rw [List.length_map] at h2
        rw [Array.length_toList] at h1
        omega
      obtain ⟨p, hp⟩ : ∃ p, L[i]? = some p := ⟨_, List.getElem?_eq_getElem hil⟩
      have hmem := List.mem_of_getElem? hp
      have rest : wpAny (model P w) A (searchRest a (.ref x) (th knd k) true f es t (way t.mask (th knd k) (c + q)) i (stand t.mask (th knd k) (c + (q + 1)))) Q E s := by
        unfold searchRest
        rw [rws_at R.rows hp]
        dsimp only
        refine wpAny_bind (wpAny_holding (wpAny_eqBool_tuple hu (R.tup p hmem) hx ?_))
        refine wpAny_bind (wpAny_setState_of ho hd R.fits ?_)
        dsimp only
        by_cases e : p.2 = k
        · exact wp_if_pos (by simp [e]) (wpAny_pure (hin (List.mem_map.mpr ⟨p, hmem, e⟩)))
        · refine wp_if_neg (by simp [e]) ?_
          try refine wpAny_bind (wpAny_pure ?_)
          rw [sameMem]
          dsimp only
          have live : t.slot (way t.mask (th knd k) (c + q)) = .live i := slot_live R.tab.ris hi
          simp only [if_true, live, rws_at R.rows hp]
          refine wpAny_bind (wpAny_isSame_ref_self (wpAny_bind (wpAny_pure ?_)))
          simp only [if_true]
          refine wp_if_neg (by simp [e]) ?_
          refine ih (c + (q + 1)) _ rfl (by omega) (by omega) fun i0 p0 h0 k0 => ?_
          obtain ⟨c', l1, l2, l3⟩ := left i0 p0 h0 k0
          refine ⟨c', ?_, l2, l3⟩
          have n1 : ¬ c' < c + q := fun z => hno (c' - c) i0 (by omega) (by rw [je, show c + (c' - c) = c' by omega]; exact l3) ((hashAt i0 p0 h0).trans (congrArg (th knd) k0))
          have n2 : c' ≠ c + q := fun z => by
            rw [z] at l3
            have s0 := slot_live R.tab.ris l3
            rw [live] at s0
            injection s0 with s0
            rw [← s0, hp] at h0
            exact e ((congrArg Prod.snd (Option.some.inj h0)).trans k0)
          omega
      by_cases led : t.led = true
      · refine wp_if_neg (by simp [led]) ?_
        try refine wpAny_bind (wpAny_pure ?_)
        exact rest
      · refine wp_if_pos (by simp [led]) (wpAny_bind (tk_seen hx (fun y hy => ?_) ?_))
        · obtain ⟨e, he, rfl⟩ := List.mem_map.mp hy
          have he2 : e ∈ es.toList := by
            have : e ∈ es ∧ e.1 = th knd k := by simpa using he
            simpa using this.1
          rw [R.rows] at he2
          obtain ⟨p2, hp2, rfl⟩ := List.mem_map.mp he2
          exact ⟨p2.2, p2.1, rfl, R.tup p2 hp2⟩
        · refine wp_if_neg (by decide) ?_
          try refine wpAny_bind (wpAny_pure ?_)
          exact rest
    · have hpr' : t.probe (fun i => (es[i]?.map (·.1)).getD 0) (th knd k) (at_.getD (t.probeStart (th knd k))) = some (.empty (way t.mask (th knd k) K) none) := by
        have e2 : way t.mask (th knd k) K = (nth t.mask (stand t.mask (th knd k) c) (K - c)).j := by rw [je, show c + (K - c) = K by omega]
        rw [hat, e2]; exact hpr
      rw [hpr']
      dsimp only
      refine wpAny_pure (hout fun hm => ?_)
      obtain ⟨p0, h0, k0⟩ := List.mem_map.mp hm
      obtain ⟨i0, hi0, e0⟩ := List.getElem_of_mem h0
      have h00 : L[i0]? = some p0 := by rw [List.getElem?_eq_getElem hi0, e0]
      obtain ⟨c', l1, l2, l3⟩ := left i0 p0 h00 k0
      exact hno (c' - c) i0 (by omega) (by rw [je, show c + (c' - c) = c' by omega]; exact l3) ((hashAt i0 p0 h00).trans (congrArg (th knd) k0))
theorem TupS.search (R : TupS knd s.heap a L es ep t) {x : Addr} {k : List κ} (hx : IsTupleKey knd s.heap k x) (hu : A.units < cLine) {Q : SetFound → Shared → Prop} (hin : k ∈ L.map (·.2) → Q (.there none) s)
    (hout : ∀ K, k ∉ L.map (·.2) → way t.mask (th knd k) K ∉ t.place.toList → (∀ c, c < K → way t.mask (th knd k) c ∈ t.place.toList) → Q (.free (way t.mask (th knd k) K) false) s) :
    wpAny (model P w) A (setSearch a (.ref x) (th knd k) true) Q E s := by
  have room := R.room
  obtain ⟨K, hKf, hK, hb⟩ := R.tab.first (by rw [List.length_map]; omega) (th knd k)
  have small : K < 100000 := by
    have : 10 * SetTable.turns t.mask ≤ 1420 := by
      unfold SetTable.turns
      rcases R.tab.mok with e | e | e <;> omega
    omega
  unfold setSearch
  refine R.search_from hx hu hKf hK hb hin (fun n => hout K n hK hb) 100000 0 none rfl (Nat.zero_le _) (by omega) fun i p hp hk => ?_
  have hil : i < t.place.toList.length := by
    have h1 := (List.getElem?_eq_some_iff.mp hp).1
    have h2 := R.tab.sz
    rw [List.length_map] at h2
    rw [Array.length_toList]
    omega
  obtain ⟨c, hc, e⟩ := R.tab.before hK (by rw [List.getElem?_map, hp, ← hk]; rfl) (List.getElem?_eq_getElem hil)
  exact ⟨c, Nat.zero_le _, hc, by rw [List.getElem?_eq_getElem hil, e]⟩
/-! ### laid anew, added to -/
theorem tk_off {h h' : Heap} {k : List κ} {b : Addr} {o : Obj} (hb : IsTupleKey knd h k b) (ho : h.get? a = some o) (hd : o.data = .set es ep t) (hs : Heap.SameBut a h h') : IsTupleKey knd h' k b := by
  obtain ⟨o', items, n, ho', r1, hd', r2⟩ := hb
  have ne : b ≠ a := fun z => by
    rw [z, ho] at ho'
    cases ho'
    rw [hd] at hd'
    cases hd'
  exact ⟨o', items, n, (hs.2 b ne).trans ho', r1, hd', r2⟩
/-- the rows by another order -/
theorem rws_order (hr : es.toList = rws knd L) {order : List Nat} (hp : order.Perm (List.range L.length)) :
    order.filterMap (fun i => es[i]?) = rws knd (order.filterMap fun i => L[i]?) ∧ (order.filterMap fun i => L[i]?).Perm L ∧ ((order.filterMap fun i => L[i]?).map fun p => th knd p.2) = order.map fun i => (es.map (·.1)).getD i 0 := by
  have whole : (List.range L.length).filterMap (fun i => L[i]?) = L := by
    have cut : ∀ n, n ≤ L.length → (List.range n).filterMap (fun i => L[i]?) = L.take n := fun n => by
      induction n with
      | zero => intro _; rfl
      | succ n ih =>
        intro hn
        rw [List.range_succ, List.filterMap_append, ih (by omega), List.take_add_one, List.filterMap_cons, List.getElem?_eq_getElem hn]; rfl
    rw [cut _ (Nat.le_refl _), List.take_length]
  have pm : (order.filterMap fun i => L[i]?).Perm L := by
    have := hp.filterMap fun i => L[i]?
    rw [whole] at this
    exact this
  have inl : ∀ i ∈ order, i < L.length := fun i hi => List.mem_range.mp (hp.mem_iff.mp hi)
  refine ⟨?_, pm, ?_⟩
  · clear pm hp
    induction order with
    | nil => rfl
    | cons i l ih =>
      have hi : L[i]? = some (L[i]'(inl i (.head _))) := List.getElem?_eq_getElem _
      rw [List.filterMap_cons_some (rws_at hr hi), List.filterMap_cons_some hi, ih fun j hj => inl j (.tail _ hj)]; rfl
  · clear pm hp
    induction order with
    | nil => rfl
    | cons i l ih =>
      have hi : L[i]? = some (L[i]'(inl i (.head _))) := List.getElem?_eq_getElem _
      rw [List.filterMap_cons_some hi, List.map_cons, List.map_cons, ih fun j hj => inl j (.tail _ hj)]
      have e : (es.map (·.1))[i]? = some (th knd (L[i]'(inl i (.head _))).2) := by rw [Array.getElem?_map, rws_at hr hi]; rfl
      rw [Array.getD_eq_getD_getElem?, e]; rfl
theorem ts_relay {o : Obj} (ho : s.heap.get? a = some o) (hex : o.ExactSet) (hd : o.data = .set es ep t) (hr : es.toList = rws knd L) (hsz : t.place.size = es.size) (hdm : t.dummies = #[]) (hfl : es.size ≤ t.mask) (nd : (L.map (·.2)).Nodup)
    (tup : ∀ p ∈ L, IsTupleKey knd s.heap p.2 p.1) (few : L.length < 64) {wanted M : Nat} (hw : SetTable.sizeAbove wanted - 1 = M) (hM : MaskOk M) (hw2 : SetTable.sizeAbove wanted ≤ 128) (hn : L.length * 5 < M * 3) {Q : Unit → Shared → Prop}
    (hQ : ∀ h' L' es' ep' t', Heap.SameBut a s.heap h' → TupS knd h' a L' es' ep' t' → L'.Perm L → Q () { s with heap := h' }) : wpAny (model P w) A (setRelay a wanted) Q E s := by
  have sl := rws_len hr
  have fits : t.fits es.size = true := by
    unfold SetTable.fits SetTable.fill
    rw [hdm, Bool.and_eq_true, beq_iff_eq, decide_eq_true_eq]
    show t.place.size = es.size ∧ t.place.size + 0 ≤ t.mask
    omega
  obtain ⟨t', order, e, hp, T, em, _, _, _⟩ := relaid_ok t (hs := es.map (·.1)) (wanted := wanted) hw hM (by rw [Array.size_map, sl]; omega)
  rw [Array.size_map, sl] at hp
  obtain ⟨r1, r2, r3⟩ := rws_order hr hp
  rw [← r3] at T
  have r1' : (order.filterMap (es[·]?)).toList = rws knd (order.toList.filterMap fun i => L[i]?) := by
    rw [← r1]; simp
  rw [setRelay_eq]
  refine wpAny_bind (wpAny_setState_of ho hd fits ?_)
  dsimp only
  refine wp_if_neg (by rw [sizeLine_eq]; omega) ?_
  try refine wpAny_bind (wpAny_pure ?_)
  rw [e]
  dsimp only
  generalize order.toList.filterMap (fun i => L[i]?) = L2 at r1' r2 T
  generalize order.filterMap (es[·]?) = es2 at r1' ⊢
  have s2 : es2.size = es.size := by rw [rws_len r1', r2.length_eq, sl]
  refine wpAny_bind ?_
  refine wp_if_neg (by rw [s2]; simp) ?_
  try refine wpAny_bind (wpAny_pure ?_)
  refine wpAny_pure ?_
  dsimp only
  refine wpAny_storeSet_of ho hd ?_ (by rw [s2, sl, sizeLine_eq]; omega)
  have sb : Heap.SameBut a s.heap (s.heap.update a (Obj.putSet es2 t')) := Heap.SameBut.update ..
  refine hQ _ L2 es2 (ep + 1) t' sb ⟨⟨_, store_at ho hd, ⟨hex.1, hex.2.1, hex.2.2⟩, rfl⟩, r1', T, (r2.map (·.2)).nodup_iff.mpr nd, fun p hp => tk_off (tup p (r2.mem_iff.mp hp)) ho hd sb, ?_, ?_⟩ r2
  · rw [r2.length_eq, em]; exact hn
  · rw [r2.length_eq]; exact few
theorem rws_put (L : List (Addr × List κ)) (p : Nat) (x : Addr) (k : List κ) : rws knd (L.take p ++ (x, k) :: L.drop p) = (rws knd L).take p ++ (th knd k, Value.ref x) :: (rws knd L).drop p := by
  unfold rws
  rw [List.map_append, List.map_cons, List.map_take, List.map_drop]
theorem put_mid {α : Type} (L : List α) (p : Nat) (x : α) : (L.take p ++ x :: L.drop p).Perm (x :: L) := by
  have h : (L.take p ++ x :: L.drop p).Perm (x :: (L.take p ++ L.drop p)) := List.perm_middle
  rw [List.take_append_drop] at h
  exact h
theorem tab_plain {hs : List Int} (T : TabOk t hs) (b : Bool) : TabOk { t with plain := b } hs := ⟨T.ris, T.dm, T.sz, T.mok, T.bd, T.reach⟩
theorem TupS.add (R : TupS knd s.heap a L es ep t) {x : Addr} {k : List κ} (hx : IsTupleKey knd s.heap k x) (hu : A.units < cLine) (hfew : L.length + 1 < 64) {Q : Bool → Shared → Prop}
    (hQ : ∀ b h' L' es' ep' t', Heap.SameBut a s.heap h' → TupS knd h' a L' es' ep' t' → (k ∈ L.map (·.2) → L' = L) → (k ∉ L.map (·.2) → L'.Perm ((x, k) :: L)) → Q b { s with heap := h' }) :
    wpAny (model P w) A (setAddHashed a (.ref x) (th knd k)) Q E s := by
  obtain ⟨o, ho, hex, hd⟩ := R.ob
  have sl := rws_len R.rows
  have room := R.room
  unfold setAddHashed
  refine wpAny_holding ?_
  rw [show (100000 : Nat) = 99999 + 1 from rfl, setAddHashedIn_succ]
  refine wpAny_bind (wpAny_setState_of ho hd R.fits ?_)
  dsimp only
  refine wp_if_neg (by simp [byScan, Value.scannable]) ?_
  try refine wpAny_bind (wpAny_pure ?_)
  refine wpAny_bind (R.search hx hu (fun hm => ?_) fun K hm hK hb => ?_)
  · dsimp only
    exact wpAny_pure (hQ false s.heap L es ep t (Heap.SameBut.refl a s.heap) R (fun _ => rfl) fun z => absurd hm z)
  · dsimp only
    refine wpAny_bind (wpAny_setState_of ho hd R.fits ?_)
    dsimp only
    obtain ⟨q1, q2, q3, q4, q5, q6, q7, q8, q9⟩ := R.tab.put hK hb
    generalize t.put (way t.mask (th knd k) K) = pt at q1 q3 q4 q5 q6 q7 q8 q9 ⊢
    obtain ⟨t1, p⟩ := pt
    dsimp only at q1 q3 q4 q5 q6 q7 q8 q9 ⊢
    subst q1
    have hin : (SetTable.insertAt es (SetTable.below t.place (way t.mask (th knd k) K)) (th knd k, Value.ref x)).toList = rws knd (L.take (SetTable.below t.place (way t.mask (th knd k) K)) ++ (x, k) :: L.drop (SetTable.below t.place (way t.mask (th knd k) K))) := by
      rw [SetTable.toList_insertAt, rws_put, R.rows]
    generalize SetTable.below t.place (way t.mask (th knd k) K) = p at q2 q3 hin ⊢
    have pm := put_mid L p (x, k)
    have len1 : (L.take p ++ (x, k) :: L.drop p).length = L.length + 1 := pm.length_eq
    have hhs : (L.take p ++ (x, k) :: L.drop p).map (fun p => th knd p.2) = (L.map fun p => th knd p.2).take p ++ th knd k :: (L.map fun p => th knd p.2).drop p := by
      rw [List.map_append, List.map_cons, List.map_take, List.map_drop]
    rw [← hhs] at q3
    have nd1 : ((L.take p ++ (x, k) :: L.drop p).map (·.2)).Nodup := (pm.map (·.2)).nodup_iff.mpr (by rw [List.map_cons]; exact List.nodup_cons.mpr ⟨hm, R.nd⟩)
    have es1l := rws_len hin
    rw [len1] at es1l
    generalize SetTable.insertAt es p (th knd k, Value.ref x) = es1 at hin es1l ⊢
    generalize L.take p ++ (x, k) :: L.drop p = L1 at pm len1 q3 nd1 hin
    rw [List.length_map] at q9
    have rest : ∀ t2 : SetTable, TabOk t2 (L1.map fun p => th knd p.2) → t2.mask = t.mask → t2.fill = L.length + 1 → wpAny (model P w) A (do
        storeSet a es1 t2
        if (!false && t2.tooFull) = true then do
            setRelay a (SetTable.grown (es.size + 1))
            pure true
          else pure true) Q E s := by
      intro t2 T2 m2 f2
      refine wpAny_bind (wpAny_storeSet_of ho hd ?_ (by rw [es1l, sizeLine_eq]; omega))
      have sb : Heap.SameBut a s.heap (s.heap.update a (Obj.putSet es1 t2)) := Heap.SameBut.update ..
      have ho1 := store_at (es' := es1) (t' := t2) ho hd
      generalize s.heap.update a (Obj.putSet es1 t2) = h1 at sb ho1 ⊢
      have tup1 : ∀ p ∈ L1, IsTupleKey knd h1 p.2 p.1 := fun p hp => by
        rcases List.mem_cons.mp (pm.mem_iff.mp hp) with e | hp
        · rw [e]; exact tk_off hx ho hd sb
        · exact tk_off (R.tup p hp) ho hd sb
      have exact1 : ({ o with data := .set es1 (ep + 1) t2 } : Obj).ExactSet := ⟨hex.1, hex.2.1, hex.2.2⟩
      by_cases full : t2.tooFull = true
      · refine wp_if_pos (by simp [full]) (wpAny_bind ?_)
        have lim : (L.length + 1) * 5 ≥ t2.mask * 3 := by
          have h := full
          unfold SetTable.tooFull at h
          rw [decide_eq_true_eq, f2] at h
          exact h
        have sz1 : t2.place.size = es1.size := by rw [T2.sz, List.length_map, len1, es1l]
        rw [sl]
        have grow : ∀ M, SetTable.sizeAbove (SetTable.grown (L.length + 1)) - 1 = M → MaskOk M → SetTable.sizeAbove (SetTable.grown (L.length + 1)) ≤ 128 → (L.length + 1) * 5 < M * 3 → L.length + 1 ≤ t.mask →
            wpAny (model P w) A (setRelay a (SetTable.grown (L.length + 1))) (fun _ s' => wpAny (model P w) A (pure true) Q E s') E { s with heap := h1 } := fun M g1 g2 g3 g4 g5 => by
          refine ts_relay (s := { s with heap := h1 }) ho1 exact1 rfl hin sz1 T2.dm (by rw [es1l, m2]; exact g5) nd1 tup1 (by rw [len1]; exact hfew) g1 g2 g3 (by rw [len1]; exact g4) fun h2 L2 es2 ep2 t3 sb2 R2 pm2 => ?_
          exact wpAny_pure (hQ true h2 L2 es2 ep2 t3 (sb.trans sb2) R2 (fun z => absurd z hm) fun _ => pm2.trans pm)
        rcases R.tab.mok with e | e | e
        · have e4 : L.length = 4 := by rw [m2, e] at lim; rw [e] at room; omega
          exact grow 31 (by rw [e4, size_20]) (.inr (.inl rfl)) (by rw [e4, size_20]; decide) (by omega) (by omega)
        · have e18 : L.length = 18 := by rw [m2, e] at lim; rw [e] at room; omega
          exact grow 127 (by rw [e18, size_76]) (.inr (.inr rfl)) (by rw [e18, size_76]; decide) (by omega) (by omega)
        · exfalso; rw [m2, e] at lim; omega
      · refine wp_if_neg (by simp [full]) (wpAny_pure (hQ true h1 L1 es1 (ep + 1) t2 sb ⟨⟨_, ho1, exact1, rfl⟩, hin, T2, nd1, tup1, ?_, by rw [len1]; exact hfew⟩ (fun z => absurd z hm) fun _ => pm))
        have h := full
        unfold SetTable.tooFull at h
        rw [decide_eq_true_eq, f2] at h
        rw [len1]
        omega
    by_cases pl : t1.plain = true
    · refine wp_if_pos pl (wpAny_bind (tk_hashBy hx fun c => ?_))
      cases c with
      | true =>
        simp only [if_true]
        exact rest t1 q3 q4 q9
      | false =>
        simp only [Bool.false_eq_true, if_false]
        exact rest { t1 with plain := false } (tab_plain q3 false) q4 q9
    · refine wp_if_neg pl (wpAny_bind (wpAny_pure ?_))
      simp only [if_true]
      exact rest t1 q3 q4 q9
/-! ### set(xs) of a list of tuples of keys -/
theorem tk_keep {h h' : Heap} {k : List κ} {b : Addr} (x : IsTupleKey knd h k b) (hk : ∀ c o, h.get? c = some o → h'.get? c = some o) : IsTupleKey knd h' k b := by
  obtain ⟨o, items, n, ho, r⟩ := x
  exact ⟨o, items, n, hk b o ho, r⟩
/-- what the set holds of the first i -/
structure Held1 (ks : List (Addr × List κ)) (i : Nat) (L : List (Addr × List κ)) : Prop where
  sub : ∀ p ∈ L, p ∈ ks
  mem : ∀ k, k ∈ L.map (·.2) ↔ k ∈ (ks.take i).map (·.2)
  len : L.length = (once ((ks.take i).map (·.2))).length
theorem Held1.step {ks : List (Addr × List κ)} {i : Nat} {L L' : List (Addr × List κ)} {x : Addr × List κ} (g : Held1 ks i L) (h : ks[i]? = some x) (c1 : x.2 ∈ L.map (·.2) → L' = L) (c2 : x.2 ∉ L.map (·.2) → L'.Perm (x :: L)) : Held1 ks (i + 1) L' := by
  have e : (ks.take (i + 1)).map (·.2) = (ks.take i).map (·.2) ++ [x.2] := by rw [List.take_add_one, h, List.map_append]; rfl
  by_cases m : x.2 ∈ L.map (·.2)
  · rw [c1 m]
    have m2 := (g.mem x.2).mp m
    refine ⟨g.sub, fun k => ?_, ?_⟩
    · rw [g.mem, e, List.mem_append, List.mem_singleton]
      exact ⟨.inl, fun z => z.elim id fun z => z ▸ m2⟩
    · rw [e, once_snoc, if_pos (mem_once.mpr m2)]; exact g.len
  · have pm := c2 m
    have m2 : x.2 ∉ (ks.take i).map (·.2) := fun z => m ((g.mem x.2).mpr z)
    refine ⟨fun p hp => ?_, fun k => ?_, ?_⟩
    · rcases List.mem_cons.mp (pm.mem_iff.mp hp) with z | z
      · rw [z]; exact List.mem_of_getElem? h
      · exact g.sub p z
    · rw [(pm.map (·.2)).mem_iff, List.map_cons, List.mem_cons, g.mem, e, List.mem_append, List.mem_singleton]
      exact Or.comm
    · rw [pm.length_eq, List.length_cons, e, once_snoc, if_neg fun z => m2 (mem_once.mp z), List.length_append, g.len]; rfl
theorem tset_loop {I : Addr} {fp wr : List Addr} {G : Array GenState → Array GenState → Prop} {n : Nat} {Pv : Nat → Value → Prop} {St : Nat → Shared → Prop} {R : Result → Shared → Prop} (W : WalksS P w A.in1 I fp wr G n Pv St) (S : Addr) (hSf : S ∉ fp)
    (ks : List (Addr × List κ)) (hn : ks.length = n) (hfew : ks.length < 63) (hval : ∀ i v, Pv i v → ∃ p, ks[i]? = some p ∧ v = .ref p.1) (h0 : Heap) (hk : ∀ p ∈ ks, IsTupleKey knd h0 p.2 p.1) (hS0 : h0.get? S = none) (hw0 : ∀ b ∈ wr, h0.get? b = none) (hu : A.in1.units < cLine) :
    ∀ (m i : Nat) (s : Shared), n - i = m → i ≤ n → St i s → (∀ b o, h0.get? b = some o → s.heap.get? b = some o) → (∃ L es ep t, TupS knd s.heap S L es ep t ∧ Held1 ks i L) →
      (∀ s' L es ep t, Moved (S :: wr) G s s' → TupS knd s'.heap S L es ep t → Held1 ks n L → R (.ok (.ret .none)) s') →
      codeAny (model P w) A (.builtin "set.update.loop" ⟨[.ref S, .ref I], []⟩) R s := by
  have up : ∀ b ∈ wr, b ∈ S :: wr := fun b hb => .tail _ hb
  have out : S ∉ wr := fun h => hSf (W.sub _ h)
  have kept : ∀ {s s' : Shared}, Moved wr G s s' → (∀ b o, h0.get? b = some o → s.heap.get? b = some o) → ∀ b o, h0.get? b = some o → s'.heap.get? b = some o := fun mv k b o e =>
    mv.heap b o (fun hb => by rw [hw0 b hb] at e; cases e) (k b o e)
  have ts_on : ∀ {h h' : Heap} {L : List (Addr × List κ)} {es : Array (Int × Value)} {ep : Nat} {t : SetTable}, TupS knd h S L es ep t → (∀ p ∈ L, p ∈ ks) → (∀ o, h.get? S = some o → h'.get? S = some o) → (∀ b o, h0.get? b = some o → h'.get? b = some o) → TupS knd h' S L es ep t := fun T sub a1 a2 => by
    obtain ⟨o, ho, r⟩ := T.ob
    exact ⟨⟨o, a1 o ho, r⟩, T.rows, T.tab, T.nd, fun p hp => tk_keep (hk p (sub p hp)) a2, T.room, T.few⟩
  intro m
  induction m with
  | zero =>
    rintro i s hm hi st kp ⟨L, es, ep, t, T, g⟩ fin
    obtain rfl : i = n := by omega
    refine codeAny_builtin PyProof.Rows.F.entry_set_update_loop ?_
    rw [Around.under_plainId PyProof.Rows.F.plain_set_update_loop _]
    refine wpAny_bind (m := pyNext (.ref I)) (W.done s _ _ st fun s' mv => ?_)
    exact wpAny_pure (fin s' L es ep t (mv.mono up) (ts_on T g.sub (fun o e => mv.heap S o out e) (kept mv kp)) g)
  | succ m ih =>
    rintro i s hm hi st kp ⟨L, es, ep, t, T, g⟩ fin
    refine codeAny_builtin PyProof.Rows.F.entry_set_update_loop ?_
    rw [Around.under_plainId PyProof.Rows.F.plain_set_update_loop _]
    refine wpAny_bind (m := pyNext (.ref I)) (W.item i s _ _ (by omega) st fun v s' hP st' mv => ?_)
    obtain ⟨p, hp, rfl⟩ := hval i v hP
    have kp' := kept mv kp
    have T' := ts_on (h' := s'.heap) T g.sub (fun o e => mv.heap S o out e) kp'
    have hx := tk_keep (hk p (List.mem_of_getElem? hp)) kp'
    refine wpAny_bind (m := holding [Value.ref p.1] (setAdd S (.ref p.1))) (wpAny_holding ?_)
    unfold setAdd
    refine wpAny_holding (wpAny_bind (wpAny_pyHash_tuple hu hx ?_))
    refine TupS.add (s := { s' with toks := s'.toks + (p.2.length + 1) }) T' hx hu (by
      have h1 := g.len
      have h2 := once_len ((ks.take i).map (·.2))
      rw [List.length_map, List.length_take] at h2
      omega) fun b h' L' es' ep' t' sb T2 c1 c2 => ?_
    have off : ∀ b o, b ≠ S → s'.heap.get? b = some o → h'.get? b = some o := fun b o nb e => (sb.2 b nb).trans e
    have kp2 : ∀ b o, h0.get? b = some o → h'.get? b = some o := fun b o e => off b o (fun z => by rw [z, hS0] at e; cases e) (kp' b o e)
    refine wpAny_pure ⟨plainId_quiet PyProof.Rows.F.plain_set_update_loop _, ih (i + 1) _ (by omega) (by omega) (W.frame _ s' _ _ st' (Nat.le_add_right _ _) fun b hb o e => off b o (fun z => hSf (z ▸ hb)) e) kp2 ⟨L', es', ep', t', T2, g.step hp c1 c2⟩ fun s'' L2 es2 ep2 t2 mv2 T3 g3 => ?_⟩
    exact fin s'' L2 es2 ep2 t2 (Moved.trans W.gtrans ((mv.mono up).then_heap (Nat.le_add_right _ _) fun b o hb e => off b o (fun z => hb (z ▸ .head _)) e) mv2) T3 g3
theorem ts_fresh {h : Heap} {a : Addr} {led : Bool} (ho : h.get? a = some (set0 led)) : TupS knd h a [] #[] 0 (.fresh 0 0 led) where
  ob := ⟨_, ho, ⟨rfl, rfl, rfl⟩, rfl⟩
  rows := rfl
  tab := ⟨List.Pairwise.nil, rfl, rfl, .inl rfl, fun x hx => (by cases hx), fun i h j hi => (by simp at hi)⟩
  nd := .nil
  tup := fun p hp => (by cases hp)
  room := by show 0 * 5 < 7 * 3; decide
  few := by show 0 < 64; decide
theorem set_of_tups {l : Addr} {items : Array Value} (ks : List (Addr × List κ)) {Q : Value → Shared → Prop} (hh : A.handled = none) (hl : s.heap.IsList l items) (hit : items.toList = ks.map fun p => Value.ref p.1) (hk : ∀ p ∈ ks, IsTupleKey knd s.heap p.2 p.1) (hfew : ks.length < 63) (hu : A.units + 3 < cLine)
    (h : ∀ (h' : Heap) (tk : Nat) L es ep t, TupS knd h' s.heap.objs.size L es ep t → L.length = (once (ks.map (·.2))).length → (∀ b o, s.heap.get? b = some o → h'.get? b = some o) → Q (.ref s.heap.objs.size) { s with heap := h', toks := tk }) :
    wpAny (model P w) A (call (.type "set") [.ref l]) Q E s := by
  have isz : ks.length = items.size := by rw [← Array.length_toList, hit, List.length_map]
  obtain ⟨c, tl, hmro⟩ := PySem.F.called_set.mro
  have hmade := PySem.F.called_set.made
  have hsub := PySem.F.called_set.sub
  have h1 := PySem.F.called_set.notType
  have h2 := PySem.F.called_set.canCreate
  have hct := PySem.F.typeCall_set_1 (.ref l)
  refine wpAny_call (codeAny_of_tree ?_)
  refine wpAny_pure ⟨Code.quiet_builtin _ (by decide +kernel), codeAny_builtin PySem.F.entry_type_call ?_⟩
  rw [Around.under_plain (weight_type_call_type "set" [.ref l] []) rfl]
  repeat (any_goals (first | assumption | wp_step))
  refine codeAny_mono (code_set_new_1 (.ref l) (E := E) (Q₁ := fun obj s₁ => ∃ led : Bool, obj = .ref s.heap.objs.size ∧ s₁ = { s with heap := s.heap.push (set0 led) }) fun led => ⟨led, rfl, rfl⟩) fun r s₁ hr => ?_
  cases r with
  | error e => exact hr
  | ok fl =>
  cases fl with
  | ret obj =>
    obtain ⟨led, rfl, rfl⟩ := hr
    have hT : Shared.TypeIs { s with heap := s.heap.push (set0 led) } (.ref s.heap.objs.size) "set" := ⟨_, Heap.get?_push_size _ rfl, rfl⟩
    have hli := PySem.F.called_set.init.lookup
    have hbi := PySem.F.called_set.init.bind (.ref s.heap.objs.size)
    repeat (any_goals (first | assumption | wp_step))
    refine codeAny_mono (codeAny_call_builtin (R := wants (fun r s₂ => r = .none ∧ ∃ h' tk, s₂ = { s with heap := h', toks := tk } ∧ (∃ L es ep t, TupS knd h' s.heap.objs.size L es ep t ∧ L.length = (once (ks.map (·.2))).length) ∧ ∀ b o, s.heap.get? b = some o → h'.get? b = some o) E)
      PySem.F.called_set.init.plain PySem.F.entry_set_init (check_set_init_1 hT ?_)) fun r₂ s₂ hr₂ => ?_
    · obtain ⟨⟨cl, di, da, sl⟩, hol, hcl, nl, hdl⟩ := hl
      simp only at hcl hdl
      subst hcl; subst hdl
      have hlS : l < s.heap.objs.size := Heap.lt_size hol
      have hol' : (s.heap.push (set0 led)).get? l = some { cls := .type "list", dict := di, data := .seq items nl, slots := sl } := Heap.get?_push_of_some _ hol
      have hsls := PySem.F.sub_list_set
      have hslf := PySem.F.sub_list_frozenset
      have hne : (Value.type "list" == Value.type "dict") = false := by decide
      have hl1 : (s.heap.push (set0 led)).IsList l items := ⟨_, hol', rfl, nl, rfl⟩
      unfold Builtin.«set.__init__» noKeywords Builtin.Frozenset.updateFrom
      generalize hPI : pyIter = PI
      wp_walk
      subst hPI
      refine wpAny_pyIter_list hl1 (wpAny_bind (wpAny_runValue ?_))
      have hI : (s.heap.push (set0 led)).objs.size = s.heap.objs.size + 1 := Heap.size_push ..
      have hh3 : A.in1.in1.in1.handled = none := by simp [hh]
      have none_of : ∀ b, s.heap.objs.size ≤ b → s.heap.get? b = none := fun b hb => by
        cases q : s.heap.get? b with
        | none => rfl
        | some o => exact absurd (Nat.lt_of_lt_of_le (Heap.lt_size q) hb) (Nat.lt_irrefl _)
      refine tset_loop (knd := knd) ((Walks.list hh3 _ l (by rw [hI]; exact Nat.ne_of_lt (Nat.lt_succ_of_lt hlS)) items).toS) s.heap.objs.size (by
        rw [hI]
        simp only [List.mem_cons, List.not_mem_nil, or_false, not_or]
        exact ⟨Nat.ne_of_lt (Nat.lt_succ_self _), Nat.ne_of_gt hlS⟩) ks isz hfew (fun i v hv => ?_) s.heap hk (none_of _ (Nat.le_refl _)) (fun b hb => none_of b (by
          rw [List.mem_singleton.mp hb, hI]; exact Nat.le_succ _)) hu (items.size - 0) 0 _ rfl (Nat.zero_le _) ⟨⟨_, Heap.get?_push_size _ rfl, rfl, rfl⟩, hl1.push _⟩ (fun b o e => Heap.get?_push_of_some _ (Heap.get?_push_of_some _ e)) ⟨[], _, _, _, ts_fresh (led := led) (Heap.get?_push_of_some _ (Heap.get?_push_size _ rfl)), ⟨fun p hp => (by cases hp), fun k => (by simp), rfl⟩⟩ ?_
      · have q : items.toList[i]? = some v := by rw [Array.getElem?_toList]; exact hv
        rw [hit, List.getElem?_map] at q
        obtain ⟨p, hp, e⟩ := Option.map_eq_some_iff.mp q
        exact ⟨p, hp, e.symm⟩
      · intro s' L es ep t mv T g
        have gl := g.len
        rw [← isz, List.take_length] at gl
        obtain ⟨h', g', d', tk', os'⟩ := s'
        obtain rfl : g' = s.gens := mv.gens
        obtain rfl : d' = s.drawn := mv.drawn
        obtain rfl : os' = s.os := mv.os
        refine wpAny_pure (wpAny_pure ⟨rfl, h', tk', rfl, ⟨L, es, ep, t, T, gl⟩, fun b o e => ?_⟩)
        have hb := Heap.lt_size e
        exact mv.heap b o (by
          rw [hI]
          simp only [List.mem_cons, List.not_mem_nil, or_false, not_or]
          exact ⟨Nat.ne_of_lt hb, Nat.ne_of_lt (Nat.lt_succ_of_lt hb)⟩) (Heap.get?_push_of_some _ (Heap.get?_push_of_some _ e))
    · cases r₂ with
      | error e => exact hr₂
      | ok fl₂ =>
      cases fl₂ with
      | ret r =>
        obtain ⟨rfl, h', tk, rfl, ⟨L, es, ep, t, T, gl⟩, hk'⟩ := hr₂
        repeat (any_goals (first | assumption | wp_step))
        exact h _ _ L es ep t T gl hk'
      | _ => exact hr₂.elim
  | _ => exact hr.elim
end
end Go

set_option Elab.async false
set_option linter.all false
set_option maxRecDepth 100000
set_option maxHeartbeats 4000000
namespace Go
open PySem PySem.Spec PyProof.Rows L2
section
variable {X : Cx}
theorem refs_val : ∀ {ks : List (Addr × List Key)} {us : List Value}, Vals (ks.map fun p => V.ref p.1) us → us = ks.map fun p => Value.ref p.1
  | [], _, .nil => rfl
  | p :: ks, _, .cons r t => by
    cases r
    rw [refs_val t]; rfl
theorem inv_tk {pins : List (Addr × Obj)} {σ : L2.St} {H : Hp} {s : Shared} {b : Addr} {k : List Key} (I : Inv X pins σ H s) (h : SqT X.K H b (k.map kV)) : IsTupleKey (mixKind X.prog X.w) s.heap k b := by
  obtain ⟨its, r, ⟨o, ho, hc, n, hd⟩, _⟩ := I.tuple h
  exact ⟨o, its.toArray, n, ho, hc, hd, by simpa using items_are r⟩
def tLenSetT (K : PySem.W.Frag) (ta : TE) : TE := fun σ H Q => ta σ H fun x H1 => ∃ (l : Addr) (ks : List (Addr × List Key)), x = .ref l ∧ SqL K H1 l (ks.map fun p => V.ref p.1) ∧ (∀ p ∈ ks, SqT K H1 p.1 (p.2.map kV)) ∧ ks.length < 63 ∧ Q (.int ((once (ks.map (·.2))).length : Nat)) H1
theorem pe_lenSetT {a : Expr} {ta : TE} {p p2 q pos : Pos} (hr : X.A.units + 64 < cLine) (hg : Gl X "len") (hm : X.mg "len" = none) (hg2 : Gl X "set") (hm2 : X.mg "set" = none) (ha : PE X a ta) (hc : X.calm = true := by rfl)
    (na : starEach [a] X.env = (false, eval a X.env) :: starEach [] X.env := by rfl) : PE X (.Call (.Name "len" p) [.Call (.Name "set" p2) [a] [] q] [] pos) (tLenSetT X.K ta) := by
  refine ⟨fun pins s σ H Q I h => ?_⟩
  refine Call_ (ld_blt I hg hm PySem.boot_len ?_)
  refine PyProof.Rows.callWith_builtin1 (PyProof.Rows.args_cons ?_ rfl) rfl rfl
  refine Call_ (ld_blt I hg2 hm2 PyProof.Rows.boot_set ?_)
  refine PyProof.Rows.callWith_type1 (PyProof.Rows.args_cons (thn (ha.run pins s σ H _ I h) fun v s1 ⟨x, H1, I1, r1, q1⟩ => PyProof.Rows.args_nil ?_) na) na rfl
  obtain ⟨l, ks, rfl, hq, hk, hl, q1⟩ := q1
  cases r1
  obtain ⟨its, r, pl, hz⟩ := I1.list hq
  refine set_of_tups (knd := mixKind X.prog X.w) ks (I1.ok.hd hc) pl.isList (by simpa using refs_val r) (fun p hp => inv_tk I1 (hk p hp)) hl (by omega) fun h' tk L es ep t T gl hkp => ?_
  refine PyProof.Rows.args_nil ?_
  have n1 := rws_len T.rows
  have f1 := T.fits (s := { s1 with heap := h' })
  obtain ⟨o, ho, hex, hd⟩ := T.ob
  have few := T.few
  have I2 : Inv X pins σ H1 { s1 with heap := h', toks := tk } := I1.kept fun b o e => hkp b o e
  exact call_len_set ho hex hd f1 (by rw [n1]; omega) ⟨.int ((once (ks.map (·.2))).length : Nat), H1, I2.tok _, ⟨_, by rw [n1, gl]⟩, q1⟩
theorem w_lenSetT {K : PySem.W.Frag} {σ : L2.St} {H : Hp} {Q : VK} {te : TE} (h : te σ H fun x H1 => ∃ (l : Addr) (ks : List (Addr × List Key)), x = .ref l ∧ SqL K H1 l (ks.map fun p => V.ref p.1) ∧ (∀ p ∈ ks, SqT K H1 p.1 (p.2.map kV)) ∧ ks.length < 63 ∧ Q (.int ((once (ks.map (·.2))).length : Nat)) H1) : tLenSetT K te σ H Q := h
end
end Go

set_option Elab.async false
set_option linter.all false
set_option maxRecDepth 100000
set_option maxHeartbeats 4000000
/-! ### sorted(tuple of texts) -/
namespace Go
open PySem PySem.Spec PyProof.Rows L2
section
variable {prog : Program} {w : World} {A : Around} {E : Value → Shared → Prop} {s : Shared}
theorem collect_tup {l : Addr} {vs : List Value} {Q : List Value → Shared → Prop} (hl : s.heap.IsTuple l vs.toArray)
    (h : Q vs { s with heap := (s.heap.push (seqObj "list" #[] 0)).update s.heap.objs.size (Obj.mapSeq (· ++ vs.toArray)) }) (hsz : vs.length ≤ sizeLine) : wpAny (model prog w) A (collect (.ref l)) Q E s := by
  obtain ⟨o, ho, hc, n, hd⟩ := id hl
  have ho' : (s.heap.push (seqObj "list" #[] 0)).get? l = some o := Heap.get?_push_of_some _ ho
  unfold collect
  refine wpAny_bind (wpAny_runValue (codeAny_builtin entry_proto_collect' ?_))
  show wpAny _ _ (do again (.builtin "list.__iadd__" ⟨[← newList [], .ref l], []⟩)) _ _ s
  refine wpAny_bind (wpAny_newList (wpAny_pure ⟨Code.quiet_builtin _ (by decide +kernel), codeAny_builtin entry_list_iadd' ?_⟩))
  show wpAny _ _ (Builtin.List.listExtendWith (.ref s.heap.objs.size) (.ref l) (.ref s.heap.objs.size)) _ _ { s with heap := s.heap.push (seqObj "list" #[] 0) }
  unfold Builtin.List.listExtendWith
  refine wpAny_bind (wpAny_typeOf (T := "tuple") ⟨o, ho', hc⟩ ?_)
  rw [if_pos (by rw [show (Value.type "tuple" == Value.type "tuple") = true from rfl]; simp)]
  refine wpAny_bind (listItems_at ho' hd ?_)
  refine wpAny_bind (listItems_at (xs := #[]) (n := 0) (Heap.get?_push_size _ rfl) rfl ?_)
  rw [if_neg (by simp)]
  refine wpAny_bind (listUpdate_at (xs := #[]) (n := 0) (Heap.get?_push_size _ rfl) rfl ?_ (Nat.zero_le _) (by show (#[] ++ vs.toArray).size ≤ sizeLine + 1; simp only [Array.size_append, List.size_toArray, List.length_nil]; omega))
  refine wpAny_pure ?_
  show wpAny (model prog w) A (do
      let o ← load s.heap.objs.size
      match o.data with
      | .seq xs _ => pure xs.toList
      | _ => unsupported "internal:collect") Q E { s with heap := (s.heap.push (seqObj "list" #[] 0)).update s.heap.objs.size (Obj.mapSeq (· ++ vs.toArray)) }
  refine wpAny_bind (wpAny_load (get?_update_seq (Heap.get?_push_size _ rfl) _) ?_)
  show wpAny _ _ (pure ((#[] : Array Value) ++ vs.toArray).toList) Q E _
  rw [show ((#[] : Array Value) ++ vs.toArray).toList = vs by simp]
  exact wpAny_pure h
theorem sorted_tupS {l : Addr} {vs : List Value} {ss : List Str} {Q : Value → Shared → Prop} (hl : s.heap.IsTuple l vs.toArray) (hS : StrsAre vs ss) (h64 : vs.length < 64)
    (h : ∀ (out : Array Value) (ss' : List Str), StrsAre out.toList ss' → ss'.Perm ss → sortedS ss' = true → Q (.ref (s.heap.objs.size + 1)) { s with heap := sortedAll s.heap vs out }) :
    wpAny (model prog w) A (call (.builtin "sorted") [.ref l]) Q E s := by
  refine Calls.call_function_entry kind_sorted plain_sorted entry_sorted (args_sorted1 _) ?_
  unfold Builtin.«sorted»
  refine wpAny_bind (m := checkCount "sorted" 1 1 _) (wpAny_pure ?_)
  refine wpAny_bind (collect_tup hl ?_ (by rw [sizeLine_eq]; omega))
  refine wpAny_bind (wpAny_newList ?_ (by rw [sizeLine_eq]; omega))
  have hsz : ((s.heap.push (seqObj "list" #[] 0)).update s.heap.objs.size (Obj.mapSeq (· ++ vs.toArray))).objs.size = s.heap.objs.size + 1 := by
    rw [Heap.size_update, size_push']
  have hoL : (((s.heap.push (seqObj "list" #[] 0)).update s.heap.objs.size (Obj.mapSeq (· ++ vs.toArray))).push (seqObj "list" vs.toArray 0)).get? (s.heap.objs.size + 1) = some (seqObj "list" vs.toArray 0) := by
    rw [← hsz]; exact Heap.get?_push_size _ rfl
  show wpAny _ _ _ _ _ { s with heap := ((s.heap.push (seqObj "list" #[] 0)).update s.heap.objs.size (Obj.mapSeq (· ++ vs.toArray))).push (seqObj "list" vs.toArray 0) }
  rw [hsz]
  refine wpAny_bind (wpAny_holding (wpAny_call_entry slot_list_sort ⟨_, hoL, rfl⟩ entry_list_sort (list_sort_treeK strKind_oneLt hoL hS.keysOf (fun v₁ v₂ rest e => keyKind_strs (by rw [← e]; exact hS)) h64 fun st' a1 a2 => ⟨_, rfl, ?_⟩) (args_list_sort _)))
  obtain ⟨ss', h1, h2, h3⟩ := sorted_out_str hS a1 a2
  exact wpAny_pure ⟨_, rfl, h _ ss' h1 h2 h3⟩
end
section
variable {X : Cx}
def rSortedTS (K : PySem.W.Frag) : List V → Hp → VK → Prop := fun vs H Q => ∃ (a : Addr) (xs : List Str), vs = [V.ref a] ∧ SqT K H a (xs.map V.str) ∧ xs.length < 64 ∧ ∀ (ys : List Str) (p : Addr), ys.Perm xs → sortedS ys = true → H p = none → Q (.ref p) (upd H p (.lst (ys.map V.str)))
theorem cr_sortedTS : CallR X (.builtin "sorted") (rSortedTS X.K) := by
  intro pins s σ H vs us Q I r h
  obtain ⟨a, xs, rfl, hs, h64, q⟩ := h
  obtain ⟨its, rv, hl, _⟩ := I.tuple hs
  rw [Vals.ref1 r]
  have hlen0 := rv.length
  rw [List.length_map] at hlen0
  refine sorted_tupS hl rv.strs (by rw [← hlen0]; exact h64) fun out ys h1 h2 h3 => ?_
  obtain ⟨ep, he'⟩ := PyProof.Rows.sortedAll_at s.heap its out
  have hlen : (ys.map V.str).length ≤ sizeLine := by rw [List.length_map, h2.length_eq]; exact small64 h64
  exact ⟨.ref _, upd H (s.heap.objs.size + 1) (.lst (ys.map V.str)), I.laid (t' := s.toks) (fun _ _ => PyProof.Rows.sortedAll_old) (Nat.le_succ _) ⟨hlen, out.toList, ep, vals_of_strs h1, he'⟩, rfl, q ys _ h2 h3 (I.hok.fresh (Nat.le_succ _))⟩
end
end Go

set_option Elab.async false
set_option linter.all false
set_option maxRecDepth 100000
set_option maxHeartbeats 4000000
/-! ### t[::-1] of a tuple; statements that are never reached -/
namespace Go
open PySem PySem.Spec PyProof.Rows L2
section
variable {prog : Program} {w : World} {A : Around} {E : Value → Shared → Prop} {s : Shared}
theorem applied_rev {sl : Addr} {n : Nat} {vs : Value} {Q : Int × Int × Nat → Shared → Prop} (hs : s.heap.IsSliceOf sl .none .none vs) (ps : IsPart vs (some (-1))) (h : Q ((n : Int) - 1, -1, n) s) : wpAny (model prog w) A (Builtin.Slice.sliceApplied (.ref sl) (pure (n : Int))) Q E s := by
  obtain ⟨os, hos, hcs, hds⟩ := id hs
  unfold Builtin.Slice.sliceApplied Builtin.Slice.sliceFields
  refine wpAny_bind (wpAny_bind (wpAny_field hos hds (x := .none) rfl (wpAny_bind (wpAny_field hos hds (x := .none) rfl (wpAny_bind (wpAny_field hos hds (x := vs) rfl (wpAny_pure ?_)))))))
  refine wpAny_bind (HT.slicePart_ ps ?_)
  show wpAny _ _ (if ((-1 : Int) == 0) = true then _ else _) _ _ s
  rw [if_neg (by decide)]
  refine wpAny_bind (HT.slicePart_ .none (wpAny_bind (HT.slicePart_ .none (wpAny_bind (wpAny_pure ?_)))))
  show wpAny _ _ (pure ((n : Int) - 1, (-1 : Int), Builtin.Slice.slicePlaces ((n : Int) - 1) (-1) (-1))) _ _ s
  have e : Builtin.Slice.slicePlaces ((n : Int) - 1) (-1) (-1) = n := by
    unfold Builtin.Slice.slicePlaces
    rw [if_neg (by decide)]
    split
    · rw [Int.neg_neg, Int.ediv_one]; omega
    · omega
  rw [e]
  exact wpAny_pure h
theorem pick_rev (xs : Array Value) : ((List.range xs.size).filterMap fun (m : Nat) => xs[((xs.size : Int) - 1 + (m : Int) * (-1)).toNat]?).toArray = xs.toList.reverse.toArray := by
  congr 1
  have key : ∀ k, k ≤ xs.size → (List.range k).filterMap (fun (m : Nat) => xs[((xs.size : Int) - 1 + (m : Int) * (-1)).toNat]?) = xs.toList.reverse.take k := by
    intro k
    induction k with
    | zero => intro _; rfl
    | succ k ih =>
      intro hk
      have e1 : ((xs.size : Int) - 1 + (k : Int) * (-1)).toNat = xs.size - 1 - k := by omega
      have hlt : xs.size - 1 - k < xs.size := by omega
      have e2 : xs.toList.reverse[k]? = some xs[xs.size - 1 - k] := by
        rw [List.getElem?_reverse (by rw [Array.length_toList]; omega), Array.length_toList, Array.getElem?_toList, Array.getElem?_eq_getElem hlt]
      rw [List.range_succ, List.filterMap_append, ih (by omega), List.take_add_one, e2, List.filterMap_cons, e1, Array.getElem?_eq_getElem hlt]
      rfl
  rw [key xs.size (Nat.le_refl _), List.take_of_length_le (by rw [List.length_reverse, Array.length_toList]; exact Nat.le_refl _)]
theorem getItem_tuple_rev {t sl : Addr} {items : Array Value} {vs : Value} {Q : Value → Shared → Prop} (ht : IsTup s.heap t items) (hs : s.heap.IsSliceOf sl .none .none vs) (ps : IsPart vs (some (-1)))
    (h : Q (.ref s.heap.objs.size) { s with heap := s.heap.push { cls := .type "tuple", data := .seq items.toList.reverse.toArray } }) (hsz : items.size ≤ sizeLine) : wpAny (model prog w) A (getItem (.ref t) (.ref sl)) Q E s := by
  have htake : sizeOk (.seq items.toList.reverse.toArray) := by
    show items.toList.reverse.toArray.size ≤ sizeLine
    rw [List.size_toArray, List.length_reverse, Array.length_toList]
    exact hsz
  obtain ⟨os, hos, hcs, hds⟩ := id hs
  have hTs : s.TypeIs (.ref sl) "slice" := ⟨os, hos, hcs⟩
  unfold getItem
  try with_reducible refine wpAny_holding ?_
  first | refine wpAny_bind (wpAny_pure ?_) | skip
  refine wpAny_bind (wpAny_sequenceKey ht.typeIs (by decide) ?_)
  refine wpAny_bind (wpAny_callSpecial?_slot (name := Str.ofString "__getitem__") ht.typeIs PyProof.Rows.slot_tuple_getitem
    (wpAny_call_entry PyProof.Rows.slot_tuple_getitem ht.typeIs entry_tuple_getitem ?_ (args_tuple_getitem _ _)))
  show wpAny _ _ (Builtin.Tuple.tupleItemsOf (.ref t) >>= _) _ _ s
  refine wpAny_bind (tupleItemsOf_ ht ?_)
  refine wpAny_bind (wpAny_typeOf hTs ?_)
  rw [if_pos (by decide)]
  refine wpAny_bind (applied_rev hs ps ?_)
  show wpAny _ _ (if (((items.size : Int) - 1) == 0 && (-1 : Int) == 1 && items.size == items.size) = true then _ else _) _ _ s
  rw [if_neg (by simp), pick_rev]
  first
    | exact wpAny_bind (m := Builtin.Tuple.tupleExact _) (wpAny_newObj_type (wpAny_pure ⟨_, rfl, wpAny_pure h⟩) htake)
    | exact wpAny_bind (m := Builtin.Tuple.tupleExact _) (wpAny_newObj_type (wpAny_bind (wpAny_pure (wpAny_pure ⟨_, rfl, wpAny_pure h⟩))) htake)
    | exact wpAny_bind (wpAny_bind (m := Builtin.Tuple.tupleExact _) (wpAny_newObj_type (wpAny_pure (wpAny_pure ⟨_, rfl, wpAny_pure h⟩)) htake))
    | exact wpAny_bind (wpAny_bind (m := Builtin.Tuple.tupleExact _) (wpAny_newObj_type (wpAny_pure ⟨_, rfl, wpAny_pure h⟩) htake))
end
section
variable {X : Cx}
def tRevT (K : PySem.W.Frag) (te : TE) : TE := fun σ H Q => te σ H fun x H1 => ∃ a xs, x = .ref a ∧ SqT K H1 a xs ∧ ∀ p, H1 p = none → Q (.ref p) (upd H1 p (.tup xs.reverse))
theorem pe_revT {e : Expr} {te : TE} {k : Nat} {p1 p2 p3 pos : Pos} (he : PE X e te) : PE X (.Subscript e (.Slice none none (some (.UnaryOp .USub (.Constant (.int 1) k p1) p2)) p3) pos) (tRevT X.K te) := by
  refine ⟨fun pins s σ H Q I h => ?_⟩
  refine Subscript_ (thn (he.run pins s σ H _ I h) fun v s1 ⟨x, H1, I1, r1, q1⟩ => ?_)
  obtain ⟨a, xs, rfl, hx, q⟩ := q1
  cases r1
  have hst : PO X (some (.UnaryOp .USub (.Constant (.int 1) k p1) p2)) (tPart (tUn (rU fun i => .int (-i)) (tC (.int 1)))) := po_some (pe_un un_neg pe_int)
  refine wpAny_Slice (thn (po_none.run pins s1 σ H1 (fun o H2 => o = none ∧ H2 = H1) I1 ⟨rfl, rfl⟩) fun vl s2 ⟨l, H2, I2, pl, el, e2⟩ => ?_)
  subst el e2
  refine thn (po_none.run pins s2 σ H2 (fun o H3 => o = none ∧ H3 = H2) I2 ⟨rfl, rfl⟩) fun vu s3 ⟨u, H3, I3, pu, eu, e3⟩ => ?_
  subst eu e3
  refine thn (hst.run pins s3 σ H3 (fun o H4 => o = some (-1) ∧ H4 = H3) I3 ⟨1, rfl, -1, rfl, rfl, rfl⟩) fun vs s4 ⟨o, H4, I4, ps, eo, e4⟩ => ?_
  subst eo e4
  cases pl
  cases pu
  have I5 : Inv X pins σ H4 { s4 with heap := s4.heap.push { cls := .type "slice", data := .fields #[.none, .none, vs] } } := I4.kept (t' := s4.toks) fun b ob q => Heap.get?_push_of_some _ q
  obtain ⟨its, r, ht, hz⟩ := I5.tuple hx
  have hlen := r.length
  refine tail_any (ops := [.ref a, .ref s4.heap.objs.size]) ht.typeIs (PyProof.Rows.slot_tuple_getitem.lookup) ?_ (by with_unfolding_all rfl)
  refine getItem_tuple_rev ht (Heap.IsSliceOf.new _ .none .none vs) ps ?_ (by rw [List.size_toArray]; omega)
  refine ⟨.ref _, _, I5.laid (t' := s4.toks) (o := .tup xs.reverse) (fun b ob q => Heap.get?_push_of_some _ q) (Nat.le_refl _) ?_, rfl, q _ (I5.hok.fresh (Nat.le_refl _))⟩
  exact ⟨by rw [List.length_reverse]; exact hz, _, by simpa using r.reverse, IsTup.new _ _⟩
/-- a statement that is never reached -/
def tNever : L2.TS := fun _ _ _ => False
theorem ps_never {st : Stmt} : PS X st tNever := ⟨fun _ _ _ _ _ _ h => h.elim⟩
theorem w_revT {K : PySem.W.Frag} {σ : L2.St} {H : Hp} {Q : VK} {te : TE} (h : te σ H fun x H1 => ∃ a xs, x = .ref a ∧ SqT K H1 a xs ∧ ∀ p, H1 p = none → Q (.ref p) (upd H1 p (.tup xs.reverse))) : tRevT K te σ H Q := h
end
end Go

set_option Elab.async false
set_option linter.all false
set_option maxRecDepth 100000
set_option maxHeartbeats 4000000
namespace Go
open PySem PySem.Spec PyProof.Rows L2
theorem un65 {A : Around} {k : Nat} (hr : Room k A) : A.units + 65 < cLine := by
  have := hr.un
  omega
/-! ### defs that may raise -/
def HasX (P : Program) (w : World) (K : PySem.W.Frag) (mg : Str → Option Value) (base : Heap) (x : Str) (k : Nat) (ps : List Str) (sp : Sp) : Prop :=
  ∃ (f : Addr) (fd : FuncData), mg x = some (.ref f) ∧ PySem.W.keepIn K (.ref f) = true ∧ Binds K fd ps [] ∧ FnOk P w K mg base (L2.CX P w) k f fd ps sp
theorem pe_hasX {X : Cx} {W : WX} {x : Str} {p pos : Pos} {e : Expr} {es : List Expr} {t : TA} {k : Nat} {ps : List Str} {sp : Sp} (h : HasX X.prog X.w X.K X.mg X.base x k ps sp) (hr : Room k X.A) (hg : Gl X x) (tk : L2.Takes X W) (ha : PA X (e :: es) t)
    (hd : (x == ("__debug__" : Str)) = false := by decide) (he : starEach (e :: es) X.env = (false, eval e X.env) :: starEach es X.env := by rfl) (hpl : (backTo pos (starEach es X.env)).any (·.1) = false := by rfl) :
    PE X (.Call (.Name x p) (e :: es) [] pos) (tCallS sp (WE W) t) := by
  obtain ⟨f, fd, gm, kp, b, F⟩ := h
  exact pe_callS F hr hg gm kp b (fun σ => passAt tk σ) ha hd he hpl
/-- what is to be known of an own error class -/
structure ExcK (K : PySem.W.Frag) (C : Addr) : Prop where
  q : PySem.W.excIn K C [.type "ValueError", .type "Exception", .type "BaseException", .type "object"] "ValueError.__new__" = true
  kC : PySem.W.keepIn K (.ref C) = true
  s1 : PySem.W.subIn K (.ref C) (.type "BaseException") = some true
  t1 : PySem.W.typeIn K (.ref C) = some (.type "type")
  ec : ExcC K C
def tRaise (E : XK) (C : Addr) : L2.TS := fun _ _ H => E (.ref C) none H
theorem ps_raiseOwn {X : Cx} {E : XK} {C : Addr} {x m : Str} {j : Nat} {p p2 pos pos' : Pos} (hc : X.calm = true) (tk : L2.Takes X (fun cls d _ H => E cls d H)) (k : ExcK X.K C) (gC : X.mg x = some (.ref C)) (hg : Gl X x) (hdb : (x == ("__debug__" : Str)) = false := by decide) :
    PS X (.Raise (some (.Call (.Name x p) [.Constant (.str m) j p2] [] pos)) none pos') (tRaise E C) := L2.ps_raise hc tk (L2.pmk_own PySem.F.excBase_ValueError k.q gC k.kC (raises_own k.s1 k.t1) hg hdb)
/-- isinstance(e, c), isinstance(e, (c, ..)), e the error that the suite holds -/
def rIsX (K : PySem.W.Frag) (D a : Addr) (cls : Value) (d : Option Addr) : List V → Hp → VK → Prop := fun xs H Q => cls = .ref D ∧ d = none ∧ (rIsE K D a xs H Q ∨ ∃ (t : Addr) (cs : List Addr) (b : Bool), xs = [.ref a, .ref t] ∧ SqT K H t (cs.map V.ref) ∧ PySem.W.kitAny K (.ref D) (cs.map Value.ref) = some b ∧ Q (.bl b) H)
theorem refs_of : ∀ {cs : List Addr} {us : List Value}, Vals (cs.map V.ref) us → us = cs.map Value.ref
  | [], us, r => by cases r; rfl
  | c :: cs, us, r => by
    cases r with
    | cons a t =>
      cases a
      rw [refs_of t]; rfl
theorem call_isX {X : Cx} {a D : Addr} {cls : Value} {d : Option Addr} {oe : Obj} {pn : List (Addr × Obj)} (C : ExcC X.K D) (hz : L2.Zc cls d oe) (hf : ∃ vs, oe.data = .fields vs) : CallR (X.suite a ((a, oe) :: pn)) (.builtin "isinstance") (rIsX X.K D a cls d) := by
  intro pins s σ H xs us Q I r h
  obtain ⟨rfl, rfl, h | ⟨t, cs, b, rfl, ht, e, q⟩⟩ := h
  · exact call_isE C hz hf pins s σ H xs us Q I r h
  · cases r with
    | cons rx rr =>
      cases rr with
      | cons rt rr =>
        cases rr
        cases rx
        cases rt
        obtain ⟨its, rv, ⟨o, ho, hc, n, hd⟩, _⟩ := I.tuple ht
        have ei := refs_of rv
        subst ei
        obtain ⟨oc, od, oda, osl⟩ := o
        dsimp only at hc hd
        subst hc hd
        obtain ⟨hget, _⟩ := I.pin (a, oe) (List.mem_append.mpr (.inl List.mem_cons_self))
        obtain ⟨vs, hv⟩ := hf
        have J : PySem.W.InstAt s.heap a oe D none := by
          obtain ⟨oc, od, oda, osl⟩ := oe
          obtain ⟨h1, h2⟩ := hz
          dsimp only at h1 h2 hv
          subst h1 h2 hv
          exact ⟨hget, rfl, rfl, trivial⟩
        exact PySem.W.kia_tup (PySem.W.handS_kitx_exc C.hg C.hk C.hs C.hd C.ha C.hn C.ht C.hm) I.kIn J ho e (fun z => nomatch z) fun tk => ⟨.bl b, H, I.kept (t' := tk) fun _ _ z => z, rfl, q⟩
/-! ### the classes' facts, asked of the written part -/
def excB (K : PySem.W.Frag) (C : Addr) : Bool :=
  PySem.W.excIn K C [.type "ValueError", .type "Exception", .type "BaseException", .type "object"] "ValueError.__new__" && PySem.W.keepIn K (.ref C) && (PySem.W.subIn K (.ref C) (.type "BaseException") == some true) && (PySem.W.typeIn K (.ref C) == some (.type "type")) &&
  (PySem.W.findIn K (.ref C) "__getattribute__" == some (some (.builtin "BaseException.__getattribute__"))) && (PySem.W.findIn K (.ref C) "__getattr__" == some none) && PySem.W.hasDictIn K C && (PySem.W.findIn K (.ref C) "__class__" == some (some (.builtin "object.__class__"))) &&
  (PySem.W.specialIn K (.builtin "object.__class__") "__get__" == some (some (.builtin "getset_descriptor.__get__"))) && (PySem.W.takesIn K (.builtin "object.__class__") == some true) && (PySem.W.mroIn K C (.type "object") == some true)
theorem excB_ok {K : PySem.W.Frag} {C : Addr} (h : excB K C = true) : ExcK K C := by
  unfold excB at h
  simp only [Bool.and_eq_true, beq_iff_eq] at h
  obtain ⟨⟨⟨⟨⟨⟨⟨⟨⟨⟨a1, a2⟩, a3⟩, a4⟩, a5⟩, a6⟩, a7⟩, a8⟩, a9⟩, a10⟩, a11⟩ := h
  exact ⟨a1, a2, a3, a4, ⟨a5, a6, a3, a7, a8, a9, a10, a11⟩⟩
end Go

set_option Elab.async false
set_option linter.all false
set_option maxRecDepth 100000
set_option maxHeartbeats 4000000
namespace Go
open PySem PySem.Spec PyProof.Rows L2
/-! ### sets of texts whose members can be walked -/
def txK (e : Int × Value) : Str := match e.2 with | .str k _ => k | _ => Str.empty
def TxE (w : World) (e : Int × Value) : Prop := ∃ k tk, e.2 = Value.str k tk ∧ e.1 = hashStr w k
/-- the set of texts at a: its members are zs -/
def TxR (w : World) (h : Heap) (a : Addr) (zs : List Str) : Prop :=
  ∃ o es ep t, h.get? a = some o ∧ o.ExactSet ∧ o.data = .set es ep t ∧ (∀ e ∈ es.toList, TxE w e) ∧ (es.toList.map txK).Perm zs ∧ zs.Nodup ∧ es.size < scanBound ∧ t.fits es.size = true ∧ Ris t.place.toList ∧ (w.params.followText "set-order" = true ∨ t.led = true)
section
variable {P : Program} {w : World} {h h' : Heap} {a : Addr} {zs : List Str}
theorem TxR.off (R : TxR w h a zs) (k : ∀ o, h.get? a = some o → h'.get? a = some o) : TxR w h' a zs := by
  obtain ⟨o, es, ep, t, ho, r⟩ := R
  exact ⟨o, es, ep, t, k o ho, r⟩
theorem tx_is (k : Str) (tk : Tok) : (PySem.strKind P w).is k (.str k tk) = true := by
  show Value.isStrOf k (.str k tk) = true
  unfold Value.isStrOf
  simp
theorem tx_elems {l : List (Int × Value)} (g : ∀ e ∈ l, TxE w e) : ElemsOf (PySem.strKind P w) l := fun e he => by
  obtain ⟨k, tk, e1, e2⟩ := g e he
  refine ⟨⟨k, ?_, e2⟩, ?_⟩
  · rw [e1]; exact tx_is k tk
  · rw [e1]; rfl
theorem tx_at {e : Int × Value} (g : TxE w e) (k : Str) (hk : (PySem.strKind P w).is k e.2 = true) : txK e = k := by
  obtain ⟨k0, tk, e1, _⟩ := g
  rw [e1] at hk
  have : Value.isStrOf k (.str k0 tk) = true := hk
  obtain ⟨t, q⟩ := Value.isStrOf_shape this
  injection q with q1
  unfold txK
  rw [e1]; exact q1
theorem tx_of {e : Int × Value} (g : TxE w e) : (PySem.strKind P w).is (txK e) e.2 = true := by
  obtain ⟨k0, tk, e1, _⟩ := g
  unfold txK
  rw [e1]; exact tx_is k0 tk
end
section
variable {P : Program} {w : World} {A : Around} {E : Value → Shared → Prop} {s : Shared} {a : Addr} {zs : List Str}
theorem tx_tail {g : Bool → Sem Unit} (hg : ∀ (b : Bool) (s₁ : Shared) (Q' : Unit → Shared → Prop), Q' () s₁ → wpAny (model P w) A (g b) Q' E s₁) {o : Obj} {es : Array (Int × Value)} {ep : Nat} {t : SetTable} (ho : s.heap.get? a = some o) (hex : o.ExactSet) (hd : o.data = .set es ep t)
    {fs : Array (Int × Value)} {u : SetTable} {ys : List Str} (g1 : ∀ e ∈ fs.toList, TxE w e) (p1 : (fs.toList.map txK).Perm ys) (n1 : ys.Nodup) (b1 : fs.size < scanBound) (f1 : u.fits fs.size = true) (r1 : Ris u.place.toList) (l1 : w.params.followText "set-order" = true ∨ u.led = true) {wd : Bool} {R : Option Bool → Shared → Prop}
    (hR : ∀ h', Heap.SameBut a s.heap h' → TxR w h' a ys → R (some true) { s with heap := h' }) :
    wpAny (model P w) A (do storeSet a fs u
                            if (!wd && u.tooFull) = true then do g (relayAll u fs (SetTable.grown fs.size)).2.2
                                                                 storeSet a (relayAll u fs (SetTable.grown fs.size)).1 (relayAll u fs (SetTable.grown fs.size)).2.1
                                                                 pure (some true)
                            else pure (some true)) R E s := by
  refine wpAny_bind (wpAny_storeSet_of ho hd ?_ (fits_of_scanBound b1))
  have o1 := L2.store_at (es' := fs) (t' := u) ho hd
  have same := Heap.SameBut.update s.heap a (Obj.putSet fs u)
  split
  · have q1 := relayAll_perm u fs (SetTable.grown fs.size)
    have q2 := relayAll_fits u fs (SetTable.grown fs.size)
    have q3 := L2.relayAll_ris u fs (SetTable.grown fs.size)
    have q4 := L2.relayAll_led u fs (SetTable.grown fs.size)
    generalize relayAll u fs (SetTable.grown fs.size) = Z at q1 q2 q3 q4 ⊢
    obtain ⟨gs, u2, gave⟩ := Z
    dsimp only at q1 q2 q3 q4 ⊢
    have z : gs.size = fs.size := by rw [← Array.length_toList, q1.length_eq, Array.length_toList]
    have b2 : gs.size < scanBound := by rw [z]; exact b1
    refine wpAny_bind (hg _ _ _ ?_)
    refine wpAny_bind (wpAny_storeSet_of o1 rfl ?_ (fits_of_scanBound b2))
    have o2 := L2.store_at (es' := gs) (t' := u2) o1 rfl
    exact wpAny_pure (hR _ (same.trans (Heap.SameBut.update _ a _)) ⟨_, gs, _, u2, o2, hex, rfl, fun e he => g1 e (q1.mem_iff.mp he), (q1.map txK).trans p1, n1, b2, q2, q3, l1.imp id fun y => by rw [q4]; exact y⟩)
  · exact wpAny_pure (hR _ same ⟨_, fs, _, u, o1, hex, rfl, g1, p1, n1, b1, f1, r1, l1⟩)
theorem tx_add {k : Str} {tk : Tok} {Q : Bool → Shared → Prop} (R : TxR w s.heap a zs) (room : zs.length + 1 < scanBound) (hQ : ∀ h' b, Heap.SameBut a s.heap h' → TxR w h' a (if k ∈ zs then zs else zs ++ [k]) → Q b { s with heap := h' }) :
    wpAny (model P w) A (setAddHashed a (.str k tk) ((PySem.strKind P w).hash k)) Q E s := by
  obtain ⟨o, es, ep, t, ho, hex, hd, g, pz, nd, hb, hf, hr, hl⟩ := R
  have sc : (Value.str k tk).scannable = true := rfl
  have el : ElemsOf (PySem.strKind P w) es.toList := tx_elems g
  unfold setAddHashed setAddHashedIn
  refine wpAny_holding (wpAny_bind (wpAny_setState_of ho hd hf ?_))
  dsimp only
  rw [byScan_of sc hb el]
  simp only [↓reduceIte]
  unfold setAddByScan
  refine wpAny_bind ?_
  refine wpAny_bind (wpAny_rule ?_)
  refine wpAny_bind (wpAny_setScan_of (tx_is k tk) ho hd hf el ?_)
  cases fi : List.findIdx? (fun e => (PySem.strKind P w).is k e.2) es.toList with
  | some j =>
    dsimp only
    obtain ⟨hj, pj, _⟩ := List.findIdx?_eq_some_iff_getElem.mp fi
    have m : k ∈ zs := pz.mem_iff.mp (List.mem_map.mpr ⟨es.toList[j], List.getElem_mem hj, tx_at (g _ (List.getElem_mem hj)) k pj⟩)
    refine wpAny_pure (wpAny_pure ?_)
    have q := hQ s.heap false (Heap.SameBut.refl a s.heap)
    rw [if_pos m] at q
    exact q ⟨o, es, ep, t, ho, hex, hd, g, pz, nd, hb, hf, hr, hl⟩
  | none =>
    dsimp only
    have m : k ∉ zs := fun z => by
      obtain ⟨e, he, e2⟩ := List.mem_map.mp (pz.mem_iff.mpr z)
      have c := List.findIdx?_eq_none_iff.mp fi e he
      have c2 := tx_of (P := P) (g e he)
      rw [e2, c] at c2
      cases c2
    have gw : ∀ (b : Bool) {s₁ : Shared} {Q' : Unit → Shared → Prop}, Q' () s₁ → wpAny (model P w) A (match b with | true => rule "set.scan.the-table-gave-way" | false => pure ()) Q' E s₁ := fun b s₁ Q' q => by cases b <;> first | exact wpAny_pure q | exact wpAny_rule q
    have q1 := layNew_perm t es ((PySem.strKind P w).hash k) (.str k tk)
    have q2 := layNew_fits t es ((PySem.strKind P w).hash k) (.str k tk)
    have q3 := L2.layNew_ris t es ((PySem.strKind P w).hash k) (.str k tk) hr
    have q4 := L2.layNew_led t es ((PySem.strKind P w).hash k) (.str k tk)
    generalize layNew t es ((PySem.strKind P w).hash k) (.str k tk) = Z at q1 q2 q3 q4 ⊢
    obtain ⟨fs, u, wd, gave⟩ := Z
    dsimp only at q1 q2 q3 q4 ⊢
    rw [Array.toList_push] at q1
    have pc : fs.toList.Perm (((PySem.strKind P w).hash k, Value.str k tk) :: es.toList) := q1.trans (List.perm_append_singleton _ _)
    have pk : (fs.toList.map txK).Perm (zs ++ [k]) := (pc.map txK).trans ((pz.cons k).trans (List.perm_append_singleton _ _).symm)
    have g1 : ∀ e ∈ fs.toList, TxE w e := fun e he => by
      rcases List.mem_cons.mp (pc.mem_iff.mp he) with y | y
      · rw [y]; exact ⟨k, tk, rfl, rfl⟩
      · exact g e y
    have n1 : (zs ++ [k]).Nodup := List.nodup_append.mpr ⟨nd, one_nodup k, fun x hx y hy e => by
      rw [List.mem_singleton.mp hy] at e
      exact m (e ▸ hx)⟩
    have z : fs.size = zs.length + 1 := by
      have := pk.length_eq
      rw [List.length_map, Array.length_toList, List.length_append] at this
      exact this
    have b1 : fs.size < scanBound := by rw [z]; exact room
    have l1 : w.params.followText "set-order" = true ∨ u.led = true := hl.imp id fun y => by rw [q4]; exact y
    have fin : ∀ h', Heap.SameBut a s.heap h' → TxR w h' a (zs ++ [k]) → Q true { s with heap := h' } := fun h' sb r => by
      have q := hQ h' true sb
      rw [if_neg m] at q
      exact q r
    refine wpAny_bind (gw _ ?_)
    split
    · refine wpAny_bind ?_
      rw [hashByValue_scannable 8 sc]
      refine wpAny_pure ?_
      refine tx_tail ?_ ho hex hd g1 pk n1 b1 ?_ ?_ ?_ ?_
      · intro b s₁ Q' q; cases b <;> first | exact wpAny_pure q | exact wpAny_rule q
      · first | (split <;> first | exact q2 | exact SetTable.fits_plain_off q2) | exact q2
      · first | (split <;> exact q3) | exact q3
      · first | (split <;> exact l1) | exact l1
      · intro h' sb r; dsimp only; exact wpAny_pure (fin h' sb r)
    · refine wpAny_bind (wpAny_pure ?_)
      simp only [↓reduceIte]
      refine tx_tail ?_ ho hex hd g1 pk n1 b1 q2 q3 l1 ?_
      · intro b s₁ Q' q; cases b <;> first | exact wpAny_pure q | exact wpAny_rule q
      · intro h' sb r; dsimp only; exact wpAny_pure (fin h' sb r)
theorem tx_fresh {h : Heap} (w : World) (ho : h.get? a = some (set0 (!w.params.followText "set-order"))) : TxR w h a [] :=
  ⟨_, #[], 0, _, ho, ⟨rfl, rfl, rfl⟩, rfl, (fun e he => by simp at he), (by simp), .nil, (by decide), (by rfl), List.Pairwise.nil, by
    show _ ∨ (!w.params.followText "set-order") = true
    cases w.params.followText "set-order"
    · exact .inr rfl
    · exact .inl rfl⟩
theorem code_set_one (v : Value) {Q₁ : Value → Shared → Prop} (h : Q₁ (.ref s.heap.objs.size) { s with heap := s.heap.push (set0 (!w.params.followText "set-order")) }) : codeAny (model P w) A (.call (.builtin "set.__new__") ⟨[.type "set", v], []⟩) (wants Q₁ E) s := by
  refine codeAny_of_tree ?_
  show wpAny _ A.in1 (do checkBuiltinCall "set.__new__" ⟨[.type "set", v], []⟩; again (.builtin "set.__new__" ⟨[.type "set", v], []⟩)) _ _ s
  refine wpAny_bind (wpAny_of_eq (PySem.F.newCall_set_1 v) (wpAny_pure ⟨plainId_quiet PySem.F.plain_set_new _, codeAny_builtin PySem.F.entry_set_new ?_⟩))
  rw [Around.under_plainId PySem.F.plain_set_new _]
  unfold Builtin.«set.__new__» Builtin.Frozenset.newClass
  have hsub := PySem.sub_set_self
  obtain ⟨hp, gg, d, tk, os⟩ := s
  dsimp only
  wp_walk
  refine wpAny_askSetting (wpAny_pure ?_)
  dsimp only
  simp only [newObj]
  refine wpAny_bind (wpAny_alloc (wpAny_pure ?_))
  exact wpAny_pure h
end
section
variable {prog : Program} {w : World} {A : Around} {E : Value → Shared → Prop} {R : Result → Shared → Prop} {I : Addr} {fp wr : List Addr} {G : Array GenState → Array GenState → Prop} {n : Nat} {P : Nat → Value → Prop} {St : Nat → Shared → Prop}
theorem tx_loop (W : WalksS prog w A.in1 I fp wr G n P St) (S : Addr) (nS : S ∉ fp) (ks : List Str) (hn : ks.length = n) (hb : n + 1 < scanBound) (hval : ∀ i v, P i v → ∃ k tk, ks[i]? = some k ∧ v = .str k tk) :
    ∀ (m i : Nat) (s : Shared), n - i = m → i ≤ n → St i s → TxR w s.heap S (once (ks.take i)) → (∀ s', Moved (S :: wr) G s s' → TxR w s'.heap S (once ks) → R (.ok (.ret .none)) s') →
      codeAny (model prog w) A (.builtin "set.update.loop" ⟨[.ref S, .ref I], []⟩) R s := by
  have up : ∀ b ∈ wr, b ∈ S :: wr := fun b hb => .tail _ hb
  have out : S ∉ wr := fun h => nS (W.sub _ h)
  intro m
  induction m with
  | zero =>
    intro i s hm hi st hS fin
    obtain rfl : i = n := by omega
    rw [List.take_of_length_le (by omega)] at hS
    refine codeAny_builtin PyProof.Rows.F.entry_set_update_loop ?_
    rw [Around.under_plainId PyProof.Rows.F.plain_set_update_loop _]
    refine wpAny_bind (m := pyNext (.ref I)) (W.done s _ _ st fun s' mv => ?_)
    exact wpAny_pure (fin s' (mv.mono up) (hS.off fun o e => mv.heap S _ out e))
  | succ m ih =>
    intro i s hm hi st hS fin
    refine codeAny_builtin PyProof.Rows.F.entry_set_update_loop ?_
    rw [Around.under_plainId PyProof.Rows.F.plain_set_update_loop _]
    refine wpAny_bind (m := pyNext (.ref I)) (W.item i s _ _ (by omega) st fun v s' hP st' mv => ?_)
    obtain ⟨k, tk, hk, rfl⟩ := hval i v hP
    have hS' := hS.off (h' := s'.heap) fun o e => mv.heap S _ out e
    have few := once_len (ks.take i)
    rw [List.length_take] at few
    refine wpAny_bind (m := holding [.str k tk] (setAdd S (.str k tk))) (wpAny_holding ?_)
    unfold setAdd
    refine wpAny_holding (wpAny_bind ((PySem.strKind prog w).pyHash (tx_is k tk) ?_))
    refine tx_add (s := { s' with toks := s'.toks + 1 }) hS' (by omega) fun h' b sb hS2 => ?_
    have off : ∀ b o, b ≠ S → s'.heap.get? b = some o → h'.get? b = some o := fun b o nb e => by rw [sb.2 b nb]; exact e
    have e0 : ks.take (i + 1) = ks.take i ++ [k] := by rw [List.take_add_one, hk]; rfl
    rw [← once_snoc, ← e0] at hS2
    refine wpAny_pure ⟨plainId_quiet PyProof.Rows.F.plain_set_update_loop _, ih (i + 1) _ (by omega) (by omega) (W.frame _ s' _ _ st' (Nat.le_succ _) fun b hb o e => off b o (fun z => nS (z ▸ hb)) e) hS2 fun s'' mv2 hS3 => ?_⟩
    exact fin s'' (Moved.trans W.gtrans ((mv.mono up).then_heap (Nat.le_succ _) fun b o hb e => off b o (fun z => hb (z ▸ .head _)) e) mv2) hS3
end
section
variable {prog : Program} {w : World} {A : Around} {E : Value → Shared → Prop} {s : Shared}
theorem set_of_texts {l : Addr} {items : Array Value} (ks : List Str) {Q : Value → Shared → Prop} (hh : A.handled = none) (hl : s.heap.IsList l items) (hn : ks.length = items.size) (hb : items.size + 1 < scanBound)
    (hi : ∀ (i : Nat) (v : Value), items[i]? = some v → ∃ k tk, ks[i]? = some k ∧ v = .str k tk)
    (h : ∀ (h' : Heap) (tk : Nat), TxR w h' s.heap.objs.size (once ks) → (∀ b o, s.heap.get? b = some o → h'.get? b = some o) → s.heap.objs.size < h'.objs.size → Q (.ref s.heap.objs.size) { s with heap := h', toks := tk }) :
    wpAny (model prog w) A (call (.type "set") [.ref l]) Q E s := by
  obtain ⟨c, tl, hmro⟩ := PySem.F.called_set.mro
  have hmade := PySem.F.called_set.made
  have hsub := PySem.F.called_set.sub
  have h1 := PySem.F.called_set.notType
  have h2 := PySem.F.called_set.canCreate
  have hct := PySem.F.typeCall_set_1 (.ref l)
  refine wpAny_call (codeAny_of_tree ?_)
  refine wpAny_pure ⟨Code.quiet_builtin _ (by decide +kernel), codeAny_builtin PySem.F.entry_type_call ?_⟩
  rw [Around.under_plain (weight_type_call_type "set" [.ref l] []) rfl]
  repeat (any_goals (first | assumption | wp_step))
  refine codeAny_mono (code_set_one (.ref l) (E := E) (Q₁ := fun obj s₁ => obj = .ref s.heap.objs.size ∧ s₁ = { s with heap := s.heap.push (set0 (!w.params.followText "set-order")) }) ⟨rfl, rfl⟩) fun r s₁ hr => ?_
  generalize hled : (!w.params.followText "set-order") = led at hr
  cases r with
  | error e => exact hr
  | ok fl =>
  cases fl with
  | ret obj =>
    obtain ⟨rfl, rfl⟩ := hr
    have hT : Shared.TypeIs { s with heap := s.heap.push (set0 led) } (.ref s.heap.objs.size) "set" := ⟨_, Heap.get?_push_size _ rfl, rfl⟩
    have hli := PySem.F.called_set.init.lookup
    have hbi := PySem.F.called_set.init.bind (.ref s.heap.objs.size)
    repeat (any_goals (first | assumption | wp_step))
    refine codeAny_mono (codeAny_call_builtin (R := wants (fun r s₂ => r = .none ∧ ∃ h' tk, s₂ = { s with heap := h', toks := tk } ∧ TxR w h' s.heap.objs.size (once ks) ∧ ∀ b o, s.heap.get? b = some o → h'.get? b = some o) E)
      PySem.F.called_set.init.plain PySem.F.entry_set_init (check_set_init_1 hT ?_)) fun r₂ s₂ hr₂ => ?_
    · obtain ⟨⟨cl, di, da, sl⟩, hol, hcl, nl, hdl⟩ := hl
      simp only at hcl hdl
      subst hcl; subst hdl
      have hlS : l < s.heap.objs.size := Heap.lt_size hol
      have hol' : (s.heap.push (set0 led)).get? l = some { cls := .type "list", dict := di, data := .seq items nl, slots := sl } := Heap.get?_push_of_some _ hol
      have hsls := PySem.F.sub_list_set
      have hslf := PySem.F.sub_list_frozenset
      have hne : (Value.type "list" == Value.type "dict") = false := by decide
      have hl1 : (s.heap.push (set0 led)).IsList l items := ⟨_, hol', rfl, nl, rfl⟩
      unfold Builtin.«set.__init__» noKeywords Builtin.Frozenset.updateFrom
      generalize hPI : pyIter = PI
      wp_walk
      subst hPI
      refine wpAny_pyIter_list hl1 (wpAny_bind (wpAny_runValue ?_))
      have hI : (s.heap.push (set0 led)).objs.size = s.heap.objs.size + 1 := Heap.size_push ..
      have hh3 : A.in1.in1.in1.handled = none := by simp [hh]
      refine tx_loop ((Walks.list hh3 _ l (by rw [hI]; exact Nat.ne_of_lt (Nat.lt_succ_of_lt hlS)) items).toS) s.heap.objs.size (by
        rw [hI]
        simp only [List.mem_cons, List.not_mem_nil, or_false, not_or]
        exact ⟨Nat.ne_of_lt (Nat.lt_succ_self _), Nat.ne_of_gt hlS⟩) ks hn hb hi (items.size - 0) 0 _ rfl (Nat.zero_le _) ⟨⟨_, Heap.get?_push_size _ rfl, rfl, rfl⟩, hl1.push _⟩ ?_ ?_
      · refine tx_fresh w ?_
        rw [hled]
        exact Heap.get?_push_of_some _ (Heap.get?_push_size _ rfl)
      · intro s' mv hS'
        obtain ⟨h', g', d', tk', os'⟩ := s'
        obtain rfl : g' = s.gens := mv.gens
        obtain rfl : d' = s.drawn := mv.drawn
        obtain rfl : os' = s.os := mv.os
        refine wpAny_pure (wpAny_pure ⟨rfl, h', tk', rfl, hS', fun b o e => ?_⟩)
        have hb := Heap.lt_size e
        exact mv.heap b o (by
          rw [hI]
          simp only [List.mem_cons, List.not_mem_nil, or_false, not_or]
          exact ⟨Nat.ne_of_lt hb, Nat.ne_of_lt (Nat.lt_succ_of_lt hb)⟩) (Heap.get?_push_of_some _ (Heap.get?_push_of_some _ e))
    · cases r₂ with
      | error e => exact hr₂
      | ok fl₂ =>
      cases fl₂ with
      | ret r =>
        obtain ⟨rfl, h', tk, rfl, hS', hk'⟩ := hr₂
        repeat (any_goals (first | assumption | wp_step))
        obtain ⟨o, es, ep, t, ho, rest⟩ := id hS'
        exact h _ _ hS' hk' (Heap.lt_size ho)
      | _ => exact hr₂.elim
  | _ => exact hr.elim
theorem sorted_tx {a : Addr} {zs : List Str} {Q : Value → Shared → Prop} (R : TxR w s.heap a zs) (hh : A.handled = none) (h64 : zs.length < 64)
    (hQ : ∀ s' p (out : Array Value) (c : Nat) (ys : List Str), (∀ b o, s.heap.get? b = some o → s'.heap.get? b = some o) → s'.gens = s.gens → s'.os = s.os → s.heap.objs.size ≤ p →
      s'.heap.get? p = some (seqObj "list" out c) → StrsAre out.toList ys → sortedS ys = true → ys.Perm zs → Q (.ref p) s') :
    wpAny (model prog w) A (call (.builtin "sorted") [.ref a]) Q E s := by
  obtain ⟨o, es, ep, t, ho, hex, hd, g, pz, nd, hb, hf, hr, hl⟩ := R
  refine Calls.call_function_entry kind_sorted plain_sorted entry_sorted (args_sorted1 _) ?_
  unfold Builtin.«sorted»
  refine wpAny_bind (m := checkCount "sorted" 1 1 _) (wpAny_pure ?_)
  refine wpAny_bind (L2.collect_set (A := A.in1) hh ⟨o, ho, hex.1, hd⟩ hf hb hr hl fun s1 vs k1 hz g1 o1 pm => ?_)
  have es1 : ∀ v ∈ vs, ∃ k tk, v = Value.str k tk := fun v hv => by
    obtain ⟨e, he, q⟩ := List.mem_map.mp (pm.mem_iff.mp hv)
    obtain ⟨k, tk, q1, _⟩ := g e he
    exact ⟨k, tk, by rw [← q]; exact q1⟩
  have key : ∀ l : List Value, (∀ v ∈ l, ∃ k tk, v = Value.str k tk) → StrsAre l (l.map fun v => txK (0, v)) := by
    intro l
    induction l with
    | nil => intro _; exact .nil
    | cons v l ih =>
      intro h
      obtain ⟨k, tk, rfl⟩ := h v (.head _)
      exact .cons k tk (ih fun u hu => h u (.tail _ hu))
  have hS := key vs es1
  have pk : (vs.map fun v => txK (0, v)).Perm zs := by
    have q := pm.map fun v => txK (0, v)
    rw [List.map_map] at q
    exact q.trans pz
  have hvl : vs.length < 64 := by
    have := pk.length_eq
    rw [List.length_map] at this
    omega
  refine wpAny_bind (wpAny_newList ?_ (by rw [sizeLine_eq]; omega))
  have hoL : (s1.heap.push (seqObj "list" vs.toArray 0)).get? s1.heap.objs.size = some (seqObj "list" vs.toArray 0) := Heap.get?_push_size _ rfl
  refine wpAny_bind (wpAny_holding (wpAny_call_entry slot_list_sort ⟨_, hoL, rfl⟩ entry_list_sort (list_sort_treeK strKind_oneLt hoL hS.keysOf (fun v₁ v₂ rest e => keyKind_strs (by rw [← e]; exact hS)) hvl fun st' a1 a2 => ⟨_, rfl, ?_⟩) (args_list_sort _)))
  obtain ⟨ss', b1, b2, b3⟩ := sorted_out_str hS a1 a2
  obtain ⟨c, hc⟩ := sortedHeap_at (vs := vs) (out := _) hoL
  refine wpAny_pure ⟨_, rfl, hQ _ s1.heap.objs.size _ c ss' (fun b u e => ?_) g1 o1 hz hc b1 b3 (b2.trans pk)⟩
  have q := k1 b u e
  have lt := Heap.lt_size q
  show (sortedHeap (s1.heap.push (seqObj "list" vs.toArray 0)) s1.heap.objs.size vs _).get? b = some u
  rw [sortedHeap_old (Nat.ne_of_lt lt) (by rw [size_push']; exact Nat.lt_succ_of_lt lt)]
  exact Heap.get?_push_of_some _ q
end
/-! ### sorted(set(e)), e a list of texts -/
section
variable {X : Cx}
def tSortSetS (K : PySem.W.Frag) (ta : TE) : TE := fun σ H Q => ta σ H fun x H1 => ∃ (l : Addr) (zs : List Str), x = .ref l ∧ SqL K H1 l (zs.map V.str) ∧ zs.length < 64 ∧ ∀ (ys : List Str) (p : Addr), ys.Perm (once zs) → sortedS ys = true → H1 p = none → Q (.ref p) (upd H1 p (.lst (ys.map V.str)))
theorem tx_items {us : List Value} {zs : List Str} (r : StrsAre us zs) : ∀ (i : Nat) (v : Value), us.toArray[i]? = some v → ∃ k tk, zs[i]? = some k ∧ v = .str k tk := by
  have key : ∀ (i : Nat) (v : Value), us[i]? = some v → ∃ k tk, zs[i]? = some k ∧ v = .str k tk := by
    induction r with
    | nil => intro i v h; cases h
    | cons k tk t ih =>
      intro i v h
      cases i with
      | zero => cases h; exact ⟨k, tk, rfl, rfl⟩
      | succ i => exact ih i v h
  intro i v h
  exact key i v (by simpa using h)
theorem pe_sortSetS {a : Expr} {ta : TE} {p p2 q pos : Pos} (hg : Gl X "sorted") (hm : X.mg "sorted" = none) (hg2 : Gl X "set") (hm2 : X.mg "set" = none) (ha : PE X a ta) (hc : X.calm = true := by rfl)
    (na : starEach [a] X.env = (false, eval a X.env) :: starEach [] X.env := by rfl) : PE X (.Call (.Name "sorted" p) [.Call (.Name "set" p2) [a] [] q] [] pos) (tSortSetS X.K ta) := by
  refine ⟨fun pins s σ H Q I h => ?_⟩
  refine Call_ (ld_blt I hg hm PyProof.Rows.boot_sorted ?_)
  refine PyProof.Rows.callWith_builtin1 (PyProof.Rows.args_cons ?_ rfl) rfl rfl
  refine Call_ (ld_blt I hg2 hm2 PyProof.Rows.boot_set ?_)
  refine PyProof.Rows.callWith_type1 (PyProof.Rows.args_cons (thn (ha.run pins s σ H _ I h) fun v s1 ⟨x, H1, I1, r1, q1⟩ => PyProof.Rows.args_nil ?_) na) na rfl
  obtain ⟨l, zs, rfl, hq, hl, q1⟩ := q1
  cases r1
  obtain ⟨its, r, pl, hz⟩ := I1.list hq
  have rs := r.strs
  have el : zs.length = its.length := by
    have := r.length
    rw [List.length_map] at this
    exact this
  refine set_of_texts zs (I1.ok.hd hc) pl.isList (by simpa using el) (by simp; rw [← el]; unfold scanBound; omega) (tx_items rs) fun h' tk R kp lt => ?_
  refine PyProof.Rows.args_nil ?_
  have I2 : Inv X pins σ H1 { s1 with heap := h', toks := tk } := I1.kept fun b o e => kp b o e
  have few := once_len zs
  have R2 : TxR X.w ({ s1 with heap := h', toks := tk } : Shared).heap s1.heap.objs.size (once zs) := R
  generalize ({ s1 with heap := h', toks := tk } : Shared) = s2 at I2 R2 ⊢
  refine sorted_tx R2 (I2.ok.hd hc) (by omega) fun s' p out c ys k g o hp hg hS hs pm => ?_
  have hlen : (ys.map V.str).length ≤ sizeLine := by rw [List.length_map, pm.length_eq, sizeLine_eq]; omega
  have hn : H1 p = none := I2.hok.fresh hp
  have J : Inv X pins σ (upd H1 p (.lst (ys.map V.str))) { s2 with heap := s'.heap, gens := s'.gens, drawn := s'.drawn, toks := s'.toks } :=
    I2.call (ch := []) (Un.laid k hp hn) (I2.hok.laid k hp ⟨hlen, out.toList, c, vals_of_strs hS, hg⟩) (by rw [g]; exact I2.bare) (fun _ z => nomatch z)
  have e : s' = { s2 with heap := s'.heap, gens := s'.gens, drawn := s'.drawn, toks := s'.toks } := by
    cases s'
    cases s2
    cases o
    rfl
  rw [e]
  exact ⟨.ref p, _, J, rfl, q1 ys p pm hs hn⟩
theorem w_sortSetS {K : PySem.W.Frag} {σ : L2.St} {H : Hp} {Q : VK} {te : TE} (h : te σ H fun x H1 => ∃ (l : Addr) (zs : List Str), x = .ref l ∧ SqL K H1 l (zs.map V.str) ∧ zs.length < 64 ∧ ∀ (ys : List Str) (p : Addr), ys.Perm (once zs) → sortedS ys = true → H1 p = none → Q (.ref p) (upd H1 p (.lst (ys.map V.str)))) : tSortSetS K te σ H Q := h
end
end Go

set_option Elab.async false
set_option linter.all false
set_option maxRecDepth 100000
set_option maxHeartbeats 4000000
namespace Go
open PySem PySem.Spec PyProof.Rows L2
/-! ### sorted(d), d a dict with texts as keys -/
section
variable {prog : Program} {w : World} {A : Around} {E : Value → Shared → Prop} {s : Shared} {κ : Type} [DecidableEq κ] {knd : PySem.KeyKind prog w κ}
def ColD (knd : PySem.KeyKind prog w κ) (s : Shared) (kvs : List (κ × Value)) (r : Result) (s' : Shared) : Prop :=
  ∃ (h' : Heap) (tk : Nat) (acc : Array Value) (c : Nat), r = .ok (.ret (.ref s.heap.objs.size)) ∧ s' = { s with heap := h', toks := tk } ∧ (∀ b o, s.heap.get? b = some o → h'.get? b = some o) ∧ h'.get? s.heap.objs.size = some { cls := .type "list", dict := none, data := .seq acc c, slots := #[] } ∧
    ItemsOf (fun i v => ∃ k x, kvs[i]? = some (k, x) ∧ knd.is k v = true) acc kvs.length
theorem collect_dict {d : Addr} {kvs : List (κ × Value)} {ep : Nat} {Q : List Value → Shared → Prop} (hh : A.handled = none) (lo : (d == sysModules) = false) (hm : s.heap.DictAt knd d kvs ep) (hn : kvs.length ≤ sizeLine)
    (hQ : ∀ h' tk (acc : Array Value), (∀ b o, s.heap.get? b = some o → h'.get? b = some o) → s.heap.objs.size < h'.objs.size → ItemsOf (fun i v => ∃ k x, kvs[i]? = some (k, x) ∧ knd.is k v = true) acc kvs.length → Q acc.toList { s with heap := h', toks := tk }) :
    wpAny (model prog w) A (collect (.ref d)) Q E s := by
  have lt : d < s.heap.objs.size := hm.lt_size
  unfold collect
  refine wpAny_bind (wpAny_runValue (codeAny_mono (codeAny_builtin (R := ColD knd s kvs) PySem.F.entry_proto_collect ?_) fun r s' hr => ?_))
  case refine_2 =>
    obtain ⟨h', tk, acc, c, rfl, rfl, hk, hS', hacc⟩ := hr
    show wpAny _ A (load s.heap.objs.size >>= _) _ _ _
    refine wpAny_bind (wpAny_load hS' ?_)
    refine wpAny_pure ?_
    exact hQ h' tk acc hk (Heap.lt_size hS') hacc
  rw [Around.under_plainId PySem.F.plain_proto_collect _]
  show wpAny _ A.in1 (newList [] >>= fun l => again (.builtin "list.__iadd__" ⟨[l, .ref d], []⟩)) _ _ s
  refine wpAny_bind (wpAny_newObj_type ?_)
  refine wpAny_pure ⟨plainId_quiet PySem.F.plain_list_iadd _, codeAny_builtin PySem.F.entry_list_iadd ?_⟩
  rw [Around.under_plainId PySem.F.plain_list_iadd _]
  have hS : (s.heap.push { cls := .type "list", data := .seq ([] : List Value).toArray }).get? s.heap.objs.size = some { cls := .type "list", data := .seq ([] : List Value).toArray } := Heap.get?_push_size _ rfl
  show wpAny _ A.in1 (Builtin.List.listExtendWith (.ref s.heap.objs.size) (.ref d) (.ref s.heap.objs.size)) _ _ { s with heap := s.heap.push { cls := .type "list", data := .seq ([] : List Value).toArray } }
  refine PySem.W.kdl_extend (A := A) (R := ColD knd s kvs) (s := { s with heap := s.heap.push { cls := .type "list", data := .seq ([] : List Value).toArray } }) (PySem.W.kdl_dict (knd := knd) (kvs := kvs) (ep := ep) lo) hh (hm.push _) s.heap.objs.size (Nat.ne_of_gt lt) (Nat.ne_of_gt lt) _ _ hS (fun h' tk acc c hk hS' hacc => ⟨h', tk, acc, c, rfl, rfl, fun b o e => hk b o (Nat.ne_of_lt (Heap.lt_size e)) (Heap.get?_push_of_some _ e), hS', hacc⟩) hn
end
section
variable {X : Cx}
def rSortedDS : List V → Hp → VK → Prop := fun vs H Q => ∃ (a : Addr) (kvs : List (Str × V)), vs = [V.ref a] ∧ H a = some (.dK (kvs.map fun kv => (.inr kv.1, kv.2))) ∧ kvs.length < 64 ∧ ∀ (ys : List Str) (p : Addr), ys.Perm (kvs.map (·.1)) → sortedS ys = true → H p = none → Q (.ref p) (upd H p (.lst (ys.map V.str)))
theorem strs_at : ∀ {vs : List Value} {zs : List Str}, vs.length = zs.length → (∀ (i : Nat) (v : Value) (z : Str), vs[i]? = some v → zs[i]? = some z → ∃ tk, v = .str z tk) → StrsAre vs zs
  | [], [], _, _ => .nil
  | [], z :: zs, h, _ => by cases h
  | v :: vs, [], h, _ => by cases h
  | v :: vs, z :: zs, h, k => by
    obtain ⟨tk, rfl⟩ := k 0 v z rfl rfl
    exact .cons z tk (strs_at (by simpa using h) fun i v' z' h1 h2 => k (i + 1) v' z' h1 h2)
theorem cr_sortedDS (hc : X.calm = true) : CallR X (.builtin "sorted") rSortedDS := by
  intro pins s σ H vs us Q I r h
  obtain ⟨a, kvs, rfl, ha, h64, q⟩ := h
  rw [Vals.ref1 r]
  obtain ⟨z, lo, ws, rk, hd⟩ := (show ObjOk X.prog X.w H s.heap a (.dK _) from I.hok a _ ha)
  obtain ⟨ep, hat⟩ := hd.dictAt
  have hl : kvs.length = ws.length := by
    have := Paired.length rk
    rw [List.length_map] at this
    exact this
  refine Calls.call_function_entry kind_sorted plain_sorted entry_sorted (args_sorted1 _) ?_
  unfold Builtin.«sorted»
  refine wpAny_bind (m := checkCount "sorted" 1 1 _) (wpAny_pure ?_)
  refine wpAny_bind (collect_dict (A := X.A.in1) (knd := mixKind X.prog X.w) (I.ok.hd hc) lo hat (by rw [← hl, sizeLine_eq]; omega) fun h' tk acc hk hlt hacc => ?_)
  have hS : StrsAre acc.toList (kvs.map (·.1)) := by
    refine strs_at (by rw [Array.length_toList, hacc.1, List.length_map, hl]) fun i v zz h1 h2 => ?_
    obtain ⟨k, y, hky, hi⟩ := hacc.2 i v (by rw [← Array.getElem?_toList]; exact h1)
    have e1 : ((kvs.map fun kv => ((Sum.inr kv.1 : Key), kv.2)).map (·.1))[i]? = some k := by
      rw [KV.keys rk, List.getElem?_map, hky]; rfl
    rw [List.map_map, List.getElem?_map] at e1
    rw [List.getElem?_map] at h2
    cases hkv : kvs[i]? with
    | none => rw [hkv] at h2; cases h2
    | some kv =>
      rw [hkv] at h2 e1
      cases h2
      cases e1
      have := keyIs_rel (k := .inr kv.1) hi
      exact this
  have hvl : acc.toList.length < 64 := by rw [Array.length_toList, hacc.1, ← hl]; exact h64
  refine wpAny_bind (wpAny_newList ?_ (by rw [sizeLine_eq]; omega))
  have hoL : (h'.push (seqObj "list" acc.toList.toArray 0)).get? h'.objs.size = some (seqObj "list" acc.toList.toArray 0) := Heap.get?_push_size _ rfl
  refine wpAny_bind (wpAny_holding (wpAny_call_entry slot_list_sort ⟨_, hoL, rfl⟩ entry_list_sort (list_sort_treeK (s := { s with heap := h'.push (seqObj "list" acc.toList.toArray 0), toks := tk }) strKind_oneLt hoL hS.keysOf (fun v₁ v₂ rest e => keyKind_strs (by rw [← e]; exact hS)) hvl fun st' a1 a2 => ⟨_, rfl, ?_⟩) (args_list_sort _)))
  obtain ⟨ys, b1, b2, b3⟩ := sorted_out_str hS a1 a2
  obtain ⟨out, eout⟩ : ∃ out, out = Array.map (fun x => x.snd) (arrOf st') := ⟨_, rfl⟩
  rw [← eout] at b1 ⊢
  obtain ⟨c, hcc⟩ := sortedHeap_at (vs := acc.toList) (out := out) hoL
  have hlen : (ys.map V.str).length ≤ sizeLine := by rw [List.length_map, b2.length_eq, List.length_map, sizeLine_eq]; omega
  have old : ∀ b u, s.heap.get? b = some u → (sortedHeap (h'.push (seqObj "list" acc.toList.toArray 0)) h'.objs.size acc.toList out).get? b = some u := fun b u e => by
    have q := hk b u e
    have lt := Heap.lt_size q
    rw [sortedHeap_old (Nat.ne_of_lt lt) (by rw [size_push']; exact Nat.lt_succ_of_lt lt)]
    exact Heap.get?_push_of_some _ q
  refine wpAny_pure ⟨_, rfl, ?_⟩
  exact ⟨.ref _, upd H h'.objs.size (.lst (ys.map V.str)), I.laid (t' := tk) old (Nat.le_of_lt hlt) ⟨hlen, _, c, vals_of_strs b1, hcc⟩, rfl, q ys _ b2 b3 (I.hok.fresh (Nat.le_of_lt hlt))⟩
/-! ### (i, j) > (k, l) -/
def rGtT2 (K : PySem.W.Frag) : R2 := fun x y H Q => ∃ (a b : Addr) (i j k l : Int), x = .ref a ∧ y = .ref b ∧ SqT K H a [.int i, .int j] ∧ SqT K H b [.int k, .int l] ∧ Q (.bl (decide (k < i ∨ (i = k ∧ l < j)))) H
theorem op_gtT2 (hu : X.A.units < cLine) : OpR X (compareOp .Gt) (rGtT2 X.K) := by
  intro pins s σ H x y v u Q I rx ry h
  obtain ⟨a, b, i, j, k, l, rfl, rfl, ha, hb, q⟩ := h
  cases rx
  cases ry
  obtain ⟨its, r1, p1, _⟩ := I.tuple ha
  obtain ⟨its2, r2, p2, _⟩ := I.tuple hb
  have i1 : IntsAre its [i, j] := Vals.ints (ns := [i, j]) r1
  have i2 : IntsAre its2 [k, l] := Vals.ints (ns := [k, l]) r2
  have e1 : its.toArray.size = 2 := by rw [List.size_toArray]; exact i1.length
  have e2 : its2.toArray.size = 2 := by rw [List.size_toArray]; exact i2.length
  have at1 : ∀ n (h1 : n < its.toArray.size), ∃ t, its.toArray[n] = .int ([i, j].getD n 0) t := fun n h1 => PyProof.Rows.IntsAre.int_at i1 _ _ (by simp at h1; simp [h1])
  have at2 : ∀ n (h1 : n < its2.toArray.size), ∃ t, its2.toArray[n] = .int ([k, l].getD n 0) t := fun n h1 => PyProof.Rows.IntsAre.int_at i2 _ _ (by simp at h1; simp [h1])
  have R := Ob.RcOp.tuples_gt (A := X.A) (s := s) (e := fun n => decide ([i, j].getD n 0 = [k, l].getD n 0)) (r := fun n => decide ([k, l].getD n 0 < [i, j].getD n 0)) p1 p2 hu (fun n h1 h2 => by
    obtain ⟨t, et⟩ := at1 n h1
    obtain ⟨t', et'⟩ := at2 n h2
    have z : decide ([i, j].getD n 0 = [k, l].getD n 0) = ([i, j].getD n 0 == [k, l].getD n 0) := by
      rw [Bool.eq_iff_iff]
      simp only [decide_eq_true_eq, beq_iff_eq]
    rw [et, et', z]
    exact SeqAt.EqAt.int_int _ _ _ _) (fun n h1 h2 _ => by
    obtain ⟨t, et⟩ := at1 n h1
    obtain ⟨t', et'⟩ := at2 n h2
    rw [et, et']
    exact Ob.RcOp.gt_int _ _ _ _)
  rw [e1, e2] at R
  refine R X.prog X.w X.xe (EP X pins σ Q) ⟨.bl _, H, I, rfl, ?_⟩
  have e : Ob.lexAt (fun n => decide ([i, j].getD n 0 = [k, l].getD n 0)) (fun n => decide ([k, l].getD n 0 < [i, j].getD n 0)) (decide (2 > 2)) 0 (min 2 2) = decide (k < i ∨ (i = k ∧ l < j)) := by
    show (if decide (i = k) = true then (if decide (j = l) = true then false else decide (l < j)) else decide (k < i)) = _
    by_cases h1 : i = k
    · rw [if_pos (decide_eq_true h1)]
      by_cases h2 : j = l
      · rw [if_pos (decide_eq_true h2), decide_eq_false (by omega)]
      · rw [if_neg (by simpa using h2)]
        by_cases h3 : l < j
        · rw [decide_eq_true h3, decide_eq_true (.inr ⟨h1, h3⟩)]
        · rw [decide_eq_false h3, decide_eq_false (by omega)]
    · rw [if_neg (by simpa using h1)]
      by_cases h3 : k < i
      · rw [decide_eq_true h3, decide_eq_true (.inl h3)]
      · rw [decide_eq_false h3, decide_eq_false (by omega)]
  rw [e]
  exact q
end
end Go

set_option Elab.async false
set_option linter.all false
set_option maxRecDepth 100000
set_option maxHeartbeats 4000000
namespace Ab
open PySem PySem.Spec PyProof.Rows L2 Go
/-! ### values by themselves: tuples, and lists that stay, by what they hold; a thing that may change by its place -/
inductive A where
  | non | bl (b : Bool) | int (i : Int) | str (x : Str) | ty (n : String) | loc (p : Addr)
  | tup (xs : List A) | lst (xs : List A) | dic (ks : List Key) (vs : List A) | scr (ns : List Int)
def KT (K : PySem.W.Frag) (a : Addr) (xs : List V) : Prop := ∃ (o : Obj) (its : Array Value) (n : Nat), K.lookup a = some o ∧ o.cls = .type "tuple" ∧ o.data = .seq its n ∧ its.size ≤ sizeLine ∧ Vals xs its.toList
def KL (K : PySem.W.Frag) (a : Addr) (xs : List V) : Prop := ∃ (o : Obj) (its : Array Value) (n : Nat), K.lookup a = some o ∧ o.cls = .type "list" ∧ o.dict = none ∧ o.data = .seq its n ∧ its.size ≤ sizeLine ∧ Vals xs its.toList
def FT (K : PySem.W.Frag) (D : List Addr) (H : Hp) (p : Addr) (vs : List V) : Prop := (p ∉ D ∧ Rd H p (.tup vs)) ∨ KT K p vs
def FS (K : PySem.W.Frag) (D : List Addr) (H : Hp) (p : Addr) (vs : List V) : Prop := (p ∉ D ∧ Rd H p (.lst vs)) ∨ KL K p vs
def FL (D : List Addr) (H : Hp) (p : Addr) (vs : List V) : Prop := p ∉ D ∧ H p = some (.lst vs)
def FD (D : List Addr) (H : Hp) (p : Addr) (kvs : List (Key × V)) : Prop := p ∉ D ∧ H p = some (.dK kvs)
mutual
inductive Rv (K : PySem.W.Frag) (D : List Addr) (H : Hp) : A → V → Prop
  | non : Rv K D H .non .non
  | bl (b : Bool) : Rv K D H (.bl b) (.bl b)
  | int (i : Int) : Rv K D H (.int i) (.int i)
  | str (x : Str) : Rv K D H (.str x) (.str x)
  | ty (n : String) : Rv K D H (.ty n) (.ty n)
  | loc (p : Addr) : Rv K D H (.loc p) (.ref p)
  | tup {p : Addr} {vs : List V} {xs : List A} : FT K D H p vs → RvL K D H xs vs → Rv K D H (.tup xs) (.ref p)
  | scr {p : Addr} {ns : List Int} : FS K D H p (ns.map V.int) → Rv K D H (.scr ns) (.ref p)
  | lst {p : Addr} {vs : List V} {xs : List A} : FL D H p vs → RvL K D H xs vs → Rv K D H (.lst xs) (.ref p)
  | dic {p : Addr} {kvs : List (Key × V)} {ks : List Key} {xs : List A} : FD D H p kvs → kvs.map (·.1) = ks → RvL K D H xs (kvs.map (·.2)) → Rv K D H (.dic ks xs) (.ref p)
inductive RvL (K : PySem.W.Frag) (D : List Addr) (H : Hp) : List A → List V → Prop
  | nil : RvL K D H [] []
  | cons {a : A} {v : V} {as : List A} {vs : List V} : Rv K D H a v → RvL K D H as vs → RvL K D H (a :: as) (v :: vs)
end
/-- what is not owned stays; what is owned anew was free -/
structure Step (D : List Addr) (H : Hp) (D' : List Addr) (H' : Hp) : Prop where
  keep : ∀ p o, H p = some o → p ∉ D → H' p = some o
  new : ∀ p, p ∈ D' → p ∈ D ∨ H p = none
theorem Step.refl (D : List Addr) (H : Hp) : Step D H D H := ⟨fun _ _ h _ => h, fun _ h => .inl h⟩
theorem Step.out {D D' : List Addr} {H H' : Hp} (s : Step D H D' H') {p : Addr} {o : HO} (h : H p = some o) (n : p ∉ D) : p ∉ D' := fun m => by
  rcases s.new p m with h1 | h1
  · exact n h1
  · rw [h] at h1; cases h1
theorem Step.trans {D D1 D2 : List Addr} {H H1 H2 : Hp} (a : Step D H D1 H1) (b : Step D1 H1 D2 H2) : Step D H D2 H2 := by
  refine ⟨fun p o h n => b.keep p o (a.keep p o h n) (a.out h n), fun p m => ?_⟩
  rcases b.new p m with h | h
  · exact a.new p h
  · by_cases m2 : p ∈ D
    · exact .inl m2
    · cases q : H p with
      | none => exact .inr rfl
      | some o => rw [a.keep p o q m2] at h; cases h
theorem Step.same {D : List Addr} {H H' : Hp} (s : Same H H') : Step D H D H' := ⟨fun p o h _ => s p o h, fun p h => .inl h⟩
theorem Step.sub {D D' : List Addr} {H : Hp} (h : ∀ p ∈ D', p ∈ D) : Step D H D' H := ⟨fun _ _ h _ => h, fun p m => .inl (h p m)⟩
theorem FT.step {K : PySem.W.Frag} {D D' : List Addr} {H H' : Hp} (s : Step D H D' H') {p : Addr} {vs : List V} (h : FT K D H p vs) : FT K D' H' p vs := by
  rcases h with ⟨n, h | ⟨o, h⟩⟩ | h
  · exact .inl ⟨s.out h n, .inl (s.keep _ _ h n)⟩
  · exact .inl ⟨s.out h n, .inr ⟨o, s.keep _ _ h n⟩⟩
  · exact .inr h
theorem FS.step {K : PySem.W.Frag} {D D' : List Addr} {H H' : Hp} (s : Step D H D' H') {p : Addr} {vs : List V} (h : FS K D H p vs) : FS K D' H' p vs := by
  rcases h with ⟨n, h | ⟨o, h⟩⟩ | h
  · exact .inl ⟨s.out h n, .inl (s.keep _ _ h n)⟩
  · exact .inl ⟨s.out h n, .inr ⟨o, s.keep _ _ h n⟩⟩
  · exact .inr h
theorem FL.step {D D' : List Addr} {H H' : Hp} (s : Step D H D' H') {p : Addr} {vs : List V} (h : FL D H p vs) : FL D' H' p vs := ⟨s.out h.2 h.1, s.keep _ _ h.2 h.1⟩
theorem FD.step {D D' : List Addr} {H H' : Hp} (s : Step D H D' H') {p : Addr} {kvs : List (Key × V)} (h : FD D H p kvs) : FD D' H' p kvs := ⟨s.out h.2 h.1, s.keep _ _ h.2 h.1⟩
theorem FT.sq {K : PySem.W.Frag} {D : List Addr} {H : Hp} {p : Addr} {vs : List V} (h : FT K D H p vs) : SqT K H p vs := by
  rcases h with ⟨_, h⟩ | h
  · exact .inl h
  · exact .inr h
theorem FS.sq {K : PySem.W.Frag} {D : List Addr} {H : Hp} {p : Addr} {vs : List V} (h : FS K D H p vs) : SqL K H p vs := by
  rcases h with ⟨_, h⟩ | h
  · exact .inl h
  · exact .inr h
theorem FL.sq {K : PySem.W.Frag} {D : List Addr} {H : Hp} {p : Addr} {vs : List V} (h : FL D H p vs) : SqL K H p vs := SqL.of h.2
mutual
theorem Rv.step {K : PySem.W.Frag} {D D' : List Addr} {H H' : Hp} (s : Step D H D' H') : ∀ {a : A} {v : V}, Rv K D H a v → Rv K D' H' a v
  | _, _, .non => .non
  | _, _, .bl b => .bl b
  | _, _, .int i => .int i
  | _, _, .str x => .str x
  | _, _, .ty n => .ty n
  | _, _, .loc p => .loc p
  | _, _, .tup h t => .tup (h.step s) (RvL.step s t)
  | _, _, .scr h => .scr (h.step s)
  | _, _, .lst h t => .lst (h.step s) (RvL.step s t)
  | _, _, .dic h e t => .dic (h.step s) e (RvL.step s t)
theorem RvL.step {K : PySem.W.Frag} {D D' : List Addr} {H H' : Hp} (s : Step D H D' H') : ∀ {as : List A} {vs : List V}, RvL K D H as vs → RvL K D' H' as vs
  | _, _, .nil => .nil
  | _, _, .cons h t => .cons (Rv.step s h) (RvL.step s t)
end
section
variable {K : PySem.W.Frag} {D : List Addr} {H : Hp} {as bs : List A} {vs ws : List V}
theorem RvL.app (h : RvL K D H as vs) (h2 : RvL K D H bs ws) : RvL K D H (as ++ bs) (vs ++ ws) := by
  induction as generalizing vs with
  | nil => cases h; exact h2
  | cons a as ih => cases h with | cons x t => exact .cons x (ih t)
theorem RvL.len (h : RvL K D H as vs) : as.length = vs.length := by
  induction as generalizing vs with
  | nil => cases h; rfl
  | cons a as ih => cases h with | cons x t => rw [List.length_cons, List.length_cons, ih t]
theorem RvL.at (h : RvL K D H as vs) {i : Nat} {a : A} (ha : as[i]? = some a) : ∃ v, vs[i]? = some v ∧ Rv K D H a v := by
  induction as generalizing vs i with
  | nil => cases ha
  | cons b as ih =>
    cases h with
    | cons x t =>
      cases i with
      | zero => cases ha; exact ⟨_, rfl, x⟩
      | succ i => exact ih t ha
theorem RvL.at' (h : RvL K D H as vs) {i : Nat} {v : V} (hv : vs[i]? = some v) : ∃ a, as[i]? = some a ∧ Rv K D H a v := by
  have l := h.len
  have hi : i < as.length := by rw [l]; exact (List.getElem?_eq_some_iff.mp hv).1
  obtain ⟨v', h1, h2⟩ := h.at (List.getElem?_eq_getElem hi)
  rw [hv] at h1
  cases h1
  exact ⟨_, List.getElem?_eq_getElem hi, h2⟩
theorem RvL.of_at (hl : as.length = vs.length) (h : ∀ (i : Nat) (a : A) (v : V), as[i]? = some a → vs[i]? = some v → Rv K D H a v) : RvL K D H as vs := by
  induction as generalizing vs with
  | nil => cases vs with | nil => exact .nil | cons v vs => cases hl
  | cons a as ih =>
    cases vs with
    | nil => cases hl
    | cons v vs => exact .cons (h 0 a v rfl rfl) (ih (by simpa using hl) fun i a v h1 h2 => h (i + 1) a v h1 h2)
theorem RvL.take (h : RvL K D H as vs) (n : Nat) : RvL K D H (as.take n) (vs.take n) := by
  induction as generalizing vs n with
  | nil => cases h; rw [List.take_nil, List.take_nil]; exact .nil
  | cons a as ih =>
    cases h with
    | cons x t =>
      cases n with
      | zero => exact .nil
      | succ n => exact .cons x (ih t n)
theorem RvL.drop (h : RvL K D H as vs) (n : Nat) : RvL K D H (as.drop n) (vs.drop n) := by
  induction as generalizing vs n with
  | nil => cases h; rw [List.drop_nil, List.drop_nil]; exact .nil
  | cons a as ih =>
    cases h with
    | cons x t =>
      cases n with
      | zero => exact .cons x t
      | succ n => exact ih t n
theorem RvL.rev (h : RvL K D H as vs) : RvL K D H as.reverse vs.reverse := by
  induction as generalizing vs with
  | nil => cases h; exact .nil
  | cons a as ih =>
    cases h with
    | cons x t =>
      rw [List.reverse_cons, List.reverse_cons]
      exact (ih t).app (.cons x .nil)
theorem RvL.set (h : RvL K D H as vs) {a : A} {v : V} (x : Rv K D H a v) (i : Nat) : RvL K D H (as.set i a) (vs.set i v) := by
  induction as generalizing vs i with
  | nil => cases h; exact .nil
  | cons b as ih =>
    cases h with
    | cons y t =>
      cases i with
      | zero => exact .cons x t
      | succ i => exact .cons y (ih t i)
/-- lists of one flat kind -/
theorem RvL.ints : ∀ {ns : List Int} {vs : List V}, RvL K D H (ns.map A.int) vs → vs = ns.map V.int
  | [], _, .nil => rfl
  | _ :: _, _, .cons (.int _) t => by rw [RvL.ints t]; rfl
theorem RvL.strs : ∀ {ns : List Str} {vs : List V}, RvL K D H (ns.map A.str) vs → vs = ns.map V.str
  | [], _, .nil => rfl
  | _ :: _, _, .cons (.str _) t => by rw [RvL.strs t]; rfl
theorem RvL.bls : ∀ {ns : List Bool} {vs : List V}, RvL K D H (ns.map A.bl) vs → vs = ns.map V.bl
  | [], _, .nil => rfl
  | _ :: _, _, .cons (.bl _) t => by rw [RvL.bls t]; rfl
theorem RvL.of_ints : ∀ (ns : List Int), RvL K D H (ns.map A.int) (ns.map V.int)
  | [] => .nil
  | _ :: ns => .cons (.int _) (RvL.of_ints ns)
theorem RvL.of_strs : ∀ (ns : List Str), RvL K D H (ns.map A.str) (ns.map V.str)
  | [] => .nil
  | _ :: ns => .cons (.str _) (RvL.of_strs ns)
end
/-! ### what may change: a list of places with what stands there -/
inductive AO where
  | lst (xs : List A) | dic (kvs : List (Key × A)) | ins (C : Addr) (fs : List (Str × A)) | any (P : HO → Prop)
abbrev AM := List (Addr × AO)
abbrev Sv := List (Option A)
abbrev ad (M : AM) : List Addr := M.map (·.1)
/-- keys (or names) with their values -/
def KvR {κ : Type} (K : PySem.W.Frag) (D : List Addr) (H : Hp) (kvs : List (κ × A)) (ws : List (κ × V)) : Prop := Paired (fun (p : κ × A) (q : κ × V) => p.1 = q.1 ∧ Rv K D H p.2 q.2) kvs ws
theorem KvR.step {κ : Type} {K : PySem.W.Frag} {D D' : List Addr} {H H' : Hp} {kvs : List (κ × A)} {ws : List (κ × V)} (h : KvR K D H kvs ws) (st : Step D H D' H') : KvR K D' H' kvs ws := by
  unfold KvR at h ⊢
  induction h with
  | nil => exact .nil
  | cons a _ ih => exact .cons ⟨a.1, a.2.step st⟩ ih
theorem KvR.vals {κ : Type} {K : PySem.W.Frag} {D : List Addr} {H : Hp} {kvs : List (κ × A)} {ws : List (κ × V)} (h : KvR K D H kvs ws) : ws.map (·.1) = kvs.map (·.1) ∧ RvL K D H (kvs.map (·.2)) (ws.map (·.2)) := by
  unfold KvR at h
  induction h with
  | nil => exact ⟨rfl, .nil⟩
  | cons a _ ih => exact ⟨by rw [List.map_cons, List.map_cons, ih.1, a.1], .cons a.2 ih.2⟩
def Cell (K : PySem.W.Frag) (D : List Addr) (H : Hp) (p : Addr) : AO → Prop
  | .lst xs => ∃ vs, H p = some (.lst vs) ∧ RvL K D H xs vs
  | .dic kvs => ∃ ws : List (Key × V), H p = some (.dK ws) ∧ KvR K D H kvs ws
  | .ins C fs => ∃ (dx : Addr) (ws : List (Str × V)), H p = some (.ins C dx ws) ∧ H dx = some (.own p) ∧ KvR K D H fs ws
  | .any P => ∃ o, H p = some o ∧ Mut (some o) ∧ P o
structure RM (K : PySem.W.Frag) (M : AM) (H : Hp) : Prop where
  cell : ∀ x ∈ M, Cell K (ad M) H x.1 x.2
  nd : (ad M).Nodup
def RvO (K : PySem.W.Frag) (D : List Addr) (H : Hp) : Option A → Option V → Prop
  | none, _ => True
  | some a, some v => Rv K D H a v
  | some _, none => False
abbrev XA := Addr → AM → Prop
/-- what must be told of an error -/
def KcE (K : PySem.W.Frag) (Ex : XK) (Xa : XA) (M : AM) (H : Hp) : Prop := ∀ C M' H', Step (ad M) H (ad M') H' → RM K M' H' → Xa C M' → Ex (.ref C) none H'
structure Rep (K : PySem.W.Frag) (Ex : XK) (Xa : XA) (s : Sv) (M : AM) (σ : L2.St) (H : Hp) : Prop where
  vs : Paired (RvO K (ad M) H) s σ
  rm : RM K M H
  ex : KcE K Ex Xa M H
section
variable {K : PySem.W.Frag} {Ex : XK} {Xa : XA} {D D' : List Addr} {M M' : AM} {s : Sv} {σ : L2.St} {H H' : Hp} {p q : Addr} {o o' : AO} {a : A} {v : V}
theorem Cell.mut (c : Cell K D H p o) : Mut (H p) := by
  cases o with
  | lst xs => obtain ⟨vs, h, _⟩ := c; rw [h]; trivial
  | dic kvs => obtain ⟨vs, h, _⟩ := c; rw [h]; trivial
  | ins C fs => obtain ⟨_, _, h, _⟩ := c; rw [h]; trivial
  | any P => obtain ⟨_, h, m, _⟩ := c; rw [h]; exact m
theorem RM.mut (r : RM K M H) (h : p ∈ ad M) : Mut (H p) := by
  obtain ⟨x, hx, rfl⟩ := List.mem_map.mp h
  exact (r.cell x hx).mut
theorem RM.some (r : RM K M H) (h : p ∈ ad M) : H p ≠ none := fun e => by
  have := r.mut h
  rw [e] at this
  exact this
theorem Cell.step (c : Cell K D H p o) (st : Step D H D' H') (hp : H' p = H p) (hm : ∀ q ∈ D, Mut (H q)) : Cell K D' H' p o := by
  cases o with
  | lst xs =>
    obtain ⟨vs, h, r⟩ := c
    exact ⟨vs, hp.trans h, r.step st⟩
  | dic kvs =>
    obtain ⟨ws, h, r⟩ := c
    exact ⟨ws, hp.trans h, r.step st⟩
  | ins C fs =>
    obtain ⟨dx, ws, h, h2, r⟩ := c
    exact ⟨dx, ws, hp.trans h, st.keep _ _ h2 (fun m => by have := hm _ m; rw [h2] at this; exact this), r.step st⟩
  | any P =>
    obtain ⟨o, h, r⟩ := c
    exact ⟨o, hp.trans h, r⟩
theorem RM.same (r : RM K M H) (e : Same H H') : RM K M H' := by
  refine ⟨fun x hx => (r.cell x hx).step (Step.same e) ?_ fun q hq => r.mut hq, r.nd⟩
  cases h : H x.1 with
  | none => exact absurd h (r.some (List.mem_map.mpr ⟨x, hx, rfl⟩))
  | some o => exact e _ _ h
theorem Step.alloc (hp : H p = none) {u : HO} : Step D H (p :: D) (upd H p u) := by
  refine ⟨fun q o h _ => ?_, fun q m => ?_⟩
  · rw [upd_ne (ne_of_none h hp)]; exact h
  · rcases List.mem_cons.mp m with h | h
    · rw [h]; exact .inr hp
    · exact .inl h
theorem RM.new (r : RM K M H) (hp : H p = none) {u : HO} (c : Cell K (p :: ad M) (upd H p u) p o) : RM K ((p, o) :: M) (upd H p u) := by
  have hn : p ∉ ad M := fun m => r.some m hp
  refine ⟨fun x hx => ?_, List.nodup_cons.mpr ⟨hn, r.nd⟩⟩
  rcases List.mem_cons.mp hx with h | h
  · rw [h]; exact c
  · have hm : x.1 ∈ ad M := List.mem_map.mpr ⟨x, h, rfl⟩
    exact (r.cell x h).step (Step.alloc hp) (upd_ne fun e => hn (e ▸ hm)) fun q hq => r.mut hq
/-- a new thing that stays -/
theorem RM.newF (r : RM K M H) (hp : H p = none) {u : HO} : RM K M (upd H p u) := r.same (same_new hp)
theorem Rep.step (r : Rep K Ex Xa s M σ H) (st : Step (ad M) H (ad M') H') (m : RM K M' H') : Rep K Ex Xa s M' σ H' := by
  refine ⟨?_, m, fun C M2 H2 s2 r2 q => r.ex C M2 H2 (st.trans s2) r2 q⟩
  have := r.vs
  clear r m
  induction this with
  | nil => exact .nil
  | @cons a b l1 l2 h _ ih =>
    refine .cons ?_ ih
    cases a with
    | none => trivial
    | some a =>
      cases b with
      | none => exact h
      | some b => exact Rv.step st h
theorem paired_get : ∀ {s : Sv} {σ : L2.St} {i : Nat}, Paired (RvO K D H) s σ → s[i]? = some (some a) → ∃ v, σ[i]? = some (some v) ∧ Rv K D H a v
  | _, _, _, .nil, e => by simp at e
  | _ :: _, b :: _, 0, .cons r _, e => by
    have e : _ = some a := Option.some.inj e
    subst e
    cases b with
    | none => exact absurd r id
    | some v => exact ⟨v, rfl, r⟩
  | _ :: _, _ :: _, i + 1, .cons _ t, e => paired_get (i := i) t e
theorem paired_set {x : Option A} {y : Option V} (h : RvO K D H x y) : ∀ {s : Sv} {σ : L2.St} (i : Nat), Paired (RvO K D H) s σ → Paired (RvO K D H) (s.set i x) (σ.set i y)
  | _, _, _, .nil => .nil
  | _, _, 0, .cons _ t => .cons h t
  | _, _, i + 1, .cons q t => .cons q (paired_set h i t)
theorem Rep.get (r : Rep K Ex Xa s M σ H) {i : Nat} (h : s[i]? = some (some a)) : ∃ v, σ[i]? = some (some v) ∧ Rv K (ad M) H a v := paired_get r.vs h
theorem Rep.set (r : Rep K Ex Xa s M σ H) (h : Rv K (ad M) H a v) (i : Nat) : Rep K Ex Xa (s.set i (some a)) M (σ.set i (some v)) H := ⟨paired_set (x := some a) (y := some v) h i r.vs, r.rm, r.ex⟩
theorem paired_forget : ∀ {s : Sv} {σ : L2.St} (i : Nat), Paired (RvO K D H) s σ → Paired (RvO K D H) (s.set i none) σ
  | _, _, _, .nil => .nil
  | _, _, 0, .cons _ t => .cons trivial t
  | _, _, i + 1, .cons q t => .cons q (paired_forget i t)
theorem Rep.forget (r : Rep K Ex Xa s M σ H) (i : Nat) : Rep K Ex Xa (s.set i none) M σ H := ⟨paired_forget i r.vs, r.rm, r.ex⟩
end
/-- a thing in M is exchanged -/
inductive Up : AM → Addr → AO → AO → AM → Prop
  | here {p : Addr} {o o' : AO} {M : AM} : Up ((p, o) :: M) p o o' ((p, o') :: M)
  | there {x : Addr × AO} {p : Addr} {o o' : AO} {M M' : AM} : Up M p o o' M' → Up (x :: M) p o o' (x :: M')
/-- a thing in M, and M but for it -/
inductive Rm : AM → Addr → AO → AM → Prop
  | here {p : Addr} {o : AO} {M : AM} : Rm ((p, o) :: M) p o M
  | there {x : Addr × AO} {p : Addr} {o : AO} {M M' : AM} : Rm M p o M' → Rm (x :: M) p o (x :: M')
/-- M with a hole -/
inductive Ctx : AM → Addr → AO → (AO → AM) → Prop
  | here {p : Addr} {o : AO} {M : AM} : Ctx ((p, o) :: M) p o (fun u => (p, u) :: M)
  | there {x : Addr × AO} {p : Addr} {o : AO} {M : AM} {C : AO → AM} : Ctx M p o C → Ctx (x :: M) p o (fun u => x :: C u)
theorem Ctx.eq {M : AM} {p : Addr} {o : AO} {C : AO → AM} (h : Ctx M p o C) : M = C o := by
  induction h with
  | here => rfl
  | there _ ih => rw [ih]
theorem Ctx.at {M : AM} {p : Addr} {o : AO} {C : AO → AM} (h : Ctx M p o C) (u : AO) : Ctx (C u) p u C := by
  induction h with
  | here => exact .here
  | there _ ih => exact .there ih
theorem Ctx.up {M : AM} {p : Addr} {o : AO} {C : AO → AM} (h : Ctx M p o C) (u : AO) : Up M p o u (C u) := by
  induction h with
  | here => exact .here
  | there _ ih => exact .there ih
theorem Up.ctx {M M' : AM} {p : Addr} {o o' : AO} (h : Up M p o o' M') : ∃ C, Ctx M p o C ∧ M' = C o' := by
  induction h with
  | here => exact ⟨_, .here, rfl⟩
  | there _ ih => obtain ⟨C, c, e⟩ := ih; exact ⟨_, .there c, by rw [e]⟩
theorem Up.mem {M M' : AM} {p : Addr} {o o' : AO} (h : Up M p o o' M') : (p, o) ∈ M := by
  induction h with
  | here => exact .head _
  | there _ ih => exact .tail _ ih
theorem Up.ad {M M' : AM} {p : Addr} {o o' : AO} (h : Up M p o o' M') : ad M' = ad M := by
  induction h with
  | here => rfl
  | there _ ih => exact congrArg (List.cons _) ih
theorem Up.old {M M' : AM} {p : Addr} {o o' : AO} (h : Up M p o o' M') : ∀ x ∈ M', x = (p, o') ∨ x ∈ M := by
  induction h with
  | here => intro x hx; rcases List.mem_cons.mp hx with h | h; exact .inl h; exact .inr (.tail _ h)
  | there _ ih =>
    intro x hx
    rcases List.mem_cons.mp hx with h | h
    · rw [h]; exact .inr (.head _)
    · rcases ih x h with h | h
      · exact .inl h
      · exact .inr (.tail _ h)
theorem Rm.mem {M M' : AM} {p : Addr} {o : AO} (h : Rm M p o M') : (p, o) ∈ M := by
  induction h with
  | here => exact .head _
  | there _ ih => exact .tail _ ih
theorem Rm.sub {M M' : AM} {p : Addr} {o : AO} (h : Rm M p o M') : M'.Sublist M := by
  induction h with
  | here => exact .cons _ (List.Sublist.refl _)
  | there _ ih => exact .cons₂ _ ih
theorem Rm.out {M M' : AM} {p : Addr} {o : AO} (h : Rm M p o M') (nd : (ad M).Nodup) : p ∉ ad M' := by
  induction h with
  | here => exact (List.nodup_cons.mp nd).1
  | @there x p o M M' h ih =>
    obtain ⟨n1, n2⟩ := List.nodup_cons.mp nd
    intro m
    rcases List.mem_cons.mp m with e | m
    · exact n1 (by rw [← e]; exact List.mem_map.mpr ⟨_, h.mem, rfl⟩)
    · exact ih n2 m
section
variable {K : PySem.W.Frag} {M M' : AM} {s : Sv} {σ : L2.St} {H H' : Hp} {p : Addr} {o o' : AO} {a : A} {v : V}
theorem Step.write (hp : p ∈ ad M) {u : HO} : Step (ad M) H (ad M) (upd H p u) := ⟨fun q o h n => by rw [upd_ne (fun e : q = p => n (by rw [e]; exact hp))]; exact h, fun _ h => .inl h⟩
theorem RM.put (r : RM K M H) (up : Up M p o o' M') {u : HO} (c : Cell K (ad M) (upd H p u) p o') : RM K M' (upd H p u) := by
  have hp : p ∈ ad M := List.mem_map.mpr ⟨_, up.mem, rfl⟩
  refine ⟨fun x hx => ?_, by rw [up.ad]; exact r.nd⟩
  rw [up.ad]
  by_cases e : x.1 = p
  · rcases up.old x hx with h | h
    · rw [h]; exact c
    · have key : ∀ {M M' : AM} {p : Addr} {o o' : AO}, Up M p o o' M' → (ad M).Nodup → ∀ x ∈ M', x.1 = p → x = (p, o') := by
        intro M M' p o o' h
        induction h with
        | here =>
          intro nd x hx e
          rcases List.mem_cons.mp hx with h | h
          · exact h
          · exact absurd (List.mem_map.mpr ⟨x, h, e⟩) (List.nodup_cons.mp nd).1
        | @there y p o o' M M' h ih =>
          intro nd x hx e
          obtain ⟨n1, n2⟩ := List.nodup_cons.mp nd
          rcases List.mem_cons.mp hx with q | q
          · rw [q] at e
            exact absurd (List.mem_map.mpr ⟨_, h.mem, e.symm⟩) n1
          · exact ih n2 x q e
      rw [key up r.nd x hx e]; exact c
  · rcases up.old x hx with h | h
    · rw [h] at e; exact absurd rfl e
    · exact (r.cell x h).step (Step.write hp) (upd_ne e) fun q hq => r.mut hq
theorem Step.rm (h : Rm M p o M') : Step (ad M) H (ad M') H := Step.sub fun q hq => by
  obtain ⟨x, hx, e⟩ := List.mem_map.mp hq
  exact List.mem_map.mpr ⟨x, h.sub.mem hx, e⟩
theorem RM.rm (r : RM K M H) (h : Rm M p o M') : RM K M' H := ⟨fun x hx => (r.cell x (h.sub.mem hx)).step (Step.rm h) rfl fun q hq => r.mut hq, r.nd.sublist (h.sub.map _)⟩
theorem Rv.ref {D : List Addr} (h : Rv K D H (.loc p) v) : v = .ref p := by cases h; rfl
/-- a list that is left as it is -/
theorem Rv.freeze (r : RM K M H) {xs : List A} (h : Rm M p (.lst xs) M') : Rv K (ad M') H (.lst xs) (.ref p) := by
  obtain ⟨vs, hv, l⟩ := r.cell _ h.mem
  exact .lst ⟨h.out r.nd, hv⟩ (l.step (Step.rm h))
theorem Rv.freezeD (r : RM K M H) {kvs : List (Key × A)} (h : Rm M p (.dic kvs) M') : Rv K (ad M') H (.dic (kvs.map (·.1)) (kvs.map (·.2))) (.ref p) := by
  obtain ⟨ws, hv, l⟩ := r.cell _ h.mem
  obtain ⟨e, l⟩ := (l.step (Step.rm h)).vals
  exact .dic ⟨h.out r.nd, hv⟩ e l
end
end Ab

set_option Elab.async false
set_option linter.all false
set_option maxRecDepth 100000
set_option maxHeartbeats 4000000
namespace Ab
open PySem PySem.Spec PyProof.Rows L2 Go
abbrev QA := A → AM → Prop
/-- what an end must be told: by QA at the values' own level, by Qc at the heap's -/
def Kc (K : PySem.W.Frag) (M : AM) (H : Hp) (Q : QA) (Qc : VK) : Prop := ∀ a v M' H', Step (ad M) H (ad M') H' → RM K M' H' → Rv K (ad M') H' a v → Q a M' → Qc v H'
def KcL (K : PySem.W.Frag) (M : AM) (H : Hp) (Q : List A → AM → Prop) (Qc : List V → Hp → Prop) : Prop := ∀ a v M' H', Step (ad M) H (ad M') H' → RM K M' H' → RvL K (ad M') H' a v → Q a M' → Qc v H'
def KcX {α : Type} (K : PySem.W.Frag) (M : AM) (H : Hp) (Q : α → AM → Prop) (Qc : α → Hp → Prop) : Prop := ∀ a M' H', Step (ad M) H (ad M') H' → RM K M' H' → Q a M' → Qc a H'
def EE (K : PySem.W.Frag) (Ex : XK) (Xa : XA) (te : TE) (s : Sv) (M : AM) (Q : QA) : Prop := ∀ σ H Qc, Rep K Ex Xa s M σ H → Kc K M H Q Qc → te σ H Qc
def EA (K : PySem.W.Frag) (Ex : XK) (Xa : XA) (ta : TA) (s : Sv) (M : AM) (Q : List A → AM → Prop) : Prop := ∀ σ H Qc, Rep K Ex Xa s M σ H → KcL K M H Q Qc → ta σ H Qc
def ET (K : PySem.W.Frag) (Ex : XK) (Xa : XA) (tt : TT) (s : Sv) (M : AM) (Q : Bool → AM → Prop) : Prop := ∀ σ H Qc, Rep K Ex Xa s M σ H → KcX K M H Q Qc → tt σ H Qc
def EO (K : PySem.W.Frag) (Ex : XK) (Xa : XA) (to : TO) (s : Sv) (M : AM) (Q : Option Int → AM → Prop) : Prop := ∀ σ H Qc, Rep K Ex Xa s M σ H → KcX K M H Q Qc → to σ H Qc
def O2 (K : PySem.W.Frag) (r : R2) (a b : A) (M : AM) (Q : QA) : Prop := ∀ x y H Qc, Rv K (ad M) H a x → Rv K (ad M) H b y → RM K M H → Kc K M H Q Qc → r x y H Qc
def O1 (K : PySem.W.Frag) (r : V → Hp → VK → Prop) (a : A) (M : AM) (Q : QA) : Prop := ∀ x H Qc, Rv K (ad M) H a x → RM K M H → Kc K M H Q Qc → r x H Qc
def OL (K : PySem.W.Frag) (r : List V → Hp → VK → Prop) (as : List A) (M : AM) (Q : QA) : Prop := ∀ xs H Qc, RvL K (ad M) H as xs → RM K M H → Kc K M H Q Qc → r xs H Qc
def OM (K : PySem.W.Frag) (r : V → List V → Hp → VK → Prop) (a : A) (as : List A) (M : AM) (Q : QA) : Prop := ∀ x xs H Qc, Rv K (ad M) H a x → RvL K (ad M) H as xs → RM K M H → Kc K M H Q Qc → r x xs H Qc
def OSl (K : PySem.W.Frag) (r : V → Option Int → Option Int → Hp → VK → Prop) (a : A) (lo hi : Option Int) (M : AM) (Q : QA) : Prop := ∀ x H Qc, Rv K (ad M) H a x → RM K M H → Kc K M H Q Qc → r x lo hi H Qc
def KcS (K : PySem.W.Frag) (Ex : XK) (Xa : XA) (M : AM) (H : Hp) (Q : Sv → AM → Prop) (Qc : L2.St → Hp → Prop) : Prop := ∀ s' M' σ' H', Step (ad M) H (ad M') H' → Rep K Ex Xa s' M' σ' H' → Q s' M' → Qc σ' H'
def ES (K : PySem.W.Frag) (Ex : XK) (Xa : XA) (ts : TS) (s : Sv) (M : AM) (N : Sv → AM → Prop) (R : QA) (B C : Sv → AM → Prop) : Prop := ∀ σ H (D : Ends), Rep K Ex Xa s M σ H → KcS K Ex Xa M H N D.nx → Kc K M H R D.rt → KcS K Ex Xa M H B D.bk → KcS K Ex Xa M H C D.ct → ts D σ H
section
variable {K : PySem.W.Frag} {Ex : XK} {Xa : XA} {s s' : Sv} {M M' M1 : AM} {H H' : Hp} {Q Q' : QA} {Qc : VK} {a b : A} {v : V} {te ta tb tc : TE} {tr : TA} {c c' : TT} {t u : TS} {Nx Nx' : Sv → AM → Prop} {Rt Rt' : QA} {Bk Bk' Ct Ct' : Sv → AM → Prop} {i : Nat} {r r' : R2} {p : Addr}
theorem Kc.step (k : Kc K M H Q Qc) (st : Step (ad M) H (ad M') H') : Kc K M' H' Q Qc := fun a v M2 H2 s2 r2 v2 q => k a v M2 H2 (st.trans s2) r2 v2 q
theorem Kc.go (k : Kc K M H Q Qc) (r : RM K M H) (v' : Rv K (ad M) H a v) (q : Q a M) : Qc v H := k a v M H (Step.refl _ _) r v' q
theorem KcL.step {Q : List A → AM → Prop} {Qc : List V → Hp → Prop} (k : KcL K M H Q Qc) (st : Step (ad M) H (ad M') H') : KcL K M' H' Q Qc := fun a v M2 H2 s2 r2 v2 q => k a v M2 H2 (st.trans s2) r2 v2 q
theorem KcX.step {α : Type} {Q : α → AM → Prop} {Qc : α → Hp → Prop} (k : KcX K M H Q Qc) (st : Step (ad M) H (ad M') H') : KcX K M' H' Q Qc := fun a M2 H2 s2 r2 q => k a M2 H2 (st.trans s2) r2 q
theorem KcS.step {Q : Sv → AM → Prop} {Qc : L2.St → Hp → Prop} (k : KcS K Ex Xa M H Q Qc) (st : Step (ad M) H (ad M') H') : KcS K Ex Xa M' H' Q Qc := fun a M2 σ2 H2 s2 r2 q => k a M2 σ2 H2 (st.trans s2) r2 q
theorem EE.mono (h : EE K Ex Xa te s M Q) (k : ∀ a M', Q a M' → Q' a M') : EE K Ex Xa te s M Q' := fun σ H Qc rep kc => h σ H Qc rep fun a v M' H' st rm rv q => kc a v M' H' st rm rv (k a M' q)
/-! ### expressions -/
theorem e_int {n : Int} (q : Q (.int n) M) : EE K Ex Xa (tC (.int n)) s M Q := fun σ H Qc rep k => k.go rep.rm (.int n) q
theorem e_str {z : Str} (q : Q (.str z) M) : EE K Ex Xa (tC (.str z)) s M Q := fun σ H Qc rep k => k.go rep.rm (.str z) q
theorem e_bl {z : Bool} (q : Q (.bl z) M) : EE K Ex Xa (tC (.bl z)) s M Q := fun σ H Qc rep k => k.go rep.rm (.bl z) q
theorem e_non (q : Q .non M) : EE K Ex Xa (tC .non) s M Q := fun σ H Qc rep k => k.go rep.rm .non q
theorem e_ty {z : String} (q : Q (.ty z) M) : EE K Ex Xa (tC (.ty z)) s M Q := fun σ H Qc rep k => k.go rep.rm (.ty z) q
theorem e_ref (q : Q (.loc p) M) : EE K Ex Xa (tC (.ref p)) s M Q := fun σ H Qc rep k => k.go rep.rm (.loc p) q
theorem e_var (h : s[i]? = some (some a)) (q : Q a M) : EE K Ex Xa (tVar i) s M Q := fun σ H Qc rep k => by
  obtain ⟨v, hv, rv⟩ := rep.get h
  exact ⟨v, hv, k.go rep.rm rv q⟩
theorem e_op (h : EE K Ex Xa ta s M fun a M1 => EE K Ex Xa tb s M1 fun b M2 => O2 K r a b M2 Q) : EE K Ex Xa (tOp r ta tb) s M Q := fun σ H Qc rep k =>
  h σ H _ rep fun a v M1 H1 st rm rv hb => hb σ H1 _ (rep.step st rm) fun b w M2 H2 st2 rm2 rw2 ho => ho v w H2 _ (rv.step st2) rw2 rm2 (k.step (st.trans st2))
theorem e_un {r : V → Hp → VK → Prop} (h : EE K Ex Xa ta s M fun a M1 => O1 K r a M1 Q) : EE K Ex Xa (tUn r ta) s M Q := fun σ H Qc rep k =>
  h σ H _ rep fun a v M1 H1 st rm rv ho => ho v H1 _ rv rm (k.step st)
theorem e_notV (h : EE K Ex Xa ta s M fun a M1 => ∃ k, a = .bl k ∧ Q (.bl (!k)) M1) : EE K Ex Xa (tNotV ta) s M Q := fun σ H Qc rep k =>
  h σ H _ rep fun a v M1 H1 st rm rv ⟨z, e, q⟩ => by
    subst e; cases rv
    exact ⟨z, rfl, (k.step st).go rm (.bl _) q⟩
theorem e_andV (h : EE K Ex Xa ta s M fun a M1 => ∃ k, a = .bl k ∧ if k = true then EE K Ex Xa tb s M1 Q else Q (.bl false) M1) : EE K Ex Xa (tAndV ta tb) s M Q := fun σ H Qc rep k =>
  h σ H _ rep fun a v M1 H1 st rm rv ⟨z, e, q⟩ => by
    subst e; cases rv
    refine ⟨z, rfl, ?_⟩
    cases z with
    | true => exact if_t rfl ((show EE K Ex Xa tb s M1 Q from q) σ H1 _ (rep.step st rm) (k.step st))
    | false => exact if_f rfl ((k.step st).go rm (.bl _) q)
theorem e_orV (h : EE K Ex Xa ta s M fun a M1 => ∃ k, a = .bl k ∧ if k = true then Q (.bl true) M1 else EE K Ex Xa tb s M1 Q) : EE K Ex Xa (tOrV ta tb) s M Q := fun σ H Qc rep k =>
  h σ H _ rep fun a v M1 H1 st rm rv ⟨z, e, q⟩ => by
    subst e; cases rv
    refine ⟨z, rfl, ?_⟩
    cases z with
    | true => exact if_t rfl ((k.step st).go rm (.bl _) q)
    | false => exact if_f rfl ((show EE K Ex Xa tb s M1 Q from q) σ H1 _ (rep.step st rm) (k.step st))
theorem e_chain (h : EE K Ex Xa ta s M fun x M1 => EE K Ex Xa tb s M1 fun y M2 => O2 K r x y M2 fun z M3 => ∃ k, z = .bl k ∧ if k = true then EE K Ex Xa tc s M3 fun w M4 => O2 K r' y w M4 Q else Q (.bl false) M3) : EE K Ex Xa (tChain r r' ta tb tc) s M Q := fun σ H Qc rep k =>
  h σ H _ rep fun a v M1 H1 st rm rv hb => hb σ H1 _ (rep.step st rm) fun b w M2 H2 st2 rm2 rw2 ho => ho v w H2 _ (rv.step st2) rw2 rm2 fun z x M3 H3 st3 rm3 rx ⟨y, e, q⟩ => by
    subst e; cases rx
    refine ⟨y, rfl, ?_⟩
    have st13 := (st.trans st2).trans st3
    cases y with
    | false => exact if_f rfl ((k.step st13).go rm3 (.bl _) q)
    | true => exact if_t rfl ((show EE K Ex Xa tc s M3 _ from q) σ H3 _ (rep.step st13 rm3) fun d x4 M4 H4 st4 rm4 rx4 ho2 => ho2 w x4 H4 _ (rw2.step (st3.trans st4)) rx4 rm4 (k.step (st13.trans st4)))
theorem e_ifE (h : ET K Ex Xa c s M fun z M1 => if z = true then EE K Ex Xa ta s M1 Q else EE K Ex Xa tb s M1 Q) : EE K Ex Xa (tIf c ta tb) s M Q := fun σ H Qc rep k =>
  h σ H _ rep fun z M1 H1 st rm q => by
    cases z with
    | true => exact if_t rfl ((show EE K Ex Xa ta s M1 Q from q) σ H1 _ (rep.step st rm) (k.step st))
    | false => exact if_f rfl ((show EE K Ex Xa tb s M1 Q from q) σ H1 _ (rep.step st rm) (k.step st))
theorem a_nil {Q : List A → AM → Prop} (q : Q [] M) : EA K Ex Xa tNil s M Q := fun σ H Qc rep k => k [] [] M H (Step.refl _ _) rep.rm .nil q
theorem a_cons {Q : List A → AM → Prop} (h : EE K Ex Xa te s M fun a M1 => EA K Ex Xa tr s M1 fun as M2 => Q (a :: as) M2) : EA K Ex Xa (tCons te tr) s M Q := fun σ H Qc rep k =>
  h σ H _ rep fun a v M1 H1 st rm rv hb => hb σ H1 _ (rep.step st rm) fun as vs M2 H2 st2 rm2 rvs q => k (a :: as) (v :: vs) M2 H2 (st.trans st2) rm2 (.cons (rv.step st2) rvs) q
/-- a new thing that stays -/
theorem Step.fresh {D : List Addr} (hp : H p = none) {u : HO} : Step D H D (upd H p u) := Step.same (same_new hp)
theorem out_fresh (rm : RM K M H) (hp : H p = none) : p ∉ ad M := fun m => rm.some m hp
theorem newT (rm : RM K M H) (hp : H p = none) {as : List A} {vs : List V} (r : RvL K (ad M) H as vs) : Rv K (ad M) (upd H p (.tup vs)) (.tup as) (.ref p) := .tup (.inl ⟨out_fresh rm hp, .inl upd_same⟩) (r.step (Step.fresh hp))
theorem newL (rm : RM K M H) (hp : H p = none) {as : List A} {vs : List V} (r : RvL K (ad M) H as vs) : Rv K (ad M) (upd H p (.lst vs)) (.lst as) (.ref p) := .lst ⟨out_fresh rm hp, upd_same⟩ (r.step (Step.fresh hp))
theorem Kc.newT (k : Kc K M H Q Qc) (rm : RM K M H) (hp : H p = none) {as : List A} {vs : List V} (r : RvL K (ad M) H as vs) (q : Q (.tup as) M) : Qc (.ref p) (upd H p (.tup vs)) :=
  k _ _ M _ (Step.fresh hp) (rm.newF hp) (Ab.newT rm hp r) q
theorem Kc.newL (k : Kc K M H Q Qc) (rm : RM K M H) (hp : H p = none) {as : List A} {vs : List V} (r : RvL K (ad M) H as vs) (q : Q (.lst as) M) : Qc (.ref p) (upd H p (.lst vs)) :=
  k _ _ M _ (Step.fresh hp) (rm.newF hp) (Ab.newL rm hp r) q
theorem Kc.newC (k : Kc K M H Q Qc) (rm : RM K M H) (hp : H p = none) {as : List A} {vs : List V} (r : RvL K (ad M) H as vs) (q : Q (.loc p) ((p, .lst as) :: M)) : Qc (.ref p) (upd H p (.lst vs)) :=
  k _ _ ((p, .lst as) :: M) _ (Step.alloc hp) (rm.new hp ⟨vs, upd_same, r.step (Step.alloc hp)⟩) (.loc p) q
theorem e_tup (h : EA K Ex Xa tr s M fun as M1 => as.length ≤ sizeLine ∧ Q (.tup as) M1) : EE K Ex Xa (tTup tr) s M Q := fun σ H Qc rep k =>
  h σ H _ rep fun as vs M1 H1 st rm rv q => ⟨by rw [← rv.len]; exact q.1, fun p hp => (k.step st).newT rm hp rv q.2⟩
theorem e_lst (h : EA K Ex Xa tr s M fun as M1 => as.length ≤ sizeLine ∧ Q (.lst as) M1) : EE K Ex Xa (tLst tr) s M Q := fun σ H Qc rep k =>
  h σ H _ rep fun as vs M1 H1 st rm rv q => ⟨by rw [← rv.len]; exact q.1, fun p hp => (k.step st).newL rm hp rv q.2⟩
theorem e_lstC (h : EA K Ex Xa tr s M fun as M1 => as.length ≤ sizeLine ∧ ∀ p, Q (.loc p) ((p, .lst as) :: M1)) : EE K Ex Xa (tLst tr) s M Q := fun σ H Qc rep k =>
  h σ H _ rep fun as vs M1 H1 st rm rv q => ⟨by rw [← rv.len]; exact q.1, fun p hp => (k.step st).newC rm hp rv (q.2 p)⟩
theorem e_nilC (q : ∀ p, Q (.loc p) ((p, .lst []) :: M)) : EE K Ex Xa (tLst tNil) s M Q := e_lstC (a_nil ⟨Nat.zero_le _, q⟩)
theorem e_cb {r : List V → Hp → VK → Prop} (h : EA K Ex Xa tr s M fun as M1 => OL K r as M1 Q) : EE K Ex Xa (tCB r tr) s M Q := fun σ H Qc rep k =>
  h σ H _ rep fun as vs M1 H1 st rm rv ho => ho vs H1 _ rv rm (k.step st)
theorem e_sl {rr : V → Option Int → Option Int → Hp → VK → Prop} {tl th : TO} (h : EE K Ex Xa te s M fun a M1 => EO K Ex Xa tl s M1 fun lo M2 => EO K Ex Xa th s M2 fun hi M3 => OSl K rr a lo hi M3 Q) : EE K Ex Xa (tSl rr te tl th) s M Q := fun σ H Qc rep k =>
  h σ H _ rep fun a v M1 H1 st rm rv h1 => h1 σ H1 _ (rep.step st rm) fun lo M2 H2 st2 rm2 h2 => h2 σ H2 _ (rep.step (st.trans st2) rm2) fun hi M3 H3 st3 rm3 ho => ho v H3 _ (rv.step (st2.trans st3)) rm3 (k.step ((st.trans st2).trans st3))
theorem e_noPart {Q : Option Int → AM → Prop} (q : Q none M) : EO K Ex Xa tNoPart s M Q := fun σ H Qc rep k => k none M H (Step.refl _ _) rep.rm q
theorem e_part {Q : Option Int → AM → Prop} (h : EE K Ex Xa te s M fun a M1 => ∃ i, a = .int i ∧ Q (some i) M1) : EO K Ex Xa (tPart te) s M Q := fun σ H Qc rep k =>
  h σ H _ rep fun a v M1 H1 st rm rv ⟨i, e, q⟩ => by
    subst e; cases rv
    exact ⟨i, rfl, k.step st (some i) M1 H1 (Step.refl _ _) rm q⟩
theorem e_bits (h : EE K Ex Xa te s M fun a M1 => ∃ i, a = .int i ∧ Q (.int (Builtin.Int.intBits i : Nat)) M1) : EE K Ex Xa (tBits te) s M Q := fun σ H Qc rep k =>
  h σ H _ rep fun a v M1 H1 st rm rv ⟨i, e, q⟩ => by
    subst e; cases rv
    exact ⟨i, rfl, (k.step st).go rm (.int _) q⟩
theorem e_I {R : Int → Prop} {n : Int} (q : R n) : ∃ i, A.int n = .int i ∧ R i := ⟨n, rfl, q⟩
theorem e_B {R : Bool → Prop} {n : Bool} (q : R n) : ∃ i, A.bl n = .bl i ∧ R i := ⟨n, rfl, q⟩
/-! ### tests -/
theorem t_testB {QB : Bool → AM → Prop} (h : EE K Ex Xa te s M fun a M1 => ∃ k, a = .bl k ∧ QB k M1) : ET K Ex Xa (tTest te) s M QB := fun σ H Qc rep k =>
  h σ H _ rep fun a v M1 H1 st rm rv ⟨z, e, q⟩ => by
    subst e; cases rv
    exact ⟨z, rfl, k.step st z M1 H1 (Step.refl _ _) rm q⟩
theorem t_B {QB : Bool → AM → Prop} (h : EE K Ex Xa te s M fun a M1 => ∃ k, a = .bl k ∧ QB k M1) : ET K Ex Xa (tB te) s M QB := fun σ H Qc rep k =>
  h σ H _ rep fun a v M1 H1 st rm rv ⟨z, e, q⟩ => by
    subst e; cases rv
    exact ⟨z, rfl, k.step st z M1 H1 (Step.refl _ _) rm q⟩
theorem t_yes {QB : Bool → AM → Prop} (q : QB true M) : ET K Ex Xa tYes s M QB := fun σ H Qc rep k => k true M H (Step.refl _ _) rep.rm q
theorem t_not {QB : Bool → AM → Prop} (h : ET K Ex Xa c s M fun z M1 => QB (!z) M1) : ET K Ex Xa (tNot c) s M QB := fun σ H Qc rep k => h σ H _ rep fun z M1 H1 st rm q => k.step st (!z) M1 H1 (Step.refl _ _) rm q
theorem t_and {QB : Bool → AM → Prop} (h : ET K Ex Xa c s M fun z M1 => if z = true then ET K Ex Xa c' s M1 QB else QB false M1) : ET K Ex Xa (tAnd c c') s M QB := fun σ H Qc rep k =>
  h σ H _ rep fun z M1 H1 st rm q => by
    cases z with
    | true => exact if_t rfl ((show ET K Ex Xa c' s M1 QB from q) σ H1 _ (rep.step st rm) (k.step st))
    | false => exact if_f rfl (k.step st false M1 H1 (Step.refl _ _) rm q)
theorem t_or {QB : Bool → AM → Prop} (h : ET K Ex Xa c s M fun z M1 => if z = true then QB true M1 else ET K Ex Xa c' s M1 QB) : ET K Ex Xa (tOr c c') s M QB := fun σ H Qc rep k =>
  h σ H _ rep fun z M1 H1 st rm q => by
    cases z with
    | true => exact if_t rfl (k.step st true M1 H1 (Step.refl _ _) rm q)
    | false => exact if_f rfl ((show ET K Ex Xa c' s M1 QB from q) σ H1 _ (rep.step st rm) (k.step st))
/-! ### statements -/
theorem s_seq (h : ES K Ex Xa t s M (fun s1 M1 => ES K Ex Xa u s1 M1 Nx Rt Bk Ct) Rt Bk Ct) : ES K Ex Xa (tSeq t u) s M Nx Rt Bk Ct := fun σ H D rep kn kr kb kt =>
  h σ H { D with nx := u D } rep (fun s1 M1 σ1 H1 st rep1 q => q σ1 H1 D rep1 (kn.step st) (kr.step st) (kb.step st) (kt.step st)) kr kb kt
theorem s_next (q : Nx s M) : ES K Ex Xa tNext s M Nx Rt Bk Ct := fun σ H D rep kn kr kb kt => kn s M σ H (Step.refl _ _) rep q
theorem s_asg (h : EE K Ex Xa te s M fun a M1 => Nx (s.set i (some a)) M1) : ES K Ex Xa (tAsg te (gName i)) s M Nx Rt Bk Ct := fun σ H D rep kn kr kb kt =>
  h σ H _ rep fun a v M1 H1 st rm rv q => kn _ M1 _ H1 st ((rep.step st rm).set rv i) q
theorem s_drop (h : EE K Ex Xa te s M fun _ M1 => Nx s M1) : ES K Ex Xa (tDrop te) s M Nx Rt Bk Ct := fun σ H D rep kn kr kb kt =>
  h σ H _ rep fun a v M1 H1 st rm rv q => kn _ M1 _ H1 st (rep.step st rm) q
theorem s_ret (h : EE K Ex Xa te s M Rt) : ES K Ex Xa (tRet te) s M Nx Rt Bk Ct := fun σ H D rep kn kr kb kt => h σ H _ rep kr
theorem s_retN (q : Rt .non M) : ES K Ex Xa tRetN s M Nx Rt Bk Ct := fun σ H D rep kn kr kb kt => kr.go rep.rm .non q
theorem s_if (h : ET K Ex Xa c s M fun z M1 => if z = true then ES K Ex Xa t s M1 Nx Rt Bk Ct else ES K Ex Xa u s M1 Nx Rt Bk Ct) : ES K Ex Xa (tIfS c t u) s M Nx Rt Bk Ct := fun σ H D rep kn kr kb kt =>
  h σ H _ rep fun z M1 H1 st rm q => by
    cases z with
    | true => exact if_t rfl ((show ES K Ex Xa t s M1 Nx Rt Bk Ct from q) σ H1 D (rep.step st rm) (kn.step st) (kr.step st) (kb.step st) (kt.step st))
    | false => exact if_f rfl ((show ES K Ex Xa u s M1 Nx Rt Bk Ct from q) σ H1 D (rep.step st rm) (kn.step st) (kr.step st) (kb.step st) (kt.step st))
theorem s_par {j : Nat} (h : EA K Ex Xa tr s M fun as M1 => ∃ a b, as = [a, b] ∧ Nx ((s.set i (some a)).set j (some b)) M1) : ES K Ex Xa (tPar i j tr) s M Nx Rt Bk Ct := fun σ H D rep kn kr kb kt =>
  h σ H _ rep fun as vs M1 H1 st rm rv ⟨a, b, e, q⟩ => by
    subst e
    cases rv with
    | cons r1 t => cases t with
      | cons r2 t =>
        cases t
        exact ⟨_, _, rfl, kn _ M1 _ H1 st (((rep.step st rm).set r1 i).set r2 j) q⟩
theorem s_weak (h : ES K Ex Xa t s M Nx' Rt' Bk' Ct') (h1 : ∀ s M, Nx' s M → Nx s M) (h2 : ∀ a M, Rt' a M → Rt a M) (h3 : ∀ s M, Bk' s M → Bk s M) (h4 : ∀ s M, Ct' s M → Ct s M) : ES K Ex Xa t s M Nx Rt Bk Ct := fun σ H D rep kn kr kb kt =>
  h σ H D rep (fun s M σ H st rep q => kn s M σ H st rep (h1 s M q)) (fun a v M H st rm rv q => kr a v M H st rm rv (h2 a M q)) (fun s M σ H st rep q => kb s M σ H st rep (h3 s M q)) (fun s M σ H st rep q => kt s M σ H st rep (h4 s M q))
/-- a list that no one changes any more -/
theorem rep_freeze {i : Nat} {xs : List A} {σ : L2.St} (rep : Rep K Ex Xa s M σ H) (hi : s[i]? = some (some (.loc p))) (h : Rm M p (.lst xs) M') : Rep K Ex Xa (s.set i (some (.lst xs))) M' σ H := by
  have f := Rv.freeze rep.rm h
  obtain ⟨v, hv, rv⟩ := rep.get hi
  have r2 := rep.step (Step.rm h) (rep.rm.rm h)
  have r3 := r2.set f i
  have e : σ.set i (some (.ref p)) = σ := by
    have : v = .ref p := rv.ref
    subst this
    exact List.ext_getElem? fun j => by
      by_cases hj : j = i
      · subst hj; rw [List.getElem?_set]
        have := (List.getElem?_eq_some_iff.mp hv).1
        rw [if_pos rfl, if_pos this, hv]
      · rw [List.getElem?_set_ne (fun e => hj e.symm)]
  rw [e] at r3
  exact r3
theorem s_freeze (i : Nat) {xs : List A} (hi : s[i]? = some (some (.loc p))) (h : Rm M p (.lst xs) M') (q : ES K Ex Xa t (s.set i (some (.lst xs))) M' Nx Rt Bk Ct) : ES K Ex Xa t s M Nx Rt Bk Ct := fun σ H D rep kn kr kb kt => by
  have st := Step.rm (H := H) h
  exact q σ H D (rep_freeze rep hi h) (kn.step st) (kr.step st) (kb.step st) (kt.step st)
/-- what is told is a list that no one changes any more -/
theorem e_freeze (h : EE K Ex Xa te s M fun a M1 => ∃ p xs M2, a = .loc p ∧ Rm M1 p (.lst xs) M2 ∧ Q (.lst xs) M2) : EE K Ex Xa te s M Q := fun σ H Qc rep k =>
  h σ H _ rep fun a v M1 H1 st rm rv ⟨p, xs, M2, e, hr, q⟩ => by
    subst e; cases rv
    exact k _ _ M2 H1 (st.trans (Step.rm hr)) (rm.rm hr) (Rv.freeze rm hr) q
theorem e_forget {o : AO} (h : EE K Ex Xa te s M fun a M1 => ∃ p M2, Rm M1 p o M2 ∧ Q a M2) : EE K Ex Xa te s M Q := fun σ H Qc rep k =>
  h σ H _ rep fun a v M1 H1 st rm rv ⟨p, M2, hr, q⟩ => k _ _ M2 H1 (st.trans (Step.rm hr)) (rm.rm hr) (rv.step (Step.rm hr)) q
theorem s_forget {o : AO} (h : Rm M p o M') (q : ES K Ex Xa t s M' Nx Rt Bk Ct) : ES K Ex Xa t s M Nx Rt Bk Ct := fun σ H D rep kn kr kb kt => by
  have st := Step.rm (H := H) h
  exact q σ H D (rep.step st (rep.rm.rm h)) (kn.step st) (kr.step st) (kb.step st) (kt.step st)
theorem s_none (i : Nat) (q : ES K Ex Xa t (s.set i none) M Nx Rt Bk Ct) : ES K Ex Xa t s M Nx Rt Bk Ct := fun σ H D rep kn kr kb kt => q σ H D (rep.forget i) kn kr kb kt
end
end Ab

set_option Elab.async false
set_option linter.all false
set_option maxRecDepth 100000
set_option maxHeartbeats 4000000
namespace Ab
open PySem PySem.Spec PyProof.Rows L2 Go
/-- a thing in M -/
inductive Lk : AM → Addr → AO → Prop
  | here {p : Addr} {o : AO} {M : AM} : Lk ((p, o) :: M) p o
  | there {x : Addr × AO} {p : Addr} {o : AO} {M : AM} : Lk M p o → Lk (x :: M) p o
theorem Lk.mem {M : AM} {p : Addr} {o : AO} (h : Lk M p o) : (p, o) ∈ M := by
  induction h with
  | here => exact .head _
  | there _ ih => exact .tail _ ih
/-- what is in the one is in the other -/
def Sub (M M' : AM) : Prop := ∀ p o, Lk M p o → Lk M' p o
/-! ### what is walked -/
def AIt (K : PySem.W.Frag) (xs : List A) (M : AM) (H : Hp) (J : It) : Prop := ∀ M' H', Step (ad M) H (ad M') H' → RM K M' H' →
  (∀ i, i < xs.length → J.go i H') ∧ J.stop xs.length H' ∧ ∀ i x v H2, xs[i]? = some x → J.yld i H' v H2 → Same H' H2 ∧ Rv K (ad M') H2 x v
def EI (K : PySem.W.Frag) (Ex : XK) (Xa : XA) (wi : TI) (s : Sv) (M : AM) (R : List A → AM → Prop) : Prop := ∀ σ H (Rc : It → Hp → Prop), Rep K Ex Xa s M σ H →
  (∀ xs M' H' J, Step (ad M) H (ad M') H' → RM K M' H' → AIt K xs M' H' J → R xs M' → Rc J H') → wi σ H Rc
/-- what is assigned to -/
def EG (K : PySem.W.Frag) (Ex : XK) (Xa : XA) (g : TG) (x : A) (s : Sv) (M : AM) (Q : Sv → Prop) : Prop := ∀ v σ H (Qc : L2.St → Hp → Prop), Rv K (ad M) H x v → Rep K Ex Xa s M σ H → (∀ s' σ', Rep K Ex Xa s' M σ' H → Q s' → Qc σ' H) → g v σ H Qc
def EGs (K : PySem.W.Frag) (Ex : XK) (Xa : XA) (g : TGs) (xs : List A) (s : Sv) (M : AM) (Q : Sv → Prop) : Prop := ∀ vs σ H (Qc : L2.St → Hp → Prop), RvL K (ad M) H xs vs → Rep K Ex Xa s M σ H → (∀ s' σ', Rep K Ex Xa s' M σ' H → Q s' → Qc σ' H) → g vs σ H Qc
/-- .. within a comprehension whose own names are vs -/
def EGc (K : PySem.W.Frag) (Ex : XK) (Xa : XA) (g : TG) (ws : List Nat) (x : A) (s : Sv) (M : AM) (Q : Sv → Prop) : Prop := ∀ v σ H (Qc : L2.St → Hp → Prop), Rv K (ad M) H x v → Rep K Ex Xa s M σ H → (∀ s' σ', wipe σ' ws = wipe σ ws → Rep K Ex Xa s' M σ' H → Q s' → Qc σ' H) → g v σ H Qc
def EGcs (K : PySem.W.Frag) (Ex : XK) (Xa : XA) (g : TGs) (ws : List Nat) (xs : List A) (s : Sv) (M : AM) (Q : Sv → Prop) : Prop := ∀ vs σ H (Qc : L2.St → Hp → Prop), RvL K (ad M) H xs vs → Rep K Ex Xa s M σ H → (∀ s' σ', wipe σ' ws = wipe σ ws → Rep K Ex Xa s' M σ' H → Q s' → Qc σ' H) → g vs σ H Qc
def wipeA (s : Sv) : List Nat → Sv
  | [] => s
  | v :: vs => (wipeA s vs).set v none
section
variable {K : PySem.W.Frag} {Ex : XK} {Xa : XA} {s s' : Sv} {M M' M1 : AM} {H H' : Hp} {Q Q' : QA} {Qc : VK} {a b : A} {v : V} {te ta tb tc : TE} {tr : TA} {c c' : TT} {t u : TS} {Nx : Sv → AM → Prop} {Rt : QA} {Bk Ct : Sv → AM → Prop} {i : Nat} {p : Addr} {g : TG} {tg : TGs} {x : A} {xs : List A} {QS : Sv → Prop} {ws : List Nat} {σ : L2.St}
theorem g_name (q : QS (s.set i (some x))) : EG K Ex Xa (gName i) x s M QS := fun v σ H Qc rv rep k => k _ _ (rep.set rv i) q
theorem g_tup {n : Nat} (hn : xs.length = n) (h : EGs K Ex Xa tg xs s M QS) : EG K Ex Xa (gTup K n tg) (.tup xs) s M QS := fun v σ H Qc rv rep k => by
  cases rv with
  | tup f r => exact ⟨_, _, rfl, f.sq, by rw [← r.len]; exact hn, h _ σ H Qc r rep k⟩
theorem g_nil (q : QS s) : EGs K Ex Xa gNil [] s M QS := fun vs σ H Qc rv rep k => by
  cases rv
  exact ⟨rfl, k s σ rep q⟩
theorem g_cons (h : EG K Ex Xa g x s M fun s1 => EGs K Ex Xa tg xs s1 M QS) : EGs K Ex Xa (gCons g tg) (x :: xs) s M QS := fun vs σ H Qc rv rep k => by
  cases rv with
  | cons r1 r2 => exact ⟨_, _, rfl, h _ σ H _ r1 rep fun s1 σ1 rep1 h1 => h1 _ σ1 H _ r2 rep1 k⟩
theorem wipe_set_in {σ : L2.St} {o : Option V} : ∀ {ws : List Nat} {i : Nat}, i ∈ ws → wipe (σ.set i o) ws = wipe σ ws := by
  intro ws
  have key : ∀ (ws : List Nat) (τ : L2.St) (i : Nat) (o : Option V), i ∉ ws → wipe (τ.set i o) ws = (wipe τ ws).set i o := by
    intro ws
    induction ws with
    | nil => intro τ i o _; rfl
    | cons w ws ih =>
      intro τ i o h
      show (wipe (τ.set i o) ws).set w none = ((wipe τ ws).set w none).set i o
      rw [ih τ i o (fun m => h (.tail _ m)), List.set_comm]
      exact fun e => h (by rw [e]; exact .head _)
  induction ws with
  | nil => intro i h; cases h
  | cons w ws ih =>
    intro i h
    show (wipe (σ.set i o) ws).set w none = (wipe σ ws).set w none
    by_cases m : i ∈ ws
    · rw [ih m]
    · rw [key ws σ i o m]
      rcases List.mem_cons.mp h with e | e
      · rw [e, List.set_set]
      · exact absurd e m
theorem wipe_wipe {σ : L2.St} (ws : List Nat) : wipe (wipe σ ws) ws = wipe σ ws := by
  have key : ∀ (l ws : List Nat), (∀ x ∈ l, x ∈ ws) → wipe (wipe σ l) ws = wipe σ ws := by
    intro l
    induction l with
    | nil => intro ws _; rfl
    | cons w l ih =>
      intro ws h
      show wipe ((wipe σ l).set w none) ws = _
      rw [wipe_set_in (h w (.head _)), ih ws fun x hx => h x (.tail _ hx)]
  exact key ws ws fun _ h => h
theorem c_name (hi : i ∈ ws) (q : QS (s.set i (some x))) : EGc K Ex Xa (gName i) ws x s M QS := fun v σ H Qc rv rep k => k _ _ (wipe_set_in hi) (rep.set rv i) q
theorem c_tup {n : Nat} (hn : xs.length = n) (h : EGcs K Ex Xa tg ws xs s M QS) : EGc K Ex Xa (gTup K n tg) ws (.tup xs) s M QS := fun v σ H Qc rv rep k => by
  cases rv with
  | tup f r => exact ⟨_, _, rfl, f.sq, by rw [← r.len]; exact hn, h _ σ H Qc r rep k⟩
theorem c_nil (q : QS s) : EGcs K Ex Xa gNil ws [] s M QS := fun vs σ H Qc rv rep k => by
  cases rv
  exact ⟨rfl, k s σ rfl rep q⟩
theorem c_cons (h : EGc K Ex Xa g ws x s M fun s1 => EGcs K Ex Xa tg ws xs s1 M QS) : EGcs K Ex Xa (gCons g tg) ws (x :: xs) s M QS := fun vs σ H Qc rv rep k => by
  cases rv with
  | cons r1 r2 => exact ⟨_, _, rfl, h _ σ H _ r1 rep fun s1 σ1 e1 rep1 h1 => h1 _ σ1 H _ r2 rep1 fun s2 σ2 e2 => k s2 σ2 (e2.trans e1)⟩
theorem s_asgG (h : EE K Ex Xa te s M fun a M1 => EG K Ex Xa g a s M1 fun s2 => Nx s2 M1) : ES K Ex Xa (tAsg te g) s M Nx Rt Bk Ct := fun σ H D rep kn kr kb kt =>
  h σ H _ rep fun a v M1 H1 st rm rv hg => hg v σ H1 _ rv (rep.step st rm) fun s2 σ2 rep2 q => kn s2 M1 σ2 H1 st rep2 q
theorem s_sub {to ti : TE} (h : EE K Ex Xa te s M fun x M1 => EE K Ex Xa to s M1 fun o M2 => EE K Ex Xa ti s M2 fun k M3 => ∃ p xs n j M4, o = .loc p ∧ k = .int n ∧ Up M3 p (.lst xs) (.lst (xs.set j x)) M4 ∧ ixN xs.length n = some j ∧ Nx s M4) : ES K Ex Xa (tAsg te (gSub to ti rSetL)) s M Nx Rt Bk Ct := fun σ H D rep kn kr kb kt =>
  h σ H _ rep fun a v M1 H1 st rm rv ho => ho σ H1 _ (rep.step st rm) fun o w M2 H2 st2 rm2 rw2 hi => hi σ H2 _ (rep.step (st.trans st2) rm2) fun k y M3 H3 st3 rm3 ry ⟨p, xs, n, j, M4, e1, e2, up, hj, q⟩ => by
    subst e1 e2
    cases rw2
    cases ry
    obtain ⟨vs, hp, rl⟩ := rm3.cell _ up.mem
    have hm : p ∈ ad M3 := List.mem_map.mpr ⟨_, up.mem, rfl⟩
    have st4 : Step (ad M3) H3 (ad M3) (upd H3 p (.lst (vs.set j v))) := Step.write hm
    have rm4 : RM K M4 (upd H3 p (.lst (vs.set j v))) := rm3.put up ⟨_, upd_same, (rl.step st4).set ((rv.step (st2.trans st3)).step st4) j⟩
    have st5 : Step (ad M3) H3 (ad M4) (upd H3 p (.lst (vs.set j v))) := by rw [up.ad]; exact st4
    have st15 := ((st.trans st2).trans st3).trans st5
    exact ⟨p, vs, n, j, rfl, rfl, hp, by rw [← rl.len]; exact hj, kn s M4 σ _ st15 (rep.step st15 rm4) q⟩
/-! ### iterators -/
theorem i_tup {R : List A → AM → Prop} (h : EE K Ex Xa te s M fun a M1 => ∃ xs, a = .tup xs ∧ R xs M1) : EI K Ex Xa (iTup K te) s M R := fun σ H Rc rep k =>
  h σ H _ rep fun a v M1 H1 st rm rv ⟨xs, e, q⟩ => by
    subst e
    cases rv with
    | tup f r =>
      rename_i p vs
      refine ⟨p, rfl, ⟨vs, f.sq⟩, k xs M1 H1 _ st rm (fun M' H' st' rm' => ?_) q⟩
      have w := walk_tup (K := K) (a := p) (xs := vs)
      have g := (f.step st').sq
      refine ⟨fun i hi => w.goes i H' (by rw [← r.len]; exact hi) g, by rw [r.len]; exact w.stops H' g, fun i x v H2 hx y => ?_⟩
      have hl : i < vs.length := by rw [← r.len]; exact (List.getElem?_eq_some_iff.mp hx).1
      obtain ⟨e, hv⟩ := w.yields i H' v H2 hl g y
      subst e
      obtain ⟨x', hx', rx⟩ := r.at' hv
      rw [hx] at hx'
      cases hx'
      exact ⟨Same.refl _, rx.step st'⟩
theorem i_lst {R : List A → AM → Prop} (h : EE K Ex Xa te s M fun a M1 => ∃ xs, a = .lst xs ∧ R xs M1) : EI K Ex Xa (iList K te) s M R := fun σ H Rc rep k =>
  h σ H _ rep fun a v M1 H1 st rm rv ⟨xs, e, q⟩ => by
    subst e
    cases rv with
    | lst f r =>
      rename_i p vs
      refine ⟨p, rfl, ⟨vs, f.sq⟩, k xs M1 H1 _ st rm (fun M' H' st' rm' => ?_) q⟩
      have w := walk_list (K := K) (a := p) (xs := vs)
      have g : SqL K H' p vs := (f.step st').sq
      refine ⟨fun i hi => w.goes i H' (by rw [← r.len]; exact hi) g, by rw [r.len]; exact w.stops H' g, fun i x v H2 hx y => ?_⟩
      have hl : i < vs.length := by rw [← r.len]; exact (List.getElem?_eq_some_iff.mp hx).1
      obtain ⟨e, hv⟩ := w.yields i H' v H2 hl g y
      subst e
      obtain ⟨x', hx', rx⟩ := r.at' hv
      rw [hx] at hx'
      cases hx'
      exact ⟨Same.refl _, rx.step st'⟩
abbrev sign (c : Nat) : A := .str ⟨#[c]⟩
theorem i_str {R : List A → AM → Prop} (h : EE K Ex Xa te s M fun a M1 => ∃ z, a = .str z ∧ R (z.cps.toList.map sign) M1) : EI K Ex Xa (iStr te) s M R := fun σ H Rc rep k =>
  h σ H _ rep fun a v M1 H1 st rm rv ⟨z, e, q⟩ => by
    subst e; cases rv
    refine ⟨z, rfl, k _ M1 H1 _ st rm (fun M' H' st' rm' => ?_) q⟩
    have w := walk_str (z := z)
    have el : (z.cps.toList.map sign).length = z.cps.size := by rw [List.length_map, Array.length_toList]
    refine ⟨fun i hi => w.goes i H' (by rw [← el]; exact hi) trivial, by rw [el]; exact w.stops H' trivial, fun i x v H2 hx y => ?_⟩
    have hl : i < z.cps.size := by rw [← el]; exact (List.getElem?_eq_some_iff.mp hx).1
    obtain ⟨e, c, hc, e2⟩ := w.yields i H' v H2 hl trivial y
    subst e e2
    rw [List.getElem?_map, Array.getElem?_toList, hc] at hx
    cases hx
    exact ⟨Same.refl _, .str _⟩
abbrev rng (lo : Int) (n : Nat) : List A := (List.range n).map fun i => .int (lo + (i : Nat))
theorem rng_it {lo : Int} {n : Nat} : AIt K (rng lo n) M H (Itr lo n) := fun M' H' st' rm' => by
  have w := walk_range (lo := lo) (n := n)
  have el : (rng lo n).length = n := by rw [List.length_map, List.length_range]
  refine ⟨fun i hi => w.goes i H' (by rw [← el]; exact hi) trivial, by rw [el]; exact w.stops H' trivial, fun i x v H2 hx y => ?_⟩
  have hl : i < n := by rw [← el]; exact (List.getElem?_eq_some_iff.mp hx).1
  obtain ⟨e, e2⟩ := w.yields i H' v H2 hl trivial y
  subst e e2
  rw [List.getElem?_map, List.getElem?_range hl] at hx
  cases hx
  exact ⟨Same.refl _, .int _⟩
theorem i_rng1 {R : List A → AM → Prop} (h : EA K Ex Xa tr s M fun as M1 => ∃ j : Int, as = [.int j] ∧ -(2 ^ 62) ≤ j ∧ j < 2 ^ 62 ∧ R (rng 0 j.toNat) M1) : EI K Ex Xa (iRng1 tr) s M R := fun σ H Rc rep k =>
  h σ H _ rep fun as vs M1 H1 st rm rv ⟨j, e, h1, h2, q⟩ => by
    subst e
    cases rv with
    | cons r t =>
      cases r; cases t
      exact ⟨j, rfl, h1, h2, k _ M1 H1 _ st rm rng_it q⟩
theorem i_rng2 {R : List A → AM → Prop} (h : EA K Ex Xa tr s M fun as M1 => ∃ i j : Int, as = [.int i, .int j] ∧ (-(2 ^ 62) ≤ i ∧ i < 2 ^ 62 ∧ -(2 ^ 62) ≤ j ∧ j < 2 ^ 62) ∧ R (rng i (j - i).toNat) M1) : EI K Ex Xa (iRng2 tr) s M R := fun σ H Rc rep k =>
  h σ H _ rep fun as vs M1 H1 st rm rv ⟨i, j, e, h1, q⟩ => by
    subst e
    cases rv with
    | cons r t =>
      cases t with
      | cons r2 t =>
        cases r; cases r2; cases t
        exact ⟨i, j, rfl, h1, k _ M1 H1 _ st rm rng_it q⟩
/-- turns for tuples of pairs that are made on the way -/
theorem pair_it {J : It} {n : Nat} {G : Hp → Prop} {f g : Nat → Option V} {xs ys : List A} (w : Walk J n G (YPair f g)) (hn : n = (List.zipWith (fun a b => A.tup [a, b]) xs ys).length)
    (hG : ∀ M' H', Step (ad M) H (ad M') H' → RM K M' H' → G H' ∧ ∀ i u v a b, f i = some u → g i = some v → xs[i]? = some a → ys[i]? = some b → Rv K (ad M') H' a u ∧ Rv K (ad M') H' b v) : AIt K (List.zipWith (fun a b => A.tup [a, b]) xs ys) M H J := fun M' H' st' rm' => by
  obtain ⟨gg, hv⟩ := hG M' H' st' rm'
  refine ⟨fun i hi => w.goes i H' (by rw [hn]; exact hi) gg, by rw [← hn]; exact w.stops H' gg, fun i x v H2 hx y => ?_⟩
  have hl : i < n := by rw [hn]; exact (List.getElem?_eq_some_iff.mp hx).1
  obtain ⟨T, u1, u2, e1, e2, e3, e4, e5⟩ := w.yields i H' v H2 hl gg y
  subst e1 e3
  rw [List.getElem?_zipWith] at hx
  cases ha : xs[i]? with
  | none => rw [ha] at hx; cases hx
  | some a =>
    cases hb : ys[i]? with
    | none => rw [ha, hb] at hx; cases hx
    | some b =>
      rw [ha, hb] at hx
      cases hx
      obtain ⟨r1, r2⟩ := hv i u1 u2 a b e4 e5 ha hb
      exact ⟨same_new e2, newT rm' e2 (.cons r1 (.cons r2 .nil))⟩
theorem i_zip {R : List A → AM → Prop} (h : EA K Ex Xa tr s M fun as M1 => ∃ xs ys, ((as = [.tup xs, .tup ys]) ∨ (as = [.lst xs, .lst ys])) ∧ R (List.zipWith (fun a b => A.tup [a, b]) xs ys) M1) : EI K Ex Xa (RZ.iZipA K tr) s M R := fun σ H Rc rep k =>
  h σ H _ rep fun as vs M1 H1 st rm rv ⟨xs, ys, e, q⟩ => by
    have at2 : ∀ {us ws : List V} {M' : AM} {H' : Hp}, Step (ad M1) H1 (ad M') H' → RvL K (ad M1) H1 xs us → RvL K (ad M1) H1 ys ws → ∀ (i : Nat) (u v : V) (a b : A), us[i]? = some u → ws[i]? = some v → xs[i]? = some a → ys[i]? = some b → Rv K (ad M') H' a u ∧ Rv K (ad M') H' b v := by
      intro us ws M' H' st' r1 r2 i u v a b h1 h2 h3 h4
      obtain ⟨a', e1, g1⟩ := r1.at' h1
      obtain ⟨b', e2, g2⟩ := r2.at' h2
      rw [h3] at e1
      rw [h4] at e2
      cases e1; cases e2
      exact ⟨g1.step st', g2.step st'⟩
    rcases e with e | e
    · subst e
      cases rv with
      | cons r1 t =>
        cases t with
        | cons r2 t =>
          cases t
          cases r1 with
          | tup f1 l1 =>
            cases r2 with
            | tup f2 l2 =>
              rename_i p1 vs1 p2 vs2
              exact ⟨p1, p2, vs1, vs2, rfl, .inr ⟨f1.sq, f2.sq, k _ M1 H1 _ st rm (pair_it (walk_zipT (K := K) (a := p1) (b := p2) (xs := vs1) (ys := vs2) rfl) (by rw [List.length_zipWith, l1.len, l2.len]) fun M' H' st' rm' => ⟨⟨(f1.step st').sq, (f2.step st').sq⟩, at2 st' l1 l2⟩) q⟩⟩
    · subst e
      cases rv with
      | cons r1 t =>
        cases t with
        | cons r2 t =>
          cases t
          cases r1 with
          | lst f1 l1 =>
            cases r2 with
            | lst f2 l2 =>
              rename_i p1 vs1 p2 vs2
              exact ⟨p1, p2, vs1, vs2, rfl, .inl ⟨f1.sq, f2.sq, k _ M1 H1 _ st rm (pair_it (walk_zip (K := K) (a := p1) (b := p2) (xs := vs1) (ys := vs2) rfl) (by rw [List.length_zipWith, l1.len, l2.len]) fun M' H' st' rm' => ⟨⟨(f1.step st').sq, (f2.step st').sq⟩, at2 st' l1 l2⟩) q⟩⟩
/-! ### loops -/
theorem s_for {wi : TI} {tb : TS} (h : EI K Ex Xa wi s M fun xs M1 => ∃ I : Nat → Sv → AM → Prop, I 0 s M1 ∧ (∀ i x s' M', xs[i]? = some x → I i s' M' → EG K Ex Xa g x s' M' fun s2 => ES K Ex Xa tb s2 M' (I (i + 1)) Rt Nx (I (i + 1))) ∧ ∀ s' M', I xs.length s' M' → Nx s' M') :
    ES K Ex Xa (tFor wi g tb) s M Nx Rt Bk Ct := fun σ H D rep kn kr kb kt =>
  h σ H _ rep fun xs M1 H1 J st rm it ⟨I, i0, hs, hd⟩ => by
    have w : Walk J xs.length (fun H2 => ∃ M2, Step (ad M1) H1 (ad M2) H2 ∧ RM K M2 H2) (fun i H2 v H3 => ∀ M2 x, Step (ad M1) H1 (ad M2) H2 → RM K M2 H2 → xs[i]? = some x → Same H2 H3 ∧ Rv K (ad M2) H3 x v) :=
      ⟨fun i H2 hi ⟨M2, s2, r2⟩ => (it M2 H2 s2 r2).1 i hi, fun H2 ⟨M2, s2, r2⟩ => (it M2 H2 s2 r2).2.1, fun i H2 v H3 hi _ y M2 x s2 r2 hx => (it M2 H2 s2 r2).2.2 i x v H3 hx y⟩
    refine for_it w (fun i σ' H' => ∃ s' M', Step (ad M1) H1 (ad M') H' ∧ Rep K Ex Xa s' M' σ' H' ∧ I i s' M') ⟨s, M1, Step.refl _ _, rep.step st rm, i0⟩ (fun i σ' H' _ ⟨s', M', s1, r1, _⟩ => ⟨M', s1, r1.rm⟩) ?_ ?_
    · rintro i v σ2 H2 H3 hi ⟨s2, M2, st2, rep2, inv⟩ y
      obtain ⟨sm, rv⟩ := y M2 _ st2 rep2.rm (List.getElem?_eq_getElem hi)
      have st3 : Step (ad M2) H2 (ad M2) H3 := Step.same sm
      have rep3 := rep2.step st3 (rep2.rm.same sm)
      refine hs i _ s2 M2 (List.getElem?_eq_getElem hi) inv v σ2 H3 _ rv rep3 fun s4 σ4 rep4 hb => ?_
      have st23 := st2.trans st3
      refine hb σ4 H3 _ rep4 (fun s5 M5 σ5 H5 st5 rep5 q => ⟨s5, M5, st23.trans st5, rep5, q⟩) (kr.step (st.trans st23)) (fun s5 M5 σ5 H5 st5 rep5 q => kn s5 M5 σ5 H5 ((st.trans st23).trans st5) rep5 q) (fun s5 M5 σ5 H5 st5 rep5 q => ⟨s5, M5, st23.trans st5, rep5, q⟩)
    · rintro σ2 H2 ⟨s2, M2, st2, rep2, inv⟩
      exact kn s2 M2 σ2 H2 (st.trans st2) rep2 (hd s2 M2 inv)
theorem s_while {tb : TS} (I : Nat → Sv → AM → Prop) (h0 : ∃ m, I m s M) (hs : ∀ m s' M', I m s' M' → ET K Ex Xa c s' M' fun z M2 => if z = true then ES K Ex Xa tb s' M2 (fun s2 M3 => ∃ m', m' < m ∧ I m' s2 M3) Rt Nx (fun s2 M3 => ∃ m', m' < m ∧ I m' s2 M3) else Nx s' M2) :
    ES K Ex Xa (tWhile c tb) s M Nx Rt Bk Ct := fun σ H D rep kn kr kb kt => by
  obtain ⟨m0, i0⟩ := h0
  refine ⟨fun m σ' H' => ∃ s' M', Step (ad M) H (ad M') H' ∧ Rep K Ex Xa s' M' σ' H' ∧ I m s' M', ⟨m0, s, M, Step.refl _ _, rep, i0⟩, ?_⟩
  rintro m σ' H' ⟨s', M', st, rep', inv⟩
  refine hs m s' M' inv σ' H' _ rep' fun z M2 H2 st2 rm2 q => ?_
  have st12 := st.trans st2
  cases z with
  | false => exact if_f rfl (kn s' M2 σ' H2 st12 (rep'.step st2 rm2) q)
  | true =>
    refine if_t rfl ⟨fun σ3 H3 => ∃ m', m' < m ∧ ∃ s3 M3, Step (ad M) H (ad M3) H3 ∧ Rep K Ex Xa s3 M3 σ3 H3 ∧ I m' s3 M3, fun σ3 H3 ⟨m', l, x⟩ => ⟨m', l, x⟩, ?_⟩
    refine (show ES K Ex Xa tb s' M2 _ _ _ _ from q) σ' H2 _ (rep'.step st2 rm2) (fun s5 M5 σ5 H5 st5 rep5 ⟨m', l, q⟩ => ⟨m', l, s5, M5, st12.trans st5, rep5, q⟩) (kr.step st12) (fun s5 M5 σ5 H5 st5 rep5 q => kn s5 M5 σ5 H5 (st12.trans st5) rep5 q) (fun s5 M5 σ5 H5 st5 rep5 ⟨m', l, q⟩ => ⟨m', l, s5, M5, st12.trans st5, rep5, q⟩)
theorem Rep.wipe (rep : Rep K Ex Xa s M σ H) : ∀ ws : List Nat, Rep K Ex Xa (wipeA s ws) M (wipe σ ws) H
  | [] => rep
  | w :: ws => ⟨paired_set (x := none) (y := none) trivial w (Rep.wipe rep ws).vs, rep.rm, rep.ex⟩
theorem e_lcC {wi : TI} {tt : TT} (h : EI K Ex Xa wi s M fun xs M1 => xs.length ≤ sizeLine ∧ ∃ I : Nat → List A → AM → Prop, I 0 [] M1 ∧
      (∀ i x acc M' D, xs[i]? = some x → I i acc M' → EGc K Ex Xa g ws x (wipeA s ws) ((D, .lst acc) :: M') fun s2 => ET K Ex Xa tt s2 ((D, .lst acc) :: M') fun z M2 =>
        if z = true then EE K Ex Xa te s2 M2 fun y M3 => ∃ M4, M3 = (D, .lst acc) :: M4 ∧ I (i + 1) (acc ++ [y]) M4 else ∃ M4, M2 = (D, .lst acc) :: M4 ∧ I (i + 1) acc M4) ∧
      ∀ acc M' D, I xs.length acc M' → Q (.loc D) ((D, .lst acc) :: M')) : EE K Ex Xa (tLc wi g tt te ws) s M Q := fun σ H Qc rep k =>
  h σ H _ rep fun xs M1 H1 J st rm it ⟨hl, I, i0, hs, hd⟩ => by
    intro D hD
    have w : Walk J xs.length (fun H2 => ∃ M2, Step (ad M1) H1 (ad M2) H2 ∧ RM K M2 H2) (fun i H2 v H3 => ∀ M2 x, Step (ad M1) H1 (ad M2) H2 → RM K M2 H2 → xs[i]? = some x → Same H2 H3 ∧ Rv K (ad M2) H3 x v) :=
      ⟨fun i H2 hi ⟨M2, s2, r2⟩ => (it M2 H2 s2 r2).1 i hi, fun H2 ⟨M2, s2, r2⟩ => (it M2 H2 s2 r2).2.1, fun i H2 v H3 hi _ y M2 x s2 r2 hx => (it M2 H2 s2 r2).2.2 i x v H3 hx y⟩
    refine lc_it w (fun i H' => ∃ acc M', acc.length ≤ i ∧ Step (ad M1) H1 (D :: ad M') H' ∧ RM K ((D, .lst acc) :: M') H' ∧ I i acc M') ⟨[], M1, Nat.le_refl _, Step.alloc hD, rm.new hD ⟨[], upd_same, .nil⟩, i0⟩ (fun i H' _ ⟨acc, M', _, s1, r1, _⟩ => ⟨(D, .lst acc) :: M', s1, r1⟩) ?_ ?_
    · rintro i v H2 H3 hi ⟨acc, M2, la, st2, rm2, inv⟩ y
      obtain ⟨sm, rv⟩ := y ((D, .lst acc) :: M2) _ st2 rm2 (List.getElem?_eq_getElem hi)
      have st3 : Step (D :: ad M2) H2 (D :: ad M2) H3 := Step.same sm
      have rm3 := rm2.same sm
      have st13 := st2.trans st3
      have rep3 : Rep K Ex Xa s ((D, .lst acc) :: M2) σ H3 := rep.step (st.trans st13) rm3
      refine hs i _ acc M2 D (List.getElem?_eq_getElem hi) inv v _ H3 _ rv (rep3.wipe ws) fun s4 σ4 e4 rep4 ht => ⟨e4.trans (wipe_wipe ws), ?_⟩
      refine ht σ4 H3 _ rep4 fun z M5 H5 st5 rm5 q => ?_
      cases z with
      | false =>
        obtain ⟨M6, e6, q6⟩ := (show ∃ M4, M5 = (D, .lst acc) :: M4 ∧ I (i + 1) acc M4 from q)
        subst e6
        exact if_f rfl ⟨acc, M6, by omega, st13.trans st5, rm5, q6⟩
      | true =>
        refine if_t rfl ?_
        refine (show EE K Ex Xa te s4 M5 _ from q) σ4 H5 _ (rep4.step st5 rm5) fun yA yv M6 H6 st6 rm6 ry ⟨M7, e7, q7⟩ => ?_
        subst e7
        obtain ⟨vs, hv, rl⟩ := rm6.cell _ (List.Mem.head _)
        have hm : D ∈ ad ((D, AO.lst acc) :: M7) := .head _
        have st7 : Step (ad ((D, AO.lst acc) :: M7)) H6 (ad ((D, AO.lst acc) :: M7)) (upd H6 D (.lst (vs ++ [yv]))) := Step.write hm
        refine ⟨vs, hv, by rw [← rl.len]; omega, acc ++ [yA], M7, by rw [List.length_append]; simp; omega, ((st13.trans st5).trans st6).trans st7, rm6.put (o' := .lst (acc ++ [yA])) .here ⟨_, upd_same, (rl.step st7).app (.cons (ry.step st7) .nil)⟩, q7⟩
    · rintro H2 ⟨acc, M2, la, st2, rm2, inv⟩
      exact k _ _ ((D, .lst acc) :: M2) H2 (st.trans st2) rm2 (.loc D) (hd acc M2 D inv)
theorem e_lc {wi : TI} {tt : TT} (h : EI K Ex Xa wi s M fun xs M1 => xs.length ≤ sizeLine ∧ ∃ I : Nat → List A → AM → Prop, I 0 [] M1 ∧
      (∀ i x acc M' D, xs[i]? = some x → I i acc M' → EGc K Ex Xa g ws x (wipeA s ws) ((D, .lst acc) :: M') fun s2 => ET K Ex Xa tt s2 ((D, .lst acc) :: M') fun z M2 =>
        if z = true then EE K Ex Xa te s2 M2 fun y M3 => ∃ M4, M3 = (D, .lst acc) :: M4 ∧ I (i + 1) (acc ++ [y]) M4 else ∃ M4, M2 = (D, .lst acc) :: M4 ∧ I (i + 1) acc M4) ∧
      ∀ acc M', I xs.length acc M' → Q (.lst acc) M') : EE K Ex Xa (tLc wi g tt te ws) s M Q :=
  e_freeze (e_lcC fun σ H Rc rep k => h σ H Rc rep fun xs M1 H1 J st rm it ⟨hl, I, i0, hs, hd⟩ => k xs M1 H1 J st rm it ⟨hl, I, i0, hs, fun acc M' D inv => ⟨D, acc, M', rfl, .here, hd acc M' inv⟩⟩)
/-- a comprehension that only reads -/
theorem e_map {wi : TI} (f : A → A) (h : EI K Ex Xa wi s M fun xs M1 => xs.length ≤ sizeLine ∧ (∀ x, x ∈ xs → ∀ M', Sub M1 M' → EGc K Ex Xa g ws x (wipeA s ws) M' fun s2 => EE K Ex Xa te s2 M' fun y M3 => M3 = M' ∧ y = f x) ∧ Q (.lst (xs.map f)) M1) : EE K Ex Xa (tLc wi g tYes te ws) s M Q :=
  e_lc fun σ H Rc rep k => h σ H Rc rep fun xs M1 H1 J st rm it ⟨hl, hs, q⟩ => k xs M1 H1 J st rm it ⟨hl, fun i acc M' => acc = (xs.take i).map f ∧ M' = M1, ⟨rfl, rfl⟩, fun i x acc M' D hx ⟨e1, e2⟩ => by
      subst e1 e2
      intro v σ H Qc rv rep k
      refine hs x (List.mem_of_getElem? hx) _ (fun _ _ h => .there h) v σ H Qc rv rep fun s' σ' e rep' he => k s' σ' e rep' (t_yes (if_t rfl (he.mono ?_)))
      rintro a M3 ⟨rfl, rfl⟩
      exact ⟨_, rfl, by rw [List.take_add_one, hx, List.map_append]; rfl, rfl⟩, fun acc M' ⟨e1, e2⟩ => by
      subst e1 e2
      rw [List.take_of_length_le (Nat.le_refl _)]; exact q⟩
theorem e_filter {wi : TI} {tt : TT} (pr : A → Bool) (f : A → A) (h : EI K Ex Xa wi s M fun xs M1 => xs.length ≤ sizeLine ∧ (∀ x, x ∈ xs → ∀ M', Sub M1 M' → EGc K Ex Xa g ws x (wipeA s ws) M' fun s2 => ET K Ex Xa tt s2 M' fun z M2 => M2 = M' ∧ z = pr x ∧ (pr x = true → EE K Ex Xa te s2 M' fun y M3 => M3 = M' ∧ y = f x)) ∧ Q (.lst ((xs.filter pr).map f)) M1) : EE K Ex Xa (tLc wi g tt te ws) s M Q :=
  e_lc fun σ H Rc rep k => h σ H Rc rep fun xs M1 H1 J st rm it ⟨hl, hs, q⟩ => k xs M1 H1 J st rm it ⟨hl, fun i acc M' => acc = ((xs.take i).filter pr).map f ∧ M' = M1, ⟨rfl, rfl⟩, fun i x acc M' D hx ⟨e1, e2⟩ => by
      subst e1 e2
      intro v σ H Qc rv rep k
      refine hs x (List.mem_of_getElem? hx) _ (fun _ _ h => .there h) v σ H Qc rv rep fun s' σ' e rep' he => k s' σ' e rep' fun σ2 H2 Qt rep2 kt => he σ2 H2 Qt rep2 fun z M2 H3 st3 rm3 ⟨e1, e2, hz⟩ => kt z M2 H3 st3 rm3 ?_
      subst e1 e2
      have et : (xs.take (i + 1)).filter pr = (xs.take i).filter pr ++ [x].filter pr := by rw [List.take_add_one, hx, List.filter_append]; rfl
      refine if_b (fun hp => (hz hp).mono ?_) (fun hp => ⟨_, rfl, ?_, rfl⟩)
      · rintro a M3 ⟨rfl, rfl⟩
        refine ⟨_, rfl, ?_, rfl⟩
        rw [et, List.map_append]
        simp [hp]
      · rw [et, List.map_append]
        simp [hp], fun acc M' ⟨e1, e2⟩ => by
      subst e1 e2
      rw [List.take_of_length_le (Nat.le_refl _)]; exact q⟩
/-- .. over a list of things of a kind -/
theorem e_mapF {wi : TI} {α : Type} (f : α → A) (h : EI K Ex Xa wi s M fun xs M1 => ∃ (e : α → A) (l : List α), xs = l.map e ∧ l.length ≤ sizeLine ∧ (∀ x, x ∈ l → ∀ M', Sub M1 M' → EGc K Ex Xa g ws (e x) (wipeA s ws) M' fun s2 => EE K Ex Xa te s2 M' fun y M3 => M3 = M' ∧ y = f x) ∧ Q (.lst (l.map f)) M1) : EE K Ex Xa (tLc wi g tYes te ws) s M Q :=
  e_lc fun σ H Rc rep k => h σ H Rc rep fun xs M1 H1 J st rm it ⟨e, l, ex, hl, hs, q⟩ => k xs M1 H1 J st rm it ⟨by rw [ex, List.length_map]; exact hl, fun i acc M' => acc = (l.take i).map f ∧ M' = M1, ⟨rfl, rfl⟩, fun i x acc M' D hx ⟨e1, e2⟩ => by
      subst e1 e2 ex
      rw [List.getElem?_map] at hx
      cases hx2 : l[i]? with
      | none => rw [hx2] at hx; cases hx
      | some y =>
        rw [hx2] at hx
        cases hx
        intro v σ H Qc rv rep k
        refine hs y (List.mem_of_getElem? hx2) _ (fun _ _ h => .there h) v σ H Qc rv rep fun s' σ' e rep' he => k s' σ' e rep' (t_yes (if_t rfl (he.mono ?_)))
        rintro a M3 ⟨rfl, rfl⟩
        exact ⟨_, rfl, by rw [List.take_add_one, hx2, List.map_append]; rfl, rfl⟩, fun acc M' ⟨e1, e2⟩ => by
      subst e1 e2 ex
      rw [List.length_map, List.take_of_length_le (Nat.le_refl _)]; exact q⟩
theorem e_filterF {wi : TI} {tt : TT} {α : Type} (pr : α → Bool) (f : α → A) (h : EI K Ex Xa wi s M fun xs M1 => ∃ (e : α → A) (l : List α), xs = l.map e ∧ l.length ≤ sizeLine ∧ (∀ x, x ∈ l → ∀ M', Sub M1 M' → EGc K Ex Xa g ws (e x) (wipeA s ws) M' fun s2 => ET K Ex Xa tt s2 M' fun z M2 => M2 = M' ∧ z = pr x ∧ (pr x = true → EE K Ex Xa te s2 M' fun y M3 => M3 = M' ∧ y = f x)) ∧ Q (.lst ((l.filter pr).map f)) M1) : EE K Ex Xa (tLc wi g tt te ws) s M Q :=
  e_lc fun σ H Rc rep k => h σ H Rc rep fun xs M1 H1 J st rm it ⟨e, l, ex, hl, hs, q⟩ => k xs M1 H1 J st rm it ⟨by rw [ex, List.length_map]; exact hl, fun i acc M' => acc = ((l.take i).filter pr).map f ∧ M' = M1, ⟨rfl, rfl⟩, fun i x acc M' D hx ⟨e1, e2⟩ => by
      subst e1 e2 ex
      rw [List.getElem?_map] at hx
      cases hx2 : l[i]? with
      | none => rw [hx2] at hx; cases hx
      | some y =>
        rw [hx2] at hx
        cases hx
        intro v σ H Qc rv rep k
        refine hs y (List.mem_of_getElem? hx2) _ (fun _ _ h => .there h) v σ H Qc rv rep fun s' σ' e rep' he => k s' σ' e rep' fun σ2 H2 Qt rep2 kt => he σ2 H2 Qt rep2 fun z M2 H3 st3 rm3 ⟨e1, e2, hz⟩ => kt z M2 H3 st3 rm3 ?_
        subst e1 e2
        have et : (l.take (i + 1)).filter pr = (l.take i).filter pr ++ [y].filter pr := by rw [List.take_add_one, hx2, List.filter_append]; rfl
        refine if_b (fun hp => (hz hp).mono ?_) (fun hp => ⟨_, rfl, ?_, rfl⟩)
        · rintro a M3 ⟨rfl, rfl⟩
          refine ⟨_, rfl, ?_, rfl⟩
          rw [et, List.map_append]
          simp [hp]
        · rw [et, List.map_append]
          simp [hp], fun acc M' ⟨e1, e2⟩ => by
      subst e1 e2 ex
      rw [List.length_map, List.take_of_length_le (Nat.le_refl _)]; exact q⟩
theorem e_filterC {wi : TI} {tt : TT} {α : Type} (pr : α → Bool) (f : α → A) (h : EI K Ex Xa wi s M fun xs M1 => ∃ (e : α → A) (l : List α), xs = l.map e ∧ l.length ≤ sizeLine ∧ (∀ x, x ∈ l → ∀ M', Sub M1 M' → EGc K Ex Xa g ws (e x) (wipeA s ws) M' fun s2 => ET K Ex Xa tt s2 M' fun z M2 => M2 = M' ∧ z = pr x ∧ (pr x = true → EE K Ex Xa te s2 M' fun y M3 => M3 = M' ∧ y = f x)) ∧ ∀ D, Q (.loc D) ((D, .lst ((l.filter pr).map f)) :: M1)) : EE K Ex Xa (tLc wi g tt te ws) s M Q :=
  e_lcC fun σ H Rc rep k => h σ H Rc rep fun xs M1 H1 J st rm it ⟨e, l, ex, hl, hs, q⟩ => k xs M1 H1 J st rm it ⟨by rw [ex, List.length_map]; exact hl, fun i acc M' => acc = ((l.take i).filter pr).map f ∧ M' = M1, ⟨rfl, rfl⟩, fun i x acc M' D hx ⟨e1, e2⟩ => by
      subst e1 e2 ex
      rw [List.getElem?_map] at hx
      cases hx2 : l[i]? with
      | none => rw [hx2] at hx; cases hx
      | some y =>
        rw [hx2] at hx
        cases hx
        intro v σ H Qc rv rep k
        refine hs y (List.mem_of_getElem? hx2) _ (fun _ _ h => .there h) v σ H Qc rv rep fun s' σ' e rep' he => k s' σ' e rep' fun σ2 H2 Qt rep2 kt => he σ2 H2 Qt rep2 fun z M2 H3 st3 rm3 ⟨e1, e2, hz⟩ => kt z M2 H3 st3 rm3 ?_
        subst e1 e2
        have et : (l.take (i + 1)).filter pr = (l.take i).filter pr ++ [y].filter pr := by rw [List.take_add_one, hx2, List.filter_append]; rfl
        refine if_b (fun hp => (hz hp).mono ?_) (fun hp => ⟨_, rfl, ?_, rfl⟩)
        · rintro a M3 ⟨rfl, rfl⟩
          refine ⟨_, rfl, ?_, rfl⟩
          rw [et, List.map_append]
          simp [hp]
        · rw [et, List.map_append]
          simp [hp], fun acc M' D ⟨e1, e2⟩ => by
      subst e1 e2 ex
      rw [List.length_map, List.take_of_length_le (Nat.le_refl _)]; exact q D⟩
theorem e_mapC {wi : TI} {α : Type} (f : α → A) (h : EI K Ex Xa wi s M fun xs M1 => ∃ (e : α → A) (l : List α), xs = l.map e ∧ l.length ≤ sizeLine ∧ (∀ x, x ∈ l → ∀ M', Sub M1 M' → EGc K Ex Xa g ws (e x) (wipeA s ws) M' fun s2 => EE K Ex Xa te s2 M' fun y M3 => M3 = M' ∧ y = f x) ∧ ∀ D, Q (.loc D) ((D, .lst (l.map f)) :: M1)) : EE K Ex Xa (tLc wi g tYes te ws) s M Q :=
  e_lcC fun σ H Rc rep k => h σ H Rc rep fun xs M1 H1 J st rm it ⟨e, l, ex, hl, hs, q⟩ => k xs M1 H1 J st rm it ⟨by rw [ex, List.length_map]; exact hl, fun i acc M' => acc = (l.take i).map f ∧ M' = M1, ⟨rfl, rfl⟩, fun i x acc M' D hx ⟨e1, e2⟩ => by
      subst e1 e2 ex
      rw [List.getElem?_map] at hx
      cases hx2 : l[i]? with
      | none => rw [hx2] at hx; cases hx
      | some y =>
        rw [hx2] at hx
        cases hx
        intro v σ H Qc rv rep k
        refine hs y (List.mem_of_getElem? hx2) _ (fun _ _ h => .there h) v σ H Qc rv rep fun s' σ' e rep' he => k s' σ' e rep' (t_yes (if_t rfl (he.mono ?_)))
        rintro a M3 ⟨rfl, rfl⟩
        exact ⟨_, rfl, by rw [List.take_add_one, hx2, List.map_append]; rfl, rfl⟩, fun acc M' D ⟨e1, e2⟩ => by
      subst e1 e2 ex
      rw [List.length_map, List.take_of_length_le (Nat.le_refl _)]; exact q D⟩
/-! ### defs -/
end
/-- what a def leaves: its own things are let go, or stay as they are -/
inductive Down : A → AM → A → AM → Prop
  | refl {a : A} {M : AM} : Down a M a M
  | drop {a a' : A} {p : Addr} {o : AO} {M M' : AM} : Down a M a' M' → Down a ((p, o) :: M) a' M'
  | frz {a' : A} {p : Addr} {xs : List A} {M M' : AM} : Down (.lst xs) M a' M' → Down (.loc p) ((p, .lst xs) :: M) a' M'
theorem Down.ok {K : PySem.W.Frag} {a a' : A} {M M' : AM} {H : Hp} {v : V} (d : Down a M a' M') (rm : RM K M H) (rv : Rv K (ad M) H a v) : RM K M' H ∧ Rv K (ad M') H a' v ∧ Step (ad M) H (ad M') H := by
  induction d with
  | refl => exact ⟨rm, rv, Step.refl _ _⟩
  | @drop a a' p o M M' d ih =>
    have hr : Rm ((p, o) :: M) p o M := Rm.here
    obtain ⟨h1, h2, h3⟩ := ih (rm.rm hr) (rv.step (Step.rm hr))
    exact ⟨h1, h2, (Step.rm hr).trans h3⟩
  | @frz a' p xs M M' d ih =>
    have hr : Rm ((p, .lst xs) :: M) p (.lst xs) M := Rm.here
    have e := rv.ref
    subst e
    obtain ⟨h1, h2, h3⟩ := ih (rm.rm hr) (Rv.freeze rm hr)
    exact ⟨h1, h2, (Step.rm hr).trans h3⟩
def Dn (Q : QA) : QA := fun a M => ∃ a' M', Down a M a' M' ∧ Q a' M'
theorem dn0 {Q : QA} {a : A} {M : AM} (q : Q a M) : Dn Q a M := ⟨_, _, .refl, q⟩
theorem dnD {Q : QA} {a : A} {M : AM} {p : Addr} {o : AO} (q : Dn Q a M) : Dn Q a ((p, o) :: M) := by
  obtain ⟨a', M', d, q⟩ := q
  exact ⟨a', M', .drop d, q⟩
theorem dnF {Q : QA} {xs : List A} {M : AM} {p : Addr} (q : Dn Q (.lst xs) M) : Dn Q (.loc p) ((p, .lst xs) :: M) := by
  obtain ⟨a', M', d, q⟩ := q
  exact ⟨a', M', .frz d, q⟩
theorem Kc.dn {K : PySem.W.Frag} {M : AM} {H : Hp} {Q : QA} {Qc : VK} (k : Kc K M H Q Qc) : Kc K M H (Dn Q) Qc := fun a v M' H' st rm rv ⟨a', M2, d, q⟩ => by
  obtain ⟨h1, h2, h3⟩ := d.ok rm rv
  exact k a' v M2 H' (st.trans h3) h1 h2 q
abbrev ASp := List A → AM → QA → Prop
abbrev ASpX := List A → AM → QA → XA → Prop
def cs (K : PySem.W.Frag) (f : ASp) : Sp := fun vs H Q _ => ∃ as M Qa, RvL K (ad M) H as vs ∧ RM K M H ∧ f as M Qa ∧ Kc K M H Qa Q
def csX (K : PySem.W.Frag) (f : ASpX) : Sp := fun vs H Q Ex => ∃ as M Qa Xa, RvL K (ad M) H as vs ∧ RM K M H ∧ f as M Qa Xa ∧ Kc K M H Qa Q ∧ KcE K Ex Xa M H
def startA (N : List Str) (as : List A) : Sv := as.map some ++ List.replicate (N.length - as.length) none
section
variable {K : PySem.W.Frag} {Ex Ex' : XK} {Xa : XA} {s s' : Sv} {M M' M1 : AM} {H H' : Hp} {Q Q' : QA} {f : ASp} {fx : ASpX} {tr : TA} {t : TS} {Nx : Sv → AM → Prop} {Rt : QA} {Bk Ct : Sv → AM → Prop} {vs : List V} {Qc : VK} {N : List Str} {te : TE}
theorem e_call (h : EA K Ex Xa tr s M fun as M1 => f as M1 Q) : EE K Ex Xa (tCall (cs K f) [] Ex' tr) s M Q := fun σ H Qc rep k => w_call (h σ H _ rep fun as vs M1 H1 st rm rv q => ⟨as, M1, Q, rv, rm, q, k.step st⟩)
theorem e_callX {Ex : XK} (h : EA K Ex Xa tr s M fun as M1 => fx as M1 Q Xa) : EE K Ex Xa (tCallS (csX K fx) (L2.WE (fun cls d _ H => Ex cls d H)) tr) s M Q := fun σ H Qc rep k =>
  h σ H _ rep fun as vs M1 H1 st rm rv q => ⟨as, M1, Q, Xa, rv, rm, q, k.step st, fun C M2 H2 s2 r2 q2 => rep.ex C M2 H2 (st.trans s2) r2 q2⟩
theorem e_callN (h : EA K Ex Xa tr s M fun as M1 => fx as M1 Q fun _ _ => False) : EE K Ex Xa (tCallS (csX K fx) (L2.WE (fun _ _ _ _ => False)) tr) s M Q := fun σ H Qc rep k =>
  h σ H _ rep fun as vs M1 H1 st rm rv q => ⟨as, M1, Q, fun _ _ => False, rv, rm, q, k.step st, fun C M2 H2 s2 r2 q2 => q2⟩
theorem s_raise {C : Addr} (h : Xa C M) : ES K Ex Xa (Go.tRaise Ex C) s M Nx Rt Bk Ct := fun σ H D rep kn kr kb kt => rep.ex C M H (Step.refl _ _) rep.rm h
theorem start_rep {as : List A} (hN : N.length = N.length) (r : RvL K (ad M) H as vs) (rm : RM K M H) (ex : KcE K Ex Xa M H) : Rep K Ex Xa (startA N as) M (L2.start N vs) H := by
  refine ⟨?_, rm, ex⟩
  unfold startA L2.start
  rw [r.len]
  have key : ∀ {as : List A} {vs : List V} {l1 : Sv} {l2 : L2.St}, RvL K (ad M) H as vs → Paired (RvO K (ad M) H) l1 l2 → Paired (RvO K (ad M) H) (as.map some ++ l1) (vs.map some ++ l2) := by
    intro as
    induction as with
    | nil => intro vs l1 l2 r h; cases r; exact h
    | cons a as ih => intro vs l1 l2 r h; cases r with | cons x t => exact .cons x (ih t h)
  refine key r ?_
  generalize N.length - vs.length = n
  induction n with
  | zero => exact .nil
  | succ n ih => exact .cons trivial ih
theorem fn_of {E : XK} (h : cs K f vs H Qc E) (hb : ∀ as M Qa, f as M Qa → ES K (fun _ _ _ => False) (fun _ _ => False) t (startA N as) M (fun _ M' => Dn Qa .non M') (Dn Qa) (fun _ _ => False) (fun _ _ => False)) : t { nx := fun _ H' => Qc .non H', rt := Qc } (L2.start N vs) H := by
  obtain ⟨as, M, Qa, rv, rm, q, k⟩ := h
  exact hb as M Qa q _ H _ (start_rep rfl rv rm (fun _ _ _ _ _ z => z)) (fun s' M' σ' H' st rep q => k.dn .non .non M' H' st rep.rm .non q) k.dn (fun _ _ _ _ _ _ z => z.elim) (fun _ _ _ _ _ _ z => z.elim)
theorem fn_ofX {E : XK} {t : TS} (h : csX K fx vs H Qc E) (hb : ∀ as M Qa Xa, fx as M Qa Xa → ES K E Xa t (startA N as) M (fun _ M' => Dn Qa .non M') (Dn Qa) (fun _ _ => False) (fun _ _ => False)) : t { nx := fun _ H' => Qc .non H', rt := Qc } (L2.start N vs) H := by
  obtain ⟨as, M, Qa, Xa, rv, rm, q, k, kx⟩ := h
  exact hb as M Qa Xa q _ H _ (start_rep rfl rv rm kx) (fun s' M' σ' H' st rep q => k.dn .non .non M' H' st rep.rm .non q) k.dn (fun _ _ _ _ _ _ z => z.elim) (fun _ _ _ _ _ _ z => z.elim)
theorem fn_len {E : XK} {n : Nat} (hf : ∀ as M Q, f as M Q → as.length = n) (h : cs K f vs H Qc E) : vs.length = n := by
  obtain ⟨as, M, Qa, rv, rm, q, k⟩ := h
  rw [← rv.len]; exact hf as M Qa q
theorem fn_lenX {E : XK} {n : Nat} (hf : ∀ as M Q X, fx as M Q X → as.length = n) (h : csX K fx vs H Qc E) : vs.length = n := by
  obtain ⟨as, M, Qa, Xa, rv, rm, q, k⟩ := h
  rw [← rv.len]; exact hf as M Qa Xa q
end
end Ab

set_option Elab.async false
set_option linter.all false
set_option maxRecDepth 100000
set_option maxHeartbeats 4000000
namespace Go
open PySem PySem.Spec PyProof.Rows L2
/-! ### min(xs), xs a list of alike things -/
theorem un65m {A : Around} {k : Nat} (hr : Room k A) : A.units + 65 < cLine := by
  have := hr.un
  omega
theorem minD_mem (x : PyData) (ds : List PyData) : PySem.W.minD x ds ∈ x :: ds := by
  unfold PySem.W.minD
  induction ds generalizing x with
  | nil => exact .head _
  | cons y ds ih =>
    rw [List.foldl_cons]
    rcases List.mem_cons.mp (ih (if PySem.W.dataLt y x then y else x)) with h | h
    · rw [h]
      split
      · exact .tail _ (.head _)
      · exact .head _
    · exact .tail _ (.tail _ h)
section
variable {X : Cx}
def rMinD (K : PySem.W.Frag) : List V → Hp → VK → Prop := fun vs H Q => ∃ (a : Addr) (xs : List V) (x : PyData) (ds : List PyData), vs = [.ref a] ∧ SqL K H a xs ∧ DpAll K H xs (x :: ds) ∧ PySem.W.AlikeAll (x :: ds) ∧ PyData.depthAll (x :: ds) ≤ 60 ∧
  ∀ (i : Nat) (v : V), xs[i]? = some v → (x :: ds)[i]? = some (PySem.W.minD x ds) → Q v H
theorem cr_minD (hc : X.calm = true) (hu : X.A.units + 65 < cLine) : CallR X (.builtin "min") (rMinD X.K) := by
  intro pins s σ H vs us Q I r h
  obtain ⟨a, xs, x, ds, rfl, hs, hd, al, dp, q⟩ := h
  obtain ⟨its, rv, hl, _⟩ := I.list hs
  rw [Vals.ref1 r]
  obtain ⟨as, ra⟩ := Dp.readsAll I _ _ _ hd rv
  have lens := rv.length
  refine PySem.W.min_list_data (I.ok.hd hc) hl.isList (by simpa using ra) al (by omega) fun i v h' tk bs hv hr hk => ?_
  have hv : its[i]? = some v := by simpa using hv
  have li : i < xs.length := by rw [lens]; exact (List.getElem?_eq_some_iff.mp hv).1
  have hx : xs[i]? = some xs[i] := List.getElem?_eq_getElem li
  obtain ⟨u, hu2, ru⟩ := rv.get hx
  rw [hv] at hu2
  cases hu2
  obtain ⟨cs, r1, l1, m1, _⟩ := PySem.W.readsAll_atA (vs := its.toArray) (xs := x :: ds) (by simpa using ra) i v (by simpa using hv)
  have e := PySem.W.alike_unique _ _ _ _ _ (al.1 _ m1 _ (minD_mem x ds)) (PySem.W.reads_keeps hk r1) hr
  refine ⟨xs[i], H, I.kept hk, ru, q i _ hx ?_⟩
  rw [← e, List.getD_eq_getElem?_getD, List.getElem?_eq_getElem l1]; rfl
end
end Go

set_option Elab.async false
set_option linter.all false
set_option maxRecDepth 100000
set_option maxHeartbeats 4000000
namespace Ab
open PySem PySem.Spec PyProof.Rows L2 Go
theorem Ctx.lk {M : AM} {p : Addr} {o : AO} {C : AO → AM} (h : Ctx M p o C) : Lk M p o := by
  induction h with
  | here => exact .here
  | there _ ih => exact .there ih
/-- what can be read as a list -/
inductive LsA (M : AM) : A → List A → Prop
  | lst {xs : List A} : LsA M (.lst xs) xs
  | loc {p : Addr} {xs : List A} (h : Lk M p (.lst xs)) : LsA M (.loc p) xs
  | scr {ns : List Int} : LsA M (.scr ns) (ns.map A.int)
/-- .. and be put together -/
inductive LpA (M : AM) : A → List A → Prop
  | lst {xs : List A} : LpA M (.lst xs) xs
  | loc {p : Addr} {xs : List A} (h : Lk M p (.lst xs)) : LpA M (.loc p) xs
section
variable {K : PySem.W.Frag} {Ex : XK} {Xa : XA} {s : Sv} {M M' : AM} {H : Hp} {Q : QA} {a b : A} {v : V} {xs ys : List A} {te to : TE} {tr : TA} {p : Addr}
theorem LsA.of (h : LsA M a xs) (rv : Rv K (ad M) H a v) (rm : RM K M H) : ∃ p vs, v = .ref p ∧ SqL K H p vs ∧ RvL K (ad M) H xs vs := by
  cases h with
  | lst =>
    cases rv with
    | lst f r => exact ⟨_, _, rfl, f.sq, r⟩
  | loc h =>
    cases rv
    obtain ⟨vs, hv, r⟩ := rm.cell _ h.mem
    exact ⟨_, vs, rfl, sqL hv, r⟩
  | scr =>
    cases rv with
    | scr f => exact ⟨_, _, rfl, f.sq, RvL.of_ints _⟩
theorem LpA.of (h : LpA M a xs) (rv : Rv K (ad M) H a v) (rm : RM K M H) : ∃ p vs, v = .ref p ∧ H p = some (.lst vs) ∧ RvL K (ad M) H xs vs := by
  cases h with
  | lst =>
    cases rv with
    | lst f r => exact ⟨_, _, rfl, f.2, r⟩
  | loc h =>
    cases rv
    obtain ⟨vs, hv, r⟩ := rm.cell _ h.mem
    exact ⟨_, vs, rfl, hv, r⟩
/-! ### numbers -/
theorem o_add {i j : Int} (q : Q (.int (i + j)) M) : O2 K rAddI (.int i) (.int j) M Q := fun x y H Qc rx ry rm k => by
  cases rx; cases ry; exact w_I0 (k.go rm (.int _) q)
theorem o_subI {i j : Int} (q : Q (.int (i - j)) M) : O2 K rSubI (.int i) (.int j) M Q := fun x y H Qc rx ry rm k => by
  cases rx; cases ry; exact w_I0 (k.go rm (.int _) q)
theorem o_and {i j : Int} (q : Q (.int (Builtin.bitAnd i j)) M) : O2 K rAndI (.int i) (.int j) M Q := fun x y H Qc rx ry rm k => by
  cases rx; cases ry; exact w_I0 (k.go rm (.int _) q)
theorem o_lt {i j : Int} (q : Q (.bl (decide (i < j))) M) : O2 K rLtI (.int i) (.int j) M Q := fun x y H Qc rx ry rm k => by
  cases rx; cases ry; exact w_I0 (k.go rm (.bl _) q)
theorem o_le {i j : Int} (q : Q (.bl (decide (i ≤ j))) M) : O2 K rLeI (.int i) (.int j) M Q := fun x y H Qc rx ry rm k => by
  cases rx; cases ry; exact w_I0 (k.go rm (.bl _) q)
theorem o_gt {i j : Int} (q : Q (.bl (decide (j < i))) M) : O2 K rGtI (.int i) (.int j) M Q := fun x y H Qc rx ry rm k => by
  cases rx; cases ry; exact w_I0 (k.go rm (.bl _) q)
theorem o_ge {i j : Int} (q : Q (.bl (decide (j ≤ i))) M) : O2 K rGeI (.int i) (.int j) M Q := fun x y H Qc rx ry rm k => by
  cases rx; cases ry; exact w_I0 (k.go rm (.bl _) q)
theorem o_mul {i j : Int} (hc : CMul i j) (q : Q (.int (i * j)) M) : O2 K rMulI (.int i) (.int j) M Q := fun x y H Qc rx ry rm k => by
  cases rx; cases ry; exact w_mulI hc (k.go rm (.int _) q)
theorem o_mulX {i j : Int} (hc : CMulX i j) (q : Q (.int (i * j)) M) : O2 K rMulX (.int i) (.int j) M Q := fun x y H Qc rx ry rm k => by
  cases rx; cases ry; exact w_mulX hc (k.go rm (.int _) q)
theorem o_div {i j : Int} (hc : CDivW i j) (q : Q (.int (i / j)) M) : O2 K rDivI (.int i) (.int j) M Q := fun x y H Qc rx ry rm k => by
  cases rx; cases ry; exact w_divI hc (k.go rm (.int _) q)
theorem o_mod {i j : Int} (hc : 0 < j) (q : Q (.int (i % j)) M) : O2 K rModI (.int i) (.int j) M Q := fun x y H Qc rx ry rm k => by
  cases rx; cases ry; exact w_modI hc (k.go rm (.int _) q)
theorem o_pow {i j : Int} (hc : CPow i j) (q : Q (.int (i ^ j.toNat)) M) : O2 K rPowI (.int i) (.int j) M Q := fun x y H Qc rx ry rm k => by
  cases rx; cases ry; exact w_powI hc (k.go rm (.int _) q)
theorem o_shl {i j : Int} (hc : CShl i j) (q : Q (.int (i * 2 ^ j.toNat)) M) : O2 K rShlI (.int i) (.int j) M Q := fun x y H Qc rx ry rm k => by
  cases rx; cases ry; exact w_shlI hc (k.go rm (.int _) q)
theorem o_shr {i j : Int} (hc : 0 ≤ j) (q : Q (.int (i / 2 ^ j.toNat)) M) : O2 K rShrI (.int i) (.int j) M Q := fun x y H Qc rx ry rm k => by
  cases rx; cases ry; exact w_shrI hc (k.go rm (.int _) q)
theorem o_neg {i : Int} (q : Q (.int (-i)) M) : O1 K rNegI (.int i) M Q := fun x H Qc rx rm k => by
  cases rx; exact w_U (k.go rm (.int _) q)
/-! ### alike or not -/
theorem dec_str {x y : Str} : decide (V.str x = V.str y) = decide (x = y) := decide_eq_decide.mpr ⟨fun h => V.str.inj h, fun h => by rw [h]⟩
theorem dec_i {x y : Int} : decide (V.int x = V.int y) = decide (x = y) := decide_eq_decide.mpr ⟨fun h => V.int.inj h, fun h => by rw [h]⟩
theorem dec_b {x y : Bool} : decide (V.bl x = V.bl y) = decide (x = y) := decide_eq_decide.mpr ⟨fun h => V.bl.inj h, fun h => by rw [h]⟩
theorem o_eqI {i j : Int} (q : Q (.bl (decide (i = j))) M) : O2 K rEq (.int i) (.int j) M Q := fun x y H Qc rx ry rm k => by
  cases rx; cases ry; exact w_eq rfl (by rw [dec_i]; exact k.go rm (.bl _) q)
theorem o_neI {i j : Int} (q : Q (.bl (!decide (i = j))) M) : O2 K rNe (.int i) (.int j) M Q := fun x y H Qc rx ry rm k => by
  cases rx; cases ry; exact w_ne rfl (by rw [dec_i]; exact k.go rm (.bl _) q)
theorem o_eqS {i j : Str} (q : Q (.bl (decide (i = j))) M) : O2 K rEq (.str i) (.str j) M Q := fun x y H Qc rx ry rm k => by
  cases rx; cases ry; exact w_eq rfl (by rw [dec_str]; exact k.go rm (.bl _) q)
theorem o_neS {i j : Str} (q : Q (.bl (!decide (i = j))) M) : O2 K rNe (.str i) (.str j) M Q := fun x y H Qc rx ry rm k => by
  cases rx; cases ry; exact w_ne rfl (by rw [dec_str]; exact k.go rm (.bl _) q)
theorem o_eqB {i j : Bool} (q : Q (.bl (decide (i = j))) M) : O2 K rEq (.bl i) (.bl j) M Q := fun x y H Qc rx ry rm k => by
  cases rx; cases ry; exact w_eq rfl (by rw [dec_b]; exact k.go rm (.bl _) q)
theorem o_neB {i j : Bool} (q : Q (.bl (!decide (i = j))) M) : O2 K rNe (.bl i) (.bl j) M Q := fun x y H Qc rx ry rm k => by
  cases rx; cases ry; exact w_ne rfl (by rw [dec_b]; exact k.go rm (.bl _) q)
theorem o_eqIS {i : Int} {j : Str} (q : Q (.bl false) M) : O2 K rEq (.int i) (.str j) M Q := fun x y H Qc rx ry rm k => by
  cases rx; cases ry; exact w_eq rfl (by rw [decide_eq_false (by intro z; cases z)]; exact k.go rm (.bl _) q)
def A.isNon : A → Bool
  | .non => true
  | _ => false
theorem isNon_of (rv : Rv K (ad M) H a v) : decide (v = .non) = a.isNon := by
  cases rv <;> first | rfl | exact decide_eq_false (by intro z; cases z)
theorem o_isN (q : Q (.bl a.isNon) M) : O2 K L2.rIsN a .non M Q := fun x y H Qc rx ry rm k => by
  cases ry
  refine w_isN ?_
  rw [isNon_of rx]; exact k.go rm (.bl _) q
theorem o_notN (q : Q (.bl (!a.isNon)) M) : O2 K L2.rNotN a .non M Q := fun x y H Qc rx ry rm k => by
  cases ry
  refine w_notN ?_
  rw [isNon_of rx]; exact k.go rm (.bl _) q
theorem o_isB {i j : Bool} (q : Q (.bl (decide (i = j))) M) : O2 K rIsB (.bl i) (.bl j) M Q := fun x y H Qc rx ry rm k => by
  cases rx; cases ry; exact w_isB (k.go rm (.bl _) q)
theorem o_notB {i j : Bool} (q : Q (.bl (!decide (i = j))) M) : O2 K rNotB (.bl i) (.bl j) M Q := fun x y H Qc rx ry rm k => by
  cases rx; cases ry; exact w_notB (k.go rm (.bl _) q)
/-! ### items, cuts, sums of sequences -/
theorem atI_rv {vs : List V} (r : RvL K (ad M) H xs vs) {k : Int} (h : atI xs k = some a) : ∃ v, atI vs k = some v ∧ Rv K (ad M) H a v := by
  unfold atI at h ⊢
  rw [r.len] at h
  cases e : ixN vs.length k with
  | none => rw [e] at h; cases h
  | some j =>
    rw [e] at h
    exact r.at h
theorem o_ixT {k : Int} (h : atI xs k = some a) (q : Q a M) : O2 K (rIxT K) (.tup xs) (.int k) M Q := fun x y H Qc rx ry rm kc => by
  cases ry
  cases rx with
  | tup f r =>
    obtain ⟨v, e, rv⟩ := atI_rv r h
    exact w_ixT f.sq e (kc.go rm rv q)
theorem o_ixL {k : Int} {l : A} (hl : LsA M l xs) (h : atI xs k = some a) (q : Q a M) : O2 K (rIxL K) l (.int k) M Q := fun x y H Qc rx ry rm kc => by
  cases ry
  obtain ⟨p, vs, rfl, sq, r⟩ := hl.of rx rm
  obtain ⟨v, e, rv⟩ := atI_rv r h
  exact w_ixL sq e (kc.go rm rv q)
theorem o_ixsT {k : Int} (h : atI xs k = some a) (q : Q a M) : O2 K (rIx K) (.tup xs) (.int k) M Q := fun x y H Qc rx ry rm kc => by
  cases ry
  cases rx with
  | tup f r =>
    obtain ⟨v, e, rv⟩ := atI_rv r h
    exact w_ixsT f.sq e (kc.go rm rv q)
theorem o_ixsL {k : Int} {l : A} (hl : LsA M l xs) (h : atI xs k = some a) (q : Q a M) : O2 K (rIx K) l (.int k) M Q := fun x y H Qc rx ry rm kc => by
  cases ry
  obtain ⟨p, vs, rfl, sq, r⟩ := hl.of rx rm
  obtain ⟨v, e, rv⟩ := atI_rv r h
  exact w_ixsL sq e (kc.go rm rv q)
theorem o_ixS {z : Str} {i : Int} {c : Nat} (hl : z.length ≤ sizeLine) (h : atI z.cps.toList i = some c) (q : Q (sign c) M) : O2 K rIxS (.str z) (.int i) M Q := fun x y H Qc rx ry rm kc => by
  cases rx; cases ry; exact w_ixS hl h (kc.go rm (.str _) q)
def cutA (xs : List A) (lo hi : Option Int) : List A := (xs.drop (HT.sIx xs.length 0 lo)).take (HT.sIx xs.length xs.length hi - HT.sIx xs.length 0 lo)
theorem cut_rv {vs : List V} (r : RvL K (ad M) H xs vs) (lo hi : Option Int) : RvL K (ad M) H (cutA xs lo hi) (cutV vs lo hi) := by
  unfold cutA cutV
  rw [r.len]
  exact (r.drop _).take _
theorem o_slL {l : A} {lo hi : Option Int} (hl : LsA M l xs) (q : Q (.lst (cutA xs lo hi)) M) : OSl K (rSlL K) l lo hi M Q := fun x H Qc rx rm kc => by
  obtain ⟨p, vs, rfl, sq, r⟩ := hl.of rx rm
  exact w_slL sq fun p hp => kc.newL rm hp (cut_rv r lo hi) q
theorem o_slT {lo hi : Option Int} (q : Q (.tup (cutA xs lo hi)) M) : OSl K (rSlA K) (.tup xs) lo hi M Q := fun x H Qc rx rm kc => by
  cases rx with
  | tup f r =>
    refine ⟨_, _, rfl, f.sq, fun ⟨e1, e2⟩ => ?_, fun _ p hp => kc.newT rm hp (cut_rv r lo hi) q⟩
    have e : cutA xs lo hi = xs := by
      unfold cutA
      rw [r.len, e1, e2, List.drop_zero, ← r.len, Nat.sub_zero, List.take_of_length_le (Nat.le_refl _)]
    rw [e] at q
    exact kc.go rm (.tup f r) q
theorem o_slS {z : Str} {lo hi : Option Int} (hl : z.length ≤ sizeLine) (q : Q (.str (cutS z lo hi)) M) : OSl K rSlS (.str z) lo hi M Q := fun x H Qc rx rm kc => by
  cases rx; exact w_slS hl (kc.go rm (.str _) q)
theorem o_cat {l m : A} (h1 : LpA M l xs) (h2 : LpA M m ys) (hl : xs.length + ys.length ≤ sizeLine) (q : Q (.lst (xs ++ ys)) M) : O2 K rCat l m M Q := fun x y H Qc rx ry rm kc => by
  obtain ⟨p, vs, rfl, e1, r1⟩ := h1.of rx rm
  obtain ⟨p2, vs2, rfl, e2, r2⟩ := h2.of ry rm
  exact w_cat e1 e2 (by rw [← r1.len, ← r2.len]; exact hl) fun p hp => kc.newL rm hp (r1.app r2) q
theorem o_catA (hl : xs.length + ys.length ≤ sizeLine) (q : Q (.tup (xs ++ ys)) M) : O2 K (rCatA K) (.tup xs) (.tup ys) M Q := fun x y H Qc rx ry rm kc => by
  have rx0 := rx
  have ry0 := ry
  cases rx with
  | tup f1 r1 =>
    cases ry with
    | tup f2 r2 =>
      refine ⟨_, _, _, _, rfl, rfl, f1.sq, f2.sq, by rw [← r1.len, ← r2.len]; exact hl, fun e => ?_, fun _ e => ?_, fun _ _ p hp => kc.newT rm hp (r1.app r2) q⟩
      · subst e
        cases r1
        exact kc.go rm ry0 q
      · subst e
        cases r2
        rw [List.append_nil] at q
        exact kc.go rm rx0 q
theorem o_addS {z z' : Str} (hl : z.length + z'.length ≤ sizeLine) (q : Q (.str (z ++ z')) M) : O2 K rAddStr (.str z) (.str z') M Q := fun x y H Qc rx ry rm kc => by
  cases rx; cases ry; exact w_addStr hl (kc.go rm (.str _) q)
theorem o_ltS {z z' : Str} (q : Q (.bl (decide (z.cps.toList < z'.cps.toList))) M) : O2 K rLtS (.str z) (.str z') M Q := fun x y H Qc rx ry rm kc => by
  cases rx; cases ry; exact ⟨_, _, rfl, rfl, kc.go rm (.bl _) q⟩
theorem o_inSign {c : Nat} {z : Str} (q : Q (.bl (decide (c ∈ z.cps.toList))) M) : O2 K rInS (sign c) (.str z) M Q := fun x y H Qc rx ry rm kc => by
  cases rx; cases ry; exact w_inS (kc.go rm (.bl _) q)
/-! ### in -/
def A.fv : A → V
  | .bl b => .bl b
  | .int i => .int i
  | .str z => .str z
  | _ => .non
def A.flat : A → Bool
  | .non => true
  | .bl _ => true
  | .int _ => true
  | .str _ => true
  | _ => false
theorem fv_of (h : a.flat = true) (rv : Rv K (ad M) H a v) : v = a.fv ∧ flatV v = true := by
  cases rv <;> first | exact ⟨rfl, rfl⟩ | cases h
theorem fvs_of {vs : List V} (h : xs.all A.flat = true) (r : RvL K (ad M) H xs vs) : vs = xs.map A.fv ∧ vs.all flatV = true := by
  induction xs generalizing vs with
  | nil => cases r; exact ⟨rfl, rfl⟩
  | cons a xs ih =>
    cases r with
    | cons x t =>
      rw [List.all_cons, Bool.and_eq_true] at h
      obtain ⟨e1, e2⟩ := fv_of h.1 x
      obtain ⟨e3, e4⟩ := ih h.2 t
      exact ⟨by rw [e1, e3]; rfl, by rw [List.all_cons, e2, e4]; rfl⟩
def inF (a : A) (xs : List A) : Bool := inV a.fv (xs.map A.fv)
theorem o_in {neg : Bool} {l : A} (hl : LsA M l xs ∨ l = .tup xs) (h1 : a.flat = true) (h2 : xs.all A.flat = true) (q : Q (.bl (if neg then !inF a xs else inF a xs)) M) : O2 K (rIn K neg) a l M Q := fun x y H Qc rx ry rm kc => by
  obtain ⟨e1, f1⟩ := fv_of h1 rx
  subst e1
  rcases hl with hl | hl
  · obtain ⟨p, vs, rfl, sq, r⟩ := hl.of ry rm
    obtain ⟨e2, f2⟩ := fvs_of h2 r
    subst e2
    exact w_in (.inl sq) f1 f2 (kc.go rm (.bl _) q)
  · subst hl
    cases ry with
    | tup f r =>
      obtain ⟨e2, f2⟩ := fvs_of h2 r
      subst e2
      exact w_in (.inr f.sq) f1 f2 (kc.go rm (.bl _) q)
theorem inF_strs (z : Str) (names : List Str) : inF (.str z) (names.map A.str) = decide (z ∈ names) := by
  unfold inF
  rw [List.map_map]
  show inV (.str z) (names.map V.str) = _
  unfold inV
  rw [List.any_map]
  by_cases h : z ∈ names
  · rw [decide_eq_true h, List.any_eq_true]
    exact ⟨z, h, by show (z == z) = true; simp⟩
  · rw [decide_eq_false h, List.any_eq_false]
    intro y hy e
    have e2 : (y == z) = true := e
    exact h (by rw [← eq_of_beq e2]; exact hy)
theorem flat_strs (names : List Str) : (names.map A.str).all A.flat = true := by
  rw [List.all_map, List.all_eq_true]
  intro x _; rfl
theorem o_inStr {z : Str} {names : List Str} {l : A} (hl : LsA M l (names.map A.str) ∨ l = .tup (names.map A.str)) (q : Q (.bl (decide (z ∈ names))) M) : O2 K (rIn K false) (.str z) l M Q := o_in hl rfl (flat_strs names) (by rw [inF_strs]; exact q)
theorem o_ninStr {z : Str} {names : List Str} {l : A} (hl : LsA M l (names.map A.str) ∨ l = .tup (names.map A.str)) (q : Q (.bl (!decide (z ∈ names))) M) : O2 K (rIn K true) (.str z) l M Q := o_in hl rfl (flat_strs names) (by rw [inF_strs]; exact q)
/-! ### data -/
mutual
def A.toD : A → PyData
  | .non => .none
  | .bl b => .bool b
  | .int i => .int i
  | .str z => .str z
  | .tup xs => .tuple (toDs xs)
  | .lst xs => .list (toDs xs)
  | _ => .none
def toDs : List A → List PyData
  | [] => []
  | a :: as => a.toD :: toDs as
end
mutual
def A.isD : A → Bool
  | .non => true
  | .bl _ => true
  | .int _ => true
  | .str _ => true
  | .tup xs => isDs xs
  | .lst xs => isDs xs
  | _ => false
def isDs : List A → Bool
  | [] => true
  | a :: as => a.isD && isDs as
end
mutual
theorem Rv.dp {D : List Addr} : ∀ {a : A} {v : V}, a.isD = true → Rv K D H a v → Dp K H v a.toD
  | _, _, _, .non => by unfold A.toD; exact .non
  | _, _, _, .bl b => by unfold A.toD; exact .bl b
  | _, _, _, .int i => by unfold A.toD; exact .int i
  | _, _, _, .str z => by unfold A.toD; exact .str z
  | _, _, h, .ty _ => by unfold A.isD at h; cases h
  | _, _, h, .loc _ => by unfold A.isD at h; cases h
  | _, _, h, .scr _ => by unfold A.isD at h; cases h
  | _, _, h, .dic _ _ _ => by unfold A.isD at h; cases h
  | _, _, h, .tup f r => by unfold A.toD; unfold A.isD at h; exact .tup f.sq (RvL.dp h r)
  | _, _, h, .lst f r => by unfold A.toD; unfold A.isD at h; exact .lst f.sq (RvL.dp h r)
theorem RvL.dp {D : List Addr} : ∀ {as : List A} {vs : List V}, isDs as = true → RvL K D H as vs → DpAll K H vs (toDs as)
  | _, _, _, .nil => by unfold toDs; exact .nil
  | _, _, h, .cons x t => by unfold toDs; unfold isDs at h; rw [Bool.and_eq_true] at h; exact .cons (Rv.dp h.1 x) (RvL.dp h.2 t)
end
def eqA (a b : A) : Bool := PyData.eqv a.toD b.toD
theorem o_eqD (h1 : a.isD = true) (h2 : b.isD = true) (s1 : SeqAt.shaped a.toD = true) (s2 : SeqAt.shaped b.toD = true) (q : Q (.bl (eqA a b)) M) : O2 K (rEqD K) a b M Q := fun x y H Qc rx ry rm kc =>
  w_eqD (rx.dp h1) (ry.dp h2) s1 s2 (kc.go rm (.bl _) q)
theorem o_neD (h1 : a.isD = true) (h2 : b.isD = true) (s1 : SeqAt.shaped a.toD = true) (s2 : SeqAt.shaped b.toD = true) (q : Q (.bl (!eqA a b)) M) : O2 K (rNeD K) a b M Q := fun x y H Qc rx ry rm kc =>
  w_neD (rx.dp h1) (ry.dp h2) s1 s2 (kc.go rm (.bl _) q)
theorem eqA_refl (h : SeqAt.shaped a.toD = true) : eqA a a = true := SeqAt.eqv_refl _ (SeqAt.canLay_of_shaped h)
/-! ### builtins -/
theorem l_lenT (q : Q (.int xs.length) M) : OL K (Evl.rLenS K) [.tup xs] M Q := fun vs H Qc rv rm kc => by
  cases rv with
  | cons r t =>
    cases t
    cases r with
    | tup f r => exact w_lenT f.sq (by rw [← r.len]; exact kc.go rm (.int _) q)
theorem l_lenL {l : A} (hl : LsA M l xs) (q : Q (.int xs.length) M) : OL K (Evl.rLenS K) [l] M Q := fun vs H Qc rv rm kc => by
  cases rv with
  | cons r t =>
    cases t
    obtain ⟨p, ws, rfl, sq, r⟩ := hl.of r rm
    exact w_lenL sq (by rw [← r.len]; exact kc.go rm (.int _) q)
theorem l_lenS {z : Str} (hl : z.length ≤ sizeLine) (q : Q (.int z.length) M) : OL K rLenStr [.str z] M Q := fun vs H Qc rv rm kc => by
  cases rv with
  | cons r t => cases t; cases r; exact w_lenStr hl (kc.go rm (.int _) q)
theorem l_abs {i : Int} (q : Q (.int (i.natAbs : Int)) M) : OL K rAbs [.int i] M Q := fun vs H Qc rv rm kc => by
  cases rv with
  | cons r t => cases t; cases r; exact w_abs (kc.go rm (.int _) q)
theorem l_intB {i : Bool} (q : Q (.int (if i then 1 else 0)) M) : OL K rInt1 [.bl i] M Q := fun vs H Qc rv rm kc => by
  cases rv with
  | cons r t => cases t; cases r; exact w_intB (kc.go rm (.int _) q)
theorem l_min2 {i j : Int} (q : Q (.int (if j < i then j else i)) M) : OL K rMin2 [.int i, .int j] M Q := fun vs H Qc rv rm kc => by
  cases rv with
  | cons r t => cases t with | cons r2 t => cases t; cases r; cases r2; exact w_min2 (kc.go rm (.int _) q)
theorem l_max2 {i j : Int} (q : Q (.int (if j > i then j else i)) M) : OL K Evl.rMax2 [.int i, .int j] M Q := fun vs H Qc rv rm kc => by
  cases rv with
  | cons r t => cases t with | cons r2 t => cases t; cases r; cases r2; exact w_max2 (kc.go rm (.int _) q)
theorem l_tupL {l : A} (hl : LsA M l xs) (q : Q (.tup xs) M) : OL K (rTupOf K) [l] M Q := fun vs H Qc rv rm kc => by
  cases rv with
  | cons r t =>
    cases t
    obtain ⟨p, ws, rfl, sq, r⟩ := hl.of r rm
    exact w_tupOfL sq fun p hp => kc.newT rm hp r q
theorem l_tupT (q : Q (.tup xs) M) : OL K (rTupOf K) [.tup xs] M Q := fun vs H Qc rv rm kc => by
  cases rv with
  | cons r t =>
    cases t
    have r0 := r
    cases r with
    | tup f r => exact ⟨_, _, rfl, .inr ⟨f.sq, kc.go rm r0 q⟩⟩
theorem l_listL {l : A} (hl : LsA M l xs ∨ l = .tup xs) (q : Q (.lst xs) M) : OL K (Evl.rListS K) [l] M Q := fun vs H Qc rv rm kc => by
  cases rv with
  | cons r t =>
    cases t
    rcases hl with hl | hl
    · obtain ⟨p, ws, rfl, sq, r⟩ := hl.of r rm
      exact w_listL sq fun p hp => kc.newL rm hp r q
    · subst hl
      cases r with
      | tup f r => exact w_listT f.sq fun p hp => kc.newL rm hp r q
theorem l_listC {l : A} (hl : LsA M l xs ∨ l = .tup xs) (q : ∀ p, Q (.loc p) ((p, .lst xs) :: M)) : OL K (Evl.rListS K) [l] M Q := fun vs H Qc rv rm kc => by
  cases rv with
  | cons r t =>
    cases t
    rcases hl with hl | hl
    · obtain ⟨p, ws, rfl, sq, r⟩ := hl.of r rm
      exact w_listL sq fun p hp => kc.newC rm hp r (q p)
    · subst hl
      cases r with
      | tup f r => exact w_listT f.sq fun p hp => kc.newC rm hp r (q p)
theorem l_all {bs : List Bool} {l : A} (hl : LsA M l (bs.map A.bl)) (q : Q (.bl (bs.all id)) M) : OL K (rAll K) [l] M Q := fun vs H Qc rv rm kc => by
  cases rv with
  | cons r t =>
    cases t
    obtain ⟨p, ws, rfl, sq, r⟩ := hl.of r rm
    rw [r.bls] at sq
    exact ⟨p, bs, rfl, sq, kc.go rm (.bl _) q⟩
theorem l_any {bs : List Bool} {l : A} (hl : LsA M l (bs.map A.bl)) (q : Q (.bl (bs.any id)) M) : OL K (rAny K) [l] M Q := fun vs H Qc rv rm kc => by
  cases rv with
  | cons r t =>
    cases t
    obtain ⟨p, ws, rfl, sq, r⟩ := hl.of r rm
    rw [r.bls] at sq
    exact ⟨p, bs, rfl, sq, kc.go rm (.bl _) q⟩
theorem l_sum {ns : List Int} {l : A} (hl : LsA M l (ns.map A.int)) (q : Q (.int ns.sum) M) : OL K (rSum K) [l] M Q := fun vs H Qc rv rm kc => by
  cases rv with
  | cons r t =>
    cases t
    obtain ⟨p, ws, rfl, sq, r⟩ := hl.of r rm
    rw [r.ints] at sq
    exact ⟨p, ns, rfl, sq, kc.go rm (.int _) q⟩
theorem l_max {ns : List Int} {l : A} (hl : LsA M l (ns.map A.int)) (hp : 0 < ns.length) (q : ∀ m, m ∈ ns → (∀ y, y ∈ ns → y ≤ m) → Q (.int m) M) : OL K (rMax K) [l] M Q := fun vs H Qc rv rm kc => by
  cases rv with
  | cons r t =>
    cases t
    obtain ⟨p, ws, rfl, sq, r⟩ := hl.of r rm
    rw [r.ints] at sq
    exact ⟨p, ns, rfl, sq, hp, fun m h1 h2 => kc.go rm (.int _) (q m h1 h2)⟩
theorem l_min {ns : List Int} {l : A} (hl : LsA M l (ns.map A.int)) (hp : 0 < ns.length) (q : ∀ m, m ∈ ns → (∀ y, y ∈ ns → m ≤ y) → Q (.int m) M) : OL K (rMin K) [l] M Q := fun vs H Qc rv rm kc => by
  cases rv with
  | cons r t =>
    cases t
    obtain ⟨p, ws, rfl, sq, r⟩ := hl.of r rm
    rw [r.ints] at sq
    exact ⟨p, ns, rfl, sq, hp, fun m h1 h2 => kc.go rm (.int _) (q m h1 h2)⟩
theorem l_sorted {zs : List Str} {l : A} (hl : LsA M l (zs.map A.str)) (hn : zs.length < 64) (q : ∀ ys, ys.Perm zs → sortedS ys = true → Q (.lst (ys.map A.str)) M) : OL K (rSortedS K) [l] M Q := fun vs H Qc rv rm kc => by
  cases rv with
  | cons r t =>
    cases t
    obtain ⟨p, ws, rfl, sq, r⟩ := hl.of r rm
    rw [r.strs] at sq
    exact ⟨p, zs, rfl, sq, hn, fun ys p h1 h2 hp => kc.newL rm hp (RvL.of_strs ys) (q ys h1 h2)⟩
theorem l_sortedT {zs : List Str} (hn : zs.length < 64) (q : ∀ ys, ys.Perm zs → sortedS ys = true → Q (.lst (ys.map A.str)) M) : OL K (rSortedTS K) [.tup (zs.map A.str)] M Q := fun vs H Qc rv rm kc => by
  cases rv with
  | cons r t =>
    cases t
    cases r with
    | tup f r =>
      have sq := f.sq
      rw [r.strs] at sq
      exact ⟨_, zs, rfl, sq, hn, fun ys p h1 h2 hp => kc.newL rm hp (RvL.of_strs ys) (q ys h1 h2)⟩
theorem e_sortSet {zs : List Str} (h : EE K Ex Xa te s M fun a M1 => ∃ zs : List Str, LsA M1 a (zs.map A.str) ∧ zs.length < 64 ∧ ∀ ys, ys.Perm (once zs) → sortedS ys = true → Q (.lst (ys.map A.str)) M1) : EE K Ex Xa (tSortSetS K te) s M Q := fun σ H Qc rep k =>
  h σ H _ rep fun a v M1 H1 st rm rv ⟨zs, hl, hn, q⟩ => by
    obtain ⟨p, ws, rfl, sq, r⟩ := hl.of rv rm
    rw [r.strs] at sq
    exact ⟨p, zs, rfl, sq, hn, fun ys p h1 h2 hp => (k.step st).newL rm hp (RvL.of_strs ys) (q ys h1 h2)⟩
theorem l_strI {i : Int} (hl : i.natAbs.log2 < 1920) (q : Q (.str (toString i)) M) : OL K rStrInt [.int i] M Q := fun vs H Qc rv rm kc => by
  cases rv with
  | cons r t => cases t; cases r; exact ⟨i, rfl, hl, kc.go rm (.str _) q⟩
/-! ### isinstance -/
def A.isI : A → Bool | .int _ => true | .bl _ => true | _ => false
def A.isBl : A → Bool | .bl _ => true | _ => false
def A.isS : A → Bool | .str _ => true | _ => false
def A.isT : A → Bool | .tup _ => true | _ => false
def A.isL : A → Bool | .lst _ => true | _ => false
def A.plain : A → Bool | .loc _ => false | .ty _ => false | .scr _ => false | _ => true
def A.kn : A → String
  | .non => "NoneType"
  | .bl _ => "bool"
  | .int _ => "int"
  | .str _ => "str"
  | .tup _ => "tuple"
  | .lst _ => "list"
  | .dic _ _ => "dict"
  | _ => ""
theorem tuple_isi {D : List Addr} {vs : List V} {T : String} {r : Bool} (f : FT K D H p vs) (hk : kitB "tuple" T = some r) {Qc : VK} (q : Qc (.bl r) H) : rIsi K [.ref p, .ty T] H Qc := by
  rcases f with ⟨_, f | ⟨o, f⟩⟩ | ⟨o, its, n, h1, h2, _⟩
  · exact w_isi (.ty _) (.base (.tup f)) (kit_ty hk) q
  · exact w_isi (.ty _) (.fTuple f) (kit_ty hk) q
  · exact w_isi (.ty _) (.kTuple h1 h2) (kit_ty hk) q
theorem isi_of {D : List Addr} {T : String} (rv : Rv K D H a v) (hp : a.plain = true) {Qc : VK} {r : Bool}
    (h : kitB a.kn T = some r) (q : Qc (.bl r) H) : rIsi K [v, .ty T] H Qc := by
  cases rv with
  | non => exact w_isi (.ty _) (.base .non) (kit_ty h) q
  | bl b => exact w_isi (.ty _) (.base (.bl b)) (kit_ty h) q
  | int i => exact w_isi (.ty _) (.base (.int i)) (kit_ty h) q
  | str z => exact w_isi (.ty _) (.base (.str z)) (kit_ty h) q
  | ty n => cases hp
  | loc n => cases hp
  | scr f => cases hp
  | tup f r => exact tuple_isi f h q
  | lst f r => exact w_isi (.ty _) (.base (.lst f.2)) (kit_ty h) q
  | dic f e r => exact w_isi (.ty _) (.base (.dK f.2)) (kit_ty h) q
theorem l_isInt (hp : a.plain = true) (q : Q (.bl a.isI) M) : OL K (rIsi K) [a, .ty "int"] M Q := fun vs H Qc rv rm kc => by
  cases rv with
  | cons r t => cases t with | cons r2 t => cases t; cases r2; exact isi_of r hp (by cases a <;> first | (cases hp; done) | (simp only [A.kn, A.isI]; decide +kernel)) (kc.go rm (.bl _) q)
theorem l_isBool (hp : a.plain = true) (q : Q (.bl a.isBl) M) : OL K (rIsi K) [a, .ty "bool"] M Q := fun vs H Qc rv rm kc => by
  cases rv with
  | cons r t => cases t with | cons r2 t => cases t; cases r2; exact isi_of r hp (by cases a <;> first | (cases hp; done) | (simp only [A.kn, A.isBl]; decide +kernel)) (kc.go rm (.bl _) q)
theorem l_isStr (hp : a.plain = true) (q : Q (.bl a.isS) M) : OL K (rIsi K) [a, .ty "str"] M Q := fun vs H Qc rv rm kc => by
  cases rv with
  | cons r t => cases t with | cons r2 t => cases t; cases r2; exact isi_of r hp (by cases a <;> first | (cases hp; done) | (simp only [A.kn, A.isS]; decide +kernel)) (kc.go rm (.bl _) q)
theorem l_isTuple (hp : a.plain = true) (q : Q (.bl a.isT) M) : OL K (rIsi K) [a, .ty "tuple"] M Q := fun vs H Qc rv rm kc => by
  cases rv with
  | cons r t => cases t with | cons r2 t => cases t; cases r2; exact isi_of r hp (by cases a <;> first | (cases hp; done) | (simp only [A.kn, A.isT]; decide +kernel)) (kc.go rm (.bl _) q)
theorem l_isList (hp : a.plain = true) (q : Q (.bl a.isL) M) : OL K (rIsi K) [a, .ty "list"] M Q := fun vs H Qc rv rm kc => by
  cases rv with
  | cons r t => cases t with | cons r2 t => cases t; cases r2; exact isi_of r hp (by cases a <;> first | (cases hp; done) | (simp only [A.kn, A.isL]; decide +kernel)) (kc.go rm (.bl _) q)
/-! ### lists that grow -/
theorem e_bmL {r : V → List V → Hp → VK → Prop} (h : EE K Ex Xa te s M fun a M1 => (∃ xs, LsA M1 a xs) ∧ EA K Ex Xa tr s M1 fun as M2 => OM K r a as M2 Q) : EE K Ex Xa (tBM K "list" r te tr) s M Q := fun σ H Qc rep k =>
  h σ H _ rep fun a v M1 H1 st rm rv ⟨⟨xs, hl⟩, ha⟩ => by
    obtain ⟨p, vs, e, sq, _⟩ := hl.of rv rm
    refine ⟨?_, ha σ H1 _ (rep.step st rm) fun as ws M2 H2 st2 rm2 rv2 ho => ho v ws H2 _ (rv.step st2) rv2 rm2 (k.step (st.trans st2))⟩
    subst e
    exact .inl ⟨rfl, vs, sq⟩
theorem m_append (up : Up M p (.lst xs) (.lst (xs ++ [a])) M') (hl : xs.length < sizeLine) (q : Q .non M') : OM K rAppend (.loc p) [a] M Q := fun x ws H Qc rx rw2 rm kc => by
  cases rx
  cases rw2 with
  | cons ra t =>
    cases t
    obtain ⟨vs, hv, r⟩ := rm.cell _ up.mem
    have hm : p ∈ ad M := List.mem_map.mpr ⟨_, up.mem, rfl⟩
    refine w_append hv (by rw [← r.len]; exact hl) ?_
    have st : ∀ {u : HO}, Step (ad M) H (ad M) (upd H p u) := Step.write hm
    refine kc _ _ M' _ (by rw [up.ad]; exact st) (rm.put up ⟨_, upd_same, (r.step st).app (.cons (ra.step st) .nil)⟩) .non q
theorem m_extend {b : A} (up : Up M p (.lst xs) (.lst (xs ++ ys)) M') (hb : LpA M b ys) (hl : xs.length + ys.length ≤ sizeLine) (q : Q .non M') : OM K rExtend (.loc p) [b] M Q := fun x ws H Qc rx rw2 rm kc => by
  cases rx
  cases rw2 with
  | cons ra t =>
    cases t
    obtain ⟨vs, hv, r⟩ := rm.cell _ up.mem
    obtain ⟨p2, vs2, rfl, hv2, r2⟩ := hb.of ra rm
    have hm : p ∈ ad M := List.mem_map.mpr ⟨_, up.mem, rfl⟩
    have st : ∀ {u : HO}, Step (ad M) H (ad M) (upd H p u) := Step.write hm
    exact ⟨p, p2, vs, vs2, rfl, rfl, hv, hv2, by rw [← r.len, ← r2.len]; exact hl, kc _ _ M' _ (by rw [up.ad]; exact st) (rm.put up ⟨_, upd_same, (r.step st).app (r2.step st)⟩) .non q⟩
/-! ### texts -/
theorem e_join {zs : List Str} (h : EE K Ex Xa to s M fun a M1 => ∃ z, a = .str z ∧ EE K Ex Xa te s M1 fun b M2 => ∃ zs : List Str, (LsA M2 b (zs.map A.str) ∨ b = .tup (zs.map A.str)) ∧ (zs.map (·.length)).sum + zs.length * z.length ≤ 16777216 ∧ Q (.str (Txt.join z zs)) M2) : EE K Ex Xa (tJoin K to te) s M Q := fun σ H Qc rep k =>
  h σ H _ rep fun a v M1 H1 st rm rv ⟨z, e, hb⟩ => by
    subst e; cases rv
    refine ⟨⟨z, rfl⟩, hb σ H1 _ (rep.step st rm) fun b w M2 H2 st2 rm2 rw2 ⟨zs, hl, hn, q⟩ => ?_⟩
    have k2 := k.step (st.trans st2)
    rcases hl with hl | hl
    · obtain ⟨p, ws, rfl, sq, r⟩ := hl.of rw2 rm2
      rw [r.strs] at sq
      exact ⟨z, p, zs, rfl, rfl, .inl sq, hn, k2.go rm2 (.str _) q⟩
    · subst hl
      cases rw2 with
      | tup f r =>
        have sq := f.sq
        rw [r.strs] at sq
        exact ⟨z, _, zs, rfl, rfl, .inr sq, hn, k2.go rm2 (.str _) q⟩
theorem e_split (h : EE K Ex Xa to s M fun a M1 => ∃ z, a = .str z ∧ EE K Ex Xa te s M1 fun b M2 => ∃ y, b = .str y ∧ (y.length == 0) = false ∧ z.length + 2 ≤ sizeLine ∧ Q (.lst ((Txt.split z y).map A.str)) M2) : EE K Ex Xa (tSplit to te) s M Q := fun σ H Qc rep k =>
  h σ H _ rep fun a v M1 H1 st rm rv ⟨z, e, hb⟩ => by
    subst e; cases rv
    refine ⟨⟨z, rfl⟩, hb σ H1 _ (rep.step st rm) fun b w M2 H2 st2 rm2 rw2 ⟨y, e2, h1, h2, q⟩ => ?_⟩
    subst e2; cases rw2
    exact ⟨z, y, rfl, rfl, h1, h2, fun p hp => (k.step (st.trans st2)).newL rm2 hp (RvL.of_strs _) q⟩
end
end Ab

set_option Elab.async false
set_option linter.all false
set_option maxRecDepth 100000
set_option maxHeartbeats 4000000
namespace Ab
open PySem PySem.Spec PyProof.Rows L2 Go
theorem len_ok {xs : List A} (h : xs.length ≤ 1000) : xs.length ≤ sizeLine := Nat.le_trans h (by decide)
theorem small {n : Nat} (h : n ≤ 1000000) : n ≤ sizeLine := Nat.le_trans h (by decide)
theorem small' {n : Nat} (h : n < 1000000) : n < sizeLine := Nat.lt_of_lt_of_le h (by decide)
theorem e_T {R : List A → Prop} {xs : List A} (q : R xs) : ∃ ys, A.tup xs = .tup ys ∧ R ys := ⟨xs, rfl, q⟩
theorem e_L {R : List A → Prop} {xs : List A} (q : R xs) : ∃ ys, A.lst xs = .lst ys ∧ R ys := ⟨xs, rfl, q⟩
theorem e_lsx {M : AM} {a : A} {xs : List A} {R : Prop} (h : LsA M a xs) (q : R) : (∃ xs, LsA M a xs) ∧ R := ⟨⟨xs, h⟩, q⟩
theorem atI_at {xs : List A} {i : Nat} {a : A} (h : xs[i]? = some a) : atI xs (i : Int) = some a := by
  unfold atI ixN
  have := (List.getElem?_eq_some_iff.mp h).1
  rw [if_pos (Int.natCast_nonneg i), if_pos (by omega)]
  exact h
theorem s_join {K : PySem.W.Frag} {Ex : XK} {Xa : XA} {s : Sv} {M : AM} {t : TS} {Nx : Sv → AM → Prop} {Rt : QA} {Bk Ct : Sv → AM → Prop} (J : Sv → AM → Prop) (h1 : ES K Ex Xa t s M J Rt Bk Ct) (h2 : ∀ s M, J s M → Nx s M) : ES K Ex Xa t s M Nx Rt Bk Ct :=
  s_weak h1 h2 (fun _ _ h => h) (fun _ _ h => h) (fun _ _ h => h)
end Ab

set_option Elab.async false
set_option linter.all false
set_option maxRecDepth 100000
set_option maxHeartbeats 4000000
namespace Ab
open PySem PySem.Spec PyProof.Rows L2 Go
/-! ### the least of alike things -/
theorem toDs_map {α : Type} [DecidableEq α] [PySem.W.DatumOrd α] (g : α → A) (hg : ∀ x, (g x).isD = true ∧ (g x).toD = PySem.W.Datum.toD x) : ∀ xs : List α, toDs (xs.map g) = xs.map PySem.W.Datum.toD ∧ isDs (xs.map g) = true
  | [] => ⟨by rw [List.map_nil, List.map_nil]; unfold toDs; rfl, by rw [List.map_nil]; unfold isDs; rfl⟩
  | x :: xs => by
    obtain ⟨h1, h2⟩ := toDs_map g hg xs
    rw [List.map_cons, List.map_cons]
    unfold toDs isDs
    rw [h1, h2, (hg x).1, (hg x).2]
    exact ⟨rfl, rfl⟩
theorem datum_inj {α : Type} [DecidableEq α] [PySem.W.DatumOrd α] {x y : α} (h : (PySem.W.Datum.toD x : PyData) = PySem.W.Datum.toD y) : x = y := by
  have e1 := PySem.W.Datum.eqv x y
  have e2 := PySem.W.Datum.eqv y y
  rw [h, e2, decide_eq_true rfl] at e1
  exact of_decide_eq_true e1.symm
section
variable {K : PySem.W.Frag} {Ex : XK} {Xa : XA} {s : Sv} {M M' : AM} {H : Hp} {Q : QA} {a b : A} {v : V} {xs ys : List A} {te to td ty tv : TE} {tr : TA} {p : Addr}
theorem l_minDat {α : Type} [DecidableEq α] [PySem.W.DatumOrd α] (g : α → A) (hg : ∀ x, (g x).isD = true ∧ (g x).toD = PySem.W.Datum.toD x) {x : α} {l : List α} {b : A} (hl : LsA M b ((x :: l).map g)) (hd : PyData.depthAll ((x :: l).map PySem.W.Datum.toD) ≤ 60)
    (q : Q (g (PySem.W.minOf x l)) M) : OL K (rMinD K) [b] M Q := fun vs H Qc rv rm kc => by
  cases rv with
  | cons r t =>
    cases t
    obtain ⟨p, ws, rfl, sq, r⟩ := hl.of r rm
    obtain ⟨e1, e2⟩ := toDs_map g hg (x :: l)
    have dp := r.dp e2
    rw [e1, List.map_cons] at dp
    refine ⟨p, ws, PySem.W.Datum.toD x, l.map PySem.W.Datum.toD, rfl, sq, dp, ?_, ?_, fun i v hv hi => ?_⟩
    · exact PySem.W.alikeAll_datum (x :: l)
    · exact hd
    · rw [PySem.W.minD_map] at hi
      obtain ⟨a', ha, rv⟩ := r.at' hv
      have ha2 : ((x :: l).map g)[i]? = some a' := ha
      rw [List.getElem?_map] at ha2
      have hi2 : ((x :: l).map PySem.W.Datum.toD)[i]? = some (PySem.W.Datum.toD (PySem.W.minOf x l)) := hi
      rw [List.getElem?_map] at hi2
      cases he : (x :: l)[i]? with
      | none => rw [he] at ha2; cases ha2
      | some y =>
        rw [he] at ha2 hi2
        have e3 : y = PySem.W.minOf x l := datum_inj (Option.some.inj hi2)
        have e4 : a' = g y := (Option.some.inj ha2).symm
        rw [e4, e3] at rv
        exact kc.go rm rv q
theorem minOf_spec {α : Type} [DecidableEq α] [PySem.W.DatumOrd α] (irr : ∀ a : α, PySem.W.DatumOrd.lt a a = false) (tr : ∀ a b c : α, PySem.W.DatumOrd.lt a b = true → PySem.W.DatumOrd.lt b c = true → PySem.W.DatumOrd.lt a c = true) (x : α) (l : List α) :
    PySem.W.minOf x l ∈ x :: l ∧ ∀ y ∈ x :: l, PySem.W.DatumOrd.lt y (PySem.W.minOf x l) = false := by
  have key : ∀ (l : List α) (x : α) (S : List α), x ∈ S → (∀ y ∈ S, PySem.W.DatumOrd.lt y x = false) → PySem.W.minOf x l ∈ S ++ l ∧ ∀ y ∈ S ++ l, PySem.W.DatumOrd.lt y (PySem.W.minOf x l) = false := by
    intro l
    induction l with
    | nil => intro x S h1 h2; rw [List.append_nil]; exact ⟨h1, h2⟩
    | cons z l ih =>
      intro x S h1 h2
      have e : PySem.W.minOf x (z :: l) = PySem.W.minOf (if PySem.W.DatumOrd.lt z x = true then z else x) l := rfl
      rw [e]
      have e2 : S ++ z :: l = (S ++ [z]) ++ l := by rw [List.append_assoc]; rfl
      rw [e2]
      by_cases h : PySem.W.DatumOrd.lt z x = true
      · rw [if_pos h]
        refine ih z (S ++ [z]) (List.mem_append.mpr (.inr (.head _))) fun y hy => ?_
        rcases List.mem_append.mp hy with hy | hy
        · cases hh : PySem.W.DatumOrd.lt y z with
          | false => rfl
          | true => have := tr y z x hh h; rw [h2 y hy] at this; cases this
        · rw [List.mem_singleton.mp hy]; exact irr z
      · rw [if_neg h]
        refine ih x (S ++ [z]) (List.mem_append.mpr (.inl h1)) fun y hy => ?_
        rcases List.mem_append.mp hy with hy | hy
        · exact h2 y hy
        · rw [List.mem_singleton.mp hy]; exact Bool.eq_false_iff.mpr h
  exact key l x [x] (.head _) fun y hy => by rw [List.mem_singleton.mp hy]; exact irr x
theorem ltS_irr (a : Str) : PySem.W.DatumOrd.lt a a = false := decide_eq_false (List.lt_irrefl _)
theorem ltS_tr (a b c : Str) (h : PySem.W.DatumOrd.lt a b = true) (h2 : PySem.W.DatumOrd.lt b c = true) : PySem.W.DatumOrd.lt a c = true := decide_eq_true (List.lt_trans (of_decide_eq_true h) (of_decide_eq_true h2))
theorem ltP_irr (a : Int × Str) : PySem.W.DatumOrd.lt a a = false := by
  show (if a.1 = a.1 then PySem.W.DatumOrd.lt a.2 a.2 else _) = false
  rw [if_pos rfl]; exact ltS_irr a.2
theorem ltP_iff (a b : Int × Str) : PySem.W.DatumOrd.lt a b = true ↔ a.1 < b.1 ∨ (a.1 = b.1 ∧ a.2.cps.toList < b.2.cps.toList) := by
  show (if a.1 = b.1 then PySem.W.DatumOrd.lt a.2 b.2 else PySem.W.DatumOrd.lt a.1 b.1) = true ↔ _
  by_cases h : a.1 = b.1
  · rw [if_pos h]
    constructor
    · intro z; exact .inr ⟨h, of_decide_eq_true z⟩
    · rintro (z | z)
      · omega
      · exact decide_eq_true z.2
  · rw [if_neg h]
    constructor
    · intro z; exact .inl (of_decide_eq_true z)
    · rintro (z | z)
      · exact decide_eq_true z
      · exact absurd z.1 h
theorem ltP_tr (a b c : Int × Str) (h : PySem.W.DatumOrd.lt a b = true) (h2 : PySem.W.DatumOrd.lt b c = true) : PySem.W.DatumOrd.lt a c = true := by
  rw [ltP_iff] at h h2 ⊢
  rcases h with h | ⟨h, g⟩ <;> rcases h2 with h2 | ⟨h2, g2⟩
  · exact .inl (by omega)
  · exact .inl (by omega)
  · exact .inl (by omega)
  · exact .inr ⟨by omega, List.lt_trans g g2⟩
theorem l_minS {z : Str} {zs : List Str} {b : A} (hl : LsA M b ((z :: zs).map A.str)) (q : ∀ m, m ∈ z :: zs → (∀ y ∈ z :: zs, ¬ y.cps.toList < m.cps.toList) → Q (.str m) M) : OL K (rMinD K) [b] M Q := by
  obtain ⟨h1, h2⟩ := minOf_spec ltS_irr ltS_tr z zs
  refine l_minDat A.str (fun x => ⟨by unfold A.isD; rfl, by unfold A.toD; rfl⟩) hl ?_ (q _ h1 fun y hy => of_decide_eq_false (h2 y hy))
  have key : ∀ l : List Str, PyData.depthAll (l.map fun x : Str => (PyData.str x)) ≤ 60 := by
    intro l
    induction l with
    | nil => exact Nat.zero_le _
    | cons y l ih => rw [List.map_cons]; unfold PyData.depthAll; exact Nat.max_le.mpr ⟨by unfold PyData.depth; omega, ih⟩
  exact key (z :: zs)
abbrev isA (x : Int × Str) : A := .tup [.int x.1, .str x.2]
theorem l_minP {z : Int × Str} {zs : List (Int × Str)} {b : A} (hl : LsA M b ((z :: zs).map isA)) (q : ∀ m, m ∈ z :: zs → (∀ y ∈ z :: zs, ¬ (y.1 < m.1 ∨ (y.1 = m.1 ∧ y.2.cps.toList < m.2.cps.toList))) → Q (isA m) M) : OL K (rMinD K) [b] M Q := by
  obtain ⟨h1, h2⟩ := minOf_spec ltP_irr ltP_tr z zs
  refine l_minDat isA (fun x => ⟨by simp [isA, A.isD, isDs], by simp only [isA, A.toD, toDs]; rfl⟩) hl ?_ (q _ h1 fun y hy hh => by
    have := h2 y hy
    rw [(ltP_iff _ _).mpr hh] at this
    cases this)
  have key : ∀ l : List (Int × Str), PyData.depthAll (l.map fun x : Int × Str => (PyData.tuple [.int x.1, .str x.2])) ≤ 60 := by
    intro l
    induction l with
    | nil => exact Nat.zero_le _
    | cons y l ih =>
      rw [List.map_cons]; unfold PyData.depthAll
      refine Nat.max_le.mpr ⟨?_, ih⟩
      simp [PyData.depth, PyData.depthAll]
  exact key (z :: zs)
theorem RvL.rep {D : List Addr} {vs : List V} (r : RvL K D H xs vs) : ∀ n : Nat, RvL K D H (List.replicate n xs).flatten (List.replicate n vs).flatten
  | 0 => .nil
  | n + 1 => by rw [List.replicate_succ, List.replicate_succ, List.flatten_cons, List.flatten_cons]; exact r.app (RvL.rep r n)
theorem o_rep {l : A} {k : Int} (h1 : LpA M l xs) (h2 : -(2 ^ 63) ≤ k) (h3 : k < 2 ^ 63) (h4 : xs.length * k.toNat ≤ sizeLine) (q : Q (.lst (List.replicate k.toNat xs).flatten) M) : O2 K rRep l (.int k) M Q := fun x y H Qc rx ry rm kc => by
  cases ry
  obtain ⟨p, vs, rfl, e, r⟩ := h1.of rx rm
  exact ⟨p, k, vs, rfl, rfl, e, h2, h3, by rw [← r.len]; exact h4, fun p hp => kc.newL rm hp (r.rep _) q⟩
/-! ### dicts -/
def keyA : Key → A
  | .inl i => .int i
  | .inr z => .str z
theorem key_of {k : Key} {D : List Addr} (rv : Rv K D H (keyA k) v) : v = kV k := by
  cases k <;> (cases rv; rfl)
def valA {κ : Type} [DecidableEq κ] (kvs : List (κ × A)) (k : κ) : Option A := (kvs.find? fun kv => decide (kv.1 = k)).map (·.2)
def putA {κ : Type} [DecidableEq κ] (kvs : List (κ × A)) (k : κ) (v : A) : List (κ × A) :=
  if (kvs.any fun kv => decide (kv.1 = k)) = true then kvs.map (fun kv => if kv.1 = k then (kv.1, v) else kv) else kvs ++ [(k, v)]
theorem KvR.len {κ : Type} {D : List Addr} {kvs : List (κ × A)} {ws : List (κ × V)} (h : KvR K D H kvs ws) : kvs.length = ws.length := Paired.length h
theorem KvR.get {κ : Type} [DecidableEq κ] {D : List Addr} {kvs : List (κ × A)} {ws : List (κ × V)} (h : KvR K D H kvs ws) (k : κ) : (valA kvs k = none ∧ valV ws k = none) ∨ ∃ a v, valA kvs k = some a ∧ valV ws k = some v ∧ Rv K D H a v := by
  unfold KvR at h
  induction h with
  | nil => exact .inl ⟨rfl, rfl⟩
  | @cons x y l1 l2 r _ ih =>
    unfold valA valV at ih ⊢
    rw [List.find?_cons, List.find?_cons, ← r.1]
    by_cases e : x.1 = k
    · rw [decide_eq_true e]
      exact .inr ⟨x.2, y.2, rfl, rfl, r.2⟩
    · rw [decide_eq_false e]
      exact ih
theorem KvR.any {κ : Type} [DecidableEq κ] {D : List Addr} {kvs : List (κ × A)} {ws : List (κ × V)} (h : KvR K D H kvs ws) (k : κ) : (kvs.any fun kv => decide (kv.1 = k)) = ws.any fun kv => decide (kv.1 = k) := by
  unfold KvR at h
  induction h with
  | nil => rfl
  | cons r _ ih => rw [List.any_cons, List.any_cons, ih, r.1]
theorem KvR.put {κ : Type} [DecidableEq κ] {D : List Addr} {kvs : List (κ × A)} {ws : List (κ × V)} (h : KvR K D H kvs ws) (k : κ) (rv : Rv K D H a v) : KvR K D H (putA kvs k a) (putK ws k v) := by
  unfold putA putK
  rw [h.any k]
  split
  · rename_i hh
    clear hh
    unfold KvR at h ⊢
    induction h with
    | nil => exact .nil
    | @cons x y l1 l2 r _ ih =>
      rw [List.map_cons, List.map_cons]
      refine .cons ?_ ih
      rw [← r.1]
      by_cases e : x.1 = k
      · rw [if_pos e, if_pos e]; exact ⟨rfl, rv⟩
      · rw [if_neg e, if_neg e]; exact r
  · exact Paired.snoc h ⟨rfl, rv⟩
theorem e_dnew (q : ∀ p, Q (.loc p) ((p, .dic []) :: M)) : EE K Ex Xa tDNewK s M Q := fun σ H Qc rep k p hp =>
  k _ _ ((p, .dic []) :: M) _ (Step.alloc hp) (rep.rm.new hp ⟨[], upd_same, .nil⟩) (.loc p) (q p)
theorem e_dget (h : EE K Ex Xa td s M fun d M1 => EE K Ex Xa ty s M1 fun y M2 => ∃ p kvs k v, d = .loc p ∧ Lk M2 p (.dic kvs) ∧ y = keyA k ∧ valA kvs k = some v ∧ Q v M2) : EE K Ex Xa (tDGet td ty) s M Q := fun σ H Qc rep k =>
  h σ H _ rep fun d v M1 H1 st rm rv hy => hy σ H1 _ (rep.step st rm) fun y w M2 H2 st2 rm2 rw2 ⟨p, kvs, ky, va, e1, lk, e2, hv, q⟩ => by
    subst e1 e2
    cases rv
    have := key_of rw2
    subst this
    obtain ⟨ws, hw, r⟩ := rm2.cell _ lk.mem
    rcases r.get ky with ⟨z, _⟩ | ⟨a, u, g1, g2, g3⟩
    · rw [hv] at z; cases z
    · rw [hv] at g1
      cases g1
      have dg := DGet.k (k := ky) hw
      rw [g2] at dg
      exact ⟨p, u, rfl, dg, (k.step (st.trans st2)).go rm2 g3 q⟩
theorem e_din (h : EE K Ex Xa ty s M fun y M1 => EE K Ex Xa td s M1 fun d M2 => ∃ p kvs k, d = .loc p ∧ Lk M2 p (.dic kvs) ∧ y = keyA k ∧ Q (.bl (valA kvs k).isSome) M2) : EE K Ex Xa (tDIn ty td) s M Q := fun σ H Qc rep k =>
  h σ H _ rep fun y w M1 H1 st rm rv hy => hy σ H1 _ (rep.step st rm) fun d v M2 H2 st2 rm2 rw2 ⟨p, kvs, ky, e1, lk, e2, q⟩ => by
    subst e1 e2
    cases rw2
    have := key_of rv
    subst this
    obtain ⟨ws, hw, r⟩ := rm2.cell _ lk.mem
    refine ⟨p, valV ws ky, rfl, DGet.k hw, ?_⟩
    have e : (valV ws ky).isSome = (valA kvs ky).isSome := by
      rcases r.get ky with ⟨z1, z2⟩ | ⟨a, u, g1, g2, _⟩
      · rw [z1, z2]; rfl
      · rw [g1, g2]; rfl
    rw [e]
    exact (k.step (st.trans st2)).go rm2 (.bl _) q
theorem e_dnin (h : EE K Ex Xa ty s M fun y M1 => EE K Ex Xa td s M1 fun d M2 => ∃ p kvs k, d = .loc p ∧ Lk M2 p (.dic kvs) ∧ y = keyA k ∧ Q (.bl (!(valA kvs k).isSome)) M2) : EE K Ex Xa (tDNotIn ty td) s M Q := fun σ H Qc rep k =>
  h σ H _ rep fun y w M1 H1 st rm rv hy => hy σ H1 _ (rep.step st rm) fun d v M2 H2 st2 rm2 rw2 ⟨p, kvs, ky, e1, lk, e2, q⟩ => by
    subst e1 e2
    cases rw2
    have := key_of rv
    subst this
    obtain ⟨ws, hw, r⟩ := rm2.cell _ lk.mem
    refine ⟨p, valV ws ky, rfl, DGet.k hw, ?_⟩
    have e : (valV ws ky).isSome = (valA kvs ky).isSome := by
      rcases r.get ky with ⟨z1, z2⟩ | ⟨a, u, g1, g2, _⟩
      · rw [z1, z2]; rfl
      · rw [g1, g2]; rfl
    rw [e]
    exact (k.step (st.trans st2)).go rm2 (.bl _) q
theorem s_dput {Nx : Sv → AM → Prop} {Rt : QA} {Bk Ct : Sv → AM → Prop} (h : EE K Ex Xa tv s M fun a M1 => EE K Ex Xa td s M1 fun d M2 => EE K Ex Xa ty s M2 fun y M3 => ∃ p kvs k M4, d = .loc p ∧ y = keyA k ∧ Up M3 p (.dic kvs) (.dic (putA kvs k a)) M4 ∧ kvs.length < sizeLine ∧ Nx s M4) : ES K Ex Xa (sDPut td ty tv) s M Nx Rt Bk Ct := fun σ H D rep kn kr kb kt =>
  h σ H _ rep fun a v M1 H1 st rm rv hd => hd σ H1 _ (rep.step st rm) fun d w M2 H2 st2 rm2 rw2 hy => hy σ H2 _ (rep.step (st.trans st2) rm2) fun y u M3 H3 st3 rm3 ru ⟨p, kvs, ky, M4, e1, e2, up, hl, q⟩ => by
    subst e1 e2
    cases rw2
    have := key_of ru
    subst this
    obtain ⟨ws, hw, r⟩ := rm3.cell _ up.mem
    have hm : p ∈ ad M3 := List.mem_map.mpr ⟨_, up.mem, rfl⟩
    have st4 : ∀ {o : HO}, Step (ad M3) H3 (ad M3) (upd H3 p o) := Step.write hm
    have rm4 : RM K M4 (upd H3 p (.dK (putK ws ky v))) := rm3.put up ⟨_, upd_same, (r.step st4).put ky ((rv.step (st2.trans st3)).step st4)⟩
    have st5 : Step (ad M3) H3 (ad M4) (upd H3 p (.dK (putK ws ky v))) := by rw [up.ad]; exact st4
    have st15 := ((st.trans st2).trans st3).trans st5
    exact ⟨p, _, rfl, DPut.k hw (by rw [← r.len]; exact hl), kn s M4 σ _ st15 (rep.step st15 rm4) q⟩
/-- dict([(k, v), ..]) -/
def rDictPA (K : PySem.W.Frag) : List V → Hp → VK → Prop := fun xs H Q => ∃ (a : Addr) (ps : List Addr) (kvs : List (Key × V)), xs = [.ref a] ∧ SqL K H a (ps.map V.ref) ∧ Paired (fun p kv => SqT K H p [kV kv.1, kv.2]) ps kvs ∧ ∀ p, H p = none → Q (.ref p) (upd H p (.dK (mergeK [] kvs)))
def mergeA (kvs more : List (Key × A)) : List (Key × A) := more.foldl (fun acc kv => putA acc kv.1 kv.2) kvs
theorem KvR.merge {D : List Addr} {kvs : List (Key × A)} {ws : List (Key × V)} : ∀ {acc : List (Key × A)} {wcc : List (Key × V)}, KvR K D H acc wcc → KvR K D H kvs ws → KvR K D H (mergeA acc kvs) (mergeK wcc ws) := by
  intro acc wcc h1 h2
  unfold KvR at h2
  induction h2 generalizing acc wcc with
  | nil => exact h1
  | @cons x y l1 l2 r _ ih =>
    show KvR K D H (mergeA (putA acc x.1 x.2) l1) (mergeK (putK wcc y.1 y.2) l2)
    rw [← r.1]
    exact ih (h1.put x.1 r.2)
theorem putA_new {kvs : List (Key × A)} {k : Key} {a : A} (h : k ∉ kvs.map (·.1)) : putA kvs k a = kvs ++ [(k, a)] := by
  unfold putA
  rw [if_neg]
  intro z
  obtain ⟨x, hx, e⟩ := List.any_eq_true.mp z
  exact h (List.mem_map.mpr ⟨x, hx, of_decide_eq_true e⟩)
theorem mergeA_nodup : ∀ {kvs acc : List (Key × A)}, ((acc ++ kvs).map (·.1)).Nodup → mergeA acc kvs = acc ++ kvs
  | [], acc, _ => by rw [List.append_nil]; rfl
  | x :: kvs, acc, h => by
    show mergeA (putA acc x.1 x.2) kvs = _
    rw [putA_new, mergeA_nodup (acc := acc ++ [(x.1, x.2)])]
    · rw [List.append_assoc]; rfl
    · rw [List.append_assoc]; exact h
    · intro m
      rw [List.map_append, List.nodup_append] at h
      exact h.2.2 _ m _ (.head _) rfl
theorem l_dictP {kvs : List (Key × A)} {l : A} (hl : LsA M l (kvs.map fun kv => A.tup [keyA kv.1, kv.2])) (q : ∀ p, Q (.loc p) ((p, .dic (mergeA [] kvs)) :: M)) : OL K (rDictPA K) [l] M Q := fun vs H Qc rv rm kc => by
  cases rv with
  | cons r t =>
    cases t
    obtain ⟨p, ws, rfl, sq, r⟩ := hl.of r rm
    have key : ∀ {kvs : List (Key × A)} {ws : List V}, RvL K (ad M) H (kvs.map fun kv => A.tup [keyA kv.1, kv.2]) ws → ∃ (ps : List Addr) (us : List (Key × V)), ws = ps.map V.ref ∧ Paired (fun p kv => SqT K H p [kV kv.1, kv.2]) ps us ∧ KvR K (ad M) H kvs us := by
      intro kvs
      induction kvs with
      | nil => intro ws r; cases r; exact ⟨[], [], rfl, .nil, .nil⟩
      | cons x kvs ih =>
        intro ws r
        cases r with
        | cons r1 t =>
          obtain ⟨ps, us, e, h1, h2⟩ := ih t
          cases r1 with
          | tup f r2 =>
            rename_i p2 vs2
            cases r2 with
            | cons a1 t2 =>
              cases t2 with
              | cons a2 t3 =>
                cases t3
                have := key_of a1
                subst this
                exact ⟨p2 :: ps, (x.1, _) :: us, by rw [e]; rfl, .cons f.sq h1, .cons ⟨rfl, a2⟩ h2⟩
    obtain ⟨ps, us, e, h1, h2⟩ := key r
    rw [e] at sq
    refine ⟨p, ps, us, rfl, sq, h1, fun p hp => ?_⟩
    have st : ∀ {o : HO}, Step (ad M) H (ad ((p, AO.dic (mergeA [] kvs)) :: M)) (upd H p o) := Step.alloc hp
    exact kc _ _ ((p, .dic (mergeA [] kvs)) :: M) _ st (rm.new hp ⟨_, upd_same, (KvR.merge (acc := []) .nil h2).step st⟩) (.loc p) (q p)
end
end Ab
namespace Ab
open PySem PySem.Spec PyProof.Rows L2 Go
def EPs (K : PySem.W.Frag) (Ex : XK) (Xa : XA) (s : Sv) : List (TE × TE) → AM → (List (A × A) → AM → Prop) → Prop
  | [], M, Q => Q [] M
  | x :: r, M, Q => EE K Ex Xa x.1 s M fun k M1 => EE K Ex Xa x.2 s M1 fun v M2 => EPs K Ex Xa s r M2 fun l M3 => Q ((k, v) :: l) M3
def PvR (K : PySem.W.Frag) (D : List Addr) (H : Hp) (l : List (A × A)) (ps : List (V × V)) : Prop := Paired (fun (x : A × A) (y : V × V) => Rv K D H x.1 y.1 ∧ Rv K D H x.2 y.2) l ps
section
variable {K : PySem.W.Frag} {Ex : XK} {Xa : XA} {s : Sv} {M M' : AM} {H : Hp} {Q : QA}
theorem PvR.step {D D' : List Addr} {H' : Hp} {l : List (A × A)} {ps : List (V × V)} (h : PvR K D H l ps) (st : Step D H D' H') : PvR K D' H' l ps := by
  unfold PvR at h ⊢
  induction h with
  | nil => exact .nil
  | cons a _ ih => exact .cons ⟨a.1.step st, a.2.step st⟩ ih
theorem pairs_of {σ : L2.St} : ∀ {trs : List (TE × TE)} {M : AM} {H : Hp} {Q : List (A × A) → AM → Prop} {Qc : List (V × V) → Hp → Prop}, EPs K Ex Xa s trs M Q → Rep K Ex Xa s M σ H →
    (∀ l ps M' H', Step (ad M) H (ad M') H' → RM K M' H' → PvR K (ad M') H' l ps → Q l M' → Qc ps H') → tPairs trs σ H Qc
  | [], M, H, Q, Qc, h, rep, k => k [] [] M H (Step.refl _ _) rep.rm .nil h
  | x :: r, M, H, Q, Qc, h, rep, k => by
    refine (show EE K Ex Xa x.1 s M _ from h) σ H _ rep fun a v M1 H1 st rm rv h1 => h1 σ H1 _ (rep.step st rm) fun b w M2 H2 st2 rm2 rw2 h2 => ?_
    exact pairs_of h2 (rep.step (st.trans st2) rm2) fun l ps M3 H3 st3 rm3 hp q => k _ _ M3 H3 ((st.trans st2).trans st3) rm3 (.cons ⟨rv.step (st2.trans st3), rw2.step st3⟩ hp) q
theorem e_disp {trs : List (TE × TE)} (h : ∀ p, EPs K Ex Xa s trs ((p, .dic []) :: M) fun l M1 => ∃ (kvs : List (Key × A)) (M2 : AM), l = kvs.map (fun kv => (keyA kv.1, kv.2)) ∧ kvs.length ≤ 15 ∧ Up M1 p (.dic []) (.dic (mergeA [] kvs)) M2 ∧ Q (.loc p) M2) : EE K Ex Xa (tDisp trs) s M Q := fun σ H Qc rep k p hp => by
  have rm1 : RM K ((p, .dic []) :: M) (upd H p (.dK [])) := rep.rm.new hp ⟨[], upd_same, .nil⟩
  have st1 : Step (ad M) H (ad ((p, AO.dic []) :: M)) (upd H p (.dK [])) := Step.alloc hp
  refine pairs_of (h p) (rep.step st1 rm1) fun l ps M1 H1 st rm hps ⟨kvs, M2, e, hl, up, q⟩ => ?_
  obtain ⟨ws, hw, r⟩ := rm.cell _ up.mem
  cases r
  have key : ∀ {kvs : List (Key × A)} {ps : List (V × V)}, PvR K (ad M1) H1 (kvs.map fun kv => (keyA kv.1, kv.2)) ps → ∃ us : List (Key × V), ps = us.map (fun kv => (kV kv.1, kv.2)) ∧ KvR K (ad M1) H1 kvs us := by
    intro kvs
    induction kvs with
    | nil => intro ps r; cases r; exact ⟨[], rfl, .nil⟩
    | cons x kvs ih =>
      intro ps r
      cases r with
      | @cons _ y _ _ r1 t =>
        obtain ⟨us, e, h2⟩ := ih t
        have e1 := key_of r1.1
        exact ⟨(x.1, y.2) :: us, by rw [e, List.map_cons]; exact congrArg (· :: _) (Prod.ext e1 rfl), .cons ⟨rfl, r1.2⟩ h2⟩
  rw [e] at hps
  obtain ⟨us, e2, h2⟩ := key hps
  have hm : p ∈ ad M1 := List.mem_map.mpr ⟨_, up.mem, rfl⟩
  have st4 : ∀ {o : HO}, Step (ad M1) H1 (ad M1) (upd H1 p o) := Step.write hm
  refine ⟨hw, us, e2, by rw [← h2.len]; exact hl, ?_⟩
  refine k _ _ M2 _ ((st1.trans st).trans (by rw [up.ad]; exact st4)) (rm.put up ⟨_, upd_same, (KvR.merge (acc := []) .nil h2).step st4⟩) (.loc p) q
end
end Ab
namespace Ab
open PySem PySem.Spec PyProof.Rows L2 Go
section
variable {K : PySem.W.Frag} {Ex : XK} {Xa : XA} {s : Sv} {M M' : AM} {H : Hp} {Q : QA}
theorem RM.perm (r : RM K M H) (h : M.Perm M') : RM K M' H := by
  have hs : Step (ad M) H (ad M') H := Step.sub fun p hp => (h.map _).mem_iff.mpr hp
  exact ⟨fun x hx => (r.cell x (h.mem_iff.mpr hx)).step hs rfl fun q hq => r.mut hq, (h.map _).nodup r.nd⟩
theorem Step.perm (h : M.Perm M') : Step (ad M) H (ad M') H := Step.sub fun p hp => (h.map _).mem_iff.mpr hp
/-- the order of what may change is nothing -/
theorem s_perm {t : TS} {Nx : Sv → AM → Prop} {Rt : QA} {Bk Ct : Sv → AM → Prop} (h : M.Perm M') (q : ES K Ex Xa t s M' Nx Rt Bk Ct) : ES K Ex Xa t s M Nx Rt Bk Ct := fun σ H D rep kn kr kb kt => by
  have st := Step.perm (H := H) h
  exact q σ H D (rep.step st (rep.rm.perm h)) (kn.step st) (kr.step st) (kb.step st) (kt.step st)
/-- .. at a statement's end -/
theorem s_permN {t : TS} {Nx : Sv → AM → Prop} {Rt : QA} {Bk Ct : Sv → AM → Prop} (q : ES K Ex Xa t s M (fun s1 M1 => ∃ M2, M1.Perm M2 ∧ Nx s1 M2) Rt Bk Ct) : ES K Ex Xa t s M Nx Rt Bk Ct := fun σ H D rep kn kr kb kt =>
  q σ H D rep (fun s1 M1 σ1 H1 st rep1 ⟨M2, h, q2⟩ => kn s1 M2 σ1 H1 (st.trans (Step.perm h)) (rep1.step (Step.perm h) (rep1.rm.perm h)) q2) kr kb kt
theorem cut_to {xs : List A} (m : Nat) : cutA xs none (some (m : Int)) = xs.take m := by
  unfold cutA
  have e1 : HT.sIx xs.length 0 none = 0 := rfl
  rw [e1, List.drop_zero, Nat.sub_zero]
  have e2 : HT.sIx xs.length xs.length (some (m : Int)) = min m xs.length := by
    simp only [HT.sIx]
    split <;> omega
  rw [e2]
  by_cases h : m ≤ xs.length
  · rw [Nat.min_eq_left h]
  · rw [Nat.min_eq_right (by omega), List.take_of_length_le (Nat.le_refl _), List.take_of_length_le (by omega)]
theorem cut_from {xs : List A} (m : Nat) : cutA xs (some (m : Int)) none = xs.drop m := by
  unfold cutA
  have e1 : HT.sIx xs.length xs.length none = xs.length := rfl
  have e2 : HT.sIx xs.length 0 (some (m : Int)) = min m xs.length := by
    simp only [HT.sIx]
    split <;> omega
  rw [e1, e2]
  by_cases h : m ≤ xs.length
  · rw [Nat.min_eq_left h, List.take_of_length_le (by rw [List.length_drop]; omega)]
  · rw [Nat.min_eq_right (by omega), List.drop_of_length_le (Nat.le_refl _), List.drop_of_length_le (by omega), List.take_nil]
/-- lists side by side -/
abbrev zipC (qs : List Addr) (ls : List (List A)) : AM := List.zipWith (fun q l => (q, AO.lst l)) qs ls
theorem zip_up {M : AM} {l l' : List A} {q : Addr} : ∀ {qs : List Addr} {ls : List (List A)} {a : Nat}, qs[a]? = some q → ls[a]? = some l → Up (zipC qs ls ++ M) q (.lst l) (.lst l') (zipC qs (ls.set a l') ++ M)
  | [], _, _, h, _ => by cases h
  | _ :: _, [], _, _, h => by cases h
  | q0 :: qs, l0 :: ls, 0, h1, h2 => by cases h1; cases h2; exact .here
  | q0 :: qs, l0 :: ls, a + 1, h1, h2 => .there (zip_up (qs := qs) (ls := ls) (a := a) h1 h2)
theorem Up.lk {M M' : AM} {p : Addr} {o o' : AO} (h : Up M p o o' M') : Lk M p o := by
  induction h with
  | here => exact .here
  | there _ ih => exact .there ih
abbrev zipD (zs : List Str) (qs : List Addr) : List (Key × A) := List.zipWith (fun z q => ((.inr z : Key), A.loc q)) zs qs
theorem zip_val : ∀ {zs : List Str} {qs : List Addr} {a : Nat} {z : Str} {q : Addr}, zs.Nodup → zs[a]? = some z → qs[a]? = some q → valA (zipD zs qs) (.inr z) = some (.loc q)
  | [], _, _, _, _, _, h, _ => by cases h
  | _ :: _, [], _, _, _, _, _, h => by cases h
  | z0 :: zs, q0 :: qs, 0, z, q, _, h1, h2 => by
    cases h1; cases h2
    unfold valA
    show ((List.find? _ (((Sum.inr z0 : Key), A.loc q0) :: zipD zs qs)).map (·.2)) = _
    rw [List.find?_cons, decide_eq_true rfl]; rfl
  | z0 :: zs, q0 :: qs, a + 1, z, q, nd, h1, h2 => by
    obtain ⟨n1, n2⟩ := List.nodup_cons.mp nd
    have ih := zip_val (zs := zs) (qs := qs) (a := a) n2 h1 h2
    unfold valA at ih ⊢
    show ((List.find? _ (((Sum.inr z0 : Key), A.loc q0) :: zipD zs qs)).map (·.2)) = _
    have hne : ¬ ((Sum.inr z0 : Key) = .inr z) := fun e => n1 (by rw [Sum.inr.inj e]; exact List.mem_of_getElem? h1)
    rw [List.find?_cons, decide_eq_false hne]
    exact ih
theorem zip_put {zs : List Str} {qs : List Addr} {z : Str} {q : Addr} (hl : zs.length = qs.length) (h : z ∉ zs) : putA (zipD zs qs) (.inr z) (.loc q) = zipD (zs ++ [z]) (qs ++ [q]) := by
  rw [putA_new]
  · show _ = List.zipWith _ (zs ++ [z]) (qs ++ [q])
    rw [List.zipWith_append hl]; rfl
  · intro m
    obtain ⟨x, hx, e⟩ := List.mem_map.mp m
    obtain ⟨i, hi⟩ := List.getElem?_of_mem hx
    rw [List.getElem?_zipWith] at hi
    cases h1 : zs[i]? with
    | none => rw [h1] at hi; cases hi
    | some w =>
      cases h2 : qs[i]? with
      | none => rw [h1, h2] at hi; cases hi
      | some u =>
        rw [h1, h2] at hi
        cases hi
        have : w = z := Sum.inr.inj e
        exact h (by rw [← this]; exact List.mem_of_getElem? h1)
theorem ctx_app {M : AM} {p : Addr} {o : AO} {C : AO → AM} (h : Ctx M p o C) : ∀ {L : AM}, Ctx (L ++ M) p o (fun u => L ++ C u)
  | [] => h
  | _ :: L => .there (ctx_app h (L := L))
theorem dn_zip {Q : QA} {a : A} {M : AM} (q : Dn Q a M) : ∀ {qs : List Addr} {ls : List (List A)}, Dn Q a (zipC qs ls ++ M)
  | [], _ => q
  | _ :: _, [] => q
  | _ :: qs, _ :: ls => dnD (dn_zip q (qs := qs) (ls := ls))
theorem LsA.sub {a : A} {xs : List A} (h : LsA M a xs) (up : Sub M M') : LsA M' a xs := by
  cases h with
  | lst => exact .lst
  | loc h => exact .loc (up _ _ h)
  | scr => exact .scr
/-- things are let go at a statement's end -/
theorem s_subN {t : TS} {Nx : Sv → AM → Prop} {Rt : QA} {Bk Ct : Sv → AM → Prop} (q : ES K Ex Xa t s M (fun s1 M1 => ∃ M2, M2.Sublist M1 ∧ Nx s1 M2) Rt Bk Ct) : ES K Ex Xa t s M Nx Rt Bk Ct := fun σ H D rep kn kr kb kt =>
  q σ H D rep (fun s1 M1 σ1 H1 st rep1 ⟨M2, h, q2⟩ => by
    have st2 : Step (ad M1) H1 (ad M2) H1 := Step.sub fun p hp => (h.map _).mem hp
    have rm2 : RM K M2 H1 := ⟨fun x hx => (rep1.rm.cell x (h.mem hx)).step st2 rfl fun q hq => rep1.rm.mut hq, rep1.rm.nd.sublist (h.map _)⟩
    exact kn s1 M2 σ1 H1 (st.trans st2) (rep1.step st2 rm2) q2) kr kb kt
end
end Ab

namespace Sum
open PySem PySem.Spec PyProof.Rows L2 Go
local macro_rules | `(tactic| walk_at "isi") => `(tactic| first
  | with_reducible refine Go.i_int_int ?_
  | with_reducible refine Go.i_int_bool ?_
  | with_reducible refine Go.i_int_str ?_
  | with_reducible refine Go.i_int_list ?_
  | with_reducible refine Go.i_int_tuple ?_
  | with_reducible refine Go.i_bl_int ?_
  | with_reducible refine Go.i_bl_bool ?_
  | with_reducible refine Go.i_bl_str ?_
  | with_reducible refine Go.i_bl_list ?_
  | with_reducible refine Go.i_bl_tuple ?_
  | with_reducible refine Go.i_str_int ?_
  | with_reducible refine Go.i_str_bool ?_
  | with_reducible refine Go.i_str_str ?_
  | with_reducible refine Go.i_str_list ?_
  | with_reducible refine Go.i_str_tuple ?_
  | with_reducible refine Go.i_non_int ?_
  | with_reducible refine Go.i_non_bool ?_
  | with_reducible refine Go.i_non_str ?_
  | with_reducible refine Go.i_non_list ?_
  | with_reducible refine Go.i_non_tuple ?_
  | ((with_reducible refine' Go.i_lst_int ?hh ?_); (case hh => walk_at "heap"))
  | ((with_reducible refine' Go.i_lst_bool ?hh ?_); (case hh => walk_at "heap"))
  | ((with_reducible refine' Go.i_lst_str ?hh ?_); (case hh => walk_at "heap"))
  | ((with_reducible refine' Go.i_lst_list ?hh ?_); (case hh => walk_at "heap"))
  | ((with_reducible refine' Go.i_lst_tuple ?hh ?_); (case hh => walk_at "heap"))
  | ((with_reducible refine' Go.i_tup_int ?hh ?_); (case hh => walk_at "heap"))
  | ((with_reducible refine' Go.i_tup_bool ?hh ?_); (case hh => walk_at "heap"))
  | ((with_reducible refine' Go.i_tup_str ?hh ?_); (case hh => walk_at "heap"))
  | ((with_reducible refine' Go.i_tup_list ?hh ?_); (case hh => walk_at "heap"))
  | ((with_reducible refine' Go.i_tup_tuple ?hh ?_); (case hh => walk_at "heap"))
  | ((with_reducible refine' Go.i_dK_int ?hh ?_); (case hh => walk_at "heap"))
  | ((with_reducible refine' Go.i_dK_bool ?hh ?_); (case hh => walk_at "heap"))
  | ((with_reducible refine' Go.i_dK_str ?hh ?_); (case hh => walk_at "heap"))
  | ((with_reducible refine' Go.i_dK_list ?hh ?_); (case hh => walk_at "heap"))
  | ((with_reducible refine' Go.i_dK_tuple ?hh ?_); (case hh => walk_at "heap")))
local macro_rules | `(tactic| walk_at "heap") => `(tactic| first | assumption | exact upd_same | (refine Go.keep ?_ (by assumption); walk_at "heap") | (refine Go.get (by assumption) ?_; walk_at "heap"))
local macro_rules | `(tactic| walk_at "s") => `(tactic| first
  | with_reducible refine Go.w_seq ?_
  | with_reducible refine Go.w_asg ?_
  | with_reducible refine Go.w_op ?_
  | ((with_reducible refine' Go.w_var ?hh ?_); (case hh => exact rfl))
  | with_reducible refine Go.w_con ?_
  | with_reducible refine Go.w_I0 ?_
  | ((with_reducible refine Go.w_mulI ?hh ?_); (case hh => first | exact Or.inl ⟨by decide, by decide⟩ | exact Or.inr ⟨by decide, by decide⟩))
  | ((with_reducible refine Go.w_modI ?hh ?_); (case hh => first | decide | omega))
  | ((with_reducible refine Go.w_divI ?hh ?_); (case hh => exact ⟨by decide +kernel, by decide +kernel⟩))
  | ((with_reducible refine Go.w_powI ?hh ?_); (case hh => exact ⟨by decide +kernel, by decide +kernel, by decide +kernel⟩))
  | ((with_reducible refine Go.w_shrI ?hh ?_); (case hh => first | decide | omega))
  | with_reducible refine Go.w_if ?_
  | with_reducible refine Go.w_test ?_
  | with_reducible refine Go.w_tB ?_
  | with_reducible refine Go.w_k ?_
  | with_reducible refine Go.w_call ?_
  | with_reducible refine Go.w_cons ?_
  | with_reducible refine Go.w_nil ?_
  | with_reducible refine Go.w_ret ?_
  | with_reducible refine Go.w_cb ?_
  | with_reducible refine Go.w_tup ?_
  | with_reducible refine Go.w_lst ?_
  | ((with_reducible refine Go.w_eq ?hh ?_); (case hh => exact rfl))
  | ((with_reducible refine Go.w_ne ?hh ?_); (case hh => exact rfl))
  | with_reducible refine Go.w_or ?_
  | with_reducible refine Go.w_and ?_
  | with_reducible refine Go.w_not ?_
  | with_reducible refine Go.w_next ?_
  | with_reducible refine Go.w_drop ?_
  | with_reducible refine Go.w_un ?_
  | with_reducible refine Go.w_U ?_
  | with_reducible refine Go.w_orV ?_
  | with_reducible refine Go.w_andV ?_
  | with_reducible refine Go.w_notV ?_
  | with_reducible refine Go.w_orT ?_
  | with_reducible refine Go.w_andT ?_
  | with_reducible refine Go.w_truI ?_
  | with_reducible refine Go.w_isB ?_
  | with_reducible refine Go.w_notB ?_
  | with_reducible refine Go.w_isN ?_
  | with_reducible refine Go.w_notN ?_
  | with_reducible refine Go.w_chain ?_
  | with_reducible refine Go.w_ifE ?_
  | with_reducible refine Go.w_abs ?_
  | with_reducible refine Go.w_intB ?_
  | with_reducible refine Go.w_sub ?_
  | with_reducible refine Go.w_par ?_
  | with_reducible refine Go.w_sl ?_
  | with_reducible refine Go.w_noPart ?_
  | with_reducible refine Go.w_part ?_
  | with_reducible refine Go.w_partI ?_
  | ((with_reducible refine' Go.w_ixT ?h1 ?h2 ?_); (case h1 => (apply Go.sqT; walk_at "heap")); (case h2 => exact rfl))
  | ((with_reducible refine' Go.w_ixL ?h1 ?h2 ?_); (case h1 => (apply Go.sqL; walk_at "heap")); (case h2 => exact rfl))
  | ((with_reducible refine' Go.w_lenT ?h1 ?_); (case h1 => (apply Go.sqT; walk_at "heap")))
  | ((with_reducible refine' Go.w_lenL ?h1 ?_); (case h1 => (apply Go.sqL; walk_at "heap")))
  | ((with_reducible refine' Go.w_ixsT ?h1 ?h2 ?_); (case h1 => (apply Go.sqT; walk_at "heap")); (case h2 => exact rfl))
  | ((with_reducible refine' Go.w_ixsL ?h1 ?h2 ?_); (case h1 => (apply Go.sqL; walk_at "heap")); (case h2 => exact rfl))
  | with_reducible refine Go.w_bm ?_
  | with_reducible refine Go.w_bm0 ?_
  | ((with_reducible refine' Go.w_tyL ?h1 ?_); (case h1 => walk_at "heap"))
  | with_reducible refine Go.w_tyS ?_
  | with_reducible refine Go.w_min2 ?_
  | with_reducible refine Go.w_max2 ?_
  | with_reducible refine Go.w_bits ?_
  | with_reducible refine Go.w_bitsI ?_
  | with_reducible refine Go.w_gName ?_
  | ((with_reducible refine' Go.w_gTup ?h1 ?h2 ?_); (case h1 => (apply Go.sqT; walk_at "heap")); (case h2 => exact rfl))
  | ((with_reducible refine' Go.w_gUnl ?h1 ?h2 ?_); (case h1 => (apply Go.sqL; walk_at "heap")); (case h2 => exact rfl))
  | with_reducible refine Go.w_gCons ?_
  | with_reducible refine Go.w_gNil ?_
  | with_reducible refine Go.w_asgG ?_
  | walk_at "isi"
  | with_reducible refine Go.w_forI ?_
  | with_reducible refine Go.w_iL ?_
  | with_reducible refine Go.w_iT ?_
  | with_reducible refine Go.w_iZT ?_
  | with_reducible refine Go.w_iR1 ?_
  | with_reducible refine Go.w_iR2 ?_
  | with_reducible refine Go.w_lc ?_
  | ((with_reducible refine Go.if_t ?hh ?_); (case hh => exact rfl))
  | ((with_reducible refine Go.if_f ?hh ?_); (case hh => exact rfl)))
local macro_rules | `(tactic| walk_at "go") => `(tactic| repeat (walk_at "s"))

open Ab
local macro_rules | `(tactic| walk_at "lk") => `(tactic| first | exact Ab.Lk.here | (apply Ab.Lk.there; walk_at "lk") | exact Ab.Ctx.lk (by assumption) | exact Ab.Ctx.lk (by apply_assumption))
local macro_rules | `(tactic| walk_at "up") => `(tactic| first | exact Ab.Up.here | (apply Ab.Up.there; walk_at "up") | exact Ab.Ctx.up (by assumption) _ | exact Ab.Ctx.up (by apply_assumption) _)
local macro_rules | `(tactic| walk_at "rm") => `(tactic| first | exact Ab.Rm.here | (apply Ab.Rm.there; walk_at "rm"))
local macro_rules | `(tactic| walk_at "ctx") => `(tactic| first | exact Ab.Ctx.here | assumption | (apply Ab.Ctx.there; walk_at "ctx") | apply_assumption)
local macro_rules | `(tactic| walk_at "ls") => `(tactic| first | exact Ab.LsA.lst | exact Ab.LsA.loc (by walk_at "lk") | exact Ab.LsA.scr)
local macro_rules | `(tactic| walk_at "lp") => `(tactic| first | exact Ab.LpA.lst | exact Ab.LpA.loc (by walk_at "lk"))
local macro_rules | `(tactic| walk_at "e") => `(tactic| first
  | with_reducible refine Ab.s_seq ?_
  | with_reducible refine Ab.s_asg ?_
  | with_reducible refine Ab.e_op ?_
  | ((with_reducible refine' Ab.e_var ?hh ?_); (case hh => exact rfl))
  | with_reducible refine Ab.e_int ?_
  | with_reducible refine Ab.e_str ?_
  | with_reducible refine Ab.o_add ?_
  | with_reducible refine Ab.o_subI ?_
  | with_reducible refine Ab.e_B ?_
  | with_reducible refine Ab.e_I ?_
  | with_reducible refine Ab.t_testB ?_
  | with_reducible refine Ab.t_B ?_
  | with_reducible refine Ab.e_call ?_
  | with_reducible refine Ab.a_cons ?_
  | with_reducible refine Ab.a_nil ?_
  | with_reducible refine Ab.s_ret ?_
  | with_reducible refine Ab.e_cb ?_
  | with_reducible refine Ab.e_tup ?_
  | with_reducible refine Ab.e_nilC ?_
  | with_reducible refine Ab.e_lst ?_
  | ((with_reducible refine And.intro ?hl ?_); (case hl => exact Ab.len_ok (Nat.le_of_ble_eq_true rfl)))
  | ((with_reducible refine' Ab.o_ixT ?hh ?_); (case hh => exact rfl))
  | ((with_reducible refine' Ab.o_ixL ?h1 ?h2 ?_); (case h1 => walk_at "ls"); (case h2 => exact rfl))
  | with_reducible refine Ab.o_eqI ?_
  | with_reducible refine Ab.o_eqS ?_
  | with_reducible refine Ab.o_neI ?_
  | with_reducible refine Ab.o_neS ?_
  | with_reducible refine Ab.o_lt ?_
  | with_reducible refine Ab.o_le ?_
  | with_reducible refine Ab.o_gt ?_
  | with_reducible refine Ab.o_ge ?_
  | with_reducible refine Ab.o_isN ?_
  | with_reducible refine Ab.o_notN ?_
  | with_reducible refine Ab.e_bl ?_
  | with_reducible refine Ab.e_non ?_
  | with_reducible refine Ab.e_ty ?_
  | with_reducible refine Ab.t_or ?_
  | with_reducible refine Ab.t_and ?_
  | with_reducible refine Ab.t_not ?_
  | with_reducible refine Ab.t_yes ?_
  | with_reducible refine Ab.s_next ?_
  | with_reducible refine Ab.s_drop ?_
  | with_reducible refine Ab.s_retN ?_
  | with_reducible refine Ab.e_un ?_
  | with_reducible refine Ab.o_neg ?_
  | with_reducible refine Ab.e_orV ?_
  | with_reducible refine Ab.e_andV ?_
  | with_reducible refine Ab.e_notV ?_
  | with_reducible refine Ab.e_chain ?_
  | with_reducible refine Ab.e_ifE ?_
  | with_reducible refine Ab.s_par ?_
  | with_reducible refine Ab.e_sl ?_
  | with_reducible refine Ab.e_noPart ?_
  | with_reducible refine Ab.e_part ?_
  | with_reducible refine Ab.e_callX ?_
  | with_reducible refine Ab.e_callN ?_
  | ((with_reducible refine Ab.o_mul ?hh ?_); (case hh => first | exact Or.inl ⟨by decide, by decide⟩ | exact Or.inr ⟨by decide, by decide⟩))
  | ((with_reducible refine Ab.o_mod ?hh ?_); (case hh => first | decide | omega))
  | ((with_reducible refine Ab.o_div ?hh ?_); (case hh => exact ⟨by decide +kernel, by decide +kernel⟩))
  | ((with_reducible refine Ab.o_pow ?hh ?_); (case hh => exact ⟨by decide +kernel, by decide +kernel, by decide +kernel⟩))
  | ((with_reducible refine Ab.o_shr ?hh ?_); (case hh => first | decide | omega))
  | with_reducible refine Ab.l_lenT ?_
  | ((with_reducible refine' Ab.l_lenL ?h1 ?_); (case h1 => walk_at "ls"))
  | with_reducible refine Ab.l_abs ?_
  | with_reducible refine Ab.l_intB ?_
  | with_reducible refine Ab.l_min2 ?_
  | with_reducible refine Ab.l_max2 ?_
  | with_reducible refine Ab.l_tupT ?_
  | ((with_reducible refine' Ab.l_tupL ?h1 ?_); (case h1 => walk_at "ls"))
  | ((with_reducible refine' Ab.l_isInt ?h1 ?_); (case h1 => exact rfl))
  | ((with_reducible refine' Ab.l_isBool ?h1 ?_); (case h1 => exact rfl))
  | ((with_reducible refine' Ab.l_isStr ?h1 ?_); (case h1 => exact rfl))
  | ((with_reducible refine' Ab.l_isTuple ?h1 ?_); (case h1 => exact rfl))
  | ((with_reducible refine' Ab.l_isList ?h1 ?_); (case h1 => exact rfl))
  | with_reducible refine Ab.o_isB ?_
  | with_reducible refine Ab.o_notB ?_
  | with_reducible refine Ab.e_bits ?_
  | with_reducible refine Ab.g_name ?_
  | ((with_reducible refine' Ab.g_tup ?h1 ?_); (case h1 => exact rfl))
  | with_reducible refine Ab.g_cons ?_
  | with_reducible refine Ab.g_nil ?_
  | ((with_reducible refine' Ab.c_name ?h1 ?_); (case h1 => decide))
  | ((with_reducible refine' Ab.c_tup ?h1 ?_); (case h1 => exact rfl))
  | with_reducible refine Ab.c_cons ?_
  | with_reducible refine Ab.c_nil ?_
  | with_reducible refine Ab.s_asgG ?_
  | with_reducible refine Ab.s_sub ?_
  | ((with_reducible refine' Ab.o_slL ?h1 ?_); (case h1 => walk_at "ls"))
  | with_reducible refine Ab.o_slT ?_
  | ((with_reducible refine' Ab.e_bmL ?_))
  | with_reducible refine Ab.s_for ?_
  | with_reducible refine Ab.i_tup ?_
  | with_reducible refine Ab.i_lst ?_
  | with_reducible refine Ab.i_rng1 ?_
  | with_reducible refine Ab.i_rng2 ?_
  | with_reducible refine Ab.i_zip ?_
  | with_reducible refine Ab.e_T ?_
  | with_reducible refine Ab.e_L ?_
  | ((with_reducible refine' Ab.e_lsx ?h1 ?_); (case h1 => walk_at "ls"))
  | with_reducible refine Ab.e_dnew ?_
  | with_reducible refine Ab.e_dget ?_
  | with_reducible refine Ab.e_din ?_
  | with_reducible refine Ab.e_dnin ?_
  | with_reducible refine Ab.s_dput ?_
  | with_reducible refine Ab.o_inSign ?_
  | with_reducible refine Ab.o_ltS ?_
  | with_reducible refine Ab.dnF ?_
  | with_reducible refine Ab.dnD ?_
  | with_reducible refine Ab.dn0 ?_
  | ((with_reducible refine Go.if_t ?hh ?_); (case hh => exact rfl))
  | ((with_reducible refine Go.if_f ?hh ?_); (case hh => exact rfl)))
local macro_rules | `(tactic| walk_at "ret") => `(tactic| ((repeat (first | with_reducible refine Ab.dnF ?_ | with_reducible refine Ab.dnD ?_)); with_reducible refine Ab.dn0 ?_))
local macro_rules | `(tactic| walk_at "b") => `(tactic| repeat (walk_at "e"))
local macro_rules | `(tactic| walk_at "a") => `(tactic| repeat (first | walk_at "e" | with_reducible refine Ab.s_if ?_))

/-! ### drawing by a dict -/
def srcO (c : Int) (n : Nat) : AO := .dic [(.inr ("cell" : Str), .int c), (.inr ("at" : Str), .int (n : Int))]
def fCellAt : ASp := fun as M Q => ∃ (ns : List Int) (k : Nat), as = [.scr ns, .int (k : Int)] ∧ ∀ n : Int, Q (.int n) M
def fMixed : ASp := fun as M Q => ∃ (c : Int) (k : Nat), as = [.int c, .int (k : Int)] ∧ k ≤ 2000000 ∧ ∀ n : Int, 0 ≤ n → Q (.int n) M
def fDraw : ASp := fun as M Q => ∃ (l : Addr) (m c : Int) (n : Nat) (C : AO → AM), as = [.loc l, .int m] ∧ Ctx M l (srcO c n) C ∧ n ≤ 1000000 ∧ 0 < m ∧ ∀ d : Int, 0 ≤ d → d < m → Q (.int d) (C (srcO c (n + 1)))
def fPick : ASp := fun as M Q => ∃ (l : Addr) (c : Int) (n : Nat) (C : AO → AM) (b : A) (xs : List A), as = [.loc l, b] ∧ Ctx M l (srcO c n) C ∧ n ≤ 1000000 ∧ (LsA (C (srcO c (n + 1))) b xs ∧ LsA M b xs) ∧ xs ≠ [] ∧ xs.length ≤ 1000000 ∧ ∀ x, x ∈ xs → Q x (C (srcO c (n + 1)))
def isTx (z : Str) : Prop := z.length ≤ 20 ∧ ∀ c ∈ z.cps.toList, 97 ≤ c ∧ c ≤ 122
def isTx8 (z : Str) : Prop := 1 ≤ z.length ∧ z.length ≤ 8 ∧ ∀ c ∈ z.cps.toList, 97 ≤ c ∧ c ≤ 122
theorem isTx8.tx {z : Str} (h : isTx8 z) : isTx z := ⟨by have := h.2.1; omega, h.2.2⟩
def fName : ASp := fun as M Q => ∃ (l : Addr) (c : Int) (n : Nat) (C : AO → AM), as = [.loc l] ∧ Ctx M l (srcO c n) C ∧ n ≤ 900000 ∧ ∀ z n', isTx8 z → n' ≤ n + 9 → Q (.str z) (C (srcO c n'))
def fNames : ASp := fun as M Q => ∃ (l : Addr) (c : Int) (n m : Nat) (C : AO → AM), as = [.loc l, .int (m : Int)] ∧ Ctx M l (srcO c n) C ∧ n ≤ 800000 ∧ m ≤ 8 ∧ ∀ (zs : List Str) n', zs.length = m → zs.Nodup → (∀ z ∈ zs, isTx8 z) → n' ≤ n + 36 * m → Q (.lst (zs.map A.str)) (C (srcO c n'))
def fNumber : ASp := fun as M Q => ∃ (l : Addr) (c : Int) (n : Nat) (C : AO → AM), as = [.loc l] ∧ Ctx M l (srcO c n) C ∧ n ≤ 900000 ∧ ∀ (d : Int) n', -(10 ^ 12) ≤ d → d ≤ 10 ^ 12 → n' ≤ n + 3 → Q (.int d) (C (srcO c n'))
def spLaw (K : PySem.W.Frag) : Sp := fun vs H Q _ => ∃ a ns, vs = [.ref a] ∧ SqL K H a (List.map V.int ns) ∧ ns.length ≤ 63 ∧ ∀ H', Q (.bl true) H'

theorem str_eq {a b : Str} (h : a.cps.toList = b.cps.toList) : a = b := by
  obtain ⟨a⟩ := a
  obtain ⟨b⟩ := b
  have : a = b := Array.toList_inj.mp h
  rw [this]

/-! ### promises: what rolls make sure -/
structure En where
  nm : Str
  li : Int
  ve : Int
  nu : List Int
  ot : List Str
abbrev entD (e : En) : PyData := .tuple [.str e.nm, .int e.li, .int e.ve, .tuple (e.nu.map PyData.int), .tuple (e.ot.map PyData.str)]
def lk (es : List En) (n : Str) : Option En := es.find? fun e => decide (e.nm = n)
/-- come to, entry by entry -/
inductive Rch (es : List En) (a : Str) : Str → Prop
  | here : Rch es a a
  | step {x y : Str} {e : En} (h : Rch es a x) (he : lk es x = some e) (hy : y ∈ e.ot) : Rch es a y
def OkAt (es : List En) (x : Str) (e : En) : Prop := ∀ y ∈ e.ot, ∃ d, lk es y = some d ∧ x ∈ d.ot
def Sure (es : List En) (a : Str) : Prop := ∀ x, Rch es a x → ∃ e, lk es x = some e ∧ OkAt es x e
structure Good (many : Nat) (es : List En) : Prop where
  nd : (es.map (·.nm)).Nodup
  few : es.length ≤ 9
  tx : ∀ e ∈ es, isTx e.nm ∧ e.nu.length = many ∧ e.ot.length ≤ 60 ∧ ∀ z ∈ e.ot, isTx z
/-- the greatest number at k of the entries of S, and the least name that has it -/
def Bk (S : En → Prop) (k : Nat) (m : Int) (z : Str) : Prop := (∃ e, S e ∧ e.nu[k]? = some m ∧ e.nm = z) ∧ (∀ e, S e → ∀ v, e.nu[k]? = some v → v ≤ m) ∧ ∀ e, S e → e.nu[k]? = some m → ¬ e.nm.cps.toList < z.cps.toList
def Res (es : List En) (a : Str) (many n : Nat) (bs : List (Int × Str)) : Prop := (∃ ns : List Str, ns.Nodup ∧ ns.length = n ∧ ∀ z, z ∈ ns ↔ Rch es a z) ∧ bs.length = many ∧ ∀ k m z, bs[k]? = some (m, z) → Bk (fun e => e ∈ es ∧ Rch es a e.nm) k m z
abbrev prD (p : Int × Str) : PyData := .tuple [.int p.1, .str p.2]
abbrev resD (n : Nat) (bs : List (Int × Str)) : PyData := .tuple [.int (n : Int), .tuple (bs.map prD)]
abbrev entA (e : En) : A := .tup [.str e.nm, .int e.li, .int e.ve, .tup (e.nu.map A.int), .tup (e.ot.map A.str)]
def fEntry : ASp := fun as M Q => ∃ es n, as = [.tup (es.map entA), .str n] ∧ (lk es n = none → Q .non M) ∧ ∀ e, lk es n = some e → Q (entA e) M
def fCome : ASp := fun as M Q => ∃ es n many, as = [.tup (es.map entA), .str n] ∧ Good many es ∧ (¬ Sure es n → Q .non M) ∧
  ∀ fs, Sure es n → (fs.map (·.nm)).Nodup → (∀ z, z ∈ fs.map (·.nm) ↔ Rch es n z) → (∀ e ∈ fs, e ∈ es) → fs ≠ [] → Q (.lst (fs.map entA)) M
def fSure : ASp := fun as M Q => ∃ es n many, as = [.tup (es.map entA), .str n] ∧ Good many es ∧ many ≤ 3 ∧ (¬ Sure es n → Q .non M) ∧
  ∀ c bs, Sure es n → Res es n many c bs → Q (.tup [.int (c : Nat), .tup (bs.map isA)]) M
def fDue : ASp := fun as M Q => ∃ es n many, as = [.lst (es.map entA), .str n, .int (many : Nat)] ∧ Good many es ∧ many ≤ 3 ∧ n ∈ es.map (·.nm) ∧ (¬ Sure es n → Q .non M) ∧
  ∀ c bs, Sure es n → Res es n many c bs → Q (.tup [.int (c : Nat), .tup (bs.map isA)]) M

theorem lk_some {es : List En} {n : Str} {e : En} (h : lk es n = some e) : e ∈ es ∧ e.nm = n := by
  have h1 := List.mem_of_find?_eq_some h
  have h2 := List.find?_some h
  exact ⟨h1, by simpa using h2⟩
theorem lk_none {es : List En} {n : Str} (h : lk es n = none) : ∀ e ∈ es, e.nm ≠ n := fun e he => by
  have := List.find?_eq_none.mp h e he
  simpa using this
theorem lk_of {es : List En} (nd : (es.map (·.nm)).Nodup) {e : En} (he : e ∈ es) : lk es e.nm = some e := by
  cases h : lk es e.nm with
  | none => exact absurd rfl (lk_none h e he)
  | some d =>
    obtain ⟨m1, m2⟩ := lk_some h
    have key : ∀ {l : List En}, (l.map (·.nm)).Nodup → e ∈ l → d ∈ l → d = e := by
      intro l
      induction l with
      | nil => intro _ h; cases h
      | cons x l ih =>
        intro nd h1 h2
        rw [List.map_cons] at nd
        obtain ⟨n1, n2⟩ := List.nodup_cons.mp nd
        rcases List.mem_cons.mp h1 with a | a <;> rcases List.mem_cons.mp h2 with b | b
        · rw [a, b]
        · exact absurd (List.mem_map.mpr ⟨d, b, by rw [m2, a]⟩) n1
        · exact absurd (List.mem_map.mpr ⟨e, a, by rw [← m2, b]⟩) n1
        · exact ih n2 a b
    rw [key nd he m1]
theorem Bk.uniq {S : En → Prop} {k : Nat} {m m' : Int} {z z' : Str} (h : Bk S k m z) (h' : Bk S k m' z') : m = m' ∧ z = z' := by
  obtain ⟨⟨e, se, ne, ez⟩, a1, a2⟩ := h
  obtain ⟨⟨e', se', ne', ez'⟩, b1, b2⟩ := h'
  have em : m = m' := Int.le_antisymm (b1 e se m ne) (a1 e' se' m' ne')
  subst em
  refine ⟨rfl, ?_⟩
  have n1 := b2 e se ne
  have n2 := a2 e' se' ne'
  rw [ez] at n1
  rw [ez'] at n2
  exact str_eq (List.le_antisymm (List.not_lt.mp n2) (List.not_lt.mp n1))
theorem Res.uniq {es : List En} {a : Str} {many n n' : Nat} {bs bs' : List (Int × Str)} (h : Res es a many n bs) (h' : Res es a many n' bs') : n = n' ∧ bs = bs' := by
  obtain ⟨⟨ns, d1, l1, m1⟩, lb, kb⟩ := h
  obtain ⟨⟨ns', d2, l2, m2⟩, lb', kb'⟩ := h'
  refine ⟨?_, ?_⟩
  · have := ((List.perm_ext_iff_of_nodup d1 d2).mpr fun z => by rw [m1, m2]).length_eq
    omega
  · refine List.ext_getElem (by omega) fun i h1 h2 => ?_
    obtain ⟨e1, e2⟩ := (kb i _ _ (List.getElem?_eq_getElem h1)).uniq (kb' i _ _ (List.getElem?_eq_getElem h2))
    exact Prod.ext e1 e2
theorem not_sure {es : List En} {a x y : Str} {e : En} (h : Rch es a x) (he : lk es x = some e) (hy : y ∈ e.ot) (n : ∀ d, lk es y = some d → x ∉ d.ot) : ¬ Sure es a := fun s => by
  obtain ⟨e', he', ok⟩ := s x h
  rw [he] at he'
  cases he'
  obtain ⟨d, hd, hx⟩ := ok y hy
  exact n d hd hx
theorem not_sure_none {es : List En} {a x : Str} (h : Rch es a x) (hn : lk es x = none) : ¬ Sure es a := fun s => by
  obtain ⟨e, he, _⟩ := s x h
  rw [hn] at he
  cases he
/-- a list of names from which nothing leads away -/
theorem closed_mem {es : List En} {a : Str} {cs : List Str} (ha : a ∈ cs) (cl : ∀ x ∈ cs, ∃ e, lk es x = some e ∧ ∀ y ∈ e.ot, y ∈ cs) {z : Str} (h : Rch es a z) : z ∈ cs := by
  induction h with
  | here => exact ha
  | step _ he hy ih =>
    obtain ⟨e', he', k⟩ := cl _ ih
    rw [he] at he'
    cases he'
    exact k _ hy
theorem sure_of_closed {es : List En} {a : Str} {cs : List Str} (ha : a ∈ cs) (cl : ∀ x ∈ cs, ∃ e, lk es x = some e ∧ (∀ y ∈ e.ot, y ∈ cs) ∧ OkAt es x e) : Sure es a := fun x hx => by
  obtain ⟨e, he, _, ok⟩ := cl x (closed_mem ha (fun x hx => by
    obtain ⟨e, he, k, _⟩ := cl x hx
    exact ⟨e, he, k⟩) hx)
  exact ⟨e, he, ok⟩
theorem snoc_nodup {l : List Str} {x : Str} (h : l.Nodup) (n : x ∉ l) : (l ++ [x]).Nodup := List.nodup_append.mpr ⟨h, one_nodup x, fun a ha b hb e => by
  rw [List.mem_singleton.mp hb] at e
  exact n (e ▸ ha)⟩
/-- come to so far: names to do, entries found -/
structure Cm (es : List En) (a : Str) (ts : List Str) (fs : List En) : Prop where
  nd : ts.Nodup
  rch : ∀ t ∈ ts, Rch es a t
  fst : a ∈ ts
  sub : ∀ t ∈ ts, t = a ∨ ∃ e ∈ es, e.nm = t
  pre : fs.map (·.nm) = ts.take fs.length
  le : fs.length ≤ ts.length
  lks : ∀ e ∈ fs, lk es e.nm = some e
  ok : ∀ e ∈ fs, ∀ y ∈ e.ot, y ∈ ts ∧ ∃ d, lk es y = some d ∧ e.nm ∈ d.ot
theorem Cm.put {es : List En} {a y x : Str} {ts : List Str} {fs : List En} {e : En} (c : Cm es a ts fs) (ny : y ∉ ts) (hx : Rch es a x) (he : lk es x = some e) (hy : y ∈ e.ot) (hd : ∃ d ∈ es, d.nm = y) : Cm es a (ts ++ [y]) fs where
  nd := snoc_nodup c.nd ny
  rch := fun t ht => by
    rcases List.mem_append.mp ht with h | h
    · exact c.rch t h
    · rw [List.mem_singleton.mp h]; exact .step hx he hy
  fst := List.mem_append.mpr (.inl c.fst)
  sub := fun t ht => by
    rcases List.mem_append.mp ht with h | h
    · exact c.sub t h
    · rw [List.mem_singleton.mp h]; exact .inr hd
  pre := by rw [List.take_append_of_le_length c.le]; exact c.pre
  le := by rw [List.length_append]; exact Nat.le_trans c.le (Nat.le_add_right _ _)
  lks := c.lks
  ok := fun e he y hy => by
    obtain ⟨h1, h2⟩ := c.ok e he y hy
    exact ⟨List.mem_append.mpr (.inl h1), h2⟩
theorem sub_len {l m : List Str} (hl : l.Nodup) (h : ∀ x ∈ l, x ∈ m) : l.length ≤ m.length := by
  induction l generalizing m with
  | nil => exact Nat.zero_le _
  | cons x l ih =>
    obtain ⟨n1, n2⟩ := List.nodup_cons.mp hl
    have hx := h x (.head _)
    have := ih n2 (m := m.erase x) fun y hy => (List.mem_erase_of_ne (fun e : y = x => n1 (e ▸ hy))).mpr (h y (.tail _ hy))
    rw [List.length_erase_of_mem hx] at this
    have : 0 < m.length := List.length_pos_of_mem hx
    rw [List.length_cons]
    omega
theorem Cm.few {es : List En} {a : Str} {ts : List Str} {fs : List En} (c : Cm es a ts fs) : ts.length ≤ es.length + 1 ∧ fs.length ≤ es.length := by
  constructor
  · have := sub_len c.nd (m := a :: es.map (·.nm)) fun t ht => by
      rcases c.sub t ht with h | ⟨e, he, h⟩
      · rw [h]; exact .head _
      · exact .tail _ (List.mem_map.mpr ⟨e, he, h⟩)
    rw [List.length_cons, List.length_map] at this
    exact this
  · have nd : (fs.map (·.nm)).Nodup := by rw [c.pre]; exact c.nd.sublist (List.take_sublist _ _)
    have := sub_len nd (m := es.map (·.nm)) fun t ht => by
      obtain ⟨e, he, rfl⟩ := List.mem_map.mp ht
      exact List.mem_map.mpr ⟨e, (lk_some (c.lks e he)).1, rfl⟩
    rw [List.length_map, List.length_map] at this
    exact this

-- names: 0:roll 1:name 2:entry
abbrev N_entry_of : List Str := ["roll", "name", "entry"]
def t_entry_of (K : PySem.W.Frag) : TS :=
  (tSeq (tFor (iTup K (tVar 0)) (gName 2) (tIfS (tTest (tOp rEq (tOp (rIxT K) (tVar 2) (tC (.int 0))) (tVar 1))) (tRet (tVar 2)) tNext))
    (tRet (tC .non)))

-- names: 0:roll 1:name 2:todo 3:found 4:one 5:entry 6:other 7:there
abbrev N_come_to : List Str := ["roll", "name", "todo", "found", "one", "entry", "other", "there"]
def t_come_to (K : PySem.W.Frag) : TS :=
  (tSeq (tAsg (tLst (tCons (tVar 1) tNil)) (gName 2))
    (tSeq (tAsg (tLst tNil) (gName 3))
    (tSeq (tWhile (tTest (tOp rLtI (tCB (Evl.rLenS K) (tCons (tVar 3) tNil)) (tCB (Evl.rLenS K) (tCons (tVar 2) tNil)))) (tSeq (tAsg (tOp (rIxL K) (tVar 2) (tCB (Evl.rLenS K) (tCons (tVar 3) tNil))) (gName 4))
      (tSeq (tAsg (tCall (cs K fEntry) [] E0 (tCons (tVar 0) (tCons (tVar 4) tNil))) (gName 5))
      (tSeq (tIfS (tTest (tOp rIsN (tVar 5) (tC .non))) (tRet (tC .non)) tNext)
      (tSeq (tDrop (tBM K "list" rAppend (tVar 3) (tCons (tVar 5) tNil)))
      (tFor (iTup K (tOp (rIxT K) (tVar 5) (tC (.int 4)))) (gName 6) (tSeq (tAsg (tCall (cs K fEntry) [] E0 (tCons (tVar 0) (tCons (tVar 6) tNil))) (gName 7))
        (tSeq (tIfS (tOr (tTest (tOp rIsN (tVar 7) (tC .non))) (tTest (tOp (rIn K true) (tVar 4) (tOp (rIxT K) (tVar 7) (tC (.int 4)))))) (tRet (tC .non)) tNext)
        (tIfS (tTest (tOp (rIn K true) (tVar 6) (tVar 2))) (tDrop (tBM K "list" rAppend (tVar 2) (tCons (tVar 6) tNil))) tNext)))))))))
    (tRet (tVar 3)))))

-- names: 0:roll 1:name 2:found 3:greatest 4:k 5:most 6:names 7:entry
abbrev N_sure_of : List Str := ["roll", "name", "found", "greatest", "k", "most", "names", "entry"]
def t_sure_of (K : PySem.W.Frag) : TS :=
  (tSeq (tAsg (tCall (cs K fCome) [] E0 (tCons (tVar 0) (tCons (tVar 1) tNil))) (gName 2))
    (tSeq (tIfS (tTest (tOp rIsN (tVar 2) (tC .non))) (tRet (tC .non)) tNext)
    (tSeq (tAsg (tLst tNil) (gName 3))
    (tSeq (tFor (iRng1 (tCons (tCB (Evl.rLenS K) (tCons (tOp (rIxT K) (tOp (rIxL K) (tVar 2) (tC (.int 0))) (tC (.int 3))) tNil)) tNil)) (gName 4) (tSeq (tAsg (tCB (rMax K) (tCons (tLc (iList K (tVar 2)) (gName 7) tYes (tOp (rIxT K) (tOp (rIxT K) (tVar 7) (tC (.int 3))) (tVar 4)) [7]) tNil)) (gName 5))
      (tSeq (tAsg (tLc (iList K (tVar 2)) (gName 7) (tTest (tOp rEq (tOp (rIxT K) (tOp (rIxT K) (tVar 7) (tC (.int 3))) (tVar 4)) (tVar 5))) (tOp (rIxT K) (tVar 7) (tC (.int 0))) [7]) (gName 6))
      (tDrop (tBM K "list" rAppend (tVar 3) (tCons (tTup (tCons (tVar 5) (tCons (tCB (rMinD K) (tCons (tVar 6) tNil)) tNil))) tNil))))))
    (tRet (tTup (tCons (tCB (Evl.rLenS K) (tCons (tVar 2) tNil)) (tCons (tCB (rTupOf K) (tCons (tVar 3) tNil)) tNil))))))))


theorem p_entry_of_len {K : PySem.W.Frag} {vs : List V} {H : Hp} {Q : VK} {E : XK} (h : cs K fEntry vs H Q E) : vs.length = 2 := fn_len (fun as M Q ⟨es, n, e, _⟩ => by rw [e]; rfl) h
theorem map_at {α : Type} {f : α → A} {l : List α} {i : Nat} {x : A} (h : (l.map f)[i]? = some x) : ∃ e, l[i]? = some e ∧ x = f e := by
  rw [List.getElem?_map] at h
  cases he : l[i]? with
  | none => rw [he] at h; cases h
  | some e => rw [he] at h; cases h; exact ⟨e, rfl, rfl⟩
theorem p_entry_of {K : PySem.W.Frag} {vs : List V} {H : Hp} {Q : VK} {E : XK} (h : cs K fEntry vs H Q E) : t_entry_of K { nx := fun _ H' => Q .non H', rt := Q } (start N_entry_of vs) H := fn_of h fun as M Qa h => by
  obtain ⟨es, n, rfl, q0, q1⟩ := h
  unfold t_entry_of
  walk_at "a"
  refine ⟨fun i s M' => (∃ y, s = [some (.tup (es.map entA)), some (.str n), y]) ∧ M' = M ∧ ∀ e ∈ es.take i, e.nm ≠ n, ⟨⟨_, rfl⟩, rfl, fun e he => by cases he⟩, ?_, ?_⟩
  · rintro i x s M' hx ⟨⟨y, rfl⟩, rfl, pre⟩
    obtain ⟨e, he, rfl⟩ := map_at hx
    walk_at "a"
    refine if_2 (fun h => ?_) (fun h => ?_)
    · walk_at "a"
      have : lk es n = some e := by
        unfold lk
        rw [List.find?_eq_some_iff_getElem]
        obtain ⟨li, ei⟩ := List.getElem?_eq_some_iff.mp he
        refine ⟨by simpa using h, i, li, ei, fun j hj => ?_⟩
        have hm : es[j] ∈ es.take i := by
          rw [List.mem_take_iff_getElem]
          exact ⟨j, by omega, rfl⟩
        have := pre _ hm
        simpa using this
      exact q1 e this
    · walk_at "a"
      refine ⟨⟨_, rfl⟩, rfl, fun d hd => ?_⟩
      rw [List.take_add_one, he] at hd
      rcases List.mem_append.mp hd with z | z
      · exact pre d z
      · have : d = e := by simpa using z
        rw [this]; exact h
  · rintro s M' ⟨⟨y, rfl⟩, rfl, pre⟩
    walk_at "a"
    have : lk es n = none := by
      unfold lk
      rw [List.find?_eq_none]
      intro e he
      rw [List.length_map, List.take_of_length_le (Nat.le_refl _)] at pre
      simpa using pre e he
    exact q0 this
theorem p_come_to_len {K : PySem.W.Frag} {vs : List V} {H : Hp} {Q : VK} {E : XK} (h : cs K fCome vs H Q E) : vs.length = 2 := fn_len (fun as M Q ⟨es, n, _, e, _⟩ => by rw [e]; rfl) h
theorem p_come_to {K : PySem.W.Frag} {vs : List V} {H : Hp} {Q : VK} {E : XK} (h : cs K fCome vs H Q E) : t_come_to K { nx := fun _ H' => Q .non H', rt := Q } (start N_come_to vs) H := fn_of h fun as M Qa h => by
  obtain ⟨es, n, many, rfl, gd, q0, q1⟩ := h
  have l9 := gd.few
  unfold t_come_to
  refine s_seq (s_asg (e_lstC ?_))
  walk_at "a"
  intro T
  walk_at "a"
  intro F
  walk_at "a"
  refine s_while (fun m s M' => ∃ ts fs y4 y5 y6 y7, s = [some (.tup (es.map entA)), some (.str n), some (.loc T), some (.loc F), y4, y5, y6, y7] ∧ M' = (F, .lst (fs.map entA)) :: (T, .lst (ts.map A.str)) :: M ∧ Cm es n ts fs ∧ m = 20 - fs.length) ⟨_, [n], [], _, _, _, _, rfl, rfl, ⟨one_nodup _, fun t ht => by rw [List.mem_singleton.mp ht]; exact .here, .head _, fun t ht => .inl (List.mem_singleton.mp ht), rfl, Nat.zero_le _, (fun e he => by cases he), (fun e he => by cases he)⟩, rfl⟩ ?_
  rintro m s M' ⟨ts, fs, y4, y5, y6, y7, rfl, rfl, cm, rfl⟩
  obtain ⟨ft, ff⟩ := cm.few
  walk_at "a"
  rw [List.length_map, List.length_map]
  refine if_2 (fun hlt => ?_) (fun hlt => ?_)
  · have hk : fs.length < ts.length := by omega
    have hx : ts[fs.length]? = some ts[fs.length] := List.getElem?_eq_getElem hk
    generalize ts[fs.length] = x at hx
    have mx := List.mem_of_getElem? hx
    have rx := cm.rch x mx
    walk_at "a"
    refine o_ixL (xs := ts.map A.str) (by walk_at "ls") (atI_at (by rw [List.length_map, List.getElem?_map, hx]; rfl)) ?_
    walk_at "a"
    refine ⟨es, x, rfl, fun he => ?_, fun e he => ?_⟩
    · walk_at "a"
      exact (q0 (not_sure_none rx he))
    · obtain ⟨me, en⟩ := lk_some he
      walk_at "a"
      refine m_append (by walk_at "up") (small' (by rw [List.length_map]; omega)) ?_
      walk_at "a"
      refine ⟨fun i s M' => ∃ ts' y6 y7, s = [some (.tup (es.map entA)), some (.str n), some (.loc T), some (.loc F), some (.str x), some (entA e), y6, y7] ∧ M' = (F, .lst (fs.map entA ++ [entA e])) :: (T, .lst (ts'.map A.str)) :: M ∧ Cm es n ts' fs ∧ ts'[fs.length]? = some x ∧ ∀ (j : Nat) (y : Str), j < i → e.ot[j]? = some y → y ∈ ts' ∧ ∃ d, lk es y = some d ∧ x ∈ d.ot, ⟨ts, _, _, rfl, rfl, cm, hx, fun j y hj => by omega⟩, ?_, ?_⟩
      · rintro i yv s M' hyv ⟨ts', y6, y7, rfl, rfl, cm4, hx4, ok4⟩
        obtain ⟨y, hy, rfl⟩ := map_at hyv
        have my := List.mem_of_getElem? hy
        obtain ⟨ft4, ff4⟩ := cm4.few
        walk_at "a"
        refine ⟨es, y, rfl, fun hd => ?_, fun d hd => ?_⟩
        · walk_at "a"
          exact (q0 (not_sure rx he my fun d hd' => by rw [hd] at hd'; cases hd'))
        · walk_at "a"
          refine o_ninStr (.inr rfl) ?_
          walk_at "a"
          refine if_n2 (fun nx => ?_) (fun mx' => ?_)
          · walk_at "a"
            exact (q0 (not_sure rx he my fun d' hd' => by rw [hd] at hd'; cases hd'; exact nx))
          · have step : ∀ ts'' : List Str, (∀ t ∈ ts', t ∈ ts'') → y ∈ ts'' → ∀ (j : Nat) (w : Str), j < i + 1 → e.ot[j]? = some w → w ∈ ts'' ∧ ∃ d, lk es w = some d ∧ x ∈ d.ot := fun ts'' up my'' j w hj hw => by
              by_cases ej : j = i
              · subst ej
                rw [hy] at hw
                cases hw
                exact ⟨my'', d, hd, mx'⟩
              · obtain ⟨g1, g2⟩ := ok4 j w (by omega) hw
                exact ⟨up _ g1, g2⟩
            walk_at "a"
            refine o_ninStr (names := ts') (.inl (by walk_at "ls")) ?_
            walk_at "a"
            refine if_n2 (fun ny => ?_) (fun my' => ?_)
            · walk_at "a"
              refine m_append (xs := ts'.map A.str) (.there .here) (small' (by rw [List.length_map]; omega)) ?_
              refine ⟨ts' ++ [y], _, _, rfl, by rw [List.map_append]; rfl, cm4.put ny rx he my ⟨d, (lk_some hd).1, (lk_some hd).2⟩, ?_, step _ (fun t ht => List.mem_append.mpr (.inl ht)) (List.mem_append.mpr (.inr (.head _)))⟩
              rw [List.getElem?_append_left (List.getElem?_eq_some_iff.mp hx4).1]; exact hx4
            · walk_at "a"
              exact ⟨ts', _, _, rfl, rfl, cm4, hx4, step _ (fun t ht => ht) my'⟩
      · rintro s M' ⟨ts', y6, y7, rfl, rfl, cm4, hx4, ok4⟩
        rw [List.length_map] at ok4
        have l4 := (List.getElem?_eq_some_iff.mp hx4).1
        refine ⟨20 - (fs.length + 1), by omega, ts', fs ++ [e], _, _, _, _, rfl, by rw [List.map_append]; rfl, ⟨cm4.nd, cm4.rch, cm4.fst, cm4.sub, ?_, by rw [List.length_append]; exact l4, fun d hd => ?_, fun d hd y hy => ?_⟩, by rw [List.length_append]; rfl⟩
        · rw [List.map_append, cm4.pre, List.length_append]
          show _ = ts'.take (fs.length + 1)
          rw [List.take_add_one, hx4, List.map_cons, en]; rfl
        · rcases List.mem_append.mp hd with h | h
          · exact cm4.lks d h
          · rw [List.mem_singleton.mp h, en]; exact he
        · rcases List.mem_append.mp hd with h | h
          · exact cm4.ok d h y hy
          · have : d = e := List.mem_singleton.mp h
            subst this
            obtain ⟨j, hj⟩ := List.getElem?_of_mem hy
            rw [en]
            exact ok4 j y (List.getElem?_eq_some_iff.mp hj).1 hj
  · have e0 : fs.length = ts.length := by
      have := cm.le
      omega
    have en : fs.map (·.nm) = ts := by rw [cm.pre, e0, List.take_of_length_le (Nat.le_refl _)]
    have cl : ∀ x ∈ ts, ∃ e, lk es x = some e ∧ (∀ y ∈ e.ot, y ∈ ts) ∧ OkAt es x e := fun x hx => by
      rw [← en] at hx
      obtain ⟨e, he, rfl⟩ := List.mem_map.mp hx
      exact ⟨e, cm.lks e he, fun y hy => (cm.ok e he y hy).1, fun y hy => (cm.ok e he y hy).2⟩
    walk_at "a"
    refine q1 fs (sure_of_closed cm.fst cl) (by rw [en]; exact cm.nd) (fun z => ?_) (fun e he => (lk_some (cm.lks e he)).1) (fun z => ?_)
    · rw [en]
      exact ⟨cm.rch z, fun h => closed_mem cm.fst (fun x hx => by
        obtain ⟨e, he, k, _⟩ := cl x hx
        exact ⟨e, he, k⟩) h⟩
    · rw [z] at en
      have := cm.fst
      rw [← en] at this
      cases this

theorem nu_at {many : Nat} {es : List En} (gd : Good many es) {e : En} (he : e ∈ es) {k : Nat} (hk : k < many) : ∃ v, e.nu[k]? = some v ∧ e.nu.getD k 0 = v := by
  have l := (gd.tx e he).2.1
  have hk2 : k < e.nu.length := by omega
  exact ⟨e.nu[k], List.getElem?_eq_getElem hk2, by rw [List.getD_eq_getElem?_getD, List.getElem?_eq_getElem hk2]; rfl⟩
theorem nu_atI {many : Nat} {es : List En} (gd : Good many es) {e : En} (he : e ∈ es) {k : Nat} (hk : k < many) : atI (e.nu.map A.int) (k : Int) = some (.int (e.nu.getD k 0)) := by
  obtain ⟨v, h1, h2⟩ := nu_at gd he hk
  exact atI_at (by rw [List.getElem?_map, h1, h2]; rfl)
theorem getD_some {l : List Int} {k : Nat} {v : Int} (h : l[k]? = some v) : l.getD k 0 = v := by rw [List.getD_eq_getElem?_getD, h]; rfl
theorem p_sure_of_len {K : PySem.W.Frag} {vs : List V} {H : Hp} {Q : VK} {E : XK} (h : cs K fSure vs H Q E) : vs.length = 2 := fn_len (fun as M Q ⟨es, n, _, e, _⟩ => by rw [e]; rfl) h
theorem p_sure_of {K : PySem.W.Frag} {vs : List V} {H : Hp} {Q : VK} {E : XK} (h : cs K fSure vs H Q E) : t_sure_of K { nx := fun _ H' => Q .non H', rt := Q } (start N_sure_of vs) H := fn_of h fun as M Qa h => by
  obtain ⟨es, n, many, rfl, gd, m3, q0, q1⟩ := h
  unfold t_sure_of
  walk_at "a"
  refine ⟨es, n, many, rfl, gd, fun ns => ?_, fun fs sure nd rch sub ne => ?_⟩
  · walk_at "a"
    exact q0 ns
  · have f9 : fs.length ≤ es.length := by
      have := sub_len nd (m := es.map (·.nm)) fun t ht => by
        obtain ⟨e, he, rfl⟩ := List.mem_map.mp ht
        exact List.mem_map.mpr ⟨e, sub e he, rfl⟩
      rw [List.length_map, List.length_map] at this
      exact this
    have g9 := gd.few
    walk_at "a"
    intro G
    walk_at "a"
    cases hf : fs with
    | nil => exact absurd hf ne
    | cons f0 fs' =>
    have m0 : f0 ∈ es := sub f0 (by rw [hf]; exact .head _)
    refine o_ixL (xs := (f0 :: fs').map entA) .lst (atI_at (i := 0) rfl) ?_
    rw [← hf]
    walk_at "a"
    have hl : (f0.nu.map A.int).length = many := by rw [List.length_map]; exact (gd.tx f0 m0).2.1
    rw [hl]
    refine ⟨_, rfl, by omega, by omega, ?_⟩
    refine ⟨fun i s M' => ∃ bs y4 y5 y6 y7, s = [some (.tup (es.map entA)), some (.str n), some (.lst (fs.map entA)), some (.loc G), y4, y5, y6, y7] ∧ M' = (G, .lst (bs.map isA)) :: M ∧ bs.length = i ∧ ∀ k m z, bs[k]? = some (m, z) → Bk (fun e => e ∈ fs) k m z, ⟨[], _, _, _, _, rfl, rfl, rfl, fun k m z h => by cases h⟩, ?_, ?_⟩
    · rintro k x s M' hx ⟨bs, y4, y5, y6, y7, rfl, rfl, lb, hb⟩
      have hk : k < many := by
        have := (List.getElem?_eq_some_iff.mp hx).1
        rw [List.length_map, List.length_range] at this
        omega
      rw [List.getElem?_map, List.getElem?_range (by omega)] at hx
      cases hx
      walk_at "a"
      refine e_mapF (fun e : En => A.int (e.nu.getD k 0)) ?_
      walk_at "a"
      refine ⟨entA, fs, rfl, small (by omega), fun e he M2 _ => ?_, ?_⟩
      · walk_at "a"
        refine o_ixT (k := (0 : Int) + (k : Nat)) (by rw [Int.zero_add]; exact nu_atI gd (sub e he) hk) ?_
        exact ⟨rfl, rfl⟩
      walk_at "a"
      refine l_max (ns := fs.map fun e => e.nu.getD k 0) (by rw [List.map_map]; exact .lst) (by rw [List.length_map, hf]; exact Nat.succ_pos _) fun m mm mx => ?_
      walk_at "a"
      refine e_filterF (fun e : En => decide (e.nu.getD k 0 = m)) (fun e : En => A.str e.nm) ?_
      walk_at "a"
      refine ⟨entA, fs, rfl, small (by omega), fun e he M2 _ => ?_, ?_⟩
      · walk_at "a"
        refine o_ixT (k := (0 : Int) + (k : Nat)) (by rw [Int.zero_add]; exact nu_atI gd (sub e he) hk) ?_
        walk_at "a"
        exact ⟨rfl, rfl, fun _ => by walk_at "a"; exact ⟨rfl, rfl⟩⟩
      walk_at "a"
      obtain ⟨e0, me0, ee0⟩ := List.mem_map.mp mm
      have hne : e0 ∈ fs.filter fun e => decide (e.nu.getD k 0 = m) := List.mem_filter.mpr ⟨me0, decide_eq_true ee0⟩
      cases hfl : fs.filter fun e => decide (e.nu.getD k 0 = m) with
      | nil => rw [hfl] at hne; cases hne
      | cons c cs' =>
      refine l_minS (z := c.nm) (zs := cs'.map (·.nm)) (by rw [← List.map_cons (f := fun e : En => e.nm), List.map_map]; exact .lst) fun z mz lz => ?_
      walk_at "a"
      refine m_append (xs := bs.map isA) .here (small' (by rw [List.length_map]; omega)) ?_
      refine ⟨bs ++ [(m, z)], _, _, _, _, rfl, by rw [List.map_append]; rfl, by rw [List.length_append, lb]; rfl, fun k' m' z' h' => ?_⟩
      rw [List.getElem?_append] at h'
      split at h'
      · exact hb k' m' z' h'
      · rename_i hge
        have hk' : k' = k := by
          have := (List.getElem?_eq_some_iff.mp h').1
          simp at this
          omega
        subst hk'
        rw [lb, Nat.sub_self] at h'
        cases h'
        have mz2 : z ∈ (c :: cs').map (·.nm) := mz
        obtain ⟨e1, me1, ez⟩ := List.mem_map.mp mz2
        rw [← hfl] at me1
        obtain ⟨me1, em⟩ := List.mem_filter.mp me1
        have em := of_decide_eq_true em
        refine ⟨⟨e1, me1, ?_, ez⟩, fun e he v hv => ?_, fun e he hv => ?_⟩
        · obtain ⟨v, h1, h2⟩ := nu_at gd (sub e1 me1) hk
          rw [h1, ← em, h2]
        · exact mx v (List.mem_map.mpr ⟨e, he, getD_some hv⟩)
        · refine lz e.nm ?_
          show e.nm ∈ (c :: cs').map (·.nm)
          exact List.mem_map.mpr ⟨e, by rw [← hfl]; exact List.mem_filter.mpr ⟨he, decide_eq_true (getD_some hv)⟩, rfl⟩
    · rintro s M' ⟨bs, y4, y5, y6, y7, rfl, rfl, lb, hb⟩
      rw [List.length_map, List.length_range] at lb
      walk_at "a"
      rw [List.length_map]
      refine q1 fs.length bs sure ⟨⟨fs.map (·.nm), nd, by rw [List.length_map], rch⟩, by omega, fun k m z h => ?_⟩
      obtain ⟨⟨e, he, h1, h2⟩, h3, h4⟩ := hb k m z h
      have iff : ∀ e, e ∈ es ∧ Rch es n e.nm → e ∈ fs := fun e ⟨h1, h2⟩ => by
        obtain ⟨d, hd, ed⟩ := List.mem_map.mp ((rch e.nm).mpr h2)
        have := lk_of gd.nd (sub d hd)
        rw [ed, lk_of gd.nd h1] at this
        cases this
        exact hd
      exact ⟨⟨e, ⟨sub e he, (rch e.nm).mp (List.mem_map.mpr ⟨e, he, rfl⟩)⟩, h1, h2⟩, fun e he => h3 e (iff e he), fun e he => h4 e (iff e he)⟩

-- names: 0:_law_roll_here 1:_law_name_here 2:_law_many 3:_law_there 4:_law_come 5:_law_turn 6:_law_one_here 7:_law_other 8:_law_greatest 9:_law_k 10:_law_rank 11:_law_entry
abbrev N_l_due : List Str := ["_law_roll_here", "_law_name_here", "_law_many", "_law_there", "_law_come", "_law_turn", "_law_one_here", "_law_other", "_law_greatest", "_law_k", "_law_rank", "_law_entry"]
def t_l_due (K : PySem.W.Frag) : TS :=
  (tSeq (tAsg (tCB (rDictPA K) (tCons (tLc (iList K (tVar 0)) (gName 11) tYes (tTup (tCons (tOp (rIxT K) (tVar 11) (tC (.int 0))) (tCons (tVar 11) tNil))) [11]) tNil)) (gName 3))
    (tSeq (tAsg (tLst (tCons (tVar 1) tNil)) (gName 4))
    (tSeq (tFor (iRng1 (tCons (tCB (Evl.rLenS K) (tCons (tVar 0) tNil)) tNil)) (gName 5) (tFor (iList K (tCB (Evl.rListS K) (tCons (tVar 4) tNil))) (gName 6) (tFor (iTup K (tOp (rIxT K) (tDGet (tVar 3) (tVar 6)) (tC (.int 4)))) (gName 7) (tSeq (tIfS (tOr (tB (tDNotIn (tVar 7) (tVar 3))) (tTest (tOp (rIn K true) (tVar 6) (tOp (rIxT K) (tDGet (tVar 3) (tVar 7)) (tC (.int 4)))))) (tRet (tC .non)) tNext)
          (tAsg (tOp rCat (tVar 4) (tOp rRep (tLst (tCons (tVar 7) tNil)) (tCB rInt1 (tCons (tOp (rIn K true) (tVar 7) (tVar 4)) tNil)))) (gName 4))))))
    (tSeq (tAsg (tLst tNil) (gName 8))
    (tSeq (tFor (iRng1 (tCons (tVar 2) tNil)) (gName 9) (tSeq (tAsg (tCB (rMinD K) (tCons (tLc (iList K (tVar 4)) (gName 6) tYes (tTup (tCons (tOp rSubI (tC (.int 0)) (tOp (rIxT K) (tOp (rIxT K) (tDGet (tVar 3) (tVar 6)) (tC (.int 3))) (tVar 9))) (tCons (tVar 6) tNil))) [6]) tNil)) (gName 10))
      (tDrop (tBM K "list" rAppend (tVar 8) (tCons (tTup (tCons (tOp rSubI (tC (.int 0)) (tOp (rIxT K) (tVar 10) (tC (.int 0)))) (tCons (tOp (rIxT K) (tVar 10) (tC (.int 1))) tNil))) tNil)))))
    (tRet (tTup (tCons (tCB (Evl.rLenS K) (tCons (tVar 4) tNil)) (tCons (tCB (rTupOf K) (tCons (tVar 8) tNil)) tNil)))))))))


theorem p_l_due_len {K : PySem.W.Frag} {vs : List V} {H : Hp} {Q : VK} {E : XK} (h : cs K fDue vs H Q E) : vs.length = 3 := fn_len (fun as M Q ⟨es, n, _, e, _⟩ => by rw [e]; rfl) h
/-- the entries by their names -/
abbrev thereA (es : List En) : List (Key × A) := es.map fun e => ((.inr e.nm : Key), entA e)
theorem there_get {es : List En} (n : Str) : valA (thereA es) (.inr n) = (lk es n).map entA := by
  unfold valA lk thereA
  rw [List.find?_map, Option.map_map]
  have : ((fun kv : Key × A => decide (kv.1 = Sum.inr n)) ∘ fun e : En => ((Sum.inr e.nm : Key), entA e)) = fun e : En => decide (e.nm = n) := by
    funext e
    show decide ((Sum.inr e.nm : Key) = Sum.inr n) = decide (e.nm = n)
    exact decide_eq_decide.mpr ⟨fun h => Sum.inr.inj h, fun h => by rw [h]⟩
  rw [this]
  rfl
/-- names come to; those of xs are looked at -/
structure Dc (es : List En) (a : Str) (c0 cs : List Str) : Prop where
  nd : cs.Nodup
  rch : ∀ t ∈ cs, Rch es a t
  fst : a ∈ cs
  sub : ∀ t ∈ cs, ∃ e, lk es t = some e
  pre : ∃ l, cs = c0 ++ l ∧ ∀ y ∈ l, ∃ x ∈ c0, ∃ e, lk es x = some e ∧ y ∈ e.ot
def Clo (es : List En) (cs : List Str) : Prop := ∀ x ∈ cs, ∃ e, lk es x = some e ∧ (∀ y ∈ e.ot, y ∈ cs) ∧ OkAt es x e
theorem Dc.few {es : List En} {a : Str} {c0 cs : List Str} (h : Dc es a c0 cs) : cs.length ≤ es.length := by
  have := sub_len h.nd (m := es.map (·.nm)) fun t ht => by
    obtain ⟨e, he⟩ := h.sub t ht
    exact List.mem_map.mpr ⟨e, (lk_some he).1, (lk_some he).2⟩
  rw [List.length_map] at this
  exact this
theorem rep_int (b : Bool) (x : A) : (List.replicate ((if b = true then (1 : Int) else 0)).toNat [x]).flatten = if b = true then [x] else [] := by
  cases b <;> rfl
theorem p_l_due {K : PySem.W.Frag} {vs : List V} {H : Hp} {Q : VK} {E : XK} (h : cs K fDue vs H Q E) : t_l_due K { nx := fun _ H' => Q .non H', rt := Q } (start N_l_due vs) H := fn_of h fun as M Qa h => by
  obtain ⟨es, n, many, rfl, gd, m3, nm, q0, q1⟩ := h
  have g9 := gd.few
  have hn : ∃ e, lk es n = some e := by
    obtain ⟨e, he, rfl⟩ := List.mem_map.mp nm
    exact ⟨e, lk_of gd.nd he⟩
  unfold t_l_due
  walk_at "a"
  refine e_mapF (fun e : En => A.tup [.str e.nm, entA e]) ?_
  walk_at "a"
  refine ⟨entA, es, rfl, small (by omega), fun e he M2 _ => by walk_at "a"; exact ⟨rfl, rfl⟩, ?_⟩
  walk_at "a"
  refine l_dictP (kvs := thereA es) (by rw [List.map_map]; exact .lst) fun T => ?_
  rw [mergeA_nodup (by
    rw [List.nil_append, List.map_map]
    have : ((fun x : Key × A => x.1) ∘ fun e : En => ((Sum.inr e.nm : Key), entA e)) = (fun z : Str => (Sum.inr z : Key)) ∘ fun e : En => e.nm := rfl
    rw [this, ← List.map_map]
    exact gd.nd.map _ fun a b h e => h (Sum.inr.inj e)), List.nil_append]
  walk_at "a"
  rw [List.length_map]
  refine ⟨_, rfl, by omega, by omega, ?_⟩
  refine ⟨fun i s M' => ∃ cs y5 y6 y7 y8 y9 y10 y11, s = [some (.lst (es.map entA)), some (.str n), some (.int (many : Nat)), some (.loc T), some (.lst (cs.map A.str)), y5, y6, y7, y8, y9, y10, y11] ∧ M' = (T, .dic (thereA es)) :: M ∧ Dc es n cs cs ∧ (Clo es cs ∨ i + 1 ≤ cs.length), ⟨[n], _, _, _, _, _, _, _, rfl, rfl, ⟨one_nodup _, fun t ht => by rw [List.mem_singleton.mp ht]; exact .here, .head _, fun t ht => by rw [List.mem_singleton.mp ht]; exact hn, [], by rw [List.append_nil], fun y hy => by cases hy⟩, .inr (Nat.le_refl _)⟩, ?_, ?_⟩
  · rintro i x s M' hx ⟨cs, y5, y6, y7, y8, y9, y10, y11, rfl, rfl, dc, hc⟩
    walk_at "a"
    refine l_listL (.inl .lst) ?_
    walk_at "a"
    refine ⟨fun j s M' => ∃ ds y6 y7, s = [some (.lst (es.map entA)), some (.str n), some (.int (many : Nat)), some (.loc T), some (.lst (ds.map A.str)), some x, y6, y7, y8, y9, y10, y11] ∧ M' = (T, .dic (thereA es)) :: M ∧ Dc es n cs ds ∧ (∀ t ∈ cs.take j, ∃ e, lk es t = some e ∧ (∀ y ∈ e.ot, y ∈ ds) ∧ OkAt es t e), ⟨cs, _, _, rfl, rfl, dc, fun t ht => by cases ht⟩, ?_, ?_⟩
    · rintro j tv s M' htv ⟨ds, y6, y7, rfl, rfl, dd, hd⟩
      obtain ⟨t, ht, rfl⟩ := map_at htv
      have mt : t ∈ cs := List.mem_of_getElem? ht
      obtain ⟨l0, e0, _⟩ := dd.pre
      have mtd : t ∈ ds := by rw [e0]; exact List.mem_append.mpr (.inl mt)
      obtain ⟨e, he⟩ := dd.sub t mtd
      have rt := dd.rch t mtd
      walk_at "a"
      refine ⟨T, thereA es, .inr t, entA e, rfl, .here, rfl, by rw [there_get, he]; rfl, ?_⟩
      walk_at "a"
      refine ⟨fun k s M' => ∃ fs y7, s = [some (.lst (es.map entA)), some (.str n), some (.int (many : Nat)), some (.loc T), some (.lst (fs.map A.str)), some x, some (.str t), y7, y8, y9, y10, y11] ∧ M' = (T, .dic (thereA es)) :: M ∧ Dc es n cs fs ∧ (∀ z ∈ ds, z ∈ fs) ∧ ∀ (q : Nat) (y : Str), q < k → e.ot[q]? = some y → y ∈ fs ∧ ∃ d, lk es y = some d ∧ t ∈ d.ot, ⟨ds, _, rfl, rfl, dd, fun z hz => hz, fun q y hq => by omega⟩, ?_, ?_⟩
      · rintro k yv s M' hyv ⟨fs, y7, rfl, rfl, df, sf, hf⟩
        obtain ⟨y, hy, rfl⟩ := map_at hyv
        have my := List.mem_of_getElem? hy
        walk_at "a"
        refine ⟨T, thereA es, .inr y, rfl, .here, rfl, ?_⟩
        rw [there_get]
        walk_at "a"
        cases hd' : lk es y with
        | none =>
          walk_at "a"
          exact q0 (not_sure rt he my fun d hd2 => by rw [hd'] at hd2; cases hd2)
        | some d =>
          walk_at "a"
          refine ⟨T, thereA es, .inr y, entA d, rfl, .here, rfl, by rw [there_get, hd']; rfl, ?_⟩
          walk_at "a"
          refine o_ninStr (.inr rfl) ?_
          walk_at "a"
          refine if_n2 (fun nx => ?_) (fun mx => ?_)
          · walk_at "a"
            exact q0 (not_sure rt he my fun d' hd2 => by rw [hd'] at hd2; cases hd2; exact nx)
          · walk_at "a"
            refine o_ninStr (names := fs) (.inl .lst) ?_
            walk_at "a"
            refine o_rep .lst (by split <;> omega) (by split <;> omega) (small (by show 1 * _ ≤ _; split <;> decide)) ?_
            rw [rep_int]
            have ff := df.few
            refine o_cat .lst .lst (small (by rw [List.length_map]; split <;> simp <;> omega)) ?_
            have step : ∀ fs' : List Str, (∀ z ∈ fs, z ∈ fs') → y ∈ fs' → ∀ (q : Nat) (w : Str), q < k + 1 → e.ot[q]? = some w → w ∈ fs' ∧ ∃ d, lk es w = some d ∧ t ∈ d.ot := fun fs' up my' q w hq hw => by
              by_cases eq : q = k
              · subst eq
                rw [hy] at hw
                cases hw
                exact ⟨my', d, hd', mx⟩
              · obtain ⟨g1, g2⟩ := hf q w (by omega) hw
                exact ⟨up _ g1, g2⟩
            by_cases hin : y ∈ fs
            · have e1 : (!decide (y ∈ fs)) = false := by rw [decide_eq_true hin]; rfl
              rw [e1, if_neg Bool.false_ne_true, List.append_nil]
              exact ⟨fs, _, rfl, rfl, df, sf, step fs (fun z hz => hz) hin⟩
            · have e1 : (!decide (y ∈ fs)) = true := by rw [decide_eq_false hin]; rfl
              obtain ⟨l1, e2, h2⟩ := df.pre
              refine ⟨fs ++ [y], some (.str y), ?_, rfl, ⟨snoc_nodup df.nd hin, fun z hz => ?_, List.mem_append.mpr (.inl df.fst), fun z hz => ?_, l1 ++ [y], by rw [e2, List.append_assoc], fun z hz => ?_⟩, fun z hz => List.mem_append.mpr (.inl (sf z hz)), step _ (fun z hz => List.mem_append.mpr (.inl hz)) (List.mem_append.mpr (.inr (.head _)))⟩
              · rw [e1, if_pos rfl, List.map_append]; rfl
              · rcases List.mem_append.mp hz with h | h
                · exact df.rch z h
                · rw [List.mem_singleton.mp h]; exact .step rt he my
              · rcases List.mem_append.mp hz with h | h
                · exact df.sub z h
                · rw [List.mem_singleton.mp h]; exact ⟨d, hd'⟩
              · rcases List.mem_append.mp hz with h | h
                · exact h2 z h
                · rw [List.mem_singleton.mp h]; exact ⟨t, mt, e, he, my⟩
      · rintro s M' ⟨fs, y7, rfl, rfl, df, sf, hf⟩
        rw [List.length_map] at hf
        refine ⟨fs, _, _, rfl, rfl, df, fun u hu => ?_⟩
        rw [List.take_add_one, ht] at hu
        rcases List.mem_append.mp hu with h | h
        · obtain ⟨e', h1, h2, h3⟩ := hd u h
          exact ⟨e', h1, fun y hy => sf y (h2 y hy), h3⟩
        · have : u = t := by simpa using h
          subst this
          refine ⟨e, he, fun y hy => ?_, fun y hy => ?_⟩
          · obtain ⟨q, hq⟩ := List.getElem?_of_mem hy
            exact (hf q y (List.getElem?_eq_some_iff.mp hq).1 hq).1
          · obtain ⟨q, hq⟩ := List.getElem?_of_mem hy
            exact (hf q y (List.getElem?_eq_some_iff.mp hq).1 hq).2
    · rintro s M' ⟨ds, y6, y7, rfl, rfl, dd, hd⟩
      rw [List.length_map, List.take_of_length_le (Nat.le_refl _)] at hd
      obtain ⟨l0, e0, h0⟩ := dd.pre
      have clo : Clo es cs → l0 = [] := fun cl => by
        cases l0 with
        | nil => rfl
        | cons y l0 =>
          obtain ⟨x, mx, e, he, my⟩ := h0 y (.head _)
          obtain ⟨e', he', h2, _⟩ := cl x mx
          rw [he] at he'
          cases he'
          have := dd.nd
          rw [e0, List.nodup_append] at this
          exact absurd rfl (this.2.2 y (h2 y my) y (.head _))
      refine ⟨ds, _, _, _, _, _, _, _, rfl, rfl, ⟨dd.nd, dd.rch, dd.fst, dd.sub, [], by rw [List.append_nil], fun y hy => by cases hy⟩, ?_⟩
      rcases hc with hc | hc
      · have := clo hc
        subst this
        rw [List.append_nil] at e0
        subst e0
        exact .inl hc
      · cases l0 with
        | nil =>
          rw [List.append_nil] at e0
          subst e0
          exact .inl hd
        | cons y l0 =>
          refine .inr ?_
          rw [e0, List.length_append, List.length_cons]
          omega
  · rintro s M' ⟨cs, y5, y6, y7, y8, y9, y10, y11, rfl, rfl, dc, hc⟩
    rw [List.length_map, List.length_range, Int.toNat_natCast] at hc
    have lf := dc.few
    have cl : Clo es cs := by
      rcases hc with h | h
      · exact h
      · omega
    have sure := sure_of_closed dc.fst cl
    have rch : ∀ z, z ∈ cs ↔ Rch es n z := fun z => ⟨dc.rch z, fun h => closed_mem dc.fst (fun x hx => by
      obtain ⟨e, he, k, _⟩ := cl x hx
      exact ⟨e, he, k⟩) h⟩
    walk_at "a"
    intro G
    walk_at "a"
    refine ⟨_, rfl, by omega, by omega, ?_⟩
    refine ⟨fun i s M' => ∃ bs y9 y10, s = [some (.lst (es.map entA)), some (.str n), some (.int (many : Nat)), some (.loc T), some (.lst (cs.map A.str)), y5, y6, y7, some (.loc G), y9, y10, y11] ∧ M' = (G, .lst (bs.map isA)) :: (T, .dic (thereA es)) :: M ∧ bs.length = i ∧ ∀ k m z, bs[k]? = some (m, z) → Bk (fun e => e ∈ es ∧ Rch es n e.nm) k m z, ⟨[], _, _, rfl, rfl, rfl, fun k m z h => by cases h⟩, ?_, ?_⟩
    · rintro k x s M' hx ⟨bs, y9, y10, rfl, rfl, lb, hb⟩
      have hk : k < many := by
        have := (List.getElem?_eq_some_iff.mp hx).1
        rw [List.length_map, List.length_range] at this
        omega
      rw [List.getElem?_map, List.getElem?_range (by omega)] at hx
      cases hx
      have ent : ∀ z ∈ cs, ∃ e, lk es z = some e ∧ e ∈ es ∧ e.nm = z := fun z hz => by
        obtain ⟨e, he⟩ := dc.sub z hz
        exact ⟨e, he, (lk_some he).1, (lk_some he).2⟩
      let nu : Str → Int := fun z => match lk es z with | some e => e.nu.getD k 0 | none => 0
      have enu : ∀ {e : En} {z : Str}, lk es z = some e → nu z = e.nu.getD k 0 := fun {e z} h => by show (match lk es z with | some e => e.nu.getD k 0 | none => 0) = _; rw [h]
      walk_at "a"
      refine e_mapF (fun z : Str => isA (0 - nu z, z)) ?_
      walk_at "a"
      refine ⟨A.str, cs, rfl, small (by omega), fun z hz M2 up => ?_, ?_⟩
      · obtain ⟨e, he, me, en⟩ := ent z hz
        walk_at "a"
        refine ⟨T, thereA es, .inr z, entA e, rfl, up _ _ (.there .here), rfl, by rw [there_get, he]; rfl, ?_⟩
        walk_at "a"
        refine o_ixT (k := (0 : Int) + (k : Nat)) (by rw [Int.zero_add]; exact nu_atI gd me hk) ?_
        walk_at "a"
        exact ⟨rfl, by rw [enu he]⟩
      walk_at "a"
      cases hcs : cs with
      | nil =>
        have := dc.fst
        rw [hcs] at this
        cases this
      | cons c cs' =>
      refine l_minP (z := (0 - nu c, c)) (zs := cs'.map fun z => (0 - nu z, z)) (by show LsA _ _ (isA _ :: List.map isA _); rw [List.map_map]; exact .lst) fun m mm lm => ?_
      have mm2 : m ∈ (c :: cs').map fun z => (0 - nu z, z) := mm
      obtain ⟨z, mz, rfl⟩ := List.mem_map.mp mm2
      rw [← hcs] at mz
      walk_at "a"
      refine m_append (xs := bs.map isA) .here (small' (by rw [List.length_map]; omega)) ?_
      refine ⟨bs ++ [(0 - (0 - nu z), z)], some (.int (0 + (k : Nat))), some (isA (0 - nu z, z)), rfl, by rw [List.map_append]; rfl, by rw [List.length_append, lb]; rfl, fun k' m' z' h' => ?_⟩
      rw [List.getElem?_append] at h'
      split at h'
      · exact hb k' m' z' h'
      · rename_i hge
        have hk' : k' = k := by
          have := (List.getElem?_eq_some_iff.mp h').1
          simp at this
          omega
        subst hk'
        rw [lb, Nat.sub_self] at h'
        cases h'
        have e00 : (0 : Int) - (0 - nu z) = nu z := by omega
        rw [e00]
        obtain ⟨e, he, me, en⟩ := ent z mz
        have least : ∀ y ∈ cs, ¬ (0 - nu y < 0 - nu z ∨ (0 - nu y = 0 - nu z ∧ y.cps.toList < z.cps.toList)) := fun y hy => by
          refine lm (0 - nu y, y) ?_
          show _ ∈ (c :: cs').map fun z => (0 - nu z, z)
          rw [← hcs]
          exact List.mem_map.mpr ⟨y, hy, rfl⟩
        have cst : ∀ d, d ∈ es → Rch es n d.nm → d.nm ∈ cs ∧ nu d.nm = d.nu.getD k' 0 := fun d hd hr => ⟨(rch _).mpr hr, enu (lk_of gd.nd hd)⟩
        refine ⟨⟨e, ⟨me, by rw [en]; exact dc.rch z mz⟩, ?_, en⟩, fun d ⟨hd, hr⟩ v hv => ?_, fun d ⟨hd, hr⟩ hv => ?_⟩
        · obtain ⟨v, h1, h2⟩ := nu_at gd me hk
          rw [h1, enu he, h2]
        · obtain ⟨c1, c2⟩ := cst d hd hr
          have := least _ c1
          rw [c2, getD_some hv] at this
          omega
        · obtain ⟨c1, c2⟩ := cst d hd hr
          have := least _ c1
          rw [c2, getD_some hv] at this
          exact fun z => this (.inr ⟨rfl, z⟩)
    · rintro s M' ⟨bs, y9, y10, rfl, rfl, lb, hb⟩
      rw [List.length_map, List.length_range] at lb
      walk_at "a"
      rw [List.length_map]
      exact q1 cs.length bs sure ⟨⟨cs, dc.nd, rfl, rch⟩, by omega, hb⟩

-- names: 0:_law_script 1:_law_k
abbrev N_l_cell_at : List Str := ["_law_script", "_law_k"]
def t_l_cell_at (K : PySem.W.Frag) : TS :=
  (tSeq (tIfS (tTest (tOp rLtI (tVar 1) (tCB (Evl.rLenS K) (tCons (tVar 0) tNil)))) (tRet (tOp (rIxL K) (tVar 0) (tVar 1))) tNext)
    (tRet (tC (.int 0))))

-- names: 0:_law_cell 1:_law_k 2:_law_number_here
abbrev N_l_mixed : List Str := ["_law_cell", "_law_k", "_law_number_here"]
def t_l_mixed (K : PySem.W.Frag) : TS :=
  (tSeq (tIfS (tAnd (tTest (tOp rGeI (tVar 0) (tOp rShlI (tC (.int 1)) (tC (.int 90))))) (tAnd (tTest (tOp rEq (tOp rModI (tVar 0) (tC (.int 2))) (tC (.int 1)))) (tTest (tOp rGtI (tOp rShrI (tVar 0) (tOp rAddI (tC (.int 1)) (tOp rMulI (tC (.int 31)) (tVar 1)))) (tC (.int 0)))))) (tRet (tOp rModI (tOp rShrI (tVar 0) (tOp rAddI (tC (.int 1)) (tOp rMulI (tC (.int 31)) (tVar 1)))) (tC (.int 2147483648)))) tNext)
    (tSeq (tAsg (tOp rModI (tOp rMulI (tOp rAddI (tOp rAddI (tOp rModI (tVar 0) (tC (.int 2147483647))) (tOp rMulI (tC (.int 7919)) (tVar 1))) (tC (.int 1))) (tC (.int 48271))) (tC (.int 2147483647))) (gName 2))
    (tSeq (tAsg (tOp rModI (tOp rMulX (tVar 2) (tOp rAddI (tOp rDivI (tVar 2) (tC (.int 1009))) (tC (.int 69621)))) (tC (.int 2147483647))) (gName 2))
    (tRet (tOp rModI (tOp rMulX (tVar 2) (tOp rAddI (tOp rAddI (tOp rDivI (tVar 2) (tC (.int 2003))) (tC (.int 39373))) (tVar 1))) (tC (.int 2147483629)))))))

-- names: 0:_law_draw_here 1:_law_many
abbrev N_l_draw : List Str := ["_law_draw_here", "_law_many"]
def t_l_draw (K : PySem.W.Frag) : TS :=
  (tSeq (sDPut (tVar 0) (tC (.str ("at" : Str))) (tOp rAddI (tDGet (tVar 0) (tC (.str ("at" : Str)))) (tC (.int 1))))
    (tRet (tOp rModI (tOp rDivI (tCall (cs K fMixed) [] E0 (tCons (tDGet (tVar 0) (tC (.str ("cell" : Str)))) (tCons (tDGet (tVar 0) (tC (.str ("at" : Str)))) tNil))) (tC (.int 3))) (tVar 1))))

-- names: 0:_law_draw_here 1:_law_some
abbrev N_l_one : List Str := ["_law_draw_here", "_law_some"]
def t_l_one (K : PySem.W.Frag) : TS :=
  (tRet (tOp (rIxL K) (tVar 1) (tCall (cs K fDraw) [] E0 (tCons (tVar 0) (tCons (tCB (Evl.rLenS K) (tCons (tVar 1) tNil)) tNil)))))

-- names: 0:_law_draw_here 1:_law_letters 2:_law_name_here 3:_law_k
abbrev N_l_name : List Str := ["_law_draw_here", "_law_letters", "_law_name_here", "_law_k"]
def t_l_name (K : PySem.W.Frag) : TS :=
  (tSeq (tAsg (tC (.str ("abcdefghijklmnopqrstuvwxyz" : Str))) (gName 1))
    (tSeq (tAsg (tC (.str ("" : Str))) (gName 2))
    (tSeq (tFor (iRng1 (tCons (tOp rAddI (tC (.int 1)) (tCall (cs K fDraw) [] E0 (tCons (tVar 0) (tCons (tC (.int 8)) tNil)))) tNil)) (gName 3) (tAsg (tOp rAddStr (tVar 2) (tOp rIxS (tVar 1) (tCall (cs K fDraw) [] E0 (tCons (tVar 0) (tCons (tC (.int 26)) tNil))))) (gName 2)))
    (tRet (tVar 2)))))

-- names: 0:_law_draw_here 1:_law_many 2:_law_found 3:_law_k 4:_law_name_here 5:_law_letter
abbrev N_l_names : List Str := ["_law_draw_here", "_law_many", "_law_found", "_law_k", "_law_name_here", "_law_letter"]
def t_l_names (K : PySem.W.Frag) : TS :=
  (tSeq (tAsg (tLst tNil) (gName 2))
    (tSeq (tFor (iRng1 (tCons (tOp rMulI (tC (.int 4)) (tVar 1)) tNil)) (gName 3) (tSeq (tAsg (tCall (cs K fName) [] E0 (tCons (tVar 0) tNil)) (gName 4))
      (tIfS (tTest (tOp (rIn K true) (tVar 4) (tVar 2))) (tDrop (tBM K "list" rAppend (tVar 2) (tCons (tVar 4) tNil))) tNext)))
    (tRet (tSl (rSlL K) (tOp rCat (tVar 2) (tLc (iStr (tC (.str ("abcdefgh" : Str)))) (gName 5) (tTest (tOp (rIn K true) (tOp rAddStr (tC (.str ("zz" : Str))) (tVar 5)) (tVar 2))) (tOp rAddStr (tC (.str ("zz" : Str))) (tVar 5)) [5])) tNoPart (tPart (tVar 1))))))

-- names: 0:_law_draw_here 1:_law_way 2:_law_top
abbrev N_l_number : List Str := ["_law_draw_here", "_law_way", "_law_top"]
def t_l_number (K : PySem.W.Frag) : TS :=
  (tSeq (tAsg (tCall (cs K fDraw) [] E0 (tCons (tVar 0) (tCons (tC (.int 4)) tNil))) (gName 1))
    (tSeq (tIfS (tTest (tOp rEq (tVar 1) (tC (.int 0)))) (tRet (tCall (cs K fPick) [] E0 (tCons (tVar 0) (tCons (tLst (tCons (tC (.int 0)) (tCons (tC (.int 1)) (tCons (tUn rNegI (tC (.int 1))) (tCons (tOp rPowI (tC (.int 10)) (tC (.int 12))) (tCons (tUn rNegI (tOp rPowI (tC (.int 10)) (tC (.int 12)))) tNil)))))) tNil)))) tNext)
    (tSeq (tAsg (tOp (rIxL K) (tLst (tCons (tC (.int 20)) (tCons (tC (.int 1000)) (tCons (tOp rMulI (tC (.int 2)) (tOp rPowI (tC (.int 10)) (tC (.int 9)))) tNil)))) (tOp rSubI (tVar 1) (tC (.int 1)))) (gName 2))
    (tRet (tOp rSubI (tCall (cs K fDraw) [] E0 (tCons (tVar 0) (tCons (tVar 2) tNil))) (tOp rMulX (tCall (cs K fDraw) [] E0 (tCons (tVar 0) (tCons (tC (.int 2)) tNil))) (tOp rDivI (tVar 2) (tC (.int 2)))))))))


theorem p_l_cell_at_len {K : PySem.W.Frag} {vs : List V} {H : Hp} {Q : VK} {E : XK} (h : cs K fCellAt vs H Q E) : vs.length = 2 := fn_len (fun as M Q ⟨_, _, e, _⟩ => by rw [e]; rfl) h
theorem p_l_cell_at {K : PySem.W.Frag} {vs : List V} {H : Hp} {Q : VK} {E : XK} (h : cs K fCellAt vs H Q E) : t_l_cell_at K { nx := fun _ H' => Q .non H', rt := Q } (start N_l_cell_at vs) H := fn_of h fun as M Qa h => by
  obtain ⟨ns, k, rfl, q⟩ := h
  unfold t_l_cell_at
  walk_at "a"
  rw [List.length_map]
  refine if_2 (fun h => ?_) (fun h => ?_)
  · walk_at "a"
    have hk : k < ns.length := by omega
    refine o_ixL (xs := ns.map A.int) .scr (atI_at (by rw [List.getElem?_map, List.getElem?_eq_getElem hk]; rfl)) ?_
    walk_at "a"
    exact q _
  · walk_at "a"
    exact q _
theorem mulA {i j : Int} (h0 : -(2 ^ 64) < i) (h1 : i < 2 ^ 64) (h2 : -(2 ^ 64) < j) (h3 : j < 2 ^ 64) : CMulX i j := by
  have a : i.natAbs < 2 ^ 64 := by omega
  have b : j.natAbs < 2 ^ 64 := by omega
  exact mulx_ok a b (by decide)
theorem p_l_mixed_len {K : PySem.W.Frag} {vs : List V} {H : Hp} {Q : VK} {E : XK} (h : cs K fMixed vs H Q E) : vs.length = 2 := fn_len (fun as M Q ⟨_, _, e, _⟩ => by rw [e]; rfl) h
theorem p_l_mixed {K : PySem.W.Frag} {vs : List V} {H : Hp} {Q : VK} {E : XK} (h : cs K fMixed vs H Q E) : t_l_mixed K { nx := fun _ H' => Q .non H', rt := Q } (start N_l_mixed vs) H := fn_of h fun as M Qa h => by
  obtain ⟨b, c, rfl, hc, q⟩ := h
  unfold t_l_mixed
  refine s_seq ?_
  refine s_weak (Nx' := fun s' M' => s' = startA N_l_mixed [.int b, .int (c : Int)] ∧ M' = M) (Rt' := Dn Qa) (Bk' := fun _ _ => False) (Ct' := fun _ _ => False) ?_ ?_ (fun _ _ h => h) (fun _ _ h => h) (fun _ _ h => h)
  · walk_at "a"
    refine o_shl ⟨by decide +kernel, by decide +kernel⟩ ?_
    walk_at "a"
    refine if_2 (fun h1 => ?_) (fun h1 => ?_)
    · walk_at "a"
      refine if_2 (fun h2 => ?_) (fun h2 => ?_)
      · walk_at "a"
        refine if_2 (fun h3 => ?_) (fun h3 => ?_)
        · walk_at "a"
          exact q _ (Int.emod_nonneg _ (by omega))
        · walk_at "a"
          exact ⟨rfl, rfl⟩
      · walk_at "a"
        exact ⟨rfl, rfl⟩
    · walk_at "a"
      exact ⟨rfl, rfl⟩
  · rintro s' M' ⟨rfl, rfl⟩
    walk_at "a"
    have e1 : ∀ n : Int, 0 ≤ n % 2147483647 ∧ n % 2147483647 < 2147483647 := fun n => by omega
    generalize hn1 : (b % 2147483647 + 7919 * (c : Int) + 1) * 48271 % 2147483647 = n1
    have b1 := e1 ((b % 2147483647 + 7919 * (c : Int) + 1) * 48271)
    rw [hn1] at b1
    have c1 : 0 ≤ n1 / 1009 ∧ n1 / 1009 < 2147483647 := by omega
    refine o_mulX (mulA (by omega) (by omega) (by omega) (by omega)) ?_
    walk_at "a"
    generalize hn2 : n1 * (n1 / 1009 + 69621) % 2147483647 = n2
    have b2 := e1 (n1 * (n1 / 1009 + 69621))
    rw [hn2] at b2
    have c2 : 0 ≤ n2 / 2003 ∧ n2 / 2003 < 2147483647 := by omega
    refine o_mulX (mulA (by omega) (by omega) (by omega) (by omega)) ?_
    walk_at "a"
    exact q _ (Int.emod_nonneg _ (by omega))
theorem p_l_draw_len {K : PySem.W.Frag} {vs : List V} {H : Hp} {Q : VK} {E : XK} (h : cs K fDraw vs H Q E) : vs.length = 2 := fn_len (fun as M Q ⟨_, _, _, _, _, e, _⟩ => by rw [e]; rfl) h
theorem keys_ne : ¬ ((Sum.inr ("cell" : Str) : Key) = .inr ("at" : Str)) := by decide +kernel
theorem src_at (c : Int) (n : Nat) : valA [((Sum.inr ("cell" : Str) : Key), A.int c), (.inr ("at" : Str), .int (n : Int))] (.inr ("at" : Str)) = some (.int (n : Int)) := by
  unfold valA
  rw [List.find?_cons, decide_eq_false keys_ne, List.find?_cons, decide_eq_true rfl]; rfl
theorem src_cell (c : Int) (n : Nat) : valA [((Sum.inr ("cell" : Str) : Key), A.int c), (.inr ("at" : Str), .int (n : Int))] (.inr ("cell" : Str)) = some (.int c) := by
  unfold valA
  rw [List.find?_cons, decide_eq_true rfl]; rfl
theorem src_put (c : Int) (n m : Nat) : putA [((Sum.inr ("cell" : Str) : Key), A.int c), (.inr ("at" : Str), .int (n : Int))] (.inr ("at" : Str)) (.int (m : Int)) = [(.inr ("cell" : Str), .int c), (.inr ("at" : Str), .int (m : Int))] := by
  unfold putA
  rw [if_pos (by rw [List.any_cons, decide_eq_false keys_ne, List.any_cons, decide_eq_true rfl]; rfl), List.map_cons, if_neg keys_ne, List.map_cons, if_pos rfl]; rfl
theorem p_l_draw {K : PySem.W.Frag} {vs : List V} {H : Hp} {Q : VK} {E : XK} (h : cs K fDraw vs H Q E) : t_l_draw K { nx := fun _ H' => Q .non H', rt := Q } (start N_l_draw vs) H := fn_of h fun as M Qa h => by
  obtain ⟨l, m, c, n, C, rfl, hC, hn, hm, q⟩ := h
  unfold t_l_draw
  walk_at "a"
  refine ⟨l, _, .inr ("at" : Str), _, rfl, hC.lk, rfl, src_at c n, ?_⟩
  walk_at "a"
  have e1 : ((n : Int) + 1) = ((n + 1 : Nat) : Int) := by omega
  rw [e1]
  refine ⟨l, [(.inr ("cell" : Str), .int c), (.inr ("at" : Str), .int (n : Int))], .inr ("at" : Str), C (srcO c (n + 1)), rfl, rfl, ?_, small' (by show 2 < 1000000; decide), ?_⟩
  · have := hC.up (srcO c (n + 1))
    unfold srcO at this ⊢
    rw [src_put]
    exact this
  have h2 := hC.at (srcO c (n + 1))
  walk_at "a"
  refine ⟨l, _, .inr ("cell" : Str), _, rfl, h2.lk, rfl, src_cell c (n + 1), ?_⟩
  walk_at "a"
  refine ⟨l, _, .inr ("at" : Str), _, rfl, h2.lk, rfl, src_at c (n + 1), ?_⟩
  walk_at "a"
  refine ⟨c, n + 1, rfl, by omega, fun d hd => ?_⟩
  walk_at "a"
  exact q _ (Int.emod_nonneg _ (by omega)) (Int.emod_lt_of_pos _ hm)
theorem p_l_one_len {K : PySem.W.Frag} {vs : List V} {H : Hp} {Q : VK} {E : XK} (h : cs K fPick vs H Q E) : vs.length = 2 := fn_len (fun as M Q ⟨_, _, _, _, _, _, e, _⟩ => by rw [e]; rfl) h
theorem p_l_one {K : PySem.W.Frag} {vs : List V} {H : Hp} {Q : VK} {E : XK} (h : cs K fPick vs H Q E) : t_l_one K { nx := fun _ H' => Q .non H', rt := Q } (start N_l_one vs) H := fn_of h fun as M Qa h => by
  obtain ⟨l, c, n, C, b, xs, rfl, hC, hn, ⟨lb2, lb⟩, hne, hl, q⟩ := h
  unfold t_l_one
  walk_at "a"
  refine l_lenL lb ?_
  walk_at "a"
  have hp : 0 < xs.length := by cases xs with | nil => exact absurd rfl hne | cons _ _ => exact Nat.succ_pos _
  refine ⟨l, _, c, n, C, rfl, hC, hn, by omega, fun d h0 h1 => ?_⟩
  have hd : d.toNat < xs.length := by omega
  have hx : xs[d.toNat]? = some xs[d.toNat] := List.getElem?_eq_getElem hd
  have e : d = ((d.toNat : Nat) : Int) := by omega
  refine o_ixL lb2 (by rw [e]; exact atI_at hx) ?_
  walk_at "a"
  exact q _ (List.getElem_mem hd)
theorem p_l_name_len {K : PySem.W.Frag} {vs : List V} {H : Hp} {Q : VK} {E : XK} (h : cs K fName vs H Q E) : vs.length = 1 := fn_len (fun as M Q ⟨_, _, _, _, e, _⟩ => by rw [e]; rfl) h
theorem abc_at {d : Int} (h0 : 0 ≤ d) (h1 : d < 26) : atI (("abcdefghijklmnopqrstuvwxyz" : Str)).cps.toList d = some (97 + d.toNat) := by
  have key : ∀ i : Nat, i < 26 → atI (("abcdefghijklmnopqrstuvwxyz" : Str)).cps.toList (i : Int) = some (97 + i) := by decide +kernel
  have := key d.toNat (by omega)
  rw [show ((d.toNat : Nat) : Int) = d by omega] at this
  exact this
theorem str_app (x : Str) (c : Nat) : (x ++ (⟨#[c]⟩ : Str)).cps.toList = x.cps.toList ++ [c] := by
  show (x.cps ++ #[c]).toList = _
  simp
theorem str_len (x : Str) : x.length = x.cps.toList.length := by
  show x.cps.size = _
  simp
theorem p_l_name {K : PySem.W.Frag} {vs : List V} {H : Hp} {Q : VK} {E : XK} (h : cs K fName vs H Q E) : t_l_name K { nx := fun _ H' => Q .non H', rt := Q } (start N_l_name vs) H := fn_of h fun as M Qa h => by
  obtain ⟨l, c, n, C, rfl, hC, hn, q⟩ := h
  unfold t_l_name
  walk_at "a"
  refine ⟨l, _, c, n, C, rfl, hC, by omega, by decide, fun d h0 h1 => ?_⟩
  walk_at "a"
  refine ⟨_, rfl, by omega, by omega, ?_⟩
  have hC2 : ∀ u, Ctx (C u) l u C := fun u => hC.at u
  refine ⟨fun i s M' => ∃ z y, s = [some (.loc l), some (.str ("abcdefghijklmnopqrstuvwxyz" : Str)), some (.str z), y] ∧ M' = C (srcO c (n + 1 + i)) ∧ z.length = i ∧ ∀ c ∈ z.cps.toList, 97 ≤ c ∧ c ≤ 122, ⟨("" : Str), _, rfl, rfl, rfl, fun c hc => by cases hc⟩, ?_, ?_⟩
  · rintro i x s M' hx ⟨z, y, rfl, rfl, lz, hz⟩
    have hi : i < 8 := by
      have := (List.getElem?_eq_some_iff.mp hx).1
      rw [List.length_map, List.length_range] at this
      omega
    walk_at "a"
    refine ⟨l, _, c, n + 1 + i, C, rfl, hC2 _, by omega, by decide, fun k k0 k1 => ?_⟩
    refine o_ixS (small (by decide +kernel)) (abc_at k0 k1) ?_
    walk_at "a"
    refine o_addS (small (by rw [lz]; show i + 1 ≤ _; omega)) ?_
    refine ⟨_, _, rfl, rfl, by rw [str_len, str_app, List.length_append, ← str_len, lz]; rfl, fun w hw => ?_⟩
    rw [str_app] at hw
    rcases List.mem_append.mp hw with h | h
    · exact hz w h
    · have := List.mem_singleton.mp h
      omega
  · rintro s M' ⟨z, y, rfl, rfl, lz, hz⟩
    rw [List.length_map, List.length_range] at lz
    walk_at "a"
    rw [List.length_map, List.length_range]
    exact q z _ ⟨by omega, by omega, hz⟩ (by omega)
theorem p_l_names_len {K : PySem.W.Frag} {vs : List V} {H : Hp} {Q : VK} {E : XK} (h : cs K fNames vs H Q E) : vs.length = 2 := fn_len (fun as M Q ⟨_, _, _, _, _, e, _⟩ => by rw [e]; rfl) h
abbrev zzs : List Str := ["zza", "zzb", "zzc", "zzd", "zze", "zzf", "zzg", "zzh"]
theorem zz_map : ((("abcdefgh" : Str)).cps.toList.map fun c => ("zz" : Str) ++ (⟨#[c]⟩ : Str)) = zzs := by decide +kernel
theorem zz_nd : zzs.Nodup := by decide +kernel
theorem zz_tx : ∀ z ∈ zzs, isTx8 z := by
  unfold isTx8
  decide +kernel
theorem p_l_names {K : PySem.W.Frag} {vs : List V} {H : Hp} {Q : VK} {E : XK} (h : cs K fNames vs H Q E) : t_l_names K { nx := fun _ H' => Q .non H', rt := Q } (start N_l_names vs) H := fn_of h fun as M Qa h => by
  obtain ⟨l, c, n, m, C, rfl, hC, hn, hm, q⟩ := h
  have hC2 : ∀ u, Ctx (C u) l u C := fun u => hC.at u
  have eM := hC.eq
  subst eM
  unfold t_l_names
  walk_at "a"
  intro F
  walk_at "a"
  refine ⟨_, rfl, by omega, by omega, ?_⟩
  refine ⟨fun i s M' => ∃ zs n' y3 y4 y5, s = [some (.loc l), some (.int (m : Int)), some (.loc F), y3, y4, y5] ∧ M' = (F, .lst (zs.map A.str)) :: C (srcO c n') ∧ zs.Nodup ∧ (∀ z ∈ zs, isTx8 z) ∧ zs.length ≤ i ∧ n' ≤ n + 9 * i, ⟨[], n, _, _, _, rfl, rfl, .nil, (fun z hz => by cases hz), Nat.zero_le _, by omega⟩, ?_, ?_⟩
  · rintro i x s M' hx ⟨zs, n', y3, y4, y5, rfl, rfl, nd, tz, lz, ln⟩
    have hi : i < 4 * m := by
      have := (List.getElem?_eq_some_iff.mp hx).1
      rw [List.length_map, List.length_range] at this
      omega
    walk_at "a"
    refine ⟨l, c, n', _, rfl, .there (hC2 _), by omega, fun z n2 hz l2 => ?_⟩
    walk_at "a"
    refine o_ninStr (names := zs) (.inl (.loc .here)) ?_
    walk_at "a"
    refine if_n2 (fun nz => ?_) (fun mz => ?_)
    · walk_at "a"
      refine m_append (xs := zs.map A.str) .here (small' (by rw [List.length_map]; omega)) ?_
      refine ⟨zs ++ [z], n2, _, _, _, rfl, by rw [List.map_append]; rfl, snoc_nodup nd nz, fun w hw => ?_, by rw [List.length_append]; show _ + 1 ≤ _; omega, by omega⟩
      rcases List.mem_append.mp hw with h | h
      · exact tz w h
      · rw [List.mem_singleton.mp h]; exact hz
    · walk_at "a"
      exact ⟨zs, n2, _, _, _, rfl, rfl, nd, tz, by omega, by omega⟩
  · rintro s M' ⟨zs, n', y3, y4, y5, rfl, rfl, nd, tz, lz, ln⟩
    rw [List.length_map, List.length_range] at lz ln
    walk_at "a"
    refine e_filterF (α := Nat) (fun k => !decide (("zz" : Str) ++ (⟨#[k]⟩ : Str) ∈ zs)) (fun k => A.str (("zz" : Str) ++ (⟨#[k]⟩ : Str))) ?_
    refine i_str (e_str ⟨_, rfl, sign, _, rfl, small (by decide +kernel), fun k hk M2 up => ?_, ?_⟩)
    · walk_at "a"
      refine o_addS (small (by show 2 + 1 ≤ _; decide)) ?_
      refine e_var rfl (o_ninStr (names := zs) (.inl (.loc (up _ _ .here))) ?_)
      walk_at "a"
      refine ⟨rfl, rfl, fun _ => ?_⟩
      walk_at "a"
      refine o_addS (small (by show 2 + 1 ≤ _; decide)) ?_
      exact ⟨rfl, rfl⟩
    have ew : (((("abcdefgh" : Str)).cps.toList.filter fun k => !decide (("zz" : Str) ++ (⟨#[k]⟩ : Str) ∈ zs)).map fun k => A.str (("zz" : Str) ++ (⟨#[k]⟩ : Str))) = (zzs.filter fun z => !decide (z ∈ zs)).map A.str := by
      rw [← zz_map, List.filter_map, List.map_map]
      rfl
    rw [ew]
    have lw : (zzs.filter fun z => !decide (z ∈ zs)).length ≤ 8 := List.length_filter_le _ _
    refine o_cat (.loc .here) .lst (small (by rw [List.length_map, List.length_map]; omega)) ?_
    walk_at "a"
    rw [cut_to, ← List.map_append, ← List.map_take]
    have ndall : (zs ++ zzs.filter fun z => !decide (z ∈ zs)).Nodup := List.nodup_append.mpr ⟨nd, zz_nd.filter _, fun a ha b hb e => by
      have := (List.mem_filter.mp hb).2
      rw [← e, decide_eq_true ha] at this
      cases this⟩
    refine q _ n' ?_ (ndall.sublist (List.take_sublist _ _)) (fun z hz => ?_) (by omega)
    · rw [List.length_take, Nat.min_eq_left]
      have : zzs.length ≤ (zs ++ zzs.filter fun z => !decide (z ∈ zs)).length := sub_len zz_nd fun z hz => by
        by_cases h : z ∈ zs
        · exact List.mem_append.mpr (.inl h)
        · exact List.mem_append.mpr (.inr (List.mem_filter.mpr ⟨hz, by rw [decide_eq_false h]; rfl⟩))
      have e8 : zzs.length = 8 := rfl
      omega
    · rcases List.mem_append.mp (List.mem_of_mem_take hz) with h | h
      · exact tz z h
      · exact zz_tx z (List.mem_filter.mp h).1
theorem p_l_number_len {K : PySem.W.Frag} {vs : List V} {H : Hp} {Q : VK} {E : XK} (h : cs K fNumber vs H Q E) : vs.length = 1 := fn_len (fun as M Q ⟨_, _, _, _, e, _⟩ => by rw [e]; rfl) h
theorem p_l_number {K : PySem.W.Frag} {vs : List V} {H : Hp} {Q : VK} {E : XK} (h : cs K fNumber vs H Q E) : t_l_number K { nx := fun _ H' => Q .non H', rt := Q } (start N_l_number vs) H := fn_of h fun as M Qa h => by
  obtain ⟨l, c, n, C, rfl, hC, hn, q⟩ := h
  have hC2 : ∀ u, Ctx (C u) l u C := fun u => hC.at u
  unfold t_l_number
  walk_at "a"
  refine ⟨l, _, c, n, C, rfl, hC, by omega, by decide, fun d h0 h1 => ?_⟩
  walk_at "a"
  refine if_2 (fun hd => ?_) (fun hd => ?_)
  · walk_at "a"
    refine ⟨l, c, n + 1, C, _, _, rfl, hC2 _, by omega, ⟨.lst, .lst⟩, (by intro z; cases z), (by show 5 ≤ 1000000; decide), fun x hx => ?_⟩
    walk_at "a"
    have : ∃ d : Int, x = .int d ∧ -(10 ^ 12) ≤ d ∧ d ≤ 10 ^ 12 := by
      rcases List.mem_cons.mp hx with h | hx
      · exact ⟨_, h, by decide, by decide⟩
      rcases List.mem_cons.mp hx with h | hx
      · exact ⟨_, h, by decide, by decide⟩
      rcases List.mem_cons.mp hx with h | hx
      · exact ⟨_, h, by decide, by decide⟩
      rcases List.mem_cons.mp hx with h | hx
      · exact ⟨_, h, by decide, by decide⟩
      rcases List.mem_cons.mp hx with h | hx
      · exact ⟨_, h, by decide, by decide⟩
      cases hx
    obtain ⟨d, rfl, g1, g2⟩ := this
    exact q d _ g1 g2 (by omega)
  · walk_at "a"
    have ht : ∃ t : Int, atI [A.int 20, .int 1000, .int (2 * 10 ^ (9 : Int).toNat)] (d - 1) = some (.int t) ∧ 2 ≤ t ∧ t ≤ 2000000000 := by
      have : d = 1 ∨ d = 2 ∨ d = 3 := by omega
      rcases this with rfl | rfl | rfl
      · exact ⟨20, rfl, by decide, by decide⟩
      · exact ⟨1000, rfl, by decide, by decide⟩
      · exact ⟨2 * 10 ^ (9 : Int).toNat, rfl, by decide, by decide⟩
    obtain ⟨t, et, t0, t1⟩ := ht
    refine o_ixL .lst et ?_
    walk_at "a"
    refine ⟨l, _, c, n + 1, C, rfl, hC2 _, by omega, by omega, fun x x0 x1 => ?_⟩
    walk_at "a"
    refine ⟨l, _, c, n + 1 + 1, C, rfl, hC2 _, by omega, by decide, fun y y0 y1 => ?_⟩
    walk_at "a"
    refine o_mulX (mulA (by omega) (by omega) (by omega) (by omega)) ?_
    walk_at "a"
    have hy : y = 0 ∨ y = 1 := by omega
    rcases hy with rfl | rfl
    · exact q _ _ (by omega) (by omega) (by omega)
    · exact q _ _ (by omega) (by omega) (by omega)
/-- the law itself -/
theorem law_of {K : PySem.W.Frag} {vs : List V} {H : Hp} {Q : VK} {E : XK} {N : List Str} {t : TS} (h : spLaw K vs H Q E) (hb : ∀ ns : List Int, ns.length ≤ 63 → ES K (fun _ _ _ => False) (fun _ _ => False) t (startA N [.scr ns]) [] (fun _ M' => Dn (fun a _ => a = .bl true) .non M') (Dn fun a _ => a = .bl true) (fun _ _ => False) (fun _ _ => False)) :
    t { nx := fun _ H' => Q .non H', rt := Q } (start N vs) H := by
  obtain ⟨a, ns, rfl, sq, hl, q⟩ := h
  have h2 : cs K (fun as M Qa => ∃ ns, as = [.scr ns] ∧ M = [] ∧ ns.length ≤ 63 ∧ Qa = fun a _ => a = .bl true) [.ref a] H Q E := by
    refine ⟨[.scr ns], [], fun a _ => a = .bl true, .cons (.scr ?_) .nil, ⟨(fun x hx => by cases hx), .nil⟩, ⟨ns, rfl, rfl, hl, rfl⟩, fun a' v M' H' _ _ rv e => ?_⟩
    · rcases sq with sq | sq
      · exact .inl ⟨(by intro z; cases z), sq⟩
      · exact .inr sq
    · subst e; cases rv
      exact q H'
  exact fn_of h2 fun as M Qa ⟨ns, e1, e2, hl, e3⟩ => by subst e1 e2 e3; exact hb ns hl

structure Gd (many b : Nat) (es : List En) : Prop where
  nd : (es.map (·.nm)).Nodup
  few : es.length ≤ 8
  tx : ∀ e ∈ es, isTx e.nm ∧ e.nu.length = many ∧ e.ot.length ≤ b ∧ ∀ z ∈ e.ot, isTx z
theorem Gd.good {many b : Nat} {es : List En} (h : Gd many b es) (hb : b ≤ 60) : Good many es := ⟨h.nd, by have := h.few; omega, fun e he => by
  obtain ⟨h1, h2, h3, h4⟩ := h.tx e he
  exact ⟨h1, h2, by omega, h4⟩⟩
def fNobody : ASp := fun as M Q => ∃ (a : A) (zs : List Str), as = [a] ∧ LsA M a (zs.map A.str) ∧ zs.length ≤ 25 ∧ ∀ z, z ∉ zs → isTx z → Q (.str z) M
def fRoll : ASp := fun as M Q => ∃ (l : Addr) (c : Int) (n m : Nat) (C : AO → AM) (zs : List Str), as = [.loc l, .lst (zs.map A.str), .int (m : Int)] ∧ Ctx M l (srcO c n) C ∧ n ≤ 700000 ∧ m ≤ 3 ∧ zs.length ≤ 8 ∧ zs.Nodup ∧ (∀ z ∈ zs, isTx8 z) ∧
  ∀ es n', es.map (·.nm) = zs → Gd m 16 es → n' ≤ n + 200 → Q (.lst (es.map entA)) (C (srcO c n'))
def fTurned : ASp := fun as M Q => ∃ (l : Addr) (c : Int) (n m b : Nat) (C : AO → AM) (es : List En), as = [.loc l, .lst (es.map entA)] ∧ Ctx M l (srcO c n) C ∧ n ≤ 700000 ∧ Gd m b es ∧ b ≤ 17 ∧ es ≠ [] ∧
  ∀ es' n', Gd m (b + 1) es' → es' ≠ [] → (∀ z ∈ es'.map (·.nm), z ∈ es.map (·.nm)) → n' ≤ n + 5 → Q (.lst (es'.map entA)) (C (srcO c n'))

-- names: 0:_law_draw_here 1:_law_names_here 2:_law_many 3:_law_ties 4:_law_name_here 5:_law_one_here 6:_law_other 7:_law_found 8:_law_small 9:_law_numbers 10:_law_k
abbrev N_l_roll : List Str := ["_law_draw_here", "_law_names_here", "_law_many", "_law_ties", "_law_name_here", "_law_one_here", "_law_other", "_law_found", "_law_small", "_law_numbers", "_law_k"]
def t_l_roll (K : PySem.W.Frag) : TS :=
  (tSeq (tAsg tDNewK (gName 3))
    (tSeq (tFor (iList K (tVar 1)) (gName 4) (sDPut (tVar 3) (tVar 4) (tLst tNil)))
    (tSeq (tFor (iList K (tVar 1)) (gName 5) (tFor (iList K (tVar 1)) (gName 6) (tIfS (tAnd (tTest (tOp rLtS (tVar 5) (tVar 6))) (tTest (tOp rEq (tCall (cs K fDraw) [] E0 (tCons (tVar 0) (tCons (tC (.int 3)) tNil))) (tC (.int 0))))) (tSeq (tDrop (tBM K "list" rAppend (tDGet (tVar 3) (tVar 5)) (tCons (tVar 6) tNil)))
          (tDrop (tBM K "list" rAppend (tDGet (tVar 3) (tVar 6)) (tCons (tVar 5) tNil)))) tNext)))
    (tSeq (tAsg (tLst tNil) (gName 7))
    (tSeq (tAsg (tCall (cs K fDraw) [] E0 (tCons (tVar 0) (tCons (tC (.int 2)) tNil))) (gName 8))
    (tSeq (tFor (iList K (tVar 1)) (gName 4) (tSeq (tAsg (tCB (rTupOf K) (tCons (tLc (iRng1 (tCons (tVar 2) tNil)) (gName 10) tYes (tOp (rIxL K) (tLst (tCons (tOp rSubI (tCall (cs K fDraw) [] E0 (tCons (tVar 0) (tCons (tC (.int 3)) tNil))) (tC (.int 1))) (tCons (tCall (cs K fNumber) [] E0 (tCons (tVar 0) tNil)) tNil))) (tVar 8)) [10]) tNil)) (gName 9))
      (tDrop (tBM K "list" rAppend (tVar 7) (tCons (tTup (tCons (tVar 4) (tCons (tOp rAddI (tC (.int 1)) (tCall (cs K fDraw) [] E0 (tCons (tVar 0) (tCons (tC (.int 3)) tNil)))) (tCons (tOp rAddI (tC (.int 1)) (tCall (cs K fDraw) [] E0 (tCons (tVar 0) (tCons (tC (.int 9)) tNil)))) (tCons (tVar 9) (tCons (tCB (rTupOf K) (tCons (tCB (rSortedS K) (tCons (tDGet (tVar 3) (tVar 4)) tNil)) tNil)) tNil)))))) tNil)))))
    (tRet (tVar 7))))))))

-- names: 0:_law_names_here 1:_law_some 2:_law_letter 3:_law_one_here
abbrev N_l_nobody : List Str := ["_law_names_here", "_law_some", "_law_letter", "_law_one_here"]
def t_l_nobody (K : PySem.W.Frag) : TS :=
  (tSeq (tAsg (tLc (iStr (tC (.str ("abcdefghijklmnopqrstuvwxyz" : Str)))) (gName 2) tYes (tOp rAddStr (tC (.str ("nobody" : Str))) (tVar 2)) [2]) (gName 1))
    (tRet (tOp (rIxL K) (tLc (iList K (tVar 1)) (gName 3) (tTest (tOp (rIn K true) (tVar 3) (tVar 0))) (tVar 3) [3]) (tC (.int 0)))))

-- names: 0:_law_draw_here 1:_law_roll_here 2:_law_k 3:_law_way 4:_law_name_here 5:_law_life 6:_law_version 7:_law_numbers 8:_law_others 9:_law_j 10:_law_some 11:_law_one_here
abbrev N_l_turned : List Str := ["_law_draw_here", "_law_roll_here", "_law_k", "_law_way", "_law_name_here", "_law_life", "_law_version", "_law_numbers", "_law_others", "_law_j", "_law_some", "_law_one_here"]
def t_l_turned (K : PySem.W.Frag) : TS :=
  (tSeq (tAsg (tCall (cs K fDraw) [] E0 (tCons (tVar 0) (tCons (tCB (Evl.rLenS K) (tCons (tVar 1) tNil)) tNil))) (gName 2))
    (tSeq (tAsg (tCall (cs K fDraw) [] E0 (tCons (tVar 0) (tCons (tC (.int 4)) tNil))) (gName 3))
    (tSeq (tAsg (tOp (rIxL K) (tVar 1) (tVar 2)) (gTup K 5 (gCons (gName 4) (gCons (gName 5) (gCons (gName 6) (gCons (gName 7) (gCons (gName 8) gNil)))))))
    (tSeq (tIfS (tAnd (tTest (tOp rEq (tVar 3) (tC (.int 0)))) (tTest (tOp rGtI (tCB (Evl.rLenS K) (tCons (tVar 1) tNil)) (tC (.int 1))))) (tRet (tOp rCat (tSl (rSlL K) (tVar 1) tNoPart (tPart (tVar 2))) (tSl (rSlL K) (tVar 1) (tPart (tOp rAddI (tVar 2) (tC (.int 1)))) tNoPart))) tNext)
    (tSeq (tIfS (tAnd (tTest (tOp rEq (tVar 3) (tC (.int 1)))) (tTest (tOp (rNeD K) (tVar 8) (tTup tNil)))) (tSeq (tAsg (tCall (cs K fDraw) [] E0 (tCons (tVar 0) (tCons (tCB (Evl.rLenS K) (tCons (tVar 8) tNil)) tNil))) (gName 9))
      (tAsg (tOp (rCatA K) (tSl (rSlA K) (tVar 8) tNoPart (tPart (tVar 9))) (tSl (rSlA K) (tVar 8) (tPart (tOp rAddI (tVar 9) (tC (.int 1)))) tNoPart)) (gName 8))) (tIfS (tTest (tOp rEq (tVar 3) (tC (.int 2)))) (tSeq (tAsg (tLc (iList K (tVar 1)) (gName 11) (tAnd (tTest (tOp rNe (tOp (rIxT K) (tVar 11) (tC (.int 0))) (tVar 4))) (tTest (tOp (rIn K true) (tOp (rIxT K) (tVar 11) (tC (.int 0))) (tVar 8)))) (tOp (rIxT K) (tVar 11) (tC (.int 0))) [11]) (gName 10))
        (tSeq (tDrop (tBM K "list" rAppend (tVar 10) (tCons (tCall (cs K fNobody) [] E0 (tCons (tOp rCat (tLc (iList K (tVar 1)) (gName 11) tYes (tOp (rIxT K) (tVar 11) (tC (.int 0))) [11]) (tCB (Evl.rListS K) (tCons (tVar 8) tNil))) tNil)) tNil)))
        (tAsg (tCB (rTupOf K) (tCons (tCB (rSortedTS K) (tCons (tOp (rCatA K) (tVar 8) (tTup (tCons (tCall (cs K fPick) [] E0 (tCons (tVar 0) (tCons (tVar 10) tNil))) tNil))) tNil)) tNil)) (gName 8)))) tNext))
    (tRet (tOp rCat (tOp rCat (tSl (rSlL K) (tVar 1) tNoPart (tPart (tVar 2))) (tLst (tCons (tTup (tCons (tVar 4) (tCons (tVar 5) (tCons (tVar 6) (tCons (tVar 7) (tCons (tVar 8) tNil)))))) tNil))) (tSl (rSlL K) (tVar 1) (tPart (tOp rAddI (tVar 2) (tC (.int 1)))) tNoPart))))))))


theorem p_l_nobody_len {K : PySem.W.Frag} {vs : List V} {H : Hp} {Q : VK} {E : XK} (h : cs K fNobody vs H Q E) : vs.length = 1 := fn_len (fun as M Q ⟨_, _, e, _⟩ => by rw [e]; rfl) h
abbrev nobs : List Str := (("abcdefghijklmnopqrstuvwxyz" : Str)).cps.toList.map fun c => ("nobody" : Str) ++ (⟨#[c]⟩ : Str)
theorem nob_nd : nobs.Nodup := by decide +kernel
theorem nob_tx : ∀ z ∈ nobs, isTx z := by
  unfold isTx
  decide +kernel
theorem nob_len : nobs.length = 26 := by decide +kernel
theorem p_l_nobody {K : PySem.W.Frag} {vs : List V} {H : Hp} {Q : VK} {E : XK} (h : cs K fNobody vs H Q E) : t_l_nobody K { nx := fun _ H' => Q .non H', rt := Q } (start N_l_nobody vs) H := fn_of h fun as M Qa h => by
  obtain ⟨a, zs, rfl, hl, lz, q⟩ := h
  unfold t_l_nobody
  walk_at "a"
  refine e_mapF (α := Nat) (fun k => A.str (("nobody" : Str) ++ (⟨#[k]⟩ : Str))) ?_
  refine i_str (e_str ⟨_, rfl, sign, _, rfl, small (by decide +kernel), fun k hk M2 up => ?_, ?_⟩)
  · walk_at "a"
    refine o_addS (small (by show 6 + 1 ≤ _; decide)) ?_
    exact ⟨rfl, rfl⟩
  walk_at "a"
  refine e_filterF (α := Str) (fun z => !decide (z ∈ zs)) A.str ?_
  walk_at "a"
  refine ⟨A.str, nobs, by rw [List.map_map]; rfl, small (by rw [nob_len]; decide), fun z hz M2 up => ?_, ?_⟩
  · walk_at "a"
    refine o_ninStr (names := zs) (.inl (hl.sub up)) ?_
    walk_at "a"
    refine ⟨rfl, rfl, fun _ => ?_⟩
    walk_at "a"
    exact ⟨rfl, rfl⟩
  walk_at "a"
  cases hf : nobs.filter fun z => !decide (z ∈ zs) with
  | nil =>
    have : nobs.length ≤ zs.length := sub_len nob_nd fun z hz => by
      by_cases h : z ∈ zs
      · exact h
      · have : z ∈ nobs.filter fun z => !decide (z ∈ zs) := List.mem_filter.mpr ⟨hz, by rw [decide_eq_false h]; rfl⟩
        rw [hf] at this
        cases this
    rw [nob_len] at this
    omega
  | cons z fs =>
    have hz : z ∈ nobs.filter fun z => !decide (z ∈ zs) := by rw [hf]; exact .head _
    obtain ⟨m1, m2⟩ := List.mem_filter.mp hz
    refine o_ixL (xs := (z :: fs).map A.str) .lst (atI_at (i := 0) rfl) ?_
    walk_at "a"
    exact q z (fun h => by rw [decide_eq_true h] at m2; cases m2) (nob_tx z m1)
theorem p_l_roll_len {K : PySem.W.Frag} {vs : List V} {H : Hp} {Q : VK} {E : XK} (h : cs K fRoll vs H Q E) : vs.length = 3 := fn_len (fun as M Q ⟨_, _, _, _, _, _, e, _⟩ => by rw [e]; rfl) h
/-- how many names a list of ties may have, at turn i of the outer loop, j of the inner one -/
def capT (n i j k : Nat) : Nat := i + (if k < j then 1 else 0) + (if k < i then n else if k = i then j else 0)
def TiesOk (n i j : Nat) (ls : List (List Str)) : Prop := ∀ k l, ls[k]? = some l → l.length ≤ capT n i j k ∧ ∀ z ∈ l, isTx8 z
theorem getElem?_map_some {α β : Type} {f : α → β} {l : List α} {i : Nat} {x : α} (h : l[i]? = some x) : (l.map f)[i]? = some (f x) := by rw [List.getElem?_map, h]; rfl
theorem p_l_roll {K : PySem.W.Frag} {vs : List V} {H : Hp} {Q : VK} {E : XK} (h : cs K fRoll vs H Q E) : t_l_roll K { nx := fun _ H' => Q .non H', rt := Q } (start N_l_roll vs) H := fn_of h fun as M Qa h => by
  obtain ⟨l, c, n, m, C, zs, rfl, hC, hn, hm, lz, nd, tz, q⟩ := h
  have hC2 : ∀ u, Ctx (C u) l u C := fun u => hC.at u
  have eM := hC.eq
  subst eM
  unfold t_l_roll
  walk_at "a"
  intro T
  walk_at "a"
  refine ⟨fun i s M' => ∃ qs y4 y5 y6 y7 y8 y9 y10, s = [some (.loc l), some (.lst (zs.map A.str)), some (.int (m : Int)), some (.loc T), y4, y5, y6, y7, y8, y9, y10] ∧ qs.length = i ∧ M' = (T, .dic (zipD (zs.take i) qs)) :: (zipC qs (List.replicate i []) ++ C (srcO c n)), ⟨[], _, _, _, _, _, _, _, rfl, rfl, rfl⟩, ?_, ?_⟩
  · rintro i zv s M' hzv ⟨qs, y4, y5, y6, y7, y8, y9, y10, rfl, lq, rfl⟩
    obtain ⟨z, hz, rfl⟩ := map_at hzv
    have hi := (List.getElem?_eq_some_iff.mp hz).1
    refine g_name (s_permN ?_)
    walk_at "a"
    intro p
    walk_at "a"
    have e1 : zs.take (i + 1) = zs.take i ++ [z] := by rw [List.take_add_one, hz]; rfl
    have hnz : z ∉ zs.take i := fun hm => by
      have h2 := nd
      rw [← List.take_append_drop i zs, List.nodup_append] at h2
      refine h2.2.2 z hm z ?_ rfl
      rw [List.drop_eq_getElem_cons hi]
      have : zs[i] = z := by rw [List.getElem?_eq_getElem hi] at hz; exact Option.some.inj hz
      rw [this]; exact .head _
    refine ⟨T, _, .inr z, _, rfl, rfl, .there .here, small' (by rw [List.length_zipWith]; omega), ?_⟩
    refine ⟨(T, .dic (zipD (zs.take (i + 1)) (qs ++ [p]))) :: (zipC (qs ++ [p]) (List.replicate (i + 1) []) ++ C (srcO c n)), ?_, qs ++ [p], _, _, _, _, _, _, _, rfl, by rw [List.length_append, lq]; rfl, rfl⟩
    have ez : zipC (qs ++ [p]) (List.replicate (i + 1) []) = zipC qs (List.replicate i []) ++ [(p, AO.lst [])] := by
      rw [List.replicate_succ']
      show List.zipWith _ _ _ = _
      rw [List.zipWith_append (by rw [lq, List.length_replicate])]; rfl
    rw [zip_put (by rw [List.length_take, lq]; omega) hnz, ← e1, ez]
    refine (List.Perm.swap _ _ _).trans (.cons _ ?_)
    rw [List.append_assoc]
    exact List.perm_middle.symm
  · rintro s M' ⟨qs, y4, y5, y6, y7, y8, y9, y10, rfl, lq, rfl⟩
    rw [List.length_map] at lq ⊢
    rw [List.take_of_length_le (Nat.le_refl _)]
    have gq : ∀ {a : Nat}, a < zs.length → ∃ q, qs[a]? = some q := fun {a} ha => ⟨qs[a]'(by omega), List.getElem?_eq_getElem (by omega)⟩
    walk_at "a"
    refine ⟨fun i s M' => ∃ n' ls y4 y5 y6 y7 y8 y9 y10, s = [some (.loc l), some (.lst (zs.map A.str)), some (.int (m : Int)), some (.loc T), y4, y5, y6, y7, y8, y9, y10] ∧ M' = (T, .dic (zipD zs qs)) :: (zipC qs (ls.map fun l => l.map A.str) ++ C (srcO c n')) ∧ ls.length = zs.length ∧ TiesOk zs.length i 0 ls ∧ n' ≤ n + 8 * i, ⟨n, List.replicate zs.length [], _, _, _, _, _, _, _, rfl, by rw [List.map_replicate]; rfl, List.length_replicate, fun k l hk => ?_, by omega⟩, ?_, ?_⟩
    · rw [List.getElem?_replicate] at hk
      split at hk
      · cases hk; exact ⟨Nat.zero_le _, fun z hz => by cases hz⟩
      · cases hk
    · rintro i xv s M' hxv ⟨n', ls, y4, y5, y6, y7, y8, y9, y10, rfl, rfl, ll, ok, ln⟩
      obtain ⟨x, hx, rfl⟩ := map_at hxv
      have hi := (List.getElem?_eq_some_iff.mp hx).1
      walk_at "a"
      refine ⟨fun j s M' => ∃ n2 ls y6, s = [some (.loc l), some (.lst (zs.map A.str)), some (.int (m : Int)), some (.loc T), y4, some (.str x), y6, y7, y8, y9, y10] ∧ M' = (T, .dic (zipD zs qs)) :: (zipC qs (ls.map fun l => l.map A.str) ++ C (srcO c n2)) ∧ ls.length = zs.length ∧ TiesOk zs.length i j ls ∧ n2 ≤ n + 8 * i + j, ⟨n', ls, _, rfl, rfl, ll, ok, by omega⟩, ?_, ?_⟩
      · rintro j yv s M' hyv ⟨n2, ls, y6, rfl, rfl, ll, ok, ln2⟩
        obtain ⟨y, hy, rfl⟩ := map_at hyv
        have hj := (List.getElem?_eq_some_iff.mp hy).1
        have same : ∀ n3, n3 ≤ n2 + 1 → ∀ (ls : List (List Str)), TiesOk zs.length i j ls → TiesOk zs.length i (j + 1) ls := fun n3 _ ls ok k l hk => by
          obtain ⟨h1, h2⟩ := ok k l hk
          refine ⟨Nat.le_trans h1 ?_, h2⟩
          unfold capT
          split <;> split <;> split <;> (try split) <;> omega
        walk_at "a"
        refine if_2 (fun hlt => ?_) (fun hlt => ?_)
        · walk_at "a"
          refine ⟨l, _, c, n2, _, rfl, .there (ctx_app (hC2 _)), by omega, by decide, fun d d0 d1 => ?_⟩
          walk_at "a"
          refine if_2 (fun hd => ?_) (fun hd => ?_)
          · obtain ⟨qx, hqx⟩ := gq hi
            obtain ⟨qy, hqy⟩ := gq hj
            have hij : i ≠ j := fun e => by
              subst e
              rw [hx] at hy
              cases hy
              exact List.lt_irrefl _ hlt
            have hlx : ls[i]? = some (ls[i]'(by omega)) := List.getElem?_eq_getElem (by omega)
            have hly : ls[j]? = some (ls[j]'(by omega)) := List.getElem?_eq_getElem (by omega)
            generalize ls[i]'(by omega) = lx at hlx
            generalize ls[j]'(by omega) = ly at hly
            obtain ⟨cx, tx⟩ := ok i lx hlx
            obtain ⟨cy, ty⟩ := ok j ly hly
            have b1 : capT zs.length i j i ≤ 20 := by unfold capT; rw [if_neg (Nat.lt_irrefl i), if_pos rfl]; split <;> omega
            have b2 : capT zs.length i j j ≤ 20 := by unfold capT; split <;> split <;> (try split) <;> omega
            have u1 : Up (zipC qs (ls.map fun l => l.map A.str) ++ C (srcO c (n2 + 1))) qx (.lst (lx.map A.str)) (.lst (lx.map A.str ++ [.str y])) (zipC qs ((ls.set i (lx ++ [y])).map fun l => l.map A.str) ++ C (srcO c (n2 + 1))) := by
              have := zip_up (M := C (srcO c (n2 + 1))) (l' := lx.map A.str ++ [.str y]) hqx (getElem?_map_some (f := fun l : List Str => l.map A.str) hlx)
              rw [List.map_set, List.map_append]
              exact this
            walk_at "a"
            refine ⟨T, _, .inr x, .loc qx, rfl, .here, rfl, zip_val nd hx hqx, ?_⟩
            refine e_lsx (.loc (.there u1.lk)) ?_
            walk_at "a"
            refine m_append (.there u1) (small' (by rw [List.length_map]; omega)) ?_
            walk_at "a"
            have hly2 : (ls.set i (lx ++ [y]))[j]? = some ly := by rw [List.getElem?_set_ne hij]; exact hly
            have u2 : Up (zipC qs ((ls.set i (lx ++ [y])).map fun l => l.map A.str) ++ C (srcO c (n2 + 1))) qy (.lst (ly.map A.str)) (.lst (ly.map A.str ++ [.str x])) (zipC qs (((ls.set i (lx ++ [y])).set j (ly ++ [x])).map fun l => l.map A.str) ++ C (srcO c (n2 + 1))) := by
              have := zip_up (M := C (srcO c (n2 + 1))) (l' := ly.map A.str ++ [.str x]) hqy (getElem?_map_some (f := fun l : List Str => l.map A.str) hly2)
              rw [List.map_set (l := ls.set i (lx ++ [y])), List.map_append]
              exact this
            refine ⟨T, _, .inr y, .loc qy, rfl, .here, rfl, zip_val nd hy hqy, ?_⟩
            refine e_lsx (.loc (.there u2.lk)) ?_
            walk_at "a"
            refine m_append (.there u2) (small' (by rw [List.length_map]; omega)) ?_
            refine ⟨n2 + 1, (ls.set i (lx ++ [y])).set j (ly ++ [x]), _, rfl, rfl, by rw [List.length_set, List.length_set]; exact ll, fun k lk' hk => ?_, by omega⟩
            by_cases ekj : k = j
            · subst ekj
              rw [List.getElem?_set_self (by rw [List.length_set]; omega)] at hk
              cases hk
              refine ⟨?_, fun w hw => ?_⟩
              · rw [List.length_append]
                show _ + 1 ≤ _
                unfold capT at cy ⊢
                rw [if_neg (Nat.lt_irrefl _)] at cy
                rw [if_pos (Nat.lt_succ_self _)]
                split at cy <;> (try split at cy) <;> split <;> (try split) <;> omega
              · rcases List.mem_append.mp hw with h | h
                · exact ty w h
                · rw [List.mem_singleton.mp h]; exact tz x (List.mem_of_getElem? hx)
            · rw [List.getElem?_set_ne (fun e => ekj e.symm)] at hk
              by_cases eki : k = i
              · subst eki
                rw [List.getElem?_set_self (by omega)] at hk
                cases hk
                refine ⟨?_, fun w hw => ?_⟩
                · rw [List.length_append]
                  show _ + 1 ≤ _
                  unfold capT at cx ⊢
                  rw [if_neg (Nat.lt_irrefl _), if_pos rfl] at cx ⊢
                  split at cx <;> split <;> omega
                · rcases List.mem_append.mp hw with h | h
                  · exact tx w h
                  · rw [List.mem_singleton.mp h]; exact tz y (List.mem_of_getElem? hy)
              · rw [List.getElem?_set_ne (fun e => eki e.symm)] at hk
                exact same (n2 + 1) (Nat.le_refl _) ls ok k lk' hk
          · walk_at "a"
            exact ⟨n2 + 1, ls, _, rfl, rfl, ll, same (n2 + 1) (Nat.le_refl _) ls ok, by omega⟩
        · walk_at "a"
          exact ⟨n2, ls, _, rfl, rfl, ll, same n2 (by omega) ls ok, by omega⟩
      · rintro s M' ⟨n2, ls, y6, rfl, rfl, ll, ok, ln2⟩
        rw [List.length_map] at ok ln2
        refine ⟨n2, ls, _, _, _, _, _, _, _, rfl, rfl, ll, fun k l hk => ?_, by omega⟩
        obtain ⟨h1, h2⟩ := ok k l hk
        have hk2 := (List.getElem?_eq_some_iff.mp hk).1
        refine ⟨Nat.le_trans h1 ?_, h2⟩
        unfold capT
        split <;> split <;> split <;> (try split) <;> (try split) <;> omega
    · rintro s M' ⟨n', ls, y4, y5, y6, y7, y8, y9, y10, rfl, rfl, ll, ok, ln⟩
      rw [List.length_map] at ok ln
      have cap : ∀ (k : Nat) (l : List Str), ls[k]? = some l → l.length ≤ 16 ∧ ∀ z ∈ l, isTx8 z := fun k l hk => by
        obtain ⟨h1, h2⟩ := ok k l hk
        have hk2 := (List.getElem?_eq_some_iff.mp hk).1
        refine ⟨Nat.le_trans h1 ?_, h2⟩
        unfold capT
        rw [if_neg (Nat.not_lt_zero _), if_pos (by omega)]
        omega
      walk_at "a"
      intro F
      walk_at "a"
      refine ⟨l, _, c, n', _, rfl, .there (.there (ctx_app (hC2 _))), by omega, by decide, fun sm s0 s1 => ?_⟩
      walk_at "a"
      refine ⟨fun i s M' => ∃ es n2 y4 y9, s = [some (.loc l), some (.lst (zs.map A.str)), some (.int (m : Int)), some (.loc T), y4, y5, y6, some (.loc F), some (.int sm), y9, y10] ∧ M' = (F, .lst (es.map entA)) :: (T, .dic (zipD zs qs)) :: (zipC qs (ls.map fun l => l.map A.str) ++ C (srcO c n2)) ∧ es.map (·.nm) = zs.take i ∧ (∀ e ∈ es, e.nu.length = m ∧ e.ot.length ≤ 16 ∧ ∀ z ∈ e.ot, isTx8 z) ∧ n2 ≤ n' + 1 + 14 * i, ⟨[], n' + 1, _, _, rfl, rfl, rfl, (fun e he => by cases he), by omega⟩, ?_, ?_⟩
      · rintro i zv s M' hzv ⟨es, n2, y4, y9, rfl, rfl, en, ok2, ln2⟩
        obtain ⟨z, hz, rfl⟩ := map_at hzv
        have hi := (List.getElem?_eq_some_iff.mp hz).1
        obtain ⟨qz, hqz⟩ := gq hi
        have hlz : ls[i]? = some (ls[i]'(by omega)) := List.getElem?_eq_getElem (by omega)
        generalize ls[i]'(by omega) = lz' at hlz
        obtain ⟨cz, tz2⟩ := cap i lz' hlz
        have le : es.length = i := by
          have := congrArg List.length en
          rw [List.length_map, List.length_take] at this
          omega
        walk_at "a"
        refine e_lc ?_
        walk_at "a"
        refine ⟨_, rfl, by omega, by omega, small (by rw [List.length_map, List.length_range]; omega), fun k acc M2 => ∃ (ns : List Int) (n3 : Nat), acc = ns.map A.int ∧ ns.length = k ∧ M2 = (F, .lst (es.map entA)) :: (T, .dic (zipD zs qs)) :: (zipC qs (ls.map fun l => l.map A.str) ++ C (srcO c n3)) ∧ n3 ≤ n2 + 4 * k, ⟨[], n2, rfl, rfl, rfl, by omega⟩, ?_, ?_⟩
        · rintro k x acc M2 D hx ⟨ns, n3, rfl, lk3, rfl, ln3⟩
          have hk : k < m := by
            have := (List.getElem?_eq_some_iff.mp hx).1
            rw [List.length_map, List.length_range] at this
            omega
          walk_at "a"
          refine ⟨l, _, c, n3, _, rfl, .there (.there (.there (ctx_app (hC2 _)))), by omega, by decide, fun d d0 d1 => ?_⟩
          walk_at "a"
          refine ⟨l, c, n3 + 1, _, rfl, .there (.there (.there (ctx_app (hC2 _)))), by omega, fun d2 n4 _ _ ln4 => ?_⟩
          walk_at "a"
          have : ∃ v : Int, atI [A.int (d - 1), .int d2] sm = some (.int v) := by
            have : sm = 0 ∨ sm = 1 := by omega
            rcases this with rfl | rfl
            · exact ⟨_, rfl⟩
            · exact ⟨_, rfl⟩
          obtain ⟨v, hv⟩ := this
          refine o_ixL .lst hv ?_
          exact ⟨_, rfl, ns ++ [v], n4, by rw [List.map_append]; rfl, by rw [List.length_append, lk3]; rfl, rfl, by omega⟩
        · rintro acc M2 ⟨ns, n3, rfl, lk3, rfl, ln3⟩
          rw [List.length_map, List.length_range] at lk3 ln3
          walk_at "a"
          refine ⟨l, _, c, n3, _, rfl, .there (.there (ctx_app (hC2 _))), by omega, by decide, fun d d0 d1 => ?_⟩
          walk_at "a"
          refine ⟨l, _, c, n3 + 1, _, rfl, .there (.there (ctx_app (hC2 _))), by omega, by decide, fun d2 d20 d21 => ?_⟩
          walk_at "a"
          refine ⟨T, _, .inr z, .loc qz, rfl, .there .here, rfl, zip_val nd hz hqz, ?_⟩
          walk_at "a"
          have u1 := zip_up (M := C (srcO c (n3 + 1 + 1))) (l' := []) hqz (getElem?_map_some (f := fun l : List Str => l.map A.str) hlz)
          refine l_sorted (zs := lz') (.loc (.there (.there u1.lk))) (by omega) fun ys hp hs => ?_
          walk_at "a"
          refine m_append (xs := es.map entA) .here (small' (by rw [List.length_map]; omega)) ?_
          refine ⟨es ++ [⟨z, 1 + d, 1 + d2, ns, ys⟩], n3 + 1 + 1, _, _, rfl, by rw [List.map_append]; rfl, ?_, fun e he => ?_, by omega⟩
          · rw [List.map_append, en, List.take_add_one, hz]; rfl
          · rcases List.mem_append.mp he with h | h
            · exact ok2 e h
            · rw [List.mem_singleton.mp h]
              exact ⟨by show ns.length = m; omega, by show ys.length ≤ 16; rw [hp.length_eq]; exact cz, fun w hw => tz2 w (hp.mem_iff.mp hw)⟩
      · rintro s M' ⟨es, n2, y4, y9, rfl, rfl, en, ok2, ln2⟩
        rw [List.length_map] at en ln2
        rw [List.take_of_length_le (Nat.le_refl _)] at en
        have le : es.length = zs.length := by rw [← en, List.length_map]
        walk_at "e"
        walk_at "e"
        refine dnF (dnD (dn_zip (dn0 ?_)))
        refine q es n2 en ⟨by rw [en]; exact nd, by omega, fun e he => ?_⟩ (by omega)
        obtain ⟨h1, h2, h3⟩ := ok2 e he
        exact ⟨(tz e.nm (by rw [← en]; exact List.mem_map.mpr ⟨e, he, rfl⟩)).tx, h1, h2, fun z hz => (h3 z hz).tx⟩

theorem p_l_turned_len {K : PySem.W.Frag} {vs : List V} {H : Hp} {Q : VK} {E : XK} (h : cs K fTurned vs H Q E) : vs.length = 2 := fn_len (fun as M Q ⟨_, _, _, _, _, _, _, e, _⟩ => by rw [e]; rfl) h
theorem Gd.cut {m b : Nat} {es : List En} (g : Gd m b es) (k : Nat) : Gd m (b + 1) (es.take k ++ es.drop (k + 1)) := by
  have sub : (es.take k ++ es.drop (k + 1)).Sublist es := by
    have := List.take_append_drop k es
    conv => rhs; rw [← this]
    exact (List.Sublist.refl _).append (by rw [← List.drop_drop]; exact List.drop_sublist 1 _)
  refine ⟨g.nd.sublist (sub.map _), Nat.le_trans sub.length_le g.few, fun e he => ?_⟩
  obtain ⟨h1, h2, h3, h4⟩ := g.tx e (sub.mem he)
  exact ⟨h1, h2, by omega, h4⟩
theorem set_split {es : List En} {k : Nat} (hk : k < es.length) (e : En) : es.take k ++ [e] ++ es.drop (k + 1) = es.set k e := by
  rw [List.set_eq_take_append_cons_drop, if_pos hk, List.append_assoc]; rfl
theorem Gd.put {m b : Nat} {es : List En} (g : Gd m b es) {k : Nat} {e : En} (hk : es[k]? = some e) {ot : List Str} (ho : ot.length ≤ b + 1 ∧ ∀ z ∈ ot, isTx z) : Gd m (b + 1) (es.set k { e with ot := ot }) := by
  have en : (es.set k { e with ot := ot }).map (·.nm) = es.map (·.nm) := by
    rw [List.map_set]
    exact List.ext_getElem? fun i => by
      by_cases hi : i = k
      · subst hi
        rw [List.getElem?_set_self (by rw [List.length_map]; exact (List.getElem?_eq_some_iff.mp hk).1), List.getElem?_map, hk]; rfl
      · rw [List.getElem?_set_ne (fun e => hi e.symm)]
  refine ⟨by rw [en]; exact g.nd, by rw [List.length_set]; exact g.few, fun d hd => ?_⟩
  rcases List.mem_or_eq_of_mem_set hd with h | h
  · obtain ⟨h1, h2, h3, h4⟩ := g.tx d h
    exact ⟨h1, h2, by omega, h4⟩
  · subst h
    obtain ⟨h1, h2, h3, h4⟩ := g.tx e (List.mem_of_getElem? hk)
    exact ⟨h1, h2, ho.1, ho.2⟩
theorem set_nms {es : List En} {k : Nat} {e : En} (hk : es[k]? = some e) {ot : List Str} : ∀ z ∈ (es.set k { e with ot := ot }).map (·.nm), z ∈ es.map (·.nm) := fun z hz => by
  obtain ⟨d, hd, rfl⟩ := List.mem_map.mp hz
  rcases List.mem_or_eq_of_mem_set hd with h | h
  · exact List.mem_map.mpr ⟨d, h, rfl⟩
  · subst h
    exact List.mem_map.mpr ⟨e, List.mem_of_getElem? hk, rfl⟩
theorem eq_nilT (xs : List Str) : eqA (.tup (xs.map A.str)) (.tup []) = xs.isEmpty := by
  cases xs with
  | nil => unfold eqA; simp [A.toD, toDs, PyData.eqv, PyData.eqvAll]
  | cons x xs => unfold eqA; simp [A.toD, toDs, PyData.eqv, PyData.eqvAll]
theorem isDs_strs : ∀ xs : List Str, isDs (xs.map A.str) = true
  | [] => by rw [List.map_nil]; unfold isDs; rfl
  | x :: xs => by rw [List.map_cons]; unfold isDs; rw [isDs_strs xs]; unfold A.isD; rfl
theorem toDs_strs : ∀ xs : List Str, toDs (xs.map A.str) = xs.map PyData.str
  | [] => by rw [List.map_nil]; unfold toDs; rfl
  | x :: xs => by rw [List.map_cons]; unfold toDs; rw [toDs_strs xs]; unfold A.toD; rfl
theorem tx_ok {z : Str} (h : isTx z) : PyData.strOk z = true := by
  unfold PyData.strOk
  have hz := h.2
  rw [Array.all_eq_true]
  intro i hi
  have := hz z.cps[i] (by rw [Array.mem_toList_iff]; exact Array.getElem_mem hi)
  exact decide_eq_true (by omega)
theorem depth_strs : ∀ xs : List Str, PyData.depthAll (xs.map PyData.str) ≤ 1
  | [] => Nat.zero_le _
  | x :: xs => by rw [List.map_cons]; unfold PyData.depthAll; exact Nat.max_le.mpr ⟨by unfold PyData.depth; omega, depth_strs xs⟩
theorem lay_strs : ∀ xs : List Str, (∀ z ∈ xs, isTx z) → PyData.canLayAll0 (xs.map PyData.str) = true
  | [], _ => by rw [List.map_nil]; unfold PyData.canLayAll0; rfl
  | x :: xs, h => by rw [List.map_cons]; unfold PyData.canLayAll0 PyData.canLay0; rw [lay_strs xs fun z hz => h z (.tail _ hz), tx_ok (h x (.head _))]; rfl
theorem shapedT_strs {xs : List Str} (h : ∀ z ∈ xs, isTx z) : SeqAt.shaped (.tuple (xs.map PyData.str)) = true := by
  have h1 : PyData.canLay0 (.tuple (xs.map PyData.str)) = true := by unfold PyData.canLay0; exact lay_strs xs h
  have h2 := depth_strs xs
  unfold SeqAt.shaped
  rw [h1, Bool.true_and]
  refine decide_eq_true ?_
  unfold PyData.depth
  omega
theorem p_l_turned {K : PySem.W.Frag} {vs : List V} {H : Hp} {Q : VK} {E : XK} (h : cs K fTurned vs H Q E) : t_l_turned K { nx := fun _ H' => Q .non H', rt := Q } (start N_l_turned vs) H := fn_of h fun as M Qa h => by
  obtain ⟨l, c, n, m, b, C, es, rfl, hC, hn, gd, hb, hne, q⟩ := h
  have hC2 : ∀ u, Ctx (C u) l u C := fun u => hC.at u
  have eM := hC.eq
  subst eM
  have l8 := gd.few
  have lp : 0 < es.length := by cases es with | nil => exact absurd rfl hne | cons _ _ => exact Nat.succ_pos _
  unfold t_l_turned
  walk_at "a"
  rw [List.length_map]
  refine ⟨l, _, c, n, C, rfl, hC, by omega, by omega, fun k k0 k1 => ?_⟩
  walk_at "a"
  refine ⟨l, _, c, n + 1, C, rfl, hC2 _, by omega, by decide, fun w w0 w1 => ?_⟩
  obtain ⟨k, rfl⟩ : ∃ j : Nat, k = (j : Int) := ⟨k.toNat, by omega⟩
  have hk : k < es.length := by omega
  have he : es[k]? = some es[k] := List.getElem?_eq_getElem hk
  generalize es[k] = e at he
  have me := List.mem_of_getElem? he
  obtain ⟨g1, g2, g3, g4⟩ := gd.tx e me
  walk_at "a"
  refine o_ixL (xs := es.map entA) .lst (atI_at (getElem?_map_some (f := entA) he)) ?_
  walk_at "b"
  have e1 : (k : Int) + 1 = ((k + 1 : Nat) : Int) := by omega
  -- what is left behind the choice of the others
  have rest : ∀ (ot : List Str) (n' : Nat) (y9 y10 y11 : Option A), ot.length ≤ b + 1 → (∀ z ∈ ot, isTx z) → n' ≤ n + 5 →
      ES K (fun _ _ _ => False) (fun _ _ => False) (tRet (tOp rCat (tOp rCat (tSl (rSlL K) (tVar 1) tNoPart (tPart (tVar 2))) (tLst (tCons (tTup (tCons (tVar 4) (tCons (tVar 5) (tCons (tVar 6) (tCons (tVar 7) (tCons (tVar 8) tNil)))))) tNil))) (tSl (rSlL K) (tVar 1) (tPart (tOp rAddI (tVar 2) (tC (.int 1)))) tNoPart)))
        [some (.loc l), some (.lst (es.map entA)), some (.int (k : Int)), some (.int w), some (.str e.nm), some (.int e.li), some (.int e.ve), some (.tup (e.nu.map A.int)), some (.tup (ot.map A.str)), y9, y10, y11] (C (srcO c n')) (fun _ M' => Dn Qa .non M') (Dn Qa) (fun _ _ => False) (fun _ _ => False) := by
    intro ot n' y9 y10 y11 h1 h2 h3
    walk_at "a"
    rw [cut_to]
    refine o_cat .lst .lst (small (by rw [List.length_take, List.length_map]; show _ + 1 ≤ _; omega)) ?_
    walk_at "a"
    rw [e1, cut_from]
    refine o_cat .lst .lst (small (by rw [List.length_append, List.length_take, List.length_drop, List.length_map]; show _ + 1 + _ ≤ _; omega)) ?_
    have ee : List.take k (es.map entA) ++ [A.tup [.str e.nm, .int e.li, .int e.ve, .tup (e.nu.map A.int), .tup (ot.map A.str)]] ++ List.drop (k + 1) (es.map entA) = (es.set k { e with ot := ot }).map entA := by
      rw [← set_split hk, List.map_append, List.map_append, List.map_take, List.map_drop]; rfl
    rw [ee]
    walk_at "a"
    exact q _ n' (gd.put he ⟨h1, h2⟩) (fun z => by
      have := congrArg List.length z
      rw [List.length_set] at this
      have z0 : ([] : List En).length = 0 := rfl
      omega) (set_nms he) h3
  refine s_join (fun s' M' => s' = [some (.loc l), some (.lst (es.map entA)), some (.int (k : Int)), some (.int w), some (.str e.nm), some (.int e.li), some (.int e.ve), some (.tup (e.nu.map A.int)), some (.tup (e.ot.map A.str)), none, none, none] ∧ M' = C (srcO c (n + 1 + 1))) ?_ ?_
  · walk_at "a"
    refine if_2 (fun hw => ?_) (fun hw => ?_)
    · walk_at "a"
      rw [List.length_map]
      refine if_2 (fun hl => ?_) (fun hl => ?_)
      · walk_at "a"
        rw [cut_to, e1, cut_from]
        refine o_cat .lst .lst (small (by rw [List.length_take, List.length_drop, List.length_map]; omega)) ?_
        rw [← List.map_take, ← List.map_drop, ← List.map_append]
        walk_at "a"
        refine q _ _ (gd.cut k) (fun z => ?_) (fun z hz => ?_) (by omega)
        · have := congrArg List.length z
          rw [List.length_append, List.length_take, List.length_drop] at this
          have z0 : ([] : List En).length = 0 := rfl
          omega
        · obtain ⟨d, hd, rfl⟩ := List.mem_map.mp hz
          rcases List.mem_append.mp hd with h | h
          · exact List.mem_map.mpr ⟨d, List.mem_of_mem_take h, rfl⟩
          · exact List.mem_map.mpr ⟨d, List.mem_of_mem_drop h, rfl⟩
      · walk_at "a"
        exact ⟨rfl, rfl⟩
    · walk_at "a"
      exact ⟨rfl, rfl⟩
  · rintro s' M' ⟨rfl, rfl⟩
    walk_at "b"
    refine s_join (fun s' M' => ∃ (ot : List Str) (n' : Nat) (y9 y10 y11 : Option A), s' = [some (.loc l), some (.lst (es.map entA)), some (.int (k : Int)), some (.int w), some (.str e.nm), some (.int e.li), some (.int e.ve), some (.tup (e.nu.map A.int)), some (.tup (ot.map A.str)), y9, y10, y11] ∧ M' = C (srcO c n') ∧ ot.length ≤ b + 1 ∧ (∀ z ∈ ot, isTx z) ∧ n' ≤ n + 5) ?_ (fun s' M' ⟨ot, n', y9, y10, y11, e1, e2, h1, h2, h3⟩ => by subst e1 e2; exact rest ot n' y9 y10 y11 h1 h2 h3)
    walk_at "a"
    refine if_2 (fun hw => ?_) (fun hw => ?_)
    · walk_at "a"
      refine o_neD (by unfold A.isD; exact isDs_strs _) (by unfold A.isD isDs; rfl) (by unfold A.toD; rw [toDs_strs]; exact shapedT_strs g4) (by unfold A.toD toDs; decide) ?_
      rw [eq_nilT]
      walk_at "a"
      refine if_b (fun ho => ?_) (fun ho => ?_)
      · have lo : 0 < e.ot.length := by cases h : e.ot with | nil => rw [h] at ho; cases ho | cons _ _ => exact Nat.succ_pos _
        walk_at "a"
        rw [List.length_map]
        refine ⟨l, _, c, n + 1 + 1, C, rfl, hC2 _, by omega, by omega, fun j j0 j1 => ?_⟩
        obtain ⟨j, rfl⟩ : ∃ i : Nat, j = (i : Int) := ⟨j.toNat, by omega⟩
        have e2 : (j : Int) + 1 = ((j + 1 : Nat) : Int) := by omega
        walk_at "a"
        rw [cut_to, e2, cut_from]
        refine o_catA (small (by rw [List.length_take, List.length_drop, List.length_map]; omega)) ?_
        rw [← List.map_take, ← List.map_drop, ← List.map_append]
        refine ⟨e.ot.take j ++ e.ot.drop (j + 1), n + 1 + 1 + 1, _, _, _, rfl, rfl, by rw [List.length_append, List.length_take, List.length_drop]; omega, (fun z hz => ?_), by omega⟩
        rcases List.mem_append.mp hz with h | h
        · exact g4 z (List.mem_of_mem_take h)
        · exact g4 z (List.mem_of_mem_drop h)
      · walk_at "a"
        have hw2 : ¬ w = 2 := by omega
        rw [decide_eq_false hw2]
        walk_at "a"
        exact ⟨e.ot, _, _, _, _, rfl, rfl, by omega, g4, by omega⟩
    · walk_at "a"
      refine if_2 (fun hw2 => ?_) (fun hw2 => ?_)
      · refine s_subN ?_
        walk_at "a"
        refine e_filterC (α := En) (fun d => !decide (d.nm = e.nm) && !decide (d.nm ∈ e.ot)) (fun d => A.str d.nm) ?_
        walk_at "a"
        refine ⟨entA, es, rfl, small (by omega), fun d hd M2 up => ?_, ?_⟩
        · walk_at "a"
          refine if_b (fun hh => ?_) (fun hh => ?_)
          · walk_at "a"
            refine o_ninStr (names := e.ot) (.inr rfl) ?_
            walk_at "a"
            refine ⟨rfl, by rw [hh]; rfl, fun _ => ?_⟩
            walk_at "a"
            exact ⟨rfl, rfl⟩
          · refine ⟨rfl, by rw [hh]; rfl, fun z => ?_⟩
            rw [hh] at z
            cases z
        intro G
        generalize hfd : (es.filter fun d => !decide (d.nm = e.nm) && !decide (d.nm ∈ e.ot)) = fd
        have lfd : fd.length ≤ es.length := by rw [← hfd]; exact List.length_filter_le _ _
        have tfd : ∀ d ∈ fd, isTx d.nm := fun d hd => by
          rw [← hfd] at hd
          exact (gd.tx d (List.mem_filter.mp hd).1).1
        walk_at "a"
        refine e_mapF (α := En) (fun d => A.str d.nm) ?_
        walk_at "a"
        refine ⟨entA, es, rfl, small (by omega), fun d hd M2 up => by walk_at "a"; exact ⟨rfl, rfl⟩, ?_⟩
        walk_at "a"
        refine l_listL (.inr rfl) ?_
        refine o_cat .lst .lst (small (by rw [List.length_map, List.length_map]; omega)) ?_
        walk_at "a"
        refine ⟨_, es.map (·.nm) ++ e.ot, rfl, by rw [List.map_append, List.map_map]; exact .lst, by rw [List.length_append, List.length_map]; omega, fun z hz tz => ?_⟩
        walk_at "a"
        refine m_append (xs := fd.map fun d => A.str d.nm) .here (small' (by rw [List.length_map]; omega)) ?_
        walk_at "a"
        refine ⟨l, c, n + 1 + 1, _, _, (fd.map (·.nm) ++ [z]).map A.str, rfl, .there (hC2 _), by omega, ⟨.loc ?_, .loc ?_⟩, (by simp), by rw [List.length_map, List.length_append, List.length_map]; show _ + 1 ≤ _; omega, fun x hx => ?_⟩
        · rw [List.map_append, List.map_map]; exact .here
        · rw [List.map_append, List.map_map]; exact .here
        obtain ⟨x, hx2, rfl⟩ := List.mem_map.mp hx
        walk_at "a"
        refine o_catA (small (by rw [List.length_map]; show _ + 1 ≤ _; omega)) ?_
        walk_at "a"
        have ec : e.ot.map A.str ++ [A.str x] = (e.ot ++ [x]).map A.str := by rw [List.map_append]; rfl
        rw [ec]
        refine l_sortedT (by rw [List.length_append]; show _ + 1 < _; omega) fun ys hp hs => ?_
        walk_at "a"
        refine ⟨_, .cons _ (.refl _), ys, n + 1 + 1 + 1, _, _, _, rfl, rfl, ?_, ?_, by omega⟩
        · rw [hp.length_eq, List.length_append]
          show _ + 1 ≤ _
          omega
        · intro y hy
          rcases List.mem_append.mp (hp.mem_iff.mp hy) with h | h
          · exact g4 y h
          · rw [List.mem_singleton.mp h]
            rcases List.mem_append.mp hx2 with h | h
            · obtain ⟨d, hd, rfl⟩ := List.mem_map.mp h
              exact tfd d hd
            · rw [List.mem_singleton.mp h]; exact tz
      · walk_at "a"
        exact ⟨e.ot, _, _, _, _, rfl, rfl, by omega, g4, by omega⟩

-- names: 0:_law_script 1:_law_cell 2:_law_draw_here 3:_law_names_here 4:_law_many 5:_law_roll_here 6:_law_turn 7:_law_name_here 8:_law_entry 9:_law_due_here 10:_law_found
abbrev N_law : List Str := ["_law_script", "_law_cell", "_law_draw_here", "_law_names_here", "_law_many", "_law_roll_here", "_law_turn", "_law_name_here", "_law_entry", "_law_due_here", "_law_found"]
def t_law (K : PySem.W.Frag) : TS :=
  (tSeq (tFor (iList K (tOp rCat (tLst (tCons (tCall (cs K fCellAt) [] E0 (tCons (tVar 0) (tCons (tC (.int 0)) tNil))) tNil)) (tSl (rSlL K) (tVar 0) (tPart (tC (.int 1))) (tPart (tC (.int 16)))))) (gName 1) (tSeq (tAsg (tDisp (((tC (.str ("cell" : Str))), (tVar 1)) :: (((tC (.str ("at" : Str))), (tC (.int 0))) :: []))) (gName 2))
      (tSeq (tAsg (tSortSetS K (tCall (cs K fNames) [] E0 (tCons (tVar 2) (tCons (tOp rAddI (tC (.int 1)) (tCall (cs K fDraw) [] E0 (tCons (tVar 2) (tCons (tC (.int 8)) tNil)))) tNil)))) (gName 3))
      (tSeq (tAsg (tOp rAddI (tC (.int 1)) (tCall (cs K fDraw) [] E0 (tCons (tVar 2) (tCons (tC (.int 3)) tNil)))) (gName 4))
      (tSeq (tAsg (tCall (cs K fRoll) [] E0 (tCons (tVar 2) (tCons (tVar 3) (tCons (tVar 4) tNil)))) (gName 5))
      (tSeq (tFor (iRng1 (tCons (tCall (cs K fDraw) [] E0 (tCons (tVar 2) (tCons (tC (.int 3)) tNil))) tNil)) (gName 6) (tAsg (tCall (cs K fTurned) [] E0 (tCons (tVar 2) (tCons (tVar 5) tNil))) (gName 5)))
      (tSeq (tIfS (tOr (tTest (tOp rNotN (tCall (cs K fSure) [] E0 (tCons (tCB (rTupOf K) (tCons (tVar 5) tNil)) (tCons (tCall (cs K fNobody) [] E0 (tCons (tVar 3) tNil)) tNil))) (tC .non))) (tTest (tOp rNotN (tCall (cs K fSure) [] E0 (tCons (tTup tNil) (tCons (tOp (rIxL K) (tVar 3) (tC (.int 0))) tNil))) (tC .non)))) (tRet (tC (.bl false))) tNext)
      (tSeq (tFor (iList K (tVar 3)) (gName 7) (tIfS (tAnd (tTest (tOp (rIn K true) (tVar 7) (tLc (iList K (tVar 5)) (gName 8) tYes (tOp (rIxT K) (tVar 8) (tC (.int 0))) [8]))) (tTest (tOp rNotN (tCall (cs K fSure) [] E0 (tCons (tCB (rTupOf K) (tCons (tVar 5) tNil)) (tCons (tVar 7) tNil))) (tC .non)))) (tRet (tC (.bl false))) tNext))
      (tFor (iList K (tVar 5)) (gName 8) (tSeq (tAsg (tCall (cs K fDue) [] E0 (tCons (tVar 5) (tCons (tOp (rIxT K) (tVar 8) (tC (.int 0))) (tCons (tVar 4) tNil)))) (gName 9))
        (tSeq (tAsg (tCall (cs K fSure) [] E0 (tCons (tCB (rTupOf K) (tCons (tVar 5) tNil)) (tCons (tOp (rIxT K) (tVar 8) (tC (.int 0))) tNil))) (gName 10))
        (tSeq (tIfS (tOr (tTest (tOp (rNeD K) (tVar 10) (tVar 9))) (tAnd (tTest (tOp rNotN (tVar 10) (tC .non))) (tNot (tB (tCB (rIsi K) (tCons (tOp (rIx K) (tVar 10) (tC (.int 1))) (tCons (tC (.ty "tuple")) tNil))))))) (tRet (tC (.bl false))) tNext)
        (tIfS (tTest (tOp (rNeD K) (tCall (cs K fSure) [] E0 (tCons (tCB (rTupOf K) (tCons (tVar 5) tNil)) (tCons (tOp (rIxT K) (tVar 8) (tC (.int 0))) tNil))) (tVar 9))) (tRet (tC (.bl false))) tNext)))))))))))))
    (tRet (tC (.bl true))))

theorem p_law_len {K : PySem.W.Frag} {vs : List V} {H : Hp} {Q : VK} {E : XK} (h : spLaw K vs H Q E) : vs.length = 1 := by
  obtain ⟨a, ns, rfl, _⟩ := h; rfl
theorem once_nodup {κ : Type} [DecidableEq κ] {l : List κ} : l.Nodup → once l = l := by
  refine snoc_ind (P := fun l => l.Nodup → once l = l) (fun _ => rfl) (fun l x ih nd => ?_) l
  obtain ⟨n1, _, n3⟩ := List.nodup_append.mp nd
  rw [once_snoc, ih n1, if_neg]
  intro m
  exact n3 _ m _ (.head _) rfl
theorem srt_ne {zs ys : List Str} (h : ys.Perm zs) (hz : zs ≠ []) : ∃ y ys', ys = y :: ys' := by
  cases ys with
  | nil => exact absurd (List.Perm.nil_eq h).symm hz
  | cons y ys' => exact ⟨y, ys', rfl⟩
theorem ints_at {ns : List Int} {n0 : Int} {lo hi : Option Int} {i : Nat} {x : A} (h : ([A.int n0] ++ cutA (ns.map A.int) lo hi)[i]? = some x) : ∃ z, x = .int z := by
  have := List.mem_of_getElem? h
  rcases List.mem_append.mp this with h | h
  · exact ⟨n0, by simpa using h⟩
  · unfold cutA at h
    obtain ⟨z, _, e⟩ := List.mem_map.mp (List.mem_of_mem_drop (List.mem_of_mem_take h))
    exact ⟨z, e.symm⟩
theorem cutA_len (xs : List A) (lo hi : Option Int) : (cutA xs lo hi).length ≤ xs.length := by
  unfold cutA
  rw [List.length_take, List.length_drop]
  omega
theorem good_nil (m : Nat) : Good m [] := ⟨.nil, Nat.zero_le _, fun e he => by cases he⟩
theorem not_sure_out {es : List En} {z : Str} (h : z ∉ es.map (·.nm)) : ¬ Sure es z := not_sure_none (.here) (by
  unfold lk
  rw [List.find?_eq_none]
  intro e he
  have : e.nm ≠ z := fun e2 => h (e2 ▸ List.mem_map.mpr ⟨e, he, rfl⟩)
  simpa using this)
abbrev resA (c : Nat) (bs : List (Int × Str)) : A := .tup [.int (c : Nat), .tup (bs.map isA)]
theorem res_D (bs : List (Int × Str)) : isDs (bs.map isA) = true ∧ toDs (bs.map isA) = bs.map (fun b => PyData.tuple [.int b.1, .str b.2]) := by
  induction bs with
  | nil => rw [List.map_nil, List.map_nil]; unfold isDs toDs; exact ⟨rfl, rfl⟩
  | cons b bs ih =>
    rw [List.map_cons, List.map_cons]
    unfold isDs toDs
    rw [ih.1, ih.2]
    exact ⟨by simp [isA, A.isD, isDs], by simp [isA, A.toD, toDs]⟩
theorem res_isD (c : Nat) (bs : List (Int × Str)) : (resA c bs).isD = true := by
  simp only [resA, A.isD, isDs, (res_D bs).1, Bool.and_self]
theorem res_shaped (c : Nat) {bs : List (Int × Str)} (h : ∀ b ∈ bs, isTx b.2) : SeqAt.shaped (resA c bs).toD = true := by
  have e : (resA c bs).toD = .tuple [.int (c : Int), .tuple (bs.map fun b => PyData.tuple [.int b.1, .str b.2])] := by
    simp only [resA, A.toD, toDs, (res_D bs).2]
  rw [e]
  have h1 : PyData.canLayAll0 (bs.map fun b => PyData.tuple [.int b.1, .str b.2]) = true := by
    clear e
    induction bs with
    | nil => rw [List.map_nil]; unfold PyData.canLayAll0; rfl
    | cons b bs ih =>
      rw [List.map_cons]
      simp only [PyData.canLayAll0, PyData.canLay0, ih fun x hx => h x (.tail _ hx), tx_ok (h b (.head _)), Bool.and_self]
  have h2 : PyData.depthAll (bs.map fun b => PyData.tuple [.int b.1, .str b.2]) ≤ 10 := by
    clear h1 e h
    induction bs with
    | nil => exact Nat.zero_le _
    | cons b bs ih =>
      rw [List.map_cons]; unfold PyData.depthAll
      refine Nat.max_le.mpr ⟨?_, ih⟩
      simp [PyData.depth, PyData.depthAll]
  unfold SeqAt.shaped
  simp only [PyData.canLay0, PyData.canLayAll0, h1, Bool.and_self, Bool.true_and, PyData.depth, PyData.depthAll]
  exact decide_eq_true (by omega)
theorem res_tx {m b : Nat} {es : List En} {n : Str} (gd : Gd m b es) {c : Nat} {bs : List (Int × Str)} (r : Res es n m c bs) : ∀ x ∈ bs, isTx x.2 := fun x hx => by
  obtain ⟨i, hi⟩ := List.getElem?_of_mem hx
  obtain ⟨⟨e, ⟨he, _⟩, _, h2⟩, _⟩ := r.2.2 i x.1 x.2 hi
  rw [← h2]
  exact (gd.tx e he).1
theorem p_law {K : PySem.W.Frag} {vs : List V} {H : Hp} {Q : VK} {E : XK} (h : spLaw K vs H Q E) : t_law K { nx := fun _ H' => Q .non H', rt := Q } (start N_law vs) H := law_of h fun ns l63 => by
  unfold t_law
  walk_at "b"
  refine ⟨ns, 0, rfl, fun n0 => ?_⟩
  walk_at "b"
  have lc := cutA_len (ns.map A.int) (some 1) (some 16)
  rw [List.length_map] at lc
  refine o_cat .lst .lst (small (by show 1 + _ ≤ _; omega)) ?_
  walk_at "b"
  refine ⟨fun i s M' => (∃ y1 y2 y3 y4 y5 y6 y7 y8 y9 y10, s = [some (.scr ns), y1, y2, y3, y4, y5, y6, y7, y8, y9, y10]) ∧ M' = [], ⟨⟨_, _, _, _, _, _, _, _, _, _, rfl⟩, rfl⟩, ?_, ?_⟩
  · rintro i x s M' hx ⟨⟨y1, y2, y3, y4, y5, y6, y7, y8, y9, y10, rfl⟩, rfl⟩
    obtain ⟨c, rfl⟩ := ints_at hx
    refine g_name (s_subN ?_)
    walk_at "b"
    refine e_disp fun l => ?_
    refine e_str (e_var rfl (e_str (e_int ?_)))
    refine ⟨[(.inr ("cell" : Str), .int c), (.inr ("at" : Str), .int 0)], _, rfl, (by show 2 ≤ 15; decide), .here, ?_⟩
    have em : mergeA [] [((Sum.inr ("cell" : Str) : Key), A.int c), (.inr ("at" : Str), .int 0)] = [(.inr ("cell" : Str), .int c), (.inr ("at" : Str), .int ((0 : Nat) : Int))] := by
      rw [mergeA_nodup (by
        rw [List.nil_append]
        show [(Sum.inr ("cell" : Str) : Key), .inr ("at" : Str)].Nodup
        decide +kernel)]
      rfl
    rw [em]
    walk_at "b"
    refine e_sortSet (zs := []) ?_
    walk_at "b"
    refine ⟨l, _, c, 0, _, rfl, .here, by omega, by decide, fun d d0 d1 => ?_⟩
    obtain ⟨d, rfl⟩ : ∃ j : Nat, d = (j : Int) := ⟨d.toNat, by omega⟩
    walk_at "b"
    refine ⟨l, c, 1, 1 + d, _, by rw [show ((1 : Int) + (d : Int)) = ((1 + d : Nat) : Int) by omega], .here, by omega, by omega, fun zs n1 lz nd tz ln1 => ?_⟩
    refine ⟨zs, .lst, by omega, fun ys hp hs => ?_⟩
    have eo : once zs = zs := once_nodup nd
    rw [eo] at hp
    have tys : ∀ z ∈ ys, isTx8 z := fun z hz => tz z (hp.mem_iff.mp hz)
    have ndy : ys.Nodup := hp.nodup_iff.mpr nd
    have ly : ys.length = 1 + d := by rw [hp.length_eq, lz]
    obtain ⟨y0, ys', ey⟩ := srt_ne hp (fun z => by rw [z] at lz; have z0 : ([] : List Str).length = 0 := rfl; omega)
    walk_at "b"
    refine ⟨l, _, c, n1, _, rfl, .here, by omega, by decide, fun m m0 m1 => ?_⟩
    obtain ⟨m, rfl⟩ : ∃ j : Nat, m = (j : Int) := ⟨m.toNat, by omega⟩
    walk_at "b"
    refine ⟨l, c, n1 + 1, 1 + m, _, ys, by rw [show ((1 : Int) + (m : Int)) = ((1 + m : Nat) : Int) by omega], .here, by omega, by omega, by omega, ndy, tys, fun es n2 en gd ln2 => ?_⟩
    have nes : es ≠ [] := fun z => by rw [z, ey] at en; cases en
    walk_at "b"
    refine ⟨l, _, c, n2, _, rfl, .here, by omega, by decide, fun t t0 t1 => ?_⟩
    walk_at "b"
    refine ⟨_, rfl, by omega, by omega, ?_⟩
    refine ⟨fun i s M' => ∃ es n3 y6, s = [some (.scr ns), some (.int c), some (.loc l), some (.lst (ys.map A.str)), some (.int ((1 + m : Nat) : Int)), some (.lst (es.map entA)), y6, y7, y8, y9, y10] ∧ M' = [(l, srcO c n3)] ∧ Gd (1 + m) (16 + i) es ∧ es ≠ [] ∧ (∀ z ∈ es.map (·.nm), z ∈ ys) ∧ n3 ≤ n2 + 1 + 5 * i, ⟨es, n2 + 1, y6, by rw [show ((1 + m : Nat) : Int) = 1 + (m : Int) by omega]; rfl, rfl, gd, nes, (fun z hz => by rw [en] at hz; exact hz), by omega⟩, ?_, ?_⟩
    · rintro i x s M' hx ⟨es, n3, y6, rfl, rfl, gd, nes, sub, ln3⟩
      have hi : i < 2 := by
        have := (List.getElem?_eq_some_iff.mp hx).1
        rw [List.length_map, List.length_range] at this
        omega
      walk_at "b"
      refine ⟨l, c, n3, 1 + m, 16 + i, _, es, rfl, .here, by omega, gd, by omega, nes, fun es' n4 gd' ne' sub' ln4 => ?_⟩
      exact ⟨es', n4, _, rfl, rfl, gd', ne', fun z hz => sub z (sub' z hz), by omega⟩
    · rintro s M' ⟨es, n3, y6, rfl, rfl, gd, nes, sub, ln3⟩
      rw [List.length_map, List.length_range] at gd
      have hb : 16 + t.toNat ≤ 60 := by omega
      have good := gd.good hb
      have l8 := gd.few
      walk_at "a"
      refine ⟨_, ys, rfl, .lst, by omega, fun z hz tz => ?_⟩
      walk_at "a"
      refine ⟨es, z, 1 + m, rfl, good, by omega, fun _ => ?_, fun cc bs su => absurd su (not_sure_out fun h => hz (sub z h))⟩
      walk_at "a"
      refine o_ixL (xs := ys.map A.str) .lst (atI_at (i := 0) (by rw [ey]; rfl)) ?_
      walk_at "a"
      refine ⟨[], y0, 1 + m, rfl, good_nil _, by omega, fun _ => ?_, fun cc bs su => absurd su (not_sure_out fun h => by cases h)⟩
      walk_at "a"
      refine ⟨fun i s M' => (∃ y7 y8, s = [some (.scr ns), some (.int c), some (.loc l), some (.lst (ys.map A.str)), some (.int ((1 + m : Nat) : Int)), some (.lst (es.map entA)), y6, y7, y8, y9, y10]) ∧ M' = [(l, srcO c n3)], ⟨⟨_, _, rfl⟩, rfl⟩, ?_, ?_⟩
      · rintro i zv s M' hzv ⟨⟨y7, y8, rfl⟩, rfl⟩
        obtain ⟨z, hz, rfl⟩ := map_at hzv
        walk_at "a"
        refine e_mapF (α := En) (fun d => A.str d.nm) ?_
        walk_at "a"
        refine ⟨entA, es, rfl, small (by omega), fun d hd M2 up => by walk_at "a"; exact ⟨rfl, rfl⟩, ?_⟩
        refine o_ninStr (names := es.map (·.nm)) (.inl (by rw [List.map_map]; exact .lst)) ?_
        walk_at "a"
        refine if_n2 (fun nz => ?_) (fun mz => ?_)
        · walk_at "a"
          refine ⟨es, z, 1 + m, rfl, good, by omega, fun _ => ?_, fun cc bs su => absurd su (not_sure_out nz)⟩
          walk_at "a"
          exact ⟨⟨_, _, rfl⟩, rfl⟩
        · walk_at "a"
          exact ⟨⟨_, _, rfl⟩, rfl⟩
      · rintro s M' ⟨⟨y7, y8, rfl⟩, rfl⟩
        walk_at "a"
        refine ⟨fun i s M' => (∃ y8 y9 y10, s = [some (.scr ns), some (.int c), some (.loc l), some (.lst (ys.map A.str)), some (.int ((1 + m : Nat) : Int)), some (.lst (es.map entA)), y6, y7, y8, y9, y10]) ∧ M' = [(l, srcO c n3)], ⟨⟨_, _, _, rfl⟩, rfl⟩, ?_, ?_⟩
        · rintro i ev s M' hev ⟨⟨y8, y9, y10, rfl⟩, rfl⟩
          obtain ⟨e, he, rfl⟩ := map_at hev
          have me := List.mem_of_getElem? he
          walk_at "a"
          refine ⟨es, e.nm, 1 + m, rfl, good, by omega, List.mem_map.mpr ⟨e, me, rfl⟩, fun nsu => ?_, fun cc bs su r => ?_⟩
          · walk_at "a"
            refine ⟨es, e.nm, 1 + m, rfl, good, by omega, fun _ => ?_, fun cc bs su => absurd su nsu⟩
            walk_at "a"
            refine o_neD (by unfold A.isD; rfl) (by unfold A.isD; rfl) (by unfold A.toD; decide) (by unfold A.toD; decide) ?_
            rw [eqA_refl (by unfold A.toD; decide)]
            walk_at "a"
            refine ⟨es, e.nm, 1 + m, rfl, good, by omega, fun _ => ?_, fun cc bs su => absurd su nsu⟩
            walk_at "a"
            refine o_neD (by unfold A.isD; rfl) (by unfold A.isD; rfl) (by unfold A.toD; decide) (by unfold A.toD; decide) ?_
            rw [eqA_refl (by unfold A.toD; decide)]
            walk_at "a"
            exact ⟨⟨_, _, _, rfl⟩, rfl⟩
          · have sh := res_shaped cc (res_tx gd r)
            walk_at "a"
            refine ⟨es, e.nm, 1 + m, rfl, good, by omega, fun nsu => absurd su nsu, fun cc2 bs2 _ r2 => ?_⟩
            obtain ⟨e1, e2⟩ := r2.uniq r
            subst e1 e2
            walk_at "a"
            refine o_neD (res_isD _ _) (res_isD _ _) sh sh ?_
            rw [eqA_refl sh]
            walk_at "a"
            refine o_ixsT rfl ?_
            walk_at "a"
            refine ⟨es, e.nm, 1 + m, rfl, good, by omega, fun nsu => absurd su nsu, fun cc3 bs3 _ r3 => ?_⟩
            obtain ⟨e1, e2⟩ := r3.uniq r
            subst e1 e2
            refine e_var rfl (o_neD (res_isD _ _) (res_isD _ _) sh sh ?_)
            rw [eqA_refl sh]
            walk_at "a"
            exact ⟨⟨_, _, _, rfl⟩, rfl⟩
        · rintro s M' ⟨⟨y8, y9, y10, rfl⟩, rfl⟩
          exact ⟨[], .cons _ (.refl _), ⟨_, _, _, _, _, _, _, _, _, _, rfl⟩, rfl⟩
  · rintro s M' ⟨⟨y1, y2, y3, y4, y5, y6, y7, y8, y9, y10, rfl⟩, rfl⟩
    walk_at "a"
    rfl

def top (i : Nat) : Stmt := PySem.Challenge.pw_sumtold_k32_whole_sure_by_rolls.main.body.getD i (.Pass ⟨0, 0, 0, 0⟩)
structure Bl (mg : Str → Option Value) : Prop where
  b_dict : mg "dict" = none
  b_int : mg "int" = none
  b_isinstance : mg "isinstance" = none
  b_len : mg "len" = none
  b_list : mg "list" = none
  b_max : mg "max" = none
  b_min : mg "min" = none
  b_range : mg "range" = none
  b_set : mg "set" = none
  b_sorted : mg "sorted" = none
  b_tuple : mg "tuple" = none
section
variable {P : Program} {w : World} {K : PySem.W.Frag} {mg : Str → Option Value} {base : Heap}
abbrev s_entry_of : Stmt := top 1
theorem sc_entry_of : FnScope N_entry_of ["roll", "name"] (defScope s_entry_of) := ⟨rfl, rfl, rfl, by decide +kernel, rfl, by decide +kernel, by decide +kernel⟩
theorem ok_entry_of (F : ∃ fd, FnP K "entry_of" s_entry_of (He.ga K "entry_of") fd) (gm : mg "entry_of" = some (.ref (He.ga K "entry_of"))) (B : Bl mg)  : Has P w K mg base "entry_of" 1 ["roll", "name"] (cs K fEntry) := by
  obtain ⟨fd, F⟩ := F
  refine ⟨_, fd, gm, F.kp, FunD.bindsN (ps := ["roll", "name"]) F fun _ _ _ _ _ _ us hl => match us, hl with | [_, _], _ => rfl, F.ok sc_entry_of (fun vs H Q E h => p_entry_of_len h) (fun cdv A outer s H vs Q E hr h => ⟨t_entry_of K, PSs.nox ?_, p_entry_of h⟩)⟩
  have hu := hu_of hr
  exact (pss_cons (ps_for PassesOwn.never rfl (pi_tup (pv 0)) (pg_name (i := 2) sc_entry_of.nd rfl (Or.inl rfl)) (pss_one (ps_if (pt_cmpR op_eq (pe_ix ix_tup (pv 2) pe_int (fun _ _ => rfl)) (pv 1) (nomark _)) (pss_one (ps_ret (pv 2))) pss_nil)))
    (pss_one (ps_ret pe_non)))

abbrev s_come_to : Stmt := top 2
theorem sc_come_to : FnScope N_come_to ["roll", "name"] (defScope s_come_to) := ⟨rfl, rfl, rfl, by decide +kernel, rfl, by decide +kernel, by decide +kernel⟩
theorem ok_come_to (F : ∃ fd, FnP K "come_to" s_come_to (He.ga K "come_to") fd) (gm : mg "come_to" = some (.ref (He.ga K "come_to"))) (B : Bl mg) (h_entry_of : Has P w K mg base "entry_of" 1 ["roll", "name"] (cs K fEntry)) : Has P w K mg base "come_to" 2 ["roll", "name"] (cs K fCome) := by
  obtain ⟨fd, F⟩ := F
  refine ⟨_, fd, gm, F.kp, FunD.bindsN (ps := ["roll", "name"]) F fun _ _ _ _ _ _ us hl => match us, hl with | [_, _], _ => rfl, F.ok sc_come_to (fun vs H Q E h => p_come_to_len h) (fun cdv A outer s H vs Q E hr h => ⟨t_come_to K, PSs.nox ?_, p_come_to h⟩)⟩
  have hu := hu_of hr
  exact (pss_cons (ps_set (i := 2) sc_come_to.nd rfl (Or.inl rfl) (pe_lst (pa_cons (pv 1) pa_nil)))
    (pss_cons (ps_set (i := 3) sc_come_to.nd rfl (Or.inl rfl) (pe_lst pa_nil))
    (pss_cons (ps_while PassesOwn.never (pt_cmpR op_lt (pe_callB call_len_seq (by rfl) B.b_len (by decide +kernel) (pa_cons (pv 3) pa_nil)) (pe_callB call_len_seq (by rfl) B.b_len (by decide +kernel) (pa_cons (pv 2) pa_nil)) (nomark _)) (pss_cons (ps_set (i := 4) sc_come_to.nd rfl (Or.inl rfl) (pe_ix ix_list (pv 2) (pe_callB call_len_seq (by rfl) B.b_len (by decide +kernel) (pa_cons (pv 3) pa_nil)) (fun _ _ => rfl)))
      (pss_cons (ps_set (i := 5) sc_come_to.nd rfl (Or.inl rfl) (pe_has h_entry_of (hr.mono (by decide)) (by rfl) (pa_cons (pv 0) (pa_cons (pv 4) pa_nil))))
      (pss_cons (ps_if (pt_cmpR op_isN1 (pv 5) pe_non (nomark _)) (pss_one (ps_ret pe_non)) pss_nil)
      (pss_cons (ps_expr (pe_bm PySem.F.plainAttrs_list PySem.F.slot_list_append PySem.F.type_list_append mt_append (pv 3) (pa_cons (pv 5) pa_nil)))
      (pss_one (ps_for PassesOwn.never rfl (pi_tup (pe_ix ix_tup (pv 5) pe_int (fun _ _ => rfl))) (pg_name (i := 6) sc_come_to.nd rfl (Or.inl rfl)) (pss_cons (ps_set (i := 7) sc_come_to.nd rfl (Or.inl rfl) (pe_has h_entry_of (hr.mono (by decide)) (by rfl) (pa_cons (pv 0) (pa_cons (pv 6) pa_nil))))
        (pss_cons (ps_if (PW.pt (pw_or (pt_cmpR op_isN1 (pv 7) pe_non (nomark _)) (pw_or1 (pt_cmpR op_notIn_seq (pv 4) (pe_ix ix_tup (pv 7) pe_int (fun _ _ => rfl)) (by rfl))))) (pss_one (ps_ret pe_non)) pss_nil)
        (pss_one (ps_if (pt_cmpR op_notIn_seq (pv 6) (pv 2) (by rfl)) (pss_one (ps_expr (pe_bm PySem.F.plainAttrs_list PySem.F.slot_list_append PySem.F.type_list_append mt_append (pv 2) (pa_cons (pv 6) pa_nil)))) pss_nil)))))))))))
    (pss_one (ps_ret (pv 3))))))

abbrev s_sure_of : Stmt := top 3
theorem sc_sure_of : FnScope N_sure_of ["roll", "name"] (defScope s_sure_of) := ⟨rfl, rfl, rfl, by decide +kernel, rfl, by decide +kernel, by decide +kernel⟩
theorem ok_sure_of (F : ∃ fd, FnP K "sure_of" s_sure_of (He.ga K "sure_of") fd) (gm : mg "sure_of" = some (.ref (He.ga K "sure_of"))) (B : Bl mg) (h_come_to : Has P w K mg base "come_to" 2 ["roll", "name"] (cs K fCome)) : Has P w K mg base "sure_of" 3 ["roll", "name"] (cs K fSure) := by
  obtain ⟨fd, F⟩ := F
  refine ⟨_, fd, gm, F.kp, FunD.bindsN (ps := ["roll", "name"]) F fun _ _ _ _ _ _ us hl => match us, hl with | [_, _], _ => rfl, F.ok sc_sure_of (fun vs H Q E h => p_sure_of_len h) (fun cdv A outer s H vs Q E hr h => ⟨t_sure_of K, PSs.nox ?_, p_sure_of h⟩)⟩
  have hu := hu_of hr
  exact (pss_cons (ps_set (i := 2) sc_sure_of.nd rfl (Or.inl rfl) (pe_has h_come_to (hr.mono (by decide)) (by rfl) (pa_cons (pv 0) (pa_cons (pv 1) pa_nil))))
    (pss_cons (ps_if (pt_cmpR op_isN1 (pv 2) pe_non (nomark _)) (pss_one (ps_ret pe_non)) pss_nil)
    (pss_cons (ps_set (i := 3) sc_sure_of.nd rfl (Or.inl rfl) (pe_lst pa_nil))
    (pss_cons (ps_for PassesOwn.never rfl (pi_range1 (by rfl) B.b_range (pa_cons (pe_callB call_len_seq (by rfl) B.b_len (by decide +kernel) (pa_cons (pe_ix ix_tup (pe_ix ix_list (pv 2) pe_int (fun _ _ => rfl)) pe_int (fun _ _ => rfl)) pa_nil)) pa_nil)) (pg_name (i := 4) sc_sure_of.nd rfl (Or.inr rfl)) (pss_cons (ps_set (i := 5) sc_sure_of.nd rfl (Or.inr rfl) (pe_callB (cr_max rfl) (by rfl) B.b_max (by decide +kernel) (pa_cons (pe_lc (own := [("entry", 7)]) (g := (gName 7)) (tt := tYes) (te := (tOp (rIxT K) (tOp (rIxT K) (tVar 7) (tC (.int 3))) (tVar 4))) (wi := (iList K (tVar 2))) rfl sc_sure_of.nd (pi_list (pv 2)) (blkOk_by (own := [("entry", 7)]) (N := N_sure_of) (sc := defScope s_sure_of) (by decide +kernel)) (fun _ _ _ _ _ => (pg_name (i := 7) sc_sure_of.nd rfl (Or.inl rfl))) (fun _ _ _ _ _ => pts_nil) (fun _ _ _ _ _ => (pe_ix ix_tup (pe_ix ix_tup (pv 7) pe_int (fun _ _ => rfl)) (pv 4) (fun _ _ => rfl)))) pa_nil)))
      (pss_cons (ps_setLc (i := 6) (own := [("entry", 7)]) (g := (gName 7)) (tt := (tTest (tOp rEq (tOp (rIxT K) (tOp (rIxT K) (tVar 7) (tC (.int 3))) (tVar 4)) (tVar 5)))) (te := (tOp (rIxT K) (tVar 7) (tC (.int 0)))) (wi := (iList K (tVar 2))) rfl sc_sure_of.nd rfl rfl (sw_true rfl rfl rfl (by decide +kernel)) (pi_list (pv 2)) (blkOk_by (own := [("entry", 7)]) (N := N_sure_of) (sc := defScope s_sure_of) (by decide +kernel)) (fun _ _ _ _ _ => (pg_name (i := 7) sc_sure_of.nd rfl (Or.inl rfl))) (fun _ _ _ _ _ => (pts_one (pt_cmpR op_eq (pe_ix ix_tup (pe_ix ix_tup (pv 7) pe_int (fun _ _ => rfl)) (pv 4) (fun _ _ => rfl)) (pv 5) (nomark _)))) (fun _ _ _ _ _ => (pe_ix ix_tup (pv 7) pe_int (fun _ _ => rfl))))
      (pss_one (ps_expr (pe_bm PySem.F.plainAttrs_list PySem.F.slot_list_append PySem.F.type_list_append mt_append (pv 3) (pa_cons (pe_tup (pa_cons (pv 5) (pa_cons (pe_callB (cr_minD rfl (Go.un65m hr)) (by rfl) B.b_min (by decide +kernel) (pa_cons (pv 6) pa_nil)) pa_nil))) pa_nil)))))))
    (pss_one (ps_ret (pe_tup (pa_cons (pe_callB call_len_seq (by rfl) B.b_len (by decide +kernel) (pa_cons (pv 2) pa_nil)) (pa_cons (pe_callTy call_tuple_of (by rfl) B.b_tuple (by decide +kernel) (pa_cons (pv 3) pa_nil)) pa_nil)))))))))

abbrev s_l_cell_at : Stmt := top 5
theorem sc_l_cell_at : FnScope N_l_cell_at ["_law_script", "_law_k"] (defScope s_l_cell_at) := ⟨rfl, rfl, rfl, by decide +kernel, rfl, by decide +kernel, by decide +kernel⟩
theorem ok_l_cell_at (F : ∃ fd, FnP K "_law_cell_at" s_l_cell_at (He.ga K "_law_cell_at") fd) (gm : mg "_law_cell_at" = some (.ref (He.ga K "_law_cell_at"))) (B : Bl mg)  : Has P w K mg base "_law_cell_at" 1 ["_law_script", "_law_k"] (cs K fCellAt) := by
  obtain ⟨fd, F⟩ := F
  refine ⟨_, fd, gm, F.kp, FunD.bindsN (ps := ["_law_script", "_law_k"]) F fun _ _ _ _ _ _ us hl => match us, hl with | [_, _], _ => rfl, F.ok sc_l_cell_at (fun vs H Q E h => p_l_cell_at_len h) (fun cdv A outer s H vs Q E hr h => ⟨t_l_cell_at K, PSs.nox ?_, p_l_cell_at h⟩)⟩
  have hu := hu_of hr
  exact (pss_cons (ps_if (pt_cmpR op_lt (pv 1) (pe_callB call_len_seq (by rfl) B.b_len (by decide +kernel) (pa_cons (pv 0) pa_nil)) (nomark _)) (pss_one (ps_ret (pe_ix ix_list (pv 0) (pv 1) (fun _ _ => rfl)))) pss_nil)
    (pss_one (ps_ret pe_int)))

abbrev s_l_mixed : Stmt := top 6
theorem sc_l_mixed : FnScope N_l_mixed ["_law_cell", "_law_k"] (defScope s_l_mixed) := ⟨rfl, rfl, rfl, by decide +kernel, rfl, by decide +kernel, by decide +kernel⟩
theorem ok_l_mixed (F : ∃ fd, FnP K "_law_mixed" s_l_mixed (He.ga K "_law_mixed") fd) (gm : mg "_law_mixed" = some (.ref (He.ga K "_law_mixed"))) (B : Bl mg)  : Has P w K mg base "_law_mixed" 1 ["_law_cell", "_law_k"] (cs K fMixed) := by
  obtain ⟨fd, F⟩ := F
  refine ⟨_, fd, gm, F.kp, FunD.bindsN (ps := ["_law_cell", "_law_k"]) F fun _ _ _ _ _ _ us hl => match us, hl with | [_, _], _ => rfl, F.ok sc_l_mixed (fun vs H Q E h => p_l_mixed_len h) (fun cdv A outer s H vs Q E hr h => ⟨t_l_mixed K, PSs.nox ?_, p_l_mixed h⟩)⟩
  have hu := hu_of hr
  exact (pss_cons (ps_if (PW.pt (pw_and (pt_cmpR op_ge (pv 0) (pe_op op_shlW pe_int pe_int) (nomark _)) (pw_and (pt_cmpR op_eq (pe_op op_mod (pv 0) pe_int) pe_int (nomark _)) (pw_and1 (pt_cmpR op_gt (pe_op op_shr (pv 0) (pe_op op_add pe_int (pe_op op_mul pe_int (pv 1)))) pe_int (nomark _)))))) (pss_one (ps_ret (pe_op op_mod (pe_op op_shr (pv 0) (pe_op op_add pe_int (pe_op op_mul pe_int (pv 1)))) pe_int))) pss_nil)
    (pss_cons (ps_set (i := 2) sc_l_mixed.nd rfl (Or.inl rfl) (pe_op op_mod (pe_op op_mul (pe_op op_add (pe_op op_add (pe_op op_mod (pv 0) pe_int) (pe_op op_mul pe_int (pv 1))) pe_int) pe_int) pe_int))
    (pss_cons (ps_set (i := 2) sc_l_mixed.nd rfl (Or.inl rfl) (pe_op op_mod (pe_op op_mulX (pv 2) (pe_op op_add (pe_op op_fdivW (pv 2) pe_int) pe_int)) pe_int))
    (pss_one (ps_ret (pe_op op_mod (pe_op op_mulX (pv 2) (pe_op op_add (pe_op op_add (pe_op op_fdivW (pv 2) pe_int) pe_int) (pv 1))) pe_int))))))

abbrev s_l_draw : Stmt := top 7
theorem sc_l_draw : FnScope N_l_draw ["_law_draw_here", "_law_many"] (defScope s_l_draw) := ⟨rfl, rfl, rfl, by decide +kernel, rfl, by decide +kernel, by decide +kernel⟩
theorem ok_l_draw (F : ∃ fd, FnP K "_law_draw" s_l_draw (He.ga K "_law_draw") fd) (gm : mg "_law_draw" = some (.ref (He.ga K "_law_draw"))) (B : Bl mg) (h_l_mixed : Has P w K mg base "_law_mixed" 1 ["_law_cell", "_law_k"] (cs K fMixed)) : Has P w K mg base "_law_draw" 2 ["_law_draw_here", "_law_many"] (cs K fDraw) := by
  obtain ⟨fd, F⟩ := F
  refine ⟨_, fd, gm, F.kp, FunD.bindsN (ps := ["_law_draw_here", "_law_many"]) F fun _ _ _ _ _ _ us hl => match us, hl with | [_, _], _ => rfl, F.ok sc_l_draw (fun vs H Q E h => p_l_draw_len h) (fun cdv A outer s H vs Q E hr h => ⟨t_l_draw K, PSs.nox ?_, p_l_draw h⟩)⟩
  have hu := hu_of hr
  exact (pss_cons (ps_dput hu (pv 0) pe_str (pe_op op_add (pe_dget hu (pv 0) pe_str (fun _ _ => rfl)) pe_int) rfl)
    (pss_one (ps_ret (pe_op op_mod (pe_op op_fdivW (pe_has h_l_mixed (hr.mono (by decide)) (by rfl) (pa_cons (pe_dget hu (pv 0) pe_str (fun _ _ => rfl)) (pa_cons (pe_dget hu (pv 0) pe_str (fun _ _ => rfl)) pa_nil))) pe_int) (pv 1)))))

abbrev s_l_one : Stmt := top 8
theorem sc_l_one : FnScope N_l_one ["_law_draw_here", "_law_some"] (defScope s_l_one) := ⟨rfl, rfl, rfl, by decide +kernel, rfl, by decide +kernel, by decide +kernel⟩
theorem ok_l_one (F : ∃ fd, FnP K "_law_one" s_l_one (He.ga K "_law_one") fd) (gm : mg "_law_one" = some (.ref (He.ga K "_law_one"))) (B : Bl mg) (h_l_draw : Has P w K mg base "_law_draw" 2 ["_law_draw_here", "_law_many"] (cs K fDraw)) : Has P w K mg base "_law_one" 3 ["_law_draw_here", "_law_some"] (cs K fPick) := by
  obtain ⟨fd, F⟩ := F
  refine ⟨_, fd, gm, F.kp, FunD.bindsN (ps := ["_law_draw_here", "_law_some"]) F fun _ _ _ _ _ _ us hl => match us, hl with | [_, _], _ => rfl, F.ok sc_l_one (fun vs H Q E h => p_l_one_len h) (fun cdv A outer s H vs Q E hr h => ⟨t_l_one K, PSs.nox ?_, p_l_one h⟩)⟩
  have hu := hu_of hr
  exact (pss_one (ps_ret (pe_ix ix_list (pv 1) (pe_has h_l_draw (hr.mono (by decide)) (by rfl) (pa_cons (pv 0) (pa_cons (pe_callB call_len_seq (by rfl) B.b_len (by decide +kernel) (pa_cons (pv 1) pa_nil)) pa_nil))) (fun _ _ => rfl))))

abbrev s_l_name : Stmt := top 9
theorem sc_l_name : FnScope N_l_name ["_law_draw_here"] (defScope s_l_name) := ⟨rfl, rfl, rfl, by decide +kernel, rfl, by decide +kernel, by decide +kernel⟩
theorem ok_l_name (F : ∃ fd, FnP K "_law_name" s_l_name (He.ga K "_law_name") fd) (gm : mg "_law_name" = some (.ref (He.ga K "_law_name"))) (B : Bl mg) (h_l_draw : Has P w K mg base "_law_draw" 2 ["_law_draw_here", "_law_many"] (cs K fDraw)) : Has P w K mg base "_law_name" 3 ["_law_draw_here"] (cs K fName) := by
  obtain ⟨fd, F⟩ := F
  refine ⟨_, fd, gm, F.kp, FunD.bindsN (ps := ["_law_draw_here"]) F fun _ _ _ _ _ _ us hl => match us, hl with | [_], _ => rfl, F.ok sc_l_name (fun vs H Q E h => p_l_name_len h) (fun cdv A outer s H vs Q E hr h => ⟨t_l_name K, PSs.nox ?_, p_l_name h⟩)⟩
  have hu := hu_of hr
  exact (pss_cons (ps_set (i := 1) sc_l_name.nd rfl (Or.inl rfl) pe_str)
    (pss_cons (ps_set (i := 2) sc_l_name.nd rfl (Or.inl rfl) pe_str)
    (pss_cons (ps_for PassesOwn.never rfl (pi_range1 (by rfl) B.b_range (pa_cons (pe_op op_add pe_int (pe_has h_l_draw (hr.mono (by decide)) (by rfl) (pa_cons (pv 0) (pa_cons pe_int pa_nil)))) pa_nil)) (pg_name (i := 3) sc_l_name.nd rfl (Or.inl rfl)) (pss_one (ps_set (i := 2) sc_l_name.nd rfl (Or.inl rfl) (pe_op op_add_str (pv 2) (pe_ix ix_str (pv 1) (pe_has h_l_draw (hr.mono (by decide)) (by rfl) (pa_cons (pv 0) (pa_cons pe_int pa_nil))) (fun _ _ => rfl))))))
    (pss_one (ps_ret (pv 2))))))

abbrev s_l_names : Stmt := top 10
theorem sc_l_names : FnScope N_l_names ["_law_draw_here", "_law_many"] (defScope s_l_names) := ⟨rfl, rfl, rfl, by decide +kernel, rfl, by decide +kernel, by decide +kernel⟩
theorem ok_l_names (F : ∃ fd, FnP K "_law_names" s_l_names (He.ga K "_law_names") fd) (gm : mg "_law_names" = some (.ref (He.ga K "_law_names"))) (B : Bl mg) (h_l_name : Has P w K mg base "_law_name" 3 ["_law_draw_here"] (cs K fName)) : Has P w K mg base "_law_names" 4 ["_law_draw_here", "_law_many"] (cs K fNames) := by
  obtain ⟨fd, F⟩ := F
  refine ⟨_, fd, gm, F.kp, FunD.bindsN (ps := ["_law_draw_here", "_law_many"]) F fun _ _ _ _ _ _ us hl => match us, hl with | [_, _], _ => rfl, F.ok sc_l_names (fun vs H Q E h => p_l_names_len h) (fun cdv A outer s H vs Q E hr h => ⟨t_l_names K, PSs.nox ?_, p_l_names h⟩)⟩
  have hu := hu_of hr
  exact (pss_cons (ps_set (i := 2) sc_l_names.nd rfl (Or.inr rfl) (pe_lst pa_nil))
    (pss_cons (ps_for PassesOwn.never rfl (pi_range1 (by rfl) B.b_range (pa_cons (pe_op op_mul pe_int (pv 1)) pa_nil)) (pg_name (i := 3) sc_l_names.nd rfl (Or.inl rfl)) (pss_cons (ps_set (i := 4) sc_l_names.nd rfl (Or.inl rfl) (pe_has h_l_name (hr.mono (by decide)) (by rfl) (pa_cons (pv 0) pa_nil)))
      (pss_one (ps_if (pt_cmpR op_notIn_seq (pv 4) (pv 2) (by rfl)) (pss_one (ps_expr (pe_bm PySem.F.plainAttrs_list PySem.F.slot_list_append PySem.F.type_list_append mt_append (pv 2) (pa_cons (pv 4) pa_nil)))) pss_nil))))
    (pss_one (ps_ret (pe_slice sl_list (pe_op op_cat (pv 2) (pe_lc (own := [("_law_letter", 5)]) (g := (gName 5)) (tt := (tTest (tOp (rIn K true) (tOp rAddStr (tC (.str ("zz" : Str))) (tVar 5)) (tVar 2)))) (te := (tOp rAddStr (tC (.str ("zz" : Str))) (tVar 5))) (wi := (iStr (tC (.str ("abcdefgh" : Str))))) rfl sc_l_names.nd (pi_str pe_str) (blkOk_by (own := [("_law_letter", 5)]) (N := N_l_names) (sc := defScope s_l_names) (by decide +kernel)) (fun _ _ _ _ _ => (pg_name (i := 5) sc_l_names.nd rfl (Or.inl rfl))) (fun _ _ _ _ _ => (pts_one (pt_cmpR op_notIn_seq (pe_op op_add_str pe_str (pv 5)) (pv 2) (by rfl)))) (fun _ _ _ _ _ => (pe_op op_add_str pe_str (pv 5))))) po_none (po_some (pv 1)))))))

abbrev s_l_number : Stmt := top 11
theorem sc_l_number : FnScope N_l_number ["_law_draw_here"] (defScope s_l_number) := ⟨rfl, rfl, rfl, by decide +kernel, rfl, by decide +kernel, by decide +kernel⟩
theorem ok_l_number (F : ∃ fd, FnP K "_law_number" s_l_number (He.ga K "_law_number") fd) (gm : mg "_law_number" = some (.ref (He.ga K "_law_number"))) (B : Bl mg) (h_l_draw : Has P w K mg base "_law_draw" 2 ["_law_draw_here", "_law_many"] (cs K fDraw)) (h_l_one : Has P w K mg base "_law_one" 3 ["_law_draw_here", "_law_some"] (cs K fPick)) : Has P w K mg base "_law_number" 4 ["_law_draw_here"] (cs K fNumber) := by
  obtain ⟨fd, F⟩ := F
  refine ⟨_, fd, gm, F.kp, FunD.bindsN (ps := ["_law_draw_here"]) F fun _ _ _ _ _ _ us hl => match us, hl with | [_], _ => rfl, F.ok sc_l_number (fun vs H Q E h => p_l_number_len h) (fun cdv A outer s H vs Q E hr h => ⟨t_l_number K, PSs.nox ?_, p_l_number h⟩)⟩
  have hu := hu_of hr
  exact (pss_cons (ps_set (i := 1) sc_l_number.nd rfl (Or.inl rfl) (pe_has h_l_draw (hr.mono (by decide)) (by rfl) (pa_cons (pv 0) (pa_cons pe_int pa_nil))))
    (pss_cons (ps_if (pt_cmpR op_eq (pv 1) pe_int (nomark _)) (pss_one (ps_ret (pe_has h_l_one (hr.mono (by decide)) (by rfl) (pa_cons (pv 0) (pa_cons (pe_lst (pa_cons pe_int (pa_cons pe_int (pa_cons (pe_un un_neg pe_int) (pa_cons (pe_op op_pow pe_int pe_int) (pa_cons (pe_un un_neg (pe_op op_pow pe_int pe_int)) pa_nil)))))) pa_nil))))) pss_nil)
    (pss_cons (ps_set (i := 2) sc_l_number.nd rfl (Or.inl rfl) (pe_ix ix_list (pe_lst (pa_cons pe_int (pa_cons pe_int (pa_cons (pe_op op_mul pe_int (pe_op op_pow pe_int pe_int)) pa_nil)))) (pe_op op_sub (pv 1) pe_int) (fun _ _ => rfl)))
    (pss_one (ps_ret (pe_op op_sub (pe_has h_l_draw (hr.mono (by decide)) (by rfl) (pa_cons (pv 0) (pa_cons (pv 2) pa_nil))) (pe_op op_mulX (pe_has h_l_draw (hr.mono (by decide)) (by rfl) (pa_cons (pv 0) (pa_cons pe_int pa_nil))) (pe_op op_fdivW (pv 2) pe_int))))))))

abbrev s_l_roll : Stmt := top 12
theorem sc_l_roll : FnScope N_l_roll ["_law_draw_here", "_law_names_here", "_law_many"] (defScope s_l_roll) := ⟨rfl, rfl, rfl, by decide +kernel, rfl, by decide +kernel, by decide +kernel⟩
theorem ok_l_roll (F : ∃ fd, FnP K "_law_roll" s_l_roll (He.ga K "_law_roll") fd) (gm : mg "_law_roll" = some (.ref (He.ga K "_law_roll"))) (B : Bl mg) (h_l_draw : Has P w K mg base "_law_draw" 2 ["_law_draw_here", "_law_many"] (cs K fDraw)) (h_l_number : Has P w K mg base "_law_number" 4 ["_law_draw_here"] (cs K fNumber)) : Has P w K mg base "_law_roll" 5 ["_law_draw_here", "_law_names_here", "_law_many"] (cs K fRoll) := by
  obtain ⟨fd, F⟩ := F
  refine ⟨_, fd, gm, F.kp, FunD.bindsN (ps := ["_law_draw_here", "_law_names_here", "_law_many"]) F fun _ _ _ _ _ _ us hl => match us, hl with | [_, _, _], _ => rfl, F.ok sc_l_roll (fun vs H Q E h => p_l_roll_len h) (fun cdv A outer s H vs Q E hr h => ⟨t_l_roll K, PSs.nox ?_, p_l_roll h⟩)⟩
  have hu := hu_of hr
  exact (pss_cons (ps_set (i := 3) sc_l_roll.nd rfl (Or.inl rfl) pe_dnewK)
    (pss_cons (ps_for PassesOwn.never rfl (pi_list (pv 1)) (pg_name (i := 4) sc_l_roll.nd rfl (Or.inl rfl)) (pss_one (ps_dput hu (pv 3) (pv 4) (pe_lst pa_nil) rfl)))
    (pss_cons (ps_for PassesOwn.never rfl (pi_list (pv 1)) (pg_name (i := 5) sc_l_roll.nd rfl (Or.inl rfl)) (pss_one (ps_for PassesOwn.never rfl (pi_list (pv 1)) (pg_name (i := 6) sc_l_roll.nd rfl (Or.inl rfl)) (pss_one (ps_if (PW.pt (pw_and (pt_cmpR op_lt_str (pv 5) (pv 6) (nomark _)) (pw_and1 (pt_cmpR op_eq (pe_has h_l_draw (hr.mono (by decide)) (by rfl) (pa_cons (pv 0) (pa_cons pe_int pa_nil))) pe_int (nomark _))))) (pss_cons (ps_expr (pe_bm PySem.F.plainAttrs_list PySem.F.slot_list_append PySem.F.type_list_append mt_append (pe_dget hu (pv 3) (pv 5) (fun _ _ => rfl)) (pa_cons (pv 6) pa_nil)))
          (pss_one (ps_expr (pe_bm PySem.F.plainAttrs_list PySem.F.slot_list_append PySem.F.type_list_append mt_append (pe_dget hu (pv 3) (pv 6) (fun _ _ => rfl)) (pa_cons (pv 5) pa_nil))))) pss_nil)))))
    (pss_cons (ps_set (i := 7) sc_l_roll.nd rfl (Or.inl rfl) (pe_lst pa_nil))
    (pss_cons (ps_set (i := 8) sc_l_roll.nd rfl (Or.inr rfl) (pe_has h_l_draw (hr.mono (by decide)) (by rfl) (pa_cons (pv 0) (pa_cons pe_int pa_nil))))
    (pss_cons (ps_for PassesOwn.never rfl (pi_list (pv 1)) (pg_name (i := 4) sc_l_roll.nd rfl (Or.inl rfl)) (pss_cons (ps_set (i := 9) sc_l_roll.nd rfl (Or.inl rfl) (pe_callTy call_tuple_of (by rfl) B.b_tuple (by decide +kernel) (pa_cons (pe_lc (own := [("_law_k", 10)]) (g := (gName 10)) (tt := tYes) (te := (tOp (rIxL K) (tLst (tCons (tOp rSubI (tCall (cs K fDraw) [] E0 (tCons (tVar 0) (tCons (tC (.int 3)) tNil))) (tC (.int 1))) (tCons (tCall (cs K fNumber) [] E0 (tCons (tVar 0) tNil)) tNil))) (tVar 8))) (wi := (iRng1 (tCons (tVar 2) tNil))) rfl sc_l_roll.nd (pi_range1 (by rfl) B.b_range (pa_cons (pv 2) pa_nil)) (blkOk_by (own := [("_law_k", 10)]) (N := N_l_roll) (sc := defScope s_l_roll) (by decide +kernel)) (fun _ _ _ _ _ => (pg_name (i := 10) sc_l_roll.nd rfl (Or.inl rfl))) (fun _ _ _ _ _ => pts_nil) (fun _ _ _ _ _ => (pe_ix ix_list (pe_lst (pa_cons (pe_op op_sub (pe_has h_l_draw (hr.mono (by decide)) (by rfl) (pa_cons (pv 0) (pa_cons pe_int pa_nil))) pe_int) (pa_cons (pe_has h_l_number (hr.mono (by decide)) (by rfl) (pa_cons (pv 0) pa_nil)) pa_nil))) (pv 8) (fun _ _ => rfl)))) pa_nil)))
      (pss_one (ps_expr (pe_bm PySem.F.plainAttrs_list PySem.F.slot_list_append PySem.F.type_list_append mt_append (pv 7) (pa_cons (pe_tup (pa_cons (pv 4) (pa_cons (pe_op op_add pe_int (pe_has h_l_draw (hr.mono (by decide)) (by rfl) (pa_cons (pv 0) (pa_cons pe_int pa_nil)))) (pa_cons (pe_op op_add pe_int (pe_has h_l_draw (hr.mono (by decide)) (by rfl) (pa_cons (pv 0) (pa_cons pe_int pa_nil)))) (pa_cons (pv 9) (pa_cons (pe_callTy call_tuple_of (by rfl) B.b_tuple (by decide +kernel) (pa_cons (pe_callB cr_sortedS (by rfl) B.b_sorted (by decide +kernel) (pa_cons (pe_dget hu (pv 3) (pv 4) (fun _ _ => rfl)) pa_nil)) pa_nil)) pa_nil)))))) pa_nil))))))
    (pss_one (ps_ret (pv 7)))))))))

abbrev s_l_nobody : Stmt := top 13
theorem sc_l_nobody : FnScope N_l_nobody ["_law_names_here"] (defScope s_l_nobody) := ⟨rfl, rfl, rfl, by decide +kernel, rfl, by decide +kernel, by decide +kernel⟩
theorem ok_l_nobody (F : ∃ fd, FnP K "_law_nobody" s_l_nobody (He.ga K "_law_nobody") fd) (gm : mg "_law_nobody" = some (.ref (He.ga K "_law_nobody"))) (B : Bl mg)  : Has P w K mg base "_law_nobody" 1 ["_law_names_here"] (cs K fNobody) := by
  obtain ⟨fd, F⟩ := F
  refine ⟨_, fd, gm, F.kp, FunD.bindsN (ps := ["_law_names_here"]) F fun _ _ _ _ _ _ us hl => match us, hl with | [_], _ => rfl, F.ok sc_l_nobody (fun vs H Q E h => p_l_nobody_len h) (fun cdv A outer s H vs Q E hr h => ⟨t_l_nobody K, PSs.nox ?_, p_l_nobody h⟩)⟩
  have hu := hu_of hr
  exact (pss_cons (ps_setLc (i := 1) (own := [("_law_letter", 2)]) (g := (gName 2)) (tt := tYes) (te := (tOp rAddStr (tC (.str ("nobody" : Str))) (tVar 2))) (wi := (iStr (tC (.str ("abcdefghijklmnopqrstuvwxyz" : Str))))) rfl sc_l_nobody.nd rfl rfl (sw_true rfl rfl rfl (by decide +kernel)) (pi_str pe_str) (blkOk_by (own := [("_law_letter", 2)]) (N := N_l_nobody) (sc := defScope s_l_nobody) (by decide +kernel)) (fun _ _ _ _ _ => (pg_name (i := 2) sc_l_nobody.nd rfl (Or.inl rfl))) (fun _ _ _ _ _ => pts_nil) (fun _ _ _ _ _ => (pe_op op_add_str pe_str (pv 2))))
    (pss_one (ps_ret (pe_ix ix_list (pe_lc (own := [("_law_one_here", 3)]) (g := (gName 3)) (tt := (tTest (tOp (rIn K true) (tVar 3) (tVar 0)))) (te := (tVar 3)) (wi := (iList K (tVar 1))) rfl sc_l_nobody.nd (pi_list (pv 1)) (blkOk_by (own := [("_law_one_here", 3)]) (N := N_l_nobody) (sc := defScope s_l_nobody) (by decide +kernel)) (fun _ _ _ _ _ => (pg_name (i := 3) sc_l_nobody.nd rfl (Or.inl rfl))) (fun _ _ _ _ _ => (pts_one (pt_cmpR op_notIn_seq (pv 3) (pv 0) (by rfl)))) (fun _ _ _ _ _ => (pv 3))) pe_int (fun _ _ => rfl)))))

abbrev s_l_turned : Stmt := top 14
theorem sc_l_turned : FnScope N_l_turned ["_law_draw_here", "_law_roll_here"] (defScope s_l_turned) := ⟨rfl, rfl, rfl, by decide +kernel, rfl, by decide +kernel, by decide +kernel⟩
theorem ok_l_turned (F : ∃ fd, FnP K "_law_turned" s_l_turned (He.ga K "_law_turned") fd) (gm : mg "_law_turned" = some (.ref (He.ga K "_law_turned"))) (B : Bl mg) (h_l_draw : Has P w K mg base "_law_draw" 2 ["_law_draw_here", "_law_many"] (cs K fDraw)) (h_l_one : Has P w K mg base "_law_one" 3 ["_law_draw_here", "_law_some"] (cs K fPick)) (h_l_nobody : Has P w K mg base "_law_nobody" 1 ["_law_names_here"] (cs K fNobody)) : Has P w K mg base "_law_turned" 4 ["_law_draw_here", "_law_roll_here"] (cs K fTurned) := by
  obtain ⟨fd, F⟩ := F
  refine ⟨_, fd, gm, F.kp, FunD.bindsN (ps := ["_law_draw_here", "_law_roll_here"]) F fun _ _ _ _ _ _ us hl => match us, hl with | [_, _], _ => rfl, F.ok sc_l_turned (fun vs H Q E h => p_l_turned_len h) (fun cdv A outer s H vs Q E hr h => ⟨t_l_turned K, PSs.nox ?_, p_l_turned h⟩)⟩
  have hu := hu_of hr
  exact (pss_cons (ps_set (i := 2) sc_l_turned.nd rfl (Or.inl rfl) (pe_has h_l_draw (hr.mono (by decide)) (by rfl) (pa_cons (pv 0) (pa_cons (pe_callB call_len_seq (by rfl) B.b_len (by decide +kernel) (pa_cons (pv 1) pa_nil)) pa_nil))))
    (pss_cons (ps_set (i := 3) sc_l_turned.nd rfl (Or.inl rfl) (pe_has h_l_draw (hr.mono (by decide)) (by rfl) (pa_cons (pv 0) (pa_cons pe_int pa_nil))))
    (pss_cons (ps_asg (pe_ix ix_list (pv 1) (pv 2) (fun _ _ => rfl)) (pg_tup rfl (pgs_cons (pg_name (i := 4) sc_l_turned.nd rfl (Or.inr rfl)) (pgs_cons (pg_name (i := 5) sc_l_turned.nd rfl (Or.inl rfl)) (pgs_cons (pg_name (i := 6) sc_l_turned.nd rfl (Or.inl rfl)) (pgs_cons (pg_name (i := 7) sc_l_turned.nd rfl (Or.inl rfl)) (pgs_cons (pg_name (i := 8) sc_l_turned.nd rfl (Or.inr rfl)) pgs_nil)))))))
    (pss_cons (ps_if (PW.pt (pw_and (pt_cmpR op_eq (pv 3) pe_int (nomark _)) (pw_and1 (pt_cmpR op_gt (pe_callB call_len_seq (by rfl) B.b_len (by decide +kernel) (pa_cons (pv 1) pa_nil)) pe_int (nomark _))))) (pss_one (ps_ret (pe_op op_cat (pe_slice sl_list (pv 1) po_none (po_some (pv 2))) (pe_slice sl_list (pv 1) (po_some (pe_op op_add (pv 2) pe_int)) po_none)))) pss_nil)
    (pss_cons (ps_if (PW.pt (pw_and (pt_cmpR op_eq (pv 3) pe_int (nomark _)) (pw_and1 (pt_cmpR (op_neD hr.units) (pv 8) (pe_tup pa_nil) (nomark _))))) (pss_cons (ps_set (i := 9) sc_l_turned.nd rfl (Or.inl rfl) (pe_has h_l_draw (hr.mono (by decide)) (by rfl) (pa_cons (pv 0) (pa_cons (pe_callB call_len_seq (by rfl) B.b_len (by decide +kernel) (pa_cons (pv 8) pa_nil)) pa_nil))))
      (pss_one (ps_set (i := 8) sc_l_turned.nd rfl (Or.inr rfl) (pe_op op_catA (pe_slice sl_tupA (pv 8) po_none (po_some (pv 9))) (pe_slice sl_tupA (pv 8) (po_some (pe_op op_add (pv 9) pe_int)) po_none))))) (pss_one (ps_if (pt_cmpR op_eq (pv 3) pe_int (nomark _)) (pss_cons (ps_setLc (i := 10) (own := [("_law_one_here", 11)]) (g := (gName 11)) (tt := (tAnd (tTest (tOp rNe (tOp (rIxT K) (tVar 11) (tC (.int 0))) (tVar 4))) (tTest (tOp (rIn K true) (tOp (rIxT K) (tVar 11) (tC (.int 0))) (tVar 8))))) (te := (tOp (rIxT K) (tVar 11) (tC (.int 0)))) (wi := (iList K (tVar 1))) rfl sc_l_turned.nd rfl rfl (sw_true rfl rfl rfl (by decide +kernel)) (pi_list (pv 1)) (blkOk_by (own := [("_law_one_here", 11)]) (N := N_l_turned) (sc := defScope s_l_turned) (by decide +kernel)) (fun _ _ _ _ _ => (pg_name (i := 11) sc_l_turned.nd rfl (Or.inl rfl))) (fun _ _ _ _ _ => (pts_one (PW.pt (pw_and (pt_cmpR op_ne (pe_ix ix_tup (pv 11) pe_int (fun _ _ => rfl)) (pv 4) (nomark _)) (pw_and1 (pt_cmpR op_notIn_seq (pe_ix ix_tup (pv 11) pe_int (fun _ _ => rfl)) (pv 8) (by rfl))))))) (fun _ _ _ _ _ => (pe_ix ix_tup (pv 11) pe_int (fun _ _ => rfl))))
        (pss_cons (ps_expr (pe_bm PySem.F.plainAttrs_list PySem.F.slot_list_append PySem.F.type_list_append mt_append (pv 10) (pa_cons (pe_has h_l_nobody (hr.mono (by decide)) (by rfl) (pa_cons (pe_op op_cat (pe_lc (own := [("_law_one_here", 11)]) (g := (gName 11)) (tt := tYes) (te := (tOp (rIxT K) (tVar 11) (tC (.int 0)))) (wi := (iList K (tVar 1))) rfl sc_l_turned.nd (pi_list (pv 1)) (blkOk_by (own := [("_law_one_here", 11)]) (N := N_l_turned) (sc := defScope s_l_turned) (by decide +kernel)) (fun _ _ _ _ _ => (pg_name (i := 11) sc_l_turned.nd rfl (Or.inl rfl))) (fun _ _ _ _ _ => pts_nil) (fun _ _ _ _ _ => (pe_ix ix_tup (pv 11) pe_int (fun _ _ => rfl)))) (pe_callTy call_list_of (by rfl) B.b_list (by decide +kernel) (pa_cons (pv 8) pa_nil))) pa_nil)) pa_nil)))
        (pss_one (ps_set (i := 8) sc_l_turned.nd rfl (Or.inr rfl) (pe_callTy call_tuple_of (by rfl) B.b_tuple (by decide +kernel) (pa_cons (pe_callB cr_sortedTS (by rfl) B.b_sorted (by decide +kernel) (pa_cons (pe_op op_catA (pv 8) (pe_tup (pa_cons (pe_has h_l_one (hr.mono (by decide)) (by rfl) (pa_cons (pv 0) (pa_cons (pv 10) pa_nil))) pa_nil))) pa_nil)) pa_nil)))))) pss_nil)))
    (pss_one (ps_ret (pe_op op_cat (pe_op op_cat (pe_slice sl_list (pv 1) po_none (po_some (pv 2))) (pe_lst (pa_cons (pe_tup (pa_cons (pv 4) (pa_cons (pv 5) (pa_cons (pv 6) (pa_cons (pv 7) (pa_cons (pv 8) pa_nil)))))) pa_nil))) (pe_slice sl_list (pv 1) (po_some (pe_op op_add (pv 2) pe_int)) po_none)))))))))

abbrev s_l_due : Stmt := top 15
theorem sc_l_due : FnScope N_l_due ["_law_roll_here", "_law_name_here", "_law_many"] (defScope s_l_due) := ⟨rfl, rfl, rfl, by decide +kernel, rfl, by decide +kernel, by decide +kernel⟩
theorem ok_l_due (F : ∃ fd, FnP K "_law_due" s_l_due (He.ga K "_law_due") fd) (gm : mg "_law_due" = some (.ref (He.ga K "_law_due"))) (B : Bl mg)  : Has P w K mg base "_law_due" 2 ["_law_roll_here", "_law_name_here", "_law_many"] (cs K fDue) := by
  obtain ⟨fd, F⟩ := F
  refine ⟨_, fd, gm, F.kp, FunD.bindsN (ps := ["_law_roll_here", "_law_name_here", "_law_many"]) F fun _ _ _ _ _ _ us hl => match us, hl with | [_, _, _], _ => rfl, F.ok sc_l_due (fun vs H Q E h => p_l_due_len h) (fun cdv A outer s H vs Q E hr h => ⟨t_l_due K, PSs.nox ?_, p_l_due h⟩)⟩
  have hu := hu_of hr
  exact (pss_cons (ps_set (i := 3) sc_l_due.nd rfl (Or.inr rfl) (pe_callTy (call_dictP rfl) (by rfl) B.b_dict (by decide +kernel) (pa_cons (pe_lc (own := [("_law_entry", 11)]) (g := (gName 11)) (tt := tYes) (te := (tTup (tCons (tOp (rIxT K) (tVar 11) (tC (.int 0))) (tCons (tVar 11) tNil)))) (wi := (iList K (tVar 0))) rfl sc_l_due.nd (pi_list (pv 0)) (blkOk_by (own := [("_law_entry", 11)]) (N := N_l_due) (sc := defScope s_l_due) (by decide +kernel)) (fun _ _ _ _ _ => (pg_name (i := 11) sc_l_due.nd rfl (Or.inl rfl))) (fun _ _ _ _ _ => pts_nil) (fun _ _ _ _ _ => (pe_tup (pa_cons (pe_ix ix_tup (pv 11) pe_int (fun _ _ => rfl)) (pa_cons (pv 11) pa_nil))))) pa_nil)))
    (pss_cons (ps_set (i := 4) sc_l_due.nd rfl (Or.inl rfl) (pe_lst (pa_cons (pv 1) pa_nil)))
    (pss_cons (ps_for PassesOwn.never rfl (pi_range1 (by rfl) B.b_range (pa_cons (pe_callB call_len_seq (by rfl) B.b_len (by decide +kernel) (pa_cons (pv 0) pa_nil)) pa_nil)) (pg_name (i := 5) sc_l_due.nd rfl (Or.inl rfl)) (pss_one (ps_for PassesOwn.never rfl (pi_list (pe_callTy call_list_of (by rfl) B.b_list (by decide +kernel) (pa_cons (pv 4) pa_nil))) (pg_name (i := 6) sc_l_due.nd rfl (Or.inl rfl)) (pss_one (ps_for PassesOwn.never rfl (pi_tup (pe_ix ix_tup (pe_dget hu (pv 3) (pv 6) (fun _ _ => rfl)) pe_int (fun _ _ => rfl))) (pg_name (i := 7) sc_l_due.nd rfl (Or.inl rfl)) (pss_cons (ps_if (PW.pt (pw_or (pt_cmp (pc_dnotin hu (pv 7) (pv 3)) rfl) (pw_or1 (pt_cmpR op_notIn_seq (pv 6) (pe_ix ix_tup (pe_dget hu (pv 3) (pv 7) (fun _ _ => rfl)) pe_int (fun _ _ => rfl)) (by rfl))))) (pss_one (ps_ret pe_non)) pss_nil)
          (pss_one (ps_set (i := 4) sc_l_due.nd rfl (Or.inl rfl) (pe_op op_cat (pv 4) (pe_op op_rep (pe_lst (pa_cons (pv 7) pa_nil)) (pe_callTy call_int1 (by rfl) B.b_int (by decide +kernel) (pa_cons (pe_cmpR op_notIn_seq (pv 7) (pv 4) (by rfl)) pa_nil))))))))))))
    (pss_cons (ps_set (i := 8) sc_l_due.nd rfl (Or.inl rfl) (pe_lst pa_nil))
    (pss_cons (ps_for PassesOwn.never rfl (pi_range1 (by rfl) B.b_range (pa_cons (pv 2) pa_nil)) (pg_name (i := 9) sc_l_due.nd rfl (Or.inr rfl)) (pss_cons (ps_set (i := 10) sc_l_due.nd rfl (Or.inl rfl) (pe_callB (cr_minD rfl (Go.un65m hr)) (by rfl) B.b_min (by decide +kernel) (pa_cons (pe_lc (own := [("_law_one_here", 6)]) (g := (gName 6)) (tt := tYes) (te := (tTup (tCons (tOp rSubI (tC (.int 0)) (tOp (rIxT K) (tOp (rIxT K) (tDGet (tVar 3) (tVar 6)) (tC (.int 3))) (tVar 9))) (tCons (tVar 6) tNil)))) (wi := (iList K (tVar 4))) rfl sc_l_due.nd (pi_list (pv 4)) (blkOk_by (own := [("_law_one_here", 6)]) (N := N_l_due) (sc := defScope s_l_due) (by decide +kernel)) (fun _ _ _ _ _ => (pg_name (i := 6) sc_l_due.nd rfl (Or.inl rfl))) (fun _ _ _ _ _ => pts_nil) (fun _ _ _ _ _ => (pe_tup (pa_cons (pe_op op_sub pe_int (pe_ix ix_tup (pe_ix ix_tup (pe_dget hu (pv 3) (pv 6) (fun _ _ => rfl)) pe_int (fun _ _ => rfl)) (pv 9) (fun _ _ => rfl))) (pa_cons (pv 6) pa_nil))))) pa_nil)))
      (pss_one (ps_expr (pe_bm PySem.F.plainAttrs_list PySem.F.slot_list_append PySem.F.type_list_append mt_append (pv 8) (pa_cons (pe_tup (pa_cons (pe_op op_sub pe_int (pe_ix ix_tup (pv 10) pe_int (fun _ _ => rfl))) (pa_cons (pe_ix ix_tup (pv 10) pe_int (fun _ _ => rfl)) pa_nil))) pa_nil))))))
    (pss_one (ps_ret (pe_tup (pa_cons (pe_callB call_len_seq (by rfl) B.b_len (by decide +kernel) (pa_cons (pv 4) pa_nil)) (pa_cons (pe_callTy call_tuple_of (by rfl) B.b_tuple (by decide +kernel) (pa_cons (pv 8) pa_nil)) pa_nil))))))))))

abbrev s_law : Stmt := top 16
theorem sc_law : FnScope N_law ["_law_script"] (defScope s_law) := ⟨rfl, rfl, rfl, by decide +kernel, rfl, by decide +kernel, by decide +kernel⟩
theorem ok_law {f : Addr} {fd : FuncData} (F : FnP K "law" s_law f fd) (B : Bl mg) (h_l_cell_at : Has P w K mg base "_law_cell_at" 1 ["_law_script", "_law_k"] (cs K fCellAt)) (h_sure_of : Has P w K mg base "sure_of" 3 ["roll", "name"] (cs K fSure)) (h_l_due : Has P w K mg base "_law_due" 2 ["_law_roll_here", "_law_name_here", "_law_many"] (cs K fDue)) (h_l_nobody : Has P w K mg base "_law_nobody" 1 ["_law_names_here"] (cs K fNobody)) (h_l_draw : Has P w K mg base "_law_draw" 2 ["_law_draw_here", "_law_many"] (cs K fDraw)) (h_l_turned : Has P w K mg base "_law_turned" 4 ["_law_draw_here", "_law_roll_here"] (cs K fTurned)) (h_l_roll : Has P w K mg base "_law_roll" 5 ["_law_draw_here", "_law_names_here", "_law_many"] (cs K fRoll)) (h_l_names : Has P w K mg base "_law_names" 4 ["_law_draw_here", "_law_many"] (cs K fNames)) : FnOk P w K mg base CX0 6 f fd ["_law_script"] (spLaw K) := by
  refine F.ok sc_law (fun vs H Q E h => p_law_len h) (fun cdv A outer s H vs Q E hr h => ⟨t_law K, PSs.nox ?_, p_law h⟩)
  have hu := hu_of hr
  exact (pss_cons (ps_for PassesOwn.never rfl (pi_list (pe_op op_cat (pe_lst (pa_cons (pe_has h_l_cell_at (hr.mono (by decide)) (by rfl) (pa_cons (pv 0) (pa_cons pe_int pa_nil))) pa_nil)) (pe_slice sl_list (pv 0) (po_some pe_int) (po_some pe_int)))) (pg_name (i := 1) sc_law.nd rfl (Or.inl rfl)) (pss_cons (ps_set (i := 2) sc_law.nd rfl (Or.inl rfl) (pe_disp (pps_cons pe_str (pv 1) (pps_cons pe_str pe_int pps_nil)) (by rfl) (by rfl) (fun z => by cases z) (by decide)))
      (pss_cons (ps_set (i := 3) sc_law.nd rfl (Or.inl rfl) (pe_sortSetS (by rfl) B.b_sorted (by rfl) B.b_set (pe_has h_l_names (hr.mono (by decide)) (by rfl) (pa_cons (pv 2) (pa_cons (pe_op op_add pe_int (pe_has h_l_draw (hr.mono (by decide)) (by rfl) (pa_cons (pv 2) (pa_cons pe_int pa_nil)))) pa_nil)))))
      (pss_cons (ps_set (i := 4) sc_law.nd rfl (Or.inl rfl) (pe_op op_add pe_int (pe_has h_l_draw (hr.mono (by decide)) (by rfl) (pa_cons (pv 2) (pa_cons pe_int pa_nil)))))
      (pss_cons (ps_set (i := 5) sc_law.nd rfl (Or.inl rfl) (pe_has h_l_roll (hr.mono (by decide)) (by rfl) (pa_cons (pv 2) (pa_cons (pv 3) (pa_cons (pv 4) pa_nil)))))
      (pss_cons (ps_for PassesOwn.never rfl (pi_range1 (by rfl) B.b_range (pa_cons (pe_has h_l_draw (hr.mono (by decide)) (by rfl) (pa_cons (pv 2) (pa_cons pe_int pa_nil))) pa_nil)) (pg_name (i := 6) sc_law.nd rfl (Or.inl rfl)) (pss_one (ps_set (i := 5) sc_law.nd rfl (Or.inl rfl) (pe_has h_l_turned (hr.mono (by decide)) (by rfl) (pa_cons (pv 2) (pa_cons (pv 5) pa_nil))))))
      (pss_cons (ps_if (PW.pt (pw_or (pt_cmpR op_notN1 (pe_has h_sure_of (hr.mono (by decide)) (by rfl) (pa_cons (pe_callTy call_tuple_of (by rfl) B.b_tuple (by decide +kernel) (pa_cons (pv 5) pa_nil)) (pa_cons (pe_has h_l_nobody (hr.mono (by decide)) (by rfl) (pa_cons (pv 3) pa_nil)) pa_nil))) pe_non (nomark _)) (pw_or1 (pt_cmpR op_notN1 (pe_has h_sure_of (hr.mono (by decide)) (by rfl) (pa_cons (pe_tup pa_nil) (pa_cons (pe_ix ix_list (pv 3) pe_int (fun _ _ => rfl)) pa_nil))) pe_non (nomark _))))) (pss_one (ps_ret pe_bl)) pss_nil)
      (pss_cons (ps_for PassesOwn.never rfl (pi_list (pv 3)) (pg_name (i := 7) sc_law.nd rfl (Or.inl rfl)) (pss_one (ps_if (PW.pt (pw_and (pt_cmpR op_notIn_seq (pv 7) (pe_lc (own := [("_law_entry", 8)]) (g := (gName 8)) (tt := tYes) (te := (tOp (rIxT K) (tVar 8) (tC (.int 0)))) (wi := (iList K (tVar 5))) rfl sc_law.nd (pi_list (pv 5)) (blkOk_by (own := [("_law_entry", 8)]) (N := N_law) (sc := defScope s_law) (by decide +kernel)) (fun _ _ _ _ _ => (pg_name (i := 8) sc_law.nd rfl (Or.inl rfl))) (fun _ _ _ _ _ => pts_nil) (fun _ _ _ _ _ => (pe_ix ix_tup (pv 8) pe_int (fun _ _ => rfl)))) (by rfl)) (pw_and1 (pt_cmpR op_notN1 (pe_has h_sure_of (hr.mono (by decide)) (by rfl) (pa_cons (pe_callTy call_tuple_of (by rfl) B.b_tuple (by decide +kernel) (pa_cons (pv 5) pa_nil)) (pa_cons (pv 7) pa_nil))) pe_non (nomark _))))) (pss_one (ps_ret pe_bl)) pss_nil)))
      (pss_one (ps_for PassesOwn.never rfl (pi_list (pv 5)) (pg_name (i := 8) sc_law.nd rfl (Or.inl rfl)) (pss_cons (ps_set (i := 9) sc_law.nd rfl (Or.inl rfl) (pe_has h_l_due (hr.mono (by decide)) (by rfl) (pa_cons (pv 5) (pa_cons (pe_ix ix_tup (pv 8) pe_int (fun _ _ => rfl)) (pa_cons (pv 4) pa_nil)))))
        (pss_cons (ps_set (i := 10) sc_law.nd rfl (Or.inl rfl) (pe_has h_sure_of (hr.mono (by decide)) (by rfl) (pa_cons (pe_callTy call_tuple_of (by rfl) B.b_tuple (by decide +kernel) (pa_cons (pv 5) pa_nil)) (pa_cons (pe_ix ix_tup (pv 8) pe_int (fun _ _ => rfl)) pa_nil))))
        (pss_cons (ps_if (PW.pt (pw_or (pt_cmpR (op_neD hr.units) (pv 10) (pv 9) (nomark _)) (pw_or1 (PW.pt (pw_and (pt_cmpR op_notN1 (pv 10) pe_non (nomark _)) (pw_and1 (pt_not (pt_val (pe_callB call_isi (by rfl) B.b_isinstance (by decide +kernel) (pa_cons (pe_ix ix_seq (pv 10) pe_int (fun _ _ => rfl)) (pa_cons (pe_bltn (v := .ty "tuple") (by rfl) B.b_tuple (by decide +kernel) rfl) pa_nil))))))))))) (pss_one (ps_ret pe_bl)) pss_nil)
        (pss_one (ps_if (pt_cmpR (op_neD hr.units) (pe_has h_sure_of (hr.mono (by decide)) (by rfl) (pa_cons (pe_callTy call_tuple_of (by rfl) B.b_tuple (by decide +kernel) (pa_cons (pv 5) pa_nil)) (pa_cons (pe_ix ix_tup (pv 8) pe_int (fun _ _ => rfl)) pa_nil))) (pv 9) (nomark _)) (pss_one (ps_ret pe_bl)) pss_nil)))))))))))))))
    (pss_one (ps_ret pe_bl)))
end

def dd_entry_of : He.DefD := ⟨("entry_of", none), "entry_of", "entry_of", defArgs s_entry_of, defBody s_entry_of, defScope s_entry_of, [], []⟩
def dd_come_to : He.DefD := ⟨("come_to", none), "come_to", "come_to", defArgs s_come_to, defBody s_come_to, defScope s_come_to, [], []⟩
def dd_sure_of : He.DefD := ⟨("sure_of", none), "sure_of", "sure_of", defArgs s_sure_of, defBody s_sure_of, defScope s_sure_of, [], []⟩
def dd_l_cell_at : He.DefD := ⟨("_law_cell_at", none), "_law_cell_at", "_law_cell_at", defArgs s_l_cell_at, defBody s_l_cell_at, defScope s_l_cell_at, [], []⟩
def dd_l_mixed : He.DefD := ⟨("_law_mixed", none), "_law_mixed", "_law_mixed", defArgs s_l_mixed, defBody s_l_mixed, defScope s_l_mixed, [], []⟩
def dd_l_draw : He.DefD := ⟨("_law_draw", none), "_law_draw", "_law_draw", defArgs s_l_draw, defBody s_l_draw, defScope s_l_draw, [], []⟩
def dd_l_one : He.DefD := ⟨("_law_one", none), "_law_one", "_law_one", defArgs s_l_one, defBody s_l_one, defScope s_l_one, [], []⟩
def dd_l_name : He.DefD := ⟨("_law_name", none), "_law_name", "_law_name", defArgs s_l_name, defBody s_l_name, defScope s_l_name, [], []⟩
def dd_l_names : He.DefD := ⟨("_law_names", none), "_law_names", "_law_names", defArgs s_l_names, defBody s_l_names, defScope s_l_names, [], []⟩
def dd_l_number : He.DefD := ⟨("_law_number", none), "_law_number", "_law_number", defArgs s_l_number, defBody s_l_number, defScope s_l_number, [], []⟩
def dd_l_roll : He.DefD := ⟨("_law_roll", none), "_law_roll", "_law_roll", defArgs s_l_roll, defBody s_l_roll, defScope s_l_roll, [], []⟩
def dd_l_nobody : He.DefD := ⟨("_law_nobody", none), "_law_nobody", "_law_nobody", defArgs s_l_nobody, defBody s_l_nobody, defScope s_l_nobody, [], []⟩
def dd_l_turned : He.DefD := ⟨("_law_turned", none), "_law_turned", "_law_turned", defArgs s_l_turned, defBody s_l_turned, defScope s_l_turned, [], []⟩
def dd_l_due : He.DefD := ⟨("_law_due", none), "_law_due", "_law_due", defArgs s_l_due, defBody s_l_due, defScope s_l_due, [], []⟩
def dd_law : He.DefD := ⟨("law", none), "law", "law", defArgs s_law, defBody s_law, defScope s_law, [], []⟩
def fn : List He.DefD := [dd_entry_of, dd_come_to, dd_sure_of, dd_l_cell_at, dd_l_mixed, dd_l_draw, dd_l_one, dd_l_name, dd_l_names, dd_l_number, dd_l_roll, dd_l_nobody, dd_l_turned, dd_l_due, dd_law]
def fa : List He.Fa := [.glo "entry_of", .glo "come_to", .glo "sure_of", .glo "_law_cell_at", .glo "_law_mixed", .glo "_law_draw", .glo "_law_one", .glo "_law_name", .glo "_law_names", .glo "_law_number", .glo "_law_roll", .glo "_law_nobody", .glo "_law_turned", .glo "_law_due", .glo "law", .free "dict", .free "int", .free "isinstance", .free "len", .free "list", .free "max", .free "min", .free "range", .free "set", .free "sorted", .free "tuple"]
def loose : List Str := (["entry_of", "come_to", "sure_of", "_law_cell_at", "_law_mixed", "_law_draw", "_law_one", "_law_name", "_law_names", "_law_number", "_law_roll", "_law_nobody", "_law_turned", "_law_due"] : List Str)
abbrev R : PySem.W.OpenRow := PySem.W.OpenLaw.row PySem.Challenge.rw_sumtold_k32_whole_sure_by_rolls
abbrev hk : PySem.W.Hook := He.hookD 4 fa fn
def ob (s : PySem.W.SharedT) : He.AlD := He.obsDG 4 fa fn (HandSHeadRun.getT s)
theorem ob_eq (s : PySem.W.SharedT) : ob s = hk.obs s.abs := He.obsDG_eq (HandSHeadRun.getT_eq s)
theorem run (w : World) : HandSHeadRun.RunEq R (PySem.W.view R.prog [16]) hk ob 2000 loose w := by
  intro os
  kernel_rfl
theorem facts {P : Program} {w : World} {K : PySem.W.Frag} {h : Heap} {mg : Str → Option Value} {f : Addr} (X : K.In h) (G : h.Ns mainGlobals mg) (hfa : mg ("law" : Str) = some (.ref f)) (c : He.SaysD fa fn K) :
    ∃ fd : FuncData, (∀ (s : Shared) (v : Value), BindsTo s fd ⟨[v], []⟩ [("_law_script", v)]) ∧ ∀ base : Heap, K.In base → base.Ns mainGlobals mg → FnOk P w K mg base CX0 6 f fd ["_law_script"] ((spLaw K)) := by
  have F_entry_of := c.def_ 0 (d := dd_entry_of) rfl
  have g_entry_of := He.glo_ok X G (c.fact 0 (f := .glo "entry_of") rfl)
  have F_come_to := c.def_ 1 (d := dd_come_to) rfl
  have g_come_to := He.glo_ok X G (c.fact 1 (f := .glo "come_to") rfl)
  have F_sure_of := c.def_ 2 (d := dd_sure_of) rfl
  have g_sure_of := He.glo_ok X G (c.fact 2 (f := .glo "sure_of") rfl)
  have F_l_cell_at := c.def_ 3 (d := dd_l_cell_at) rfl
  have g_l_cell_at := He.glo_ok X G (c.fact 3 (f := .glo "_law_cell_at") rfl)
  have F_l_mixed := c.def_ 4 (d := dd_l_mixed) rfl
  have g_l_mixed := He.glo_ok X G (c.fact 4 (f := .glo "_law_mixed") rfl)
  have F_l_draw := c.def_ 5 (d := dd_l_draw) rfl
  have g_l_draw := He.glo_ok X G (c.fact 5 (f := .glo "_law_draw") rfl)
  have F_l_one := c.def_ 6 (d := dd_l_one) rfl
  have g_l_one := He.glo_ok X G (c.fact 6 (f := .glo "_law_one") rfl)
  have F_l_name := c.def_ 7 (d := dd_l_name) rfl
  have g_l_name := He.glo_ok X G (c.fact 7 (f := .glo "_law_name") rfl)
  have F_l_names := c.def_ 8 (d := dd_l_names) rfl
  have g_l_names := He.glo_ok X G (c.fact 8 (f := .glo "_law_names") rfl)
  have F_l_number := c.def_ 9 (d := dd_l_number) rfl
  have g_l_number := He.glo_ok X G (c.fact 9 (f := .glo "_law_number") rfl)
  have F_l_roll := c.def_ 10 (d := dd_l_roll) rfl
  have g_l_roll := He.glo_ok X G (c.fact 10 (f := .glo "_law_roll") rfl)
  have F_l_nobody := c.def_ 11 (d := dd_l_nobody) rfl
  have g_l_nobody := He.glo_ok X G (c.fact 11 (f := .glo "_law_nobody") rfl)
  have F_l_turned := c.def_ 12 (d := dd_l_turned) rfl
  have g_l_turned := He.glo_ok X G (c.fact 12 (f := .glo "_law_turned") rfl)
  have F_l_due := c.def_ 13 (d := dd_l_due) rfl
  have g_l_due := He.glo_ok X G (c.fact 13 (f := .glo "_law_due") rfl)
  have F_law := c.def_ 14 (d := dd_law) rfl
  have g_law := He.glo_ok X G (c.fact 14 (f := .glo "law") rfl)
  have B : Bl mg := ⟨He.free_ok X G (c.fact 15 (f := .free "dict") rfl), He.free_ok X G (c.fact 16 (f := .free "int") rfl), He.free_ok X G (c.fact 17 (f := .free "isinstance") rfl), He.free_ok X G (c.fact 18 (f := .free "len") rfl), He.free_ok X G (c.fact 19 (f := .free "list") rfl), He.free_ok X G (c.fact 20 (f := .free "max") rfl), He.free_ok X G (c.fact 21 (f := .free "min") rfl), He.free_ok X G (c.fact 22 (f := .free "range") rfl), He.free_ok X G (c.fact 23 (f := .free "set") rfl), He.free_ok X G (c.fact 24 (f := .free "sorted") rfl), He.free_ok X G (c.fact 25 (f := .free "tuple") rfl)⟩
  have e := hfa.symm.trans g_law
  cases e
  obtain ⟨fd, Fl⟩ := F_law
  refine ⟨fd, fun s v => (FunD.bindsA (ps := ["_law_script"]) Fl fun _ _ _ _ _ _ us hl => match us, hl with | [_], _ => rfl) s [v] rfl, fun base _ _ => ?_⟩
  have h_entry_of := ok_entry_of (P := P) (w := w) (base := base) F_entry_of g_entry_of B 
  have h_come_to := ok_come_to (P := P) (w := w) (base := base) F_come_to g_come_to B h_entry_of
  have h_sure_of := ok_sure_of (P := P) (w := w) (base := base) F_sure_of g_sure_of B h_come_to
  have h_l_cell_at := ok_l_cell_at (P := P) (w := w) (base := base) F_l_cell_at g_l_cell_at B 
  have h_l_mixed := ok_l_mixed (P := P) (w := w) (base := base) F_l_mixed g_l_mixed B 
  have h_l_draw := ok_l_draw (P := P) (w := w) (base := base) F_l_draw g_l_draw B h_l_mixed
  have h_l_one := ok_l_one (P := P) (w := w) (base := base) F_l_one g_l_one B h_l_draw
  have h_l_name := ok_l_name (P := P) (w := w) (base := base) F_l_name g_l_name B h_l_draw
  have h_l_names := ok_l_names (P := P) (w := w) (base := base) F_l_names g_l_names B h_l_name
  have h_l_number := ok_l_number (P := P) (w := w) (base := base) F_l_number g_l_number B h_l_draw h_l_one
  have h_l_roll := ok_l_roll (P := P) (w := w) (base := base) F_l_roll g_l_roll B h_l_draw h_l_number
  have h_l_nobody := ok_l_nobody (P := P) (w := w) (base := base) F_l_nobody g_l_nobody B 
  have h_l_turned := ok_l_turned (P := P) (w := w) (base := base) F_l_turned g_l_turned B h_l_draw h_l_one h_l_nobody
  have h_l_due := ok_l_due (P := P) (w := w) (base := base) F_l_due g_l_due B 
  exact ok_law (P := P) (w := w) (base := base) Fl B h_l_cell_at h_sure_of h_l_due h_l_nobody h_l_draw h_l_turned h_l_roll h_l_names

end Sum
open PySem PySem.W PySem.Calls PyProof.Rows
set_option maxRecDepth 100000 in
set_option maxHeartbeats 0 in
theorem PySem.Challenge.cw_sumtold_k32_whole_sure_by_rolls_holds : PySem.Challenge.rw_sumtold_k32_whole_sure_by_rolls.Holds := by
  w_on; o_law
  refine HandSHeadRun.head_any (r := OpenLaw.row PySem.Challenge.rw_sumtold_k32_whole_sure_by_rolls) (q := view (OpenLaw.row PySem.Challenge.rw_sumtold_k32_whole_sure_by_rolls).prog [16]) (H := Sum.hk) (ob := Sum.ob) (M := 2000) (loose := Sum.loose) (d := HandSHeadRun.topDef (OpenLaw.row PySem.Challenge.rw_sumtold_k32_whole_sure_by_rolls).prog 16) (kwd := []) Sum.ob_eq
    (by kernel_rfl) (fun s => by kernel_rfl) Sum.run (by kernel_rfl) (by kernel_rfl) (by kernel_rfl) (by rfl) (by first | assumption | decide +kernel) (by decide +kernel) ⟨rfl, rfl, rfl, rfl, rfl, by decide +kernel⟩ ?hw ?hc
  case hw => w_witness2
  case hc =>
    refine L2.walk_ofE (l := PySem.Challenge.rw_sumtold_k32_whole_sure_by_rolls) (n := 63) (k := 6) (x := "_law_script") (CX := L2.CX0) rfl (by decide) (by kernel_rfl) ⟨rfl, by decide, by decide⟩ ?F (fun _ _ _ _ z => z)
    intro w mg fa h Y G hmg0
    obtain ⟨K, KX, c⟩ := Y
    have hmg : mg ("law" : PySem.Str) = some (.ref fa) := by
      have e : (HandSHeadRun.topDef (OpenLaw.row PySem.Challenge.rw_sumtold_k32_whole_sure_by_rolls).prog 16).name = ("law" : PySem.Str) := by kernel_rfl
      rw [← e]
      exact hmg0
    obtain ⟨fd, hb, hF⟩ := Sum.facts (P := (PySem.Challenge.rw_sumtold_k32_whole_sure_by_rolls).prog) (w := w) KX G hmg c
    exact ⟨K, fd, Sum.spLaw K, KX, hb, fun H a ns hl _ hS => ⟨a, ns, rfl, hS, hl, fun _ => rfl⟩, hF⟩
#print axioms PySem.Challenge.cw_sumtold_k32_whole_sure_by_rolls_holds
