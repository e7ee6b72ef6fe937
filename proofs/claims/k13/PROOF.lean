import PyProof.Rows.All
import Wide.All
import OpenK.AllK
import Wide.FinOn
import HandS.ForMost
import HandS.Flow
import HandS.IsInst
import HandS.WideBits
import HandS.Style
import HandS.TupAny
import HandS.TupMul
import HandS.Steps
import HandS.Evl
import HandS.Zip
import HandS.Walk
import HandS.Defaults
import HandS.HeadEnd
import HandS.HeadHook2
import HandS.Head2
import HandS.Conv
import HandS.Text
import HandS.Codes
import HandS.NoneIn
import HandS.CallLocal
import HandS.Strs
import HandS.Set
import HandS.SetKeys
import HandS.TupSets
import PyProof.Rows.SortShellK
import PyProof.Rows.SortStr
import HandS.Exc
import HandS.ExcOwn
import HandS.ExcIs
import HandS.WordsExc
import HandS.Deep
import PySem.Challenge.RW_sumtold_k13_what_is_no_web
set_option Elab.async false
set_option linter.all false
set_option maxRecDepth 100000
set_option maxHeartbeats 4000000
namespace Go
open PySem PySem.Spec PyProof.Rows L2
/-! ### readings by short names -/
abbrev rAddI : R2 := rI0 fun i j => .int (i + j)
abbrev rSubI : R2 := rI0 fun i j => .int (i - j)
abbrev rMulI : R2 := rI CMul fun i j => .int (i * j)
abbrev rMulX : R2 := rI CMulX fun i j => .int (i * j)
abbrev rDivI : R2 := rI CDivW fun i j => .int (i / j)
abbrev rModI : R2 := rI (fun _ j => 0 < j) fun i j => .int (i % j)
abbrev rPowI : R2 := rI CPow fun i j => .int (i ^ j.toNat)
abbrev rShlI : R2 := rI CShl fun i j => .int (i * 2 ^ j.toNat)
abbrev rShrI : R2 := rI (fun _ j => 0 ≤ j) fun i j => .int (i / 2 ^ j.toNat)
abbrev rAndI : R2 := rI0 fun i j => .int (Builtin.bitAnd i j)
abbrev rLtI : R2 := rI0 fun i j => .bl (decide (i < j))
abbrev rLeI : R2 := rI0 fun i j => .bl (decide (i ≤ j))
abbrev rGtI : R2 := rI0 fun i j => .bl (decide (j < i))
abbrev rGeI : R2 := rI0 fun i j => .bl (decide (j ≤ i))
abbrev rNegI : V → Hp → VK → Prop := rU fun i => .int (-i)
abbrev rAbs : List V → Hp → VK → Prop := fun xs H Q => ∃ i, xs = [.int i] ∧ Q (.int (if i < 0 then -i else i)) H
abbrev rMin2 : List V → Hp → VK → Prop := fun xs H Q => ∃ i j, xs = [.int i, .int j] ∧ Q (.int (if j < i then j else i)) H
abbrev rInt1 : List V → Hp → VK → Prop := fun xs H Q => (∃ i, xs = [.int i] ∧ Q (.int i) H) ∨ ∃ k, xs = [.bl k] ∧ Q (.int (if k then 1 else 0)) H
abbrev rTupOf (K : PySem.W.Frag) : List V → Hp → VK → Prop := fun xs H Q => ∃ p ys, xs = [.ref p] ∧ ((SqL K H p ys ∧ ∀ l, H l = none → Q (.ref l) (upd H l (.tup ys))) ∨ (SqT K H p ys ∧ Q (.ref p) H))
abbrev rAddStr : R2 := fun x y H Q => ∃ i j, x = .str i ∧ y = .str j ∧ i.length + j.length ≤ sizeLine ∧ Q (.str (i ++ j)) H
abbrev rLenStr : List V → Hp → VK → Prop := fun xs H Q => ∃ z, xs = [.str z] ∧ z.length ≤ sizeLine ∧ Q (.int z.length) H
/-! ### a def that keeps its promise, by its name -/
abbrev FnP (K : PySem.W.Frag) (x : Str) (st : Stmt) (f : Addr) (fd : FuncData) : Prop := FunD K x x (defArgs st) (defBody st) (defScope st) [] [] f fd
def Has (P : Program) (w : World) (K : PySem.W.Frag) (mg : Str → Option Value) (base : Heap) (x : Str) (k : Nat) (ps : List Str) (sp : Sp) : Prop :=
  ∃ (f : Addr) (fd : FuncData), mg x = some (.ref f) ∧ PySem.W.keepIn K (.ref f) = true ∧ Binds K fd ps [] ∧ FnOk P w K mg base CX0 k f fd ps sp
theorem pe_has {X : Cx} {x : Str} {p pos : Pos} {e : Expr} {es : List Expr} {t : TA} {k : Nat} {ps : List Str} {sp : Sp} (h : Has X.prog X.w X.K X.mg X.base x k ps sp) (hr : Room k X.A) (hg : Gl X x) (ha : PA X (e :: es) t)
    (hd : (x == ("__debug__" : Str)) = false := by decide) (he : starEach (e :: es) X.env = (false, eval e X.env) :: starEach es X.env := by rfl) (hpl : (backTo pos (starEach es X.env)).any (·.1) = false := by rfl) :
    PE X (.Call (.Name x p) (e :: es) [] pos) (tCall sp [] E0 t) := by
  obtain ⟨f, fd, gm, kp, b, F⟩ := h
  exact pe_call F hr hg gm kp b .nil pass0 ha hd he hpl
/-! ### stepping -/
section
variable {K : PySem.W.Frag} {σ : L2.St} {H H' : Hp} {Q : VK} {QB : Bool → Hp → Prop} {D : Ends} {t u : TS} {c c' : TT} {te ta tb tc : TE} {tr : TA} {i : Nat} {v x y : V} {r r' : R2} {a b : Addr} {o : HO} {xs ys : List V}
theorem w_seq (h : t { D with nx := u D } σ H) : tSeq t u D σ H := h
theorem w_next (h : D.nx σ H) : tNext D σ H := h
theorem w_asg (h : te σ H fun x H1 => D.nx (σ.set i (some x)) H1) : tAsg te (gName i) D σ H := h
theorem w_drop (h : te σ H fun _ H1 => D.nx σ H1) : tDrop te D σ H := h
theorem w_ret (h : te σ H D.rt) : tRet te D σ H := h
theorem w_if (h : c σ H fun b H1 => if b = true then t D σ H1 else u D σ H1) : tIfS c t u D σ H := h
theorem w_par {j : Nat} (h : tr σ H fun vs H1 => ∃ v w, vs = [v, w] ∧ D.nx ((σ.set i (some v)).set j (some w)) H1) : tPar i j tr D σ H := h
theorem w_sub {to ti : TE} {ts : TSet} (h : te σ H fun x H1 => to σ H1 fun o H2 => ti σ H2 fun i H3 => ts o i x H3 fun H4 => D.nx σ H4) : tAsg te (gSub to ti ts) D σ H := h
theorem w_setL {xs : List V} {k : Int} {j : Nat} {Qh : Hp → Prop} (h : H a = some (.lst xs)) (hj : ixN xs.length k = some j) (q : Qh (upd H a (.lst (xs.set j v)))) : rSetL (.ref a) (.int k) v H Qh := ⟨a, xs, k, j, rfl, rfl, h, hj, q⟩
theorem w_gName {QS : L2.St → Hp → Prop} (q : QS (σ.set i (some v)) H) : gName i v σ H QS := q
theorem w_gTup {n : Nat} {tg : TGs} {QS : L2.St → Hp → Prop} (h : SqT K H a xs) (hn : xs.length = n) (q : tg xs σ H QS) : gTup K n tg (.ref a) σ H QS := ⟨a, xs, rfl, h, hn, q⟩
theorem w_gCons {g1 : TG} {tg : TGs} {QS : L2.St → Hp → Prop} (q : g1 v σ H fun σ' H' => tg xs σ' H' QS) : gCons g1 tg (v :: xs) σ H QS := ⟨v, xs, rfl, q⟩
theorem w_gNil {QS : L2.St → Hp → Prop} (q : QS σ H) : gNil [] σ H QS := ⟨rfl, q⟩
theorem w_asgG {g : TG} (h : te σ H fun x H1 => g x σ H1 D.nx) : tAsg te g D σ H := h
theorem w_var (h : σ[i]? = some (some v)) (q : Q v H) : tVar i σ H Q := ⟨v, h, q⟩
theorem w_con (q : Q v H) : tC v σ H Q := q
theorem w_op (h : ta σ H fun x H1 => tb σ H1 fun y H2 => r x y H2 Q) : tOp r ta tb σ H Q := h
theorem w_un {r : V → Hp → VK → Prop} (h : ta σ H fun x H1 => r x H1 Q) : tUn r ta σ H Q := h
theorem w_I0 {g : Int → Int → V} {i j : Int} (q : Q (g i j) H) : rI0 g (.int i) (.int j) H Q := ⟨i, j, rfl, rfl, q⟩
theorem w_I {C : Int → Int → Prop} {g : Int → Int → V} {i j : Int} (hc : C i j) (q : Q (g i j) H) : rI C g (.int i) (.int j) H Q := ⟨i, j, rfl, rfl, hc, q⟩
theorem w_mulI {i j : Int} (hc : CMul i j) (q : Q (.int (i * j)) H) : rMulI (.int i) (.int j) H Q := w_I hc q
theorem w_modI {i j : Int} (hc : 0 < j) (q : Q (.int (i % j)) H) : rModI (.int i) (.int j) H Q := w_I (C := fun _ j => 0 < j) hc q
theorem w_divI {i j : Int} (hc : CDivW i j) (q : Q (.int (i / j)) H) : rDivI (.int i) (.int j) H Q := w_I hc q
theorem w_powI {i j : Int} (hc : CPow i j) (q : Q (.int (i ^ j.toNat)) H) : rPowI (.int i) (.int j) H Q := w_I hc q
theorem w_shrI {i j : Int} (hc : 0 ≤ j) (q : Q (.int (i / 2 ^ j.toNat)) H) : rShrI (.int i) (.int j) H Q := w_I (C := fun _ j => 0 ≤ j) hc q
theorem w_mulX {i j : Int} (hc : CMulX i j) (q : Q (.int (i * j)) H) : rMulX (.int i) (.int j) H Q := w_I hc q
theorem w_shlI {i j : Int} (hc : CShl i j) (q : Q (.int (i * 2 ^ j.toNat)) H) : rShlI (.int i) (.int j) H Q := w_I hc q
theorem w_U {g : Int → V} {i : Int} (q : Q (g i) H) : rU g (.int i) H Q := ⟨i, rfl, q⟩
theorem w_eq (hs : scal x y = true) (q : Q (.bl (decide (x = y))) H) : rEq x y H Q := ⟨hs, q⟩
theorem w_ne (hs : scal x y = true) (q : Q (.bl (!decide (x = y))) H) : rNe x y H Q := ⟨hs, q⟩
theorem w_isB {p q : Bool} (h : Q (.bl (decide (p = q))) H) : rIsB (.bl p) (.bl q) H Q := ⟨p, q, rfl, rfl, h⟩
theorem w_notB {p q : Bool} (h : Q (.bl (!decide (p = q))) H) : rNotB (.bl p) (.bl q) H Q := ⟨p, q, rfl, rfl, h⟩
theorem w_isN (h : Q (.bl (decide (x = .non))) H) : L2.rIsN x .non H Q := ⟨rfl, h⟩
theorem w_notN (h : Q (.bl (!decide (x = .non))) H) : L2.rNotN x .non H Q := ⟨rfl, h⟩
theorem w_test (h : te σ H fun x H' => ∃ k, x = .bl k ∧ QB k H') : tTest te σ H QB := h
theorem w_tB (h : te σ H fun x H' => ∃ k, x = .bl k ∧ QB k H') : tB te σ H QB := h
theorem w_k {k : Bool} {R : Bool → Prop} (q : R k) : ∃ k', V.bl k = .bl k' ∧ R k' := ⟨k, rfl, q⟩
theorem w_not (h : c σ H fun k H1 => QB (!k) H1) : tNot c σ H QB := h
theorem w_and (h : c σ H fun k H1 => if k = true then c' σ H1 QB else QB false H1) : tAnd c c' σ H QB := h
theorem w_or (h : c σ H fun k H1 => if k = true then QB true H1 else c' σ H1 QB) : tOr c c' σ H QB := h
theorem w_andV (h : ta σ H fun x H1 => ∃ k, x = .bl k ∧ if k = true then tb σ H1 Q else Q (.bl false) H1) : tAndV ta tb σ H Q := h
theorem w_orV (h : ta σ H fun x H1 => ∃ k, x = .bl k ∧ if k = true then Q (.bl true) H1 else tb σ H1 Q) : tOrV ta tb σ H Q := h
theorem w_notV (h : ta σ H fun x H1 => ∃ k, x = .bl k ∧ Q (.bl (!k)) H1) : tNotV ta σ H Q := h
theorem w_chain (h : ta σ H fun x H1 => tb σ H1 fun y H2 => r x y H2 fun z H3 => ∃ k, z = .bl k ∧ (if k = true then tc σ H3 fun w' H4 => r' y w' H4 Q else Q (.bl false) H3)) : tChain r r' ta tb tc σ H Q := h
theorem w_orT (h : ta σ H fun x H1 => ∃ k, TruV K x H1 k ∧ if k = true then Q x H1 else tb σ H1 Q) : tOrT K ta tb σ H Q := h
theorem w_andT (h : ta σ H fun x H1 => ∃ k, TruV K x H1 k ∧ if k = true then tb σ H1 Q else Q x H1) : tAndT K ta tb σ H Q := h
theorem w_truI {n : Int} {R : Bool → Prop} (q : R (n != 0)) : ∃ k, TruV K (.int n) H k ∧ R k := ⟨_, rfl, q⟩
theorem w_ifE (h : c σ H fun k H1 => if k = true then ta σ H1 Q else tb σ H1 Q) : tIf c ta tb σ H Q := h
theorem w_nil {QL : List V → Hp → Prop} (q : QL [] H) : tNil σ H QL := q
theorem w_cons {QL : List V → Hp → Prop} (h : te σ H fun x H1 => tr σ H1 fun xs H2 => QL (x :: xs) H2) : tCons te tr σ H QL := h
theorem w_tup (h : tr σ H fun xs H1 => xs.length ≤ sizeLine ∧ ∀ p, H1 p = none → Q (.ref p) (upd H1 p (.tup xs))) : tTup tr σ H Q := h
theorem w_lst (h : tr σ H fun xs H1 => xs.length ≤ sizeLine ∧ ∀ p, H1 p = none → Q (.ref p) (upd H1 p (.lst xs))) : tLst tr σ H Q := h
theorem w_call {sp : Sp} {E : XK} (h : tr σ H fun vs H1 => sp vs H1 Q E) : tCall sp [] E tr σ H Q := by
  show tr σ H fun vs H1 => sp (vs ++ []) H1 Q E
  simp only [List.append_nil]
  exact h
theorem w_cb {r : List V → Hp → VK → Prop} (h : tr σ H fun vs H1 => r vs H1 Q) : tCB r tr σ H Q := h
theorem w_ixL {k : Int} (h : SqL K H a xs) (ha : atI xs k = some v) (q : Q v H) : rIxL K (.ref a) (.int k) H Q := ⟨a, xs, k, v, rfl, rfl, h, ha, q⟩
theorem w_ixT {k : Int} (h : SqT K H a xs) (ha : atI xs k = some v) (q : Q v H) : rIxT K (.ref a) (.int k) H Q := ⟨a, xs, k, v, rfl, rfl, h, ha, q⟩
theorem w_ixsL {k : Int} (h : SqL K H a xs) (ha : atI xs k = some v) (q : Q v H) : rIx K (.ref a) (.int k) H Q := .inl ⟨a, xs, k, v, rfl, rfl, h, ha, q⟩
theorem w_ixsT {k : Int} (h : SqT K H a xs) (ha : atI xs k = some v) (q : Q v H) : rIx K (.ref a) (.int k) H Q := .inr (.inl ⟨a, xs, k, v, rfl, rfl, h, ha, q⟩)
theorem w_min2 {m n : Int} (q : Q (.int (if n < m then n else m)) H) : rMin2 [.int m, .int n] H Q := ⟨m, n, rfl, q⟩
theorem w_max2 {m n : Int} (q : Q (.int (if n > m then n else m)) H) : Evl.rMax2 [.int m, .int n] H Q := ⟨m, n, rfl, q⟩
theorem w_bitsI {n : Int} {R : Int → Prop} (q : R n) : ∃ i, V.int n = .int i ∧ R i := ⟨n, rfl, q⟩
theorem w_abs {n : Int} (q : Q (.int (n.natAbs : Int)) H) : rAbs [.int n] H Q := ⟨n, rfl, by
  have e : (if n < 0 then -n else n) = (n.natAbs : Int) := by split <;> omega
  rw [e]; exact q⟩
theorem w_intB {k : Bool} (q : Q (.int (if k then 1 else 0)) H) : rInt1 [.bl k] H Q := .inr ⟨k, rfl, q⟩
theorem w_tupOfL (h : SqL K H a ys) (q : ∀ l, H l = none → Q (.ref l) (upd H l (.tup ys))) : rTupOf K [.ref a] H Q := ⟨a, ys, rfl, .inl ⟨h, q⟩⟩
theorem w_lenL (h : SqL K H a xs) (q : Q (.int xs.length) H) : Evl.rLenS K [.ref a] H Q := ⟨a, xs, rfl, .inl h, q⟩
theorem w_lenT (h : SqT K H a xs) (q : Q (.int xs.length) H) : Evl.rLenS K [.ref a] H Q := ⟨a, xs, rfl, .inr h, q⟩
theorem w_isi {cc : V} {tt uu : Value} {k : Bool} (hc : ClsV cc uu) (ht : TyX K H x tt) (hk : PySem.W.kitOne K tt uu = some k) (q : Q (.bl k) H) : rIsi K [x, cc] H Q := ⟨x, cc, tt, uu, k, rfl, hc, ht, hk, q⟩
theorem w_sl {rr : V → Option Int → Option Int → Hp → VK → Prop} {tl th : TO} (h : te σ H fun x H1 => tl σ H1 fun l H2 => th σ H2 fun u H3 => rr x l u H3 Q) : tSl rr te tl th σ H Q := h
theorem w_noPart {QO : Option Int → Hp → Prop} (q : QO none H) : tNoPart σ H QO := q
theorem w_part {QO : Option Int → Hp → Prop} (h : te σ H fun x H1 => ∃ i, x = .int i ∧ QO (some i) H1) : tPart te σ H QO := h
theorem w_partI {R : Int → Prop} {n : Int} (q : R n) : ∃ i, V.int n = .int i ∧ R i := ⟨n, rfl, q⟩
theorem w_slL {lo hi : Option Int} (h : SqL K H a xs) (q : ∀ p, H p = none → Q (.ref p) (upd H p (.lst (cutV xs lo hi)))) : rSlL K (.ref a) lo hi H Q := ⟨a, xs, rfl, h, q⟩
theorem w_cat (h : H a = some (.lst xs)) (h' : H b = some (.lst ys)) (hl : xs.length + ys.length ≤ sizeLine) (q : ∀ p, H p = none → Q (.ref p) (upd H p (.lst (xs ++ ys)))) : rCat (.ref a) (.ref b) H Q := ⟨a, b, xs, ys, rfl, rfl, h, h', hl, q⟩
theorem w_eqD {d e : PyData} (h1 : Dp K H x d) (h2 : Dp K H y e) (s1 : SeqAt.shaped d = true) (s2 : SeqAt.shaped e = true) (q : Q (.bl (PyData.eqv d e)) H) : rEqD K x y H Q := ⟨d, e, h1, h2, s1, s2, q⟩
theorem w_neD {d e : PyData} (h1 : Dp K H x d) (h2 : Dp K H y e) (s1 : SeqAt.shaped d = true) (s2 : SeqAt.shaped e = true) (q : Q (.bl (!PyData.eqv d e)) H) : rNeD K x y H Q := ⟨d, e, h1, h2, s1, s2, q⟩
theorem w_eqD_same {d : PyData} (h1 : Dp K H x d) (h2 : Dp K H y d) (s1 : SeqAt.shaped d = true) (q : Q (.bl true) H) : rEqD K x y H Q := ⟨d, d, h1, h2, s1, s1, by rw [SeqAt.eqv_refl d (SeqAt.canLay_of_shaped s1)]; exact q⟩
theorem w_neD_same {d : PyData} (h1 : Dp K H x d) (h2 : Dp K H y d) (s1 : SeqAt.shaped d = true) (q : Q (.bl false) H) : rNeD K x y H Q := ⟨d, d, h1, h2, s1, s1, by rw [SeqAt.eqv_refl d (SeqAt.canLay_of_shaped s1)]; exact q⟩
theorem dpP {m n : Int} (h : H a = some (.tup [.int m, .int n])) : Dp K H (.ref a) (.tuple [.int m, .int n]) := .tup (SqT.of h) (.cons (.int _) (.cons (.int _) .nil))
theorem dpN (h : H a = some (.lst [])) : Dp K H (.ref a) (.list []) := .lst (SqL.of h) .nil
theorem eqv_pair {m n m' n' : Int} : PyData.eqv (.tuple [.int m, .int n]) (.tuple [.int m', .int n']) = (decide (m = m') && decide (n = n')) := by
  simp [PyData.eqv, PyData.eqvAll, Bool.beq_eq_decide_eq]
theorem w_bits (h : te σ H fun x H1 => ∃ i, x = .int i ∧ Q (.int (Builtin.Int.intBits i : Nat)) H1) : tBits te σ H Q := h
/-! ### heaps -/
theorem w_bm {T : String} {r : V → List V → Hp → VK → Prop} (h : te σ H fun x H1 => tyV K T x H1 ∧ tr σ H1 fun xs H2 => r x xs H2 Q) : tBM K T r te tr σ H Q := h
theorem w_bm0 {T : String} {r : V → List V → Hp → VK → Prop} (h : te σ H fun x H1 => tyV K T x H1 ∧ r x [] H1 Q) : tBM0 K T r te σ H Q := h
theorem w_tyL {R : Prop} (h : H a = some (.lst xs)) (q : R) : tyV K "list" (.ref a) H ∧ R := ⟨.inl ⟨rfl, _, SqL.of h⟩, q⟩
theorem w_tyS {R : Prop} {z : Str} (q : R) : tyV K "str" (.str z) H ∧ R := ⟨rfl, q⟩
theorem w_append (h : H a = some (.lst xs)) (hl : xs.length < sizeLine) (q : Q .non (upd H a (.lst (xs ++ [v])))) : rAppend (.ref a) [v] H Q := ⟨a, xs, v, rfl, rfl, h, hl, q⟩
theorem w_repT {k : Nat} (h : SqT K H a xs) (h0 : xs ≠ []) (h2 : 2 ≤ k) (h3 : k ≤ 1000) (h4 : xs.length ≤ 1000) (q : ∀ p, H p = none → Q (.ref p) (upd H p (.tup (List.replicate k xs).flatten))) : rRepT K (.ref a) (.int (k : Int)) H Q := ⟨a, k, xs, rfl, rfl, h, h0, by omega, by omega, h4, by rw [Int.toNat_natCast]; exact q⟩
theorem keep {p : Addr} {u : HO} (h : H a = some o) (hp : H p = none) : upd H p u a = some o := by
  rw [upd_ne (ne_of_none h hp)]; exact h
theorem get (e : Same H H') (h : H a = some o) : H' a = some o := e a o h
theorem same_new {p : Addr} {u : HO} (hp : H p = none) : Same H (upd H p u) := fun _ _ h => keep h hp
theorem same_in {H0 : Hp} {p : Addr} {u : HO} (s : Same H0 H) (hp : H p = none) : Same H0 (upd H p u) := s.trans (same_new hp)
theorem free_of {p : Addr} {u : HO} {q : Addr} (h : upd H p u q = none) : H q = none := by
  unfold upd at h
  split at h
  · cases h
  · exact h
theorem ne_new {p : Addr} {u : HO} {q : Addr} (h : upd H p u q = none) : q ≠ p := fun e => by
  rw [e, upd_same] at h; cases h
theorem sqL (h : H a = some (.lst xs)) : SqL K H a xs := SqL.of h
theorem sqT (h : H a = some (.tup xs)) : SqT K H a xs := SqT.of h
theorem tyT (h : H a = some (.tup xs)) : TyX K H (.ref a) (.type "tuple") := .base (.tup h)
end
/-! ### isinstance -/
section
variable {K : PySem.W.Frag} {H : Hp} {Q : VK}
theorem i_int_int {n : Int} (q : Q (.bl true) H) : rIsi K [.int n, .ty "int"] H Q := w_isi (.ty _) (.base (.int n)) (kit_ty (a := "int") (b := "int") (r := true) (by decide +kernel)) q
theorem i_int_bool {n : Int} (q : Q (.bl false) H) : rIsi K [.int n, .ty "bool"] H Q := w_isi (.ty _) (.base (.int n)) (kit_ty (a := "int") (b := "bool") (r := false) (by decide +kernel)) q
theorem i_int_str {n : Int} (q : Q (.bl false) H) : rIsi K [.int n, .ty "str"] H Q := w_isi (.ty _) (.base (.int n)) (kit_ty (a := "int") (b := "str") (r := false) (by decide +kernel)) q
theorem i_int_list {n : Int} (q : Q (.bl false) H) : rIsi K [.int n, .ty "list"] H Q := w_isi (.ty _) (.base (.int n)) (kit_ty (a := "int") (b := "list") (r := false) (by decide +kernel)) q
theorem i_int_tuple {n : Int} (q : Q (.bl false) H) : rIsi K [.int n, .ty "tuple"] H Q := w_isi (.ty _) (.base (.int n)) (kit_ty (a := "int") (b := "tuple") (r := false) (by decide +kernel)) q
theorem i_bl_int {b : Bool} (q : Q (.bl true) H) : rIsi K [.bl b, .ty "int"] H Q := w_isi (.ty _) (.base (.bl b)) (kit_ty (a := "bool") (b := "int") (r := true) (by decide +kernel)) q
theorem i_bl_bool {b : Bool} (q : Q (.bl true) H) : rIsi K [.bl b, .ty "bool"] H Q := w_isi (.ty _) (.base (.bl b)) (kit_ty (a := "bool") (b := "bool") (r := true) (by decide +kernel)) q
theorem i_bl_str {b : Bool} (q : Q (.bl false) H) : rIsi K [.bl b, .ty "str"] H Q := w_isi (.ty _) (.base (.bl b)) (kit_ty (a := "bool") (b := "str") (r := false) (by decide +kernel)) q
theorem i_bl_list {b : Bool} (q : Q (.bl false) H) : rIsi K [.bl b, .ty "list"] H Q := w_isi (.ty _) (.base (.bl b)) (kit_ty (a := "bool") (b := "list") (r := false) (by decide +kernel)) q
theorem i_bl_tuple {b : Bool} (q : Q (.bl false) H) : rIsi K [.bl b, .ty "tuple"] H Q := w_isi (.ty _) (.base (.bl b)) (kit_ty (a := "bool") (b := "tuple") (r := false) (by decide +kernel)) q
theorem i_str_int {z : Str} (q : Q (.bl false) H) : rIsi K [.str z, .ty "int"] H Q := w_isi (.ty _) (.base (.str z)) (kit_ty (a := "str") (b := "int") (r := false) (by decide +kernel)) q
theorem i_str_bool {z : Str} (q : Q (.bl false) H) : rIsi K [.str z, .ty "bool"] H Q := w_isi (.ty _) (.base (.str z)) (kit_ty (a := "str") (b := "bool") (r := false) (by decide +kernel)) q
theorem i_str_str {z : Str} (q : Q (.bl true) H) : rIsi K [.str z, .ty "str"] H Q := w_isi (.ty _) (.base (.str z)) (kit_ty (a := "str") (b := "str") (r := true) (by decide +kernel)) q
theorem i_str_list {z : Str} (q : Q (.bl false) H) : rIsi K [.str z, .ty "list"] H Q := w_isi (.ty _) (.base (.str z)) (kit_ty (a := "str") (b := "list") (r := false) (by decide +kernel)) q
theorem i_str_tuple {z : Str} (q : Q (.bl false) H) : rIsi K [.str z, .ty "tuple"] H Q := w_isi (.ty _) (.base (.str z)) (kit_ty (a := "str") (b := "tuple") (r := false) (by decide +kernel)) q
theorem i_non_int (q : Q (.bl false) H) : rIsi K [.non, .ty "int"] H Q := w_isi (.ty _) (.base .non) (kit_ty (a := "NoneType") (b := "int") (r := false) (by decide +kernel)) q
theorem i_non_bool (q : Q (.bl false) H) : rIsi K [.non, .ty "bool"] H Q := w_isi (.ty _) (.base .non) (kit_ty (a := "NoneType") (b := "bool") (r := false) (by decide +kernel)) q
theorem i_non_str (q : Q (.bl false) H) : rIsi K [.non, .ty "str"] H Q := w_isi (.ty _) (.base .non) (kit_ty (a := "NoneType") (b := "str") (r := false) (by decide +kernel)) q
theorem i_non_list (q : Q (.bl false) H) : rIsi K [.non, .ty "list"] H Q := w_isi (.ty _) (.base .non) (kit_ty (a := "NoneType") (b := "list") (r := false) (by decide +kernel)) q
theorem i_non_tuple (q : Q (.bl false) H) : rIsi K [.non, .ty "tuple"] H Q := w_isi (.ty _) (.base .non) (kit_ty (a := "NoneType") (b := "tuple") (r := false) (by decide +kernel)) q
theorem i_lst_int {a : Addr} {xs : List V} (h : H a = some (.lst xs)) (q : Q (.bl false) H) : rIsi K [.ref a, .ty "int"] H Q := w_isi (.ty _) (.base (.lst h)) (kit_ty (a := "list") (b := "int") (r := false) (by decide +kernel)) q
theorem i_lst_bool {a : Addr} {xs : List V} (h : H a = some (.lst xs)) (q : Q (.bl false) H) : rIsi K [.ref a, .ty "bool"] H Q := w_isi (.ty _) (.base (.lst h)) (kit_ty (a := "list") (b := "bool") (r := false) (by decide +kernel)) q
theorem i_lst_str {a : Addr} {xs : List V} (h : H a = some (.lst xs)) (q : Q (.bl false) H) : rIsi K [.ref a, .ty "str"] H Q := w_isi (.ty _) (.base (.lst h)) (kit_ty (a := "list") (b := "str") (r := false) (by decide +kernel)) q
theorem i_lst_list {a : Addr} {xs : List V} (h : H a = some (.lst xs)) (q : Q (.bl true) H) : rIsi K [.ref a, .ty "list"] H Q := w_isi (.ty _) (.base (.lst h)) (kit_ty (a := "list") (b := "list") (r := true) (by decide +kernel)) q
theorem i_lst_tuple {a : Addr} {xs : List V} (h : H a = some (.lst xs)) (q : Q (.bl false) H) : rIsi K [.ref a, .ty "tuple"] H Q := w_isi (.ty _) (.base (.lst h)) (kit_ty (a := "list") (b := "tuple") (r := false) (by decide +kernel)) q
theorem i_tup_int {a : Addr} {xs : List V} (h : H a = some (.tup xs)) (q : Q (.bl false) H) : rIsi K [.ref a, .ty "int"] H Q := w_isi (.ty _) (.base (.tup h)) (kit_ty (a := "tuple") (b := "int") (r := false) (by decide +kernel)) q
theorem i_tup_bool {a : Addr} {xs : List V} (h : H a = some (.tup xs)) (q : Q (.bl false) H) : rIsi K [.ref a, .ty "bool"] H Q := w_isi (.ty _) (.base (.tup h)) (kit_ty (a := "tuple") (b := "bool") (r := false) (by decide +kernel)) q
theorem i_tup_str {a : Addr} {xs : List V} (h : H a = some (.tup xs)) (q : Q (.bl false) H) : rIsi K [.ref a, .ty "str"] H Q := w_isi (.ty _) (.base (.tup h)) (kit_ty (a := "tuple") (b := "str") (r := false) (by decide +kernel)) q
theorem i_tup_list {a : Addr} {xs : List V} (h : H a = some (.tup xs)) (q : Q (.bl false) H) : rIsi K [.ref a, .ty "list"] H Q := w_isi (.ty _) (.base (.tup h)) (kit_ty (a := "tuple") (b := "list") (r := false) (by decide +kernel)) q
theorem i_tup_tuple {a : Addr} {xs : List V} (h : H a = some (.tup xs)) (q : Q (.bl true) H) : rIsi K [.ref a, .ty "tuple"] H Q := w_isi (.ty _) (.base (.tup h)) (kit_ty (a := "tuple") (b := "tuple") (r := true) (by decide +kernel)) q
theorem i_dK_int {a : Addr} {kvs : List (Key × V)} (h : H a = some (.dK kvs)) (q : Q (.bl false) H) : rIsi K [.ref a, .ty "int"] H Q := w_isi (.ty _) (.base (.dK h)) (kit_ty (a := "dict") (b := "int") (r := false) (by decide +kernel)) q
theorem i_dK_bool {a : Addr} {kvs : List (Key × V)} (h : H a = some (.dK kvs)) (q : Q (.bl false) H) : rIsi K [.ref a, .ty "bool"] H Q := w_isi (.ty _) (.base (.dK h)) (kit_ty (a := "dict") (b := "bool") (r := false) (by decide +kernel)) q
theorem i_dK_str {a : Addr} {kvs : List (Key × V)} (h : H a = some (.dK kvs)) (q : Q (.bl false) H) : rIsi K [.ref a, .ty "str"] H Q := w_isi (.ty _) (.base (.dK h)) (kit_ty (a := "dict") (b := "str") (r := false) (by decide +kernel)) q
theorem i_dK_list {a : Addr} {kvs : List (Key × V)} (h : H a = some (.dK kvs)) (q : Q (.bl false) H) : rIsi K [.ref a, .ty "list"] H Q := w_isi (.ty _) (.base (.dK h)) (kit_ty (a := "dict") (b := "list") (r := false) (by decide +kernel)) q
theorem i_dK_tuple {a : Addr} {kvs : List (Key × V)} (h : H a = some (.dK kvs)) (q : Q (.bl false) H) : rIsi K [.ref a, .ty "tuple"] H Q := w_isi (.ty _) (.base (.dK h)) (kit_ty (a := "dict") (b := "tuple") (r := false) (by decide +kernel)) q
end
/-! ### loops -/
/-- a while by a family of states -/
def Wt {α : Type} (S : α → L2.St) (Pv : α → Hp → Prop) (μ : α → Nat) (m : Nat) (tb : TS) (D : Ends) (σ : L2.St) (H : Hp) : Prop :=
  ∃ N : L2.St → Hp → Prop, (∀ σ' H', N σ' H' → ∃ m', m' < m ∧ ∃ a', σ' = S a' ∧ Pv a' H' ∧ m' = μ a') ∧ tb { D with nx := N, ct := N, bk := D.nx } σ H
theorem w_while {α : Type} {c : TT} {tb : TS} {D : Ends} {σ : L2.St} {H : Hp} (S : α → L2.St) (Pv : α → Hp → Prop) (μ : α → Nat) (a0 : α) (e : σ = S a0) (h0 : Pv a0 H)
    (hs : ∀ a H, Pv a H → c (S a) H fun b H1 => if b = true then Wt S Pv μ (μ a) tb D (S a) H1 else D.nx (S a) H1) : tWhile c tb D σ H := by
  refine ⟨fun m σ H => ∃ a, σ = S a ∧ Pv a H ∧ m = μ a, ⟨_, a0, e, h0, rfl⟩, ?_⟩
  rintro m σ H ⟨a, rfl, p, rfl⟩
  exact hs a H p
theorem w_turn {α : Type} {tb : TS} {D : Ends} {σ : L2.St} {H : Hp} {S : α → L2.St} {Pv : α → Hp → Prop} {μ : α → Nat} {m : Nat}
    (h : tb { D with nx := fun σ' H' => ∃ a', σ' = S a' ∧ Pv a' H' ∧ μ a' < m, ct := fun σ' H' => ∃ a', σ' = S a' ∧ Pv a' H' ∧ μ a' < m, bk := D.nx } σ H) : Wt S Pv μ m tb D σ H :=
  ⟨_, fun _ _ ⟨a', e, p, l⟩ => ⟨_, l, a', e, p, rfl⟩, h⟩
section
variable {K : PySem.W.Frag} {σ : L2.St} {H : Hp} {D : Ends} {g : TG} {tb : TS} {tl : TE} {ta : TA}
theorem w_forI {wi : TI} (h : wi σ H fun J H1 => ∃ W : Nat → Nat → L2.St → Hp → Prop, (∃ m, W 0 m σ H1) ∧ ∀ i m σ H, W i m σ H →
    (J.stop i H ∧ D.nx σ H) ∨ (J.go i H ∧ ∃ N : L2.St → Hp → Prop, (∀ σ' H', N σ' H' → ∃ m', m' < m ∧ W (i + 1) m' σ' H') ∧ ∀ x H', J.yld i H x H' → g x σ H' fun σ2 H2 => tb { D with nx := N, ct := N, bk := D.nx } σ2 H2)) : tFor wi g tb D σ H := h
theorem w_iL {R : It → Hp → Prop} (h : tl σ H fun x H1 => ∃ a, x = .ref a ∧ (∃ xs, SqL K H1 a xs) ∧ R (Itl K a) H1) : iList K tl σ H R := h
theorem w_iT {R : It → Hp → Prop} (h : tl σ H fun x H1 => ∃ a, x = .ref a ∧ (∃ xs, SqT K H1 a xs) ∧ R (Itt K a) H1) : iTup K tl σ H R := h
theorem w_iR1 {R : It → Hp → Prop} (h : ta σ H fun vs H1 => ∃ j : Int, vs = [.int j] ∧ -(2 ^ 62) ≤ j ∧ j < 2 ^ 62 ∧ R (Itr 0 j.toNat) H1) : iRng1 ta σ H R := h
theorem w_iR2 {R : It → Hp → Prop} (h : ta σ H fun vs H1 => ∃ i j : Int, vs = [.int i, .int j] ∧ (-(2 ^ 62) ≤ i ∧ i < 2 ^ 62 ∧ -(2 ^ 62) ≤ j ∧ j < 2 ^ 62) ∧ R (Itr i (j - i).toNat) H1) : iRng2 ta σ H R := h
theorem w_iZT {R : It → Hp → Prop} (h : ta σ H fun vs H1 => ∃ a b xs ys, vs = [.ref a, .ref b] ∧ ((SqL K H1 a xs ∧ SqL K H1 b ys ∧ R (Itz K a b) H1) ∨ (SqT K H1 a xs ∧ SqT K H1 b ys ∧ R (RZ.ItzT K a b) H1))) : RZ.iZipA K ta σ H R := h
theorem walk_zipT {a b : Addr} {xs ys : List V} {n : Nat} (hn : n = min xs.length ys.length) : Walk (RZ.ItzT K a b) n (fun H => SqT K H a xs ∧ SqT K H b ys) (YPair (fun i => xs[i]?) (fun i => ys[i]?)) where
  goes := fun i H hi h => ⟨xs, ys, xs[i], ys[i], h.1, h.2, List.getElem?_eq_getElem (by omega), List.getElem?_eq_getElem (by omega)⟩
  stops := fun H h => ⟨xs, ys, h.1, h.2, by omega⟩
  yields := fun i H x H' hi h y => by
    obtain ⟨T, u, v, e, n, e2, f1, f2⟩ := y
    exact ⟨T, u, v, e, n, e2, f1 xs h.1, f2 ys h.2⟩
theorem w_yes {QB : Bool → Hp → Prop} (q : QB true H) : tYes σ H QB := q
theorem w_lc {wi : TI} {tt : TT} {te : TE} {vs : List Nat} {Q : VK} (h : wi σ H fun J H1 => ∀ D, H1 D = none → ∃ W : Nat → Nat → Hp → Prop, (∃ m, W 0 m (upd H1 D (.lst []))) ∧ ∀ i m H, W i m H →
  (J.stop i H ∧ Q (.ref D) H) ∨ (J.go i H ∧ ∃ Nx : Hp → Prop, (∀ H', Nx H' → ∃ m', m' < m ∧ W (i + 1) m' H') ∧ ∀ x H', J.yld i H x H' → g x (wipe σ vs) H' fun σ2 H2 => wipe σ2 vs = wipe σ vs ∧ tt σ2 H2 fun b H3 =>
    if b = true then te σ2 H3 fun y H4 => ∃ acc, H4 D = some (.lst acc) ∧ acc.length < sizeLine ∧ Nx (upd H4 D (.lst (acc ++ [y]))) else Nx H3)) : tLc wi g tt te vs σ H Q := h
end
/-! ### tests that are known -/
theorem if_t {c : Bool} {A B : Prop} (hc : c = true) (h : A) : if c = true then A else B := by rw [if_pos hc]; exact h
theorem if_f {c : Bool} {A B : Prop} (hc : c = false) (h : B) : if c = true then A else B := by rw [hc, if_neg Bool.false_ne_true]; exact h
theorem if_2 {c : Prop} [Decidable c] {A B : Prop} (h1 : c → A) (h2 : ¬ c → B) : if decide c = true then A else B := by
  by_cases h : c
  · exact if_t (decide_eq_true h) (h1 h)
  · exact if_f (decide_eq_false h) (h2 h)
theorem if_n2 {c : Prop} [Decidable c] {A B : Prop} (h1 : ¬ c → A) (h2 : c → B) : if (!decide c) = true then A else B := by
  by_cases h : c
  · exact if_f (by rw [decide_eq_true h]; rfl) (h2 h)
  · exact if_t (by rw [decide_eq_false h]; rfl) (h1 h)
theorem if_b {c : Bool} {A B : Prop} (h1 : c = true → A) (h2 : c = false → B) : if c = true then A else B := by
  cases c with
  | true => exact if_t rfl (h1 rfl)
  | false => exact if_f rfl (h2 rfl)
theorem V.int_inj {i j : Int} : (V.int i = V.int j) ↔ i = j := ⟨fun h => V.int.inj h, fun h => by rw [h]⟩
end Go

set_option Elab.async false
set_option linter.all false
set_option maxRecDepth 100000
set_option maxHeartbeats 4000000
namespace Go
open PySem PySem.Spec PyProof.Rows L2
/-! ### constants, texts -/
theorem pe_globI {X : Cx} {x : Str} {i : Int} {pos : Pos} (hg : Gl X x) (h : ∃ t, X.mg x = some (.int i t)) (hd : (x == ("__debug__" : Str)) = false := by decide) : PE X (.Name x pos) (tC (.int i)) := by
  obtain ⟨t, h⟩ := h
  exact pe_glob hg h ⟨t, rfl⟩ hd
theorem pe_globS {X : Cx} {x z : Str} {pos : Pos} (hg : Gl X x) (h : ∃ t, X.mg x = some (.str z t)) (hd : (x == ("__debug__" : Str)) = false := by decide) : PE X (.Name x pos) (tC (.str z)) := by
  obtain ⟨t, h⟩ := h
  exact pe_glob hg h ⟨t, rfl⟩ hd
abbrev one1 (c : Nat) : V := .str ⟨#[c]⟩
abbrev rListStr : List V → Hp → VK → Prop := fun xs H Q => ∃ z : Str, xs = [.str z] ∧ z.length ≤ sizeLine ∧ ∀ l, H l = none → Q (.ref l) (upd H l (.lst (z.cps.toList.map one1)))
theorem call_list_sign {X : Cx} (hc : X.calm = true) : CallR X (.type "list") rListStr := by
  intro pins s σ H xs us Q I r h
  obtain ⟨z, rfl, hz, q⟩ := h
  obtain ⟨u, rfl, t, rfl⟩ := vals1 r
  refine call_list_str (I.ok.hd hc) z t (hn := hz) fun h' tk acc c' hk hS hacc => ?_
  refine ⟨.ref s.heap.objs.size, upd H s.heap.objs.size (.lst (z.cps.toList.map one1)), I.laid hk (Nat.le_refl _) (show ObjOk X.prog X.w _ _ _ (.lst (z.cps.toList.map one1)) from ⟨?_, acc.toList, c', ?_, ?_⟩), rfl, q _ (I.hok.fresh (Nat.le_refl _))⟩
  · rw [List.length_map, Array.length_toList]; exact hz
  · have el : acc.toList.length = acc.size := by simp
    refine vals_of_at (by rw [List.length_map, el, hacc.1, Array.length_toList]) fun j x w h1 h2 => ?_
    obtain ⟨c, u, hcu, rfl⟩ := hacc.2 j w (by rw [← Array.getElem?_toList]; exact h2)
    rw [List.getElem?_map, Array.getElem?_toList, hcu] at h1
    cases h1
    exact ⟨u, rfl⟩
  · rw [Array.toArray_toList]; exact hS
abbrev rRepStr : R2 := fun x y H Q => ∃ (z : Str) (n : Nat), x = .str z ∧ y = .int (n : Int) ∧ z.length * n ≤ 1000 ∧ n ≤ 1000 ∧ Q (.str (Txt.mul z (n : Int))) H
theorem op_rep_str {X : Cx} : OpR X (binaryOp .Mult) rRepStr := by
  intro pins s σ H x y v u Q I rx ry h
  obtain ⟨z, n, rfl, rfl, hz, hn, q⟩ := h
  obtain ⟨t, rfl⟩ := rx
  obtain ⟨t', rfl⟩ := ry
  refine SB.mul ⟨?_, fun h1 h2 => ?_, fun h1 h2 => ?_⟩ fun t2 k => ⟨.str (Txt.mul z (n : Int)), H, ?_, ⟨_, rfl⟩, q⟩
  · rw [decide_eq_false (by omega), decide_eq_false (by omega)]; rfl
  · intro h3
    have h4 : (z.length : Int) * n ≤ 1000 := by exact_mod_cast hz
    have h5 : 1 ≤ (n : Int) := by omega
    have h6 : (1000 : Int) ≤ (2 ^ 63 - 1) / n := by
      rw [Int.le_ediv_iff_mul_le (by omega)]
      omega
    have h7 : (z.length : Int) ≤ z.length * n := by
      have := Int.mul_le_mul_of_nonneg_left h5 (Int.natCast_nonneg z.length)
      omega
    omega
  · rw [Int.toNat_natCast]
    have h9 : ¬ z.length * n > sizeLine := Nat.not_lt.mpr (Nat.le_trans hz (by decide))
    exact decide_eq_false h9
  · exact I.tok _
abbrev rLeS : R2 := fun x y H Q => ∃ i j, x = .str i ∧ y = .str j ∧ Q (.bl (!decide (j.cps.toList < i.cps.toList))) H
abbrev rGtS : R2 := fun x y H Q => ∃ i j, x = .str i ∧ y = .str j ∧ Q (.bl (decide (j.cps.toList < i.cps.toList))) H
abbrev rGeS : R2 := fun x y H Q => ∃ i j, x = .str i ∧ y = .str j ∧ Q (.bl (!decide (i.cps.toList < j.cps.toList))) H
abbrev rLtS : R2 := fun x y H Q => ∃ i j, x = .str i ∧ y = .str j ∧ Q (.bl (decide (i.cps.toList < j.cps.toList))) H
abbrev tJoin (K : PySem.W.Frag) (to te : TE) : TE := tM1 (fun x xs H Q => ∃ a p, ∃ ys : List Str, x = .str a ∧ xs = [.ref p] ∧ (SqL K H p (ys.map V.str) ∨ SqT K H p (ys.map V.str)) ∧
      (ys.map (·.length)).sum + ys.length * a.length ≤ 16777216 ∧ Q (.str (Txt.join a ys)) H) to te
abbrev tSplit (to te : TE) : TE := tM1 (fun x xs H Q => ∃ a b, x = .str a ∧ xs = [.str b] ∧ (b.length == 0) = false ∧ a.length + 2 ≤ sizeLine ∧ rNewStrs (Txt.split a b) H Q) to te
section
variable {K : PySem.W.Frag} {σ : L2.St} {H H' : Hp} {Q : VK} {te to : TE} {a b : Addr} {xs ys : List V} {v : V} {z z' : Str}
theorem w_join (h : to σ H fun x H1 => (∃ a, x = .str a) ∧ te σ H1 fun y H2 => ∃ a p, ∃ ys : List Str, x = .str a ∧ [y] = [.ref p] ∧ (SqL K H2 p (ys.map V.str) ∨ SqT K H2 p (ys.map V.str)) ∧
      (ys.map (·.length)).sum + ys.length * a.length ≤ 16777216 ∧ Q (.str (Txt.join a ys)) H2) : tJoin K to te σ H Q := h
theorem w_joinL {ys : List Str} (h : H a = some (.lst (ys.map V.str))) (hl : (ys.map (·.length)).sum + ys.length * z.length ≤ 16777216) (q : Q (.str (Txt.join z ys)) H) :
    ∃ a', ∃ p, ∃ ys : List Str, V.str z = .str a' ∧ [V.ref a] = [.ref p] ∧ (SqL K H p (ys.map V.str) ∨ SqT K H p (ys.map V.str)) ∧ (ys.map (·.length)).sum + ys.length * a'.length ≤ 16777216 ∧ Q (.str (Txt.join a' ys)) H :=
  ⟨z, a, ys, rfl, rfl, .inl (SqL.of h), hl, q⟩
theorem w_strE {R : Prop} (q : R) : (∃ a, V.str z = .str a) ∧ R := ⟨⟨z, rfl⟩, q⟩
theorem w_lenStr (hl : z.length ≤ sizeLine) (q : Q (.int z.length) H) : rLenStr [.str z] H Q := ⟨z, rfl, hl, q⟩
theorem w_ixS {i : Int} {c : Nat} (hl : z.length ≤ sizeLine) (hc : atI z.cps.toList i = some c) (q : Q (one1 c) H) : rIxS (.str z) (.int i) H Q := ⟨z, i, c, rfl, rfl, hl, hc, q⟩
theorem w_slS {lo hi : Option Int} (hl : z.length ≤ sizeLine) (q : Q (.str (cutS z lo hi)) H) : rSlS (.str z) lo hi H Q := ⟨z, rfl, hl, q⟩
theorem w_addStr (hl : z.length + z'.length ≤ sizeLine) (q : Q (.str (z ++ z')) H) : rAddStr (.str z) (.str z') H Q := ⟨z, z', rfl, rfl, hl, q⟩
theorem w_inS {c : Nat} (q : Q (.bl (decide (c ∈ z.cps.toList))) H) : rInS (one1 c) (.str z) H Q := ⟨c, z, rfl, rfl, q⟩
theorem w_leS (q : Q (.bl (!decide (z'.cps.toList < z.cps.toList))) H) : rLeS (.str z) (.str z') H Q := ⟨z, z', rfl, rfl, q⟩
theorem w_all {bs : List Bool} (h : H a = some (.lst (bs.map V.bl))) (q : Q (.bl (bs.all id)) H) : rAll K [.ref a] H Q := ⟨a, bs, rfl, SqL.of h, q⟩
theorem w_any {bs : List Bool} (h : H a = some (.lst (bs.map V.bl))) (q : Q (.bl (bs.any id)) H) : rAny K [.ref a] H Q := ⟨a, bs, rfl, SqL.of h, q⟩
theorem w_iS {R : It → Hp → Prop} (h : te σ H fun v H1 => ∃ x, v = .str x ∧ R (Its x) H1) : iStr te σ H R := h
theorem w_iSE {R : Str → Prop} (q : R z) : ∃ x, V.str z = .str x ∧ R x := ⟨z, rfl, q⟩
theorem w_listStr (hl : z.length ≤ sizeLine) (q : ∀ l, H l = none → Q (.ref l) (upd H l (.lst (z.cps.toList.map one1)))) : rListStr [.str z] H Q := ⟨z, rfl, hl, q⟩
theorem w_listT (h : SqT K H a ys) (q : ∀ l, H l = none → Q (.ref l) (upd H l (.lst ys))) : Evl.rListS K [.ref a] H Q := ⟨a, ys, rfl, .inr h, q⟩
theorem w_listL (h : SqL K H a ys) (q : ∀ l, H l = none → Q (.ref l) (upd H l (.lst ys))) : Evl.rListS K [.ref a] H Q := ⟨a, ys, rfl, .inl h, q⟩
theorem w_gUnl {n : Nat} {tg : TGs} {QS : L2.St → Hp → Prop} (h : SqL K H a xs) (hn : xs.length = n) (q : tg xs σ H QS) : gUnl K n tg (.ref a) σ H QS := ⟨a, xs, rfl, h, hn, q⟩
theorem w_dnew (q : ∀ p, H p = none → Q (.ref p) (upd H p (.dK []))) : tDNewK σ H Q := q
theorem w_in {neg : Bool} (h : SqL K H a xs ∨ SqT K H a xs) (fx : flatV v = true) (fs : xs.all flatV = true) (q : Q (.bl (if neg then !inV v xs else inV v xs)) H) : rIn K neg v (.ref a) H Q := ⟨a, xs, rfl, h, fx, fs, q⟩
theorem w_rep_str {n : Nat} (h1 : z.length * n ≤ 1000) (h2 : n ≤ 1000) (q : Q (.str (Txt.mul z (n : Int))) H) : rRepStr (.str z) (.int (n : Int)) H Q := ⟨z, n, rfl, rfl, h1, h2, q⟩
end
/-! ### what kind of thing a value is -/
inductive Kd (H : Hp) : V → String → Prop
  | int (n : Int) : Kd H (.int n) "int"
  | bl (b : Bool) : Kd H (.bl b) "bool"
  | str (z : Str) : Kd H (.str z) "str"
  | non : Kd H .non "NoneType"
  | lst {a : Addr} {xs : List V} (h : H a = some (.lst xs)) : Kd H (.ref a) "list"
  | tup {a : Addr} {xs : List V} (h : H a = some (.tup xs)) : Kd H (.ref a) "tuple"
  | dict {a : Addr} {kvs : List (Key × V)} (h : H a = some (.dK kvs)) : Kd H (.ref a) "dict"
section
variable {K : PySem.W.Frag} {H H' : Hp} {Q : VK} {v : V} {T : String}
theorem Kd.same (h : Kd H v T) (s : Same H H') : Kd H' v T := by
  cases h with
  | int n => exact .int n
  | bl b => exact .bl b
  | str z => exact .str z
  | non => exact .non
  | lst h => exact .lst (s _ _ h)
  | tup h => exact .tup (s _ _ h)
  | dict h => exact .dict (s _ _ h)
theorem k_int (h : Kd H v T) (q : Q (.bl (T == "int" || T == "bool")) H) : rIsi K [v, .ty "int"] H Q := by
  cases h with
  | int n => exact i_int_int q
  | bl b => exact i_bl_int q
  | str z => exact i_str_int q
  | non => exact i_non_int q
  | lst h => exact i_lst_int h q
  | tup h => exact i_tup_int h q
  | dict h => exact i_dK_int h q
theorem k_bool (h : Kd H v T) (q : Q (.bl (T == "bool")) H) : rIsi K [v, .ty "bool"] H Q := by
  cases h with
  | int n => exact i_int_bool q
  | bl b => exact i_bl_bool q
  | str z => exact i_str_bool q
  | non => exact i_non_bool q
  | lst h => exact i_lst_bool h q
  | tup h => exact i_tup_bool h q
  | dict h => exact i_dK_bool h q
theorem k_str (h : Kd H v T) (q : Q (.bl (T == "str")) H) : rIsi K [v, .ty "str"] H Q := by
  cases h with
  | int n => exact i_int_str q
  | bl b => exact i_bl_str q
  | str z => exact i_str_str q
  | non => exact i_non_str q
  | lst h => exact i_lst_str h q
  | tup h => exact i_tup_str h q
  | dict h => exact i_dK_str h q
theorem k_tuple (h : Kd H v T) (q : Q (.bl (T == "tuple")) H) : rIsi K [v, .ty "tuple"] H Q := by
  cases h with
  | int n => exact i_int_tuple q
  | bl b => exact i_bl_tuple q
  | str z => exact i_str_tuple q
  | non => exact i_non_tuple q
  | lst h => exact i_lst_tuple h q
  | tup h => exact i_tup_tuple h q
  | dict h => exact i_dK_tuple h q
theorem k_list (h : Kd H v T) (q : Q (.bl (T == "list")) H) : rIsi K [v, .ty "list"] H Q := by
  cases h with
  | int n => exact i_int_list q
  | bl b => exact i_bl_list q
  | str z => exact i_str_list q
  | non => exact i_non_list q
  | lst h => exact i_lst_list h q
  | tup h => exact i_tup_list h q
  | dict h => exact i_dK_list h q
end
/-! ### a Hook with one more Bool -/
def obsE (n : Nat) (fa : List He.Fa) (fn : List He.DefD) (ex : PySem.W.Frag → Bool) (g : Addr → Option Obj) : He.AlD × Bool :=
  (fun K => (He.obsD fa fn K, ex K)) (He.frG g (He.asD g n))
def hookE (n : Nat) (fa : List He.Fa) (fn : List He.DefD) (ex : PySem.W.Frag → Bool) : PySem.W.Hook where
  α := He.AlD × Bool
  obs := fun s => obsE n fa fn ex s.heap.get?
  val := fun _ => (He.valD fn, true)
  says := fun _ h => ∃ K : PySem.W.Frag, K.In h ∧ He.SaysD fa fn K ∧ ex K = true
  of := fun _ _ e => ⟨_, He.frG_in, congrArg Prod.fst e, congrArg Prod.snd e⟩
  keeps := fun _ _ _ ⟨K, hK, c⟩ k => ⟨K, PySem.W.Frag.In.keeps hK k, c⟩
theorem obsE_eq {n : Nat} {fa : List He.Fa} {fn : List He.DefD} {ex : PySem.W.Frag → Bool} {g : Addr → Option Obj} {s : Shared} (h : ∀ a, g a = s.heap.get? a) : obsE n fa fn ex g = (hookE n fa fn ex).obs s := by
  have e : g = s.heap.get? := funext h
  rw [e] <;> rfl
/-! ### defs as values -/
theorem fun_ne {K : PySem.W.Frag} {x y : Str} {st st' : Stmt} {f g : Addr} {fd gd : FuncData} (F : FnP K x st f fd) (G : FnP K y st' g gd) (h : x ≠ y) : f ≠ g := fun e => by
  subst e
  obtain ⟨_, _, _, _, _, _, _, _, _, _, e1, l1, _⟩ := F.ex
  obtain ⟨_, _, _, _, _, _, _, _, _, _, e2, l2, _⟩ := G.ex
  rw [l1] at l2
  have e3 : fd = gd := by
    have := Option.some.inj l2
    injection this with _ _ d _
    injection d
  rw [e1, e2] at e3
  have e4 := congrArg FuncData.name e3
  exact h e4
theorem held_of {P : Program} {w : World} {K : PySem.W.Frag} {mg : Str → Option Value} {base : Heap} {x : Str} {k : Nat} {ps : List Str} {sp : Sp} {f : Addr} (g : mg x = some (.ref f)) (h : Has P w K mg base x k ps sp) : Held P w K mg base k f sp := by
  obtain ⟨f', fd, gm, kp, b, F⟩ := h
  rw [g] at gm
  cases gm
  exact ⟨fd, ps, F, kp, b⟩
theorem w_callA {σ : L2.St} {H : Hp} {Q : VK} {i : Nat} {f : Addr} {sp : Sp} {S : Addr → Option Sp} {tr : TA} (hs : σ[i]? = some (some (.ref f))) (hS : S f = some sp) (h : tr σ H fun vs H1 => sp vs H1 Q E0) : tCallA i S tr σ H Q := ⟨f, sp, hs, hS, h⟩
abbrev rStrInt : List V → Hp → VK → Prop := fun xs H Q => ∃ i : Int, xs = [.int i] ∧ i.natAbs.log2 < 1920 ∧ Q (.str (toString i)) H
end Go

set_option Elab.async false
set_option linter.all false
set_option maxRecDepth 100000
set_option maxHeartbeats 4000000
namespace Go
open PySem PySem.Spec PyProof.Rows L2
/-! ### set(xs), xs a list of keys of one kind (ints or texts) -/
section
variable {κ : Type} [DecidableEq κ]
/-- each once, as first met -/
def once (l : List κ) : List κ := l.foldl (fun acc k => if k ∈ acc then acc else acc ++ [k]) []
theorem once_snoc (l : List κ) (k : κ) : once (l ++ [k]) = if k ∈ once l then once l else once l ++ [k] := by
  unfold once
  rw [List.foldl_append]; rfl
theorem snoc_ind {P : List κ → Prop} (h0 : P []) (hs : ∀ l x, P l → P (l ++ [x])) (l : List κ) : P l := by
  have h : ∀ m : List κ, P m.reverse := fun m => by
    induction m with
    | nil => exact h0
    | cons x m ih => rw [List.reverse_cons]; exact hs _ _ ih
  have := h l.reverse
  rw [List.reverse_reverse] at this
  exact this
theorem mem_once {k : κ} : ∀ {l : List κ}, k ∈ once l ↔ k ∈ l := by
  intro l
  refine snoc_ind (P := fun l => k ∈ once l ↔ k ∈ l) Iff.rfl (fun l x ih => ?_) l
  · rw [once_snoc]
    by_cases h : x ∈ once l
    · rw [if_pos h]
      constructor
      · intro m; exact List.mem_append.mpr (.inl (ih.mp m))
      · intro m
        rcases List.mem_append.mp m with m | m
        · exact ih.mpr m
        · rw [List.mem_singleton.mp m]; exact h
    · rw [if_neg h, List.mem_append, List.mem_append, ih]
theorem once_len (l : List κ) : (once l).length ≤ l.length := by
  refine snoc_ind (P := fun l => (once l).length ≤ l.length) (Nat.le_refl _) (fun l x ih => ?_) l
  · rw [once_snoc, List.length_append]
    split
    · exact Nat.le_succ_of_le ih
    · rw [List.length_append]; exact Nat.add_le_add_right ih _
theorem one_nodup (x : κ) : [x].Nodup := List.nodup_cons.mpr ⟨List.not_mem_nil, .nil⟩
theorem once_nodup_iff (l : List κ) : (once l).length = l.length ↔ l.Nodup := by
  refine snoc_ind (P := fun l => (once l).length = l.length ↔ l.Nodup) ⟨fun _ => .nil, fun _ => rfl⟩ (fun l x ih => ?_) l
  have hl := once_len l
  rw [once_snoc, List.length_append, List.nodup_append]
  by_cases h : x ∈ once l
  · rw [if_pos h]
    refine ⟨fun e => ?_, fun ⟨_, _, d⟩ => absurd rfl (d x (mem_once.mp h) x (.head _))⟩
    have : (once l).length = l.length + 1 := e
    omega
  · rw [if_neg h, List.length_append]
    refine ⟨fun e => ⟨ih.mp (Nat.add_right_cancel e), one_nodup x, fun a ha b hb e2 => ?_⟩, fun ⟨n, _, _⟩ => by rw [ih.mpr n]⟩
    rw [List.mem_singleton.mp hb] at e2
    rw [← e2] at h
    exact h (mem_once.mpr ha)
theorem once_const {l : List κ} {k : κ} (h : ∀ x ∈ l, x = k) : (once l).length ≤ 1 := by
  have key : once l = [] ∨ once l = [k] := by
    revert h
    refine snoc_ind (P := fun l => (∀ x ∈ l, x = k) → once l = [] ∨ once l = [k]) (fun _ => .inl rfl) (fun l x ih h => ?_) l
    have hx : x = k := h x (List.mem_append.mpr (.inr (.head _)))
    rw [once_snoc, hx]
    rcases ih fun y hy => h y (List.mem_append.mpr (.inl hy)) with e | e
    · rw [e, if_neg (fun m => by cases m)]; exact .inr rfl
    · rw [e, if_pos (.head _)]; exact .inr rfl
  rcases key with e | e <;> rw [e]
  · exact Nat.zero_le _
  · exact Nat.le_refl _
theorem once_two {l : List κ} {x y : κ} (hx : x ∈ l) (hy : y ∈ l) (ne : x ≠ y) : 1 < (once l).length := by
  have h1 := mem_once.mpr hx
  have h2 := mem_once.mpr hy
  match once l, h1, h2 with
  | [], h1, _ => cases h1
  | [a], h1, h2 =>
    rw [List.mem_singleton] at h1 h2
    exact absurd (h1.trans h2.symm) ne
  | a :: b :: r, _, _ => exact Nat.succ_lt_succ (Nat.zero_lt_succ _)
theorem once_own (l : List κ) : (once l).Nodup := by
  refine snoc_ind (P := fun l => (once l).Nodup) .nil (fun l x ih => ?_) l
  rw [once_snoc]
  split
  · exact ih
  · rename_i h
    refine List.nodup_append.mpr ⟨ih, one_nodup x, fun a ha b hb e => ?_⟩
    rw [List.mem_singleton.mp hb] at e
    exact h (e ▸ ha)
end
/-! ### the loop of set.update over what is walked, any kind of keys -/
section
variable {prog : Program} {w : World} {A : Around} {R : Result → Shared → Prop} {I : Addr} {fp wr : List Addr} {G : Array GenState → Array GenState → Prop} {n : Nat} {P : Nat → Value → Prop} {St : Nat → Shared → Prop}
  {κ : Type} [DecidableEq κ] {knd : PySem.KeyKind prog w κ}
theorem set_same {h h' : Heap} {S : Addr} {f : κ → Bool} {m : Nat} (hS : h.SetOf knd S f m) (k : ∀ o, h.get? S = some o → h'.get? S = some o) : h'.SetOf knd S f m := by
  obtain ⟨o, es, ep, t, ho, r⟩ := hS
  exact ⟨o, es, ep, t, k o ho, r⟩
theorem set_step {h : Heap} {S : Addr} {ks : List κ} {i : Nat} {k : κ} (hk : ks[i]? = some k) (hS : h.SetOf knd S (fun x => decide (x ∈ once (ks.take i)) || decide (x = k)) (if decide (k ∈ once (ks.take i)) = true then (once (ks.take i)).length else (once (ks.take i)).length + 1)) :
    h.SetOf knd S (fun x => decide (x ∈ once (ks.take (i + 1)))) (once (ks.take (i + 1))).length := by
  have e0 : ks.take (i + 1) = ks.take i ++ [k] := by rw [List.take_add_one, hk]; rfl
  have e1 : (fun x => decide (x ∈ once (ks.take i)) || decide (x = k)) = fun x => decide (x ∈ once (ks.take (i + 1))) := by
    funext x
    rw [← Bool.decide_or]
    refine decide_eq_decide.mpr ?_
    rw [mem_once, mem_once, e0, List.mem_append, List.mem_singleton]
  have e2 : (if decide (k ∈ once (ks.take i)) = true then (once (ks.take i)).length else (once (ks.take i)).length + 1) = (once (ks.take (i + 1))).length := by
    rw [e0, once_snoc]
    by_cases m : k ∈ once (ks.take i)
    · rw [if_pos m, if_pos (decide_eq_true m)]
    · rw [if_neg m, if_neg (by rw [decide_eq_false m]; exact Bool.false_ne_true), List.length_append]; rfl
  rw [e1, e2] at hS
  exact hS
theorem set_loop (W : WalksS prog w A.in1 I fp wr G n P St) (S : Addr) (hSf : S ∉ fp) (ks : List κ) (hn : ks.length = n) (hb : n + 1 < scanBound)
    (hval : ∀ i v, P i v → ∃ k, ks[i]? = some k ∧ knd.is k v = true ∧ v.scannable = true) :
    ∀ (m i : Nat) (s : Shared), n - i = m → i ≤ n → St i s → s.heap.SetOf knd S (fun x => decide (x ∈ once (ks.take i))) (once (ks.take i)).length →
      (∀ s', Moved (S :: wr) G s s' → s'.heap.SetOf knd S (fun x => decide (x ∈ once ks)) (once ks).length → R (.ok (.ret .none)) s') →
      codeAny (model prog w) A (.builtin "set.update.loop" ⟨[.ref S, .ref I], []⟩) R s := by
  have up : ∀ b ∈ wr, b ∈ S :: wr := fun b hb => .tail _ hb
  have out : S ∉ wr := fun h => hSf (W.sub _ h)
  intro m
  induction m with
  | zero =>
    intro i s hm hi st hS fin
    obtain rfl : i = n := by omega
    rw [List.take_of_length_le (by omega)] at hS
    refine codeAny_builtin PyProof.Rows.F.entry_set_update_loop ?_
    rw [Around.under_plainId PyProof.Rows.F.plain_set_update_loop _]
    refine wpAny_bind (m := pyNext (.ref I)) (W.done s _ _ st fun s' mv => ?_)
    exact wpAny_pure (fin s' (mv.mono up) (set_same hS fun o e => mv.heap S _ out e))
  | succ m ih =>
    intro i s hm hi st hS fin
    refine codeAny_builtin PyProof.Rows.F.entry_set_update_loop ?_
    rw [Around.under_plainId PyProof.Rows.F.plain_set_update_loop _]
    refine wpAny_bind (m := pyNext (.ref I)) (W.item i s _ _ (by omega) st fun v s' hP st' mv => ?_)
    obtain ⟨k, hk, is_k, sc⟩ := hval i v hP
    have hS' := set_same (h' := s'.heap) hS fun o e => mv.heap S _ out e
    have few := once_len (ks.take i)
    rw [List.length_take] at few
    refine wpAny_bind (m := holding [v] (setAdd S v)) (wpAny_holding ?_)
    unfold setAdd
    refine wpAny_holding (wpAny_bind (knd.pyHash is_k ?_))
    refine wpAny_setAddHashed_of (knd := knd) (s := { s' with toks := s'.toks + 1 }) is_k sc hS' (by omega) fun h' sb hS2 => ?_
    have off : ∀ b o, b ≠ S → s'.heap.get? b = some o → h'.get? b = some o := fun b o nb e => by rw [sb.2 b nb]; exact e
    refine wpAny_pure ⟨plainId_quiet PyProof.Rows.F.plain_set_update_loop _, ih (i + 1) _ (by omega) (by omega) (W.frame _ s' _ _ st' (Nat.le_succ _) fun b hb o e => off b o (fun z => hSf (z ▸ hb)) e) (set_step hk hS2) fun s'' mv2 hS3 => ?_⟩
    exact fin s'' (Moved.trans W.gtrans ((mv.mono up).then_heap (Nat.le_succ _) fun b o hb e => off b o (fun z => hb (z ▸ .head _)) e) mv2) hS3
end
/-! ### set(xs) of a list of keys -/
section
variable {prog : Program} {w : World} {A : Around} {E : Value → Shared → Prop} {s : Shared} {κ : Type} [DecidableEq κ] {knd : PySem.KeyKind prog w κ}
/-- a new set -/
abbrev set0 (led : Bool) : Obj := { cls := .type "set", dict := none, data := .set #[] 0 (.fresh 0 0 led) }
theorem set_of_list {l : Addr} {items : Array Value} (ks : List κ) {Q : Value → Shared → Prop} (hh : A.handled = none) (hl : s.heap.IsList l items) (hn : ks.length = items.size) (hb : items.size + 1 < scanBound)
    (hi : ∀ (i : Nat) (v : Value), items[i]? = some v → ∃ k, ks[i]? = some k ∧ knd.is k v = true ∧ v.scannable = true)
    (h : ∀ (h' : Heap) (tk : Nat), h'.SetOf knd s.heap.objs.size (fun x => decide (x ∈ once ks)) (once ks).length → (∀ b o, s.heap.get? b = some o → h'.get? b = some o) → Q (.ref s.heap.objs.size) { s with heap := h', toks := tk }) :
    wpAny (model prog w) A (call (.type "set") [.ref l]) Q E s := by
  obtain ⟨c, tl, hmro⟩ := PySem.F.called_set.mro
  have hmade := PySem.F.called_set.made
  have hsub := PySem.F.called_set.sub
  have h1 := PySem.F.called_set.notType
  have h2 := PySem.F.called_set.canCreate
  have hct := PySem.F.typeCall_set_1 (.ref l)
  refine wpAny_call (codeAny_of_tree ?_)
  refine wpAny_pure ⟨Code.quiet_builtin _ (by decide +kernel), codeAny_builtin PySem.F.entry_type_call ?_⟩
  rw [Around.under_plain (weight_type_call_type "set" [.ref l] []) rfl]
  repeat (any_goals (first | assumption | wp_step))
  refine codeAny_mono (code_set_new_1 (.ref l) (E := E) (Q₁ := fun obj s₁ => ∃ led : Bool, obj = .ref s.heap.objs.size ∧ s₁ = { s with heap := s.heap.push (set0 led) }) fun led => ⟨led, rfl, rfl⟩) fun r s₁ hr => ?_
  cases r with
  | error e => exact hr
  | ok fl =>
  cases fl with
  | ret obj =>
    obtain ⟨led, rfl, rfl⟩ := hr
    have hT : Shared.TypeIs { s with heap := s.heap.push (set0 led) } (.ref s.heap.objs.size) "set" := ⟨_, Heap.get?_push_size _ rfl, rfl⟩
    have hli := PySem.F.called_set.init.lookup
    have hbi := PySem.F.called_set.init.bind (.ref s.heap.objs.size)
    repeat (any_goals (first | assumption | wp_step))
    refine codeAny_mono (codeAny_call_builtin (R := wants (fun r s₂ => r = .none ∧ ∃ h' tk, s₂ = { s with heap := h', toks := tk } ∧ h'.SetOf knd s.heap.objs.size (fun x => decide (x ∈ once ks)) (once ks).length ∧ ∀ b o, s.heap.get? b = some o → h'.get? b = some o) E)
      PySem.F.called_set.init.plain PySem.F.entry_set_init (check_set_init_1 hT ?_)) fun r₂ s₂ hr₂ => ?_
    · obtain ⟨⟨cl, di, da, sl⟩, hol, hcl, nl, hdl⟩ := hl
      simp only at hcl hdl
      subst hcl; subst hdl
      have hlS : l < s.heap.objs.size := Heap.lt_size hol
      have hol' : (s.heap.push (set0 led)).get? l = some { cls := .type "list", dict := di, data := .seq items nl, slots := sl } := Heap.get?_push_of_some _ hol
      have hsls := PySem.F.sub_list_set
      have hslf := PySem.F.sub_list_frozenset
      have hne : (Value.type "list" == Value.type "dict") = false := by decide
      have hl1 : (s.heap.push (set0 led)).IsList l items := ⟨_, hol', rfl, nl, rfl⟩
      unfold Builtin.«set.__init__» noKeywords Builtin.Frozenset.updateFrom
      generalize hPI : pyIter = PI
      wp_walk
      subst hPI
      refine wpAny_pyIter_list hl1 (wpAny_bind (wpAny_runValue ?_))
      have hI : (s.heap.push (set0 led)).objs.size = s.heap.objs.size + 1 := Heap.size_push ..
      have hh3 : A.in1.in1.in1.handled = none := by simp [hh]
      refine set_loop (knd := knd) ((Walks.list hh3 _ l (by rw [hI]; exact Nat.ne_of_lt (Nat.lt_succ_of_lt hlS)) items).toS) s.heap.objs.size (by
        rw [hI]
        simp only [List.mem_cons, List.not_mem_nil, or_false, not_or]
        exact ⟨Nat.ne_of_lt (Nat.lt_succ_self _), Nat.ne_of_gt hlS⟩) ks hn hb hi (items.size - 0) 0 _ rfl (Nat.zero_le _) ⟨⟨_, Heap.get?_push_size _ rfl, rfl, rfl⟩, hl1.push _⟩ ?_ ?_
      · have hget : ((s.heap.push (set0 led)).push { cls := .type "list_iterator", data := .fields #[.ref l, .int 0 0] }).get? s.heap.objs.size = some (set0 led) := Heap.get?_push_of_some _ (Heap.get?_push_size _ rfl)
        exact (PyProof.Rows.setObjOf_fresh (knd := knd) led).setOf hget (by unfold scanBound; omega)
      · intro s' mv hS'
        obtain ⟨h', g', d', tk', os'⟩ := s'
        obtain rfl : g' = s.gens := mv.gens
        obtain rfl : d' = s.drawn := mv.drawn
        obtain rfl : os' = s.os := mv.os
        refine wpAny_pure (wpAny_pure ⟨rfl, h', tk', rfl, hS', fun b o e => ?_⟩)
        have hb := Heap.lt_size e
        exact mv.heap b o (by
          rw [hI]
          simp only [List.mem_cons, List.not_mem_nil, or_false, not_or]
          exact ⟨Nat.ne_of_lt hb, Nat.ne_of_lt (Nat.lt_succ_of_lt hb)⟩) (Heap.get?_push_of_some _ (Heap.get?_push_of_some _ e))
    · cases r₂ with
      | error e => exact hr₂
      | ok fl₂ =>
      cases fl₂ with
      | ret r =>
        obtain ⟨rfl, h', tk, rfl, hS', hk'⟩ := hr₂
        repeat (any_goals (first | assumption | wp_step))
        exact h _ _ hS' hk'
      | _ => exact hr₂.elim
  | _ => exact hr.elim
end
/-! ### len(set(e)), e a list of keys -/
section
variable {X : Cx}
theorem key_ok {P : Program} {w : World} {ks : List Key} {us : List Value} (r : Vals (ks.map kV) us) : ∀ (i : Nat) (v : Value), us.toArray[i]? = some v → ∃ k, ks[i]? = some k ∧ (mixKind P w).is k v = true ∧ v.scannable = true := fun i v hv => by
  have hv : us[i]? = some v := by simpa using hv
  have hl := r.length
  rw [List.length_map] at hl
  have hi : i < ks.length := by rw [hl]; exact (List.getElem?_eq_some_iff.mp hv).1
  obtain ⟨u, hu, ru⟩ := r.get (i := i) (x := kV ks[i]) (by rw [List.getElem?_map, List.getElem?_eq_getElem hi]; rfl)
  rw [hv] at hu
  cases hu
  refine ⟨ks[i], List.getElem?_eq_getElem hi, kV_is ru, ?_⟩
  rcases keyIs_shape (kV_is (P := P) (w := w) ru) with ⟨_, _, _, e⟩ | ⟨_, _, _, e⟩ <;> rw [e] <;> rfl
def tLenSetK (K : PySem.W.Frag) (ta : TE) : TE := fun σ H Q => ta σ H fun x H1 => ∃ (l : Addr) (ks : List Key), x = .ref l ∧ SqL K H1 l (ks.map kV) ∧ ks.length ≤ 1000 ∧ Q (.int ((once ks).length : Nat)) H1
theorem pe_lenSetK {a : Expr} {ta : TE} {p p2 q pos : Pos} (hg : Gl X "len") (hm : X.mg "len" = none) (hg2 : Gl X "set") (hm2 : X.mg "set" = none) (ha : PE X a ta) (hc : X.calm = true := by rfl)
    (na : starEach [a] X.env = (false, eval a X.env) :: starEach [] X.env := by rfl) : PE X (.Call (.Name "len" p) [.Call (.Name "set" p2) [a] [] q] [] pos) (tLenSetK X.K ta) := by
  refine ⟨fun pins s σ H Q I h => ?_⟩
  refine Call_ (ld_blt I hg hm PySem.boot_len ?_)
  refine PyProof.Rows.callWith_builtin1 (PyProof.Rows.args_cons ?_ rfl) rfl rfl
  refine Call_ (ld_blt I hg2 hm2 PyProof.Rows.boot_set ?_)
  refine PyProof.Rows.callWith_type1 (PyProof.Rows.args_cons (thn (ha.run pins s σ H _ I h) fun v s1 ⟨x, H1, I1, r1, q1⟩ => PyProof.Rows.args_nil ?_) na) na rfl
  obtain ⟨l, ks, rfl, hq, hl, q1⟩ := q1
  cases r1
  obtain ⟨its, r, pl, hz⟩ := I1.list hq
  have hlen : ks.length = its.toArray.size := by
    have := r.length
    rw [List.length_map] at this
    rw [List.size_toArray, this]
  refine set_of_list (knd := mixKind X.prog X.w) ks (I1.ok.hd hc) pl.isList hlen (by unfold scanBound; omega) (key_ok r) fun h' tk hS hk => ?_
  refine PyProof.Rows.args_nil ?_
  obtain ⟨o, es, ep, t, ho, hex, hd, _, _, hb, hf, hn⟩ := hS
  have I2 : Inv X pins σ H1 { s1 with heap := h', toks := tk } := I1.kept fun b o e => hk b o e
  have h1 := once_len ks
  exact call_len_set ho hex hd hf (by rw [hn]; omega) ⟨.int ((once ks).length : Nat), H1, I2.tok _, ⟨_, by rw [hn]⟩, q1⟩
theorem w_lenSetK {K : PySem.W.Frag} {σ : L2.St} {H : Hp} {Q : VK} {te : TE} (h : te σ H fun x H1 => ∃ (l : Addr) (ks : List Key), x = .ref l ∧ SqL K H1 l (ks.map kV) ∧ ks.length ≤ 1000 ∧ Q (.int ((once ks).length : Nat)) H1) : tLenSetK K te σ H Q := h
end
end Go

set_option Elab.async false
set_option linter.all false
set_option maxRecDepth 100000
set_option maxHeartbeats 4000000
/-! ### sets of tuples of keys, any kind of keys: how many they hold -/
namespace Go
open PySem PySem.Spec PyProof.Rows L2
section
variable {P : Program} {w : World} {A : Around} {E : Value → Shared → Prop} {s : Shared} {κ : Type} [DecidableEq κ] {knd : PySem.KeyKind P w κ}
/-- what is carried by value is of no class statement -/
theorem plain_ofAClass {v : Value} (h : carriedByValue v = true) (n : Nat) : ofAClassStatement n v = pure false := by
  cases v with
  | ref a => exact absurd (show false = true from h) Bool.false_ne_true
  | _ => cases n <;> rfl
theorem walk_all {items : Array Value} {β : Type} (f : Value → β → Sem (ForInStep β)) (b0 : β) (hf : ∀ v ∈ items, f v b0 = pure (.yield b0)) {Q : β → Shared → Prop} (q : Q b0 s) : wpAny (model P w) A (forIn items b0 f) Q E s := by
  rw [← Array.forIn_toList]
  refine wpAny_forIn_list _ (fun rest r s' => r = b0 ∧ s' = s ∧ ∀ v ∈ rest, v ∈ items) _ ?_ ?_ _ _ ⟨rfl, rfl, fun v hv => by simpa using hv⟩
  · rintro v rest r s' ⟨rfl, rfl, hall⟩
    rw [hf v (hall v (.head _))]
    exact wpAny_pure ⟨rfl, rfl, fun u hu => hall u (.tail _ hu)⟩
  · rintro r s' ⟨rfl, rfl, _⟩
    exact q
theorem tk_class {k : List κ} {b : Addr} {Q : Bool → Shared → Prop} (hk : IsTupleKey knd s.heap k b) (h : Q false s) : wpAny (model P w) A (ofAClassStatement 8 (.ref b)) Q E s := by
  have hT := hk.typeIs
  obtain ⟨o, items, n, ho, _, hd, hi⟩ := hk
  unfold ofAClassStatement
  refine wpAny_bind (wpAny_typeOf hT ?_)
  dsimp only
  simp only [show (("tuple" : String) == "tuple") = true by decide, if_true]
  refine wpAny_bind (wpAny_pure ?_)
  simp only [Bool.not_true, Bool.false_eq_true, if_false]
  refine wpAny_bind (m := seqItems? (.ref b)) (wpAny_seqItems ho hd ?_)
  dsimp only
  refine wpAny_bind (walk_all _ _ (fun v hv => ?_) ?_)
  · rw [plain_ofAClass (hi.byValue v (by simpa using hv))]
    rfl
  · exact wpAny_pure h
theorem plain_hashBy {v : Value} (h : carriedByValue v = true) (n : Nat) : ∃ c, hashByValue n v = pure c := by
  cases v with
  | ref a => exact absurd (show false = true from h) Bool.false_ne_true
  | _ => cases n <;> exact ⟨_, rfl⟩
theorem tk_hashBy {k : List κ} {b : Addr} {Q : Bool → Shared → Prop} (hk : IsTupleKey knd s.heap k b) (h : ∀ c, Q c s) : wpAny (model P w) A (hashByValue 8 (.ref b)) Q E s := by
  have hT := hk.typeIs
  obtain ⟨o, items, n, ho, _, hd, hi⟩ := hk
  unfold hashByValue
  refine wpAny_bind (wpAny_specialOf hT F.slot_tuple_hash.lookup ?_)
  refine wpAny_bind (m := seqItems? (.ref b)) (wpAny_seqItems ho hd ?_)
  refine wpAny_bind ?_
  show wpAny _ _ (forIn items _ _) _ _ s
  rw [← Array.forIn_toList]
  refine wpAny_forIn_list _ (fun rest r s' => s' = s ∧ ∀ v ∈ rest, carriedByValue v = true) _ ?_ ?_ _ _ ⟨rfl, hi.byValue⟩
  · rintro v rest r s' ⟨rfl, hall⟩
    obtain ⟨c, e⟩ := plain_hashBy (hall v (.head _)) 7
    rw [e]
    refine wpAny_bind (wpAny_pure ?_)
    cases c with
    | true =>
      simp only [Bool.not_true, Bool.false_eq_true, if_false]
      exact wpAny_pure ⟨rfl, fun u hu => hall u (.tail _ hu)⟩
    | false =>
      simp only [Bool.not_false, if_true]
      exact wpAny_pure (wpAny_pure (h false))
  · rintro ⟨r1, r2⟩ s' ⟨rfl, _⟩
    cases r1 with
    | none => exact wpAny_pure (h _)
    | some c => exact wpAny_pure (h _)
/-- a search among such tuples shows nothing of the table -/
theorem tk_seen {k : List κ} {b : Addr} {Q : Bool → Shared → Prop} (hk : IsTupleKey knd s.heap k b) {ys : List Value} (hy : ∀ y ∈ ys, ∃ k' c, y = Value.ref c ∧ IsTupleKey knd s.heap k' c) (h : Q false s) :
    wpAny (model P w) A (searchCouldBeSeen (.ref b) ys) Q E s := by
  unfold searchCouldBeSeen
  refine wpAny_bind (wpAny_forIn_list _ (fun rest r s' => r.1 = none ∧ s' = s ∧ ∀ y ∈ rest, y ∈ ys) _ ?_ ?_ _ _ ⟨rfl, rfl, fun y hy => hy⟩)
  · rintro v rest r s' ⟨hr, rfl, sub⟩
    obtain ⟨k', c, rfl, hc⟩ := hy v (sub v (.head _))
    have next : ∀ y ∈ rest, y ∈ ys := fun y my => sub y (.tail _ my)
    dsimp only
    by_cases same : (b == c || (carriedByValue (.ref b) && carriedByValue (.ref c))) = true
    · exact wp_if_pos same (wpAny_pure ⟨rfl, rfl, next⟩)
    · refine wp_if_neg same (wpAny_bind (wpAny_eqIsQuiet_tuple hk ?_))
      simp only [Bool.not_true, Bool.false_eq_true, if_false]
      refine wpAny_bind (wpAny_eqIsQuiet_tuple hc ?_)
      simp only [Bool.not_true, Bool.false_eq_true, if_false]
      refine wpAny_bind (tk_class hk ?_)
      simp only [Bool.false_eq_true, if_false]
      refine wpAny_bind (tk_class hc ?_)
      simp only [Bool.false_eq_true, if_false]
      exact wpAny_pure ⟨rfl, rfl, next⟩
  · rintro ⟨r1, r2⟩ s' ⟨hr, rfl, _⟩
    obtain rfl : r1 = none := hr
    exact wpAny_pure h
/-! ### the set itself -/
variable (knd) in
/-- a tuple's hash -/
abbrev th (k : List κ) : Int := tupleKeyHash knd k
variable (knd) in
def rws (L : List (Addr × List κ)) : List (Int × Value) := L.map fun p => (th knd p.2, Value.ref p.1)
variable (knd) in
/-- at a the set of the tuples L, in the order of its table -/
structure TupS (h : Heap) (a : Addr) (L : List (Addr × List κ)) (es : Array (Int × Value)) (ep : Nat) (t : SetTable) : Prop where
  ob : ∃ o, h.get? a = some o ∧ o.ExactSet ∧ o.data = .set es ep t
  rows : es.toList = rws knd L
  tab : TabOk t (L.map fun p => th knd p.2)
  nd : (L.map (·.2)).Nodup
  tup : ∀ p ∈ L, IsTupleKey knd h p.2 p.1
  room : L.length * 5 < t.mask * 3
  few : L.length < 64
variable {a : Addr} {L : List (Addr × List κ)} {es : Array (Int × Value)} {ep : Nat} {t : SetTable}
theorem rws_len (hr : es.toList = rws knd L) : es.size = L.length := by
  rw [← Array.length_toList, hr]
  exact List.length_map _
theorem rws_at (hr : es.toList = rws knd L) {i : Nat} {p : Addr × List κ} (h : L[i]? = some p) : es[i]? = some (th knd p.2, Value.ref p.1) := by
  rw [← Array.getElem?_toList, hr]
  unfold rws
  rw [List.getElem?_map, h]; rfl
theorem TupS.fits (R : TupS knd s.heap a L es ep t) : t.fits es.size = true := by
  have h1 : t.place.size = L.length := by rw [R.tab.sz, List.length_map]
  have h2 := rws_len R.rows
  have h3 := R.room
  unfold SetTable.fits SetTable.fill
  rw [R.tab.dm, Bool.and_eq_true, beq_iff_eq, decide_eq_true_eq]
  show t.place.size = es.size ∧ t.place.size + 0 ≤ t.mask
  omega
theorem TupS.firm (R : TupS knd s.heap a L es ep t) : ¬ t.gaveWay = true := by
  unfold SetTable.gaveWay
  rw [mask_odd R.tab.mok]
  decide
/-! ### the search -/
/-- where a search for the hash h stands behind c steps -/
abbrev stand (m : Nat) (h : Int) (c : Nat) : SetTable.Probe := nth m (runAt m (SetTable.bits h % (m + 1)) (SetTable.bits h)) c
theorem stand_add (m : Nat) (h : Int) (c q : Nat) : nth m (stand m h c) q = stand m h (c + q) := (nth_add m c _ q).symm
theorem nth_dummy (m : Nat) : ∀ (n : Nat) (p : SetTable.Probe), p.dummy = none → (nth m p n).dummy = none
  | 0, _, h => h
  | n + 1, p, h => nth_dummy m n (adv m p) (by unfold adv; split <;> exact h)
theorem TupS.search_from (R : TupS knd s.heap a L es ep t) {x : Addr} {k : List κ} (hx : IsTupleKey knd s.heap k x) (hu : A.units < cLine) {K : Nat} (hKf : K < 10 * SetTable.turns t.mask)
    (hK : way t.mask (th knd k) K ∉ t.place.toList) (hb : ∀ c, c < K → way t.mask (th knd k) c ∈ t.place.toList) {Q : SetFound → Shared → Prop}
    (hin : k ∈ L.map (·.2) → Q (.there none) s) (hout : k ∉ L.map (·.2) → Q (.free (way t.mask (th knd k) K) false) s) :
    ∀ (f c : Nat) (at_ : Option SetTable.Probe), at_.getD (t.probeStart (th knd k)) = stand t.mask (th knd k) c → c ≤ K → K - c < f →
      (∀ (i : Nat) p, L[i]? = some p → p.2 = k → ∃ c', c ≤ c' ∧ c' < K ∧ t.place.toList[i]? = some (way t.mask (th knd k) c')) →
      wpAny (model P w) A (setSearchFrom a (.ref x) (th knd k) true f at_) Q E s := by
  obtain ⟨o, ho, hex, hd⟩ := R.ob
  have hashAt : ∀ (i : Nat) p, L[i]? = some p → (fun i => (es[i]?.map (·.1)).getD 0) i = th knd p.2 := fun i p hp => by
    show (es[i]?.map (·.1)).getD 0 = _
    rw [rws_at R.rows hp]; rfl
  intro f
  induction f with
  | zero => intro c at_ _ _ hf _; exact absurd hf (Nat.not_lt_zero _)
  | succ f ih =>
    intro c at_ hat hc hf left
    rw [setSearchFrom_succ]
    refine wpAny_bind (wpAny_setState_of ho hd R.fits ?_)
    dsimp only
    refine wp_if_neg R.firm ?_
    try refine wpAny_bind (wpAny_pure ?_)
    have je : ∀ q, (nth t.mask (stand t.mask (th knd k) c) q).j = way t.mask (th knd k) (c + q) := fun q => congrArg SetTable.Probe.j (stand_add t.mask (th knd k) c q)
    have spec := go_spec t R.tab.ris R.tab.dm (fun i => (es[i]?.map (·.1)).getD 0) (th knd k) (10 * SetTable.turns t.mask) (K - c) (stand t.mask (th knd k) c) (nth_dummy t.mask c _ rfl) (by omega)
      (fun q hq => by rw [je]; exact hb (c + q) (by omega)) (by rw [je, show c + (K - c) = K by omega]; exact hK)
    rcases spec with ⟨q, i, hq, hi, hh, hno, hpr⟩ | ⟨hno, hpr⟩
    · rw [je] at hi
      have hpr' : t.probe (fun i => (es[i]?.map (·.1)).getD 0) (th knd k) (at_.getD (t.probeStart (th knd k))) = some (.candidate (way t.mask (th knd k) (c + q)) i (stand t.mask (th knd k) (c + (q + 1)))) := by
        rw [hat, ← je, ← stand_add]; exact hpr
      rw [hpr']
      dsimp only
      have hil : i < L.length := by
        have h1 := (List.getElem?_eq_some_iff.mp hi).1
        have h2 := R.tab.sz
        rw [List.length_map] at h2
        rw [Array.length_toList] at h1
        omega
      obtain ⟨p, hp⟩ : ∃ p, L[i]? = some p := ⟨_, List.getElem?_eq_getElem hil⟩
      have hmem := List.mem_of_getElem? hp
      have rest : wpAny (model P w) A (searchRest a (.ref x) (th knd k) true f es t (way t.mask (th knd k) (c + q)) i (stand t.mask (th knd k) (c + (q + 1)))) Q E s := by
        unfold searchRest
        rw [rws_at R.rows hp]
        dsimp only
        refine wpAny_bind (wpAny_holding (wpAny_eqBool_tuple hu (R.tup p hmem) hx ?_))
        refine wpAny_bind (wpAny_setState_of ho hd R.fits ?_)
        dsimp only
        by_cases e : p.2 = k
        · exact wp_if_pos (by simp [e]) (wpAny_pure (hin (List.mem_map.mpr ⟨p, hmem, e⟩)))
        · refine wp_if_neg (by simp [e]) ?_
          try refine wpAny_bind (wpAny_pure ?_)
          rw [sameMem]
          dsimp only
          have live : t.slot (way t.mask (th knd k) (c + q)) = .live i := slot_live R.tab.ris hi
          simp only [if_true, live, rws_at R.rows hp]
          refine wpAny_bind (wpAny_isSame_ref_self (wpAny_bind (wpAny_pure ?_)))
          simp only [if_true]
          refine wp_if_neg (by simp [e]) ?_
          refine ih (c + (q + 1)) _ rfl (by omega) (by omega) fun i0 p0 h0 k0 => ?_
          obtain ⟨c', l1, l2, l3⟩ := left i0 p0 h0 k0
          refine ⟨c', ?_, l2, l3⟩
          have n1 : ¬ c' < c + q := fun z => hno (c' - c) i0 (by omega) (by rw [je, show c + (c' - c) = c' by omega]; exact l3) ((hashAt i0 p0 h0).trans (congrArg (th knd) k0))
          have n2 : c' ≠ c + q := fun z => by
            rw [z] at l3
            have s0 := slot_live R.tab.ris l3
            rw [live] at s0
            injection s0 with s0
            rw [← s0, hp] at h0
            exact e ((congrArg Prod.snd (Option.some.inj h0)).trans k0)
          omega
      by_cases led : t.led = true
      · refine wp_if_neg (by simp [led]) ?_
        try refine wpAny_bind (wpAny_pure ?_)
        exact rest
      · refine wp_if_pos (by simp [led]) (wpAny_bind (tk_seen hx (fun y hy => ?_) ?_))
        · obtain ⟨e, he, rfl⟩ := List.mem_map.mp hy
          have he2 : e ∈ es.toList := by
            have : e ∈ es ∧ e.1 = th knd k := by simpa using he
            simpa using this.1
          rw [R.rows] at he2
          obtain ⟨p2, hp2, rfl⟩ := List.mem_map.mp he2
          exact ⟨p2.2, p2.1, rfl, R.tup p2 hp2⟩
        · refine wp_if_neg (by decide) ?_
          try refine wpAny_bind (wpAny_pure ?_)
          exact rest
    · have hpr' : t.probe (fun i => (es[i]?.map (·.1)).getD 0) (th knd k) (at_.getD (t.probeStart (th knd k))) = some (.empty (way t.mask (th knd k) K) none) := by
        have e2 : way t.mask (th knd k) K = (nth t.mask (stand t.mask (th knd k) c) (K - c)).j := by rw [je, show c + (K - c) = K by omega]
        rw [hat, e2]; exact hpr
      rw [hpr']
      dsimp only
      refine wpAny_pure (hout fun hm => ?_)
      obtain ⟨p0, h0, k0⟩ := List.mem_map.mp hm
      obtain ⟨i0, hi0, e0⟩ := List.getElem_of_mem h0
      have h00 : L[i0]? = some p0 := by rw [List.getElem?_eq_getElem hi0, e0]
      obtain ⟨c', l1, l2, l3⟩ := left i0 p0 h00 k0
      exact hno (c' - c) i0 (by omega) (by rw [je, show c + (c' - c) = c' by omega]; exact l3) ((hashAt i0 p0 h00).trans (congrArg (th knd) k0))
theorem TupS.search (R : TupS knd s.heap a L es ep t) {x : Addr} {k : List κ} (hx : IsTupleKey knd s.heap k x) (hu : A.units < cLine) {Q : SetFound → Shared → Prop} (hin : k ∈ L.map (·.2) → Q (.there none) s)
    (hout : ∀ K, k ∉ L.map (·.2) → way t.mask (th knd k) K ∉ t.place.toList → (∀ c, c < K → way t.mask (th knd k) c ∈ t.place.toList) → Q (.free (way t.mask (th knd k) K) false) s) :
    wpAny (model P w) A (setSearch a (.ref x) (th knd k) true) Q E s := by
  have room := R.room
  obtain ⟨K, hKf, hK, hb⟩ := R.tab.first (by rw [List.length_map]; omega) (th knd k)
  have small : K < 100000 := by
    have : 10 * SetTable.turns t.mask ≤ 1420 := by
      unfold SetTable.turns
      rcases R.tab.mok with e | e | e <;> omega
    omega
  unfold setSearch
  refine R.search_from hx hu hKf hK hb hin (fun n => hout K n hK hb) 100000 0 none rfl (Nat.zero_le _) (by omega) fun i p hp hk => ?_
  have hil : i < t.place.toList.length := by
    have h1 := (List.getElem?_eq_some_iff.mp hp).1
    have h2 := R.tab.sz
    rw [List.length_map] at h2
    rw [Array.length_toList]
    omega
  obtain ⟨c, hc, e⟩ := R.tab.before hK (by rw [List.getElem?_map, hp, ← hk]; rfl) (List.getElem?_eq_getElem hil)
  exact ⟨c, Nat.zero_le _, hc, by rw [List.getElem?_eq_getElem hil, e]⟩
/-! ### laid anew, added to -/
theorem tk_off {h h' : Heap} {k : List κ} {b : Addr} {o : Obj} (hb : IsTupleKey knd h k b) (ho : h.get? a = some o) (hd : o.data = .set es ep t) (hs : Heap.SameBut a h h') : IsTupleKey knd h' k b := by
  obtain ⟨o', items, n, ho', r1, hd', r2⟩ := hb
  have ne : b ≠ a := fun z => by
    rw [z, ho] at ho'
    cases ho'
    rw [hd] at hd'
    cases hd'
  exact ⟨o', items, n, (hs.2 b ne).trans ho', r1, hd', r2⟩
/-- the rows by another order -/
theorem rws_order (hr : es.toList = rws knd L) {order : List Nat} (hp : order.Perm (List.range L.length)) :
    order.filterMap (fun i => es[i]?) = rws knd (order.filterMap fun i => L[i]?) ∧ (order.filterMap fun i => L[i]?).Perm L ∧ ((order.filterMap fun i => L[i]?).map fun p => th knd p.2) = order.map fun i => (es.map (·.1)).getD i 0 := by
  have whole : (List.range L.length).filterMap (fun i => L[i]?) = L := by
    have cut : ∀ n, n ≤ L.length → (List.range n).filterMap (fun i => L[i]?) = L.take n := fun n => by
      induction n with
      | zero => intro _; rfl
      | succ n ih =>
        intro hn
        rw [List.range_succ, List.filterMap_append, ih (by omega), List.take_add_one, List.filterMap_cons, List.getElem?_eq_getElem hn]; rfl
    rw [cut _ (Nat.le_refl _), List.take_length]
  have pm : (order.filterMap fun i => L[i]?).Perm L := by
    have := hp.filterMap fun i => L[i]?
    rw [whole] at this
    exact this
  have inl : ∀ i ∈ order, i < L.length := fun i hi => List.mem_range.mp (hp.mem_iff.mp hi)
  refine ⟨?_, pm, ?_⟩
  · clear pm hp
    induction order with
    | nil => rfl
    | cons i l ih =>
      have hi : L[i]? = some (L[i]'(inl i (.head _))) := List.getElem?_eq_getElem _
      rw [List.filterMap_cons_some (rws_at hr hi), List.filterMap_cons_some hi, ih fun j hj => inl j (.tail _ hj)]; rfl
  · clear pm hp
    induction order with
    | nil => rfl
    | cons i l ih =>
      have hi : L[i]? = some (L[i]'(inl i (.head _))) := List.getElem?_eq_getElem _
      rw [List.filterMap_cons_some hi, List.map_cons, List.map_cons, ih fun j hj => inl j (.tail _ hj)]
      have e : (es.map (·.1))[i]? = some (th knd (L[i]'(inl i (.head _))).2) := by rw [Array.getElem?_map, rws_at hr hi]; rfl
      rw [Array.getD_eq_getD_getElem?, e]; rfl
theorem ts_relay {o : Obj} (ho : s.heap.get? a = some o) (hex : o.ExactSet) (hd : o.data = .set es ep t) (hr : es.toList = rws knd L) (hsz : t.place.size = es.size) (hdm : t.dummies = #[]) (hfl : es.size ≤ t.mask) (nd : (L.map (·.2)).Nodup)
    (tup : ∀ p ∈ L, IsTupleKey knd s.heap p.2 p.1) (few : L.length < 64) {wanted M : Nat} (hw : SetTable.sizeAbove wanted - 1 = M) (hM : MaskOk M) (hw2 : SetTable.sizeAbove wanted ≤ 128) (hn : L.length * 5 < M * 3) {Q : Unit → Shared → Prop}
    (hQ : ∀ h' L' es' ep' t', Heap.SameBut a s.heap h' → TupS knd h' a L' es' ep' t' → L'.Perm L → Q () { s with heap := h' }) : wpAny (model P w) A (setRelay a wanted) Q E s := by
  have sl := rws_len hr
  have fits : t.fits es.size = true := by
    unfold SetTable.fits SetTable.fill
    rw [hdm, Bool.and_eq_true, beq_iff_eq, decide_eq_true_eq]
    show t.place.size = es.size ∧ t.place.size + 0 ≤ t.mask
    omega
  obtain ⟨t', order, e, hp, T, em, _, _, _⟩ := relaid_ok t (hs := es.map (·.1)) (wanted := wanted) hw hM (by rw [Array.size_map, sl]; omega)
  rw [Array.size_map, sl] at hp
  obtain ⟨r1, r2, r3⟩ := rws_order hr hp
  rw [← r3] at T
  have r1' : (order.filterMap (es[·]?)).toList = rws knd (order.toList.filterMap fun i => L[i]?) := by
    rw [← r1]; simp
  rw [setRelay_eq]
  refine wpAny_bind (wpAny_setState_of ho hd fits ?_)
  dsimp only
  refine wp_if_neg (by rw [sizeLine_eq]; omega) ?_
  try refine wpAny_bind (wpAny_pure ?_)
  rw [e]
  dsimp only
  generalize order.toList.filterMap (fun i => L[i]?) = L2 at r1' r2 T
  generalize order.filterMap (es[·]?) = es2 at r1' ⊢
  have s2 : es2.size = es.size := by rw [rws_len r1', r2.length_eq, sl]
  refine wpAny_bind ?_
  refine wp_if_neg (by rw [s2]; simp) ?_
  try refine wpAny_bind (wpAny_pure ?_)
  refine wpAny_pure ?_
  dsimp only
  refine wpAny_storeSet_of ho hd ?_ (by rw [s2, sl, sizeLine_eq]; omega)
  have sb : Heap.SameBut a s.heap (s.heap.update a (Obj.putSet es2 t')) := Heap.SameBut.update ..
  refine hQ _ L2 es2 (ep + 1) t' sb ⟨⟨_, store_at ho hd, ⟨hex.1, hex.2.1, hex.2.2⟩, rfl⟩, r1', T, (r2.map (·.2)).nodup_iff.mpr nd, fun p hp => tk_off (tup p (r2.mem_iff.mp hp)) ho hd sb, ?_, ?_⟩ r2
  · rw [r2.length_eq, em]; exact hn
  · rw [r2.length_eq]; exact few
theorem rws_put (L : List (Addr × List κ)) (p : Nat) (x : Addr) (k : List κ) : rws knd (L.take p ++ (x, k) :: L.drop p) = (rws knd L).take p ++ (th knd k, Value.ref x) :: (rws knd L).drop p := by
  unfold rws
  rw [List.map_append, List.map_cons, List.map_take, List.map_drop]
theorem put_mid {α : Type} (L : List α) (p : Nat) (x : α) : (L.take p ++ x :: L.drop p).Perm (x :: L) := by
  have h : (L.take p ++ x :: L.drop p).Perm (x :: (L.take p ++ L.drop p)) := List.perm_middle
  rw [List.take_append_drop] at h
  exact h
theorem tab_plain {hs : List Int} (T : TabOk t hs) (b : Bool) : TabOk { t with plain := b } hs := ⟨T.ris, T.dm, T.sz, T.mok, T.bd, T.reach⟩
theorem TupS.add (R : TupS knd s.heap a L es ep t) {x : Addr} {k : List κ} (hx : IsTupleKey knd s.heap k x) (hu : A.units < cLine) (hfew : L.length + 1 < 64) {Q : Bool → Shared → Prop}
    (hQ : ∀ b h' L' es' ep' t', Heap.SameBut a s.heap h' → TupS knd h' a L' es' ep' t' → (k ∈ L.map (·.2) → L' = L) → (k ∉ L.map (·.2) → L'.Perm ((x, k) :: L)) → Q b { s with heap := h' }) :
    wpAny (model P w) A (setAddHashed a (.ref x) (th knd k)) Q E s := by
  obtain ⟨o, ho, hex, hd⟩ := R.ob
  have sl := rws_len R.rows
  have room := R.room
  unfold setAddHashed
  refine wpAny_holding ?_
  rw [show (100000 : Nat) = 99999 + 1 from rfl, setAddHashedIn_succ]
  refine wpAny_bind (wpAny_setState_of ho hd R.fits ?_)
  dsimp only
  refine wp_if_neg (by simp [byScan, Value.scannable]) ?_
  try refine wpAny_bind (wpAny_pure ?_)
  refine wpAny_bind (R.search hx hu (fun hm => ?_) fun K hm hK hb => ?_)
  · dsimp only
    exact wpAny_pure (hQ false s.heap L es ep t (Heap.SameBut.refl a s.heap) R (fun _ => rfl) fun z => absurd hm z)
  · dsimp only
    refine wpAny_bind (wpAny_setState_of ho hd R.fits ?_)
    dsimp only
    obtain ⟨q1, q2, q3, q4, q5, q6, q7, q8, q9⟩ := R.tab.put hK hb
    generalize t.put (way t.mask (th knd k) K) = pt at q1 q3 q4 q5 q6 q7 q8 q9 ⊢
    obtain ⟨t1, p⟩ := pt
    dsimp only at q1 q3 q4 q5 q6 q7 q8 q9 ⊢
    subst q1
    have hin : (SetTable.insertAt es (SetTable.below t.place (way t.mask (th knd k) K)) (th knd k, Value.ref x)).toList = rws knd (L.take (SetTable.below t.place (way t.mask (th knd k) K)) ++ (x, k) :: L.drop (SetTable.below t.place (way t.mask (th knd k) K))) := by
      rw [SetTable.toList_insertAt, rws_put, R.rows]
    generalize SetTable.below t.place (way t.mask (th knd k) K) = p at q2 q3 hin ⊢
    have pm := put_mid L p (x, k)
    have len1 : (L.take p ++ (x, k) :: L.drop p).length = L.length + 1 := pm.length_eq
    have hhs : (L.take p ++ (x, k) :: L.drop p).map (fun p => th knd p.2) = (L.map fun p => th knd p.2).take p ++ th knd k :: (L.map fun p => th knd p.2).drop p := by
      rw [List.map_append, List.map_cons, List.map_take, List.map_drop]
    rw [← hhs] at q3
    have nd1 : ((L.take p ++ (x, k) :: L.drop p).map (·.2)).Nodup := (pm.map (·.2)).nodup_iff.mpr (by rw [List.map_cons]; exact List.nodup_cons.mpr ⟨hm, R.nd⟩)
    have es1l := rws_len hin
    rw [len1] at es1l
    generalize SetTable.insertAt es p (th knd k, Value.ref x) = es1 at hin es1l ⊢
    generalize L.take p ++ (x, k) :: L.drop p = L1 at pm len1 q3 nd1 hin
    rw [List.length_map] at q9
    have rest : ∀ t2 : SetTable, TabOk t2 (L1.map fun p => th knd p.2) → t2.mask = t.mask → t2.fill = L.length + 1 → wpAny (model P w) A (do
        storeSet a es1 t2
        if (!false && t2.tooFull) = true then do
            setRelay a (SetTable.grown (es.size + 1))
            pure true
          else pure true) Q E s := by
      intro t2 T2 m2 f2
      refine wpAny_bind (wpAny_storeSet_of ho hd ?_ (by rw [es1l, sizeLine_eq]; omega))
      have sb : Heap.SameBut a s.heap (s.heap.update a (Obj.putSet es1 t2)) := Heap.SameBut.update ..
      have ho1 := store_at (es' := es1) (t' := t2) ho hd
      generalize s.heap.update a (Obj.putSet es1 t2) = h1 at sb ho1 ⊢
      have tup1 : ∀ p ∈ L1, IsTupleKey knd h1 p.2 p.1 := fun p hp => by
        rcases List.mem_cons.mp (pm.mem_iff.mp hp) with e | hp
        · rw [e]; exact tk_off hx ho hd sb
        · exact tk_off (R.tup p hp) ho hd sb
      have exact1 : ({ o with data := .set es1 (ep + 1) t2 } : Obj).ExactSet := ⟨hex.1, hex.2.1, hex.2.2⟩
      by_cases full : t2.tooFull = true
      · refine wp_if_pos (by simp [full]) (wpAny_bind ?_)
        have lim : (L.length + 1) * 5 ≥ t2.mask * 3 := by
          have h := full
          unfold SetTable.tooFull at h
          rw [decide_eq_true_eq, f2] at h
          exact h
        have sz1 : t2.place.size = es1.size := by rw [T2.sz, List.length_map, len1, es1l]
        rw [sl]
        have grow : ∀ M, SetTable.sizeAbove (SetTable.grown (L.length + 1)) - 1 = M → MaskOk M → SetTable.sizeAbove (SetTable.grown (L.length + 1)) ≤ 128 → (L.length + 1) * 5 < M * 3 → L.length + 1 ≤ t.mask →
            wpAny (model P w) A (setRelay a (SetTable.grown (L.length + 1))) (fun _ s' => wpAny (model P w) A (pure true) Q E s') E { s with heap := h1 } := fun M g1 g2 g3 g4 g5 => by
          refine ts_relay (s := { s with heap := h1 }) ho1 exact1 rfl hin sz1 T2.dm (by rw [es1l, m2]; exact g5) nd1 tup1 (by rw [len1]; exact hfew) g1 g2 g3 (by rw [len1]; exact g4) fun h2 L2 es2 ep2 t3 sb2 R2 pm2 => ?_
          exact wpAny_pure (hQ true h2 L2 es2 ep2 t3 (sb.trans sb2) R2 (fun z => absurd z hm) fun _ => pm2.trans pm)
        rcases R.tab.mok with e | e | e
        · have e4 : L.length = 4 := by rw [m2, e] at lim; rw [e] at room; omega
          exact grow 31 (by rw [e4, size_20]) (.inr (.inl rfl)) (by rw [e4, size_20]; decide) (by omega) (by omega)
        · have e18 : L.length = 18 := by rw [m2, e] at lim; rw [e] at room; omega
          exact grow 127 (by rw [e18, size_76]) (.inr (.inr rfl)) (by rw [e18, size_76]; decide) (by omega) (by omega)
        · exfalso; rw [m2, e] at lim; omega
      · refine wp_if_neg (by simp [full]) (wpAny_pure (hQ true h1 L1 es1 (ep + 1) t2 sb ⟨⟨_, ho1, exact1, rfl⟩, hin, T2, nd1, tup1, ?_, by rw [len1]; exact hfew⟩ (fun z => absurd z hm) fun _ => pm))
        have h := full
        unfold SetTable.tooFull at h
        rw [decide_eq_true_eq, f2] at h
        rw [len1]
        omega
    by_cases pl : t1.plain = true
    · refine wp_if_pos pl (wpAny_bind (tk_hashBy hx fun c => ?_))
      cases c with
      | true =>
        simp only [if_true]
        exact rest t1 q3 q4 q9
      | false =>
        simp only [Bool.false_eq_true, if_false]
        exact rest { t1 with plain := false } (tab_plain q3 false) q4 q9
    · refine wp_if_neg pl (wpAny_bind (wpAny_pure ?_))
      simp only [if_true]
      exact rest t1 q3 q4 q9
/-! ### set(xs) of a list of tuples of keys -/
theorem tk_keep {h h' : Heap} {k : List κ} {b : Addr} (x : IsTupleKey knd h k b) (hk : ∀ c o, h.get? c = some o → h'.get? c = some o) : IsTupleKey knd h' k b := by
  obtain ⟨o, items, n, ho, r⟩ := x
  exact ⟨o, items, n, hk b o ho, r⟩
/-- what the set holds of the first i -/
structure Held1 (ks : List (Addr × List κ)) (i : Nat) (L : List (Addr × List κ)) : Prop where
  sub : ∀ p ∈ L, p ∈ ks
  mem : ∀ k, k ∈ L.map (·.2) ↔ k ∈ (ks.take i).map (·.2)
  len : L.length = (once ((ks.take i).map (·.2))).length
theorem Held1.step {ks : List (Addr × List κ)} {i : Nat} {L L' : List (Addr × List κ)} {x : Addr × List κ} (g : Held1 ks i L) (h : ks[i]? = some x) (c1 : x.2 ∈ L.map (·.2) → L' = L) (c2 : x.2 ∉ L.map (·.2) → L'.Perm (x :: L)) : Held1 ks (i + 1) L' := by
  have e : (ks.take (i + 1)).map (·.2) = (ks.take i).map (·.2) ++ [x.2] := by rw [List.take_add_one, h, List.map_append]; rfl
  by_cases m : x.2 ∈ L.map (·.2)
  · rw [c1 m]
    have m2 := (g.mem x.2).mp m
    refine ⟨g.sub, fun k => ?_, ?_⟩
    · rw [g.mem, e, List.mem_append, List.mem_singleton]
      exact ⟨.inl, fun z => z.elim id fun z => z ▸ m2⟩
    · rw [e, once_snoc, if_pos (mem_once.mpr m2)]; exact g.len
  · have pm := c2 m
    have m2 : x.2 ∉ (ks.take i).map (·.2) := fun z => m ((g.mem x.2).mpr z)
    refine ⟨fun p hp => ?_, fun k => ?_, ?_⟩
    · rcases List.mem_cons.mp (pm.mem_iff.mp hp) with z | z
      · rw [z]; exact List.mem_of_getElem? h
      · exact g.sub p z
    · rw [(pm.map (·.2)).mem_iff, List.map_cons, List.mem_cons, g.mem, e, List.mem_append, List.mem_singleton]
      exact Or.comm
    · rw [pm.length_eq, List.length_cons, e, once_snoc, if_neg fun z => m2 (mem_once.mp z), List.length_append, g.len]; rfl
theorem tset_loop {I : Addr} {fp wr : List Addr} {G : Array GenState → Array GenState → Prop} {n : Nat} {Pv : Nat → Value → Prop} {St : Nat → Shared → Prop} {R : Result → Shared → Prop} (W : WalksS P w A.in1 I fp wr G n Pv St) (S : Addr) (hSf : S ∉ fp)
    (ks : List (Addr × List κ)) (hn : ks.length = n) (hfew : ks.length < 63) (hval : ∀ i v, Pv i v → ∃ p, ks[i]? = some p ∧ v = .ref p.1) (h0 : Heap) (hk : ∀ p ∈ ks, IsTupleKey knd h0 p.2 p.1) (hS0 : h0.get? S = none) (hw0 : ∀ b ∈ wr, h0.get? b = none) (hu : A.in1.units < cLine) :
    ∀ (m i : Nat) (s : Shared), n - i = m → i ≤ n → St i s → (∀ b o, h0.get? b = some o → s.heap.get? b = some o) → (∃ L es ep t, TupS knd s.heap S L es ep t ∧ Held1 ks i L) →
      (∀ s' L es ep t, Moved (S :: wr) G s s' → TupS knd s'.heap S L es ep t → Held1 ks n L → R (.ok (.ret .none)) s') →
      codeAny (model P w) A (.builtin "set.update.loop" ⟨[.ref S, .ref I], []⟩) R s := by
  have up : ∀ b ∈ wr, b ∈ S :: wr := fun b hb => .tail _ hb
  have out : S ∉ wr := fun h => hSf (W.sub _ h)
  have kept : ∀ {s s' : Shared}, Moved wr G s s' → (∀ b o, h0.get? b = some o → s.heap.get? b = some o) → ∀ b o, h0.get? b = some o → s'.heap.get? b = some o := fun mv k b o e =>
    mv.heap b o (fun hb => by rw [hw0 b hb] at e; cases e) (k b o e)
  have ts_on : ∀ {h h' : Heap} {L : List (Addr × List κ)} {es : Array (Int × Value)} {ep : Nat} {t : SetTable}, TupS knd h S L es ep t → (∀ p ∈ L, p ∈ ks) → (∀ o, h.get? S = some o → h'.get? S = some o) → (∀ b o, h0.get? b = some o → h'.get? b = some o) → TupS knd h' S L es ep t := fun T sub a1 a2 => by
    obtain ⟨o, ho, r⟩ := T.ob
    exact ⟨⟨o, a1 o ho, r⟩, T.rows, T.tab, T.nd, fun p hp => tk_keep (hk p (sub p hp)) a2, T.room, T.few⟩
  intro m
  induction m with
  | zero =>
    rintro i s hm hi st kp ⟨L, es, ep, t, T, g⟩ fin
    obtain rfl : i = n := by omega
    refine codeAny_builtin PyProof.Rows.F.entry_set_update_loop ?_
    rw [Around.under_plainId PyProof.Rows.F.plain_set_update_loop _]
    refine wpAny_bind (m := pyNext (.ref I)) (W.done s _ _ st fun s' mv => ?_)
    exact wpAny_pure (fin s' L es ep t (mv.mono up) (ts_on T g.sub (fun o e => mv.heap S o out e) (kept mv kp)) g)
  | succ m ih =>
    rintro i s hm hi st kp ⟨L, es, ep, t, T, g⟩ fin
    refine codeAny_builtin PyProof.Rows.F.entry_set_update_loop ?_
    rw [Around.under_plainId PyProof.Rows.F.plain_set_update_loop _]
    refine wpAny_bind (m := pyNext (.ref I)) (W.item i s _ _ (by omega) st fun v s' hP st' mv => ?_)
    obtain ⟨p, hp, rfl⟩ := hval i v hP
    have kp' := kept mv kp
    have T' := ts_on (h' := s'.heap) T g.sub (fun o e => mv.heap S o out e) kp'
    have hx := tk_keep (hk p (List.mem_of_getElem? hp)) kp'
    refine wpAny_bind (m := holding [Value.ref p.1] (setAdd S (.ref p.1))) (wpAny_holding ?_)
    unfold setAdd
    refine wpAny_holding (wpAny_bind (wpAny_pyHash_tuple hu hx ?_))
    refine TupS.add (s := { s' with toks := s'.toks + (p.2.length + 1) }) T' hx hu (by
      have h1 := g.len
      have h2 := once_len ((ks.take i).map (·.2))
      rw [List.length_map, List.length_take] at h2
      omega) fun b h' L' es' ep' t' sb T2 c1 c2 => ?_
    have off : ∀ b o, b ≠ S → s'.heap.get? b = some o → h'.get? b = some o := fun b o nb e => (sb.2 b nb).trans e
    have kp2 : ∀ b o, h0.get? b = some o → h'.get? b = some o := fun b o e => off b o (fun z => by rw [z, hS0] at e; cases e) (kp' b o e)
    refine wpAny_pure ⟨plainId_quiet PyProof.Rows.F.plain_set_update_loop _, ih (i + 1) _ (by omega) (by omega) (W.frame _ s' _ _ st' (Nat.le_add_right _ _) fun b hb o e => off b o (fun z => hSf (z ▸ hb)) e) kp2 ⟨L', es', ep', t', T2, g.step hp c1 c2⟩ fun s'' L2 es2 ep2 t2 mv2 T3 g3 => ?_⟩
    exact fin s'' L2 es2 ep2 t2 (Moved.trans W.gtrans ((mv.mono up).then_heap (Nat.le_add_right _ _) fun b o hb e => off b o (fun z => hb (z ▸ .head _)) e) mv2) T3 g3
theorem ts_fresh {h : Heap} {a : Addr} {led : Bool} (ho : h.get? a = some (set0 led)) : TupS knd h a [] #[] 0 (.fresh 0 0 led) where
  ob := ⟨_, ho, ⟨rfl, rfl, rfl⟩, rfl⟩
  rows := rfl
  tab := ⟨List.Pairwise.nil, rfl, rfl, .inl rfl, fun x hx => (by cases hx), fun i h j hi => (by simp at hi)⟩
  nd := .nil
  tup := fun p hp => (by cases hp)
  room := by show 0 * 5 < 7 * 3; decide
  few := by show 0 < 64; decide
theorem set_of_tups {l : Addr} {items : Array Value} (ks : List (Addr × List κ)) {Q : Value → Shared → Prop} (hh : A.handled = none) (hl : s.heap.IsList l items) (hit : items.toList = ks.map fun p => Value.ref p.1) (hk : ∀ p ∈ ks, IsTupleKey knd s.heap p.2 p.1) (hfew : ks.length < 63) (hu : A.units + 3 < cLine)
    (h : ∀ (h' : Heap) (tk : Nat) L es ep t, TupS knd h' s.heap.objs.size L es ep t → L.length = (once (ks.map (·.2))).length → (∀ b o, s.heap.get? b = some o → h'.get? b = some o) → Q (.ref s.heap.objs.size) { s with heap := h', toks := tk }) :
    wpAny (model P w) A (call (.type "set") [.ref l]) Q E s := by
  have isz : ks.length = items.size := by rw [← Array.length_toList, hit, List.length_map]
  obtain ⟨c, tl, hmro⟩ := PySem.F.called_set.mro
  have hmade := PySem.F.called_set.made
  have hsub := PySem.F.called_set.sub
  have h1 := PySem.F.called_set.notType
  have h2 := PySem.F.called_set.canCreate
  have hct := PySem.F.typeCall_set_1 (.ref l)
  refine wpAny_call (codeAny_of_tree ?_)
  refine wpAny_pure ⟨Code.quiet_builtin _ (by decide +kernel), codeAny_builtin PySem.F.entry_type_call ?_⟩
  rw [Around.under_plain (weight_type_call_type "set" [.ref l] []) rfl]
  repeat (any_goals (first | assumption | wp_step))
  refine codeAny_mono (code_set_new_1 (.ref l) (E := E) (Q₁ := fun obj s₁ => ∃ led : Bool, obj = .ref s.heap.objs.size ∧ s₁ = { s with heap := s.heap.push (set0 led) }) fun led => ⟨led, rfl, rfl⟩) fun r s₁ hr => ?_
  cases r with
  | error e => exact hr
  | ok fl =>
  cases fl with
  | ret obj =>
    obtain ⟨led, rfl, rfl⟩ := hr
    have hT : Shared.TypeIs { s with heap := s.heap.push (set0 led) } (.ref s.heap.objs.size) "set" := ⟨_, Heap.get?_push_size _ rfl, rfl⟩
    have hli := PySem.F.called_set.init.lookup
    have hbi := PySem.F.called_set.init.bind (.ref s.heap.objs.size)
    repeat (any_goals (first | assumption | wp_step))
    refine codeAny_mono (codeAny_call_builtin (R := wants (fun r s₂ => r = .none ∧ ∃ h' tk, s₂ = { s with heap := h', toks := tk } ∧ (∃ L es ep t, TupS knd h' s.heap.objs.size L es ep t ∧ L.length = (once (ks.map (·.2))).length) ∧ ∀ b o, s.heap.get? b = some o → h'.get? b = some o) E)
      PySem.F.called_set.init.plain PySem.F.entry_set_init (check_set_init_1 hT ?_)) fun r₂ s₂ hr₂ => ?_
    · obtain ⟨⟨cl, di, da, sl⟩, hol, hcl, nl, hdl⟩ := hl
      simp only at hcl hdl
      subst hcl; subst hdl
      have hlS : l < s.heap.objs.size := Heap.lt_size hol
      have hol' : (s.heap.push (set0 led)).get? l = some { cls := .type "list", dict := di, data := .seq items nl, slots := sl } := Heap.get?_push_of_some _ hol
      have hsls := PySem.F.sub_list_set
      have hslf := PySem.F.sub_list_frozenset
      have hne : (Value.type "list" == Value.type "dict") = false := by decide
      have hl1 : (s.heap.push (set0 led)).IsList l items := ⟨_, hol', rfl, nl, rfl⟩
      unfold Builtin.«set.__init__» noKeywords Builtin.Frozenset.updateFrom
      generalize hPI : pyIter = PI
      wp_walk
      subst hPI
      refine wpAny_pyIter_list hl1 (wpAny_bind (wpAny_runValue ?_))
      have hI : (s.heap.push (set0 led)).objs.size = s.heap.objs.size + 1 := Heap.size_push ..
      have hh3 : A.in1.in1.in1.handled = none := by simp [hh]
      have none_of : ∀ b, s.heap.objs.size ≤ b → s.heap.get? b = none := fun b hb => by
        cases q : s.heap.get? b with
        | none => rfl
        | some o => exact absurd (Nat.lt_of_lt_of_le (Heap.lt_size q) hb) (Nat.lt_irrefl _)
      refine tset_loop (knd := knd) ((Walks.list hh3 _ l (by rw [hI]; exact Nat.ne_of_lt (Nat.lt_succ_of_lt hlS)) items).toS) s.heap.objs.size (by
        rw [hI]
        simp only [List.mem_cons, List.not_mem_nil, or_false, not_or]
        exact ⟨Nat.ne_of_lt (Nat.lt_succ_self _), Nat.ne_of_gt hlS⟩) ks isz hfew (fun i v hv => ?_) s.heap hk (none_of _ (Nat.le_refl _)) (fun b hb => none_of b (by
          rw [List.mem_singleton.mp hb, hI]; exact Nat.le_succ _)) hu (items.size - 0) 0 _ rfl (Nat.zero_le _) ⟨⟨_, Heap.get?_push_size _ rfl, rfl, rfl⟩, hl1.push _⟩ (fun b o e => Heap.get?_push_of_some _ (Heap.get?_push_of_some _ e)) ⟨[], _, _, _, ts_fresh (led := led) (Heap.get?_push_of_some _ (Heap.get?_push_size _ rfl)), ⟨fun p hp => (by cases hp), fun k => (by simp), rfl⟩⟩ ?_
      · have q : items.toList[i]? = some v := by rw [Array.getElem?_toList]; exact hv
        rw [hit, List.getElem?_map] at q
        obtain ⟨p, hp, e⟩ := Option.map_eq_some_iff.mp q
        exact ⟨p, hp, e.symm⟩
      · intro s' L es ep t mv T g
        have gl := g.len
        rw [← isz, List.take_length] at gl
        obtain ⟨h', g', d', tk', os'⟩ := s'
        obtain rfl : g' = s.gens := mv.gens
        obtain rfl : d' = s.drawn := mv.drawn
        obtain rfl : os' = s.os := mv.os
        refine wpAny_pure (wpAny_pure ⟨rfl, h', tk', rfl, ⟨L, es, ep, t, T, gl⟩, fun b o e => ?_⟩)
        have hb := Heap.lt_size e
        exact mv.heap b o (by
          rw [hI]
          simp only [List.mem_cons, List.not_mem_nil, or_false, not_or]
          exact ⟨Nat.ne_of_lt hb, Nat.ne_of_lt (Nat.lt_succ_of_lt hb)⟩) (Heap.get?_push_of_some _ (Heap.get?_push_of_some _ e))
    · cases r₂ with
      | error e => exact hr₂
      | ok fl₂ =>
      cases fl₂ with
      | ret r =>
        obtain ⟨rfl, h', tk, rfl, ⟨L, es, ep, t, T, gl⟩, hk'⟩ := hr₂
        repeat (any_goals (first | assumption | wp_step))
        exact h _ _ L es ep t T gl hk'
      | _ => exact hr₂.elim
  | _ => exact hr.elim
end
end Go

set_option Elab.async false
set_option linter.all false
set_option maxRecDepth 100000
set_option maxHeartbeats 4000000
namespace Go
open PySem PySem.Spec PyProof.Rows L2
section
variable {X : Cx}
theorem refs_val : ∀ {ks : List (Addr × List Key)} {us : List Value}, Vals (ks.map fun p => V.ref p.1) us → us = ks.map fun p => Value.ref p.1
  | [], _, .nil => rfl
  | p :: ks, _, .cons r t => by
    cases r
    rw [refs_val t]; rfl
theorem inv_tk {pins : List (Addr × Obj)} {σ : L2.St} {H : Hp} {s : Shared} {b : Addr} {k : List Key} (I : Inv X pins σ H s) (h : SqT X.K H b (k.map kV)) : IsTupleKey (mixKind X.prog X.w) s.heap k b := by
  obtain ⟨its, r, ⟨o, ho, hc, n, hd⟩, _⟩ := I.tuple h
  exact ⟨o, its.toArray, n, ho, hc, hd, by simpa using items_are r⟩
def tLenSetT (K : PySem.W.Frag) (ta : TE) : TE := fun σ H Q => ta σ H fun x H1 => ∃ (l : Addr) (ks : List (Addr × List Key)), x = .ref l ∧ SqL K H1 l (ks.map fun p => V.ref p.1) ∧ (∀ p ∈ ks, SqT K H1 p.1 (p.2.map kV)) ∧ ks.length < 63 ∧ Q (.int ((once (ks.map (·.2))).length : Nat)) H1
theorem pe_lenSetT {a : Expr} {ta : TE} {p p2 q pos : Pos} (hr : X.A.units + 64 < cLine) (hg : Gl X "len") (hm : X.mg "len" = none) (hg2 : Gl X "set") (hm2 : X.mg "set" = none) (ha : PE X a ta) (hc : X.calm = true := by rfl)
    (na : starEach [a] X.env = (false, eval a X.env) :: starEach [] X.env := by rfl) : PE X (.Call (.Name "len" p) [.Call (.Name "set" p2) [a] [] q] [] pos) (tLenSetT X.K ta) := by
  refine ⟨fun pins s σ H Q I h => ?_⟩
  refine Call_ (ld_blt I hg hm PySem.boot_len ?_)
  refine PyProof.Rows.callWith_builtin1 (PyProof.Rows.args_cons ?_ rfl) rfl rfl
  refine Call_ (ld_blt I hg2 hm2 PyProof.Rows.boot_set ?_)
  refine PyProof.Rows.callWith_type1 (PyProof.Rows.args_cons (thn (ha.run pins s σ H _ I h) fun v s1 ⟨x, H1, I1, r1, q1⟩ => PyProof.Rows.args_nil ?_) na) na rfl
  obtain ⟨l, ks, rfl, hq, hk, hl, q1⟩ := q1
  cases r1
  obtain ⟨its, r, pl, hz⟩ := I1.list hq
  refine set_of_tups (knd := mixKind X.prog X.w) ks (I1.ok.hd hc) pl.isList (by simpa using refs_val r) (fun p hp => inv_tk I1 (hk p hp)) hl (by omega) fun h' tk L es ep t T gl hkp => ?_
  refine PyProof.Rows.args_nil ?_
  have n1 := rws_len T.rows
  have f1 := T.fits (s := { s1 with heap := h' })
  obtain ⟨o, ho, hex, hd⟩ := T.ob
  have few := T.few
  have I2 : Inv X pins σ H1 { s1 with heap := h', toks := tk } := I1.kept fun b o e => hkp b o e
  exact call_len_set ho hex hd f1 (by rw [n1]; omega) ⟨.int ((once (ks.map (·.2))).length : Nat), H1, I2.tok _, ⟨_, by rw [n1, gl]⟩, q1⟩
theorem w_lenSetT {K : PySem.W.Frag} {σ : L2.St} {H : Hp} {Q : VK} {te : TE} (h : te σ H fun x H1 => ∃ (l : Addr) (ks : List (Addr × List Key)), x = .ref l ∧ SqL K H1 l (ks.map fun p => V.ref p.1) ∧ (∀ p ∈ ks, SqT K H1 p.1 (p.2.map kV)) ∧ ks.length < 63 ∧ Q (.int ((once (ks.map (·.2))).length : Nat)) H1) : tLenSetT K te σ H Q := h
end
end Go

set_option Elab.async false
set_option linter.all false
set_option maxRecDepth 100000
set_option maxHeartbeats 4000000
/-! ### sorted(tuple of texts) -/
namespace Go
open PySem PySem.Spec PyProof.Rows L2
section
variable {prog : Program} {w : World} {A : Around} {E : Value → Shared → Prop} {s : Shared}
theorem collect_tup {l : Addr} {vs : List Value} {Q : List Value → Shared → Prop} (hl : s.heap.IsTuple l vs.toArray)
    (h : Q vs { s with heap := (s.heap.push (seqObj "list" #[] 0)).update s.heap.objs.size (Obj.mapSeq (· ++ vs.toArray)) }) (hsz : vs.length ≤ sizeLine) : wpAny (model prog w) A (collect (.ref l)) Q E s := by
  obtain ⟨o, ho, hc, n, hd⟩ := id hl
  have ho' : (s.heap.push (seqObj "list" #[] 0)).get? l = some o := Heap.get?_push_of_some _ ho
  unfold collect
  refine wpAny_bind (wpAny_runValue (codeAny_builtin entry_proto_collect' ?_))
  show wpAny _ _ (do again (.builtin "list.__iadd__" ⟨[← newList [], .ref l], []⟩)) _ _ s
  refine wpAny_bind (wpAny_newList (wpAny_pure ⟨Code.quiet_builtin _ (by decide +kernel), codeAny_builtin entry_list_iadd' ?_⟩))
  show wpAny _ _ (Builtin.List.listExtendWith (.ref s.heap.objs.size) (.ref l) (.ref s.heap.objs.size)) _ _ { s with heap := s.heap.push (seqObj "list" #[] 0) }
  unfold Builtin.List.listExtendWith
  refine wpAny_bind (wpAny_typeOf (T := "tuple") ⟨o, ho', hc⟩ ?_)
  rw [if_pos (by rw [show (Value.type "tuple" == Value.type "tuple") = true from rfl]; simp)]
  refine wpAny_bind (listItems_at ho' hd ?_)
  refine wpAny_bind (listItems_at (xs := #[]) (n := 0) (Heap.get?_push_size _ rfl) rfl ?_)
  rw [if_neg (by simp)]
  refine wpAny_bind (listUpdate_at (xs := #[]) (n := 0) (Heap.get?_push_size _ rfl) rfl ?_ (Nat.zero_le _) (by show (#[] ++ vs.toArray).size ≤ sizeLine + 1; simp only [Array.size_append, List.size_toArray, List.length_nil]; omega))
  refine wpAny_pure ?_
  show wpAny (model prog w) A (do
      let o ← load s.heap.objs.size
      match o.data with
      | .seq xs _ => pure xs.toList
      | _ => unsupported "internal:collect") Q E { s with heap := (s.heap.push (seqObj "list" #[] 0)).update s.heap.objs.size (Obj.mapSeq (· ++ vs.toArray)) }
  refine wpAny_bind (wpAny_load (get?_update_seq (Heap.get?_push_size _ rfl) _) ?_)
  show wpAny _ _ (pure ((#[] : Array Value) ++ vs.toArray).toList) Q E _
  rw [show ((#[] : Array Value) ++ vs.toArray).toList = vs by simp]
  exact wpAny_pure h
theorem sorted_tupS {l : Addr} {vs : List Value} {ss : List Str} {Q : Value → Shared → Prop} (hl : s.heap.IsTuple l vs.toArray) (hS : StrsAre vs ss) (h64 : vs.length < 64)
    (h : ∀ (out : Array Value) (ss' : List Str), StrsAre out.toList ss' → ss'.Perm ss → sortedS ss' = true → Q (.ref (s.heap.objs.size + 1)) { s with heap := sortedAll s.heap vs out }) :
    wpAny (model prog w) A (call (.builtin "sorted") [.ref l]) Q E s := by
  refine Calls.call_function_entry kind_sorted plain_sorted entry_sorted (args_sorted1 _) ?_
  unfold Builtin.«sorted»
  refine wpAny_bind (m := checkCount "sorted" 1 1 _) (wpAny_pure ?_)
  refine wpAny_bind (collect_tup hl ?_ (by rw [sizeLine_eq]; omega))
  refine wpAny_bind (wpAny_newList ?_ (by rw [sizeLine_eq]; omega))
  have hsz : ((s.heap.push (seqObj "list" #[] 0)).update s.heap.objs.size (Obj.mapSeq (· ++ vs.toArray))).objs.size = s.heap.objs.size + 1 := by
    rw [Heap.size_update, size_push']
  have hoL : (((s.heap.push (seqObj "list" #[] 0)).update s.heap.objs.size (Obj.mapSeq (· ++ vs.toArray))).push (seqObj "list" vs.toArray 0)).get? (s.heap.objs.size + 1) = some (seqObj "list" vs.toArray 0) := by
    rw [← hsz]; exact Heap.get?_push_size _ rfl
  show wpAny _ _ _ _ _ { s with heap := ((s.heap.push (seqObj "list" #[] 0)).update s.heap.objs.size (Obj.mapSeq (· ++ vs.toArray))).push (seqObj "list" vs.toArray 0) }
  rw [hsz]
  refine wpAny_bind (wpAny_holding (wpAny_call_entry slot_list_sort ⟨_, hoL, rfl⟩ entry_list_sort (list_sort_treeK strKind_oneLt hoL hS.keysOf (fun v₁ v₂ rest e => keyKind_strs (by rw [← e]; exact hS)) h64 fun st' a1 a2 => ⟨_, rfl, ?_⟩) (args_list_sort _)))
  obtain ⟨ss', h1, h2, h3⟩ := sorted_out_str hS a1 a2
  exact wpAny_pure ⟨_, rfl, h _ ss' h1 h2 h3⟩
end
section
variable {X : Cx}
def rSortedTS (K : PySem.W.Frag) : List V → Hp → VK → Prop := fun vs H Q => ∃ (a : Addr) (xs : List Str), vs = [V.ref a] ∧ SqT K H a (xs.map V.str) ∧ xs.length < 64 ∧ ∀ (ys : List Str) (p : Addr), ys.Perm xs → sortedS ys = true → H p = none → Q (.ref p) (upd H p (.lst (ys.map V.str)))
theorem cr_sortedTS : CallR X (.builtin "sorted") (rSortedTS X.K) := by
  intro pins s σ H vs us Q I r h
  obtain ⟨a, xs, rfl, hs, h64, q⟩ := h
  obtain ⟨its, rv, hl, _⟩ := I.tuple hs
  rw [Vals.ref1 r]
  have hlen0 := rv.length
  rw [List.length_map] at hlen0
  refine sorted_tupS hl rv.strs (by rw [← hlen0]; exact h64) fun out ys h1 h2 h3 => ?_
  obtain ⟨ep, he'⟩ := PyProof.Rows.sortedAll_at s.heap its out
  have hlen : (ys.map V.str).length ≤ sizeLine := by rw [List.length_map, h2.length_eq]; exact small64 h64
  exact ⟨.ref _, upd H (s.heap.objs.size + 1) (.lst (ys.map V.str)), I.laid (t' := s.toks) (fun _ _ => PyProof.Rows.sortedAll_old) (Nat.le_succ _) ⟨hlen, out.toList, ep, vals_of_strs h1, he'⟩, rfl, q ys _ h2 h3 (I.hok.fresh (Nat.le_succ _))⟩
end
end Go

set_option Elab.async false
set_option linter.all false
set_option maxRecDepth 100000
set_option maxHeartbeats 4000000
/-! ### t[::-1] of a tuple; statements that are never reached -/
namespace Go
open PySem PySem.Spec PyProof.Rows L2
section
variable {prog : Program} {w : World} {A : Around} {E : Value → Shared → Prop} {s : Shared}
theorem applied_rev {sl : Addr} {n : Nat} {vs : Value} {Q : Int × Int × Nat → Shared → Prop} (hs : s.heap.IsSliceOf sl .none .none vs) (ps : IsPart vs (some (-1))) (h : Q ((n : Int) - 1, -1, n) s) : wpAny (model prog w) A (Builtin.Slice.sliceApplied (.ref sl) (pure (n : Int))) Q E s := by
  obtain ⟨os, hos, hcs, hds⟩ := id hs
  unfold Builtin.Slice.sliceApplied Builtin.Slice.sliceFields
  refine wpAny_bind (wpAny_bind (wpAny_field hos hds (x := .none) rfl (wpAny_bind (wpAny_field hos hds (x := .none) rfl (wpAny_bind (wpAny_field hos hds (x := vs) rfl (wpAny_pure ?_)))))))
  refine wpAny_bind (HT.slicePart_ ps ?_)
  show wpAny _ _ (if ((-1 : Int) == 0) = true then _ else _) _ _ s
  rw [if_neg (by decide)]
  refine wpAny_bind (HT.slicePart_ .none (wpAny_bind (HT.slicePart_ .none (wpAny_bind (wpAny_pure ?_)))))
  show wpAny _ _ (pure ((n : Int) - 1, (-1 : Int), Builtin.Slice.slicePlaces ((n : Int) - 1) (-1) (-1))) _ _ s
  have e : Builtin.Slice.slicePlaces ((n : Int) - 1) (-1) (-1) = n := by
    unfold Builtin.Slice.slicePlaces
    rw [if_neg (by decide)]
    split
    · rw [Int.neg_neg, Int.ediv_one]; omega
    · omega
  rw [e]
  exact wpAny_pure h
theorem pick_rev (xs : Array Value) : ((List.range xs.size).filterMap fun (m : Nat) => xs[((xs.size : Int) - 1 + (m : Int) * (-1)).toNat]?).toArray = xs.toList.reverse.toArray := by
  congr 1
  have key : ∀ k, k ≤ xs.size → (List.range k).filterMap (fun (m : Nat) => xs[((xs.size : Int) - 1 + (m : Int) * (-1)).toNat]?) = xs.toList.reverse.take k := by
    intro k
    induction k with
    | zero => intro _; rfl
    | succ k ih =>
      intro hk
      have e1 : ((xs.size : Int) - 1 + (k : Int) * (-1)).toNat = xs.size - 1 - k := by omega
      have hlt : xs.size - 1 - k < xs.size := by omega
      have e2 : xs.toList.reverse[k]? = some xs[xs.size - 1 - k] := by
        rw [List.getElem?_reverse (by rw [Array.length_toList]; omega), Array.length_toList, Array.getElem?_toList, Array.getElem?_eq_getElem hlt]
      rw [List.range_succ, List.filterMap_append, ih (by omega), List.take_add_one, e2, List.filterMap_cons, e1, Array.getElem?_eq_getElem hlt]
      rfl
  rw [key xs.size (Nat.le_refl _), List.take_of_length_le (by rw [List.length_reverse, Array.length_toList]; exact Nat.le_refl _)]
theorem getItem_tuple_rev {t sl : Addr} {items : Array Value} {vs : Value} {Q : Value → Shared → Prop} (ht : IsTup s.heap t items) (hs : s.heap.IsSliceOf sl .none .none vs) (ps : IsPart vs (some (-1)))
    (h : Q (.ref s.heap.objs.size) { s with heap := s.heap.push { cls := .type "tuple", data := .seq items.toList.reverse.toArray } }) (hsz : items.size ≤ sizeLine) : wpAny (model prog w) A (getItem (.ref t) (.ref sl)) Q E s := by
  have htake : sizeOk (.seq items.toList.reverse.toArray) := by
    show items.toList.reverse.toArray.size ≤ sizeLine
    rw [List.size_toArray, List.length_reverse, Array.length_toList]
    exact hsz
  obtain ⟨os, hos, hcs, hds⟩ := id hs
  have hTs : s.TypeIs (.ref sl) "slice" := ⟨os, hos, hcs⟩
  unfold getItem
  try with_reducible refine wpAny_holding ?_
  first | refine wpAny_bind (wpAny_pure ?_) | skip
  refine wpAny_bind (wpAny_sequenceKey ht.typeIs (by decide) ?_)
  refine wpAny_bind (wpAny_callSpecial?_slot (name := Str.ofString "__getitem__") ht.typeIs PyProof.Rows.slot_tuple_getitem
    (wpAny_call_entry PyProof.Rows.slot_tuple_getitem ht.typeIs entry_tuple_getitem ?_ (args_tuple_getitem _ _)))
  show wpAny _ _ (Builtin.Tuple.tupleItemsOf (.ref t) >>= _) _ _ s
  refine wpAny_bind (tupleItemsOf_ ht ?_)
  refine wpAny_bind (wpAny_typeOf hTs ?_)
  rw [if_pos (by decide)]
  refine wpAny_bind (applied_rev hs ps ?_)
  show wpAny _ _ (if (((items.size : Int) - 1) == 0 && (-1 : Int) == 1 && items.size == items.size) = true then _ else _) _ _ s
  rw [if_neg (by simp), pick_rev]
  first
    | exact wpAny_bind (m := Builtin.Tuple.tupleExact _) (wpAny_newObj_type (wpAny_pure ⟨_, rfl, wpAny_pure h⟩) htake)
    | exact wpAny_bind (m := Builtin.Tuple.tupleExact _) (wpAny_newObj_type (wpAny_bind (wpAny_pure (wpAny_pure ⟨_, rfl, wpAny_pure h⟩))) htake)
    | exact wpAny_bind (wpAny_bind (m := Builtin.Tuple.tupleExact _) (wpAny_newObj_type (wpAny_pure (wpAny_pure ⟨_, rfl, wpAny_pure h⟩)) htake))
    | exact wpAny_bind (wpAny_bind (m := Builtin.Tuple.tupleExact _) (wpAny_newObj_type (wpAny_pure ⟨_, rfl, wpAny_pure h⟩) htake))
end
section
variable {X : Cx}
def tRevT (K : PySem.W.Frag) (te : TE) : TE := fun σ H Q => te σ H fun x H1 => ∃ a xs, x = .ref a ∧ SqT K H1 a xs ∧ ∀ p, H1 p = none → Q (.ref p) (upd H1 p (.tup xs.reverse))
theorem pe_revT {e : Expr} {te : TE} {k : Nat} {p1 p2 p3 pos : Pos} (he : PE X e te) : PE X (.Subscript e (.Slice none none (some (.UnaryOp .USub (.Constant (.int 1) k p1) p2)) p3) pos) (tRevT X.K te) := by
  refine ⟨fun pins s σ H Q I h => ?_⟩
  refine Subscript_ (thn (he.run pins s σ H _ I h) fun v s1 ⟨x, H1, I1, r1, q1⟩ => ?_)
  obtain ⟨a, xs, rfl, hx, q⟩ := q1
  cases r1
  have hst : PO X (some (.UnaryOp .USub (.Constant (.int 1) k p1) p2)) (tPart (tUn (rU fun i => .int (-i)) (tC (.int 1)))) := po_some (pe_un un_neg pe_int)
  refine wpAny_Slice (thn (po_none.run pins s1 σ H1 (fun o H2 => o = none ∧ H2 = H1) I1 ⟨rfl, rfl⟩) fun vl s2 ⟨l, H2, I2, pl, el, e2⟩ => ?_)
  subst el e2
  refine thn (po_none.run pins s2 σ H2 (fun o H3 => o = none ∧ H3 = H2) I2 ⟨rfl, rfl⟩) fun vu s3 ⟨u, H3, I3, pu, eu, e3⟩ => ?_
  subst eu e3
  refine thn (hst.run pins s3 σ H3 (fun o H4 => o = some (-1) ∧ H4 = H3) I3 ⟨1, rfl, -1, rfl, rfl, rfl⟩) fun vs s4 ⟨o, H4, I4, ps, eo, e4⟩ => ?_
  subst eo e4
  cases pl
  cases pu
  have I5 : Inv X pins σ H4 { s4 with heap := s4.heap.push { cls := .type "slice", data := .fields #[.none, .none, vs] } } := I4.kept (t' := s4.toks) fun b ob q => Heap.get?_push_of_some _ q
  obtain ⟨its, r, ht, hz⟩ := I5.tuple hx
  have hlen := r.length
  refine tail_any (ops := [.ref a, .ref s4.heap.objs.size]) ht.typeIs (PyProof.Rows.slot_tuple_getitem.lookup) ?_ (by with_unfolding_all rfl)
  refine getItem_tuple_rev ht (Heap.IsSliceOf.new _ .none .none vs) ps ?_ (by rw [List.size_toArray]; omega)
  refine ⟨.ref _, _, I5.laid (t' := s4.toks) (o := .tup xs.reverse) (fun b ob q => Heap.get?_push_of_some _ q) (Nat.le_refl _) ?_, rfl, q _ (I5.hok.fresh (Nat.le_refl _))⟩
  exact ⟨by rw [List.length_reverse]; exact hz, _, by simpa using r.reverse, IsTup.new _ _⟩
/-- a statement that is never reached -/
def tNever : L2.TS := fun _ _ _ => False
theorem ps_never {st : Stmt} : PS X st tNever := ⟨fun _ _ _ _ _ _ h => h.elim⟩
theorem w_revT {K : PySem.W.Frag} {σ : L2.St} {H : Hp} {Q : VK} {te : TE} (h : te σ H fun x H1 => ∃ a xs, x = .ref a ∧ SqT K H1 a xs ∧ ∀ p, H1 p = none → Q (.ref p) (upd H1 p (.tup xs.reverse))) : tRevT K te σ H Q := h
end
end Go

set_option Elab.async false
set_option linter.all false
set_option maxRecDepth 100000
set_option maxHeartbeats 4000000
namespace Go
open PySem PySem.Spec PyProof.Rows L2
theorem un65 {A : Around} {k : Nat} (hr : Room k A) : A.units + 65 < cLine := by
  have := hr.un
  omega
/-! ### defs that may raise -/
def HasX (P : Program) (w : World) (K : PySem.W.Frag) (mg : Str → Option Value) (base : Heap) (x : Str) (k : Nat) (ps : List Str) (sp : Sp) : Prop :=
  ∃ (f : Addr) (fd : FuncData), mg x = some (.ref f) ∧ PySem.W.keepIn K (.ref f) = true ∧ Binds K fd ps [] ∧ FnOk P w K mg base (L2.CX P w) k f fd ps sp
theorem pe_hasX {X : Cx} {W : WX} {x : Str} {p pos : Pos} {e : Expr} {es : List Expr} {t : TA} {k : Nat} {ps : List Str} {sp : Sp} (h : HasX X.prog X.w X.K X.mg X.base x k ps sp) (hr : Room k X.A) (hg : Gl X x) (tk : L2.Takes X W) (ha : PA X (e :: es) t)
    (hd : (x == ("__debug__" : Str)) = false := by decide) (he : starEach (e :: es) X.env = (false, eval e X.env) :: starEach es X.env := by rfl) (hpl : (backTo pos (starEach es X.env)).any (·.1) = false := by rfl) :
    PE X (.Call (.Name x p) (e :: es) [] pos) (tCallS sp (WE W) t) := by
  obtain ⟨f, fd, gm, kp, b, F⟩ := h
  exact pe_callS F hr hg gm kp b (fun σ => passAt tk σ) ha hd he hpl
/-- what is to be known of an own error class -/
structure ExcK (K : PySem.W.Frag) (C : Addr) : Prop where
  q : PySem.W.excIn K C [.type "ValueError", .type "Exception", .type "BaseException", .type "object"] "ValueError.__new__" = true
  kC : PySem.W.keepIn K (.ref C) = true
  s1 : PySem.W.subIn K (.ref C) (.type "BaseException") = some true
  t1 : PySem.W.typeIn K (.ref C) = some (.type "type")
  ec : ExcC K C
def tRaise (E : XK) (C : Addr) : L2.TS := fun _ _ H => E (.ref C) none H
theorem ps_raiseOwn {X : Cx} {E : XK} {C : Addr} {x m : Str} {j : Nat} {p p2 pos pos' : Pos} (hc : X.calm = true) (tk : L2.Takes X (fun cls d _ H => E cls d H)) (k : ExcK X.K C) (gC : X.mg x = some (.ref C)) (hg : Gl X x) (hdb : (x == ("__debug__" : Str)) = false := by decide) :
    PS X (.Raise (some (.Call (.Name x p) [.Constant (.str m) j p2] [] pos)) none pos') (tRaise E C) := L2.ps_raise hc tk (L2.pmk_own PySem.F.excBase_ValueError k.q gC k.kC (raises_own k.s1 k.t1) hg hdb)
/-- isinstance(e, c), isinstance(e, (c, ..)), e the error that the suite holds -/
def rIsX (K : PySem.W.Frag) (D a : Addr) (cls : Value) (d : Option Addr) : List V → Hp → VK → Prop := fun xs H Q => cls = .ref D ∧ d = none ∧ (rIsE K D a xs H Q ∨ ∃ (t : Addr) (cs : List Addr) (b : Bool), xs = [.ref a, .ref t] ∧ SqT K H t (cs.map V.ref) ∧ PySem.W.kitAny K (.ref D) (cs.map Value.ref) = some b ∧ Q (.bl b) H)
theorem refs_of : ∀ {cs : List Addr} {us : List Value}, Vals (cs.map V.ref) us → us = cs.map Value.ref
  | [], us, r => by cases r; rfl
  | c :: cs, us, r => by
    cases r with
    | cons a t =>
      cases a
      rw [refs_of t]; rfl
theorem call_isX {X : Cx} {a D : Addr} {cls : Value} {d : Option Addr} {oe : Obj} {pn : List (Addr × Obj)} (C : ExcC X.K D) (hz : L2.Zc cls d oe) (hf : ∃ vs, oe.data = .fields vs) : CallR (X.suite a ((a, oe) :: pn)) (.builtin "isinstance") (rIsX X.K D a cls d) := by
  intro pins s σ H xs us Q I r h
  obtain ⟨rfl, rfl, h | ⟨t, cs, b, rfl, ht, e, q⟩⟩ := h
  · exact call_isE C hz hf pins s σ H xs us Q I r h
  · cases r with
    | cons rx rr =>
      cases rr with
      | cons rt rr =>
        cases rr
        cases rx
        cases rt
        obtain ⟨its, rv, ⟨o, ho, hc, n, hd⟩, _⟩ := I.tuple ht
        have ei := refs_of rv
        subst ei
        obtain ⟨oc, od, oda, osl⟩ := o
        dsimp only at hc hd
        subst hc hd
        obtain ⟨hget, _⟩ := I.pin (a, oe) (List.mem_append.mpr (.inl List.mem_cons_self))
        obtain ⟨vs, hv⟩ := hf
        have J : PySem.W.InstAt s.heap a oe D none := by
          obtain ⟨oc, od, oda, osl⟩ := oe
          obtain ⟨h1, h2⟩ := hz
          dsimp only at h1 h2 hv
          subst h1 h2 hv
          exact ⟨hget, rfl, rfl, trivial⟩
        exact PySem.W.kia_tup (PySem.W.handS_kitx_exc C.hg C.hk C.hs C.hd C.ha C.hn C.ht C.hm) I.kIn J ho e (fun z => nomatch z) fun tk => ⟨.bl b, H, I.kept (t' := tk) fun _ _ z => z, rfl, q⟩
/-! ### the classes' facts, asked of the written part -/
def excB (K : PySem.W.Frag) (C : Addr) : Bool :=
  PySem.W.excIn K C [.type "ValueError", .type "Exception", .type "BaseException", .type "object"] "ValueError.__new__" && PySem.W.keepIn K (.ref C) && (PySem.W.subIn K (.ref C) (.type "BaseException") == some true) && (PySem.W.typeIn K (.ref C) == some (.type "type")) &&
  (PySem.W.findIn K (.ref C) "__getattribute__" == some (some (.builtin "BaseException.__getattribute__"))) && (PySem.W.findIn K (.ref C) "__getattr__" == some none) && PySem.W.hasDictIn K C && (PySem.W.findIn K (.ref C) "__class__" == some (some (.builtin "object.__class__"))) &&
  (PySem.W.specialIn K (.builtin "object.__class__") "__get__" == some (some (.builtin "getset_descriptor.__get__"))) && (PySem.W.takesIn K (.builtin "object.__class__") == some true) && (PySem.W.mroIn K C (.type "object") == some true)
theorem excB_ok {K : PySem.W.Frag} {C : Addr} (h : excB K C = true) : ExcK K C := by
  unfold excB at h
  simp only [Bool.and_eq_true, beq_iff_eq] at h
  obtain ⟨⟨⟨⟨⟨⟨⟨⟨⟨⟨a1, a2⟩, a3⟩, a4⟩, a5⟩, a6⟩, a7⟩, a8⟩, a9⟩, a10⟩, a11⟩ := h
  exact ⟨a1, a2, a3, a4, ⟨a5, a6, a3, a7, a8, a9, a10, a11⟩⟩
end Go

namespace Sum
open PySem PySem.Spec PyProof.Rows L2 Go
local macro_rules | `(tactic| walk_at "isi") => `(tactic| first
  | with_reducible refine Go.i_int_int ?_
  | with_reducible refine Go.i_int_bool ?_
  | with_reducible refine Go.i_int_str ?_
  | with_reducible refine Go.i_int_list ?_
  | with_reducible refine Go.i_int_tuple ?_
  | with_reducible refine Go.i_bl_int ?_
  | with_reducible refine Go.i_bl_bool ?_
  | with_reducible refine Go.i_bl_str ?_
  | with_reducible refine Go.i_bl_list ?_
  | with_reducible refine Go.i_bl_tuple ?_
  | with_reducible refine Go.i_str_int ?_
  | with_reducible refine Go.i_str_bool ?_
  | with_reducible refine Go.i_str_str ?_
  | with_reducible refine Go.i_str_list ?_
  | with_reducible refine Go.i_str_tuple ?_
  | with_reducible refine Go.i_non_int ?_
  | with_reducible refine Go.i_non_bool ?_
  | with_reducible refine Go.i_non_str ?_
  | with_reducible refine Go.i_non_list ?_
  | with_reducible refine Go.i_non_tuple ?_
  | ((with_reducible refine' Go.i_lst_int ?hh ?_); (case hh => walk_at "heap"))
  | ((with_reducible refine' Go.i_lst_bool ?hh ?_); (case hh => walk_at "heap"))
  | ((with_reducible refine' Go.i_lst_str ?hh ?_); (case hh => walk_at "heap"))
  | ((with_reducible refine' Go.i_lst_list ?hh ?_); (case hh => walk_at "heap"))
  | ((with_reducible refine' Go.i_lst_tuple ?hh ?_); (case hh => walk_at "heap"))
  | ((with_reducible refine' Go.i_tup_int ?hh ?_); (case hh => walk_at "heap"))
  | ((with_reducible refine' Go.i_tup_bool ?hh ?_); (case hh => walk_at "heap"))
  | ((with_reducible refine' Go.i_tup_str ?hh ?_); (case hh => walk_at "heap"))
  | ((with_reducible refine' Go.i_tup_list ?hh ?_); (case hh => walk_at "heap"))
  | ((with_reducible refine' Go.i_tup_tuple ?hh ?_); (case hh => walk_at "heap"))
  | ((with_reducible refine' Go.i_dK_int ?hh ?_); (case hh => walk_at "heap"))
  | ((with_reducible refine' Go.i_dK_bool ?hh ?_); (case hh => walk_at "heap"))
  | ((with_reducible refine' Go.i_dK_str ?hh ?_); (case hh => walk_at "heap"))
  | ((with_reducible refine' Go.i_dK_list ?hh ?_); (case hh => walk_at "heap"))
  | ((with_reducible refine' Go.i_dK_tuple ?hh ?_); (case hh => walk_at "heap")))
local macro_rules | `(tactic| walk_at "heap") => `(tactic| first | assumption | exact upd_same | (refine Go.keep ?_ (by assumption); walk_at "heap") | (refine Go.get (by assumption) ?_; walk_at "heap"))
local macro_rules | `(tactic| walk_at "s") => `(tactic| first
  | with_reducible refine Go.w_seq ?_
  | with_reducible refine Go.w_asg ?_
  | with_reducible refine Go.w_op ?_
  | ((with_reducible refine' Go.w_var ?hh ?_); (case hh => exact rfl))
  | with_reducible refine Go.w_con ?_
  | with_reducible refine Go.w_I0 ?_
  | ((with_reducible refine Go.w_mulI ?hh ?_); (case hh => first | exact Or.inl ⟨by decide, by decide⟩ | exact Or.inr ⟨by decide, by decide⟩))
  | ((with_reducible refine Go.w_modI ?hh ?_); (case hh => first | decide | omega))
  | ((with_reducible refine Go.w_divI ?hh ?_); (case hh => exact ⟨by decide +kernel, by decide +kernel⟩))
  | ((with_reducible refine Go.w_powI ?hh ?_); (case hh => exact ⟨by decide +kernel, by decide +kernel, by decide +kernel⟩))
  | ((with_reducible refine Go.w_shrI ?hh ?_); (case hh => first | decide | omega))
  | with_reducible refine Go.w_if ?_
  | with_reducible refine Go.w_test ?_
  | with_reducible refine Go.w_tB ?_
  | with_reducible refine Go.w_k ?_
  | with_reducible refine Go.w_call ?_
  | with_reducible refine Go.w_cons ?_
  | with_reducible refine Go.w_nil ?_
  | with_reducible refine Go.w_ret ?_
  | with_reducible refine Go.w_cb ?_
  | with_reducible refine Go.w_tup ?_
  | with_reducible refine Go.w_lst ?_
  | ((with_reducible refine Go.w_eq ?hh ?_); (case hh => exact rfl))
  | ((with_reducible refine Go.w_ne ?hh ?_); (case hh => exact rfl))
  | with_reducible refine Go.w_or ?_
  | with_reducible refine Go.w_and ?_
  | with_reducible refine Go.w_not ?_
  | with_reducible refine Go.w_next ?_
  | with_reducible refine Go.w_drop ?_
  | with_reducible refine Go.w_un ?_
  | with_reducible refine Go.w_U ?_
  | with_reducible refine Go.w_orV ?_
  | with_reducible refine Go.w_andV ?_
  | with_reducible refine Go.w_notV ?_
  | with_reducible refine Go.w_orT ?_
  | with_reducible refine Go.w_andT ?_
  | with_reducible refine Go.w_truI ?_
  | with_reducible refine Go.w_isB ?_
  | with_reducible refine Go.w_notB ?_
  | with_reducible refine Go.w_isN ?_
  | with_reducible refine Go.w_notN ?_
  | with_reducible refine Go.w_chain ?_
  | with_reducible refine Go.w_ifE ?_
  | with_reducible refine Go.w_abs ?_
  | with_reducible refine Go.w_intB ?_
  | with_reducible refine Go.w_sub ?_
  | with_reducible refine Go.w_par ?_
  | with_reducible refine Go.w_sl ?_
  | with_reducible refine Go.w_noPart ?_
  | with_reducible refine Go.w_part ?_
  | with_reducible refine Go.w_partI ?_
  | ((with_reducible refine' Go.w_ixT ?h1 ?h2 ?_); (case h1 => (apply Go.sqT; walk_at "heap")); (case h2 => exact rfl))
  | ((with_reducible refine' Go.w_ixL ?h1 ?h2 ?_); (case h1 => (apply Go.sqL; walk_at "heap")); (case h2 => exact rfl))
  | ((with_reducible refine' Go.w_lenT ?h1 ?_); (case h1 => (apply Go.sqT; walk_at "heap")))
  | ((with_reducible refine' Go.w_lenL ?h1 ?_); (case h1 => (apply Go.sqL; walk_at "heap")))
  | ((with_reducible refine' Go.w_ixsT ?h1 ?h2 ?_); (case h1 => (apply Go.sqT; walk_at "heap")); (case h2 => exact rfl))
  | ((with_reducible refine' Go.w_ixsL ?h1 ?h2 ?_); (case h1 => (apply Go.sqL; walk_at "heap")); (case h2 => exact rfl))
  | with_reducible refine Go.w_bm ?_
  | with_reducible refine Go.w_bm0 ?_
  | ((with_reducible refine' Go.w_tyL ?h1 ?_); (case h1 => walk_at "heap"))
  | with_reducible refine Go.w_tyS ?_
  | with_reducible refine Go.w_min2 ?_
  | with_reducible refine Go.w_max2 ?_
  | with_reducible refine Go.w_bits ?_
  | with_reducible refine Go.w_bitsI ?_
  | with_reducible refine Go.w_gName ?_
  | ((with_reducible refine' Go.w_gTup ?h1 ?h2 ?_); (case h1 => (apply Go.sqT; walk_at "heap")); (case h2 => exact rfl))
  | ((with_reducible refine' Go.w_gUnl ?h1 ?h2 ?_); (case h1 => (apply Go.sqL; walk_at "heap")); (case h2 => exact rfl))
  | with_reducible refine Go.w_gCons ?_
  | with_reducible refine Go.w_gNil ?_
  | with_reducible refine Go.w_asgG ?_
  | walk_at "isi"
  | with_reducible refine Go.w_forI ?_
  | with_reducible refine Go.w_iL ?_
  | with_reducible refine Go.w_iT ?_
  | with_reducible refine Go.w_iZT ?_
  | with_reducible refine Go.w_iR1 ?_
  | with_reducible refine Go.w_iR2 ?_
  | with_reducible refine Go.w_lc ?_
  | ((with_reducible refine Go.if_t ?hh ?_); (case hh => exact rfl))
  | ((with_reducible refine Go.if_f ?hh ?_); (case hh => exact rfl)))
local macro_rules | `(tactic| walk_at "go") => `(tactic| repeat (walk_at "s"))

/-! ### promises: what the law draws by -/
def Src (H : Hp) (l : Addr) : Prop := ∃ a b c : Int, H l = some (.lst [.int a, .int b, .int c])
/-- by a draw the source alone has changed -/
structure Dr (l : Addr) (H H' : Hp) : Prop where
  keep : ∀ p o, p ≠ l → H p = some o → H' p = some o
  src0 : Src H l
  src : Src H' l
theorem Dr.trans {l : Addr} {H H1 H2 : Hp} (a : Dr l H H1) (b : Dr l H1 H2) : Dr l H H2 := ⟨fun p o n h => b.keep p o n (a.keep p o n h), a.src0, b.src⟩
theorem Dr.refl {l : Addr} {H : Hp} (s : Src H l) : Dr l H H := ⟨fun _ _ _ h => h, s, s⟩
theorem Dr.tup {l : Addr} {H H' : Hp} {a : Addr} {xs : List V} (d : Dr l H H') (h : H a = some (.tup xs)) : H' a = some (.tup xs) := by
  obtain ⟨x, y, z, e⟩ := d.src0
  exact d.keep a _ (ne_of h e (by intro z; cases z)) h
theorem Dr.free {l : Addr} {H H' : Hp} {p : Addr} (d : Dr l H H') (h : H' p = none) : H p = none := by
  obtain ⟨x, y, z, e⟩ := d.src
  cases q : H p with
  | none => rfl
  | some o =>
    by_cases n : p = l
    · rw [n, e] at h; cases h
    · rw [d.keep p o n q] at h; cases h
theorem Src.ext {l : Addr} {H H' : Hp} (s : Src H l) (e : Same H H') : Src H' l := by
  obtain ⟨x, y, z, h⟩ := s
  exact ⟨x, y, z, e _ _ h⟩
theorem Dr.same {l : Addr} {H H' : Hp} (s : Src H l) (e : Same H H') : Dr l H H' := ⟨fun p o _ h => e p o h, s, s.ext e⟩
theorem Dr.new {l : Addr} {H H' : Hp} {p : Addr} {o : HO} (d : Dr l H H') (hp : H' p = none) : Dr l H (upd H' p o) := d.trans (Dr.same d.src (same_new hp))
theorem Src.new {l : Addr} {H : Hp} {p : Addr} {o : HO} (s : Src H l) (hp : H p = none) : Src (upd H p o) l := s.ext (same_new hp)
/-- what H0 had stays while a thing that H0 had not is drawn by -/
theorem Dr.same_of {l : Addr} {H0 H H' : Hp} (d : Dr l H H') (s : Same H0 H) (hl : H0 l = none) : Same H0 H' := fun p o h => d.keep p o (ne_of_none h hl) (s p o h)
def spCellAt (K : PySem.W.Frag) : Sp := fun vs H Q _ => ∃ (a : Addr) (ns : List Int) (k : Nat), vs = [.ref a, .int k] ∧ SqL K H a (ns.map V.int) ∧ ∀ n : Int, Q (.int n) H
def spBegin : Sp := fun vs H Q _ => ∃ n : Int, vs = [.int n] ∧ ∀ l H', H l = none → Same H H' → Src H' l → Q (.ref l) H'
def spDraw : Sp := fun vs H Q _ => ∃ (l : Addr) (m : Int), vs = [.ref l, .int m] ∧ Src H l ∧ 0 < m ∧ m.natAbs < 2 ^ 200 ∧ ∀ d H', 0 ≤ d → d < m → Dr l H H' → Q (.int d) H'
theorem Src.put {H : Hp} {l D : Addr} {o : HO} (s : Src H l) (n : D ≠ l) : Src (upd H D o) l := by
  obtain ⟨x, y, z, h⟩ := s
  exact ⟨x, y, z, by rw [upd_ne n.symm]; exact h⟩

/-! ### promises: a well to draw from -/
def spMixed : Sp := fun vs H Q _ => ∃ c k : Int, vs = [.int c, .int k] ∧ ∀ n : Int, 0 ≤ n → Q (.int n) H
def spPick : Sp := fun vs H Q _ => ∃ (l p : Addr) (xs : List V), vs = [.ref l, .ref p] ∧ Src H l ∧ H p = some (.lst xs) ∧ p ≠ l ∧ xs ≠ [] ∧ xs.length ≤ 1000 ∧ ∀ v H', v ∈ xs → Dr l H H' → Q v H'
theorem Src.ne_new {H : Hp} {l p : Addr} (s : Src H l) (hp : H p = none) : p ≠ l := fun e => by
  obtain ⟨x, y, z, h⟩ := s
  rw [e, h] at hp; cases hp
theorem _root_.Go.Kd.dr {l : Addr} {H H' : Hp} {v : V} {T : String} (h : Kd H v T) (d : Dr l H H') : Kd H' v T := by
  cases h with
  | int n => exact .int n
  | bl b => exact .bl b
  | str z => exact .str z
  | non => exact .non
  | @lst a xs h =>
    by_cases e : a = l
    · obtain ⟨x, y, z, h2⟩ := d.src
      rw [e]; exact .lst h2
    · exact .lst (d.keep _ _ e h)
  | tup h => exact .tup (d.tup h)
  | @dict a kvs h =>
    obtain ⟨x, y, z, h2⟩ := d.src0
    exact .dict (d.keep _ _ (ne_of h h2 (by intro z; cases z)) h)
/-- a list at D that grows while there is drawn at l: its items are of a kind -/
def Dl (l D : Addr) (H : Hp) (P : V → Prop) (i : Nat) (H' : Hp) : Prop := Dr l H H' ∧ H D = none ∧ D ≠ l ∧ ∃ xs : List V, H' D = some (.lst xs) ∧ xs.length = i ∧ ∀ x ∈ xs, P x
theorem Dl.start {l D : Addr} {H : Hp} {P : V → Prop} (s : Src H l) (hD : H D = none) : Dl l D H P 0 (upd H D (.lst [])) := ⟨(Dr.refl s).new hD, hD, s.ne_new hD, [], upd_same, rfl, fun x hx => by cases hx⟩
theorem Dl.put {l D : Addr} {H H1 H2 : Hp} {P : V → Prop} {i : Nat} {v : V} (f : Dl l D H P i H1) (d : Dr l H1 H2) (hv : P v) (hi : i ≤ 1000) :
    ∃ acc, H2 D = some (.lst acc) ∧ acc.length < sizeLine ∧ Dl l D H P (i + 1) (upd H2 D (.lst (acc ++ [v]))) := by
  obtain ⟨d1, hD, nDl, xs, h1, h2, h3⟩ := f
  have dd := d1.trans d
  refine ⟨_, d.keep _ _ nDl h1, by rw [h2]; exact small1000 hi, ⟨fun b o nb e => ?_, dd.src0, ?_⟩, hD, nDl, xs ++ [v], upd_same, by rw [List.length_append, h2]; rfl, ?_⟩
  · rw [upd_ne (ne_of_none e hD)]
    exact dd.keep b o nb e
  · obtain ⟨x, y, z, h⟩ := dd.src
    exact ⟨x, y, z, by rw [upd_ne nDl.symm]; exact h⟩
  · intro x hx
    rcases List.mem_append.mp hx with h | h
    · exact h3 x h
    · rw [List.mem_singleton.mp h]; exact hv
/-- texts of one sign -/
abbrev sg1 (c : Nat) : Str := ⟨#[c]⟩
theorem signs_of {P : Nat → Prop} : ∀ {xs : List V}, (∀ x ∈ xs, ∃ c, x = one1 c ∧ P c) → ∃ cs : List Nat, xs = (cs.map sg1).map V.str ∧ ∀ c ∈ cs, P c
  | [], _ => ⟨[], rfl, fun c hc => by cases hc⟩
  | x :: xs, h => by
    obtain ⟨c, rfl, hc⟩ := h x (.head _)
    obtain ⟨cs, e, hcs⟩ := signs_of (xs := xs) fun y hy => h y (.tail _ hy)
    refine ⟨c :: cs, by rw [e]; rfl, fun d hd => ?_⟩
    rcases List.mem_cons.mp hd with h | h
    · rw [h]; exact hc
    · exact hcs d h
theorem signs_sum : ∀ cs : List Nat, ((cs.map sg1).map (·.length)).sum = cs.length
  | [] => rfl
  | c :: cs => by
    rw [List.map_cons, List.map_cons, List.sum_cons, signs_sum cs, List.length_cons]
    show 1 + cs.length = cs.length + 1
    omega
theorem joinL_signs : ∀ cs : List Nat, TL.joinL [] (cs.map fun c => [c]) = cs
  | [] => rfl
  | [c] => rfl
  | c :: d :: r => by
    have := joinL_signs (d :: r)
    show [c] ++ ([] ++ TL.joinL [] ((d :: r).map fun c => [c])) = _
    rw [this]; rfl
theorem join_signs (cs : List Nat) : Txt.join ("" : Str) (cs.map sg1) = ⟨cs.toArray⟩ := by
  have e := SX.join_S [] (cs.map fun c => [c])
  rw [joinL_signs, List.map_map] at e
  exact e

-- names: 0:_law_script 1:_law_k
abbrev N_l_cell_at : List Str := ["_law_script", "_law_k"]
def t_l_cell_at (K : PySem.W.Frag) : TS :=
  (tSeq (tIfS (tTest (tOp rLtI (tVar 1) (tCB (Evl.rLenS K) (tCons (tVar 0) tNil)))) (tRet (tOp (rIxL K) (tVar 0) (tVar 1))) tNext)
    (tRet (tC (.int 0))))

-- names: 0:_law_cell 1:_law_k 2:_law_number
abbrev N_l_mixed : List Str := ["_law_cell", "_law_k", "_law_number"]
def t_l_mixed (K : PySem.W.Frag) : TS :=
  (tSeq (tAsg (tOp rModI (tOp rMulI (tOp rAddI (tOp rAddI (tOp rModI (tVar 0) (tC (.int 2147483647))) (tOp rMulI (tC (.int 7919)) (tVar 1))) (tC (.int 1))) (tC (.int 48271))) (tC (.int 2147483647))) (gName 2))
    (tSeq (tAsg (tOp rModI (tOp rMulX (tVar 2) (tOp rAddI (tOp rDivI (tVar 2) (tC (.int 1009))) (tC (.int 69621)))) (tC (.int 2147483647))) (gName 2))
    (tRet (tOp rModI (tOp rMulX (tVar 2) (tOp rAddI (tOp rDivI (tVar 2) (tC (.int 2003))) (tC (.int 40692)))) (tC (.int 2147483399))))))

-- names: 0:_law_cell
abbrev N_l_well : List Str := ["_law_cell"]
def t_l_well (K : PySem.W.Frag) : TS :=
  (tRet (tLst (tCons (tOp (rIxL K) (tLst (tCons (tC (.int 0)) (tCons (tVar 0) tNil))) (tCB rInt1 (tCons (tOp rGeI (tVar 0) (tOp rPowI (tC (.int 10)) (tC (.int 18)))) tNil))) (tCons (tVar 0) (tCons (tC (.int 0)) tNil)))))

-- names: 0:_law_well_here 1:_law_many 2:_law_found
abbrev N_l_draw : List Str := ["_law_well_here", "_law_many", "_law_found"]
def t_l_draw (K : PySem.W.Frag) : TS :=
  (tSeq (tIfS (tTest (tOp rGtI (tOp (rIxL K) (tVar 0) (tC (.int 0))) (tC (.int 0)))) (tSeq (tAsg (tOp rModI (tOp (rIxL K) (tVar 0) (tC (.int 0))) (tVar 1)) (gName 2))
      (tSeq (tAsg (tOp rDivI (tOp (rIxL K) (tVar 0) (tC (.int 0))) (tVar 1)) (gSub (tVar 0) (tC (.int 0)) rSetL))
      (tRet (tVar 2)))) tNext)
    (tSeq (tAsg (tOp rAddI (tOp (rIxL K) (tVar 0) (tC (.int 2))) (tC (.int 1))) (gSub (tVar 0) (tC (.int 2)) rSetL))
    (tRet (tOp rModI (tCall spMixed [] E0 (tCons (tOp (rIxL K) (tVar 0) (tC (.int 1))) (tCons (tOp (rIxL K) (tVar 0) (tC (.int 2))) tNil))) (tVar 1)))))

-- names: 0:_law_well_here 1:_law_some
abbrev N_l_pick : List Str := ["_law_well_here", "_law_some"]
def t_l_pick (K : PySem.W.Frag) : TS :=
  (tRet (tOp (rIxL K) (tVar 1) (tCall spDraw [] E0 (tCons (tVar 0) (tCons (tCB (Evl.rLenS K) (tCons (tVar 1) tNil)) tNil)))))


theorem p_l_cell_at_len {K : PySem.W.Frag} {vs : List V} {H : Hp} {Q : VK} {E : XK} (h : spCellAt K vs H Q E) : vs.length = 2 := by
  obtain ⟨a, ns, k, rfl, _⟩ := h; rfl
theorem p_l_cell_at {K : PySem.W.Frag} {vs : List V} {H : Hp} {Q : VK} {E : XK} (h : spCellAt K vs H Q E) : t_l_cell_at K { nx := fun _ H' => Q .non H', rt := Q } (start N_l_cell_at vs) H := by
  obtain ⟨a, ns, k, rfl, hS, q⟩ := h
  unfold t_l_cell_at
  walk_at "go"
  refine w_lenL hS ?_
  walk_at "go"
  refine if_2 (fun h => ?_) (fun h => ?_)
  · rw [List.length_map] at h
    have hk : k < ns.length := by omega
    walk_at "go"
    refine w_ixL hS (v := .int ns[k]) (atI_nat (by rw [List.getElem?_map, List.getElem?_eq_getElem hk]; rfl)) ?_
    exact q _
  · walk_at "go"
    exact q _
theorem dr_set {l : Addr} {H : Hp} {a b c : Int} (s : Src H l) : Dr l H (upd H l (.lst [.int a, .int b, .int c])) := ⟨fun p o n h => by rw [upd_ne n]; exact h, s, ⟨_, _, _, upd_same⟩⟩
theorem mulS {i j : Int} (h0 : -(2 ^ 64) < i) (h1 : i < 2 ^ 64) (h2 : -(2 ^ 64) < j) (h3 : j < 2 ^ 64) : CMulX i j := by
  have a : i.natAbs < 2 ^ 64 := by omega
  have b : j.natAbs < 2 ^ 64 := by omega
  exact mulx_ok a b (by decide)
/-! ### the laws' loop over the cells -/
theorem ints_cut {ns : List Int} {lo hi : Option Int} : ∀ x ∈ cutV (ns.map V.int) lo hi, ∃ z, x = V.int z := fun x hx => by
  unfold cutV at hx
  have h1 := List.mem_of_mem_drop (List.mem_of_mem_take hx)
  obtain ⟨z, _, e⟩ := List.mem_map.mp h1
  exact ⟨z, e.symm⟩
theorem w_cells {K : PySem.W.Frag} {H : Hp} {a : Addr} {ns : List Int} {N : Int} {j : Nat} {tb : TS} {D : Ends} {σ : L2.St} (Ok : L2.St → Prop) (h0 : Ok σ) (hσ : σ[0]? = some (some (.ref a))) (hS : SqL K H a (ns.map V.int)) (hlen : ns.length ≤ 63)
    (hs : ∀ z σ' H' (N : L2.St → Hp → Prop), Ok σ' → Same H H' → (∀ σ2 H2, Ok σ2 → Same H' H2 → N σ2 H2) → tb { D with nx := N, ct := N, bk := D.nx } (σ'.set j (some (.int z))) H') (hd : ∀ σ' H', Ok σ' → Same H H' → D.nx σ' H') :
    tFor (iList K (tOp rCat (tLst (tCons (tCall (spCellAt K) [] E0 (tCons (tVar 0) (tCons (tC (.int 0)) tNil))) tNil)) (tSl (rSlL K) (tVar 0) (tPart (tC (.int 1))) (tPart (tC (.int N)))))) (gName j) tb D σ H := by
  refine w_forI (w_iL (w_op (w_lst (w_cons (w_call (w_cons (w_var hσ (w_cons (w_con (w_nil ?_))))))))))
  refine ⟨a, ns, 0, rfl, hS, fun n0 => ?_⟩
  walk_at "go"
  refine ⟨by show 1 ≤ sizeLine; decide, fun L1 hL1 => ?_⟩
  refine w_sl (w_var hσ (w_part (w_con (w_partI (w_part (w_con (w_partI ?_)))))))
  refine w_slL ((same_new hL1).seq hS) fun L2 hL2 => ?_
  have cl := cutV_length (ns.map V.int) (some 1) (some N)
  rw [List.length_map] at cl
  refine w_cat (keep upd_same hL2) upd_same (Nat.le_trans (by rw [List.length_singleton]; omega : _ ≤ 1000) (by decide)) fun L hL => ?_
  have hi : ∀ x ∈ [V.int n0] ++ cutV (ns.map V.int) (some 1) (some N), ∃ z, x = V.int z := fun x hx => by
    rcases List.mem_append.mp hx with h | h
    · exact ⟨n0, by simpa using h⟩
    · exact ints_cut x h
  generalize [V.int n0] ++ cutV (ns.map V.int) (some 1) (some N) = xs at *
  have h1 : (upd (upd (upd H L1 (.lst [.int n0])) L2 (.lst (cutV (ns.map V.int) (some 1) (some N)))) L (.lst xs)) L = some (.lst xs) := upd_same
  have s1 : Same H (upd (upd (upd H L1 (.lst [.int n0])) L2 (.lst (cutV (ns.map V.int) (some 1) (some N)))) L (.lst xs)) := same_in (same_in (same_new hL1) hL2) hL
  generalize upd (upd (upd H L1 (.lst [.int n0])) L2 (.lst (cutV (ns.map V.int) (some 1) (some N)))) L (.lst xs) = H0 at *
  refine ⟨L, rfl, ⟨_, sqL h1⟩, for_list (K := K) (a := L) (xs := xs) (fun i σ H' => Ok σ ∧ Same H0 H') ⟨h0, Same.refl _⟩ (fun i σ H' _ P => sqL (P.2 _ _ h1)) ?_ ?_⟩
  · rintro i x σ1 H1 hx ⟨o1, sm⟩
    obtain ⟨z, rfl⟩ := hi x (List.mem_of_getElem? hx)
    exact hs z σ1 H1 _ o1 (s1.trans sm) fun σ2 H2 o2 s2 => ⟨o2, sm.trans s2⟩
  · rintro σ1 H1 ⟨o1, sm⟩
    exact hd σ1 H1 o1 (s1.trans sm)

theorem p_l_well_len {vs : List V} {H : Hp} {Q : VK} {E : XK} (h : spBegin vs H Q E) : vs.length = 1 := by
  obtain ⟨n, rfl, _⟩ := h; rfl
theorem p_l_well {K : PySem.W.Frag} {vs : List V} {H : Hp} {Q : VK} {E : XK} (h : spBegin vs H Q E) : t_l_well K { nx := fun _ H' => Q .non H', rt := Q } (start N_l_well vs) H := by
  obtain ⟨n, rfl, q⟩ := h
  unfold t_l_well
  walk_at "go"
  refine ⟨by show 2 ≤ sizeLine; decide, fun p hp => ?_⟩
  walk_at "go"
  have e : atI [V.int 0, V.int n] (if decide ((10 : Int) ^ (18 : Int).toNat ≤ n) = true then 1 else 0) = some (.int (if decide ((10 : Int) ^ (18 : Int).toNat ≤ n) = true then n else 0)) := by
    split <;> rfl
  refine w_ixL (sqL upd_same) e ?_
  walk_at "go"
  refine ⟨by show 3 ≤ sizeLine; decide, fun l hl => ?_⟩
  exact q l _ (free_of hl) (same_in (same_new hp) hl) ⟨_, _, _, upd_same⟩
theorem p_l_mixed_len {vs : List V} {H : Hp} {Q : VK} {E : XK} (h : spMixed vs H Q E) : vs.length = 2 := by
  obtain ⟨l, m, rfl, _⟩ := h; rfl
theorem p_l_mixed {K : PySem.W.Frag} {vs : List V} {H : Hp} {Q : VK} {E : XK} (h : spMixed vs H Q E) : t_l_mixed K { nx := fun _ H' => Q .non H', rt := Q } (start N_l_mixed vs) H := by
  obtain ⟨b, c, rfl, q⟩ := h
  unfold t_l_mixed
  walk_at "go"
  have e1 : ∀ n : Int, 0 ≤ n % 2147483647 ∧ n % 2147483647 < 2147483647 := fun n => by omega
  generalize hn1 : (b % 2147483647 + 7919 * c + 1) * 48271 % 2147483647 = n1
  have b1 := e1 ((b % 2147483647 + 7919 * c + 1) * 48271)
  rw [hn1] at b1
  have c1 : 0 ≤ n1 / 1009 ∧ n1 / 1009 < 2147483647 := by omega
  refine w_I (mulS (by omega) (by omega) (by omega) (by omega)) ?_
  walk_at "go"
  generalize hn2 : n1 * (n1 / 1009 + 69621) % 2147483647 = n2
  have b2 := e1 (n1 * (n1 / 1009 + 69621))
  rw [hn2] at b2
  have c2 : 0 ≤ n2 / 2003 ∧ n2 / 2003 < 2147483647 := by omega
  refine w_I (mulS (by omega) (by omega) (by omega) (by omega)) ?_
  walk_at "go"
  exact q _ (Int.emod_nonneg _ (by omega))
theorem p_l_draw_len {vs : List V} {H : Hp} {Q : VK} {E : XK} (h : spDraw vs H Q E) : vs.length = 2 := by
  obtain ⟨l, m, rfl, _⟩ := h; rfl
theorem p_l_draw {K : PySem.W.Frag} {vs : List V} {H : Hp} {Q : VK} {E : XK} (h : spDraw vs H Q E) : t_l_draw K { nx := fun _ H' => Q .non H', rt := Q } (start N_l_draw vs) H := by
  obtain ⟨l, m, rfl, hs, hm, bm, q⟩ := h
  obtain ⟨a, b, c, hl⟩ := id hs
  unfold t_l_draw
  walk_at "go"
  refine if_2 (fun h => ?_) (fun h => ?_)
  · walk_at "go"
    refine w_I (wide_div hm bm (by decide) (by decide)) ?_
    walk_at "go"
    refine w_setL hl (j := 0) rfl ?_
    walk_at "go"
    exact q _ _ (Int.emod_nonneg _ (by omega)) (Int.emod_lt_of_pos _ hm) (dr_set hs)
  · walk_at "go"
    refine w_setL hl (j := 2) rfl ?_
    walk_at "go"
    refine ⟨_, _, rfl, fun n hn => ?_⟩
    walk_at "go"
    exact q _ _ (Int.emod_nonneg _ (by omega)) (Int.emod_lt_of_pos _ hm) (dr_set hs)
theorem p_l_pick_len {vs : List V} {H : Hp} {Q : VK} {E : XK} (h : spPick vs H Q E) : vs.length = 2 := by
  obtain ⟨l, m, xs, rfl, _⟩ := h; rfl
theorem p_l_pick {K : PySem.W.Frag} {vs : List V} {H : Hp} {Q : VK} {E : XK} (h : spPick vs H Q E) : t_l_pick K { nx := fun _ H' => Q .non H', rt := Q } (start N_l_pick vs) H := by
  obtain ⟨l, p, xs, rfl, hs, hp, npl, hx, hl, q⟩ := h
  have h0 : 0 < xs.length := by
    cases xs with
    | nil => exact absurd rfl hx
    | cons x xs => exact Nat.zero_lt_succ _
  unfold t_l_pick
  walk_at "go"
  refine ⟨l, _, rfl, hs, by omega, Nat.lt_of_le_of_lt (by rw [Int.natAbs_natCast]; exact hl) (by decide), fun d H1 d0 d1 k1 => ?_⟩
  obtain ⟨n, rfl⟩ := Int.eq_ofNat_of_zero_le d0
  have hn : n < xs.length := by omega
  refine w_ixL (sqL (k1.keep _ _ npl hp)) (atI_nat (List.getElem?_eq_getElem hn)) ?_
  exact q _ _ (List.getElem_mem hn) k1

/-! ### promises: names and numbers -/
def smallC (c : Nat) : Bool := decide (97 ≤ c) && decide (c ≤ 122)
def isNm (z : Str) : Bool := decide (1 ≤ z.length) && decide (z.length ≤ 8) && z.cps.toList.all smallC
def nmV : V → Bool
  | .str z => isNm z
  | _ => false
def numI : V → Bool
  | .int i => decide (-1000000000000 ≤ i) && decide (i ≤ 1000000000000)
  | _ => false
def numsOk (xs : List V) : Bool := decide (1 ≤ xs.length) && decide (xs.length ≤ 3) && xs.all numI
def Kds (H : Hp) (xs : List V) : Prop := ∀ x ∈ xs, ∃ T, Kd H x T
def spIsInt : Sp := fun vs H Q _ => ∃ v T, vs = [v] ∧ Kd H v T ∧ Q (.bl (T == "int")) H
def spIsName : Sp := fun vs H Q _ => ∃ v T, vs = [v] ∧ Kd H v T ∧ (∀ z, v = .str z → z.length ≤ 100000) ∧ ∀ H', Same H H' → Q (.bl (nmV v)) H'
def spIsNumbers : Sp := fun vs H Q _ => ∃ v, vs = [v] ∧ ((∃ a xs, v = .ref a ∧ H a = some (.tup xs) ∧ Kds H xs ∧ ∀ H', Same H H' → Q (.bl (numsOk xs)) H') ∨ ∃ T, Kd H v T ∧ T ≠ "tuple" ∧ Q (.bl false) H)
theorem Kds.same {H H' : Hp} {xs : List V} (h : Kds H xs) (s : Same H H') : Kds H' xs := fun x hx => by
  obtain ⟨T, h⟩ := h x hx
  exact ⟨T, h.same s⟩

-- names: 0:thing
abbrev N_is_int : List Str := ["thing"]
def t_is_int (K : PySem.W.Frag) : TS :=
  (tRet (tAndV (tCB (rIsi K) (tCons (tVar 0) (tCons (tC (.ty "int")) tNil))) (tNotV (tCB (rIsi K) (tCons (tVar 0) (tCons (tC (.ty "bool")) tNil))))))

-- names: 0:thing 1:sign
abbrev N_is_name : List Str := ["thing", "sign"]
def t_is_name (K : PySem.W.Frag) : TS :=
  (tSeq (tIfS (tOr (tNot (tB (tCB (rIsi K) (tCons (tVar 0) (tCons (tC (.ty "str")) tNil))))) (tNot (tTest (tChain rLeI rLeI (tC (.int 1)) (tCB rLenStr (tCons (tVar 0) tNil)) (tC (.int 8)))))) (tRet (tC (.bl false))) tNext)
    (tRet (tCB (rAll K) (tCons (tLc (iStr (tVar 0)) (gName 1) tYes (tOp rInS (tVar 1) (tC (.str ("abcdefghijklmnopqrstuvwxyz" : Str)))) [1]) tNil))))

-- names: 0:thing 1:one
abbrev N_is_numbers : List Str := ["thing", "one"]
def t_is_numbers (K : PySem.W.Frag) : TS :=
  (tSeq (tIfS (tOr (tNot (tB (tCB (rIsi K) (tCons (tVar 0) (tCons (tC (.ty "tuple")) tNil))))) (tNot (tTest (tChain rLeI rLeI (tC (.int 1)) (tCB (Evl.rLenS K) (tCons (tVar 0) tNil)) (tC (.int 3)))))) (tRet (tC (.bl false))) tNext)
    (tRet (tCB (rAll K) (tCons (tLc (iTup K (tVar 0)) (gName 1) tYes (tAndV (tCall spIsInt [] E0 (tCons (tVar 1) tNil)) (tChain rLeI rLeI (tOp rSubI (tC (.int 0)) (tC (.int 1000000000000))) (tVar 1) (tC (.int 1000000000000)))) [1]) tNil))))


theorem p_is_int_len {vs : List V} {H : Hp} {Q : VK} {E : XK} (h : spIsInt vs H Q E) : vs.length = 1 := by
  obtain ⟨v, T, rfl, _⟩ := h; rfl
theorem p_is_name_len {vs : List V} {H : Hp} {Q : VK} {E : XK} (h : spIsName vs H Q E) : vs.length = 1 := by
  obtain ⟨v, T, rfl, _⟩ := h; rfl
theorem p_is_numbers_len {vs : List V} {H : Hp} {Q : VK} {E : XK} (h : spIsNumbers vs H Q E) : vs.length = 1 := by
  obtain ⟨v, rfl, _⟩ := h; rfl
theorem p_is_int {K : PySem.W.Frag} {vs : List V} {H : Hp} {Q : VK} {E : XK} (h : spIsInt vs H Q E) : t_is_int K { nx := fun _ H' => Q .non H', rt := Q } (start N_is_int vs) H := by
  obtain ⟨v, T, rfl, h, q⟩ := h
  unfold t_is_int
  walk_at "go"
  refine k_int h ?_
  walk_at "go"
  cases h with
  | int n => walk_at "go"; exact q
  | bl n => walk_at "go"; exact q
  | str n => walk_at "go"; exact q
  | non => walk_at "go"; exact q
  | lst h => walk_at "go"; exact q
  | tup h => walk_at "go"; exact q
  | dict h => walk_at "go"; exact q
theorem letters_eq : (("abcdefghijklmnopqrstuvwxyz" : Str)).cps.toList = List.range' 97 26 := by decide +kernel
theorem in_letters (c : Nat) : decide (c ∈ (("abcdefghijklmnopqrstuvwxyz" : Str)).cps.toList) = smallC c := by
  rw [letters_eq]
  unfold smallC
  by_cases h1 : 97 ≤ c <;> by_cases h2 : c ≤ 122
  · rw [decide_eq_true h1, decide_eq_true h2]
    exact decide_eq_true (List.mem_range'_1.mpr ⟨h1, by omega⟩)
  · rw [decide_eq_true h1, decide_eq_false h2]
    exact decide_eq_false fun h => by have := List.mem_range'_1.mp h; omega
  · rw [decide_eq_false h1]
    exact decide_eq_false fun h => by have := List.mem_range'_1.mp h; omega
  · rw [decide_eq_false h1]
    exact decide_eq_false fun h => by have := List.mem_range'_1.mp h; omega
/-- truths that are put into a list at D, by turns -/
def Bs (H : Hp) (D : Addr) (bs : List Bool) (i : Nat) (H' : Hp) : Prop := Same H H' ∧ H D = none ∧ H' D = some (.lst ((bs.take i).map V.bl))
theorem Bs.start {H : Hp} {D : Addr} {bs : List Bool} (hD : H D = none) : Bs H D bs 0 (upd H D (.lst [])) := ⟨same_new hD, hD, upd_same⟩
theorem Bs.step {H H1 H2 : Hp} {D : Addr} {bs : List Bool} {i : Nat} {b : Bool} (m : Bs H D bs i H1) (s : Same H1 H2) (hb : bs[i]? = some b) (hl : bs.length ≤ 1000) :
    ∃ acc, H2 D = some (.lst acc) ∧ acc.length < sizeLine ∧ Bs H D bs (i + 1) (upd H2 D (.lst (acc ++ [.bl b]))) := by
  obtain ⟨s0, hD, h1⟩ := m
  refine ⟨_, s _ _ h1, by rw [List.length_map, List.length_take]; exact small1000 (by omega), fun a o e => ?_, hD, ?_⟩
  · rw [upd_ne (ne_of_none e hD)]
    exact s _ _ (s0 _ _ e)
  · rw [upd_same, List.take_add_one, hb, List.map_append]; rfl
theorem Bs.all {K : PySem.W.Frag} {H H1 : Hp} {D : Addr} {bs : List Bool} {n : Nat} {Q : VK} (m : Bs H D bs n H1) (hn : bs.length ≤ n) (q : ∀ H', Same H H' → Q (.bl (bs.all id)) H') : rAll K [.ref D] H1 Q := by
  obtain ⟨s0, hD, h1⟩ := m
  rw [List.take_of_length_le hn] at h1
  exact w_all h1 (q _ s0)
theorem p_is_name {K : PySem.W.Frag} {vs : List V} {H : Hp} {Q : VK} {E : XK} (h : spIsName vs H Q E) : t_is_name K { nx := fun _ H' => Q .non H', rt := Q } (start N_is_name vs) H := by
  obtain ⟨v, T, rfl, h, hz, q⟩ := h
  unfold t_is_name
  walk_at "go"
  refine k_str h ?_
  cases h with
  | str z =>
    have hl := hz z rfl
    walk_at "go"
    refine w_lenStr (Nat.le_trans hl (by decide)) ?_
    walk_at "go"
    have fin : ¬ (1 ≤ z.length ∧ z.length ≤ 8) → Q (.bl false) H := fun n => by
      have := q H (Same.refl _)
      have e : nmV (.str z) = false := by
        show isNm z = false
        unfold isNm
        by_cases h1 : 1 ≤ z.length
        · rw [decide_eq_false (p := z.length ≤ 8) (fun h2 => n ⟨h1, h2⟩), Bool.and_false]; rfl
        · rw [decide_eq_false h1]; rfl
      rw [e] at this
      exact this
    refine if_2 (fun h1 => ?_) (fun h1 => ?_)
    · walk_at "go"
      refine if_n2 (fun h2 => ?_) (fun h2 => ?_)
      · walk_at "go"
        exact fin (by omega)
      · walk_at "go"
        have hl8 : z.cps.size ≤ 8 := by
          have : (z.length : Int) ≤ 8 := h2
          exact Int.ofNat_le.mp this
        refine w_iS ?_
        walk_at "go"
        refine w_iSE fun D hD => lc_it walk_str (Bs H D (z.cps.toList.map smallC)) (Bs.start hD) (fun _ _ _ _ => trivial) ?_ ?_
        · rintro i x H1 H2 hi m ⟨rfl, c, hc, rfl⟩
          walk_at "go"
          refine ⟨rfl, w_yes (if_t rfl ?_)⟩
          walk_at "go"
          refine w_inS ?_
          rw [in_letters]
          exact m.step (Same.refl _) (by rw [List.getElem?_map, Array.getElem?_toList, hc]; rfl) (by rw [List.length_map, Array.length_toList]; omega)
        · rintro H1 m
          walk_at "go"
          refine m.all (by rw [List.length_map, Array.length_toList]; exact Nat.le_refl _) fun H' s' => ?_
          have e : (z.cps.toList.map smallC).all id = nmV (.str z) := by
            show _ = isNm z
            have h1' : 1 ≤ z.length := by omega
            have h2' : z.length ≤ 8 := hl8
            unfold isNm
            rw [decide_eq_true h1', decide_eq_true h2', List.all_map]
            rfl
          rw [e]
          exact q _ s'
    · walk_at "go"
      exact fin (by omega)
  | int n => walk_at "go"; exact q H (Same.refl _)
  | bl n => walk_at "go"; exact q H (Same.refl _)
  | non => walk_at "go"; exact q H (Same.refl _)
  | lst h => walk_at "go"; exact q H (Same.refl _)
  | tup h => walk_at "go"; exact q H (Same.refl _)
  | dict h => walk_at "go"; exact q H (Same.refl _)
theorem p_is_numbers {K : PySem.W.Frag} {vs : List V} {H : Hp} {Q : VK} {E : XK} (h : spIsNumbers vs H Q E) : t_is_numbers K { nx := fun _ H' => Q .non H', rt := Q } (start N_is_numbers vs) H := by
  obtain ⟨v, rfl, ⟨a, xs, rfl, ha, hx, q⟩ | ⟨T, h, hT, q⟩⟩ := h
  · unfold t_is_numbers
    walk_at "go"
    have fin : ¬ (1 ≤ xs.length ∧ xs.length ≤ 3) → Q (.bl false) H := fun n => by
      have := q H (Same.refl _)
      have e : numsOk xs = false := by
        unfold numsOk
        by_cases h1 : 1 ≤ xs.length
        · rw [decide_eq_false (p := xs.length ≤ 3) (fun h2 => n ⟨h1, h2⟩), Bool.and_false]; rfl
        · rw [decide_eq_false h1]; rfl
      rw [e] at this
      exact this
    refine if_2 (fun h1 => ?_) (fun h1 => ?_)
    · walk_at "go"
      refine if_n2 (fun h2 => ?_) (fun h2 => ?_)
      · walk_at "go"
        exact fin (by omega)
      · walk_at "go"
        refine ⟨a, rfl, ⟨_, sqT ha⟩, fun D hD => lc_tup (K := K) (xs := xs) (Bs H D (xs.map numI)) (Bs.start hD) (fun i H' _ m => sqT (m.1 _ _ ha)) ?_ ?_⟩
        · rintro i v H1 hv m
          obtain ⟨T, kd⟩ := hx v (List.mem_of_getElem? hv)
          have st : ∀ b, numI v = b → ∃ acc, H1 D = some (.lst acc) ∧ acc.length < sizeLine ∧ Bs H D (xs.map numI) (i + 1) (upd H1 D (.lst (acc ++ [.bl b]))) := fun b hb => m.step (Same.refl _) (by rw [List.getElem?_map, hv, ← hb]; rfl) (by rw [List.length_map]; omega)
          walk_at "go"
          refine ⟨rfl, w_yes (if_t rfl ?_)⟩
          walk_at "go"
          refine ⟨v, T, rfl, kd.same m.1, ?_⟩
          cases kd with
          | int n =>
            walk_at "go"
            refine if_2 (fun h3 => ?_) (fun h3 => ?_)
            · walk_at "go"
              exact st _ (by
                show (decide _ && _) = _
                rw [decide_eq_true (by omega)]; rfl)
            · walk_at "go"
              exact st _ (by
                show (decide _ && _) = _
                rw [decide_eq_false (by omega)]; rfl)
          | bl n => walk_at "go"; exact st _ rfl
          | str n => walk_at "go"; exact st _ rfl
          | non => walk_at "go"; exact st _ rfl
          | lst h => walk_at "go"; exact st _ rfl
          | tup h => walk_at "go"; exact st _ rfl
          | dict h => walk_at "go"; exact st _ rfl
        · rintro H1 m
          walk_at "go"
          refine m.all (by rw [List.length_map]; exact Nat.le_refl _) fun H' s' => ?_
          have e : (xs.map numI).all id = numsOk xs := by
            unfold numsOk
            rw [decide_eq_true (by omega : 1 ≤ xs.length), decide_eq_true (by omega : xs.length ≤ 3), List.all_map]
            rfl
          rw [e]
          exact q _ s'
    · walk_at "go"
      exact fin (by omega)
  · unfold t_is_numbers
    walk_at "go"
    refine k_tuple h ?_
    cases h with
    | tup h => exact absurd rfl hT
    | int n => walk_at "go"; exact q
    | bl n => walk_at "go"; exact q
    | str n => walk_at "go"; exact q
    | non => walk_at "go"; exact q
    | lst h => walk_at "go"; exact q
    | dict h => walk_at "go"; exact q

/-! ### promises: names and numbers that are drawn -/
def spNames : Sp := fun vs H Q _ => ∃ (l : Addr) (n : Nat), vs = [.ref l, .int (n : Int)] ∧ Src H l ∧ 1 ≤ n ∧ n ≤ 8 ∧ ∀ s (zs : List Str) H', Dr l H H' → H' s = some (.lst (zs.map V.str)) → s ≠ l → H s = none → zs.length = n → (∀ z ∈ zs, isNm z = true) → zs.Nodup → ¬ (("strange" : Str) ∈ zs ∧ ("unheard" : Str) ∈ zs) → Q (.ref s) H'
def farI (n : Int) : Prop := -1000000000000 ≤ n ∧ n ≤ 1000000000000
def spNumbers : Sp := fun vs H Q _ => ∃ (l : Addr) (n : Nat), vs = [.ref l, .int (n : Int)] ∧ Src H l ∧ n ≤ 3 ∧ ∀ s (ns : List Int) H', Dr l H H' → H' s = some (.tup (ns.map V.int)) → ns.length = n → (∀ x ∈ ns, farI x) → Q (.ref s) H'
/-- texts by a function of the turn, put into a list at D -/
def Fs (H : Hp) (D : Addr) (f : Nat → Str) (i : Nat) (H' : Hp) : Prop := Same H H' ∧ H D = none ∧ H' D = some (.lst (((List.range i).map f).map V.str))
theorem Fs.start {H : Hp} {D : Addr} {f : Nat → Str} (hD : H D = none) : Fs H D f 0 (upd H D (.lst [])) := ⟨same_new hD, hD, upd_same⟩
theorem Fs.step {H H1 : Hp} {D : Addr} {f : Nat → Str} {i : Nat} (m : Fs H D f i H1) (hi : i ≤ 1000) :
    ∃ acc, H1 D = some (.lst acc) ∧ acc.length < sizeLine ∧ Fs H D f (i + 1) (upd H1 D (.lst (acc ++ [.str (f i)]))) := by
  obtain ⟨s0, hD, h1⟩ := m
  refine ⟨_, h1, by rw [List.length_map, List.length_map, List.length_range]; exact small1000 hi, fun a o e => ?_, hD, ?_⟩
  · rw [upd_ne (ne_of_none e hD)]
    exact s0 _ _ e
  · rw [upd_same, List.range_succ, List.map_append, List.map_append]; rfl
theorem fs_nodup {f : Nat → Str} {n : Nat} (h : ∀ i j, i < n → j < n → f i = f j → i = j) : ((List.range n).map f).Nodup := by
  refine List.pairwise_map.mpr (List.Pairwise.imp_of_mem (fun {a b} ha hb hne e => hne (h a b (List.mem_range.mp ha) (List.mem_range.mp hb) e)) List.nodup_range)

-- names: 0:_law_well_here 1:_law_many 2:_law_letters 3:_law_words 4:_law_shift 5:_law_way 6:_law_stem 7:_law_at 8:_law_k
abbrev N_l_names : List Str := ["_law_well_here", "_law_many", "_law_letters", "_law_words", "_law_shift", "_law_way", "_law_stem", "_law_at", "_law_k"]
def t_l_names (K : PySem.W.Frag) : TS :=
  (tSeq (tAsg (tC (.str ("abcdefghijklmnopqrstuvwxyz" : Str))) (gName 2))
    (tSeq (tAsg (tSplit (tC (.str ("turn come tie cut set hand web book up held way sure sum" : Str))) (tC (.str (" " : Str)))) (gName 3))
    (tSeq (tAsg (tCall spDraw [] E0 (tCons (tVar 0) (tCons (tC (.int 26)) tNil))) (gName 4))
    (tSeq (tAsg (tCall spDraw [] E0 (tCons (tVar 0) (tCons (tC (.int 4)) tNil))) (gName 5))
    (tSeq (tIfS (tTest (tOp rEq (tVar 5) (tC (.int 0)))) (tRet (tLc (iRng1 (tCons (tVar 1) tNil)) (gName 8) tYes (tOp (rIxL K) (tVar 3) (tOp rModI (tOp rAddI (tVar 4) (tVar 8)) (tC (.int 13)))) [8])) tNext)
    (tSeq (tIfS (tTest (tOp rEq (tVar 5) (tC (.int 1)))) (tRet (tLc (iRng1 (tCons (tVar 1) tNil)) (gName 8) tYes (tOp rRepStr (tOp rIxS (tVar 2) (tVar 4)) (tOp rAddI (tVar 8) (tC (.int 1)))) [8])) tNext)
    (tSeq (tAsg (tJoin K (tC (.str ("" : Str))) (tLc (iRng1 (tCons (tCall spDraw [] E0 (tCons (tVar 0) (tCons (tC (.int 8)) tNil))) tNil)) (gName 8) tYes (tOp rIxS (tVar 2) (tCall spDraw [] E0 (tCons (tVar 0) (tCons (tC (.int 26)) tNil)))) [8])) (gName 6))
    (tSeq (tAsg (tCall spDraw [] E0 (tCons (tVar 0) (tCons (tOp rAddI (tCB rLenStr (tCons (tVar 6) tNil)) (tC (.int 1))) tNil))) (gName 7))
    (tRet (tLc (iRng1 (tCons (tVar 1) tNil)) (gName 8) tYes (tOp rAddStr (tOp rAddStr (tSl rSlS (tVar 6) tNoPart (tPart (tVar 7))) (tOp rIxS (tVar 2) (tOp rModI (tOp rAddI (tVar 4) (tOp rMulI (tC (.int 3)) (tVar 8))) (tC (.int 26))))) (tSl rSlS (tVar 6) (tPart (tVar 7)) tNoPart)) [8]))))))))))

-- names: 0:_law_well_here 1:_law_size 2:_law_found 3:_law_k 4:_law_some
abbrev N_l_numbers : List Str := ["_law_well_here", "_law_size", "_law_found", "_law_k", "_law_some"]
def t_l_numbers (K : PySem.W.Frag) : TS :=
  (tSeq (tAsg (tLst tNil) (gName 2))
    (tSeq (tFor (iRng1 (tCons (tVar 1) tNil)) (gName 3) (tSeq (tAsg (tLst (tCons (tC (.int 0)) (tCons (tOp rSubI (tCall spDraw [] E0 (tCons (tVar 0) (tCons (tC (.int 11)) tNil))) (tC (.int 5))) (tCons (tOp rPowI (tC (.int 10)) (tC (.int 12))) (tCons (tOp rSubI (tC (.int 0)) (tOp rPowI (tC (.int 10)) (tC (.int 12)))) tNil))))) (gName 4))
      (tSeq (tAsg (tOp rCat (tVar 4) (tLst (tCons (tOp rSubI (tCall spDraw [] E0 (tCons (tVar 0) (tCons (tOp rAddI (tOp rMulI (tC (.int 2)) (tOp rPowI (tC (.int 10)) (tC (.int 12)))) (tC (.int 1))) tNil))) (tOp rPowI (tC (.int 10)) (tC (.int 12)))) tNil))) (gName 4))
      (tDrop (tBM K "list" rAppend (tVar 2) (tCons (tOp (rIxL K) (tVar 4) (tCall spDraw [] E0 (tCons (tVar 0) (tCons (tC (.int 5)) tNil)))) tNil))))))
    (tRet (tCB (rTupOf K) (tCons (tVar 2) tNil)))))


theorem letter_at {d : Int} (h0 : 0 ≤ d) (h1 : d < 26) : atI (("abcdefghijklmnopqrstuvwxyz" : Str)).cps.toList d = some (97 + d.toNat) := by
  obtain ⟨n, rfl⟩ := Int.eq_ofNat_of_zero_le h0
  refine atI_nat ?_
  rw [letters_eq, List.getElem?_range' (by omega)]
  simp
theorem cut_len (z : Str) (lo hi : Option Int) : (cutS z lo hi).length ≤ z.length := by
  unfold cutS Str.length
  simp
  omega
theorem cut_list (z : Str) (f : Nat) (h : f ≤ z.length) : (cutS z none (some (f : Int))).cps.toList = z.cps.toList.take f ∧ (cutS z (some (f : Int)) none).cps.toList = z.cps.toList.drop f := by
  have e1 : HT.sIx z.length z.length (some (f : Int)) = f := by
    unfold HT.sIx
    simp
    rw [if_neg (by omega)]
    omega
  have e2 : HT.sIx z.length 0 (some (f : Int)) = f := by
    unfold HT.sIx
    simp
    rw [if_neg (by omega)]
    omega
  have e3 : HT.sIx z.length 0 none = 0 := rfl
  have e4 : HT.sIx z.length z.length none = z.length := rfl
  have lz : z.cps.toList.length = z.length := Array.length_toList
  constructor
  · unfold cutS
    rw [e1, e3, List.drop_zero, Nat.sub_zero]
  · unfold cutS
    rw [e2, e4]
    show (z.cps.toList.drop f).take (z.length - f) = _
    refine List.take_of_length_le ?_
    rw [List.length_drop, lz]
    exact Nat.le_refl _
theorem sz100 {n : Nat} (h : n ≤ 1000) : n ≤ sizeLine := Nat.le_trans h (by decide)
theorem nm_of {z : Str} (h1 : 1 ≤ z.length) (h2 : z.length ≤ 8) (h3 : ∀ c ∈ z.cps.toList, 97 ≤ c ∧ c ≤ 122) : isNm z = true := by
  unfold isNm
  rw [decide_eq_true h1, decide_eq_true h2]
  show z.cps.toList.all smallC = true
  rw [List.all_eq_true]
  intro c hc
  obtain ⟨a, b⟩ := h3 c hc
  unfold smallC
  rw [decide_eq_true a, decide_eq_true b]; rfl
theorem p_l_names_len {vs : List V} {H : Hp} {Q : VK} {E : XK} (h : spNames vs H Q E) : vs.length = 2 := by
  obtain ⟨l, n, rfl, _⟩ := h; rfl
theorem p_l_numbers_len {vs : List V} {H : Hp} {Q : VK} {E : XK} (h : spNumbers vs H Q E) : vs.length = 2 := by
  obtain ⟨l, n, rfl, _⟩ := h; rfl
def wordL : List Str := ["turn", "come", "tie", "cut", "set", "hand", "web", "book", "up", "held", "way", "sure", "sum"]
theorem words_eq : Txt.split ("turn come tie cut set hand web book up held way sure sum" : Str) (" " : Str) = wordL := by decide +kernel
def wordAt (i : Nat) : Str := wordL.getD (i % 13) Str.empty
theorem word_get (i : Nat) : wordL[i % 13]? = some (wordAt i) := by
  have h : i % 13 < wordL.length := Nat.mod_lt _ (by decide)
  unfold wordAt
  rw [List.getD_eq_getElem?_getD, List.getElem?_eq_getElem h]; rfl
theorem word_nm : ∀ i, isNm (wordAt i) = true := fun i => by
  have h : ∀ j, j < 13 → isNm (wordL.getD j Str.empty) = true := by decide +kernel
  exact h _ (Nat.mod_lt _ (by decide))
theorem word_inj : ∀ i j : Nat, wordAt i = wordAt j → i % 13 = j % 13 := fun i j e => by
  have h : ∀ a, a < 13 → ∀ b, b < 13 → wordL.getD a Str.empty = wordL.getD b Str.empty → a = b := by decide +kernel
  exact h _ (Nat.mod_lt _ (by decide)) _ (Nat.mod_lt _ (by decide)) e
theorem mul_list (c n : Nat) : Txt.mul (sg1 c) (n : Int) = ⟨(List.replicate n c).toArray⟩ := by
  have key : ∀ (k : Nat) (acc : Array Nat), (List.replicate k (#[c] : Array Nat)).foldl (· ++ ·) acc = acc ++ (List.replicate k c).toArray := by
    intro k
    induction k with
    | zero => intro acc; simp
    | succ k ih =>
      intro acc
      rw [List.replicate_succ, List.foldl_cons, ih]
      apply Array.toList_inj.mp
      simp [List.replicate_succ]
  unfold Txt.mul
  by_cases h : (n : Int) < 1
  · rw [if_pos h]
    have : n = 0 := by omega
    subst this; rfl
  · rw [if_neg h]
    by_cases h1 : n = 1
    · subst h1; rfl
    · have h2 : (((n : Int) == 1) || ((sg1 c).length == 0)) = false := by
        have : ((n : Int) == 1) = false := by simp; omega
        rw [this]; rfl
      rw [h2]
      show (⟨_⟩ : Str) = _
      rw [Int.toNat_natCast, key]
      simp
theorem strange_word (sh n : Nat) (h : ("strange" : Str) ∈ (List.range n).map fun i => wordAt (sh + i)) : False := by
  obtain ⟨i, _, e⟩ := List.mem_map.mp h
  have hh : ∀ j, j < 13 → ¬ wordL.getD j Str.empty = ("strange" : Str) := by decide +kernel
  exact hh _ (Nat.mod_lt _ (by decide)) e
theorem strange_rep (sh n : Nat) (h : ("strange" : Str) ∈ (List.range n).map fun i => (⟨(List.replicate (i + 1) (97 + sh)).toArray⟩ : Str)) : False := by
  obtain ⟨i, _, e⟩ := List.mem_map.mp h
  have e2 : List.replicate (i + 1) (97 + sh) = ("strange" : Str).cps.toList := congrArg (fun z : Str => z.cps.toList) e
  have hs : ("strange" : Str).cps.toList = [115, 116, 114, 97, 110, 103, 101] := by decide +kernel
  rw [hs] at e2
  have m1 : 115 ∈ List.replicate (i + 1) (97 + sh) := by rw [e2]; simp
  have m2 : 116 ∈ List.replicate (i + 1) (97 + sh) := by rw [e2]; simp
  have := List.eq_of_mem_replicate m1
  have := List.eq_of_mem_replicate m2
  omega
theorem strange_stem {zs : List Str} {as bs : List Nat} (h : ∀ z ∈ zs, ∃ x, z.cps.toList = as ++ x :: bs) (h1 : ("strange" : Str) ∈ zs) (h2 : ("unheard" : Str) ∈ zs) : False := by
  obtain ⟨x, ex⟩ := h _ h1
  obtain ⟨y, ey⟩ := h _ h2
  have hs : ("strange" : Str).cps.toList = [115, 116, 114, 97, 110, 103, 101] := by decide +kernel
  have hu : ("unheard" : Str).cps.toList = [117, 110, 104, 101, 97, 114, 100] := by decide +kernel
  rw [hs] at ex
  rw [hu] at ey
  cases as with
  | cons a as =>
    have e1 := (List.cons.inj ex).1
    have e2 := (List.cons.inj ey).1
    omega
  | nil =>
    have e1 := (List.cons.inj ex).2
    have e2 := (List.cons.inj ey).2
    rw [← e1] at e2
    cases e2
theorem p_l_names {K : PySem.W.Frag} {vs : List V} {H : Hp} {Q : VK} {E : XK} (h : spNames vs H Q E) : t_l_names K { nx := fun _ H' => Q .non H', rt := Q } (start N_l_names vs) H := by
  obtain ⟨l, n, rfl, hs, n1, n8, q⟩ := h
  unfold t_l_names
  walk_at "go"
  refine ⟨⟨_, rfl⟩, _, _, rfl, rfl, rfl, by decide +kernel, ?_⟩
  rw [words_eq]
  intro W hW
  have d1 := (Dr.refl hs).new (o := .lst (wordL.map V.str)) hW
  have nW := hs.ne_new hW
  have hW1 : (upd H W (.lst (wordL.map V.str))) W = some (.lst (wordL.map V.str)) := upd_same
  generalize upd H W (.lst (wordL.map V.str)) = H1 at *
  walk_at "go"
  refine ⟨l, 26, rfl, d1.src, by decide, by decide, fun sh H2 a0 a1 k2 => ?_⟩
  obtain ⟨sh, rfl⟩ := Int.eq_ofNat_of_zero_le a0
  have d2 := d1.trans k2
  have hW2 := k2.keep _ _ nW hW1
  walk_at "go"
  refine ⟨l, 4, rfl, d2.src, by decide, by decide, fun way H3 b0 b1 k3 => ?_⟩
  have d3 := d2.trans k3
  have hW3 := k3.keep _ _ nW hW2
  clear hW1 hW2 k2 k3 d1 d2
  walk_at "go"
  refine if_2 (fun h => ?_) (fun h => ?_)
  · walk_at "go"
    refine ⟨_, rfl, by omega, by omega, fun D hD => ?_⟩
    rw [Int.toNat_natCast]
    refine lc_range (lo := 0) (n := n) (Fs H3 D fun i => wordAt (sh + i)) (Fs.start hD) ?_ ?_
    · rintro i H4 hi m
      walk_at "go"
      refine ⟨rfl, w_yes (if_t rfl ?_)⟩
      walk_at "go"
      have e : ((sh : Int) + (0 + (i : Int))) % 13 = (((sh + i) % 13 : Nat) : Int) := by omega
      rw [e]
      refine w_ixL (sqL (m.1 _ _ hW3)) (atI_nat (by rw [List.getElem?_map, word_get]; rfl)) ?_
      exact m.step (by omega)
    · rintro H4 ⟨s4, hD4, m⟩
      refine q D _ H4 (d3.trans (Dr.same d3.src s4)) m (d3.src.ne_new hD) (d3.free hD) (by rw [List.length_map, List.length_range]) (fun z hz => ?_) (fs_nodup fun i j hi hj e => ?_) (fun ⟨hb, _⟩ => strange_word sh n hb)
      · obtain ⟨i, _, rfl⟩ := List.mem_map.mp hz
        exact word_nm _
      · have := word_inj _ _ e
        omega
  · walk_at "go"
    refine if_2 (fun h2 => ?_) (fun h2 => ?_)
    · walk_at "go"
      refine ⟨_, rfl, by omega, by omega, fun D hD => ?_⟩
      rw [Int.toNat_natCast]
      refine lc_range (lo := 0) (n := n) (Fs H3 D fun i => ⟨(List.replicate (i + 1) (97 + sh)).toArray⟩) (Fs.start hD) ?_ ?_
      · rintro i H4 hi m
        walk_at "go"
        refine ⟨rfl, w_yes (if_t rfl ?_)⟩
        walk_at "go"
        refine w_ixS (by decide +kernel) (letter_at (by omega) (by omega)) ?_
        walk_at "go"
        have e : (0 + (i : Int)) + 1 = ((i + 1 : Nat) : Int) := by omega
        rw [e]
        refine w_rep_str (by show 1 * (i + 1) ≤ 1000; omega) (by omega) ?_
        rw [mul_list, Int.toNat_natCast]
        exact m.step (by omega)
      · rintro H4 ⟨s4, hD4, m⟩
        refine q D _ H4 (d3.trans (Dr.same d3.src s4)) m (d3.src.ne_new hD) (d3.free hD) (by rw [List.length_map, List.length_range]) (fun z hz => ?_) (fs_nodup fun i j hi hj e => ?_) (fun ⟨hb, _⟩ => strange_rep sh n hb)
        · obtain ⟨i, hi, rfl⟩ := List.mem_map.mp hz
          have hi := List.mem_range.mp hi
          have el : Str.length ⟨(List.replicate (i + 1) (97 + sh)).toArray⟩ = i + 1 := by
            show (List.replicate (i + 1) (97 + sh)).toArray.size = i + 1
            simp
          refine nm_of (by omega) (by omega) fun c hc => ?_
          have := (List.mem_replicate.mp hc).2
          omega
        · have e2 := congrArg (fun z : Str => z.cps.toList.length) e
          have e3 : ∀ k : Nat, ((⟨(List.replicate (k + 1) (97 + sh)).toArray⟩ : Str).cps.toList.length) = k + 1 := fun k => List.length_replicate
          have e4 : i + 1 = j + 1 := (e3 i).symm.trans (e2.trans (e3 j))
          omega
    · refine w_seq (w_asg (w_join (w_con (w_strE ?_))))
      walk_at "go"
      refine ⟨l, 8, rfl, d3.src, by decide, by decide, fun d H4 c0 c1 k4 => ?_⟩
      have d4 := d3.trans k4
      have hW4 := k4.keep _ _ nW hW3
      walk_at "go"
      refine ⟨_, rfl, by omega, by omega, fun D hD => ?_⟩
      refine lc_range (lo := 0) (n := d.toNat) (Dl l D H4 fun x => ∃ c, x = one1 c ∧ (97 ≤ c ∧ c ≤ 122)) (Dl.start d4.src hD) ?_ ?_
      · rintro i H5 hi m
        walk_at "go"
        refine ⟨rfl, w_yes (if_t rfl ?_)⟩
        walk_at "go"
        refine ⟨l, 26, rfl, m.1.src, by decide, by decide, fun e H6 e0 e1 k6 => ?_⟩
        refine w_ixS (by decide +kernel) (letter_at e0 e1) ?_
        exact m.put k6 ⟨_, rfl, by omega, by omega⟩ (by omega)
      · rintro H5 ⟨k5, _, nDl, xs, hx, lx, px⟩
        obtain ⟨cs, rfl, pcs⟩ := signs_of px
        have lc : cs.length ≤ 7 := by
          rw [List.length_map, List.length_map] at lx
          omega
        refine ⟨("" : Str), D, cs.map sg1, rfl, rfl, .inl (SqL.of hx), by
          rw [signs_sum, List.length_map]
          show cs.length + cs.length * 0 ≤ 16777216
          omega, ?_⟩
        rw [join_signs]
        have lz : (⟨cs.toArray⟩ : Str).length = cs.length := by
          show cs.toArray.size = cs.length
          simp
        have lt : (⟨cs.toArray⟩ : Str).cps.toList = cs := rfl
        generalize (⟨cs.toArray⟩ : Str) = z at *
        have d5 := d4.trans k5
        walk_at "go"
        refine w_lenStr (sz100 (by omega)) ?_
        walk_at "go"
        refine ⟨l, _, rfl, d5.src, by omega, Nat.lt_of_le_of_lt (by omega : _ ≤ 100) (by decide), fun f H6 f0 f1 k6 => ?_⟩
        obtain ⟨f, rfl⟩ := Int.eq_ofNat_of_zero_le f0
        have d6 := d5.trans k6
        obtain ⟨ct, cd⟩ := cut_list z f (by omega)
        have c1 := cut_len z none (some (f : Int))
        have c2 := cut_len z (some (f : Int)) none
        walk_at "go"
        refine ⟨_, rfl, by omega, by omega, fun D2 hD2 => ?_⟩
        rw [Int.toNat_natCast]
        refine lc_range (lo := 0) (n := n) (Fs H6 D2 fun i => cutS z none (some (f : Int)) ++ sg1 (97 + (sh + 3 * i) % 26) ++ cutS z (some (f : Int)) none) (Fs.start hD2) ?_ ?_
        · rintro i H7 hi m
          walk_at "go"
          refine ⟨rfl, w_yes (if_t rfl ?_)⟩
          walk_at "go"
          refine w_slS (sz100 (by omega)) ?_
          walk_at "go"
          have e : ((sh : Int) + 3 * (0 + (i : Int))) % 26 = (((sh + 3 * i) % 26 : Nat) : Int) := by omega
          rw [e]
          refine w_ixS (by decide +kernel) (letter_at (by omega) (by omega)) ?_
          rw [Int.toNat_natCast]
          have l1 : Str.length { cps := #[97 + (sh + 3 * i) % 26] } = 1 := rfl
          refine w_addStr (sz100 (by omega)) ?_
          walk_at "go"
          refine w_slS (sz100 (by omega)) ?_
          refine w_addStr (sz100 (by rw [Str.length_append]; omega)) ?_
          exact m.step (by omega)
        · rintro H7 ⟨s7, hD7, m⟩
          have tl : ∀ i, (cutS z none (some (f : Int)) ++ sg1 (97 + (sh + 3 * i) % 26) ++ cutS z (some (f : Int)) none).cps.toList = cs.take f ++ (97 + (sh + 3 * i) % 26) :: cs.drop f := fun i => by
            show (_ ++ _ ++ _ : Array Nat).toList = _
            rw [Array.toList_append, Array.toList_append, ct, cd, lt]
            simp
          refine q D2 _ H7 (d6.trans (Dr.same d6.src s7)) m (d6.src.ne_new hD2) (d6.free hD2) (by rw [List.length_map, List.length_range]) (fun w hw => ?_) (fs_nodup fun i j hi hj e => ?_) (fun ⟨hb, hc⟩ => strange_stem (fun z hz => by
            obtain ⟨i, _, rfl⟩ := List.mem_map.mp hz
            exact ⟨_, tl i⟩) hb hc)
          · obtain ⟨i, hi, rfl⟩ := List.mem_map.mp hw
            have ll : (cutS z none (some (f : Int)) ++ sg1 (97 + (sh + 3 * i) % 26) ++ cutS z (some (f : Int)) none).length = cs.length + 1 := by
              have e1 := congrArg List.length (tl i)
              rw [Array.length_toList, List.length_append, List.length_cons, List.length_take, List.length_drop] at e1
              show _ = _
              have : f ≤ cs.length := by omega
              unfold Str.length
              omega
            refine nm_of (by omega) (by omega) fun c hc => ?_
            rw [tl i] at hc
            rcases List.mem_append.mp hc with h | h
            · exact pcs c (List.mem_of_mem_take h)
            · rcases List.mem_cons.mp h with h | h
              · omega
              · exact pcs c (List.mem_of_mem_drop h)
          · have e2 : (cs.take f ++ (97 + (sh + 3 * i) % 26) :: cs.drop f) = cs.take f ++ (97 + (sh + 3 * j) % 26) :: cs.drop f := by
              rw [← tl i, ← tl j]
              exact congrArg (fun z : Str => z.cps.toList) e
            have e3 := (List.cons.inj (List.append_cancel_left e2)).1
            omega
theorem p_l_numbers {K : PySem.W.Frag} {vs : List V} {H : Hp} {Q : VK} {E : XK} (h : spNumbers vs H Q E) : t_l_numbers K { nx := fun _ H' => Q .non H', rt := Q } (start N_l_numbers vs) H := by
  obtain ⟨l, n, rfl, hs, n3, q⟩ := h
  have e12 : (10 : Int) ^ (12 : Int).toNat = 1000000000000 := by decide
  unfold t_l_numbers
  walk_at "go"
  refine ⟨by show 0 ≤ sizeLine; decide, fun D hD => ?_⟩
  have dl := Dl.start (P := fun x => ∃ n, x = V.int n ∧ farI n) hs hD
  walk_at "go"
  refine ⟨_, rfl, by omega, by omega, for_range (lo := 0) (n := n) (fun i σ H' => ∃ y3 y4, σ = [some (.ref l), some (.int n), some (.ref D), y3, y4] ∧ Dl l D H (fun x => ∃ n, x = V.int n ∧ farI n) i H') ⟨_, _, rfl, dl⟩ ?_ ?_⟩
  · rintro i σ H2 hi ⟨y3, y4, rfl, m⟩
    walk_at "go"
    refine ⟨l, 11, rfl, m.1.src, by decide, by decide, fun e H3 e0 e1 k3 => ?_⟩
    walk_at "go"
    refine ⟨by show 4 ≤ sizeLine; decide, fun A hA => ?_⟩
    rw [e12]
    have nA := k3.src.ne_new hA
    have k4 := k3.new (o := .lst [.int 0, .int (e - 5), .int 1000000000000, .int (0 - 1000000000000)]) hA
    walk_at "go"
    refine ⟨l, _, rfl, k4.src, by decide, by decide, fun f H5 f0 f1 k5 => ?_⟩
    rw [e12] at f1
    have hA5 := k5.keep _ _ nA upd_same
    walk_at "go"
    refine ⟨by show 1 ≤ sizeLine; decide, fun B hB => ?_⟩
    rw [e12]
    refine w_cat (keep hA5 hB) upd_same (by show 5 ≤ sizeLine; decide) fun C hC => ?_
    have k6 := ((k4.trans k5).new (o := .lst [.int (f - 1000000000000)]) hB)
    have nC := k6.src.ne_new hC
    have k7 := k6.new (o := .lst ([.int 0, .int (e - 5), .int 1000000000000, .int (0 - 1000000000000)] ++ [.int (f - 1000000000000)])) hC
    obtain ⟨_, hD0, nDl, xs, hx, lx, px⟩ := id m
    have hD7 := k7.keep _ _ nDl hx
    walk_at "go"
    refine ⟨l, 5, rfl, k7.src, by decide, by decide, fun g H8 g0 g1 k8 => ?_⟩
    have hC8 := k8.keep _ _ nC upd_same
    obtain ⟨r, hr, fr⟩ : ∃ r : Int, atI ([V.int 0, .int (e - 5), .int 1000000000000, .int (0 - 1000000000000)] ++ [.int (f - 1000000000000)]) g = some (.int r) ∧ farI r := by
      unfold farI
      rcases (by omega : g = 0 ∨ g = 1 ∨ g = 2 ∨ g = 3 ∨ g = 4) with h | h | h | h | h <;> subst h <;> exact ⟨_, rfl, by omega, by omega⟩
    refine w_ixL (sqL hC8) hr ?_
    walk_at "go"
    obtain ⟨acc, g1, g2, g3⟩ := m.put (k7.trans k8) ⟨r, rfl, fr⟩ (by omega)
    refine w_append g1 g2 ?_
    exact ⟨_, _, rfl, g3⟩
  · rintro σ H2 ⟨y3, y4, rfl, k2, _, nDl, xs, hx, lx, px⟩
    obtain ⟨ns, rfl, pn⟩ : ∃ ns : List Int, xs = ns.map V.int ∧ ∀ n ∈ ns, farI n := by
      clear hx lx
      induction xs with
      | nil => exact ⟨[], rfl, fun n hn => by cases hn⟩
      | cons x xs ih =>
        obtain ⟨n, rfl, fn⟩ := px x (.head _)
        obtain ⟨ns, rfl, pn⟩ := ih fun y hy => px y (.tail _ hy)
        refine ⟨n :: ns, rfl, fun y hy => ?_⟩
        rcases List.mem_cons.mp hy with h | h
        · rw [h]; exact fn
        · exact pn y h
    walk_at "go"
    refine w_tupOfL (sqL hx) fun s hs => ?_
    exact q s ns _ (k2.new hs) upd_same (by rw [List.length_map] at lx; exact lx) pn

/-! ### tuples put together, and parts of them -/
theorem cutV_all {xs : List V} {lo hi : Option Int} (h : HT.sIx xs.length 0 lo = 0 ∧ HT.sIx xs.length xs.length hi = xs.length) : cutV xs lo hi = xs := by
  unfold cutV
  rw [h.1, h.2, List.drop_zero]
  exact List.take_of_length_le (Nat.le_of_eq (Nat.sub_zero _).symm)
theorem w_slA {K : PySem.W.Frag} {H : Hp} {Q : VK} {a : Addr} {xs : List V} {lo hi : Option Int} (h : H a = some (.tup xs)) (q : ∀ p H', Same H H' → H' p = some (.tup (cutV xs lo hi)) → Q (.ref p) H') : rSlA K (.ref a) lo hi H Q := by
  refine ⟨a, xs, rfl, sqT h, fun e => ?_, fun _ p hp => q p _ (same_new hp) upd_same⟩
  exact q a H (Same.refl _) (by rw [cutV_all e]; exact h)
theorem w_catA {K : PySem.W.Frag} {H : Hp} {Q : VK} {a b : Addr} {xs ys : List V} (h : H a = some (.tup xs)) (h' : H b = some (.tup ys)) (hl : xs.length + ys.length ≤ 1000) (q : ∀ p H', Same H H' → H' p = some (.tup (xs ++ ys)) → Q (.ref p) H') : rCatA K (.ref a) (.ref b) H Q := by
  refine ⟨a, b, xs, ys, rfl, rfl, sqT h, sqT h', Nat.le_trans hl (by decide), fun e => ?_, fun _ e => ?_, fun _ _ p hp => q p _ (same_new hp) upd_same⟩
  · exact q b H (Same.refl _) (by rw [e]; exact h')
  · exact q a H (Same.refl _) (by rw [e, List.append_nil]; exact h)
theorem sIx_nat {n f d : Nat} (h : f ≤ n) : HT.sIx n d (some (f : Int)) = f := by
  unfold HT.sIx
  simp
  rw [if_neg (by omega)]
  omega
theorem cut_take {xs : List V} {f : Nat} (h : f ≤ xs.length) : cutV xs none (some (f : Int)) = xs.take f := by
  unfold cutV
  rw [sIx_nat h]
  rfl
theorem cut_drop {xs : List V} {f : Nat} (h : f ≤ xs.length) : cutV xs (some (f : Int)) none = xs.drop f := by
  unfold cutV
  rw [sIx_nat h]
  show (xs.drop f).take (xs.length - f) = _
  refine List.take_of_length_le ?_
  rw [List.length_drop]
  exact Nat.le_refl _
theorem cut_last {xs : List V} (h : 1 ≤ xs.length) : cutV xs none (some (-1)) = xs.dropLast := by
  unfold cutV
  have e : HT.sIx xs.length xs.length (some (-1)) = xs.length - 1 := by
    unfold HT.sIx
    simp
    omega
  rw [e, List.dropLast_eq_take]
  rfl

/-! ### promises: webs that are looked at -/
/-- values that are put into a list at D, by turns -/
def Lv (H : Hp) (D : Addr) (vs : List V) (i : Nat) (H' : Hp) : Prop := Same H H' ∧ H D = none ∧ H' D = some (.lst (vs.take i))
theorem Lv.start {H : Hp} {D : Addr} {vs : List V} (hD : H D = none) : Lv H D vs 0 (upd H D (.lst [])) := ⟨same_new hD, hD, upd_same⟩
theorem Lv.step {H H1 H2 : Hp} {D : Addr} {vs : List V} {i : Nat} {v : V} (m : Lv H D vs i H1) (s : Same H1 H2) (hb : vs[i]? = some v) (hl : vs.length ≤ 1000) :
    ∃ acc, H2 D = some (.lst acc) ∧ acc.length < sizeLine ∧ Lv H D vs (i + 1) (upd H2 D (.lst (acc ++ [v]))) := by
  obtain ⟨s0, hD, h1⟩ := m
  refine ⟨_, s _ _ h1, by rw [List.length_take]; exact small1000 (by omega), fun a o e => ?_, hD, ?_⟩
  · rw [upd_ne (ne_of_none e hD)]
    exact s _ _ (s0 _ _ e)
  · rw [upd_same, List.take_add_one, hb]; rfl
theorem Lv.full {H H' : Hp} {D : Addr} {vs : List V} {n : Nat} (m : Lv H D vs n H') (hn : vs.length ≤ n) : H' D = some (.lst vs) := by
  obtain ⟨_, _, h⟩ := m
  rw [List.take_of_length_le hn] at h
  exact h
/-- two lists, item by item -/
inductive Two {α β : Type} (R : α → β → Prop) : List α → List β → Prop
  | nil : Two R [] []
  | cons {x : α} {y : β} {xs : List α} {ys : List β} (h : R x y) (t : Two R xs ys) : Two R (x :: xs) (y :: ys)
theorem Two.len {α β : Type} {R : α → β → Prop} {xs : List α} {ys : List β} (t : Two R xs ys) : xs.length = ys.length := by
  induction t with
  | nil => rfl
  | cons h t ih => rw [List.length_cons, List.length_cons, ih]
theorem Two.at {α β : Type} {R : α → β → Prop} {xs : List α} {ys : List β} (t : Two R xs ys) : ∀ {i : Nat} {x : α}, xs[i]? = some x → ∃ y, ys[i]? = some y ∧ R x y := by
  induction t with
  | nil => intro i x h; cases h
  | @cons x y xs ys h t ih =>
    intro i z e
    cases i with
    | zero => cases e; exact ⟨y, rfl, h⟩
    | succ i => exact ih e
theorem Two.imp {α β : Type} {R S : α → β → Prop} {xs : List α} {ys : List β} (t : Two R xs ys) (f : ∀ x y, R x y → S x y) : Two S xs ys := by
  induction t with
  | nil => exact .nil
  | cons h t ih => exact .cons (f _ _ h) ih
theorem Two.append {α β : Type} {R : α → β → Prop} {xs xs' : List α} {ys ys' : List β} (t : Two R xs ys) (t' : Two R xs' ys') : Two R (xs ++ xs') (ys ++ ys') := by
  induction t with
  | nil => exact t'
  | cons h t ih => exact .cons h ih
theorem Two.reverse {α β : Type} {R : α → β → Prop} {xs : List α} {ys : List β} (t : Two R xs ys) : Two R xs.reverse ys.reverse := by
  induction t with
  | nil => exact .nil
  | cons h t ih => rw [List.reverse_cons, List.reverse_cons]; exact ih.append (.cons h .nil)
theorem Two.take {α β : Type} {R : α → β → Prop} {xs : List α} {ys : List β} (t : Two R xs ys) : ∀ n, Two R (xs.take n) (ys.take n) := by
  induction t with
  | nil => intro n; rw [List.take_nil, List.take_nil]; exact .nil
  | cons h t ih =>
    intro n
    cases n with
    | zero => exact .nil
    | succ n => exact .cons h (ih n)
theorem Two.drop {α β : Type} {R : α → β → Prop} {xs : List α} {ys : List β} (t : Two R xs ys) : ∀ n, Two R (xs.drop n) (ys.drop n) := by
  induction t with
  | nil => intro n; rw [List.drop_nil, List.drop_nil]; exact .nil
  | cons h t ih =>
    intro n
    cases n with
    | zero => exact .cons h t
    | succ n => exact ih n
theorem Two.map {α β γ : Type} {R : α → β → Prop} {f : γ → α} {g : γ → β} : ∀ {l : List γ}, (∀ x ∈ l, R (f x) (g x)) → Two R (l.map f) (l.map g)
  | [], _ => .nil
  | x :: l, h => .cons (h x (.head _)) (Two.map fun y hy => h y (.tail _ hy))
/-- a thing that is asked whether it is a name -/
def Nj (H : Hp) (v : V) : Prop := (∃ T, Kd H v T) ∧ ∀ z, v = .str z → z.length ≤ 100000
/-- a thing that is asked whether it is numbers: how many -/
def Mj (H : Hp) (v : V) (o : Option Nat) : Prop := (∃ a xs, v = .ref a ∧ H a = some (.tup xs) ∧ Kds H xs ∧ o = if numsOk xs = true then some xs.length else none) ∨ ∃ T, Kd H v T ∧ T ≠ "tuple" ∧ o = none
theorem Nj.same {H H' : Hp} {v : V} (h : Nj H v) (s : Same H H') : Nj H' v := by
  obtain ⟨⟨T, h⟩, z⟩ := h
  exact ⟨⟨T, h.same s⟩, z⟩
theorem Mj.same {H H' : Hp} {v : V} {o : Option Nat} (h : Mj H v o) (s : Same H H') : Mj H' v o := by
  rcases h with ⟨a, xs, e, h, k, eo⟩ | ⟨T, h, n, eo⟩
  · exact .inl ⟨a, xs, e, s _ _ h, k.same s, eo⟩
  · exact .inr ⟨T, h.same s, n, eo⟩
def jHand : V → Option Nat → Option (Str × Nat)
  | .str z, some n => if isNm z = true then some (z, n) else none
  | _, _ => none
def jTie : V → V → Option (Str × Str)
  | .str a, .str b => if (isNm a && isNm b) = true then some (a, b) else none
  | _, _ => none
/-- a thing that is asked whether it is a hand -/
def Hj (H : Hp) (x : V) (j : Option (Str × Nat)) : Prop := (∃ T, Kd H x T ∧ T ≠ "tuple" ∧ j = none) ∨ ∃ a ys, x = .ref a ∧ H a = some (.tup ys) ∧ ((ys.length ≠ 2 ∧ j = none) ∨ ∃ v0 v1 o, ys = [v0, v1] ∧ Nj H v0 ∧ Mj H v1 o ∧ j = jHand v0 o)
/-- a thing that is asked whether it is a tie -/
def Tj (H : Hp) (x : V) (j : Option (Str × Str)) : Prop := (∃ T, Kd H x T ∧ T ≠ "tuple" ∧ j = none) ∨ ∃ a ys, x = .ref a ∧ H a = some (.tup ys) ∧ ((ys.length ≠ 2 ∧ j = none) ∨ ∃ v0 v1, ys = [v0, v1] ∧ Nj H v0 ∧ Nj H v1 ∧ j = jTie v0 v1)
theorem Hj.same {H H' : Hp} {x : V} {j : Option (Str × Nat)} (h : Hj H x j) (s : Same H H') : Hj H' x j := by
  rcases h with ⟨T, h, n, e⟩ | ⟨a, ys, e, h, ⟨n, e2⟩ | ⟨v0, v1, o, e2, h0, h1, e3⟩⟩
  · exact .inl ⟨T, h.same s, n, e⟩
  · exact .inr ⟨a, ys, e, s _ _ h, .inl ⟨n, e2⟩⟩
  · exact .inr ⟨a, ys, e, s _ _ h, .inr ⟨v0, v1, o, e2, h0.same s, h1.same s, e3⟩⟩
theorem Tj.same {H H' : Hp} {x : V} {j : Option (Str × Str)} (h : Tj H x j) (s : Same H H') : Tj H' x j := by
  rcases h with ⟨T, h, n, e⟩ | ⟨a, ys, e, h, ⟨n, e2⟩ | ⟨v0, v1, e2, h0, h1, e3⟩⟩
  · exact .inl ⟨T, h.same s, n, e⟩
  · exact .inr ⟨a, ys, e, s _ _ h, .inl ⟨n, e2⟩⟩
  · exact .inr ⟨a, ys, e, s _ _ h, .inr ⟨v0, v1, e2, h0.same s, h1.same s, e3⟩⟩
def handsOk (js : List (Option (Str × Nat))) : Bool := decide (1 ≤ js.length) && decide (js.length ≤ 8) && js.all Option.isSome && decide ((once (js.filterMap fun j => j.map (·.2))).length ≤ 1) && decide ((once (js.filterMap fun j => j.map (·.1))).length = js.length)
def tieOk (names : List Str) : Option (Str × Str) → Bool
  | some (a, b) => decide (a ≠ b) && decide (a ∈ names) && decide (b ∈ names)
  | none => false
def nrm (a b : Str) : List Str := if sortedS [a, b] = true then [a, b] else [b, a]
def tiesOk (names : List Str) (js : List (Option (Str × Str))) : Bool := js.all (tieOk names) && decide ((once (js.filterMap fun j => j.map fun p => nrm p.1 p.2)).length = js.length)
def spAreHands : Sp := fun vs H Q _ => ∃ v, vs = [v] ∧ ((∃ T, Kd H v T ∧ T ≠ "list" ∧ Q (.bl false) H) ∨ ∃ a xs js, v = .ref a ∧ H a = some (.lst xs) ∧ Two (Hj H) xs js ∧ ∀ H', Same H H' → Q (.bl (handsOk js)) H')
def spIsTie : Sp := fun vs H Q _ => ∃ v n names j, vs = [v, .ref n] ∧ H n = some (.lst (names.map V.str)) ∧ Tj H v j ∧ ∀ H', Same H H' → Q (.bl (tieOk names j)) H'
def spAreTies : Sp := fun vs H Q _ => ∃ v n names, vs = [v, .ref n] ∧ H n = some (.lst (names.map V.str)) ∧ ((∃ T, Kd H v T ∧ T ≠ "list" ∧ Q (.bl false) H) ∨ ∃ a xs js, v = .ref a ∧ H a = some (.lst xs) ∧ xs.length < 63 ∧ Two (Tj H) xs js ∧ ∀ H', Same H H' → Q (.bl (tiesOk names js)) H')

-- names: 0:things 1:one 2:name 3:numbers
abbrev N_are_hands : List Str := ["things", "one", "name", "numbers"]
def t_are_hands (K : PySem.W.Frag) : TS :=
  (tSeq (tIfS (tOr (tNot (tB (tCB (rIsi K) (tCons (tVar 0) (tCons (tC (.ty "list")) tNil))))) (tNot (tTest (tChain rLeI rLeI (tC (.int 1)) (tCB (Evl.rLenS K) (tCons (tVar 0) tNil)) (tC (.int 8)))))) (tRet (tC (.bl false))) tNext)
    (tSeq (tFor (iList K (tVar 0)) (gName 1) (tIfS (tOr (tNot (tB (tCB (rIsi K) (tCons (tVar 1) (tCons (tC (.ty "tuple")) tNil))))) (tOr (tTest (tOp rNe (tCB (Evl.rLenS K) (tCons (tVar 1) tNil)) (tC (.int 2)))) (tOr (tNot (tB (tCall spIsName [] E0 (tCons (tOp (rIxT K) (tVar 1) (tC (.int 0))) tNil)))) (tNot (tB (tCall spIsNumbers [] E0 (tCons (tOp (rIxT K) (tVar 1) (tC (.int 1))) tNil))))))) (tRet (tC (.bl false))) tNext))
    (tSeq (tIfS (tTest (tOp rGtI (tLenSetK K (tLc (iList K (tVar 0)) (gTup K 2 (gCons (gName 2) (gCons (gName 3) gNil))) tYes (tCB (Evl.rLenS K) (tCons (tVar 3) tNil)) [2, 3])) (tC (.int 1)))) (tRet (tC (.bl false))) tNext)
    (tRet (tOp rEq (tLenSetK K (tLc (iList K (tVar 0)) (gTup K 2 (gCons (gName 2) (gCons (gName 3) gNil))) tYes (tVar 2) [2, 3])) (tCB (Evl.rLenS K) (tCons (tVar 0) tNil)))))))

-- names: 0:thing 1:names
abbrev N_is_tie : List Str := ["thing", "names"]
def t_is_tie (K : PySem.W.Frag) : TS :=
  (tSeq (tIfS (tOr (tNot (tB (tCB (rIsi K) (tCons (tVar 0) (tCons (tC (.ty "tuple")) tNil))))) (tOr (tTest (tOp rNe (tCB (Evl.rLenS K) (tCons (tVar 0) tNil)) (tC (.int 2)))) (tOr (tNot (tB (tCall spIsName [] E0 (tCons (tOp (rIxT K) (tVar 0) (tC (.int 0))) tNil)))) (tNot (tB (tCall spIsName [] E0 (tCons (tOp (rIxT K) (tVar 0) (tC (.int 1))) tNil))))))) (tRet (tC (.bl false))) tNext)
    (tRet (tAndV (tOp rNe (tOp (rIxT K) (tVar 0) (tC (.int 0))) (tOp (rIxT K) (tVar 0) (tC (.int 1)))) (tAndV (tOp (rIn K false) (tOp (rIxT K) (tVar 0) (tC (.int 0))) (tVar 1)) (tOp (rIn K false) (tOp (rIxT K) (tVar 0) (tC (.int 1))) (tVar 1))))))

-- names: 0:things 1:names 2:one
abbrev N_are_ties : List Str := ["things", "names", "one"]
def t_are_ties (K : PySem.W.Frag) : TS :=
  (tSeq (tIfS (tOr (tNot (tB (tCB (rIsi K) (tCons (tVar 0) (tCons (tC (.ty "list")) tNil))))) (tNot (tB (tCB (rAll K) (tCons (tLc (iList K (tVar 0)) (gName 2) tYes (tCall spIsTie [] E0 (tCons (tVar 2) (tCons (tVar 1) tNil))) [2]) tNil))))) (tRet (tC (.bl false))) tNext)
    (tRet (tOp rEq (tLenSetT K (tLc (iList K (tVar 0)) (gName 2) tYes (tCB (rTupOf K) (tCons (tCB (rSortedTS K) (tCons (tVar 2) tNil)) tNil)) [2])) (tCB (Evl.rLenS K) (tCons (tVar 0) tNil)))))


theorem p_are_hands_len {vs : List V} {H : Hp} {Q : VK} {E : XK} (h : spAreHands vs H Q E) : vs.length = 1 := by
  obtain ⟨v, rfl, _⟩ := h; rfl
theorem p_is_tie_len {vs : List V} {H : Hp} {Q : VK} {E : XK} (h : spIsTie vs H Q E) : vs.length = 2 := by
  obtain ⟨v, n, ns, j, rfl, _⟩ := h; rfl
theorem p_are_ties_len {vs : List V} {H : Hp} {Q : VK} {E : XK} (h : spAreTies vs H Q E) : vs.length = 2 := by
  obtain ⟨v, n, ns, rfl, _⟩ := h; rfl
theorem Nj.ask {H : Hp} {v : V} {Q : VK} (h : Nj H v) (q : ∀ H', Same H H' → Q (.bl (nmV v)) H') : spIsName [v] H Q E0 := by
  obtain ⟨⟨T, h⟩, hz⟩ := h
  exact ⟨v, T, rfl, h, hz, q⟩
theorem Mj.ask {H : Hp} {v : V} {o : Option Nat} {Q : VK} (h : Mj H v o) (q : ∀ H', Same H H' → Q (.bl o.isSome) H') : spIsNumbers [v] H Q E0 := by
  rcases h with ⟨a, xs, rfl, h, k, rfl⟩ | ⟨T, h, n, rfl⟩
  · refine ⟨_, rfl, .inl ⟨a, xs, rfl, h, k, fun H' s => ?_⟩⟩
    have := q H' s
    cases e : numsOk xs with
    | true => rw [e] at this; exact this
    | false => rw [e] at this; exact this
  · exact ⟨v, rfl, .inr ⟨T, h, n, q H (Same.refl _)⟩⟩
theorem jHand_isSome (v : V) (o : Option Nat) : (jHand v o).isSome = (nmV v && o.isSome) := by
  cases v with
  | str z =>
    cases o with
    | none => show (jHand (.str z) none).isSome = (isNm z && false); rw [Bool.and_false]; rfl
    | some n =>
      show (if isNm z = true then some (z, n) else none).isSome = (isNm z && true)
      cases isNm z <;> rfl
  | _ => rfl
theorem jTie_isSome (v w : V) : (jTie v w).isSome = (nmV v && nmV w) := by
  cases v with
  | str z =>
    cases w with
    | str y =>
      show (if (isNm z && isNm y) = true then some (z, y) else none).isSome = (isNm z && isNm y)
      cases isNm z && isNm y <;> rfl
    | _ => show false = (isNm z && false); rw [Bool.and_false]
  | _ => rfl
theorem all_some {α : Type} : ∀ {js : List (Option α)}, js.all Option.isSome = true → ∃ gs : List α, js = gs.map some
  | [], _ => ⟨[], rfl⟩
  | none :: js, h => by cases h
  | some g :: js, h => by
    obtain ⟨gs, e⟩ := all_some (js := js) (by simpa using h)
    exact ⟨g :: gs, by rw [e]; rfl⟩
theorem all_not {α : Type} {js : List (Option α)} {i : Nat} (h : js[i]? = some none) : js.all Option.isSome = false := by
  rw [List.all_eq_false]
  exact ⟨none, List.mem_of_getElem? h, by simp⟩
theorem all_take {α : Type} {js : List (Option α)} {i : Nat} {x : Option α} (h : (js.take i).all Option.isSome = true) (hx : js[i]? = some x) (h2 : x.isSome = true) : (js.take (i + 1)).all Option.isSome = true := by
  rw [List.take_add_one, hx, List.all_append, h]
  show (true && (x.isSome && true)) = true
  rw [h2]; rfl
theorem fm_some {α β : Type} (gs : List α) (f : α → β) : ((gs.map some).filterMap fun j => j.map f) = gs.map f := by
  induction gs with
  | nil => rfl
  | cons g gs ih => rw [List.map_cons, List.filterMap_cons, ih]; rfl
/-- a hand that is one -/
theorem Hj.good {H : Hp} {x : V} {g : Str × Nat} (h : Hj H x (some g)) : ∃ a b ms, x = .ref a ∧ H a = some (.tup [.str g.1, .ref b]) ∧ H b = some (.tup ms) ∧ ms.length = g.2 := by
  rcases h with ⟨T, h, n, e⟩ | ⟨a, ys, e, h, ⟨n, e2⟩ | ⟨v0, v1, o, rfl, h0, h1, e3⟩⟩
  · cases e
  · cases e2
  · rcases h1 with ⟨b, xs, rfl, hb, k, rfl⟩ | ⟨T, _, _, rfl⟩
    · cases en : numsOk xs with
      | false =>
        rw [en] at e3
        cases v0 <;> cases e3
      | true =>
        rw [en] at e3
        cases v0 with
        | str z =>
          have e4 : some g = if isNm z = true then some (z, xs.length) else none := e3
          cases ez : isNm z with
          | false => rw [ez] at e4; cases e4
          | true =>
            rw [ez] at e4
            cases e4
            exact ⟨a, b, xs, e, h, hb, rfl⟩
        | _ => cases e3
    · cases v0 <;> cases e3
theorem keys_int (ns : List Nat) : ns.map (fun n : Nat => V.int (n : Int)) = (ns.map fun n : Nat => (Sum.inl (n : Int) : Key)).map kV := by
  rw [List.map_map]; rfl
theorem keys_str (zs : List Str) : zs.map V.str = (zs.map fun z => (Sum.inr z : Key)).map kV := by
  rw [List.map_map]; rfl
theorem once_map {α β : Type} [DecidableEq α] [DecidableEq β] {f : α → β} (hf : ∀ x y, f x = f y → x = y) (l : List α) : once (l.map f) = (once l).map f := by
  refine snoc_ind (P := fun l => once (l.map f) = (once l).map f) rfl (fun l x ih => ?_) l
  rw [List.map_append, List.map_cons, List.map_nil, once_snoc, once_snoc, ih]
  have e : (f x ∈ (once l).map f) ↔ x ∈ once l := ⟨fun h => by
    obtain ⟨y, hy, e⟩ := List.mem_map.mp h
    rw [← hf _ _ e]; exact hy, fun h => List.mem_map.mpr ⟨x, h, rfl⟩⟩
  by_cases h : x ∈ once l
  · rw [if_pos h, if_pos (e.mpr h)]
  · rw [if_neg h, if_neg (fun m => h (e.mp m)), List.map_append]; rfl
theorem once_map_len {α β : Type} [DecidableEq α] [DecidableEq β] {f : α → β} (hf : ∀ x y, f x = f y → x = y) (l : List α) : (once (l.map f)).length = (once l).length := by
  rw [once_map hf, List.length_map]
theorem p_are_hands {K : PySem.W.Frag} {vs : List V} {H : Hp} {Q : VK} {E : XK} (h : spAreHands vs H Q E) : t_are_hands K { nx := fun _ H' => Q .non H', rt := Q } (start N_are_hands vs) H := by
  obtain ⟨v, rfl, ⟨T, h, hT, q⟩ | ⟨a, xs, js, rfl, ha, tw, q⟩⟩ := h
  · unfold t_are_hands
    walk_at "go"
    refine k_list h ?_
    cases h with
    | lst h => exact absurd rfl hT
    | int n => walk_at "go"; exact q
    | bl n => walk_at "go"; exact q
    | str n => walk_at "go"; exact q
    | non => walk_at "go"; exact q
    | tup h => walk_at "go"; exact q
    | dict h => walk_at "go"; exact q
  · have hl := tw.len
    unfold t_are_hands
    walk_at "go"
    have fin : ¬ (1 ≤ xs.length ∧ xs.length ≤ 8) → Q (.bl false) H := fun n => by
      have := q H (Same.refl _)
      have e : handsOk js = false := by
        unfold handsOk
        by_cases h1 : 1 ≤ js.length
        · rw [decide_eq_false (p := js.length ≤ 8) (fun h2 => n ⟨by omega, by omega⟩), Bool.and_false]; rfl
        · rw [decide_eq_false h1]; rfl
      rw [e] at this
      exact this
    refine if_2 (fun h1 => ?_) (fun h1 => ?_)
    · walk_at "go"
      refine if_n2 (fun h2 => ?_) (fun h2 => ?_)
      · walk_at "go"
        exact fin (by omega)
      · have l1 : 1 ≤ js.length := by omega
        have l8 : js.length ≤ 8 := by omega
        walk_at "go"
        refine ⟨a, rfl, ⟨_, sqL ha⟩, for_list (K := K) (xs := xs) (fun i σ H' => (∃ y, σ = [some (.ref a), y, none, none]) ∧ Same H H' ∧ (js.take i).all Option.isSome = true) ⟨⟨_, rfl⟩, Same.refl _, rfl⟩ (fun i σ H' _ P => sqL (P.2.1 _ _ ha)) ?_ ?_⟩
        · rintro i x σ H1 hx ⟨⟨y, rfl⟩, s1, al⟩
          obtain ⟨j, hj, hh⟩ := tw.at hx
          have bad : j = none → ∀ H', Same H H' → Q (.bl false) H' := fun e H' s => by
            have := q H' s
            have e2 : handsOk js = false := by
              unfold handsOk
              rw [all_not (i := i) (by rw [hj, e]), Bool.and_false]; rfl
            rw [e2] at this
            exact this
          rcases hh with ⟨T, h, hT, e⟩ | ⟨b, ys, rfl, hb, ⟨n2, e⟩ | ⟨v0, v1, o, rfl, h0, h1, e⟩⟩
          · walk_at "go"
            refine k_tuple (h.same s1) ?_
            cases h with
            | tup h => exact absurd rfl hT
            | int n => walk_at "go"; exact bad e _ s1
            | bl n => walk_at "go"; exact bad e _ s1
            | str n => walk_at "go"; exact bad e _ s1
            | non => walk_at "go"; exact bad e _ s1
            | lst h => walk_at "go"; exact bad e _ s1
            | dict h => walk_at "go"; exact bad e _ s1
          · have hb1 := s1 _ _ hb
            walk_at "go"
            have e1 : (!decide (V.int (ys.length : Int) = V.int 2)) = true := by
              rw [decide_eq_false (fun h => n2 (by have := V.int.inj h; omega))]; rfl
            rw [e1]
            walk_at "go"
            exact bad e _ s1
          · have hb1 := s1 _ _ hb
            walk_at "go"
            refine (h0.same s1).ask fun H2 s2 => ?_
            have hb2 := s2 _ _ hb1
            cases en : nmV v0 with
            | false =>
              walk_at "go"
              refine bad ?_ _ (s1.trans s2)
              have := jHand_isSome v0 o
              rw [en, ← e] at this
              cases j with
              | none => rfl
              | some g => cases this
            | true =>
              walk_at "go"
              refine (h1.same (s1.trans s2)).ask fun H3 s3 => ?_
              have s13 := (s1.trans s2).trans s3
              cases eo : o.isSome with
              | false =>
                walk_at "go"
                refine bad ?_ _ s13
                have := jHand_isSome v0 o
                rw [eo, Bool.and_false, ← e] at this
                cases j with
                | none => rfl
                | some g => cases this
              | true =>
                walk_at "go"
                refine ⟨⟨_, rfl⟩, s13, all_take al hj ?_⟩
                rw [e, jHand_isSome, en, eo]; rfl
        · rintro σ H1 ⟨⟨y, rfl⟩, s1, al⟩
          rw [hl, List.take_of_length_le (Nat.le_refl _)] at al
          obtain ⟨gs, rfl⟩ := all_some al
          have lg : gs.length = xs.length := by rw [hl, List.length_map]
          have eq : handsOk (gs.map some) = (decide ((once (gs.map (·.2))).length ≤ 1) && decide ((once (gs.map (·.1))).length = xs.length)) := by
            unfold handsOk
            rw [decide_eq_true l1, decide_eq_true l8, al, fm_some, fm_some, ← hl]; rfl
          rw [eq] at q
          have ha1 := s1 _ _ ha
          have gd : ∀ i x, xs[i]? = some x → ∃ (g : Str × Nat) (a b : Addr) (ms : List V), gs[i]? = some g ∧ x = V.ref a ∧ H1 a = some (.tup [.str g.1, .ref b]) ∧ H1 b = some (.tup ms) ∧ ms.length = g.2 := fun i x hx => by
            obtain ⟨j, hj, hh⟩ := tw.at hx
            rw [List.getElem?_map] at hj
            cases hg : gs[i]? with
            | none => rw [hg] at hj; cases hj
            | some g =>
              rw [hg] at hj
              cases hj
              obtain ⟨c, b, ms, e, h1, h2, h3⟩ := hh.good
              exact ⟨g, c, b, ms, hg, e, s1 _ _ h1, s1 _ _ h2, h3⟩
          walk_at "go"
          refine w_lenSetK ?_
          walk_at "go"
          refine ⟨a, rfl, ⟨_, sqL ha1⟩, fun D hD => lc_list (K := K) (xs := xs) (Lv H1 D (gs.map fun g => V.int (g.2 : Int))) (Lv.start hD) (fun i H' _ m => sqL (m.1 _ _ ha1)) ?_ ?_⟩
          · rintro i x H2 hx m
            obtain ⟨g, c, b, ms, hg, rfl, h1, h2, h3⟩ := gd i x hx
            have h1 := m.1 _ _ h1
            have h2 := m.1 _ _ h2
            walk_at "go"
            refine ⟨rfl, w_yes (if_t rfl ?_)⟩
            walk_at "go"
            exact m.step (Same.refl _) (by rw [List.getElem?_map, hg, h3]; rfl) (by rw [List.length_map]; omega)
          · rintro H2 m
            have hD2 := m.full (by rw [List.length_map, lg]; exact Nat.le_refl _)
            have s2 := s1.trans m.1
            refine ⟨D, (gs.map (·.2)).map fun n : Nat => (Sum.inl (n : Int) : Key), rfl, ?_, by rw [List.length_map, List.length_map]; omega, ?_⟩
            · rw [← keys_int, List.map_map]; exact sqL hD2
            rw [once_map_len (fun x y e => by have := Sum.inl.inj e; omega)]
            walk_at "go"
            refine if_2 (fun h => ?_) (fun h => ?_)
            · walk_at "go"
              have := q H2 s2
              rw [decide_eq_false (by omega)] at this
              exact this
            · rw [decide_eq_true (by omega : (once (gs.map (·.2))).length ≤ 1)] at q
              have ha2 := s2 _ _ ha
              walk_at "go"
              refine w_lenSetK ?_
              walk_at "go"
              refine ⟨a, rfl, ⟨_, sqL ha2⟩, fun D' hD' => lc_list (K := K) (xs := xs) (Lv H2 D' (gs.map fun g => V.str g.1)) (Lv.start hD') (fun i H' _ m => sqL (m.1 _ _ ha2)) ?_ ?_⟩
              · rintro i x H3 hx m'
                obtain ⟨g, c, b, ms, hg, rfl, h1, h2, h3⟩ := gd i x hx
                have h1 := m'.1 _ _ (m.1 _ _ h1)
                have h2 := m'.1 _ _ (m.1 _ _ h2)
                walk_at "go"
                refine ⟨rfl, w_yes (if_t rfl ?_)⟩
                walk_at "go"
                exact m'.step (Same.refl _) (by rw [List.getElem?_map, hg]; rfl) (by rw [List.length_map]; omega)
              · rintro H3 m'
                have hD3 := m'.full (by rw [List.length_map, lg]; exact Nat.le_refl _)
                have s3 := s2.trans m'.1
                have ha3 := s3 _ _ ha
                refine ⟨D', (gs.map (·.1)).map fun z => (Sum.inr z : Key), rfl, ?_, by rw [List.length_map, List.length_map]; omega, ?_⟩
                · rw [← keys_str, List.map_map]; exact sqL hD3
                rw [once_map_len (fun x y e => Sum.inr.inj e)]
                walk_at "go"
                have e5 : decide (V.int ((once (gs.map (·.1))).length : Int) = V.int (xs.length : Int)) = decide ((once (gs.map (·.1))).length = xs.length) := by
                  apply decide_eq_decide.mpr
                  exact ⟨fun h => by have := V.int.inj h; omega, fun h => by rw [h]⟩
                rw [e5]
                exact q H3 s3
    · walk_at "go"
      exact fin (by omega)
theorem inV_str (z : Str) (names : List Str) : inV (.str z) (names.map V.str) = decide (z ∈ names) := by
  unfold inV
  rw [List.any_map]
  by_cases h : z ∈ names
  · rw [decide_eq_true h, List.any_eq_true]
    exact ⟨z, h, by show (z == z) = true; simp⟩
  · rw [decide_eq_false h, List.any_eq_false]
    intro y hy e
    have e2 : (y == z) = true := e
    exact h (by rw [← eq_of_beq e2]; exact hy)
theorem flat_strs (names : List Str) : (names.map V.str).all flatV = true := by
  rw [List.all_map, List.all_eq_true]
  intro x _; rfl
theorem nmV_str {v : V} (h : nmV v = true) : ∃ z, v = .str z ∧ isNm z = true := by
  cases v with
  | str z => exact ⟨z, rfl, h⟩
  | _ => cases h
theorem p_is_tie {K : PySem.W.Frag} {vs : List V} {H : Hp} {Q : VK} {E : XK} (h : spIsTie vs H Q E) : t_is_tie K { nx := fun _ H' => Q .non H', rt := Q } (start N_is_tie vs) H := by
  obtain ⟨v, n, names, j, rfl, hn, hj, q⟩ := h
  have bad : j = none → ∀ H', Same H H' → Q (.bl false) H' := fun e H' s => by
    have := q H' s
    rw [e] at this
    exact this
  unfold t_is_tie
  rcases hj with ⟨T, h, hT, e⟩ | ⟨b, ys, rfl, hb, ⟨n2, e⟩ | ⟨v0, v1, rfl, h0, h1, e⟩⟩
  · walk_at "go"
    refine k_tuple h ?_
    cases h with
    | tup h => exact absurd rfl hT
    | int n => walk_at "go"; exact bad e _ (Same.refl _)
    | bl n => walk_at "go"; exact bad e _ (Same.refl _)
    | str n => walk_at "go"; exact bad e _ (Same.refl _)
    | non => walk_at "go"; exact bad e _ (Same.refl _)
    | lst h => walk_at "go"; exact bad e _ (Same.refl _)
    | dict h => walk_at "go"; exact bad e _ (Same.refl _)
  · walk_at "go"
    have e1 : (!decide (V.int (ys.length : Int) = V.int 2)) = true := by
      rw [decide_eq_false (fun h => n2 (by have := V.int.inj h; omega))]; rfl
    rw [e1]
    walk_at "go"
    exact bad e _ (Same.refl _)
  · walk_at "go"
    refine h0.ask fun H2 s2 => ?_
    have hb2 := s2 _ _ hb
    cases en : nmV v0 with
    | false =>
      walk_at "go"
      refine bad ?_ _ s2
      have := jTie_isSome v0 v1
      rw [en, ← e] at this
      cases j with
      | none => rfl
      | some g => cases this
    | true =>
      walk_at "go"
      refine (h1.same s2).ask fun H3 s3 => ?_
      have s13 := s2.trans s3
      have hb3 := s3 _ _ hb2
      cases eo : nmV v1 with
      | false =>
        walk_at "go"
        refine bad ?_ _ s13
        have := jTie_isSome v0 v1
        rw [eo, Bool.and_false, ← e] at this
        cases j with
        | none => rfl
        | some g => cases this
      | true =>
        obtain ⟨z0, rfl, i0⟩ := nmV_str en
        obtain ⟨z1, rfl, i1⟩ := nmV_str eo
        have ej : j = some (z0, z1) := by
          rw [e]
          show (if (isNm z0 && isNm z1) = true then some (z0, z1) else none) = _
          rw [i0, i1]; rfl
        rw [ej] at q
        have hn3 := s13 _ _ hn
        have q3 : Q (.bl (decide (z0 ≠ z1) && decide (z0 ∈ names) && decide (z1 ∈ names))) H3 := q H3 s13
        walk_at "go"
        have e1 : (!decide (V.str z0 = V.str z1)) = decide (z0 ≠ z1) := by
          by_cases h : z0 = z1
          · rw [decide_eq_true (by rw [h]), decide_eq_false (fun n => n h)]; rfl
          · rw [decide_eq_false (fun e => h (V.str.inj e)), decide_eq_true h]; rfl
        rw [e1]
        refine if_b (fun c1 => ?_) (fun c1 => ?_)
        · rw [c1] at q3
          walk_at "go"
          refine w_in (.inl (sqL hn3)) rfl (flat_strs _) ?_
          show ∃ k, V.bl (inV _ _) = .bl k ∧ _
          rw [inV_str]
          walk_at "go"
          refine if_b (fun c2 => ?_) (fun c2 => ?_)
          · rw [c2] at q3
            walk_at "go"
            refine w_in (.inl (sqL hn3)) rfl (flat_strs _) ?_
            show Q (V.bl (inV _ _)) _
            rw [inV_str]
            exact q3
          · rw [c2] at q3
            exact q3
        · rw [c1] at q3
          exact q3
theorem sorted2 (a b : Str) : sortedS [a, b] = !decide (b.cps.toList < a.cps.toList) := by
  show (!Spec.ltCps b.cps.toList a.cps.toList && true) = _
  rw [ltCps_eq, Bool.and_true]
theorem str_eq {a b : Str} (h : a.cps.toList = b.cps.toList) : a = b := by
  obtain ⟨a⟩ := a
  obtain ⟨b⟩ := b
  have : a = b := Array.toList_inj.mp h
  rw [this]
theorem sorted_anti {a b : Str} (h1 : sortedS [a, b] = true) (h2 : sortedS [b, a] = true) : a = b := by
  rw [sorted2] at h1 h2
  have n1 : ¬ b.cps.toList < a.cps.toList := by simpa using h1
  have n2 : ¬ a.cps.toList < b.cps.toList := by simpa using h2
  exact str_eq (List.le_antisymm (List.not_lt.mp n1) (List.not_lt.mp n2))
theorem sorted_or (a b : Str) : sortedS [a, b] = true ∨ sortedS [b, a] = true := by
  rw [sorted2, sorted2]
  by_cases h : b.cps.toList < a.cps.toList
  · right
    have : ¬ a.cps.toList < b.cps.toList := List.lt_asymm h
    simpa using this
  · left
    simpa using h
theorem perm_two {α : Type} {ys : List α} {a b : α} (h : ys.Perm [a, b]) : ys = [a, b] ∨ ys = [b, a] := by
  have hl := h.length_eq
  match ys, hl with
  | [x, y], _ =>
    have hx : x ∈ [a, b] := h.mem_iff.mp (.head _)
    rcases List.mem_cons.mp hx with e | e
    · subst e
      have := (List.perm_cons x).mp h
      rw [List.perm_singleton.mp this]
      exact .inl rfl
    · rw [List.mem_singleton] at e
      subst e
      have h2 : [x, y].Perm [x, a] := h.trans (List.Perm.swap _ _ _)
      have := (List.perm_cons x).mp h2
      rw [List.perm_singleton.mp this]
      exact .inr rfl
theorem nrm_of {ys : List Str} {a b : Str} (h : ys.Perm [a, b]) (hs : sortedS ys = true) : ys = nrm a b := by
  unfold nrm
  rcases perm_two h with rfl | rfl
  · rw [if_pos hs]
  · by_cases h2 : sortedS [a, b] = true
    · rw [if_pos h2, sorted_anti h2 hs]
    · rw [if_neg h2]
theorem nrm_perm (a b : Str) : (nrm a b).Perm [a, b] := by
  unfold nrm
  split
  · exact .refl _
  · exact List.Perm.swap _ _ _
theorem nrm_sorted (a b : Str) : sortedS (nrm a b) = true := by
  unfold nrm
  split
  · assumption
  · rename_i h
    exact (sorted_or a b).resolve_left h
theorem nrm_swap (a b : Str) : nrm b a = nrm a b := nrm_of ((nrm_perm b a).trans (List.Perm.swap _ _ _)) (nrm_sorted b a)
theorem nrm_inj {a b c d : Str} (h : nrm a b = nrm c d) : (a = c ∧ b = d) ∨ (a = d ∧ b = c) := by
  have p : [a, b].Perm [c, d] := (nrm_perm a b).symm.trans (h ▸ nrm_perm c d)
  rcases perm_two p with e | e
  · left; cases e; exact ⟨rfl, rfl⟩
  · right; cases e; exact ⟨rfl, rfl⟩
/-- a tie that is one -/
theorem Tj.good {H : Hp} {x : V} {g : Str × Str} (h : Tj H x (some g)) : ∃ a, x = .ref a ∧ H a = some (.tup [.str g.1, .str g.2]) := by
  rcases h with ⟨T, h, n, e⟩ | ⟨a, ys, e, h, ⟨n, e2⟩ | ⟨v0, v1, rfl, h0, h1, e3⟩⟩
  · cases e
  · cases e2
  · have hs := jTie_isSome v0 v1
    rw [← e3] at hs
    obtain ⟨c0, c1⟩ := Bool.and_eq_true_iff.mp hs.symm
    obtain ⟨z0, rfl, i0⟩ := nmV_str c0
    obtain ⟨z1, rfl, i1⟩ := nmV_str c1
    have e4 : some g = if (isNm z0 && isNm z1) = true then some (z0, z1) else none := e3
    rw [i0, i1] at e4
    cases e4
    exact ⟨a, e, h⟩
/-- tuples that are put by turns into a list at D: the normal pairs -/
def Pv2 (H : Hp) (D : Addr) (gs : List (Str × Str)) (i : Nat) (H' : Hp) : Prop := Same H H' ∧ H D = none ∧ ∃ as : List Addr, as.length = i ∧ H' D = some (.lst (as.map V.ref)) ∧ ∀ (k : Nat) (a : Addr) (g : Str × Str), as[k]? = some a → gs[k]? = some g → H' a = some (.tup ((nrm g.1 g.2).map V.str))
theorem p_are_ties {K : PySem.W.Frag} {vs : List V} {H : Hp} {Q : VK} {E : XK} (h : spAreTies vs H Q E) : t_are_ties K { nx := fun _ H' => Q .non H', rt := Q } (start N_are_ties vs) H := by
  obtain ⟨v, n, names, rfl, hn, ⟨T, h, hT, q⟩ | ⟨a, xs, js, rfl, ha, lx, tw, q⟩⟩ := h
  · unfold t_are_ties
    walk_at "go"
    refine k_list h ?_
    cases h with
    | lst h => exact absurd rfl hT
    | int n => walk_at "go"; exact q
    | bl n => walk_at "go"; exact q
    | str n => walk_at "go"; exact q
    | non => walk_at "go"; exact q
    | tup h => walk_at "go"; exact q
    | dict h => walk_at "go"; exact q
  · have hl := tw.len
    unfold t_are_ties
    walk_at "go"
    refine ⟨a, rfl, ⟨_, sqL ha⟩, fun D hD => lc_list (K := K) (xs := xs) (Bs H D (js.map (tieOk names))) (Bs.start hD) (fun i H' _ m => sqL (m.1 _ _ ha)) ?_ ?_⟩
    · rintro i x H1 hx m
      obtain ⟨j, hj, hh⟩ := tw.at hx
      walk_at "go"
      refine ⟨rfl, w_yes (if_t rfl ?_)⟩
      walk_at "go"
      refine ⟨x, n, names, j, rfl, m.1 _ _ hn, hh.same m.1, fun H2 s2 => ?_⟩
      exact m.step s2 (by rw [List.getElem?_map, hj]; rfl) (by rw [List.length_map]; omega)
    · rintro H1 m
      walk_at "go"
      refine m.all (by rw [List.length_map]; omega) fun H2 s2 => ?_
      have e0 : (js.map (tieOk names)).all id = js.all (tieOk names) := by rw [List.all_map]; rfl
      rw [e0]
      have eq : tiesOk names js = (js.all (tieOk names) && decide ((once (js.filterMap fun j => j.map fun p => nrm p.1 p.2)).length = js.length)) := rfl
      rw [eq] at q
      cases ec : js.all (tieOk names) with
      | false =>
        rw [ec] at q
        walk_at "go"
        exact q H2 s2
      | true =>
        rw [ec] at q
        have al : js.all Option.isSome = true := by
          rw [List.all_eq_true] at ec ⊢
          intro j hj
          have := ec j hj
          cases j with
          | none => cases this
          | some g => rfl
        obtain ⟨gs, rfl⟩ := all_some al
        have lg : gs.length = xs.length := by rw [hl, List.length_map]
        rw [fm_some, List.length_map, lg] at q
        have ha2 := s2 _ _ ha
        have gd : ∀ i x, xs[i]? = some x → ∃ (g : Str × Str) (a : Addr), gs[i]? = some g ∧ x = V.ref a ∧ H2 a = some (.tup [.str g.1, .str g.2]) := fun i x hx => by
          obtain ⟨j, hj, hh⟩ := tw.at hx
          rw [List.getElem?_map] at hj
          cases hg : gs[i]? with
          | none => rw [hg] at hj; cases hj
          | some g =>
            rw [hg] at hj
            cases hj
            obtain ⟨c, e, h1⟩ := hh.good
            exact ⟨g, c, hg, e, s2 _ _ h1⟩
        walk_at "go"
        refine w_lenSetT ?_
        walk_at "go"
        refine ⟨a, rfl, ⟨_, sqL ha2⟩, fun D' hD' => lc_list (K := K) (xs := xs) (Pv2 H2 D' gs) ⟨same_new hD', hD', [], rfl, upd_same, fun k a g h => by cases h⟩ (fun i H' _ m => sqL (m.1 _ _ ha2)) ?_ ?_⟩
        · rintro i x H3 hx ⟨s3, hD3, as, la, h3, ht⟩
          obtain ⟨g, c, hg, rfl, hc⟩ := gd i x hx
          have hc3 := s3 _ _ hc
          walk_at "go"
          refine ⟨rfl, w_yes (if_t rfl ?_)⟩
          walk_at "go"
          refine ⟨c, [g.1, g.2], rfl, sqT hc3, by show 2 < 64; decide, fun ys p py sy hp => ?_⟩
          rw [nrm_of py sy]
          walk_at "go"
          refine w_tupOfL (sqL upd_same) fun t ht' => ?_
          have i1 : i < xs.length := (List.getElem?_eq_some_iff.mp hx).1
          refine ⟨as.map V.ref, keep (keep h3 hp) ht', by rw [List.length_map, la]; exact small1000 (by omega), ⟨fun b o e => ?_, hD3, as ++ [t], by rw [List.length_append, la]; rfl, ?_, ?_⟩⟩
          · rw [upd_ne (ne_of_none e hD3)]
            exact keep (keep (s3 _ _ e) hp) ht'
          · rw [upd_same, List.map_append]; rfl
          · intro k b g' hk hg'
            have nD : ∀ {b : Addr} {ws : List V}, (upd (upd H3 p (.lst ((nrm g.1 g.2).map V.str))) t (.tup ((nrm g.1 g.2).map V.str))) b = some (.tup ws) → b ≠ D' := fun hb e => by
              rw [e, keep (keep h3 hp) ht'] at hb
              cases hb
            by_cases hk2 : k < as.length
            · rw [List.getElem?_append_left hk2] at hk
              have hb := ht k b g' hk hg'
              have hb2 := keep (u := HO.tup ((nrm g.1 g.2).map V.str)) (keep (u := HO.lst ((nrm g.1 g.2).map V.str)) hb hp) ht'
              rw [upd_ne (nD hb2)]
              exact hb2
            · have hk3 : k = as.length := by
                have := (List.getElem?_eq_some_iff.mp hk).1
                rw [List.length_append, List.length_singleton] at this
                omega
              subst hk3
              rw [List.getElem?_append_right (Nat.le_refl _), Nat.sub_self] at hk
              cases hk
              rw [la, hg] at hg'
              cases hg'
              have hb2 : (upd (upd H3 p (.lst ((nrm g.1 g.2).map V.str))) t (.tup ((nrm g.1 g.2).map V.str))) t = some (.tup ((nrm g.1 g.2).map V.str)) := upd_same
              rw [upd_ne (nD hb2)]
              exact hb2
        · rintro H3 ⟨s3, hD3, as, la, h3, ht⟩
          have ek : (as.zip (gs.map fun g => (nrm g.1 g.2).map fun z => (Sum.inr z : Key))).map (fun p => V.ref p.1) = as.map V.ref := by
            have : (as.zip (gs.map fun g => (nrm g.1 g.2).map fun z => (Sum.inr z : Key))).map Prod.fst = as := List.map_fst_zip (by rw [List.length_map]; omega)
            have e9 := congrArg (List.map V.ref) this
            rw [List.map_map] at e9
            exact e9
          have ek2 : (as.zip (gs.map fun g => (nrm g.1 g.2).map fun z => (Sum.inr z : Key))).map (·.2) = gs.map fun g => (nrm g.1 g.2).map fun z => (Sum.inr z : Key) := List.map_snd_zip (by rw [List.length_map]; omega)
          refine ⟨D', as.zip (gs.map fun g => (nrm g.1 g.2).map fun z => (Sum.inr z : Key)), rfl, ?_, ?_, ?_, ?_⟩
          · rw [ek]; exact sqL h3
          · intro p hp
            obtain ⟨k, hk⟩ := List.getElem?_of_mem hp
            rw [List.getElem?_zip_eq_some] at hk
            obtain ⟨k1, k2⟩ := hk
            rw [List.getElem?_map] at k2
            cases hg : gs[k]? with
            | none => rw [hg] at k2; cases k2
            | some g =>
              rw [hg] at k2
              have e2 : p.2 = (nrm g.1 g.2).map fun z => (Sum.inr z : Key) := (Option.some.inj k2).symm
              rw [e2, ← keys_str]
              exact sqT (ht k _ g k1 hg)
          · rw [List.length_zip, List.length_map]; omega
          · rw [ek2]
            have e6 : gs.map (fun g => (nrm g.1 g.2).map fun z => (Sum.inr z : Key)) = (gs.map fun g => nrm g.1 g.2).map fun l => l.map fun z => (Sum.inr z : Key) := by rw [List.map_map]; rfl
            rw [e6, once_map_len (f := fun l : List Str => l.map fun z => (Sum.inr z : Key)) (fun x y e => List.map_inj_right (fun a b h => Sum.inr.inj h) |>.mp e)]
            have s23 := s2.trans s3
            have ha3 := s23 _ _ ha
            walk_at "go"
            have e5 : decide (V.int ((once (gs.map fun g => nrm g.1 g.2)).length : Int) = V.int (xs.length : Int)) = decide ((once (gs.map fun g => nrm g.1 g.2)).length = xs.length) := by
              apply decide_eq_decide.mpr
              exact ⟨fun h => by have := V.int.inj h; omega, fun h => by rw [h]⟩
            rw [e5]
            exact q H3 s23

/-! ### things that stay: tuples of tuples, texts, numbers -/
mutual
inductive Fz (H : Hp) : V → PyData → Prop
  | non : Fz H .non .none
  | bl (b : Bool) : Fz H (.bl b) (.bool b)
  | int (i : Int) : Fz H (.int i) (.int i)
  | str (x : Str) : Fz H (.str x) (.str x)
  | tup {a : Addr} {xs : List V} {ds : List PyData} : H a = some (.tup xs) → FzAll H xs ds → Fz H (.ref a) (.tuple ds)
inductive FzAll (H : Hp) : List V → List PyData → Prop
  | nil : FzAll H [] []
  | cons {v : V} {vs : List V} {d : PyData} {ds : List PyData} : Fz H v d → FzAll H vs ds → FzAll H (v :: vs) (d :: ds)
end
mutual
theorem Fz.mono {H H' : Hp} (k : ∀ a xs, H a = some (.tup xs) → H' a = some (.tup xs)) : ∀ {v : V} {d : PyData}, Fz H v d → Fz H' v d
  | _, _, .non => .non
  | _, _, .bl b => .bl b
  | _, _, .int i => .int i
  | _, _, .str x => .str x
  | _, _, .tup h t => .tup (k _ _ h) (FzAll.mono k t)
theorem FzAll.mono {H H' : Hp} (k : ∀ a xs, H a = some (.tup xs) → H' a = some (.tup xs)) : ∀ {vs : List V} {ds : List PyData}, FzAll H vs ds → FzAll H' vs ds
  | _, _, .nil => .nil
  | _, _, .cons h t => .cons (Fz.mono k h) (FzAll.mono k t)
end
mutual
theorem Fz.dp {K : PySem.W.Frag} {H : Hp} : ∀ {v : V} {d : PyData}, Fz H v d → Dp K H v d
  | _, _, .non => .non
  | _, _, .bl b => .bl b
  | _, _, .int i => .int i
  | _, _, .str x => .str x
  | _, _, .tup h t => .tup (SqT.of h) (FzAll.dp t)
theorem FzAll.dp {K : PySem.W.Frag} {H : Hp} : ∀ {vs : List V} {ds : List PyData}, FzAll H vs ds → DpAll K H vs ds
  | _, _, .nil => .nil
  | _, _, .cons h t => .cons (Fz.dp h) (FzAll.dp t)
end
section
variable {H H' : Hp} {v : V} {vs ws : List V} {d : PyData} {ds es : List PyData} {l : Addr}
theorem Fz.same (h : Fz H v d) (s : Same H H') : Fz H' v d := h.mono fun _ _ e => s _ _ e
theorem FzAll.same (h : FzAll H vs ds) (s : Same H H') : FzAll H' vs ds := h.mono fun _ _ e => s _ _ e
theorem Fz.dr (h : Fz H v d) (k : Dr l H H') : Fz H' v d := h.mono fun _ _ e => k.tup e
theorem FzAll.dr (h : FzAll H vs ds) (k : Dr l H H') : FzAll H' vs ds := h.mono fun _ _ e => k.tup e
theorem keep_tup {D a : Addr} {xs ys ws : List V} (hD : H D = some (.lst ys)) (h : H a = some (.tup xs)) : (upd H D (.lst ws)) a = some (.tup xs) := by
  rw [upd_ne (ne_of h hD (by intro z; cases z))]; exact h
theorem Fz.put {D : Addr} {ys ws : List V} (h : Fz H v d) (hD : H D = some (.lst ys)) : Fz (upd H D (.lst ws)) v d := h.mono fun _ _ e => keep_tup hD e
theorem FzAll.put {D : Addr} {ys ws : List V} (h : FzAll H vs ds) (hD : H D = some (.lst ys)) : FzAll (upd H D (.lst ws)) vs ds := h.mono fun _ _ e => keep_tup hD e
theorem FzAll.app (h : FzAll H vs ds) (h2 : FzAll H ws es) : FzAll H (vs ++ ws) (ds ++ es) := by
  induction vs generalizing ds with
  | nil => cases h; exact h2
  | cons v vs ih => cases h with | cons a t => exact .cons a (ih t)
theorem FzAll.len (h : FzAll H vs ds) : vs.length = ds.length := by
  induction vs generalizing ds with
  | nil => cases h; rfl
  | cons v vs ih => cases h with | cons a t => rw [List.length_cons, List.length_cons, ih t]
theorem FzAll.at (h : FzAll H vs ds) {i : Nat} {x : V} (hx : vs[i]? = some x) : ∃ d, ds[i]? = some d ∧ Fz H x d := by
  induction vs generalizing ds i with
  | nil => cases hx
  | cons v vs ih =>
    cases h with
    | cons a t =>
      cases i with
      | zero => cases hx; exact ⟨_, rfl, a⟩
      | succ i => exact ih t hx
theorem FzAll.take (h : FzAll H vs ds) (n : Nat) : FzAll H (vs.take n) (ds.take n) := by
  induction vs generalizing ds n with
  | nil => cases h; rw [List.take_nil, List.take_nil]; exact .nil
  | cons v vs ih =>
    cases h with
    | cons a t =>
      cases n with
      | zero => exact .nil
      | succ n => exact .cons a (ih t n)
theorem FzAll.drop (h : FzAll H vs ds) (n : Nat) : FzAll H (vs.drop n) (ds.drop n) := by
  induction vs generalizing ds n with
  | nil => cases h; rw [List.drop_nil, List.drop_nil]; exact .nil
  | cons v vs ih =>
    cases h with
    | cons a t =>
      cases n with
      | zero => exact .cons a t
      | succ n => exact ih t n
theorem FzAll.rev (h : FzAll H vs ds) : FzAll H vs.reverse ds.reverse := by
  induction vs generalizing ds with
  | nil => cases h; exact .nil
  | cons v vs ih =>
    cases h with
    | cons a t => rw [List.reverse_cons, List.reverse_cons]; exact (ih t).app (.cons a .nil)
theorem fz_tup (h : Fz H v (.tuple ds)) : ∃ a xs, v = .ref a ∧ H a = some (.tup xs) ∧ FzAll H xs ds := by
  cases h with
  | tup h t => exact ⟨_, _, rfl, h, t⟩
theorem fz_ints : ∀ {ns : List Int}, FzAll H (ns.map V.int) (ns.map PyData.int)
  | [] => .nil
  | n :: ns => .cons (.int n) fz_ints
theorem fz_strs : ∀ {zs : List Str}, FzAll H (zs.map V.str) (zs.map PyData.str)
  | [] => .nil
  | z :: zs => .cons (.str z) fz_strs
theorem fz_ints_of {ns : List Int} {vs : List V} (h : FzAll H vs (ns.map PyData.int)) : vs = ns.map V.int := by
  induction ns generalizing vs with
  | nil => cases h; rfl
  | cons n ns ih =>
    cases h with
    | cons a t =>
      cases a
      rw [ih t]; rfl
theorem fz_strs_of {zs : List Str} {vs : List V} (h : FzAll H vs (zs.map PyData.str)) : vs = zs.map V.str := by
  induction zs generalizing vs with
  | nil => cases h; rfl
  | cons n ns ih =>
    cases h with
    | cons a t =>
      cases a
      rw [ih t]; rfl
def kdD : PyData → String
  | .none => "NoneType"
  | .bool _ => "bool"
  | .int _ => "int"
  | .str _ => "str"
  | _ => "tuple"
theorem Fz.kd (h : Fz H v d) : Kd H v (kdD d) := by
  cases h with
  | non => exact .non
  | bl b => exact .bl b
  | int i => exact .int i
  | str x => exact .str x
  | tup h t => exact .tup h
theorem FzAll.kds (h : FzAll H vs ds) : Kds H vs := by
  induction vs generalizing ds with
  | nil => intro x hx; cases hx
  | cons v vs ih =>
    cases h with
    | cons a t =>
      intro x hx
      rcases List.mem_cons.mp hx with e | e
      · rw [e]; exact ⟨_, a.kd⟩
      · exact ih t x e
end
/-- a list at D that grows while there is drawn at l: its items stay -/
def Df (l D : Addr) (H : Hp) (R : List PyData → Prop) (H' : Hp) : Prop := Dr l H H' ∧ H D = none ∧ D ≠ l ∧ ∃ xs ds, H' D = some (.lst xs) ∧ FzAll H' xs ds ∧ R ds
theorem Df.start {l D : Addr} {H : Hp} {R : List PyData → Prop} (s : Src H l) (hD : H D = none) (r : R []) : Df l D H R (upd H D (.lst [])) := ⟨(Dr.refl s).new hD, hD, s.ne_new hD, [], [], upd_same, .nil, r⟩
theorem Df.put {l D : Addr} {H H1 H2 : Hp} {R R' : List PyData → Prop} {v : V} {d : PyData} (f : Df l D H R H1) (k : Dr l H1 H2) (hv : Fz H2 v d) (hr : ∀ ds, R ds → R' (ds ++ [d])) (hl : ∀ ds, R ds → ds.length ≤ 1000) :
    ∃ acc, H2 D = some (.lst acc) ∧ acc.length < sizeLine ∧ Df l D H R' (upd H2 D (.lst (acc ++ [v]))) := by
  obtain ⟨d1, hD, nDl, xs, ds, h1, h2, h3⟩ := f
  have dd := d1.trans k
  have hD2 := k.keep _ _ nDl h1
  refine ⟨_, hD2, small1000 (by rw [h2.len]; exact hl _ h3), ⟨fun b o nb e => ?_, dd.src0, ?_⟩, hD, nDl, xs ++ [v], ds ++ [d], upd_same, ?_, hr _ h3⟩
  · rw [upd_ne (ne_of_none e hD)]
    exact dd.keep b o nb e
  · exact dd.src.put nDl
  · exact ((h2.dr k).app (.cons hv .nil)).put hD2
theorem Df.imp {l D : Addr} {H H1 : Hp} {R R' : List PyData → Prop} (f : Df l D H R H1) (hr : ∀ ds, R ds → R' ds) : Df l D H R' H1 := by
  obtain ⟨d1, hD, nDl, xs, ds, h1, h2, h3⟩ := f
  exact ⟨d1, hD, nDl, xs, ds, h1, h2, hr _ h3⟩
theorem Df.dr {l D : Addr} {H H1 H2 : Hp} {R : List PyData → Prop} (f : Df l D H R H1) (k : Dr l H1 H2) : Df l D H R H2 := by
  obtain ⟨d1, hD, nDl, xs, ds, h1, h2, h3⟩ := f
  exact ⟨d1.trans k, hD, nDl, xs, ds, k.keep _ _ nDl h1, h2.dr k, h3⟩
/-- .. without drawing -/
def Lf (H : Hp) (D : Addr) (ds : List PyData) (i : Nat) (H' : Hp) : Prop := Same H H' ∧ H D = none ∧ ∃ xs, H' D = some (.lst xs) ∧ FzAll H' xs (ds.take i)
theorem Lf.start {H : Hp} {D : Addr} {ds : List PyData} (hD : H D = none) : Lf H D ds 0 (upd H D (.lst [])) := ⟨same_new hD, hD, [], upd_same, .nil⟩
theorem Lf.step {H H1 H2 : Hp} {D : Addr} {ds : List PyData} {i : Nat} {v : V} {d : PyData} (m : Lf H D ds i H1) (s : Same H1 H2) (hd : ds[i]? = some d) (hv : Fz H2 v d) (hl : ds.length ≤ 1000) :
    ∃ acc, H2 D = some (.lst acc) ∧ acc.length < sizeLine ∧ Lf H D ds (i + 1) (upd H2 D (.lst (acc ++ [v]))) := by
  obtain ⟨s0, hD, xs, h1, h2⟩ := m
  have hD2 := s _ _ h1
  refine ⟨_, hD2, small1000 (by rw [h2.len, List.length_take]; omega), fun b o e => ?_, hD, xs ++ [v], upd_same, ?_⟩
  · rw [upd_ne (ne_of_none e hD)]
    exact s _ _ (s0 _ _ e)
  · rw [List.take_add_one, hd]
    exact ((h2.same s).app (.cons hv .nil)).put hD2
theorem Lf.full {H H' : Hp} {D : Addr} {ds : List PyData} {n : Nat} (m : Lf H D ds n H') (hn : ds.length ≤ n) : ∃ xs, H' D = some (.lst xs) ∧ FzAll H' xs ds := by
  obtain ⟨_, _, xs, h, t⟩ := m
  rw [List.take_of_length_le hn] at t
  exact ⟨xs, h, t⟩

/-! ### promises: webs that are drawn -/
abbrev handD (p : Str × List Int) : PyData := .tuple [.str p.1, .tuple (p.2.map PyData.int)]
abbrev tieD (p : Str × Str) : PyData := .tuple [.str p.1, .str p.2]
def goodHand (n : Nat) (p : Str × List Int) : Prop := isNm p.1 = true ∧ p.2.length = n ∧ ∀ x ∈ p.2, farI x
structure GHands (hs : List (Str × List Int)) : Prop where
  one : 1 ≤ hs.length
  few : hs.length ≤ 8
  nd : (hs.map (·.1)).Nodup
  gd : ∃ n, 1 ≤ n ∧ n ≤ 3 ∧ ∀ p ∈ hs, goodHand n p
structure GTies (names : List Str) (ps : List (Str × Str)) : Prop where
  few : ps.length < 63
  nd : (ps.map fun p => nrm p.1 p.2).Nodup
  gd : ∀ p ∈ ps, p.1 ≠ p.2 ∧ p.1 ∈ names ∧ p.2 ∈ names
/-- a list at a of things that stay -/
def Lz (H : Hp) (a : Addr) (ds : List PyData) : Prop := ∃ xs, H a = some (.lst xs) ∧ FzAll H xs ds
theorem Lz.same {H H' : Hp} {a : Addr} {ds : List PyData} (h : Lz H a ds) (s : Same H H') : Lz H' a ds := by
  obtain ⟨xs, h, t⟩ := h
  exact ⟨xs, s _ _ h, t.same s⟩
theorem Lz.dr {H H' : Hp} {l a : Addr} {ds : List PyData} (h : Lz H a ds) (n : a ≠ l) (k : Dr l H H') : Lz H' a ds := by
  obtain ⟨xs, h, t⟩ := h
  exact ⟨xs, k.keep _ _ n h, t.dr k⟩
theorem Lz.dp {K : PySem.W.Frag} {H : Hp} {a : Addr} {ds : List PyData} (h : Lz H a ds) : Dp K H (.ref a) (.list ds) := by
  obtain ⟨xs, h, t⟩ := h
  exact .lst (SqL.of h) t.dp
def spTies : Sp := fun vs H Q _ => ∃ (l n : Addr) (names : List Str) (sh : Int), vs = [.ref l, .ref n, .int sh] ∧ Src H l ∧ n ≠ l ∧ H n = some (.lst (names.map V.str)) ∧ names.length ≤ 8 ∧ names.Nodup ∧
  ∀ s ps H', Dr l H H' → s ≠ l → H s = none → Lz H' s (ps.map tieD) → GTies names ps → ps.length ≤ 56 → Q (.ref s) H'
def spWeb : Sp := fun vs H Q _ => ∃ (l : Addr) (m : Nat), vs = [.ref l, .int (m : Int)] ∧ Src H l ∧ 1 ≤ m ∧ m ≤ 8 ∧
  ∀ w h t hs ps H', Dr l H H' → H' w = some (.tup [.ref h, .ref t]) → h ≠ l → t ≠ l → h ≠ t → H h = none → H t = none → Lz H' h (hs.map handD) → Lz H' t (ps.map tieD) → GHands hs → GTies (hs.map (·.1)) ps → ps.length ≤ 56 → ¬ (("strange" : Str) ∈ hs.map (·.1) ∧ ("unheard" : Str) ∈ hs.map (·.1)) → Q (.ref w) H'
/-- what is to be known of a web at h, t -/
structure Web (H : Hp) (h t : Addr) (hs : List (Str × List Int)) (ps : List (Str × Str)) : Prop where
  h : Lz H h (hs.map handD)
  t : Lz H t (ps.map tieD)
  gh : GHands hs
  gt : GTies (hs.map (·.1)) ps

-- names: 0:_law_well_here 1:_law_names_here 2:_law_share 3:_law_found 4:_law_k 5:_law_j 6:_law_at
abbrev N_l_ties : List Str := ["_law_well_here", "_law_names_here", "_law_share", "_law_found", "_law_k", "_law_j", "_law_at"]
def t_l_ties (K : PySem.W.Frag) : TS :=
  (tSeq (tAsg (tLst tNil) (gName 3))
    (tSeq (tFor (iRng1 (tCons (tCB (Evl.rLenS K) (tCons (tVar 1) tNil)) tNil)) (gName 4) (tFor (iRng1 (tCons (tVar 4) tNil)) (gName 5) (tIfS (tTest (tOp rLtI (tCall spDraw [] E0 (tCons (tVar 0) (tCons (tC (.int 4)) tNil))) (tVar 2))) (tDrop (tBM K "list" rAppend (tVar 3) (tCons (tOp (rIxL K) (tLst (tCons (tTup (tCons (tOp (rIxL K) (tVar 1) (tVar 4)) (tCons (tOp (rIxL K) (tVar 1) (tVar 5)) tNil))) (tCons (tTup (tCons (tOp (rIxL K) (tVar 1) (tVar 5)) (tCons (tOp (rIxL K) (tVar 1) (tVar 4)) tNil))) tNil))) (tCall spDraw [] E0 (tCons (tVar 0) (tCons (tC (.int 2)) tNil)))) tNil))) tNext)))
    (tSeq (tAsg (tCall spDraw [] E0 (tCons (tVar 0) (tCons (tOp rAddI (tCB (Evl.rLenS K) (tCons (tVar 3) tNil)) (tC (.int 1))) tNil))) (gName 6))
    (tRet (tOp rCat (tSl (rSlL K) (tVar 3) (tPart (tVar 6)) tNoPart) (tSl (rSlL K) (tVar 3) tNoPart (tPart (tVar 6))))))))

-- names: 0:_law_well_here 1:_law_most 2:_law_size 3:_law_names_here 4:_law_hands 5:_law_name
abbrev N_l_web : List Str := ["_law_well_here", "_law_most", "_law_size", "_law_names_here", "_law_hands", "_law_name"]
def t_l_web (K : PySem.W.Frag) : TS :=
  (tSeq (tAsg (tOp rAddI (tC (.int 1)) (tCall spDraw [] E0 (tCons (tVar 0) (tCons (tC (.int 3)) tNil)))) (gName 2))
    (tSeq (tAsg (tCall spNames [] E0 (tCons (tVar 0) (tCons (tOp rAddI (tC (.int 1)) (tCall spDraw [] E0 (tCons (tVar 0) (tCons (tVar 1) tNil)))) tNil))) (gName 3))
    (tSeq (tAsg (tLc (iList K (tVar 3)) (gName 5) tYes (tTup (tCons (tVar 5) (tCons (tCall spNumbers [] E0 (tCons (tVar 0) (tCons (tVar 2) tNil))) tNil))) [5]) (gName 4))
    (tRet (tTup (tCons (tVar 4) (tCons (tCall spTies [] E0 (tCons (tVar 0) (tCons (tVar 3) (tCons (tOp rAddI (tC (.int 1)) (tCall spDraw [] E0 (tCons (tVar 0) (tCons (tC (.int 4)) tNil)))) tNil)))) tNil)))))))


theorem p_l_ties_len {vs : List V} {H : Hp} {Q : VK} {E : XK} (h : spTies vs H Q E) : vs.length = 3 := by
  obtain ⟨l, n, ns, sh, rfl, _⟩ := h; rfl
theorem p_l_web_len {vs : List V} {H : Hp} {Q : VK} {E : XK} (h : spWeb vs H Q E) : vs.length = 2 := by
  obtain ⟨l, m, rfl, _⟩ := h; rfl
/-- ties that were drawn ahead of the pair k, j -/
structure Tk (names : List Str) (k j : Nat) (ps : List (Str × Str)) : Prop where
  few : ps.length ≤ 7 * k + j
  nd : (ps.map fun p => nrm p.1 p.2).Nodup
  gd : ∀ p ∈ ps, p.1 ≠ p.2 ∧ p.1 ∈ names ∧ p.2 ∈ names
  ix : ∀ p ∈ ps, ∃ i i' a b, i' < i ∧ i * 8 + i' < k * 8 + j ∧ names[i]? = some a ∧ names[i']? = some b ∧ nrm p.1 p.2 = nrm a b
theorem Tk.more {names : List Str} {k j k' j' : Nat} {ps : List (Str × Str)} (t : Tk names k j ps) (h : 7 * k + j ≤ 7 * k' + j') (h2 : k * 8 + j ≤ k' * 8 + j') : Tk names k' j' ps where
  few := Nat.le_trans t.few h
  nd := t.nd
  gd := t.gd
  ix := fun p hp => by
    obtain ⟨i, i', a, b, h1, h3, h4⟩ := t.ix p hp
    exact ⟨i, i', a, b, h1, by omega, h4⟩
theorem nodup_at {α : Type} {l : List α} (h : l.Nodup) {i j : Nat} {x : α} (hi : l[i]? = some x) (hj : l[j]? = some x) : i = j := by
  have li := (List.getElem?_eq_some_iff.mp hi).1
  exact (List.getElem?_inj li h).mp (hi.trans hj.symm)
theorem Tk.put {names : List Str} {k j : Nat} {ps : List (Str × Str)} {a b : Str} {p : Str × Str} (t : Tk names k j ps) (nd : names.Nodup) (hjk : j < k) (hk8 : k < 8) (ha : names[k]? = some a) (hb : names[j]? = some b) (hp : p = (a, b) ∨ p = (b, a)) : Tk names k (j + 1) (ps ++ [p]) := by
  have ne : a ≠ b := fun e => by
    rw [e] at ha
    have := nodup_at nd ha hb
    omega
  have ep : nrm p.1 p.2 = nrm a b := by
    rcases hp with rfl | rfl
    · rfl
    · exact nrm_swap a b
  have ma := List.mem_of_getElem? ha
  have mb := List.mem_of_getElem? hb
  refine ⟨?_, ?_, fun q hq => ?_, fun q hq => ?_⟩
  · rw [List.length_append, List.length_singleton]
    have := t.few
    omega
  · rw [List.map_append]
    refine List.nodup_append.mpr ⟨t.nd, one_nodup _, fun x hx y hy e => ?_⟩
    rw [List.map_cons, List.map_nil, List.mem_singleton] at hy
    obtain ⟨q, hq, rfl⟩ := List.mem_map.mp hx
    obtain ⟨i, i', c, d, h1, h2, h3, h4, h5⟩ := t.ix q hq
    rw [hy, ep, h5] at e
    rcases nrm_inj e with ⟨e1, e2⟩ | ⟨e1, e2⟩
    · subst e1; subst e2
      have := nodup_at nd h3 ha
      have := nodup_at nd h4 hb
      omega
    · subst e1; subst e2
      have := nodup_at nd h3 hb
      have := nodup_at nd h4 ha
      omega
  · rcases List.mem_append.mp hq with h | h
    · exact t.gd q h
    · rw [List.mem_singleton.mp h]
      rcases hp with rfl | rfl
      · exact ⟨ne, ma, mb⟩
      · exact ⟨ne.symm, mb, ma⟩
  · rcases List.mem_append.mp hq with h | h
    · obtain ⟨i, i', c, d, h1, h2, h3⟩ := t.ix q h
      exact ⟨i, i', c, d, h1, by omega, h3⟩
    · rw [List.mem_singleton.mp h]
      exact ⟨k, j, a, b, hjk, by omega, ha, hb, ep⟩
theorem p_l_ties {K : PySem.W.Frag} {vs : List V} {H : Hp} {Q : VK} {E : XK} (h : spTies vs H Q E) : t_l_ties K { nx := fun _ H' => Q .non H', rt := Q } (start N_l_ties vs) H := by
  obtain ⟨l, n, names, sh, rfl, hs, nl, hn, l8, nd, q⟩ := h
  unfold t_l_ties
  walk_at "go"
  refine ⟨by show 0 ≤ sizeLine; decide, fun D hD => ?_⟩
  have f0 : Df l D H (fun ds => ∃ ps, ds = ps.map tieD ∧ Tk names 0 0 ps) (upd H D (.lst [])) := Df.start hs hD ⟨[], rfl, ⟨Nat.le_refl _, .nil, (fun p hp => by cases hp), (fun p hp => by cases hp)⟩⟩
  have hn1 := keep (u := HO.lst []) hn hD
  walk_at "go"
  refine ⟨_, rfl, by rw [List.length_map]; omega, by rw [List.length_map]; omega, ?_⟩
  rw [List.length_map, Int.toNat_natCast]
  refine for_range (lo := 0) (n := names.length) (fun i σ H' => (∃ y4 y5 y6, σ = [some (.ref l), some (.ref n), some (.int sh), some (.ref D), y4, y5, y6]) ∧ Df l D H (fun ds => ∃ ps, ds = ps.map tieD ∧ Tk names i 0 ps) H') ⟨⟨_, _, _, rfl⟩, f0⟩ ?_ ?_
  · rintro k σ H1 hk ⟨⟨y4, y5, y6, rfl⟩, f1⟩
    walk_at "go"
    refine ⟨_, rfl, by omega, by omega, ?_⟩
    have ek : (0 + (k : Int)).toNat = k := by omega
    rw [ek]
    refine for_range (lo := 0) (n := k) (fun j σ H' => (∃ y5 y6, σ = [some (.ref l), some (.ref n), some (.int sh), some (.ref D), some (.int (0 + (k : Int))), y5, y6]) ∧ Df l D H (fun ds => ∃ ps, ds = ps.map tieD ∧ Tk names k j ps) H') ⟨⟨_, _, rfl⟩, f1⟩ ?_ ?_
    · rintro j σ H2 hj ⟨⟨y5, y6, rfl⟩, f2⟩
      walk_at "go"
      refine ⟨l, 4, rfl, f2.1.src, by decide, by decide, fun d H3 d0 d1 k3 => ?_⟩
      walk_at "go"
      have f3 := f2.dr k3
      refine if_2 (fun hd => ?_) (fun hd => ?_)
      · have lj : j < names.length := by omega
        have hK : names[k]? = some names[k] := List.getElem?_eq_getElem hk
        have hJ : names[j]? = some names[j] := List.getElem?_eq_getElem lj
        have hn3 := f3.1.keep _ _ nl hn
        have eK : atI (names.map V.str) (0 + (k : Int)) = some (.str names[k]) := by
          rw [Int.zero_add]
          exact atI_nat (by rw [List.getElem?_map, hK]; rfl)
        have eJ : atI (names.map V.str) (0 + (j : Int)) = some (.str names[j]) := by
          rw [Int.zero_add]
          exact atI_nat (by rw [List.getElem?_map, hJ]; rfl)
        obtain ⟨_, hD0, nDl, xs, ds, hx, fx, rx⟩ := id f3
        walk_at "go"
        refine w_ixL (sqL hn3) eK ?_
        walk_at "go"
        refine w_ixL (sqL hn3) eJ ?_
        walk_at "go"
        refine ⟨by show 2 ≤ sizeLine; decide, fun A hA => ?_⟩
        have hnA := keep (u := HO.tup [.str names[k], .str names[j]]) hn3 hA
        walk_at "go"
        refine w_ixL (sqL hnA) eJ ?_
        walk_at "go"
        refine w_ixL (sqL hnA) eK ?_
        walk_at "go"
        refine ⟨by show 2 ≤ sizeLine; decide, fun B hB => ?_⟩
        walk_at "go"
        refine ⟨by show 2 ≤ sizeLine; decide, fun C hC => ?_⟩
        have hA4 : (upd (upd (upd H3 A (.tup [.str names[k], .str names[j]])) B (.tup [.str names[j], .str names[k]])) C (.lst [.ref A, .ref B])) A = some (.tup [.str names[k], .str names[j]]) := keep (keep upd_same hB) hC
        have hB4 : (upd (upd (upd H3 A (.tup [.str names[k], .str names[j]])) B (.tup [.str names[j], .str names[k]])) C (.lst [.ref A, .ref B])) B = some (.tup [.str names[j], .str names[k]]) := keep upd_same hC
        have hC4 : (upd (upd (upd H3 A (.tup [.str names[k], .str names[j]])) B (.tup [.str names[j], .str names[k]])) C (.lst [.ref A, .ref B])) C = some (.lst [.ref A, .ref B]) := upd_same
        have s4 : Same H3 (upd (upd (upd H3 A (.tup [.str names[k], .str names[j]])) B (.tup [.str names[j], .str names[k]])) C (.lst [.ref A, .ref B])) := same_in (same_in (same_new hA) hB) hC
        have nC : C ≠ l := (f3.1.src.ext (same_in (same_new hA) hB)).ne_new hC
        generalize upd (upd (upd H3 A (.tup [.str names[k], .str names[j]])) B (.tup [.str names[j], .str names[k]])) C (.lst [.ref A, .ref B]) = H4 at *
        have k4 := Dr.same k3.src s4
        walk_at "go"
        refine ⟨l, 2, rfl, k4.src, by decide, by decide, fun e H5 e0 e1 k5 => ?_⟩
        have k45 := k4.trans k5
        obtain ⟨p, v, hv, fv, hp⟩ : ∃ p v, atI [V.ref A, .ref B] e = some v ∧ Fz H5 v (tieD p) ∧ (p = (names[k], names[j]) ∨ p = (names[j], names[k])) := by
          rcases (by omega : e = 0 ∨ e = 1) with h | h <;> subst h
          · exact ⟨(names[k], names[j]), _, rfl, .tup (k5.tup hA4) (.cons (.str _) (.cons (.str _) .nil)), .inl rfl⟩
          · exact ⟨(names[j], names[k]), _, rfl, .tup (k5.tup hB4) (.cons (.str _) (.cons (.str _) .nil)), .inr rfl⟩
        refine w_ixL (sqL (k5.keep _ _ nC hC4)) hv ?_
        walk_at "go"
        obtain ⟨acc, g1, g2, g3⟩ := f3.put (R' := fun ds => ∃ ps, ds = ps.map tieD ∧ Tk names k (j + 1) ps) k45 fv (fun ds ⟨ps, e, t⟩ => ⟨ps ++ [p], by rw [e, List.map_append]; rfl, t.put nd hj (by omega) hK hJ hp⟩) (fun ds ⟨ps, e, t⟩ => by
          rw [e, List.length_map]
          have := t.few
          omega)
        refine w_append g1 g2 ?_
        exact ⟨⟨_, _, rfl⟩, g3⟩
      · walk_at "go"
        exact ⟨⟨_, _, rfl⟩, f3.imp fun ds ⟨ps, e, t⟩ => ⟨ps, e, t.more (by omega) (by omega)⟩⟩
    · rintro σ H2 ⟨⟨y5, y6, rfl⟩, f2⟩
      exact ⟨⟨_, _, _, rfl⟩, f2.imp fun ds ⟨ps, e, t⟩ => ⟨ps, e, t.more (by omega) (by omega)⟩⟩
  · rintro σ H1 ⟨⟨y4, y5, y6, rfl⟩, k1, hD0, nDl, xs, ds, hx, fx, ps, rfl, t⟩
    have lx := fx.len
    rw [List.length_map] at lx
    have few := t.few
    walk_at "go"
    refine ⟨l, _, rfl, k1.src, by omega, Nat.lt_of_le_of_lt (by omega : _ ≤ 1000) (by decide), fun f H2 f0 f1 k2 => ?_⟩
    obtain ⟨f, rfl⟩ := Int.eq_ofNat_of_zero_le f0
    have k12 := k1.trans k2
    have hx2 := k2.keep _ _ nDl hx
    have fx2 := fx.dr k2
    walk_at "go"
    refine w_slL (sqL hx2) fun A hA => ?_
    walk_at "go"
    refine w_slL (sqL (keep hx2 hA)) fun B hB => ?_
    rw [cut_drop (by omega)] at hB ⊢
    rw [cut_take (by omega)]
    refine w_cat (keep upd_same hB) upd_same (Nat.le_trans (by rw [List.length_drop, List.length_take]; omega : _ ≤ 1000) (by decide)) fun C hC => ?_
    have s3 : Same H2 (upd (upd (upd H2 A (.lst (xs.drop f))) B (.lst (xs.take f))) C (.lst (xs.drop f ++ xs.take f))) := same_in (same_in (same_new hA) hB) hC
    have nC : C ≠ l := (k12.src.ext (same_in (same_new hA) hB)).ne_new hC
    have hC0 : H C = none := k12.free (free_of (free_of hC))
    have pm : (ps.drop f ++ ps.take f).Perm ps := List.perm_append_comm.trans (by rw [List.take_append_drop])
    refine q C (ps.drop f ++ ps.take f) _ (k12.trans (Dr.same k12.src s3)) nC hC0 ⟨_, upd_same, ?_⟩ ⟨?_, ?_, ?_⟩ (by rw [pm.length_eq]; omega)
    · have := ((fx2.drop f).app (fx2.take f)).same s3
      rw [List.map_append, List.map_drop, List.map_take]
      exact this
    · rw [pm.length_eq]; omega
    · exact (pm.map _).nodup_iff.mpr t.nd
    · exact fun p hp => t.gd p (pm.mem_iff.mp hp)
theorem p_l_web {K : PySem.W.Frag} {vs : List V} {H : Hp} {Q : VK} {E : XK} (h : spWeb vs H Q E) : t_l_web K { nx := fun _ H' => Q .non H', rt := Q } (start N_l_web vs) H := by
  obtain ⟨l, m, rfl, hs, m1, m8, q⟩ := h
  unfold t_l_web
  walk_at "go"
  refine ⟨l, 3, rfl, hs, by decide, by decide, fun sz H1 a0 a1 k1 => ?_⟩
  obtain ⟨sz, rfl⟩ := Int.eq_ofNat_of_zero_le a0
  walk_at "go"
  refine ⟨l, _, rfl, k1.src, by omega, Nat.lt_of_le_of_lt (by omega : _ ≤ 1000) (by decide), fun d H2 d0 d1 k2 => ?_⟩
  obtain ⟨d, rfl⟩ := Int.eq_ofNat_of_zero_le d0
  have e1 : (1 : Int) + (d : Int) = ((1 + d : Nat) : Int) := by omega
  walk_at "go"
  rw [e1]
  refine ⟨l, 1 + d, rfl, k2.src, by omega, by omega, fun n zs H3 k3 hn nl fn lz nz nd su => ?_⟩
  have k13 := (k1.trans k2).trans k3
  walk_at "go"
  refine ⟨n, rfl, ⟨_, sqL hn⟩, fun D hD => lc_list (K := K) (xs := zs.map V.str) (fun i H' => Df l D H3 (fun ds => ∃ hs : List (Str × List Int), ds = hs.map handD ∧ hs.map (·.1) = zs.take i ∧ ∀ p ∈ hs, goodHand (1 + sz) p) H') (Df.start k3.src hD ⟨[], rfl, rfl, fun p hp => by cases hp⟩) (fun i H' _ f => sqL (f.1.keep _ _ nl hn)) ?_ ?_⟩
  · rintro i x H4 hx f4
    rw [List.getElem?_map] at hx
    cases hz : zs[i]? with
    | none => rw [hz] at hx; cases hx
    | some z =>
      rw [hz] at hx
      cases hx
      walk_at "go"
      refine ⟨rfl, w_yes (if_t rfl ?_)⟩
      walk_at "go"
      have e2 : (1 : Int) + (sz : Int) = ((1 + sz : Nat) : Int) := by omega
      rw [e2]
      refine ⟨l, 1 + sz, rfl, f4.1.src, by omega, fun s ns H5 k5 hs5 ln fr => ?_⟩
      walk_at "go"
      refine ⟨by show 2 ≤ sizeLine; decide, fun A hA => ?_⟩
      have lt := (List.getElem?_eq_some_iff.mp hz).1
      refine f4.put (d := handD (z, ns)) (k5.new hA) (.tup upd_same (.cons (.str _) (.cons (.tup (keep hs5 hA) fz_ints) .nil))) (fun ds ⟨hs, e, eh, g⟩ => ⟨hs ++ [(z, ns)], by rw [e, List.map_append]; rfl, by rw [List.map_append, eh, List.take_add_one, hz]; rfl, fun p hp => ?_⟩) (fun ds ⟨hs, e, eh, g⟩ => ?_)
      · rcases List.mem_append.mp hp with h | h
        · exact g p h
        · rw [List.mem_singleton.mp h]
          exact ⟨nz z (List.mem_of_getElem? hz), ln, fr⟩
      · rw [e, List.length_map]
        have := congrArg List.length eh
        rw [List.length_map, List.length_take] at this
        omega
  · rintro H4 ⟨k4, hD3, nDl, xs, ds, hx, fx, hs, rfl, eh, gh⟩
    rw [List.length_map, List.take_of_length_le (Nat.le_refl _)] at eh
    have k14 := k13.trans k4
    have hn4 := k4.keep _ _ nl hn
    have lh : hs.length = zs.length := by rw [← eh, List.length_map]
    walk_at "go"
    refine ⟨l, 4, rfl, k14.src, by decide, by decide, fun e H5 _ _ k5 => ?_⟩
    walk_at "go"
    refine ⟨l, n, zs, _, rfl, k5.src, nl, k5.keep _ _ nl hn4, by omega, nd, fun t ps H6 k6 ntl ft lt gt l56 => ?_⟩
    walk_at "go"
    refine ⟨by show 2 ≤ sizeLine; decide, fun A hA => ?_⟩
    have hx6 := k6.keep _ _ nDl (k5.keep _ _ nDl hx)
    have nDt : D ≠ t := fun e => by
      have := k5.keep _ _ nDl hx
      rw [e, ft] at this
      cases this
    have k16 := (k14.trans k5).trans k6
    have sA : Same H6 (upd H6 A (.tup [.ref D, .ref t])) := same_new hA
    refine q A D t hs ps _ (k16.new hA) upd_same nDl ntl nDt (k13.free hD) ((k14.trans k5).free ft) ?_ (lt.same sA) ⟨by omega, by omega, by rw [eh]; exact nd, 1 + sz, by omega, by omega, gh⟩ (by rw [eh]; exact gt) l56 (by rw [eh]; exact su)
    exact Lz.same ⟨xs, hx6, ((fx.dr k5).dr k6)⟩ sA

/-! ### the refusals' classes -/
structure Gt (K : PySem.W.Frag) : Prop where
  k_BadWeb : ExcK K (He.ga K "BadWeb")
  exm : PySem.W.exmOne K (.ref (He.ga K "BadWeb")) (.ref (He.ga K "SumError")) = some true
  own : PySem.W.kitOne K (.ref (He.ga K "BadWeb")) (.ref (He.ga K "BadWeb")) = some true
  val : PySem.W.kitOne K (.ref (He.ga K "BadWeb")) (.type "ValueError") = some true
  oth : PySem.W.kitAny K (.ref (He.ga K "BadWeb")) [.ref (He.ga K "BadBooks"), .ref (He.ga K "NoDeed"), .ref (He.ga K "NoNear"), .ref (He.ga K "NoRow"), .ref (He.ga K "NoText")] = some false
def exK (K : PySem.W.Frag) : Bool := excB K (He.ga K "BadWeb") && (PySem.W.exmOne K (.ref (He.ga K "BadWeb")) (.ref (He.ga K "SumError")) == some true) && (PySem.W.kitOne K (.ref (He.ga K "BadWeb")) (.ref (He.ga K "BadWeb")) == some true) && (PySem.W.kitOne K (.ref (He.ga K "BadWeb")) (.type "ValueError") == some true) &&
  (PySem.W.kitAny K (.ref (He.ga K "BadWeb")) [.ref (He.ga K "BadBooks"), .ref (He.ga K "NoDeed"), .ref (He.ga K "NoNear"), .ref (He.ga K "NoRow"), .ref (He.ga K "NoText")] == some false)
theorem gt_of {K : PySem.W.Frag} (h : exK K = true) : Gt K := by
  unfold exK at h
  simp only [Bool.and_eq_true, beq_iff_eq] at h
  obtain ⟨⟨⟨⟨a1, a2⟩, a3⟩, a4⟩, a5⟩ := h
  exact ⟨excB_ok a1, a2, a3, a4, a5⟩
/-! ### promises: what is no web -/
def namesJ (js : List (Option (Str × Nat))) : List Str := js.filterMap fun j => j.map (·.1)
def Jh0 (H : Hp) (v : V) : Prop := (∃ T, Kd H v T ∧ T ≠ "list") ∨ ∃ a xs js, v = .ref a ∧ H a = some (.lst xs) ∧ Two (Hj H) xs js ∧ handsOk js = false
def Jt0 (H : Hp) (names : List Str) (v : V) : Prop := (∃ T, Kd H v T ∧ T ≠ "list") ∨ ∃ a xs js, v = .ref a ∧ H a = some (.lst xs) ∧ xs.length < 63 ∧ Two (Tj H) xs js ∧ tiesOk names js = false
def BadW (H : Hp) (v : V) : Prop := (∃ T, Kd H v T ∧ T ≠ "tuple") ∨ ∃ a ys, v = .ref a ∧ H a = some (.tup ys) ∧ (ys.length ≠ 2 ∨ ∃ v0 v1, ys = [v0, v1] ∧ (Jh0 H v0 ∨ ∃ b hxs hjs, v0 = .ref b ∧ H b = some (.lst hxs) ∧ Two (Hj H) hxs hjs ∧ handsOk hjs = true ∧ Jt0 H (namesJ hjs) v1))
def spCheckWeb (K : PySem.W.Frag) : Sp := fun vs H Q E => ∃ v, vs = [v] ∧ ((BadW H v ∧ ∀ H', Same H H' → E (.ref (He.ga K "BadWeb")) none H') ∨ ∃ a h t hs ps, v = .ref a ∧ H a = some (.tup [.ref h, .ref t]) ∧ Web H h t hs ps ∧ ∀ H', Same H H' → Q .non H')
def spIsWhole (K : PySem.W.Frag) : Sp := fun vs H Q E => ∃ v, vs = [v] ∧ BadW H v ∧ ∀ H', Same H H' → E (.ref (He.ga K "BadWeb")) none H'
def spRefused (K : PySem.W.Frag) : Sp := fun vs H Q _ => ∃ n v, vs = [.int n, v] ∧ BadW H v ∧ ∀ H', Same H H' → Q (.bl true) H'
def tb_refused (K : PySem.W.Frag) (W : WX) : TS := tIfS (tTest (tOp rEq (tVar 0) (tC (.int 0)))) (tDrop (tCallS (spCheckWeb K) (WE W) (tCons (tVar 1) tNil))) (tDrop (tCallS (spIsWhole K) (WE W) (tCons (tVar 1) tNil)))
def ts_refused (K : PySem.W.Frag) : Addr → Value → Option Addr → TS := fun a cls d =>
  tSeq (tAsg (tCB (rIsX K (He.ga K "BadWeb") a cls d) (tCons (tVar 3) (tCons (tTup (tCons (tC (.ref (He.ga K "BadBooks"))) (tCons (tC (.ref (He.ga K "NoDeed"))) (tCons (tC (.ref (He.ga K "NoNear"))) (tCons (tC (.ref (He.ga K "NoRow"))) (tCons (tC (.ref (He.ga K "NoText"))) tNil)))))) tNil))) (gName 4))
  (tAsg (tAndV (tCB (rIsX K (He.ga K "BadWeb") a cls d) (tCons (tVar 3) (tCons (tC (.ref (He.ga K "BadWeb"))) tNil))) (tAndV (tCB (rIsX K (He.ga K "BadWeb") a cls d) (tCons (tVar 3) (tCons (tC (.ty "ValueError")) tNil))) (tNotV (tVar 4)))) (gName 2))
def tTry_refused (K : PySem.W.Frag) : TS := fun D σ H => tb_refused K (wAs K (.ref (He.ga K "SumError")) 3 (ts_refused K) (fun _ _ _ _ => False) D) D σ H
abbrev rDictP (K : PySem.W.Frag) : List V → Hp → VK → Prop := fun xs H Q => ∃ (a : Addr) (ps : List Addr) (kvs : List (Key × V)), xs = [.ref a] ∧ SqL K H a (ps.map V.ref) ∧ Paired (fun p kv => SqT K H p [kV kv.1, kv.2]) ps kvs ∧ ∀ p, H p = none → Q (.ref p) (upd H p (.dK (mergeK [] kvs)))
/-! ### odd things as data -/
mutual
inductive Fy (l : Addr) (H : Hp) : V → PyData → Prop
  | non : Fy l H .non .none
  | bl (b : Bool) : Fy l H (.bl b) (.bool b)
  | int (i : Int) : Fy l H (.int i) (.int i)
  | str (x : Str) (h : x.length ≤ 1000) : Fy l H (.str x) (.str x)
  | tup {a : Addr} {xs : List V} {ds : List PyData} : H a = some (.tup xs) → FyAll l H xs ds → Fy l H (.ref a) (.tuple ds)
  | lst {a : Addr} {xs : List V} {ds : List PyData} : a ≠ l → H a = some (.lst xs) → FyAll l H xs ds → Fy l H (.ref a) (.list ds)
inductive FyAll (l : Addr) (H : Hp) : List V → List PyData → Prop
  | nil : FyAll l H [] []
  | cons {v : V} {vs : List V} {d : PyData} {ds : List PyData} : Fy l H v d → FyAll l H vs ds → FyAll l H (v :: vs) (d :: ds)
end
mutual
theorem Fy.mono {l : Addr} {H H' : Hp} (k : ∀ p o, p ≠ l → H p = some o → H' p = some o) (kt : ∀ p xs, H p = some (.tup xs) → H' p = some (.tup xs)) : ∀ {v : V} {d : PyData}, Fy l H v d → Fy l H' v d
  | _, _, .non => .non
  | _, _, .bl b => .bl b
  | _, _, .int i => .int i
  | _, _, .str x h => .str x h
  | _, _, .tup h t => .tup (kt _ _ h) (FyAll.mono k kt t)
  | _, _, .lst n h t => .lst n (k _ _ n h) (FyAll.mono k kt t)
theorem FyAll.mono {l : Addr} {H H' : Hp} (k : ∀ p o, p ≠ l → H p = some o → H' p = some o) (kt : ∀ p xs, H p = some (.tup xs) → H' p = some (.tup xs)) : ∀ {vs : List V} {ds : List PyData}, FyAll l H vs ds → FyAll l H' vs ds
  | _, _, .nil => .nil
  | _, _, .cons h t => .cons (Fy.mono k kt h) (FyAll.mono k kt t)
end
mutual
theorem Fy.dp {K : PySem.W.Frag} {l : Addr} {H : Hp} : ∀ {v : V} {d : PyData}, Fy l H v d → Dp K H v d
  | _, _, .non => .non
  | _, _, .bl b => .bl b
  | _, _, .int i => .int i
  | _, _, .str x _ => .str x
  | _, _, .tup h t => .tup (SqT.of h) (FyAll.dp t)
  | _, _, .lst _ h t => .lst (SqL.of h) (FyAll.dp t)
theorem FyAll.dp {K : PySem.W.Frag} {l : Addr} {H : Hp} : ∀ {vs : List V} {ds : List PyData}, FyAll l H vs ds → DpAll K H vs ds
  | _, _, .nil => .nil
  | _, _, .cons h t => .cons (Fy.dp h) (FyAll.dp t)
end
section
variable {l : Addr} {H H' : Hp} {v : V} {vs ws : List V} {d : PyData} {ds es : List PyData}
theorem Fy.same (h : Fy l H v d) (s : Same H H') : Fy l H' v d := h.mono (fun _ _ _ e => s _ _ e) (fun _ _ e => s _ _ e)
theorem FyAll.same (h : FyAll l H vs ds) (s : Same H H') : FyAll l H' vs ds := h.mono (fun _ _ _ e => s _ _ e) (fun _ _ e => s _ _ e)
theorem Fy.dr (h : Fy l H v d) (k : Dr l H H') : Fy l H' v d := h.mono k.keep (fun _ _ e => k.tup e)
theorem FyAll.dr (h : FyAll l H vs ds) (k : Dr l H H') : FyAll l H' vs ds := h.mono k.keep (fun _ _ e => k.tup e)
theorem FyAll.app (h : FyAll l H vs ds) (h2 : FyAll l H ws es) : FyAll l H (vs ++ ws) (ds ++ es) := by
  induction vs generalizing ds with
  | nil => cases h; exact h2
  | cons v vs ih => cases h with | cons a t => exact .cons a (ih t)
theorem FyAll.len (h : FyAll l H vs ds) : vs.length = ds.length := by
  induction vs generalizing ds with
  | nil => cases h; rfl
  | cons v vs ih => cases h with | cons a t => rw [List.length_cons, List.length_cons, ih t]
theorem FyAll.mem (h : FyAll l H vs ds) {x : V} (hx : x ∈ vs) : ∃ d ∈ ds, Fy l H x d := by
  induction vs generalizing ds with
  | nil => cases hx
  | cons v vs ih =>
    cases h with
    | cons a t =>
      rcases List.mem_cons.mp hx with e | e
      · rw [e]; exact ⟨_, .head _, a⟩
      · obtain ⟨d, hd, f⟩ := ih t e
        exact ⟨d, .tail _ hd, f⟩
theorem FyAll.take (h : FyAll l H vs ds) (n : Nat) : FyAll l H (vs.take n) (ds.take n) := by
  induction vs generalizing ds n with
  | nil => cases h; rw [List.take_nil, List.take_nil]; exact .nil
  | cons v vs ih =>
    cases h with
    | cons a t =>
      cases n with
      | zero => exact .nil
      | succ n => exact .cons a (ih t n)
theorem FyAll.drop (h : FyAll l H vs ds) (n : Nat) : FyAll l H (vs.drop n) (ds.drop n) := by
  induction vs generalizing ds n with
  | nil => cases h; rw [List.drop_nil, List.drop_nil]; exact .nil
  | cons v vs ih =>
    cases h with
    | cons a t =>
      cases n with
      | zero => exact .cons a t
      | succ n => exact ih t n
theorem FyAll.at (h : FyAll l H vs ds) {i : Nat} {x : V} (hx : vs[i]? = some x) : ∃ d, ds[i]? = some d ∧ Fy l H x d := by
  induction vs generalizing ds i with
  | nil => cases hx
  | cons v vs ih =>
    cases h with
    | cons a t =>
      cases i with
      | zero => cases hx; exact ⟨_, rfl, a⟩
      | succ i => exact ih t hx
theorem fy_ints : ∀ {ns : List Int}, FyAll l H (ns.map V.int) (ns.map PyData.int)
  | [] => .nil
  | n :: ns => .cons (.int n) fy_ints
end
/-- the kind of a thing by its data -/
def kdY : PyData → String
  | .none => "NoneType"
  | .bool _ => "bool"
  | .int _ => "int"
  | .str _ => "str"
  | .list _ => "list"
  | _ => "tuple"
theorem Fy.kd {l : Addr} {H : Hp} {v : V} {d : PyData} (h : Fy l H v d) : Kd H v (kdY d) := by
  cases h with
  | non => exact .non
  | bl b => exact .bl b
  | int i => exact .int i
  | str x _ => exact .str x
  | tup h t => exact .tup h
  | lst _ h t => exact .lst h
theorem FyAll.kds {l : Addr} {H : Hp} {vs : List V} {ds : List PyData} (h : FyAll l H vs ds) : Kds H vs := fun x hx => by
  obtain ⟨d, _, f⟩ := h.mem hx
  exact ⟨_, f.kd⟩
theorem Fy.nj {l : Addr} {H : Hp} {v : V} {d : PyData} (h : Fy l H v d) : Nj H v := ⟨⟨_, h.kd⟩, fun z e => by
  subst e
  cases h with
  | str _ hl => exact Nat.le_trans hl (by decide)⟩
def nmJ : PyData → Option Str
  | .str z => if isNm z = true then some z else none
  | _ => none
def numD : PyData → Bool
  | .int i => decide (-1000000000000 ≤ i) && decide (i ≤ 1000000000000)
  | _ => false
def numJ : PyData → Option Nat
  | .tuple ds => if (decide (1 ≤ ds.length) && decide (ds.length ≤ 3) && ds.all numD) = true then some ds.length else none
  | _ => none
def handJ : PyData → Option (Str × Nat)
  | .tuple [a, b] => match nmJ a, numJ b with
    | some z, some n => some (z, n)
    | _, _ => none
  | _ => none
def tieJ : PyData → Option (Str × Str)
  | .tuple [a, b] => match nmJ a, nmJ b with
    | some z, some y => some (z, y)
    | _, _ => none
  | _ => none
def spOddHand : Sp := fun vs H Q _ => ∃ (l h : Addr) (hxs : List V) (hs : List (Str × List Int)), vs = [.ref l, .ref h] ∧ Src H l ∧ h ≠ l ∧ H h = some (.lst hxs) ∧ FyAll l H hxs (hs.map handD) ∧ GHands hs ∧
  ∀ v d H', Dr l H H' → Fy l H' v d → d.canLay0 = true → d.depth ≤ 8 → (handJ d = none ∨ ∃ p ∈ hs, d = handD p) → Q v H'
/-- no hands, in data -/
def BadH (l : Addr) (H : Hp) (v : V) : Prop := (∃ T, Kd H v T ∧ T ≠ "list") ∨ ∃ a xs ds, v = .ref a ∧ a ≠ l ∧ H a = some (.lst xs) ∧ FyAll l H xs ds ∧ handsOk (ds.map handJ) = false
def BadT (l : Addr) (names : List Str) (H : Hp) (v : V) : Prop := (∃ T, Kd H v T ∧ T ≠ "list") ∨ ∃ a xs ds, v = .ref a ∧ a ≠ l ∧ H a = some (.lst xs) ∧ xs.length < 63 ∧ FyAll l H xs ds ∧ tiesOk names (ds.map tieJ) = false
def spOddHands : Sp := fun vs H Q _ => ∃ (l h : Addr) (hxs : List V) (hs : List (Str × List Int)), vs = [.ref l, .ref h] ∧ Src H l ∧ h ≠ l ∧ H h = some (.lst hxs) ∧ FyAll l H hxs (hs.map handD) ∧ GHands hs ∧ ∀ v H', Dr l H H' → BadH l H' v → Q v H'
def spOddTies : Sp := fun vs H Q _ => ∃ (l h t : Addr) (hxs txs : List V) (hs : List (Str × List Int)) (ps : List (Str × Str)), vs = [.ref l, .ref h, .ref t] ∧ Src H l ∧ h ≠ l ∧ t ≠ l ∧ H h = some (.lst hxs) ∧ FyAll l H hxs (hs.map handD) ∧ GHands hs ∧ H t = some (.lst txs) ∧ FyAll l H txs (ps.map tieD) ∧ GTies (hs.map (·.1)) ps ∧ ps.length ≤ 56 ∧ ¬ (("strange" : Str) ∈ hs.map (·.1) ∧ ("unheard" : Str) ∈ hs.map (·.1)) ∧
  ∀ v H', Dr l H H' → BadT l (hs.map (·.1)) H' v → Q v H'
def spBad : Sp := fun vs H Q _ => ∃ (l h t : Addr) (hxs txs : List V) (hs : List (Str × List Int)) (ps : List (Str × Str)), vs = [.ref l, .ref h, .ref t] ∧ Src H l ∧ h ≠ l ∧ t ≠ l ∧ H h = some (.lst hxs) ∧ FyAll l H hxs (hs.map handD) ∧ GHands hs ∧ H t = some (.lst txs) ∧ FyAll l H txs (ps.map tieD) ∧ GTies (hs.map (·.1)) ps ∧ ps.length ≤ 56 ∧ ¬ (("strange" : Str) ∈ hs.map (·.1) ∧ ("unheard" : Str) ∈ hs.map (·.1)) ∧
  ∀ v H', Dr l H H' → BadW H' v → Q v H'
def spLaw (K : PySem.W.Frag) : Sp := fun vs H Q _ => ∃ a ns, vs = [.ref a] ∧ SqL K H a (List.map V.int ns) ∧ ns.length ≤ 63 ∧ ∀ H', Q (.bl true) H'

-- names: 0:web 1:name 2:numbers
abbrev N_check_web : List Str := ["web", "name", "numbers"]
def t_check_web (K : PySem.W.Frag) (E : XK) : TS :=
  (tSeq (tIfS (tOr (tNot (tB (tCB (rIsi K) (tCons (tVar 0) (tCons (tC (.ty "tuple")) tNil))))) (tOr (tTest (tOp rNe (tCB (Evl.rLenS K) (tCons (tVar 0) tNil)) (tC (.int 2)))) (tNot (tB (tCall spAreHands [] E0 (tCons (tOp (rIxT K) (tVar 0) (tC (.int 0))) tNil)))))) (Go.tRaise E (He.ga K "BadWeb")) tNext)
    (tIfS (tNot (tB (tCall spAreTies [] E0 (tCons (tOp (rIxT K) (tVar 0) (tC (.int 1))) (tCons (tLc (iList K (tOp (rIxT K) (tVar 0) (tC (.int 0)))) (gTup K 2 (gCons (gName 1) (gCons (gName 2) gNil))) tYes (tVar 1) [1, 2]) tNil))))) (Go.tRaise E (He.ga K "BadWeb")) tNext))

-- names: 0:web 1:reached 2:at 3:tie 4:other
abbrev N_is_whole : List Str := ["web", "reached", "at", "tie", "other"]
def t_is_whole (K : PySem.W.Frag) (E : XK) : TS :=
  (tSeq (tDrop (tCallS (spCheckWeb K) (WE (fun cls d _ H => E cls d H)) (tCons (tVar 0) tNil))) (tSeq Go.tNever (tSeq Go.tNever (tSeq Go.tNever Go.tNever))))


-- names: 0:_law_way 1:_law_web_here 2:_law_found 3:e 4:_law_others
abbrev N_l_refused : List Str := ["_law_way", "_law_web_here", "_law_found", "e", "_law_others"]
def t_l_refused (K : PySem.W.Frag) : TS :=
  (tSeq (tAsg (tC (.bl false)) (gName 2))
    (tSeq (tTry_refused K)
    (tRet (tVar 2))))


/-! ### a web that was drawn is a web -/
theorem nums_of {ns : List Int} {n : Nat} (h1 : 1 ≤ n) (h3 : n ≤ 3) (hl : ns.length = n) (hf : ∀ x ∈ ns, farI x) : numsOk (ns.map V.int) = true := by
  unfold numsOk
  rw [List.length_map, decide_eq_true (by omega : 1 ≤ ns.length), decide_eq_true (by omega : ns.length ≤ 3), List.all_map]
  show ns.all (numI ∘ V.int) = true
  rw [List.all_eq_true]
  intro x hx
  obtain ⟨a, b⟩ := hf x hx
  show (decide _ && decide _) = true
  rw [decide_eq_true a, decide_eq_true b]; rfl
theorem nm_len {z : Str} (h : isNm z = true) : z.length ≤ 8 := by
  unfold isNm at h
  have h1 := (Bool.and_eq_true_iff.mp h).1
  exact of_decide_eq_true (Bool.and_eq_true_iff.mp h1).2
theorem nj_str {H : Hp} {z : Str} (h : z.length ≤ 100000) : Nj H (.str z) := ⟨⟨_, .str z⟩, fun y e => by cases e; exact h⟩
theorem hj_of {H : Hp} {x : V} {p : Str × List Int} {n : Nat} (h1 : 1 ≤ n) (h3 : n ≤ 3) (g : goodHand n p) (f : Fz H x (handD p)) : Hj H x (some (p.1, n)) := by
  obtain ⟨gz, gl, gf⟩ := g
  obtain ⟨a, xs, rfl, ha, t⟩ := fz_tup f
  cases t with
  | cons f0 t =>
    cases f0
    cases t with
    | cons f1 t =>
      cases t
      obtain ⟨b, ys, rfl, hb, t2⟩ := fz_tup f1
      have e := fz_ints_of t2
      subst e
      refine .inr ⟨a, _, rfl, ha, .inr ⟨.str p.1, .ref b, some n, rfl, nj_str (Nat.le_trans (nm_len gz) (by decide)), .inl ⟨b, _, rfl, hb, t2.kds, ?_⟩, ?_⟩⟩
      · rw [nums_of h1 h3 gl gf, List.length_map, gl]; rfl
      · show _ = if isNm p.1 = true then some (p.1, n) else none
        rw [gz]; rfl
theorem tj_of {H : Hp} {x : V} {p : Str × Str} (g1 : isNm p.1 = true) (g2 : isNm p.2 = true) (f : Fz H x (tieD p)) : Tj H x (some p) := by
  obtain ⟨a, xs, rfl, ha, t⟩ := fz_tup f
  cases t with
  | cons f0 t =>
    cases f0
    cases t with
    | cons f1 t =>
      cases f1
      cases t
      refine .inr ⟨a, _, rfl, ha, .inr ⟨.str p.1, .str p.2, rfl, nj_str (Nat.le_trans (nm_len g1) (by decide)), nj_str (Nat.le_trans (nm_len g2) (by decide)), ?_⟩⟩
      show _ = if (isNm p.1 && isNm p.2) = true then some (p.1, p.2) else none
      rw [g1, g2]; rfl
theorem two_fz {α β : Type} {H : Hp} {R : V → β → Prop} {f : α → PyData} {g : α → β} : ∀ {l : List α} {xs : List V}, FzAll H xs (l.map f) → (∀ x p, p ∈ l → Fz H x (f p) → R x (g p)) → Two R xs (l.map g)
  | [], _, h, _ => by cases h; exact .nil
  | p :: l, _, h, k => by
    cases h with
    | cons a t => exact .cons (k _ p (.head _) a) (two_fz t fun x p hp => k x p (.tail _ hp))
theorem some_map {α β : Type} (l : List α) (f : α → β) : l.map (fun x => some (f x)) = (l.map f).map some := by rw [List.map_map]; rfl
theorem handsOk_of {gs : List (Str × Nat)} {n : Nat} (h1 : 1 ≤ gs.length) (h8 : gs.length ≤ 8) (nd : (gs.map (·.1)).Nodup) (hn : ∀ g ∈ gs, g.2 = n) : handsOk (gs.map some) = true := by
  unfold handsOk
  have a1 : (gs.map some).all Option.isSome = true := by
    rw [List.all_map, List.all_eq_true]
    intro x _; rfl
  have a2 : (once (gs.map (·.2))).length ≤ 1 := once_const (k := n) fun x hx => by
    obtain ⟨g, hg, rfl⟩ := List.mem_map.mp hx
    exact hn g hg
  have a3 : (once (gs.map (·.1))).length = gs.length := by
    have := (once_nodup_iff (gs.map (·.1))).mpr nd
    rw [List.length_map] at this
    exact this
  rw [fm_some, fm_some, List.length_map, decide_eq_true h1, decide_eq_true h8, a1, decide_eq_true a2, decide_eq_true a3]; rfl
theorem tiesOk_of {names : List Str} {ps : List (Str × Str)} (g : GTies names ps) : tiesOk names (ps.map some) = true := by
  unfold tiesOk
  have a1 : (ps.map some).all (tieOk names) = true := by
    rw [List.all_map, List.all_eq_true]
    intro p hp
    obtain ⟨h1, h2, h3⟩ := g.gd p hp
    show (decide _ && decide _ && decide _) = true
    rw [decide_eq_true h1, decide_eq_true h2, decide_eq_true h3]; rfl
  have a2 := (once_nodup_iff (ps.map fun p => nrm p.1 p.2)).mpr g.nd
  rw [List.length_map] at a2
  rw [fm_some, List.length_map, a1, decide_eq_true a2]; rfl
theorem Web.same {H H' : Hp} {h t : Addr} {hs : List (Str × List Int)} {ps : List (Str × Str)} (w : Web H h t hs ps) (s : Same H H') : Web H' h t hs ps := ⟨w.h.same s, w.t.same s, w.gh, w.gt⟩

structure Judged (H : Hp) (hxs txs : List V) (names : List Str) (gs : List (Str × Nat)) (tjs : List (Option (Str × Str))) : Prop where
  th : Two (Hj H) hxs (gs.map some)
  oh : handsOk (gs.map some) = true
  nm : gs.map (·.1) = names
  lt : txs.length < 63
  tt : Two (Tj H) txs tjs
  ot : tiesOk names tjs = true
theorem Web.judged {H : Hp} {h t : Addr} {hs : List (Str × List Int)} {ps : List (Str × Str)} (w : Web H h t hs ps) : ∃ hxs txs gs tjs, H h = some (.lst hxs) ∧ H t = some (.lst txs) ∧ Judged H hxs txs (hs.map (·.1)) gs tjs := by
  obtain ⟨⟨hx, h1, f1⟩, ⟨tx, h2, f2⟩, ⟨one, few, nd, n, n1, n3, gd⟩, gt⟩ := w
  have lt := f2.len
  rw [List.length_map] at lt
  refine ⟨hx, tx, hs.map fun p => (p.1, n), ps.map some, h1, h2, ?_, ?_, by rw [List.map_map]; rfl, by rw [lt]; exact gt.few, two_fz f2 fun x p hp f => ?_, tiesOk_of gt⟩
  · have := two_fz (R := Hj H) (g := fun p : Str × List Int => some (p.1, n)) f1 fun x p hp f => hj_of n1 n3 (gd p hp) f
    rw [some_map (f := fun p : Str × List Int => (p.1, n))] at this
    exact this
  · refine handsOk_of (n := n) (by rw [List.length_map]; exact one) (by rw [List.length_map]; exact few) (by rw [List.map_map]; exact nd) fun g hg => ?_
    obtain ⟨p, _, rfl⟩ := List.mem_map.mp hg
    rfl
  · obtain ⟨_, m1, m2⟩ := gt.gd p hp
    have nm : ∀ z ∈ hs.map (·.1), isNm z = true := fun z hz => by
      obtain ⟨q, hq, rfl⟩ := List.mem_map.mp hz
      exact (gd q hq).1
    exact tj_of (nm _ m1) (nm _ m2) f
theorem handsOk_all {js : List (Option (Str × Nat))} (oh : handsOk js = true) : (∃ gs : List (Str × Nat), js = gs.map some) ∧ js.length ≤ 8 := by
  have oh2 : js.all Option.isSome = true := by
    unfold handsOk at oh
    exact (Bool.and_eq_true_iff.mp (Bool.and_eq_true_iff.mp (Bool.and_eq_true_iff.mp oh).1).1).2
  have o8 : js.length ≤ 8 := by
    unfold handsOk at oh
    exact of_decide_eq_true (Bool.and_eq_true_iff.mp (Bool.and_eq_true_iff.mp (Bool.and_eq_true_iff.mp (Bool.and_eq_true_iff.mp oh).1).1).1).2
  exact ⟨all_some oh2, o8⟩
theorem p_cw_main {K : PySem.W.Frag} {a b : Addr} {v1 : V} {hxs : List V} {gs : List (Str × Nat)} {ok : Bool} {H : Hp} {Q : VK} {E : XK} (ha : H a = some (.tup [.ref b, v1])) (hb : H b = some (.lst hxs)) (th : Two (Hj H) hxs (gs.map some)) (oh : handsOk (gs.map some) = true) (o8 : gs.length ≤ 8)
    (k : ∀ D H2 (Q2 : VK), Same H H2 → H2 D = some (.lst ((gs.map (·.1)).map V.str)) → (∀ H3, Same H2 H3 → Q2 (.bl ok) H3) → spAreTies [v1, .ref D] H2 Q2 E0) (k0 : ok = false → ∀ H', Same H H' → E (.ref (He.ga K "BadWeb")) none H') (k1 : ok = true → ∀ H', Same H H' → Q .non H') :
    t_check_web K E { nx := fun _ H' => Q .non H', rt := Q } (start N_check_web [.ref a]) H := by
  unfold t_check_web
  have hl := th.len
  rw [List.length_map] at hl
  walk_at "go"
  refine ⟨_, rfl, .inr ⟨b, hxs, _, rfl, hb, th, fun H1 s1 => ?_⟩⟩
  rw [oh]
  have ha1 := s1 _ _ ha
  have hb1 := s1 _ _ hb
  walk_at "go"
  refine ⟨b, rfl, ⟨_, sqL hb1⟩, fun D hD => lc_list (K := K) (xs := hxs) (Lv H1 D (gs.map fun g => V.str g.1)) (Lv.start hD) (fun i H' _ m => sqL (m.1 _ _ hb1)) ?_ ?_⟩
  · rintro i x H2 hx m
    obtain ⟨j, hj, hh⟩ := th.at hx
    rw [List.getElem?_map] at hj
    cases hg : gs[i]? with
    | none => rw [hg] at hj; cases hj
    | some g =>
      rw [hg] at hj
      cases hj
      obtain ⟨c, b, ms, rfl, h1, h2, h3⟩ := hh.good
      have h1 := m.1 _ _ (s1 _ _ h1)
      walk_at "go"
      refine ⟨rfl, w_yes (if_t rfl ?_)⟩
      walk_at "go"
      exact m.step (Same.refl _) (by rw [List.getElem?_map, hg]; rfl) (by rw [List.length_map]; omega)
  · rintro H2 m
    have hD2 := m.full (by rw [List.length_map, hl]; exact Nat.le_refl _)
    have s2 := s1.trans m.1
    walk_at "go"
    refine k D H2 _ s2 (by rw [List.map_map]; exact hD2) fun H3 s3 => ?_
    cases ok with
    | false =>
      walk_at "go"
      exact k0 rfl _ (s2.trans s3)
    | true =>
      walk_at "go"
      exact k1 rfl _ (s2.trans s3)
theorem p_check_web_len {K : PySem.W.Frag} {vs : List V} {H : Hp} {Q : VK} {E : XK} (h : spCheckWeb K vs H Q E) : vs.length = 1 := by
  obtain ⟨v, rfl, _⟩ := h; rfl
theorem p_check_web {K : PySem.W.Frag} (T : Gt K) {vs : List V} {H : Hp} {Q : VK} {E : XK} (h : spCheckWeb K vs H Q E) : t_check_web K E { nx := fun _ H' => Q .non H', rt := Q } (start N_check_web vs) H := by
  obtain ⟨v, rfl, ⟨bad, qe⟩ | ⟨a, h, t, hs, ps, rfl, ha, wb, q⟩⟩ := h
  · unfold t_check_web
    have er : ∀ {σ : L2.St} {D : Ends} {H' : Hp}, Same H H' → Go.tRaise E (He.ga K "BadWeb") D σ H' := fun s => qe _ s
    rcases bad with ⟨T, hk, hT⟩ | ⟨a, ys, rfl, ha, n2 | ⟨v0, v1, rfl, bh | ⟨b, hxs, hjs, rfl, hb, th, oh, bt⟩⟩⟩
    · walk_at "go"
      refine k_tuple hk ?_
      cases hk with
      | tup h => exact absurd rfl hT
      | int n => walk_at "go"; exact er (Same.refl _)
      | bl n => walk_at "go"; exact er (Same.refl _)
      | str n => walk_at "go"; exact er (Same.refl _)
      | non => walk_at "go"; exact er (Same.refl _)
      | lst h => walk_at "go"; exact er (Same.refl _)
      | dict h => walk_at "go"; exact er (Same.refl _)
    · walk_at "go"
      have e1 : (!decide (V.int (ys.length : Int) = V.int 2)) = true := by
        rw [decide_eq_false (fun h => n2 (by have := V.int.inj h; omega))]; rfl
      rw [e1]
      walk_at "go"
      exact er (Same.refl _)
    · walk_at "go"
      rcases bh with ⟨T, hk, hT⟩ | ⟨b, xs, js, rfl, hb, tw, of⟩
      · refine ⟨v0, rfl, .inl ⟨T, hk, hT, ?_⟩⟩
        walk_at "go"
        exact er (Same.refl _)
      · refine ⟨_, rfl, .inr ⟨b, xs, js, rfl, hb, tw, fun H1 s1 => ?_⟩⟩
        rw [of]
        walk_at "go"
        exact er s1
    · obtain ⟨⟨gs, rfl⟩, o8⟩ := handsOk_all oh
      rw [List.length_map] at o8
      have en : namesJ (gs.map some) = gs.map (·.1) := fm_some _ _
      rw [en] at bt
      refine p_cw_main (ok := false) ha hb th oh o8 (fun D H2 Q2 s2 hD q2 => ?_) (fun _ H' s' => qe H' s') (fun e => by cases e)
      rcases bt with ⟨T, hk, hT⟩ | ⟨t, txs, tjs, rfl, ht, lt, tt, ot⟩
      · exact ⟨v1, D, _, rfl, hD, .inl ⟨T, hk.same s2, hT, q2 _ (Same.refl _)⟩⟩
      · refine ⟨_, D, _, rfl, hD, .inr ⟨t, txs, tjs, rfl, s2 _ _ ht, lt, tt.imp fun x y h => h.same s2, fun H3 s3 => ?_⟩⟩
        rw [ot]
        exact q2 _ s3
  · obtain ⟨hxs, txs, gs, tjs, hh, ht, J⟩ := wb.judged
    obtain ⟨_, o8⟩ := handsOk_all J.oh
    rw [List.length_map] at o8
    refine p_cw_main (ok := true) ha hh J.th J.oh o8 (fun D H2 Q2 s2 hD q2 => ?_) (fun e => by cases e) (fun _ H' s' => q H' s')
    refine ⟨_, D, _, rfl, hD, .inr ⟨t, txs, tjs, rfl, s2 _ _ ht, J.lt, J.tt.imp fun x y h => h.same s2, fun H3 s3 => ?_⟩⟩
    rw [J.nm, J.ot]
    exact q2 _ s3
theorem p_is_whole_len {K : PySem.W.Frag} {vs : List V} {H : Hp} {Q : VK} {E : XK} (h : spIsWhole K vs H Q E) : vs.length = 1 := by
  obtain ⟨v, rfl, _⟩ := h; rfl
theorem p_is_whole {K : PySem.W.Frag} {vs : List V} {H : Hp} {Q : VK} {E : XK} (h : spIsWhole K vs H Q E) : t_is_whole K E { nx := fun _ H' => Q .non H', rt := Q } (start N_is_whole vs) H := by
  obtain ⟨v, rfl, bad, q⟩ := h
  unfold t_is_whole
  walk_at "s"
  walk_at "s"
  exact w_cons (w_var rfl (w_nil ⟨v, rfl, .inl ⟨bad, q⟩⟩))
theorem p_l_refused_len {K : PySem.W.Frag} {vs : List V} {H : Hp} {Q : VK} {E : XK} (h : spRefused K vs H Q E) : vs.length = 2 := by
  obtain ⟨n, v, rfl, _⟩ := h; rfl
theorem p_suite {K : PySem.W.Frag} (T : Gt K) {a : Addr} {y0 y1 y4 : Option V} {H : Hp} {D : Ends} (q : ∀ H', Same H H' → D.nx [y0, y1, some (.bl true), some (.ref a), some (.bl false)] H') : ts_refused K a (.ref (He.ga K "BadWeb")) none D [y0, y1, some (.bl false), some (.ref a), y4] H := by
  unfold ts_refused
  walk_at "go"
  refine ⟨by show 5 ≤ sizeLine; decide, fun A hA => ?_⟩
  walk_at "go"
  refine ⟨rfl, rfl, .inr ⟨A, [He.ga K "BadBooks", He.ga K "NoDeed", He.ga K "NoNear", He.ga K "NoRow", He.ga K "NoText"], false, rfl, sqT upd_same, T.oth, ?_⟩⟩
  walk_at "go"
  refine ⟨rfl, rfl, .inl ⟨.ref (He.ga K "BadWeb"), .ref (He.ga K "BadWeb"), true, rfl, fun u r => (by cases r; rfl), T.own, ?_⟩⟩
  walk_at "go"
  refine ⟨rfl, rfl, .inl ⟨.ty "ValueError", .type "ValueError", true, rfl, fun u r => (by cases r; rfl), T.val, ?_⟩⟩
  walk_at "go"
  exact q _ (same_new hA)
theorem p_l_refused {K : PySem.W.Frag} (T : Gt K) {vs : List V} {H : Hp} {Q : VK} {E : XK} (h : spRefused K vs H Q E) : t_l_refused K { nx := fun _ H' => Q .non H', rt := Q } (start N_l_refused vs) H := by
  obtain ⟨n, v, rfl, bad, q⟩ := h
  unfold t_l_refused
  walk_at "s"
  walk_at "s"
  walk_at "s"
  unfold tTry_refused tb_refused
  have er : ∀ H', Same H H' → (wAs K (.ref (He.ga K "SumError")) 3 (ts_refused K) (fun _ _ _ _ => False) { nx := tRet (tVar 2) { nx := fun _ H' => Q .non H', rt := Q }, rt := Q }) (.ref (He.ga K "BadWeb")) none [some (.int n), some v, some (.bl false), none, none] H' := fun H' s => by
    refine ⟨true, T.exm, fun _ a ha => p_suite T fun H2 s2 => ?_, fun z => by cases z⟩
    exact w_ret (w_var rfl (q _ (s.trans s2)))
  walk_at "go"
  refine if_2 (fun h => ?_) (fun h => ?_)
  · walk_at "s"
    exact w_cons (w_var rfl (w_nil ⟨v, rfl, .inl ⟨bad, er⟩⟩))
  · walk_at "s"
    exact w_cons (w_var rfl (w_nil ⟨v, rfl, bad, er⟩))

/-! ### odd things judged by their data -/
theorem fy_num {l : Addr} {H : Hp} {v : V} {d : PyData} (h : Fy l H v d) : numI v = numD d := by
  cases h <;> rfl
theorem fy_nums {l : Addr} {H : Hp} : ∀ {vs : List V} {ds : List PyData}, FyAll l H vs ds → vs.all numI = ds.all numD
  | _, _, .nil => rfl
  | _, _, .cons h t => by rw [List.all_cons, List.all_cons, fy_num h, fy_nums t]
theorem mj_fy {l : Addr} {H : Hp} {v : V} {d : PyData} (h : Fy l H v d) : Mj H v (numJ d) := by
  cases h with
  | non => exact .inr ⟨_, .non, by decide, rfl⟩
  | bl b => exact .inr ⟨_, .bl b, by decide, rfl⟩
  | int i => exact .inr ⟨_, .int i, by decide, rfl⟩
  | str x _ => exact .inr ⟨_, .str x, by decide, rfl⟩
  | lst _ h t => exact .inr ⟨_, .lst h, by decide, rfl⟩
  | @tup a xs ds h t =>
    refine .inl ⟨a, xs, rfl, h, t.kds, ?_⟩
    show (if (decide (1 ≤ ds.length) && decide (ds.length ≤ 3) && ds.all numD) = true then some ds.length else none) = if (decide (1 ≤ xs.length) && decide (xs.length ≤ 3) && xs.all numI) = true then some xs.length else none
    rw [t.len, fy_nums t]
theorem hj_fy {l : Addr} {H : Hp} {v : V} {d : PyData} (h : Fy l H v d) : Hj H v (handJ d) := by
  cases h with
  | non => exact .inl ⟨_, .non, by decide, rfl⟩
  | bl b => exact .inl ⟨_, .bl b, by decide, rfl⟩
  | int i => exact .inl ⟨_, .int i, by decide, rfl⟩
  | str x _ => exact .inl ⟨_, .str x, by decide, rfl⟩
  | lst _ h t => exact .inl ⟨_, .lst h, by decide, rfl⟩
  | @tup a xs ds h t =>
    cases t with
    | nil => exact .inr ⟨a, _, rfl, h, .inl ⟨by decide, rfl⟩⟩
    | @cons v0 vs d0 ds f0 t =>
      cases t with
      | nil => exact .inr ⟨a, _, rfl, h, .inl ⟨by show 1 ≠ 2; decide, rfl⟩⟩
      | @cons v1 vs d1 ds f1 t =>
        cases t with
        | nil =>
          refine .inr ⟨a, _, rfl, h, .inr ⟨v0, v1, numJ d1, rfl, f0.nj, mj_fy f1, ?_⟩⟩
          show (match nmJ d0, numJ d1 with | some z, some n => some (z, n) | _, _ => none) = jHand v0 (numJ d1)
          cases f0 with
          | str z _ =>
            show (match (if isNm z = true then some z else none), numJ d1 with | some z, some n => some (z, n) | _, _ => none) = _
            cases numJ d1 with
            | none => cases isNm z <;> rfl
            | some n =>
              show _ = if isNm z = true then some (z, n) else none
              cases isNm z <;> rfl
          | _ => cases numJ d1 <;> rfl
        | @cons v2 vs d2 ds f2 t => exact .inr ⟨a, _, rfl, h, .inl ⟨by show vs.length + 1 + 1 + 1 ≠ 2; omega, rfl⟩⟩
theorem tj_fy {l : Addr} {H : Hp} {v : V} {d : PyData} (h : Fy l H v d) : Tj H v (tieJ d) := by
  cases h with
  | non => exact .inl ⟨_, .non, by decide, rfl⟩
  | bl b => exact .inl ⟨_, .bl b, by decide, rfl⟩
  | int i => exact .inl ⟨_, .int i, by decide, rfl⟩
  | str x _ => exact .inl ⟨_, .str x, by decide, rfl⟩
  | lst _ h t => exact .inl ⟨_, .lst h, by decide, rfl⟩
  | @tup a xs ds h t =>
    cases t with
    | nil => exact .inr ⟨a, _, rfl, h, .inl ⟨by decide, rfl⟩⟩
    | @cons v0 vs d0 ds f0 t =>
      cases t with
      | nil => exact .inr ⟨a, _, rfl, h, .inl ⟨by show 1 ≠ 2; decide, rfl⟩⟩
      | @cons v1 vs d1 ds f1 t =>
        cases t with
        | nil =>
          refine .inr ⟨a, _, rfl, h, .inr ⟨v0, v1, rfl, f0.nj, f1.nj, ?_⟩⟩
          show (match nmJ d0, nmJ d1 with | some z, some y => some (z, y) | _, _ => none) = jTie v0 v1
          cases f0 with
          | str z _ =>
            cases f1 with
            | str y _ =>
              show (match (if isNm z = true then some z else none), (if isNm y = true then some y else none) with | some z, some y => some (z, y) | _, _ => none) = if (isNm z && isNm y) = true then some (z, y) else none
              cases isNm z <;> cases isNm y <;> rfl
            | _ =>
              show (match (if isNm z = true then some z else none), (none : Option Str) with | some z, some y => some (z, y) | _, _ => none) = none
              cases isNm z <;> rfl
          | _ => cases nmJ d1 <;> rfl
        | @cons v2 vs d2 ds f2 t => exact .inr ⟨a, _, rfl, h, .inl ⟨by show vs.length + 1 + 1 + 1 ≠ 2; omega, rfl⟩⟩
theorem two_fy {β : Type} {l : Addr} {H : Hp} {R : V → β → Prop} {f : PyData → β} (k : ∀ {v d}, Fy l H v d → R v (f d)) : ∀ {vs : List V} {ds : List PyData}, FyAll l H vs ds → Two R vs (ds.map f)
  | _, _, .nil => .nil
  | _, _, .cons h t => .cons (k h) (two_fy k t)
theorem BadH.j {l : Addr} {H : Hp} {v : V} (h : BadH l H v) : Jh0 H v := by
  rcases h with h | ⟨a, xs, ds, e, n, ha, f, o⟩
  · exact .inl h
  · exact .inr ⟨a, xs, _, e, ha, two_fy hj_fy f, o⟩
theorem BadT.j {l : Addr} {names : List Str} {H : Hp} {v : V} (h : BadT l names H v) : Jt0 H names v := by
  rcases h with h | ⟨a, xs, ds, e, n, ha, lt, f, o⟩
  · exact .inl h
  · exact .inr ⟨a, xs, _, e, ha, lt, two_fy tj_fy f, o⟩
theorem BadH.same {l : Addr} {H H' : Hp} {v : V} (h : BadH l H v) (s : Same H H') : BadH l H' v := by
  rcases h with ⟨T, h, n⟩ | ⟨a, xs, ds, e, n, ha, f, o⟩
  · exact .inl ⟨T, h.same s, n⟩
  · exact .inr ⟨a, xs, ds, e, n, s _ _ ha, f.same s, o⟩
theorem BadT.same {l : Addr} {names : List Str} {H H' : Hp} {v : V} (h : BadT l names H v) (s : Same H H') : BadT l names H' v := by
  rcases h with ⟨T, h, n⟩ | ⟨a, xs, ds, e, n, ha, lt, f, o⟩
  · exact .inl ⟨T, h.same s, n⟩
  · exact .inr ⟨a, xs, ds, e, n, s _ _ ha, lt, f.same s, o⟩
/-! ### shapes -/
def Lo (n : Nat) (d : PyData) : Prop := d.canLay0 = true ∧ d.depth ≤ n
theorem Lo.mono {n m : Nat} {d : PyData} (h : Lo n d) (k : n ≤ m) : Lo m d := ⟨h.1, Nat.le_trans h.2 k⟩
theorem lo_all {n : Nat} : ∀ {ds : List PyData}, (∀ d ∈ ds, Lo n d) → PyData.canLayAll0 ds = true ∧ PyData.depthAll ds ≤ n
  | [], _ => ⟨rfl, Nat.zero_le _⟩
  | d :: ds, h => by
    obtain ⟨a, b⟩ := h d (.head _)
    obtain ⟨c, e⟩ := lo_all (ds := ds) fun x hx => h x (.tail _ hx)
    refine ⟨?_, ?_⟩
    · show (d.canLay0 && PyData.canLayAll0 ds) = true
      rw [a, c]; rfl
    · show max d.depth (PyData.depthAll ds) ≤ n
      exact Nat.max_le.mpr ⟨b, e⟩
theorem lo_tup {n : Nat} {ds : List PyData} (h : ∀ d ∈ ds, Lo n d) : Lo (n + 1) (.tuple ds) := by
  obtain ⟨a, b⟩ := lo_all h
  exact ⟨a, Nat.succ_le_succ b⟩
theorem lo_lst {n : Nat} {ds : List PyData} (h : ∀ d ∈ ds, Lo n d) : Lo (n + 1) (.list ds) := by
  obtain ⟨a, b⟩ := lo_all h
  exact ⟨a, Nat.succ_le_succ b⟩
theorem lo_int (i : Int) : Lo 1 (.int i) := ⟨rfl, Nat.le_of_ble_eq_true rfl⟩
theorem lo_non : Lo 1 .none := ⟨rfl, Nat.le_of_ble_eq_true rfl⟩
theorem lo_bl (b : Bool) : Lo 1 (.bool b) := ⟨rfl, Nat.le_of_ble_eq_true rfl⟩
theorem lo_ints (ns : List Int) : ∀ d ∈ ns.map PyData.int, Lo 1 d := fun d hd => by
  obtain ⟨i, _, rfl⟩ := List.mem_map.mp hd
  exact lo_int i
theorem nm_lay {z : Str} (h : isNm z = true) : (PyData.str z).canLay0 = true := by
  unfold isNm at h
  have h2 := (Bool.and_eq_true_iff.mp h).2
  show z.cps.all (· < 0x110000) = true
  rw [← Array.all_toList, List.all_eq_true]
  intro c hc
  have h3 := List.all_eq_true.mp h2 c hc
  unfold smallC at h3
  have := of_decide_eq_true (Bool.and_eq_true_iff.mp h3).2
  exact decide_eq_true (by omega)
theorem lo_nm {z : Str} (h : isNm z = true) : Lo 1 (.str z) := ⟨nm_lay h, Nat.le_of_ble_eq_true rfl⟩
theorem m1 {P : PyData → Prop} {a : PyData} (ha : P a) : ∀ d ∈ [a], P d := fun d hd => by rw [List.mem_singleton.mp hd]; exact ha
theorem mc {P : PyData → Prop} {a : PyData} {ds : List PyData} (ha : P a) (h : ∀ d ∈ ds, P d) : ∀ d ∈ a :: ds, P d := fun d hd => by
  rcases List.mem_cons.mp hd with e | e
  · rw [e]; exact ha
  · exact h d e
theorem ma {P : PyData → Prop} {as bs : List PyData} (h1 : ∀ d ∈ as, P d) (h2 : ∀ d ∈ bs, P d) : ∀ d ∈ as ++ bs, P d := fun d hd => by
  rcases List.mem_append.mp hd with e | e
  · exact h1 d e
  · exact h2 d e
theorem m0 {P : PyData → Prop} : ∀ d ∈ ([] : List PyData), P d := fun d hd => by cases hd
theorem hand_fy {l : Addr} {H : Hp} {v : V} {p : Str × List Int} (f : Fy l H v (handD p)) : ∃ c b, v = .ref c ∧ H c = some (.tup [.str p.1, .ref b]) ∧ H b = some (.tup (p.2.map V.int)) ∧ p.1.length ≤ 1000 := by
  cases f with
  | @tup a xs _ h t =>
    cases t with
    | cons f0 t =>
      cases f0 with
      | str _ hl =>
      cases t with
      | cons f1 t =>
        cases t
        cases f1 with
        | @tup b ys _ hb tb =>
          have e : ys = p.2.map V.int := by
            have key : ∀ (ns : List Int) (ws : List V), FyAll l H ws (ns.map PyData.int) → ws = ns.map V.int := by
              intro ns
              induction ns with
              | nil => intro ws h; cases h; rfl
              | cons n ns ih =>
                intro ws h
                cases h with
                | cons a t =>
                  cases a
                  rw [ih _ t]; rfl
            exact key _ _ tb
          rw [e] at hb
          exact ⟨a, b, rfl, h, hb, hl⟩
theorem fy_hand {l : Addr} {H : Hp} {c b : Addr} {z : Str} {ns : List Int} (hl : z.length ≤ 1000) (hc : H c = some (.tup [.str z, .ref b])) (hb : H b = some (.tup (ns.map V.int))) : Fy l H (.ref c) (handD (z, ns)) := .tup hc (.cons (.str _ hl) (.cons (.tup hb fy_ints) .nil))
theorem pick_ok {l p : Addr} {xs : List V} {ds : List PyData} {H : Hp} {Q : VK} (s : Src H l) (hp : H p = some (.lst xs)) (n : p ≠ l) (f : FyAll l H xs ds) (h0 : ds ≠ []) (hl : ds.length ≤ 1000) (q : ∀ v d H', d ∈ ds → Fy l H' v d → Dr l H H' → Q v H') : spPick [.ref l, .ref p] H Q E0 := by
  have e := f.len
  refine ⟨l, p, xs, rfl, s, hp, n, fun z => ?_, by omega, fun v H' hv k => ?_⟩
  · rw [z] at e
    cases ds with
    | nil => exact h0 rfl
    | cons d ds => cases e
  · obtain ⟨d, hd, fd⟩ := f.mem hv
    exact q v d H' hd (fd.dr k) k
theorem handJ_num {a b : PyData} (h : numJ b = none) : handJ (.tuple [a, b]) = none := by
  show (match nmJ a, numJ b with | some z, some n => some (z, n) | _, _ => none) = none
  rw [h]
  cases nmJ a <;> rfl
theorem handJ_nm {a b : PyData} (h : nmJ a = none) : handJ (.tuple [a, b]) = none := by
  show (match nmJ a, numJ b with | some z, some n => some (z, n) | _, _ => none) = none
  rw [h]
theorem numJ_bad {ds : List PyData} {d : PyData} (h : d ∈ ds) (n : numD d = false) : numJ (.tuple ds) = none := by
  show (if (decide (1 ≤ ds.length) && decide (ds.length ≤ 3) && ds.all numD) = true then some ds.length else none) = none
  have : ds.all numD = false := List.all_eq_false.mpr ⟨d, h, by rw [n]; exact Bool.false_ne_true⟩
  rw [this, Bool.and_false]; rfl
theorem numJ_len {ds : List PyData} (h : ds.length = 0 ∨ 3 < ds.length) : numJ (.tuple ds) = none := by
  show (if (decide (1 ≤ ds.length) && decide (ds.length ≤ 3) && ds.all numD) = true then some ds.length else none) = none
  rcases h with h | h
  · rw [decide_eq_false (by omega : ¬ 1 ≤ ds.length)]; rfl
  · rw [decide_eq_false (by omega : ¬ ds.length ≤ 3), Bool.and_false]; rfl
theorem GHands.p {hs : List (Str × List Int)} (g : GHands hs) {p : Str × List Int} (hp : p ∈ hs) : isNm p.1 = true ∧ 1 ≤ p.2.length ∧ p.2.length ≤ 3 := by
  obtain ⟨_, _, _, n, n1, n3, gd⟩ := g
  obtain ⟨a, b, _⟩ := gd p hp
  exact ⟨a, by omega, by omega⟩

-- names: 0:_law_well_here 1:_law_hands 2:_law_name 3:_law_numbers_here 4:_law_other 5:_law_strange 6:_law_at 7:_law_odd 8:_law_some
abbrev N_l_odd_hand : List Str := ["_law_well_here", "_law_hands", "_law_name", "_law_numbers_here", "_law_other", "_law_strange", "_law_at", "_law_odd", "_law_some"]
def t_l_odd_hand (K : PySem.W.Frag) : TS :=
  (tSeq (tAsg (tCall spPick [] E0 (tCons (tVar 0) (tCons (tVar 1) tNil))) (gTup K 2 (gCons (gName 2) (gCons (gName 3) gNil))))
    (tSeq (tAsg (tCall spPick [] E0 (tCons (tVar 0) (tCons (tVar 1) tNil))) (gName 4))
    (tSeq (tAsg (tCall spPick [] E0 (tCons (tVar 0) (tCons (tLst (tCons (tC (.str ("" : Str))) (tCons (tC (.str ("Name" : Str))) (tCons (tC (.str ("abcdefghi" : Str))) (tCons (tC (.str ("a b" : Str))) (tCons (tC (.str ("a1" : Str))) (tCons (tC .non) (tCons (tC (.int 7)) (tCons (tC (.bl true)) (tCons (tTup (tCons (tC (.str ("a" : Str))) tNil)) (tCons (tLst (tCons (tC (.str ("a" : Str))) tNil)) (tCons (tC (.str ("a\n" : Str))) tNil)))))))))))) tNil))) (gName 5))
    (tSeq (tAsg (tCall spDraw [] E0 (tCons (tVar 0) (tCons (tCB (Evl.rLenS K) (tCons (tVar 3) tNil)) tNil))) (gName 6))
    (tSeq (tAsg (tCall spPick [] E0 (tCons (tVar 0) (tCons (tLst (tCons (tOp rAddI (tOp rPowI (tC (.int 10)) (tC (.int 12))) (tC (.int 1))) (tCons (tOp rSubI (tOp rSubI (tC (.int 0)) (tOp rPowI (tC (.int 10)) (tC (.int 12)))) (tC (.int 1))) (tCons (tC (.bl true)) (tCons (tC (.bl false)) (tCons (tC .non) (tCons (tC (.str ("1" : Str))) (tCons (tTup (tCons (tC (.int 1)) tNil)) (tCons (tLst (tCons (tC (.int 1)) tNil)) tNil))))))))) tNil))) (gName 7))
    (tSeq (tAsg (tLst (tCons (tTup (tCons (tVar 5) (tCons (tVar 3) tNil))) (tCons (tTup (tCons (tVar 2) (tCons (tOp (rCatA K) (tOp (rCatA K) (tSl (rSlA K) (tVar 3) tNoPart (tPart (tVar 6))) (tTup (tCons (tVar 7) tNil))) (tSl (rSlA K) (tVar 3) (tPart (tOp rAddI (tVar 6) (tC (.int 1)))) tNoPart)) tNil))) (tCons (tTup (tCons (tVar 2) (tCons (tTup tNil) tNil))) tNil)))) (gName 8))
    (tSeq (tAsg (tOp rCat (tVar 8) (tLst (tCons (tTup (tCons (tVar 2) (tCons (tOp (rRepT K) (tVar 3) (tC (.int 4))) tNil))) tNil))) (gName 8))
    (tSeq (tAsg (tOp rCat (tVar 8) (tLst (tCons (tTup (tCons (tVar 2) (tCons (tCB (Evl.rListS K) (tCons (tVar 3) tNil)) tNil))) (tCons (tTup (tCons (tVar 2) tNil)) (tCons (tTup (tCons (tVar 2) (tCons (tVar 3) (tCons (tC (.int 0)) tNil)))) (tCons (tLst (tCons (tVar 2) (tCons (tVar 3) tNil))) (tCons (tVar 2) (tCons (tC .non) (tCons (tVar 3) tNil))))))))) (gName 8))
    (tSeq (tAsg (tOp rCat (tVar 8) (tLst (tCons (tTup (tCons (tVar 2) (tCons (tOp (rIxT K) (tVar 3) (tC (.int 0))) tNil))) (tCons (tTup (tCons (tOp rAddStr (tOp (rIxT K) (tVar 4) (tC (.int 0))) (tC (.str ("" : Str)))) (tCons (tOp (rIxT K) (tVar 4) (tC (.int 1))) tNil))) (tCons (tTup (tCons (tVar 3) (tCons (tVar 2) tNil))) tNil))))) (gName 8))
    (tRet (tCall spPick [] E0 (tCons (tVar 0) (tCons (tVar 8) tNil)))))))))))))

-- names: 0:_law_well_here 1:_law_hands 2:_law_way 3:_law_at 4:_law_spare 5:_law_shorter 6:_law_odd 7:_law_one
abbrev N_l_odd_hands : List Str := ["_law_well_here", "_law_hands", "_law_way", "_law_at", "_law_spare", "_law_shorter", "_law_odd", "_law_one"]
def t_l_odd_hands (K : PySem.W.Frag) : TS :=
  (tSeq (tAsg (tCall spDraw [] E0 (tCons (tVar 0) (tCons (tC (.int 8)) tNil))) (gName 2))
    (tSeq (tAsg (tCall spDraw [] E0 (tCons (tVar 0) (tCons (tCB (Evl.rLenS K) (tCons (tVar 1) tNil)) tNil))) (gName 3))
    (tSeq (tIfS (tTest (tOp rEq (tVar 2) (tC (.int 0)))) (tRet (tCall spPick [] E0 (tCons (tVar 0) (tCons (tLst (tCons (tLst tNil) (tCons (tCB (rTupOf K) (tCons (tVar 1) tNil)) (tCons (tC .non) (tCons (tCB (rDictP K) (tCons (tVar 1) tNil)) (tCons (tC (.str ("a" : Str))) (tCons (tC (.int 3)) (tCons (tOp (rIxL K) (tVar 1) (tC (.int 0))) (tCons (tLst (tCons (tVar 1) tNil)) tNil))))))))) tNil)))) tNext)
    (tSeq (tIfS (tTest (tOp rEq (tVar 2) (tC (.int 1)))) (tSeq (tAsg (tLc (iStr (tC (.str ("abcdefghi" : Str)))) (gName 7) tYes (tOp rAddStr (tC (.str ("spare" : Str))) (tVar 7)) [7]) (gName 4))
      (tRet (tOp rCat (tOp rCat (tSl (rSlL K) (tVar 1) tNoPart (tPart (tVar 3))) (tLc (iList K (tSl (rSlL K) (tVar 4) tNoPart (tPart (tOp rSubI (tC (.int 9)) (tCB (Evl.rLenS K) (tCons (tVar 1) tNil)))))) (gName 7) tYes (tTup (tCons (tVar 7) (tCons (tOp (rIxT K) (tOp (rIxL K) (tVar 1) (tC (.int 0))) (tC (.int 1))) tNil))) [7])) (tSl (rSlL K) (tVar 1) (tPart (tVar 3)) tNoPart)))) tNext)
    (tSeq (tIfS (tTest (tOp rEq (tVar 2) (tC (.int 2)))) (tRet (tOp rCat (tOp rCat (tSl (rSlL K) (tVar 1) tNoPart (tPart (tVar 3))) (tLst (tCons (tTup (tCons (tOp (rIxT K) (tOp (rIxL K) (tVar 1) (tCall spDraw [] E0 (tCons (tVar 0) (tCons (tCB (Evl.rLenS K) (tCons (tVar 1) tNil)) tNil)))) (tC (.int 0))) (tCons (tOp (rIxT K) (tOp (rIxL K) (tVar 1) (tC (.int 0))) (tC (.int 1))) tNil))) tNil))) (tSl (rSlL K) (tVar 1) (tPart (tVar 3)) tNoPart))) tNext)
    (tSeq (tIfS (tTest (tOp rEq (tVar 2) (tC (.int 3)))) (tSeq (tAsg (tOp (rRepT K) (tOp (rIxT K) (tOp (rIxL K) (tVar 1) (tC (.int 0))) (tC (.int 1))) (tC (.int 2))) (gName 5))
      (tRet (tOp rCat (tOp rCat (tSl (rSlL K) (tVar 1) tNoPart (tPart (tVar 3))) (tLst (tCons (tTup (tCons (tC (.str ("odd" : Str))) (tCons (tSl (rSlA K) (tVar 5) tNoPart (tPart (tOp rAddI (tC (.int 1)) (tOp rModI (tCB (Evl.rLenS K) (tCons (tOp (rIxT K) (tOp (rIxL K) (tVar 1) (tC (.int 0))) (tC (.int 1))) tNil)) (tC (.int 3)))))) tNil))) tNil))) (tSl (rSlL K) (tVar 1) (tPart (tVar 3)) tNoPart)))) tNext)
    (tSeq (tAsg (tCall spOddHand [] E0 (tCons (tVar 0) (tCons (tVar 1) tNil))) (gName 6))
    (tSeq (tIfS (tTest (tOp (rInD K) (tVar 6) (tVar 1))) (tRet (tOp rCat (tVar 1) (tLst (tCons (tVar 6) tNil)))) tNext)
    (tRet (tOp rCat (tOp rCat (tSl (rSlL K) (tVar 1) tNoPart (tPart (tVar 3))) (tLst (tCons (tVar 6) tNil))) (tSl (rSlL K) (tVar 1) (tPart (tOp rAddI (tVar 3) (tC (.int 1)))) tNoPart)))))))))))

-- names: 0:_law_well_here 1:_law_hands 2:_law_ties_here 3:_law_names_here 4:_law_name 5:_law_other 6:_law_at 7:_law_strange 8:_law_some 9:_law_tie 10:_law_bad_here 11:_law_hand 12:_law_one
abbrev N_l_odd_ties : List Str := ["_law_well_here", "_law_hands", "_law_ties_here", "_law_names_here", "_law_name", "_law_other", "_law_at", "_law_strange", "_law_some", "_law_tie", "_law_bad_here", "_law_hand", "_law_one"]
def t_l_odd_ties (K : PySem.W.Frag) : TS :=
  (tSeq (tAsg (tLc (iList K (tVar 1)) (gName 11) tYes (tOp (rIxT K) (tVar 11) (tC (.int 0))) [11]) (gName 3))
    (tSeq (tAsg (tCall spPick [] E0 (tCons (tVar 0) (tCons (tVar 3) tNil))) (gName 4))
    (tSeq (tAsg (tCall spPick [] E0 (tCons (tVar 0) (tCons (tVar 3) tNil))) (gName 5))
    (tSeq (tAsg (tCall spDraw [] E0 (tCons (tVar 0) (tCons (tOp rAddI (tCB (Evl.rLenS K) (tCons (tVar 2) tNil)) (tC (.int 1))) tNil))) (gName 6))
    (tSeq (tAsg (tOp (rIxL K) (tLc (iList K (tLst (tCons (tC (.str ("strange" : Str))) (tCons (tC (.str ("unheard" : Str))) tNil)))) (gName 12) (tTest (tOp (rIn K true) (tVar 12) (tVar 3))) (tVar 12) [12]) (tC (.int 0))) (gName 7))
    (tSeq (tAsg (tLst (tCons (tTup (tCons (tVar 4) (tCons (tVar 7) tNil))) (tCons (tTup (tCons (tVar 7) (tCons (tVar 4) tNil))) (tCons (tTup (tCons (tVar 4) (tCons (tVar 4) tNil))) (tCons (tTup (tCons (tVar 4) tNil)) (tCons (tTup (tCons (tVar 4) (tCons (tVar 5) (tCons (tVar 4) tNil)))) (tCons (tLst (tCons (tVar 4) (tCons (tVar 5) tNil))) tNil))))))) (gName 8))
    (tSeq (tAsg (tOp rCat (tVar 8) (tLst (tCons (tVar 4) tNil))) (gName 8))
    (tSeq (tAsg (tOp rCat (tVar 8) (tLst (tCons (tC .non) (tCons (tTup (tCons (tVar 4) (tCons (tC .non) tNil))) (tCons (tTup (tCons (tC (.int 0)) (tCons (tVar 4) tNil))) (tCons (tTup (tCons (tVar 4) (tCons (tLst (tCons (tVar 5) tNil)) tNil))) (tCons (tTup tNil) (tCons (tTup (tCons (tVar 4) (tCons (tC (.str ("" : Str))) tNil))) (tCons (tTup (tCons (tTup (tCons (tVar 4) (tCons (tVar 5) tNil))) tNil)) tNil))))))))) (gName 8))
    (tSeq (tIfS (tTest (tOp (rNeD K) (tVar 2) (tLst tNil))) (tSeq (tAsg (tCall spPick [] E0 (tCons (tVar 0) (tCons (tVar 2) tNil))) (gName 9))
      (tAsg (tOp rCat (tVar 8) (tLst (tCons (tVar 9) (tCons (tRevT K (tVar 9)) (tCons (tVar 9) (tCons (tRevT K (tVar 9)) (tCons (tCB (Evl.rListS K) (tCons (tVar 9) tNil)) tNil))))))) (gName 8))) tNext)
    (tSeq (tAsg (tOp rCat (tOp rCat (tSl (rSlL K) (tVar 2) tNoPart (tPart (tVar 6))) (tLst (tCons (tCall spPick [] E0 (tCons (tVar 0) (tCons (tVar 8) tNil))) tNil))) (tSl (rSlL K) (tVar 2) (tPart (tVar 6)) tNoPart)) (gName 10))
    (tSeq (tIfS (tTest (tOp rEq (tCall spDraw [] E0 (tCons (tVar 0) (tCons (tC (.int 8)) tNil))) (tC (.int 0)))) (tAsg (tCall spPick [] E0 (tCons (tVar 0) (tCons (tLst (tCons (tCB (rTupOf K) (tCons (tVar 2) tNil)) (tCons (tC .non) (tCons tDNewK (tCons (tC (.str ("" : Str))) (tCons (tC (.int 0)) (tCons (tTup (tCons (tVar 4) (tCons (tVar 5) tNil))) tNil))))))) tNil))) (gName 10)) tNext)
    (tRet (tVar 10)))))))))))))

-- names: 0:_law_well_here 1:_law_hands 2:_law_ties_here 3:_law_way 4:_law_some
abbrev N_l_bad : List Str := ["_law_well_here", "_law_hands", "_law_ties_here", "_law_way", "_law_some"]
def t_l_bad (K : PySem.W.Frag) : TS :=
  (tSeq (tAsg (tCall spDraw [] E0 (tCons (tVar 0) (tCons (tC (.int 8)) tNil))) (gName 3))
    (tSeq (tIfS (tTest (tOp rEq (tVar 3) (tC (.int 0)))) (tSeq (tAsg (tLst (tCons (tC .non) (tCons (tLst (tCons (tVar 1) (tCons (tVar 2) tNil))) (tCons (tTup (tCons (tVar 1) tNil)) (tCons (tTup (tCons (tVar 1) (tCons (tVar 2) (tCons (tVar 2) tNil)))) (tCons (tTup (tCons (tVar 2) (tCons (tVar 1) tNil))) (tCons (tVar 1) (tCons tDNewK (tCons (tC (.str ("web" : Str))) (tCons (tC (.int 0)) tNil)))))))))) (gName 4))
      (tSeq (tAsg (tOp rCat (tVar 4) (tLst (tCons (tC (.bl true)) (tCons (tTup tNil) tNil)))) (gName 4))
      (tRet (tCall spPick [] E0 (tCons (tVar 0) (tCons (tVar 4) tNil)))))) tNext)
    (tSeq (tIfS (tTest (tOp rLtI (tVar 3) (tC (.int 5)))) (tRet (tTup (tCons (tCall spOddHands [] E0 (tCons (tVar 0) (tCons (tVar 1) tNil))) (tCons (tLst tNil) tNil)))) tNext)
    (tRet (tTup (tCons (tCB (Evl.rListS K) (tCons (tVar 1) tNil)) (tCons (tCall spOddTies [] E0 (tCons (tVar 0) (tCons (tVar 1) (tCons (tVar 2) tNil)))) tNil)))))))


theorem p_l_odd_hand_len {vs : List V} {H : Hp} {Q : VK} {E : XK} (h : spOddHand vs H Q E) : vs.length = 2 := by
  obtain ⟨l, h, hxs, hs, rfl, _⟩ := h; rfl
theorem ns_ne {l p : Addr} {H : Hp} {o : HO} (s : Src H l) (hp : H p = none) : Src (upd H p o) l := s.new hp
theorem str_ok (z : Str) (h : z.length ≤ 1000 := by decide +kernel) {l : Addr} {H : Hp} : Fy l H (.str z) (.str z) := .str z h
theorem lo_lit (z : Str) (h : (PyData.str z).canLay0 = true := by decide +kernel) : Lo 1 (.str z) := ⟨h, Nat.le_of_ble_eq_true rfl⟩
theorem nj_lit (z : Str) (h : isNm z = false := by decide +kernel) : nmJ (.str z) = none := by
  show (if isNm z = true then some z else none) = none
  rw [h]; rfl
def OddN (d : PyData) : Prop := Lo 2 d ∧ nmJ d = none
def OddI (d : PyData) : Prop := Lo 2 d ∧ numD d = false
def OddHd (hs : List (Str × List Int)) (d : PyData) : Prop := Lo 4 d ∧ (handJ d = none ∨ ∃ p ∈ hs, d = handD p)
theorem p_l_odd_hand {K : PySem.W.Frag} {vs : List V} {H : Hp} {Q : VK} {E : XK} (h : spOddHand vs H Q E) : t_l_odd_hand K { nx := fun _ H' => Q .non H', rt := Q } (start N_l_odd_hand vs) H := by
  obtain ⟨l, h, hxs, hs, rfl, src, nhl, hh, fh, gh, q⟩ := h
  have one := gh.one
  have few := gh.few
  have dne : hs.map handD ≠ [] := fun z => by
    have := congrArg List.length z
    rw [List.length_map] at this
    have : hs.length = 0 := this
    omega
  have dl : (hs.map handD).length ≤ 1000 := by rw [List.length_map]; omega
  unfold t_l_odd_hand
  walk_at "go"
  refine pick_ok src hh nhl fh dne dl fun v d H1 hd fv k1 => ?_
  obtain ⟨p0, hp0, rfl⟩ := List.mem_map.mp hd
  obtain ⟨c0, b0, rfl, hc0, hb0, lz0⟩ := hand_fy fv
  obtain ⟨nm0, n1, n3⟩ := gh.p hp0
  walk_at "go"
  refine pick_ok k1.src (k1.keep _ _ nhl hh) nhl (fh.dr k1) dne dl fun v d H2 hd fv2 k2 => ?_
  obtain ⟨p1, hp1, rfl⟩ := List.mem_map.mp hd
  obtain ⟨c1, b1, rfl, hc1, hb1, lz1⟩ := hand_fy fv2
  have hb0 := k2.tup hb0
  -- strange
  walk_at "go"
  refine ⟨by show 1 ≤ sizeLine; decide, fun A1 a1 => ?_⟩
  walk_at "go"
  refine ⟨by show 1 ≤ sizeLine; decide, fun A2 a2 => ?_⟩
  walk_at "go"
  refine ⟨by show 11 ≤ sizeLine; decide, fun A3 a3 => ?_⟩
  have s3 : Same H2 (upd (upd (upd H2 A1 (.tup [.str ("a" : Str)])) A2 (.lst [.str ("a" : Str)])) A3 (.lst [.str ("" : Str), .str ("Name" : Str), .str ("abcdefghi" : Str), .str ("a b" : Str), .str ("a1" : Str), .non, .int 7, .bl true, .ref A1, .ref A2, .str ("a\n" : Str)])) := same_in (same_in (same_new a1) a2) a3
  have nA2 : A2 ≠ l := (k2.src.ext (same_new a1)).ne_new a2
  have nA3 : A3 ≠ l := (k2.src.ext (same_in (same_new a1) a2)).ne_new a3
  have hA1 : (upd (upd (upd H2 A1 (.tup [.str ("a" : Str)])) A2 (.lst [.str ("a" : Str)])) A3 (.lst [.str ("" : Str), .str ("Name" : Str), .str ("abcdefghi" : Str), .str ("a b" : Str), .str ("a1" : Str), .non, .int 7, .bl true, .ref A1, .ref A2, .str ("a\n" : Str)])) A1 = some (.tup [.str ("a" : Str)]) := keep (keep upd_same a2) a3
  have hA2 : (upd (upd (upd H2 A1 (.tup [.str ("a" : Str)])) A2 (.lst [.str ("a" : Str)])) A3 (.lst [.str ("" : Str), .str ("Name" : Str), .str ("abcdefghi" : Str), .str ("a b" : Str), .str ("a1" : Str), .non, .int 7, .bl true, .ref A1, .ref A2, .str ("a\n" : Str)])) A2 = some (.lst [.str ("a" : Str)]) := keep upd_same a3
  have hA3 : (upd (upd (upd H2 A1 (.tup [.str ("a" : Str)])) A2 (.lst [.str ("a" : Str)])) A3 (.lst [.str ("" : Str), .str ("Name" : Str), .str ("abcdefghi" : Str), .str ("a b" : Str), .str ("a1" : Str), .non, .int 7, .bl true, .ref A1, .ref A2, .str ("a\n" : Str)])) A3 = some (.lst [.str ("" : Str), .str ("Name" : Str), .str ("abcdefghi" : Str), .str ("a b" : Str), .str ("a1" : Str), .non, .int 7, .bl true, .ref A1, .ref A2, .str ("a\n" : Str)]) := upd_same
  generalize upd (upd (upd H2 A1 (.tup [.str ("a" : Str)])) A2 (.lst [.str ("a" : Str)])) A3 (.lst [.str ("" : Str), .str ("Name" : Str), .str ("abcdefghi" : Str), .str ("a b" : Str), .str ("a1" : Str), .non, .int 7, .bl true, .ref A1, .ref A2, .str ("a\n" : Str)]) = H3 at *
  have fA : FyAll l H3 [.str ("" : Str), .str ("Name" : Str), .str ("abcdefghi" : Str), .str ("a b" : Str), .str ("a1" : Str), .non, .int 7, .bl true, .ref A1, .ref A2, .str ("a\n" : Str)] [.str "", .str "Name", .str "abcdefghi", .str "a b", .str "a1", .none, .int 7, .bool true, .tuple [.str "a"], .list [.str "a"], .str "a\n"] :=
    .cons (str_ok _) (.cons (str_ok _) (.cons (str_ok _) (.cons (str_ok _) (.cons (str_ok _) (.cons .non (.cons (.int _) (.cons (.bl _) (.cons (.tup hA1 (.cons (str_ok _) .nil)) (.cons (.lst nA2 hA2 (.cons (str_ok _) .nil)) (.cons (str_ok _) .nil))))))))))
  have oA : ∀ d ∈ [PyData.str "", .str "Name", .str "abcdefghi", .str "a b", .str "a1", .none, .int 7, .bool true, .tuple [.str "a"], .list [.str "a"], .str "a\n"], OddN d :=
    mc ⟨(lo_lit _).mono (by decide), nj_lit _⟩ (mc ⟨(lo_lit _).mono (by decide), nj_lit _⟩ (mc ⟨(lo_lit _).mono (by decide), nj_lit _⟩ (mc ⟨(lo_lit _).mono (by decide), nj_lit _⟩ (mc ⟨(lo_lit _).mono (by decide), nj_lit _⟩ (mc ⟨lo_non.mono (by decide), rfl⟩ (mc ⟨(lo_int _).mono (by decide), rfl⟩ (mc ⟨(lo_bl _).mono (by decide), rfl⟩ (mc ⟨lo_tup (m1 (lo_lit _)), rfl⟩ (mc ⟨lo_lst (m1 (lo_lit _)), rfl⟩ (m1 ⟨(lo_lit _).mono (by decide), nj_lit _⟩))))))))))
  have k3 := k2.trans (Dr.same k2.src s3)
  refine pick_ok k3.src hA3 nA3 fA (by simp) (by simp) fun vs_ ds H4 hds fvs k4 => ?_
  have oS := oA ds hds
  clear fA oA hA1 hA2 hA3 hds
  have hb0 := k4.tup (s3 _ _ hb0)
  have hc1 := k4.tup (s3 _ _ hc1)
  have hb1 := k4.tup (s3 _ _ hb1)
  have k14 := (k1.trans k3).trans k4
  walk_at "go"
  refine ⟨l, _, rfl, k4.src, by rw [List.length_map]; omega, Nat.lt_of_le_of_lt (by rw [List.length_map]; omega : _ ≤ 1000) (by decide), fun at_ H5 at0 at1 k5 => ?_⟩
  rw [List.length_map] at at1
  obtain ⟨i, rfl⟩ := Int.eq_ofNat_of_zero_le at0
  have hi : i < p0.2.length := by omega
  have fvs := fvs.dr k5
  have hb0 := k5.tup hb0
  have hc1 := k5.tup hc1
  have hb1 := k5.tup hb1
  have k15 := k14.trans k5
  -- odd
  walk_at "go"
  refine ⟨by show 1 ≤ sizeLine; decide, fun B1 g1 => ?_⟩
  walk_at "go"
  refine ⟨by show 1 ≤ sizeLine; decide, fun B2 g2 => ?_⟩
  walk_at "go"
  refine ⟨by show 8 ≤ sizeLine; decide, fun B3 g3 => ?_⟩
  have e12 : (10 : Int) ^ (12 : Int).toNat = 1000000000000 := by decide
  rw [e12]
  have s6 : Same H5 (upd (upd (upd H5 B1 (.tup [.int 1])) B2 (.lst [.int 1])) B3 (.lst [.int (1000000000000 + 1), .int (0 - 1000000000000 - 1), .bl true, .bl false, .non, .str ("1" : Str), .ref B1, .ref B2])) := same_in (same_in (same_new g1) g2) g3
  have nB2 : B2 ≠ l := (k5.src.ext (same_new g1)).ne_new g2
  have nB3 : B3 ≠ l := (k5.src.ext (same_in (same_new g1) g2)).ne_new g3
  have hB1 : (upd (upd (upd H5 B1 (.tup [.int 1])) B2 (.lst [.int 1])) B3 (.lst [.int (1000000000000 + 1), .int (0 - 1000000000000 - 1), .bl true, .bl false, .non, .str ("1" : Str), .ref B1, .ref B2])) B1 = some (.tup [.int 1]) := keep (keep upd_same g2) g3
  have hB2 : (upd (upd (upd H5 B1 (.tup [.int 1])) B2 (.lst [.int 1])) B3 (.lst [.int (1000000000000 + 1), .int (0 - 1000000000000 - 1), .bl true, .bl false, .non, .str ("1" : Str), .ref B1, .ref B2])) B2 = some (.lst [.int 1]) := keep upd_same g3
  have hB3 : (upd (upd (upd H5 B1 (.tup [.int 1])) B2 (.lst [.int 1])) B3 (.lst [.int (1000000000000 + 1), .int (0 - 1000000000000 - 1), .bl true, .bl false, .non, .str ("1" : Str), .ref B1, .ref B2])) B3 = some (.lst [.int (1000000000000 + 1), .int (0 - 1000000000000 - 1), .bl true, .bl false, .non, .str ("1" : Str), .ref B1, .ref B2]) := upd_same
  generalize upd (upd (upd H5 B1 (.tup [.int 1])) B2 (.lst [.int 1])) B3 (.lst [.int (1000000000000 + 1), .int (0 - 1000000000000 - 1), .bl true, .bl false, .non, .str ("1" : Str), .ref B1, .ref B2]) = H6 at *
  have fB : FyAll l H6 [.int (1000000000000 + 1), .int (0 - 1000000000000 - 1), .bl true, .bl false, .non, .str ("1" : Str), .ref B1, .ref B2] [.int (1000000000000 + 1), .int (0 - 1000000000000 - 1), .bool true, .bool false, .none, .str "1", .tuple [.int 1], .list [.int 1]] :=
    .cons (.int _) (.cons (.int _) (.cons (.bl _) (.cons (.bl _) (.cons .non (.cons (str_ok _) (.cons (.tup hB1 (.cons (.int _) .nil)) (.cons (.lst nB2 hB2 (.cons (.int _) .nil)) .nil)))))))
  have oB : ∀ d ∈ [PyData.int (1000000000000 + 1), .int (0 - 1000000000000 - 1), .bool true, .bool false, .none, .str "1", .tuple [.int 1], .list [.int 1]], OddI d :=
    mc ⟨(lo_int _).mono (by decide), by decide⟩ (mc ⟨(lo_int _).mono (by decide), by decide⟩ (mc ⟨(lo_bl _).mono (by decide), rfl⟩ (mc ⟨(lo_bl _).mono (by decide), rfl⟩ (mc ⟨lo_non.mono (by decide), rfl⟩ (mc ⟨(lo_lit _).mono (by decide), rfl⟩ (mc ⟨lo_tup (m1 (lo_int _)), rfl⟩ (m1 ⟨lo_lst (m1 (lo_int _)), rfl⟩)))))))
  have k6 := Dr.same k5.src s6
  refine pick_ok k6.src hB3 nB3 fB (by simp) (by simp) fun vo do_ H7 hdo fvo k7 => ?_
  have oO := oB do_ hdo
  clear fB oB hB1 hB2 hB3 hdo
  have k67 := k6.trans k7
  have fvs := fvs.dr k67
  have hb0 := k67.tup hb0
  have hc1 := k67.tup hc1
  have hb1 := k67.tup hb1
  have k17 := k15.trans k67
  -- the first three
  walk_at "go"
  refine ⟨by show 2 ≤ sizeLine; decide, fun C1 c1' => ?_⟩
  have s8 : Same H7 (upd H7 C1 (.tup [vs_, .ref b0])) := same_new c1'
  have hC1 : (upd H7 C1 (.tup [vs_, .ref b0])) C1 = some (.tup [vs_, .ref b0]) := upd_same
  generalize upd H7 C1 (.tup [vs_, .ref b0]) = H8 at *
  have hb0' := s8 _ _ hb0
  walk_at "go"
  refine w_slA hb0' fun P1 H9 s9 hP1 => ?_
  walk_at "go"
  refine ⟨by show 1 ≤ sizeLine; decide, fun P2 p2 => ?_⟩
  refine w_catA (keep hP1 p2) upd_same (by
    have := cutV_length (p0.2.map V.int) none (some (i : Int))
    rw [List.length_map] at this
    show _ + 1 ≤ 1000
    omega) fun P3 H10 s10 hP3 => ?_
  have s810 : Same H8 H10 := (s9.trans (same_new p2)).trans s10
  have hb10 := s810 _ _ hb0'
  walk_at "go"
  refine w_slA hb10 fun P4 H11 s11 hP4 => ?_
  have ei : (i : Int) + 1 = ((i + 1 : Nat) : Int) := by omega
  rw [ei] at hP4
  rw [cut_take (by rw [List.length_map]; omega)] at hP3
  rw [cut_drop (by rw [List.length_map]; omega)] at hP4
  refine w_catA (s11 _ _ hP3) hP4 (by
    rw [List.length_append, List.length_take, List.length_drop, List.length_map]
    show _ + 1 + _ ≤ 1000
    omega) fun P5 H12 s12 hP5 => ?_
  have s812 := (s810.trans s11).trans s12
  walk_at "go"
  refine ⟨by show 2 ≤ sizeLine; decide, fun C2 c2' => ?_⟩
  walk_at "go"
  refine ⟨by show 0 ≤ sizeLine; decide, fun C3 c3' => ?_⟩
  walk_at "go"
  refine ⟨by show 2 ≤ sizeLine; decide, fun C4 c4' => ?_⟩
  walk_at "go"
  refine ⟨by show 3 ≤ sizeLine; decide, fun S1 z1 => ?_⟩
  have s1213 : Same H12 (upd (upd (upd (upd H12 C2 (.tup [.str p0.1, .ref P5])) C3 (.tup [])) C4 (.tup [.str p0.1, .ref C3])) S1 (.lst [.ref C1, .ref C2, .ref C4])) := same_in (same_in (same_in (same_new c2') c3') c4') z1
  have hC2 : (upd (upd (upd (upd H12 C2 (.tup [.str p0.1, .ref P5])) C3 (.tup [])) C4 (.tup [.str p0.1, .ref C3])) S1 (.lst [.ref C1, .ref C2, .ref C4])) C2 = some (.tup [.str p0.1, .ref P5]) := keep (keep (keep upd_same c3') c4') z1
  have hC3 : (upd (upd (upd (upd H12 C2 (.tup [.str p0.1, .ref P5])) C3 (.tup [])) C4 (.tup [.str p0.1, .ref C3])) S1 (.lst [.ref C1, .ref C2, .ref C4])) C3 = some (.tup []) := keep (keep upd_same c4') z1
  have hC4 : (upd (upd (upd (upd H12 C2 (.tup [.str p0.1, .ref P5])) C3 (.tup [])) C4 (.tup [.str p0.1, .ref C3])) S1 (.lst [.ref C1, .ref C2, .ref C4])) C4 = some (.tup [.str p0.1, .ref C3]) := keep upd_same z1
  have hS1 : (upd (upd (upd (upd H12 C2 (.tup [.str p0.1, .ref P5])) C3 (.tup [])) C4 (.tup [.str p0.1, .ref C3])) S1 (.lst [.ref C1, .ref C2, .ref C4])) S1 = some (.lst [.ref C1, .ref C2, .ref C4]) := upd_same
  generalize upd (upd (upd (upd H12 C2 (.tup [.str p0.1, .ref P5])) C3 (.tup [])) C4 (.tup [.str p0.1, .ref C3])) S1 (.lst [.ref C1, .ref C2, .ref C4]) = H13 at *
  have s813 := s812.trans s1213
  have s713 := s8.trans s813
  have f1 : FyAll l H13 [.ref C1, .ref C2, .ref C4] [.tuple [ds, .tuple (p0.2.map PyData.int)], .tuple [.str p0.1, .tuple ((p0.2.map PyData.int).take i ++ [do_] ++ (p0.2.map PyData.int).drop (i + 1))], .tuple [.str p0.1, .tuple []]] := by
    refine .cons (.tup (s813 _ _ hC1) (.cons (fvs.same s713) (.cons (.tup (s713 _ _ hb0) fy_ints) .nil))) (.cons (.tup hC2 (.cons (.str _ lz0) (.cons (.tup (s1213 _ _ hP5) ?_) .nil))) (.cons (.tup hC4 (.cons (.str _ lz0) (.cons (.tup hC3 .nil) .nil))) .nil))
    exact ((fy_ints.take i).app (.cons (fvo.same s713) .nil)).app (fy_ints.drop (i + 1))
  have o1 : ∀ d ∈ [PyData.tuple [ds, .tuple (p0.2.map PyData.int)], .tuple [.str p0.1, .tuple ((p0.2.map PyData.int).take i ++ [do_] ++ (p0.2.map PyData.int).drop (i + 1))], .tuple [.str p0.1, .tuple []]], OddHd hs d := by
    have lp := lo_nm nm0
    have ln := lo_tup (lo_ints p0.2)
    refine mc ⟨(lo_tup (mc oS.1 (m1 ln))).mono (by decide), .inl (handJ_nm oS.2)⟩ (mc ⟨lo_tup (mc (lp.mono (by decide)) (m1 (lo_tup (n := 2) ?_))), .inl (handJ_num (numJ_bad (d := do_) ?_ oO.2))⟩ (m1 ⟨(lo_tup (n := 2) (mc (lp.mono (by decide)) (m1 ((lo_tup (n := 1) m0))))).mono (by decide), .inl (handJ_num (numJ_len (.inl rfl)))⟩))
    · refine ma (ma (fun d hd => ?_) (m1 oO.1)) (fun d hd => ?_)
      · exact (lo_ints p0.2 d (List.mem_of_mem_take hd)).mono (by decide)
      · exact (lo_ints p0.2 d (List.mem_of_mem_drop hd)).mono (by decide)
    · exact List.mem_append.mpr (.inl (List.mem_append.mpr (.inr (.head _))))
  clear hC1 hC2 hC3 hC4 hP1 hP3 hP4 hP5
  have hb0 := s713 _ _ hb0
  have hc1 := s713 _ _ hc1
  have hb1 := s713 _ _ hb1
  have k713 := Dr.same k7.src s713
  have k113 := k17.trans k713
  clear oS oO fvs fvo
  clear s713 s813 s1213 s812 s810 s8 s9 s10 s11 s12 s6 s3 fv fv2
  -- the fourth: four times the numbers
  walk_at "go"
  refine w_repT (k := 4) (sqT hb0) (fun z => by
    have := congrArg List.length z
    rw [List.length_map] at this
    have : p0.2.length = 0 := this
    omega) (by decide) (by decide) (by rw [List.length_map]; omega) fun R1 r1 => ?_
  have hR1 : (upd H13 R1 (.tup (List.replicate 4 (p0.2.map V.int)).flatten)) R1 = some (.tup ((List.replicate 4 p0.2).flatten.map V.int)) := by
    rw [upd_same, List.map_flatten, List.map_replicate]
  have t1 : Same H13 (upd H13 R1 (.tup (List.replicate 4 (p0.2.map V.int)).flatten)) := same_new r1
  generalize upd H13 R1 (.tup (List.replicate 4 (p0.2.map V.int)).flatten) = H14 at *
  walk_at "go"
  refine ⟨by show 2 ≤ sizeLine; decide, fun R2 r2 => ?_⟩
  walk_at "go"
  refine ⟨by show 1 ≤ sizeLine; decide, fun R3 r3 => ?_⟩
  have hR2 : (upd (upd H14 R2 (.tup [.str p0.1, .ref R1])) R3 (.lst [.ref R2])) R2 = some (.tup [.str p0.1, .ref R1]) := keep upd_same r3
  have hR3 : (upd (upd H14 R2 (.tup [.str p0.1, .ref R1])) R3 (.lst [.ref R2])) R3 = some (.lst [.ref R2]) := upd_same
  have t2 : Same H14 (upd (upd H14 R2 (.tup [.str p0.1, .ref R1])) R3 (.lst [.ref R2])) := same_in (same_new r2) r3
  generalize upd (upd H14 R2 (.tup [.str p0.1, .ref R1])) R3 (.lst [.ref R2]) = H15 at *
  have t12 := t1.trans t2
  refine w_cat (t12 _ _ hS1) hR3 (by show 4 ≤ sizeLine; decide) fun S2 z2 => ?_
  have hS2 : (upd H15 S2 (.lst ([.ref C1, .ref C2, .ref C4] ++ [.ref R2]))) S2 = some (.lst ([.ref C1, .ref C2, .ref C4] ++ [.ref R2])) := upd_same
  have t3 : Same H15 (upd H15 S2 (.lst ([.ref C1, .ref C2, .ref C4] ++ [.ref R2]))) := same_new z2
  generalize upd H15 S2 (.lst ([.ref C1, .ref C2, .ref C4] ++ [.ref R2])) = H16 at *
  have f2 : FyAll l H16 ([.ref C1, .ref C2, .ref C4] ++ [.ref R2]) _ := ((f1.same t12).same t3).app (.cons (.tup (t3 _ _ hR2) (.cons (.str _ lz0) (.cons (.tup (t3 _ _ (t2 _ _ hR1)) fy_ints) .nil))) .nil)
  have o2 := ma o1 (m1 (P := OddHd hs) (a := .tuple [.str p0.1, .tuple ((List.replicate 4 p0.2).flatten.map PyData.int)]) ⟨(lo_tup (n := 2) (mc ((lo_nm nm0).mono (by decide)) (m1 (lo_tup (lo_ints _))))).mono (by decide), .inl (handJ_num (numJ_len (.inr (by
    rw [List.length_map, List.length_flatten, List.map_replicate, List.sum_replicate_nat]
    omega))))⟩)
  have t1316 := t12.trans t3
  have hb0 := t1316 _ _ hb0
  have hc1 := t1316 _ _ hc1
  have hb1 := t1316 _ _ hb1
  have k16 := k713.trans (Dr.same k713.src t1316)
  have k116 := k113.trans (Dr.same k113.src t1316)
  clear f1 o1 hR1 hR2 hR3 hS1 t1 t2 t3 t12 t1316
  -- seven more
  walk_at "go"
  refine w_listT (sqT hb0) fun U1 u1 => ?_
  walk_at "go"
  refine ⟨by show 2 ≤ sizeLine; decide, fun U2 u2 => ?_⟩
  walk_at "go"
  refine ⟨by show 1 ≤ sizeLine; decide, fun U3 u3 => ?_⟩
  walk_at "go"
  refine ⟨by show 3 ≤ sizeLine; decide, fun U4 u4 => ?_⟩
  walk_at "go"
  refine ⟨by show 2 ≤ sizeLine; decide, fun U5 u5 => ?_⟩
  walk_at "go"
  refine ⟨by show 7 ≤ sizeLine; decide, fun U6 u6 => ?_⟩
  have s0 := k116.src
  have nU1 : U1 ≠ l := s0.ne_new u1
  have nU5 : U5 ≠ l := (s0.ext (same_in (same_in (same_in (same_new u1) u2) u3) u4)).ne_new u5
  have hU1 : (upd (upd (upd (upd (upd (upd H16 U1 (.lst (p0.2.map V.int))) U2 (.tup [.str p0.1, .ref U1])) U3 (.tup [.str p0.1])) U4 (.tup [.str p0.1, .ref b0, .int 0])) U5 (.lst [.str p0.1, .ref b0])) U6 (.lst [.ref U2, .ref U3, .ref U4, .ref U5, .str p0.1, .non, .ref b0])) U1 = some (.lst (p0.2.map V.int)) := keep (keep (keep (keep (keep upd_same u2) u3) u4) u5) u6
  have hU2 : (upd (upd (upd (upd (upd (upd H16 U1 (.lst (p0.2.map V.int))) U2 (.tup [.str p0.1, .ref U1])) U3 (.tup [.str p0.1])) U4 (.tup [.str p0.1, .ref b0, .int 0])) U5 (.lst [.str p0.1, .ref b0])) U6 (.lst [.ref U2, .ref U3, .ref U4, .ref U5, .str p0.1, .non, .ref b0])) U2 = some (.tup [.str p0.1, .ref U1]) := keep (keep (keep (keep upd_same u3) u4) u5) u6
  have hU3 : (upd (upd (upd (upd (upd (upd H16 U1 (.lst (p0.2.map V.int))) U2 (.tup [.str p0.1, .ref U1])) U3 (.tup [.str p0.1])) U4 (.tup [.str p0.1, .ref b0, .int 0])) U5 (.lst [.str p0.1, .ref b0])) U6 (.lst [.ref U2, .ref U3, .ref U4, .ref U5, .str p0.1, .non, .ref b0])) U3 = some (.tup [.str p0.1]) := keep (keep (keep upd_same u4) u5) u6
  have hU4 : (upd (upd (upd (upd (upd (upd H16 U1 (.lst (p0.2.map V.int))) U2 (.tup [.str p0.1, .ref U1])) U3 (.tup [.str p0.1])) U4 (.tup [.str p0.1, .ref b0, .int 0])) U5 (.lst [.str p0.1, .ref b0])) U6 (.lst [.ref U2, .ref U3, .ref U4, .ref U5, .str p0.1, .non, .ref b0])) U4 = some (.tup [.str p0.1, .ref b0, .int 0]) := keep (keep upd_same u5) u6
  have hU5 : (upd (upd (upd (upd (upd (upd H16 U1 (.lst (p0.2.map V.int))) U2 (.tup [.str p0.1, .ref U1])) U3 (.tup [.str p0.1])) U4 (.tup [.str p0.1, .ref b0, .int 0])) U5 (.lst [.str p0.1, .ref b0])) U6 (.lst [.ref U2, .ref U3, .ref U4, .ref U5, .str p0.1, .non, .ref b0])) U5 = some (.lst [.str p0.1, .ref b0]) := keep upd_same u6
  have hU6 : (upd (upd (upd (upd (upd (upd H16 U1 (.lst (p0.2.map V.int))) U2 (.tup [.str p0.1, .ref U1])) U3 (.tup [.str p0.1])) U4 (.tup [.str p0.1, .ref b0, .int 0])) U5 (.lst [.str p0.1, .ref b0])) U6 (.lst [.ref U2, .ref U3, .ref U4, .ref U5, .str p0.1, .non, .ref b0])) U6 = some (.lst [.ref U2, .ref U3, .ref U4, .ref U5, .str p0.1, .non, .ref b0]) := upd_same
  have t4 : Same H16 (upd (upd (upd (upd (upd (upd H16 U1 (.lst (p0.2.map V.int))) U2 (.tup [.str p0.1, .ref U1])) U3 (.tup [.str p0.1])) U4 (.tup [.str p0.1, .ref b0, .int 0])) U5 (.lst [.str p0.1, .ref b0])) U6 (.lst [.ref U2, .ref U3, .ref U4, .ref U5, .str p0.1, .non, .ref b0])) := same_in (same_in (same_in (same_in (same_in (same_new u1) u2) u3) u4) u5) u6
  generalize upd (upd (upd (upd (upd (upd H16 U1 (.lst (p0.2.map V.int))) U2 (.tup [.str p0.1, .ref U1])) U3 (.tup [.str p0.1])) U4 (.tup [.str p0.1, .ref b0, .int 0])) U5 (.lst [.str p0.1, .ref b0])) U6 (.lst [.ref U2, .ref U3, .ref U4, .ref U5, .str p0.1, .non, .ref b0]) = H17 at *
  refine w_cat (t4 _ _ hS2) hU6 (by show 11 ≤ sizeLine; decide) fun S3 z3 => ?_
  have hS3 : (upd H17 S3 (.lst ([.ref C1, .ref C2, .ref C4] ++ [.ref R2] ++ [.ref U2, .ref U3, .ref U4, .ref U5, .str p0.1, .non, .ref b0]))) S3 = _ := upd_same
  have t5 : Same H17 (upd H17 S3 (.lst ([.ref C1, .ref C2, .ref C4] ++ [.ref R2] ++ [.ref U2, .ref U3, .ref U4, .ref U5, .str p0.1, .non, .ref b0]))) := same_new z3
  generalize upd H17 S3 (.lst ([.ref C1, .ref C2, .ref C4] ++ [.ref R2] ++ [.ref U2, .ref U3, .ref U4, .ref U5, .str p0.1, .non, .ref b0])) = H18 at *
  have t45 := t4.trans t5
  have hb0 := t45 _ _ hb0
  have hc1 := t45 _ _ hc1
  have hb1 := t45 _ _ hb1
  have fb0 : Fy l H18 (.ref b0) (.tuple (p0.2.map PyData.int)) := .tup hb0 fy_ints
  have f3 : FyAll l H18 ([.ref C1, .ref C2, .ref C4] ++ [.ref R2] ++ [.ref U2, .ref U3, .ref U4, .ref U5, .str p0.1, .non, .ref b0]) _ := (f2.same t45).app (.cons (.tup (t5 _ _ hU2) (.cons (.str _ lz0) (.cons (.lst nU1 (t5 _ _ hU1) fy_ints) .nil))) (.cons (.tup (t5 _ _ hU3) (.cons (.str _ lz0) .nil)) (.cons (.tup (t5 _ _ hU4) (.cons (.str _ lz0) (.cons fb0 (.cons (.int _) .nil)))) (.cons (.lst nU5 (t5 _ _ hU5) (.cons (.str _ lz0) (.cons fb0 .nil))) (.cons (.str _ lz0) (.cons .non (.cons fb0 .nil)))))))
  have lp := lo_nm nm0
  have ln := lo_tup (lo_ints p0.2)
  have jn : handJ (.tuple (p0.2.map PyData.int)) = none := by
    match p0.2 with
    | [] => rfl
    | [_] => rfl
    | [_, _] => exact handJ_nm rfl
    | _ :: _ :: _ :: _ => rfl
  have o3 := ma o2 (mc (P := OddHd hs) (a := .tuple [.str p0.1, .list (p0.2.map PyData.int)]) ⟨(lo_tup (n := 2) (mc (lp.mono (by decide)) (m1 (lo_lst (lo_ints _))))).mono (by decide), .inl (handJ_num rfl)⟩ (mc (a := .tuple [.str p0.1]) ⟨(lo_tup (m1 lp)).mono (by decide), .inl rfl⟩ (mc (a := .tuple [.str p0.1, .tuple (p0.2.map PyData.int), .int 0]) ⟨(lo_tup (n := 2) (mc (lp.mono (by decide)) (mc ln (m1 ((lo_int 0).mono (by decide)))))).mono (by decide), .inl rfl⟩
    (mc (a := .list [.str p0.1, .tuple (p0.2.map PyData.int)]) ⟨(lo_lst (n := 2) (mc (lp.mono (by decide)) (m1 ln))).mono (by decide), .inl rfl⟩ (mc (a := .str p0.1) ⟨lp.mono (by decide), .inl rfl⟩ (mc (a := .none) ⟨lo_non.mono (by decide), .inl rfl⟩ (m1 (a := .tuple (p0.2.map PyData.int)) ⟨ln.mono (by decide), .inl jn⟩)))))))
  have k118 := k116.trans (Dr.same k116.src t45)
  clear f2 o2 hU1 hU2 hU3 hU4 hU5 hU6 hS2 t4 t5 t45 jn
  -- the last three
  walk_at "go"
  refine w_ixT (sqT hb0) (v := .int (p0.2.getD 0 0)) (by
    have e : (p0.2.map V.int)[0]? = some (.int (p0.2.getD 0 0)) := by
      rw [List.getElem?_map, List.getD_eq_getElem?_getD, List.getElem?_eq_getElem (by omega)]; rfl
    exact atI_nat e) ?_
  walk_at "go"
  refine ⟨by show 2 ≤ sizeLine; decide, fun W1 w1 => ?_⟩
  have hc1' := keep (u := HO.tup [.str p0.1, .int (p0.2.getD 0 0)]) hc1 w1
  walk_at "go"
  have l0 : (("" : Str)).length = 0 := by decide +kernel
  refine w_addStr (sz100 (by rw [l0]; omega)) ?_
  have ez : p1.1 ++ ("" : Str) = p1.1 := by
    refine str_eq ?_
    show (p1.1.cps ++ _).toList = _
    rw [Array.toList_append]
    exact List.append_nil _
  rw [ez]
  walk_at "go"
  refine ⟨by show 2 ≤ sizeLine; decide, fun W2 w2 => ?_⟩
  walk_at "go"
  refine ⟨by show 2 ≤ sizeLine; decide, fun W3 w3 => ?_⟩
  walk_at "go"
  refine ⟨by show 3 ≤ sizeLine; decide, fun W4 w4 => ?_⟩
  have hW1 : (upd (upd (upd (upd H18 W1 (.tup [.str p0.1, .int (p0.2.getD 0 0)])) W2 (.tup [.str p1.1, .ref b1])) W3 (.tup [.ref b0, .str p0.1])) W4 (.lst [.ref W1, .ref W2, .ref W3])) W1 = some (.tup [.str p0.1, .int (p0.2.getD 0 0)]) := keep (keep (keep upd_same w2) w3) w4
  have hW2 : (upd (upd (upd (upd H18 W1 (.tup [.str p0.1, .int (p0.2.getD 0 0)])) W2 (.tup [.str p1.1, .ref b1])) W3 (.tup [.ref b0, .str p0.1])) W4 (.lst [.ref W1, .ref W2, .ref W3])) W2 = some (.tup [.str p1.1, .ref b1]) := keep (keep upd_same w3) w4
  have hW3 : (upd (upd (upd (upd H18 W1 (.tup [.str p0.1, .int (p0.2.getD 0 0)])) W2 (.tup [.str p1.1, .ref b1])) W3 (.tup [.ref b0, .str p0.1])) W4 (.lst [.ref W1, .ref W2, .ref W3])) W3 = some (.tup [.ref b0, .str p0.1]) := keep upd_same w4
  have hW4 : (upd (upd (upd (upd H18 W1 (.tup [.str p0.1, .int (p0.2.getD 0 0)])) W2 (.tup [.str p1.1, .ref b1])) W3 (.tup [.ref b0, .str p0.1])) W4 (.lst [.ref W1, .ref W2, .ref W3])) W4 = some (.lst [.ref W1, .ref W2, .ref W3]) := upd_same
  have t6 : Same H18 (upd (upd (upd (upd H18 W1 (.tup [.str p0.1, .int (p0.2.getD 0 0)])) W2 (.tup [.str p1.1, .ref b1])) W3 (.tup [.ref b0, .str p0.1])) W4 (.lst [.ref W1, .ref W2, .ref W3])) := same_in (same_in (same_in (same_new w1) w2) w3) w4
  generalize upd (upd (upd (upd H18 W1 (.tup [.str p0.1, .int (p0.2.getD 0 0)])) W2 (.tup [.str p1.1, .ref b1])) W3 (.tup [.ref b0, .str p0.1])) W4 (.lst [.ref W1, .ref W2, .ref W3]) = H19 at *
  refine w_cat (t6 _ _ hS3) hW4 (by show 14 ≤ sizeLine; decide) fun S4 z4 => ?_
  have t7 : Same H19 (upd H19 S4 (.lst ([.ref C1, .ref C2, .ref C4] ++ [.ref R2] ++ [.ref U2, .ref U3, .ref U4, .ref U5, .str p0.1, .non, .ref b0] ++ [.ref W1, .ref W2, .ref W3]))) := same_new z4
  have hS4 : (upd H19 S4 (.lst ([.ref C1, .ref C2, .ref C4] ++ [.ref R2] ++ [.ref U2, .ref U3, .ref U4, .ref U5, .str p0.1, .non, .ref b0] ++ [.ref W1, .ref W2, .ref W3]))) S4 = _ := upd_same
  have k119 := k118.trans (Dr.same k118.src t6)
  have nS4 : S4 ≠ l := k119.src.ne_new z4
  generalize upd H19 S4 (.lst ([.ref C1, .ref C2, .ref C4] ++ [.ref R2] ++ [.ref U2, .ref U3, .ref U4, .ref U5, .str p0.1, .non, .ref b0] ++ [.ref W1, .ref W2, .ref W3])) = H20 at *
  have t67 := t6.trans t7
  have f4 := (f3.same t67).app (.cons (.tup (t7 _ _ hW1) (.cons (.str _ lz0) (.cons (.int _) .nil))) (.cons (fy_hand lz1 (t7 _ _ hW2) (t67 _ _ hb1)) (.cons (.tup (t7 _ _ hW3) (.cons (fb0.same t67) (.cons (.str _ lz0) .nil))) .nil)))
  have nm1 := (gh.p hp1).1
  have o4 := ma o3 (mc (P := OddHd hs) (a := .tuple [.str p0.1, .int (p0.2.getD 0 0)]) ⟨(lo_tup (mc lp (m1 (lo_int _)))).mono (by decide), .inl (handJ_num rfl)⟩ (mc (a := handD (p1.1, p1.2)) ⟨(lo_tup (n := 2) (mc ((lo_nm nm1).mono (by decide)) (m1 (lo_tup (lo_ints _))))).mono (by decide), .inr ⟨p1, hp1, rfl⟩⟩ (m1 (a := .tuple [.tuple (p0.2.map PyData.int), .str p0.1]) ⟨(lo_tup (n := 2) (mc ln (m1 (lp.mono (by decide))))).mono (by decide), .inl (handJ_nm rfl)⟩)))
  have k120 := k119.trans (Dr.same k119.src t7)
  walk_at "go"
  refine pick_ok k120.src hS4 nS4 f4 (by simp) (by simp) fun v d H21 hd fv k21 => ?_
  obtain ⟨⟨a1, a2⟩, a3⟩ := o4 d hd
  exact q v d H21 (k120.trans k21) fv a1 (Nat.le_trans a2 (by decide)) a3

theorem p_l_odd_hands_len {vs : List V} {H : Hp} {Q : VK} {E : XK} (h : spOddHands vs H Q E) : vs.length = 2 := by
  obtain ⟨l, h, hxs, hs, rfl, _⟩ := h; rfl
theorem handJ_good {hs : List (Str × List Int)} (g : GHands hs) : ∃ n, 1 ≤ n ∧ n ≤ 3 ∧ ∀ p ∈ hs, p.2.length = n ∧ handJ (handD p) = some (p.1, n) := by
  obtain ⟨_, _, _, n, n1, n3, gd⟩ := g
  refine ⟨n, n1, n3, fun p hp => ?_⟩
  obtain ⟨a, b, c⟩ := gd p hp
  refine ⟨b, ?_⟩
  have e1 : nmJ (.str p.1) = some p.1 := by
    show (if isNm p.1 = true then some p.1 else none) = some p.1
    rw [a]; rfl
  have e2 : numJ (.tuple (p.2.map PyData.int)) = some n := by
    show (if (decide (1 ≤ (p.2.map PyData.int).length) && decide ((p.2.map PyData.int).length ≤ 3) && (p.2.map PyData.int).all numD) = true then some (p.2.map PyData.int).length else none) = some n
    have e3 : (p.2.map PyData.int).all numD = true := by
      rw [List.all_map, List.all_eq_true]
      intro x hx
      obtain ⟨u, w⟩ := c x hx
      show (decide _ && decide _) = true
      rw [decide_eq_true u, decide_eq_true w]; rfl
    rw [List.length_map, b, e3, decide_eq_true n1, decide_eq_true n3]; rfl
  show (match nmJ (.str p.1), numJ (.tuple (p.2.map PyData.int)) with | some z, some n => some (z, n) | _, _ => none) = _
  rw [e1, e2]
theorem handsOk_len {js : List (Option (Str × Nat))} (h : js.length = 0 ∨ 8 < js.length) : handsOk js = false := by
  unfold handsOk
  rcases h with h | h
  · rw [decide_eq_false (by omega : ¬ 1 ≤ js.length)]; rfl
  · rw [decide_eq_false (by omega : ¬ js.length ≤ 8), Bool.and_false]; rfl
theorem handsOk_none {js : List (Option (Str × Nat))} (h : none ∈ js) : handsOk js = false := by
  unfold handsOk
  have : js.all Option.isSome = false := List.all_eq_false.mpr ⟨none, h, by simp⟩
  rw [this, Bool.and_false]; rfl
theorem handsOk_dup {gs : List (Str × Nat)} (h : ¬ (gs.map (·.1)).Nodup) : handsOk (gs.map some) = false := by
  unfold handsOk
  have : ¬ (once (gs.map (·.1))).length = (gs.map some).length := fun e => h ((once_nodup_iff _).mp (by rw [e, List.length_map, List.length_map]))
  rw [fm_some (f := fun g : Str × Nat => g.1), decide_eq_false this, Bool.and_false]
theorem handsOk_lens {gs : List (Str × Nat)} {x y : Nat} (hx : x ∈ gs.map (·.2)) (hy : y ∈ gs.map (·.2)) (n : x ≠ y) : handsOk (gs.map some) = false := by
  unfold handsOk
  have h := once_two hx hy n
  rw [fm_some (f := fun g : Str × Nat => g.2), decide_eq_false (by omega : ¬ (once (gs.map (·.2))).length ≤ 1), Bool.and_false]; rfl
theorem map_some {hs : List (Str × List Int)} {n : Nat} (h : ∀ p ∈ hs, p.2.length = n ∧ handJ (handD p) = some (p.1, n)) : (hs.map handD).map handJ = (hs.map fun p => (p.1, n)).map some := by
  rw [List.map_map, List.map_map]
  exact List.map_congr_left fun p hp => (h p hp).2
theorem fy_lst {l a : Addr} {H : Hp} {xs : List V} (ha : H a = some (.lst xs)) : ∃ T, Kd H (.ref a) T := ⟨_, .lst ha⟩
/-- hands with something put between: of the data -/
theorem mid_bad {hs : List (Str × List Int)} {n i j : Nat} {d : PyData} (g : GHands hs) (h : ∀ p ∈ hs, p.2.length = n ∧ handJ (handD p) = some (p.1, n)) (hd : handJ d = none ∨ (∃ p ∈ hs, handJ d = some (p.1, n) ∧ i = j) ∨ (∃ z m, handJ d = some (z, m) ∧ m ≠ n ∧ i = j ∧ i ≤ hs.length)) : handsOk (((hs.map handD).take i ++ [d] ++ (hs.map handD).drop j).map handJ) = false := by
  rw [List.map_append, List.map_append, List.map_take, List.map_drop, map_some h]
  rcases hd with hd | ⟨p, hp, hd, rfl⟩ | ⟨z, m, hd, hm, rfl, hi⟩
  · refine handsOk_none (List.mem_append.mpr (.inl (List.mem_append.mpr (.inr ?_))))
    rw [List.map_cons, hd]; exact .head _
  · have e : (((hs.map fun p => (p.1, n)).map some).take i ++ [d].map handJ ++ ((hs.map fun p => (p.1, n)).map some).drop i) = (((hs.map fun p => (p.1, n)).take i ++ [(p.1, n)]) ++ (hs.map fun p => (p.1, n)).drop i).map some := by
      rw [List.map_append, List.map_append, List.map_take, List.map_drop, List.map_cons, hd]; rfl
    rw [e]
    refine handsOk_dup fun nd => ?_
    rw [List.map_append, List.map_append] at nd
    have hm : (p.1, n) ∈ hs.map fun p => (p.1, n) := List.mem_map.mpr ⟨p, hp, rfl⟩
    rw [← List.take_append_drop i (hs.map fun p => (p.1, n))] at hm
    obtain ⟨n1, _, n3⟩ := List.nodup_append.mp nd
    rcases List.mem_append.mp hm with m1 | m1
    · obtain ⟨_, _, n4⟩ := List.nodup_append.mp n1
      exact n4 p.1 (List.mem_map.mpr ⟨_, m1, rfl⟩) p.1 (.head _) rfl
    · exact n3 p.1 (List.mem_append.mpr (.inr (.head _))) p.1 (List.mem_map.mpr ⟨_, m1, rfl⟩) rfl
  · have e : (((hs.map fun p => (p.1, n)).map some).take i ++ [d].map handJ ++ ((hs.map fun p => (p.1, n)).map some).drop i) = (((hs.map fun p => (p.1, n)).take i ++ [(z, m)]) ++ (hs.map fun p => (p.1, n)).drop i).map some := by
      rw [List.map_append, List.map_append, List.map_take, List.map_drop, List.map_cons, hd]; rfl
    rw [e]
    have one := g.one
    refine handsOk_lens (x := m) (y := n) (by
      rw [List.map_append, List.map_append]
      exact List.mem_append.mpr (.inl (List.mem_append.mpr (.inr (.head _))))) ?_ hm
    have h0 : (hs[0]).1 ∈ hs.map (·.1) := List.mem_map.mpr ⟨_, List.getElem_mem _, rfl⟩
    have hm0 : ((hs[0]).1, n) ∈ hs.map fun p => (p.1, n) := List.mem_map.mpr ⟨_, List.getElem_mem (by omega), rfl⟩
    rw [← List.take_append_drop i (hs.map fun p => (p.1, n))] at hm0
    rw [List.map_append, List.map_append]
    rcases List.mem_append.mp hm0 with m1 | m1
    · exact List.mem_append.mpr (.inl (List.mem_append.mpr (.inl (List.mem_map.mpr ⟨_, m1, rfl⟩))))
    · exact List.mem_append.mpr (.inr (List.mem_map.mpr ⟨_, m1, rfl⟩))

theorem BadH.dr {l : Addr} {H H' : Hp} {v : V} (h : BadH l H v) (k : Dr l H H') : BadH l H' v := by
  rcases h with ⟨T, h, n⟩ | ⟨a, xs, ds, e, n, ha, f, o⟩
  · exact .inl ⟨T, h.dr k, n⟩
  · exact .inr ⟨a, xs, ds, e, n, k.keep _ _ n ha, f.dr k, o⟩
theorem handJ_of {z : Str} {ns : List Int} {n : Nat} (hz : isNm z = true) (n1 : 1 ≤ n) (n3 : n ≤ 3) (hl : ns.length = n) (hf : ∀ x ∈ ns, farI x) : handJ (handD (z, ns)) = some (z, n) := by
  have e1 : nmJ (.str z) = some z := by
    show (if isNm z = true then some z else none) = some z
    rw [hz]; rfl
  have e2 : numJ (.tuple (ns.map PyData.int)) = some n := by
    show (if (decide (1 ≤ (ns.map PyData.int).length) && decide ((ns.map PyData.int).length ≤ 3) && (ns.map PyData.int).all numD) = true then some (ns.map PyData.int).length else none) = some n
    have e3 : (ns.map PyData.int).all numD = true := by
      rw [List.all_map, List.all_eq_true]
      intro x hx
      obtain ⟨u, w⟩ := hf x hx
      show (decide _ && decide _) = true
      rw [decide_eq_true u, decide_eq_true w]; rfl
    rw [List.length_map, hl, e3, decide_eq_true n1, decide_eq_true n3]; rfl
  show (match nmJ (.str z), numJ (.tuple (ns.map PyData.int)) with | some z, some n => some (z, n) | _, _ => none) = _
  rw [e1, e2]
theorem fin_cat {K : PySem.W.Frag} {l h X1 : Addr} {hxs xs1 : List V} {ds ds1 : List PyData} {j : Nat} {H0 H1 : Hp} {Q : VK} (k : Dr l H0 H1) (hX1 : H1 X1 = some (.lst xs1)) (f1 : FyAll l H1 xs1 ds1) (hh : H1 h = some (.lst hxs)) (fh : FyAll l H1 hxs ds) (hj : j ≤ hxs.length) (l8 : hxs.length ≤ 8) (l1 : xs1.length ≤ 100)
    (ok : handsOk ((ds1 ++ ds.drop j).map handJ) = false) (q : ∀ v H', Dr l H0 H' → BadH l H' v → Q v H') : rSlL K (.ref h) (some (j : Int)) none H1 fun y H2 => rCat (.ref X1) y H2 Q := by
  refine w_slL (sqL hh) fun S2 s2 => ?_
  rw [cut_drop hj]
  refine w_cat (keep hX1 s2) upd_same (Nat.le_trans (by rw [List.length_drop]; omega : _ ≤ 1000) (by decide)) fun X2 x2 => ?_
  have s : Same H1 (upd (upd H1 S2 (.lst (hxs.drop j))) X2 (.lst (xs1 ++ hxs.drop j))) := same_in (same_new s2) x2
  refine q _ _ (k.trans (Dr.same k.src s)) (.inr ⟨X2, _, _, rfl, (k.src.ext (same_new s2)).ne_new x2, upd_same, (f1.app (fh.drop j)).same s, ok⟩)
theorem hands_refs {l : Addr} {H : Hp} : ∀ {xs : List V} {hs : List (Str × List Int)}, FyAll l H xs (hs.map handD) → ∃ (ps : List Addr) (kvs : List (Key × V)), xs = ps.map V.ref ∧ Paired (fun p kv => H p = some (.tup [kV kv.1, kv.2])) ps kvs
  | _, [], h => by cases h; exact ⟨[], [], rfl, .nil⟩
  | _, p :: hs, h => by
    cases h with
    | cons f t =>
      obtain ⟨c, b, rfl, hc, _⟩ := hand_fy f
      obtain ⟨ps, kvs, e, pr⟩ := hands_refs t
      exact ⟨c :: ps, (.inr p.1, .ref b) :: kvs, by rw [e]; rfl, .cons hc pr⟩
theorem fz_fy {l : Addr} {H : Hp} : ∀ {hs : List (Str × List Int)} {xs : List V}, FzAll H xs (hs.map handD) → (∀ p ∈ hs, p.1.length ≤ 1000) → FyAll l H xs (hs.map handD)
  | [], _, h, _ => by cases h; exact .nil
  | p :: hs, _, h, k => by
    cases h with
    | cons f t =>
      obtain ⟨a, ys, rfl, ha, t1⟩ := fz_tup f
      cases t1 with
      | cons f0 t1 =>
        cases f0
        cases t1 with
        | cons f1 t1 =>
          cases t1
          obtain ⟨b, zs, rfl, hb, t2⟩ := fz_tup f1
          have e := fz_ints_of t2
          subst e
          exact .cons (.tup ha (.cons (.str _ (k p (.head _))) (.cons (.tup hb fy_ints) .nil))) (fz_fy t fun p hp => k p (.tail _ hp))
theorem paired_imp {α β : Type} {R S : α → β → Prop} {xs : List α} {ys : List β} (h : Paired R xs ys) (k : ∀ x y, R x y → S x y) : Paired S xs ys := by
  induction h with
  | nil => exact .nil
  | cons a t ih => exact .cons (k _ _ a) ih
theorem p_l_odd_hands {K : PySem.W.Frag} {vs : List V} {H : Hp} {Q : VK} {E : XK} (h : spOddHands vs H Q E) : t_l_odd_hands K { nx := fun _ H' => Q .non H', rt := Q } (start N_l_odd_hands vs) H := by
  obtain ⟨l, h, hxs, hs, rfl, src, nhl, hh, fh, gh, q⟩ := h
  have one := gh.one
  have few := gh.few
  obtain ⟨n, n1, n3, gj⟩ := handJ_good gh
  have lx := fh.len
  rw [List.length_map] at lx
  have e0 : hxs[0]? = some hxs[0] := List.getElem?_eq_getElem (by omega)
  obtain ⟨d0, hd0, fd0⟩ := fh.at e0
  have hp00 : hs[0]? = some hs[0] := List.getElem?_eq_getElem (by omega)
  obtain ⟨p0, ep0⟩ : ∃ p0, hs[0] = p0 := ⟨_, rfl⟩
  rw [ep0] at hp00
  rw [List.getElem?_map, hp00] at hd0
  cases hd0
  have hp0 := List.mem_of_getElem? hp00
  obtain ⟨c0, b0, ec0, hc0, hb0, lz0⟩ := hand_fy fd0
  have at0 : atI hxs 0 = some (.ref c0) := by rw [← ec0]; exact atI_nat e0
  have ln0 := (gj p0 hp0).1
  unfold t_l_odd_hands
  walk_at "go"
  refine ⟨l, 8, rfl, src, by decide, by decide, fun way H1 w0 w1 k1 => ?_⟩
  walk_at "go"
  have hh1 := k1.keep _ _ nhl hh
  refine w_lenL (sqL hh1) ?_
  walk_at "go"
  refine ⟨l, _, rfl, k1.src, by omega, Nat.lt_of_le_of_lt (by omega : _ ≤ 1000) (by decide), fun at_ H2 a0 a1 k2 => ?_⟩
  obtain ⟨i, rfl⟩ := Int.eq_ofNat_of_zero_le a0
  have hi : i < hs.length := by omega
  have hh2 := k2.keep _ _ nhl hh1
  have fh2 := (fh.dr k1).dr k2
  have k12 := k1.trans k2
  have hc0 := k12.tup hc0
  have hb0 := k12.tup hb0
  clear k1 k2 hh1
  walk_at "go"
  refine if_2 (fun hw => ?_) (fun hw => ?_)
  · -- other things
    walk_at "go"
    refine ⟨by show 0 ≤ sizeLine; decide, fun A1 a1' => ?_⟩
    have hhA := keep (u := HO.lst []) hh2 a1'
    walk_at "go"
    refine w_tupOfL (sqL hhA) fun A2 a2' => ?_
    have hhB := keep (u := HO.tup hxs) hhA a2'
    walk_at "go"
    obtain ⟨ps, kvs, eps, pr⟩ := hands_refs ((fh2.same (same_new (u := HO.lst []) a1')).same (same_new (u := HO.tup hxs) a2'))
    refine ⟨h, ps, kvs, rfl, sqL (by rw [← eps]; exact hhB), paired_imp pr fun x y e => sqT e, fun A3 a3' => ?_⟩
    have hhC := keep (u := HO.dK (mergeK [] kvs)) hhB a3'
    walk_at "go"
    refine w_ixL (sqL hhC) at0 ?_
    walk_at "go"
    refine ⟨by show 1 ≤ sizeLine; decide, fun A4 a4' => ?_⟩
    walk_at "go"
    refine ⟨by show 8 ≤ sizeLine; decide, fun A5 a5' => ?_⟩
    have s3 : Same H2 (upd (upd (upd (upd (upd H2 A1 (.lst [])) A2 (.tup hxs)) A3 (.dK (mergeK [] kvs))) A4 (.lst [.ref h])) A5 (.lst [.ref A1, .ref A2, .non, .ref A3, .str ("a" : Str), .int 3, .ref c0, .ref A4])) := same_in (same_in (same_in (same_in (same_new a1') a2') a3') a4') a5'
    have hA1 : (upd (upd (upd (upd (upd H2 A1 (.lst [])) A2 (.tup hxs)) A3 (.dK (mergeK [] kvs))) A4 (.lst [.ref h])) A5 (.lst [.ref A1, .ref A2, .non, .ref A3, .str ("a" : Str), .int 3, .ref c0, .ref A4])) A1 = some (.lst []) := keep (keep (keep (keep upd_same a2') a3') a4') a5'
    have hA2 : (upd (upd (upd (upd (upd H2 A1 (.lst [])) A2 (.tup hxs)) A3 (.dK (mergeK [] kvs))) A4 (.lst [.ref h])) A5 (.lst [.ref A1, .ref A2, .non, .ref A3, .str ("a" : Str), .int 3, .ref c0, .ref A4])) A2 = some (.tup hxs) := keep (keep (keep upd_same a3') a4') a5'
    have hA3 : (upd (upd (upd (upd (upd H2 A1 (.lst [])) A2 (.tup hxs)) A3 (.dK (mergeK [] kvs))) A4 (.lst [.ref h])) A5 (.lst [.ref A1, .ref A2, .non, .ref A3, .str ("a" : Str), .int 3, .ref c0, .ref A4])) A3 = some (.dK (mergeK [] kvs)) := keep (keep upd_same a4') a5'
    have hA4 : (upd (upd (upd (upd (upd H2 A1 (.lst [])) A2 (.tup hxs)) A3 (.dK (mergeK [] kvs))) A4 (.lst [.ref h])) A5 (.lst [.ref A1, .ref A2, .non, .ref A3, .str ("a" : Str), .int 3, .ref c0, .ref A4])) A4 = some (.lst [.ref h]) := keep upd_same a5'
    have hA5 : (upd (upd (upd (upd (upd H2 A1 (.lst [])) A2 (.tup hxs)) A3 (.dK (mergeK [] kvs))) A4 (.lst [.ref h])) A5 (.lst [.ref A1, .ref A2, .non, .ref A3, .str ("a" : Str), .int 3, .ref c0, .ref A4])) A5 = some (.lst [.ref A1, .ref A2, .non, .ref A3, .str ("a" : Str), .int 3, .ref c0, .ref A4]) := upd_same
    have nA1 : A1 ≠ l := k12.src.ne_new a1'
    have nA4 : A4 ≠ l := (k12.src.ext (same_in (same_in (same_new a1') a2') a3')).ne_new a4'
    have nA5 : A5 ≠ l := (k12.src.ext (same_in (same_in (same_in (same_new a1') a2') a3') a4')).ne_new a5'
    generalize upd (upd (upd (upd (upd H2 A1 (.lst [])) A2 (.tup hxs)) A3 (.dK (mergeK [] kvs))) A4 (.lst [.ref h])) A5 (.lst [.ref A1, .ref A2, .non, .ref A3, .str ("a" : Str), .int 3, .ref c0, .ref A4]) = H3 at *
    have k3 := k12.trans (Dr.same k12.src s3)
    refine ⟨l, A5, _, rfl, k3.src, hA5, nA5, by simp, by simp, fun v H4 hv k4 => q v H4 (k3.trans k4) (BadH.dr ?_ k4)⟩
    rcases List.mem_cons.mp hv with rfl | hv
    · exact .inr ⟨A1, [], [], rfl, nA1, hA1, .nil, handsOk_len (.inl rfl)⟩
    rcases List.mem_cons.mp hv with rfl | hv
    · exact .inl ⟨_, .tup hA2, by decide⟩
    rcases List.mem_cons.mp hv with rfl | hv
    · exact .inl ⟨_, .non, by decide⟩
    rcases List.mem_cons.mp hv with rfl | hv
    · exact .inl ⟨_, .dict hA3, by decide⟩
    rcases List.mem_cons.mp hv with rfl | hv
    · exact .inl ⟨_, .str _, by decide⟩
    rcases List.mem_cons.mp hv with rfl | hv
    · exact .inl ⟨_, .int _, by decide⟩
    rcases List.mem_cons.mp hv with rfl | hv
    · exact .inl ⟨_, .tup (s3 _ _ hc0), by decide⟩
    rcases List.mem_cons.mp hv with rfl | hv
    · exact .inr ⟨A4, [.ref h], [.list (hs.map handD)], rfl, nA4, hA4, .cons (.lst nhl (s3 _ _ hh2) (fh2.same s3)) .nil, handsOk_none (.head _)⟩
    cases hv
  · walk_at "go"
    refine if_2 (fun hw1 => ?_) (fun hw1 => ?_)
    · -- a ninth hand
      walk_at "go"
      refine w_iS (w_con (w_iSE fun D hD => lc_it walk_str (fun k H' => Same H2 H' ∧ ∃ ws : List Str, H' D = some (.lst (ws.map V.str)) ∧ ws.length = k ∧ ∀ w ∈ ws, w.length ≤ 1000) ⟨same_new hD, [], upd_same, rfl, fun w hw => by cases hw⟩ (fun _ _ _ _ => trivial) ?_ ?_))
      · rintro k x H3 H3' hk ⟨s3, ws, h3, lw, pw⟩ ⟨rfl, c, hc, rfl⟩
        have hk9 : k < 9 := hk
        walk_at "go"
        refine ⟨rfl, w_yes (if_t rfl ?_)⟩
        walk_at "go"
        refine w_addStr (by show 5 + 1 ≤ sizeLine; decide) ?_
        refine ⟨_, h3, by rw [List.length_map]; exact small1000 (by omega), fun b o e => ?_, ws ++ [("spare" : Str) ++ (⟨#[c]⟩ : Str)], by rw [upd_same, List.map_append]; rfl, by rw [List.length_append, lw]; rfl, fun w hw => ?_⟩
        · rw [upd_ne (ne_of_none e hD)]
          exact s3 _ _ e
        · rcases List.mem_append.mp hw with h | h
          · exact pw w h
          · rw [List.mem_singleton.mp h, Str.length_append]
            show 5 + 1 ≤ 1000
            decide
      · rintro H3 ⟨s3, ws, h3, lw, pw⟩
        have lw : ws.length = 9 := lw
        have hh3 := s3 _ _ hh2
        have fh3 := fh2.same s3
        have hc3 := s3 _ _ hc0
        have hb3 := s3 _ _ hb0
        have k3 := k12.trans (Dr.same k12.src s3)
        walk_at "go"
        refine w_slL (sqL hh3) fun S1 s1' => ?_
        rw [cut_take (by omega)]
        have s4 : Same H3 (upd H3 S1 (.lst (hxs.take i))) := same_new s1'
        have hS1 : (upd H3 S1 (.lst (hxs.take i))) S1 = some (.lst (hxs.take i)) := upd_same
        generalize upd H3 S1 (.lst (hxs.take i)) = H4 at *
        have hh4 := s4 _ _ hh3
        walk_at "go"
        refine w_slL (sqL (s4 _ _ h3)) fun S2 s2' => ?_
        have e9 : (9 : Int) - (hxs.length : Int) = ((9 - hs.length : Nat) : Int) := by omega
        rw [e9, cut_take (by rw [List.length_map]; omega), ← List.map_take]
        have s5 : Same H4 (upd H4 S2 (.lst ((ws.take (9 - hs.length)).map V.str))) := same_new s2'
        have hS2 : (upd H4 S2 (.lst ((ws.take (9 - hs.length)).map V.str))) S2 = some (.lst ((ws.take (9 - hs.length)).map V.str)) := upd_same
        generalize upd H4 S2 (.lst ((ws.take (9 - hs.length)).map V.str)) = H5 at *
        have s35 := s4.trans s5
        have lws : (ws.take (9 - hs.length)).length = 9 - hs.length := by rw [List.length_take]; omega
        have pws : ∀ w ∈ ws.take (9 - hs.length), w.length ≤ 1000 := fun w hw => pw w (List.mem_of_mem_take hw)
        generalize ws.take (9 - hs.length) = us at *
        walk_at "go"
        refine ⟨S2, rfl, ⟨_, sqL hS2⟩, fun D2 hD2 => lc_list (K := K) (xs := us.map V.str) (Lf H5 D2 ((us.map fun w => (w, p0.2)).map handD)) (Lf.start hD2) (fun k H' _ m => sqL (m.1 _ _ hS2)) ?_ ?_⟩
        · rintro k x H6 hx m
          rw [List.getElem?_map] at hx
          cases hu : us[k]? with
          | none => rw [hu] at hx; cases hx
          | some u =>
            rw [hu] at hx
            cases hx
            have s36 := s35.trans m.1
            walk_at "go"
            refine ⟨rfl, w_yes (if_t rfl ?_)⟩
            walk_at "go"
            refine w_ixL (sqL (s36 _ _ hh3)) at0 ?_
            have hc6 := s36 _ _ hc3
            walk_at "go"
            refine ⟨by show 2 ≤ sizeLine; decide, fun T hT => ?_⟩
            exact m.step (same_new hT) (d := handD (u, p0.2)) (by rw [List.map_map, List.getElem?_map, hu]; rfl) (.tup upd_same (.cons (.str _) (.cons (.tup (keep (s36 _ _ hb3) hT) fz_ints) .nil))) (by rw [List.length_map, List.length_map]; omega)
        · rintro H6 m
          obtain ⟨ms, h6, f6⟩ := m.full (by rw [List.length_map, List.length_map, List.length_map]; exact Nat.le_refl _)
          have f6' : FyAll l H6 ms ((us.map fun w => (w, p0.2)).map handD) := fz_fy f6 fun p hp => by
            obtain ⟨w, hw, rfl⟩ := List.mem_map.mp hp
            exact pws w hw
          have l6 := f6'.len
          rw [List.length_map, List.length_map] at l6
          have s36 := s35.trans m.1
          refine w_cat (m.1 _ _ (s5 _ _ hS1)) h6 (Nat.le_trans (by rw [List.length_take]; omega : _ ≤ 1000) (by decide)) fun X1 x1 => ?_
          have s67 := same_new (u := HO.lst (hxs.take i ++ ms)) x1
          walk_at "go"
          refine fin_cat (k3.trans (Dr.same k3.src (s36.trans s67))) upd_same ((((fh3.take i).same s36).app f6').same s67) ((s36.trans s67) _ _ hh3) (fh3.same (s36.trans s67)) (by omega) (by omega) (by rw [List.length_append, List.length_take]; omega) (handsOk_len (.inr ?_)) q
          rw [List.length_map, List.length_append, List.length_append, List.length_take, List.length_drop, List.length_map, List.length_map, List.length_map]
          omega
    · walk_at "go"
      refine if_2 (fun hw2 => ?_) (fun hw2 => ?_)
      · -- a name twice
        walk_at "go"
        refine w_slL (sqL hh2) fun S1 s1' => ?_
        rw [cut_take (by omega)]
        have s4 : Same H2 (upd H2 S1 (.lst (hxs.take i))) := same_new s1'
        have hS1 : (upd H2 S1 (.lst (hxs.take i))) S1 = some (.lst (hxs.take i)) := upd_same
        have nS1 : S1 ≠ l := k12.src.ne_new s1'
        generalize upd H2 S1 (.lst (hxs.take i)) = H4 at *
        have hh4 := s4 _ _ hh2
        have k4 := k12.trans (Dr.same k12.src s4)
        walk_at "go"
        refine ⟨l, _, rfl, k4.src, by omega, Nat.lt_of_le_of_lt (by omega : _ ≤ 1000) (by decide), fun f H5 f0 f1 k5 => ?_⟩
        obtain ⟨f, rfl⟩ := Int.eq_ofNat_of_zero_le f0
        have k45 := (Dr.same k12.src s4).trans k5
        have hh5 := k45.keep _ _ nhl hh2
        have fh5 := fh2.dr k45
        have hc5 := k45.tup hc0
        have hb5 := k45.tup hb0
        have ef : hxs[f]? = some hxs[f] := List.getElem?_eq_getElem (by omega)
        obtain ⟨df, hdf, fdf⟩ := fh5.at ef
        rw [List.getElem?_map] at hdf
        cases hpf : hs[f]? with
        | none => rw [hpf] at hdf; cases hdf
        | some pf =>
          rw [hpf] at hdf
          cases hdf
          obtain ⟨cf, bf, ecf, hcf, hbf, lzf⟩ := hand_fy fdf
          have mpf := List.mem_of_getElem? hpf
          refine w_ixL (sqL hh5) (v := .ref cf) (by rw [← ecf]; exact atI_nat ef) ?_
          walk_at "go"
          refine w_ixL (sqL hh5) at0 ?_
          walk_at "go"
          refine ⟨by show 2 ≤ sizeLine; decide, fun T hT => ?_⟩
          walk_at "go"
          refine ⟨by show 1 ≤ sizeLine; decide, fun M hM => ?_⟩
          have s6 : Same H5 (upd (upd H5 T (.tup [.str pf.1, .ref b0])) M (.lst [.ref T])) := same_in (same_new hT) hM
          have hT6 : (upd (upd H5 T (.tup [.str pf.1, .ref b0])) M (.lst [.ref T])) T = some (.tup [.str pf.1, .ref b0]) := keep upd_same hM
          have hM6 : (upd (upd H5 T (.tup [.str pf.1, .ref b0])) M (.lst [.ref T])) M = some (.lst [.ref T]) := upd_same
          generalize upd (upd H5 T (.tup [.str pf.1, .ref b0])) M (.lst [.ref T]) = H6 at *
          have f6 : FyAll l H6 [.ref T] [handD (pf.1, p0.2)] := .cons (fy_hand lzf hT6 (s6 _ _ hb5)) .nil
          refine w_cat (s6 _ _ (k5.keep _ _ nS1 hS1)) hM6 (Nat.le_trans (by rw [List.length_take]; show _ + 1 ≤ 1000; omega) (by decide)) fun X1 x1 => ?_
          have s67 := same_new (u := HO.lst (hxs.take i ++ [.ref T])) x1
          have k5' := k12.trans k45
          walk_at "go"
          refine fin_cat (k5'.trans (Dr.same k5'.src (s6.trans s67))) upd_same ((((fh5.take i).same s6).app f6).same s67) ((s6.trans s67) _ _ hh5) (fh5.same (s6.trans s67)) (by omega) (by omega) (by rw [List.length_append, List.length_take]; show _ + 1 ≤ 100; omega) (mid_bad gh gj (.inr (.inl ⟨pf, mpf, ?_, rfl⟩))) q
          have := (gj p0 hp0).2
          have e1 := (gj pf mpf).2
          show (match nmJ (.str pf.1), numJ (.tuple (p0.2.map PyData.int)) with | some z, some n => some (z, n) | _, _ => none) = _
          have a1 : nmJ (.str pf.1) = some pf.1 := by
            show (if isNm pf.1 = true then some pf.1 else none) = some pf.1
            rw [(gh.p mpf).1]; rfl
          have a2 : numJ (.tuple (p0.2.map PyData.int)) = some n := by
            have a3 : nmJ (.str p0.1) = some p0.1 := by
              show (if isNm p0.1 = true then some p0.1 else none) = some p0.1
              rw [(gh.p hp0).1]; rfl
            have a4 : (match nmJ (.str p0.1), numJ (.tuple (p0.2.map PyData.int)) with | some z, some n => some (z, n) | _, _ => none) = some (p0.1, n) := this
            rw [a3] at a4
            cases hq : numJ (.tuple (p0.2.map PyData.int)) with
            | none => rw [hq] at a4; cases a4
            | some m => rw [hq] at a4; cases a4; rfl
          rw [a1, a2]
      · walk_at "go"
        refine if_2 (fun hw3 => ?_) (fun hw3 => ?_)
        · -- fewer or more numbers
          obtain ⟨far0, nz0⟩ : (∀ x ∈ p0.2, farI x) ∧ p0.2 ≠ [] := by
            obtain ⟨_, _, _, m, _, _, gd⟩ := gh
            refine ⟨(gd p0 hp0).2.2, fun z => ?_⟩
            rw [z] at ln0
            have : (0 : Nat) = n := ln0
            omega
          walk_at "go"
          refine w_ixL (sqL hh2) at0 ?_
          walk_at "go"
          refine w_repT (k := 2) (sqT hb0) (fun z => nz0 (List.map_eq_nil_iff.mp z)) (by decide) (by decide) (by rw [List.length_map]; omega) fun R r => ?_
          have hR : (upd H2 R (.tup (List.replicate 2 (p0.2.map V.int)).flatten)) R = some (.tup ((p0.2 ++ p0.2).map V.int)) := by
            rw [upd_same, List.map_append]
            show some (HO.tup (p0.2.map V.int ++ (p0.2.map V.int ++ []))) = _
            rw [List.append_nil]
          have sR : Same H2 (upd H2 R (.tup (List.replicate 2 (p0.2.map V.int)).flatten)) := same_new r
          generalize upd H2 R (.tup (List.replicate 2 (p0.2.map V.int)).flatten) = H3 at *
          have hh3 := sR _ _ hh2
          have hc3 := sR _ _ hc0
          have hb3 := sR _ _ hb0
          walk_at "go"
          refine w_slL (sqL hh3) fun S1 s1' => ?_
          rw [cut_take (by omega)]
          have s4 : Same H3 (upd H3 S1 (.lst (hxs.take i))) := same_new s1'
          have hS1 : (upd H3 S1 (.lst (hxs.take i))) S1 = some (.lst (hxs.take i)) := upd_same
          generalize upd H3 S1 (.lst (hxs.take i)) = H4 at *
          have hh4 := s4 _ _ hh3
          have hc4 := s4 _ _ hc3
          have hb4 := s4 _ _ hb3
          walk_at "go"
          refine w_ixL (sqL hh4) at0 ?_
          walk_at "go"
          refine w_slA (s4 _ _ hR) fun P H5 s5 hP => ?_
          have em : (1 : Int) + ((p0.2.map V.int).length : Int) % 3 = ((1 + n % 3 : Nat) : Int) := by rw [List.length_map, ln0]; omega
          rw [em, cut_take (by rw [List.length_map, List.length_append]; omega), ← List.map_take] at hP
          walk_at "go"
          refine ⟨by show 2 ≤ sizeLine; decide, fun T hT => ?_⟩
          walk_at "go"
          refine ⟨by show 1 ≤ sizeLine; decide, fun M hM => ?_⟩
          have s6 : Same H5 (upd (upd H5 T (.tup [.str ("odd" : Str), .ref P])) M (.lst [.ref T])) := same_in (same_new hT) hM
          have hT6 : (upd (upd H5 T (.tup [.str ("odd" : Str), .ref P])) M (.lst [.ref T])) T = some (.tup [.str ("odd" : Str), .ref P]) := keep upd_same hM
          have hM6 : (upd (upd H5 T (.tup [.str ("odd" : Str), .ref P])) M (.lst [.ref T])) M = some (.lst [.ref T]) := upd_same
          generalize upd (upd H5 T (.tup [.str ("odd" : Str), .ref P])) M (.lst [.ref T]) = H6 at *
          have s26 := ((sR.trans s4).trans s5).trans s6
          have f6 : FyAll l H6 [.ref T] [handD (("odd" : Str), (p0.2 ++ p0.2).take (1 + n % 3))] := .cons (fy_hand (by decide +kernel) hT6 (s6 _ _ hP)) .nil
          refine w_cat (s6 _ _ (s5 _ _ hS1)) hM6 (Nat.le_trans (by rw [List.length_take]; show _ + 1 ≤ 1000; omega) (by decide)) fun X1 x1 => ?_
          have s67 := same_new (u := HO.lst (hxs.take i ++ [.ref T])) x1
          walk_at "go"
          refine fin_cat (k12.trans (Dr.same k12.src (s26.trans s67))) upd_same ((((fh2.take i).same s26).app f6).same s67) ((s26.trans s67) _ _ hh2) (fh2.same (s26.trans s67)) (by omega) (by omega) (by rw [List.length_append, List.length_take]; show _ + 1 ≤ 100; omega) (mid_bad gh gj (.inr (.inr ⟨("odd" : Str), 1 + n % 3, handJ_of (by decide +kernel) (by omega) (by omega) (by rw [List.length_take, List.length_append, ln0]; omega) (fun x hx => ?_), by omega, rfl, by omega⟩))) q
          rcases List.mem_append.mp (List.mem_of_mem_take hx) with h | h <;> exact far0 x h
        · -- an odd hand
          walk_at "go"
          refine ⟨l, h, hxs, hs, rfl, k12.src, nhl, hh2, fh2, gh, fun v d H3 k3 fv ly dp8 jd => ?_⟩
          have hh3 := k3.keep _ _ nhl hh2
          have fh3 := fh2.dr k3
          have k13 := k12.trans k3
          have shd : SeqAt.shaped d = true := by
            unfold SeqAt.shaped
            rw [ly, decide_eq_true (by omega : d.depth ≤ 64)]; rfl
          have shh : SeqAt.shaped (.list (hs.map handD)) = true := by
            have lo : Lo 4 (.list (hs.map handD)) := lo_lst (n := 3) fun x hx => by
              obtain ⟨p, hp, rfl⟩ := List.mem_map.mp hx
              exact lo_tup (n := 2) (mc ((lo_nm (gh.p hp).1).mono (by decide)) (m1 (lo_tup (lo_ints _))))
            unfold SeqAt.shaped
            rw [lo.1, decide_eq_true (Nat.le_trans lo.2 (by decide))]; rfl
          walk_at "go"
          refine ⟨d, hs.map handD, fv.dp, .lst (sqL hh3) fh3.dp, shd, shh, ?_⟩
          walk_at "go"
          refine if_b (fun hin => ?_) (fun hin => ?_)
          · walk_at "go"
            refine ⟨by show 1 ≤ sizeLine; decide, fun M hM => ?_⟩
            refine w_cat (keep hh3 hM) upd_same (Nat.le_trans (by show _ + 1 ≤ 1000; omega) (by decide)) fun X x => ?_
            have s4 : Same H3 (upd (upd H3 M (.lst [v])) X (.lst (hxs ++ [v]))) := same_in (same_new hM) x
            refine q _ _ (k13.trans (Dr.same k13.src s4)) (.inr ⟨X, _, _, rfl, (k13.src.ext (same_new hM)).ne_new x, upd_same, (fh3.app (.cons fv .nil)).same s4, ?_⟩)
            have hb := mid_bad (i := hs.length) (j := hs.length) (d := d) gh gj (by
              rcases jd with j | ⟨p, hp, rfl⟩
              · exact .inl j
              · exact .inr (.inl ⟨p, hp, (gj p hp).2, rfl⟩))
            rw [List.take_of_length_le (by rw [List.length_map]; exact Nat.le_refl _), List.drop_of_length_le (by rw [List.length_map]; exact Nat.le_refl _), List.append_nil] at hb
            exact hb
          · have jn : handJ d = none := by
              rcases jd with j | ⟨p, hp, rfl⟩
              · exact j
              · have : (hs.map handD).any (fun z => PyData.eqv z (handD p)) = true := List.any_eq_true.mpr ⟨handD p, List.mem_map.mpr ⟨p, hp, rfl⟩, SeqAt.eqv_refl _ ly⟩
                rw [this] at hin
                cases hin
            walk_at "go"
            refine w_slL (sqL hh3) fun S1 s1' => ?_
            rw [cut_take (by omega)]
            have s4 : Same H3 (upd H3 S1 (.lst (hxs.take i))) := same_new s1'
            have hS1 : (upd H3 S1 (.lst (hxs.take i))) S1 = some (.lst (hxs.take i)) := upd_same
            generalize upd H3 S1 (.lst (hxs.take i)) = H4 at *
            walk_at "go"
            refine ⟨by show 1 ≤ sizeLine; decide, fun M hM => ?_⟩
            refine w_cat (keep hS1 hM) upd_same (Nat.le_trans (by rw [List.length_take]; show _ + 1 ≤ 1000; omega) (by decide)) fun X1 x1 => ?_
            have s5 : Same H4 (upd (upd H4 M (.lst [v])) X1 (.lst (hxs.take i ++ [v]))) := same_in (same_new hM) x1
            have s35 := s4.trans s5
            walk_at "go"
            have ei : (i : Int) + 1 = ((i + 1 : Nat) : Int) := by omega
            rw [ei]
            exact fin_cat (k13.trans (Dr.same k13.src s35)) upd_same (((fh3.take i).app (.cons fv .nil)).same s35) (s35 _ _ hh3) (fh3.same s35) (by omega) (by omega) (by rw [List.length_append, List.length_take]; show _ + 1 ≤ 100; omega) (mid_bad gh gj (.inl jn)) q

theorem p_l_odd_ties_len {vs : List V} {H : Hp} {Q : VK} {E : XK} (h : spOddTies vs H Q E) : vs.length = 3 := by
  obtain ⟨l, h, t, hxs, txs, hs, ps, rfl, _⟩ := h; rfl
theorem BadT.dr {l : Addr} {names : List Str} {H H' : Hp} {v : V} (h : BadT l names H v) (k : Dr l H H') : BadT l names H' v := by
  rcases h with ⟨T, h, n⟩ | ⟨a, xs, ds, e, n, ha, lt, f, o⟩
  · exact .inl ⟨T, h.dr k, n⟩
  · exact .inr ⟨a, xs, ds, e, n, k.keep _ _ n ha, lt, f.dr k, o⟩
theorem tie_fy {l : Addr} {H : Hp} {v : V} {p : Str × Str} (f : Fy l H v (tieD p)) : ∃ c, v = .ref c ∧ H c = some (.tup [.str p.1, .str p.2]) ∧ p.1.length ≤ 1000 ∧ p.2.length ≤ 1000 := by
  cases f with
  | @tup a xs _ h t =>
    cases t with
    | cons f0 t =>
      cases f0 with
      | str _ h1 =>
      cases t with
      | cons f1 t =>
        cases f1 with
        | str _ h2 =>
        cases t
        exact ⟨a, rfl, h, h1, h2⟩
theorem nmJ_of {z : Str} (h : isNm z = true) : nmJ (.str z) = some z := by
  show (if isNm z = true then some z else none) = some z
  rw [h]; rfl
theorem tieJ_of {a b : Str} (ha : isNm a = true) (hb : isNm b = true) : tieJ (.tuple [.str a, .str b]) = some (a, b) := by
  show (match nmJ (.str a), nmJ (.str b) with | some z, some y => some (z, y) | _, _ => none) = _
  rw [nmJ_of ha, nmJ_of hb]
theorem tieJ_l {a b : PyData} (h : nmJ a = none) : tieJ (.tuple [a, b]) = none := by
  show (match nmJ a, nmJ b with | some z, some y => some (z, y) | _, _ => none) = none
  rw [h]
theorem tieJ_r {a b : PyData} (h : nmJ b = none) : tieJ (.tuple [a, b]) = none := by
  show (match nmJ a, nmJ b with | some z, some y => some (z, y) | _, _ => none) = none
  rw [h]
  cases nmJ a <;> rfl
/-- a tie that spoils: none, or one that is there -/
def OddT (names : List Str) (ps : List (Str × Str)) (d : PyData) : Prop := tieOk names (tieJ d) = false ∨ ∃ p ∈ ps, tieJ d = some p ∨ tieJ d = some (p.2, p.1)
theorem tiesOk_bad {names : List Str} {js : List (Option (Str × Str))} {j : Option (Str × Str)} (h : j ∈ js) (hj : tieOk names j = false) : tiesOk names js = false := by
  unfold tiesOk
  have : js.all (tieOk names) = false := List.all_eq_false.mpr ⟨j, h, by rw [hj]; exact Bool.false_ne_true⟩
  rw [this]; rfl
theorem tiesOk_dup {names : List Str} {gs : List (Str × Str)} (h : ¬ (gs.map fun p => nrm p.1 p.2).Nodup) : tiesOk names (gs.map some) = false := by
  unfold tiesOk
  have : ¬ (once (gs.map fun p => nrm p.1 p.2)).length = (gs.map some).length := fun e => h ((once_nodup_iff _).mp (by rw [e, List.length_map, List.length_map]))
  rw [fm_some (f := fun p : Str × Str => nrm p.1 p.2), decide_eq_false this, Bool.and_false]
theorem tie_mid {names : List Str} {ps : List (Str × Str)} {d : PyData} {i : Nat} (nm : ∀ p ∈ ps, isNm p.1 = true ∧ isNm p.2 = true) (o : OddT names ps d) : tiesOk names (((ps.map tieD).take i ++ [d] ++ (ps.map tieD).drop i).map tieJ) = false := by
  rcases o with o | ⟨p, hp, o⟩
  · refine tiesOk_bad (j := tieJ d) ?_ o
    rw [List.map_append, List.map_append]
    exact List.mem_append.mpr (.inl (List.mem_append.mpr (.inr (.head _))))
  · obtain ⟨r, hr, er⟩ : ∃ r : Str × Str, tieJ d = some r ∧ nrm r.1 r.2 = nrm p.1 p.2 := by
      rcases o with o | o
      · exact ⟨p, o, rfl⟩
      · exact ⟨_, o, nrm_swap p.1 p.2⟩
    have e0 : (ps.map tieD).map tieJ = ps.map some := by
      rw [List.map_map]
      exact List.map_congr_left fun p hp => tieJ_of (nm p hp).1 (nm p hp).2
    have e : ((ps.map tieD).take i ++ [d] ++ (ps.map tieD).drop i).map tieJ = ((ps.take i ++ [r]) ++ ps.drop i).map some := by
      rw [List.map_append, List.map_append, List.map_take, List.map_drop, e0, List.map_append, List.map_append, List.map_take, List.map_drop, List.map_cons, hr]; rfl
    rw [e]
    refine tiesOk_dup fun nd => ?_
    rw [List.map_append, List.map_append] at nd
    obtain ⟨n1, _, n3⟩ := List.nodup_append.mp nd
    have hm := hp
    rw [← List.take_append_drop i ps] at hm
    rcases List.mem_append.mp hm with m1 | m1
    · obtain ⟨_, _, n4⟩ := List.nodup_append.mp n1
      exact n4 (nrm p.1 p.2) (List.mem_map.mpr ⟨_, m1, rfl⟩) (nrm r.1 r.2) (.head _) er.symm
    · exact n3 (nrm r.1 r.2) (List.mem_append.mpr (.inr (.head _))) (nrm p.1 p.2) (List.mem_map.mpr ⟨_, m1, rfl⟩) er
theorem GTies.nm {hs : List (Str × List Int)} {ps : List (Str × Str)} (gh : GHands hs) (gt : GTies (hs.map (·.1)) ps) : ∀ p ∈ ps, isNm p.1 = true ∧ isNm p.2 = true := fun p hp => by
  obtain ⟨_, m1, m2⟩ := gt.gd p hp
  have nm : ∀ z ∈ hs.map (·.1), isNm z = true := fun z hz => by
    obtain ⟨q, hq, rfl⟩ := List.mem_map.mp hz
    exact (gh.p hq).1
  exact ⟨nm _ m1, nm _ m2⟩
/-- the end of odd_ties, from the list of ties that spoil on: S its place -/
def r_ot (K : PySem.W.Frag) : TS :=
  (tSeq (tAsg (tOp rCat (tOp rCat (tSl (rSlL K) (tVar 2) tNoPart (tPart (tVar 6))) (tLst (tCons (tCall spPick [] E0 (tCons (tVar 0) (tCons (tVar 8) tNil))) tNil))) (tSl (rSlL K) (tVar 2) (tPart (tVar 6)) tNoPart)) (gName 10))
    (tSeq (tIfS (tTest (tOp rEq (tCall spDraw [] E0 (tCons (tVar 0) (tCons (tC (.int 8)) tNil))) (tC (.int 0)))) (tAsg (tCall spPick [] E0 (tCons (tVar 0) (tCons (tLst (tCons (tCB (rTupOf K) (tCons (tVar 2) tNil)) (tCons (tC .non) (tCons tDNewK (tCons (tC (.str ("" : Str))) (tCons (tC (.int 0)) (tCons (tTup (tCons (tVar 4) (tCons (tVar 5) tNil))) tNil))))))) tNil))) (gName 10)) tNext)
    (tRet (tVar 10))))
theorem p_ot_rest {K : PySem.W.Frag} {l h t N S : Addr} {z1 z2 z3 : Str} {i : Nat} {names : List Str} {ps : List (Str × Str)} {txs sxs : List V} {sds : List PyData} {H0 H1 : Hp} {Q : VK} {u : Ends} {y9 y10 y11 y12 : Option V} (hu : u.rt = Q) (k : Dr l H0 H1) (ht : H1 t = some (.lst txs)) (ntl : t ≠ l) (ft : FyAll l H1 txs (ps.map tieD)) (hi : i ≤ txs.length) (l56 : ps.length ≤ 56)
    (nm : ∀ p ∈ ps, isNm p.1 = true ∧ isNm p.2 = true) (hS : H1 S = some (.lst sxs)) (nS : S ≠ l) (fs : FyAll l H1 sxs sds) (ne : sds ≠ []) (lS : sds.length ≤ 100) (os : ∀ d ∈ sds, OddT names ps d) (q : ∀ v H', Dr l H0 H' → BadT l names H' v → Q v H') :
    r_ot K u [some (.ref l), some (.ref h), some (.ref t), some (.ref N), some (.str z1), some (.str z2), some (.int (i : Int)), some (.str z3), some (.ref S), y9, y10, y11, y12] H1 := by
  have lt := ft.len
  rw [List.length_map] at lt
  unfold r_ot
  walk_at "go"
  refine w_slL (sqL ht) fun S1 s1' => ?_
  rw [cut_take hi]
  have s2 : Same H1 (upd H1 S1 (.lst (txs.take i))) := same_new s1'
  have hS1 : (upd H1 S1 (.lst (txs.take i))) S1 = some (.lst (txs.take i)) := upd_same
  have nS1 : S1 ≠ l := k.src.ne_new s1'
  generalize upd H1 S1 (.lst (txs.take i)) = H2 at *
  have k2 := Dr.same k.src s2
  walk_at "go"
  refine pick_ok k2.src (s2 _ _ hS) nS (fs.same s2) ne (by omega) fun v d H3 hd fv k3 => ?_
  have k23 := k2.trans k3
  have ht3 := k23.keep _ _ ntl ht
  have ft3 := ft.dr k23
  walk_at "go"
  refine ⟨by show 1 ≤ sizeLine; decide, fun M hM => ?_⟩
  refine w_cat (keep (k3.keep _ _ nS1 hS1) hM) upd_same (Nat.le_trans (by rw [List.length_take]; show _ + 1 ≤ 1000; omega) (by decide)) fun X1 x1 => ?_
  have s4 : Same H3 (upd (upd H3 M (.lst [v])) X1 (.lst (txs.take i ++ [v]))) := same_in (same_new hM) x1
  have hX1 : (upd (upd H3 M (.lst [v])) X1 (.lst (txs.take i ++ [v]))) X1 = some (.lst (txs.take i ++ [v])) := upd_same
  generalize upd (upd H3 M (.lst [v])) X1 (.lst (txs.take i ++ [v])) = H4 at *
  walk_at "go"
  refine w_slL (sqL (s4 _ _ ht3)) fun S2 s2' => ?_
  rw [cut_drop hi]
  refine w_cat (keep hX1 s2') upd_same (Nat.le_trans (by rw [List.length_append, List.length_take, List.length_drop]; show _ + 1 + _ ≤ 1000; omega) (by decide)) fun X2 x2 => ?_
  have s5 : Same H4 (upd (upd H4 S2 (.lst (txs.drop i))) X2 (.lst (txs.take i ++ [v] ++ txs.drop i))) := same_in (same_new s2') x2
  have hX2 : (upd (upd H4 S2 (.lst (txs.drop i))) X2 (.lst (txs.take i ++ [v] ++ txs.drop i))) X2 = some (.lst (txs.take i ++ [v] ++ txs.drop i)) := upd_same
  have k35 := k.trans k23
  have s35 := s4.trans s5
  have nX2 : X2 ≠ l := ((k35.src.ext s4).ext (same_new s2')).ne_new x2
  generalize upd (upd H4 S2 (.lst (txs.drop i))) X2 (.lst (txs.take i ++ [v] ++ txs.drop i)) = H5 at *
  have k5 := k35.trans (Dr.same k35.src s35)
  have bad : BadT l names H5 (.ref X2) := .inr ⟨X2, _, _, rfl, nX2, hX2, by rw [List.length_append, List.length_append, List.length_take, List.length_drop]; show _ + 1 + _ < 63; omega, (((ft3.take i).app (.cons fv .nil)).app (ft3.drop i)).same s35, tie_mid nm (os d hd)⟩
  walk_at "go"
  refine ⟨l, 8, rfl, k5.src, by decide, by decide, fun w H6 _ _ k6 => ?_⟩
  have k16 := k5.trans k6
  have ht6 := k6.keep _ _ ntl (s35 _ _ ht3)
  walk_at "go"
  refine if_2 (fun hw => ?_) (fun hw => ?_)
  · walk_at "go"
    refine w_tupOfL (sqL ht6) fun B1 b1 => ?_
    walk_at "go"
    refine w_dnew fun B2 b2 => ?_
    walk_at "go"
    refine ⟨by show 2 ≤ sizeLine; decide, fun B3 b3 => ?_⟩
    walk_at "go"
    refine ⟨by show 6 ≤ sizeLine; decide, fun B4 b4 => ?_⟩
    have s7 : Same H6 (upd (upd (upd (upd H6 B1 (.tup txs)) B2 (.dK [])) B3 (.tup [.str z1, .str z2])) B4 (.lst [.ref B1, .non, .ref B2, .str ("" : Str), .int 0, .ref B3])) := same_in (same_in (same_in (same_new b1) b2) b3) b4
    have hB1 : (upd (upd (upd (upd H6 B1 (.tup txs)) B2 (.dK [])) B3 (.tup [.str z1, .str z2])) B4 (.lst [.ref B1, .non, .ref B2, .str ("" : Str), .int 0, .ref B3])) B1 = some (.tup txs) := keep (keep (keep upd_same b2) b3) b4
    have hB2 : (upd (upd (upd (upd H6 B1 (.tup txs)) B2 (.dK [])) B3 (.tup [.str z1, .str z2])) B4 (.lst [.ref B1, .non, .ref B2, .str ("" : Str), .int 0, .ref B3])) B2 = some (.dK []) := keep (keep upd_same b3) b4
    have hB3 : (upd (upd (upd (upd H6 B1 (.tup txs)) B2 (.dK [])) B3 (.tup [.str z1, .str z2])) B4 (.lst [.ref B1, .non, .ref B2, .str ("" : Str), .int 0, .ref B3])) B3 = some (.tup [.str z1, .str z2]) := keep upd_same b4
    have hB4 : (upd (upd (upd (upd H6 B1 (.tup txs)) B2 (.dK [])) B3 (.tup [.str z1, .str z2])) B4 (.lst [.ref B1, .non, .ref B2, .str ("" : Str), .int 0, .ref B3])) B4 = some (.lst [.ref B1, .non, .ref B2, .str ("" : Str), .int 0, .ref B3]) := upd_same
    have nB4 : B4 ≠ l := (k16.src.ext (same_in (same_in (same_new b1) b2) b3)).ne_new b4
    generalize upd (upd (upd (upd H6 B1 (.tup txs)) B2 (.dK [])) B3 (.tup [.str z1, .str z2])) B4 (.lst [.ref B1, .non, .ref B2, .str ("" : Str), .int 0, .ref B3]) = H7 at *
    have k17 := k16.trans (Dr.same k16.src s7)
    refine ⟨l, B4, _, rfl, k17.src, hB4, nB4, by simp, by simp, fun v' H8 hv k8 => ?_⟩
    have : BadT l names H7 v' := by
      rcases List.mem_cons.mp hv with rfl | hv
      · exact .inl ⟨_, .tup hB1, by decide⟩
      rcases List.mem_cons.mp hv with rfl | hv
      · exact .inl ⟨_, .non, by decide⟩
      rcases List.mem_cons.mp hv with rfl | hv
      · exact .inl ⟨_, .dict hB2, by decide⟩
      rcases List.mem_cons.mp hv with rfl | hv
      · exact .inl ⟨_, .str _, by decide⟩
      rcases List.mem_cons.mp hv with rfl | hv
      · exact .inl ⟨_, .int _, by decide⟩
      rcases List.mem_cons.mp hv with rfl | hv
      · exact .inl ⟨_, .tup hB3, by decide⟩
      cases hv
    walk_at "go"
    rw [hu]
    exact q _ _ (k17.trans k8) (this.dr k8)
  · walk_at "go"
    rw [hu]
    exact q _ _ k16 (bad.dr k6)
theorem p_l_odd_ties {K : PySem.W.Frag} {vs : List V} {H : Hp} {Q : VK} {E : XK} (h : spOddTies vs H Q E) : t_l_odd_ties K { nx := fun _ H' => Q .non H', rt := Q } (start N_l_odd_ties vs) H := by
  obtain ⟨l, h, t, hxs, txs, hs, ps, rfl, src, nhl, ntl, hh, fh, gh, ht, ft, gt, l56, su, q⟩ := h
  have one := gh.one
  have few := gh.few
  have lx := fh.len
  have lt := ft.len
  rw [List.length_map] at lx lt
  have nmp := GTies.nm gh gt
  have nmn : ∀ z ∈ hs.map (·.1), isNm z = true := fun z hz => by
    obtain ⟨p, hp, rfl⟩ := List.mem_map.mp hz
    exact (gh.p hp).1
  have lnm : ∀ {z : Str}, isNm z = true → z.length ≤ 1000 := fun hz => Nat.le_trans (nm_len hz) (by decide)
  unfold t_l_odd_ties
  walk_at "go"
  refine ⟨h, rfl, ⟨_, sqL hh⟩, fun N hN => lc_list (K := K) (xs := hxs) (Lv H N ((hs.map (·.1)).map V.str)) (Lv.start hN) (fun i H' _ m => sqL (m.1 _ _ hh)) ?_ ?_⟩
  · rintro i x H1 hx m
    obtain ⟨d, hd, fd⟩ := (fh.same m.1).at hx
    rw [List.getElem?_map] at hd
    cases hp : hs[i]? with
    | none => rw [hp] at hd; cases hd
    | some p =>
      rw [hp] at hd
      cases hd
      obtain ⟨c, b, rfl, hc, _⟩ := hand_fy fd
      walk_at "go"
      refine ⟨rfl, w_yes (if_t rfl ?_)⟩
      walk_at "go"
      exact m.step (Same.refl _) (by rw [List.map_map, List.getElem?_map, hp]; rfl) (by rw [List.length_map, List.length_map]; omega)
  · rintro H1 m
    have hN1 := m.full (by rw [List.length_map, List.length_map]; omega)
    have nN : N ≠ l := src.ne_new hN
    have k1 := Dr.same src m.1
    have lns : (hs.map (·.1)).length = hs.length := by rw [List.length_map]
    generalize hs.map (·.1) = names at *
    walk_at "go"
    refine ⟨l, N, _, rfl, k1.src, hN1, nN, fun z => by
      have := congrArg List.length z
      rw [List.length_map] at this
      have : names.length = 0 := this
      omega, by rw [List.length_map]; omega, fun v1 H2 hv1 k2 => ?_⟩
    obtain ⟨z1, mz1, rfl⟩ := List.mem_map.mp hv1
    have hN2 := k2.keep _ _ nN hN1
    walk_at "go"
    refine ⟨l, N, _, rfl, k2.src, hN2, nN, fun z => by
      have := congrArg List.length z
      rw [List.length_map] at this
      have : names.length = 0 := this
      omega, by rw [List.length_map]; omega, fun v2 H3 hv2 k3 => ?_⟩
    obtain ⟨z2, mz2, rfl⟩ := List.mem_map.mp hv2
    have nz1 := nmn z1 mz1
    have nz2 := nmn z2 mz2
    have hN3 := k3.keep _ _ nN hN2
    have k13 := (k1.trans k2).trans k3
    have ht3 := k13.keep _ _ ntl ht
    walk_at "go"
    refine ⟨l, _, rfl, k3.src, by omega, Nat.lt_of_le_of_lt (by omega : _ ≤ 1000) (by decide), fun at_ H4 a0 a1 k4 => ?_⟩
    obtain ⟨i, rfl⟩ := Int.eq_ofNat_of_zero_le a0
    have hN4 := k4.keep _ _ nN hN3
    have k14 := k13.trans k4
    walk_at "go"
    refine ⟨by show 2 ≤ sizeLine; decide, fun W w => ?_⟩
    have sW : Same H4 (upd H4 W (.lst [.str ("strange" : Str), .str ("unheard" : Str)])) := same_new w
    have hW : (upd H4 W (.lst [.str ("strange" : Str), .str ("unheard" : Str)])) W = some (.lst ([("strange" : Str), ("unheard" : Str)].map V.str)) := upd_same
    generalize upd H4 W (.lst [.str ("strange" : Str), .str ("unheard" : Str)]) = H5 at *
    have hN5 := sW _ _ hN4
    walk_at "go"
    refine ⟨W, rfl, ⟨_, sqL hW⟩, fun D hD => lc_list (K := K) (xs := [("strange" : Str), ("unheard" : Str)].map V.str) (fun k H' => Same H5 H' ∧ H' D = some (.lst ((([("strange" : Str), ("unheard" : Str)].take k).filter fun z => decide (z ∉ names)).map V.str))) ⟨same_new hD, upd_same⟩ (fun k H' _ m => sqL (m.1 _ _ hW)) ?_ ?_⟩
    · rintro k x H6 hx ⟨s6, h6⟩
      rw [List.getElem?_map] at hx
      cases hz : [("strange" : Str), ("unheard" : Str)][k]? with
      | none => rw [hz] at hx; cases hx
      | some z =>
        rw [hz] at hx
        cases hx
        walk_at "go"
        refine ⟨rfl, ?_⟩
        walk_at "go"
        refine w_in (.inl (sqL (s6 _ _ hN5))) rfl (flat_strs _) ?_
        show ∃ k, V.bl (!inV _ _) = .bl k ∧ _
        rw [inV_str]
        walk_at "go"
        refine if_n2 (fun nz => ?_) (fun mz => ?_)
        · walk_at "go"
          refine ⟨_, h6, ?_, fun b o e => ?_, ?_⟩
          · have := List.length_filter_le (fun z : Str => decide (z ∉ names)) ([("strange" : Str), ("unheard" : Str)].take k)
            rw [List.length_map]
            refine small1000 (Nat.le_trans this ?_)
            rw [List.length_take]
            show min k 2 ≤ 1000
            omega
          · rw [upd_ne (ne_of_none e hD)]
            exact s6 _ _ e
          · rw [upd_same, List.take_add_one, hz, List.filter_append, List.map_append]
            have : (some z).toList.filter (fun z => decide (z ∉ names)) = [z] := by
              show List.filter _ [z] = [z]
              rw [List.filter_cons_of_pos (by simpa using nz)]; rfl
            rw [this]; rfl
        · refine ⟨s6, ?_⟩
          rw [List.take_add_one, hz, List.filter_append]
          have : (some z).toList.filter (fun z => decide (z ∉ names)) = [] := by
            show List.filter _ [z] = []
            rw [List.filter_cons_of_neg (by simpa using mz)]; rfl
          rw [this, List.append_nil]
          exact h6
    · rintro H6 ⟨s6, h6⟩
      obtain ⟨z3, rest, e3, nz3, mz3⟩ : ∃ z3 rest, (([("strange" : Str), ("unheard" : Str)].take 2).filter fun z => decide (z ∉ names)) = z3 :: rest ∧ z3 ∉ names ∧ isNm z3 = true := by
        by_cases h1 : ("strange" : Str) ∈ names
        · have h2 : ("unheard" : Str) ∉ names := fun h2 => su ⟨h1, h2⟩
          refine ⟨("unheard" : Str), [], ?_, h2, by decide +kernel⟩
          show List.filter _ [_, _] = _
          rw [List.filter_cons_of_neg (by simpa using h1), List.filter_cons_of_pos (by simpa using h2)]; rfl
        · refine ⟨("strange" : Str), [("unheard" : Str)].filter fun z => decide (z ∉ names), ?_, h1, by decide +kernel⟩
          show List.filter _ [_, _] = _
          rw [List.filter_cons_of_pos (by simpa using h1)]
      have h6 : H6 D = some (.lst ((z3 :: rest).map V.str)) := by
        rw [← e3]; exact h6
      refine w_ixL (sqL h6) (v := .str z3) (by exact atI_nat (show (((z3 :: rest).map V.str))[0]? = some (.str z3) from rfl)) ?_
      have k16 := (k14.trans (Dr.same k14.src sW)).trans (Dr.same (k14.src.ext sW) s6)
      have ht6 := k16.keep _ _ ntl ht
      have ft6 := ft.dr k16
      have l1 := lnm nz1
      have l2 := lnm nz2
      have l3 := lnm mz3
      walk_at "go"
      refine ⟨by show 2 ≤ sizeLine; decide, fun A1 a1' => ?_⟩
      walk_at "go"
      refine ⟨by show 2 ≤ sizeLine; decide, fun A2 a2' => ?_⟩
      walk_at "go"
      refine ⟨by show 2 ≤ sizeLine; decide, fun A3 a3' => ?_⟩
      walk_at "go"
      refine ⟨by show 1 ≤ sizeLine; decide, fun A4 a4' => ?_⟩
      walk_at "go"
      refine ⟨by show 3 ≤ sizeLine; decide, fun A5 a5' => ?_⟩
      walk_at "go"
      refine ⟨by show 2 ≤ sizeLine; decide, fun A6 a6' => ?_⟩
      walk_at "go"
      refine ⟨by show 6 ≤ sizeLine; decide, fun A7 a7' => ?_⟩
      have hA1 : (upd (upd (upd (upd (upd (upd (upd H6 A1 (.tup [.str z1, .str z3])) A2 (.tup [.str z3, .str z1])) A3 (.tup [.str z1, .str z1])) A4 (.tup [.str z1])) A5 (.tup [.str z1, .str z2, .str z1])) A6 (.lst [.str z1, .str z2])) A7 (.lst [.ref A1, .ref A2, .ref A3, .ref A4, .ref A5, .ref A6])) A1 = some (.tup [.str z1, .str z3]) := keep (keep (keep (keep (keep (keep upd_same a2') a3') a4') a5') a6') a7'
      have hA2 : (upd (upd (upd (upd (upd (upd (upd H6 A1 (.tup [.str z1, .str z3])) A2 (.tup [.str z3, .str z1])) A3 (.tup [.str z1, .str z1])) A4 (.tup [.str z1])) A5 (.tup [.str z1, .str z2, .str z1])) A6 (.lst [.str z1, .str z2])) A7 (.lst [.ref A1, .ref A2, .ref A3, .ref A4, .ref A5, .ref A6])) A2 = some (.tup [.str z3, .str z1]) := keep (keep (keep (keep (keep upd_same a3') a4') a5') a6') a7'
      have hA3 : (upd (upd (upd (upd (upd (upd (upd H6 A1 (.tup [.str z1, .str z3])) A2 (.tup [.str z3, .str z1])) A3 (.tup [.str z1, .str z1])) A4 (.tup [.str z1])) A5 (.tup [.str z1, .str z2, .str z1])) A6 (.lst [.str z1, .str z2])) A7 (.lst [.ref A1, .ref A2, .ref A3, .ref A4, .ref A5, .ref A6])) A3 = some (.tup [.str z1, .str z1]) := keep (keep (keep (keep upd_same a4') a5') a6') a7'
      have hA4 : (upd (upd (upd (upd (upd (upd (upd H6 A1 (.tup [.str z1, .str z3])) A2 (.tup [.str z3, .str z1])) A3 (.tup [.str z1, .str z1])) A4 (.tup [.str z1])) A5 (.tup [.str z1, .str z2, .str z1])) A6 (.lst [.str z1, .str z2])) A7 (.lst [.ref A1, .ref A2, .ref A3, .ref A4, .ref A5, .ref A6])) A4 = some (.tup [.str z1]) := keep (keep (keep upd_same a5') a6') a7'
      have hA5 : (upd (upd (upd (upd (upd (upd (upd H6 A1 (.tup [.str z1, .str z3])) A2 (.tup [.str z3, .str z1])) A3 (.tup [.str z1, .str z1])) A4 (.tup [.str z1])) A5 (.tup [.str z1, .str z2, .str z1])) A6 (.lst [.str z1, .str z2])) A7 (.lst [.ref A1, .ref A2, .ref A3, .ref A4, .ref A5, .ref A6])) A5 = some (.tup [.str z1, .str z2, .str z1]) := keep (keep upd_same a6') a7'
      have hA6 : (upd (upd (upd (upd (upd (upd (upd H6 A1 (.tup [.str z1, .str z3])) A2 (.tup [.str z3, .str z1])) A3 (.tup [.str z1, .str z1])) A4 (.tup [.str z1])) A5 (.tup [.str z1, .str z2, .str z1])) A6 (.lst [.str z1, .str z2])) A7 (.lst [.ref A1, .ref A2, .ref A3, .ref A4, .ref A5, .ref A6])) A6 = some (.lst [.str z1, .str z2]) := keep upd_same a7'
      have hA7 : (upd (upd (upd (upd (upd (upd (upd H6 A1 (.tup [.str z1, .str z3])) A2 (.tup [.str z3, .str z1])) A3 (.tup [.str z1, .str z1])) A4 (.tup [.str z1])) A5 (.tup [.str z1, .str z2, .str z1])) A6 (.lst [.str z1, .str z2])) A7 (.lst [.ref A1, .ref A2, .ref A3, .ref A4, .ref A5, .ref A6])) A7 = some (.lst [.ref A1, .ref A2, .ref A3, .ref A4, .ref A5, .ref A6]) := upd_same
      have s7 : Same H6 (upd (upd (upd (upd (upd (upd (upd H6 A1 (.tup [.str z1, .str z3])) A2 (.tup [.str z3, .str z1])) A3 (.tup [.str z1, .str z1])) A4 (.tup [.str z1])) A5 (.tup [.str z1, .str z2, .str z1])) A6 (.lst [.str z1, .str z2])) A7 (.lst [.ref A1, .ref A2, .ref A3, .ref A4, .ref A5, .ref A6])) := same_in (same_in (same_in (same_in (same_in (same_in (same_new a1') a2') a3') a4') a5') a6') a7'
      have nA6 : A6 ≠ l := (k16.src.ext (same_in (same_in (same_in (same_in (same_new a1') a2') a3') a4') a5')).ne_new a6'
      generalize upd (upd (upd (upd (upd (upd (upd H6 A1 (.tup [.str z1, .str z3])) A2 (.tup [.str z3, .str z1])) A3 (.tup [.str z1, .str z1])) A4 (.tup [.str z1])) A5 (.tup [.str z1, .str z2, .str z1])) A6 (.lst [.str z1, .str z2])) A7 (.lst [.ref A1, .ref A2, .ref A3, .ref A4, .ref A5, .ref A6]) = H7 at *
      have F1 : Fy l H7 (.str z1) (.str z1) := .str _ l1
      have F2 : Fy l H7 (.str z2) (.str z2) := .str _ l2
      have F3 : Fy l H7 (.str z3) (.str z3) := .str _ l3
      have f1 : FyAll l H7 [.ref A1, .ref A2, .ref A3, .ref A4, .ref A5, .ref A6] [.tuple [.str z1, .str z3], .tuple [.str z3, .str z1], .tuple [.str z1, .str z1], .tuple [.str z1], .tuple [.str z1, .str z2, .str z1], .list [.str z1, .str z2]] :=
        .cons (.tup hA1 (.cons F1 (.cons F3 .nil))) (.cons (.tup hA2 (.cons F3 (.cons F1 .nil))) (.cons (.tup hA3 (.cons F1 (.cons F1 .nil))) (.cons (.tup hA4 (.cons F1 .nil)) (.cons (.tup hA5 (.cons F1 (.cons F2 (.cons F1 .nil)))) (.cons (.lst nA6 hA6 (.cons F1 (.cons F2 .nil))) .nil)))))
      have o1 : ∀ d ∈ [PyData.tuple [.str z1, .str z3], .tuple [.str z3, .str z1], .tuple [.str z1, .str z1], .tuple [.str z1], .tuple [.str z1, .str z2, .str z1], .list [.str z1, .str z2]], OddT names ps d := by
        refine mc (.inl ?_) (mc (.inl ?_) (mc (.inl ?_) (mc (.inl rfl) (mc (.inl rfl) (m1 (.inl rfl))))))
        · rw [tieJ_of nz1 mz3]
          show (decide _ && decide _ && decide _) = false
          rw [decide_eq_false nz3, Bool.and_false]
        · rw [tieJ_of mz3 nz1]
          show (decide _ && decide _ && decide _) = false
          rw [decide_eq_false nz3, Bool.and_false]; rfl
        · rw [tieJ_of nz1 nz1]
          show (decide _ && decide _ && decide _) = false
          rw [decide_eq_false (fun n => n rfl : ¬ z1 ≠ z1)]; rfl
      have k17 := k16.trans (Dr.same k16.src s7)
      clear hA1 hA2 hA3 hA4 hA5 hA6 F1 F2 F3
      -- a name
      walk_at "go"
      refine ⟨by show 1 ≤ sizeLine; decide, fun B1 b1 => ?_⟩
      refine w_cat (keep hA7 b1) upd_same (by show 7 ≤ sizeLine; decide) fun S1 x1 => ?_
      have s8 : Same H7 (upd (upd H7 B1 (.lst [.str z1])) S1 (.lst ([.ref A1, .ref A2, .ref A3, .ref A4, .ref A5, .ref A6] ++ [.str z1]))) := same_in (same_new b1) x1
      have hS1 : (upd (upd H7 B1 (.lst [.str z1])) S1 (.lst ([.ref A1, .ref A2, .ref A3, .ref A4, .ref A5, .ref A6] ++ [.str z1]))) S1 = _ := upd_same
      generalize upd (upd H7 B1 (.lst [.str z1])) S1 (.lst ([.ref A1, .ref A2, .ref A3, .ref A4, .ref A5, .ref A6] ++ [.str z1])) = H8 at *
      have f2 := (f1.same s8).app (.cons (.str z1 l1) .nil)
      have o2 := ma o1 (m1 (P := OddT names ps) (a := .str z1) (.inl rfl))
      have k18 := k17.trans (Dr.same k17.src s8)
      clear f1 o1
      -- seven more
      walk_at "go"
      refine ⟨by show 2 ≤ sizeLine; decide, fun C1 c1 => ?_⟩
      walk_at "go"
      refine ⟨by show 2 ≤ sizeLine; decide, fun C2 c2 => ?_⟩
      walk_at "go"
      refine ⟨by show 1 ≤ sizeLine; decide, fun C3 c3 => ?_⟩
      walk_at "go"
      refine ⟨by show 2 ≤ sizeLine; decide, fun C4 c4 => ?_⟩
      walk_at "go"
      refine ⟨by show 0 ≤ sizeLine; decide, fun C5 c5 => ?_⟩
      walk_at "go"
      refine ⟨by show 2 ≤ sizeLine; decide, fun C6 c6 => ?_⟩
      walk_at "go"
      refine ⟨by show 2 ≤ sizeLine; decide, fun C7 c7 => ?_⟩
      walk_at "go"
      refine ⟨by show 1 ≤ sizeLine; decide, fun C8 c8 => ?_⟩
      walk_at "go"
      refine ⟨by show 7 ≤ sizeLine; decide, fun C9 c9 => ?_⟩
      obtain ⟨H9, e9⟩ : ∃ H9, H9 = upd (upd (upd (upd (upd (upd (upd (upd (upd H8 C1 (.tup [.str z1, .non])) C2 (.tup [.int 0, .str z1])) C3 (.lst [.str z2])) C4 (.tup [.str z1, .ref C3])) C5 (.tup [])) C6 (.tup [.str z1, .str ("" : Str)])) C7 (.tup [.str z1, .str z2])) C8 (.tup [.ref C7])) C9 (.lst [.non, .ref C1, .ref C2, .ref C4, .ref C5, .ref C6, .ref C8]) := ⟨_, rfl⟩
      have s9 : Same H8 H9 := by rw [e9]; exact same_in (same_in (same_in (same_in (same_in (same_in (same_in (same_in (same_new c1) c2) c3) c4) c5) c6) c7) c8) c9
      have hC1 : H9 C1 = some (.tup [.str z1, .non]) := by rw [e9]; exact keep (keep (keep (keep (keep (keep (keep (keep upd_same c2) c3) c4) c5) c6) c7) c8) c9
      have hC2 : H9 C2 = some (.tup [.int 0, .str z1]) := by rw [e9]; exact keep (keep (keep (keep (keep (keep (keep upd_same c3) c4) c5) c6) c7) c8) c9
      have hC3 : H9 C3 = some (.lst [.str z2]) := by rw [e9]; exact keep (keep (keep (keep (keep (keep upd_same c4) c5) c6) c7) c8) c9
      have hC4 : H9 C4 = some (.tup [.str z1, .ref C3]) := by rw [e9]; exact keep (keep (keep (keep (keep upd_same c5) c6) c7) c8) c9
      have hC5 : H9 C5 = some (.tup []) := by rw [e9]; exact keep (keep (keep (keep upd_same c6) c7) c8) c9
      have hC6 : H9 C6 = some (.tup [.str z1, .str ("" : Str)]) := by rw [e9]; exact keep (keep (keep upd_same c7) c8) c9
      have hC7 : H9 C7 = some (.tup [.str z1, .str z2]) := by rw [e9]; exact keep (keep upd_same c8) c9
      have hC8 : H9 C8 = some (.tup [.ref C7]) := by rw [e9]; exact keep upd_same c9
      have hC9 : H9 C9 = some (.lst [.non, .ref C1, .ref C2, .ref C4, .ref C5, .ref C6, .ref C8]) := by rw [e9]; exact upd_same
      have nC3 : C3 ≠ l := (k18.src.ext (same_in (same_new c1) c2)).ne_new c3
      rw [← e9]
      clear e9 c1 c2 c3 c4 c5 c6 c7 c8 c9
      refine w_cat (s9 _ _ hS1) hC9 (by show 14 ≤ sizeLine; decide) fun S2 x2 => ?_
      have s10 := same_new (H := H9) (u := HO.lst ([.ref A1, .ref A2, .ref A3, .ref A4, .ref A5, .ref A6] ++ [.str z1] ++ [.non, .ref C1, .ref C2, .ref C4, .ref C5, .ref C6, .ref C8])) x2
      have hS2 : (upd H9 S2 (.lst ([.ref A1, .ref A2, .ref A3, .ref A4, .ref A5, .ref A6] ++ [.str z1] ++ [.non, .ref C1, .ref C2, .ref C4, .ref C5, .ref C6, .ref C8]))) S2 = _ := upd_same
      have k19 := k18.trans (Dr.same k18.src s9)
      have nS2 : S2 ≠ l := k19.src.ne_new x2
      have G1 : Fy l H9 (.str z1) (.str z1) := .str _ l1
      have G2 : Fy l H9 (.str z2) (.str z2) := .str _ l2
      have f3 := ((f2.same s9).app (.cons .non (.cons (.tup hC1 (.cons G1 (.cons .non .nil))) (.cons (.tup hC2 (.cons (.int _) (.cons G1 .nil))) (.cons (.tup hC4 (.cons G1 (.cons (.lst nC3 hC3 (.cons G2 .nil)) .nil))) (.cons (.tup hC5 .nil) (.cons (.tup hC6 (.cons G1 (.cons (.str _ (by decide +kernel)) .nil))) (.cons (.tup hC8 (.cons (.tup hC7 (.cons G1 (.cons G2 .nil))) .nil)) .nil)))))))).same s10
      have o3 := ma o2 (mc (P := OddT names ps) (a := .none) (.inl rfl) (mc (a := .tuple [.str z1, .none]) (.inl (by rw [tieJ_r rfl]; rfl)) (mc (a := .tuple [.int 0, .str z1]) (.inl (by rw [tieJ_l rfl]; rfl)) (mc (a := .tuple [.str z1, .list [.str z2]]) (.inl (by rw [tieJ_r rfl]; rfl)) (mc (a := .tuple []) (.inl rfl) (mc (a := .tuple [.str z1, .str ("" : Str)]) (.inl (by rw [tieJ_r (nj_lit _)]; rfl)) (m1 (a := .tuple [.tuple [.str z1, .str z2]]) (.inl rfl))))))))
      generalize upd H9 S2 (.lst ([.ref A1, .ref A2, .ref A3, .ref A4, .ref A5, .ref A6] ++ [.str z1] ++ [.non, .ref C1, .ref C2, .ref C4, .ref C5, .ref C6, .ref C8])) = H10 at *
      have k110 := k19.trans (Dr.same k19.src s10)
      have ht10 := k110.keep _ _ ntl ht
      have ft10 := ft.dr k110
      clear f2 o2 hC1 hC2 hC3 hC4 hC5 hC6 hC7 hC8 hC9 G1 G2
      have sht : SeqAt.shaped (.list (ps.map tieD)) = true := by
        have lo : Lo 3 (.list (ps.map tieD)) := lo_lst (n := 2) fun x hx => by
          obtain ⟨p, hp, rfl⟩ := List.mem_map.mp hx
          exact lo_tup (mc (lo_nm (nmp p hp).1) (m1 (lo_nm (nmp p hp).2)))
        unfold SeqAt.shaped
        rw [lo.1, decide_eq_true (Nat.le_trans lo.2 (by decide))]; rfl
      walk_at "go"
      refine ⟨by show 0 ≤ sizeLine; decide, fun Z zz => ?_⟩
      have s11 : Same H10 (upd H10 Z (.lst [])) := same_new zz
      have hZ : (upd H10 Z (.lst [])) Z = some (.lst []) := upd_same
      generalize upd H10 Z (.lst []) = H11 at *
      have k111 := k110.trans (Dr.same k110.src s11)
      have ht11 := s11 _ _ ht10
      have ft11 := ft10.same s11
      refine w_neD (d := .list (ps.map tieD)) (e := .list []) (.lst (sqL ht11) ft11.dp) (dpN hZ) sht (by decide) ?_
      walk_at "s"
      cases hps : ps with
      | nil =>
        subst hps
        have e : (!PyData.eqv (.list (([] : List (Str × Str)).map tieD)) (.list [])) = false := by decide
        rw [e]
        walk_at "s"
        walk_at "s"
        exact p_ot_rest (Q := Q) (names := names) rfl k111 ht11 ntl ft11 (by omega) l56 nmp (s11 _ _ hS2) nS2 (f3.same s11) (by simp) (by simp) o3 q
      | cons p0 r =>
        have e : (!PyData.eqv (.list ((p0 :: r).map tieD)) (.list [])) = true := rfl
        rw [e]
        have dne : ps.map tieD ≠ [] := by rw [hps]; simp
        clear e
        walk_at "go"
        refine pick_ok k111.src ht11 ntl ft11 dne (by rw [List.length_map]; omega) fun v d H12 hd fv k12 => ?_
        obtain ⟨pt, hpt, rfl⟩ := List.mem_map.mp hd
        obtain ⟨c, rfl, hc, lc1, lc2⟩ := tie_fy fv
        have k112 := k111.trans k12
        have hS12 := k12.keep _ _ nS2 (s11 _ _ hS2)
        have f12 := (f3.same s11).dr k12
        walk_at "go"
        refine w_revT (w_var rfl ⟨c, _, rfl, sqT hc, fun V1 v1 => ?_⟩)
        have hc1 := keep (u := HO.tup [V.str pt.1, .str pt.2].reverse) hc v1
        walk_at "go"
        refine w_revT (w_var rfl ⟨c, _, rfl, sqT hc1, fun V2 v2 => ?_⟩)
        have hc2 := keep (u := HO.tup [V.str pt.1, .str pt.2].reverse) hc1 v2
        walk_at "go"
        refine w_listT (sqT hc2) fun V3 v3 => ?_
        walk_at "go"
        refine ⟨by show 5 ≤ sizeLine; decide, fun V4 v4 => ?_⟩
        obtain ⟨H13, e13⟩ : ∃ H13, H13 = upd (upd (upd (upd H12 V1 (.tup [V.str pt.1, .str pt.2].reverse)) V2 (.tup [V.str pt.1, .str pt.2].reverse)) V3 (.lst [.str pt.1, .str pt.2])) V4 (.lst [.ref c, .ref V1, .ref c, .ref V2, .ref V3]) := ⟨_, rfl⟩
        have s13 : Same H12 H13 := by rw [e13]; exact same_in (same_in (same_in (same_new v1) v2) v3) v4
        have hV1 : H13 V1 = some (.tup [.str pt.2, .str pt.1]) := by rw [e13]; exact keep (keep (keep upd_same v2) v3) v4
        have hV2 : H13 V2 = some (.tup [.str pt.2, .str pt.1]) := by rw [e13]; exact keep (keep upd_same v3) v4
        have hV3 : H13 V3 = some (.lst [.str pt.1, .str pt.2]) := by rw [e13]; exact keep upd_same v4
        have hV4 : H13 V4 = some (.lst [.ref c, .ref V1, .ref c, .ref V2, .ref V3]) := by rw [e13]; exact upd_same
        have nV3 : V3 ≠ l := (k112.src.ext (same_in (same_new v1) v2)).ne_new v3
        rw [← e13]
        clear e13 v1 v2 v3 v4 hc1 hc2
        refine w_cat (s13 _ _ hS12) hV4 (by show 19 ≤ sizeLine; decide) fun S3 x3 => ?_
        have k113 := k112.trans (Dr.same k112.src s13)
        have nS3 : S3 ≠ l := k113.src.ne_new x3
        have hc13 := s13 _ _ hc
        have s14 := same_new (H := H13) (u := HO.lst ([.ref A1, .ref A2, .ref A3, .ref A4, .ref A5, .ref A6] ++ [.str z1] ++ [.non, .ref C1, .ref C2, .ref C4, .ref C5, .ref C6, .ref C8] ++ [.ref c, .ref V1, .ref c, .ref V2, .ref V3])) x3
        have G1 : Fy l H13 (.str pt.1) (.str pt.1) := .str _ lc1
        have G2 : Fy l H13 (.str pt.2) (.str pt.2) := .str _ lc2
        have Gc : Fy l H13 (.ref c) (.tuple [.str pt.1, .str pt.2]) := .tup hc13 (.cons G1 (.cons G2 .nil))
        have f4 := ((f12.same s13).app (.cons Gc (.cons (.tup hV1 (.cons G2 (.cons G1 .nil))) (.cons Gc (.cons (.tup hV2 (.cons G2 (.cons G1 .nil))) (.cons (.lst nV3 hV3 (.cons G1 (.cons G2 .nil))) .nil)))))).same s14
        obtain ⟨np1, np2⟩ := nmp pt hpt
        have t1 : OddT names ps (.tuple [.str pt.1, .str pt.2]) := .inr ⟨pt, hpt, .inl (tieJ_of np1 np2)⟩
        have t2 : OddT names ps (.tuple [.str pt.2, .str pt.1]) := .inr ⟨pt, hpt, .inr (tieJ_of np2 np1)⟩
        have o4 := ma o3 (mc (P := OddT names ps) t1 (mc t2 (mc t1 (mc t2 (m1 (a := .list [.str pt.1, .str pt.2]) (.inl rfl))))))
        have k114 := k113.trans (Dr.same k113.src s14)
        exact p_ot_rest (Q := Q) (names := names) rfl k114 (k114.keep _ _ ntl ht) ntl (ft.dr k114) (by omega) l56 nmp upd_same nS3 f4 (by simp) (by simp) o4 q

-- names: 0:_law_script 1:_law_cell 2:_law_well_here 3:_law_hands 4:_law_ties_here 5:_law_turn 6:_law_bad_here
abbrev N_law : List Str := ["_law_script", "_law_cell", "_law_well_here", "_law_hands", "_law_ties_here", "_law_turn", "_law_bad_here"]
def t_law (K : PySem.W.Frag) : TS :=
  (tSeq (tFor (iList K (tOp rCat (tLst (tCons (tCall (spCellAt K) [] E0 (tCons (tVar 0) (tCons (tC (.int 0)) tNil))) tNil)) (tSl (rSlL K) (tVar 0) (tPart (tC (.int 1))) (tPart (tC (.int 30)))))) (gName 1) (tSeq (tAsg (tCall spBegin [] E0 (tCons (tVar 1) tNil)) (gName 2))
      (tSeq (tAsg (tCall spWeb [] E0 (tCons (tVar 2) (tCons (tC (.int 8)) tNil))) (gTup K 2 (gCons (gName 3) (gCons (gName 4) gNil))))
      (tSeq (tFor (iRng1 (tCons (tC (.int 4)) tNil)) (gName 5) (tSeq (tAsg (tCall spBad [] E0 (tCons (tVar 2) (tCons (tVar 3) (tCons (tVar 4) tNil)))) (gName 6))
        (tIfS (tOr (tNot (tB (tCall (spRefused K) [] E0 (tCons (tC (.int 0)) (tCons (tVar 6) tNil))))) (tNot (tB (tCall (spRefused K) [] E0 (tCons (tC (.int 1)) (tCons (tVar 6) tNil)))))) (tRet (tC (.bl false))) tNext)))
      (tIfS (tTest (tOp rNotN (tCallS (spCheckWeb K) (WE (fun _ _ _ _ => False)) (tCons (tTup (tCons (tVar 3) (tCons (tVar 4) tNil))) tNil)) (tC .non))) (tRet (tC (.bl false))) tNext)))))
    (tRet (tC (.bl true))))

theorem p_l_bad_len {vs : List V} {H : Hp} {Q : VK} {E : XK} (h : spBad vs H Q E) : vs.length = 3 := by
  obtain ⟨l, h, t, hxs, txs, hs, ps, rfl, _⟩ := h; rfl
theorem handsOk_good {hs : List (Str × List Int)} (gh : GHands hs) : handsOk ((hs.map handD).map handJ) = true ∧ namesJ ((hs.map handD).map handJ) = hs.map (·.1) := by
  obtain ⟨n, n1, n3, gj⟩ := handJ_good gh
  rw [map_some gj]
  refine ⟨handsOk_of (n := n) (by rw [List.length_map]; exact gh.one) (by rw [List.length_map]; exact gh.few) (by rw [List.map_map]; exact gh.nd) fun g hg => ?_, ?_⟩
  · obtain ⟨p, _, rfl⟩ := List.mem_map.mp hg
    rfl
  · unfold namesJ
    rw [fm_some (f := fun g : Str × Nat => g.1), List.map_map]; rfl
theorem p_l_bad {K : PySem.W.Frag} {vs : List V} {H : Hp} {Q : VK} {E : XK} (h : spBad vs H Q E) : t_l_bad K { nx := fun _ H' => Q .non H', rt := Q } (start N_l_bad vs) H := by
  obtain ⟨l, h, t, hxs, txs, hs, ps, rfl, src, nhl, ntl, hh, fh, gh, ht, ft, gt, l56, su, q⟩ := h
  have few := gh.few
  have one := gh.one
  unfold t_l_bad
  walk_at "go"
  refine ⟨l, 8, rfl, src, by decide, by decide, fun way H1 w0 w1 k1 => ?_⟩
  have hh1 := k1.keep _ _ nhl hh
  have ht1 := k1.keep _ _ ntl ht
  have fh1 := fh.dr k1
  have ft1 := ft.dr k1
  walk_at "go"
  refine if_2 (fun hw => ?_) (fun hw => ?_)
  · walk_at "go"
    refine ⟨by show 2 ≤ sizeLine; decide, fun A1 a1 => ?_⟩
    walk_at "go"
    refine ⟨by show 1 ≤ sizeLine; decide, fun A2 a2 => ?_⟩
    walk_at "go"
    refine ⟨by show 3 ≤ sizeLine; decide, fun A3 a3 => ?_⟩
    walk_at "go"
    refine ⟨by show 2 ≤ sizeLine; decide, fun A4 a4 => ?_⟩
    walk_at "go"
    refine w_dnew fun A5 a5 => ?_
    walk_at "go"
    refine ⟨by show 9 ≤ sizeLine; decide, fun A6 a6 => ?_⟩
    obtain ⟨H2, e2⟩ : ∃ H2, H2 = upd (upd (upd (upd (upd (upd H1 A1 (.lst [.ref h, .ref t])) A2 (.tup [.ref h])) A3 (.tup [.ref h, .ref t, .ref t])) A4 (.tup [.ref t, .ref h])) A5 (.dK [])) A6 (.lst [.non, .ref A1, .ref A2, .ref A3, .ref A4, .ref h, .ref A5, .str ("web" : Str), .int 0]) := ⟨_, rfl⟩
    have s2 : Same H1 H2 := by rw [e2]; exact same_in (same_in (same_in (same_in (same_in (same_new a1) a2) a3) a4) a5) a6
    have hA1 : H2 A1 = some (.lst [.ref h, .ref t]) := by rw [e2]; exact keep (keep (keep (keep (keep upd_same a2) a3) a4) a5) a6
    have hA2 : H2 A2 = some (.tup [.ref h]) := by rw [e2]; exact keep (keep (keep (keep upd_same a3) a4) a5) a6
    have hA3 : H2 A3 = some (.tup [.ref h, .ref t, .ref t]) := by rw [e2]; exact keep (keep (keep upd_same a4) a5) a6
    have hA4 : H2 A4 = some (.tup [.ref t, .ref h]) := by rw [e2]; exact keep (keep upd_same a5) a6
    have hA5 : H2 A5 = some (.dK []) := by rw [e2]; exact keep upd_same a6
    have hA6 : H2 A6 = some (.lst [.non, .ref A1, .ref A2, .ref A3, .ref A4, .ref h, .ref A5, .str ("web" : Str), .int 0]) := by rw [e2]; exact upd_same
    rw [← e2]
    clear e2 a1 a2 a3 a4 a5 a6
    walk_at "go"
    refine ⟨by show 0 ≤ sizeLine; decide, fun B1 b1 => ?_⟩
    walk_at "go"
    refine ⟨by show 2 ≤ sizeLine; decide, fun B2 b2 => ?_⟩
    refine w_cat (keep (keep hA6 b1) b2) upd_same (by show 11 ≤ sizeLine; decide) fun S x => ?_
    obtain ⟨H3, e3⟩ : ∃ H3, H3 = upd (upd (upd H2 B1 (.tup [])) B2 (.lst [.bl true, .ref B1])) S (.lst ([.non, .ref A1, .ref A2, .ref A3, .ref A4, .ref h, .ref A5, .str ("web" : Str), .int 0] ++ [.bl true, .ref B1])) := ⟨_, rfl⟩
    have s3 : Same H2 H3 := by rw [e3]; exact same_in (same_in (same_new b1) b2) x
    have hB1 : H3 B1 = some (.tup []) := by rw [e3]; exact keep (keep upd_same b2) x
    have hS : H3 S = some (.lst ([.non, .ref A1, .ref A2, .ref A3, .ref A4, .ref h, .ref A5, .str ("web" : Str), .int 0] ++ [.bl true, .ref B1])) := by rw [e3]; exact upd_same
    have k12 := k1.trans (Dr.same k1.src s2)
    have nS : S ≠ l := (k12.src.ext (same_in (same_new b1) b2)).ne_new x
    rw [← e3]
    clear e3 b1 b2 x
    have k13 := k12.trans (Dr.same k12.src s3)
    have s23 := s2.trans s3
    walk_at "go"
    refine ⟨l, S, _, rfl, k13.src, hS, nS, by simp, by simp, fun v H4 hv k4 => q v H4 (k13.trans k4) ?_⟩
    have s13 := s23
    rcases List.mem_cons.mp hv with rfl | hv
    · exact .inl ⟨_, .non, by decide⟩
    rcases List.mem_cons.mp hv with rfl | hv
    · exact .inl ⟨_, (Kd.lst (s3 _ _ hA1)).dr k4, by decide⟩
    rcases List.mem_cons.mp hv with rfl | hv
    · exact .inr ⟨A2, _, rfl, k4.tup (s3 _ _ hA2), .inl (by show 1 ≠ 2; decide)⟩
    rcases List.mem_cons.mp hv with rfl | hv
    · exact .inr ⟨A3, _, rfl, k4.tup (s3 _ _ hA3), .inl (by show 3 ≠ 2; decide)⟩
    rcases List.mem_cons.mp hv with rfl | hv
    · refine .inr ⟨A4, _, rfl, k4.tup (s3 _ _ hA4), .inr ⟨.ref t, .ref h, rfl, .inl ?_⟩⟩
      have bh : BadH l H4 (.ref t) := by
        refine .inr ⟨t, txs, ps.map tieD, rfl, ntl, k4.keep _ _ ntl (s13 _ _ ht1), ((ft1.same s13).dr k4), ?_⟩
        cases hps : ps with
        | nil => exact handsOk_len (.inl rfl)
        | cons p r =>
          refine handsOk_none ?_
          rw [List.map_map, List.map_cons]
          have : handJ (tieD p) = none := handJ_num rfl
          show none ∈ handJ (tieD p) :: _
          rw [this]
          exact .head _
      exact bh.j
    rcases List.mem_cons.mp hv with rfl | hv
    · exact .inl ⟨_, (Kd.lst (s13 _ _ hh1)).dr k4, by decide⟩
    rcases List.mem_cons.mp hv with rfl | hv
    · exact .inl ⟨_, (Kd.dict (s3 _ _ hA5)).dr k4, by decide⟩
    rcases List.mem_cons.mp hv with rfl | hv
    · exact .inl ⟨_, .str _, by decide⟩
    rcases List.mem_cons.mp hv with rfl | hv
    · exact .inl ⟨_, .int _, by decide⟩
    rcases List.mem_cons.mp hv with rfl | hv
    · exact .inl ⟨_, .bl _, by decide⟩
    rcases List.mem_cons.mp hv with rfl | hv
    · exact .inr ⟨B1, _, rfl, k4.tup hB1, .inl (by show 0 ≠ 2; decide)⟩
    cases hv
  · walk_at "go"
    refine if_2 (fun hw5 => ?_) (fun hw5 => ?_)
    · walk_at "go"
      refine ⟨l, h, hxs, hs, rfl, k1.src, nhl, hh1, fh1, gh, fun v H2 k2 bad => ?_⟩
      walk_at "go"
      refine ⟨by show 0 ≤ sizeLine; decide, fun A1 a1 => ?_⟩
      walk_at "go"
      refine ⟨by show 2 ≤ sizeLine; decide, fun A2 a2 => ?_⟩
      have s3 : Same H2 (upd (upd H2 A1 (.lst [])) A2 (.tup [v, .ref A1])) := same_in (same_new a1) a2
      have k12 := k1.trans k2
      exact q _ _ (k12.trans (Dr.same k12.src s3)) (.inr ⟨A2, _, rfl, upd_same, .inr ⟨v, .ref A1, rfl, .inl (bad.same s3).j⟩⟩)
    · walk_at "go"
      refine w_listL (sqL hh1) fun A1 a1 => ?_
      have s2 : Same H1 (upd H1 A1 (.lst hxs)) := same_new a1
      have hA1 : (upd H1 A1 (.lst hxs)) A1 = some (.lst hxs) := upd_same
      have nA1 : A1 ≠ l := k1.src.ne_new a1
      generalize upd H1 A1 (.lst hxs) = H2 at *
      have k2 := k1.trans (Dr.same k1.src s2)
      walk_at "go"
      refine ⟨l, h, t, hxs, txs, hs, ps, rfl, k2.src, nhl, ntl, s2 _ _ hh1, fh1.same s2, gh, s2 _ _ ht1, ft1.same s2, gt, l56, su, fun v H3 k3 bad => ?_⟩
      walk_at "go"
      refine ⟨by show 2 ≤ sizeLine; decide, fun A2 a2 => ?_⟩
      have s4 : Same H3 (upd H3 A2 (.tup [.ref A1, v])) := same_new a2
      have k23 := k2.trans k3
      obtain ⟨o1, o2⟩ := handsOk_good gh
      refine q _ _ (k23.trans (Dr.same k23.src s4)) (.inr ⟨A2, _, rfl, upd_same, .inr ⟨.ref A1, v, rfl, .inr ⟨A1, hxs, _, rfl, s4 _ _ (k3.keep _ _ nA1 hA1), two_fy hj_fy (((fh1.same s2).dr k3).same s4), o1, ?_⟩⟩⟩)
      rw [o2]
      exact (bad.same s4).j
theorem fz_fyT {l : Addr} {H : Hp} : ∀ {ps : List (Str × Str)} {xs : List V}, FzAll H xs (ps.map tieD) → (∀ p ∈ ps, p.1.length ≤ 1000 ∧ p.2.length ≤ 1000) → FyAll l H xs (ps.map tieD)
  | [], _, h, _ => by cases h; exact .nil
  | p :: ps, _, h, k => by
    cases h with
    | cons f t =>
      obtain ⟨a, ys, rfl, ha, t1⟩ := fz_tup f
      cases t1 with
      | cons f0 t1 =>
        cases f0
        cases t1 with
        | cons f1 t1 =>
          cases f1
          cases t1
          obtain ⟨a1, a2⟩ := k p (.head _)
          exact .cons (.tup ha (.cons (.str _ a1) (.cons (.str _ a2) .nil))) (fz_fyT t fun p hp => k p (.tail _ hp))
theorem Jh0.same {H H' : Hp} {v : V} (h : Jh0 H v) (s : Same H H') : Jh0 H' v := by
  rcases h with ⟨T, hk, n⟩ | ⟨b, xs, j, e3, hb, tw, o⟩
  · exact .inl ⟨T, hk.same s, n⟩
  · exact .inr ⟨b, xs, j, e3, s _ _ hb, tw.imp fun x y e => e.same s, o⟩
theorem Jt0.same {H H' : Hp} {names : List Str} {v : V} (h : Jt0 H names v) (s : Same H H') : Jt0 H' names v := by
  rcases h with ⟨T, hk, n⟩ | ⟨b, xs, j, e3, hb, lt, tw, o⟩
  · exact .inl ⟨T, hk.same s, n⟩
  · exact .inr ⟨b, xs, j, e3, s _ _ hb, lt, tw.imp fun x y e => e.same s, o⟩
theorem BadW.same {H H' : Hp} {v : V} (h : BadW H v) (s : Same H H') : BadW H' v := by
  rcases h with ⟨T, h, n⟩ | ⟨a, ys, e, ha, n2 | ⟨v0, v1, e2, jh⟩⟩
  · exact .inl ⟨T, h.same s, n⟩
  · exact .inr ⟨a, ys, e, s _ _ ha, .inl n2⟩
  · refine .inr ⟨a, ys, e, s _ _ ha, .inr ⟨v0, v1, e2, ?_⟩⟩
    rcases jh with jh | ⟨b, hxs, hjs, e3, hb, th, oh, jt⟩
    · exact .inl (jh.same s)
    · exact .inr ⟨b, hxs, hjs, e3, s _ _ hb, th.imp fun x y e => e.same s, oh, jt.same s⟩
theorem p_law_len {K : PySem.W.Frag} {vs : List V} {H : Hp} {Q : VK} {E : XK} (h : spLaw K vs H Q E) : vs.length = 1 := by
  obtain ⟨a, ns, rfl, _⟩ := h; rfl
theorem p_law {K : PySem.W.Frag} {vs : List V} {H : Hp} {Q : VK} {E : XK} (h : spLaw K vs H Q E) : t_law K { nx := fun _ H' => Q .non H', rt := Q } (start N_law vs) H := by
  obtain ⟨a, ns, rfl, hS, hlen, q⟩ := h
  unfold t_law
  refine w_seq (w_cells (fun σ => ∃ y1 y2 y3 y4 y5 y6, σ = [some (.ref a), y1, y2, y3, y4, y5, y6]) ⟨none, none, none, none, none, none, rfl⟩ rfl hS hlen ?_ ?_)
  · rintro z σ H1 N ⟨y1, y2, y3, y4, y5, y6, rfl⟩ _ hN
    walk_at "go"
    refine ⟨z, rfl, fun l H2 hl s2 src => ?_⟩
    walk_at "go"
    refine ⟨l, 8, rfl, src, by decide, by decide, fun w h t hs ps H3 k3 hw nhl ntl nht fh0 ft0 lh lt gh gt l56 su => ?_⟩
    have wb : Web H3 h t hs ps := ⟨lh, lt, gh, gt⟩
    obtain ⟨hxs, hh, fh⟩ := id lh
    obtain ⟨txs, ht, ft⟩ := id lt
    have nmp := GTies.nm gh gt
    have fh : FyAll l H3 hxs (hs.map handD) := fz_fy fh fun p hp => Nat.le_trans (nm_len (gh.p hp).1) (by decide)
    have ft : FyAll l H3 txs (ps.map tieD) := fz_fyT ft fun p hp => ⟨Nat.le_trans (nm_len (nmp p hp).1) (by decide), Nat.le_trans (nm_len (nmp p hp).2) (by decide)⟩
    walk_at "go"
    refine ⟨_, rfl, by decide, by decide, for_range (lo := 0) (n := 4) (fun i σ H' => (∃ y5 y6, σ = [some (.ref a), some (.int z), some (.ref l), some (.ref h), some (.ref t), y5, y6]) ∧ Dr l H3 H') ⟨⟨_, _, rfl⟩, Dr.refl k3.src⟩ ?_ ?_⟩
    · rintro i σ H4 hi ⟨⟨y5, y6, rfl⟩, k4⟩
      walk_at "go"
      refine ⟨l, h, t, hxs, txs, hs, ps, rfl, k4.src, nhl, ntl, k4.keep _ _ nhl hh, fh.dr k4, gh, k4.keep _ _ ntl ht, ft.dr k4, gt, l56, su, fun v H5 k5 bad => ?_⟩
      walk_at "go"
      refine ⟨0, v, rfl, bad, fun H6 s6 => ?_⟩
      walk_at "go"
      refine ⟨1, v, rfl, bad.same s6, fun H7 s7 => ?_⟩
      walk_at "go"
      have k45 := k4.trans k5
      exact ⟨⟨_, _, rfl⟩, k45.trans (Dr.same k45.src (s6.trans s7))⟩
    · rintro σ H4 ⟨⟨y5, y6, rfl⟩, k4⟩
      walk_at "go"
      refine w_cons ?_
      walk_at "go"
      refine ⟨by show 2 ≤ sizeLine; decide, fun W hW => ?_⟩
      have sW : Same H4 (upd H4 W (.tup [.ref h, .ref t])) := same_new hW
      have hW1 : (upd H4 W (.tup [.ref h, .ref t])) W = some (.tup [.ref h, .ref t]) := upd_same
      generalize upd H4 W (.tup [.ref h, .ref t]) = H5 at *
      have w5 : Web H5 h t hs ps := ⟨(lh.dr nhl k4).same sW, (lt.dr ntl k4).same sW, gh, gt⟩
      refine w_nil ⟨_, rfl, .inr ⟨W, h, t, hs, ps, rfl, hW1, w5, fun H6 s6 => ?_⟩⟩
      walk_at "go"
      exact hN _ _ ⟨_, _, _, _, _, _, rfl⟩ (((k3.trans k4).same_of s2 hl).trans (sW.trans s6))
  · rintro σ H1 ⟨y1, y2, y3, y4, y5, y6, rfl⟩ _
    walk_at "go"
    exact q _

def top (i : Nat) : Stmt := PySem.Challenge.pw_sumtold_k13_what_is_no_web.main.body.getD i (.Pass ⟨0, 0, 0, 0⟩)
structure Gs (K : PySem.W.Frag) (mg : Str → Option Value) : Prop where
  tt : Gt K
  g_LETTERS : ∃ t, mg "LETTERS" = some (.str ("abcdefghijklmnopqrstuvwxyz" : Str) t)
  g_MOST_LETTERS : ∃ t, mg "MOST_LETTERS" = some (.int 8 t)
  g_MOST_NUMBERS : ∃ t, mg "MOST_NUMBERS" = some (.int 3 t)
  g_FAR : ∃ t, mg "FAR" = some (.int 1000000000000 t)
  g_MOST_HANDS : ∃ t, mg "MOST_HANDS" = some (.int 8 t)
  g_SumError : mg "SumError" = some (.ref (He.ga K "SumError"))
  g_BadWeb : mg "BadWeb" = some (.ref (He.ga K "BadWeb"))
  g_NoDeed : mg "NoDeed" = some (.ref (He.ga K "NoDeed"))
  g_BadBooks : mg "BadBooks" = some (.ref (He.ga K "BadBooks"))
  g_NoNear : mg "NoNear" = some (.ref (He.ga K "NoNear"))
  g_NoText : mg "NoText" = some (.ref (He.ga K "NoText"))
  g_NoRow : mg "NoRow" = some (.ref (He.ga K "NoRow"))
structure Bl (mg : Str → Option Value) : Prop where
  b_ValueError : mg "ValueError" = none
  b_all : mg "all" = none
  b_bool : mg "bool" = none
  b_dict : mg "dict" = none
  b_int : mg "int" = none
  b_isinstance : mg "isinstance" = none
  b_len : mg "len" = none
  b_list : mg "list" = none
  b_range : mg "range" = none
  b_set : mg "set" = none
  b_sorted : mg "sorted" = none
  b_str : mg "str" = none
  b_tuple : mg "tuple" = none
section
variable {P : Program} {w : World} {K : PySem.W.Frag} {mg : Str → Option Value} {base : Heap}
abbrev s_is_int : Stmt := top 14
theorem sc_is_int : FnScope N_is_int ["thing"] (defScope s_is_int) := ⟨rfl, rfl, rfl, by decide +kernel, rfl, by decide +kernel, by decide +kernel⟩
theorem ok_is_int (F : ∃ fd, FnP K "is_int" s_is_int (He.ga K "is_int") fd) (gm : mg "is_int" = some (.ref (He.ga K "is_int"))) (B : Bl mg)  : Has P w K mg base "is_int" 1 ["thing"] spIsInt := by
  obtain ⟨fd, F⟩ := F
  refine ⟨_, fd, gm, F.kp, FunD.bindsN (ps := ["thing"]) F fun _ _ _ _ _ _ us hl => match us, hl with | [_], _ => rfl, F.ok sc_is_int (fun vs H Q E h => p_is_int_len h) (fun cdv A outer s H vs Q E hr h => ⟨t_is_int K, PSs.nox ?_, p_is_int h⟩)⟩
  have hu := hu_of hr
  exact (pss_one (ps_ret (pe_and (pe_callB call_isi (by rfl) B.b_isinstance (by decide +kernel) (pa_cons (pv 0) (pa_cons (pe_bltn (v := .ty "int") (by rfl) B.b_int (by decide +kernel) rfl) pa_nil))) (pe_one (pe_not (pe_callB call_isi (by rfl) B.b_isinstance (by decide +kernel) (pa_cons (pv 0) (pa_cons (pe_bltn (v := .ty "bool") (by rfl) B.b_bool (by decide +kernel) rfl) pa_nil))))))))

abbrev s_is_name : Stmt := top 15
theorem sc_is_name : FnScope N_is_name ["thing"] (defScope s_is_name) := ⟨rfl, rfl, rfl, by decide +kernel, rfl, by decide +kernel, by decide +kernel⟩
theorem ok_is_name (F : ∃ fd, FnP K "is_name" s_is_name (He.ga K "is_name") fd) (gm : mg "is_name" = some (.ref (He.ga K "is_name"))) (B : Bl mg) (G : Gs K mg)  : Has P w K mg base "is_name" 1 ["thing"] spIsName := by
  obtain ⟨fd, F⟩ := F
  refine ⟨_, fd, gm, F.kp, FunD.bindsN (ps := ["thing"]) F fun _ _ _ _ _ _ us hl => match us, hl with | [_], _ => rfl, F.ok sc_is_name (fun vs H Q E h => p_is_name_len h) (fun cdv A outer s H vs Q E hr h => ⟨t_is_name K, PSs.nox ?_, p_is_name h⟩)⟩
  have hu := hu_of hr
  exact (pss_cons (ps_if (PW.pt (pw_or (pt_not (pt_val (pe_callB call_isi (by rfl) B.b_isinstance (by decide +kernel) (pa_cons (pv 0) (pa_cons (pe_bltn (v := .ty "str") (by rfl) B.b_str (by decide +kernel) rfl) pa_nil))))) (pw_or1 (pt_not (pt_chain op_le op_le pe_int (pe_callB call_len_str (by rfl) B.b_len (by decide +kernel) (pa_cons (pv 0) pa_nil)) (pe_globI (by rfl) G.g_MOST_LETTERS)))))) (pss_one (ps_ret pe_bl)) pss_nil)
    (pss_one (ps_ret (pe_callB (cr_all rfl) (by rfl) B.b_all (by decide +kernel) (pa_cons (pe_lc (own := [("sign", 1)]) (g := (gName 1)) (tt := tYes) (te := (tOp rInS (tVar 1) (tC (.str ("abcdefghijklmnopqrstuvwxyz" : Str))))) (wi := (iStr (tVar 0))) rfl sc_is_name.nd (pi_str (pv 0)) (blkOk_by (own := [("sign", 1)]) (N := N_is_name) (sc := defScope s_is_name) (by decide +kernel)) (fun _ _ _ _ _ => (pg_name (i := 1) sc_is_name.nd rfl (Or.inl rfl))) (fun _ _ _ _ _ => pts_nil) (fun _ _ _ _ _ => (pe_cmpR op_inS (pv 1) (pe_globS (by rfl) G.g_LETTERS) rfl))) pa_nil)))))

abbrev s_is_numbers : Stmt := top 16
theorem sc_is_numbers : FnScope N_is_numbers ["thing"] (defScope s_is_numbers) := ⟨rfl, rfl, rfl, by decide +kernel, rfl, by decide +kernel, by decide +kernel⟩
theorem ok_is_numbers (F : ∃ fd, FnP K "is_numbers" s_is_numbers (He.ga K "is_numbers") fd) (gm : mg "is_numbers" = some (.ref (He.ga K "is_numbers"))) (B : Bl mg) (G : Gs K mg) (h_is_int : Has P w K mg base "is_int" 1 ["thing"] spIsInt) : Has P w K mg base "is_numbers" 2 ["thing"] spIsNumbers := by
  obtain ⟨fd, F⟩ := F
  refine ⟨_, fd, gm, F.kp, FunD.bindsN (ps := ["thing"]) F fun _ _ _ _ _ _ us hl => match us, hl with | [_], _ => rfl, F.ok sc_is_numbers (fun vs H Q E h => p_is_numbers_len h) (fun cdv A outer s H vs Q E hr h => ⟨t_is_numbers K, PSs.nox ?_, p_is_numbers h⟩)⟩
  have hu := hu_of hr
  exact (pss_cons (ps_if (PW.pt (pw_or (pt_not (pt_val (pe_callB call_isi (by rfl) B.b_isinstance (by decide +kernel) (pa_cons (pv 0) (pa_cons (pe_bltn (v := .ty "tuple") (by rfl) B.b_tuple (by decide +kernel) rfl) pa_nil))))) (pw_or1 (pt_not (pt_chain op_le op_le pe_int (pe_callB call_len_seq (by rfl) B.b_len (by decide +kernel) (pa_cons (pv 0) pa_nil)) (pe_globI (by rfl) G.g_MOST_NUMBERS)))))) (pss_one (ps_ret pe_bl)) pss_nil)
    (pss_one (ps_ret (pe_callB (cr_all rfl) (by rfl) B.b_all (by decide +kernel) (pa_cons (pe_lc (own := [("one", 1)]) (g := (gName 1)) (tt := tYes) (te := (tAndV (tCall spIsInt [] E0 (tCons (tVar 1) tNil)) (tChain rLeI rLeI (tOp rSubI (tC (.int 0)) (tC (.int 1000000000000))) (tVar 1) (tC (.int 1000000000000))))) (wi := (iTup K (tVar 0))) rfl sc_is_numbers.nd (pi_tup (pv 0)) (blkOk_by (own := [("one", 1)]) (N := N_is_numbers) (sc := defScope s_is_numbers) (by decide +kernel)) (fun _ _ _ _ _ => (pg_name (i := 1) sc_is_numbers.nd rfl (Or.inl rfl))) (fun _ _ _ _ _ => pts_nil) (fun _ _ _ _ _ => (pe_and (pe_has h_is_int (hr.mono (by decide)) (by rfl) (pa_cons (pv 1) pa_nil)) (pe_one (pe_chain op_le op_le (pe_op op_sub pe_int (pe_globI (by rfl) G.g_FAR)) (pv 1) (pe_globI (by rfl) G.g_FAR)))))) pa_nil)))))

abbrev s_are_hands : Stmt := top 17
theorem sc_are_hands : FnScope N_are_hands ["things"] (defScope s_are_hands) := ⟨rfl, rfl, rfl, by decide +kernel, rfl, by decide +kernel, by decide +kernel⟩
theorem ok_are_hands (F : ∃ fd, FnP K "are_hands" s_are_hands (He.ga K "are_hands") fd) (gm : mg "are_hands" = some (.ref (He.ga K "are_hands"))) (B : Bl mg) (G : Gs K mg) (h_is_numbers : Has P w K mg base "is_numbers" 2 ["thing"] spIsNumbers) (h_is_name : Has P w K mg base "is_name" 1 ["thing"] spIsName) : Has P w K mg base "are_hands" 3 ["things"] spAreHands := by
  obtain ⟨fd, F⟩ := F
  refine ⟨_, fd, gm, F.kp, FunD.bindsN (ps := ["things"]) F fun _ _ _ _ _ _ us hl => match us, hl with | [_], _ => rfl, F.ok sc_are_hands (fun vs H Q E h => p_are_hands_len h) (fun cdv A outer s H vs Q E hr h => ⟨t_are_hands K, PSs.nox ?_, p_are_hands h⟩)⟩
  have hu := hu_of hr
  exact (pss_cons (ps_if (PW.pt (pw_or (pt_not (pt_val (pe_callB call_isi (by rfl) B.b_isinstance (by decide +kernel) (pa_cons (pv 0) (pa_cons (pe_bltn (v := .ty "list") (by rfl) B.b_list (by decide +kernel) rfl) pa_nil))))) (pw_or1 (pt_not (pt_chain op_le op_le pe_int (pe_callB call_len_seq (by rfl) B.b_len (by decide +kernel) (pa_cons (pv 0) pa_nil)) (pe_globI (by rfl) G.g_MOST_HANDS)))))) (pss_one (ps_ret pe_bl)) pss_nil)
    (pss_cons (ps_for PassesOwn.never rfl (pi_list (pv 0)) (pg_name (i := 1) sc_are_hands.nd rfl (Or.inl rfl)) (pss_one (ps_if (PW.pt (pw_or (pt_not (pt_val (pe_callB call_isi (by rfl) B.b_isinstance (by decide +kernel) (pa_cons (pv 1) (pa_cons (pe_bltn (v := .ty "tuple") (by rfl) B.b_tuple (by decide +kernel) rfl) pa_nil))))) (pw_or (pt_cmpR op_ne (pe_callB call_len_seq (by rfl) B.b_len (by decide +kernel) (pa_cons (pv 1) pa_nil)) pe_int (nomark _)) (pw_or (pt_not (pt_val (pe_has h_is_name (hr.mono (by decide)) (by rfl) (pa_cons (pe_ix ix_tup (pv 1) pe_int (fun _ _ => rfl)) pa_nil)))) (pw_or1 (pt_not (pt_val (pe_has h_is_numbers (hr.mono (by decide)) (by rfl) (pa_cons (pe_ix ix_tup (pv 1) pe_int (fun _ _ => rfl)) pa_nil))))))))) (pss_one (ps_ret pe_bl)) pss_nil)))
    (pss_cons (ps_if (pt_cmpR op_gt (pe_lenSetK (by rfl) B.b_len (by rfl) B.b_set (pe_lc (own := [("name", 2), ("numbers", 3)]) (g := (gTup K 2 (gCons (gName 2) (gCons (gName 3) gNil)))) (tt := tYes) (te := (tCB (Evl.rLenS K) (tCons (tVar 3) tNil))) (wi := (iList K (tVar 0))) rfl sc_are_hands.nd (pi_list (pv 0)) (blkOk_by (own := [("name", 2), ("numbers", 3)]) (N := N_are_hands) (sc := defScope s_are_hands) (by decide +kernel)) (fun _ _ _ _ _ => (pg_tup rfl (pgs_cons (pg_name (i := 2) sc_are_hands.nd rfl (Or.inl rfl)) (pgs_cons (pg_name (i := 3) sc_are_hands.nd rfl (Or.inl rfl)) pgs_nil)))) (fun _ _ _ _ _ => pts_nil) (fun _ _ _ _ _ => (pe_callB call_len_seq (by rfl) B.b_len (by decide +kernel) (pa_cons (pv 3) pa_nil))))) pe_int (nomark _)) (pss_one (ps_ret pe_bl)) pss_nil)
    (pss_one (ps_ret (pe_cmpR op_eq (pe_lenSetK (by rfl) B.b_len (by rfl) B.b_set (pe_lc (own := [("name", 2), ("numbers", 3)]) (g := (gTup K 2 (gCons (gName 2) (gCons (gName 3) gNil)))) (tt := tYes) (te := (tVar 2)) (wi := (iList K (tVar 0))) rfl sc_are_hands.nd (pi_list (pv 0)) (blkOk_by (own := [("name", 2), ("numbers", 3)]) (N := N_are_hands) (sc := defScope s_are_hands) (by decide +kernel)) (fun _ _ _ _ _ => (pg_tup rfl (pgs_cons (pg_name (i := 2) sc_are_hands.nd rfl (Or.inl rfl)) (pgs_cons (pg_name (i := 3) sc_are_hands.nd rfl (Or.inl rfl)) pgs_nil)))) (fun _ _ _ _ _ => pts_nil) (fun _ _ _ _ _ => (pv 2)))) (pe_callB call_len_seq (by rfl) B.b_len (by decide +kernel) (pa_cons (pv 0) pa_nil)) (nomark _)))))))

abbrev s_is_tie : Stmt := top 18
theorem sc_is_tie : FnScope N_is_tie ["thing", "names"] (defScope s_is_tie) := ⟨rfl, rfl, rfl, by decide +kernel, rfl, by decide +kernel, by decide +kernel⟩
theorem ok_is_tie (F : ∃ fd, FnP K "is_tie" s_is_tie (He.ga K "is_tie") fd) (gm : mg "is_tie" = some (.ref (He.ga K "is_tie"))) (B : Bl mg) (h_is_name : Has P w K mg base "is_name" 1 ["thing"] spIsName) : Has P w K mg base "is_tie" 2 ["thing", "names"] spIsTie := by
  obtain ⟨fd, F⟩ := F
  refine ⟨_, fd, gm, F.kp, FunD.bindsN (ps := ["thing", "names"]) F fun _ _ _ _ _ _ us hl => match us, hl with | [_, _], _ => rfl, F.ok sc_is_tie (fun vs H Q E h => p_is_tie_len h) (fun cdv A outer s H vs Q E hr h => ⟨t_is_tie K, PSs.nox ?_, p_is_tie h⟩)⟩
  have hu := hu_of hr
  exact (pss_cons (ps_if (PW.pt (pw_or (pt_not (pt_val (pe_callB call_isi (by rfl) B.b_isinstance (by decide +kernel) (pa_cons (pv 0) (pa_cons (pe_bltn (v := .ty "tuple") (by rfl) B.b_tuple (by decide +kernel) rfl) pa_nil))))) (pw_or (pt_cmpR op_ne (pe_callB call_len_seq (by rfl) B.b_len (by decide +kernel) (pa_cons (pv 0) pa_nil)) pe_int (nomark _)) (pw_or (pt_not (pt_val (pe_has h_is_name (hr.mono (by decide)) (by rfl) (pa_cons (pe_ix ix_tup (pv 0) pe_int (fun _ _ => rfl)) pa_nil)))) (pw_or1 (pt_not (pt_val (pe_has h_is_name (hr.mono (by decide)) (by rfl) (pa_cons (pe_ix ix_tup (pv 0) pe_int (fun _ _ => rfl)) pa_nil))))))))) (pss_one (ps_ret pe_bl)) pss_nil)
    (pss_one (ps_ret (pe_and (pe_cmpR op_ne (pe_ix ix_tup (pv 0) pe_int (fun _ _ => rfl)) (pe_ix ix_tup (pv 0) pe_int (fun _ _ => rfl)) (nomark _)) (pe_and (pe_cmpR op_in_seq (pe_ix ix_tup (pv 0) pe_int (fun _ _ => rfl)) (pv 1) (by rfl)) (pe_one (pe_cmpR op_in_seq (pe_ix ix_tup (pv 0) pe_int (fun _ _ => rfl)) (pv 1) (by rfl))))))))

abbrev s_are_ties : Stmt := top 19
theorem sc_are_ties : FnScope N_are_ties ["things", "names"] (defScope s_are_ties) := ⟨rfl, rfl, rfl, by decide +kernel, rfl, by decide +kernel, by decide +kernel⟩
theorem ok_are_ties (F : ∃ fd, FnP K "are_ties" s_are_ties (He.ga K "are_ties") fd) (gm : mg "are_ties" = some (.ref (He.ga K "are_ties"))) (B : Bl mg) (h_is_tie : Has P w K mg base "is_tie" 2 ["thing", "names"] spIsTie) : Has P w K mg base "are_ties" 3 ["things", "names"] spAreTies := by
  obtain ⟨fd, F⟩ := F
  refine ⟨_, fd, gm, F.kp, FunD.bindsN (ps := ["things", "names"]) F fun _ _ _ _ _ _ us hl => match us, hl with | [_, _], _ => rfl, F.ok sc_are_ties (fun vs H Q E h => p_are_ties_len h) (fun cdv A outer s H vs Q E hr h => ⟨t_are_ties K, PSs.nox ?_, p_are_ties h⟩)⟩
  have hu := hu_of hr
  exact (pss_cons (ps_if (PW.pt (pw_or (pt_not (pt_val (pe_callB call_isi (by rfl) B.b_isinstance (by decide +kernel) (pa_cons (pv 0) (pa_cons (pe_bltn (v := .ty "list") (by rfl) B.b_list (by decide +kernel) rfl) pa_nil))))) (pw_or1 (pt_not (pt_val (pe_callB (cr_all rfl) (by rfl) B.b_all (by decide +kernel) (pa_cons (pe_lc (own := [("one", 2)]) (g := (gName 2)) (tt := tYes) (te := (tCall spIsTie [] E0 (tCons (tVar 2) (tCons (tVar 1) tNil)))) (wi := (iList K (tVar 0))) rfl sc_are_ties.nd (pi_list (pv 0)) (blkOk_by (own := [("one", 2)]) (N := N_are_ties) (sc := defScope s_are_ties) (by decide +kernel)) (fun _ _ _ _ _ => (pg_name (i := 2) sc_are_ties.nd rfl (Or.inl rfl))) (fun _ _ _ _ _ => pts_nil) (fun _ _ _ _ _ => (pe_has h_is_tie (hr.mono (by decide)) (by rfl) (pa_cons (pv 2) (pa_cons (pv 1) pa_nil))))) pa_nil))))))) (pss_one (ps_ret pe_bl)) pss_nil)
    (pss_one (ps_ret (pe_cmpR op_eq (pe_lenSetT hr.units (by rfl) B.b_len (by rfl) B.b_set (pe_lc (own := [("one", 2)]) (g := (gName 2)) (tt := tYes) (te := (tCB (rTupOf K) (tCons (tCB (rSortedTS K) (tCons (tVar 2) tNil)) tNil))) (wi := (iList K (tVar 0))) rfl sc_are_ties.nd (pi_list (pv 0)) (blkOk_by (own := [("one", 2)]) (N := N_are_ties) (sc := defScope s_are_ties) (by decide +kernel)) (fun _ _ _ _ _ => (pg_name (i := 2) sc_are_ties.nd rfl (Or.inl rfl))) (fun _ _ _ _ _ => pts_nil) (fun _ _ _ _ _ => (pe_callTy call_tuple_of (by rfl) B.b_tuple (by decide +kernel) (pa_cons (pe_callB cr_sortedTS (by rfl) B.b_sorted (by decide +kernel) (pa_cons (pv 2) pa_nil)) pa_nil))))) (pe_callB call_len_seq (by rfl) B.b_len (by decide +kernel) (pa_cons (pv 0) pa_nil)) (nomark _)))))

abbrev s_check_web : Stmt := top 20
theorem sc_check_web : FnScope N_check_web ["web"] (defScope s_check_web) := ⟨rfl, rfl, rfl, by decide +kernel, rfl, by decide +kernel, by decide +kernel⟩
theorem ok_check_web (F : ∃ fd, FnP K "check_web" s_check_web (He.ga K "check_web") fd) (gm : mg "check_web" = some (.ref (He.ga K "check_web"))) (B : Bl mg) (G : Gs K mg) (h_are_ties : Has P w K mg base "are_ties" 3 ["things", "names"] spAreTies) (h_are_hands : Has P w K mg base "are_hands" 3 ["things"] spAreHands) : Go.HasX P w K mg base "check_web" 4 ["web"] (spCheckWeb K) := by
  obtain ⟨fd, F⟩ := F
  refine ⟨_, fd, gm, F.kp, FunD.bindsN (ps := ["web"]) F fun _ _ _ _ _ _ us hl => match us, hl with | [_], _ => rfl, F.ok sc_check_web (fun vs H Q E h => p_check_web_len h) (fun cdv A outer s H vs Q E hr h => ⟨t_check_web K E, ?_, p_check_web G.tt h⟩)⟩
  have hu := hu_of hr
  exact (pss_cons (ps_if (PW.pt (pw_or (pt_not (pt_val (pe_callB call_isi (by rfl) B.b_isinstance (by decide +kernel) (pa_cons (pv 0) (pa_cons (pe_bltn (v := .ty "tuple") (by rfl) B.b_tuple (by decide +kernel) rfl) pa_nil))))) (pw_or (pt_cmpR op_ne (pe_callB call_len_seq (by rfl) B.b_len (by decide +kernel) (pa_cons (pv 0) pa_nil)) pe_int (nomark _)) (pw_or1 (pt_not (pt_val (pe_has h_are_hands (hr.mono (by decide)) (by rfl) (pa_cons (pe_ix ix_tup (pv 0) pe_int (fun _ _ => rfl)) pa_nil)))))))) (pss_one (Go.ps_raiseOwn (E := E) rfl (takes_of rfl rfl rfl rfl) G.tt.k_BadWeb G.g_BadWeb (by rfl))) pss_nil)
    (pss_one (ps_if (pt_not (pt_val (pe_has h_are_ties (hr.mono (by decide)) (by rfl) (pa_cons (pe_ix ix_tup (pv 0) pe_int (fun _ _ => rfl)) (pa_cons (pe_lc (own := [("name", 1), ("numbers", 2)]) (g := (gTup K 2 (gCons (gName 1) (gCons (gName 2) gNil)))) (tt := tYes) (te := (tVar 1)) (wi := (iList K (tOp (rIxT K) (tVar 0) (tC (.int 0))))) rfl sc_check_web.nd (pi_list (pe_ix ix_tup (pv 0) pe_int (fun _ _ => rfl))) (blkOk_by (own := [("name", 1), ("numbers", 2)]) (N := N_check_web) (sc := defScope s_check_web) (by decide +kernel)) (fun _ _ _ _ _ => (pg_tup rfl (pgs_cons (pg_name (i := 1) sc_check_web.nd rfl (Or.inl rfl)) (pgs_cons (pg_name (i := 2) sc_check_web.nd rfl (Or.inl rfl)) pgs_nil)))) (fun _ _ _ _ _ => pts_nil) (fun _ _ _ _ _ => (pv 1))) pa_nil))))) (pss_one (Go.ps_raiseOwn (E := E) rfl (takes_of rfl rfl rfl rfl) G.tt.k_BadWeb G.g_BadWeb (by rfl))) pss_nil)))

abbrev s_is_whole : Stmt := top 21
theorem sc_is_whole : FnScope N_is_whole ["web"] (defScope s_is_whole) := ⟨rfl, rfl, rfl, by decide +kernel, rfl, by decide +kernel, by decide +kernel⟩
theorem ok_is_whole (F : ∃ fd, FnP K "is_whole" s_is_whole (He.ga K "is_whole") fd) (gm : mg "is_whole" = some (.ref (He.ga K "is_whole"))) (B : Bl mg) (h_check_web : Go.HasX P w K mg base "check_web" 4 ["web"] (spCheckWeb K)) : Go.HasX P w K mg base "is_whole" 5 ["web"] (spIsWhole K) := by
  obtain ⟨fd, F⟩ := F
  refine ⟨_, fd, gm, F.kp, FunD.bindsN (ps := ["web"]) F fun _ _ _ _ _ _ us hl => match us, hl with | [_], _ => rfl, F.ok sc_is_whole (fun vs H Q E h => p_is_whole_len h) (fun cdv A outer s H vs Q E hr h => ⟨t_is_whole K E, ?_, p_is_whole h⟩)⟩
  have hu := hu_of hr
  exact (pss_cons (ps_expr (Go.pe_hasX (W := (fun cls d _ H => E cls d H)) h_check_web (hr.mono (by decide)) (by rfl) (takes_of rfl rfl rfl rfl) (pa_cons (pv 0) pa_nil))) (pss_cons Go.ps_never (pss_cons Go.ps_never (pss_cons Go.ps_never (pss_one Go.ps_never)))))

abbrev s_l_cell_at : Stmt := top 23
theorem sc_l_cell_at : FnScope N_l_cell_at ["_law_script", "_law_k"] (defScope s_l_cell_at) := ⟨rfl, rfl, rfl, by decide +kernel, rfl, by decide +kernel, by decide +kernel⟩
theorem ok_l_cell_at (F : ∃ fd, FnP K "_law_cell_at" s_l_cell_at (He.ga K "_law_cell_at") fd) (gm : mg "_law_cell_at" = some (.ref (He.ga K "_law_cell_at"))) (B : Bl mg)  : Has P w K mg base "_law_cell_at" 1 ["_law_script", "_law_k"] (spCellAt K) := by
  obtain ⟨fd, F⟩ := F
  refine ⟨_, fd, gm, F.kp, FunD.bindsN (ps := ["_law_script", "_law_k"]) F fun _ _ _ _ _ _ us hl => match us, hl with | [_, _], _ => rfl, F.ok sc_l_cell_at (fun vs H Q E h => p_l_cell_at_len h) (fun cdv A outer s H vs Q E hr h => ⟨t_l_cell_at K, PSs.nox ?_, p_l_cell_at h⟩)⟩
  have hu := hu_of hr
  exact (pss_cons (ps_if (pt_cmpR op_lt (pv 1) (pe_callB call_len_seq (by rfl) B.b_len (by decide +kernel) (pa_cons (pv 0) pa_nil)) (nomark _)) (pss_one (ps_ret (pe_ix ix_list (pv 0) (pv 1) (fun _ _ => rfl)))) pss_nil)
    (pss_one (ps_ret pe_int)))

abbrev s_l_mixed : Stmt := top 24
theorem sc_l_mixed : FnScope N_l_mixed ["_law_cell", "_law_k"] (defScope s_l_mixed) := ⟨rfl, rfl, rfl, by decide +kernel, rfl, by decide +kernel, by decide +kernel⟩
theorem ok_l_mixed (F : ∃ fd, FnP K "_law_mixed" s_l_mixed (He.ga K "_law_mixed") fd) (gm : mg "_law_mixed" = some (.ref (He.ga K "_law_mixed"))) (B : Bl mg)  : Has P w K mg base "_law_mixed" 1 ["_law_cell", "_law_k"] spMixed := by
  obtain ⟨fd, F⟩ := F
  refine ⟨_, fd, gm, F.kp, FunD.bindsN (ps := ["_law_cell", "_law_k"]) F fun _ _ _ _ _ _ us hl => match us, hl with | [_, _], _ => rfl, F.ok sc_l_mixed (fun vs H Q E h => p_l_mixed_len h) (fun cdv A outer s H vs Q E hr h => ⟨t_l_mixed K, PSs.nox ?_, p_l_mixed h⟩)⟩
  have hu := hu_of hr
  exact (pss_cons (ps_set (i := 2) sc_l_mixed.nd rfl (Or.inl rfl) (pe_op op_mod (pe_op op_mul (pe_op op_add (pe_op op_add (pe_op op_mod (pv 0) pe_int) (pe_op op_mul pe_int (pv 1))) pe_int) pe_int) pe_int))
    (pss_cons (ps_set (i := 2) sc_l_mixed.nd rfl (Or.inl rfl) (pe_op op_mod (pe_op op_mulX (pv 2) (pe_op op_add (pe_op op_fdivW (pv 2) pe_int) pe_int)) pe_int))
    (pss_one (ps_ret (pe_op op_mod (pe_op op_mulX (pv 2) (pe_op op_add (pe_op op_fdivW (pv 2) pe_int) pe_int)) pe_int)))))

abbrev s_l_well : Stmt := top 25
theorem sc_l_well : FnScope N_l_well ["_law_cell"] (defScope s_l_well) := ⟨rfl, rfl, rfl, by decide +kernel, rfl, by decide +kernel, by decide +kernel⟩
theorem ok_l_well (F : ∃ fd, FnP K "_law_well" s_l_well (He.ga K "_law_well") fd) (gm : mg "_law_well" = some (.ref (He.ga K "_law_well"))) (B : Bl mg)  : Has P w K mg base "_law_well" 1 ["_law_cell"] spBegin := by
  obtain ⟨fd, F⟩ := F
  refine ⟨_, fd, gm, F.kp, FunD.bindsN (ps := ["_law_cell"]) F fun _ _ _ _ _ _ us hl => match us, hl with | [_], _ => rfl, F.ok sc_l_well (fun vs H Q E h => p_l_well_len h) (fun cdv A outer s H vs Q E hr h => ⟨t_l_well K, PSs.nox ?_, p_l_well h⟩)⟩
  have hu := hu_of hr
  exact (pss_one (ps_ret (pe_lst (pa_cons (pe_ix ix_list (pe_lst (pa_cons pe_int (pa_cons (pv 0) pa_nil))) (pe_callTy call_int1 (by rfl) B.b_int (by decide +kernel) (pa_cons (pe_cmpR op_ge (pv 0) (pe_op op_pow pe_int pe_int) (nomark _)) pa_nil)) (fun _ _ => rfl)) (pa_cons (pv 0) (pa_cons pe_int pa_nil))))))

abbrev s_l_draw : Stmt := top 26
theorem sc_l_draw : FnScope N_l_draw ["_law_well_here", "_law_many"] (defScope s_l_draw) := ⟨rfl, rfl, rfl, by decide +kernel, rfl, by decide +kernel, by decide +kernel⟩
theorem ok_l_draw (F : ∃ fd, FnP K "_law_draw" s_l_draw (He.ga K "_law_draw") fd) (gm : mg "_law_draw" = some (.ref (He.ga K "_law_draw"))) (B : Bl mg) (h_l_mixed : Has P w K mg base "_law_mixed" 1 ["_law_cell", "_law_k"] spMixed) : Has P w K mg base "_law_draw" 2 ["_law_well_here", "_law_many"] spDraw := by
  obtain ⟨fd, F⟩ := F
  refine ⟨_, fd, gm, F.kp, FunD.bindsN (ps := ["_law_well_here", "_law_many"]) F fun _ _ _ _ _ _ us hl => match us, hl with | [_, _], _ => rfl, F.ok sc_l_draw (fun vs H Q E h => p_l_draw_len h) (fun cdv A outer s H vs Q E hr h => ⟨t_l_draw K, PSs.nox ?_, p_l_draw h⟩)⟩
  have hu := hu_of hr
  exact (pss_cons (ps_if (pt_cmpR op_gt (pe_ix ix_list (pv 0) pe_int (fun _ _ => rfl)) pe_int (nomark _)) (pss_cons (ps_set (i := 2) sc_l_draw.nd rfl (Or.inl rfl) (pe_op op_mod (pe_ix ix_list (pv 0) pe_int (fun _ _ => rfl)) (pv 1)))
      (pss_cons (ps_asg (pe_op op_fdivW (pe_ix ix_list (pv 0) pe_int (fun _ _ => rfl)) (pv 1)) (pg_sub (pv 0) pe_int set_list))
      (pss_one (ps_ret (pv 2))))) pss_nil)
    (pss_cons (ps_asg (pe_op op_add (pe_ix ix_list (pv 0) pe_int (fun _ _ => rfl)) pe_int) (pg_sub (pv 0) pe_int set_list))
    (pss_one (ps_ret (pe_op op_mod (pe_has h_l_mixed (hr.mono (by decide)) (by rfl) (pa_cons (pe_ix ix_list (pv 0) pe_int (fun _ _ => rfl)) (pa_cons (pe_ix ix_list (pv 0) pe_int (fun _ _ => rfl)) pa_nil))) (pv 1))))))

abbrev s_l_pick : Stmt := top 27
theorem sc_l_pick : FnScope N_l_pick ["_law_well_here", "_law_some"] (defScope s_l_pick) := ⟨rfl, rfl, rfl, by decide +kernel, rfl, by decide +kernel, by decide +kernel⟩
theorem ok_l_pick (F : ∃ fd, FnP K "_law_pick" s_l_pick (He.ga K "_law_pick") fd) (gm : mg "_law_pick" = some (.ref (He.ga K "_law_pick"))) (B : Bl mg) (h_l_draw : Has P w K mg base "_law_draw" 2 ["_law_well_here", "_law_many"] spDraw) : Has P w K mg base "_law_pick" 3 ["_law_well_here", "_law_some"] spPick := by
  obtain ⟨fd, F⟩ := F
  refine ⟨_, fd, gm, F.kp, FunD.bindsN (ps := ["_law_well_here", "_law_some"]) F fun _ _ _ _ _ _ us hl => match us, hl with | [_, _], _ => rfl, F.ok sc_l_pick (fun vs H Q E h => p_l_pick_len h) (fun cdv A outer s H vs Q E hr h => ⟨t_l_pick K, PSs.nox ?_, p_l_pick h⟩)⟩
  have hu := hu_of hr
  exact (pss_one (ps_ret (pe_ix ix_list (pv 1) (pe_has h_l_draw (hr.mono (by decide)) (by rfl) (pa_cons (pv 0) (pa_cons (pe_callB call_len_seq (by rfl) B.b_len (by decide +kernel) (pa_cons (pv 1) pa_nil)) pa_nil))) (fun _ _ => rfl))))

abbrev s_l_names : Stmt := top 28
theorem sc_l_names : FnScope N_l_names ["_law_well_here", "_law_many"] (defScope s_l_names) := ⟨rfl, rfl, rfl, by decide +kernel, rfl, by decide +kernel, by decide +kernel⟩
theorem ok_l_names (F : ∃ fd, FnP K "_law_names" s_l_names (He.ga K "_law_names") fd) (gm : mg "_law_names" = some (.ref (He.ga K "_law_names"))) (B : Bl mg) (h_l_draw : Has P w K mg base "_law_draw" 2 ["_law_well_here", "_law_many"] spDraw) : Has P w K mg base "_law_names" 3 ["_law_well_here", "_law_many"] spNames := by
  obtain ⟨fd, F⟩ := F
  refine ⟨_, fd, gm, F.kp, FunD.bindsN (ps := ["_law_well_here", "_law_many"]) F fun _ _ _ _ _ _ us hl => match us, hl with | [_, _], _ => rfl, F.ok sc_l_names (fun vs H Q E h => p_l_names_len h) (fun cdv A outer s H vs Q E hr h => ⟨t_l_names K, PSs.nox ?_, p_l_names h⟩)⟩
  have hu := hu_of hr
  exact (pss_cons (ps_set (i := 2) sc_l_names.nd rfl (Or.inr rfl) pe_str)
    (pss_cons (ps_set (i := 3) sc_l_names.nd rfl (Or.inr rfl) (pe_split pe_str pe_str))
    (pss_cons (ps_set (i := 4) sc_l_names.nd rfl (Or.inr rfl) (pe_has h_l_draw (hr.mono (by decide)) (by rfl) (pa_cons (pv 0) (pa_cons pe_int pa_nil))))
    (pss_cons (ps_set (i := 5) sc_l_names.nd rfl (Or.inl rfl) (pe_has h_l_draw (hr.mono (by decide)) (by rfl) (pa_cons (pv 0) (pa_cons pe_int pa_nil))))
    (pss_cons (ps_if (pt_cmpR op_eq (pv 5) pe_int (nomark _)) (pss_one (ps_ret (pe_lc (own := [("_law_k", 8)]) (g := (gName 8)) (tt := tYes) (te := (tOp (rIxL K) (tVar 3) (tOp rModI (tOp rAddI (tVar 4) (tVar 8)) (tC (.int 13))))) (wi := (iRng1 (tCons (tVar 1) tNil))) rfl sc_l_names.nd (pi_range1 (by rfl) B.b_range (pa_cons (pv 1) pa_nil)) (blkOk_by (own := [("_law_k", 8)]) (N := N_l_names) (sc := defScope s_l_names) (by decide +kernel)) (fun _ _ _ _ _ => (pg_name (i := 8) sc_l_names.nd rfl (Or.inl rfl))) (fun _ _ _ _ _ => pts_nil) (fun _ _ _ _ _ => (pe_ix ix_list (pv 3) (pe_op op_mod (pe_op op_add (pv 4) (pv 8)) pe_int) (fun _ _ => rfl)))))) pss_nil)
    (pss_cons (ps_if (pt_cmpR op_eq (pv 5) pe_int (nomark _)) (pss_one (ps_ret (pe_lc (own := [("_law_k", 8)]) (g := (gName 8)) (tt := tYes) (te := (tOp rRepStr (tOp rIxS (tVar 2) (tVar 4)) (tOp rAddI (tVar 8) (tC (.int 1))))) (wi := (iRng1 (tCons (tVar 1) tNil))) rfl sc_l_names.nd (pi_range1 (by rfl) B.b_range (pa_cons (pv 1) pa_nil)) (blkOk_by (own := [("_law_k", 8)]) (N := N_l_names) (sc := defScope s_l_names) (by decide +kernel)) (fun _ _ _ _ _ => (pg_name (i := 8) sc_l_names.nd rfl (Or.inl rfl))) (fun _ _ _ _ _ => pts_nil) (fun _ _ _ _ _ => (pe_op op_rep_str (pe_ix ix_str (pv 2) (pv 4) (fun _ _ => rfl)) (pe_op op_add (pv 8) pe_int)))))) pss_nil)
    (pss_cons (ps_set (i := 6) sc_l_names.nd rfl (Or.inr rfl) (pe_join pe_str (pe_lc (own := [("_law_k", 8)]) (g := (gName 8)) (tt := tYes) (te := (tOp rIxS (tVar 2) (tCall spDraw [] E0 (tCons (tVar 0) (tCons (tC (.int 26)) tNil))))) (wi := (iRng1 (tCons (tCall spDraw [] E0 (tCons (tVar 0) (tCons (tC (.int 8)) tNil))) tNil))) rfl sc_l_names.nd (pi_range1 (by rfl) B.b_range (pa_cons (pe_has h_l_draw (hr.mono (by decide)) (by rfl) (pa_cons (pv 0) (pa_cons pe_int pa_nil))) pa_nil)) (blkOk_by (own := [("_law_k", 8)]) (N := N_l_names) (sc := defScope s_l_names) (by decide +kernel)) (fun _ _ _ _ _ => (pg_name (i := 8) sc_l_names.nd rfl (Or.inl rfl))) (fun _ _ _ _ _ => pts_nil) (fun _ _ _ _ _ => (pe_ix ix_str (pv 2) (pe_has h_l_draw (hr.mono (by decide)) (by rfl) (pa_cons (pv 0) (pa_cons pe_int pa_nil))) (fun _ _ => rfl))))))
    (pss_cons (ps_set (i := 7) sc_l_names.nd rfl (Or.inr rfl) (pe_has h_l_draw (hr.mono (by decide)) (by rfl) (pa_cons (pv 0) (pa_cons (pe_op op_add (pe_callB call_len_str (by rfl) B.b_len (by decide +kernel) (pa_cons (pv 6) pa_nil)) pe_int) pa_nil))))
    (pss_one (ps_ret (pe_lc (own := [("_law_k", 8)]) (g := (gName 8)) (tt := tYes) (te := (tOp rAddStr (tOp rAddStr (tSl rSlS (tVar 6) tNoPart (tPart (tVar 7))) (tOp rIxS (tVar 2) (tOp rModI (tOp rAddI (tVar 4) (tOp rMulI (tC (.int 3)) (tVar 8))) (tC (.int 26))))) (tSl rSlS (tVar 6) (tPart (tVar 7)) tNoPart))) (wi := (iRng1 (tCons (tVar 1) tNil))) rfl sc_l_names.nd (pi_range1 (by rfl) B.b_range (pa_cons (pv 1) pa_nil)) (blkOk_by (own := [("_law_k", 8)]) (N := N_l_names) (sc := defScope s_l_names) (by decide +kernel)) (fun _ _ _ _ _ => (pg_name (i := 8) sc_l_names.nd rfl (Or.inl rfl))) (fun _ _ _ _ _ => pts_nil) (fun _ _ _ _ _ => (pe_op op_add_str (pe_op op_add_str (pe_slice sl_str (pv 6) po_none (po_some (pv 7))) (pe_ix ix_str (pv 2) (pe_op op_mod (pe_op op_add (pv 4) (pe_op op_mul pe_int (pv 8))) pe_int) (fun _ _ => rfl))) (pe_slice sl_str (pv 6) (po_some (pv 7)) po_none))))))))))))))

abbrev s_l_numbers : Stmt := top 29
theorem sc_l_numbers : FnScope N_l_numbers ["_law_well_here", "_law_size"] (defScope s_l_numbers) := ⟨rfl, rfl, rfl, by decide +kernel, rfl, by decide +kernel, by decide +kernel⟩
theorem ok_l_numbers (F : ∃ fd, FnP K "_law_numbers" s_l_numbers (He.ga K "_law_numbers") fd) (gm : mg "_law_numbers" = some (.ref (He.ga K "_law_numbers"))) (B : Bl mg) (h_l_draw : Has P w K mg base "_law_draw" 2 ["_law_well_here", "_law_many"] spDraw) : Has P w K mg base "_law_numbers" 3 ["_law_well_here", "_law_size"] spNumbers := by
  obtain ⟨fd, F⟩ := F
  refine ⟨_, fd, gm, F.kp, FunD.bindsN (ps := ["_law_well_here", "_law_size"]) F fun _ _ _ _ _ _ us hl => match us, hl with | [_, _], _ => rfl, F.ok sc_l_numbers (fun vs H Q E h => p_l_numbers_len h) (fun cdv A outer s H vs Q E hr h => ⟨t_l_numbers K, PSs.nox ?_, p_l_numbers h⟩)⟩
  have hu := hu_of hr
  exact (pss_cons (ps_set (i := 2) sc_l_numbers.nd rfl (Or.inl rfl) (pe_lst pa_nil))
    (pss_cons (ps_for PassesOwn.never rfl (pi_range1 (by rfl) B.b_range (pa_cons (pv 1) pa_nil)) (pg_name (i := 3) sc_l_numbers.nd rfl (Or.inl rfl)) (pss_cons (ps_set (i := 4) sc_l_numbers.nd rfl (Or.inl rfl) (pe_lst (pa_cons pe_int (pa_cons (pe_op op_sub (pe_has h_l_draw (hr.mono (by decide)) (by rfl) (pa_cons (pv 0) (pa_cons pe_int pa_nil))) pe_int) (pa_cons (pe_op op_pow pe_int pe_int) (pa_cons (pe_op op_sub pe_int (pe_op op_pow pe_int pe_int)) pa_nil))))))
      (pss_cons (ps_set (i := 4) sc_l_numbers.nd rfl (Or.inl rfl) (pe_op op_cat (pv 4) (pe_lst (pa_cons (pe_op op_sub (pe_has h_l_draw (hr.mono (by decide)) (by rfl) (pa_cons (pv 0) (pa_cons (pe_op op_add (pe_op op_mul pe_int (pe_op op_pow pe_int pe_int)) pe_int) pa_nil))) (pe_op op_pow pe_int pe_int)) pa_nil))))
      (pss_one (ps_expr (pe_bm PySem.F.plainAttrs_list PySem.F.slot_list_append PySem.F.type_list_append mt_append (pv 2) (pa_cons (pe_ix ix_list (pv 4) (pe_has h_l_draw (hr.mono (by decide)) (by rfl) (pa_cons (pv 0) (pa_cons pe_int pa_nil))) (fun _ _ => rfl)) pa_nil)))))))
    (pss_one (ps_ret (pe_callTy call_tuple_of (by rfl) B.b_tuple (by decide +kernel) (pa_cons (pv 2) pa_nil))))))

abbrev s_l_ties : Stmt := top 30
theorem sc_l_ties : FnScope N_l_ties ["_law_well_here", "_law_names_here", "_law_share"] (defScope s_l_ties) := ⟨rfl, rfl, rfl, by decide +kernel, rfl, by decide +kernel, by decide +kernel⟩
theorem ok_l_ties (F : ∃ fd, FnP K "_law_ties" s_l_ties (He.ga K "_law_ties") fd) (gm : mg "_law_ties" = some (.ref (He.ga K "_law_ties"))) (B : Bl mg) (h_l_draw : Has P w K mg base "_law_draw" 2 ["_law_well_here", "_law_many"] spDraw) : Has P w K mg base "_law_ties" 3 ["_law_well_here", "_law_names_here", "_law_share"] spTies := by
  obtain ⟨fd, F⟩ := F
  refine ⟨_, fd, gm, F.kp, FunD.bindsN (ps := ["_law_well_here", "_law_names_here", "_law_share"]) F fun _ _ _ _ _ _ us hl => match us, hl with | [_, _, _], _ => rfl, F.ok sc_l_ties (fun vs H Q E h => p_l_ties_len h) (fun cdv A outer s H vs Q E hr h => ⟨t_l_ties K, PSs.nox ?_, p_l_ties h⟩)⟩
  have hu := hu_of hr
  exact (pss_cons (ps_set (i := 3) sc_l_ties.nd rfl (Or.inl rfl) (pe_lst pa_nil))
    (pss_cons (ps_for PassesOwn.never rfl (pi_range1 (by rfl) B.b_range (pa_cons (pe_callB call_len_seq (by rfl) B.b_len (by decide +kernel) (pa_cons (pv 1) pa_nil)) pa_nil)) (pg_name (i := 4) sc_l_ties.nd rfl (Or.inl rfl)) (pss_one (ps_for PassesOwn.never rfl (pi_range1 (by rfl) B.b_range (pa_cons (pv 4) pa_nil)) (pg_name (i := 5) sc_l_ties.nd rfl (Or.inl rfl)) (pss_one (ps_if (pt_cmpR op_lt (pe_has h_l_draw (hr.mono (by decide)) (by rfl) (pa_cons (pv 0) (pa_cons pe_int pa_nil))) (pv 2) (nomark _)) (pss_one (ps_expr (pe_bm PySem.F.plainAttrs_list PySem.F.slot_list_append PySem.F.type_list_append mt_append (pv 3) (pa_cons (pe_ix ix_list (pe_lst (pa_cons (pe_tup (pa_cons (pe_ix ix_list (pv 1) (pv 4) (fun _ _ => rfl)) (pa_cons (pe_ix ix_list (pv 1) (pv 5) (fun _ _ => rfl)) pa_nil))) (pa_cons (pe_tup (pa_cons (pe_ix ix_list (pv 1) (pv 5) (fun _ _ => rfl)) (pa_cons (pe_ix ix_list (pv 1) (pv 4) (fun _ _ => rfl)) pa_nil))) pa_nil))) (pe_has h_l_draw (hr.mono (by decide)) (by rfl) (pa_cons (pv 0) (pa_cons pe_int pa_nil))) (fun _ _ => rfl)) pa_nil)))) pss_nil)))))
    (pss_cons (ps_set (i := 6) sc_l_ties.nd rfl (Or.inl rfl) (pe_has h_l_draw (hr.mono (by decide)) (by rfl) (pa_cons (pv 0) (pa_cons (pe_op op_add (pe_callB call_len_seq (by rfl) B.b_len (by decide +kernel) (pa_cons (pv 3) pa_nil)) pe_int) pa_nil))))
    (pss_one (ps_ret (pe_op op_cat (pe_slice sl_list (pv 3) (po_some (pv 6)) po_none) (pe_slice sl_list (pv 3) po_none (po_some (pv 6)))))))))

abbrev s_l_web : Stmt := top 31
theorem sc_l_web : FnScope N_l_web ["_law_well_here", "_law_most"] (defScope s_l_web) := ⟨rfl, rfl, rfl, by decide +kernel, rfl, by decide +kernel, by decide +kernel⟩
theorem ok_l_web (F : ∃ fd, FnP K "_law_web" s_l_web (He.ga K "_law_web") fd) (gm : mg "_law_web" = some (.ref (He.ga K "_law_web"))) (B : Bl mg) (h_l_ties : Has P w K mg base "_law_ties" 3 ["_law_well_here", "_law_names_here", "_law_share"] spTies) (h_l_draw : Has P w K mg base "_law_draw" 2 ["_law_well_here", "_law_many"] spDraw) (h_l_numbers : Has P w K mg base "_law_numbers" 3 ["_law_well_here", "_law_size"] spNumbers) (h_l_names : Has P w K mg base "_law_names" 3 ["_law_well_here", "_law_many"] spNames) : Has P w K mg base "_law_web" 4 ["_law_well_here", "_law_most"] spWeb := by
  obtain ⟨fd, F⟩ := F
  refine ⟨_, fd, gm, F.kp, FunD.bindsN (ps := ["_law_well_here", "_law_most"]) F fun _ _ _ _ _ _ us hl => match us, hl with | [_, _], _ => rfl, F.ok sc_l_web (fun vs H Q E h => p_l_web_len h) (fun cdv A outer s H vs Q E hr h => ⟨t_l_web K, PSs.nox ?_, p_l_web h⟩)⟩
  have hu := hu_of hr
  exact (pss_cons (ps_set (i := 2) sc_l_web.nd rfl (Or.inr rfl) (pe_op op_add pe_int (pe_has h_l_draw (hr.mono (by decide)) (by rfl) (pa_cons (pv 0) (pa_cons pe_int pa_nil)))))
    (pss_cons (ps_set (i := 3) sc_l_web.nd rfl (Or.inl rfl) (pe_has h_l_names (hr.mono (by decide)) (by rfl) (pa_cons (pv 0) (pa_cons (pe_op op_add pe_int (pe_has h_l_draw (hr.mono (by decide)) (by rfl) (pa_cons (pv 0) (pa_cons (pv 1) pa_nil)))) pa_nil))))
    (pss_cons (ps_setLc (i := 4) (own := [("_law_name", 5)]) (g := (gName 5)) (tt := tYes) (te := (tTup (tCons (tVar 5) (tCons (tCall spNumbers [] E0 (tCons (tVar 0) (tCons (tVar 2) tNil))) tNil)))) (wi := (iList K (tVar 3))) rfl sc_l_web.nd rfl rfl (sw_true rfl rfl rfl (by decide +kernel)) (pi_list (pv 3)) (blkOk_by (own := [("_law_name", 5)]) (N := N_l_web) (sc := defScope s_l_web) (by decide +kernel)) (fun _ _ _ _ _ => (pg_name (i := 5) sc_l_web.nd rfl (Or.inl rfl))) (fun _ _ _ _ _ => pts_nil) (fun _ _ _ _ _ => (pe_tup (pa_cons (pv 5) (pa_cons (pe_has h_l_numbers (hr.mono (by decide)) (by rfl) (pa_cons (pv 0) (pa_cons (pv 2) pa_nil))) pa_nil)))))
    (pss_one (ps_ret (pe_tup (pa_cons (pv 4) (pa_cons (pe_has h_l_ties (hr.mono (by decide)) (by rfl) (pa_cons (pv 0) (pa_cons (pv 3) (pa_cons (pe_op op_add pe_int (pe_has h_l_draw (hr.mono (by decide)) (by rfl) (pa_cons (pv 0) (pa_cons pe_int pa_nil)))) pa_nil)))) pa_nil))))))))

abbrev s_l_odd_hand : Stmt := top 32
theorem sc_l_odd_hand : FnScope N_l_odd_hand ["_law_well_here", "_law_hands"] (defScope s_l_odd_hand) := ⟨rfl, rfl, rfl, by decide +kernel, rfl, by decide +kernel, by decide +kernel⟩
theorem ok_l_odd_hand (F : ∃ fd, FnP K "_law_odd_hand" s_l_odd_hand (He.ga K "_law_odd_hand") fd) (gm : mg "_law_odd_hand" = some (.ref (He.ga K "_law_odd_hand"))) (B : Bl mg) (h_l_pick : Has P w K mg base "_law_pick" 3 ["_law_well_here", "_law_some"] spPick) (h_l_draw : Has P w K mg base "_law_draw" 2 ["_law_well_here", "_law_many"] spDraw) : Has P w K mg base "_law_odd_hand" 4 ["_law_well_here", "_law_hands"] spOddHand := by
  obtain ⟨fd, F⟩ := F
  refine ⟨_, fd, gm, F.kp, FunD.bindsN (ps := ["_law_well_here", "_law_hands"]) F fun _ _ _ _ _ _ us hl => match us, hl with | [_, _], _ => rfl, F.ok sc_l_odd_hand (fun vs H Q E h => p_l_odd_hand_len h) (fun cdv A outer s H vs Q E hr h => ⟨t_l_odd_hand K, PSs.nox ?_, p_l_odd_hand h⟩)⟩
  have hu := hu_of hr
  exact (pss_cons (ps_asg (pe_has h_l_pick (hr.mono (by decide)) (by rfl) (pa_cons (pv 0) (pa_cons (pv 1) pa_nil))) (pg_tup rfl (pgs_cons (pg_name (i := 2) sc_l_odd_hand.nd rfl (Or.inl rfl)) (pgs_cons (pg_name (i := 3) sc_l_odd_hand.nd rfl (Or.inl rfl)) pgs_nil))))
    (pss_cons (ps_set (i := 4) sc_l_odd_hand.nd rfl (Or.inl rfl) (pe_has h_l_pick (hr.mono (by decide)) (by rfl) (pa_cons (pv 0) (pa_cons (pv 1) pa_nil))))
    (pss_cons (ps_set (i := 5) sc_l_odd_hand.nd rfl (Or.inl rfl) (pe_has h_l_pick (hr.mono (by decide)) (by rfl) (pa_cons (pv 0) (pa_cons (pe_lst (pa_cons pe_str (pa_cons pe_str (pa_cons pe_str (pa_cons pe_str (pa_cons pe_str (pa_cons pe_non (pa_cons pe_int (pa_cons pe_bl (pa_cons (pe_tup (pa_cons pe_str pa_nil)) (pa_cons (pe_lst (pa_cons pe_str pa_nil)) (pa_cons pe_str pa_nil)))))))))))) pa_nil))))
    (pss_cons (ps_set (i := 6) sc_l_odd_hand.nd rfl (Or.inl rfl) (pe_has h_l_draw (hr.mono (by decide)) (by rfl) (pa_cons (pv 0) (pa_cons (pe_callB call_len_seq (by rfl) B.b_len (by decide +kernel) (pa_cons (pv 3) pa_nil)) pa_nil))))
    (pss_cons (ps_set (i := 7) sc_l_odd_hand.nd rfl (Or.inl rfl) (pe_has h_l_pick (hr.mono (by decide)) (by rfl) (pa_cons (pv 0) (pa_cons (pe_lst (pa_cons (pe_op op_add (pe_op op_pow pe_int pe_int) pe_int) (pa_cons (pe_op op_sub (pe_op op_sub pe_int (pe_op op_pow pe_int pe_int)) pe_int) (pa_cons pe_bl (pa_cons pe_bl (pa_cons pe_non (pa_cons pe_str (pa_cons (pe_tup (pa_cons pe_int pa_nil)) (pa_cons (pe_lst (pa_cons pe_int pa_nil)) pa_nil))))))))) pa_nil))))
    (pss_cons (ps_set (i := 8) sc_l_odd_hand.nd rfl (Or.inl rfl) (pe_lst (pa_cons (pe_tup (pa_cons (pv 5) (pa_cons (pv 3) pa_nil))) (pa_cons (pe_tup (pa_cons (pv 2) (pa_cons (pe_op op_catA (pe_op op_catA (pe_slice sl_tupA (pv 3) po_none (po_some (pv 6))) (pe_tup (pa_cons (pv 7) pa_nil))) (pe_slice sl_tupA (pv 3) (po_some (pe_op op_add (pv 6) pe_int)) po_none)) pa_nil))) (pa_cons (pe_tup (pa_cons (pv 2) (pa_cons (pe_tup pa_nil) pa_nil))) pa_nil)))))
    (pss_cons (ps_set (i := 8) sc_l_odd_hand.nd rfl (Or.inl rfl) (pe_op op_cat (pv 8) (pe_lst (pa_cons (pe_tup (pa_cons (pv 2) (pa_cons (pe_op op_repT (pv 3) pe_int) pa_nil))) pa_nil))))
    (pss_cons (ps_set (i := 8) sc_l_odd_hand.nd rfl (Or.inl rfl) (pe_op op_cat (pv 8) (pe_lst (pa_cons (pe_tup (pa_cons (pv 2) (pa_cons (pe_callTy call_list_of (by rfl) B.b_list (by decide +kernel) (pa_cons (pv 3) pa_nil)) pa_nil))) (pa_cons (pe_tup (pa_cons (pv 2) pa_nil)) (pa_cons (pe_tup (pa_cons (pv 2) (pa_cons (pv 3) (pa_cons pe_int pa_nil)))) (pa_cons (pe_lst (pa_cons (pv 2) (pa_cons (pv 3) pa_nil))) (pa_cons (pv 2) (pa_cons pe_non (pa_cons (pv 3) pa_nil))))))))))
    (pss_cons (ps_set (i := 8) sc_l_odd_hand.nd rfl (Or.inl rfl) (pe_op op_cat (pv 8) (pe_lst (pa_cons (pe_tup (pa_cons (pv 2) (pa_cons (pe_ix ix_tup (pv 3) pe_int (fun _ _ => rfl)) pa_nil))) (pa_cons (pe_tup (pa_cons (pe_op op_add_str (pe_ix ix_tup (pv 4) pe_int (fun _ _ => rfl)) pe_str) (pa_cons (pe_ix ix_tup (pv 4) pe_int (fun _ _ => rfl)) pa_nil))) (pa_cons (pe_tup (pa_cons (pv 3) (pa_cons (pv 2) pa_nil))) pa_nil))))))
    (pss_one (ps_ret (pe_has h_l_pick (hr.mono (by decide)) (by rfl) (pa_cons (pv 0) (pa_cons (pv 8) pa_nil))))))))))))))

abbrev s_l_odd_hands : Stmt := top 33
theorem sc_l_odd_hands : FnScope N_l_odd_hands ["_law_well_here", "_law_hands"] (defScope s_l_odd_hands) := ⟨rfl, rfl, rfl, by decide +kernel, rfl, by decide +kernel, by decide +kernel⟩
theorem ok_l_odd_hands (F : ∃ fd, FnP K "_law_odd_hands" s_l_odd_hands (He.ga K "_law_odd_hands") fd) (gm : mg "_law_odd_hands" = some (.ref (He.ga K "_law_odd_hands"))) (B : Bl mg) (h_l_odd_hand : Has P w K mg base "_law_odd_hand" 4 ["_law_well_here", "_law_hands"] spOddHand) (h_l_draw : Has P w K mg base "_law_draw" 2 ["_law_well_here", "_law_many"] spDraw) (h_l_pick : Has P w K mg base "_law_pick" 3 ["_law_well_here", "_law_some"] spPick) : Has P w K mg base "_law_odd_hands" 5 ["_law_well_here", "_law_hands"] spOddHands := by
  obtain ⟨fd, F⟩ := F
  refine ⟨_, fd, gm, F.kp, FunD.bindsN (ps := ["_law_well_here", "_law_hands"]) F fun _ _ _ _ _ _ us hl => match us, hl with | [_, _], _ => rfl, F.ok sc_l_odd_hands (fun vs H Q E h => p_l_odd_hands_len h) (fun cdv A outer s H vs Q E hr h => ⟨t_l_odd_hands K, PSs.nox ?_, p_l_odd_hands h⟩)⟩
  have hu := hu_of hr
  exact (pss_cons (ps_set (i := 2) sc_l_odd_hands.nd rfl (Or.inl rfl) (pe_has h_l_draw (hr.mono (by decide)) (by rfl) (pa_cons (pv 0) (pa_cons pe_int pa_nil))))
    (pss_cons (ps_set (i := 3) sc_l_odd_hands.nd rfl (Or.inl rfl) (pe_has h_l_draw (hr.mono (by decide)) (by rfl) (pa_cons (pv 0) (pa_cons (pe_callB call_len_seq (by rfl) B.b_len (by decide +kernel) (pa_cons (pv 1) pa_nil)) pa_nil))))
    (pss_cons (ps_if (pt_cmpR op_eq (pv 2) pe_int (nomark _)) (pss_one (ps_ret (pe_has h_l_pick (hr.mono (by decide)) (by rfl) (pa_cons (pv 0) (pa_cons (pe_lst (pa_cons (pe_lst pa_nil) (pa_cons (pe_callTy call_tuple_of (by rfl) B.b_tuple (by decide +kernel) (pa_cons (pv 1) pa_nil)) (pa_cons pe_non (pa_cons (pe_callTy (call_dictP rfl) (by rfl) B.b_dict (by decide +kernel) (pa_cons (pv 1) pa_nil)) (pa_cons pe_str (pa_cons pe_int (pa_cons (pe_ix ix_list (pv 1) pe_int (fun _ _ => rfl)) (pa_cons (pe_lst (pa_cons (pv 1) pa_nil)) pa_nil))))))))) pa_nil))))) pss_nil)
    (pss_cons (ps_if (pt_cmpR op_eq (pv 2) pe_int (nomark _)) (pss_cons (ps_setLc (i := 4) (own := [("_law_one", 7)]) (g := (gName 7)) (tt := tYes) (te := (tOp rAddStr (tC (.str ("spare" : Str))) (tVar 7))) (wi := (iStr (tC (.str ("abcdefghi" : Str))))) rfl sc_l_odd_hands.nd rfl rfl (sw_true rfl rfl rfl (by decide +kernel)) (pi_str pe_str) (blkOk_by (own := [("_law_one", 7)]) (N := N_l_odd_hands) (sc := defScope s_l_odd_hands) (by decide +kernel)) (fun _ _ _ _ _ => (pg_name (i := 7) sc_l_odd_hands.nd rfl (Or.inl rfl))) (fun _ _ _ _ _ => pts_nil) (fun _ _ _ _ _ => (pe_op op_add_str pe_str (pv 7))))
      (pss_one (ps_ret (pe_op op_cat (pe_op op_cat (pe_slice sl_list (pv 1) po_none (po_some (pv 3))) (pe_lc (own := [("_law_one", 7)]) (g := (gName 7)) (tt := tYes) (te := (tTup (tCons (tVar 7) (tCons (tOp (rIxT K) (tOp (rIxL K) (tVar 1) (tC (.int 0))) (tC (.int 1))) tNil)))) (wi := (iList K (tSl (rSlL K) (tVar 4) tNoPart (tPart (tOp rSubI (tC (.int 9)) (tCB (Evl.rLenS K) (tCons (tVar 1) tNil))))))) rfl sc_l_odd_hands.nd (pi_list (pe_slice sl_list (pv 4) po_none (po_some (pe_op op_sub pe_int (pe_callB call_len_seq (by rfl) B.b_len (by decide +kernel) (pa_cons (pv 1) pa_nil)))))) (blkOk_by (own := [("_law_one", 7)]) (N := N_l_odd_hands) (sc := defScope s_l_odd_hands) (by decide +kernel)) (fun _ _ _ _ _ => (pg_name (i := 7) sc_l_odd_hands.nd rfl (Or.inl rfl))) (fun _ _ _ _ _ => pts_nil) (fun _ _ _ _ _ => (pe_tup (pa_cons (pv 7) (pa_cons (pe_ix ix_tup (pe_ix ix_list (pv 1) pe_int (fun _ _ => rfl)) pe_int (fun _ _ => rfl)) pa_nil)))))) (pe_slice sl_list (pv 1) (po_some (pv 3)) po_none))))) pss_nil)
    (pss_cons (ps_if (pt_cmpR op_eq (pv 2) pe_int (nomark _)) (pss_one (ps_ret (pe_op op_cat (pe_op op_cat (pe_slice sl_list (pv 1) po_none (po_some (pv 3))) (pe_lst (pa_cons (pe_tup (pa_cons (pe_ix ix_tup (pe_ix ix_list (pv 1) (pe_has h_l_draw (hr.mono (by decide)) (by rfl) (pa_cons (pv 0) (pa_cons (pe_callB call_len_seq (by rfl) B.b_len (by decide +kernel) (pa_cons (pv 1) pa_nil)) pa_nil))) (fun _ _ => rfl)) pe_int (fun _ _ => rfl)) (pa_cons (pe_ix ix_tup (pe_ix ix_list (pv 1) pe_int (fun _ _ => rfl)) pe_int (fun _ _ => rfl)) pa_nil))) pa_nil))) (pe_slice sl_list (pv 1) (po_some (pv 3)) po_none)))) pss_nil)
    (pss_cons (ps_if (pt_cmpR op_eq (pv 2) pe_int (nomark _)) (pss_cons (ps_set (i := 5) sc_l_odd_hands.nd rfl (Or.inl rfl) (pe_op op_repT (pe_ix ix_tup (pe_ix ix_list (pv 1) pe_int (fun _ _ => rfl)) pe_int (fun _ _ => rfl)) pe_int))
      (pss_one (ps_ret (pe_op op_cat (pe_op op_cat (pe_slice sl_list (pv 1) po_none (po_some (pv 3))) (pe_lst (pa_cons (pe_tup (pa_cons pe_str (pa_cons (pe_slice sl_tupA (pv 5) po_none (po_some (pe_op op_add pe_int (pe_op op_mod (pe_callB call_len_seq (by rfl) B.b_len (by decide +kernel) (pa_cons (pe_ix ix_tup (pe_ix ix_list (pv 1) pe_int (fun _ _ => rfl)) pe_int (fun _ _ => rfl)) pa_nil)) pe_int)))) pa_nil))) pa_nil))) (pe_slice sl_list (pv 1) (po_some (pv 3)) po_none))))) pss_nil)
    (pss_cons (ps_set (i := 6) sc_l_odd_hands.nd rfl (Or.inl rfl) (pe_has h_l_odd_hand (hr.mono (by decide)) (by rfl) (pa_cons (pv 0) (pa_cons (pv 1) pa_nil))))
    (pss_cons (ps_if (pt_cmpR (op_inD (Go.un65 hr)) (pv 6) (pv 1) (by rfl)) (pss_one (ps_ret (pe_op op_cat (pv 1) (pe_lst (pa_cons (pv 6) pa_nil))))) pss_nil)
    (pss_one (ps_ret (pe_op op_cat (pe_op op_cat (pe_slice sl_list (pv 1) po_none (po_some (pv 3))) (pe_lst (pa_cons (pv 6) pa_nil))) (pe_slice sl_list (pv 1) (po_some (pe_op op_add (pv 3) pe_int)) po_none))))))))))))

abbrev s_l_odd_ties : Stmt := top 34
theorem sc_l_odd_ties : FnScope N_l_odd_ties ["_law_well_here", "_law_hands", "_law_ties_here"] (defScope s_l_odd_ties) := ⟨rfl, rfl, rfl, by decide +kernel, rfl, by decide +kernel, by decide +kernel⟩
theorem ok_l_odd_ties (F : ∃ fd, FnP K "_law_odd_ties" s_l_odd_ties (He.ga K "_law_odd_ties") fd) (gm : mg "_law_odd_ties" = some (.ref (He.ga K "_law_odd_ties"))) (B : Bl mg) (h_l_draw : Has P w K mg base "_law_draw" 2 ["_law_well_here", "_law_many"] spDraw) (h_l_pick : Has P w K mg base "_law_pick" 3 ["_law_well_here", "_law_some"] spPick) : Has P w K mg base "_law_odd_ties" 4 ["_law_well_here", "_law_hands", "_law_ties_here"] spOddTies := by
  obtain ⟨fd, F⟩ := F
  refine ⟨_, fd, gm, F.kp, FunD.bindsN (ps := ["_law_well_here", "_law_hands", "_law_ties_here"]) F fun _ _ _ _ _ _ us hl => match us, hl with | [_, _, _], _ => rfl, F.ok sc_l_odd_ties (fun vs H Q E h => p_l_odd_ties_len h) (fun cdv A outer s H vs Q E hr h => ⟨t_l_odd_ties K, PSs.nox ?_, p_l_odd_ties h⟩)⟩
  have hu := hu_of hr
  exact (pss_cons (ps_set (i := 3) sc_l_odd_ties.nd rfl (Or.inr rfl) (pe_lc (own := [("_law_hand", 11)]) (g := (gName 11)) (tt := tYes) (te := (tOp (rIxT K) (tVar 11) (tC (.int 0)))) (wi := (iList K (tVar 1))) rfl sc_l_odd_ties.nd (pi_list (pv 1)) (blkOk_by (own := [("_law_hand", 11)]) (N := N_l_odd_ties) (sc := defScope s_l_odd_ties) (by decide +kernel)) (fun _ _ _ _ _ => (pg_name (i := 11) sc_l_odd_ties.nd rfl (Or.inl rfl))) (fun _ _ _ _ _ => pts_nil) (fun _ _ _ _ _ => (pe_ix ix_tup (pv 11) pe_int (fun _ _ => rfl)))))
    (pss_cons (ps_set (i := 4) sc_l_odd_ties.nd rfl (Or.inl rfl) (pe_has h_l_pick (hr.mono (by decide)) (by rfl) (pa_cons (pv 0) (pa_cons (pv 3) pa_nil))))
    (pss_cons (ps_set (i := 5) sc_l_odd_ties.nd rfl (Or.inl rfl) (pe_has h_l_pick (hr.mono (by decide)) (by rfl) (pa_cons (pv 0) (pa_cons (pv 3) pa_nil))))
    (pss_cons (ps_set (i := 6) sc_l_odd_ties.nd rfl (Or.inl rfl) (pe_has h_l_draw (hr.mono (by decide)) (by rfl) (pa_cons (pv 0) (pa_cons (pe_op op_add (pe_callB call_len_seq (by rfl) B.b_len (by decide +kernel) (pa_cons (pv 2) pa_nil)) pe_int) pa_nil))))
    (pss_cons (ps_set (i := 7) sc_l_odd_ties.nd rfl (Or.inl rfl) (pe_ix ix_list (pe_lc (own := [("_law_one", 12)]) (g := (gName 12)) (tt := (tTest (tOp (rIn K true) (tVar 12) (tVar 3)))) (te := (tVar 12)) (wi := (iList K (tLst (tCons (tC (.str ("strange" : Str))) (tCons (tC (.str ("unheard" : Str))) tNil))))) rfl sc_l_odd_ties.nd (pi_list (pe_lst (pa_cons pe_str (pa_cons pe_str pa_nil)))) (blkOk_by (own := [("_law_one", 12)]) (N := N_l_odd_ties) (sc := defScope s_l_odd_ties) (by decide +kernel)) (fun _ _ _ _ _ => (pg_name (i := 12) sc_l_odd_ties.nd rfl (Or.inl rfl))) (fun _ _ _ _ _ => (pts_one (pt_cmpR op_notIn_seq (pv 12) (pv 3) (by rfl)))) (fun _ _ _ _ _ => (pv 12))) pe_int (fun _ _ => rfl)))
    (pss_cons (ps_set (i := 8) sc_l_odd_ties.nd rfl (Or.inl rfl) (pe_lst (pa_cons (pe_tup (pa_cons (pv 4) (pa_cons (pv 7) pa_nil))) (pa_cons (pe_tup (pa_cons (pv 7) (pa_cons (pv 4) pa_nil))) (pa_cons (pe_tup (pa_cons (pv 4) (pa_cons (pv 4) pa_nil))) (pa_cons (pe_tup (pa_cons (pv 4) pa_nil)) (pa_cons (pe_tup (pa_cons (pv 4) (pa_cons (pv 5) (pa_cons (pv 4) pa_nil)))) (pa_cons (pe_lst (pa_cons (pv 4) (pa_cons (pv 5) pa_nil))) pa_nil))))))))
    (pss_cons (ps_set (i := 8) sc_l_odd_ties.nd rfl (Or.inl rfl) (pe_op op_cat (pv 8) (pe_lst (pa_cons (pv 4) pa_nil))))
    (pss_cons (ps_set (i := 8) sc_l_odd_ties.nd rfl (Or.inl rfl) (pe_op op_cat (pv 8) (pe_lst (pa_cons pe_non (pa_cons (pe_tup (pa_cons (pv 4) (pa_cons pe_non pa_nil))) (pa_cons (pe_tup (pa_cons pe_int (pa_cons (pv 4) pa_nil))) (pa_cons (pe_tup (pa_cons (pv 4) (pa_cons (pe_lst (pa_cons (pv 5) pa_nil)) pa_nil))) (pa_cons (pe_tup pa_nil) (pa_cons (pe_tup (pa_cons (pv 4) (pa_cons pe_str pa_nil))) (pa_cons (pe_tup (pa_cons (pe_tup (pa_cons (pv 4) (pa_cons (pv 5) pa_nil))) pa_nil)) pa_nil))))))))))
    (pss_cons (ps_if (pt_cmpR (op_neD hr.units) (pv 2) (pe_lst pa_nil) (nomark _)) (pss_cons (ps_set (i := 9) sc_l_odd_ties.nd rfl (Or.inl rfl) (pe_has h_l_pick (hr.mono (by decide)) (by rfl) (pa_cons (pv 0) (pa_cons (pv 2) pa_nil))))
      (pss_one (ps_set (i := 8) sc_l_odd_ties.nd rfl (Or.inl rfl) (pe_op op_cat (pv 8) (pe_lst (pa_cons (pv 9) (pa_cons (pe_revT (pv 9)) (pa_cons (pv 9) (pa_cons (pe_revT (pv 9)) (pa_cons (pe_callTy call_list_of (by rfl) B.b_list (by decide +kernel) (pa_cons (pv 9) pa_nil)) pa_nil)))))))))) pss_nil)
    (pss_cons (ps_set (i := 10) sc_l_odd_ties.nd rfl (Or.inl rfl) (pe_op op_cat (pe_op op_cat (pe_slice sl_list (pv 2) po_none (po_some (pv 6))) (pe_lst (pa_cons (pe_has h_l_pick (hr.mono (by decide)) (by rfl) (pa_cons (pv 0) (pa_cons (pv 8) pa_nil))) pa_nil))) (pe_slice sl_list (pv 2) (po_some (pv 6)) po_none)))
    (pss_cons (ps_if (pt_cmpR op_eq (pe_has h_l_draw (hr.mono (by decide)) (by rfl) (pa_cons (pv 0) (pa_cons pe_int pa_nil))) pe_int (nomark _)) (pss_one (ps_set (i := 10) sc_l_odd_ties.nd rfl (Or.inl rfl) (pe_has h_l_pick (hr.mono (by decide)) (by rfl) (pa_cons (pv 0) (pa_cons (pe_lst (pa_cons (pe_callTy call_tuple_of (by rfl) B.b_tuple (by decide +kernel) (pa_cons (pv 2) pa_nil)) (pa_cons pe_non (pa_cons pe_dnewK (pa_cons pe_str (pa_cons pe_int (pa_cons (pe_tup (pa_cons (pv 4) (pa_cons (pv 5) pa_nil))) pa_nil))))))) pa_nil))))) pss_nil)
    (pss_one (ps_ret (pv 10))))))))))))))

abbrev s_l_bad : Stmt := top 35
theorem sc_l_bad : FnScope N_l_bad ["_law_well_here", "_law_hands", "_law_ties_here"] (defScope s_l_bad) := ⟨rfl, rfl, rfl, by decide +kernel, rfl, by decide +kernel, by decide +kernel⟩
theorem ok_l_bad (F : ∃ fd, FnP K "_law_bad" s_l_bad (He.ga K "_law_bad") fd) (gm : mg "_law_bad" = some (.ref (He.ga K "_law_bad"))) (B : Bl mg) (h_l_odd_ties : Has P w K mg base "_law_odd_ties" 4 ["_law_well_here", "_law_hands", "_law_ties_here"] spOddTies) (h_l_odd_hands : Has P w K mg base "_law_odd_hands" 5 ["_law_well_here", "_law_hands"] spOddHands) (h_l_pick : Has P w K mg base "_law_pick" 3 ["_law_well_here", "_law_some"] spPick) (h_l_draw : Has P w K mg base "_law_draw" 2 ["_law_well_here", "_law_many"] spDraw) : Has P w K mg base "_law_bad" 6 ["_law_well_here", "_law_hands", "_law_ties_here"] spBad := by
  obtain ⟨fd, F⟩ := F
  refine ⟨_, fd, gm, F.kp, FunD.bindsN (ps := ["_law_well_here", "_law_hands", "_law_ties_here"]) F fun _ _ _ _ _ _ us hl => match us, hl with | [_, _, _], _ => rfl, F.ok sc_l_bad (fun vs H Q E h => p_l_bad_len h) (fun cdv A outer s H vs Q E hr h => ⟨t_l_bad K, PSs.nox ?_, p_l_bad h⟩)⟩
  have hu := hu_of hr
  exact (pss_cons (ps_set (i := 3) sc_l_bad.nd rfl (Or.inl rfl) (pe_has h_l_draw (hr.mono (by decide)) (by rfl) (pa_cons (pv 0) (pa_cons pe_int pa_nil))))
    (pss_cons (ps_if (pt_cmpR op_eq (pv 3) pe_int (nomark _)) (pss_cons (ps_set (i := 4) sc_l_bad.nd rfl (Or.inl rfl) (pe_lst (pa_cons pe_non (pa_cons (pe_lst (pa_cons (pv 1) (pa_cons (pv 2) pa_nil))) (pa_cons (pe_tup (pa_cons (pv 1) pa_nil)) (pa_cons (pe_tup (pa_cons (pv 1) (pa_cons (pv 2) (pa_cons (pv 2) pa_nil)))) (pa_cons (pe_tup (pa_cons (pv 2) (pa_cons (pv 1) pa_nil))) (pa_cons (pv 1) (pa_cons pe_dnewK (pa_cons pe_str (pa_cons pe_int pa_nil)))))))))))
      (pss_cons (ps_set (i := 4) sc_l_bad.nd rfl (Or.inl rfl) (pe_op op_cat (pv 4) (pe_lst (pa_cons pe_bl (pa_cons (pe_tup pa_nil) pa_nil)))))
      (pss_one (ps_ret (pe_has h_l_pick (hr.mono (by decide)) (by rfl) (pa_cons (pv 0) (pa_cons (pv 4) pa_nil))))))) pss_nil)
    (pss_cons (ps_if (pt_cmpR op_lt (pv 3) pe_int (nomark _)) (pss_one (ps_ret (pe_tup (pa_cons (pe_has h_l_odd_hands (hr.mono (by decide)) (by rfl) (pa_cons (pv 0) (pa_cons (pv 1) pa_nil))) (pa_cons (pe_lst pa_nil) pa_nil))))) pss_nil)
    (pss_one (ps_ret (pe_tup (pa_cons (pe_callTy call_list_of (by rfl) B.b_list (by decide +kernel) (pa_cons (pv 1) pa_nil)) (pa_cons (pe_has h_l_odd_ties (hr.mono (by decide)) (by rfl) (pa_cons (pv 0) (pa_cons (pv 1) (pa_cons (pv 2) pa_nil)))) pa_nil))))))))

abbrev s_l_refused : Stmt := top 36
theorem sc_l_refused : FnScope N_l_refused ["_law_way", "_law_web_here"] (defScope s_l_refused) := ⟨rfl, rfl, rfl, by decide +kernel, rfl, by decide +kernel, by decide +kernel⟩
theorem ok_l_refused (F : ∃ fd, FnP K "_law_refused" s_l_refused (He.ga K "_law_refused") fd) (gm : mg "_law_refused" = some (.ref (He.ga K "_law_refused"))) (B : Bl mg) (G : Gs K mg) (h_check_web : Go.HasX P w K mg base "check_web" 4 ["web"] (spCheckWeb K)) (h_is_whole : Go.HasX P w K mg base "is_whole" 5 ["web"] (spIsWhole K)) : Has P w K mg base "_law_refused" 6 ["_law_way", "_law_web_here"] (spRefused K) := by
  obtain ⟨fd, F⟩ := F
  refine ⟨_, fd, gm, F.kp, FunD.bindsN (ps := ["_law_way", "_law_web_here"]) F fun _ _ _ _ _ _ us hl => match us, hl with | [_, _], _ => rfl, F.ok sc_l_refused (fun vs H Q E h => p_l_refused_len h) (fun cdv A outer s H vs Q E hr h => ⟨t_l_refused K, PSs.nox ?_, p_l_refused G.tt h⟩)⟩
  have hu := hu_of hr
  exact (pss_cons (ps_set (i := 2) sc_l_refused.nd rfl (Or.inl rfl) pe_bl)
    (pss_cons (ps_try_as (i := 3) (tb := tb_refused K) (ts := ts_refused K) (Wout := fun _ _ _ _ => False) rfl rfl sc_l_refused.nd rfl rfl ⟨rfl, by decide, Or.inl G.g_SumError⟩ takes0
    (fun W pn xe tk _ => pss_one (ps_if (pt_cmpR op_eq (pv 0) pe_int (nomark _)) (pss_one (ps_expr (by exact (Go.pe_hasX (W := W) h_check_web (hr.mono (by decide)) (by rfl) tk (by exact (pa_cons (pv 1) pa_nil)))))) (pss_one (ps_expr (by exact (Go.pe_hasX (W := W) h_is_whole (hr.mono (by decide)) (by rfl) tk (by exact (pa_cons (pv 1) pa_nil))))))))
    (fun a oe cls d pn hz hf => pss_cons (ps_set (i := 4) sc_l_refused.nd rfl (Or.inl rfl) (pe_callB (call_isX G.tt.k_BadWeb.ec hz hf) (by rfl) B.b_isinstance (by decide +kernel) (pa_cons (pv 3) (pa_cons (pe_tup (pa_cons (pe_glob (by rfl) G.g_BadBooks rfl) (pa_cons (pe_glob (by rfl) G.g_NoDeed rfl) (pa_cons (pe_glob (by rfl) G.g_NoNear rfl) (pa_cons (pe_glob (by rfl) G.g_NoRow rfl) (pa_cons (pe_glob (by rfl) G.g_NoText rfl) pa_nil)))))) pa_nil))))
      (pss_one (ps_set (i := 2) sc_l_refused.nd rfl (Or.inl rfl) (pe_and (pe_callB (call_isX G.tt.k_BadWeb.ec hz hf) (by rfl) B.b_isinstance (by decide +kernel) (pa_cons (pv 3) (pa_cons (pe_glob (by rfl) G.g_BadWeb rfl) pa_nil))) (pe_and (pe_callB (call_isX G.tt.k_BadWeb.ec hz hf) (by rfl) B.b_isinstance (by decide +kernel) (pa_cons (pv 3) (pa_cons (pe_bltn (v := .ty "ValueError") (by rfl) B.b_ValueError (by decide +kernel) rfl) pa_nil))) (pe_one (pe_not (pv 4)))))))))
    (pss_one (ps_ret (pv 2)))))

abbrev s_law : Stmt := top 37
theorem sc_law : FnScope N_law ["_law_script"] (defScope s_law) := ⟨rfl, rfl, rfl, by decide +kernel, rfl, by decide +kernel, by decide +kernel⟩
theorem ok_law {f : Addr} {fd : FuncData} (F : FnP K "law" s_law f fd) (B : Bl mg) (h_l_cell_at : Has P w K mg base "_law_cell_at" 1 ["_law_script", "_law_k"] (spCellAt K)) (h_check_web : Go.HasX P w K mg base "check_web" 4 ["web"] (spCheckWeb K)) (h_l_refused : Has P w K mg base "_law_refused" 6 ["_law_way", "_law_web_here"] (spRefused K)) (h_l_bad : Has P w K mg base "_law_bad" 6 ["_law_well_here", "_law_hands", "_law_ties_here"] spBad) (h_l_web : Has P w K mg base "_law_web" 4 ["_law_well_here", "_law_most"] spWeb) (h_l_well : Has P w K mg base "_law_well" 1 ["_law_cell"] spBegin) : FnOk P w K mg base CX0 7 f fd ["_law_script"] (spLaw K) := by
  refine F.ok sc_law (fun vs H Q E h => p_law_len h) (fun cdv A outer s H vs Q E hr h => ⟨t_law K, PSs.nox ?_, p_law h⟩)
  have hu := hu_of hr
  exact (pss_cons (ps_for PassesOwn.never rfl (pi_list (pe_op op_cat (pe_lst (pa_cons (pe_has h_l_cell_at (hr.mono (by decide)) (by rfl) (pa_cons (pv 0) (pa_cons pe_int pa_nil))) pa_nil)) (pe_slice sl_list (pv 0) (po_some pe_int) (po_some pe_int)))) (pg_name (i := 1) sc_law.nd rfl (Or.inl rfl)) (pss_cons (ps_set (i := 2) sc_law.nd rfl (Or.inl rfl) (pe_has h_l_well (hr.mono (by decide)) (by rfl) (pa_cons (pv 1) pa_nil)))
      (pss_cons (ps_asg (pe_has h_l_web (hr.mono (by decide)) (by rfl) (pa_cons (pv 2) (pa_cons pe_int pa_nil))) (pg_tup rfl (pgs_cons (pg_name (i := 3) sc_law.nd rfl (Or.inl rfl)) (pgs_cons (pg_name (i := 4) sc_law.nd rfl (Or.inl rfl)) pgs_nil))))
      (pss_cons (ps_for PassesOwn.never rfl (pi_range1 (by rfl) B.b_range (pa_cons pe_int pa_nil)) (pg_name (i := 5) sc_law.nd rfl (Or.inl rfl)) (pss_cons (ps_set (i := 6) sc_law.nd rfl (Or.inl rfl) (pe_has h_l_bad (hr.mono (by decide)) (by rfl) (pa_cons (pv 2) (pa_cons (pv 3) (pa_cons (pv 4) pa_nil)))))
        (pss_one (ps_if (PW.pt (pw_or (pt_not (pt_val (pe_has h_l_refused (hr.mono (by decide)) (by rfl) (pa_cons pe_int (pa_cons (pv 6) pa_nil))))) (pw_or1 (pt_not (pt_val (pe_has h_l_refused (hr.mono (by decide)) (by rfl) (pa_cons pe_int (pa_cons (pv 6) pa_nil)))))))) (pss_one (ps_ret pe_bl)) pss_nil))))
      (pss_one (ps_if (pt_cmpR op_notN1 (Go.pe_hasX (W := (fun _ _ _ _ => False)) h_check_web (hr.mono (by decide)) (by rfl) takes0 (pa_cons (pe_tup (pa_cons (pv 3) (pa_cons (pv 4) pa_nil))) pa_nil)) pe_non (nomark _)) (pss_one (ps_ret pe_bl)) pss_nil))))))
    (pss_one (ps_ret pe_bl)))
end

def dd_is_int : He.DefD := ⟨("is_int", none), "is_int", "is_int", defArgs s_is_int, defBody s_is_int, defScope s_is_int, [], []⟩
def dd_is_name : He.DefD := ⟨("is_name", none), "is_name", "is_name", defArgs s_is_name, defBody s_is_name, defScope s_is_name, [], []⟩
def dd_is_numbers : He.DefD := ⟨("is_numbers", none), "is_numbers", "is_numbers", defArgs s_is_numbers, defBody s_is_numbers, defScope s_is_numbers, [], []⟩
def dd_are_hands : He.DefD := ⟨("are_hands", none), "are_hands", "are_hands", defArgs s_are_hands, defBody s_are_hands, defScope s_are_hands, [], []⟩
def dd_is_tie : He.DefD := ⟨("is_tie", none), "is_tie", "is_tie", defArgs s_is_tie, defBody s_is_tie, defScope s_is_tie, [], []⟩
def dd_are_ties : He.DefD := ⟨("are_ties", none), "are_ties", "are_ties", defArgs s_are_ties, defBody s_are_ties, defScope s_are_ties, [], []⟩
def dd_check_web : He.DefD := ⟨("check_web", none), "check_web", "check_web", defArgs s_check_web, defBody s_check_web, defScope s_check_web, [], []⟩
def dd_is_whole : He.DefD := ⟨("is_whole", none), "is_whole", "is_whole", defArgs s_is_whole, defBody s_is_whole, defScope s_is_whole, [], []⟩
def dd_l_cell_at : He.DefD := ⟨("_law_cell_at", none), "_law_cell_at", "_law_cell_at", defArgs s_l_cell_at, defBody s_l_cell_at, defScope s_l_cell_at, [], []⟩
def dd_l_mixed : He.DefD := ⟨("_law_mixed", none), "_law_mixed", "_law_mixed", defArgs s_l_mixed, defBody s_l_mixed, defScope s_l_mixed, [], []⟩
def dd_l_well : He.DefD := ⟨("_law_well", none), "_law_well", "_law_well", defArgs s_l_well, defBody s_l_well, defScope s_l_well, [], []⟩
def dd_l_draw : He.DefD := ⟨("_law_draw", none), "_law_draw", "_law_draw", defArgs s_l_draw, defBody s_l_draw, defScope s_l_draw, [], []⟩
def dd_l_pick : He.DefD := ⟨("_law_pick", none), "_law_pick", "_law_pick", defArgs s_l_pick, defBody s_l_pick, defScope s_l_pick, [], []⟩
def dd_l_names : He.DefD := ⟨("_law_names", none), "_law_names", "_law_names", defArgs s_l_names, defBody s_l_names, defScope s_l_names, [], []⟩
def dd_l_numbers : He.DefD := ⟨("_law_numbers", none), "_law_numbers", "_law_numbers", defArgs s_l_numbers, defBody s_l_numbers, defScope s_l_numbers, [], []⟩
def dd_l_ties : He.DefD := ⟨("_law_ties", none), "_law_ties", "_law_ties", defArgs s_l_ties, defBody s_l_ties, defScope s_l_ties, [], []⟩
def dd_l_web : He.DefD := ⟨("_law_web", none), "_law_web", "_law_web", defArgs s_l_web, defBody s_l_web, defScope s_l_web, [], []⟩
def dd_l_odd_hand : He.DefD := ⟨("_law_odd_hand", none), "_law_odd_hand", "_law_odd_hand", defArgs s_l_odd_hand, defBody s_l_odd_hand, defScope s_l_odd_hand, [], []⟩
def dd_l_odd_hands : He.DefD := ⟨("_law_odd_hands", none), "_law_odd_hands", "_law_odd_hands", defArgs s_l_odd_hands, defBody s_l_odd_hands, defScope s_l_odd_hands, [], []⟩
def dd_l_odd_ties : He.DefD := ⟨("_law_odd_ties", none), "_law_odd_ties", "_law_odd_ties", defArgs s_l_odd_ties, defBody s_l_odd_ties, defScope s_l_odd_ties, [], []⟩
def dd_l_bad : He.DefD := ⟨("_law_bad", none), "_law_bad", "_law_bad", defArgs s_l_bad, defBody s_l_bad, defScope s_l_bad, [], []⟩
def dd_l_refused : He.DefD := ⟨("_law_refused", none), "_law_refused", "_law_refused", defArgs s_l_refused, defBody s_l_refused, defScope s_l_refused, [], []⟩
def dd_law : He.DefD := ⟨("law", none), "law", "law", defArgs s_law, defBody s_law, defScope s_law, [], []⟩
def fn : List He.DefD := [dd_is_int, dd_is_name, dd_is_numbers, dd_are_hands, dd_is_tie, dd_are_ties, dd_check_web, dd_is_whole, dd_l_cell_at, dd_l_mixed, dd_l_well, dd_l_draw, dd_l_pick, dd_l_names, dd_l_numbers, dd_l_ties, dd_l_web, dd_l_odd_hand, dd_l_odd_hands, dd_l_odd_ties, dd_l_bad, dd_l_refused, dd_law]
def fa : List He.Fa := [.glo "is_int", .glo "is_name", .glo "is_numbers", .glo "are_hands", .glo "is_tie", .glo "are_ties", .glo "check_web", .glo "is_whole", .glo "_law_cell_at", .glo "_law_mixed", .glo "_law_well", .glo "_law_draw", .glo "_law_pick", .glo "_law_names", .glo "_law_numbers", .glo "_law_ties", .glo "_law_web", .glo "_law_odd_hand", .glo "_law_odd_hands", .glo "_law_odd_ties", .glo "_law_bad", .glo "_law_refused", .glo "law", .free "ValueError", .free "all", .free "bool", .free "dict", .free "int", .free "isinstance", .free "len", .free "list", .free "range", .free "set", .free "sorted", .free "str", .free "tuple", .str "LETTERS" "abcdefghijklmnopqrstuvwxyz", .int "MOST_LETTERS" 8, .int "MOST_NUMBERS" 3, .int "FAR" 1000000000000, .int "MOST_HANDS" 8, .glo "SumError", .glo "BadWeb", .glo "NoDeed", .glo "BadBooks", .glo "NoNear", .glo "NoText", .glo "NoRow"]
def loose : List Str := (["SumError", "BadWeb", "NoDeed", "BadBooks", "NoNear", "NoText", "NoRow", "LETTERS", "MOST_LETTERS", "MOST_NUMBERS", "FAR", "MOST_HANDS", "is_int", "is_name", "is_numbers", "are_hands", "is_tie", "are_ties", "check_web", "is_whole", "_law_cell_at", "_law_mixed", "_law_well", "_law_draw", "_law_pick", "_law_names", "_law_numbers", "_law_ties", "_law_web", "_law_odd_hand"] : List Str) ++ (["_law_odd_hands", "_law_odd_ties", "_law_bad", "_law_refused"] : List Str)
abbrev R : PySem.W.OpenRow := PySem.W.OpenLaw.row PySem.Challenge.rw_sumtold_k13_what_is_no_web
abbrev hk : PySem.W.Hook := Go.hookE 4 fa fn exK
def ob (s : PySem.W.SharedT) : He.AlD × Bool := Go.obsE 4 fa fn exK (HandSHeadRun.getT s)
theorem ob_eq (s : PySem.W.SharedT) : ob s = hk.obs s.abs := Go.obsE_eq (HandSHeadRun.getT_eq s)
theorem run (w : World) : HandSHeadRun.RunEq R (PySem.W.view R.prog [37]) hk ob 20000 loose w := by
  intro os
  kernel_rfl
theorem facts {P : Program} {w : World} {K : PySem.W.Frag} {h : Heap} {mg : Str → Option Value} {f : Addr} (X : K.In h) (G : h.Ns mainGlobals mg) (hfa : mg ("law" : Str) = some (.ref f)) (c : He.SaysD fa fn K) (cx : exK K = true) :
    ∃ fd : FuncData, (∀ (s : Shared) (v : Value), BindsTo s fd ⟨[v], []⟩ [("_law_script", v)]) ∧ ∀ base : Heap, K.In base → base.Ns mainGlobals mg → FnOk P w K mg base CX0 7 f fd ["_law_script"] ((spLaw K)) := by
  have F_is_int := c.def_ 0 (d := dd_is_int) rfl
  have g_is_int := He.glo_ok X G (c.fact 0 (f := .glo "is_int") rfl)
  have F_is_name := c.def_ 1 (d := dd_is_name) rfl
  have g_is_name := He.glo_ok X G (c.fact 1 (f := .glo "is_name") rfl)
  have F_is_numbers := c.def_ 2 (d := dd_is_numbers) rfl
  have g_is_numbers := He.glo_ok X G (c.fact 2 (f := .glo "is_numbers") rfl)
  have F_are_hands := c.def_ 3 (d := dd_are_hands) rfl
  have g_are_hands := He.glo_ok X G (c.fact 3 (f := .glo "are_hands") rfl)
  have F_is_tie := c.def_ 4 (d := dd_is_tie) rfl
  have g_is_tie := He.glo_ok X G (c.fact 4 (f := .glo "is_tie") rfl)
  have F_are_ties := c.def_ 5 (d := dd_are_ties) rfl
  have g_are_ties := He.glo_ok X G (c.fact 5 (f := .glo "are_ties") rfl)
  have F_check_web := c.def_ 6 (d := dd_check_web) rfl
  have g_check_web := He.glo_ok X G (c.fact 6 (f := .glo "check_web") rfl)
  have F_is_whole := c.def_ 7 (d := dd_is_whole) rfl
  have g_is_whole := He.glo_ok X G (c.fact 7 (f := .glo "is_whole") rfl)
  have F_l_cell_at := c.def_ 8 (d := dd_l_cell_at) rfl
  have g_l_cell_at := He.glo_ok X G (c.fact 8 (f := .glo "_law_cell_at") rfl)
  have F_l_mixed := c.def_ 9 (d := dd_l_mixed) rfl
  have g_l_mixed := He.glo_ok X G (c.fact 9 (f := .glo "_law_mixed") rfl)
  have F_l_well := c.def_ 10 (d := dd_l_well) rfl
  have g_l_well := He.glo_ok X G (c.fact 10 (f := .glo "_law_well") rfl)
  have F_l_draw := c.def_ 11 (d := dd_l_draw) rfl
  have g_l_draw := He.glo_ok X G (c.fact 11 (f := .glo "_law_draw") rfl)
  have F_l_pick := c.def_ 12 (d := dd_l_pick) rfl
  have g_l_pick := He.glo_ok X G (c.fact 12 (f := .glo "_law_pick") rfl)
  have F_l_names := c.def_ 13 (d := dd_l_names) rfl
  have g_l_names := He.glo_ok X G (c.fact 13 (f := .glo "_law_names") rfl)
  have F_l_numbers := c.def_ 14 (d := dd_l_numbers) rfl
  have g_l_numbers := He.glo_ok X G (c.fact 14 (f := .glo "_law_numbers") rfl)
  have F_l_ties := c.def_ 15 (d := dd_l_ties) rfl
  have g_l_ties := He.glo_ok X G (c.fact 15 (f := .glo "_law_ties") rfl)
  have F_l_web := c.def_ 16 (d := dd_l_web) rfl
  have g_l_web := He.glo_ok X G (c.fact 16 (f := .glo "_law_web") rfl)
  have F_l_odd_hand := c.def_ 17 (d := dd_l_odd_hand) rfl
  have g_l_odd_hand := He.glo_ok X G (c.fact 17 (f := .glo "_law_odd_hand") rfl)
  have F_l_odd_hands := c.def_ 18 (d := dd_l_odd_hands) rfl
  have g_l_odd_hands := He.glo_ok X G (c.fact 18 (f := .glo "_law_odd_hands") rfl)
  have F_l_odd_ties := c.def_ 19 (d := dd_l_odd_ties) rfl
  have g_l_odd_ties := He.glo_ok X G (c.fact 19 (f := .glo "_law_odd_ties") rfl)
  have F_l_bad := c.def_ 20 (d := dd_l_bad) rfl
  have g_l_bad := He.glo_ok X G (c.fact 20 (f := .glo "_law_bad") rfl)
  have F_l_refused := c.def_ 21 (d := dd_l_refused) rfl
  have g_l_refused := He.glo_ok X G (c.fact 21 (f := .glo "_law_refused") rfl)
  have F_law := c.def_ 22 (d := dd_law) rfl
  have g_law := He.glo_ok X G (c.fact 22 (f := .glo "law") rfl)
  have B : Bl mg := ⟨He.free_ok X G (c.fact 23 (f := .free "ValueError") rfl), He.free_ok X G (c.fact 24 (f := .free "all") rfl), He.free_ok X G (c.fact 25 (f := .free "bool") rfl), He.free_ok X G (c.fact 26 (f := .free "dict") rfl), He.free_ok X G (c.fact 27 (f := .free "int") rfl), He.free_ok X G (c.fact 28 (f := .free "isinstance") rfl), He.free_ok X G (c.fact 29 (f := .free "len") rfl), He.free_ok X G (c.fact 30 (f := .free "list") rfl), He.free_ok X G (c.fact 31 (f := .free "range") rfl), He.free_ok X G (c.fact 32 (f := .free "set") rfl), He.free_ok X G (c.fact 33 (f := .free "sorted") rfl), He.free_ok X G (c.fact 34 (f := .free "str") rfl), He.free_ok X G (c.fact 35 (f := .free "tuple") rfl)⟩
  have TT : Gt K := gt_of cx
  have GG : Gs K mg := ⟨TT, He.str_ok X G (c.fact 36 (f := .str "LETTERS" "abcdefghijklmnopqrstuvwxyz") rfl), He.int_ok X G (c.fact 37 (f := .int "MOST_LETTERS" 8) rfl), He.int_ok X G (c.fact 38 (f := .int "MOST_NUMBERS" 3) rfl), He.int_ok X G (c.fact 39 (f := .int "FAR" 1000000000000) rfl), He.int_ok X G (c.fact 40 (f := .int "MOST_HANDS" 8) rfl), He.glo_ok X G (c.fact 41 (f := .glo "SumError") rfl), He.glo_ok X G (c.fact 42 (f := .glo "BadWeb") rfl), He.glo_ok X G (c.fact 43 (f := .glo "NoDeed") rfl), He.glo_ok X G (c.fact 44 (f := .glo "BadBooks") rfl), He.glo_ok X G (c.fact 45 (f := .glo "NoNear") rfl), He.glo_ok X G (c.fact 46 (f := .glo "NoText") rfl), He.glo_ok X G (c.fact 47 (f := .glo "NoRow") rfl)⟩
  have e := hfa.symm.trans g_law
  cases e
  obtain ⟨fd, Fl⟩ := F_law
  refine ⟨fd, fun s v => (FunD.bindsA (ps := ["_law_script"]) Fl fun _ _ _ _ _ _ us hl => match us, hl with | [_], _ => rfl) s [v] rfl, fun base _ _ => ?_⟩
  have h_is_int := ok_is_int (P := P) (w := w) (base := base) F_is_int g_is_int B 
  have h_is_name := ok_is_name (P := P) (w := w) (base := base) F_is_name g_is_name B GG 
  have h_is_numbers := ok_is_numbers (P := P) (w := w) (base := base) F_is_numbers g_is_numbers B GG h_is_int
  have h_are_hands := ok_are_hands (P := P) (w := w) (base := base) F_are_hands g_are_hands B GG h_is_numbers h_is_name
  have h_is_tie := ok_is_tie (P := P) (w := w) (base := base) F_is_tie g_is_tie B h_is_name
  have h_are_ties := ok_are_ties (P := P) (w := w) (base := base) F_are_ties g_are_ties B h_is_tie
  have h_check_web := ok_check_web (P := P) (w := w) (base := base) F_check_web g_check_web B GG h_are_ties h_are_hands
  have h_is_whole := ok_is_whole (P := P) (w := w) (base := base) F_is_whole g_is_whole B h_check_web
  have h_l_cell_at := ok_l_cell_at (P := P) (w := w) (base := base) F_l_cell_at g_l_cell_at B 
  have h_l_mixed := ok_l_mixed (P := P) (w := w) (base := base) F_l_mixed g_l_mixed B 
  have h_l_well := ok_l_well (P := P) (w := w) (base := base) F_l_well g_l_well B 
  have h_l_draw := ok_l_draw (P := P) (w := w) (base := base) F_l_draw g_l_draw B h_l_mixed
  have h_l_pick := ok_l_pick (P := P) (w := w) (base := base) F_l_pick g_l_pick B h_l_draw
  have h_l_names := ok_l_names (P := P) (w := w) (base := base) F_l_names g_l_names B h_l_draw
  have h_l_numbers := ok_l_numbers (P := P) (w := w) (base := base) F_l_numbers g_l_numbers B h_l_draw
  have h_l_ties := ok_l_ties (P := P) (w := w) (base := base) F_l_ties g_l_ties B h_l_draw
  have h_l_web := ok_l_web (P := P) (w := w) (base := base) F_l_web g_l_web B h_l_ties h_l_draw h_l_numbers h_l_names
  have h_l_odd_hand := ok_l_odd_hand (P := P) (w := w) (base := base) F_l_odd_hand g_l_odd_hand B h_l_pick h_l_draw
  have h_l_odd_hands := ok_l_odd_hands (P := P) (w := w) (base := base) F_l_odd_hands g_l_odd_hands B h_l_odd_hand h_l_draw h_l_pick
  have h_l_odd_ties := ok_l_odd_ties (P := P) (w := w) (base := base) F_l_odd_ties g_l_odd_ties B h_l_draw h_l_pick
  have h_l_bad := ok_l_bad (P := P) (w := w) (base := base) F_l_bad g_l_bad B h_l_odd_ties h_l_odd_hands h_l_pick h_l_draw
  have h_l_refused := ok_l_refused (P := P) (w := w) (base := base) F_l_refused g_l_refused B GG h_check_web h_is_whole
  exact ok_law (P := P) (w := w) (base := base) Fl B h_l_cell_at h_check_web h_l_refused h_l_bad h_l_web h_l_well

end Sum
open PySem PySem.W PySem.Calls PyProof.Rows
set_option maxRecDepth 100000 in
set_option maxHeartbeats 0 in
theorem PySem.Challenge.cw_sumtold_k13_what_is_no_web_holds : PySem.Challenge.rw_sumtold_k13_what_is_no_web.Holds := by
  w_on; o_law
  refine HandSHeadRun.head_any (r := OpenLaw.row PySem.Challenge.rw_sumtold_k13_what_is_no_web) (q := view (OpenLaw.row PySem.Challenge.rw_sumtold_k13_what_is_no_web).prog [37]) (H := Sum.hk) (ob := Sum.ob) (M := 20000) (loose := Sum.loose) (d := HandSHeadRun.topDef (OpenLaw.row PySem.Challenge.rw_sumtold_k13_what_is_no_web).prog 37) (kwd := []) Sum.ob_eq
    (by kernel_rfl) (fun s => by kernel_rfl) Sum.run (by kernel_rfl) (by kernel_rfl) (by kernel_rfl) (by rfl) (by first | assumption | decide +kernel) (by decide +kernel) ⟨rfl, rfl, rfl, rfl, rfl, by decide +kernel⟩ ?hw ?hc
  case hw => w_witness2
  case hc =>
    refine L2.walk_ofE (l := PySem.Challenge.rw_sumtold_k13_what_is_no_web) (n := 63) (k := 7) (x := "_law_script") (CX := L2.CX0) rfl (by decide) (by kernel_rfl) ⟨rfl, by decide, by decide⟩ ?F (fun _ _ _ _ z => z)
    intro w mg fa h Y G hmg0
    obtain ⟨K, KX, c, cx⟩ := Y
    have hmg : mg ("law" : PySem.Str) = some (.ref fa) := by
      have e : (HandSHeadRun.topDef (OpenLaw.row PySem.Challenge.rw_sumtold_k13_what_is_no_web).prog 37).name = ("law" : PySem.Str) := by kernel_rfl
      rw [← e]
      exact hmg0
    obtain ⟨fd, hb, hF⟩ := Sum.facts (P := (PySem.Challenge.rw_sumtold_k13_what_is_no_web).prog) (w := w) KX G hmg c cx
    exact ⟨K, fd, Sum.spLaw K, KX, hb, fun H a ns hl _ hS => ⟨a, ns, rfl, hS, hl, fun _ => rfl⟩, hF⟩
#print axioms PySem.Challenge.cw_sumtold_k13_what_is_no_web_holds
