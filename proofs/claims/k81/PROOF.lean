import PyProof.Rows.All
import Wide.All
import OpenK.AllK
import Wide.FinOn
import HandS.ForMost
import HandS.Flow
import HandS.IsInst
import HandS.WideBits
import HandS.Style
import HandS.TupAny
import HandS.TupMul
import HandS.Steps
import HandS.Evl
import HandS.Zip
import HandS.Walk
import HandS.Defaults
import HandS.HeadEnd
import HandS.HeadHook2
import HandS.Head2
import HandS.Conv
import HandS.Text
import HandS.Codes
import HandS.NoneIn
import HandS.CallLocal
import HandS.Strs
import HandS.Set
import HandS.SetKeys
import HandS.TupSets
import PyProof.Rows.SortShellK
import PyProof.Rows.SortStr
import HandS.Exc
import HandS.ExcOwn
import HandS.ExcIs
import HandS.WordsExc
import HandS.Deep
import KE.KDictList
import HandS.TupLe
import HandS.Dict
import KE.KDictKeyed
import KE.DataMinMax
import KE.DatumOrd
import HandS.Lambda
import PyProof.Rows.BitMore
import PyProof.AutoSeq1
import HandS.TryOnly
import PyProof.ListOps
import KE.KRevSl
import PyProof.DictUpdate
import PyProof.NeData
import KE.KEqDict
import HandS.BoundDict
import HandS.HotCalls
import HandS.ExcInit
import HandS.ExcField
import HandS.FStr
import HandS.RaiseMore
import PyProof.Rows.StrOr
import KE.KIntText
import HandS.HeadHook3
import PyProof.StrLawsFirst
import PySem.Challenge.RW_sumtold_k81_books_as_texts
set_option Elab.async false
set_option linter.all false
set_option maxRecDepth 100000
set_option maxHeartbeats 4000000
namespace Go
open PySem PySem.Spec PyProof.Rows L2
abbrev rAddI:R2:=rI0 fun i j=> .int (i+j)
abbrev rSubI:R2:=rI0 fun i j=> .int (i - j)
abbrev rMulI:R2:=rI CMul fun i j=> .int (i*j)
abbrev rMulX:R2:=rI CMulX fun i j=> .int (i*j)
abbrev rDivI:R2:=rI CDivW fun i j=> .int (i / j)
abbrev rModI:R2:=rI (fun _ j=>0 < j) fun i j=> .int (i % j)
abbrev rPowI:R2:=rI CPow fun i j=> .int (i^j.toNat)
abbrev rShrI:R2:=rI (fun _ j=>0≤j) fun i j=> .int (i / 2^j.toNat)
abbrev rAndI:R2:=rI0 fun i j=> .int (Builtin.bitAnd i j)
abbrev rLtI:R2:=rI0 fun i j=> .bl (decide (i < j))
abbrev rLeI:R2:=rI0 fun i j=> .bl (decide (i≤j))
abbrev rGtI:R2:=rI0 fun i j=> .bl (decide (j < i))
abbrev rGeI:R2:=rI0 fun i j=> .bl (decide (j≤i))
abbrev rNegI:V→Hp→VK→Prop:=rU fun i=> .int (-i)
abbrev rAbs:List V→Hp→VK→Prop:=fun xs H Q=> ∃i,xs= [.int i]∧Q (.int (if i < 0 then -i else i)) H
abbrev rMin2:List V→Hp→VK→Prop:=fun xs H Q=> ∃i j,xs= [.int i,.int j]∧Q (.int (if j < i then j else i)) H
abbrev rInt1:List V→Hp→VK→Prop:=fun xs H Q=>(∃i,xs= [.int i]∧Q (.int i) H)∨ ∃k,xs= [.bl k]∧Q (.int (if k then 1 else 0)) H
abbrev rTupOf (K:PySem.W.Frag):List V→Hp→VK→Prop:=fun xs H Q=> ∃p ys,xs= [.ref p]∧((SqL K H p ys∧ ∀l,H l=none→Q (.ref l) (upd H l (.tup ys)))∨(SqT K H p ys∧Q (.ref p) H))
abbrev rAddStr:R2:=fun x y H Q=> ∃i j,x= .str i∧y= .str j∧i.length+j.length≤sizeLine∧Q (.str (i ++ j)) H
abbrev rLenStr:List V→Hp→VK→Prop:=fun xs H Q=> ∃z,xs= [.str z]∧z.length≤sizeLine∧Q (.int z.length) H
abbrev FnP (K:PySem.W.Frag) (x:Str) (st:Stmt) (f:Addr) (fd:FuncData):Prop:=FunD K x x (defArgs st) (defBody st) (defScope st) [] [] f fd
def Has (P:Program) (w:World) (K:PySem.W.Frag) (mg:Str→Option Value) (base:Heap) (x:Str) (k:Nat) (ps:List Str) (sp:Sp):Prop:=
 ∃(f:Addr) (fd:FuncData),mg x=some (.ref f)∧PySem.W.keepIn K (.ref f)=true∧Binds K fd ps []∧FnOk P w K mg base CX0 k f fd ps sp
theorem pe_has {X:Cx} {x:Str} {p pos:Pos} {e:Expr} {es:List Expr} {t:TA} {k:Nat} {ps:List Str} {sp:Sp} (h:Has X.prog X.w X.K X.mg X.base x k ps sp) (hr:Room k X.A) (hg:Gl X x) (ha:PA X (e :: es) t)
  (hd:(x == ("__debug__" :Str))=false:=by decide) (he:starEach (e :: es) X.env=(false,eval e X.env) :: starEach es X.env:=by rfl) (hpl:(backTo pos (starEach es X.env)).any (·.1)=false:=by rfl) :
  PE X (.Call (.Name x p) (e :: es) [] pos) (tCall sp [] E0 t):=by
 obtain⟨f,fd,gm,kp,b,F⟩:=h
 exact pe_call F hr hg gm kp b .nil pass0 ha hd he hpl
section
variable {K:PySem.W.Frag} {σ:L2.St} {H H':Hp} {Q:VK} {QB:Bool→Hp→Prop} {D:Ends} {t u:TS} {c c':TT} {te ta tb tc:TE} {tr:TA} {i:Nat} {v x y:V} {r r':R2} {a b:Addr} {o:HO} {xs ys:List V}
theorem w_seq (h:t { D with nx:=u D } σ H):tSeq t u D σ H:=h
theorem w_next (h:D.nx σ H):tNext D σ H:=h
theorem w_asg (h:te σ H fun x H1=>D.nx (σ.set i (some x)) H1):tAsg te (gName i) D σ H:=h
theorem w_drop (h:te σ H fun _ H1=>D.nx σ H1):tDrop te D σ H:=h
theorem w_ret (h:te σ H D.rt):tRet te D σ H:=h
theorem w_if (h:c σ H fun b H1=>if b=true then t D σ H1 else u D σ H1):tIfS c t u D σ H:=h
theorem w_par {j:Nat} (h:tr σ H fun vs H1=> ∃v w,vs= [v,w]∧D.nx ((σ.set i (some v)).set j (some w)) H1):tPar i j tr D σ H:=h
theorem w_sub {to ti:TE} {ts:TSet} (h:te σ H fun x H1=>to σ H1 fun o H2=>ti σ H2 fun i H3=>ts o i x H3 fun H4=>D.nx σ H4):tAsg te (gSub to ti ts) D σ H:=h
theorem w_gName {QS:L2.St→Hp→Prop} (q:QS (σ.set i (some v)) H):gName i v σ H QS:=q
theorem w_gTup {n:Nat} {tg:TGs} {QS:L2.St→Hp→Prop} (h:SqT K H a xs) (hn:xs.length=n) (q:tg xs σ H QS):gTup K n tg (.ref a) σ H QS:=⟨a,xs,rfl,h,hn,q⟩
theorem w_gCons {g1:TG} {tg:TGs} {QS:L2.St→Hp→Prop} (q:g1 v σ H fun σ' H'=>tg xs σ' H' QS):gCons g1 tg (v :: xs) σ H QS:=⟨v,xs,rfl,q⟩
theorem w_gNil {QS:L2.St→Hp→Prop} (q:QS σ H):gNil [] σ H QS:=⟨rfl,q⟩
theorem w_asgG {g:TG} (h:te σ H fun x H1=>g x σ H1 D.nx):tAsg te g D σ H:=h
theorem w_var (h:σ[i]? =some (some v)) (q:Q v H):tVar i σ H Q:=⟨v,h,q⟩
theorem w_con (q:Q v H):tC v σ H Q:=q
theorem w_op (h:ta σ H fun x H1=>tb σ H1 fun y H2=>r x y H2 Q):tOp r ta tb σ H Q:=h
theorem w_un {r:V→Hp→VK→Prop} (h:ta σ H fun x H1=>r x H1 Q):tUn r ta σ H Q:=h
theorem w_I0 {g:Int→Int→V} {i j:Int} (q:Q (g i j) H):rI0 g (.int i) (.int j) H Q:=⟨i,j,rfl,rfl,q⟩
theorem w_I {C:Int→Int→Prop} {g:Int→Int→V} {i j:Int} (hc:C i j) (q:Q (g i j) H):rI C g (.int i) (.int j) H Q:=⟨i,j,rfl,rfl,hc,q⟩
theorem w_mulI {i j:Int} (hc:CMul i j) (q:Q (.int (i*j)) H):rMulI (.int i) (.int j) H Q:=w_I hc q
theorem w_modI {i j:Int} (hc:0 < j) (q:Q (.int (i % j)) H):rModI (.int i) (.int j) H Q:=w_I (C:=fun _ j=>0 < j) hc q
theorem w_divI {i j:Int} (hc:CDivW i j) (q:Q (.int (i / j)) H):rDivI (.int i) (.int j) H Q:=w_I hc q
theorem w_powI {i j:Int} (hc:CPow i j) (q:Q (.int (i^j.toNat)) H):rPowI (.int i) (.int j) H Q:=w_I hc q
theorem w_shrI {i j:Int} (hc:0≤j) (q:Q (.int (i / 2^j.toNat)) H):rShrI (.int i) (.int j) H Q:=w_I (C:=fun _ j=>0≤j) hc q
theorem w_mulX {i j:Int} (hc:CMulX i j) (q:Q (.int (i*j)) H):rMulX (.int i) (.int j) H Q:=w_I hc q
theorem w_U {g:Int→V} {i:Int} (q:Q (g i) H):rU g (.int i) H Q:=⟨i,rfl,q⟩
theorem w_eq (hs:scal x y=true) (q:Q (.bl (decide (x=y))) H):rEq x y H Q:=⟨hs,q⟩
theorem w_ne (hs:scal x y=true) (q:Q (.bl (!decide (x=y))) H):rNe x y H Q:=⟨hs,q⟩
theorem w_isB {p q:Bool} (h:Q (.bl (decide (p=q))) H):rIsB (.bl p) (.bl q) H Q:=⟨p,q,rfl,rfl,h⟩
theorem w_notB {p q:Bool} (h:Q (.bl (!decide (p=q))) H):rNotB (.bl p) (.bl q) H Q:=⟨p,q,rfl,rfl,h⟩
theorem w_isN (h:Q (.bl (decide (x= .non))) H):L2.rIsN x .non H Q:=⟨rfl,h⟩
theorem w_notN (h:Q (.bl (!decide (x= .non))) H):L2.rNotN x .non H Q:=⟨rfl,h⟩
theorem w_test (h:te σ H fun x H'=> ∃k,x= .bl k∧QB k H'):tTest te σ H QB:=h
theorem w_tB (h:te σ H fun x H'=> ∃k,x= .bl k∧QB k H'):tB te σ H QB:=h
theorem w_k {k:Bool} {R:Bool→Prop} (q:R k):∃k',V.bl k= .bl k'∧R k':=⟨k,rfl,q⟩
theorem w_not (h:c σ H fun k H1=>QB (!k) H1):tNot c σ H QB:=h
theorem w_and (h:c σ H fun k H1=>if k=true then c' σ H1 QB else QB false H1):tAnd c c' σ H QB:=h
theorem w_or (h:c σ H fun k H1=>if k=true then QB true H1 else c' σ H1 QB):tOr c c' σ H QB:=h
theorem w_andV (h:ta σ H fun x H1=> ∃k,x= .bl k∧if k=true then tb σ H1 Q else Q (.bl false) H1):tAndV ta tb σ H Q:=h
theorem w_orV (h:ta σ H fun x H1=> ∃k,x= .bl k∧if k=true then Q (.bl true) H1 else tb σ H1 Q):tOrV ta tb σ H Q:=h
theorem w_notV (h:ta σ H fun x H1=> ∃k,x= .bl k∧Q (.bl (!k)) H1):tNotV ta σ H Q:=h
theorem w_chain (h:ta σ H fun x H1=>tb σ H1 fun y H2=>r x y H2 fun z H3=> ∃k,z= .bl k∧(if k=true then tc σ H3 fun w' H4=>r' y w' H4 Q else Q (.bl false) H3)):tChain r r' ta tb tc σ H Q:=h
theorem w_orT (h:ta σ H fun x H1=> ∃k,TruV K x H1 k∧if k=true then Q x H1 else tb σ H1 Q):tOrT K ta tb σ H Q:=h
theorem w_andT (h:ta σ H fun x H1=> ∃k,TruV K x H1 k∧if k=true then tb σ H1 Q else Q x H1):tAndT K ta tb σ H Q:=h
theorem w_truI {n:Int} {R:Bool→Prop} (q:R (n != 0)):∃k,TruV K (.int n) H k∧R k:=⟨_,rfl,q⟩
theorem w_ifE (h:c σ H fun k H1=>if k=true then ta σ H1 Q else tb σ H1 Q):tIf c ta tb σ H Q:=h
theorem w_nil {QL:List V→Hp→Prop} (q:QL [] H):tNil σ H QL:=q
theorem w_cons {QL:List V→Hp→Prop} (h:te σ H fun x H1=>tr σ H1 fun xs H2=>QL (x :: xs) H2):tCons te tr σ H QL:=h
theorem w_tup (h:tr σ H fun xs H1=>xs.length≤sizeLine∧ ∀p,H1 p=none→Q (.ref p) (upd H1 p (.tup xs))):tTup tr σ H Q:=h
theorem w_lst (h:tr σ H fun xs H1=>xs.length≤sizeLine∧ ∀p,H1 p=none→Q (.ref p) (upd H1 p (.lst xs))):tLst tr σ H Q:=h
theorem w_call {sp:Sp} {E:XK} (h:tr σ H fun vs H1=>sp vs H1 Q E):tCall sp [] E tr σ H Q:=by
 show tr σ H fun vs H1=>sp (vs ++ []) H1 Q E
 simp only [List.append_nil]
 exact h
theorem w_cb {r:List V→Hp→VK→Prop} (h:tr σ H fun vs H1=>r vs H1 Q):tCB r tr σ H Q:=h
theorem w_ixL {k:Int} (h:SqL K H a xs) (ha:atI xs k=some v) (q:Q v H):rIxL K (.ref a) (.int k) H Q:=⟨a,xs,k,v,rfl,rfl,h,ha,q⟩
theorem w_ixT {k:Int} (h:SqT K H a xs) (ha:atI xs k=some v) (q:Q v H):rIxT K (.ref a) (.int k) H Q:=⟨a,xs,k,v,rfl,rfl,h,ha,q⟩
theorem w_ixsL {k:Int} (h:SqL K H a xs) (ha:atI xs k=some v) (q:Q v H):rIx K (.ref a) (.int k) H Q:= .inl ⟨a,xs,k,v,rfl,rfl,h,ha,q⟩
theorem w_ixsT {k:Int} (h:SqT K H a xs) (ha:atI xs k=some v) (q:Q v H):rIx K (.ref a) (.int k) H Q:= .inr (.inl ⟨a,xs,k,v,rfl,rfl,h,ha,q⟩)
theorem w_min2 {m n:Int} (q:Q (.int (if n < m then n else m)) H):rMin2 [.int m,.int n] H Q:=⟨m,n,rfl,q⟩
theorem w_max2 {m n:Int} (q:Q (.int (if n > m then n else m)) H):Evl.rMax2 [.int m,.int n] H Q:=⟨m,n,rfl,q⟩
theorem w_bitsI {n:Int} {R:Int→Prop} (q:R n):∃i,V.int n= .int i∧R i:=⟨n,rfl,q⟩
theorem w_abs {n:Int} (q:Q (.int (n.natAbs:Int)) H):rAbs [.int n] H Q:=⟨n,rfl,by
 have e:(if n < 0 then -n else n)=(n.natAbs:Int):=by split <;> omega
 rw [e];exact q⟩
theorem w_intB {k:Bool} (q:Q (.int (if k then 1 else 0)) H):rInt1 [.bl k] H Q:= .inr ⟨k,rfl,q⟩
theorem w_tupOfL (h:SqL K H a ys) (q:∀l,H l=none→Q (.ref l) (upd H l (.tup ys))):rTupOf K [.ref a] H Q:=⟨a,ys,rfl,.inl ⟨h,q⟩⟩
theorem w_lenL (h:SqL K H a xs) (q:Q (.int xs.length) H):Evl.rLenS K [.ref a] H Q:=⟨a,xs,rfl,.inl h,q⟩
theorem w_lenT (h:SqT K H a xs) (q:Q (.int xs.length) H):Evl.rLenS K [.ref a] H Q:=⟨a,xs,rfl,.inr h,q⟩
theorem w_isi {cc:V} {tt uu:Value} {k:Bool} (hc:ClsV cc uu) (ht:TyX K H x tt) (hk:PySem.W.kitOne K tt uu=some k) (q:Q (.bl k) H):rIsi K [x,cc] H Q:=⟨x,cc,tt,uu,k,rfl,hc,ht,hk,q⟩
theorem w_sl {rr:V→Option Int→Option Int→Hp→VK→Prop} {tl th:TO} (h:te σ H fun x H1=>tl σ H1 fun l H2=>th σ H2 fun u H3=>rr x l u H3 Q):tSl rr te tl th σ H Q:=h
theorem w_noPart {QO:Option Int→Hp→Prop} (q:QO none H):tNoPart σ H QO:=q
theorem w_part {QO:Option Int→Hp→Prop} (h:te σ H fun x H1=> ∃i,x= .int i∧QO (some i) H1):tPart te σ H QO:=h
theorem w_partI {R:Int→Prop} {n:Int} (q:R n):∃i,V.int n= .int i∧R i:=⟨n,rfl,q⟩
theorem w_slL {lo hi:Option Int} (h:SqL K H a xs) (q:∀p,H p=none→Q (.ref p) (upd H p (.lst (cutV xs lo hi)))):rSlL K (.ref a) lo hi H Q:=⟨a,xs,rfl,h,q⟩
theorem w_cat (h:H a=some (.lst xs)) (h':H b=some (.lst ys)) (hl:xs.length+ys.length≤sizeLine) (q:∀p,H p=none→Q (.ref p) (upd H p (.lst (xs ++ ys)))):rCat (.ref a) (.ref b) H Q:=⟨a,b,xs,ys,rfl,rfl,h,h',hl,q⟩
theorem w_eqD {d e:PyData} (h1:Dp K H x d) (h2:Dp K H y e) (s1:SeqAt.shaped d=true) (s2:SeqAt.shaped e=true) (q:Q (.bl (PyData.eqv d e)) H):rEqD K x y H Q:=⟨d,e,h1,h2,s1,s2,q⟩
theorem w_neD {d e:PyData} (h1:Dp K H x d) (h2:Dp K H y e) (s1:SeqAt.shaped d=true) (s2:SeqAt.shaped e=true) (q:Q (.bl (!PyData.eqv d e)) H):rNeD K x y H Q:=⟨d,e,h1,h2,s1,s2,q⟩
theorem w_bits (h:te σ H fun x H1=> ∃i,x= .int i∧Q (.int (Builtin.Int.intBits i:Nat)) H1):tBits te σ H Q:=h
theorem w_bm {T:String} {r:V→List V→Hp→VK→Prop} (h:te σ H fun x H1=>tyV K T x H1∧tr σ H1 fun xs H2=>r x xs H2 Q):tBM K T r te tr σ H Q:=h
theorem w_bm0 {T:String} {r:V→List V→Hp→VK→Prop} (h:te σ H fun x H1=>tyV K T x H1∧r x [] H1 Q):tBM0 K T r te σ H Q:=h
theorem w_tyL {R:Prop} (h:H a=some (.lst xs)) (q:R):tyV K "list" (.ref a) H∧R:=⟨.inl ⟨rfl,_,SqL.of h⟩,q⟩
theorem w_tyS {R:Prop} {z:Str} (q:R):tyV K "str" (.str z) H∧R:=⟨rfl,q⟩
theorem w_append (h:H a=some (.lst xs)) (hl:xs.length < sizeLine) (q:Q .non (upd H a (.lst (xs ++ [v])))):rAppend (.ref a) [v] H Q:=⟨a,xs,v,rfl,rfl,h,hl,q⟩
theorem keep {p:Addr} {u:HO} (h:H a=some o) (hp:H p=none):upd H p u a=some o:=by
 rw [upd_ne (ne_of_none h hp)];exact h
theorem get (e:Same H H') (h:H a=some o):H' a=some o:=e a o h
theorem same_new {p:Addr} {u:HO} (hp:H p=none):Same H (upd H p u):=fun _ _ h=>keep h hp
theorem sqL (h:H a=some (.lst xs)):SqL K H a xs:=SqL.of h
theorem sqT (h:H a=some (.tup xs)):SqT K H a xs:=SqT.of h
end
section
variable {K:PySem.W.Frag} {H:Hp} {Q:VK}
theorem i_int_int {n:Int} (q:Q (.bl true) H):rIsi K [.int n,.ty "int"] H Q:=w_isi (.ty _) (.base (.int n)) (kit_ty (a:= "int") (b:= "int") (r:=true) (by decide +kernel)) q
theorem i_int_bool {n:Int} (q:Q (.bl false) H):rIsi K [.int n,.ty "bool"] H Q:=w_isi (.ty _) (.base (.int n)) (kit_ty (a:= "int") (b:= "bool") (r:=false) (by decide +kernel)) q
theorem i_int_str {n:Int} (q:Q (.bl false) H):rIsi K [.int n,.ty "str"] H Q:=w_isi (.ty _) (.base (.int n)) (kit_ty (a:= "int") (b:= "str") (r:=false) (by decide +kernel)) q
theorem i_int_list {n:Int} (q:Q (.bl false) H):rIsi K [.int n,.ty "list"] H Q:=w_isi (.ty _) (.base (.int n)) (kit_ty (a:= "int") (b:= "list") (r:=false) (by decide +kernel)) q
theorem i_int_tuple {n:Int} (q:Q (.bl false) H):rIsi K [.int n,.ty "tuple"] H Q:=w_isi (.ty _) (.base (.int n)) (kit_ty (a:= "int") (b:= "tuple") (r:=false) (by decide +kernel)) q
theorem i_bl_int {b:Bool} (q:Q (.bl true) H):rIsi K [.bl b,.ty "int"] H Q:=w_isi (.ty _) (.base (.bl b)) (kit_ty (a:= "bool") (b:= "int") (r:=true) (by decide +kernel)) q
theorem i_bl_bool {b:Bool} (q:Q (.bl true) H):rIsi K [.bl b,.ty "bool"] H Q:=w_isi (.ty _) (.base (.bl b)) (kit_ty (a:= "bool") (b:= "bool") (r:=true) (by decide +kernel)) q
theorem i_bl_str {b:Bool} (q:Q (.bl false) H):rIsi K [.bl b,.ty "str"] H Q:=w_isi (.ty _) (.base (.bl b)) (kit_ty (a:= "bool") (b:= "str") (r:=false) (by decide +kernel)) q
theorem i_bl_list {b:Bool} (q:Q (.bl false) H):rIsi K [.bl b,.ty "list"] H Q:=w_isi (.ty _) (.base (.bl b)) (kit_ty (a:= "bool") (b:= "list") (r:=false) (by decide +kernel)) q
theorem i_bl_tuple {b:Bool} (q:Q (.bl false) H):rIsi K [.bl b,.ty "tuple"] H Q:=w_isi (.ty _) (.base (.bl b)) (kit_ty (a:= "bool") (b:= "tuple") (r:=false) (by decide +kernel)) q
theorem i_str_int {z:Str} (q:Q (.bl false) H):rIsi K [.str z,.ty "int"] H Q:=w_isi (.ty _) (.base (.str z)) (kit_ty (a:= "str") (b:= "int") (r:=false) (by decide +kernel)) q
theorem i_str_bool {z:Str} (q:Q (.bl false) H):rIsi K [.str z,.ty "bool"] H Q:=w_isi (.ty _) (.base (.str z)) (kit_ty (a:= "str") (b:= "bool") (r:=false) (by decide +kernel)) q
theorem i_str_str {z:Str} (q:Q (.bl true) H):rIsi K [.str z,.ty "str"] H Q:=w_isi (.ty _) (.base (.str z)) (kit_ty (a:= "str") (b:= "str") (r:=true) (by decide +kernel)) q
theorem i_str_list {z:Str} (q:Q (.bl false) H):rIsi K [.str z,.ty "list"] H Q:=w_isi (.ty _) (.base (.str z)) (kit_ty (a:= "str") (b:= "list") (r:=false) (by decide +kernel)) q
theorem i_str_tuple {z:Str} (q:Q (.bl false) H):rIsi K [.str z,.ty "tuple"] H Q:=w_isi (.ty _) (.base (.str z)) (kit_ty (a:= "str") (b:= "tuple") (r:=false) (by decide +kernel)) q
theorem i_non_int (q:Q (.bl false) H):rIsi K [.non,.ty "int"] H Q:=w_isi (.ty _) (.base .non) (kit_ty (a:= "NoneType") (b:= "int") (r:=false) (by decide +kernel)) q
theorem i_non_bool (q:Q (.bl false) H):rIsi K [.non,.ty "bool"] H Q:=w_isi (.ty _) (.base .non) (kit_ty (a:= "NoneType") (b:= "bool") (r:=false) (by decide +kernel)) q
theorem i_non_str (q:Q (.bl false) H):rIsi K [.non,.ty "str"] H Q:=w_isi (.ty _) (.base .non) (kit_ty (a:= "NoneType") (b:= "str") (r:=false) (by decide +kernel)) q
theorem i_non_list (q:Q (.bl false) H):rIsi K [.non,.ty "list"] H Q:=w_isi (.ty _) (.base .non) (kit_ty (a:= "NoneType") (b:= "list") (r:=false) (by decide +kernel)) q
theorem i_non_tuple (q:Q (.bl false) H):rIsi K [.non,.ty "tuple"] H Q:=w_isi (.ty _) (.base .non) (kit_ty (a:= "NoneType") (b:= "tuple") (r:=false) (by decide +kernel)) q
theorem i_lst_int {a:Addr} {xs:List V} (h:H a=some (.lst xs)) (q:Q (.bl false) H):rIsi K [.ref a,.ty "int"] H Q:=w_isi (.ty _) (.base (.lst h)) (kit_ty (a:= "list") (b:= "int") (r:=false) (by decide +kernel)) q
theorem i_lst_bool {a:Addr} {xs:List V} (h:H a=some (.lst xs)) (q:Q (.bl false) H):rIsi K [.ref a,.ty "bool"] H Q:=w_isi (.ty _) (.base (.lst h)) (kit_ty (a:= "list") (b:= "bool") (r:=false) (by decide +kernel)) q
theorem i_lst_str {a:Addr} {xs:List V} (h:H a=some (.lst xs)) (q:Q (.bl false) H):rIsi K [.ref a,.ty "str"] H Q:=w_isi (.ty _) (.base (.lst h)) (kit_ty (a:= "list") (b:= "str") (r:=false) (by decide +kernel)) q
theorem i_lst_list {a:Addr} {xs:List V} (h:H a=some (.lst xs)) (q:Q (.bl true) H):rIsi K [.ref a,.ty "list"] H Q:=w_isi (.ty _) (.base (.lst h)) (kit_ty (a:= "list") (b:= "list") (r:=true) (by decide +kernel)) q
theorem i_lst_tuple {a:Addr} {xs:List V} (h:H a=some (.lst xs)) (q:Q (.bl false) H):rIsi K [.ref a,.ty "tuple"] H Q:=w_isi (.ty _) (.base (.lst h)) (kit_ty (a:= "list") (b:= "tuple") (r:=false) (by decide +kernel)) q
theorem i_tup_int {a:Addr} {xs:List V} (h:H a=some (.tup xs)) (q:Q (.bl false) H):rIsi K [.ref a,.ty "int"] H Q:=w_isi (.ty _) (.base (.tup h)) (kit_ty (a:= "tuple") (b:= "int") (r:=false) (by decide +kernel)) q
theorem i_tup_bool {a:Addr} {xs:List V} (h:H a=some (.tup xs)) (q:Q (.bl false) H):rIsi K [.ref a,.ty "bool"] H Q:=w_isi (.ty _) (.base (.tup h)) (kit_ty (a:= "tuple") (b:= "bool") (r:=false) (by decide +kernel)) q
theorem i_tup_str {a:Addr} {xs:List V} (h:H a=some (.tup xs)) (q:Q (.bl false) H):rIsi K [.ref a,.ty "str"] H Q:=w_isi (.ty _) (.base (.tup h)) (kit_ty (a:= "tuple") (b:= "str") (r:=false) (by decide +kernel)) q
theorem i_tup_list {a:Addr} {xs:List V} (h:H a=some (.tup xs)) (q:Q (.bl false) H):rIsi K [.ref a,.ty "list"] H Q:=w_isi (.ty _) (.base (.tup h)) (kit_ty (a:= "tuple") (b:= "list") (r:=false) (by decide +kernel)) q
theorem i_tup_tuple {a:Addr} {xs:List V} (h:H a=some (.tup xs)) (q:Q (.bl true) H):rIsi K [.ref a,.ty "tuple"] H Q:=w_isi (.ty _) (.base (.tup h)) (kit_ty (a:= "tuple") (b:= "tuple") (r:=true) (by decide +kernel)) q
theorem i_dK_int {a:Addr} {kvs:List (Key×V)} (h:H a=some (.dK kvs)) (q:Q (.bl false) H):rIsi K [.ref a,.ty "int"] H Q:=w_isi (.ty _) (.base (.dK h)) (kit_ty (a:= "dict") (b:= "int") (r:=false) (by decide +kernel)) q
theorem i_dK_bool {a:Addr} {kvs:List (Key×V)} (h:H a=some (.dK kvs)) (q:Q (.bl false) H):rIsi K [.ref a,.ty "bool"] H Q:=w_isi (.ty _) (.base (.dK h)) (kit_ty (a:= "dict") (b:= "bool") (r:=false) (by decide +kernel)) q
theorem i_dK_str {a:Addr} {kvs:List (Key×V)} (h:H a=some (.dK kvs)) (q:Q (.bl false) H):rIsi K [.ref a,.ty "str"] H Q:=w_isi (.ty _) (.base (.dK h)) (kit_ty (a:= "dict") (b:= "str") (r:=false) (by decide +kernel)) q
theorem i_dK_list {a:Addr} {kvs:List (Key×V)} (h:H a=some (.dK kvs)) (q:Q (.bl false) H):rIsi K [.ref a,.ty "list"] H Q:=w_isi (.ty _) (.base (.dK h)) (kit_ty (a:= "dict") (b:= "list") (r:=false) (by decide +kernel)) q
theorem i_dK_tuple {a:Addr} {kvs:List (Key×V)} (h:H a=some (.dK kvs)) (q:Q (.bl false) H):rIsi K [.ref a,.ty "tuple"] H Q:=w_isi (.ty _) (.base (.dK h)) (kit_ty (a:= "dict") (b:= "tuple") (r:=false) (by decide +kernel)) q
end
section
variable {K:PySem.W.Frag} {σ:L2.St} {H:Hp} {D:Ends} {g:TG} {tb:TS} {tl:TE} {ta:TA}
theorem w_forI {wi:TI} (h:wi σ H fun J H1=> ∃W:Nat→Nat→L2.St→Hp→Prop,(∃m,W 0 m σ H1)∧ ∀i m σ H,W i m σ H→
  (J.stop i H∧D.nx σ H)∨(J.go i H∧ ∃N:L2.St→Hp→Prop,(∀σ' H',N σ' H'→ ∃m',m' < m∧W (i+1) m' σ' H')∧ ∀x H',J.yld i H x H'→g x σ H' fun σ2 H2=>tb { D with nx:=N,ct:=N,bk:=D.nx } σ2 H2)):tFor wi g tb D σ H:=h
theorem w_iL {R:It→Hp→Prop} (h:tl σ H fun x H1=> ∃a,x= .ref a∧(∃xs,SqL K H1 a xs)∧R (Itl K a) H1):iList K tl σ H R:=h
theorem w_iT {R:It→Hp→Prop} (h:tl σ H fun x H1=> ∃a,x= .ref a∧(∃xs,SqT K H1 a xs)∧R (Itt K a) H1):iTup K tl σ H R:=h
theorem w_iR1 {R:It→Hp→Prop} (h:ta σ H fun vs H1=> ∃j:Int,vs= [.int j]∧ -(2^62)≤j∧j < 2^62∧R (Itr 0 j.toNat) H1):iRng1 ta σ H R:=h
theorem w_iR2 {R:It→Hp→Prop} (h:ta σ H fun vs H1=> ∃i j:Int,vs= [.int i,.int j]∧(-(2^62)≤i∧i < 2^62∧ -(2^62)≤j∧j < 2^62)∧R (Itr i (j - i).toNat) H1):iRng2 ta σ H R:=h
theorem w_iZT {R:It→Hp→Prop} (h:ta σ H fun vs H1=> ∃a b xs ys,vs= [.ref a,.ref b]∧((SqL K H1 a xs∧SqL K H1 b ys∧R (Itz K a b) H1)∨(SqT K H1 a xs∧SqT K H1 b ys∧R (RZ.ItzT K a b) H1))):RZ.iZipA K ta σ H R:=h
theorem walk_zipT {a b:Addr} {xs ys:List V} {n:Nat} (hn:n=min xs.length ys.length):Walk (RZ.ItzT K a b) n (fun H=>SqT K H a xs∧SqT K H b ys) (YPair (fun i=>xs[i]?) (fun i=>ys[i]?)) where
 goes:=fun i H hi h=>⟨xs,ys,xs[i],ys[i],h.1,h.2,List.getElem?_eq_getElem (by omega),List.getElem?_eq_getElem (by omega)⟩
 stops:=fun H h=>⟨xs,ys,h.1,h.2,by omega⟩
 yields:=fun i H x H' hi h y=>by
  obtain⟨T,u,v,e,n,e2,f1,f2⟩:=y
  exact⟨T,u,v,e,n,e2,f1 xs h.1,f2 ys h.2⟩
theorem w_lc {wi:TI} {tt:TT} {te:TE} {vs:List Nat} {Q:VK} (h:wi σ H fun J H1=> ∀D,H1 D=none→ ∃W:Nat→Nat→Hp→Prop,(∃m,W 0 m (upd H1 D (.lst [])))∧ ∀i m H,W i m H→
 (J.stop i H∧Q (.ref D) H)∨(J.go i H∧ ∃Nx:Hp→Prop,(∀H',Nx H'→ ∃m',m' < m∧W (i+1) m' H')∧ ∀x H',J.yld i H x H'→g x (wipe σ vs) H' fun σ2 H2=>wipe σ2 vs=wipe σ vs∧tt σ2 H2 fun b H3=>
  if b=true then te σ2 H3 fun y H4=> ∃acc,H4 D=some (.lst acc)∧acc.length < sizeLine∧Nx (upd H4 D (.lst (acc ++ [y]))) else Nx H3)):tLc wi g tt te vs σ H Q:=h
end
theorem if_t {c:Bool} {A B:Prop} (hc:c=true) (h:A):if c=true then A else B:=by rw [if_pos hc];exact h
theorem if_f {c:Bool} {A B:Prop} (hc:c=false) (h:B):if c=true then A else B:=by rw [hc,if_neg Bool.false_ne_true];exact h
theorem if_2 {c:Prop} [Decidable c] {A B:Prop} (h1:c→A) (h2: ¬ c→B):if decide c=true then A else B:=by
 by_cases h:c
 ·exact if_t (decide_eq_true h) (h1 h)
 ·exact if_f (decide_eq_false h) (h2 h)
theorem if_b {c:Bool} {A B:Prop} (h1:c=true→A) (h2:c=false→B):if c=true then A else B:=by
 cases c with
 | true=>exact if_t rfl (h1 rfl)
 | false=>exact if_f rfl (h2 rfl)
end Go
set_option Elab.async false
set_option linter.all false
set_option maxRecDepth 100000
set_option maxHeartbeats 4000000
namespace Go
open PySem PySem.Spec PyProof.Rows L2
theorem pe_globI {X:Cx} {x:Str} {i:Int} {pos:Pos} (hg:Gl X x) (h:∃t,X.mg x=some (.int i t)) (hd:(x == ("__debug__" :Str))=false:=by decide):PE X (.Name x pos) (tC (.int i)):=by
 obtain⟨t,h⟩:=h
 exact pe_glob hg h ⟨t,rfl⟩ hd
theorem pe_globS {X:Cx} {x z:Str} {pos:Pos} (hg:Gl X x) (h:∃t,X.mg x=some (.str z t)) (hd:(x == ("__debug__" :Str))=false:=by decide):PE X (.Name x pos) (tC (.str z)):=by
 obtain⟨t,h⟩:=h
 exact pe_glob hg h ⟨t,rfl⟩ hd
abbrev one1 (c:Nat):V:= .str ⟨#[c]⟩
abbrev rRepStr:R2:=fun x y H Q=> ∃(z:Str) (n:Nat),x= .str z∧y= .int (n:Int)∧z.length*n≤1000∧n≤1000∧Q (.str (Txt.mul z (n:Int))) H
theorem op_rep_str {X:Cx} :OpR X (binaryOp .Mult) rRepStr:=by
 intro pins s σ H x y v u Q I rx ry h
 obtain⟨z,n,rfl,rfl,hz,hn,q⟩:=h
 obtain⟨t,rfl⟩:=rx
 obtain⟨t',rfl⟩:=ry
 refine SB.mul ⟨?_,fun h1 h2=> ?_,fun h1 h2=> ?_⟩ fun t2 k=>⟨.str (Txt.mul z (n:Int)),H,?_,⟨_,rfl⟩,q⟩
 ·rw [decide_eq_false (by omega),decide_eq_false (by omega)];rfl
 ·intro h3
  have h4:(z.length:Int)*n≤1000:=by exact_mod_cast hz
  have h5:1≤(n:Int):=by omega
  have h6:(1000:Int)≤(2^63 - 1) / n:=by
   rw [Int.le_ediv_iff_mul_le (by omega)]
   omega
  have h7:(z.length:Int)≤z.length*n:=by
   have:=Int.mul_le_mul_of_nonneg_left h5 (Int.natCast_nonneg z.length)
   omega
  omega
 ·rw [Int.toNat_natCast]
  have h9: ¬ z.length*n > sizeLine:=Nat.not_lt.mpr (Nat.le_trans hz (by decide))
  exact decide_eq_false h9
 ·exact I.tok _
abbrev rLtS:R2:=fun x y H Q=> ∃i j,x= .str i∧y= .str j∧Q (.bl (decide (i.cps.toList < j.cps.toList))) H
abbrev tJoin (K:PySem.W.Frag) (to te:TE):TE:=tM1 (fun x xs H Q=> ∃a p,∃ys:List Str,x= .str a∧xs= [.ref p]∧(SqL K H p (ys.map V.str)∨SqT K H p (ys.map V.str))∧
   (ys.map (·.length)).sum+ys.length*a.length≤16777216∧Q (.str (Txt.join a ys)) H) to te
abbrev tSplit (to te:TE):TE:=tM1 (fun x xs H Q=> ∃a b,x= .str a∧xs= [.str b]∧(b.length == 0)=false∧a.length+2≤sizeLine∧rNewStrs (Txt.split a b) H Q) to te
section
variable {K:PySem.W.Frag} {σ:L2.St} {H H':Hp} {Q:VK} {te to:TE} {a b:Addr} {xs ys:List V} {v:V} {z z':Str}
theorem w_lenStr (hl:z.length≤sizeLine) (q:Q (.int z.length) H):rLenStr [.str z] H Q:=⟨z,rfl,hl,q⟩
theorem w_ixS {i:Int} {c:Nat} (hl:z.length≤sizeLine) (hc:atI z.cps.toList i=some c) (q:Q (one1 c) H):rIxS (.str z) (.int i) H Q:=⟨z,i,c,rfl,rfl,hl,hc,q⟩
theorem w_slS {lo hi:Option Int} (hl:z.length≤sizeLine) (q:Q (.str (cutS z lo hi)) H):rSlS (.str z) lo hi H Q:=⟨z,rfl,hl,q⟩
theorem w_addStr (hl:z.length+z'.length≤sizeLine) (q:Q (.str (z ++ z')) H):rAddStr (.str z) (.str z') H Q:=⟨z,z',rfl,rfl,hl,q⟩
theorem w_inS {c:Nat} (q:Q (.bl (decide (c∈z.cps.toList))) H):rInS (one1 c) (.str z) H Q:=⟨c,z,rfl,rfl,q⟩
theorem w_listT (h:SqT K H a ys) (q:∀l,H l=none→Q (.ref l) (upd H l (.lst ys))):Evl.rListS K [.ref a] H Q:=⟨a,ys,rfl,.inr h,q⟩
theorem w_listL (h:SqL K H a ys) (q:∀l,H l=none→Q (.ref l) (upd H l (.lst ys))):Evl.rListS K [.ref a] H Q:=⟨a,ys,rfl,.inl h,q⟩
theorem w_gUnl {n:Nat} {tg:TGs} {QS:L2.St→Hp→Prop} (h:SqL K H a xs) (hn:xs.length=n) (q:tg xs σ H QS):gUnl K n tg (.ref a) σ H QS:=⟨a,xs,rfl,h,hn,q⟩
theorem w_in {neg:Bool} (h:SqL K H a xs∨SqT K H a xs) (fx:flatV v=true) (fs:xs.all flatV=true) (q:Q (.bl (if neg then !inV v xs else inV v xs)) H):rIn K neg v (.ref a) H Q:=⟨a,xs,rfl,h,fx,fs,q⟩
theorem w_rep_str {n:Nat} (h1:z.length*n≤1000) (h2:n≤1000) (q:Q (.str (Txt.mul z (n:Int))) H):rRepStr (.str z) (.int (n:Int)) H Q:=⟨z,n,rfl,rfl,h1,h2,q⟩
end
inductive Kd (H:Hp):V→String→Prop
 | int (n:Int):Kd H (.int n) "int"
 | bl (b:Bool):Kd H (.bl b) "bool"
 | str (z:Str):Kd H (.str z) "str"
 | non:Kd H .non "NoneType"
 | lst {a:Addr} {xs:List V} (h:H a=some (.lst xs)):Kd H (.ref a) "list"
 | tup {a:Addr} {xs:List V} (h:H a=some (.tup xs)):Kd H (.ref a) "tuple"
 | dict {a:Addr} {kvs:List (Key×V)} (h:H a=some (.dK kvs)):Kd H (.ref a) "dict"
section
variable {K:PySem.W.Frag} {H H':Hp} {Q:VK} {v:V} {T:String}
theorem Kd.same (h:Kd H v T) (s:Same H H'):Kd H' v T:=by
 cases h with
 | int n=>exact .int n
 | bl b=>exact .bl b
 | str z=>exact .str z
 | non=>exact .non
 | lst h=>exact .lst (s _ _ h)
 | tup h=>exact .tup (s _ _ h)
 | dict h=>exact .dict (s _ _ h)
end
end Go
set_option Elab.async false
set_option linter.all false
set_option maxRecDepth 100000
set_option maxHeartbeats 4000000
namespace Go
open PySem PySem.Spec PyProof.Rows L2
section
variable {κ:Type} [DecidableEq κ]
/-- each once, as first met -/
def once (l:List κ):List κ:=l.foldl (fun acc k=>if k∈acc then acc else acc ++ [k]) []
theorem once_snoc (l:List κ) (k:κ):once (l ++ [k])=if k∈once l then once l else once l ++ [k]:=by
 unfold once
 rw [List.foldl_append];rfl
theorem snoc_ind {P:List κ→Prop} (h0:P []) (hs:∀l x,P l→P (l ++ [x])) (l:List κ):P l:=by
 have h:∀m:List κ,P m.reverse:=fun m=>by
  induction m with
  | nil=>exact h0
  | cons x m ih=>rw [List.reverse_cons];exact hs _ _ ih
 have:=h l.reverse
 rw [List.reverse_reverse] at this
 exact this
theorem mem_once {k:κ} :∀ {l:List κ},k∈once l↔k∈l:=by
 intro l
 refine snoc_ind (P:=fun l=>k∈once l↔k∈l) Iff.rfl (fun l x ih=> ?_) l
 ·rw [once_snoc]
  by_cases h:x∈once l
  ·rw [if_pos h]
   constructor
   ·intro m;exact List.mem_append.mpr (.inl (ih.mp m))
   ·intro m
    rcases List.mem_append.mp m with m | m
    ·exact ih.mpr m
    ·rw [List.mem_singleton.mp m];exact h
  ·rw [if_neg h,List.mem_append,List.mem_append,ih]
theorem once_len (l:List κ):(once l).length≤l.length:=by
 refine snoc_ind (P:=fun l=>(once l).length≤l.length) (Nat.le_refl _) (fun l x ih=> ?_) l
 ·rw [once_snoc,List.length_append]
  split
  ·exact Nat.le_succ_of_le ih
  ·rw [List.length_append];exact Nat.add_le_add_right ih _
theorem one_nodup (x:κ): [x].Nodup:=List.nodup_cons.mpr ⟨List.not_mem_nil,.nil⟩
end
section
variable {prog:Program} {w:World} {A:Around} {E:Value→Shared→Prop} {s:Shared} {κ:Type} [DecidableEq κ] {knd:PySem.KeyKind prog w κ}
/-- a new set -/
abbrev set0 (led:Bool):Obj:= { cls:= .type "set",dict:=none,data:= .set #[] 0 (.fresh 0 0 led) }
end
end Go
set_option Elab.async false
set_option linter.all false
set_option maxRecDepth 100000
set_option maxHeartbeats 4000000
namespace Go
open PySem PySem.Spec PyProof.Rows L2
section
variable {P:Program} {w:World} {A:Around} {E:Value→Shared→Prop} {s:Shared} {κ:Type} [DecidableEq κ] {knd:PySem.KeyKind P w κ}
variable (knd) in
/-- a tuple's hash -/
abbrev th (k:List κ):Int:=tupleKeyHash knd k
variable (knd) in
def rws (L:List (Addr×List κ)):List (Int×Value):=L.map fun p=>(th knd p.2,Value.ref p.1)
variable (knd) in
/-- at a the set of the tuples L, in the order of its table -/
structure TupS (h:Heap) (a:Addr) (L:List (Addr×List κ)) (es:Array (Int×Value)) (ep:Nat) (t:SetTable):Prop where
 ob:∃o,h.get? a=some o∧o.ExactSet∧o.data= .set es ep t
 rows:es.toList=rws knd L
 tab:TabOk t (L.map fun p=>th knd p.2)
 nd:(L.map (·.2)).Nodup
 tup:∀p∈L,IsTupleKey knd h p.2 p.1
 room:L.length*5 < t.mask*3
 few:L.length < 64
variable {a:Addr} {L:List (Addr×List κ)} {es:Array (Int×Value)} {ep:Nat} {t:SetTable}
theorem rws_len (hr:es.toList=rws knd L):es.size=L.length:=by
 rw [← Array.length_toList,hr]
 exact List.length_map _
theorem TupS.fits (R:TupS knd s.heap a L es ep t):t.fits es.size=true:=by
 have h1:t.place.size=L.length:=by rw [R.tab.sz,List.length_map]
 have h2:=rws_len R.rows
 have h3:=R.room
 unfold SetTable.fits SetTable.fill
 rw [R.tab.dm,Bool.and_eq_true,beq_iff_eq,decide_eq_true_eq]
 show t.place.size=es.size∧t.place.size+0≤t.mask
 omega
/-- what the set holds of the first i -/
structure Held1 (ks:List (Addr×List κ)) (i:Nat) (L:List (Addr×List κ)):Prop where
 sub:∀p∈L,p∈ks
 mem:∀k,k∈L.map (·.2)↔k∈(ks.take i).map (·.2)
 len:L.length=(once ((ks.take i).map (·.2))).length
theorem Held1.step {ks:List (Addr×List κ)} {i:Nat} {L L':List (Addr×List κ)} {x:Addr×List κ} (g:Held1 ks i L) (h:ks[i]? =some x) (c1:x.2∈L.map (·.2)→L'=L) (c2:x.2∉L.map (·.2)→L'.Perm (x :: L)):Held1 ks (i+1) L':=by
 have e:(ks.take (i+1)).map (·.2)=(ks.take i).map (·.2) ++ [x.2]:=by rw [List.take_add_one,h,List.map_append];rfl
 by_cases m:x.2∈L.map (·.2)
 ·rw [c1 m]
  have m2:=(g.mem x.2).mp m
  refine⟨g.sub,fun k=> ?_,?_⟩
  ·rw [g.mem,e,List.mem_append,List.mem_singleton]
   exact⟨.inl,fun z=>z.elim id fun z=>z ▸ m2⟩
  ·rw [e,once_snoc,if_pos (mem_once.mpr m2)];exact g.len
 ·have pm:=c2 m
  have m2:x.2∉(ks.take i).map (·.2):=fun z=>m ((g.mem x.2).mpr z)
  refine⟨fun p hp=> ?_,fun k=> ?_,?_⟩
  ·rcases List.mem_cons.mp (pm.mem_iff.mp hp) with z | z
   ·rw [z];exact List.mem_of_getElem? h
   ·exact g.sub p z
  ·rw [(pm.map (·.2)).mem_iff,List.map_cons,List.mem_cons,g.mem,e,List.mem_append,List.mem_singleton]
   exact Or.comm
  ·rw [pm.length_eq,List.length_cons,e,once_snoc,if_neg fun z=>m2 (mem_once.mp z),List.length_append,g.len];rfl
end
end Go
set_option Elab.async false
set_option linter.all false
set_option maxRecDepth 100000
set_option maxHeartbeats 4000000
namespace Go
open PySem PySem.Spec PyProof.Rows L2
end Go
set_option Elab.async false
set_option linter.all false
set_option maxRecDepth 100000
set_option maxHeartbeats 4000000
namespace Go
open PySem PySem.Spec PyProof.Rows L2
end Go
set_option Elab.async false
set_option linter.all false
set_option maxRecDepth 100000
set_option maxHeartbeats 4000000
namespace Go
open PySem PySem.Spec PyProof.Rows L2
end Go
set_option Elab.async false
set_option linter.all false
set_option maxRecDepth 100000
set_option maxHeartbeats 4000000
namespace Go
open PySem PySem.Spec PyProof.Rows L2
theorem un65 {A:Around} {k:Nat} (hr:Room k A):A.units+65 < cLine:=by
 have:=hr.un
 omega
def HasX (P:Program) (w:World) (K:PySem.W.Frag) (mg:Str→Option Value) (base:Heap) (x:Str) (k:Nat) (ps:List Str) (sp:Sp):Prop:=
 ∃(f:Addr) (fd:FuncData),mg x=some (.ref f)∧PySem.W.keepIn K (.ref f)=true∧Binds K fd ps []∧FnOk P w K mg base (L2.CX P w) k f fd ps sp
theorem pe_hasX {X:Cx} {W:WX} {x:Str} {p pos:Pos} {e:Expr} {es:List Expr} {t:TA} {k:Nat} {ps:List Str} {sp:Sp} (h:HasX X.prog X.w X.K X.mg X.base x k ps sp) (hr:Room k X.A) (hg:Gl X x) (tk:L2.Takes X W) (ha:PA X (e :: es) t)
  (hd:(x == ("__debug__" :Str))=false:=by decide) (he:starEach (e :: es) X.env=(false,eval e X.env) :: starEach es X.env:=by rfl) (hpl:(backTo pos (starEach es X.env)).any (·.1)=false:=by rfl) :
  PE X (.Call (.Name x p) (e :: es) [] pos) (tCallS sp (WE W) t):=by
 obtain⟨f,fd,gm,kp,b,F⟩:=h
 exact pe_callS F hr hg gm kp b (fun σ=>passAt tk σ) ha hd he hpl
/-- what is to be known of an own error class -/
structure ExcK (K:PySem.W.Frag) (C:Addr):Prop where
 q:PySem.W.excIn K C [.type "ValueError",.type "Exception",.type "BaseException",.type "object"] "ValueError.__new__" =true
 kC:PySem.W.keepIn K (.ref C)=true
 s1:PySem.W.subIn K (.ref C) (.type "BaseException")=some true
 t1:PySem.W.typeIn K (.ref C)=some (.type "type")
 ec:ExcC K C
def tRaise (E:XK) (C:Addr):L2.TS:=fun _ _ H=>E (.ref C) none H
theorem ps_raiseOwn {X:Cx} {E:XK} {C:Addr} {x m:Str} {j:Nat} {p p2 pos pos':Pos} (hc:X.calm=true) (tk:L2.Takes X (fun cls d _ H=>E cls d H)) (k:ExcK X.K C) (gC:X.mg x=some (.ref C)) (hg:Gl X x) (hdb:(x == ("__debug__" :Str))=false:=by decide) :
  PS X (.Raise (some (.Call (.Name x p) [.Constant (.str m) j p2] [] pos)) none pos') (tRaise E C):=L2.ps_raise hc tk (L2.pmk_own PySem.F.excBase_ValueError k.q gC k.kC (raises_own k.s1 k.t1) hg hdb)
def excB (K:PySem.W.Frag) (C:Addr):Bool:=
 PySem.W.excIn K C [.type "ValueError",.type "Exception",.type "BaseException",.type "object"] "ValueError.__new__" && PySem.W.keepIn K (.ref C) && (PySem.W.subIn K (.ref C) (.type "BaseException") == some true) && (PySem.W.typeIn K (.ref C) == some (.type "type")) &&
 (PySem.W.findIn K (.ref C) "__getattribute__" == some (some (.builtin "BaseException.__getattribute__"))) && (PySem.W.findIn K (.ref C) "__getattr__" == some none) && PySem.W.hasDictIn K C && (PySem.W.findIn K (.ref C) "__class__" == some (some (.builtin "object.__class__"))) &&
 (PySem.W.specialIn K (.builtin "object.__class__") "__get__" == some (some (.builtin "getset_descriptor.__get__"))) && (PySem.W.takesIn K (.builtin "object.__class__") == some true) && (PySem.W.mroIn K C (.type "object") == some true)
theorem excB_ok {K:PySem.W.Frag} {C:Addr} (h:excB K C=true):ExcK K C:=by
 unfold excB at h
 simp only [Bool.and_eq_true,beq_iff_eq] at h
 obtain⟨⟨⟨⟨⟨⟨⟨⟨⟨⟨a1,a2⟩,a3⟩,a4⟩,a5⟩,a6⟩,a7⟩,a8⟩,a9⟩,a10⟩,a11⟩:=h
 exact⟨a1,a2,a3,a4,⟨a5,a6,a3,a7,a8,a9,a10,a11⟩⟩
end Go
set_option Elab.async false
set_option linter.all false
set_option maxRecDepth 100000
set_option maxHeartbeats 4000000
namespace Go
open PySem PySem.Spec PyProof.Rows L2
theorem kt_of {K:PySem.W.Frag} {a:Addr} {xs:List V} (h:∀H,SqT K H a xs):∃(o:Obj) (its:Array Value) (n:Nat),K.lookup a=some o∧o.cls= .type "tuple" ∧o.data= .seq its n∧its.size≤sizeLine∧Vals xs its.toList:=by
 rcases h (fun _=>none) with(h | ⟨o,h⟩) | h
 ·cases h
 ·cases h
 ·exact h
end Go
set_option Elab.async false
set_option linter.all false
set_option maxRecDepth 100000
set_option maxHeartbeats 4000000
namespace Go
open PySem PySem.Spec PyProof.Rows L2
def txK (e:Int×Value):Str:=match e.2 with | .str k _=>k | _=>Str.empty
def TxE (w:World) (e:Int×Value):Prop:= ∃k tk,e.2=Value.str k tk∧e.1=hashStr w k
/-- the set of texts at a: its members are zs -/
def TxR (w:World) (h:Heap) (a:Addr) (zs:List Str):Prop:=
 ∃o es ep t,h.get? a=some o∧o.ExactSet∧o.data= .set es ep t∧(∀e∈es.toList,TxE w e)∧(es.toList.map txK).Perm zs∧zs.Nodup∧es.size < scanBound∧t.fits es.size=true∧Ris t.place.toList∧(w.params.followText "set-order" =true∨t.led=true)
section
variable {P:Program} {w:World} {h h':Heap} {a:Addr} {zs:List Str}
theorem TxR.off (R:TxR w h a zs) (k:∀o,h.get? a=some o→h'.get? a=some o):TxR w h' a zs:=by
 obtain⟨o,es,ep,t,ho,r⟩:=R
 exact⟨o,es,ep,t,k o ho,r⟩
theorem tx_is (k:Str) (tk:Tok):(PySem.strKind P w).is k (.str k tk)=true:=by
 show Value.isStrOf k (.str k tk)=true
 unfold Value.isStrOf
 simp
theorem tx_elems {l:List (Int×Value)} (g:∀e∈l,TxE w e):ElemsOf (PySem.strKind P w) l:=fun e he=>by
 obtain⟨k,tk,e1,e2⟩:=g e he
 refine⟨⟨k,?_,e2⟩,?_⟩
 ·rw [e1];exact tx_is k tk
 ·rw [e1];rfl
theorem tx_at {e:Int×Value} (g:TxE w e) (k:Str) (hk:(PySem.strKind P w).is k e.2=true):txK e=k:=by
 obtain⟨k0,tk,e1,_⟩:=g
 rw [e1] at hk
 have:Value.isStrOf k (.str k0 tk)=true:=hk
 obtain⟨t,q⟩:=Value.isStrOf_shape this
 injection q with q1
 unfold txK
 rw [e1];exact q1
theorem tx_of {e:Int×Value} (g:TxE w e):(PySem.strKind P w).is (txK e) e.2=true:=by
 obtain⟨k0,tk,e1,_⟩:=g
 unfold txK
 rw [e1];exact tx_is k0 tk
end
section
variable {P:Program} {w:World} {A:Around} {E:Value→Shared→Prop} {s:Shared} {a:Addr} {zs:List Str}
theorem tx_tail {g:Bool→Sem Unit} (hg:∀(b:Bool) (s₁:Shared) (Q':Unit→Shared→Prop),Q' () s₁→wpAny (model P w) A (g b) Q' E s₁) {o:Obj} {es:Array (Int×Value)} {ep:Nat} {t:SetTable} (ho:s.heap.get? a=some o) (hex:o.ExactSet) (hd:o.data= .set es ep t)
  {fs:Array (Int×Value)} {u:SetTable} {ys:List Str} (g1:∀e∈fs.toList,TxE w e) (p1:(fs.toList.map txK).Perm ys) (n1:ys.Nodup) (b1:fs.size < scanBound) (f1:u.fits fs.size=true) (r1:Ris u.place.toList) (l1:w.params.followText "set-order" =true∨u.led=true) {wd:Bool} {R:Option Bool→Shared→Prop}
  (hR:∀h',Heap.SameBut a s.heap h'→TxR w h' a ys→R (some true) { s with heap:=h' }) :
    wpAny (model P w) A (do storeSet a fs u
                            if (!wd && u.tooFull) = true then do g (relayAll u fs (SetTable.grown fs.size)).2.2
                                                                 storeSet a (relayAll u fs (SetTable.grown fs.size)).1 (relayAll u fs (SetTable.grown fs.size)).2.1
                                                                 pure (some true)
                            else pure (some true)) R E s := by
 refine wpAny_bind (wpAny_storeSet_of ho hd ?_ (fits_of_scanBound b1))
 have o1:=L2.store_at (es':=fs) (t':=u) ho hd
 have same:=Heap.SameBut.update s.heap a (Obj.putSet fs u)
 split
 ·have q1:=relayAll_perm u fs (SetTable.grown fs.size)
  have q2:=relayAll_fits u fs (SetTable.grown fs.size)
  have q3:=L2.relayAll_ris u fs (SetTable.grown fs.size)
  have q4:=L2.relayAll_led u fs (SetTable.grown fs.size)
  generalize relayAll u fs (SetTable.grown fs.size)=Z at q1 q2 q3 q4 ⊢
  obtain⟨gs,u2,gave⟩:=Z
  dsimp only at q1 q2 q3 q4 ⊢
  have z:gs.size=fs.size:=by rw [← Array.length_toList,q1.length_eq,Array.length_toList]
  have b2:gs.size < scanBound:=by rw [z];exact b1
  refine wpAny_bind (hg _ _ _ ?_)
  refine wpAny_bind (wpAny_storeSet_of o1 rfl ?_ (fits_of_scanBound b2))
  have o2:=L2.store_at (es':=gs) (t':=u2) o1 rfl
  exact wpAny_pure (hR _ (same.trans (Heap.SameBut.update _ a _)) ⟨_,gs,_,u2,o2,hex,rfl,fun e he=>g1 e (q1.mem_iff.mp he),(q1.map txK).trans p1,n1,b2,q2,q3,l1.imp id fun y=>by rw [q4];exact y⟩)
 ·exact wpAny_pure (hR _ same ⟨_,fs,_,u,o1,hex,rfl,g1,p1,n1,b1,f1,r1,l1⟩)
theorem tx_add {k:Str} {tk:Tok} {Q:Bool→Shared→Prop} (R:TxR w s.heap a zs) (room:zs.length+1 < scanBound) (hQ:∀h' b,Heap.SameBut a s.heap h'→TxR w h' a (if k∈zs then zs else zs ++ [k])→Q b { s with heap:=h' }) :
  wpAny (model P w) A (setAddHashed a (.str k tk) ((PySem.strKind P w).hash k)) Q E s:=by
 obtain⟨o,es,ep,t,ho,hex,hd,g,pz,nd,hb,hf,hr,hl⟩:=R
 have sc:(Value.str k tk).scannable=true:=rfl
 have el:ElemsOf (PySem.strKind P w) es.toList:=tx_elems g
 unfold setAddHashed setAddHashedIn
 refine wpAny_holding (wpAny_bind (wpAny_setState_of ho hd hf ?_))
 dsimp only
 rw [byScan_of sc hb el]
 simp only [↓reduceIte]
 unfold setAddByScan
 refine wpAny_bind ?_
 refine wpAny_bind (wpAny_rule ?_)
 refine wpAny_bind (wpAny_setScan_of (tx_is k tk) ho hd hf el ?_)
 cases fi:List.findIdx? (fun e=>(PySem.strKind P w).is k e.2) es.toList with
 | some j=>
  dsimp only
  obtain⟨hj,pj,_⟩:=List.findIdx?_eq_some_iff_getElem.mp fi
  have m:k∈zs:=pz.mem_iff.mp (List.mem_map.mpr ⟨es.toList[j],List.getElem_mem hj,tx_at (g _ (List.getElem_mem hj)) k pj⟩)
  refine wpAny_pure (wpAny_pure ?_)
  have q:=hQ s.heap false (Heap.SameBut.refl a s.heap)
  rw [if_pos m] at q
  exact q ⟨o,es,ep,t,ho,hex,hd,g,pz,nd,hb,hf,hr,hl⟩
 | none=>
  dsimp only
  have m:k∉zs:=fun z=>by
   obtain⟨e,he,e2⟩:=List.mem_map.mp (pz.mem_iff.mpr z)
   have c:=List.findIdx?_eq_none_iff.mp fi e he
   have c2:=tx_of (P:=P) (g e he)
   rw [e2,c] at c2
   cases c2
  have gw:∀(b:Bool) {s₁:Shared} {Q':Unit→Shared→Prop},Q' () s₁→wpAny (model P w) A (match b with | true=>rule "set.scan.the-table-gave-way" | false=>pure ()) Q' E s₁:=fun b s₁ Q' q=>by cases b <;> first | exact wpAny_pure q | exact wpAny_rule q
  have q1:=layNew_perm t es ((PySem.strKind P w).hash k) (.str k tk)
  have q2:=layNew_fits t es ((PySem.strKind P w).hash k) (.str k tk)
  have q3:=L2.layNew_ris t es ((PySem.strKind P w).hash k) (.str k tk) hr
  have q4:=L2.layNew_led t es ((PySem.strKind P w).hash k) (.str k tk)
  generalize layNew t es ((PySem.strKind P w).hash k) (.str k tk)=Z at q1 q2 q3 q4 ⊢
  obtain⟨fs,u,wd,gave⟩:=Z
  dsimp only at q1 q2 q3 q4 ⊢
  rw [Array.toList_push] at q1
  have pc:fs.toList.Perm (((PySem.strKind P w).hash k,Value.str k tk) :: es.toList):=q1.trans (List.perm_append_singleton _ _)
  have pk:(fs.toList.map txK).Perm (zs ++ [k]):=(pc.map txK).trans ((pz.cons k).trans (List.perm_append_singleton _ _).symm)
  have g1:∀e∈fs.toList,TxE w e:=fun e he=>by
   rcases List.mem_cons.mp (pc.mem_iff.mp he) with y | y
   ·rw [y];exact⟨k,tk,rfl,rfl⟩
   ·exact g e y
  have n1:(zs ++ [k]).Nodup:=List.nodup_append.mpr ⟨nd,one_nodup k,fun x hx y hy e=>by
   rw [List.mem_singleton.mp hy] at e
   exact m (e ▸ hx)⟩
  have z:fs.size=zs.length+1:=by
   have:=pk.length_eq
   rw [List.length_map,Array.length_toList,List.length_append] at this
   exact this
  have b1:fs.size < scanBound:=by rw [z];exact room
  have l1:w.params.followText "set-order" =true∨u.led=true:=hl.imp id fun y=>by rw [q4];exact y
  have fin:∀h',Heap.SameBut a s.heap h'→TxR w h' a (zs ++ [k])→Q true { s with heap:=h' } :=fun h' sb r=>by
   have q:=hQ h' true sb
   rw [if_neg m] at q
   exact q r
  refine wpAny_bind (gw _ ?_)
  split
  ·refine wpAny_bind ?_
   rw [hashByValue_scannable 8 sc]
   refine wpAny_pure ?_
   refine tx_tail ?_ ho hex hd g1 pk n1 b1 ?_ ?_ ?_ ?_
   ·intro b s₁ Q' q;cases b <;> first | exact wpAny_pure q | exact wpAny_rule q
   ·first | (split <;> first | exact q2 | exact SetTable.fits_plain_off q2) | exact q2
   ·first | (split <;> exact q3) | exact q3
   ·first | (split <;> exact l1) | exact l1
   ·intro h' sb r;dsimp only;exact wpAny_pure (fin h' sb r)
  ·refine wpAny_bind (wpAny_pure ?_)
   simp only [↓reduceIte]
   refine tx_tail ?_ ho hex hd g1 pk n1 b1 q2 q3 l1 ?_
   ·intro b s₁ Q' q;cases b <;> first | exact wpAny_pure q | exact wpAny_rule q
   ·intro h' sb r;dsimp only;exact wpAny_pure (fin h' sb r)
theorem tx_fresh {h:Heap} (w:World) (ho:h.get? a=some (set0 (!w.params.followText "set-order"))):TxR w h a []:=
 ⟨_,#[],0,_,ho,⟨rfl,rfl,rfl⟩,rfl,(fun e he=>by simp at he),(by simp),.nil,(by decide),(by rfl),List.Pairwise.nil,by
  show _∨(!w.params.followText "set-order")=true
  cases w.params.followText "set-order"
  ·exact .inr rfl
  ·exact .inl rfl⟩
theorem code_set_one (v:Value) {Q₁:Value→Shared→Prop} (h:Q₁ (.ref s.heap.objs.size) { s with heap:=s.heap.push (set0 (!w.params.followText "set-order")) }):codeAny (model P w) A (.call (.builtin "set.__new__") ⟨[.type "set",v],[]⟩) (wants Q₁ E) s:=by
 refine codeAny_of_tree ?_
 show wpAny _ A.in1 (do checkBuiltinCall "set.__new__" ⟨[.type "set",v],[]⟩;again (.builtin "set.__new__" ⟨[.type "set",v],[]⟩)) _ _ s
 refine wpAny_bind (wpAny_of_eq (PySem.F.newCall_set_1 v) (wpAny_pure ⟨plainId_quiet PySem.F.plain_set_new _,codeAny_builtin PySem.F.entry_set_new ?_⟩))
 rw [Around.under_plainId PySem.F.plain_set_new _]
 unfold Builtin.«set.__new__» Builtin.Frozenset.newClass
 have hsub:=PySem.sub_set_self
 obtain⟨hp,gg,d,tk,os⟩:=s
 dsimp only
 wp_walk
 refine wpAny_askSetting (wpAny_pure ?_)
 dsimp only
 simp only [newObj]
 refine wpAny_bind (wpAny_alloc (wpAny_pure ?_))
 exact wpAny_pure h
end
section
variable {prog:Program} {w:World} {A:Around} {E:Value→Shared→Prop} {R:Result→Shared→Prop} {I:Addr} {fp wr:List Addr} {G:Array GenState→Array GenState→Prop} {n:Nat} {P:Nat→Value→Prop} {St:Nat→Shared→Prop}
theorem tx_loop (W:WalksS prog w A.in1 I fp wr G n P St) (S:Addr) (nS:S∉fp) (ks:List Str) (hn:ks.length=n) (hb:n+1 < scanBound) (hval:∀i v,P i v→ ∃k tk,ks[i]? =some k∧v= .str k tk) :
  ∀(m i:Nat) (s:Shared),n - i=m→i≤n→St i s→TxR w s.heap S (once (ks.take i))→(∀s',Moved (S :: wr) G s s'→TxR w s'.heap S (once ks)→R (.ok (.ret .none)) s')→
   codeAny (model prog w) A (.builtin "set.update.loop" ⟨[.ref S,.ref I],[]⟩) R s:=by
 have up:∀b∈wr,b∈S :: wr:=fun b hb=> .tail _ hb
 have out:S∉wr:=fun h=>nS (W.sub _ h)
 intro m
 induction m with
 | zero=>
  intro i s hm hi st hS fin
  obtain rfl:i=n:=by omega
  rw [List.take_of_length_le (by omega)] at hS
  refine codeAny_builtin PyProof.Rows.F.entry_set_update_loop ?_
  rw [Around.under_plainId PyProof.Rows.F.plain_set_update_loop _]
  refine wpAny_bind (m:=pyNext (.ref I)) (W.done s _ _ st fun s' mv=> ?_)
  exact wpAny_pure (fin s' (mv.mono up) (hS.off fun o e=>mv.heap S _ out e))
 | succ m ih=>
  intro i s hm hi st hS fin
  refine codeAny_builtin PyProof.Rows.F.entry_set_update_loop ?_
  rw [Around.under_plainId PyProof.Rows.F.plain_set_update_loop _]
  refine wpAny_bind (m:=pyNext (.ref I)) (W.item i s _ _ (by omega) st fun v s' hP st' mv=> ?_)
  obtain⟨k,tk,hk,rfl⟩:=hval i v hP
  have hS':=hS.off (h':=s'.heap) fun o e=>mv.heap S _ out e
  have few:=once_len (ks.take i)
  rw [List.length_take] at few
  refine wpAny_bind (m:=holding [.str k tk] (setAdd S (.str k tk))) (wpAny_holding ?_)
  unfold setAdd
  refine wpAny_holding (wpAny_bind ((PySem.strKind prog w).pyHash (tx_is k tk) ?_))
  refine tx_add (s:= { s' with toks:=s'.toks+1 }) hS' (by omega) fun h' b sb hS2=> ?_
  have off:∀b o,b≠S→s'.heap.get? b=some o→h'.get? b=some o:=fun b o nb e=>by rw [sb.2 b nb];exact e
  have e0:ks.take (i+1)=ks.take i ++ [k]:=by rw [List.take_add_one,hk];rfl
  rw [← once_snoc,← e0] at hS2
  refine wpAny_pure ⟨plainId_quiet PyProof.Rows.F.plain_set_update_loop _,ih (i+1) _ (by omega) (by omega) (W.frame _ s' _ _ st' (Nat.le_succ _) fun b hb o e=>off b o (fun z=>nS (z ▸ hb)) e) hS2 fun s'' mv2 hS3=> ?_⟩
  exact fin s'' (Moved.trans W.gtrans ((mv.mono up).then_heap (Nat.le_succ _) fun b o hb e=>off b o (fun z=>hb (z ▸ .head _)) e) mv2) hS3
end
section
variable {prog:Program} {w:World} {A:Around} {E:Value→Shared→Prop} {s:Shared}
theorem set_of_texts {l:Addr} {items:Array Value} (ks:List Str) {Q:Value→Shared→Prop} (hh:A.handled=none) (hl:s.heap.IsList l items) (hn:ks.length=items.size) (hb:items.size+1 < scanBound)
  (hi:∀(i:Nat) (v:Value),items[i]? =some v→ ∃k tk,ks[i]? =some k∧v= .str k tk)
  (h:∀(h':Heap) (tk:Nat),TxR w h' s.heap.objs.size (once ks)→(∀b o,s.heap.get? b=some o→h'.get? b=some o)→s.heap.objs.size < h'.objs.size→Q (.ref s.heap.objs.size) { s with heap:=h',toks:=tk }) :
  wpAny (model prog w) A (call (.type "set") [.ref l]) Q E s:=by
 obtain⟨c,tl,hmro⟩:=PySem.F.called_set.mro
 have hmade:=PySem.F.called_set.made
 have hsub:=PySem.F.called_set.sub
 have h1:=PySem.F.called_set.notType
 have h2:=PySem.F.called_set.canCreate
 have hct:=PySem.F.typeCall_set_1 (.ref l)
 refine wpAny_call (codeAny_of_tree ?_)
 refine wpAny_pure ⟨Code.quiet_builtin _ (by decide +kernel),codeAny_builtin PySem.F.entry_type_call ?_⟩
 rw [Around.under_plain (weight_type_call_type "set" [.ref l] []) rfl]
 repeat (any_goals (first | assumption | wp_step))
 refine codeAny_mono (code_set_one (.ref l) (E:=E) (Q₁:=fun obj s₁=>obj= .ref s.heap.objs.size∧s₁= { s with heap:=s.heap.push (set0 (!w.params.followText "set-order")) }) ⟨rfl,rfl⟩) fun r s₁ hr=> ?_
 generalize hled:(!w.params.followText "set-order")=led at hr
 cases r with
 | error e=>exact hr
 | ok fl=>
 cases fl with
 | ret obj=>
  obtain⟨rfl,rfl⟩:=hr
  have hT:Shared.TypeIs { s with heap:=s.heap.push (set0 led) } (.ref s.heap.objs.size) "set" :=⟨_,Heap.get?_push_size _ rfl,rfl⟩
  have hli:=PySem.F.called_set.init.lookup
  have hbi:=PySem.F.called_set.init.bind (.ref s.heap.objs.size)
  repeat (any_goals (first | assumption | wp_step))
  refine codeAny_mono (codeAny_call_builtin (R:=wants (fun r s₂=>r= .none∧ ∃h' tk,s₂= { s with heap:=h',toks:=tk } ∧TxR w h' s.heap.objs.size (once ks)∧ ∀b o,s.heap.get? b=some o→h'.get? b=some o) E)
   PySem.F.called_set.init.plain PySem.F.entry_set_init (check_set_init_1 hT ?_)) fun r₂ s₂ hr₂=> ?_
  ·obtain⟨⟨cl,di,da,sl⟩,hol,hcl,nl,hdl⟩:=hl
   simp only at hcl hdl
   subst hcl;subst hdl
   have hlS:l < s.heap.objs.size:=Heap.lt_size hol
   have hol':(s.heap.push (set0 led)).get? l=some { cls:= .type "list",dict:=di,data:= .seq items nl,slots:=sl } :=Heap.get?_push_of_some _ hol
   have hsls:=PySem.F.sub_list_set
   have hslf:=PySem.F.sub_list_frozenset
   have hne:(Value.type "list" == Value.type "dict")=false:=by decide
   have hl1:(s.heap.push (set0 led)).IsList l items:=⟨_,hol',rfl,nl,rfl⟩
   unfold Builtin.«set.__init__» noKeywords Builtin.Frozenset.updateFrom
   generalize hPI:pyIter=PI
   wp_walk
   subst hPI
   refine wpAny_pyIter_list hl1 (wpAny_bind (wpAny_runValue ?_))
   have hI:(s.heap.push (set0 led)).objs.size=s.heap.objs.size+1:=Heap.size_push ..
   have hh3:A.in1.in1.in1.handled=none:=by simp [hh]
   refine tx_loop ((Walks.list hh3 _ l (by rw [hI];exact Nat.ne_of_lt (Nat.lt_succ_of_lt hlS)) items).toS) s.heap.objs.size (by
    rw [hI]
    simp only [List.mem_cons,List.not_mem_nil,or_false,not_or]
    exact⟨Nat.ne_of_lt (Nat.lt_succ_self _),Nat.ne_of_gt hlS⟩) ks hn hb hi (items.size - 0) 0 _ rfl (Nat.zero_le _) ⟨⟨_,Heap.get?_push_size _ rfl,rfl,rfl⟩,hl1.push _⟩ ?_ ?_
   ·refine tx_fresh w ?_
    rw [hled]
    exact Heap.get?_push_of_some _ (Heap.get?_push_size _ rfl)
   ·intro s' mv hS'
    obtain⟨h',g',d',tk',os'⟩:=s'
    obtain rfl:g'=s.gens:=mv.gens
    obtain rfl:d'=s.drawn:=mv.drawn
    obtain rfl:os'=s.os:=mv.os
    refine wpAny_pure (wpAny_pure ⟨rfl,h',tk',rfl,hS',fun b o e=> ?_⟩)
    have hb:=Heap.lt_size e
    exact mv.heap b o (by
     rw [hI]
     simp only [List.mem_cons,List.not_mem_nil,or_false,not_or]
     exact⟨Nat.ne_of_lt hb,Nat.ne_of_lt (Nat.lt_succ_of_lt hb)⟩) (Heap.get?_push_of_some _ (Heap.get?_push_of_some _ e))
  ·cases r₂ with
   | error e=>exact hr₂
   | ok fl₂=>
   cases fl₂ with
   | ret r=>
    obtain⟨rfl,h',tk,rfl,hS',hk'⟩:=hr₂
    repeat (any_goals (first | assumption | wp_step))
    obtain⟨o,es,ep,t,ho,rest⟩:=id hS'
    exact h _ _ hS' hk' (Heap.lt_size ho)
   | _=>exact hr₂.elim
 | _=>exact hr.elim
theorem sorted_tx {a:Addr} {zs:List Str} {Q:Value→Shared→Prop} (R:TxR w s.heap a zs) (hh:A.handled=none) (h64:zs.length < 64)
  (hQ:∀s' p (out:Array Value) (c:Nat) (ys:List Str),(∀b o,s.heap.get? b=some o→s'.heap.get? b=some o)→s'.gens=s.gens→s'.os=s.os→s.heap.objs.size≤p→
   s'.heap.get? p=some (seqObj "list" out c)→StrsAre out.toList ys→sortedS ys=true→ys.Perm zs→Q (.ref p) s') :
  wpAny (model prog w) A (call (.builtin "sorted") [.ref a]) Q E s:=by
 obtain⟨o,es,ep,t,ho,hex,hd,g,pz,nd,hb,hf,hr,hl⟩:=R
 refine Calls.call_function_entry kind_sorted plain_sorted entry_sorted (args_sorted1 _) ?_
 unfold Builtin.«sorted»
 refine wpAny_bind (m:=checkCount "sorted" 1 1 _) (wpAny_pure ?_)
 refine wpAny_bind (L2.collect_set (A:=A.in1) hh ⟨o,ho,hex.1,hd⟩ hf hb hr hl fun s1 vs k1 hz g1 o1 pm=> ?_)
 have es1:∀v∈vs,∃k tk,v=Value.str k tk:=fun v hv=>by
  obtain⟨e,he,q⟩:=List.mem_map.mp (pm.mem_iff.mp hv)
  obtain⟨k,tk,q1,_⟩:=g e he
  exact⟨k,tk,by rw [← q];exact q1⟩
 have key:∀l:List Value,(∀v∈l,∃k tk,v=Value.str k tk)→StrsAre l (l.map fun v=>txK (0,v)):=by
  intro l
  induction l with
  | nil=>intro _;exact .nil
  | cons v l ih=>
   intro h
   obtain⟨k,tk,rfl⟩:=h v (.head _)
   exact .cons k tk (ih fun u hu=>h u (.tail _ hu))
 have hS:=key vs es1
 have pk:(vs.map fun v=>txK (0,v)).Perm zs:=by
  have q:=pm.map fun v=>txK (0,v)
  rw [List.map_map] at q
  exact q.trans pz
 have hvl:vs.length < 64:=by
  have:=pk.length_eq
  rw [List.length_map] at this
  omega
 refine wpAny_bind (wpAny_newList ?_ (by rw [sizeLine_eq];omega))
 have hoL:(s1.heap.push (seqObj "list" vs.toArray 0)).get? s1.heap.objs.size=some (seqObj "list" vs.toArray 0):=Heap.get?_push_size _ rfl
 refine wpAny_bind (wpAny_holding (wpAny_call_entry slot_list_sort ⟨_,hoL,rfl⟩ entry_list_sort (list_sort_treeK strKind_oneLt hoL hS.keysOf (fun v₁ v₂ rest e=>keyKind_strs (by rw [← e];exact hS)) hvl fun st' a1 a2=>⟨_,rfl,?_⟩) (args_list_sort _)))
 obtain⟨ss',b1,b2,b3⟩:=sorted_out_str hS a1 a2
 obtain⟨c,hc⟩:=sortedHeap_at (vs:=vs) (out:=_) hoL
 refine wpAny_pure ⟨_,rfl,hQ _ s1.heap.objs.size _ c ss' (fun b u e=> ?_) g1 o1 hz hc b1 b3 (b2.trans pk)⟩
 have q:=k1 b u e
 have lt:=Heap.lt_size q
 show(sortedHeap (s1.heap.push (seqObj "list" vs.toArray 0)) s1.heap.objs.size vs _).get? b=some u
 rw [sortedHeap_old (Nat.ne_of_lt lt) (by rw [size_push'];exact Nat.lt_succ_of_lt lt)]
 exact Heap.get?_push_of_some _ q
end
section
variable {X:Cx}
def tSortSetS (K:PySem.W.Frag) (ta:TE):TE:=fun σ H Q=>ta σ H fun x H1=> ∃(l:Addr) (zs:List Str),x= .ref l∧SqL K H1 l (zs.map V.str)∧zs.length < 64∧ ∀(ys:List Str) (p:Addr),ys.Perm (once zs)→sortedS ys=true→H1 p=none→Q (.ref p) (upd H1 p (.lst (ys.map V.str)))
theorem tx_items {us:List Value} {zs:List Str} (r:StrsAre us zs):∀(i:Nat) (v:Value),us.toArray[i]? =some v→ ∃k tk,zs[i]? =some k∧v= .str k tk:=by
 have key:∀(i:Nat) (v:Value),us[i]? =some v→ ∃k tk,zs[i]? =some k∧v= .str k tk:=by
  induction r with
  | nil=>intro i v h;cases h
  | cons k tk t ih=>
   intro i v h
   cases i with
   | zero=>cases h;exact⟨k,tk,rfl,rfl⟩
   | succ i=>exact ih i v h
 intro i v h
 exact key i v (by simpa using h)
theorem pe_sortSetS {a:Expr} {ta:TE} {p p2 q pos:Pos} (hg:Gl X "sorted") (hm:X.mg "sorted" =none) (hg2:Gl X "set") (hm2:X.mg "set" =none) (ha:PE X a ta) (hc:X.calm=true:=by rfl)
  (na:starEach [a] X.env=(false,eval a X.env) :: starEach [] X.env:=by rfl):PE X (.Call (.Name "sorted" p) [.Call (.Name "set" p2) [a] [] q] [] pos) (tSortSetS X.K ta):=by
 refine⟨fun pins s σ H Q I h=> ?_⟩
 refine Call_ (ld_blt I hg hm PyProof.Rows.boot_sorted ?_)
 refine PyProof.Rows.callWith_builtin1 (PyProof.Rows.args_cons ?_ rfl) rfl rfl
 refine Call_ (ld_blt I hg2 hm2 PyProof.Rows.boot_set ?_)
 refine PyProof.Rows.callWith_type1 (PyProof.Rows.args_cons (thn (ha.run pins s σ H _ I h) fun v s1 ⟨x,H1,I1,r1,q1⟩=>PyProof.Rows.args_nil ?_) na) na rfl
 obtain⟨l,zs,rfl,hq,hl,q1⟩:=q1
 cases r1
 obtain⟨its,r,pl,hz⟩:=I1.list hq
 have rs:=r.strs
 have el:zs.length=its.length:=by
  have:=r.length
  rw [List.length_map] at this
  exact this
 refine set_of_texts zs (I1.ok.hd hc) pl.isList (by simpa using el) (by simp;rw [← el];unfold scanBound;omega) (tx_items rs) fun h' tk R kp lt=> ?_
 refine PyProof.Rows.args_nil ?_
 have I2:Inv X pins σ H1 { s1 with heap:=h',toks:=tk } :=I1.kept fun b o e=>kp b o e
 have few:=once_len zs
 have R2:TxR X.w ({ s1 with heap:=h',toks:=tk } :Shared).heap s1.heap.objs.size (once zs):=R
 generalize ({ s1 with heap:=h',toks:=tk } :Shared)=s2 at I2 R2 ⊢
 refine sorted_tx R2 (I2.ok.hd hc) (by omega) fun s' p out c ys k g o hp hg hS hs pm=> ?_
 have hlen:(ys.map V.str).length≤sizeLine:=by rw [List.length_map,pm.length_eq,sizeLine_eq];omega
 have hn:H1 p=none:=I2.hok.fresh hp
 have J:Inv X pins σ (upd H1 p (.lst (ys.map V.str))) { s2 with heap:=s'.heap,gens:=s'.gens,drawn:=s'.drawn,toks:=s'.toks } :=
  I2.call (ch:= []) (Un.laid k hp hn) (I2.hok.laid k hp ⟨hlen,out.toList,c,vals_of_strs hS,hg⟩) (by rw [g];exact I2.bare) (fun _ z=>nomatch z)
 have e:s'= { s2 with heap:=s'.heap,gens:=s'.gens,drawn:=s'.drawn,toks:=s'.toks } :=by
  cases s'
  cases s2
  cases o
  rfl
 rw [e]
 exact⟨.ref p,_,J,rfl,q1 ys p pm hs hn⟩
end
end Go
set_option Elab.async false
set_option linter.all false
set_option maxRecDepth 100000
set_option maxHeartbeats 4000000
namespace Go
open PySem PySem.Spec PyProof.Rows L2
end Go
set_option Elab.async false
set_option linter.all false
set_option maxRecDepth 100000
set_option maxHeartbeats 4000000
namespace Ab
open PySem PySem.Spec PyProof.Rows L2 Go
inductive A where
 | non | bl (b:Bool) | int (i:Int) | str (x:Str) | ty (n:String) | loc (p:Addr)
 | tup (xs:List A) | lst (xs:List A) | dic (ks:List Key) (vs:List A) | scr (ns:List Int)
def KT (K:PySem.W.Frag) (a:Addr) (xs:List V):Prop:= ∃(o:Obj) (its:Array Value) (n:Nat),K.lookup a=some o∧o.cls= .type "tuple" ∧o.data= .seq its n∧its.size≤sizeLine∧Vals xs its.toList
def KL (K:PySem.W.Frag) (a:Addr) (xs:List V):Prop:= ∃(o:Obj) (its:Array Value) (n:Nat),K.lookup a=some o∧o.cls= .type "list" ∧o.dict=none∧o.data= .seq its n∧its.size≤sizeLine∧Vals xs its.toList
def FT (K:PySem.W.Frag) (D:List Addr) (H:Hp) (p:Addr) (vs:List V):Prop:=(p∉D∧Rd H p (.tup vs))∨KT K p vs
def FS (K:PySem.W.Frag) (D:List Addr) (H:Hp) (p:Addr) (vs:List V):Prop:=(p∉D∧Rd H p (.lst vs))∨KL K p vs
def FL (D:List Addr) (H:Hp) (p:Addr) (vs:List V):Prop:=p∉D∧H p=some (.lst vs)
def FD (D:List Addr) (H:Hp) (p:Addr) (kvs:List (Key×V)):Prop:=p∉D∧H p=some (.dK kvs)
mutual
inductive Rv (K:PySem.W.Frag) (D:List Addr) (H:Hp):A→V→Prop
 | non:Rv K D H .non .non
 | bl (b:Bool):Rv K D H (.bl b) (.bl b)
 | int (i:Int):Rv K D H (.int i) (.int i)
 | str (x:Str):Rv K D H (.str x) (.str x)
 | ty (n:String):Rv K D H (.ty n) (.ty n)
 | loc (p:Addr):Rv K D H (.loc p) (.ref p)
 | tup {p:Addr} {vs:List V} {xs:List A} :FT K D H p vs→RvL K D H xs vs→Rv K D H (.tup xs) (.ref p)
 | scr {p:Addr} {ns:List Int} :FS K D H p (ns.map V.int)→Rv K D H (.scr ns) (.ref p)
 | lst {p:Addr} {vs:List V} {xs:List A} :FL D H p vs→RvL K D H xs vs→Rv K D H (.lst xs) (.ref p)
 | dic {p:Addr} {kvs:List (Key×V)} {ks:List Key} {xs:List A} :FD D H p kvs→kvs.map (·.1)=ks→RvL K D H xs (kvs.map (·.2))→Rv K D H (.dic ks xs) (.ref p)
inductive RvL (K:PySem.W.Frag) (D:List Addr) (H:Hp):List A→List V→Prop
 | nil:RvL K D H [] []
 | cons {a:A} {v:V} {as:List A} {vs:List V} :Rv K D H a v→RvL K D H as vs→RvL K D H (a :: as) (v :: vs)
end
/-- what is not owned stays; what is owned anew was free -/
structure Step (D:List Addr) (H:Hp) (D':List Addr) (H':Hp):Prop where
 keep:∀p o,H p=some o→p∉D→H' p=some o
 new:∀p,p∈D'→p∈D∨H p=none
theorem Step.refl (D:List Addr) (H:Hp):Step D H D H:=⟨fun _ _ h _=>h,fun _ h=> .inl h⟩
theorem Step.out {D D':List Addr} {H H':Hp} (s:Step D H D' H') {p:Addr} {o:HO} (h:H p=some o) (n:p∉D):p∉D':=fun m=>by
 rcases s.new p m with h1 | h1
 ·exact n h1
 ·rw [h] at h1;cases h1
theorem Step.trans {D D1 D2:List Addr} {H H1 H2:Hp} (a:Step D H D1 H1) (b:Step D1 H1 D2 H2):Step D H D2 H2:=by
 refine⟨fun p o h n=>b.keep p o (a.keep p o h n) (a.out h n),fun p m=> ?_⟩
 rcases b.new p m with h | h
 ·exact a.new p h
 ·by_cases m2:p∈D
  ·exact .inl m2
  ·cases q:H p with
   | none=>exact .inr rfl
   | some o=>rw [a.keep p o q m2] at h;cases h
theorem Step.same {D:List Addr} {H H':Hp} (s:Same H H'):Step D H D H':=⟨fun p o h _=>s p o h,fun p h=> .inl h⟩
theorem Step.sub {D D':List Addr} {H:Hp} (h:∀p∈D',p∈D):Step D H D' H:=⟨fun _ _ h _=>h,fun p m=> .inl (h p m)⟩
theorem FT.step {K:PySem.W.Frag} {D D':List Addr} {H H':Hp} (s:Step D H D' H') {p:Addr} {vs:List V} (h:FT K D H p vs):FT K D' H' p vs:=by
 rcases h with⟨n,h | ⟨o,h⟩⟩ | h
 ·exact .inl ⟨s.out h n,.inl (s.keep _ _ h n)⟩
 ·exact .inl ⟨s.out h n,.inr ⟨o,s.keep _ _ h n⟩⟩
 ·exact .inr h
theorem FS.step {K:PySem.W.Frag} {D D':List Addr} {H H':Hp} (s:Step D H D' H') {p:Addr} {vs:List V} (h:FS K D H p vs):FS K D' H' p vs:=by
 rcases h with⟨n,h | ⟨o,h⟩⟩ | h
 ·exact .inl ⟨s.out h n,.inl (s.keep _ _ h n)⟩
 ·exact .inl ⟨s.out h n,.inr ⟨o,s.keep _ _ h n⟩⟩
 ·exact .inr h
theorem FL.step {D D':List Addr} {H H':Hp} (s:Step D H D' H') {p:Addr} {vs:List V} (h:FL D H p vs):FL D' H' p vs:=⟨s.out h.2 h.1,s.keep _ _ h.2 h.1⟩
theorem FD.step {D D':List Addr} {H H':Hp} (s:Step D H D' H') {p:Addr} {kvs:List (Key×V)} (h:FD D H p kvs):FD D' H' p kvs:=⟨s.out h.2 h.1,s.keep _ _ h.2 h.1⟩
theorem FT.sq {K:PySem.W.Frag} {D:List Addr} {H:Hp} {p:Addr} {vs:List V} (h:FT K D H p vs):SqT K H p vs:=by
 rcases h with⟨_,h⟩ | h
 ·exact .inl h
 ·exact .inr h
theorem FS.sq {K:PySem.W.Frag} {D:List Addr} {H:Hp} {p:Addr} {vs:List V} (h:FS K D H p vs):SqL K H p vs:=by
 rcases h with⟨_,h⟩ | h
 ·exact .inl h
 ·exact .inr h
theorem FL.sq {K:PySem.W.Frag} {D:List Addr} {H:Hp} {p:Addr} {vs:List V} (h:FL D H p vs):SqL K H p vs:=SqL.of h.2
mutual
theorem Rv.step {K:PySem.W.Frag} {D D':List Addr} {H H':Hp} (s:Step D H D' H'):∀ {a:A} {v:V},Rv K D H a v→Rv K D' H' a v
 | _,_,.non=> .non
 | _,_,.bl b=> .bl b
 | _,_,.int i=> .int i
 | _,_,.str x=> .str x
 | _,_,.ty n=> .ty n
 | _,_,.loc p=> .loc p
 | _,_,.tup h t=> .tup (h.step s) (RvL.step s t)
 | _,_,.scr h=> .scr (h.step s)
 | _,_,.lst h t=> .lst (h.step s) (RvL.step s t)
 | _,_,.dic h e t=> .dic (h.step s) e (RvL.step s t)
theorem RvL.step {K:PySem.W.Frag} {D D':List Addr} {H H':Hp} (s:Step D H D' H'):∀ {as:List A} {vs:List V},RvL K D H as vs→RvL K D' H' as vs
 | _,_,.nil=> .nil
 | _,_,.cons h t=> .cons (Rv.step s h) (RvL.step s t)
end
section
variable {K:PySem.W.Frag} {D:List Addr} {H:Hp} {as bs:List A} {vs ws:List V}
theorem RvL.app (h:RvL K D H as vs) (h2:RvL K D H bs ws):RvL K D H (as ++ bs) (vs ++ ws):=by
 induction as generalizing vs with
 | nil=>cases h;exact h2
 | cons a as ih=>cases h with | cons x t=>exact .cons x (ih t)
theorem RvL.len (h:RvL K D H as vs):as.length=vs.length:=by
 induction as generalizing vs with
 | nil=>cases h;rfl
 | cons a as ih=>cases h with | cons x t=>rw [List.length_cons,List.length_cons,ih t]
theorem RvL.at (h:RvL K D H as vs) {i:Nat} {a:A} (ha:as[i]? =some a):∃v,vs[i]? =some v∧Rv K D H a v:=by
 induction as generalizing vs i with
 | nil=>cases ha
 | cons b as ih=>
  cases h with
  | cons x t=>
   cases i with
   | zero=>cases ha;exact⟨_,rfl,x⟩
   | succ i=>exact ih t ha
theorem RvL.at' (h:RvL K D H as vs) {i:Nat} {v:V} (hv:vs[i]? =some v):∃a,as[i]? =some a∧Rv K D H a v:=by
 have l:=h.len
 have hi:i < as.length:=by rw [l];exact(List.getElem?_eq_some_iff.mp hv).1
 obtain⟨v',h1,h2⟩:=h.at (List.getElem?_eq_getElem hi)
 rw [hv] at h1
 cases h1
 exact⟨_,List.getElem?_eq_getElem hi,h2⟩
theorem RvL.take (h:RvL K D H as vs) (n:Nat):RvL K D H (as.take n) (vs.take n):=by
 induction as generalizing vs n with
 | nil=>cases h;rw [List.take_nil,List.take_nil];exact .nil
 | cons a as ih=>
  cases h with
  | cons x t=>
   cases n with
   | zero=>exact .nil
   | succ n=>exact .cons x (ih t n)
theorem RvL.drop (h:RvL K D H as vs) (n:Nat):RvL K D H (as.drop n) (vs.drop n):=by
 induction as generalizing vs n with
 | nil=>cases h;rw [List.drop_nil,List.drop_nil];exact .nil
 | cons a as ih=>
  cases h with
  | cons x t=>
   cases n with
   | zero=>exact .cons x t
   | succ n=>exact ih t n
theorem RvL.rev (h:RvL K D H as vs):RvL K D H as.reverse vs.reverse:=by
 induction as generalizing vs with
 | nil=>cases h;exact .nil
 | cons a as ih=>
  cases h with
  | cons x t=>
   rw [List.reverse_cons,List.reverse_cons]
   exact(ih t).app (.cons x .nil)
theorem RvL.set (h:RvL K D H as vs) {a:A} {v:V} (x:Rv K D H a v) (i:Nat):RvL K D H (as.set i a) (vs.set i v):=by
 induction as generalizing vs i with
 | nil=>cases h;exact .nil
 | cons b as ih=>
  cases h with
  | cons y t=>
   cases i with
   | zero=>exact .cons x t
   | succ i=>exact .cons y (ih t i)
theorem RvL.strs:∀ {ns:List Str} {vs:List V},RvL K D H (ns.map A.str) vs→vs=ns.map V.str
 | [],_,.nil=>rfl
 | _ :: _,_,.cons (.str _) t=>by rw [RvL.strs t];rfl
theorem RvL.bls:∀ {ns:List Bool} {vs:List V},RvL K D H (ns.map A.bl) vs→vs=ns.map V.bl
 | [],_,.nil=>rfl
 | _ :: _,_,.cons (.bl _) t=>by rw [RvL.bls t];rfl
theorem RvL.of_ints:∀(ns:List Int),RvL K D H (ns.map A.int) (ns.map V.int)
 | []=> .nil
 | _ :: ns=> .cons (.int _) (RvL.of_ints ns)
theorem RvL.of_strs:∀(ns:List Str),RvL K D H (ns.map A.str) (ns.map V.str)
 | []=> .nil
 | _ :: ns=> .cons (.str _) (RvL.of_strs ns)
end
mutual
/-- a key of any depth as a value -/
def nkA:NestedKey→A
 | .none=> .non
 | .num i=> .int i
 | .text x=> .str x
 | .tup ks=> .tup (nkAs ks)
def nkAs:List NestedKey→List A
 | []=> []
 | k :: ks=>nkA k :: nkAs ks
end
/-- a dict whose keys are tuples of any depth -/
def kdF (P:Program) (w:World) (ks:List (NestedKey×Addr×V)) (a:Addr):Heap→Prop:=fun h=> ∃xs:List (NestedKey×Addr×Value),Paired (fun(p:NestedKey×Addr×V) (q:NestedKey×Addr×Value)=>p.1=q.1∧p.2.1=q.2.1∧RelV p.2.2 q.2.2) ks xs∧
 (a == sysModules)=false∧ ∃o es ep,h.get? a=some o∧o.ExactDict∧o.data= .dict es ep∧es.toList=xs.map (entryOfKey (nestedKind P w))∧(xs.map (·.1)).Nodup
inductive AO where
 | lst (xs:List A) | dic (kvs:List (Key×A)) | ins (C:Addr) (fs:List (Str×A)) | any (P:HO→Prop) | lok (o:Obj) (ws:List (Key×V)) (kvs:List (Key×A)) | kd (P:Program) (w:World) (kvs:List (NestedKey×A))
abbrev AM:=List (Addr×AO)
abbrev Sv:=List (Option A)
abbrev ad (M:AM):List Addr:=M.map (·.1)
/-- keys (or names) with their values -/
def KvR {κ:Type} (K:PySem.W.Frag) (D:List Addr) (H:Hp) (kvs:List (κ×A)) (ws:List (κ×V)):Prop:=Paired (fun(p:κ×A) (q:κ×V)=>p.1=q.1∧Rv K D H p.2 q.2) kvs ws
theorem KvR.step {κ:Type} {K:PySem.W.Frag} {D D':List Addr} {H H':Hp} {kvs:List (κ×A)} {ws:List (κ×V)} (h:KvR K D H kvs ws) (st:Step D H D' H'):KvR K D' H' kvs ws:=by
 unfold KvR at h ⊢
 induction h with
 | nil=>exact .nil
 | cons a _ ih=>exact .cons ⟨a.1,a.2.step st⟩ ih
/-- .. with the keys' own tuples -/
def KdR (K:PySem.W.Frag) (D:List Addr) (H:Hp) (kvs:List (NestedKey×A)) (ks:List (NestedKey×Addr×V)):Prop:=Paired (fun(p:NestedKey×A) (q:NestedKey×Addr×V)=>p.1=q.1∧Rv K D H (nkA p.1) (.ref q.2.1)∧Rv K D H p.2 q.2.2) kvs ks
theorem KdR.step {K:PySem.W.Frag} {D D':List Addr} {H H':Hp} {kvs:List (NestedKey×A)} {ks:List (NestedKey×Addr×V)} (h:KdR K D H kvs ks) (st:Step D H D' H'):KdR K D' H' kvs ks:=by
 unfold KdR at h ⊢
 induction h with
 | nil=>exact .nil
 | cons a _ ih=>exact .cons ⟨a.1,a.2.1.step st,a.2.2.step st⟩ ih
/-- what may be owned -/
def Own:Option HO→Prop
 | none=>False
 | some (.own _)=>False
 | _=>True
def Cell (K:PySem.W.Frag) (D:List Addr) (H:Hp) (p:Addr):AO→Prop
 | .lst xs=> ∃vs,H p=some (.lst vs)∧RvL K D H xs vs
 | .dic kvs=> ∃ws:List (Key×V),H p=some (.dK ws)∧KvR K D H kvs ws
 | .ins C fs=> ∃(dx:Addr) (ws:List (Str×V)),H p=some (.ins C dx ws)∧H dx=some (.own p)∧KvR K D H fs ws
 | .any P=> ∃o,H p=some o∧Own (some o)∧P o
 | .lok o ws kvs=>H p=some (.frz o (.dK ws))∧KvR K D H kvs ws
 | .kd P w kvs=> ∃ks,H p=some (.ext (kdF P w ks p))∧KdR K D H kvs ks
structure RM (K:PySem.W.Frag) (M:AM) (H:Hp):Prop where
 cell:∀x∈M,Cell K (ad M) H x.1 x.2
 nd:(ad M).Nodup
def RvO (K:PySem.W.Frag) (D:List Addr) (H:Hp):Option A→Option V→Prop
 | none,_=>True
 | some a,some v=>Rv K D H a v
 | some _,none=>False
abbrev XA:=Addr→AM→Prop
/-- what must be told of an error -/
def KcE (K:PySem.W.Frag) (Ex:XK) (Xa:XA) (M:AM) (H:Hp):Prop:= ∀C M' H',Step (ad M) H (ad M') H'→RM K M' H'→Xa C M'→Ex (.ref C) none H'
structure Rep (K:PySem.W.Frag) (Ex:XK) (Xa:XA) (s:Sv) (M:AM) (σ:L2.St) (H:Hp):Prop where
 vs:Paired (RvO K (ad M) H) s σ
 rm:RM K M H
 ex:KcE K Ex Xa M H
section
variable {K:PySem.W.Frag} {Ex:XK} {Xa:XA} {D D':List Addr} {M M':AM} {s:Sv} {σ:L2.St} {H H':Hp} {p q:Addr} {o o':AO} {a:A} {v:V}
theorem Cell.mut (c:Cell K D H p o):Own (H p):=by
 cases o with
 | lst xs=>obtain⟨vs,h,_⟩:=c;rw [h];trivial
 | dic kvs=>obtain⟨vs,h,_⟩:=c;rw [h];trivial
 | ins C fs=>obtain⟨_,_,h,_⟩:=c;rw [h];trivial
 | any P=>obtain⟨_,h,m,_⟩:=c;rw [h];exact m
 | lok o ws kvs=>obtain⟨h,_⟩:=c;rw [h];trivial
 | kd P w kvs=>obtain⟨_,h,_⟩:=c;rw [h];trivial
theorem RM.mut (r:RM K M H) (h:p∈ad M):Own (H p):=by
 obtain⟨x,hx,rfl⟩:=List.mem_map.mp h
 exact(r.cell x hx).mut
theorem RM.some (r:RM K M H) (h:p∈ad M):H p≠none:=fun e=>by
 have:=r.mut h
 rw [e] at this
 exact this
theorem Cell.step (c:Cell K D H p o) (st:Step D H D' H') (hp:H' p=H p) (hm:∀q∈D,Own (H q)):Cell K D' H' p o:=by
 cases o with
 | lst xs=>
  obtain⟨vs,h,r⟩:=c
  exact⟨vs,hp.trans h,r.step st⟩
 | dic kvs=>
  obtain⟨ws,h,r⟩:=c
  exact⟨ws,hp.trans h,r.step st⟩
 | ins C fs=>
  obtain⟨dx,ws,h,h2,r⟩:=c
  exact⟨dx,ws,hp.trans h,st.keep _ _ h2 (fun m=>by have:=hm _ m;rw [h2] at this;exact this),r.step st⟩
 | any P=>
  obtain⟨o,h,r⟩:=c
  exact⟨o,hp.trans h,r⟩
 | lok o ws kvs=>
  obtain⟨h,r⟩:=c
  exact⟨hp.trans h,r.step st⟩
 | kd P w kvs=>
  obtain⟨ks,h,r⟩:=c
  exact⟨ks,hp.trans h,r.step st⟩
theorem RM.same (r:RM K M H) (e:Same H H'):RM K M H':=by
 refine⟨fun x hx=>(r.cell x hx).step (Step.same e) ?_ fun q hq=>r.mut hq,r.nd⟩
 cases h:H x.1 with
 | none=>exact absurd h (r.some (List.mem_map.mpr ⟨x,hx,rfl⟩))
 | some o=>exact e _ _ h
theorem Step.alloc (hp:H p=none) {u:HO} :Step D H (p :: D) (upd H p u):=by
 refine⟨fun q o h _=> ?_,fun q m=> ?_⟩
 ·rw [upd_ne (ne_of_none h hp)];exact h
 ·rcases List.mem_cons.mp m with h | h
  ·rw [h];exact .inr hp
  ·exact .inl h
theorem RM.new (r:RM K M H) (hp:H p=none) {u:HO} (c:Cell K (p :: ad M) (upd H p u) p o):RM K ((p,o) :: M) (upd H p u):=by
 have hn:p∉ad M:=fun m=>r.some m hp
 refine⟨fun x hx=> ?_,List.nodup_cons.mpr ⟨hn,r.nd⟩⟩
 rcases List.mem_cons.mp hx with h | h
 ·rw [h];exact c
 ·have hm:x.1∈ad M:=List.mem_map.mpr ⟨x,h,rfl⟩
  exact(r.cell x h).step (Step.alloc hp) (upd_ne fun e=>hn (e ▸ hm)) fun q hq=>r.mut hq
/-- a new thing that stays -/
theorem RM.newF (r:RM K M H) (hp:H p=none) {u:HO} :RM K M (upd H p u):=r.same (same_new hp)
theorem Rep.step (r:Rep K Ex Xa s M σ H) (st:Step (ad M) H (ad M') H') (m:RM K M' H'):Rep K Ex Xa s M' σ H':=by
 refine⟨?_,m,fun C M2 H2 s2 r2 q=>r.ex C M2 H2 (st.trans s2) r2 q⟩
 have:=r.vs
 clear r m
 induction this with
 | nil=>exact .nil
 | @cons a b l1 l2 h _ ih=>
  refine .cons ?_ ih
  cases a with
  | none=>trivial
  | some a=>
   cases b with
   | none=>exact h
   | some b=>exact Rv.step st h
theorem paired_get:∀ {s:Sv} {σ:L2.St} {i:Nat},Paired (RvO K D H) s σ→s[i]? =some (some a)→ ∃v,σ[i]? =some (some v)∧Rv K D H a v
 | _,_,_,.nil,e=>by simp at e
 | _ :: _,b :: _,0,.cons r _,e=>by
  have e:_=some a:=Option.some.inj e
  subst e
  cases b with
  | none=>exact absurd r id
  | some v=>exact⟨v,rfl,r⟩
 | _ :: _,_ :: _,i+1,.cons _ t,e=>paired_get (i:=i) t e
theorem paired_set {x:Option A} {y:Option V} (h:RvO K D H x y):∀ {s:Sv} {σ:L2.St} (i:Nat),Paired (RvO K D H) s σ→Paired (RvO K D H) (s.set i x) (σ.set i y)
 | _,_,_,.nil=> .nil
 | _,_,0,.cons _ t=> .cons h t
 | _,_,i+1,.cons q t=> .cons q (paired_set h i t)
theorem Rep.get (r:Rep K Ex Xa s M σ H) {i:Nat} (h:s[i]? =some (some a)):∃v,σ[i]? =some (some v)∧Rv K (ad M) H a v:=paired_get r.vs h
theorem Rep.set (r:Rep K Ex Xa s M σ H) (h:Rv K (ad M) H a v) (i:Nat):Rep K Ex Xa (s.set i (some a)) M (σ.set i (some v)) H:=⟨paired_set (x:=some a) (y:=some v) h i r.vs,r.rm,r.ex⟩
end
/-- a thing in M is exchanged -/
inductive Up:AM→Addr→AO→AO→AM→Prop
 | here {p:Addr} {o o':AO} {M:AM} :Up ((p,o) :: M) p o o' ((p,o') :: M)
 | there {x:Addr×AO} {p:Addr} {o o':AO} {M M':AM} :Up M p o o' M'→Up (x :: M) p o o' (x :: M')
/-- a thing in M, and M but for it -/
inductive Rm:AM→Addr→AO→AM→Prop
 | here {p:Addr} {o:AO} {M:AM} :Rm ((p,o) :: M) p o M
 | there {x:Addr×AO} {p:Addr} {o:AO} {M M':AM} :Rm M p o M'→Rm (x :: M) p o (x :: M')
/-- M with a hole -/
inductive Ctx:AM→Addr→AO→(AO→AM)→Prop
 | here {p:Addr} {o:AO} {M:AM} :Ctx ((p,o) :: M) p o (fun u=>(p,u) :: M)
 | there {x:Addr×AO} {p:Addr} {o:AO} {M:AM} {C:AO→AM} :Ctx M p o C→Ctx (x :: M) p o (fun u=>x :: C u)
theorem Ctx.eq {M:AM} {p:Addr} {o:AO} {C:AO→AM} (h:Ctx M p o C):M=C o:=by
 induction h with
 | here=>rfl
 | there _ ih=>rw [ih]
theorem Ctx.at {M:AM} {p:Addr} {o:AO} {C:AO→AM} (h:Ctx M p o C) (u:AO):Ctx (C u) p u C:=by
 induction h with
 | here=>exact .here
 | there _ ih=>exact .there ih
theorem Ctx.up {M:AM} {p:Addr} {o:AO} {C:AO→AM} (h:Ctx M p o C) (u:AO):Up M p o u (C u):=by
 induction h with
 | here=>exact .here
 | there _ ih=>exact .there ih
theorem Up.mem {M M':AM} {p:Addr} {o o':AO} (h:Up M p o o' M'):(p,o)∈M:=by
 induction h with
 | here=>exact .head _
 | there _ ih=>exact .tail _ ih
theorem Up.ad {M M':AM} {p:Addr} {o o':AO} (h:Up M p o o' M'):ad M'=ad M:=by
 induction h with
 | here=>rfl
 | there _ ih=>exact congrArg (List.cons _) ih
theorem Up.old {M M':AM} {p:Addr} {o o':AO} (h:Up M p o o' M'):∀x∈M',x=(p,o')∨x∈M:=by
 induction h with
 | here=>intro x hx;rcases List.mem_cons.mp hx with h | h;exact .inl h;exact .inr (.tail _ h)
 | there _ ih=>
  intro x hx
  rcases List.mem_cons.mp hx with h | h
  ·rw [h];exact .inr (.head _)
  ·rcases ih x h with h | h
   ·exact .inl h
   ·exact .inr (.tail _ h)
theorem Rm.mem {M M':AM} {p:Addr} {o:AO} (h:Rm M p o M'):(p,o)∈M:=by
 induction h with
 | here=>exact .head _
 | there _ ih=>exact .tail _ ih
theorem Rm.sub {M M':AM} {p:Addr} {o:AO} (h:Rm M p o M'):M'.Sublist M:=by
 induction h with
 | here=>exact .cons _ (List.Sublist.refl _)
 | there _ ih=>exact .cons₂ _ ih
theorem Rm.out {M M':AM} {p:Addr} {o:AO} (h:Rm M p o M') (nd:(ad M).Nodup):p∉ad M':=by
 induction h with
 | here=>exact(List.nodup_cons.mp nd).1
 | @there x p o M M' h ih=>
  obtain⟨n1,n2⟩:=List.nodup_cons.mp nd
  intro m
  rcases List.mem_cons.mp m with e | m
  ·exact n1 (by rw [← e];exact List.mem_map.mpr ⟨_,h.mem,rfl⟩)
  ·exact ih n2 m
section
variable {K:PySem.W.Frag} {M M':AM} {s:Sv} {σ:L2.St} {H H':Hp} {p:Addr} {o o':AO} {a:A} {v:V}
theorem Step.write (hp:p∈ad M) {u:HO} :Step (ad M) H (ad M) (upd H p u):=⟨fun q o h n=>by rw [upd_ne (fun e:q=p=>n (by rw [e];exact hp))];exact h,fun _ h=> .inl h⟩
theorem RM.put (r:RM K M H) (up:Up M p o o' M') {u:HO} (c:Cell K (ad M) (upd H p u) p o'):RM K M' (upd H p u):=by
 have hp:p∈ad M:=List.mem_map.mpr ⟨_,up.mem,rfl⟩
 refine⟨fun x hx=> ?_,by rw [up.ad];exact r.nd⟩
 rw [up.ad]
 by_cases e:x.1=p
 ·rcases up.old x hx with h | h
  ·rw [h];exact c
  ·have key:∀ {M M':AM} {p:Addr} {o o':AO},Up M p o o' M'→(ad M).Nodup→ ∀x∈M',x.1=p→x=(p,o'):=by
    intro M M' p o o' h
    induction h with
    | here=>
     intro nd x hx e
     rcases List.mem_cons.mp hx with h | h
     ·exact h
     ·exact absurd (List.mem_map.mpr ⟨x,h,e⟩) (List.nodup_cons.mp nd).1
    | @there y p o o' M M' h ih=>
     intro nd x hx e
     obtain⟨n1,n2⟩:=List.nodup_cons.mp nd
     rcases List.mem_cons.mp hx with q | q
     ·rw [q] at e
      exact absurd (List.mem_map.mpr ⟨_,h.mem,e.symm⟩) n1
     ·exact ih n2 x q e
   rw [key up r.nd x hx e];exact c
 ·rcases up.old x hx with h | h
  ·rw [h] at e;exact absurd rfl e
  ·exact(r.cell x h).step (Step.write hp) (upd_ne e) fun q hq=>r.mut hq
theorem Step.rm (h:Rm M p o M'):Step (ad M) H (ad M') H:=Step.sub fun q hq=>by
 obtain⟨x,hx,e⟩:=List.mem_map.mp hq
 exact List.mem_map.mpr ⟨x,h.sub.mem hx,e⟩
theorem RM.rm (r:RM K M H) (h:Rm M p o M'):RM K M' H:=⟨fun x hx=>(r.cell x (h.sub.mem hx)).step (Step.rm h) rfl fun q hq=>r.mut hq,r.nd.sublist (h.sub.map _)⟩
theorem Rv.ref {D:List Addr} (h:Rv K D H (.loc p) v):v= .ref p:=by cases h;rfl
/-- a list that is left as it is -/
theorem Rv.freeze (r:RM K M H) {xs:List A} (h:Rm M p (.lst xs) M'):Rv K (ad M') H (.lst xs) (.ref p):=by
 obtain⟨vs,hv,l⟩:=r.cell _ h.mem
 exact .lst ⟨h.out r.nd,hv⟩ (l.step (Step.rm h))
end
end Ab
set_option Elab.async false
set_option linter.all false
set_option maxRecDepth 100000
set_option maxHeartbeats 4000000
namespace Ab
open PySem PySem.Spec PyProof.Rows L2 Go
abbrev QA:=A→AM→Prop
/-- what an end must be told: by QA at the values' own level, by Qc at the heap's -/
def Kc (K:PySem.W.Frag) (M:AM) (H:Hp) (Q:QA) (Qc:VK):Prop:= ∀a v M' H',Step (ad M) H (ad M') H'→RM K M' H'→Rv K (ad M') H' a v→Q a M'→Qc v H'
def KcL (K:PySem.W.Frag) (M:AM) (H:Hp) (Q:List A→AM→Prop) (Qc:List V→Hp→Prop):Prop:= ∀a v M' H',Step (ad M) H (ad M') H'→RM K M' H'→RvL K (ad M') H' a v→Q a M'→Qc v H'
def KcX {α:Type} (K:PySem.W.Frag) (M:AM) (H:Hp) (Q:α→AM→Prop) (Qc:α→Hp→Prop):Prop:= ∀a M' H',Step (ad M) H (ad M') H'→RM K M' H'→Q a M'→Qc a H'
def EE (K:PySem.W.Frag) (Ex:XK) (Xa:XA) (te:TE) (s:Sv) (M:AM) (Q:QA):Prop:= ∀σ H Qc,Rep K Ex Xa s M σ H→Kc K M H Q Qc→te σ H Qc
def EA (K:PySem.W.Frag) (Ex:XK) (Xa:XA) (ta:TA) (s:Sv) (M:AM) (Q:List A→AM→Prop):Prop:= ∀σ H Qc,Rep K Ex Xa s M σ H→KcL K M H Q Qc→ta σ H Qc
def ET (K:PySem.W.Frag) (Ex:XK) (Xa:XA) (tt:TT) (s:Sv) (M:AM) (Q:Bool→AM→Prop):Prop:= ∀σ H Qc,Rep K Ex Xa s M σ H→KcX K M H Q Qc→tt σ H Qc
def EO (K:PySem.W.Frag) (Ex:XK) (Xa:XA) (to:TO) (s:Sv) (M:AM) (Q:Option Int→AM→Prop):Prop:= ∀σ H Qc,Rep K Ex Xa s M σ H→KcX K M H Q Qc→to σ H Qc
def O2 (K:PySem.W.Frag) (r:R2) (a b:A) (M:AM) (Q:QA):Prop:= ∀x y H Qc,Rv K (ad M) H a x→Rv K (ad M) H b y→RM K M H→Kc K M H Q Qc→r x y H Qc
def O1 (K:PySem.W.Frag) (r:V→Hp→VK→Prop) (a:A) (M:AM) (Q:QA):Prop:= ∀x H Qc,Rv K (ad M) H a x→RM K M H→Kc K M H Q Qc→r x H Qc
def OL (K:PySem.W.Frag) (r:List V→Hp→VK→Prop) (as:List A) (M:AM) (Q:QA):Prop:= ∀xs H Qc,RvL K (ad M) H as xs→RM K M H→Kc K M H Q Qc→r xs H Qc
def OM (K:PySem.W.Frag) (r:V→List V→Hp→VK→Prop) (a:A) (as:List A) (M:AM) (Q:QA):Prop:= ∀x xs H Qc,Rv K (ad M) H a x→RvL K (ad M) H as xs→RM K M H→Kc K M H Q Qc→r x xs H Qc
def OSl (K:PySem.W.Frag) (r:V→Option Int→Option Int→Hp→VK→Prop) (a:A) (lo hi:Option Int) (M:AM) (Q:QA):Prop:= ∀x H Qc,Rv K (ad M) H a x→RM K M H→Kc K M H Q Qc→r x lo hi H Qc
def KcS (K:PySem.W.Frag) (Ex:XK) (Xa:XA) (M:AM) (H:Hp) (Q:Sv→AM→Prop) (Qc:L2.St→Hp→Prop):Prop:= ∀s' M' σ' H',Step (ad M) H (ad M') H'→Rep K Ex Xa s' M' σ' H'→Q s' M'→Qc σ' H'
def ES (K:PySem.W.Frag) (Ex:XK) (Xa:XA) (ts:TS) (s:Sv) (M:AM) (N:Sv→AM→Prop) (R:QA) (B C:Sv→AM→Prop):Prop:= ∀σ H (D:Ends),Rep K Ex Xa s M σ H→KcS K Ex Xa M H N D.nx→Kc K M H R D.rt→KcS K Ex Xa M H B D.bk→KcS K Ex Xa M H C D.ct→ts D σ H
section
variable {K:PySem.W.Frag} {Ex:XK} {Xa:XA} {s s':Sv} {M M' M1:AM} {H H':Hp} {Q Q':QA} {Qc:VK} {a b:A} {v:V} {te ta tb tc:TE} {tr:TA} {c c':TT} {t u:TS} {Nx Nx':Sv→AM→Prop} {Rt Rt':QA} {Bk Bk' Ct Ct':Sv→AM→Prop} {i:Nat} {r r':R2} {p:Addr}
theorem Kc.step (k:Kc K M H Q Qc) (st:Step (ad M) H (ad M') H'):Kc K M' H' Q Qc:=fun a v M2 H2 s2 r2 v2 q=>k a v M2 H2 (st.trans s2) r2 v2 q
theorem Kc.go (k:Kc K M H Q Qc) (r:RM K M H) (v':Rv K (ad M) H a v) (q:Q a M):Qc v H:=k a v M H (Step.refl _ _) r v' q
theorem KcL.step {Q:List A→AM→Prop} {Qc:List V→Hp→Prop} (k:KcL K M H Q Qc) (st:Step (ad M) H (ad M') H'):KcL K M' H' Q Qc:=fun a v M2 H2 s2 r2 v2 q=>k a v M2 H2 (st.trans s2) r2 v2 q
theorem KcX.step {α:Type} {Q:α→AM→Prop} {Qc:α→Hp→Prop} (k:KcX K M H Q Qc) (st:Step (ad M) H (ad M') H'):KcX K M' H' Q Qc:=fun a M2 H2 s2 r2 q=>k a M2 H2 (st.trans s2) r2 q
theorem KcS.step {Q:Sv→AM→Prop} {Qc:L2.St→Hp→Prop} (k:KcS K Ex Xa M H Q Qc) (st:Step (ad M) H (ad M') H'):KcS K Ex Xa M' H' Q Qc:=fun a M2 σ2 H2 s2 r2 q=>k a M2 σ2 H2 (st.trans s2) r2 q
theorem EE.mono (h:EE K Ex Xa te s M Q) (k:∀a M',Q a M'→Q' a M'):EE K Ex Xa te s M Q':=fun σ H Qc rep kc=>h σ H Qc rep fun a v M' H' st rm rv q=>kc a v M' H' st rm rv (k a M' q)
theorem e_int {n:Int} (q:Q (.int n) M):EE K Ex Xa (tC (.int n)) s M Q:=fun σ H Qc rep k=>k.go rep.rm (.int n) q
theorem e_str {z:Str} (q:Q (.str z) M):EE K Ex Xa (tC (.str z)) s M Q:=fun σ H Qc rep k=>k.go rep.rm (.str z) q
theorem e_bl {z:Bool} (q:Q (.bl z) M):EE K Ex Xa (tC (.bl z)) s M Q:=fun σ H Qc rep k=>k.go rep.rm (.bl z) q
theorem e_non (q:Q .non M):EE K Ex Xa (tC .non) s M Q:=fun σ H Qc rep k=>k.go rep.rm .non q
theorem e_ty {z:String} (q:Q (.ty z) M):EE K Ex Xa (tC (.ty z)) s M Q:=fun σ H Qc rep k=>k.go rep.rm (.ty z) q
theorem e_ref (q:Q (.loc p) M):EE K Ex Xa (tC (.ref p)) s M Q:=fun σ H Qc rep k=>k.go rep.rm (.loc p) q
theorem e_var (h:s[i]? =some (some a)) (q:Q a M):EE K Ex Xa (tVar i) s M Q:=fun σ H Qc rep k=>by
 obtain⟨v,hv,rv⟩:=rep.get h
 exact⟨v,hv,k.go rep.rm rv q⟩
theorem e_op (h:EE K Ex Xa ta s M fun a M1=>EE K Ex Xa tb s M1 fun b M2=>O2 K r a b M2 Q):EE K Ex Xa (tOp r ta tb) s M Q:=fun σ H Qc rep k=>
 h σ H _ rep fun a v M1 H1 st rm rv hb=>hb σ H1 _ (rep.step st rm) fun b w M2 H2 st2 rm2 rw2 ho=>ho v w H2 _ (rv.step st2) rw2 rm2 (k.step (st.trans st2))
theorem e_un {r:V→Hp→VK→Prop} (h:EE K Ex Xa ta s M fun a M1=>O1 K r a M1 Q):EE K Ex Xa (tUn r ta) s M Q:=fun σ H Qc rep k=>
 h σ H _ rep fun a v M1 H1 st rm rv ho=>ho v H1 _ rv rm (k.step st)
theorem e_notV (h:EE K Ex Xa ta s M fun a M1=> ∃k,a= .bl k∧Q (.bl (!k)) M1):EE K Ex Xa (tNotV ta) s M Q:=fun σ H Qc rep k=>
 h σ H _ rep fun a v M1 H1 st rm rv ⟨z,e,q⟩=>by
  subst e;cases rv
  exact⟨z,rfl,(k.step st).go rm (.bl _) q⟩
theorem e_andV (h:EE K Ex Xa ta s M fun a M1=> ∃k,a= .bl k∧if k=true then EE K Ex Xa tb s M1 Q else Q (.bl false) M1):EE K Ex Xa (tAndV ta tb) s M Q:=fun σ H Qc rep k=>
 h σ H _ rep fun a v M1 H1 st rm rv ⟨z,e,q⟩=>by
  subst e;cases rv
  refine⟨z,rfl,?_⟩
  cases z with
  | true=>exact if_t rfl ((show EE K Ex Xa tb s M1 Q from q) σ H1 _ (rep.step st rm) (k.step st))
  | false=>exact if_f rfl ((k.step st).go rm (.bl _) q)
theorem e_orV (h:EE K Ex Xa ta s M fun a M1=> ∃k,a= .bl k∧if k=true then Q (.bl true) M1 else EE K Ex Xa tb s M1 Q):EE K Ex Xa (tOrV ta tb) s M Q:=fun σ H Qc rep k=>
 h σ H _ rep fun a v M1 H1 st rm rv ⟨z,e,q⟩=>by
  subst e;cases rv
  refine⟨z,rfl,?_⟩
  cases z with
  | true=>exact if_t rfl ((k.step st).go rm (.bl _) q)
  | false=>exact if_f rfl ((show EE K Ex Xa tb s M1 Q from q) σ H1 _ (rep.step st rm) (k.step st))
theorem e_chain (h:EE K Ex Xa ta s M fun x M1=>EE K Ex Xa tb s M1 fun y M2=>O2 K r x y M2 fun z M3=> ∃k,z= .bl k∧if k=true then EE K Ex Xa tc s M3 fun w M4=>O2 K r' y w M4 Q else Q (.bl false) M3):EE K Ex Xa (tChain r r' ta tb tc) s M Q:=fun σ H Qc rep k=>
 h σ H _ rep fun a v M1 H1 st rm rv hb=>hb σ H1 _ (rep.step st rm) fun b w M2 H2 st2 rm2 rw2 ho=>ho v w H2 _ (rv.step st2) rw2 rm2 fun z x M3 H3 st3 rm3 rx ⟨y,e,q⟩=>by
  subst e;cases rx
  refine⟨y,rfl,?_⟩
  have st13:=(st.trans st2).trans st3
  cases y with
  | false=>exact if_f rfl ((k.step st13).go rm3 (.bl _) q)
  | true=>exact if_t rfl ((show EE K Ex Xa tc s M3 _ from q) σ H3 _ (rep.step st13 rm3) fun d x4 M4 H4 st4 rm4 rx4 ho2=>ho2 w x4 H4 _ (rw2.step (st3.trans st4)) rx4 rm4 (k.step (st13.trans st4)))
theorem e_ifE (h:ET K Ex Xa c s M fun z M1=>if z=true then EE K Ex Xa ta s M1 Q else EE K Ex Xa tb s M1 Q):EE K Ex Xa (tIf c ta tb) s M Q:=fun σ H Qc rep k=>
 h σ H _ rep fun z M1 H1 st rm q=>by
  cases z with
  | true=>exact if_t rfl ((show EE K Ex Xa ta s M1 Q from q) σ H1 _ (rep.step st rm) (k.step st))
  | false=>exact if_f rfl ((show EE K Ex Xa tb s M1 Q from q) σ H1 _ (rep.step st rm) (k.step st))
theorem a_nil {Q:List A→AM→Prop} (q:Q [] M):EA K Ex Xa tNil s M Q:=fun σ H Qc rep k=>k [] [] M H (Step.refl _ _) rep.rm .nil q
theorem a_cons {Q:List A→AM→Prop} (h:EE K Ex Xa te s M fun a M1=>EA K Ex Xa tr s M1 fun as M2=>Q (a :: as) M2):EA K Ex Xa (tCons te tr) s M Q:=fun σ H Qc rep k=>
 h σ H _ rep fun a v M1 H1 st rm rv hb=>hb σ H1 _ (rep.step st rm) fun as vs M2 H2 st2 rm2 rvs q=>k (a :: as) (v :: vs) M2 H2 (st.trans st2) rm2 (.cons (rv.step st2) rvs) q
/-- a new thing that stays -/
theorem Step.fresh {D:List Addr} (hp:H p=none) {u:HO} :Step D H D (upd H p u):=Step.same (same_new hp)
theorem out_fresh (rm:RM K M H) (hp:H p=none):p∉ad M:=fun m=>rm.some m hp
theorem newT (rm:RM K M H) (hp:H p=none) {as:List A} {vs:List V} (r:RvL K (ad M) H as vs):Rv K (ad M) (upd H p (.tup vs)) (.tup as) (.ref p):= .tup (.inl ⟨out_fresh rm hp,.inl upd_same⟩) (r.step (Step.fresh hp))
theorem newL (rm:RM K M H) (hp:H p=none) {as:List A} {vs:List V} (r:RvL K (ad M) H as vs):Rv K (ad M) (upd H p (.lst vs)) (.lst as) (.ref p):= .lst ⟨out_fresh rm hp,upd_same⟩ (r.step (Step.fresh hp))
theorem Kc.newT (k:Kc K M H Q Qc) (rm:RM K M H) (hp:H p=none) {as:List A} {vs:List V} (r:RvL K (ad M) H as vs) (q:Q (.tup as) M):Qc (.ref p) (upd H p (.tup vs)):=
 k _ _ M _ (Step.fresh hp) (rm.newF hp) (Ab.newT rm hp r) q
theorem Kc.newL (k:Kc K M H Q Qc) (rm:RM K M H) (hp:H p=none) {as:List A} {vs:List V} (r:RvL K (ad M) H as vs) (q:Q (.lst as) M):Qc (.ref p) (upd H p (.lst vs)):=
 k _ _ M _ (Step.fresh hp) (rm.newF hp) (Ab.newL rm hp r) q
theorem Kc.newC (k:Kc K M H Q Qc) (rm:RM K M H) (hp:H p=none) {as:List A} {vs:List V} (r:RvL K (ad M) H as vs) (q:Q (.loc p) ((p,.lst as) :: M)):Qc (.ref p) (upd H p (.lst vs)):=
 k _ _ ((p,.lst as) :: M) _ (Step.alloc hp) (rm.new hp ⟨vs,upd_same,r.step (Step.alloc hp)⟩) (.loc p) q
theorem e_tup (h:EA K Ex Xa tr s M fun as M1=>as.length≤sizeLine∧Q (.tup as) M1):EE K Ex Xa (tTup tr) s M Q:=fun σ H Qc rep k=>
 h σ H _ rep fun as vs M1 H1 st rm rv q=>⟨by rw [← rv.len];exact q.1,fun p hp=>(k.step st).newT rm hp rv q.2⟩
theorem e_lst (h:EA K Ex Xa tr s M fun as M1=>as.length≤sizeLine∧Q (.lst as) M1):EE K Ex Xa (tLst tr) s M Q:=fun σ H Qc rep k=>
 h σ H _ rep fun as vs M1 H1 st rm rv q=>⟨by rw [← rv.len];exact q.1,fun p hp=>(k.step st).newL rm hp rv q.2⟩
theorem e_lstC (h:EA K Ex Xa tr s M fun as M1=>as.length≤sizeLine∧ ∀p,Q (.loc p) ((p,.lst as) :: M1)):EE K Ex Xa (tLst tr) s M Q:=fun σ H Qc rep k=>
 h σ H _ rep fun as vs M1 H1 st rm rv q=>⟨by rw [← rv.len];exact q.1,fun p hp=>(k.step st).newC rm hp rv (q.2 p)⟩
theorem e_nilC (q:∀p,Q (.loc p) ((p,.lst []) :: M)):EE K Ex Xa (tLst tNil) s M Q:=e_lstC (a_nil ⟨Nat.zero_le _,q⟩)
theorem e_cb {r:List V→Hp→VK→Prop} (h:EA K Ex Xa tr s M fun as M1=>OL K r as M1 Q):EE K Ex Xa (tCB r tr) s M Q:=fun σ H Qc rep k=>
 h σ H _ rep fun as vs M1 H1 st rm rv ho=>ho vs H1 _ rv rm (k.step st)
theorem e_sl {rr:V→Option Int→Option Int→Hp→VK→Prop} {tl th:TO} (h:EE K Ex Xa te s M fun a M1=>EO K Ex Xa tl s M1 fun lo M2=>EO K Ex Xa th s M2 fun hi M3=>OSl K rr a lo hi M3 Q):EE K Ex Xa (tSl rr te tl th) s M Q:=fun σ H Qc rep k=>
 h σ H _ rep fun a v M1 H1 st rm rv h1=>h1 σ H1 _ (rep.step st rm) fun lo M2 H2 st2 rm2 h2=>h2 σ H2 _ (rep.step (st.trans st2) rm2) fun hi M3 H3 st3 rm3 ho=>ho v H3 _ (rv.step (st2.trans st3)) rm3 (k.step ((st.trans st2).trans st3))
theorem e_noPart {Q:Option Int→AM→Prop} (q:Q none M):EO K Ex Xa tNoPart s M Q:=fun σ H Qc rep k=>k none M H (Step.refl _ _) rep.rm q
theorem e_part {Q:Option Int→AM→Prop} (h:EE K Ex Xa te s M fun a M1=> ∃i,a= .int i∧Q (some i) M1):EO K Ex Xa (tPart te) s M Q:=fun σ H Qc rep k=>
 h σ H _ rep fun a v M1 H1 st rm rv ⟨i,e,q⟩=>by
  subst e;cases rv
  exact⟨i,rfl,k.step st (some i) M1 H1 (Step.refl _ _) rm q⟩
theorem e_bits (h:EE K Ex Xa te s M fun a M1=> ∃i,a= .int i∧Q (.int (Builtin.Int.intBits i:Nat)) M1):EE K Ex Xa (tBits te) s M Q:=fun σ H Qc rep k=>
 h σ H _ rep fun a v M1 H1 st rm rv ⟨i,e,q⟩=>by
  subst e;cases rv
  exact⟨i,rfl,(k.step st).go rm (.int _) q⟩
theorem e_I {R:Int→Prop} {n:Int} (q:R n):∃i,A.int n= .int i∧R i:=⟨n,rfl,q⟩
theorem e_B {R:Bool→Prop} {n:Bool} (q:R n):∃i,A.bl n= .bl i∧R i:=⟨n,rfl,q⟩
theorem t_testB {QB:Bool→AM→Prop} (h:EE K Ex Xa te s M fun a M1=> ∃k,a= .bl k∧QB k M1):ET K Ex Xa (tTest te) s M QB:=fun σ H Qc rep k=>
 h σ H _ rep fun a v M1 H1 st rm rv ⟨z,e,q⟩=>by
  subst e;cases rv
  exact⟨z,rfl,k.step st z M1 H1 (Step.refl _ _) rm q⟩
theorem t_B {QB:Bool→AM→Prop} (h:EE K Ex Xa te s M fun a M1=> ∃k,a= .bl k∧QB k M1):ET K Ex Xa (tB te) s M QB:=fun σ H Qc rep k=>
 h σ H _ rep fun a v M1 H1 st rm rv ⟨z,e,q⟩=>by
  subst e;cases rv
  exact⟨z,rfl,k.step st z M1 H1 (Step.refl _ _) rm q⟩
theorem t_yes {QB:Bool→AM→Prop} (q:QB true M):ET K Ex Xa tYes s M QB:=fun σ H Qc rep k=>k true M H (Step.refl _ _) rep.rm q
theorem t_not {QB:Bool→AM→Prop} (h:ET K Ex Xa c s M fun z M1=>QB (!z) M1):ET K Ex Xa (tNot c) s M QB:=fun σ H Qc rep k=>h σ H _ rep fun z M1 H1 st rm q=>k.step st (!z) M1 H1 (Step.refl _ _) rm q
theorem t_and {QB:Bool→AM→Prop} (h:ET K Ex Xa c s M fun z M1=>if z=true then ET K Ex Xa c' s M1 QB else QB false M1):ET K Ex Xa (tAnd c c') s M QB:=fun σ H Qc rep k=>
 h σ H _ rep fun z M1 H1 st rm q=>by
  cases z with
  | true=>exact if_t rfl ((show ET K Ex Xa c' s M1 QB from q) σ H1 _ (rep.step st rm) (k.step st))
  | false=>exact if_f rfl (k.step st false M1 H1 (Step.refl _ _) rm q)
theorem t_or {QB:Bool→AM→Prop} (h:ET K Ex Xa c s M fun z M1=>if z=true then QB true M1 else ET K Ex Xa c' s M1 QB):ET K Ex Xa (tOr c c') s M QB:=fun σ H Qc rep k=>
 h σ H _ rep fun z M1 H1 st rm q=>by
  cases z with
  | true=>exact if_t rfl (k.step st true M1 H1 (Step.refl _ _) rm q)
  | false=>exact if_f rfl ((show ET K Ex Xa c' s M1 QB from q) σ H1 _ (rep.step st rm) (k.step st))
theorem s_seq (h:ES K Ex Xa t s M (fun s1 M1=>ES K Ex Xa u s1 M1 Nx Rt Bk Ct) Rt Bk Ct):ES K Ex Xa (tSeq t u) s M Nx Rt Bk Ct:=fun σ H D rep kn kr kb kt=>
 h σ H { D with nx:=u D } rep (fun s1 M1 σ1 H1 st rep1 q=>q σ1 H1 D rep1 (kn.step st) (kr.step st) (kb.step st) (kt.step st)) kr kb kt
theorem s_next (q:Nx s M):ES K Ex Xa tNext s M Nx Rt Bk Ct:=fun σ H D rep kn kr kb kt=>kn s M σ H (Step.refl _ _) rep q
theorem s_asg (h:EE K Ex Xa te s M fun a M1=>Nx (s.set i (some a)) M1):ES K Ex Xa (tAsg te (gName i)) s M Nx Rt Bk Ct:=fun σ H D rep kn kr kb kt=>
 h σ H _ rep fun a v M1 H1 st rm rv q=>kn _ M1 _ H1 st ((rep.step st rm).set rv i) q
theorem s_drop (h:EE K Ex Xa te s M fun _ M1=>Nx s M1):ES K Ex Xa (tDrop te) s M Nx Rt Bk Ct:=fun σ H D rep kn kr kb kt=>
 h σ H _ rep fun a v M1 H1 st rm rv q=>kn _ M1 _ H1 st (rep.step st rm) q
theorem s_ret (h:EE K Ex Xa te s M Rt):ES K Ex Xa (tRet te) s M Nx Rt Bk Ct:=fun σ H D rep kn kr kb kt=>h σ H _ rep kr
theorem s_retN (q:Rt .non M):ES K Ex Xa tRetN s M Nx Rt Bk Ct:=fun σ H D rep kn kr kb kt=>kr.go rep.rm .non q
theorem s_if (h:ET K Ex Xa c s M fun z M1=>if z=true then ES K Ex Xa t s M1 Nx Rt Bk Ct else ES K Ex Xa u s M1 Nx Rt Bk Ct):ES K Ex Xa (tIfS c t u) s M Nx Rt Bk Ct:=fun σ H D rep kn kr kb kt=>
 h σ H _ rep fun z M1 H1 st rm q=>by
  cases z with
  | true=>exact if_t rfl ((show ES K Ex Xa t s M1 Nx Rt Bk Ct from q) σ H1 D (rep.step st rm) (kn.step st) (kr.step st) (kb.step st) (kt.step st))
  | false=>exact if_f rfl ((show ES K Ex Xa u s M1 Nx Rt Bk Ct from q) σ H1 D (rep.step st rm) (kn.step st) (kr.step st) (kb.step st) (kt.step st))
theorem s_par {j:Nat} (h:EA K Ex Xa tr s M fun as M1=> ∃a b,as= [a,b]∧Nx ((s.set i (some a)).set j (some b)) M1):ES K Ex Xa (tPar i j tr) s M Nx Rt Bk Ct:=fun σ H D rep kn kr kb kt=>
 h σ H _ rep fun as vs M1 H1 st rm rv ⟨a,b,e,q⟩=>by
  subst e
  cases rv with
  | cons r1 t=>cases t with
   | cons r2 t=>
    cases t
    exact⟨_,_,rfl,kn _ M1 _ H1 st (((rep.step st rm).set r1 i).set r2 j) q⟩
theorem s_weak (h:ES K Ex Xa t s M Nx' Rt' Bk' Ct') (h1:∀s M,Nx' s M→Nx s M) (h2:∀a M,Rt' a M→Rt a M) (h3:∀s M,Bk' s M→Bk s M) (h4:∀s M,Ct' s M→Ct s M):ES K Ex Xa t s M Nx Rt Bk Ct:=fun σ H D rep kn kr kb kt=>
 h σ H D rep (fun s M σ H st rep q=>kn s M σ H st rep (h1 s M q)) (fun a v M H st rm rv q=>kr a v M H st rm rv (h2 a M q)) (fun s M σ H st rep q=>kb s M σ H st rep (h3 s M q)) (fun s M σ H st rep q=>kt s M σ H st rep (h4 s M q))
/-- what is told is a list that no one changes any more -/
theorem e_freeze (h:EE K Ex Xa te s M fun a M1=> ∃p xs M2,a= .loc p∧Rm M1 p (.lst xs) M2∧Q (.lst xs) M2):EE K Ex Xa te s M Q:=fun σ H Qc rep k=>
 h σ H _ rep fun a v M1 H1 st rm rv ⟨p,xs,M2,e,hr,q⟩=>by
  subst e;cases rv
  exact k _ _ M2 H1 (st.trans (Step.rm hr)) (rm.rm hr) (Rv.freeze rm hr) q
end
end Ab
set_option Elab.async false
set_option linter.all false
set_option maxRecDepth 100000
set_option maxHeartbeats 4000000
namespace Ab
open PySem PySem.Spec PyProof.Rows L2 Go
/-- a thing in M -/
inductive Lk:AM→Addr→AO→Prop
 | here {p:Addr} {o:AO} {M:AM} :Lk ((p,o) :: M) p o
 | there {x:Addr×AO} {p:Addr} {o:AO} {M:AM} :Lk M p o→Lk (x :: M) p o
theorem Lk.mem {M:AM} {p:Addr} {o:AO} (h:Lk M p o):(p,o)∈M:=by
 induction h with
 | here=>exact .head _
 | there _ ih=>exact .tail _ ih
/-- what is in the one is in the other -/
def Sub (M M':AM):Prop:= ∀p o,Lk M p o→Lk M' p o
def AIt (K:PySem.W.Frag) (xs:List A) (M:AM) (H:Hp) (J:It):Prop:= ∀M' H',Step (ad M) H (ad M') H'→RM K M' H'→
 (∀i,i < xs.length→J.go i H')∧J.stop xs.length H'∧ ∀i x v H2,xs[i]? =some x→J.yld i H' v H2→Same H' H2∧Rv K (ad M') H2 x v
def EI (K:PySem.W.Frag) (Ex:XK) (Xa:XA) (wi:TI) (s:Sv) (M:AM) (R:List A→AM→Prop):Prop:= ∀σ H (Rc:It→Hp→Prop),Rep K Ex Xa s M σ H→
 (∀xs M' H' J,Step (ad M) H (ad M') H'→RM K M' H'→AIt K xs M' H' J→R xs M'→Rc J H')→wi σ H Rc
/-- what is assigned to -/
def EG (K:PySem.W.Frag) (Ex:XK) (Xa:XA) (g:TG) (x:A) (s:Sv) (M:AM) (Q:Sv→Prop):Prop:= ∀v σ H (Qc:L2.St→Hp→Prop),Rv K (ad M) H x v→Rep K Ex Xa s M σ H→(∀s' σ',Rep K Ex Xa s' M σ' H→Q s'→Qc σ' H)→g v σ H Qc
def EGs (K:PySem.W.Frag) (Ex:XK) (Xa:XA) (g:TGs) (xs:List A) (s:Sv) (M:AM) (Q:Sv→Prop):Prop:= ∀vs σ H (Qc:L2.St→Hp→Prop),RvL K (ad M) H xs vs→Rep K Ex Xa s M σ H→(∀s' σ',Rep K Ex Xa s' M σ' H→Q s'→Qc σ' H)→g vs σ H Qc
/-- .. within a comprehension whose own names are vs -/
def EGc (K:PySem.W.Frag) (Ex:XK) (Xa:XA) (g:TG) (ws:List Nat) (x:A) (s:Sv) (M:AM) (Q:Sv→Prop):Prop:= ∀v σ H (Qc:L2.St→Hp→Prop),Rv K (ad M) H x v→Rep K Ex Xa s M σ H→(∀s' σ',wipe σ' ws=wipe σ ws→Rep K Ex Xa s' M σ' H→Q s'→Qc σ' H)→g v σ H Qc
def EGcs (K:PySem.W.Frag) (Ex:XK) (Xa:XA) (g:TGs) (ws:List Nat) (xs:List A) (s:Sv) (M:AM) (Q:Sv→Prop):Prop:= ∀vs σ H (Qc:L2.St→Hp→Prop),RvL K (ad M) H xs vs→Rep K Ex Xa s M σ H→(∀s' σ',wipe σ' ws=wipe σ ws→Rep K Ex Xa s' M σ' H→Q s'→Qc σ' H)→g vs σ H Qc
def wipeA (s:Sv):List Nat→Sv
 | []=>s
 | v :: vs=>(wipeA s vs).set v none
section
variable {K:PySem.W.Frag} {Ex:XK} {Xa:XA} {s s':Sv} {M M' M1:AM} {H H':Hp} {Q Q':QA} {Qc:VK} {a b:A} {v:V} {te ta tb tc:TE} {tr:TA} {c c':TT} {t u:TS} {Nx:Sv→AM→Prop} {Rt:QA} {Bk Ct:Sv→AM→Prop} {i:Nat} {p:Addr} {g:TG} {tg:TGs} {x:A} {xs:List A} {QS:Sv→Prop} {ws:List Nat} {σ:L2.St}
theorem g_name (q:QS (s.set i (some x))):EG K Ex Xa (gName i) x s M QS:=fun v σ H Qc rv rep k=>k _ _ (rep.set rv i) q
theorem g_tup {n:Nat} (hn:xs.length=n) (h:EGs K Ex Xa tg xs s M QS):EG K Ex Xa (gTup K n tg) (.tup xs) s M QS:=fun v σ H Qc rv rep k=>by
 cases rv with
 | tup f r=>exact⟨_,_,rfl,f.sq,by rw [← r.len];exact hn,h _ σ H Qc r rep k⟩
theorem g_nil (q:QS s):EGs K Ex Xa gNil [] s M QS:=fun vs σ H Qc rv rep k=>by
 cases rv
 exact⟨rfl,k s σ rep q⟩
theorem g_cons (h:EG K Ex Xa g x s M fun s1=>EGs K Ex Xa tg xs s1 M QS):EGs K Ex Xa (gCons g tg) (x :: xs) s M QS:=fun vs σ H Qc rv rep k=>by
 cases rv with
 | cons r1 r2=>exact⟨_,_,rfl,h _ σ H _ r1 rep fun s1 σ1 rep1 h1=>h1 _ σ1 H _ r2 rep1 k⟩
theorem wipe_set_in {σ:L2.St} {o:Option V} :∀ {ws:List Nat} {i:Nat},i∈ws→wipe (σ.set i o) ws=wipe σ ws:=by
 intro ws
 have key:∀(ws:List Nat) (τ:L2.St) (i:Nat) (o:Option V),i∉ws→wipe (τ.set i o) ws=(wipe τ ws).set i o:=by
  intro ws
  induction ws with
  | nil=>intro τ i o _;rfl
  | cons w ws ih=>
   intro τ i o h
   show(wipe (τ.set i o) ws).set w none=((wipe τ ws).set w none).set i o
   rw [ih τ i o (fun m=>h (.tail _ m)),List.set_comm]
   exact fun e=>h (by rw [e];exact .head _)
 induction ws with
 | nil=>intro i h;cases h
 | cons w ws ih=>
  intro i h
  show(wipe (σ.set i o) ws).set w none=(wipe σ ws).set w none
  by_cases m:i∈ws
  ·rw [ih m]
  ·rw [key ws σ i o m]
   rcases List.mem_cons.mp h with e | e
   ·rw [e,List.set_set]
   ·exact absurd e m
theorem wipe_wipe {σ:L2.St} (ws:List Nat):wipe (wipe σ ws) ws=wipe σ ws:=by
 have key:∀(l ws:List Nat),(∀x∈l,x∈ws)→wipe (wipe σ l) ws=wipe σ ws:=by
  intro l
  induction l with
  | nil=>intro ws _;rfl
  | cons w l ih=>
   intro ws h
   show wipe ((wipe σ l).set w none) ws=_
   rw [wipe_set_in (h w (.head _)),ih ws fun x hx=>h x (.tail _ hx)]
 exact key ws ws fun _ h=>h
theorem c_name (hi:i∈ws) (q:QS (s.set i (some x))):EGc K Ex Xa (gName i) ws x s M QS:=fun v σ H Qc rv rep k=>k _ _ (wipe_set_in hi) (rep.set rv i) q
theorem c_tup {n:Nat} (hn:xs.length=n) (h:EGcs K Ex Xa tg ws xs s M QS):EGc K Ex Xa (gTup K n tg) ws (.tup xs) s M QS:=fun v σ H Qc rv rep k=>by
 cases rv with
 | tup f r=>exact⟨_,_,rfl,f.sq,by rw [← r.len];exact hn,h _ σ H Qc r rep k⟩
theorem c_nil (q:QS s):EGcs K Ex Xa gNil ws [] s M QS:=fun vs σ H Qc rv rep k=>by
 cases rv
 exact⟨rfl,k s σ rfl rep q⟩
theorem c_cons (h:EGc K Ex Xa g ws x s M fun s1=>EGcs K Ex Xa tg ws xs s1 M QS):EGcs K Ex Xa (gCons g tg) ws (x :: xs) s M QS:=fun vs σ H Qc rv rep k=>by
 cases rv with
 | cons r1 r2=>exact⟨_,_,rfl,h _ σ H _ r1 rep fun s1 σ1 e1 rep1 h1=>h1 _ σ1 H _ r2 rep1 fun s2 σ2 e2=>k s2 σ2 (e2.trans e1)⟩
theorem s_asgG (h:EE K Ex Xa te s M fun a M1=>EG K Ex Xa g a s M1 fun s2=>Nx s2 M1):ES K Ex Xa (tAsg te g) s M Nx Rt Bk Ct:=fun σ H D rep kn kr kb kt=>
 h σ H _ rep fun a v M1 H1 st rm rv hg=>hg v σ H1 _ rv (rep.step st rm) fun s2 σ2 rep2 q=>kn s2 M1 σ2 H1 st rep2 q
theorem s_sub {to ti:TE} (h:EE K Ex Xa te s M fun x M1=>EE K Ex Xa to s M1 fun o M2=>EE K Ex Xa ti s M2 fun k M3=> ∃p xs n j M4,o= .loc p∧k= .int n∧Up M3 p (.lst xs) (.lst (xs.set j x)) M4∧ixN xs.length n=some j∧Nx s M4):ES K Ex Xa (tAsg te (gSub to ti rSetL)) s M Nx Rt Bk Ct:=fun σ H D rep kn kr kb kt=>
 h σ H _ rep fun a v M1 H1 st rm rv ho=>ho σ H1 _ (rep.step st rm) fun o w M2 H2 st2 rm2 rw2 hi=>hi σ H2 _ (rep.step (st.trans st2) rm2) fun k y M3 H3 st3 rm3 ry ⟨p,xs,n,j,M4,e1,e2,up,hj,q⟩=>by
  subst e1 e2
  cases rw2
  cases ry
  obtain⟨vs,hp,rl⟩:=rm3.cell _ up.mem
  have hm:p∈ad M3:=List.mem_map.mpr ⟨_,up.mem,rfl⟩
  have st4:Step (ad M3) H3 (ad M3) (upd H3 p (.lst (vs.set j v))):=Step.write hm
  have rm4:RM K M4 (upd H3 p (.lst (vs.set j v))):=rm3.put up ⟨_,upd_same,(rl.step st4).set ((rv.step (st2.trans st3)).step st4) j⟩
  have st5:Step (ad M3) H3 (ad M4) (upd H3 p (.lst (vs.set j v))):=by rw [up.ad];exact st4
  have st15:=((st.trans st2).trans st3).trans st5
  exact⟨p,vs,n,j,rfl,rfl,hp,by rw [← rl.len];exact hj,kn s M4 σ _ st15 (rep.step st15 rm4) q⟩
theorem i_tup {R:List A→AM→Prop} (h:EE K Ex Xa te s M fun a M1=> ∃xs,a= .tup xs∧R xs M1):EI K Ex Xa (iTup K te) s M R:=fun σ H Rc rep k=>
 h σ H _ rep fun a v M1 H1 st rm rv ⟨xs,e,q⟩=>by
  subst e
  cases rv with
  | tup f r=>
   rename_i p vs
   refine⟨p,rfl,⟨vs,f.sq⟩,k xs M1 H1 _ st rm (fun M' H' st' rm'=> ?_) q⟩
   have w:=walk_tup (K:=K) (a:=p) (xs:=vs)
   have g:=(f.step st').sq
   refine⟨fun i hi=>w.goes i H' (by rw [← r.len];exact hi) g,by rw [r.len];exact w.stops H' g,fun i x v H2 hx y=> ?_⟩
   have hl:i < vs.length:=by rw [← r.len];exact(List.getElem?_eq_some_iff.mp hx).1
   obtain⟨e,hv⟩:=w.yields i H' v H2 hl g y
   subst e
   obtain⟨x',hx',rx⟩:=r.at' hv
   rw [hx] at hx'
   cases hx'
   exact⟨Same.refl _,rx.step st'⟩
theorem i_lst {R:List A→AM→Prop} (h:EE K Ex Xa te s M fun a M1=> ∃xs,a= .lst xs∧R xs M1):EI K Ex Xa (iList K te) s M R:=fun σ H Rc rep k=>
 h σ H _ rep fun a v M1 H1 st rm rv ⟨xs,e,q⟩=>by
  subst e
  cases rv with
  | lst f r=>
   rename_i p vs
   refine⟨p,rfl,⟨vs,f.sq⟩,k xs M1 H1 _ st rm (fun M' H' st' rm'=> ?_) q⟩
   have w:=walk_list (K:=K) (a:=p) (xs:=vs)
   have g:SqL K H' p vs:=(f.step st').sq
   refine⟨fun i hi=>w.goes i H' (by rw [← r.len];exact hi) g,by rw [r.len];exact w.stops H' g,fun i x v H2 hx y=> ?_⟩
   have hl:i < vs.length:=by rw [← r.len];exact(List.getElem?_eq_some_iff.mp hx).1
   obtain⟨e,hv⟩:=w.yields i H' v H2 hl g y
   subst e
   obtain⟨x',hx',rx⟩:=r.at' hv
   rw [hx] at hx'
   cases hx'
   exact⟨Same.refl _,rx.step st'⟩
abbrev sign (c:Nat):A:= .str ⟨#[c]⟩
theorem i_str {R:List A→AM→Prop} (h:EE K Ex Xa te s M fun a M1=> ∃z,a= .str z∧R (z.cps.toList.map sign) M1):EI K Ex Xa (iStr te) s M R:=fun σ H Rc rep k=>
 h σ H _ rep fun a v M1 H1 st rm rv ⟨z,e,q⟩=>by
  subst e;cases rv
  refine⟨z,rfl,k _ M1 H1 _ st rm (fun M' H' st' rm'=> ?_) q⟩
  have w:=walk_str (z:=z)
  have el:(z.cps.toList.map sign).length=z.cps.size:=by rw [List.length_map,Array.length_toList]
  refine⟨fun i hi=>w.goes i H' (by rw [← el];exact hi) trivial,by rw [el];exact w.stops H' trivial,fun i x v H2 hx y=> ?_⟩
  have hl:i < z.cps.size:=by rw [← el];exact(List.getElem?_eq_some_iff.mp hx).1
  obtain⟨e,c,hc,e2⟩:=w.yields i H' v H2 hl trivial y
  subst e e2
  rw [List.getElem?_map,Array.getElem?_toList,hc] at hx
  cases hx
  exact⟨Same.refl _,.str _⟩
abbrev rng (lo:Int) (n:Nat):List A:=(List.range n).map fun i=> .int (lo+(i:Nat))
theorem rng_it {lo:Int} {n:Nat} :AIt K (rng lo n) M H (Itr lo n):=fun M' H' st' rm'=>by
 have w:=walk_range (lo:=lo) (n:=n)
 have el:(rng lo n).length=n:=by rw [List.length_map,List.length_range]
 refine⟨fun i hi=>w.goes i H' (by rw [← el];exact hi) trivial,by rw [el];exact w.stops H' trivial,fun i x v H2 hx y=> ?_⟩
 have hl:i < n:=by rw [← el];exact(List.getElem?_eq_some_iff.mp hx).1
 obtain⟨e,e2⟩:=w.yields i H' v H2 hl trivial y
 subst e e2
 rw [List.getElem?_map,List.getElem?_range hl] at hx
 cases hx
 exact⟨Same.refl _,.int _⟩
theorem i_rng1 {R:List A→AM→Prop} (h:EA K Ex Xa tr s M fun as M1=> ∃j:Int,as= [.int j]∧ -(2^62)≤j∧j < 2^62∧R (rng 0 j.toNat) M1):EI K Ex Xa (iRng1 tr) s M R:=fun σ H Rc rep k=>
 h σ H _ rep fun as vs M1 H1 st rm rv ⟨j,e,h1,h2,q⟩=>by
  subst e
  cases rv with
  | cons r t=>
   cases r;cases t
   exact⟨j,rfl,h1,h2,k _ M1 H1 _ st rm rng_it q⟩
theorem i_rng2 {R:List A→AM→Prop} (h:EA K Ex Xa tr s M fun as M1=> ∃i j:Int,as= [.int i,.int j]∧(-(2^62)≤i∧i < 2^62∧ -(2^62)≤j∧j < 2^62)∧R (rng i (j - i).toNat) M1):EI K Ex Xa (iRng2 tr) s M R:=fun σ H Rc rep k=>
 h σ H _ rep fun as vs M1 H1 st rm rv ⟨i,j,e,h1,q⟩=>by
  subst e
  cases rv with
  | cons r t=>
   cases t with
   | cons r2 t=>
    cases r;cases r2;cases t
    exact⟨i,j,rfl,h1,k _ M1 H1 _ st rm rng_it q⟩
/-- turns for tuples of pairs that are made on the way -/
theorem pair_it {J:It} {n:Nat} {G:Hp→Prop} {f g:Nat→Option V} {xs ys:List A} (w:Walk J n G (YPair f g)) (hn:n=(List.zipWith (fun a b=>A.tup [a,b]) xs ys).length)
  (hG:∀M' H',Step (ad M) H (ad M') H'→RM K M' H'→G H'∧ ∀i u v a b,f i=some u→g i=some v→xs[i]? =some a→ys[i]? =some b→Rv K (ad M') H' a u∧Rv K (ad M') H' b v):AIt K (List.zipWith (fun a b=>A.tup [a,b]) xs ys) M H J:=fun M' H' st' rm'=>by
 obtain⟨gg,hv⟩:=hG M' H' st' rm'
 refine⟨fun i hi=>w.goes i H' (by rw [hn];exact hi) gg,by rw [← hn];exact w.stops H' gg,fun i x v H2 hx y=> ?_⟩
 have hl:i < n:=by rw [hn];exact(List.getElem?_eq_some_iff.mp hx).1
 obtain⟨T,u1,u2,e1,e2,e3,e4,e5⟩:=w.yields i H' v H2 hl gg y
 subst e1 e3
 rw [List.getElem?_zipWith] at hx
 cases ha:xs[i]? with
 | none=>rw [ha] at hx;cases hx
 | some a=>
  cases hb:ys[i]? with
  | none=>rw [ha,hb] at hx;cases hx
  | some b=>
   rw [ha,hb] at hx
   cases hx
   obtain⟨r1,r2⟩:=hv i u1 u2 a b e4 e5 ha hb
   exact⟨same_new e2,newT rm' e2 (.cons r1 (.cons r2 .nil))⟩
theorem i_zip {R:List A→AM→Prop} (h:EA K Ex Xa tr s M fun as M1=> ∃xs ys,((as= [.tup xs,.tup ys])∨(as= [.lst xs,.lst ys]))∧R (List.zipWith (fun a b=>A.tup [a,b]) xs ys) M1):EI K Ex Xa (RZ.iZipA K tr) s M R:=fun σ H Rc rep k=>
 h σ H _ rep fun as vs M1 H1 st rm rv ⟨xs,ys,e,q⟩=>by
  have at2:∀ {us ws:List V} {M':AM} {H':Hp},Step (ad M1) H1 (ad M') H'→RvL K (ad M1) H1 xs us→RvL K (ad M1) H1 ys ws→ ∀(i:Nat) (u v:V) (a b:A),us[i]? =some u→ws[i]? =some v→xs[i]? =some a→ys[i]? =some b→Rv K (ad M') H' a u∧Rv K (ad M') H' b v:=by
   intro us ws M' H' st' r1 r2 i u v a b h1 h2 h3 h4
   obtain⟨a',e1,g1⟩:=r1.at' h1
   obtain⟨b',e2,g2⟩:=r2.at' h2
   rw [h3] at e1
   rw [h4] at e2
   cases e1;cases e2
   exact⟨g1.step st',g2.step st'⟩
  rcases e with e | e
  ·subst e
   cases rv with
   | cons r1 t=>
    cases t with
    | cons r2 t=>
     cases t
     cases r1 with
     | tup f1 l1=>
      cases r2 with
      | tup f2 l2=>
       rename_i p1 vs1 p2 vs2
       exact⟨p1,p2,vs1,vs2,rfl,.inr ⟨f1.sq,f2.sq,k _ M1 H1 _ st rm (pair_it (walk_zipT (K:=K) (a:=p1) (b:=p2) (xs:=vs1) (ys:=vs2) rfl) (by rw [List.length_zipWith,l1.len,l2.len]) fun M' H' st' rm'=>⟨⟨(f1.step st').sq,(f2.step st').sq⟩,at2 st' l1 l2⟩) q⟩⟩
  ·subst e
   cases rv with
   | cons r1 t=>
    cases t with
    | cons r2 t=>
     cases t
     cases r1 with
     | lst f1 l1=>
      cases r2 with
      | lst f2 l2=>
       rename_i p1 vs1 p2 vs2
       exact⟨p1,p2,vs1,vs2,rfl,.inl ⟨f1.sq,f2.sq,k _ M1 H1 _ st rm (pair_it (walk_zip (K:=K) (a:=p1) (b:=p2) (xs:=vs1) (ys:=vs2) rfl) (by rw [List.length_zipWith,l1.len,l2.len]) fun M' H' st' rm'=>⟨⟨(f1.step st').sq,(f2.step st').sq⟩,at2 st' l1 l2⟩) q⟩⟩
theorem s_for {wi:TI} {tb:TS} (h:EI K Ex Xa wi s M fun xs M1=> ∃I:Nat→Sv→AM→Prop,I 0 s M1∧(∀i x s' M',xs[i]? =some x→I i s' M'→EG K Ex Xa g x s' M' fun s2=>ES K Ex Xa tb s2 M' (I (i+1)) Rt Nx (I (i+1)))∧ ∀s' M',I xs.length s' M'→Nx s' M') :
  ES K Ex Xa (tFor wi g tb) s M Nx Rt Bk Ct:=fun σ H D rep kn kr kb kt=>
 h σ H _ rep fun xs M1 H1 J st rm it ⟨I,i0,hs,hd⟩=>by
  have w:Walk J xs.length (fun H2=> ∃M2,Step (ad M1) H1 (ad M2) H2∧RM K M2 H2) (fun i H2 v H3=> ∀M2 x,Step (ad M1) H1 (ad M2) H2→RM K M2 H2→xs[i]? =some x→Same H2 H3∧Rv K (ad M2) H3 x v):=
   ⟨fun i H2 hi ⟨M2,s2,r2⟩=>(it M2 H2 s2 r2).1 i hi,fun H2 ⟨M2,s2,r2⟩=>(it M2 H2 s2 r2).2.1,fun i H2 v H3 hi _ y M2 x s2 r2 hx=>(it M2 H2 s2 r2).2.2 i x v H3 hx y⟩
  refine for_it w (fun i σ' H'=> ∃s' M',Step (ad M1) H1 (ad M') H'∧Rep K Ex Xa s' M' σ' H'∧I i s' M') ⟨s,M1,Step.refl _ _,rep.step st rm,i0⟩ (fun i σ' H' _ ⟨s',M',s1,r1,_⟩=>⟨M',s1,r1.rm⟩) ?_ ?_
  ·rintro i v σ2 H2 H3 hi ⟨s2,M2,st2,rep2,inv⟩ y
   obtain⟨sm,rv⟩:=y M2 _ st2 rep2.rm (List.getElem?_eq_getElem hi)
   have st3:Step (ad M2) H2 (ad M2) H3:=Step.same sm
   have rep3:=rep2.step st3 (rep2.rm.same sm)
   refine hs i _ s2 M2 (List.getElem?_eq_getElem hi) inv v σ2 H3 _ rv rep3 fun s4 σ4 rep4 hb=> ?_
   have st23:=st2.trans st3
   refine hb σ4 H3 _ rep4 (fun s5 M5 σ5 H5 st5 rep5 q=>⟨s5,M5,st23.trans st5,rep5,q⟩) (kr.step (st.trans st23)) (fun s5 M5 σ5 H5 st5 rep5 q=>kn s5 M5 σ5 H5 ((st.trans st23).trans st5) rep5 q) (fun s5 M5 σ5 H5 st5 rep5 q=>⟨s5,M5,st23.trans st5,rep5,q⟩)
  ·rintro σ2 H2 ⟨s2,M2,st2,rep2,inv⟩
   exact kn s2 M2 σ2 H2 (st.trans st2) rep2 (hd s2 M2 inv)
theorem Rep.wipe (rep:Rep K Ex Xa s M σ H):∀ws:List Nat,Rep K Ex Xa (wipeA s ws) M (wipe σ ws) H
 | []=>rep
 | w :: ws=>⟨paired_set (x:=none) (y:=none) trivial w (Rep.wipe rep ws).vs,rep.rm,rep.ex⟩
theorem e_lcC {wi:TI} {tt:TT} (h:EI K Ex Xa wi s M fun xs M1=>xs.length≤sizeLine∧ ∃I:Nat→List A→AM→Prop,I 0 [] M1∧
   (∀i x acc M' D,xs[i]? =some x→I i acc M'→EGc K Ex Xa g ws x (wipeA s ws) ((D,.lst acc) :: M') fun s2=>ET K Ex Xa tt s2 ((D,.lst acc) :: M') fun z M2=>
    if z=true then EE K Ex Xa te s2 M2 fun y M3=> ∃M4,M3=(D,.lst acc) :: M4∧I (i+1) (acc ++ [y]) M4 else∃M4,M2=(D,.lst acc) :: M4∧I (i+1) acc M4)∧
   ∀acc M' D,I xs.length acc M'→Q (.loc D) ((D,.lst acc) :: M')):EE K Ex Xa (tLc wi g tt te ws) s M Q:=fun σ H Qc rep k=>
 h σ H _ rep fun xs M1 H1 J st rm it ⟨hl,I,i0,hs,hd⟩=>by
  intro D hD
  have w:Walk J xs.length (fun H2=> ∃M2,Step (ad M1) H1 (ad M2) H2∧RM K M2 H2) (fun i H2 v H3=> ∀M2 x,Step (ad M1) H1 (ad M2) H2→RM K M2 H2→xs[i]? =some x→Same H2 H3∧Rv K (ad M2) H3 x v):=
   ⟨fun i H2 hi ⟨M2,s2,r2⟩=>(it M2 H2 s2 r2).1 i hi,fun H2 ⟨M2,s2,r2⟩=>(it M2 H2 s2 r2).2.1,fun i H2 v H3 hi _ y M2 x s2 r2 hx=>(it M2 H2 s2 r2).2.2 i x v H3 hx y⟩
  refine lc_it w (fun i H'=> ∃acc M',acc.length≤i∧Step (ad M1) H1 (D :: ad M') H'∧RM K ((D,.lst acc) :: M') H'∧I i acc M') ⟨[],M1,Nat.le_refl _,Step.alloc hD,rm.new hD ⟨[],upd_same,.nil⟩,i0⟩ (fun i H' _ ⟨acc,M',_,s1,r1,_⟩=>⟨(D,.lst acc) :: M',s1,r1⟩) ?_ ?_
  ·rintro i v H2 H3 hi ⟨acc,M2,la,st2,rm2,inv⟩ y
   obtain⟨sm,rv⟩:=y ((D,.lst acc) :: M2) _ st2 rm2 (List.getElem?_eq_getElem hi)
   have st3:Step (D :: ad M2) H2 (D :: ad M2) H3:=Step.same sm
   have rm3:=rm2.same sm
   have st13:=st2.trans st3
   have rep3:Rep K Ex Xa s ((D,.lst acc) :: M2) σ H3:=rep.step (st.trans st13) rm3
   refine hs i _ acc M2 D (List.getElem?_eq_getElem hi) inv v _ H3 _ rv (rep3.wipe ws) fun s4 σ4 e4 rep4 ht=>⟨e4.trans (wipe_wipe ws),?_⟩
   refine ht σ4 H3 _ rep4 fun z M5 H5 st5 rm5 q=> ?_
   cases z with
   | false=>
    obtain⟨M6,e6,q6⟩:=(show∃M4,M5=(D,.lst acc) :: M4∧I (i+1) acc M4 from q)
    subst e6
    exact if_f rfl ⟨acc,M6,by omega,st13.trans st5,rm5,q6⟩
   | true=>
    refine if_t rfl ?_
    refine(show EE K Ex Xa te s4 M5 _ from q) σ4 H5 _ (rep4.step st5 rm5) fun yA yv M6 H6 st6 rm6 ry ⟨M7,e7,q7⟩=> ?_
    subst e7
    obtain⟨vs,hv,rl⟩:=rm6.cell _ (List.Mem.head _)
    have hm:D∈ad ((D,AO.lst acc) :: M7):= .head _
    have st7:Step (ad ((D,AO.lst acc) :: M7)) H6 (ad ((D,AO.lst acc) :: M7)) (upd H6 D (.lst (vs ++ [yv]))):=Step.write hm
    refine⟨vs,hv,by rw [← rl.len];omega,acc ++ [yA],M7,by rw [List.length_append];simp;omega,((st13.trans st5).trans st6).trans st7,rm6.put (o':= .lst (acc ++ [yA])) .here ⟨_,upd_same,(rl.step st7).app (.cons (ry.step st7) .nil)⟩,q7⟩
  ·rintro H2 ⟨acc,M2,la,st2,rm2,inv⟩
   exact k _ _ ((D,.lst acc) :: M2) H2 (st.trans st2) rm2 (.loc D) (hd acc M2 D inv)
theorem e_lc {wi:TI} {tt:TT} (h:EI K Ex Xa wi s M fun xs M1=>xs.length≤sizeLine∧ ∃I:Nat→List A→AM→Prop,I 0 [] M1∧
   (∀i x acc M' D,xs[i]? =some x→I i acc M'→EGc K Ex Xa g ws x (wipeA s ws) ((D,.lst acc) :: M') fun s2=>ET K Ex Xa tt s2 ((D,.lst acc) :: M') fun z M2=>
    if z=true then EE K Ex Xa te s2 M2 fun y M3=> ∃M4,M3=(D,.lst acc) :: M4∧I (i+1) (acc ++ [y]) M4 else∃M4,M2=(D,.lst acc) :: M4∧I (i+1) acc M4)∧
   ∀acc M',I xs.length acc M'→Q (.lst acc) M'):EE K Ex Xa (tLc wi g tt te ws) s M Q:=
 e_freeze (e_lcC fun σ H Rc rep k=>h σ H Rc rep fun xs M1 H1 J st rm it ⟨hl,I,i0,hs,hd⟩=>k xs M1 H1 J st rm it ⟨hl,I,i0,hs,fun acc M' D inv=>⟨D,acc,M',rfl,.here,hd acc M' inv⟩⟩)
/-- .. over a list of things of a kind -/
theorem e_mapF {wi:TI} {α:Type} (f:α→A) (h:EI K Ex Xa wi s M fun xs M1=> ∃(e:α→A) (l:List α),xs=l.map e∧l.length≤sizeLine∧(∀x,x∈l→ ∀M',Sub M1 M'→EGc K Ex Xa g ws (e x) (wipeA s ws) M' fun s2=>EE K Ex Xa te s2 M' fun y M3=>M3=M'∧y=f x)∧Q (.lst (l.map f)) M1):EE K Ex Xa (tLc wi g tYes te ws) s M Q:=
 e_lc fun σ H Rc rep k=>h σ H Rc rep fun xs M1 H1 J st rm it ⟨e,l,ex,hl,hs,q⟩=>k xs M1 H1 J st rm it ⟨by rw [ex,List.length_map];exact hl,fun i acc M'=>acc=(l.take i).map f∧M'=M1,⟨rfl,rfl⟩,fun i x acc M' D hx ⟨e1,e2⟩=>by
   subst e1 e2 ex
   rw [List.getElem?_map] at hx
   cases hx2:l[i]? with
   | none=>rw [hx2] at hx;cases hx
   | some y=>
    rw [hx2] at hx
    cases hx
    intro v σ H Qc rv rep k
    refine hs y (List.mem_of_getElem? hx2) _ (fun _ _ h=> .there h) v σ H Qc rv rep fun s' σ' e rep' he=>k s' σ' e rep' (t_yes (if_t rfl (he.mono ?_)))
    rintro a M3 ⟨rfl,rfl⟩
    exact⟨_,rfl,by rw [List.take_add_one,hx2,List.map_append];rfl,rfl⟩,fun acc M' ⟨e1,e2⟩=>by
   subst e1 e2 ex
   rw [List.length_map,List.take_of_length_le (Nat.le_refl _)];exact q⟩
theorem e_mapC {wi:TI} {α:Type} (f:α→A) (h:EI K Ex Xa wi s M fun xs M1=> ∃(e:α→A) (l:List α),xs=l.map e∧l.length≤sizeLine∧(∀x,x∈l→ ∀M',Sub M1 M'→EGc K Ex Xa g ws (e x) (wipeA s ws) M' fun s2=>EE K Ex Xa te s2 M' fun y M3=>M3=M'∧y=f x)∧ ∀D,Q (.loc D) ((D,.lst (l.map f)) :: M1)):EE K Ex Xa (tLc wi g tYes te ws) s M Q:=
 e_lcC fun σ H Rc rep k=>h σ H Rc rep fun xs M1 H1 J st rm it ⟨e,l,ex,hl,hs,q⟩=>k xs M1 H1 J st rm it ⟨by rw [ex,List.length_map];exact hl,fun i acc M'=>acc=(l.take i).map f∧M'=M1,⟨rfl,rfl⟩,fun i x acc M' D hx ⟨e1,e2⟩=>by
   subst e1 e2 ex
   rw [List.getElem?_map] at hx
   cases hx2:l[i]? with
   | none=>rw [hx2] at hx;cases hx
   | some y=>
    rw [hx2] at hx
    cases hx
    intro v σ H Qc rv rep k
    refine hs y (List.mem_of_getElem? hx2) _ (fun _ _ h=> .there h) v σ H Qc rv rep fun s' σ' e rep' he=>k s' σ' e rep' (t_yes (if_t rfl (he.mono ?_)))
    rintro a M3 ⟨rfl,rfl⟩
    exact⟨_,rfl,by rw [List.take_add_one,hx2,List.map_append];rfl,rfl⟩,fun acc M' D ⟨e1,e2⟩=>by
   subst e1 e2 ex
   rw [List.length_map,List.take_of_length_le (Nat.le_refl _)];exact q D⟩
end
theorem RM.perm {K:PySem.W.Frag} {M M':AM} {H:Hp} (r:RM K M H) (h:M.Perm M'):RM K M' H:=by
 have hs:Step (ad M) H (ad M') H:=Step.sub fun p hp=>(h.map _).mem_iff.mpr hp
 exact⟨fun x hx=>(r.cell x (h.mem_iff.mpr hx)).step hs rfl fun q hq=>r.mut hq,(h.map _).nodup r.nd⟩
theorem Step.perm {M M':AM} {H:Hp} (h:M.Perm M'):Step (ad M) H (ad M') H:=Step.sub fun p hp=>(h.map _).mem_iff.mpr hp
/-- what a def leaves: its own things are let go, or stay as they are -/
inductive Down:A→AM→A→AM→Prop
 | refl {a:A} {M:AM} :Down a M a M
 | drop {a a':A} {p:Addr} {o:AO} {M M':AM} :Down a M a' M'→Down a ((p,o) :: M) a' M'
 | frz {a':A} {p:Addr} {xs:List A} {M M':AM} :Down (.lst xs) M a' M'→Down (.loc p) ((p,.lst xs) :: M) a' M'
 | perm {a a':A} {M M1 M':AM} :M.Perm M1→Down a M1 a' M'→Down a M a' M'
theorem Down.ok {K:PySem.W.Frag} {a a':A} {M M':AM} {H:Hp} {v:V} (d:Down a M a' M') (rm:RM K M H) (rv:Rv K (ad M) H a v):RM K M' H∧Rv K (ad M') H a' v∧Step (ad M) H (ad M') H:=by
 induction d with
 | refl=>exact⟨rm,rv,Step.refl _ _⟩
 | @drop a a' p o M M' d ih=>
  have hr:Rm ((p,o) :: M) p o M:=Rm.here
  obtain⟨h1,h2,h3⟩:=ih (rm.rm hr) (rv.step (Step.rm hr))
  exact⟨h1,h2,(Step.rm hr).trans h3⟩
 | @frz a' p xs M M' d ih=>
  have hr:Rm ((p,.lst xs) :: M) p (.lst xs) M:=Rm.here
  have e:=rv.ref
  subst e
  obtain⟨h1,h2,h3⟩:=ih (rm.rm hr) (Rv.freeze rm hr)
  exact⟨h1,h2,(Step.rm hr).trans h3⟩
 | @perm a a' M M1 M' h d ih=>
  obtain⟨h1,h2,h3⟩:=ih (rm.perm h) (rv.step (Step.perm h))
  exact⟨h1,h2,(Step.perm h).trans h3⟩
def Dn (Q:QA):QA:=fun a M=> ∃a' M',Down a M a' M'∧Q a' M'
theorem dn0 {Q:QA} {a:A} {M:AM} (q:Q a M):Dn Q a M:=⟨_,_,.refl,q⟩
theorem dnD {Q:QA} {a:A} {M:AM} {p:Addr} {o:AO} (q:Dn Q a M):Dn Q a ((p,o) :: M):=by
 obtain⟨a',M',d,q⟩:=q
 exact⟨a',M',.drop d,q⟩
theorem dnF {Q:QA} {xs:List A} {M:AM} {p:Addr} (q:Dn Q (.lst xs) M):Dn Q (.loc p) ((p,.lst xs) :: M):=by
 obtain⟨a',M',d,q⟩:=q
 exact⟨a',M',.frz d,q⟩
theorem Kc.dn {K:PySem.W.Frag} {M:AM} {H:Hp} {Q:QA} {Qc:VK} (k:Kc K M H Q Qc):Kc K M H (Dn Q) Qc:=fun a v M' H' st rm rv ⟨a',M2,d,q⟩=>by
 obtain⟨h1,h2,h3⟩:=d.ok rm rv
 exact k a' v M2 H' (st.trans h3) h1 h2 q
abbrev ASp:=List A→AM→QA→Prop
abbrev ASpX:=List A→AM→QA→XA→Prop
def cs (K:PySem.W.Frag) (f:ASp):Sp:=fun vs H Q _=> ∃as M Qa,RvL K (ad M) H as vs∧RM K M H∧f as M Qa∧Kc K M H Qa Q
def csX (K:PySem.W.Frag) (f:ASpX):Sp:=fun vs H Q Ex=> ∃as M Qa Xa,RvL K (ad M) H as vs∧RM K M H∧f as M Qa Xa∧Kc K M H Qa Q∧KcE K Ex Xa M H
def startA (N:List Str) (as:List A):Sv:=as.map some ++ List.replicate (N.length - as.length) none
section
variable {K:PySem.W.Frag} {Ex Ex':XK} {Xa:XA} {s s':Sv} {M M' M1:AM} {H H':Hp} {Q Q':QA} {f:ASp} {fx:ASpX} {tr:TA} {t:TS} {Nx:Sv→AM→Prop} {Rt:QA} {Bk Ct:Sv→AM→Prop} {vs:List V} {Qc:VK} {N:List Str} {te:TE}
theorem e_call (h:EA K Ex Xa tr s M fun as M1=>f as M1 Q):EE K Ex Xa (tCall (cs K f) [] Ex' tr) s M Q:=fun σ H Qc rep k=>w_call (h σ H _ rep fun as vs M1 H1 st rm rv q=>⟨as,M1,Q,rv,rm,q,k.step st⟩)
theorem e_callX {Ex:XK} (h:EA K Ex Xa tr s M fun as M1=>fx as M1 Q Xa):EE K Ex Xa (tCallS (csX K fx) (L2.WE (fun cls d _ H=>Ex cls d H)) tr) s M Q:=fun σ H Qc rep k=>
 h σ H _ rep fun as vs M1 H1 st rm rv q=>⟨as,M1,Q,Xa,rv,rm,q,k.step st,fun C M2 H2 s2 r2 q2=>rep.ex C M2 H2 (st.trans s2) r2 q2⟩
theorem e_callN (h:EA K Ex Xa tr s M fun as M1=>fx as M1 Q fun _ _=>False):EE K Ex Xa (tCallS (csX K fx) (L2.WE (fun _ _ _ _=>False)) tr) s M Q:=fun σ H Qc rep k=>
 h σ H _ rep fun as vs M1 H1 st rm rv q=>⟨as,M1,Q,fun _ _=>False,rv,rm,q,k.step st,fun C M2 H2 s2 r2 q2=>q2⟩
theorem s_raise {C:Addr} (h:Xa C M):ES K Ex Xa (Go.tRaise Ex C) s M Nx Rt Bk Ct:=fun σ H D rep kn kr kb kt=>rep.ex C M H (Step.refl _ _) rep.rm h
theorem start_rep {as:List A} (hN:N.length=N.length) (r:RvL K (ad M) H as vs) (rm:RM K M H) (ex:KcE K Ex Xa M H):Rep K Ex Xa (startA N as) M (L2.start N vs) H:=by
 refine⟨?_,rm,ex⟩
 unfold startA L2.start
 rw [r.len]
 have key:∀ {as:List A} {vs:List V} {l1:Sv} {l2:L2.St},RvL K (ad M) H as vs→Paired (RvO K (ad M) H) l1 l2→Paired (RvO K (ad M) H) (as.map some ++ l1) (vs.map some ++ l2):=by
  intro as
  induction as with
  | nil=>intro vs l1 l2 r h;cases r;exact h
  | cons a as ih=>intro vs l1 l2 r h;cases r with | cons x t=>exact .cons x (ih t h)
 refine key r ?_
 generalize N.length - vs.length=n
 induction n with
 | zero=>exact .nil
 | succ n ih=>exact .cons trivial ih
theorem fn_of {E:XK} (h:cs K f vs H Qc E) (hb:∀as M Qa,f as M Qa→ES K (fun _ _ _=>False) (fun _ _=>False) t (startA N as) M (fun _ M'=>Dn Qa .non M') (Dn Qa) (fun _ _=>False) (fun _ _=>False)):t { nx:=fun _ H'=>Qc .non H',rt:=Qc } (L2.start N vs) H:=by
 obtain⟨as,M,Qa,rv,rm,q,k⟩:=h
 exact hb as M Qa q _ H _ (start_rep rfl rv rm (fun _ _ _ _ _ z=>z)) (fun s' M' σ' H' st rep q=>k.dn .non .non M' H' st rep.rm .non q) k.dn (fun _ _ _ _ _ _ z=>z.elim) (fun _ _ _ _ _ _ z=>z.elim)
theorem fn_ofX {E:XK} {t:TS} (h:csX K fx vs H Qc E) (hb:∀as M Qa Xa,fx as M Qa Xa→ES K E Xa t (startA N as) M (fun _ M'=>Dn Qa .non M') (Dn Qa) (fun _ _=>False) (fun _ _=>False)):t { nx:=fun _ H'=>Qc .non H',rt:=Qc } (L2.start N vs) H:=by
 obtain⟨as,M,Qa,Xa,rv,rm,q,k,kx⟩:=h
 exact hb as M Qa Xa q _ H _ (start_rep rfl rv rm kx) (fun s' M' σ' H' st rep q=>k.dn .non .non M' H' st rep.rm .non q) k.dn (fun _ _ _ _ _ _ z=>z.elim) (fun _ _ _ _ _ _ z=>z.elim)
theorem fn_len {E:XK} {n:Nat} (hf:∀as M Q,f as M Q→as.length=n) (h:cs K f vs H Qc E):vs.length=n:=by
 obtain⟨as,M,Qa,rv,rm,q,k⟩:=h
 rw [← rv.len];exact hf as M Qa q
theorem fn_lenX {E:XK} {n:Nat} (hf:∀as M Q X,fx as M Q X→as.length=n) (h:csX K fx vs H Qc E):vs.length=n:=by
 obtain⟨as,M,Qa,Xa,rv,rm,q,k⟩:=h
 rw [← rv.len];exact hf as M Qa Xa q
end
end Ab
set_option Elab.async false
set_option linter.all false
set_option maxRecDepth 100000
set_option maxHeartbeats 4000000
namespace Go
open PySem PySem.Spec PyProof.Rows L2
end Go
set_option Elab.async false
set_option linter.all false
set_option maxRecDepth 100000
set_option maxHeartbeats 4000000
namespace Ab
open PySem PySem.Spec PyProof.Rows L2 Go
theorem Ctx.lk {M:AM} {p:Addr} {o:AO} {C:AO→AM} (h:Ctx M p o C):Lk M p o:=by
 induction h with
 | here=>exact .here
 | there _ ih=>exact .there ih
/-- what can be read as a list -/
inductive LsA (M:AM):A→List A→Prop
 | lst {xs:List A} :LsA M (.lst xs) xs
 | loc {p:Addr} {xs:List A} (h:Lk M p (.lst xs)):LsA M (.loc p) xs
 | scr {ns:List Int} :LsA M (.scr ns) (ns.map A.int)
/-- .. and be put together -/
inductive LpA (M:AM):A→List A→Prop
 | lst {xs:List A} :LpA M (.lst xs) xs
 | loc {p:Addr} {xs:List A} (h:Lk M p (.lst xs)):LpA M (.loc p) xs
section
variable {K:PySem.W.Frag} {Ex:XK} {Xa:XA} {s:Sv} {M M':AM} {H:Hp} {Q:QA} {a b:A} {v:V} {xs ys:List A} {te to:TE} {tr:TA} {p:Addr}
theorem LsA.of (h:LsA M a xs) (rv:Rv K (ad M) H a v) (rm:RM K M H):∃p vs,v= .ref p∧SqL K H p vs∧RvL K (ad M) H xs vs:=by
 cases h with
 | lst=>
  cases rv with
  | lst f r=>exact⟨_,_,rfl,f.sq,r⟩
 | loc h=>
  cases rv
  obtain⟨vs,hv,r⟩:=rm.cell _ h.mem
  exact⟨_,vs,rfl,sqL hv,r⟩
 | scr=>
  cases rv with
  | scr f=>exact⟨_,_,rfl,f.sq,RvL.of_ints _⟩
theorem LpA.of (h:LpA M a xs) (rv:Rv K (ad M) H a v) (rm:RM K M H):∃p vs,v= .ref p∧H p=some (.lst vs)∧RvL K (ad M) H xs vs:=by
 cases h with
 | lst=>
  cases rv with
  | lst f r=>exact⟨_,_,rfl,f.2,r⟩
 | loc h=>
  cases rv
  obtain⟨vs,hv,r⟩:=rm.cell _ h.mem
  exact⟨_,vs,rfl,hv,r⟩
theorem o_add {i j:Int} (q:Q (.int (i+j)) M):O2 K rAddI (.int i) (.int j) M Q:=fun x y H Qc rx ry rm k=>by
 cases rx;cases ry;exact w_I0 (k.go rm (.int _) q)
theorem o_subI {i j:Int} (q:Q (.int (i - j)) M):O2 K rSubI (.int i) (.int j) M Q:=fun x y H Qc rx ry rm k=>by
 cases rx;cases ry;exact w_I0 (k.go rm (.int _) q)
theorem o_and {i j:Int} (q:Q (.int (Builtin.bitAnd i j)) M):O2 K rAndI (.int i) (.int j) M Q:=fun x y H Qc rx ry rm k=>by
 cases rx;cases ry;exact w_I0 (k.go rm (.int _) q)
theorem o_lt {i j:Int} (q:Q (.bl (decide (i < j))) M):O2 K rLtI (.int i) (.int j) M Q:=fun x y H Qc rx ry rm k=>by
 cases rx;cases ry;exact w_I0 (k.go rm (.bl _) q)
theorem o_le {i j:Int} (q:Q (.bl (decide (i≤j))) M):O2 K rLeI (.int i) (.int j) M Q:=fun x y H Qc rx ry rm k=>by
 cases rx;cases ry;exact w_I0 (k.go rm (.bl _) q)
theorem o_gt {i j:Int} (q:Q (.bl (decide (j < i))) M):O2 K rGtI (.int i) (.int j) M Q:=fun x y H Qc rx ry rm k=>by
 cases rx;cases ry;exact w_I0 (k.go rm (.bl _) q)
theorem o_ge {i j:Int} (q:Q (.bl (decide (j≤i))) M):O2 K rGeI (.int i) (.int j) M Q:=fun x y H Qc rx ry rm k=>by
 cases rx;cases ry;exact w_I0 (k.go rm (.bl _) q)
theorem o_mul {i j:Int} (hc:CMul i j) (q:Q (.int (i*j)) M):O2 K rMulI (.int i) (.int j) M Q:=fun x y H Qc rx ry rm k=>by
 cases rx;cases ry;exact w_mulI hc (k.go rm (.int _) q)
theorem o_mulX {i j:Int} (hc:CMulX i j) (q:Q (.int (i*j)) M):O2 K rMulX (.int i) (.int j) M Q:=fun x y H Qc rx ry rm k=>by
 cases rx;cases ry;exact w_mulX hc (k.go rm (.int _) q)
theorem o_div {i j:Int} (hc:CDivW i j) (q:Q (.int (i / j)) M):O2 K rDivI (.int i) (.int j) M Q:=fun x y H Qc rx ry rm k=>by
 cases rx;cases ry;exact w_divI hc (k.go rm (.int _) q)
theorem o_mod {i j:Int} (hc:0 < j) (q:Q (.int (i % j)) M):O2 K rModI (.int i) (.int j) M Q:=fun x y H Qc rx ry rm k=>by
 cases rx;cases ry;exact w_modI hc (k.go rm (.int _) q)
theorem o_pow {i j:Int} (hc:CPow i j) (q:Q (.int (i^j.toNat)) M):O2 K rPowI (.int i) (.int j) M Q:=fun x y H Qc rx ry rm k=>by
 cases rx;cases ry;exact w_powI hc (k.go rm (.int _) q)
theorem o_shr {i j:Int} (hc:0≤j) (q:Q (.int (i / 2^j.toNat)) M):O2 K rShrI (.int i) (.int j) M Q:=fun x y H Qc rx ry rm k=>by
 cases rx;cases ry;exact w_shrI hc (k.go rm (.int _) q)
theorem o_neg {i:Int} (q:Q (.int (-i)) M):O1 K rNegI (.int i) M Q:=fun x H Qc rx rm k=>by
 cases rx;exact w_U (k.go rm (.int _) q)
theorem dec_str {x y:Str} :decide (V.str x=V.str y)=decide (x=y):=decide_eq_decide.mpr ⟨fun h=>V.str.inj h,fun h=>by rw [h]⟩
theorem dec_i {x y:Int} :decide (V.int x=V.int y)=decide (x=y):=decide_eq_decide.mpr ⟨fun h=>V.int.inj h,fun h=>by rw [h]⟩
theorem o_eqI {i j:Int} (q:Q (.bl (decide (i=j))) M):O2 K rEq (.int i) (.int j) M Q:=fun x y H Qc rx ry rm k=>by
 cases rx;cases ry;exact w_eq rfl (by rw [dec_i];exact k.go rm (.bl _) q)
theorem o_neI {i j:Int} (q:Q (.bl (!decide (i=j))) M):O2 K rNe (.int i) (.int j) M Q:=fun x y H Qc rx ry rm k=>by
 cases rx;cases ry;exact w_ne rfl (by rw [dec_i];exact k.go rm (.bl _) q)
theorem o_eqS {i j:Str} (q:Q (.bl (decide (i=j))) M):O2 K rEq (.str i) (.str j) M Q:=fun x y H Qc rx ry rm k=>by
 cases rx;cases ry;exact w_eq rfl (by rw [dec_str];exact k.go rm (.bl _) q)
theorem o_neS {i j:Str} (q:Q (.bl (!decide (i=j))) M):O2 K rNe (.str i) (.str j) M Q:=fun x y H Qc rx ry rm k=>by
 cases rx;cases ry;exact w_ne rfl (by rw [dec_str];exact k.go rm (.bl _) q)
def A.isNon:A→Bool
 | .non=>true
 | _=>false
theorem isNon_of (rv:Rv K (ad M) H a v):decide (v= .non)=a.isNon:=by
 cases rv <;> first | rfl | exact decide_eq_false (by intro z;cases z)
theorem o_isN (q:Q (.bl a.isNon) M):O2 K L2.rIsN a .non M Q:=fun x y H Qc rx ry rm k=>by
 cases ry
 refine w_isN ?_
 rw [isNon_of rx];exact k.go rm (.bl _) q
theorem o_notN (q:Q (.bl (!a.isNon)) M):O2 K L2.rNotN a .non M Q:=fun x y H Qc rx ry rm k=>by
 cases ry
 refine w_notN ?_
 rw [isNon_of rx];exact k.go rm (.bl _) q
theorem o_isB {i j:Bool} (q:Q (.bl (decide (i=j))) M):O2 K rIsB (.bl i) (.bl j) M Q:=fun x y H Qc rx ry rm k=>by
 cases rx;cases ry;exact w_isB (k.go rm (.bl _) q)
theorem o_notB {i j:Bool} (q:Q (.bl (!decide (i=j))) M):O2 K rNotB (.bl i) (.bl j) M Q:=fun x y H Qc rx ry rm k=>by
 cases rx;cases ry;exact w_notB (k.go rm (.bl _) q)
theorem atI_rv {vs:List V} (r:RvL K (ad M) H xs vs) {k:Int} (h:atI xs k=some a):∃v,atI vs k=some v∧Rv K (ad M) H a v:=by
 unfold atI at h ⊢
 rw [r.len] at h
 cases e:ixN vs.length k with
 | none=>rw [e] at h;cases h
 | some j=>
  rw [e] at h
  exact r.at h
theorem o_ixT {k:Int} (h:atI xs k=some a) (q:Q a M):O2 K (rIxT K) (.tup xs) (.int k) M Q:=fun x y H Qc rx ry rm kc=>by
 cases ry
 cases rx with
 | tup f r=>
  obtain⟨v,e,rv⟩:=atI_rv r h
  exact w_ixT f.sq e (kc.go rm rv q)
theorem o_ixL {k:Int} {l:A} (hl:LsA M l xs) (h:atI xs k=some a) (q:Q a M):O2 K (rIxL K) l (.int k) M Q:=fun x y H Qc rx ry rm kc=>by
 cases ry
 obtain⟨p,vs,rfl,sq,r⟩:=hl.of rx rm
 obtain⟨v,e,rv⟩:=atI_rv r h
 exact w_ixL sq e (kc.go rm rv q)
theorem o_ixsT {k:Int} (h:atI xs k=some a) (q:Q a M):O2 K (rIx K) (.tup xs) (.int k) M Q:=fun x y H Qc rx ry rm kc=>by
 cases ry
 cases rx with
 | tup f r=>
  obtain⟨v,e,rv⟩:=atI_rv r h
  exact w_ixsT f.sq e (kc.go rm rv q)
theorem o_ixS {z:Str} {i:Int} {c:Nat} (hl:z.length≤sizeLine) (h:atI z.cps.toList i=some c) (q:Q (sign c) M):O2 K rIxS (.str z) (.int i) M Q:=fun x y H Qc rx ry rm kc=>by
 cases rx;cases ry;exact w_ixS hl h (kc.go rm (.str _) q)
def cutA (xs:List A) (lo hi:Option Int):List A:=(xs.drop (HT.sIx xs.length 0 lo)).take (HT.sIx xs.length xs.length hi - HT.sIx xs.length 0 lo)
theorem cut_rv {vs:List V} (r:RvL K (ad M) H xs vs) (lo hi:Option Int):RvL K (ad M) H (cutA xs lo hi) (cutV vs lo hi):=by
 unfold cutA cutV
 rw [r.len]
 exact(r.drop _).take _
theorem o_slL {l:A} {lo hi:Option Int} (hl:LsA M l xs) (q:Q (.lst (cutA xs lo hi)) M):OSl K (rSlL K) l lo hi M Q:=fun x H Qc rx rm kc=>by
 obtain⟨p,vs,rfl,sq,r⟩:=hl.of rx rm
 exact w_slL sq fun p hp=>kc.newL rm hp (cut_rv r lo hi) q
theorem o_slT {lo hi:Option Int} (q:Q (.tup (cutA xs lo hi)) M):OSl K (rSlA K) (.tup xs) lo hi M Q:=fun x H Qc rx rm kc=>by
 cases rx with
 | tup f r=>
  refine⟨_,_,rfl,f.sq,fun⟨e1,e2⟩=> ?_,fun _ p hp=>kc.newT rm hp (cut_rv r lo hi) q⟩
  have e:cutA xs lo hi=xs:=by
   unfold cutA
   rw [r.len,e1,e2,List.drop_zero,← r.len,Nat.sub_zero,List.take_of_length_le (Nat.le_refl _)]
  rw [e] at q
  exact kc.go rm (.tup f r) q
theorem o_slS {z:Str} {lo hi:Option Int} (hl:z.length≤sizeLine) (q:Q (.str (cutS z lo hi)) M):OSl K rSlS (.str z) lo hi M Q:=fun x H Qc rx rm kc=>by
 cases rx;exact w_slS hl (kc.go rm (.str _) q)
theorem o_cat {l m:A} (h1:LpA M l xs) (h2:LpA M m ys) (hl:xs.length+ys.length≤sizeLine) (q:Q (.lst (xs ++ ys)) M):O2 K rCat l m M Q:=fun x y H Qc rx ry rm kc=>by
 obtain⟨p,vs,rfl,e1,r1⟩:=h1.of rx rm
 obtain⟨p2,vs2,rfl,e2,r2⟩:=h2.of ry rm
 exact w_cat e1 e2 (by rw [← r1.len,← r2.len];exact hl) fun p hp=>kc.newL rm hp (r1.app r2) q
theorem o_catA (hl:xs.length+ys.length≤sizeLine) (q:Q (.tup (xs ++ ys)) M):O2 K (rCatA K) (.tup xs) (.tup ys) M Q:=fun x y H Qc rx ry rm kc=>by
 have rx0:=rx
 have ry0:=ry
 cases rx with
 | tup f1 r1=>
  cases ry with
  | tup f2 r2=>
   refine⟨_,_,_,_,rfl,rfl,f1.sq,f2.sq,by rw [← r1.len,← r2.len];exact hl,fun e=> ?_,fun _ e=> ?_,fun _ _ p hp=>kc.newT rm hp (r1.app r2) q⟩
   ·subst e
    cases r1
    exact kc.go rm ry0 q
   ·subst e
    cases r2
    rw [List.append_nil] at q
    exact kc.go rm rx0 q
theorem o_addS {z z':Str} (hl:z.length+z'.length≤sizeLine) (q:Q (.str (z ++ z')) M):O2 K rAddStr (.str z) (.str z') M Q:=fun x y H Qc rx ry rm kc=>by
 cases rx;cases ry;exact w_addStr hl (kc.go rm (.str _) q)
theorem o_ltS {z z':Str} (q:Q (.bl (decide (z.cps.toList < z'.cps.toList))) M):O2 K rLtS (.str z) (.str z') M Q:=fun x y H Qc rx ry rm kc=>by
 cases rx;cases ry;exact⟨_,_,rfl,rfl,kc.go rm (.bl _) q⟩
theorem o_inSign {c:Nat} {z:Str} (q:Q (.bl (decide (c∈z.cps.toList))) M):O2 K rInS (sign c) (.str z) M Q:=fun x y H Qc rx ry rm kc=>by
 cases rx;cases ry;exact w_inS (kc.go rm (.bl _) q)
def A.fv:A→V
 | .bl b=> .bl b
 | .int i=> .int i
 | .str z=> .str z
 | _=> .non
def A.flat:A→Bool
 | .non=>true
 | .bl _=>true
 | .int _=>true
 | .str _=>true
 | _=>false
theorem fv_of (h:a.flat=true) (rv:Rv K (ad M) H a v):v=a.fv∧flatV v=true:=by
 cases rv <;> first | exact⟨rfl,rfl⟩ | cases h
theorem fvs_of {vs:List V} (h:xs.all A.flat=true) (r:RvL K (ad M) H xs vs):vs=xs.map A.fv∧vs.all flatV=true:=by
 induction xs generalizing vs with
 | nil=>cases r;exact⟨rfl,rfl⟩
 | cons a xs ih=>
  cases r with
  | cons x t=>
   rw [List.all_cons,Bool.and_eq_true] at h
   obtain⟨e1,e2⟩:=fv_of h.1 x
   obtain⟨e3,e4⟩:=ih h.2 t
   exact⟨by rw [e1,e3];rfl,by rw [List.all_cons,e2,e4];rfl⟩
def inF (a:A) (xs:List A):Bool:=inV a.fv (xs.map A.fv)
theorem o_in {neg:Bool} {l:A} (hl:LsA M l xs∨l= .tup xs) (h1:a.flat=true) (h2:xs.all A.flat=true) (q:Q (.bl (if neg then !inF a xs else inF a xs)) M):O2 K (rIn K neg) a l M Q:=fun x y H Qc rx ry rm kc=>by
 obtain⟨e1,f1⟩:=fv_of h1 rx
 subst e1
 rcases hl with hl | hl
 ·obtain⟨p,vs,rfl,sq,r⟩:=hl.of ry rm
  obtain⟨e2,f2⟩:=fvs_of h2 r
  subst e2
  exact w_in (.inl sq) f1 f2 (kc.go rm (.bl _) q)
 ·subst hl
  cases ry with
  | tup f r=>
   obtain⟨e2,f2⟩:=fvs_of h2 r
   subst e2
   exact w_in (.inr f.sq) f1 f2 (kc.go rm (.bl _) q)
theorem inF_strs (z:Str) (names:List Str):inF (.str z) (names.map A.str)=decide (z∈names):=by
 unfold inF
 rw [List.map_map]
 show inV (.str z) (names.map V.str)=_
 unfold inV
 rw [List.any_map]
 by_cases h:z∈names
 ·rw [decide_eq_true h,List.any_eq_true]
  exact⟨z,h,by show(z == z)=true;simp⟩
 ·rw [decide_eq_false h,List.any_eq_false]
  intro y hy e
  have e2:(y == z)=true:=e
  exact h (by rw [← eq_of_beq e2];exact hy)
theorem flat_strs (names:List Str):(names.map A.str).all A.flat=true:=by
 rw [List.all_map,List.all_eq_true]
 intro x _;rfl
theorem o_inStr {z:Str} {names:List Str} {l:A} (hl:LsA M l (names.map A.str)∨l= .tup (names.map A.str)) (q:Q (.bl (decide (z∈names))) M):O2 K (rIn K false) (.str z) l M Q:=o_in hl rfl (flat_strs names) (by rw [inF_strs];exact q)
mutual
def A.toD:A→PyData
 | .non=> .none
 | .bl b=> .bool b
 | .int i=> .int i
 | .str z=> .str z
 | .tup xs=> .tuple (toDs xs)
 | .lst xs=> .list (toDs xs)
 | _=> .none
def toDs:List A→List PyData
 | []=> []
 | a :: as=>a.toD :: toDs as
end
mutual
def A.isD:A→Bool
 | .non=>true
 | .bl _=>true
 | .int _=>true
 | .str _=>true
 | .tup xs=>isDs xs
 | .lst xs=>isDs xs
 | _=>false
def isDs:List A→Bool
 | []=>true
 | a :: as=>a.isD && isDs as
end
mutual
theorem Rv.dp {D:List Addr} :∀ {a:A} {v:V},a.isD=true→Rv K D H a v→Dp K H v a.toD
 | _,_,_,.non=>by unfold A.toD;exact .non
 | _,_,_,.bl b=>by unfold A.toD;exact .bl b
 | _,_,_,.int i=>by unfold A.toD;exact .int i
 | _,_,_,.str z=>by unfold A.toD;exact .str z
 | _,_,h,.ty _=>by unfold A.isD at h;cases h
 | _,_,h,.loc _=>by unfold A.isD at h;cases h
 | _,_,h,.scr _=>by unfold A.isD at h;cases h
 | _,_,h,.dic _ _ _=>by unfold A.isD at h;cases h
 | _,_,h,.tup f r=>by unfold A.toD;unfold A.isD at h;exact .tup f.sq (RvL.dp h r)
 | _,_,h,.lst f r=>by unfold A.toD;unfold A.isD at h;exact .lst f.sq (RvL.dp h r)
theorem RvL.dp {D:List Addr} :∀ {as:List A} {vs:List V},isDs as=true→RvL K D H as vs→DpAll K H vs (toDs as)
 | _,_,_,.nil=>by unfold toDs;exact .nil
 | _,_,h,.cons x t=>by unfold toDs;unfold isDs at h;rw [Bool.and_eq_true] at h;exact .cons (Rv.dp h.1 x) (RvL.dp h.2 t)
end
def eqA (a b:A):Bool:=PyData.eqv a.toD b.toD
theorem o_eqD (h1:a.isD=true) (h2:b.isD=true) (s1:SeqAt.shaped a.toD=true) (s2:SeqAt.shaped b.toD=true) (q:Q (.bl (eqA a b)) M):O2 K (rEqD K) a b M Q:=fun x y H Qc rx ry rm kc=>
 w_eqD (rx.dp h1) (ry.dp h2) s1 s2 (kc.go rm (.bl _) q)
theorem o_neD (h1:a.isD=true) (h2:b.isD=true) (s1:SeqAt.shaped a.toD=true) (s2:SeqAt.shaped b.toD=true) (q:Q (.bl (!eqA a b)) M):O2 K (rNeD K) a b M Q:=fun x y H Qc rx ry rm kc=>
 w_neD (rx.dp h1) (ry.dp h2) s1 s2 (kc.go rm (.bl _) q)
theorem eqA_refl (h:SeqAt.shaped a.toD=true):eqA a a=true:=SeqAt.eqv_refl _ (SeqAt.canLay_of_shaped h)
theorem l_lenT (q:Q (.int xs.length) M):OL K (Evl.rLenS K) [.tup xs] M Q:=fun vs H Qc rv rm kc=>by
 cases rv with
 | cons r t=>
  cases t
  cases r with
  | tup f r=>exact w_lenT f.sq (by rw [← r.len];exact kc.go rm (.int _) q)
theorem l_lenL {l:A} (hl:LsA M l xs) (q:Q (.int xs.length) M):OL K (Evl.rLenS K) [l] M Q:=fun vs H Qc rv rm kc=>by
 cases rv with
 | cons r t=>
  cases t
  obtain⟨p,ws,rfl,sq,r⟩:=hl.of r rm
  exact w_lenL sq (by rw [← r.len];exact kc.go rm (.int _) q)
theorem l_lenS {z:Str} (hl:z.length≤sizeLine) (q:Q (.int z.length) M):OL K rLenStr [.str z] M Q:=fun vs H Qc rv rm kc=>by
 cases rv with
 | cons r t=>cases t;cases r;exact w_lenStr hl (kc.go rm (.int _) q)
theorem l_abs {i:Int} (q:Q (.int (i.natAbs:Int)) M):OL K rAbs [.int i] M Q:=fun vs H Qc rv rm kc=>by
 cases rv with
 | cons r t=>cases t;cases r;exact w_abs (kc.go rm (.int _) q)
theorem l_intB {i:Bool} (q:Q (.int (if i then 1 else 0)) M):OL K rInt1 [.bl i] M Q:=fun vs H Qc rv rm kc=>by
 cases rv with
 | cons r t=>cases t;cases r;exact w_intB (kc.go rm (.int _) q)
theorem l_min2 {i j:Int} (q:Q (.int (if j < i then j else i)) M):OL K rMin2 [.int i,.int j] M Q:=fun vs H Qc rv rm kc=>by
 cases rv with
 | cons r t=>cases t with | cons r2 t=>cases t;cases r;cases r2;exact w_min2 (kc.go rm (.int _) q)
theorem l_max2 {i j:Int} (q:Q (.int (if j > i then j else i)) M):OL K Evl.rMax2 [.int i,.int j] M Q:=fun vs H Qc rv rm kc=>by
 cases rv with
 | cons r t=>cases t with | cons r2 t=>cases t;cases r;cases r2;exact w_max2 (kc.go rm (.int _) q)
theorem l_tupL {l:A} (hl:LsA M l xs) (q:Q (.tup xs) M):OL K (rTupOf K) [l] M Q:=fun vs H Qc rv rm kc=>by
 cases rv with
 | cons r t=>
  cases t
  obtain⟨p,ws,rfl,sq,r⟩:=hl.of r rm
  exact w_tupOfL sq fun p hp=>kc.newT rm hp r q
theorem l_tupT (q:Q (.tup xs) M):OL K (rTupOf K) [.tup xs] M Q:=fun vs H Qc rv rm kc=>by
 cases rv with
 | cons r t=>
  cases t
  have r0:=r
  cases r with
  | tup f r=>exact⟨_,_,rfl,.inr ⟨f.sq,kc.go rm r0 q⟩⟩
theorem l_listL {l:A} (hl:LsA M l xs∨l= .tup xs) (q:Q (.lst xs) M):OL K (Evl.rListS K) [l] M Q:=fun vs H Qc rv rm kc=>by
 cases rv with
 | cons r t=>
  cases t
  rcases hl with hl | hl
  ·obtain⟨p,ws,rfl,sq,r⟩:=hl.of r rm
   exact w_listL sq fun p hp=>kc.newL rm hp r q
  ·subst hl
   cases r with
   | tup f r=>exact w_listT f.sq fun p hp=>kc.newL rm hp r q
theorem l_all {bs:List Bool} {l:A} (hl:LsA M l (bs.map A.bl)) (q:Q (.bl (bs.all id)) M):OL K (rAll K) [l] M Q:=fun vs H Qc rv rm kc=>by
 cases rv with
 | cons r t=>
  cases t
  obtain⟨p,ws,rfl,sq,r⟩:=hl.of r rm
  rw [r.bls] at sq
  exact⟨p,bs,rfl,sq,kc.go rm (.bl _) q⟩
theorem l_sorted {zs:List Str} {l:A} (hl:LsA M l (zs.map A.str)) (hn:zs.length < 64) (q:∀ys,ys.Perm zs→sortedS ys=true→Q (.lst (ys.map A.str)) M):OL K (rSortedS K) [l] M Q:=fun vs H Qc rv rm kc=>by
 cases rv with
 | cons r t=>
  cases t
  obtain⟨p,ws,rfl,sq,r⟩:=hl.of r rm
  rw [r.strs] at sq
  exact⟨p,zs,rfl,sq,hn,fun ys p h1 h2 hp=>kc.newL rm hp (RvL.of_strs ys) (q ys h1 h2)⟩
theorem e_sortSet {zs:List Str} (h:EE K Ex Xa te s M fun a M1=> ∃zs:List Str,LsA M1 a (zs.map A.str)∧zs.length < 64∧ ∀ys,ys.Perm (once zs)→sortedS ys=true→Q (.lst (ys.map A.str)) M1):EE K Ex Xa (tSortSetS K te) s M Q:=fun σ H Qc rep k=>
 h σ H _ rep fun a v M1 H1 st rm rv ⟨zs,hl,hn,q⟩=>by
  obtain⟨p,ws,rfl,sq,r⟩:=hl.of rv rm
  rw [r.strs] at sq
  exact⟨p,zs,rfl,sq,hn,fun ys p h1 h2 hp=>(k.step st).newL rm hp (RvL.of_strs ys) (q ys h1 h2)⟩
def A.isI:A→Bool | .int _=>true | .bl _=>true | _=>false
def A.isBl:A→Bool | .bl _=>true | _=>false
def A.isS:A→Bool | .str _=>true | _=>false
def A.isT:A→Bool | .tup _=>true | _=>false
def A.isL:A→Bool | .lst _=>true | _=>false
def A.plain:A→Bool | .loc _=>false | .ty _=>false | .scr _=>false | _=>true
def A.kn:A→String
 | .non=> "NoneType"
 | .bl _=> "bool"
 | .int _=> "int"
 | .str _=> "str"
 | .tup _=> "tuple"
 | .lst _=> "list"
 | .dic _ _=> "dict"
 | _=> ""
theorem tuple_isi {D:List Addr} {vs:List V} {T:String} {r:Bool} (f:FT K D H p vs) (hk:kitB "tuple" T=some r) {Qc:VK} (q:Qc (.bl r) H):rIsi K [.ref p,.ty T] H Qc:=by
 rcases f with⟨_,f | ⟨o,f⟩⟩ | ⟨o,its,n,h1,h2,_⟩
 ·exact w_isi (.ty _) (.base (.tup f)) (kit_ty hk) q
 ·exact w_isi (.ty _) (.fTuple f) (kit_ty hk) q
 ·exact w_isi (.ty _) (.kTuple h1 h2) (kit_ty hk) q
theorem isi_of {D:List Addr} {T:String} (rv:Rv K D H a v) (hp:a.plain=true) {Qc:VK} {r:Bool}
  (h:kitB a.kn T=some r) (q:Qc (.bl r) H):rIsi K [v,.ty T] H Qc:=by
 cases rv with
 | non=>exact w_isi (.ty _) (.base .non) (kit_ty h) q
 | bl b=>exact w_isi (.ty _) (.base (.bl b)) (kit_ty h) q
 | int i=>exact w_isi (.ty _) (.base (.int i)) (kit_ty h) q
 | str z=>exact w_isi (.ty _) (.base (.str z)) (kit_ty h) q
 | ty n=>cases hp
 | loc n=>cases hp
 | scr f=>cases hp
 | tup f r=>exact tuple_isi f h q
 | lst f r=>exact w_isi (.ty _) (.base (.lst f.2)) (kit_ty h) q
 | dic f e r=>exact w_isi (.ty _) (.base (.dK f.2)) (kit_ty h) q
theorem l_isInt (hp:a.plain=true) (q:Q (.bl a.isI) M):OL K (rIsi K) [a,.ty "int"] M Q:=fun vs H Qc rv rm kc=>by
 cases rv with
 | cons r t=>cases t with | cons r2 t=>cases t;cases r2;exact isi_of r hp (by cases a <;> first | (cases hp;done) | (simp only [A.kn,A.isI];decide +kernel)) (kc.go rm (.bl _) q)
theorem l_isBool (hp:a.plain=true) (q:Q (.bl a.isBl) M):OL K (rIsi K) [a,.ty "bool"] M Q:=fun vs H Qc rv rm kc=>by
 cases rv with
 | cons r t=>cases t with | cons r2 t=>cases t;cases r2;exact isi_of r hp (by cases a <;> first | (cases hp;done) | (simp only [A.kn,A.isBl];decide +kernel)) (kc.go rm (.bl _) q)
theorem l_isStr (hp:a.plain=true) (q:Q (.bl a.isS) M):OL K (rIsi K) [a,.ty "str"] M Q:=fun vs H Qc rv rm kc=>by
 cases rv with
 | cons r t=>cases t with | cons r2 t=>cases t;cases r2;exact isi_of r hp (by cases a <;> first | (cases hp;done) | (simp only [A.kn,A.isS];decide +kernel)) (kc.go rm (.bl _) q)
theorem l_isTuple (hp:a.plain=true) (q:Q (.bl a.isT) M):OL K (rIsi K) [a,.ty "tuple"] M Q:=fun vs H Qc rv rm kc=>by
 cases rv with
 | cons r t=>cases t with | cons r2 t=>cases t;cases r2;exact isi_of r hp (by cases a <;> first | (cases hp;done) | (simp only [A.kn,A.isT];decide +kernel)) (kc.go rm (.bl _) q)
theorem l_isList (hp:a.plain=true) (q:Q (.bl a.isL) M):OL K (rIsi K) [a,.ty "list"] M Q:=fun vs H Qc rv rm kc=>by
 cases rv with
 | cons r t=>cases t with | cons r2 t=>cases t;cases r2;exact isi_of r hp (by cases a <;> first | (cases hp;done) | (simp only [A.kn,A.isL];decide +kernel)) (kc.go rm (.bl _) q)
theorem e_bmL {r:V→List V→Hp→VK→Prop} (h:EE K Ex Xa te s M fun a M1=>(∃xs,LsA M1 a xs)∧EA K Ex Xa tr s M1 fun as M2=>OM K r a as M2 Q):EE K Ex Xa (tBM K "list" r te tr) s M Q:=fun σ H Qc rep k=>
 h σ H _ rep fun a v M1 H1 st rm rv ⟨⟨xs,hl⟩,ha⟩=>by
  obtain⟨p,vs,e,sq,_⟩:=hl.of rv rm
  refine⟨?_,ha σ H1 _ (rep.step st rm) fun as ws M2 H2 st2 rm2 rv2 ho=>ho v ws H2 _ (rv.step st2) rv2 rm2 (k.step (st.trans st2))⟩
  subst e
  exact .inl ⟨rfl,vs,sq⟩
theorem m_append (up:Up M p (.lst xs) (.lst (xs ++ [a])) M') (hl:xs.length < sizeLine) (q:Q .non M'):OM K rAppend (.loc p) [a] M Q:=fun x ws H Qc rx rw2 rm kc=>by
 cases rx
 cases rw2 with
 | cons ra t=>
  cases t
  obtain⟨vs,hv,r⟩:=rm.cell _ up.mem
  have hm:p∈ad M:=List.mem_map.mpr ⟨_,up.mem,rfl⟩
  refine w_append hv (by rw [← r.len];exact hl) ?_
  have st:∀ {u:HO},Step (ad M) H (ad M) (upd H p u):=Step.write hm
  refine kc _ _ M' _ (by rw [up.ad];exact st) (rm.put up ⟨_,upd_same,(r.step st).app (.cons (ra.step st) .nil)⟩) .non q
theorem e_join {zs:List Str} (h:EE K Ex Xa to s M fun a M1=> ∃z,a= .str z∧EE K Ex Xa te s M1 fun b M2=> ∃zs:List Str,(LsA M2 b (zs.map A.str)∨b= .tup (zs.map A.str))∧(zs.map (·.length)).sum+zs.length*z.length≤16777216∧Q (.str (Txt.join z zs)) M2):EE K Ex Xa (tJoin K to te) s M Q:=fun σ H Qc rep k=>
 h σ H _ rep fun a v M1 H1 st rm rv ⟨z,e,hb⟩=>by
  subst e;cases rv
  refine⟨⟨z,rfl⟩,hb σ H1 _ (rep.step st rm) fun b w M2 H2 st2 rm2 rw2 ⟨zs,hl,hn,q⟩=> ?_⟩
  have k2:=k.step (st.trans st2)
  rcases hl with hl | hl
  ·obtain⟨p,ws,rfl,sq,r⟩:=hl.of rw2 rm2
   rw [r.strs] at sq
   exact⟨z,p,zs,rfl,rfl,.inl sq,hn,k2.go rm2 (.str _) q⟩
  ·subst hl
   cases rw2 with
   | tup f r=>
    have sq:=f.sq
    rw [r.strs] at sq
    exact⟨z,_,zs,rfl,rfl,.inr sq,hn,k2.go rm2 (.str _) q⟩
theorem e_split (h:EE K Ex Xa to s M fun a M1=> ∃z,a= .str z∧EE K Ex Xa te s M1 fun b M2=> ∃y,b= .str y∧(y.length == 0)=false∧z.length+2≤sizeLine∧Q (.lst ((Txt.split z y).map A.str)) M2):EE K Ex Xa (tSplit to te) s M Q:=fun σ H Qc rep k=>
 h σ H _ rep fun a v M1 H1 st rm rv ⟨z,e,hb⟩=>by
  subst e;cases rv
  refine⟨⟨z,rfl⟩,hb σ H1 _ (rep.step st rm) fun b w M2 H2 st2 rm2 rw2 ⟨y,e2,h1,h2,q⟩=> ?_⟩
  subst e2;cases rw2
  exact⟨z,y,rfl,rfl,h1,h2,fun p hp=>(k.step (st.trans st2)).newL rm2 hp (RvL.of_strs _) q⟩
end
end Ab
set_option Elab.async false
set_option linter.all false
set_option maxRecDepth 100000
set_option maxHeartbeats 4000000
namespace Ab
open PySem PySem.Spec PyProof.Rows L2 Go
theorem len_ok {xs:List A} (h:xs.length≤1000):xs.length≤sizeLine:=Nat.le_trans h (by decide)
theorem small {n:Nat} (h:n≤1000000):n≤sizeLine:=Nat.le_trans h (by decide)
theorem small' {n:Nat} (h:n < 1000000):n < sizeLine:=Nat.lt_of_lt_of_le h (by decide)
theorem e_T {R:List A→Prop} {xs:List A} (q:R xs):∃ys,A.tup xs= .tup ys∧R ys:=⟨xs,rfl,q⟩
theorem e_L {R:List A→Prop} {xs:List A} (q:R xs):∃ys,A.lst xs= .lst ys∧R ys:=⟨xs,rfl,q⟩
theorem e_lsx {M:AM} {a:A} {xs:List A} {R:Prop} (h:LsA M a xs) (q:R):(∃xs,LsA M a xs)∧R:=⟨⟨xs,h⟩,q⟩
theorem atI_at {xs:List A} {i:Nat} {a:A} (h:xs[i]? =some a):atI xs (i:Int)=some a:=by
 unfold atI ixN
 have:=(List.getElem?_eq_some_iff.mp h).1
 rw [if_pos (Int.natCast_nonneg i),if_pos (by omega)]
 exact h
theorem s_join {K:PySem.W.Frag} {Ex:XK} {Xa:XA} {s:Sv} {M:AM} {t:TS} {Nx:Sv→AM→Prop} {Rt:QA} {Bk Ct:Sv→AM→Prop} (J:Sv→AM→Prop) (h1:ES K Ex Xa t s M J Rt Bk Ct) (h2:∀s M,J s M→Nx s M):ES K Ex Xa t s M Nx Rt Bk Ct:=
 s_weak h1 h2 (fun _ _ h=>h) (fun _ _ h=>h) (fun _ _ h=>h)
end Ab
set_option Elab.async false
set_option linter.all false
set_option maxRecDepth 100000
set_option maxHeartbeats 4000000
namespace Ab
open PySem PySem.Spec PyProof.Rows L2 Go
section
variable {K:PySem.W.Frag} {Ex:XK} {Xa:XA} {s:Sv} {M M':AM} {H:Hp} {Q:QA} {a b:A} {v:V} {xs ys:List A} {te to td ty tv:TE} {tr:TA} {p:Addr}
def keyA:Key→A
 | .inl i=> .int i
 | .inr z=> .str z
theorem key_of {k:Key} {D:List Addr} (rv:Rv K D H (keyA k) v):v=kV k:=by
 cases k <;> (cases rv;rfl)
def valA {κ:Type} [DecidableEq κ] (kvs:List (κ×A)) (k:κ):Option A:=(kvs.find? fun kv=>decide (kv.1=k)).map (·.2)
def putA {κ:Type} [DecidableEq κ] (kvs:List (κ×A)) (k:κ) (v:A):List (κ×A):=
 if(kvs.any fun kv=>decide (kv.1=k))=true then kvs.map (fun kv=>if kv.1=k then(kv.1,v) else kv) else kvs ++ [(k,v)]
theorem KvR.len {κ:Type} {D:List Addr} {kvs:List (κ×A)} {ws:List (κ×V)} (h:KvR K D H kvs ws):kvs.length=ws.length:=Paired.length h
theorem KvR.get {κ:Type} [DecidableEq κ] {D:List Addr} {kvs:List (κ×A)} {ws:List (κ×V)} (h:KvR K D H kvs ws) (k:κ):(valA kvs k=none∧valV ws k=none)∨ ∃a v,valA kvs k=some a∧valV ws k=some v∧Rv K D H a v:=by
 unfold KvR at h
 induction h with
 | nil=>exact .inl ⟨rfl,rfl⟩
 | @cons x y l1 l2 r _ ih=>
  unfold valA valV at ih ⊢
  rw [List.find?_cons,List.find?_cons,← r.1]
  by_cases e:x.1=k
  ·rw [decide_eq_true e]
   exact .inr ⟨x.2,y.2,rfl,rfl,r.2⟩
  ·rw [decide_eq_false e]
   exact ih
theorem KvR.any {κ:Type} [DecidableEq κ] {D:List Addr} {kvs:List (κ×A)} {ws:List (κ×V)} (h:KvR K D H kvs ws) (k:κ):(kvs.any fun kv=>decide (kv.1=k))=ws.any fun kv=>decide (kv.1=k):=by
 unfold KvR at h
 induction h with
 | nil=>rfl
 | cons r _ ih=>rw [List.any_cons,List.any_cons,ih,r.1]
theorem KvR.put {κ:Type} [DecidableEq κ] {D:List Addr} {kvs:List (κ×A)} {ws:List (κ×V)} (h:KvR K D H kvs ws) (k:κ) (rv:Rv K D H a v):KvR K D H (putA kvs k a) (putK ws k v):=by
 unfold putA putK
 rw [h.any k]
 split
 ·rename_i hh
  clear hh
  unfold KvR at h ⊢
  induction h with
  | nil=>exact .nil
  | @cons x y l1 l2 r _ ih=>
   rw [List.map_cons,List.map_cons]
   refine .cons ?_ ih
   rw [← r.1]
   by_cases e:x.1=k
   ·rw [if_pos e,if_pos e];exact⟨rfl,rv⟩
   ·rw [if_neg e,if_neg e];exact r
 ·exact Paired.snoc h ⟨rfl,rv⟩
theorem e_dnew (q:∀p,Q (.loc p) ((p,.dic []) :: M)):EE K Ex Xa tDNewK s M Q:=fun σ H Qc rep k p hp=>
 k _ _ ((p,.dic []) :: M) _ (Step.alloc hp) (rep.rm.new hp ⟨[],upd_same,.nil⟩) (.loc p) (q p)
theorem e_dget (h:EE K Ex Xa td s M fun d M1=>EE K Ex Xa ty s M1 fun y M2=> ∃p kvs k v,d= .loc p∧Lk M2 p (.dic kvs)∧y=keyA k∧valA kvs k=some v∧Q v M2):EE K Ex Xa (tDGet td ty) s M Q:=fun σ H Qc rep k=>
 h σ H _ rep fun d v M1 H1 st rm rv hy=>hy σ H1 _ (rep.step st rm) fun y w M2 H2 st2 rm2 rw2 ⟨p,kvs,ky,va,e1,lk,e2,hv,q⟩=>by
  subst e1 e2
  cases rv
  have:=key_of rw2
  subst this
  obtain⟨ws,hw,r⟩:=rm2.cell _ lk.mem
  rcases r.get ky with⟨z,_⟩ | ⟨a,u,g1,g2,g3⟩
  ·rw [hv] at z;cases z
  ·rw [hv] at g1
   cases g1
   have dg:=DGet.k (k:=ky) hw
   rw [g2] at dg
   exact⟨p,u,rfl,dg,(k.step (st.trans st2)).go rm2 g3 q⟩
theorem e_din (h:EE K Ex Xa ty s M fun y M1=>EE K Ex Xa td s M1 fun d M2=> ∃p kvs k,d= .loc p∧Lk M2 p (.dic kvs)∧y=keyA k∧Q (.bl (valA kvs k).isSome) M2):EE K Ex Xa (tDIn ty td) s M Q:=fun σ H Qc rep k=>
 h σ H _ rep fun y w M1 H1 st rm rv hy=>hy σ H1 _ (rep.step st rm) fun d v M2 H2 st2 rm2 rw2 ⟨p,kvs,ky,e1,lk,e2,q⟩=>by
  subst e1 e2
  cases rw2
  have:=key_of rv
  subst this
  obtain⟨ws,hw,r⟩:=rm2.cell _ lk.mem
  refine⟨p,valV ws ky,rfl,DGet.k hw,?_⟩
  have e:(valV ws ky).isSome=(valA kvs ky).isSome:=by
   rcases r.get ky with⟨z1,z2⟩ | ⟨a,u,g1,g2,_⟩
   ·rw [z1,z2];rfl
   ·rw [g1,g2];rfl
  rw [e]
  exact(k.step (st.trans st2)).go rm2 (.bl _) q
theorem e_dnin (h:EE K Ex Xa ty s M fun y M1=>EE K Ex Xa td s M1 fun d M2=> ∃p kvs k,d= .loc p∧Lk M2 p (.dic kvs)∧y=keyA k∧Q (.bl (!(valA kvs k).isSome)) M2):EE K Ex Xa (tDNotIn ty td) s M Q:=fun σ H Qc rep k=>
 h σ H _ rep fun y w M1 H1 st rm rv hy=>hy σ H1 _ (rep.step st rm) fun d v M2 H2 st2 rm2 rw2 ⟨p,kvs,ky,e1,lk,e2,q⟩=>by
  subst e1 e2
  cases rw2
  have:=key_of rv
  subst this
  obtain⟨ws,hw,r⟩:=rm2.cell _ lk.mem
  refine⟨p,valV ws ky,rfl,DGet.k hw,?_⟩
  have e:(valV ws ky).isSome=(valA kvs ky).isSome:=by
   rcases r.get ky with⟨z1,z2⟩ | ⟨a,u,g1,g2,_⟩
   ·rw [z1,z2];rfl
   ·rw [g1,g2];rfl
  rw [e]
  exact(k.step (st.trans st2)).go rm2 (.bl _) q
theorem s_dput {Nx:Sv→AM→Prop} {Rt:QA} {Bk Ct:Sv→AM→Prop} (h:EE K Ex Xa tv s M fun a M1=>EE K Ex Xa td s M1 fun d M2=>EE K Ex Xa ty s M2 fun y M3=> ∃p kvs k M4,d= .loc p∧y=keyA k∧Up M3 p (.dic kvs) (.dic (putA kvs k a)) M4∧kvs.length < sizeLine∧Nx s M4):ES K Ex Xa (sDPut td ty tv) s M Nx Rt Bk Ct:=fun σ H D rep kn kr kb kt=>
 h σ H _ rep fun a v M1 H1 st rm rv hd=>hd σ H1 _ (rep.step st rm) fun d w M2 H2 st2 rm2 rw2 hy=>hy σ H2 _ (rep.step (st.trans st2) rm2) fun y u M3 H3 st3 rm3 ru ⟨p,kvs,ky,M4,e1,e2,up,hl,q⟩=>by
  subst e1 e2
  cases rw2
  have:=key_of ru
  subst this
  obtain⟨ws,hw,r⟩:=rm3.cell _ up.mem
  have hm:p∈ad M3:=List.mem_map.mpr ⟨_,up.mem,rfl⟩
  have st4:∀ {o:HO},Step (ad M3) H3 (ad M3) (upd H3 p o):=Step.write hm
  have rm4:RM K M4 (upd H3 p (.dK (putK ws ky v))):=rm3.put up ⟨_,upd_same,(r.step st4).put ky ((rv.step (st2.trans st3)).step st4)⟩
  have st5:Step (ad M3) H3 (ad M4) (upd H3 p (.dK (putK ws ky v))):=by rw [up.ad];exact st4
  have st15:=((st.trans st2).trans st3).trans st5
  exact⟨p,_,rfl,DPut.k hw (by rw [← r.len];exact hl),kn s M4 σ _ st15 (rep.step st15 rm4) q⟩
def mergeA (kvs more:List (Key×A)):List (Key×A):=more.foldl (fun acc kv=>putA acc kv.1 kv.2) kvs
theorem KvR.merge {D:List Addr} {kvs:List (Key×A)} {ws:List (Key×V)} :∀ {acc:List (Key×A)} {wcc:List (Key×V)},KvR K D H acc wcc→KvR K D H kvs ws→KvR K D H (mergeA acc kvs) (mergeK wcc ws):=by
 intro acc wcc h1 h2
 unfold KvR at h2
 induction h2 generalizing acc wcc with
 | nil=>exact h1
 | @cons x y l1 l2 r _ ih=>
  show KvR K D H (mergeA (putA acc x.1 x.2) l1) (mergeK (putK wcc y.1 y.2) l2)
  rw [← r.1]
  exact ih (h1.put x.1 r.2)
end
end Ab
namespace Ab
open PySem PySem.Spec PyProof.Rows L2 Go
def EPs (K:PySem.W.Frag) (Ex:XK) (Xa:XA) (s:Sv):List (TE×TE)→AM→(List (A×A)→AM→Prop)→Prop
 | [],M,Q=>Q [] M
 | x :: r,M,Q=>EE K Ex Xa x.1 s M fun k M1=>EE K Ex Xa x.2 s M1 fun v M2=>EPs K Ex Xa s r M2 fun l M3=>Q ((k,v) :: l) M3
def PvR (K:PySem.W.Frag) (D:List Addr) (H:Hp) (l:List (A×A)) (ps:List (V×V)):Prop:=Paired (fun(x:A×A) (y:V×V)=>Rv K D H x.1 y.1∧Rv K D H x.2 y.2) l ps
section
variable {K:PySem.W.Frag} {Ex:XK} {Xa:XA} {s:Sv} {M M':AM} {H:Hp} {Q:QA}
theorem PvR.step {D D':List Addr} {H':Hp} {l:List (A×A)} {ps:List (V×V)} (h:PvR K D H l ps) (st:Step D H D' H'):PvR K D' H' l ps:=by
 unfold PvR at h ⊢
 induction h with
 | nil=>exact .nil
 | cons a _ ih=>exact .cons ⟨a.1.step st,a.2.step st⟩ ih
theorem pairs_of {σ:L2.St} :∀ {trs:List (TE×TE)} {M:AM} {H:Hp} {Q:List (A×A)→AM→Prop} {Qc:List (V×V)→Hp→Prop},EPs K Ex Xa s trs M Q→Rep K Ex Xa s M σ H→
  (∀l ps M' H',Step (ad M) H (ad M') H'→RM K M' H'→PvR K (ad M') H' l ps→Q l M'→Qc ps H')→tPairs trs σ H Qc
 | [],M,H,Q,Qc,h,rep,k=>k [] [] M H (Step.refl _ _) rep.rm .nil h
 | x :: r,M,H,Q,Qc,h,rep,k=>by
  refine(show EE K Ex Xa x.1 s M _ from h) σ H _ rep fun a v M1 H1 st rm rv h1=>h1 σ H1 _ (rep.step st rm) fun b w M2 H2 st2 rm2 rw2 h2=> ?_
  exact pairs_of h2 (rep.step (st.trans st2) rm2) fun l ps M3 H3 st3 rm3 hp q=>k _ _ M3 H3 ((st.trans st2).trans st3) rm3 (.cons ⟨rv.step (st2.trans st3),rw2.step st3⟩ hp) q
theorem e_disp {trs:List (TE×TE)} (h:∀p,EPs K Ex Xa s trs ((p,.dic []) :: M) fun l M1=> ∃(kvs:List (Key×A)) (M2:AM),l=kvs.map (fun kv=>(keyA kv.1,kv.2))∧kvs.length≤15∧Up M1 p (.dic []) (.dic (mergeA [] kvs)) M2∧Q (.loc p) M2):EE K Ex Xa (tDisp trs) s M Q:=fun σ H Qc rep k p hp=>by
 have rm1:RM K ((p,.dic []) :: M) (upd H p (.dK [])):=rep.rm.new hp ⟨[],upd_same,.nil⟩
 have st1:Step (ad M) H (ad ((p,AO.dic []) :: M)) (upd H p (.dK [])):=Step.alloc hp
 refine pairs_of (h p) (rep.step st1 rm1) fun l ps M1 H1 st rm hps ⟨kvs,M2,e,hl,up,q⟩=> ?_
 obtain⟨ws,hw,r⟩:=rm.cell _ up.mem
 cases r
 have key:∀ {kvs:List (Key×A)} {ps:List (V×V)},PvR K (ad M1) H1 (kvs.map fun kv=>(keyA kv.1,kv.2)) ps→ ∃us:List (Key×V),ps=us.map (fun kv=>(kV kv.1,kv.2))∧KvR K (ad M1) H1 kvs us:=by
  intro kvs
  induction kvs with
  | nil=>intro ps r;cases r;exact⟨[],rfl,.nil⟩
  | cons x kvs ih=>
   intro ps r
   cases r with
   | @cons _ y _ _ r1 t=>
    obtain⟨us,e,h2⟩:=ih t
    have e1:=key_of r1.1
    exact⟨(x.1,y.2) :: us,by rw [e,List.map_cons];exact congrArg (· :: _) (Prod.ext e1 rfl),.cons ⟨rfl,r1.2⟩ h2⟩
 rw [e] at hps
 obtain⟨us,e2,h2⟩:=key hps
 have hm:p∈ad M1:=List.mem_map.mpr ⟨_,up.mem,rfl⟩
 have st4:∀ {o:HO},Step (ad M1) H1 (ad M1) (upd H1 p o):=Step.write hm
 refine⟨hw,us,e2,by rw [← h2.len];exact hl,?_⟩
 refine k _ _ M2 _ ((st1.trans st).trans (by rw [up.ad];exact st4)) (rm.put up ⟨_,upd_same,(KvR.merge (acc:= []) .nil h2).step st4⟩) (.loc p) q
end
end Ab
namespace Ab
open PySem PySem.Spec PyProof.Rows L2 Go
section
variable {K:PySem.W.Frag} {Ex:XK} {Xa:XA} {s:Sv} {M M':AM} {H:Hp} {Q:QA}
theorem cut_to {xs:List A} (m:Nat):cutA xs none (some (m:Int))=xs.take m:=by
 unfold cutA
 have e1:HT.sIx xs.length 0 none=0:=rfl
 rw [e1,List.drop_zero,Nat.sub_zero]
 have e2:HT.sIx xs.length xs.length (some (m:Int))=min m xs.length:=by
  simp only [HT.sIx]
  split <;> omega
 rw [e2]
 by_cases h:m≤xs.length
 ·rw [Nat.min_eq_left h]
 ·rw [Nat.min_eq_right (by omega),List.take_of_length_le (Nat.le_refl _),List.take_of_length_le (by omega)]
theorem cut_from {xs:List A} (m:Nat):cutA xs (some (m:Int)) none=xs.drop m:=by
 unfold cutA
 have e1:HT.sIx xs.length xs.length none=xs.length:=rfl
 have e2:HT.sIx xs.length 0 (some (m:Int))=min m xs.length:=by
  simp only [HT.sIx]
  split <;> omega
 rw [e1,e2]
 by_cases h:m≤xs.length
 ·rw [Nat.min_eq_left h,List.take_of_length_le (by rw [List.length_drop];omega)]
 ·rw [Nat.min_eq_right (by omega),List.drop_of_length_le (Nat.le_refl _),List.drop_of_length_le (by omega),List.take_nil]
abbrev zipD (zs:List Str) (qs:List Addr):List (Key×A):=List.zipWith (fun z q=>((.inr z:Key),A.loc q)) zs qs
theorem zip_val:∀ {zs:List Str} {qs:List Addr} {a:Nat} {z:Str} {q:Addr},zs.Nodup→zs[a]? =some z→qs[a]? =some q→valA (zipD zs qs) (.inr z)=some (.loc q)
 | [],_,_,_,_,_,h,_=>by cases h
 | _ :: _,[],_,_,_,_,_,h=>by cases h
 | z0 :: zs,q0 :: qs,0,z,q,_,h1,h2=>by
  cases h1;cases h2
  unfold valA
  show((List.find? _ (((Sum.inr z0:Key),A.loc q0) :: zipD zs qs)).map (·.2))=_
  rw [List.find?_cons,decide_eq_true rfl];rfl
 | z0 :: zs,q0 :: qs,a+1,z,q,nd,h1,h2=>by
  obtain⟨n1,n2⟩:=List.nodup_cons.mp nd
  have ih:=zip_val (zs:=zs) (qs:=qs) (a:=a) n2 h1 h2
  unfold valA at ih ⊢
  show((List.find? _ (((Sum.inr z0:Key),A.loc q0) :: zipD zs qs)).map (·.2))=_
  have hne: ¬ ((Sum.inr z0:Key)= .inr z):=fun e=>n1 (by rw [Sum.inr.inj e];exact List.mem_of_getElem? h1)
  rw [List.find?_cons,decide_eq_false hne]
  exact ih
theorem LsA.sub {a:A} {xs:List A} (h:LsA M a xs) (up:Sub M M'):LsA M' a xs:=by
 cases h with
 | lst=>exact .lst
 | loc h=>exact .loc (up _ _ h)
 | scr=>exact .scr
end
end Ab
set_option Elab.async false
set_option linter.all false
set_option maxRecDepth 100000
set_option maxHeartbeats 4000000
namespace Ab
open PySem PySem.Spec PyProof.Rows L2 Go
def putFA (f:Str) (v:A):List (Str×A)→List (Str×A)
 | []=> [(f,v)]
 | (g,x) :: r=>if g=f then(g,v) :: r else(g,x) :: putFA f v r
section
variable {K:PySem.W.Frag} {Ex Ex':XK} {Xa:XA} {s:Sv} {M M':AM} {H:Hp} {Q:QA} {a b:A} {v:V} {xs ys:List A} {te to ta td ty tv tx:TE} {tr:TA} {p:Addr} {Nx:Sv→AM→Prop} {Rt:QA} {Bk Ct:Sv→AM→Prop} {f:ASp} {fx:ASpX}
theorem KvR.look {D:List Addr} {fs:List (Str×A)} {ws:List (Str×V)} (h:KvR K D H fs ws) (k:Str):(fs.lookup k=none∧ws.lookup k=none)∨ ∃a v,fs.lookup k=some a∧ws.lookup k=some v∧Rv K D H a v:=by
 unfold KvR at h
 induction h with
 | nil=>exact .inl ⟨rfl,rfl⟩
 | @cons x y l1 l2 r _ ih=>
  obtain⟨x1,x2⟩:=x
  obtain⟨y1,y2⟩:=y
  have e1:x1=y1:=r.1
  subst e1
  rw [List.lookup_cons,List.lookup_cons]
  cases k == x1 with
  | true=>exact .inr ⟨x2,y2,rfl,rfl,r.2⟩
  | false=>exact ih
theorem KvR.putF {D:List Addr} {fs:List (Str×A)} {ws:List (Str×V)} (h:KvR K D H fs ws) (k:Str) (rv:Rv K D H a v):KvR K D H (putFA k a fs) (L2.putF k v ws):=by
 unfold KvR at h ⊢
 induction h with
 | nil=>exact .cons ⟨rfl,rv⟩ .nil
 | @cons x y l1 l2 r t ih=>
  obtain⟨x1,x2⟩:=x
  obtain⟨y1,y2⟩:=y
  have e1:x1=y1:=r.1
  subst e1
  unfold putFA L2.putF
  by_cases e:x1=k
  ·rw [if_pos e,if_pos e];exact .cons ⟨rfl,rv⟩ t
  ·rw [if_neg e,if_neg e];exact .cons r ih
theorem e_fld {n:Str} (h:EE K Ex Xa ta s M fun a M1=> ∃p C fs v,a= .loc p∧Lk M1 p (.ins C fs)∧Cls K C∧NoAttr K C n∧fs.lookup n=some v∧Q v M1):EE K Ex Xa (tFld K ta n) s M Q:=fun σ H Qc rep k=>
 h σ H _ rep fun a v M1 H1 st rm rv ⟨p,C,fs,va,e,lk,c,nn,hl,q⟩=>by
  subst e;cases rv
  obtain⟨dx,ws,hp,ho,r⟩:=rm.cell _ lk.mem
  rcases r.look n with⟨z,_⟩ | ⟨a,u,g1,g2,g3⟩
  ·rw [hl] at z;cases z
  ·rw [hl] at g1
   cases g1
   exact⟨p,C,dx,ws,u,rfl,hp,c,nn,g2,(k.step st).go rm g3 q⟩
theorem s_fld {n:Str} (h:EE K Ex Xa tv s M fun y M1=>EE K Ex Xa ta s M1 fun a M2=> ∃p C fs M3,a= .loc p∧Up M2 p (.ins C fs) (.ins C (putFA n y fs)) M3∧Cls K C∧NoAttr K C n∧fs.length < 1000∧Nx s M3):ES K Ex Xa (sFld K ta tv n) s M Nx Rt Bk Ct:=fun σ H D rep kn kr kb kt=>
 h σ H _ rep fun y u M1 H1 st rm rv ha=>ha σ H1 _ (rep.step st rm) fun a w M2 H2 st2 rm2 rw2 ⟨p,C,fs,M3,e,up,c,nn,hl,q⟩=>by
  subst e;cases rw2
  obtain⟨dx,ws,hp,ho,r⟩:=rm2.cell _ up.mem
  have hm:p∈ad M2:=List.mem_map.mpr ⟨_,up.mem,rfl⟩
  have st4:∀ {o:HO},Step (ad M2) H2 (ad M2) (upd H2 p o):=Step.write hm
  have hdx:dx≠p:=fun e=>by rw [e,hp] at ho;cases ho
  have rm4:RM K M3 (upd H2 p (.ins C dx (L2.putF n u ws))):=rm2.put up ⟨dx,_,upd_same,by rw [upd_ne hdx];exact ho,(r.step st4).putF n ((rv.step st2).step st4)⟩
  have st5:Step (ad M2) H2 (ad M3) (upd H2 p (.ins C dx (L2.putF n u ws))):=by rw [up.ad];exact st4
  have st15:=(st.trans st2).trans st5
  exact⟨p,C,dx,ws,rfl,hp,c,nn,by rw [← r.len];exact hl,kn s M3 σ _ st15 (rep.step st15 rm4) q⟩
theorem e_meth {C:Addr} {m:Str} (h:EE K Ex Xa ta s M fun a M1=> ∃p fs,a= .loc p∧Lk M1 p (.ins C fs)∧fs.lookup m=none∧EA K Ex Xa tr s M1 fun as M2=>f (.loc p :: as) M2 Q):EE K Ex Xa (tMeth C m (cs K f) [] Ex' ta tr) s M Q:=fun σ H Qc rep k=>
 h σ H _ rep fun a v M1 H1 st rm rv ⟨p,fs,e,lk,hl,ha⟩=>by
  subst e;cases rv
  obtain⟨dx,ws,hp,ho,r⟩:=rm.cell _ lk.mem
  refine⟨p,dx,ws,rfl,hp,?_,ha σ H1 _ (rep.step st rm) fun as vs M2 H2 st2 rm2 rv2 q=> ?_⟩
  ·rcases r.look m with⟨_,z⟩ | ⟨a,u,g1,_⟩
   ·exact z
   ·rw [hl] at g1;cases g1
  ·rw [List.append_nil]
   exact⟨.loc p :: as,M2,Q,.cons (.loc p) rv2,rm2,q,k.step (st.trans st2)⟩
theorem e_methX {C:Addr} {m:Str} {Ex:XK} (h:EE K Ex Xa ta s M fun a M1=> ∃p fs,a= .loc p∧Lk M1 p (.ins C fs)∧fs.lookup m=none∧EA K Ex Xa tr s M1 fun as M2=>fx (.loc p :: as) M2 Q Xa):EE K Ex Xa (tMeth C m (csX K fx) [] Ex ta tr) s M Q:=fun σ H Qc rep k=>
 h σ H _ rep fun a v M1 H1 st rm rv ⟨p,fs,e,lk,hl,ha⟩=>by
  subst e;cases rv
  obtain⟨dx,ws,hp,ho,r⟩:=rm.cell _ lk.mem
  refine⟨p,dx,ws,rfl,hp,?_,ha σ H1 _ (rep.step st rm) fun as vs M2 H2 st2 rm2 rv2 q=> ?_⟩
  ·rcases r.look m with⟨_,z⟩ | ⟨a,u,g1,_⟩
   ·exact z
   ·rw [hl] at g1;cases g1
  ·rw [List.append_nil]
   exact⟨.loc p :: as,M2,Q,Xa,.cons (.loc p) rv2,rm2,q,k.step (st.trans st2),fun C M3 H3 s3 r3 q3=>rep.ex C M3 H3 ((st.trans st2).trans s3) r3 q3⟩
theorem e_make {C:Addr} (h:EA K Ex Xa tr s M fun as M1=> ∀x,f (.loc x :: as) ((x,.ins C []) :: M1) fun v M2=>v= .non∧Q (.loc x) M2):EE K Ex Xa (tMake C (cs K f) [] Ex' tr) s M Q:=fun σ H Qc rep k=>
 h σ H _ rep fun as vs M1 H1 st rm rv q x dx hx hdx ne=>by
  rw [List.append_nil]
  have hx2:upd H1 dx (.own x) x=none:=by rw [upd_ne ne.symm];exact hx
  have sA:Step (ad M1) H1 (ad M1) (upd H1 dx (.own x)):=Step.fresh hdx
  have rmA:RM K M1 (upd H1 dx (.own x)):=rm.newF hdx
  have sB:Step (ad M1) (upd H1 dx (.own x)) (ad ((x,AO.ins C []) :: M1)) (upd (upd H1 dx (.own x)) x (.ins C dx [])):=Step.alloc hx2
  have rmB:RM K ((x,AO.ins C []) :: M1) (upd (upd H1 dx (.own x)) x (.ins C dx [])):=rmA.new hx2 ⟨dx,[],upd_same,by rw [upd_ne ne];exact upd_same,.nil⟩
  refine⟨.loc x :: as,(x,AO.ins C []) :: M1,_,.cons (.loc x) (rv.step (sA.trans sB)),rmB,q x,fun a v M2 H2 st2 rm2 rv2 ⟨e,q2⟩=> ?_⟩
  subst e;cases rv2
  exact⟨rfl,k _ _ M2 H2 ((st.trans (sA.trans sB)).trans st2) rm2 (.loc x) q2⟩
def dropA {κ:Type} [DecidableEq κ] (kvs:List (κ×A)) (k:κ):List (κ×A):=kvs.filter fun kv=>decide (kv.1≠k)
theorem KvR.drop {κ:Type} [DecidableEq κ] {D:List Addr} {kvs:List (κ×A)} {ws:List (κ×V)} (h:KvR K D H kvs ws) (k:κ):KvR K D H (dropA kvs k) (dropK ws k):=by
 unfold KvR dropA dropK at *
 induction h with
 | nil=>exact .nil
 | @cons x y l1 l2 r _ ih=>
  rw [List.filter_cons,List.filter_cons,← r.1]
  split
  ·exact .cons r ih
  ·exact ih
theorem isD_of {kvs:List (Key×A)} (rm:RM K M H) (lk:Lk M p (.dic kvs)):IsD H p:=by
 obtain⟨ws,hw,_⟩:=rm.cell _ lk.mem
 exact .inl ⟨ws,.inl hw⟩
theorem e_dget2 (h:EE K Ex Xa td s M fun d M1=> ∃p kvs,d= .loc p∧Lk M1 p (.dic kvs)∧EE K Ex Xa ty s M1 fun y M2=>EE K Ex Xa tx s M2 fun z M3=> ∃kvs k,Lk M3 p (.dic kvs)∧y=keyA k∧Q ((valA kvs k).getD z) M3):EE K Ex Xa (tDGet2 td ty tx) s M Q:=fun σ H Qc rep k=>
 h σ H _ rep fun d v M1 H1 st rm rv ⟨p,kvs,e,lk,hy⟩=>by
  subst e;cases rv
  refine⟨p,rfl,isD_of rm lk,hy σ H1 _ (rep.step st rm) fun y w M2 H2 st2 rm2 rw2 hz=>hz σ H2 _ (rep.step (st.trans st2) rm2) fun z u M3 H3 st3 rm3 ru ⟨kvs,ky,lk3,e2,q⟩=> ?_⟩
  subst e2
  have:=key_of rw2
  subst this
  obtain⟨ws,hw,r⟩:=rm3.cell _ lk3.mem
  have k3:=k.step ((st.trans st2).trans st3)
  refine⟨valV ws ky,DGet.k hw,?_⟩
  rcases r.get ky with⟨z1,z2⟩ | ⟨a,u,g1,g2,g3⟩
  ·rw [z1] at q;rw [z2];exact k3.go rm3 ru q
  ·rw [g1] at q;rw [g2];exact k3.go rm3 g3 q
theorem e_dget1 (h:EE K Ex Xa td s M fun d M1=> ∃p kvs,d= .loc p∧Lk M1 p (.dic kvs)∧EE K Ex Xa ty s M1 fun y M2=> ∃kvs k,Lk M2 p (.dic kvs)∧y=keyA k∧Q ((valA kvs k).getD .non) M2):EE K Ex Xa (tDGet1 td ty) s M Q:=fun σ H Qc rep k=>
 h σ H _ rep fun d v M1 H1 st rm rv ⟨p,kvs,e,lk,hy⟩=>by
  subst e;cases rv
  refine⟨p,rfl,isD_of rm lk,hy σ H1 _ (rep.step st rm) fun y w M2 H2 st2 rm2 rw2 ⟨kvs,ky,lk3,e2,q⟩=> ?_⟩
  subst e2
  have:=key_of rw2
  subst this
  obtain⟨ws,hw,r⟩:=rm2.cell _ lk3.mem
  have k3:=k.step (st.trans st2)
  refine⟨valV ws ky,DGet.k hw,?_⟩
  rcases r.get ky with⟨z1,z2⟩ | ⟨a,u,g1,g2,g3⟩
  ·rw [z1] at q;rw [z2];exact k3.go rm2 .non q
  ·rw [g1] at q;rw [g2];exact k3.go rm2 g3 q
theorem e_dpop (h:EE K Ex Xa td s M fun d M1=> ∃p kvs,d= .loc p∧Lk M1 p (.dic kvs)∧EE K Ex Xa ty s M1 fun y M2=> ∃kvs k v M3,Up M2 p (.dic kvs) (.dic (dropA kvs k)) M3∧y=keyA k∧valA kvs k=some v∧Q v M3):EE K Ex Xa (tDPop1 td ty) s M Q:=fun σ H Qc rep k=>
 h σ H _ rep fun d v M1 H1 st rm rv ⟨p,kvs,e,lk,hy⟩=>by
  subst e;cases rv
  refine⟨p,rfl,isD_of rm lk,hy σ H1 _ (rep.step st rm) fun y w M2 H2 st2 rm2 rw2 ⟨kvs,ky,va,M3,up,e2,hv,q⟩=> ?_⟩
  subst e2
  have:=key_of rw2
  subst this
  obtain⟨ws,hw,r⟩:=rm2.cell _ up.mem
  have hm:p∈ad M2:=List.mem_map.mpr ⟨_,up.mem,rfl⟩
  have st4:∀ {o:HO},Step (ad M2) H2 (ad M2) (upd H2 p o):=Step.write hm
  rcases r.get ky with⟨z1,z2⟩ | ⟨a,u,g1,g2,g3⟩
  ·rw [hv] at z1;cases z1
  ·rw [hv] at g1
   cases g1
   have st5:Step (ad M2) H2 (ad M3) (upd H2 p (.dK (dropK ws ky))):=by rw [up.ad];exact st4
   exact⟨ws,ky,u,hw,rfl,g2,k _ _ M3 _ ((st.trans st2).trans st5) (rm2.put up ⟨_,upd_same,(r.step st4).drop ky⟩) (g3.step st5) q⟩
end
end Ab
namespace Mth
/-- the part of n by 2 ^ e -/
def prt:Int→Nat→Int×Nat
 | n,0=>(n,0)
 | n,e+1=>if n % 2=0 then prt (n / 2) e else(n,e+1)
theorem prt_even {n:Int} {e:Nat} (h:n % 2=0):prt n (e+1)=prt (n / 2) e:=by rw [prt,if_pos h]
theorem prt_odd {n:Int} {e:Nat} (h: ¬ n % 2=0):prt n (e+1)=(n,e+1):=by rw [prt,if_neg h]
theorem prt_twice (n:Int) (e:Nat):prt (2*n) (e+1)=prt n e:=by
 rw [prt_even (by omega),show 2*n / 2=n by omega]
theorem prt_pow (n:Int) (e:Nat):∀k:Nat,prt (n*2^k) (e+k)=prt n e
 | 0=>by rw [Int.pow_zero,Int.mul_one,Nat.add_zero]
 | k+1=>by
  rw [Int.pow_succ,← Int.mul_assoc,Int.mul_comm _ 2,← Nat.add_assoc,prt_twice]
  exact prt_pow n e k
theorem prt_norm:∀(e:Nat) (n:Int),(prt n e).2=0∨(prt n e).1 % 2=1
 | 0,n=> .inl rfl
 | e+1,n=>by
  by_cases h:n % 2=0
  ·rw [prt_even h];exact prt_norm e _
  ·rw [prt_odd h];exact .inr (by show n % 2=1;omega)
theorem prt_self {n:Int} {e:Nat} (h:e=0∨n % 2=1):prt n e=(n,e):=by
 cases e with
 | zero=>rfl
 | succ e=>exact prt_odd (by omega)
theorem prt_le:∀(e:Nat) (n:Int),(prt n e).1.natAbs≤n.natAbs∧(prt n e).2≤e
 | 0,n=>⟨Nat.le_refl _,Nat.le_refl _⟩
 | e+1,n=>by
  by_cases h:n % 2=0
  ·rw [prt_even h]
   have:=prt_le e (n / 2)
   omega
  ·rw [prt_odd h];exact⟨Nat.le_refl _,Nat.le_refl _⟩
theorem prt_worth:∀(e:Nat) (n:Int),(prt n e).1*2^e=n*2^(prt n e).2
 | 0,n=>rfl
 | e+1,n=>by
  by_cases h:n % 2=0
  ·rw [prt_even h,Int.pow_succ,← Int.mul_assoc,prt_worth e (n / 2)]
   rw [Int.mul_assoc,Int.mul_comm _ 2,← Int.mul_assoc,show n / 2*2=n by omega]
  ·rw [prt_odd h]
end Mth
set_option Elab.async false
set_option linter.all false
set_option maxRecDepth 100000
set_option maxHeartbeats 4000000
namespace Go
open PySem PySem.Spec PyProof.Rows L2
end Go
namespace Ab
open PySem PySem.Spec PyProof.Rows L2 Go
end Ab
set_option Elab.async false
set_option linter.all false
set_option maxRecDepth 100000
set_option maxHeartbeats 4000000
namespace Go
open PySem PySem.Spec PyProof.Rows L2 PySem.AutoSeq1
end Go
namespace Ab
open PySem PySem.Spec PyProof.Rows L2 Go
section
variable {K:PySem.W.Frag} {Ex:XK} {Xa:XA} {s:Sv} {M M':AM} {Q:QA} {te:TE} {xs ys:List A} {p:Addr}
theorem e_permQ (q:EE K Ex Xa te s M fun y M3=> ∃M4,M3.Perm M4∧Q y M4):EE K Ex Xa te s M Q:=fun σ H Qc rep k=>
 q σ H Qc rep fun a v M' H' st rm rv ⟨M4,h,q4⟩=>k a v M4 H' (st.trans (Step.perm h)) (rm.perm h) (rv.step (Step.perm h)) q4
end
end Ab
set_option Elab.async false
set_option linter.all false
set_option maxRecDepth 100000
set_option maxHeartbeats 4000000
namespace Ab
open PySem PySem.Spec PyProof.Rows L2 Go
section
variable {K:PySem.W.Frag} {Ex Ex':XK} {Xa:XA} {s:Sv} {M:AM} {Q:QA} {f:ASp} {fx:ASpX} {tr:TA} {ta:TE}
/-- in another order -/
def Pm (Q:QA):QA:=fun a M=> ∃M',M.Perm M'∧Q a M'
theorem Pm.of {Q:QA} {a:A} {M M':AM} (h:M.Perm M') (q:Q a M'):Pm Q a M:=⟨M',h,q⟩
theorem Pm.rfl {Q:QA} {a:A} {M:AM} (q:Q a M):Pm Q a M:=⟨M,.refl _,q⟩
theorem Kc.pm {K:PySem.W.Frag} {M:AM} {H:Hp} {Q:QA} {Qc:VK} (k:Kc K M H Q Qc):Kc K M H (Pm Q) Qc:=fun a v M' H' st rm rv ⟨M2,h,q⟩=>k a v M2 H' (st.trans (Step.perm h)) (rm.perm h) (rv.step (Step.perm h)) q
theorem e_pm {te:TE} (q:EE K Ex Xa te s M (Pm Q)):EE K Ex Xa te s M Q:=fun σ H Qc rep k=>q σ H Qc rep k.pm
theorem e_methP {C:Addr} {m:Str} (h:EE K Ex Xa ta s M fun a M1=> ∃p fs,a= .loc p∧Lk M1 p (.ins C fs)∧fs.lookup m=none∧EA K Ex Xa tr s M1 fun as M2=>f (.loc p :: as) M2 (Pm Q)):EE K Ex Xa (tMeth C m (cs K f) [] Ex' ta tr) s M Q:=e_pm (e_meth h)
theorem e_makeX {C:Addr} {Ex:XK} (h:EA K Ex Xa tr s M fun as M1=> ∀x,fx (.loc x :: as) ((x,.ins C []) :: M1) (fun v M2=>v= .non∧Q (.loc x) M2) Xa):EE K Ex Xa (tMake C (csX K fx) [] Ex tr) s M Q:=fun σ H Qc rep k=>
 h σ H _ rep fun as vs M1 H1 st rm rv q x dx hx hdx ne=>by
  rw [List.append_nil]
  have hx2:upd H1 dx (.own x) x=none:=by rw [upd_ne ne.symm];exact hx
  have sA:Step (ad M1) H1 (ad M1) (upd H1 dx (.own x)):=Step.fresh hdx
  have rmA:RM K M1 (upd H1 dx (.own x)):=rm.newF hdx
  have sB:Step (ad M1) (upd H1 dx (.own x)) (ad ((x,AO.ins C []) :: M1)) (upd (upd H1 dx (.own x)) x (.ins C dx [])):=Step.alloc hx2
  have rmB:RM K ((x,AO.ins C []) :: M1) (upd (upd H1 dx (.own x)) x (.ins C dx [])):=rmA.new hx2 ⟨dx,[],upd_same,by rw [upd_ne ne];exact upd_same,.nil⟩
  refine⟨.loc x :: as,(x,AO.ins C []) :: M1,_,Xa,.cons (.loc x) (rv.step (sA.trans sB)),rmB,q x,fun a v M2 H2 st2 rm2 rv2 ⟨e,q2⟩=> ?_,fun C M3 H3 s3 r3 q3=>rep.ex C M3 H3 ((st.trans (sA.trans sB)).trans s3) r3 q3⟩
  subst e;cases rv2
  exact⟨_root_.rfl,k _ _ M2 H2 ((st.trans (sA.trans sB)).trans st2) rm2 (.loc x) q2⟩
end
end Ab
set_option Elab.async false
set_option linter.all false
set_option maxRecDepth 100000
set_option maxHeartbeats 4000000
namespace Go
open PySem PySem.Spec PyProof.Rows L2 PySem.AutoSeq1
end Go
namespace Ab
open PySem PySem.Spec PyProof.Rows L2 Go
section
variable {K:PySem.W.Frag} {M:AM} {Q:QA} {a b:A} {xs:List A} {p:Addr}
theorem o_neDL (lk:Lk M p (.lst xs)) (h1:(A.lst xs).isD=true) (h2:b.isD=true) (s1:SeqAt.shaped (A.lst xs).toD=true) (s2:SeqAt.shaped b.toD=true) (q:Q (.bl (!eqA (.lst xs) b)) M):O2 K (rNeD K) (.loc p) b M Q:=fun x y H Qc rx ry rm kc=>by
 obtain⟨p',vs,rfl,sq,r⟩:=(LsA.loc lk).of rx rm
 refine w_neD (d:=(A.lst xs).toD) ?_ (ry.dp h2) s1 s2 (kc.go rm (.bl _) q)
 unfold A.toD
 unfold A.isD at h1
 exact .lst sq (RvL.dp h1 r)
theorem toDs_mp (xs:List A):toDs xs=xs.map A.toD:=by
 induction xs with
 | nil=>unfold toDs;rfl
 | cons x xs ih=>unfold toDs;rw [ih];rfl
end
end Ab
set_option Elab.async false
set_option linter.all false
set_option maxRecDepth 100000
set_option maxHeartbeats 4000000
namespace Go
open PySem PySem.Spec PyProof.Rows L2
end Go
namespace Ab
open PySem PySem.Spec PyProof.Rows L2 Go
end Ab
set_option Elab.async false
set_option linter.all false
set_option maxRecDepth 100000
set_option maxHeartbeats 4000000
namespace Ab
open PySem PySem.Spec PyProof.Rows L2 Go
end Ab
namespace Ab
open PySem PySem.Spec PyProof.Rows L2 Go
end Ab
set_option Elab.async false
set_option linter.all false
set_option maxRecDepth 100000
set_option maxHeartbeats 4000000
namespace Go
open PySem PySem.Spec PyProof.Rows L2
section
variable {X:Cx}
def rInTD (K:PySem.W.Frag):R2:=fun x y H Q=> ∃d ds,Dp K H x d∧Dp K H y (.tuple ds)∧SeqAt.shaped d=true∧SeqAt.shaped (.tuple ds)=true∧Q (.bl (ds.any fun z=>PyData.eqv z d)) H
theorem op_inTD (hu:X.A.units+65 < cLine):OpR X (compareOp .In) (rInTD X.K):=by
 intro pins s σ H x y v u Q I rx ry h
 obtain⟨d,ds,hd,he,sd,se,q⟩:=h
 obtain⟨as,r1⟩:=Dp.reads I d x v hd rx
 obtain⟨bs,r2⟩:=Dp.reads I (.tuple ds) y u he ry
 exact SeqAt.in_tuple_reads r2 r1 (SeqAt.canLay_of_shaped se) (SeqAt.canLay_of_shaped sd) (room_in_shaped sd hu) ⟨.bl _,H,I,rfl,q⟩
end
end Go
namespace Ab
open PySem PySem.Spec PyProof.Rows L2 Go
section
variable {K:PySem.W.Frag} {M:AM} {Q:QA} {a:A} {xs:List A}
theorem tupD (xs:List A):(A.tup xs).toD= .tuple (xs.map A.toD):=by unfold A.toD;rw [toDs_mp]
theorem o_inTD (h1:a.isD=true) (h2:(A.tup xs).isD=true) (s1:SeqAt.shaped a.toD=true) (s2:SeqAt.shaped (A.tup xs).toD=true) (q:Q (.bl (xs.any fun z=>eqA z a)) M):O2 K (rInTD K) a (.tup xs) M Q:=fun x y H Qc rx ry rm kc=>by
 have hy:=ry.dp h2
 rw [tupD] at hy s2
 refine⟨a.toD,xs.map A.toD,rx.dp h1,hy,s1,s2,kc.go rm (.bl _) ?_⟩
 rw [List.any_map]
 exact q
end
end Ab
set_option Elab.async false
set_option linter.all false
set_option maxRecDepth 100000
set_option maxHeartbeats 4000000
namespace Ab
open PySem PySem.Spec PyProof.Rows L2 Go
section
variable {K:PySem.W.Frag} {Ex:XK} {Xa:XA} {s:Sv} {M:AM} {fx:ASpX} {ta:TE} {tr:TA} {Nx:Sv→AM→Prop} {Rt:QA} {Bk Ct:Sv→AM→Prop} {C Cl:Addr} {m:Str} {ts:TS} {i:Nat}
/-- a text so many times -/
theorem o_repS {Q:QA} {z:Str} {n:Nat} (h1:z.length*n≤1000) (h2:n≤1000) (q:Q (.str (Txt.mul z (n:Int))) M):O2 K rRepStr (.str z) (.int (n:Int)) M Q:=fun x y H Qc rx ry rm kc=>by
 cases rx;cases ry;exact w_rep_str h1 h2 (kc.go rm (.str _) q)
end
end Ab
set_option Elab.async false
set_option linter.all false
set_option maxRecDepth 100000
set_option maxHeartbeats 4000000
namespace Go
open PySem PySem.Spec PyProof.Rows L2
end Go
namespace Ab
open PySem PySem.Spec PyProof.Rows L2 Go
section
variable {K:PySem.W.Frag} {Ex:XK} {Xa:XA} {s:Sv} {M:AM} {Q:QA} {te ts td:TE}
theorem g_unl {tg:TGs} {x:A} {xs:List A} {n:Nat} {QS:Sv→Prop} (hx:LsA M x xs) (hn:xs.length=n) (h:EGs K Ex Xa tg xs s M QS):EG K Ex Xa (gUnl K n tg) x s M QS:=fun v σ H Qc rv rep k=>by
 obtain⟨p,vs,rfl,hs,r⟩:=hx.of rv rep.rm
 exact⟨p,vs,rfl,hs,by rw [← r.len];exact hn,h vs σ H Qc r rep k⟩
end
end Ab
namespace Ab
open PySem PySem.Spec PyProof.Rows L2 Go
section
variable {K:PySem.W.Frag} {Ex:XK} {Xa:XA} {s:Sv} {M M':AM} {Q:QA} {te:TE}
theorem Lk.app {p:Addr} {o:AO} {M F:AM} (h:Lk M p o):Lk (M ++ F) p o:=by
 induction h with
 | here=>exact .here
 | there _ ih=>exact .there ih
theorem Sub.app (M F:AM):Sub M (M ++ F):=fun _ _ h=>h.app
end
end Ab
set_option Elab.async false
set_option linter.all false
set_option maxRecDepth 100000
set_option maxHeartbeats 4000000
namespace Ab
open PySem PySem.Spec PyProof.Rows L2 Go
end Ab
set_option Elab.async false
set_option linter.all false
set_option maxRecDepth 100000
set_option maxHeartbeats 4000000
namespace Go
open PySem PySem.Spec PyProof.Rows L2
end Go
namespace Ab
open PySem PySem.Spec PyProof.Rows L2 Go
end Ab
set_option Elab.async false
set_option linter.all false
set_option maxRecDepth 100000
set_option maxHeartbeats 4000000
namespace Go
open PySem PySem.W PySem.Calls PyProof.Rows PyProof.V PySem.Spec L2
mutual
inductive NkR (K:PySem.W.Frag) (H:Hp):NestedKey→V→Prop
 | none:NkR K H .none .non
 | int (i:Int):NkR K H (.num i) (.int i)
 | text (x:Str):NkR K H (.text x) (.str x)
 | tup {p:Addr} {vs:List V} {ks:List NestedKey} :SqT K H p vs→NkRs K H ks vs→NkR K H (.tup ks) (.ref p)
inductive NkRs (K:PySem.W.Frag) (H:Hp):List NestedKey→List V→Prop
 | nil:NkRs K H [] []
 | cons {k:NestedKey} {v:V} {ks:List NestedKey} {vs:List V} :NkR K H k v→NkRs K H ks vs→NkRs K H (k :: ks) (v :: vs)
end
section
variable {X:Cx} {pins:List (Addr×Obj)} {σ:L2.St} {H:Hp} {s:Shared}
mutual
theorem NkR.is (I:Inv X pins σ H s):∀ {k:NestedKey} {v:V} {u:Value},NkR X.K H k v→RelV v u→NestedIs s.heap k u
 | _,_,_,.none,r=>by cases r;exact .none
 | _,_,_,.int i,r=>by
  obtain⟨t,e⟩:=(show∃t,_=Value.int i t from r)
  rw [e];exact .int i t
 | _,_,_,.text x,r=>by
  obtain⟨t,e⟩:=(show∃t,_=Value.str x t from r)
  rw [e];exact .text x t
 | _,_,_,.tup h t,r=>by
  cases r
  obtain⟨its,rv,⟨o,e,c,n,d⟩,_⟩:=I.tuple h
  exact .tup e c d (NkRs.is I t (by simpa using rv))
theorem NkRs.is (I:Inv X pins σ H s):∀ {ks:List NestedKey} {vs:List V} {us:List Value},NkRs X.K H ks vs→Vals vs us→NestedAll s.heap ks us
 | _,_,_,.nil,r=>by cases r;exact .nil
 | _,_,_,.cons h t,r=>by cases r with | cons r1 r2=>exact .cons (NkR.is I h r1) (NkRs.is I t r2)
end
abbrev KX:=List (NestedKey×Addr×V)
def KXr (ks:KX) (xs:List (NestedKey×Addr×Value)):Prop:=Paired (fun(p:NestedKey×Addr×V) (q:NestedKey×Addr×Value)=>p.1=q.1∧p.2.1=q.2.1∧RelV p.2.2 q.2.2) ks xs
def atN (ks:KX) (k:NestedKey):Option V:=(ks.find? fun x=>decide (x.1=k)).map (·.2.2)
def putN (ks:KX) (k:NestedKey) (b:Addr) (v:V):KX:=if(ks.any fun x=>decide (x.1=k))=true then ks.map (fun x=>if x.1=k then(x.1,x.2.1,v) else x) else ks ++ [(k,b,v)]
theorem KXr.at {ks:KX} {xs:List (NestedKey×Addr×Value)} (h:KXr ks xs) (k:NestedKey):RelO (atN ks k) ((atKey xs k).map (·.2)):=by
 unfold KXr at h
 induction h with
 | nil=>exact trivial
 | @cons p q ps qs r t ih=>
  obtain⟨a,b,v⟩:=p
  obtain⟨a',b',v'⟩:=q
  obtain⟨e1,e2,r⟩:=r
  cases e1
  by_cases c:a=k
  ·unfold atN atKey
   rw [List.find?_cons_of_pos (by simpa using c),List.find?_cons_of_pos (by simpa using c)]
   exact r
  ·unfold atN atKey at ih ⊢
   rw [List.find?_cons_of_neg (by simpa using c),List.find?_cons_of_neg (by simpa using c)]
   exact ih
theorem KXr.any {ks:KX} {xs:List (NestedKey×Addr×Value)} (h:KXr ks xs) (k:NestedKey):(ks.any fun x=>decide (x.1=k))=(atKey xs k).isSome:=by
 unfold KXr at h
 induction h with
 | nil=>rfl
 | @cons p q ps qs r t ih=>
  obtain⟨a,b,v⟩:=p
  obtain⟨a',b',v'⟩:=q
  obtain⟨e1,e2,r⟩:=r
  cases e1
  rw [List.any_cons,ih]
  by_cases c:a=k
  ·unfold atKey
   rw [List.find?_cons_of_pos (by simpa using c)]
   simp [c]
  ·unfold atKey
   rw [List.find?_cons_of_neg (by simpa using c)]
   simp [c]
theorem KXr.put {ks:KX} {xs:List (NestedKey×Addr×Value)} (h:KXr ks xs) (k:NestedKey) (b:Addr) {v:V} {u:Value} (rv:RelV v u):KXr (putN ks k b v) (storedH xs k b u):=by
 have e:=h.any k
 unfold putN storedH
 rw [e]
 unfold KXr at h ⊢
 split
 ·next hh=>
  clear e hh
  induction h with
  | nil=>exact .nil
  | @cons p q ps qs r t ih=>
   refine .cons ?_ ih
   obtain⟨e1,e2,r⟩:=r
   show(if p.1=k then(p.1,p.2.1,v) else p).1=(putAt k u q).1∧(if p.1=k then(p.1,p.2.1,v) else p).2.1=(putAt k u q).2.1∧RelV (if p.1=k then(p.1,p.2.1,v) else p).2.2 (putAt k u q).2.2
   unfold putAt
   by_cases c:p.1=k
   ·rw [if_pos c,if_pos (e1 ▸ c)];exact⟨e1,e2,rv⟩
   ·rw [if_neg c,if_neg (fun e=>c (e1.trans e))];exact⟨e1,e2,r⟩
 ·next hh=>
  clear e hh
  induction h with
  | nil=>exact .cons ⟨rfl,rfl,rv⟩ .nil
  | cons r t ih=>exact .cons r ih
end
end Go
namespace Ab
open PySem PySem.Spec PyProof.Rows L2 Go
section
variable {K:PySem.W.Frag} {Ex:XK} {Xa:XA} {s:Sv} {M M':AM} {Q:QA} {D:List Addr} {H:Hp} {P:Program} {w:World} {td ty tx tv:TE}
def valN (kvs:List (NestedKey×A)) (k:NestedKey):Option A:=(kvs.find? fun x=>decide (x.1=k)).map (·.2)
def putNA (kvs:List (NestedKey×A)) (k:NestedKey) (v:A):List (NestedKey×A):=if(kvs.any fun x=>decide (x.1=k))=true then kvs.map (fun x=>if x.1=k then(x.1,v) else x) else kvs ++ [(k,v)]
theorem KdR.at {kvs:List (NestedKey×A)} {ks:KX} (h:KdR K D H kvs ks) (k:NestedKey):(valN kvs k=none∧atN ks k=none)∨ ∃a v,valN kvs k=some a∧atN ks k=some v∧Rv K D H a v:=by
 unfold KdR at h
 induction h with
 | nil=>exact .inl ⟨rfl,rfl⟩
 | @cons p q ps qs r t ih=>
  obtain⟨e1,_,r⟩:=r
  by_cases c:p.1=k
  ·refine .inr ⟨p.2,q.2.2,?_,?_,r⟩
   ·unfold valN;rw [List.find?_cons_of_pos (by simpa using c)];rfl
   ·unfold atN;rw [List.find?_cons_of_pos (by simpa using e1 ▸ c)];rfl
  ·have c2: ¬ q.1=k:=fun e=>c (e1.trans e)
   unfold valN atN at ih ⊢
   rw [List.find?_cons_of_neg (by simpa using c),List.find?_cons_of_neg (by simpa using c2)]
   exact ih
theorem KdR.any {kvs:List (NestedKey×A)} {ks:KX} (h:KdR K D H kvs ks) (k:NestedKey):(kvs.any fun x=>decide (x.1=k))=ks.any fun x=>decide (x.1=k):=by
 unfold KdR at h
 induction h with
 | nil=>rfl
 | cons r t ih=>rw [List.any_cons,List.any_cons,ih,r.1]
theorem KdR.put {kvs:List (NestedKey×A)} {ks:KX} (h:KdR K D H kvs ks) (k:NestedKey) {b:Addr} {a:A} {v:V} (rb:Rv K D H (nkA k) (.ref b)) (rv:Rv K D H a v):KdR K D H (putNA kvs k a) (putN ks k b v):=by
 unfold putNA putN
 rw [h.any k]
 unfold KdR at h ⊢
 split
 ·next hh=>
  clear hh
  induction h with
  | nil=>exact .nil
  | @cons p q ps qs r t ih=>
   refine .cons ?_ ih
   obtain⟨e1,r1,r2⟩:=r
   show(if p.1=k then(p.1,a) else p).1=(if q.1=k then(q.1,q.2.1,v) else q).1∧Rv K D H (nkA (if p.1=k then(p.1,a) else p).1) (.ref (if q.1=k then(q.1,q.2.1,v) else q).2.1)∧Rv K D H (if p.1=k then(p.1,a) else p).2 (if q.1=k then(q.1,q.2.1,v) else q).2.2
   by_cases c:p.1=k
   ·rw [if_pos c,if_pos (e1 ▸ c)];exact⟨e1,r1,rv⟩
   ·rw [if_neg c,if_neg (fun e=>c (e1.trans e))];exact⟨e1,r1,r2⟩
 ·next hh=>
  clear hh
  induction h with
  | nil=>exact .cons ⟨rfl,rb,rv⟩ .nil
  | cons r t ih=>exact .cons r ih
theorem KdR.len {kvs:List (NestedKey×A)} {ks:KX} (h:KdR K D H kvs ks):kvs.length=ks.length:=Paired.length h
end
end Ab
set_option Elab.async false
set_option linter.all false
set_option maxRecDepth 100000
set_option maxHeartbeats 4000000
namespace Go
open PySem PySem.Spec PyProof.Rows L2
end Go
namespace Ab
open PySem PySem.Spec PyProof.Rows L2 Go
end Ab
set_option Elab.async false
set_option linter.all false
set_option maxRecDepth 100000
set_option maxHeartbeats 4000000
namespace Go
open PySem PySem.Spec PyProof.Rows L2
end Go
set_option Elab.async false
set_option linter.all false
set_option maxRecDepth 100000
set_option maxHeartbeats 4000000
namespace Ab
open PySem PySem.Spec PyProof.Rows L2 Go
end Ab
namespace Ab
open PySem PySem.Spec PyProof.Rows L2 Go
end Ab
set_option Elab.async false
set_option linter.all false
set_option maxRecDepth 100000
set_option maxHeartbeats 4000000
namespace Go
open PySem PySem.Spec PyProof.Rows L2
end Go
namespace Ab
open PySem PySem.Spec PyProof.Rows L2 Go
end Ab
namespace Go
open PySem PySem.Spec PyProof.Rows L2
end Go
namespace Ab
open PySem PySem.Spec PyProof.Rows L2 Go
end Ab
set_option Elab.async false
set_option linter.all false
set_option maxRecDepth 100000
set_option maxHeartbeats 4000000
namespace Go
open PySem PySem.Spec PyProof.Rows L2
end Go
namespace PySem.W
open PySem PySem.Spec PySem.Calls PyProof.Rows
end PySem.W
namespace Go
open PySem PySem.Spec PyProof.Rows L2
end Go
namespace Go
open PySem PySem.Spec PyProof.Rows L2
end Go
set_option Elab.async false
set_option linter.all false
set_option maxRecDepth 100000
set_option maxHeartbeats 4000000
namespace Go
open PySem PySem.Spec PyProof.Rows L2
end Go
namespace Ab
open PySem PySem.Spec PyProof.Rows L2 Go
def encI (i:Int):Nat:=if 0≤i then 2*i.toNat else 2*(-i).toNat+1
def nA (a:Addr):Nat:=a
def bsN (K:PySem.W.Frag):Nat:=nA (He.ga K "BadWeb")+nA (He.ga K "NoDeed")+nA (He.ga K "BadBooks")+nA (He.ga K "NoText")+nA (He.ga K "NoRow")+nA (He.ga K "NoNear")+nA (He.ga K "SumError")+1
def cdN (K:PySem.W.Frag) (i:Int):Addr:=(bsN K+encI i:Nat)
theorem nA_cdN (K:PySem.W.Frag) (i:Int):nA (cdN K i)=bsN K+encI i:=rfl
def plC (K:PySem.W.Frag) (C:Addr):Prop:=nA C < bsN K
theorem cdN_no {K:PySem.W.Frag} {i:Int} (h:plC K (cdN K i)):False:=by
 unfold plC at h;rw [nA_cdN] at h;omega
def EY (K:PySem.W.Frag) (E:XK):XK:=fun cls d H=> ∀C,cls= .ref C→d=none→(plC K C→E (.ref C) none H)∧ ∀i,C=cdN K i→ ∀dx,H dx=none→E (.ref (He.ga K "NoNear")) (some dx) (upd H dx (.xd [("at",.int i)]))
section
variable {K:PySem.W.Frag} {Ex E:XK} {Xa:XA} {s:Sv} {M M1:AM} {H:Hp} {Q:QA} {fx:ASpX} {ta:TE} {tr:TA} {vs:List V} {Qc:VK} {N:List Str} {t:TS} {C Cl:Addr} {m:Str} {Nx:Sv→AM→Prop} {Rt:QA} {Bk Ct:Sv→AM→Prop} {i:Nat}
theorem EY.pl {C:Addr} {H:Hp} (h:EY K E (.ref C) none H) (p:plC K C):E (.ref C) none H:=(h C rfl rfl).1 p
end
abbrev xdO (k:Int):AO:= .any fun o=>o= .xd [("at",.int k)]
section
variable {K:PySem.W.Frag} {Ex:XK} {Xa:XA} {s:Sv} {M:AM} {fx:ASpX} {tr:TA} {Nx:Sv→AM→Prop} {Rt:QA} {Bk Ct:Sv→AM→Prop} {C:Addr} {i:Nat} {ts:Addr→Value→Option Addr→TS}
/-- what is due of each error that such a def may raise -/
def YH (K:PySem.W.Frag) (C:Addr) (P:Addr→Option Addr→AM→Prop):XA:=fun C' M2=>(plC K C'→PySem.W.exmOne K (.ref C') (.ref C)=some true∧P C' none M2)∧ ∀k,C'=cdN K k→PySem.W.exmOne K (.ref (He.ga K "NoNear")) (.ref C)=some true∧ ∀dx,P (He.ga K "NoNear") (some dx) ((dx,xdO k) :: M2)
theorem YH.plain {P:Addr→Option Addr→AM→Prop} {C':Addr} (p:plC K C') (e:PySem.W.exmOne K (.ref C') (.ref C)=some true) (h:P C' none M):YH K C P C' M:=⟨fun _=>⟨e,h⟩,fun k z=>by subst z;exact(cdN_no p).elim⟩
end
end Ab
set_option Elab.async false
set_option linter.all false
set_option maxRecDepth 100000
set_option maxHeartbeats 4000000
namespace Go
open PySem PySem.Spec PyProof.Rows L2
open PySem.Builtin PySem.Builtin.Str PySem.Builtin.Int
def DigK (K:PySem.W.Frag):Prop:=PySem.W.nsOkIn K cStatics=true∧PySem.W.nsIn K cStatics "sys.int_max_str_digits" =some none
def digB (K:PySem.W.Frag):Bool:=PySem.W.nsOkIn K cStatics && (match PySem.W.nsIn K cStatics "sys.int_max_str_digits" with | some none=>true | _=>false)
theorem digB_ok {K:PySem.W.Frag} (h:digB K=true):DigK K:=by
 unfold digB at h
 rw [Bool.and_eq_true] at h
 refine⟨h.1,?_⟩
 have h2:=h.2
 split at h2
 ·assumption
 ·cases h2
theorem DigK.no {K:PySem.W.Frag} {h:Heap} (d:DigK K) (X:K.In h):h.NoDigits:=⟨h.nsMap cStatics,.of_isNs (PySem.W.isNs_of_in X d.1),PySem.W.nsMap_none_of_in X d.1 d.2⟩
section
variable {prog:Program} {w:World} {A:Around} {E:Value→Shared→Prop} {s:Shared} {a:Int} {t:Tok}
theorem int_repr_ok {Q:Value→Shared→Prop} (hn:s.heap.NoDigits) (hlt:a.natAbs < 10^4300) (h:Q (.str (toString a) s.toks) { s with toks:=s.toks+1 }) :
  wpAny (model prog w) A (call (.builtin "int.__repr__") [.int a t]) Q E s:=by
 refine wpAny_call_entry F.slot_int_repr (typeIs_int s a t) F.entry_int_repr ?_ (F.args_int_repr_1 _)
 unfold Builtin.«int.__repr__»
 show wpAny _ _ (do let r ← Builtin.overDigitLimit? a;_) _ _ s
 refine wpAny_bind (overDigitLimit_any hn (fun _=> ?_) (fun hge=>absurd hlt (Nat.not_lt.mpr hge)))
 exact wpAny_bind (wpAny_mkStr (wpAny_pure ⟨_,rfl,h⟩) (int_text_fits10 hlt))
theorem strOf_int_ok {Q:Value→Shared→Prop} (hn:s.heap.NoDigits) (hlt:a.natAbs < 10^4300) (h:Q (.str (toString a) s.toks) { s with toks:=s.toks+1 }):wpAny (model prog w) A (PySem.Builtin.Str.strOf (.int a t)) Q E s:=by
 unfold PySem.Builtin.Str.strOf
 rw [show isExactStr (.int a t)=false from rfl]
 try (have hv: [Value.int a t].any Value.onHeap=false:=rfl;simp only [cRoomFor,hv,Bool.false_eq_true,if_false,pure_bind])
 refine wpAny_bind (m:=callSpecial? (.int a t) (Str.ofString "__str__")) (wpAny_callSpecial?_slot (name:=Str.ofString "__str__") (typeIs_int s a t) F.slot_int_str ?_)
 refine wpAny_call_entry F.slot_int_str (typeIs_int s a t) entry_object_str ?_ (args_object_str _)
 unfold Builtin.«object.__str__»
 refine wpAny_bind (m:=slotArgs "__str__" 0 _) (wpAny_pure ?_)
 try (have hv: [Value.int a t].any Value.onHeap=false:=rfl;simp only [cRoomFor,hv,Bool.false_eq_true,if_false,pure_bind])
 refine wpAny_bind (m:=callSpecialIfBound? (.int a t) (Str.ofString "__repr__")) (wpAny_callSpecialIfBound?_slot (name:=Str.ofString "__repr__") (typeIs_int s a t) F.slot_int_repr
  (int_repr_ok hn hlt ?_))
 exact wpAny_pure ⟨_,rfl,wpAny_pure h⟩
theorem str_of_int_ok {Q:Value→Shared→Prop} (hn:s.heap.NoDigits) (hlt:a.natAbs < 10^4300) (h:Q (.str (toString a) s.toks) { s with toks:=s.toks+1 }):wpAny (model prog w) A (call (.type "str") [.int a t]) Q E s:=
 callType_new F.called_str (by decide) (F.typeCall_str_1 _) (F.newCall_str_1 _) (fun obj=>F.args_object_init_2 obj _) F.entry_str_new
  (meets_str_new (S:=fun A R s=>s.heap.NoDigits∧R (.ok (.ret (.str (toString a) s.toks))) { s with toks:=s.toks+1 }) fun _ _ _ _ _ hq=>strOf_int_ok hq.1 hlt hq.2)
  ⟨hn,typeIs_str _ _ _,h⟩
theorem code_repr_ok {R:Result→Shared→Prop} (hn:s.heap.NoDigits) (hlt:a.natAbs < 10^4300) (h:R (.ok (.ret (.str (toString a) s.toks))) { s with toks:=s.toks+1 }) :
  codeAny (model prog w) A (.builtin "int.__repr__" ⟨[.int a t],[]⟩) R s:=by
 refine codeAny_builtin entry_int_repr ?_
 rw [Around.under_plainId plain_int_repr _]
 unfold Builtin.«int.__repr__»
 show wpAny _ _ (do let r ← Builtin.overDigitLimit? a;_) _ _ s
 refine wpAny_bind (overDigitLimit_any hn (fun _=> ?_) (fun hge=>absurd hlt (Nat.not_lt.mpr hge)))
 exact wpAny_bind (wpAny_mkStr (wpAny_pure h) (int_text_fits10 hlt))
theorem formatField_ok {Q:Value→Shared→Prop} (hn:s.heap.NoDigits) (hlt:a.natAbs < 10^4300) (h:Q (.str (toString a) (s.toks+1)) { s with toks:=s.toks+1+1 }):wpAny (model prog w) A (formatField (.int a t) Str.empty) Q E s:=by
 show wpAny _ _ (holding [.int a t] (pyFormat (.int a t) Str.empty)) Q E s
 refine wpAny_holding ?_
 unfold pyFormat
 refine wpAny_bind (wpAny_mkStr ?_ (by decide))
 refine wpAny_bind (m:=callSpecial? (.int a t) (Str.ofString "__format__") [.str Str.empty s.toks]) (wpAny_callSpecial?_slot (name:=Str.ofString "__format__") (typeIs_int _ a t) slot_int_format ?_)
 refine wpAny_call (codeAny_call_builtin slot_int_format.plain entry_int_format (slot_int_format.check _ _ _ _ _ _ _ _ (typeIs_int _ a t) (args_int_format _ _) ?_))
 show wpAny _ _ (do let _kind ← typeNameOf (.str Str.empty s.toks);(do rule "int.format.empty";again (.builtin "int.__repr__" ⟨[.int a t],[]⟩))) _ _ _
 refine wpAny_bind (wpAny_typeNameOf (T:= "str") (typeIs_str _ _ _) (by decide) fun _=>wpAny_bind (wpAny_rule (wpAny_pure ⟨plainId_quiet plain_int_repr _,code_repr_ok hn hlt ?_⟩)))
 show wpAny _ _ (do if ← isInstance (.str (toString a) (s.toks+1)) (.type "str") then return(.str (toString a) (s.toks+1)) else _) Q E _
 exact wpAny_bind (wpAny_isInstance (typeIs_str _ _ _) isSubtype_str_str (wpAny_pure h))
end
/-- the text of a number -/
abbrev sI (i:Int):Str:=(toString i:String)
section
variable {X:Cx} {o e:Expr} {to te:TE}
/-- str of a text or a number -/
def rStrU (K:PySem.W.Frag):List V→Hp→VK→Prop:=fun xs H Q=>(∃a,xs= [.str a]∧Q (.str a) H)∨ ∃i:Int,xs= [.int i]∧DigK K∧i.natAbs < 10^4300∧Q (.str (sI i)) H
theorem call_strU:CallR X (.type "str") (rStrU X.K):=by
 intro pins s σ H xs us Q I r h
 rcases h with⟨a,rfl,q⟩ | ⟨i,rfl,hd,hz,q⟩
 ·exact SkE.call_str_str pins s σ H _ us Q I r ⟨a,rfl,q⟩
 ·obtain⟨u,rfl,t,rfl⟩:=vals1 r
  exact str_of_int_ok (hd.no I.kIn) hz ⟨.str _,H,I.tok _,⟨_,rfl⟩,q⟩
/-- {x} of an f-string -/
def tFmtU (K:PySem.W.Frag) (te:TE):TE:=fun σ H Q=>te σ H fun x H1=>(∃y:Str,x= .str y∧y.length≤sizeLine∧Q (.str y) H1)∨ ∃i:Int,x= .int i∧DigK K∧i.natAbs < 10^4300∧Q (.str (sI i)) H1
theorem pe_fmtU {pos:Pos} (he:PE X e te):PE X (.FormattedValue e (-1) none pos) (tFmtU X.K te):=by
 refine⟨fun pins s σ H Q I h=> ?_⟩
 refine wpAny_FormattedValue_plain (thn (he.run pins s σ H _ I h) fun v s1 hv=> ?_)
 obtain⟨x,H1,I1,r1,q⟩:=hv
 rcases q with⟨y,rfl,hz,q⟩ | ⟨i,rfl,hd,hz,q⟩
 ·obtain⟨t,rfl⟩:=r1
  exact PySem.wpAny_formatField_str ⟨.str y,H1,I1,⟨t,rfl⟩,q⟩ ⟨.str y,H1,I1.tok _,⟨_,rfl⟩,q⟩ hz
 ·obtain⟨t,rfl⟩:=r1
  exact formatField_ok (hd.no I1.kIn) hz ⟨.str (sI i),H1,I1.tok _,⟨_,rfl⟩,q⟩
/-- an f-string of several parts -/
def tFS (ts:List TE):TE:=fun σ H Q=>tJs ts Str.empty σ H fun out H1=>Q (.str out) H1
theorem pe_fs {v1 v2:Expr} {rest:List Expr} {ts:List TE} {pos:Pos} (h:PJ X (v1 :: v2 :: rest) ts):PE X (.JoinedStr (v1 :: v2 :: rest) pos) (tFS ts):=pe_joined h
/-- s.startswith(t), s.endswith(t), s.partition(t) -/
abbrev tStarts (to te:TE):TE:=tM1 (fun x xs H Q=> ∃a b,x= .str a∧xs= [.str b]∧Q (.bl (Txt.startswith a b)) H) to te
abbrev tEnds (to te:TE):TE:=tM1 (fun x xs H Q=> ∃a b,x= .str a∧xs= [.str b]∧Q (.bl (Txt.endswith a b)) H) to te
theorem pe_starts {apos pos:Pos} (ho:PE X o to) (he:PE X e te) (hs:starEach [e] X.env= [(false,eval e X.env)]:=by rfl) (hbase:attributeBase o "startswith" X.env (eval o X.env)=eval o X.env:=by rfl) (hline:(apos.endLine == pos.line)=true:=by rfl) :
  PE X (.Call (.Attribute o "startswith" apos) [e] [] pos) (tStarts to te):=pe_m1 F.slot_str_startswith F.type_str_startswith mt_startswith ho he hs hbase hline
theorem pe_ends {apos pos:Pos} (ho:PE X o to) (he:PE X e te) (hs:starEach [e] X.env= [(false,eval e X.env)]:=by rfl) (hbase:attributeBase o "endswith" X.env (eval o X.env)=eval o X.env:=by rfl) (hline:(apos.endLine == pos.line)=true:=by rfl) :
  PE X (.Call (.Attribute o "endswith" apos) [e] [] pos) (tEnds to te):=pe_m1 F.slot_str_endswith F.type_str_endswith mt_endswith ho he hs hbase hline
end
def KdW (K:PySem.W.Frag) (w:World) (d:Addr):Prop:= ∃es n,KDict K w d es n
def rItemK (K:PySem.W.Frag) (d:Addr):V→V→Hp→VK→Prop:=fun x y H Q=> ∃(z:Str) (u0:Value) (v0:V),x= .ref d∧y= .str z∧PySem.W.nsIn K d z=some (some u0)∧RelV v0 u0∧Q v0 H
end Go
namespace Ab
open PySem PySem.Spec PyProof.Rows L2 Go
section
variable {K:PySem.W.Frag} {Ex:XK} {Xa:XA} {s:Sv} {M:AM} {Q:QA} {te to:TE} {ts:List TE}
theorem l_strU {z:Str} (q:Q (.str z) M):OL K (rStrU K) [.str z] M Q:=fun vs H Qc rv rm kc=>by
 cases rv with
 | cons r t=>cases t;cases r;exact .inl ⟨z,rfl,kc.go rm (.str _) q⟩
theorem l_strUI {i:Int} (d:DigK K) (hi:i.natAbs < 10^4300) (q:Q (.str (sI i)) M):OL K (rStrU K) [.int i] M Q:=fun vs H Qc rv rm kc=>by
 cases rv with
 | cons r t=>cases t;cases r;exact .inr ⟨i,rfl,d,hi,kc.go rm (.str _) q⟩
theorem e_fmtU (h:EE K Ex Xa te s M fun a M1=> ∃y,a= .str y∧y.length≤sizeLine∧Q (.str y) M1):EE K Ex Xa (tFmtU K te) s M Q:=fun σ H Qc rep k=>
 h σ H _ rep fun a v M1 H1 st rm rv ⟨y,e,hl,q⟩=>by
  subst e;cases rv
  exact .inl ⟨y,rfl,hl,(k.step st).go rm (.str _) q⟩
theorem e_fmtI (d:DigK K) (h:EE K Ex Xa te s M fun a M1=> ∃i:Int,a= .int i∧i.natAbs < 10^4300∧Q (.str (sI i)) M1):EE K Ex Xa (tFmtU K te) s M Q:=fun σ H Qc rep k=>
 h σ H _ rep fun a v M1 H1 st rm rv ⟨i,e,hl,q⟩=>by
  subst e;cases rv
  exact .inr ⟨i,rfl,d,hl,(k.step st).go rm (.str _) q⟩
/-- the parts of an f-string -/
def EJs (K:PySem.W.Frag) (Ex:XK) (Xa:XA):List TE→Str→Sv→AM→(Str→AM→Prop)→Prop
 | [],acc,_,M,Q=>Q acc M
 | t :: ts,acc,s,M,Q=>EE K Ex Xa t s M fun a M1=> ∃y:Str,a= .str y∧(acc ++ y).length≤sizeLine∧EJs K Ex Xa ts (acc ++ y) s M1 Q
theorem js_ok:∀ {ts:List TE} {acc:Str} {M:AM} {Q:Str→AM→Prop} {σ:L2.St} {H:Hp} {R:Str→Hp→Prop},EJs K Ex Xa ts acc s M Q→Rep K Ex Xa s M σ H→(∀out M1 H1,Step (ad M) H (ad M1) H1→RM K M1 H1→Q out M1→R out H1)→tJs ts acc σ H R
 | [],acc,M,Q,σ,H,R,h,rep,k=>k acc M H (Step.refl _ _) rep.rm h
 | t :: ts,acc,M,Q,σ,H,R,h,rep,k=>by
  refine h σ H _ rep fun a v M1 H1 st rm rv ⟨y,e,hl,q⟩=> ?_
  subst e;cases rv
  exact⟨y,rfl,hl,js_ok q (rep.step st rm) fun out M2 H2 st2 rm2 q2=>k out M2 H2 (st.trans st2) rm2 q2⟩
theorem e_fs (h:EJs K Ex Xa ts Str.empty s M fun out M1=>Q (.str out) M1):EE K Ex Xa (tFS ts) s M Q:=fun σ H Qc rep k=>
 js_ok h rep fun out M1 H1 st rm q=>(k.step st).go rm (.str _) q
theorem j_nil {acc:Str} {Q:Str→AM→Prop} (q:Q acc M):EJs K Ex Xa [] acc s M Q:=q
theorem j_cons {t:TE} {acc:Str} {Q:Str→AM→Prop} (h:EE K Ex Xa t s M fun a M1=> ∃y:Str,a= .str y∧(acc ++ y).length≤sizeLine∧EJs K Ex Xa ts (acc ++ y) s M1 Q):EJs K Ex Xa (t :: ts) acc s M Q:=h
theorem e_starts (h:EE K Ex Xa to s M fun a M1=> ∃z,a= .str z∧EE K Ex Xa te s M1 fun b M2=> ∃y,b= .str y∧Q (.bl (Txt.startswith z y)) M2):EE K Ex Xa (tStarts to te) s M Q:=fun σ H Qc rep k=>
 h σ H _ rep fun a v M1 H1 st rm rv ⟨z,e,hb⟩=>by
  subst e;cases rv
  refine⟨⟨z,rfl⟩,hb σ H1 _ (rep.step st rm) fun b w M2 H2 st2 rm2 rw2 ⟨y,e2,q⟩=> ?_⟩
  subst e2;cases rw2
  exact⟨z,y,rfl,rfl,(k.step (st.trans st2)).go rm2 (.bl _) q⟩
theorem e_ends (h:EE K Ex Xa to s M fun a M1=> ∃z,a= .str z∧EE K Ex Xa te s M1 fun b M2=> ∃y,b= .str y∧Q (.bl (Txt.endswith z y)) M2):EE K Ex Xa (tEnds to te) s M Q:=fun σ H Qc rep k=>
 h σ H _ rep fun a v M1 H1 st rm rv ⟨z,e,hb⟩=>by
  subst e;cases rv
  refine⟨⟨z,rfl⟩,hb σ H1 _ (rep.step st rm) fun b w M2 H2 st2 rm2 rw2 ⟨y,e2,q⟩=> ?_⟩
  subst e2;cases rw2
  exact⟨z,y,rfl,rfl,(k.step (st.trans st2)).go rm2 (.bl _) q⟩
theorem o_itemK {d:Addr} {z v:Str} (h:∃u0,PySem.W.nsIn K d z=some (some u0)∧RelV (.str v) u0) (q:Q (.str v) M):O2 K (rItemK K d) (.loc d) (.str z) M Q:=fun x y H Qc rx ry rm kc=>by
 obtain⟨u0,e,r⟩:=h
 cases rx;cases ry
 exact⟨z,u0,_,rfl,rfl,e,r,kc.go rm (.str _) q⟩
end
end Ab
set_option Elab.async false
set_option linter.all false
set_option maxRecDepth 100000
set_option maxHeartbeats 4000000
namespace Go
open PySem PySem.Spec PyProof.Rows L2
open PySem.Builtin PySem.Builtin.Str PySem.Builtin.Int
open PySem.NumText
theorem wpAny_intMax {M:Model} {A:Around} {E:Value→Shared→Prop} {s:Shared} {Q:Nat→Shared→Prop} (hn:s.heap.NoDigits) (h:Q 4300 s):wpAny M A Builtin.intMaxStrDigits Q E s:=by
 obtain⟨mc,hns,hnone⟩:=hn
 unfold Builtin.intMaxStrDigits
 refine wpAny_bind (wpAny_nsGet hns ?_)
 rw [hnone]
 exact wpAny_pure h
theorem wp_text4 {M:Model} {A:Around} {E:Value→Shared→Prop} {s:Shared} {Q:Value→Shared→Prop} {v:Value} {text:List Nat} {n:Int} (hn:s.heap.NoDigits)
  (hr:(int_private% "readNumeral") (if(text.takeWhile (· != 0)).length≤640 then 0 else 4300) 10 (text.takeWhile (· != 0))=(int_private% "Numeral.value") n)
  (ha:((text.takeWhile (· != 0)).length == text.length)=true) (h:Q (.int n s.toks) { s with toks:=s.toks+1 }) :
  wpAny M A ((int_private% "intFromText") v text 10) Q E s:=by
 by_cases hs:(text.takeWhile (· != 0)).length≤640
 ·rw [if_pos hs] at hr
  exact PySem.W.KIN.wp_text hs hr ha h
 ·rw [if_neg hs] at hr
  obtain⟨hp,g,d,tk,os⟩:=s
  iterate 3 wp_step
  refine wpAny_intMax hn ?_
  dsimp only
  rw [hr]
  dsimp only
  repeat (any_goals (first
   | assumption
   | (with_reducible refine wpAny_ite_true (decide_eq_true ha) ?_)
   | wp_step))
structure Hid (p:Prop):Prop where
 out:p
/-- int(text), up to 4300 signs -/
theorem int_new_ok {prog:Program} {w:World} {x:PySem.Str} {u:Tok} {n:Int} (hl:x.length≤4300) (hn:PySem.intText? x=some n) :
  Meets (Builtin.«int.__new__» ⟨[.type "int",.str x u],[]⟩) (fun A R s=>s.heap.NoDigits∧R (.ok (.ret (.int n s.toks))) { s with toks:=s.toks+1 }):=
 .of_wp fun _ _ _ R s hq=>by
  obtain⟨hp,g,d,tk,os⟩:=s
  obtain⟨hd,h⟩:=hq
  have f1:=F.conv_sub_int
  have f2:=F.madeHere_int
  have f3:=PySem.W.KIN.str_int
  have f4:=PySem.W.KIN.str_idx
  have f5:=PySem.W.KIN.str_trunc
  have f6:typeOf (.str x u)=pure (.type "str"):=rfl
  have hr:(int_private% "readNumeral") (if(numSeenOf x).length≤640 then 0 else 4300) 10 (numSeenOf x)=(int_private% "Numeral.value") n∧((numSeenOf x).length == (numTextOf x).length)=true:=by
   rcases readAny x (Nat.le_trans hl (by decide)) with⟨m,h1,h2,h3⟩ | ⟨h1,_⟩
   ·rw [hn] at h1
    injection h1 with h1
    subst h1
    exact⟨h3,h2⟩
   ·rw [hn] at h1
    cases h1
  have hk:=Hid.mk hr
  have hd':=Hid.mk hd
  clear hr hl hn hd
  repeat (any_goals (first
   | assumption
   | ((with_reducible show wpAny _ _ ((int_private% "intFromText") _ _ _) _ _ _);refine wp_text4 hd'.out hk.out.1 hk.out.2 ?_)
   | wp_step))
  all_goals first | exact⟨_,rfl,h⟩ | skip
theorem int_of_str_ok {prog:Program} {w:World} {A:Around} {E:Value→Shared→Prop} {s:Shared} {x:PySem.Str} {u:Tok} {n:Int} {Q:Value→Shared→Prop} (hl:x.length≤4300) (hn:PySem.intText? x=some n) (hd:s.heap.NoDigits) (h:Q (.int n s.toks) { s with toks:=s.toks+1 }):wpAny (model prog w) A (call (.type "int") [.str x u]) Q E s:=
 call_int_1 (int_new_ok (prog:=prog) (w:=w) hl hn) ⟨hd,typeIs_int _ _ _,h⟩
/-- int of a text that is a number -/
def rIntU (K:PySem.W.Frag):List V→Hp→VK→Prop:=fun xs H Q=> ∃a n,xs= [.str a]∧DigK K∧PySem.intText? a=some n∧a.length≤4300∧Q (.int n) H
theorem call_intU {X:Cx} :CallR X (.type "int") (rIntU X.K):=by
 intro pins s σ H xs us Q I rs h
 obtain⟨a,n,rfl,hd,hn,hl,h⟩:=h
 obtain⟨u,rfl,t,rfl⟩:=vals1 rs
 exact int_of_str_ok hl hn (hd.no I.kIn) ⟨.int n,H,I.tok _,⟨_,rfl⟩,h⟩
def KdX (K:PySem.W.Frag) (w:World) (d:Addr) (zs:List Str):Prop:= ∃es n,KDict K w d es n∧es.toList.map He.keyOf=He.keysIn w.params zs
theorem KdX.kd {K:PySem.W.Frag} {w:World} {d:Addr} {zs:List Str} (h:KdX K w d zs):KdW K w d:=let ⟨es,n,D,_⟩:=h;⟨es,n,D⟩
theorem kdx_ok {K:PySem.W.Frag} {w:World} {a:Addr} {ks:List Str} (h:He.dicW K a=some (He.keysIn w.params ks)):KdX K w a ks:=by
 obtain⟨es,n,D⟩:=He.dicW_ok h
 refine⟨es,n,D,?_⟩
 unfold He.dicW at h
 rw [D.at_] at h
 dsimp only at h
 split at h
 ·exact Option.some.inj h
 ·cases h
def Itw (zs:List Str):It:=⟨fun i _=>i < zs.length,fun i H x H'=>H'=H∧ ∃z,zs[i]? =some z∧x= .str z,fun i _=>zs.length≤i⟩
theorem turn_kd {P:Program} {w:World} {K:PySem.W.Frag} {tg:Expr} {d:Addr} {es:Array DictEntry} {n:Nat} {zs:List Str} (it:Addr) (D:KDict K w d es n) (e:es.toList.map He.keyOf=He.keysIn w.params zs) :
  Turn P w K tg (Itw zs) [it] it (fun i h=>h.IsKeyIter it d i es.size n) where
 mem:=by simp
 obj:=fun i h st b hb=>by
  have e:b=it:=by simpa using hb
  subst e
  obtain⟨oi,e,c,dd⟩:=st
  exact⟨oi,e,fun v z=>by rw [dd] at z;cases z⟩
 keep:=fun i h h' st k=>st.at fun oi e=>k it (by simp) oi e
 item:=by
  intro X hP hw hK hc i pins s σ H E I hf st hi
  subst hP hw hK
  obtain⟨f0,f1,f2,f3,f4,f5⟩:=hf it (by simp)
  have hgd:s.heap.get? d=some _:=I.kIn _ _ D.at_
  have hi:i < zs.length:=hi
  have he:(es.toList.map He.keyOf)[i]? =(He.keysIn X.w.params zs)[i]? :=by rw [e]
  unfold He.keysIn at he
  rw [List.getElem?_map,List.getElem?_map,List.getElem?_eq_getElem hi] at he
  cases hen:es.toList[i]? with
  | none=>rw [hen] at he;cases he
  | some en=>
   rw [hen] at he
   have he:=Option.some.inj he
   obtain⟨z,hk⟩:∃(t:Tok),en.key= .str zs[i] t:=by
    unfold He.keyOf at he
    split at he
    ·rename_i x t q
     have h4:=(Prod.mk.inj (Option.some.inj he)).1
     exact⟨t,by rw [q,h4]⟩
    ·cases he
   refine next_key_item st hgd rfl rfl (by rw [← Array.getElem?_toList];exact hen) fun h' st' sb=> ?_
   have I1:Inv X pins σ H { s with heap:=h' } :=I.turned (t':=s.toks) (fun b ob hb e=>(sb.2 b hb).trans e) f0 f1 f3 f4 f5
   obtain⟨oi,e,c,dd⟩:=id st'
   exact⟨en.key,rfl,go_of (s:= { s with heap:=h' }) e c dd (by decide) ⟨.str zs[i],H,I1,⟨z,hk⟩,⟨rfl,zs[i],List.getElem?_eq_getElem hi,rfl⟩,st',fun b hb=>(hf b hb).1⟩⟩
 done:=by
  intro X hP hw hK hc i pins s σ H E I hf st hi
  subst hP hw hK
  obtain⟨f0,f1,f2,f3,f4,f5⟩:=hf it (by simp)
  have hgd:s.heap.get? d=some _:=I.kIn _ _ D.at_
  have hl:es.size=zs.length:=by
   have:=congrArg List.length e
   unfold He.keysIn at this
   rw [List.length_map,List.length_map,Array.length_toList] at this
   exact this
  exact next_key_end (I.ok.hd hc) st hgd rfl rfl (by rw [hl];exact hi) fun h' eb=>⟨rfl,I.turned (t':=s.toks) (fun b ob hb e=>eb b ob hb e) f0 f1 f3 f4 f5⟩
 self:=fun A i s Q E st h=>wpAny_pyIter_keyiter st h
def iKd (zs:List Str):TI:=fun _ H R=>R (Itw zs) H
theorem pi_kd {X:Cx} {tg e:Expr} {d:Addr} {zs:List Str} (D:KdX X.K X.w d zs) (he:PE X e (tC (.ref d))):PI X tg e (iKd zs):=by
 obtain⟨es,n,D,e⟩:=D
 refine⟨fun pins s σ H R I h=> ?_⟩
 refine thn (he.run pins s σ H (fun v H'=>v= .ref d∧R (Itw zs) H') I ⟨rfl,h⟩) fun u s1 ⟨x,H1,I1,rx,ex,q⟩=> ?_
 subst ex
 obtain rfl:u=Value.ref d:=rx
 have hgd:s1.heap.get? d=some _:=I1.kIn _ _ D.at_
 exact iter_keys D.low hgd ⟨rfl,rfl,rfl⟩ rfl (pi_one (tk:=s1.toks) I1 _ (turn_kd _ D e) ⟨_,Heap.get?_push_size _ rfl,rfl,rfl⟩ q)
end Go
namespace Ab
open PySem PySem.Spec PyProof.Rows L2 Go
theorem l_intU {K:PySem.W.Frag} {M:AM} {Q:QA} {z:Str} {n:Int} (d:DigK K) (hn:PySem.intText? z=some n) (hl:z.length≤4300) (q:Q (.int n) M):OL K (rIntU K) [.str z] M Q:=fun vs H Qc rv rm kc=>by
 cases rv with
 | cons r t=>cases t;cases r;exact⟨z,n,rfl,d,hn,hl,kc.go rm (.int _) q⟩
/-- for z in a table of the module -/
theorem i_kd {K:PySem.W.Frag} {Ex:XK} {Xa:XA} {s:Sv} {M:AM} {R:List A→AM→Prop} {zs:List Str} (q:R (zs.map A.str) M):EI K Ex Xa (iKd zs) s M R:=fun σ H Rc rep k=>
 k _ M H _ (Step.refl _ _) rep.rm (fun M' H' st' rm'=>by
  have el:(zs.map A.str).length=zs.length:=List.length_map ..
  refine⟨fun i hi=>by show i < zs.length;rw [← el];exact hi,by show zs.length≤_;rw [el];exact Nat.le_refl _,fun i x v H2 hx y=> ?_⟩
  obtain⟨e,z,hz,e2⟩:=y
  subst e e2
  rw [List.getElem?_map,hz] at hx
  cases hx
  exact⟨Same.refl _,.str _⟩) q
end Ab
set_option Elab.async false
set_option linter.all false
set_option maxRecDepth 100000
namespace Go
open PySem PySem.Spec PyProof.Rows L2
/-- three looks at one run -/
theorem map3 {α β γ δ:Type} {x:Option α} {f:α→β} {g:α→γ} {h:α→δ} {a:β} {b:γ} {c:δ} (h1:x.map f=some a) (h2:x.map g=some b) (h3:x.map h=some c):x.map (fun s=>(f s,g s,h s))=some (a,b,c):=by
 cases x with
 | none=>cases h1
 | some s=>
  rw [Option.map_some] at h1 h2 h3 ⊢
  rw [Option.some.inj h1,Option.some.inj h2,Option.some.inj h3]
end Go
set_option Elab.async false
set_option linter.all false
set_option maxRecDepth 100000
namespace Go
open PySem PySem.Spec PyProof.Rows L2
abbrev AlM:Type:=(He.AlD×Bool)×List (Option (List (Option (Str×Int))))
def obsM (as:List Addr) (fa:List He.Fa) (fn:List He.DefD) (ex:PySem.W.Frag→Bool) (ts:List He.Tab) (g:Addr→Option Obj):AlM:=
 (fun K=>((He.obsD fa fn K,ex K),ts.map fun t=>He.dicW K (t.1 K))) (He.frG g as)
def tabsSay (ts:List He.Tab) (w:World) (K:PySem.W.Frag):Prop:=ts.map (fun t=>He.dicW K (t.1 K))=ts.map fun t=>some (He.keysIn w.params t.2)
def valM (fn:List He.DefD) (ts:List He.Tab) (w:World):AlM:=((He.valD fn,true),ts.map fun t=>some (He.keysIn w.params t.2))
theorem obsM_of {as:List Addr} {fa:List He.Fa} {fn:List He.DefD} {ex:PySem.W.Frag→Bool} {ts:List He.Tab} {g:Addr→Option Obj} {w:World} (e:obsM as fa fn ex ts g=valM fn ts w):He.obsD fa fn (He.frG g as)=He.valD fn∧ex (He.frG g as)=true∧tabsSay ts w (He.frG g as):=
 ⟨congrArg (fun z:AlM=>z.1.1) e,congrArg (fun z:AlM=>z.1.2) e,congrArg (fun z:AlM=>z.2) e⟩
def hookM (as:List Addr) (fa:List He.Fa) (fn:List He.DefD) (ex:PySem.W.Frag→Bool) (ts:List He.Tab):PySem.W.Hook where
 α:=AlM
 obs:=fun s=>obsM as fa fn ex ts s.heap.get?
 val:=fun w=>valM fn ts w
 says:=fun w h=> ∃K:PySem.W.Frag,K.In h∧He.SaysD fa fn K∧ex K=true∧tabsSay ts w K
 of:=fun _ _ e=>⟨_,He.frG_in,(obsM_of e).1,(obsM_of e).2.1,(obsM_of e).2.2⟩
 keeps:=fun _ _ _ ⟨K,hK,c⟩ k=>⟨K,PySem.W.Frag.In.keeps hK k,c⟩
theorem obsM_eq {as:List Addr} {fa:List He.Fa} {fn:List He.DefD} {ex:PySem.W.Frag→Bool} {ts:List He.Tab} {g:Addr→Option Obj} {s:Shared} (h:∀a,g a=s.heap.get? a):obsM as fa fn ex ts g=(hookM as fa fn ex ts).obs s:=by
 have e:g=s.heap.get? :=funext h
 rw [e] <;> rfl
theorem tabsSay.tab {ts:List He.Tab} {w:World} {K:PySem.W.Frag} (c:tabsSay ts w K) (i:Nat) {t:He.Tab} (h:ts[i]? =some t:=by rfl):KdX K w (t.1 K) t.2:=by
 have e2:(ts.map fun t=>He.dicW K (t.1 K))[i]? =(ts.map fun t=>some (He.keysIn w.params t.2))[i]? :=by rw [show ts.map (fun t=>He.dicW K (t.1 K))=_ from c]
 rw [List.getElem?_map,List.getElem?_map,h] at e2
 exact kdx_ok (Option.some.inj e2)
/-- an entry of a dict of the module, by a text -/
theorem ix_itemK {X:Cx} {d:Addr} (D:KdW X.K X.w d):IxR X (rItemK X.K d):=by
 obtain⟨es,n,D⟩:=D
 intro value slice pins s σ H x y v u Q I rx ry h hs
 obtain⟨z,u0,v0,rfl,rfl,e,r,q⟩:=h
 cases rx
 obtain⟨t,rfl⟩:=ry
 exact tail_any (kd_type D I) slot_dict_getitem.lookup (wpAny_getItem_of (PySem.strKind_is X.prog X.w z t) (PySem.W.mapOf_K (prog:=X.prog) I.kIn D.at_ D.lit) (PySem.W.find_K D.at_ e) ⟨v0,H,I.tok _,r,q⟩) hs
end Go
set_option Elab.async false
set_option linter.all false
set_option maxRecDepth 100000
namespace Go
open PySem PySem.Spec PyProof.Rows L2
end Go
namespace Ab
open PySem PySem.Spec PyProof.Rows L2 Go
end Ab
namespace Sum
open PySem PySem.Spec PyProof.Rows L2 Go
def top (i:Nat):Stmt:=PySem.Challenge.pw_sumtold_k81_books_as_texts.main.body.getD i (.Pass ⟨0,0,0,0⟩)
abbrev s_is_whole_number:Stmt:=top 4
abbrev s_is_part:Stmt:=top 5
abbrev s_is_int:Stmt:=top 14
abbrev s_is_name:Stmt:=top 15
abbrev s_is_numbers:Stmt:=top 16
abbrev s_is_deed:Stmt:=top 17
abbrev s_number_in:Stmt:=top 22
abbrev s_row_text:Stmt:=top 23
abbrev s_row_in:Stmt:=top 24
abbrev s_stamp_text:Stmt:=top 25
abbrev s_stamp_in:Stmt:=top 26
abbrev s_entry_text:Stmt:=top 27
abbrev s_names_in:Stmt:=top 28
abbrev s_entry_in:Stmt:=top 29
abbrev s_roll_text:Stmt:=top 30
abbrev s_roll_in:Stmt:=top 31
abbrev s_letter_text:Stmt:=top 32
abbrev s_seen_in:Stmt:=top 33
abbrev s_letter_in:Stmt:=top 34
abbrev s_deed_text:Stmt:=top 35
abbrev s_deed_in:Stmt:=top 36
abbrev s_book_row_text:Stmt:=top 37
abbrev s_come_in:Stmt:=top 38
abbrev s_book_row_in:Stmt:=top 39
abbrev s_book_text:Stmt:=top 40
abbrev s_read_book:Stmt:=top 41
abbrev s_read_bookL:Stmt:=top 41
abbrev s_m_cell_at:Stmt:=top 43
abbrev s_m_mixed:Stmt:=top 44
abbrev s_m_well:Stmt:=top 45
abbrev s_m_draw:Stmt:=top 46
abbrev s_m_pick:Stmt:=top 47
abbrev s_m_names:Stmt:=top 48
abbrev s_m_numbers:Stmt:=top 49
abbrev s_m_stamp:Stmt:=top 52
abbrev s_m_part:Stmt:=top 53
abbrev s_m_entry:Stmt:=top 54
abbrev s_m_letter:Stmt:=top 55
abbrev s_m_any_row:Stmt:=top 56
abbrev s_m_stamp_text:Stmt:=top 57
abbrev s_m_row_text:Stmt:=top 58
abbrev s_m_entry_text:Stmt:=top 59
abbrev s_m_letter_text:Stmt:=top 60
abbrev s_m_deed_text:Stmt:=top 61
abbrev s_m_row_of_book:Stmt:=top 62
abbrev s_m_plain:Stmt:=top 63
abbrev s_law:Stmt:=top 64
def exK (K:PySem.W.Frag):Bool:=excB K (He.ga K "NoText") && Go.digB K && He.valsB K (He.ga K "WORDS") [(("" :Str),.str "nothing"),(("heard" :Str),.str "heard"),(("taken" :Str),.str "taken")]
def dd_is_whole_number:He.DefD:=⟨("is_whole_number",none),"is_whole_number","is_whole_number",defArgs s_is_whole_number,defBody s_is_whole_number,defScope s_is_whole_number,[],[]⟩
def dd_is_part:He.DefD:=⟨("is_part",none),"is_part","is_part",defArgs s_is_part,defBody s_is_part,defScope s_is_part,[],[]⟩
def dd_is_int:He.DefD:=⟨("is_int",none),"is_int","is_int",defArgs s_is_int,defBody s_is_int,defScope s_is_int,[],[]⟩
def dd_is_name:He.DefD:=⟨("is_name",none),"is_name","is_name",defArgs s_is_name,defBody s_is_name,defScope s_is_name,[],[]⟩
def dd_is_numbers:He.DefD:=⟨("is_numbers",none),"is_numbers","is_numbers",defArgs s_is_numbers,defBody s_is_numbers,defScope s_is_numbers,[],[]⟩
def dd_is_deed:He.DefD:=⟨("is_deed",none),"is_deed","is_deed",defArgs s_is_deed,defBody s_is_deed,defScope s_is_deed,[],[]⟩
def dd_number_in:He.DefD:=⟨("number_in",none),"number_in","number_in",defArgs s_number_in,defBody s_number_in,defScope s_number_in,[],[]⟩
def dd_row_text:He.DefD:=⟨("row_text",none),"row_text","row_text",defArgs s_row_text,defBody s_row_text,defScope s_row_text,[],[]⟩
def dd_row_in:He.DefD:=⟨("row_in",none),"row_in","row_in",defArgs s_row_in,defBody s_row_in,defScope s_row_in,[],[]⟩
def dd_stamp_text:He.DefD:=⟨("stamp_text",none),"stamp_text","stamp_text",defArgs s_stamp_text,defBody s_stamp_text,defScope s_stamp_text,[],[]⟩
def dd_stamp_in:He.DefD:=⟨("stamp_in",none),"stamp_in","stamp_in",defArgs s_stamp_in,defBody s_stamp_in,defScope s_stamp_in,[],[]⟩
def dd_entry_text:He.DefD:=⟨("entry_text",none),"entry_text","entry_text",defArgs s_entry_text,defBody s_entry_text,defScope s_entry_text,[],[]⟩
def dd_names_in:He.DefD:=⟨("names_in",none),"names_in","names_in",defArgs s_names_in,defBody s_names_in,defScope s_names_in,[],[]⟩
def dd_entry_in:He.DefD:=⟨("entry_in",none),"entry_in","entry_in",defArgs s_entry_in,defBody s_entry_in,defScope s_entry_in,[],[]⟩
def dd_roll_text:He.DefD:=⟨("roll_text",none),"roll_text","roll_text",defArgs s_roll_text,defBody s_roll_text,defScope s_roll_text,[],[]⟩
def dd_roll_in:He.DefD:=⟨("roll_in",none),"roll_in","roll_in",defArgs s_roll_in,defBody s_roll_in,defScope s_roll_in,[],[]⟩
def dd_letter_text:He.DefD:=⟨("letter_text",none),"letter_text","letter_text",defArgs s_letter_text,defBody s_letter_text,defScope s_letter_text,[],[]⟩
def dd_seen_in:He.DefD:=⟨("seen_in",none),"seen_in","seen_in",defArgs s_seen_in,defBody s_seen_in,defScope s_seen_in,[],[]⟩
def dd_letter_in:He.DefD:=⟨("letter_in",none),"letter_in","letter_in",defArgs s_letter_in,defBody s_letter_in,defScope s_letter_in,[],[]⟩
def dd_deed_text:He.DefD:=⟨("deed_text",none),"deed_text","deed_text",defArgs s_deed_text,defBody s_deed_text,defScope s_deed_text,[],[]⟩
def dd_deed_in:He.DefD:=⟨("deed_in",none),"deed_in","deed_in",defArgs s_deed_in,defBody s_deed_in,defScope s_deed_in,[],[]⟩
def dd_book_row_text:He.DefD:=⟨("book_row_text",none),"book_row_text","book_row_text",defArgs s_book_row_text,defBody s_book_row_text,defScope s_book_row_text,[],[]⟩
def dd_come_in:He.DefD:=⟨("come_in",none),"come_in","come_in",defArgs s_come_in,defBody s_come_in,defScope s_come_in,[],[]⟩
def dd_book_row_in:He.DefD:=⟨("book_row_in",none),"book_row_in","book_row_in",defArgs s_book_row_in,defBody s_book_row_in,defScope s_book_row_in,[],[]⟩
def dd_book_text:He.DefD:=⟨("book_text",none),"book_text","book_text",defArgs s_book_text,defBody s_book_text,defScope s_book_text,[],[]⟩
def dd_read_book:He.DefD:=⟨("read_book",none),"read_book","read_book",defArgs s_read_book,defBody s_read_book,defScope s_read_book,[],[]⟩
def dd_m_cell_at:He.DefD:=⟨("_law_cell_at",none),"_law_cell_at","_law_cell_at",defArgs s_m_cell_at,defBody s_m_cell_at,defScope s_m_cell_at,[],[]⟩
def dd_m_mixed:He.DefD:=⟨("_law_mixed",none),"_law_mixed","_law_mixed",defArgs s_m_mixed,defBody s_m_mixed,defScope s_m_mixed,[],[]⟩
def dd_m_well:He.DefD:=⟨("_law_well",none),"_law_well","_law_well",defArgs s_m_well,defBody s_m_well,defScope s_m_well,[],[]⟩
def dd_m_draw:He.DefD:=⟨("_law_draw",none),"_law_draw","_law_draw",defArgs s_m_draw,defBody s_m_draw,defScope s_m_draw,[],[]⟩
def dd_m_pick:He.DefD:=⟨("_law_pick",none),"_law_pick","_law_pick",defArgs s_m_pick,defBody s_m_pick,defScope s_m_pick,[],[]⟩
def dd_m_names:He.DefD:=⟨("_law_names",none),"_law_names","_law_names",defArgs s_m_names,defBody s_m_names,defScope s_m_names,[],[]⟩
def dd_m_numbers:He.DefD:=⟨("_law_numbers",none),"_law_numbers","_law_numbers",defArgs s_m_numbers,defBody s_m_numbers,defScope s_m_numbers,[],[]⟩
def dd_m_stamp:He.DefD:=⟨("_law_stamp",none),"_law_stamp","_law_stamp",defArgs s_m_stamp,defBody s_m_stamp,defScope s_m_stamp,[],[]⟩
def dd_m_part:He.DefD:=⟨("_law_part",none),"_law_part","_law_part",defArgs s_m_part,defBody s_m_part,defScope s_m_part,[],[]⟩
def dd_m_entry:He.DefD:=⟨("_law_entry",none),"_law_entry","_law_entry",defArgs s_m_entry,defBody s_m_entry,defScope s_m_entry,[],[]⟩
def dd_m_letter:He.DefD:=⟨("_law_letter",none),"_law_letter","_law_letter",defArgs s_m_letter,defBody s_m_letter,defScope s_m_letter,[],[]⟩
def dd_m_any_row:He.DefD:=⟨("_law_any_row",none),"_law_any_row","_law_any_row",defArgs s_m_any_row,defBody s_m_any_row,defScope s_m_any_row,[],[]⟩
def dd_m_stamp_text:He.DefD:=⟨("_law_stamp_text",none),"_law_stamp_text","_law_stamp_text",defArgs s_m_stamp_text,defBody s_m_stamp_text,defScope s_m_stamp_text,[],[]⟩
def dd_m_row_text:He.DefD:=⟨("_law_row_text",none),"_law_row_text","_law_row_text",defArgs s_m_row_text,defBody s_m_row_text,defScope s_m_row_text,[],[]⟩
def dd_m_entry_text:He.DefD:=⟨("_law_entry_text",none),"_law_entry_text","_law_entry_text",defArgs s_m_entry_text,defBody s_m_entry_text,defScope s_m_entry_text,[],[]⟩
def dd_m_letter_text:He.DefD:=⟨("_law_letter_text",none),"_law_letter_text","_law_letter_text",defArgs s_m_letter_text,defBody s_m_letter_text,defScope s_m_letter_text,[],[]⟩
def dd_m_deed_text:He.DefD:=⟨("_law_deed_text",none),"_law_deed_text","_law_deed_text",defArgs s_m_deed_text,defBody s_m_deed_text,defScope s_m_deed_text,[],[]⟩
def dd_m_row_of_book:He.DefD:=⟨("_law_row_of_book",none),"_law_row_of_book","_law_row_of_book",defArgs s_m_row_of_book,defBody s_m_row_of_book,defScope s_m_row_of_book,[],[]⟩
def dd_m_plain:He.DefD:=⟨("_law_plain",none),"_law_plain","_law_plain",defArgs s_m_plain,defBody s_m_plain,defScope s_m_plain,[],[]⟩
def dd_law:He.DefD:=⟨("law",none),"law","law",defArgs s_law,defBody s_law,defScope s_law,[],[]⟩
def fn:List He.DefD:= [dd_is_whole_number,dd_is_part,dd_is_int,dd_is_name,dd_is_numbers,dd_is_deed,dd_number_in,dd_row_text,dd_row_in,dd_stamp_text,dd_stamp_in,dd_entry_text,dd_names_in,dd_entry_in,dd_roll_text,dd_roll_in,dd_letter_text,dd_seen_in,dd_letter_in,dd_deed_text,dd_deed_in,dd_book_row_text,dd_come_in,dd_book_row_in,dd_book_text,dd_read_book,dd_m_cell_at,dd_m_mixed,dd_m_well,dd_m_draw,dd_m_pick,dd_m_names,dd_m_numbers,dd_m_stamp,dd_m_part,dd_m_entry,dd_m_letter,dd_m_any_row,dd_m_stamp_text,dd_m_row_text,dd_m_entry_text,dd_m_letter_text,dd_m_deed_text,dd_m_row_of_book,dd_m_plain,dd_law]
def fa:List He.Fa:= [.glo "is_whole_number",.glo "is_part",.glo "is_int",.glo "is_name",.glo "is_numbers",.glo "is_deed",.glo "number_in",.glo "row_text",.glo "row_in",.glo "stamp_text",.glo "stamp_in",.glo "entry_text",.glo "names_in",.glo "entry_in",.glo "roll_text",.glo "roll_in",.glo "letter_text",.glo "seen_in",.glo "letter_in",.glo "deed_text",.glo "deed_in",.glo "book_row_text",.glo "come_in",.glo "book_row_in",.glo "book_text",.glo "read_book",.glo "_law_cell_at",.glo "_law_mixed",.glo "_law_well",.glo "_law_draw",.glo "_law_pick",.glo "_law_names",.glo "_law_numbers",.glo "_law_stamp",.glo "_law_part",.glo "_law_entry",.glo "_law_letter",.glo "_law_any_row",.glo "_law_stamp_text",.glo "_law_row_text",.glo "_law_entry_text",.glo "_law_letter_text",.glo "_law_deed_text",.glo "_law_row_of_book",.glo "_law_plain",.glo "law",.free "all",.free "bool",.free "int",.free "isinstance",.free "len",.free "list",.free "range",.free "set",.free "sorted",.free "str",.free "tuple",.str "LETTERS" "abcdefghijklmnopqrstuvwxyz",.int "MOST_LETTERS" 8,.int "MOST_NUMBERS" 3,.int "FAR" 1000000000000,.glo "OF_ONE",.glo "OF_NUMBERS",.glo "OF_TWO",.str "FIGURES" "0123456789",.int "MOST_FIGURES" 1000,.glo "WORDS",.glo "NoText"]
def loose:List Str:=(["SumError","NoText","is_whole_number","is_part","LETTERS","MOST_LETTERS","MOST_NUMBERS","FAR","OF_ONE","OF_NUMBERS","OF_TWO","is_int","is_name","is_numbers","is_deed","FIGURES","MOST_FIGURES","WORDS","number_in","row_text","row_in","stamp_text","stamp_in","entry_text","names_in","entry_in","roll_text","roll_in","letter_text","seen_in"]:List Str) ++ (["letter_in","deed_text","deed_in","book_row_text","come_in","book_row_in","book_text","read_book","_law_cell_at","_law_mixed","_law_well","_law_draw","_law_pick","_law_names","_law_numbers","_law_ties","_law_web","_law_stamp","_law_part","_law_entry","_law_letter","_law_any_row","_law_stamp_text","_law_row_text","_law_entry_text","_law_letter_text","_law_deed_text","_law_row_of_book","_law_plain"]:List Str)
def ex (K:PySem.W.Frag):Bool:=He.tupB K "OF_ONE" [.str "turn",.str "fall",.str "back",.str "fresh",.str "leave"] && He.tupB K "OF_NUMBERS" [.str "set",.str "join"] && He.tupB K "OF_TWO" [.str "tie",.str "cut"] && exK K
def ts:List He.Tab:= [(fun K=>He.ga K "WORDS",[("" :Str),("heard" :Str),("taken" :Str)])]
abbrev R:PySem.W.OpenRow:=PySem.W.OpenLaw.row PySem.Challenge.rw_sumtold_k81_books_as_texts
def asL:List Addr:= [3,6,4,24,37,46,53,54,55,56,63,68,73,80,81,86,91,96,103,108,113,118,123,128,133,140,147,154,159,164,169,176,181,186,191,198,205,212,219,226,231,238,245,250,257,264,271,276,281,288,293,298,303,308,313,318,323,0,23,36,45,52,62,67,72,79,85,90,95,102,107,112,117,122,127,132,139,146,153,158,163,168,175,180,185,190,197,204,211,218,225,230,237,244,249,256,263,270,275,280,287,292,297,302,307,312,317,322,22,25,35,40,41,42,43,44,47,48,49,50,51,57,58,59,60,61,64,65,66,69,70,71,74,75,76,77,78,82,83,84,87,88,89,92,93,94,97,98,99,100,101,104,105,106,109,110,111,114,115,116,119,120,121,124,125,126,129,130,131,134,135,136,137,138,141,142,143,144,145,148,149,150,151,152,155,156,157,160,161,162,165,166,167,170,171,172,173,174,177,178,179,182,183,184,187,188,189,192,193,194,195,196,199,200,201,202,203,206,207,208,209,210,213,214,215,216,217,220,221,222,223,224,227,228,229,232,233,234,235,236,239,240,241,242,243,246,247,248,251,252,253,254,255,258,259,260,261,262,265,266,267,268,269,272,273,274,277,278,279,282,283,284,285,286,289,290,291,294,295,296,299,300,301,304,305,306,309,310,311,314,315,316,319,320,321,2]
abbrev hk:PySem.W.Hook:=Go.hookM asL fa fn ex ts
def ob (s:PySem.W.SharedT):Go.AlM:=Go.obsM asL fa fn ex ts (HandSHeadRun.getT s)
theorem ob_eq (s:PySem.W.SharedT):ob s=hk.obs s.abs:=Go.obsM_eq (HandSHeadRun.getT_eq s)
theorem run1f (w:World) (os:OsState):((HandSHeadRun.endF (HandSHeadRun.stepQ (HandSHeadRun.denQ HandSHeadRun.tabQ) R.prog (w.withFollow "special-get-raises" false)) 20000 R.prog (w.withFollow "special-get-raises" false) os).map fun s=>HandSHeadRun.looksF R.prog (PySem.W.boot_heap ((w.withFollow "special-get-raises" false)).params) s.abs)=some true:=by
 kernel_rfl
theorem run1t (w:World) (os:OsState):((HandSHeadRun.endF (HandSHeadRun.stepQ (HandSHeadRun.denQ HandSHeadRun.tabQ) R.prog (w.withFollow "special-get-raises" true)) 20000 R.prog (w.withFollow "special-get-raises" true) os).map fun s=>HandSHeadRun.looksF R.prog (PySem.W.boot_heap ((w.withFollow "special-get-raises" true)).params) s.abs)=some true:=by
 kernel_rfl
theorem run1 (w:World) (os:OsState):((HandSHeadRun.endF (HandSHeadRun.stepQ (HandSHeadRun.denQ HandSHeadRun.tabQ) R.prog w) 20000 R.prog w os).map fun s=>HandSHeadRun.looksF R.prog (PySem.W.boot_heap (w).params) s.abs)=some true:=PySem.W.byRow2 "special-get-raises" (P:=fun w=> ∀os:OsState,((HandSHeadRun.endF (HandSHeadRun.stepQ (HandSHeadRun.denQ HandSHeadRun.tabQ) R.prog w) 20000 R.prog w os).map fun s=>HandSHeadRun.looksF R.prog (PySem.W.boot_heap (w).params) s.abs)=some true) (fun w os=>run1f w os) (fun w os=>run1t w os) w os
theorem run2f (w:World) (os:OsState):((HandSHeadRun.endF (HandSHeadRun.stepQ (HandSHeadRun.denQ HandSHeadRun.tabQ) R.prog (w.withFollow "special-get-raises" false)) 20000 R.prog (w.withFollow "special-get-raises" false) os).map fun s=>HandSHeadRun.seenQ (PySem.W.view R.prog [64]) loose (PySem.importedModules R.prog.main.body) (fun s=>PySem.W.xlAt (PySem.W.view R.prog [64]) [] s && PySem.W.recOk R.toRowW.records s) s.abs)=some (PySem.W.openGood (PySem.W.view R.prog [64]) loose):=by
 kernel_rfl
theorem run2t (w:World) (os:OsState):((HandSHeadRun.endF (HandSHeadRun.stepQ (HandSHeadRun.denQ HandSHeadRun.tabQ) R.prog (w.withFollow "special-get-raises" true)) 20000 R.prog (w.withFollow "special-get-raises" true) os).map fun s=>HandSHeadRun.seenQ (PySem.W.view R.prog [64]) loose (PySem.importedModules R.prog.main.body) (fun s=>PySem.W.xlAt (PySem.W.view R.prog [64]) [] s && PySem.W.recOk R.toRowW.records s) s.abs)=some (PySem.W.openGood (PySem.W.view R.prog [64]) loose):=by
 kernel_rfl
theorem run2 (w:World) (os:OsState):((HandSHeadRun.endF (HandSHeadRun.stepQ (HandSHeadRun.denQ HandSHeadRun.tabQ) R.prog w) 20000 R.prog w os).map fun s=>HandSHeadRun.seenQ (PySem.W.view R.prog [64]) loose (PySem.importedModules R.prog.main.body) (fun s=>PySem.W.xlAt (PySem.W.view R.prog [64]) [] s && PySem.W.recOk R.toRowW.records s) s.abs)=some (PySem.W.openGood (PySem.W.view R.prog [64]) loose):=PySem.W.byRow2 "special-get-raises" (P:=fun w=> ∀os:OsState,((HandSHeadRun.endF (HandSHeadRun.stepQ (HandSHeadRun.denQ HandSHeadRun.tabQ) R.prog w) 20000 R.prog w os).map fun s=>HandSHeadRun.seenQ (PySem.W.view R.prog [64]) loose (PySem.importedModules R.prog.main.body) (fun s=>PySem.W.xlAt (PySem.W.view R.prog [64]) [] s && PySem.W.recOk R.toRowW.records s) s.abs)=some (PySem.W.openGood (PySem.W.view R.prog [64]) loose)) (fun w os=>run2f w os) (fun w os=>run2t w os) w os
theorem mapX {α β γ:Type} {x:Option α} {f:α→((Bool×β)×Bool)×γ} {A B:α→Bool} {b:β} {c:γ} (e:∀s,(f s).1.1.1=(A s && B s)) (h1:(x.map fun s=>(A s && (f s).1.2,(f s).2))=some (true,c)) (h2:(x.map fun s=>B s)=some true) (h3:(x.map fun s=>(f s).1.1.2)=some b):x.map f=some (((true,b),true),c):=by
 cases x with
 | none=>cases h1
 | some s=>
  rw [Option.map_some] at h1 h2 h3 ⊢
  have h1:=Option.some.inj h1
  have p:=congrArg Prod.fst h1
  have p1:(A s && (f s).1.2)=true:=p
  rw [Bool.and_eq_true] at p1
  have p2:(f s).2=c:=congrArg Prod.snd h1
  have p3:=Option.some.inj h2
  have p4:=Option.some.inj h3
  have p5:(f s).1.1.1=true:=by rw [e,p1.1,p3];rfl
  exact congrArg some (Prod.ext (Prod.ext (Prod.ext p5 p4) p1.2) p2)
def kk (s:PySem.W.SharedT):PySem.W.Frag:=He.frG (HandSHeadRun.getT s) asL
theorem run3af (w:World) (os:OsState):((HandSHeadRun.endF (HandSHeadRun.stepQ (HandSHeadRun.denQ HandSHeadRun.tabQ) R.prog (w.withFollow "special-get-raises" false)) 20000 R.prog (w.withFollow "special-get-raises" false) os).map fun s=>((fa.all fun f=>f.ok (kk s)) && (ob s).1.2,(ob s).2))=some (true,(hk.val (w.withFollow "special-get-raises" false)).2):=by
 kernel_rfl
theorem run3at (w:World) (os:OsState):((HandSHeadRun.endF (HandSHeadRun.stepQ (HandSHeadRun.denQ HandSHeadRun.tabQ) R.prog (w.withFollow "special-get-raises" true)) 20000 R.prog (w.withFollow "special-get-raises" true) os).map fun s=>((fa.all fun f=>f.ok (kk s)) && (ob s).1.2,(ob s).2))=some (true,(hk.val (w.withFollow "special-get-raises" true)).2):=by
 kernel_rfl
theorem run3a (w:World) (os:OsState):((HandSHeadRun.endF (HandSHeadRun.stepQ (HandSHeadRun.denQ HandSHeadRun.tabQ) R.prog w) 20000 R.prog w os).map fun s=>((fa.all fun f=>f.ok (kk s)) && (ob s).1.2,(ob s).2))=some (true,(hk.val w).2):=PySem.W.byRow2 "special-get-raises" (P:=fun w=> ∀os:OsState,((HandSHeadRun.endF (HandSHeadRun.stepQ (HandSHeadRun.denQ HandSHeadRun.tabQ) R.prog w) 20000 R.prog w os).map fun s=>((fa.all fun f=>f.ok (kk s)) && (ob s).1.2,(ob s).2))=some (true,(hk.val w).2)) (fun w os=>run3af w os) (fun w os=>run3at w os) w os
theorem run3bf (w:World) (os:OsState):((HandSHeadRun.endF (HandSHeadRun.stepQ (HandSHeadRun.denQ HandSHeadRun.tabQ) R.prog (w.withFollow "special-get-raises" false)) 20000 R.prog (w.withFollow "special-get-raises" false) os).map fun s=>fn.all fun d=>d.ok (kk s))=some true:=by
 kernel_rfl
theorem run3bt (w:World) (os:OsState):((HandSHeadRun.endF (HandSHeadRun.stepQ (HandSHeadRun.denQ HandSHeadRun.tabQ) R.prog (w.withFollow "special-get-raises" true)) 20000 R.prog (w.withFollow "special-get-raises" true) os).map fun s=>fn.all fun d=>d.ok (kk s))=some true:=by
 kernel_rfl
theorem run3b (w:World) (os:OsState):((HandSHeadRun.endF (HandSHeadRun.stepQ (HandSHeadRun.denQ HandSHeadRun.tabQ) R.prog w) 20000 R.prog w os).map fun s=>fn.all fun d=>d.ok (kk s))=some true:=PySem.W.byRow2 "special-get-raises" (P:=fun w=> ∀os:OsState,((HandSHeadRun.endF (HandSHeadRun.stepQ (HandSHeadRun.denQ HandSHeadRun.tabQ) R.prog w) 20000 R.prog w os).map fun s=>fn.all fun d=>d.ok (kk s))=some true) (fun w os=>run3bf w os) (fun w os=>run3bt w os) w os
theorem run3cf (w:World) (os:OsState):((HandSHeadRun.endF (HandSHeadRun.stepQ (HandSHeadRun.denQ HandSHeadRun.tabQ) R.prog (w.withFollow "special-get-raises" false)) 20000 R.prog (w.withFollow "special-get-raises" false) os).map fun s=>(ob s).1.1.2)=some (fn.map He.DefD.val):=by
 kernel_rfl
theorem run3ct (w:World) (os:OsState):((HandSHeadRun.endF (HandSHeadRun.stepQ (HandSHeadRun.denQ HandSHeadRun.tabQ) R.prog (w.withFollow "special-get-raises" true)) 20000 R.prog (w.withFollow "special-get-raises" true) os).map fun s=>(ob s).1.1.2)=some (fn.map He.DefD.val):=by
 kernel_rfl
theorem run3c (w:World) (os:OsState):((HandSHeadRun.endF (HandSHeadRun.stepQ (HandSHeadRun.denQ HandSHeadRun.tabQ) R.prog w) 20000 R.prog w os).map fun s=>(ob s).1.1.2)=some (fn.map He.DefD.val):=PySem.W.byRow2 "special-get-raises" (P:=fun w=> ∀os:OsState,((HandSHeadRun.endF (HandSHeadRun.stepQ (HandSHeadRun.denQ HandSHeadRun.tabQ) R.prog w) 20000 R.prog w os).map fun s=>(ob s).1.1.2)=some (fn.map He.DefD.val)) (fun w os=>run3cf w os) (fun w os=>run3ct w os) w os
theorem run3 (w:World) (os:OsState):((HandSHeadRun.endF (HandSHeadRun.stepQ (HandSHeadRun.denQ HandSHeadRun.tabQ) R.prog w) 20000 R.prog w os).map fun s=>ob s)=some (hk.val w):=mapX (fun _=>rfl) (run3a w os) (run3b w os) (run3c w os)
theorem run (w:World):HandSHeadRun.RunEq R (PySem.W.view R.prog [64]) hk ob 20000 loose w:=fun os=>Go.map3 (run1 w os) (run2 w os) (run3 w os)
local macro_rules | `(tactic| walk_at "isi")=> `(tactic| first
 | with_reducible refine Go.i_int_int ?_
 | with_reducible refine Go.i_int_bool ?_
 | with_reducible refine Go.i_int_str ?_
 | with_reducible refine Go.i_int_list ?_
 | with_reducible refine Go.i_int_tuple ?_
 | with_reducible refine Go.i_bl_int ?_
 | with_reducible refine Go.i_bl_bool ?_
 | with_reducible refine Go.i_bl_str ?_
 | with_reducible refine Go.i_bl_list ?_
 | with_reducible refine Go.i_bl_tuple ?_
 | with_reducible refine Go.i_str_int ?_
 | with_reducible refine Go.i_str_bool ?_
 | with_reducible refine Go.i_str_str ?_
 | with_reducible refine Go.i_str_list ?_
 | with_reducible refine Go.i_str_tuple ?_
 | with_reducible refine Go.i_non_int ?_
 | with_reducible refine Go.i_non_bool ?_
 | with_reducible refine Go.i_non_str ?_
 | with_reducible refine Go.i_non_list ?_
 | with_reducible refine Go.i_non_tuple ?_
 | ((with_reducible refine' Go.i_lst_int ?hh ?_);(case hh=>walk_at "heap"))
 | ((with_reducible refine' Go.i_lst_bool ?hh ?_);(case hh=>walk_at "heap"))
 | ((with_reducible refine' Go.i_lst_str ?hh ?_);(case hh=>walk_at "heap"))
 | ((with_reducible refine' Go.i_lst_list ?hh ?_);(case hh=>walk_at "heap"))
 | ((with_reducible refine' Go.i_lst_tuple ?hh ?_);(case hh=>walk_at "heap"))
 | ((with_reducible refine' Go.i_tup_int ?hh ?_);(case hh=>walk_at "heap"))
 | ((with_reducible refine' Go.i_tup_bool ?hh ?_);(case hh=>walk_at "heap"))
 | ((with_reducible refine' Go.i_tup_str ?hh ?_);(case hh=>walk_at "heap"))
 | ((with_reducible refine' Go.i_tup_list ?hh ?_);(case hh=>walk_at "heap"))
 | ((with_reducible refine' Go.i_tup_tuple ?hh ?_);(case hh=>walk_at "heap"))
 | ((with_reducible refine' Go.i_dK_int ?hh ?_);(case hh=>walk_at "heap"))
 | ((with_reducible refine' Go.i_dK_bool ?hh ?_);(case hh=>walk_at "heap"))
 | ((with_reducible refine' Go.i_dK_str ?hh ?_);(case hh=>walk_at "heap"))
 | ((with_reducible refine' Go.i_dK_list ?hh ?_);(case hh=>walk_at "heap"))
 | ((with_reducible refine' Go.i_dK_tuple ?hh ?_);(case hh=>walk_at "heap")))
local macro_rules | `(tactic| walk_at "heap")=> `(tactic| first | assumption | exact upd_same | (refine Go.keep ?_ (by assumption);walk_at "heap") | (refine Go.get (by assumption) ?_;walk_at "heap"))
local macro_rules | `(tactic| walk_at "s")=> `(tactic| first
 | with_reducible refine Go.w_seq ?_
 | with_reducible refine Go.w_asg ?_
 | with_reducible refine Go.w_op ?_
 | ((with_reducible refine' Go.w_var ?hh ?_);(case hh=>exact rfl))
 | with_reducible refine Go.w_con ?_
 | with_reducible refine Go.w_I0 ?_
 | ((with_reducible refine Go.w_mulI ?hh ?_);(case hh=>first | exact Or.inl ⟨by decide,by decide⟩ | exact Or.inr ⟨by decide,by decide⟩))
 | ((with_reducible refine Go.w_modI ?hh ?_);(case hh=>first | decide | omega))
 | ((with_reducible refine Go.w_divI ?hh ?_);(case hh=>exact⟨by decide +kernel,by decide +kernel⟩))
 | ((with_reducible refine Go.w_powI ?hh ?_);(case hh=>exact⟨by decide +kernel,by decide +kernel,by decide +kernel⟩))
 | ((with_reducible refine Go.w_shrI ?hh ?_);(case hh=>first | decide | omega))
 | with_reducible refine Go.w_if ?_
 | with_reducible refine Go.w_test ?_
 | with_reducible refine Go.w_tB ?_
 | with_reducible refine Go.w_k ?_
 | with_reducible refine Go.w_call ?_
 | with_reducible refine Go.w_cons ?_
 | with_reducible refine Go.w_nil ?_
 | with_reducible refine Go.w_ret ?_
 | with_reducible refine Go.w_cb ?_
 | with_reducible refine Go.w_tup ?_
 | with_reducible refine Go.w_lst ?_
 | ((with_reducible refine Go.w_eq ?hh ?_);(case hh=>exact rfl))
 | ((with_reducible refine Go.w_ne ?hh ?_);(case hh=>exact rfl))
 | with_reducible refine Go.w_or ?_
 | with_reducible refine Go.w_and ?_
 | with_reducible refine Go.w_not ?_
 | with_reducible refine Go.w_next ?_
 | with_reducible refine Go.w_drop ?_
 | with_reducible refine Go.w_un ?_
 | with_reducible refine Go.w_U ?_
 | with_reducible refine Go.w_orV ?_
 | with_reducible refine Go.w_andV ?_
 | with_reducible refine Go.w_notV ?_
 | with_reducible refine Go.w_orT ?_
 | with_reducible refine Go.w_andT ?_
 | with_reducible refine Go.w_truI ?_
 | with_reducible refine Go.w_isB ?_
 | with_reducible refine Go.w_notB ?_
 | with_reducible refine Go.w_isN ?_
 | with_reducible refine Go.w_notN ?_
 | with_reducible refine Go.w_chain ?_
 | with_reducible refine Go.w_ifE ?_
 | with_reducible refine Go.w_abs ?_
 | with_reducible refine Go.w_intB ?_
 | with_reducible refine Go.w_sub ?_
 | with_reducible refine Go.w_par ?_
 | with_reducible refine Go.w_sl ?_
 | with_reducible refine Go.w_noPart ?_
 | with_reducible refine Go.w_part ?_
 | with_reducible refine Go.w_partI ?_
 | ((with_reducible refine' Go.w_ixT ?h1 ?h2 ?_);(case h1=>(apply Go.sqT;walk_at "heap"));(case h2=>exact rfl))
 | ((with_reducible refine' Go.w_ixL ?h1 ?h2 ?_);(case h1=>(apply Go.sqL;walk_at "heap"));(case h2=>exact rfl))
 | ((with_reducible refine' Go.w_lenT ?h1 ?_);(case h1=>(apply Go.sqT;walk_at "heap")))
 | ((with_reducible refine' Go.w_lenL ?h1 ?_);(case h1=>(apply Go.sqL;walk_at "heap")))
 | ((with_reducible refine' Go.w_ixsT ?h1 ?h2 ?_);(case h1=>(apply Go.sqT;walk_at "heap"));(case h2=>exact rfl))
 | ((with_reducible refine' Go.w_ixsL ?h1 ?h2 ?_);(case h1=>(apply Go.sqL;walk_at "heap"));(case h2=>exact rfl))
 | with_reducible refine Go.w_bm ?_
 | with_reducible refine Go.w_bm0 ?_
 | ((with_reducible refine' Go.w_tyL ?h1 ?_);(case h1=>walk_at "heap"))
 | with_reducible refine Go.w_tyS ?_
 | with_reducible refine Go.w_min2 ?_
 | with_reducible refine Go.w_max2 ?_
 | with_reducible refine Go.w_bits ?_
 | with_reducible refine Go.w_bitsI ?_
 | with_reducible refine Go.w_gName ?_
 | ((with_reducible refine' Go.w_gTup ?h1 ?h2 ?_);(case h1=>(apply Go.sqT;walk_at "heap"));(case h2=>exact rfl))
 | ((with_reducible refine' Go.w_gUnl ?h1 ?h2 ?_);(case h1=>(apply Go.sqL;walk_at "heap"));(case h2=>exact rfl))
 | with_reducible refine Go.w_gCons ?_
 | with_reducible refine Go.w_gNil ?_
 | with_reducible refine Go.w_asgG ?_
 | walk_at "isi"
 | with_reducible refine Go.w_forI ?_
 | with_reducible refine Go.w_iL ?_
 | with_reducible refine Go.w_iT ?_
 | with_reducible refine Go.w_iZT ?_
 | with_reducible refine Go.w_iR1 ?_
 | with_reducible refine Go.w_iR2 ?_
 | with_reducible refine Go.w_lc ?_
 | ((with_reducible refine Go.if_t ?hh ?_);(case hh=>exact rfl))
 | ((with_reducible refine Go.if_f ?hh ?_);(case hh=>exact rfl)))
local macro_rules | `(tactic| walk_at "go")=> `(tactic| repeat (walk_at "s"))
open Ab
local macro_rules | `(tactic| walk_at "lk")=> `(tactic| first | exact Ab.Lk.here | (apply Ab.Lk.there;walk_at "lk") | exact Ab.Ctx.lk (by assumption) | exact Ab.Ctx.lk (by apply_assumption))
local macro_rules | `(tactic| walk_at "up")=> `(tactic| first | exact Ab.Up.here | (apply Ab.Up.there;walk_at "up") | exact Ab.Ctx.up (by assumption) _ | exact Ab.Ctx.up (by apply_assumption) _)
local macro_rules | `(tactic| walk_at "rm")=> `(tactic| first | exact Ab.Rm.here | (apply Ab.Rm.there;walk_at "rm"))
local macro_rules | `(tactic| walk_at "ctx")=> `(tactic| first | exact Ab.Ctx.here | assumption | (apply Ab.Ctx.there;walk_at "ctx") | apply_assumption)
local macro_rules | `(tactic| walk_at "ls")=> `(tactic| first | exact Ab.LsA.lst | exact Ab.LsA.loc (by walk_at "lk") | exact Ab.LsA.scr)
local macro_rules | `(tactic| walk_at "lp")=> `(tactic| first | exact Ab.LpA.lst | exact Ab.LpA.loc (by walk_at "lk"))
local macro_rules | `(tactic| walk_at "e")=> `(tactic| first
 | with_reducible refine Ab.s_seq ?_
 | with_reducible refine Ab.s_asg ?_
 | with_reducible refine Ab.e_op ?_
 | ((with_reducible refine' Ab.e_var ?hh ?_);(case hh=>exact rfl))
 | with_reducible refine Ab.e_int ?_
 | with_reducible refine Ab.e_str ?_
 | with_reducible refine Ab.o_add ?_
 | with_reducible refine Ab.o_subI ?_
 | with_reducible refine Ab.e_B ?_
 | with_reducible refine Ab.e_I ?_
 | with_reducible refine Ab.t_testB ?_
 | with_reducible refine Ab.t_B ?_
 | with_reducible refine Ab.e_call ?_
 | with_reducible refine Ab.a_cons ?_
 | with_reducible refine Ab.a_nil ?_
 | with_reducible refine Ab.s_ret ?_
 | with_reducible refine Ab.e_cb ?_
 | with_reducible refine Ab.e_tup ?_
 | with_reducible refine Ab.e_nilC ?_
 | with_reducible refine Ab.e_lst ?_
 | ((with_reducible refine And.intro ?hl ?_);(case hl=>exact Ab.len_ok (Nat.le_of_ble_eq_true rfl)))
 | ((with_reducible refine' Ab.o_ixT ?hh ?_);(case hh=>exact rfl))
 | ((with_reducible refine' Ab.o_ixL ?h1 ?h2 ?_);(case h1=>walk_at "ls");(case h2=>exact rfl))
 | with_reducible refine Ab.o_eqI ?_
 | with_reducible refine Ab.o_eqS ?_
 | with_reducible refine Ab.o_neI ?_
 | with_reducible refine Ab.o_neS ?_
 | with_reducible refine Ab.o_lt ?_
 | with_reducible refine Ab.o_le ?_
 | with_reducible refine Ab.o_gt ?_
 | with_reducible refine Ab.o_ge ?_
 | with_reducible refine Ab.o_isN ?_
 | with_reducible refine Ab.o_notN ?_
 | with_reducible refine Ab.e_bl ?_
 | with_reducible refine Ab.e_non ?_
 | with_reducible refine Ab.e_ty ?_
 | with_reducible refine Ab.t_or ?_
 | with_reducible refine Ab.t_and ?_
 | with_reducible refine Ab.t_not ?_
 | with_reducible refine Ab.t_yes ?_
 | with_reducible refine Ab.s_next ?_
 | with_reducible refine Ab.s_drop ?_
 | with_reducible refine Ab.s_retN ?_
 | with_reducible refine Ab.e_un ?_
 | with_reducible refine Ab.o_neg ?_
 | with_reducible refine Ab.e_orV ?_
 | with_reducible refine Ab.e_andV ?_
 | with_reducible refine Ab.e_notV ?_
 | with_reducible refine Ab.e_chain ?_
 | with_reducible refine Ab.e_ifE ?_
 | with_reducible refine Ab.s_par ?_
 | with_reducible refine Ab.e_sl ?_
 | with_reducible refine Ab.e_noPart ?_
 | with_reducible refine Ab.e_part ?_
 | with_reducible refine Ab.e_callX ?_
 | with_reducible refine Ab.e_callN ?_
 | ((with_reducible refine Ab.o_mul ?hh ?_);(case hh=>first | exact Or.inl ⟨by decide,by decide⟩ | exact Or.inr ⟨by decide,by decide⟩))
 | ((with_reducible refine Ab.o_mod ?hh ?_);(case hh=>first | decide | omega))
 | ((with_reducible refine Ab.o_div ?hh ?_);(case hh=>exact⟨by decide +kernel,by decide +kernel⟩))
 | ((with_reducible refine Ab.o_pow ?hh ?_);(case hh=>exact⟨by decide +kernel,by decide +kernel,by decide +kernel⟩))
 | ((with_reducible refine Ab.o_shr ?hh ?_);(case hh=>first | decide | omega))
 | with_reducible refine Ab.l_lenT ?_
 | ((with_reducible refine' Ab.l_lenL ?h1 ?_);(case h1=>walk_at "ls"))
 | with_reducible refine Ab.l_abs ?_
 | with_reducible refine Ab.l_intB ?_
 | with_reducible refine Ab.l_min2 ?_
 | with_reducible refine Ab.l_max2 ?_
 | with_reducible refine Ab.l_tupT ?_
 | ((with_reducible refine' Ab.l_tupL ?h1 ?_);(case h1=>walk_at "ls"))
 | ((with_reducible refine' Ab.l_isInt ?h1 ?_);(case h1=>exact rfl))
 | ((with_reducible refine' Ab.l_isBool ?h1 ?_);(case h1=>exact rfl))
 | ((with_reducible refine' Ab.l_isStr ?h1 ?_);(case h1=>exact rfl))
 | ((with_reducible refine' Ab.l_isTuple ?h1 ?_);(case h1=>exact rfl))
 | ((with_reducible refine' Ab.l_isList ?h1 ?_);(case h1=>exact rfl))
 | with_reducible refine Ab.o_and ?_
 | with_reducible refine Ab.o_isB ?_
 | with_reducible refine Ab.o_notB ?_
 | with_reducible refine Ab.e_bits ?_
 | with_reducible refine Ab.g_name ?_
 | ((with_reducible refine' Ab.g_tup ?h1 ?_);(case h1=>exact rfl))
 | with_reducible refine Ab.g_cons ?_
 | with_reducible refine Ab.g_nil ?_
 | ((with_reducible refine' Ab.c_name ?h1 ?_);(case h1=>decide))
 | ((with_reducible refine' Ab.c_tup ?h1 ?_);(case h1=>exact rfl))
 | with_reducible refine Ab.c_cons ?_
 | with_reducible refine Ab.c_nil ?_
 | with_reducible refine Ab.s_asgG ?_
 | with_reducible refine Ab.s_sub ?_
 | ((with_reducible refine' Ab.o_slL ?h1 ?_);(case h1=>walk_at "ls"))
 | with_reducible refine Ab.o_slT ?_
 | ((with_reducible refine' Ab.e_bmL ?_))
 | with_reducible refine Ab.s_for ?_
 | with_reducible refine Ab.i_tup ?_
 | with_reducible refine Ab.i_lst ?_
 | with_reducible refine Ab.i_rng1 ?_
 | with_reducible refine Ab.i_rng2 ?_
 | with_reducible refine Ab.i_zip ?_
 | with_reducible refine Ab.e_T ?_
 | with_reducible refine Ab.e_L ?_
 | ((with_reducible refine' Ab.e_lsx ?h1 ?_);(case h1=>walk_at "ls"))
 | with_reducible refine Ab.e_dnew ?_
 | with_reducible refine Ab.e_dget ?_
 | with_reducible refine Ab.e_din ?_
 | with_reducible refine Ab.e_dnin ?_
 | with_reducible refine Ab.s_dput ?_
 | with_reducible refine Ab.o_inSign ?_
 | with_reducible refine Ab.o_ltS ?_
 | with_reducible refine Ab.dnF ?_
 | with_reducible refine Ab.dnD ?_
 | with_reducible refine Ab.dn0 ?_
 | ((with_reducible refine Go.if_t ?hh ?_);(case hh=>exact rfl))
 | ((with_reducible refine Go.if_f ?hh ?_);(case hh=>exact rfl)))
local macro_rules | `(tactic| walk_at "ret")=> `(tactic| ((repeat (first | with_reducible refine Ab.dnF ?_ | with_reducible refine Ab.dnD ?_));with_reducible refine Ab.dn0 ?_))
local macro_rules | `(tactic| walk_at "b")=> `(tactic| repeat (walk_at "e"))
local macro_rules | `(tactic| walk_at "a")=> `(tactic| repeat (first | walk_at "e" | with_reducible refine Ab.s_if ?_))
def Bits (n:Nat) (i:Int):Prop:=i.natAbs < 2^n
theorem Bits.mono {m n:Nat} {i:Int} (h:Bits m i) (hn:m≤n):Bits n i:=Nat.lt_of_lt_of_le h (Nat.pow_le_pow_right (by decide) hn)
abbrev Pt:=Int×Nat
abbrev Rw:=List Pt
abbrev ptA (x:Pt):A:= .tup [.int x.1,.int (x.2:Int)]
abbrev rowA (r:Rw):A:= .tup (r.map ptA)
def pplus (x y:Pt):Pt:=Mth.prt (x.1*2^y.2+y.1*2^x.2) (x.2+y.2)
def pless (x y:Pt):Pt:=Mth.prt (x.1*2^y.2 - y.1*2^x.2) (x.2+y.2)
def rplus (xs ys:Rw):Rw:=List.zipWith pplus xs ys
def rless (xs ys:Rw):Rw:=List.zipWith pless xs ys
def rhalf (xs:Rw) (c:Nat):Rw:=xs.map fun x=>Mth.prt x.1 (x.2+c)
def rown (ns:List Int):Rw:=ns.map (fun n=>(n,0)) ++ [(1,0)]
def rzero (n:Nat):Rw:=List.replicate (n+1) (0,0)
theorem pplus_max (a b:Int) (m n E':Nat) (hE:E'=max m n):pplus (a,m) (b,n)=Mth.prt (a*2^(E' - m)+b*2^(E' - n)) E':=by
 unfold pplus
 dsimp only
 rcases Nat.le_total m n with h | h
 ·have e0:E'=n:=by omega
  subst e0
  have e1:a*2^E'+b*2^m=(a*2^(E' - m)+b*2^(E' - E'))*2^m:=by
   rw [Nat.sub_self,Int.pow_zero,Int.mul_one,Int.add_mul,Int.mul_assoc,← Int.pow_add,Nat.sub_add_cancel h]
  rw [e1,Nat.add_comm m E',Mth.prt_pow]
 ·have e0:E'=m:=by omega
  subst e0
  have e1:a*2^n+b*2^E'=(a*2^(E' - E')+b*2^(E' - n))*2^n:=by
   rw [Nat.sub_self,Int.pow_zero,Int.mul_one,Int.add_mul,Int.mul_assoc b,← Int.pow_add,Nat.sub_add_cancel h]
  rw [e1,Mth.prt_pow]
theorem pless_neg (x:Pt) (b:Int) (n:Nat):pplus x (0 - b,n)=pless x (b,n):=by
 unfold pplus pless
 dsimp only
 rw [Int.zero_sub,Int.neg_mul,Int.sub_eq_add_neg]
theorem zip_mem {xs ys:Rw} {z:Pt×Pt} (h:z∈xs.zip ys):z.1∈xs∧z.2∈ys:=by
 obtain⟨a,b⟩:=z
 exact⟨(List.of_mem_zip h).1,(List.of_mem_zip h).2⟩
theorem str_eq {a b:Str} (h:a.cps.toList=b.cps.toList):a=b:=by
 obtain⟨a⟩:=a
 obtain⟨b⟩:=b
 have:a=b:=Array.toList_inj.mp h
 rw [this]
/-- sorted texts with the same members are the same -/
theorem sortedS_tail {x:Str} {l:List Str} (h:sortedS (x :: l)=true):sortedS l=true∧ ∀y∈l,¬ y.cps.toList < x.cps.toList:=by
 induction l generalizing x with
 | nil=>exact⟨rfl,fun y hy=>by cases hy⟩
 | cons y l ih=>
  have h2:(!Spec.ltCps y.cps.toList x.cps.toList && risingS y l)=true:=h
  obtain⟨h3,h4⟩:=Bool.and_eq_true_iff.mp h2
  have h5:sortedS (y :: l)=true:=h4
  rw [ltCps_eq] at h3
  have n1: ¬ y.cps.toList < x.cps.toList:=by simpa using h3
  refine⟨h5,fun z hz=> ?_⟩
  rcases List.mem_cons.mp hz with e | e
  ·rw [e];exact n1
  ·have n2:=(ih h5).2 z e
   exact List.not_lt.mpr (List.le_trans (List.not_lt.mp n1) (List.not_lt.mp n2))
theorem sorted_uniq {l m:List Str} (p:l.Perm m) (hl:sortedS l=true) (hm:sortedS m=true):l=m:=by
 induction l generalizing m with
 | nil=>exact(List.nil_perm.mp p).symm
 | cons x l ih=>
  cases m with
  | nil=>exact absurd p.length_eq (by simp)
  | cons y m=>
   obtain⟨h1,h2⟩:=sortedS_tail hl
   obtain⟨k1,k2⟩:=sortedS_tail hm
   have exy:x=y:=by
    have mx:x∈y :: m:=p.mem_iff.mp (.head _)
    have my:y∈x :: l:=p.mem_iff.mpr (.head _)
    rcases List.mem_cons.mp mx with e | e
    ·exact e
    ·rcases List.mem_cons.mp my with e2 | e2
     ·exact e2.symm
     ·exact str_eq (List.le_antisymm (List.not_lt.mp (h2 y e2)) (List.not_lt.mp (k2 x e)))
   subst exy
   rw [ih ((List.perm_cons x).mp p) h1 k1]
def isTx (z:Str):Prop:=z.length≤20∧ ∀c∈z.cps.toList,97≤c∧c≤122
def isTx8 (z:Str):Prop:=1≤z.length∧z.length≤8∧ ∀c∈z.cps.toList,97≤c∧c≤122
theorem isTx8.tx {z:Str} (h:isTx8 z):isTx z:=⟨by have:=h.2.1;omega,h.2.2⟩
structure En where
 nm:Str
 li:Int
 ve:Int
 nu:List Int
 ot:List Str
def lk (es:List En) (n:Str):Option En:=es.find? fun e=>decide (e.nm=n)
/-- come to, entry by entry -/
inductive Rch (es:List En) (a:Str):Str→Prop
 | here:Rch es a a
 | step {x y:Str} {e:En} (h:Rch es a x) (he:lk es x=some e) (hy:y∈e.ot):Rch es a y
/-- the greatest number at k of the entries of S, and the least name that has it -/
def Bk (S:En→Prop) (k:Nat) (m:Int) (z:Str):Prop:=(∃e,S e∧e.nu[k]? =some m∧e.nm=z)∧(∀e,S e→ ∀v,e.nu[k]? =some v→v≤m)∧ ∀e,S e→e.nu[k]? =some m→¬ e.nm.cps.toList < z.cps.toList
abbrev entA (e:En):A:= .tup [.str e.nm,.int e.li,.int e.ve,.tup (e.nu.map A.int),.tup (e.ot.map A.str)]
theorem lk_some {es:List En} {n:Str} {e:En} (h:lk es n=some e):e∈es∧e.nm=n:=by
 have h1:=List.mem_of_find?_eq_some h
 have h2:=List.find?_some h
 exact⟨h1,by simpa using h2⟩
theorem snoc_nodup {l:List Str} {x:Str} (h:l.Nodup) (n:x∉l):(l ++ [x]).Nodup:=List.nodup_append.mpr ⟨h,one_nodup x,fun a ha b hb e=>by
 rw [List.mem_singleton.mp hb] at e
 exact n (e ▸ ha)⟩
/-- come to so far: names to do, entries found -/
structure Cm (es:List En) (a:Str) (ts:List Str) (fs:List En):Prop where
 nd:ts.Nodup
 rch:∀t∈ts,Rch es a t
 fst:a∈ts
 sub:∀t∈ts,t=a∨ ∃e∈es,e.nm=t
 pre:fs.map (·.nm)=ts.take fs.length
 le:fs.length≤ts.length
 lks:∀e∈fs,lk es e.nm=some e
 ok:∀e∈fs,∀y∈e.ot,y∈ts∧ ∃d,lk es y=some d∧e.nm∈d.ot
theorem Cm.put {es:List En} {a y x:Str} {ts:List Str} {fs:List En} {e:En} (c:Cm es a ts fs) (ny:y∉ts) (hx:Rch es a x) (he:lk es x=some e) (hy:y∈e.ot) (hd:∃d∈es,d.nm=y):Cm es a (ts ++ [y]) fs where
 nd:=snoc_nodup c.nd ny
 rch:=fun t ht=>by
  rcases List.mem_append.mp ht with h | h
  ·exact c.rch t h
  ·rw [List.mem_singleton.mp h];exact .step hx he hy
 fst:=List.mem_append.mpr (.inl c.fst)
 sub:=fun t ht=>by
  rcases List.mem_append.mp ht with h | h
  ·exact c.sub t h
  ·rw [List.mem_singleton.mp h];exact .inr hd
 pre:=by rw [List.take_append_of_le_length c.le];exact c.pre
 le:=by rw [List.length_append];exact Nat.le_trans c.le (Nat.le_add_right _ _)
 lks:=c.lks
 ok:=fun e he y hy=>by
  obtain⟨h1,h2⟩:=c.ok e he y hy
  exact⟨List.mem_append.mpr (.inl h1),h2⟩
theorem sub_len {l m:List Str} (hl:l.Nodup) (h:∀x∈l,x∈m):l.length≤m.length:=by
 induction l generalizing m with
 | nil=>exact Nat.zero_le _
 | cons x l ih=>
  obtain⟨n1,n2⟩:=List.nodup_cons.mp hl
  have hx:=h x (.head _)
  have:=ih n2 (m:=m.erase x) fun y hy=>(List.mem_erase_of_ne (fun e:y=x=>n1 (e ▸ hy))).mpr (h y (.tail _ hy))
  rw [List.length_erase_of_mem hx] at this
  have:0 < m.length:=List.length_pos_of_mem hx
  rw [List.length_cons]
  omega
theorem Cm.few {es:List En} {a:Str} {ts:List Str} {fs:List En} (c:Cm es a ts fs):ts.length≤es.length+1∧fs.length≤es.length:=by
 constructor
 ·have:=sub_len c.nd (m:=a :: es.map (·.nm)) fun t ht=>by
   rcases c.sub t ht with h | ⟨e,he,h⟩
   ·rw [h];exact .head _
   ·exact .tail _ (List.mem_map.mpr ⟨e,he,h⟩)
  rw [List.length_cons,List.length_map] at this
  exact this
 ·have nd:(fs.map (·.nm)).Nodup:=by rw [c.pre];exact c.nd.sublist (List.take_sublist _ _)
  have:=sub_len nd (m:=es.map (·.nm)) fun t ht=>by
   obtain⟨e,he,rfl⟩:=List.mem_map.mp ht
   exact List.mem_map.mpr ⟨e,(lk_some (c.lks e he)).1,rfl⟩
  rw [List.length_map,List.length_map] at this
  exact this
def newerP (x y:En):Bool:=decide (y.li < x.li∨(x.li=y.li∧y.ve < x.ve))
def mput (acc:List En) (e:En):List En:=if(acc.any fun x=>decide (x.nm=e.nm))=true then acc.map (fun x=>if x.nm=e.nm then(if newerP e x=true then e else x) else x) else acc ++ [e]
def mfold (es:List En):List En:=es.foldl mput []
def insE (e:En):List En→List En
 | []=> [e]
 | x :: l=>if e.nm.cps.toList < x.nm.cps.toList then e :: x :: l else x :: insE e l
def srtE (es:List En):List En:=es.foldr insE []
def mrg (es fs:List En):List En:=srtE (mfold (es ++ fs))
abbrev rollA (es:List En):A:= .tup (es.map entA)
theorem map_at {α:Type} {f:α→A} {l:List α} {i:Nat} {x:A} (h:(l.map f)[i]? =some x):∃e,l[i]? =some e∧x=f e:=by
 rw [List.getElem?_map] at h
 cases he:l[i]? with
 | none=>rw [he] at h;cases h
 | some e=>rw [he] at h;cases h;exact⟨e,rfl,rfl⟩
theorem mput_nd {acc:List En} (h:(acc.map (·.nm)).Nodup) (e:En):((mput acc e).map (·.nm)).Nodup:=by
 unfold mput
 split
 ·have:(acc.map fun x=>if x.nm=e.nm then(if newerP e x=true then e else x) else x).map (·.nm)=acc.map (·.nm):=by
   rw [List.map_map]
   refine List.map_congr_left fun x _=> ?_
   show(if x.nm=e.nm then(if newerP e x=true then e else x) else x).nm=x.nm
   split
   ·rename_i h1
    split
    ·exact h1.symm
    ·rfl
   ·rfl
  rw [this];exact h
 ·rename_i h1
  rw [List.map_append]
  refine snoc_nodup h fun m=>h1 ?_
  obtain⟨x,hx,e2⟩:=List.mem_map.mp m
  exact List.any_eq_true.mpr ⟨x,hx,decide_eq_true e2⟩
theorem mfold_nd (es:List En):((mfold es).map (·.nm)).Nodup:=by
 unfold mfold
 have key:∀(es acc:List En),(acc.map (·.nm)).Nodup→((es.foldl mput acc).map (·.nm)).Nodup:=by
  intro es
  induction es with
  | nil=>intro acc h;exact h
  | cons e es ih=>intro acc h;exact ih _ (mput_nd h e)
 exact key es [] .nil
theorem insE_perm (e:En):∀l:List En,(insE e l).Perm (e :: l)
 | []=> .refl _
 | x :: l=>by
  unfold insE
  split
  ·exact .refl _
  ·exact((insE_perm e l).cons x).trans (.swap e x l)
theorem srtE_perm:∀l:List En,(srtE l).Perm l
 | []=> .refl _
 | x :: l=>(insE_perm x (srtE l)).trans ((srtE_perm l).cons x)
theorem sortedS_cons {x:Str} {l:List Str} (h1:sortedS l=true) (h2:∀y∈l,¬ y.cps.toList < x.cps.toList):sortedS (x :: l)=true:=by
 cases l with
 | nil=>rfl
 | cons y l=>
  show(!Spec.ltCps y.cps.toList x.cps.toList && risingS y l)=true
  rw [ltCps_eq,decide_eq_false (h2 y (.head _))]
  exact h1
theorem insE_sorted (e:En):∀l:List En,sortedS (l.map (·.nm))=true→sortedS ((insE e l).map (·.nm))=true
 | [],_=>rfl
 | x :: l,h=>by
  rw [List.map_cons] at h
  obtain⟨h1,h2⟩:=sortedS_tail h
  unfold insE
  split
  ·rename_i hlt
   rw [List.map_cons,List.map_cons]
   refine sortedS_cons h fun y hy=> ?_
   rcases List.mem_cons.mp hy with z | z
   ·rw [z];exact List.lt_asymm hlt
   ·exact fun hh=>h2 y z (List.lt_trans hh hlt)
  ·rename_i hnlt
   rw [List.map_cons]
   refine sortedS_cons (insE_sorted e l h1) fun y hy=> ?_
   have:=((insE_perm e l).map (·.nm)).mem_iff.mp hy
   rcases List.mem_cons.mp this with z | z
   ·rw [z];exact hnlt
   ·exact h2 y z
theorem srtE_sorted:∀l:List En,sortedS ((srtE l).map (·.nm))=true
 | []=>rfl
 | x :: l=>insE_sorted x (srtE l) (srtE_sorted l)
structure GcAccount (K:PySem.W.Frag):Prop where
 c:Cls K (He.ga K "Account")
 n_many:NoAttr K (He.ga K "Account") "many"
 n_seen:NoAttr K (He.ga K "Account") "seen"
 n_gifts:NoAttr K (He.ga K "Account") "gifts"
 n_takes:NoAttr K (He.ga K "Account") "takes"
 n_given:NoAttr K (He.ga K "Account") "given"
 n_taken:NoAttr K (He.ga K "Account") "taken"
structure GcHand (K:PySem.W.Frag):Prop where
 c:Cls K (He.ga K "Hand")
 n_called:NoAttr K (He.ga K "Hand") "called"
 n_life:NoAttr K (He.ga K "Hand") "life"
 n_version:NoAttr K (He.ga K "Hand") "version"
 n_own:NoAttr K (He.ga K "Hand") "own"
 n_eras:NoAttr K (He.ga K "Hand") "eras"
 n_ledger:NoAttr K (He.ga K "Hand") "ledger"
 n_heard:NoAttr K (He.ga K "Hand") "heard"
structure GcRun (K:PySem.W.Frag):Prop where
 c:Cls K (He.ga K "Run")
 n_size:NoAttr K (He.ga K "Run") "size"
 n_here:NoAttr K (He.ga K "Run") "here"
 n_up:NoAttr K (He.ga K "Run") "up"
 n_known:NoAttr K (He.ga K "Run") "known"
 n_post:NoAttr K (He.ga K "Run") "post"
 n_rows:NoAttr K (He.ga K "Run") "rows"
structure Acc where
 many:Nat
 seen:Option (Int×Int)
 gifts:Int
 given:Rw
 takes:Int
 taken:Rw
abbrev CAcc (K:PySem.W.Frag):Addr:=He.ga K "Account"
def stA:Option (Int×Int)→A
 | none=> .non
 | some x=> .tup [.int x.1,.int x.2]
def accF (n a b c d e:A):List (Str×A):= [("many",n),("seen",a),("gifts",b),("takes",c),("given",d),("taken",e)]
def accO (K:PySem.W.Frag) (a:Acc):AO:= .ins (CAcc K) (accF (.int (a.many:Int)) (stA a.seen) (.int a.gifts) (.int a.takes) (rowA a.given) (rowA a.taken))
def acc0 (n:Nat) (st:Option (Int×Int)):Acc:=⟨n,st,0,rzero n,0,rzero n⟩
section
variable {n a b c d e v:A}
theorem accF_many:(accF n a b c d e).lookup ("many" :Str)=some n:=by kernel_rfl
theorem accF_seen:(accF n a b c d e).lookup ("seen" :Str)=some a:=by kernel_rfl
theorem accF_gifts:(accF n a b c d e).lookup ("gifts" :Str)=some b:=by kernel_rfl
theorem accF_takes:(accF n a b c d e).lookup ("takes" :Str)=some c:=by kernel_rfl
theorem accF_given:(accF n a b c d e).lookup ("given" :Str)=some d:=by kernel_rfl
theorem accF_taken:(accF n a b c d e).lookup ("taken" :Str)=some e:=by kernel_rfl
end
def insS (e:Str):List Str→List Str
 | []=> [e]
 | x :: l=>if e.cps.toList < x.cps.toList then e :: x :: l else x :: insS e l
def srtS (zs:List Str):List Str:=zs.foldr insS []
structure Hd where
 called:Str
 life:Int
 version:Int
 own:List Int
 eras:List (Str×Int)
 accs:List (Str×Acc)
 heard:List En
/-- where a hand's things stand -/
structure HAd where
 p:Addr
 pe:Addr
 pl:Addr
 ps:List Addr
abbrev CHand (K:PySem.W.Frag):Addr:=He.ga K "Hand"
def handF (a b c d e f g:A):List (Str×A):= [("called",a),("life",b),("version",c),("own",d),("eras",e),("ledger",f),("heard",g)]
def erasD (l:List (Str×Int)):List (Key×A):=l.map fun x=>((.inr x.1:Key),A.int x.2)
def ledD (l:List (Str×Acc)) (ps:List Addr):List (Key×A):=List.zipWith (fun x q=>((.inr x.1:Key),A.loc q)) l ps
def accC (K:PySem.W.Frag) (l:List (Str×Acc)) (ps:List Addr):AM:=List.zipWith (fun x q=>(q,accO K x.2)) l ps
def handO (K:PySem.W.Frag) (d:HAd) (h:Hd):AO:= .ins (CHand K) (handF (.str h.called) (.int h.life) (.int h.version) (.tup (h.own.map A.int)) (.loc d.pe) (.loc d.pl) (rollA h.heard))
def handC (K:PySem.W.Frag) (d:HAd) (h:Hd):AM:=(d.p,handO K d h) :: (d.pe,.dic (erasD h.eras)) :: (d.pl,.dic (ledD h.accs d.ps)) :: accC K h.accs d.ps
namespace Hd
def names (h:Hd):List Str:=h.accs.map (·.1)
def entry (h:Hd):En:=⟨h.called,h.life,h.version,h.own,srtS h.names⟩
def written (h:Hd):Hd:= { h with heard:=mrg [h.entry] h.heard }
def changed (h:Hd):Hd:=({ h with version:=h.version+1 } :Hd).written
def era (h:Hd) (z:Str):Int:=((h.eras.find? fun x=>decide (x.1=z)).map (·.2)).getD 0
def acc (h:Hd) (z:Str):Option Acc:=(h.accs.find? fun x=>decide (x.1=z)).map (·.2)
def stamp (h:Hd) (z:Str):Int×Int:=(h.life,h.era z)
def held (h:Hd):Rw:=h.accs.foldl (fun row a=>rless (rplus row a.2.taken) a.2.given) (rown h.own)
end Hd
def updA (l:List (Str×Acc)) (z:Str) (f:Acc→Acc):List (Str×Acc):=l.map fun x=>if x.1=z then(x.1,f x.2) else x
structure Lt where
 one:Str
 other:Str
 stamp:Int×Int
 seen:Option (Int×Int)
 gifts:Int
 given:Rw
 roll:List En
abbrev ltA (l:Lt):A:= .tup [.str l.one,.str l.other,.tup [.int l.stamp.1,.int l.stamp.2],stA l.seen,.int l.gifts,rowA l.given,rollA l.roll]
namespace Hd
def letter (h:Hd) (z:Str):Lt:=match h.acc z with
 | some a=>⟨h.called,z,h.stamp z,a.seen,a.gifts,a.given,h.heard⟩
 | none=>⟨h.called,z,h.stamp z,none,0,[],h.heard⟩
def opens (h:Hd):List Str:=(srtS h.names).filter fun z=>match h.acc z with
 | some a=>a.seen.isSome
 | none=>false
def share (h:Hd):Rw:=rhalf h.held (Builtin.Int.intBits (h.opens.length:Int))
def turned (h:Hd):Hd:= { h with accs:=h.opens.foldl (fun l z=>updA l z fun a=> { a with given:=rplus a.given h.share,gifts:=a.gifts+1 }) h.accs }
def letters (h:Hd):List Lt:=(srtS h.names).map h.turned.letter
end Hd
def stLt (x y:Int×Int):Bool:=decide (x.1 < y.1∨(x.1=y.1∧x.2 < y.2))
/-- a letter comes to an account -/
def Acc.hear (a:Acc) (st:Int×Int):Acc:=match a.seen with
 | none=>acc0 a.many (some st)
 | some s=>if stLt s st=true then acc0 a.many (some st) else a
namespace Hd
def take (h:Hd) (l:Lt):Str×Hd:=match h.acc l.one with
 | none=>("",h)
 | some a=>if(match a.seen with | none=>false | some s=>stLt l.stamp s)=true then("",h) else
  let a1:=a.hear l.stamp
  if l.seen=some (h.stamp l.one)∧a1.takes < l.gifts then
   ("taken",{ h with accs:=updA h.accs l.one fun _=> { a1 with takes:=l.gifts,taken:=l.given },heard:=mrg h.heard l.roll })
  else("heard",{ h with accs:=updA h.accs l.one fun _=>a1,heard:=mrg h.heard l.roll })
def setOwn (h:Hd) (ns:List Int):Hd:=({ h with own:=ns } :Hd).changed
def tie (h:Hd) (z:Str):Hd:=({ h with eras:=if z∈h.eras.map (·.1) then h.eras else h.eras ++ [(z,0)],accs:=h.accs ++ [(z,acc0 h.own.length none)] } :Hd).changed
def cut (h:Hd) (z:Str):Hd:=({ h with eras:=h.eras.map fun x=>if x.1=z then(x.1,x.2+1) else x,accs:=h.accs.filter fun x=>decide (x.1≠z) } :Hd).changed
def fresh (h:Hd):Hd:=let h1:Hd:= { h with life:=h.life+1,version:=1,eras:=(srtS h.names).map fun z=>(z,0),accs:=(srtS h.names).map fun z=>(z,acc0 h.own.length none) }
 { h1 with heard:= [h1.entry] }
end Hd
def hd0 (z:Str) (ns:List Int) (os:List Str):Hd:=Hd.written ⟨z,1,1,ns,os.map fun o=>(o,0),os.map fun o=>(o,acc0 ns.length none),[]⟩
/-- what must be so of a hand -/
structure HdW (d:HAd) (h:Hd):Prop where
 lps:h.accs.length=d.ps.length
 nd:h.names.Nodup
 few:h.accs.length≤20
 era:∀z∈h.names,z∈h.eras.map (·.1)
 fewe:h.eras.length≤1000
 nde:(h.eras.map (·.1)).Nodup
/-- a hand stands there -/
def HIn (K:PySem.W.Frag) (M:AM) (d:HAd) (h:Hd):Prop:=Sub (handC K d h ++ []) M
def Sq (q E:Nat) (r:Rw):Prop:= ∀x∈r,x.2≤E∧x.1.natAbs≤q*2^x.2
structure HdB (n q E:Nat) (h:Hd):Prop where
 len:h.own.length=n
 n3:n≤3
 own:∀x∈h.own,x.natAbs≤q
 q1:1≤q
 acc:∀a∈h.accs,a.2.many=n∧a.2.given.length=n+1∧a.2.taken.length=n+1∧Sq q E a.2.given∧Sq q E a.2.taken
 fit:2000*q*2^(E+10) < 2^1000000
 fitE:E+10≤1000000
section
variable {a b c d e f g v:A}
theorem hF_called:(handF a b c d e f g).lookup ("called" :Str)=some a:=by kernel_rfl
theorem hF_life:(handF a b c d e f g).lookup ("life" :Str)=some b:=by kernel_rfl
theorem hF_version:(handF a b c d e f g).lookup ("version" :Str)=some c:=by kernel_rfl
theorem hF_own:(handF a b c d e f g).lookup ("own" :Str)=some d:=by kernel_rfl
theorem hF_eras:(handF a b c d e f g).lookup ("eras" :Str)=some e:=by kernel_rfl
theorem hF_ledger:(handF a b c d e f g).lookup ("ledger" :Str)=some f:=by kernel_rfl
theorem hF_heard:(handF a b c d e f g).lookup ("heard" :Str)=some g:=by kernel_rfl
end
theorem insS_perm (e:Str):∀l:List Str,(insS e l).Perm (e :: l)
 | []=> .refl _
 | x :: l=>by
  unfold insS
  split
  ·exact .refl _
  ·exact((insS_perm e l).cons x).trans (.swap e x l)
theorem srtS_perm:∀l:List Str,(srtS l).Perm l
 | []=> .refl _
 | x :: l=>(insS_perm x (srtS l)).trans ((srtS_perm l).cons x)
theorem insS_sorted (e:Str):∀l:List Str,sortedS l=true→sortedS (insS e l)=true
 | [],_=>rfl
 | x :: l,h=>by
  obtain⟨h1,h2⟩:=sortedS_tail h
  unfold insS
  split
  ·rename_i hlt
   refine sortedS_cons h fun y hy=> ?_
   rcases List.mem_cons.mp hy with z | z
   ·rw [z];exact List.lt_asymm hlt
   ·exact fun hh=>h2 y z (List.lt_trans hh hlt)
  ·rename_i hnlt
   refine sortedS_cons (insS_sorted e l h1) fun y hy=> ?_
   rcases List.mem_cons.mp ((insS_perm e l).mem_iff.mp hy) with z | z
   ·rw [z];exact hnlt
   ·exact h2 y z
theorem srtS_sorted:∀l:List Str,sortedS (srtS l)=true
 | []=>rfl
 | x :: l=>insS_sorted x (srtS l) (srtS_sorted l)
theorem srtS_eq {ys zs:List Str} (hp:ys.Perm zs) (hs:sortedS ys=true):ys=srtS zs:=sorted_uniq (hp.trans (srtS_perm zs).symm) hs (srtS_sorted zs)
theorem srtS_congr {ys zs:List Str} (hp:ys.Perm zs):srtS ys=srtS zs:=srtS_eq ((srtS_perm ys).trans hp) (srtS_sorted ys)
theorem ledD_map (l:List (Str×Acc)) (ps:List Addr):ledD l ps=((l.map (·.1)).zip ps).map fun x=>((.inr x.1:Key),A.loc x.2):=by
 unfold ledD
 rw [List.zip_map_left,List.map_map,List.zip,List.map_zipWith]
 rfl
/-- the account of a name: its place -/
theorem led_get {l:List (Str×Acc)} {ps:List Addr} (hl:l.length=ps.length) {z:Str} {i:Nat} {a:Acc} (nd:(l.map (·.1)).Nodup) (hi:l[i]? =some (z,a)):∃q,ps[i]? =some q∧valA (ledD l ps) (.inr z)=some (.loc q):=by
 have hlt:=(List.getElem?_eq_some_iff.mp hi).1
 refine⟨ps[i]'(by omega),List.getElem?_eq_getElem (by omega),?_⟩
 rw [ledD_map]
 have e:(((l.map (·.1)).zip ps).map fun x=>((.inr x.1:Key),A.loc x.2))=zipD (l.map (·.1)) ps:=by
  rw [List.zip,List.map_zipWith]
 rw [e]
 exact zip_val nd (by rw [List.getElem?_map,hi];rfl) (List.getElem?_eq_getElem (by omega))
theorem acc_at {h:Hd} {z:Str} {a:Acc} (e:h.acc z=some a):∃i:Nat,h.accs[i]? =some (z,a):=by
 unfold Hd.acc at e
 cases hf:h.accs.find? fun x=>decide (x.1=z) with
 | none=>rw [hf] at e;cases e
 | some x=>
  rw [hf] at e
  have e1:x.2=a:=Option.some.inj e
  have e2:x.1=z:=by simpa using List.find?_some hf
  obtain⟨i,hi⟩:=List.getElem?_of_mem (List.mem_of_find?_eq_some hf)
  exact⟨i,by rw [hi,← e1,← e2]⟩
theorem acc_of_mem {h:Hd} {z:Str} (hz:z∈h.names):∃a,h.acc z=some a:=by
 obtain⟨x,hx,e⟩:=List.mem_map.mp hz
 unfold Hd.acc
 cases hf:h.accs.find? fun x=>decide (x.1=z) with
 | none=>
  have:=List.find?_eq_none.mp hf x hx
  simp at this
  exact absurd e this
 | some x=>exact⟨x.2,rfl⟩
theorem lk_app {L:AM} :∀ {M:AM} {p:Addr} {o:AO},Lk M p o→Lk (M ++ L) p o
 | _,_,_,.here=> .here
 | _,_,_,.there h=> .there (lk_app h)
section
variable {K:PySem.W.Frag}
theorem lk_hand {d:HAd} {h:Hd} {F:AM} :Lk (handC K d h ++ F) d.p (handO K d h):= .here
theorem lk_eras {d:HAd} {h:Hd} {F:AM} :Lk (handC K d h ++ F) d.pe (.dic (erasD h.eras)):= .there .here
theorem lk_led {d:HAd} {h:Hd} {F:AM} :Lk (handC K d h ++ F) d.pl (.dic (ledD h.accs d.ps)):= .there (.there .here)
end
section
variable {K:PySem.W.Frag} {M:AM} {Q:A→Prop} {d:HAd} {h:Hd}
theorem hf_called (G:GcHand K) (lk:Lk M d.p (handO K d h)) (q:Q (.str h.called)):∃p C fs v,A.loc d.p= .loc p∧Lk M p (.ins C fs)∧Cls K C∧NoAttr K C ("called" :Str)∧fs.lookup ("called" :Str)=some v∧Q v:=⟨d.p,_,_,_,rfl,lk,G.c,G.n_called,hF_called,q⟩
theorem hf_life (G:GcHand K) (lk:Lk M d.p (handO K d h)) (q:Q (.int h.life)):∃p C fs v,A.loc d.p= .loc p∧Lk M p (.ins C fs)∧Cls K C∧NoAttr K C ("life" :Str)∧fs.lookup ("life" :Str)=some v∧Q v:=⟨d.p,_,_,_,rfl,lk,G.c,G.n_life,hF_life,q⟩
theorem hf_version (G:GcHand K) (lk:Lk M d.p (handO K d h)) (q:Q (.int h.version)):∃p C fs v,A.loc d.p= .loc p∧Lk M p (.ins C fs)∧Cls K C∧NoAttr K C ("version" :Str)∧fs.lookup ("version" :Str)=some v∧Q v:=⟨d.p,_,_,_,rfl,lk,G.c,G.n_version,hF_version,q⟩
theorem hf_own (G:GcHand K) (lk:Lk M d.p (handO K d h)) (q:Q (.tup (h.own.map A.int))):∃p C fs v,A.loc d.p= .loc p∧Lk M p (.ins C fs)∧Cls K C∧NoAttr K C ("own" :Str)∧fs.lookup ("own" :Str)=some v∧Q v:=⟨d.p,_,_,_,rfl,lk,G.c,G.n_own,hF_own,q⟩
theorem hf_eras (G:GcHand K) (lk:Lk M d.p (handO K d h)) (q:Q (.loc d.pe)):∃p C fs v,A.loc d.p= .loc p∧Lk M p (.ins C fs)∧Cls K C∧NoAttr K C ("eras" :Str)∧fs.lookup ("eras" :Str)=some v∧Q v:=⟨d.p,_,_,_,rfl,lk,G.c,G.n_eras,hF_eras,q⟩
theorem hf_ledger (G:GcHand K) (lk:Lk M d.p (handO K d h)) (q:Q (.loc d.pl)):∃p C fs v,A.loc d.p= .loc p∧Lk M p (.ins C fs)∧Cls K C∧NoAttr K C ("ledger" :Str)∧fs.lookup ("ledger" :Str)=some v∧Q v:=⟨d.p,_,_,_,rfl,lk,G.c,G.n_ledger,hF_ledger,q⟩
theorem hf_heard (G:GcHand K) (lk:Lk M d.p (handO K d h)) (q:Q (rollA h.heard)):∃p C fs v,A.loc d.p= .loc p∧Lk M p (.ins C fs)∧Cls K C∧NoAttr K C ("heard" :Str)∧fs.lookup ("heard" :Str)=some v∧Q v:=⟨d.p,_,_,_,rfl,lk,G.c,G.n_heard,hF_heard,q⟩
end
section
variable {K:PySem.W.Frag} {M:AM} {Q:A→Prop} {x:Addr} {a:Acc}
theorem af_many (G:GcAccount K) (lk:Lk M x (accO K a)) (q:Q (.int (a.many:Int))):∃p C fs v,A.loc x= .loc p∧Lk M p (.ins C fs)∧Cls K C∧NoAttr K C ("many" :Str)∧fs.lookup ("many" :Str)=some v∧Q v:=⟨x,_,_,_,rfl,lk,G.c,G.n_many,accF_many,q⟩
theorem af_seen (G:GcAccount K) (lk:Lk M x (accO K a)) (q:Q (stA a.seen)):∃p C fs v,A.loc x= .loc p∧Lk M p (.ins C fs)∧Cls K C∧NoAttr K C ("seen" :Str)∧fs.lookup ("seen" :Str)=some v∧Q v:=⟨x,_,_,_,rfl,lk,G.c,G.n_seen,accF_seen,q⟩
theorem af_gifts (G:GcAccount K) (lk:Lk M x (accO K a)) (q:Q (.int a.gifts)):∃p C fs v,A.loc x= .loc p∧Lk M p (.ins C fs)∧Cls K C∧NoAttr K C ("gifts" :Str)∧fs.lookup ("gifts" :Str)=some v∧Q v:=⟨x,_,_,_,rfl,lk,G.c,G.n_gifts,accF_gifts,q⟩
theorem af_takes (G:GcAccount K) (lk:Lk M x (accO K a)) (q:Q (.int a.takes)):∃p C fs v,A.loc x= .loc p∧Lk M p (.ins C fs)∧Cls K C∧NoAttr K C ("takes" :Str)∧fs.lookup ("takes" :Str)=some v∧Q v:=⟨x,_,_,_,rfl,lk,G.c,G.n_takes,accF_takes,q⟩
theorem af_given (G:GcAccount K) (lk:Lk M x (accO K a)) (q:Q (rowA a.given)):∃p C fs v,A.loc x= .loc p∧Lk M p (.ins C fs)∧Cls K C∧NoAttr K C ("given" :Str)∧fs.lookup ("given" :Str)=some v∧Q v:=⟨x,_,_,_,rfl,lk,G.c,G.n_given,accF_given,q⟩
theorem af_taken (G:GcAccount K) (lk:Lk M x (accO K a)) (q:Q (rowA a.taken)):∃p C fs v,A.loc x= .loc p∧Lk M p (.ins C fs)∧Cls K C∧NoAttr K C ("taken" :Str)∧fs.lookup ("taken" :Str)=some v∧Q v:=⟨x,_,_,_,rfl,lk,G.c,G.n_taken,accF_taken,q⟩
end
local macro_rules | `(tactic| walk_at "lkh")=> `(tactic| first | assumption | exact lk_hand | exact lk_eras | exact lk_led | walk_at "lk")
local macro_rules | `(tactic| walk_at "o")=> `(tactic| first
 | walk_at "e"
 | with_reducible refine Ab.e_fld ?_
 | with_reducible refine Ab.s_fld ?_
 | with_reducible refine Ab.e_meth ?_
 | with_reducible refine Ab.e_make ?_
 | with_reducible refine Ab.e_dget2 ?_
 | with_reducible refine Ab.e_dget1 ?_
 | with_reducible refine Ab.e_dpop ?_
 | ((with_reducible refine' hf_called ?gg ?ll ?_);(case gg=>assumption);(case ll=>walk_at "lkh"))
 | ((with_reducible refine' hf_life ?gg ?ll ?_);(case gg=>assumption);(case ll=>walk_at "lkh"))
 | ((with_reducible refine' hf_version ?gg ?ll ?_);(case gg=>assumption);(case ll=>walk_at "lkh"))
 | ((with_reducible refine' hf_own ?gg ?ll ?_);(case gg=>assumption);(case ll=>walk_at "lkh"))
 | ((with_reducible refine' hf_eras ?gg ?ll ?_);(case gg=>assumption);(case ll=>walk_at "lkh"))
 | ((with_reducible refine' hf_ledger ?gg ?ll ?_);(case gg=>assumption);(case ll=>walk_at "lkh"))
 | ((with_reducible refine' hf_heard ?gg ?ll ?_);(case gg=>assumption);(case ll=>walk_at "lkh"))
 | ((with_reducible refine' af_many ?gg ?ll ?_);(case gg=>assumption);(case ll=>walk_at "lkh"))
 | ((with_reducible refine' af_seen ?gg ?ll ?_);(case gg=>assumption);(case ll=>walk_at "lkh"))
 | ((with_reducible refine' af_gifts ?gg ?ll ?_);(case gg=>assumption);(case ll=>walk_at "lkh"))
 | ((with_reducible refine' af_takes ?gg ?ll ?_);(case gg=>assumption);(case ll=>walk_at "lkh"))
 | ((with_reducible refine' af_given ?gg ?ll ?_);(case gg=>assumption);(case ll=>walk_at "lkh"))
 | ((with_reducible refine' af_taken ?gg ?ll ?_);(case gg=>assumption);(case ll=>walk_at "lkh")))
local macro_rules | `(tactic| walk_at "h")=> `(tactic| repeat (walk_at "o"))
local macro_rules | `(tactic| walk_at "i")=> `(tactic| repeat (first | walk_at "o" | with_reducible refine Ab.s_if ?_))
section
variable {K:PySem.W.Frag} {M:AM} {d:HAd} {h:Hd} {R:Addr→Prop}
theorem hm (m:Str) (hn:(handF (.str h.called) (.int h.life) (.int h.version) (.tup (h.own.map A.int)) (.loc d.pe) (.loc d.pl) (rollA h.heard)).lookup m=none) (lk:Lk M d.p (handO K d h)) (q:R d.p):∃p fs,A.loc d.p= .loc p∧Lk M p (.ins (CHand K) fs)∧fs.lookup m=none∧R p:=⟨d.p,_,rfl,lk,hn,q⟩
end
theorem HdW.version {d:HAd} {h:Hd} (w:HdW d h) (v:Int):HdW d { h with version:=v } :=⟨w.lps,w.nd,w.few,w.era,w.fewe,w.nde⟩
theorem prt_sq {n:Int} {e q:Nat} (h:n.natAbs≤q*2^e):(Mth.prt n e).1.natAbs≤q*2^(Mth.prt n e).2∧(Mth.prt n e).2≤e:=by
 refine⟨?_,(Mth.prt_le e n).2⟩
 have w:=congrArg Int.natAbs (Mth.prt_worth e n)
 rw [Int.natAbs_mul,Int.natAbs_mul,Int.natAbs_pow,Int.natAbs_pow] at w
 have h2:(2:Int).natAbs=2:=rfl
 rw [h2] at w
 have hp:0 < 2^e:=Nat.pow_pos (by decide)
 refine Nat.le_of_mul_le_mul_right ?_ hp
 rw [w]
 calc n.natAbs*2^(Mth.prt n e).2≤q*2^e*2^(Mth.prt n e).2:=Nat.mul_le_mul_right _ h
  _=q*2^(Mth.prt n e).2*2^e:=by rw [Nat.mul_assoc,Nat.mul_assoc,Nat.mul_comm (2^e)]
theorem pow_split {m E':Nat} (h:m≤E'):2^m*2^(E' - m)=2^E':=by rw [← Nat.pow_add,Nat.add_sub_cancel' h]
theorem pplus_sq {x y:Pt} {a b E:Nat} (hx:x.2≤E∧x.1.natAbs≤a*2^x.2) (hy:y.2≤E∧y.1.natAbs≤b*2^y.2):(pplus x y).2≤E∧(pplus x y).1.natAbs≤(a+b)*2^(pplus x y).2:=by
 obtain⟨x1,m⟩:=x
 obtain⟨y1,n⟩:=y
 dsimp only at hx hy
 rw [pplus_max x1 y1 m n (max m n) rfl]
 obtain⟨E',hE⟩:∃E',max m n=E':=⟨_,rfl⟩
 rw [hE]
 have key:(x1*2^(E' - m)+y1*2^(E' - n)).natAbs≤(a+b)*2^E':=by
  refine Nat.le_trans (Int.natAbs_add_le _ _) ?_
  rw [Int.natAbs_mul,Int.natAbs_mul,Int.natAbs_pow,Int.natAbs_pow,Nat.add_mul]
  have h2:(2:Int).natAbs=2:=rfl
  rw [h2]
  refine Nat.add_le_add ?_ ?_
  ·rw [← pow_split (show m≤E' by omega),← Nat.mul_assoc];exact Nat.mul_le_mul_right _ hx.2
  ·rw [← pow_split (show n≤E' by omega),← Nat.mul_assoc];exact Nat.mul_le_mul_right _ hy.2
 obtain⟨k1,k2⟩:=prt_sq key
 exact⟨by omega,k1⟩
theorem pless_sq {x y:Pt} {a b E:Nat} (hx:x.2≤E∧x.1.natAbs≤a*2^x.2) (hy:y.2≤E∧y.1.natAbs≤b*2^y.2):(pless x y).2≤E∧(pless x y).1.natAbs≤(a+b)*2^(pless x y).2:=by
 obtain⟨y1,n⟩:=y
 rw [← pless_neg]
 exact pplus_sq hx ⟨hy.1,by dsimp only at hy ⊢;omega⟩
theorem rplus_sq {xs ys:Rw} {a b E:Nat} (hx:Sq a E xs) (hy:Sq b E ys):Sq (a+b) E (rplus xs ys):=fun z hz=>by
 unfold rplus at hz
 rw [← List.map_uncurry_zip_eq_zipWith] at hz
 obtain⟨p,hp,rfl⟩:=List.mem_map.mp hz
 obtain⟨m1,m2⟩:=zip_mem hp
 exact pplus_sq (hx _ m1) (hy _ m2)
theorem rless_sq {xs ys:Rw} {a b E:Nat} (hx:Sq a E xs) (hy:Sq b E ys):Sq (a+b) E (rless xs ys):=fun z hz=>by
 unfold rless at hz
 rw [← List.map_uncurry_zip_eq_zipWith] at hz
 obtain⟨p,hp,rfl⟩:=List.mem_map.mp hz
 obtain⟨m1,m2⟩:=zip_mem hp
 exact pless_sq (hx _ m1) (hy _ m2)
theorem rhalf_sq {xs:Rw} {a E:Nat} (hx:Sq a E xs) (c:Nat):Sq a (E+c) (rhalf xs c):=fun z hz=>by
 unfold rhalf at hz
 obtain⟨p,hp,rfl⟩:=List.mem_map.mp hz
 obtain⟨h1,h2⟩:=hx p hp
 have h3:p.1.natAbs≤a*2^(p.2+c):=Nat.le_trans h2 (Nat.mul_le_mul_left _ (Nat.pow_le_pow_right (by decide) (Nat.le_add_right _ _)))
 obtain⟨k1,k2⟩:=prt_sq h3
 exact⟨by omega,k1⟩
theorem rown_sq {ns:List Int} {q:Nat} (h:∀x∈ns,x.natAbs≤q) (h1:1≤q) (E:Nat):Sq q E (rown ns):=fun z hz=>by
 unfold rown at hz
 rcases List.mem_append.mp hz with h2 | h2
 ·obtain⟨n,hn,rfl⟩:=List.mem_map.mp h2
  exact⟨Nat.zero_le _,by show n.natAbs≤q*2^0;rw [Nat.pow_zero,Nat.mul_one];exact h n hn⟩
 ·rw [List.mem_singleton.mp h2]
  exact⟨Nat.zero_le _,by show 1≤q*2^0;omega⟩
theorem rzero_sq (n q E:Nat):Sq q E (rzero n):=fun z hz=>by
 unfold rzero at hz
 rw [List.eq_of_mem_replicate hz]
 exact⟨Nat.zero_le _,Nat.zero_le _⟩
theorem Sq.mono {q q' E E':Nat} {r:Rw} (h:Sq q E r) (hq:q≤q') (hE:E≤E'):Sq q' E' r:=fun x hx=>by
 obtain⟨h1,h2⟩:=h x hx
 exact⟨by omega,Nat.le_trans h2 (Nat.mul_le_mul_right _ hq)⟩
theorem rplus_len (xs ys:Rw):(rplus xs ys).length=min xs.length ys.length:=by unfold rplus;rw [List.length_zipWith]
theorem rless_len (xs ys:Rw):(rless xs ys).length=min xs.length ys.length:=by unfold rless;rw [List.length_zipWith]
theorem rown_len (ns:List Int):(rown ns).length=ns.length+1:=by unfold rown;rw [List.length_append,List.length_map];rfl
theorem rhalf_len (xs:Rw) (c:Nat):(rhalf xs c).length=xs.length:=by unfold rhalf;rw [List.length_map]
/-- what is held, account by account -/
def heldTo (h:Hd) (i:Nat):Rw:=(h.accs.take i).foldl (fun row a=>rless (rplus row a.2.taken) a.2.given) (rown h.own)
theorem heldTo_succ {h:Hd} {i:Nat} {a:Str×Acc} (hi:h.accs[i]? =some a):heldTo h (i+1)=rless (rplus (heldTo h i) a.2.taken) a.2.given:=by
 unfold heldTo
 rw [List.take_add_one,hi,List.foldl_append];rfl
theorem heldTo_ok {n q E:Nat} {h:Hd} (b:HdB n q E h):∀i,(heldTo h i).length=n+1∧Sq (q+2*i*q) E (heldTo h i)
 | 0=>⟨by show(rown h.own).length=_;rw [rown_len,b.len],by rw [Nat.mul_zero,Nat.zero_mul,Nat.add_zero];exact rown_sq b.own b.q1 E⟩
 | i+1=>by
  obtain⟨h1,h2⟩:=heldTo_ok b i
  cases hi:h.accs[i]? with
  | none=>
   have e:heldTo h (i+1)=heldTo h i:=by
    unfold heldTo
    rw [List.take_add_one,hi];simp
   rw [e]
   refine⟨h1,h2.mono ?_ (Nat.le_refl _)⟩
   have:2*i*q≤2*(i+1)*q:=Nat.mul_le_mul_right _ (by omega)
   omega
  | some a=>
   obtain⟨_,g1,g2,g3,g4⟩:=b.acc a (List.mem_of_getElem? hi)
   rw [heldTo_succ hi]
   refine⟨by rw [rless_len,rplus_len,h1,g1,g2];omega,?_⟩
   have:=rless_sq (rplus_sq h2 g4) g3
   refine this.mono ?_ (Nat.le_refl _)
   have e:2*(i+1)*q=2*i*q+2*q:=by rw [Nat.mul_add,Nat.add_mul]
   omega
theorem heldTo_all (h:Hd):heldTo h h.accs.length=h.held:=by unfold heldTo Hd.held;rw [List.take_of_length_le (Nat.le_refl _)]
theorem updA_names (l:List (Str×Acc)) (z:Str) (f:Acc→Acc):(updA l z f).map (·.1)=l.map (·.1):=by
 unfold updA
 rw [List.map_map]
 refine List.map_congr_left fun x _=> ?_
 show(if x.1=z then(x.1,f x.2) else x).1=x.1
 split <;> rfl
theorem HdW.accs {d:HAd} {h:Hd} (w:HdW d h) {l:List (Str×Acc)} (e:l.map (·.1)=h.accs.map (·.1)):HdW d { h with accs:=l } :=by
 have el:l.length=h.accs.length:=by have:=congrArg List.length e;rw [List.length_map,List.length_map] at this;exact this
 refine⟨by show l.length=_;rw [el];exact w.lps,?_,by show l.length≤_;rw [el];exact w.few,?_,w.fewe,w.nde⟩
 ·show(l.map (·.1)).Nodup
  rw [e];exact w.nd
 ·intro z hz
  have hz2:z∈l.map (·.1):=hz
  rw [e] at hz2
  exact w.era z hz2
/-- the accounts behind so many gifts -/
def gaveTo (h:Hd) (i:Nat):List (Str×Acc):=(h.opens.take i).foldl (fun l z=>updA l z fun a=> { a with given:=rplus a.given h.share,gifts:=a.gifts+1 }) h.accs
theorem gaveTo_names (h:Hd) (i:Nat):(gaveTo h i).map (·.1)=h.accs.map (·.1):=by
 unfold gaveTo
 generalize h.opens.take i=zs
 have key:∀(zs:List Str) (l:List (Str×Acc)),(zs.foldl (fun l z=>updA l z fun a=> { a with given:=rplus a.given h.share,gifts:=a.gifts+1 }) l).map (·.1)=l.map (·.1):=by
  intro zs
  induction zs with
  | nil=>intro l;rfl
  | cons z zs ih=>intro l;rw [List.foldl_cons,ih,updA_names]
 exact key zs h.accs
theorem gaveTo_succ {h:Hd} {i:Nat} {z:Str} (hi:h.opens[i]? =some z):gaveTo h (i+1)=updA (gaveTo h i) z fun a=> { a with given:=rplus a.given h.share,gifts:=a.gifts+1 } :=by
 unfold gaveTo
 rw [List.take_add_one,hi,List.foldl_append];rfl
theorem opens_len (h:Hd):h.opens.length≤h.accs.length:=by
 unfold Hd.opens
 refine Nat.le_trans (List.length_filter_le _ _) ?_
 rw [(srtS_perm h.names).length_eq]
 unfold Hd.names
 rw [List.length_map];exact Nat.le_refl _
theorem bits20 {n:Nat} (h:n≤20):Builtin.Int.intBits (n:Int)≤5:=by
 have key:∀n:Nat,n≤20→Builtin.Int.intBits (n:Int)≤5:=by decide +kernel
 exact key n h
theorem share_ok {n q E:Nat} {d:HAd} {h:Hd} (w:HdW d h) (b:HdB n q E h):h.share.length=n+1∧Sq (41*q) (E+5) h.share:=by
 obtain⟨h1,h2⟩:=heldTo_ok b h.accs.length
 rw [heldTo_all] at h1 h2
 have few:=w.few
 have lo:=opens_len h
 unfold Hd.share
 refine⟨by rw [rhalf_len];exact h1,(rhalf_sq h2 _).mono ?_ ?_⟩
 ·have:2*h.accs.length*q≤40*q:=Nat.mul_le_mul_right _ (by omega)
  omega
 ·have:=bits20 (show h.opens.length≤20 by omega)
  omega
theorem gaveTo_ok {n q E:Nat} {d:HAd} {h:Hd} (w:HdW d h) (b:HdB n q E h):∀i,∀a∈gaveTo h i,a.2.given.length=n+1∧Sq (q+i*(41*q)) (E+5) a.2.given
 | 0,a,ha=>by
  obtain⟨_,g1,g2,g3,g4⟩:=b.acc a ha
  exact⟨g1,g3.mono (by omega) (by omega)⟩
 | i+1,a,ha=>by
  have mono:q+i*(41*q)≤q+(i+1)*(41*q):=by
   have:i*(41*q)≤(i+1)*(41*q):=Nat.mul_le_mul_right _ (by omega)
   omega
  cases hz:h.opens[i]? with
  | none=>
   have e:gaveTo h (i+1)=gaveTo h i:=by
    unfold gaveTo
    rw [List.take_add_one,hz];simp
   rw [e] at ha
   obtain⟨h1,h2⟩:=gaveTo_ok w b i a ha
   exact⟨h1,h2.mono mono (Nat.le_refl _)⟩
  | some z=>
   rw [gaveTo_succ hz] at ha
   unfold updA at ha
   obtain⟨x,hx,rfl⟩:=List.mem_map.mp ha
   obtain⟨h1,h2⟩:=gaveTo_ok w b i x hx
   obtain⟨s1,s2⟩:=share_ok w b
   split
   ·refine⟨by show(rplus x.2.given h.share).length=_;rw [rplus_len,h1,s1];omega,?_⟩
    show Sq _ _ (rplus x.2.given h.share)
    refine(rplus_sq h2 s2).mono ?_ (Nat.le_refl _)
    rw [Nat.add_mul];omega
   ·exact⟨h1,h2.mono mono (Nat.le_refl _)⟩
theorem acc_none {h:Hd} {z:Str} (e:h.acc z=none):z∉h.names:=by
 intro hz
 obtain⟨a,ha⟩:=acc_of_mem hz
 rw [ha] at e;cases e
theorem HdW.own {d:HAd} {h:Hd} (w:HdW d h) (v:List Int):HdW d { h with own:=v } :=⟨w.lps,w.nd,w.few,w.era,w.fewe,w.nde⟩
theorem ledD_app {l l':List (Str×Acc)} {ps ps':List Addr} (h:l.length=ps.length):ledD (l ++ l') (ps ++ ps')=ledD l ps ++ ledD l' ps':=by
 unfold ledD;rw [List.zipWith_append h]
theorem accC_app {K:PySem.W.Frag} {l l':List (Str×Acc)} {ps ps':List Addr} (h:l.length=ps.length):accC K (l ++ l') (ps ++ ps')=accC K l ps ++ accC K l' ps':=by
 unfold accC;rw [List.zipWith_append h]
theorem led_keys {l:List (Str×Acc)} {ps:List Addr} {z:Str} (h:(.inr z:Key)∈(ledD l ps).map (·.1)):z∈l.map (·.1):=by
 rw [ledD_map,List.map_map] at h
 obtain⟨x,hx,e⟩:=List.mem_map.mp h
 have:=Sum.inr.inj e
 rw [← this]
 exact(List.of_mem_zip hx).1
theorem HdW.tied {d:HAd} {h:Hd} (hw:HdW d h) {z:Str} {a:Acc} (hac:h.accs.length≤18) (hec:h.eras.length≤900) (hz:z∉h.names) (p:Addr):HdW { d with ps:=d.ps ++ [p] } { h with eras:=if z∈h.eras.map (·.1) then h.eras else h.eras ++ [(z,0)],accs:=h.accs ++ [(z,a)] } where
 lps:=by show(h.accs ++ [(z,a)]).length=(d.ps ++ [p]).length;rw [List.length_append,List.length_append,hw.lps];rfl
 nd:=by
  show((h.accs ++ [(z,a)]).map (·.1)).Nodup
  rw [List.map_append]
  refine List.nodup_append.mpr ⟨hw.nd,by simp,fun x hx y hy e=> ?_⟩
  have:y=z:=by simpa using hy
  rw [← this,← e] at hz
  exact hz hx
 few:=by show(h.accs ++ [(z,a)]).length≤20;rw [List.length_append];show _+1≤20;omega
 era:=by
  intro x hx
  have hx:x∈(h.accs ++ [(z,a)]).map (·.1):=hx
  show x∈(if z∈h.eras.map (·.1) then h.eras else h.eras ++ [(z,0)]).map (·.1)
  rw [List.map_append] at hx
  have key:x∈h.eras.map (·.1)∨x=z:=by
   rcases List.mem_append.mp hx with y | y
   ·exact .inl (hw.era x y)
   ·exact .inr (by simpa using y)
  split
  ·rename_i hz2
   rcases key with y | y
   ·exact y
   ·rw [y];exact hz2
  ·rw [List.map_append]
   rcases key with y | y
   ·exact List.mem_append.mpr (.inl y)
   ·exact List.mem_append.mpr (.inr (by rw [y];simp))
 fewe:=by
  show(if z∈h.eras.map (·.1) then h.eras else h.eras ++ [(z,0)]).length≤1000
  split
  ·omega
  ·rw [List.length_append];show _+1≤1000;omega
 nde:=by
  show((if z∈h.eras.map (·.1) then h.eras else h.eras ++ [(z,0)]).map (·.1)).Nodup
  split
  ·exact hw.nde
  ·rename_i hz2
   rw [List.map_append]
   refine List.nodup_append.mpr ⟨hw.nde,by simp,fun x hx y hy e=> ?_⟩
   have:y=z:=by simpa using hy
   rw [← this,← e] at hz2
   exact hz2 hx
theorem zip_split {α β:Type} :∀ {l:List α} {ps:List β} {i:Nat} {a:α},l.length=ps.length→l[i]? =some a→ ∃l1 l2 p1 q p2,l=l1 ++ a :: l2∧ps=p1 ++ q :: p2∧l1.length=p1.length∧l2.length=p2.length∧ps[i]? =some q
 | [],_,_,_,_,h=>by cases h
 | _ :: _,[],_,_,h,_=>by cases h
 | x :: l,q :: ps,0,a,h,e=>by
  cases e
  exact⟨[],l,[],q,ps,rfl,rfl,rfl,by simpa using h,rfl⟩
 | x :: l,q0 :: ps,i+1,a,h,e=>by
  obtain⟨l1,l2,p1,q,p2,e1,e2,h1,h2,h3⟩:=zip_split (l:=l) (ps:=ps) (i:=i) (a:=a) (by simpa using h) e
  exact⟨x :: l1,l2,q0 :: p1,q,p2,by rw [e1];rfl,by rw [e2];rfl,by simp [h1],h2,h3⟩
theorem filt_ne {l:List (Str×Acc)} {z:Str} (h:z∉l.map (·.1)):(l.filter fun x=>decide (x.1≠z))=l:=by
 refine List.filter_eq_self.mpr fun x hx=> ?_
 have:x.1≠z:=fun e=>h (e ▸ List.mem_map_of_mem hx)
 simp [this]
theorem drop_led {l:List (Str×Acc)} {ps:List Addr} {z:Str} (h:z∉l.map (·.1)):dropA (ledD l ps) (.inr z)=ledD l ps:=by
 unfold dropA
 refine List.filter_eq_self.mpr fun x hx=> ?_
 have:x.1≠ .inr z:=fun e=>h (led_keys (ps:=ps) (e ▸ List.mem_map_of_mem hx))
 simp [this]
theorem HdW.cut {d:HAd} {h:Hd} (hw:HdW d h) {z:Str} (hz:z∈h.names):∃(q:Addr) (a:Acc) (ps:List Addr),valA (ledD h.accs d.ps) (.inr z)=some (.loc q)∧dropA (ledD h.accs d.ps) (.inr z)=ledD (h.accs.filter fun x=>decide (x.1≠z)) ps∧(∀K,(accC K h.accs d.ps).Perm ((q,accO K a) :: accC K (h.accs.filter fun x=>decide (x.1≠z)) ps))∧HdW { d with ps:=ps } { h with eras:=h.eras.map fun x=>if x.1=z then(x.1,x.2+1) else x,accs:=h.accs.filter fun x=>decide (x.1≠z) } :=by
 obtain⟨a,ha⟩:=acc_of_mem hz
 obtain⟨i,hi⟩:=acc_at ha
 obtain⟨q,hq,hv⟩:=led_get hw.lps hw.nd hi
 obtain⟨l1,l2,p1,q',p2,e1,e2,h1,h2,h3⟩:=zip_split hw.lps hi
 cases h3.symm.trans hq
 have nd:=hw.nd
 have few:=hw.few
 unfold Hd.names at nd
 rw [e1,List.map_append,List.map_cons] at nd
 obtain⟨n1,n2,n3⟩:=List.nodup_append.mp nd
 obtain⟨n4,n5⟩:=List.nodup_cons.mp n2
 have z1:z∉l1.map (·.1):=fun c=>n3 z c z (List.mem_cons_self) rfl
 have ef:(h.accs.filter fun x=>decide (x.1≠z))=l1 ++ l2:=by
  rw [e1,List.filter_append,List.filter_cons,filt_ne z1,filt_ne n4]
  simp
 refine⟨q,a,p1 ++ p2,hv,?_,fun K=> ?_,?_⟩
 ·rw [ef,e1,e2,ledD_app h1,ledD_app h1]
  unfold dropA
  rw [List.filter_append]
  have:=drop_led (ps:=p1) z1
  unfold dropA at this
  rw [this]
  have:=drop_led (ps:=p2) n4
  unfold dropA at this
  show _ ++ List.filter _ ((.inr z,A.loc q) :: ledD l2 p2)=_
  rw [List.filter_cons,this]
  simp
 ·rw [ef,e1,e2,accC_app h1,accC_app h1]
  exact List.perm_middle
 ·rw [ef]
  have ee:((h.eras.map fun x=>if x.1=z then(x.1,x.2+1) else x).map (·.1))=h.eras.map (·.1):=by
   rw [List.map_map]
   refine List.map_congr_left fun x _=> ?_
   show(if x.1=z then(x.1,x.2+1) else x).1=x.1
   split <;> rfl
  refine⟨?_,?_,?_,?_,?_,?_⟩
  ·show(l1 ++ l2).length=(p1 ++ p2).length
   rw [List.length_append,List.length_append,h1,h2]
  ·show((l1 ++ l2).map (·.1)).Nodup
   rw [List.map_append]
   exact List.nodup_append.mpr ⟨n1,n5,fun x hx y hy=>n3 x hx y (List.mem_cons_of_mem _ hy)⟩
  ·show(l1 ++ l2).length≤20
   rw [e1,List.length_append,List.length_cons] at few
   rw [List.length_append];omega
  ·intro x hx
   show x∈(h.eras.map fun x=>if x.1=z then(x.1,x.2+1) else x).map (·.1)
   rw [ee]
   refine hw.era x ?_
   have hx:x∈(l1 ++ l2).map (·.1):=hx
   unfold Hd.names
   rw [e1]
   rw [List.map_append] at hx ⊢
   rcases List.mem_append.mp hx with y | y
   ·exact List.mem_append.mpr (.inl y)
   ·exact List.mem_append.mpr (.inr (List.mem_cons_of_mem _ y))
  ·show(h.eras.map _).length≤1000
   rw [List.length_map];exact hw.fewe
  ·show((h.eras.map fun x=>if x.1=z then(x.1,x.2+1) else x).map (·.1)).Nodup
   rw [ee];exact hw.nde
theorem e_permQ {K:PySem.W.Frag} {Ex:XK} {Xa:XA} {s:Sv} {M:AM} {te:TE} {Q:QA} (q:EE K Ex Xa te s M fun y M3=> ∃M4,M3.Perm M4∧Q y M4):EE K Ex Xa te s M Q:=fun σ H Qc rep k=>
 q σ H Qc rep fun a v M' H' st rm rv ⟨M4,h,q4⟩=>k a v M4 H' (st.trans (Step.perm h)) (rm.perm h) (rv.step (Step.perm h)) q4
theorem lk_pre {M:AM} {p:Addr} {o:AO} (h:Lk M p o):∀ {L:AM},Lk (L ++ M) p o
 | []=>h
 | _ :: _=> .there (lk_pre h)
/-- so many new accounts -/
def newC (K:PySem.W.Frag) (a:Acc) (qs:List Addr):AM:=qs.map fun q=>(q,accO K a)
def intB:A→Bool | .int _=>true | _=>false
def nmB (z:Str):Bool:=decide (1≤z.length) && decide (z.length≤8) && (z.cps.toList.all fun c=>decide (97≤c∧c≤122))
theorem nmB_of {z:Str} (h:isTx8 z):nmB z=true:=by
 unfold nmB
 rw [decide_eq_true h.1,decide_eq_true h.2.1]
 exact List.all_eq_true.mpr fun c hc=>decide_eq_true (h.2.2 c hc)
def numB:A→Bool | .int i=>decide (-1000000000000≤i∧i≤1000000000000) | _=>false
def numsB:A→Bool | .tup xs=>decide (1≤xs.length) && decide (xs.length≤3) && xs.all numB | _=>false
def nameB:A→Bool | .str z=>nmB z | _=>false
structure GH (hs:List (Str×List Int)) (n:Nat):Prop where
 h1:1≤hs.length
 h8:hs.length≤8
 nm:∀h∈hs,isTx8 h.1
 len:∀h∈hs,h.2.length=n
 num:∀h∈hs,∀x∈h.2,-1000000000000≤x∧x≤1000000000000
 n1:1≤n
 n3:n≤3
 nd:(hs.map (·.1)).Nodup
def fIsInt:ASp:=fun as M Q=> ∃a:A,as= [a]∧a.plain=true∧Q (.bl (intB a)) M
def fIsName:ASp:=fun as M Q=> ∃a:A,as= [a]∧a.plain=true∧(∀z,a= .str z→z.length≤1000000)∧Q (.bl (nameB a)) M
def fIsNumbers:ASp:=fun as M Q=> ∃a:A,as= [a]∧a.plain=true∧(∀xs,a= .tup xs→xs.all A.plain=true)∧Q (.bl (numsB a)) M
/-- odd things: what may be looked at -/
def OdE (x:A):Prop:=x.plain=true∧ ∀z,x= .str z→z.length≤1000000
def Od1 (a:A):Prop:=OdE a∧ ∀xs,a= .tup xs→xs.length≤1000∧ ∀x∈xs,OdE x∧ ∀ys,x= .tup ys→ys.all A.plain=true
def twoB:A→A→Bool | .str n,.str o=>nmB o && !decide (o=n) | _,_=>false
def comeB:A→List A→Bool | .int k,[]=>decide (0≤k) | _,_=>false
def deedR (w:Str) (n:A):List A→Bool
 | []=>decide (w∈(["turn","fall","back","fresh","leave"]:List Str))
 | [u]=> !decide (w∈(["turn","fall","back","fresh","leave"]:List Str)) && (if w∈(["set","join"]:List Str) then numsB u else decide (w∈(["tie","cut"]:List Str)) && twoB n u)
 | _=>false
def deedB:A→Bool
 | .tup (.str w :: n :: r)=>if w= "come" then comeB n r else nameB n && deedR w n r
 | _=>false
/-- a deed of a right kind -/
inductive Dd
 | turn (n:Str)
 | come (k:Nat)
 | fall (n:Str)
 | back (n:Str)
 | fresh (n:Str)
 | leave (n:Str)
 | set (n:Str) (ns:List Int)
 | join (n:Str) (ns:List Int)
 | tie (n o:Str)
 | cut (n o:Str)
def ddA:Dd→A
 | .turn n=> .tup [.str "turn",.str n]
 | .come k=> .tup [.str "come",.int (k:Int)]
 | .fall n=> .tup [.str "fall",.str n]
 | .back n=> .tup [.str "back",.str n]
 | .fresh n=> .tup [.str "fresh",.str n]
 | .leave n=> .tup [.str "leave",.str n]
 | .set n ns=> .tup [.str "set",.str n,.tup (ns.map A.int)]
 | .join n ns=> .tup [.str "join",.str n,.tup (ns.map A.int)]
 | .tie n o=> .tup [.str "tie",.str n,.str o]
 | .cut n o=> .tup [.str "cut",.str n,.str o]
/-- its names are names -/
def Dd.nmd:Dd→Prop
 | .turn n | .fall n | .back n | .fresh n | .leave n=>isTx8 n
 | .come _=>True
 | .set n _ | .join n _=>isTx8 n
 | .tie n o | .cut n o=>isTx8 n∧isTx8 o
def Dd.formB:Dd→Bool
 | .set _ ns | .join _ ns=>numsB (.tup (ns.map A.int))
 | .tie n o | .cut n o=> !decide (o=n)
 | _=>true
def fIsDeed:ASp:=fun as M Q=>(∃d:Dd,as= [ddA d]∧d.nmd∧Q (.bl d.formB) M)∨(∃a:A,as= [a]∧Od1 a∧deedB a=false∧Q (.bl false) M)
abbrev N_is_int:List Str:= ["thing"]
def t_is_int (K:PySem.W.Frag):TS:=
 (tRet (tAndV (tCB (rIsi K) (tCons (tVar 0) (tCons (tC (.ty "int")) tNil))) (tNotV (tCB (rIsi K) (tCons (tVar 0) (tCons (tC (.ty "bool")) tNil))))))
abbrev N_is_name:List Str:= ["thing","sign"]
def t_is_name (K:PySem.W.Frag):TS:=
 (tSeq (tIfS (tOr (tNot (tB (tCB (rIsi K) (tCons (tVar 0) (tCons (tC (.ty "str")) tNil))))) (tNot (tTest (tChain rLeI rLeI (tC (.int 1)) (tCB rLenStr (tCons (tVar 0) tNil)) (tC (.int 8)))))) (tRet (tC (.bl false))) tNext)
  (tRet (tCB (rAll K) (tCons (tLc (iStr (tVar 0)) (gName 1) tYes (tOp rInS (tVar 1) (tC (.str ("abcdefghijklmnopqrstuvwxyz" :Str)))) [1]) tNil))))
abbrev N_is_numbers:List Str:= ["thing","one"]
def t_is_numbers (K:PySem.W.Frag):TS:=
 (tSeq (tIfS (tOr (tNot (tB (tCB (rIsi K) (tCons (tVar 0) (tCons (tC (.ty "tuple")) tNil))))) (tNot (tTest (tChain rLeI rLeI (tC (.int 1)) (tCB (Evl.rLenS K) (tCons (tVar 0) tNil)) (tC (.int 3)))))) (tRet (tC (.bl false))) tNext)
  (tRet (tCB (rAll K) (tCons (tLc (iTup K (tVar 0)) (gName 1) tYes (tAndV (tCall (cs K fIsInt) [] E0 (tCons (tVar 1) tNil)) (tChain rLeI rLeI (tOp rSubI (tC (.int 0)) (tC (.int 1000000000000))) (tVar 1) (tC (.int 1000000000000)))) [1]) tNil))))
abbrev N_is_deed:List Str:= ["thing"]
def t_is_deed (K:PySem.W.Frag):TS:=
 (tSeq (tIfS (tOr (tNot (tB (tCB (rIsi K) (tCons (tVar 0) (tCons (tC (.ty "tuple")) tNil))))) (tOr (tTest (tOp rLtI (tCB (Evl.rLenS K) (tCons (tVar 0) tNil)) (tC (.int 2)))) (tNot (tB (tCB (rIsi K) (tCons (tOp (rIxT K) (tVar 0) (tC (.int 0))) (tCons (tC (.ty "str")) tNil))))))) (tRet (tC (.bl false))) tNext)
  (tSeq (tIfS (tTest (tOp rEq (tOp (rIxT K) (tVar 0) (tC (.int 0))) (tC (.str ("come" :Str))))) (tRet (tAndV (tOp rEq (tCB (Evl.rLenS K) (tCons (tVar 0) tNil)) (tC (.int 2))) (tAndV (tCall (cs K fIsInt) [] E0 (tCons (tOp (rIxT K) (tVar 0) (tC (.int 1))) tNil)) (tOp rGeI (tOp (rIxT K) (tVar 0) (tC (.int 1))) (tC (.int 0)))))) tNext)
  (tSeq (tIfS (tNot (tB (tCall (cs K fIsName) [] E0 (tCons (tOp (rIxT K) (tVar 0) (tC (.int 1))) tNil)))) (tRet (tC (.bl false))) tNext)
  (tSeq (tIfS (tTest (tOp (rIn K false) (tOp (rIxT K) (tVar 0) (tC (.int 0))) (tC (.ref (He.ga K "OF_ONE"))))) (tRet (tOp rEq (tCB (Evl.rLenS K) (tCons (tVar 0) tNil)) (tC (.int 2)))) tNext)
  (tSeq (tIfS (tTest (tOp rNe (tCB (Evl.rLenS K) (tCons (tVar 0) tNil)) (tC (.int 3)))) (tRet (tC (.bl false))) tNext)
  (tSeq (tIfS (tTest (tOp (rIn K false) (tOp (rIxT K) (tVar 0) (tC (.int 0))) (tC (.ref (He.ga K "OF_NUMBERS"))))) (tRet (tCall (cs K fIsNumbers) [] E0 (tCons (tOp (rIxT K) (tVar 0) (tC (.int 2))) tNil))) tNext)
  (tRet (tAndV (tOp (rIn K false) (tOp (rIxT K) (tVar 0) (tC (.int 0))) (tC (.ref (He.ga K "OF_TWO")))) (tAndV (tCall (cs K fIsName) [] E0 (tCons (tOp (rIxT K) (tVar 0) (tC (.int 2))) tNil)) (tOp (rNeD K) (tOp (rIxT K) (tVar 0) (tC (.int 2))) (tOp (rIxT K) (tVar 0) (tC (.int 1)))))))))))))
theorem az_mem (c:Nat):decide (c∈(("abcdefghijklmnopqrstuvwxyz" :Str)).cps.toList)=decide (97≤c∧c≤122):=by
 have e:(("abcdefghijklmnopqrstuvwxyz" :Str)).cps.toList=List.range' 97 26:=by decide +kernel
 rw [e]
 refine decide_eq_decide.mpr ?_
 rw [List.mem_range']
 constructor
 ·rintro⟨i,h1,h2⟩;omega
 ·rintro⟨h1,h2⟩;exact⟨c - 97,by omega,by omega⟩
theorem all_id {α:Type} (p:α→Bool) (l:List α):(l.map p).all id=l.all p:=by rw [List.all_map];rfl
theorem p_is_int_len {K:PySem.W.Frag} {vs:List V} {H:Hp} {Q:VK} {E:XK} (h:cs K fIsInt vs H Q E):vs.length=1:=fn_len (fun as M Q ⟨_,e,_⟩=>by rw [e];rfl) h
theorem p_is_int {K:PySem.W.Frag} {vs:List V} {H:Hp} {Q:VK} {E:XK} (h:cs K fIsInt vs H Q E):t_is_int K { nx:=fun _ H'=>Q .non H',rt:=Q } (start N_is_int vs) H:=fn_of h fun as M Qa h=>by
 obtain⟨a,rfl,hp,q⟩:=h
 unfold t_is_int
 cases a <;> first | (cases hp;done) | (walk_at "a";exact q)
theorem p_is_name_len {K:PySem.W.Frag} {vs:List V} {H:Hp} {Q:VK} {E:XK} (h:cs K fIsName vs H Q E):vs.length=1:=fn_len (fun as M Q ⟨_,e,_⟩=>by rw [e];rfl) h
theorem p_is_name {K:PySem.W.Frag} {vs:List V} {H:Hp} {Q:VK} {E:XK} (h:cs K fIsName vs H Q E):t_is_name K { nx:=fun _ H'=>Q .non H',rt:=Q } (start N_is_name vs) H:=fn_of h fun as M Qa h=>by
 obtain⟨a,rfl,hp,hl,q⟩:=h
 unfold t_is_name
 cases a with
 | str z=>
  ((with_reducible refine Ab.s_seq ?_);(with_reducible refine Ab.s_if ?_);(with_reducible refine Ab.t_or ?_);(with_reducible refine Ab.t_not ?_);(with_reducible refine Ab.t_B ?_);(with_reducible refine Ab.e_cb ?_);(with_reducible refine Ab.a_cons ?_);((with_reducible refine' Ab.e_var ?hh_557 ?_);(case hh_557=>exact rfl));(with_reducible refine Ab.a_cons ?_);(with_reducible refine Ab.e_ty ?_);(with_reducible refine Ab.a_nil ?_);((with_reducible refine' Ab.l_isStr ?h1_558 ?_);(case h1_558=>exact rfl));(with_reducible refine Ab.e_B ?_);((with_reducible refine Go.if_f ?hh_559 ?_);(case hh_559=>exact rfl));(with_reducible refine Ab.t_not ?_);(with_reducible refine Ab.t_testB ?_);(with_reducible refine Ab.e_chain ?_);(with_reducible refine Ab.e_int ?_);(with_reducible refine Ab.e_cb ?_);(with_reducible refine Ab.a_cons ?_);((with_reducible refine' Ab.e_var ?hh_560 ?_);(case hh_560=>exact rfl));(with_reducible refine Ab.a_nil ?_))
  refine l_lenS (small (by have:=hl z rfl;omega)) ?_
  ((with_reducible refine Ab.o_le ?_);(with_reducible refine Ab.e_B ?_))
  by_cases c1:(1:Int)≤(z.length:Int)
  ·refine if_t (decide_eq_true c1) ?_
   ((with_reducible refine Ab.e_int ?_);(with_reducible refine Ab.o_le ?_);(with_reducible refine Ab.e_B ?_))
   by_cases c2:(z.length:Int)≤8
   ·rw [decide_eq_true c2]
    (((with_reducible refine Go.if_f ?hh_561 ?_);(case hh_561=>exact rfl));(with_reducible refine Ab.s_next ?_);(with_reducible refine Ab.s_ret ?_);(with_reducible refine Ab.e_cb ?_);(with_reducible refine Ab.a_cons ?_))
    refine e_mapF (α:=Nat) (fun c=> .bl (decide (97≤c∧c≤122))) ?_
    refine i_str ?_
    (((with_reducible refine' Ab.e_var ?hh_562 ?_);(case hh_562=>exact rfl)))
    refine⟨z,rfl,sign,z.cps.toList,rfl,small (by
     have:=hl z rfl
     have:z.cps.toList.length=z.length:=by rw [Array.length_toList];rfl
     omega),fun c hc M' up=> ?_,?_⟩
    ·(((with_reducible refine' Ab.c_name ?h1_563 ?_);(case h1_563=>decide));(with_reducible refine Ab.e_op ?_);((with_reducible refine' Ab.e_var ?hh_564 ?_);(case hh_564=>exact rfl));(with_reducible refine Ab.e_str ?_);(with_reducible refine Ab.o_inSign ?_))
     exact⟨rfl,by rw [az_mem]⟩
    ((with_reducible refine Ab.a_nil ?_))
    refine l_all (bs:=z.cps.toList.map fun c=>decide (97≤c∧c≤122)) (by rw [List.map_map];exact LsA.lst) ?_
    have e:nameB (.str z)=(z.cps.toList.map fun c=>decide (97≤c∧c≤122)).all id:=by
     rw [all_id]
     show nmB z=_
     unfold nmB
     rw [decide_eq_true (show 1≤z.length by omega),decide_eq_true (show z.length≤8 by omega)]
     rfl
    rw [e] at q
    ((with_reducible refine Ab.dn0 ?_))
    exact q
   ·rw [decide_eq_false c2]
    have e:nameB (.str z)=false:=by
     show nmB z=false
     unfold nmB
     rw [decide_eq_false (show ¬ z.length≤8 by omega)]
     simp
    rw [e] at q
    (((with_reducible refine Go.if_t ?hh_565 ?_);(case hh_565=>exact rfl));(with_reducible refine Ab.s_ret ?_);(with_reducible refine Ab.e_bl ?_);(with_reducible refine Ab.dn0 ?_))
    exact q
  ·refine if_f (decide_eq_false c1) ?_
   have e:nameB (.str z)=false:=by
    show nmB z=false
    unfold nmB
    rw [decide_eq_false (show ¬ 1≤z.length by omega)]
    simp
   rw [e] at q
   ((with_reducible refine Ab.e_B ?_);((with_reducible refine Go.if_t ?hh_566 ?_);(case hh_566=>exact rfl));(with_reducible refine Ab.s_ret ?_);(with_reducible refine Ab.e_bl ?_);(with_reducible refine Ab.dn0 ?_))
   exact q
 | loc _=>cases hp
 | ty _=>cases hp
 | scr _=>cases hp
 | _=>(walk_at "a";exact q)
theorem p_is_numbers_len {K:PySem.W.Frag} {vs:List V} {H:Hp} {Q:VK} {E:XK} (h:cs K fIsNumbers vs H Q E):vs.length=1:=fn_len (fun as M Q ⟨_,e,_⟩=>by rw [e];rfl) h
theorem p_is_numbers {K:PySem.W.Frag} {vs:List V} {H:Hp} {Q:VK} {E:XK} (h:cs K fIsNumbers vs H Q E):t_is_numbers K { nx:=fun _ H'=>Q .non H',rt:=Q } (start N_is_numbers vs) H:=fn_of h fun as M Qa h=>by
 obtain⟨a,rfl,hp,hl,q⟩:=h
 unfold t_is_numbers
 cases a with
 | tup xs=>
  have hx:=hl xs rfl
  ((with_reducible refine Ab.s_seq ?_);(with_reducible refine Ab.s_if ?_);(with_reducible refine Ab.t_or ?_);(with_reducible refine Ab.t_not ?_);(with_reducible refine Ab.t_B ?_);(with_reducible refine Ab.e_cb ?_);(with_reducible refine Ab.a_cons ?_);((with_reducible refine' Ab.e_var ?hh_591 ?_);(case hh_591=>exact rfl));(with_reducible refine Ab.a_cons ?_);(with_reducible refine Ab.e_ty ?_);(with_reducible refine Ab.a_nil ?_);((with_reducible refine' Ab.l_isTuple ?h1_592 ?_);(case h1_592=>exact rfl));(with_reducible refine Ab.e_B ?_);((with_reducible refine Go.if_f ?hh_593 ?_);(case hh_593=>exact rfl));(with_reducible refine Ab.t_not ?_);(with_reducible refine Ab.t_testB ?_);(with_reducible refine Ab.e_chain ?_);(with_reducible refine Ab.e_int ?_);(with_reducible refine Ab.e_cb ?_);(with_reducible refine Ab.a_cons ?_);((with_reducible refine' Ab.e_var ?hh_594 ?_);(case hh_594=>exact rfl));(with_reducible refine Ab.a_nil ?_);(with_reducible refine Ab.l_lenT ?_);(with_reducible refine Ab.o_le ?_);(with_reducible refine Ab.e_B ?_))
  by_cases c1:(1:Int)≤(xs.length:Int)
  ·refine if_t (decide_eq_true c1) ?_
   ((with_reducible refine Ab.e_int ?_);(with_reducible refine Ab.o_le ?_);(with_reducible refine Ab.e_B ?_))
   by_cases c2:(xs.length:Int)≤3
   ·rw [decide_eq_true c2]
    (((with_reducible refine Go.if_f ?hh_595 ?_);(case hh_595=>exact rfl));(with_reducible refine Ab.s_next ?_);(with_reducible refine Ab.s_ret ?_);(with_reducible refine Ab.e_cb ?_);(with_reducible refine Ab.a_cons ?_))
    refine e_mapF (α:=A) (fun x=> .bl (numB x)) ?_
    ((with_reducible refine Ab.i_tup ?_);((with_reducible refine' Ab.e_var ?hh_596 ?_);(case hh_596=>exact rfl));(with_reducible refine Ab.e_T ?_))
    refine⟨fun x=>x,xs,by rw [List.map_id'],small (by omega),fun x hx2 M' up=> ?_,?_⟩
    ·have hpx:=List.all_eq_true.mp hx x hx2
     (((with_reducible refine' Ab.c_name ?h1_597 ?_);(case h1_597=>decide));(with_reducible refine Ab.e_andV ?_);(with_reducible refine Ab.e_call ?_);(with_reducible refine Ab.a_cons ?_);((with_reducible refine' Ab.e_var ?hh_598 ?_);(case hh_598=>exact rfl));(with_reducible refine Ab.a_nil ?_))
     refine⟨x,rfl,hpx,?_⟩
     cases x with
     | int i=>
      ((with_reducible refine Ab.e_B ?_);((with_reducible refine Go.if_t ?hh_599 ?_);(case hh_599=>exact rfl));(with_reducible refine Ab.e_chain ?_);(with_reducible refine Ab.e_op ?_);(with_reducible refine Ab.e_int ?_);(with_reducible refine Ab.e_int ?_);(with_reducible refine Ab.o_subI ?_);((with_reducible refine' Ab.e_var ?hh_600 ?_);(case hh_600=>exact rfl));(with_reducible refine Ab.o_le ?_);(with_reducible refine Ab.e_B ?_))
      by_cases d1:(0 - 1000000000000:Int)≤i
      ·refine if_t (decide_eq_true d1) ?_
       ((with_reducible refine Ab.e_int ?_);(with_reducible refine Ab.o_le ?_))
       refine⟨rfl,?_⟩
       unfold numB
       dsimp only
       rw [show decide (i≤1000000000000)=decide (-1000000000000≤i∧i≤1000000000000) from decide_eq_decide.mpr ⟨fun h=>⟨by omega,h⟩,fun h=>h.2⟩]
      ·refine if_f (decide_eq_false d1) ?_
       refine⟨rfl,?_⟩
       unfold numB
       dsimp only
       rw [decide_eq_false]
       omega
     | loc _=>cases hpx
     | ty _=>cases hpx
     | scr _=>cases hpx
     | _=>(walk_at "a";exact⟨rfl,rfl⟩)
    ((with_reducible refine Ab.a_nil ?_))
    refine l_all (bs:=xs.map numB) (by rw [List.map_map];exact LsA.lst) ?_
    have e:numsB (.tup xs)=(xs.map numB).all id:=by
     rw [all_id]
     unfold numsB
     dsimp only
     rw [decide_eq_true (show 1≤xs.length by omega),decide_eq_true (show xs.length≤3 by omega)]
     rfl
    rw [e] at q
    ((with_reducible refine Ab.dn0 ?_))
    exact q
   ·rw [decide_eq_false c2]
    have e:numsB (.tup xs)=false:=by
     unfold numsB
     dsimp only
     rw [decide_eq_false (show ¬ xs.length≤3 by omega)]
     simp
    rw [e] at q
    (((with_reducible refine Go.if_t ?hh_607 ?_);(case hh_607=>exact rfl));(with_reducible refine Ab.s_ret ?_);(with_reducible refine Ab.e_bl ?_);(with_reducible refine Ab.dn0 ?_))
    exact q
  ·refine if_f (decide_eq_false c1) ?_
   have e:numsB (.tup xs)=false:=by
    unfold numsB
    dsimp only
    rw [decide_eq_false (show ¬ 1≤xs.length by omega)]
    simp
   rw [e] at q
   ((with_reducible refine Ab.e_B ?_);((with_reducible refine Go.if_t ?hh_608 ?_);(case hh_608=>exact rfl));(with_reducible refine Ab.s_ret ?_);(with_reducible refine Ab.e_bl ?_);(with_reducible refine Ab.dn0 ?_))
   exact q
 | loc _=>cases hp
 | ty _=>cases hp
 | scr _=>cases hp
 | _=>(walk_at "a";exact q)
theorem nums_ok {ns:List Int} {n:Nat} (hl:ns.length=n) (h1:1≤n) (h3:n≤3) (hb:∀x∈ns,-1000000000000≤x∧x≤1000000000000):numsB (.tup (ns.map A.int))=true:=by
 unfold numsB
 dsimp only
 rw [List.length_map,decide_eq_true (show 1≤ns.length by omega),decide_eq_true (show ns.length≤3 by omega)]
 rw [List.all_map]
 exact List.all_eq_true.mpr fun x hx=>decide_eq_true (hb x hx)
theorem ints_plain (ns:List Int):(ns.map A.int).all A.plain=true:=by
 rw [List.all_map];exact List.all_eq_true.mpr fun x _=>rfl
theorem txOk {z:Str} (h:isTx z):PyData.strOk z=true:=by
 unfold PyData.strOk
 have hz:=h.2
 rw [Array.all_eq_true]
 intro i hi
 have:=hz z.cps[i] (by rw [Array.mem_toList_iff];exact Array.getElem_mem hi)
 exact decide_eq_true (by omega)
theorem e_ktS {K:PySem.W.Frag} {Ex:XK} {Xa:XA} {s:Sv} {M:AM} {Q:QA} {p:Addr} {vs:List V} (zs:List Str) (h:KT K p vs) (e:vs=zs.map V.str) (q:Q (.tup (zs.map A.str)) M):EE K Ex Xa (tC (.ref p)) s M Q:=fun σ H Qc rep k=>k.go rep.rm (.tup (.inr (e ▸ h)) (RvL.of_strs zs)) q
theorem shaped_str {z:Str} (h:isTx z):SeqAt.shaped (A.str z).toD=true:=by
 have h1:PyData.canLay0 (.str z)=true:=by unfold PyData.canLay0;exact txOk h
 unfold SeqAt.shaped A.toD
 rw [h1,Bool.true_and]
 refine decide_eq_true ?_
 unfold PyData.depth
 omega
theorem eqA_str {y z:Str} :eqA (.str y) (.str z)=decide (y=z):=by
 unfold eqA A.toD
 by_cases h:y=z
 ·rw [h,decide_eq_true rfl];simp [PyData.eqv]
 ·rw [decide_eq_false h];simp [PyData.eqv,h]
theorem nmB_isTx {z:Str} (h:nmB z=true):isTx8 z:=by
 unfold nmB at h
 rw [Bool.and_eq_true,Bool.and_eq_true] at h
 exact⟨of_decide_eq_true h.1.1,of_decide_eq_true h.1.2,fun c hc=>of_decide_eq_true (List.all_eq_true.mp h.2 c hc)⟩
theorem p_is_deed_len {K:PySem.W.Frag} {vs:List V} {H:Hp} {Q:VK} {E:XK} (h:cs K fIsDeed vs H Q E):vs.length=1:=fn_len (fun as M Q h=>by
 rcases h with⟨_,e,_⟩ | ⟨_,e,_⟩ <;> (rw [e];rfl)) h
theorem p_is_deed {K:PySem.W.Frag} (s1:KT K (He.ga K "OF_ONE") [.str ("turn" :Str),.str ("fall" :Str),.str ("back" :Str),.str ("fresh" :Str),.str ("leave" :Str)]) (s2:KT K (He.ga K "OF_NUMBERS") [.str ("set" :Str),.str ("join" :Str)]) (s3:KT K (He.ga K "OF_TWO") [.str ("tie" :Str),.str ("cut" :Str)]) {vs:List V} {H:Hp} {Q:VK} {E:XK} (h:cs K fIsDeed vs H Q E):t_is_deed K { nx:=fun _ H'=>Q .non H',rt:=Q } (start N_is_deed vs) H:=fn_of h fun as M Qa h=>by
 rcases h with⟨d,rfl,nm,q⟩ | ⟨a,rfl,oa,hb,q⟩
 rotate_left
 ·unfold t_is_deed
  refine s_seq (s_if (t_or (t_not (t_B (e_cb (a_cons (e_var rfl (a_cons (e_ty (a_nil (l_isTuple oa.1.1 ?_)))))))))))
  cases a with
  | tup xs=>
   refine⟨_,rfl,if_f rfl ?_⟩
   obtain⟨ly,hy⟩:=oa.2 xs rfl
   refine t_or (t_testB (e_op (e_cb (a_cons (e_var rfl (a_nil (l_lenT (e_int (o_lt ?_)))))))))
   match xs,hy,hb with
   | [],_,_=>exact⟨_,rfl,if_t rfl (if_t rfl (s_ret (e_bl (dn0 q))))⟩
   | [x],_,_=>exact⟨_,rfl,if_t rfl (if_t rfl (s_ret (e_bl (dn0 q))))⟩
   | x :: n :: r,hy,hb=>
    have ox:=hy x List.mem_cons_self
    have on:=hy n (List.mem_cons_of_mem _ List.mem_cons_self)
    have ln:((x :: n :: r).length:Int)=(r.length:Int)+2:=by
     rw [List.length_cons,List.length_cons];omega
    rw [decide_eq_false (show ¬ ((x :: n :: r).length:Int) < 2 by omega)]
    refine⟨_,rfl,if_f rfl (t_not (t_B (e_cb (a_cons (e_op (e_var rfl (e_int (o_ixT (a:=x) (atI_at (i:=0) rfl) (a_cons (e_ty (a_nil (l_isStr ox.1.1 ?_))))))))))))⟩
    cases x with
    | str w=>
     refine⟨_,rfl,if_f rfl (s_next ?_)⟩
     have lw:=ox.1.2 w rfl
     refine s_seq (s_if (t_testB (e_op (e_op (e_var rfl (e_int (o_ixT (a:= .str w) (atI_at (i:=0) rfl) (e_str (o_eqS ⟨_,rfl,?_⟩)))))))))
     by_cases hw:w= "come"
     ·subst hw
      refine if_t (by decide) (s_ret (e_andV (e_op (e_cb (a_cons (e_var rfl (a_nil (l_lenT (e_int (o_eqI ⟨_,rfl,?_⟩))))))))))
      cases r with
      | cons u r=>
       rw [decide_eq_false (show ¬ ((A.str "come" :: n :: u :: r).length:Int)=2 by rw [List.length_cons,List.length_cons,List.length_cons];omega)]
       exact if_f rfl (dn0 q)
      | nil=>
       rw [decide_eq_true (show(([A.str "come",n]:List A).length:Int)=2 from rfl)]
       refine if_t rfl (e_andV (e_call (a_cons (e_op (e_var rfl (e_int (o_ixT (a:=n) (atI_at (i:=1) rfl) (a_nil ⟨n,rfl,on.1.1,⟨_,rfl,?_⟩⟩))))))))
       cases n with
       | int k=>
        refine if_t rfl (e_op (e_op (e_var rfl (e_int (o_ixT (a:= .int k) (atI_at (i:=1) rfl) (e_int (o_ge ?_)))))))
        have hb:decide (0≤k)=false:=hb
        rw [hb]
        exact dn0 q
       | loc _=>cases on.1.1
       | ty _=>cases on.1.1
       | scr _=>cases on.1.1
       | _=>exact if_f rfl (dn0 q)
     ·refine if_f (decide_eq_false hw) (s_next ?_)
      have hb:(nameB n && deedR w n r)=false:=by
       have h0:(if w= "come" then comeB n r else nameB n && deedR w n r)=false:=hb
       rw [if_neg hw] at h0
       exact h0
      refine s_seq (s_if (t_not (t_B (e_call (a_cons (e_op (e_var rfl (e_int (o_ixT (a:=n) (atI_at (i:=1) rfl) (a_nil ⟨n,rfl,on.1.1,on.1.2,⟨_,rfl,?_⟩⟩))))))))))
      cases hn:nameB n with
      | false=>exact if_t rfl (s_ret (e_bl (dn0 q)))
      | true=>
       refine if_f rfl (s_next ?_)
       rw [hn,Bool.true_and] at hb
       refine s_seq (s_if (t_testB (e_op (e_op (e_var rfl (e_int (o_ixT (a:= .str w) (atI_at (i:=0) rfl) (e_ktS ["turn","fall","back","fresh","leave"] s1 rfl (o_inStr (.inr rfl) ⟨_,rfl,?_⟩)))))))))
       by_cases h1:w∈(["turn","fall","back","fresh","leave"]:List Str)
       ·rw [decide_eq_true h1]
        refine if_t rfl (s_ret (e_op (e_cb (a_cons (e_var rfl (a_nil (l_lenT (e_int (o_eqI ?_)))))))))
        cases r with
        | nil=>
         have hb:decide (w∈(["turn","fall","back","fresh","leave"]:List Str))=false:=hb
         rw [decide_eq_true h1] at hb;cases hb
        | cons u r=>
         rw [decide_eq_false (show ¬ ((A.str w :: n :: u :: r).length:Int)=2 by rw [List.length_cons,List.length_cons,List.length_cons];omega)]
         exact dn0 q
       ·rw [decide_eq_false h1]
        refine if_f rfl (s_next (s_seq (s_if (t_testB (e_op (e_cb (a_cons (e_var rfl (a_nil (l_lenT (e_int (o_neI ⟨_,rfl,?_⟩))))))))))))
        match r,hb,hy with
        | [],_,_=>exact if_t rfl (s_ret (e_bl (dn0 q)))
        | u :: u2 :: r,_,_=>
         rw [decide_eq_false (show ¬ ((A.str w :: n :: u :: u2 :: r).length:Int)=3 by rw [List.length_cons,List.length_cons,List.length_cons,List.length_cons];omega)]
         exact if_t rfl (s_ret (e_bl (dn0 q)))
        | [u],hb,hy=>
         have ou:=hy u (List.mem_cons_of_mem _ (List.mem_cons_of_mem _ List.mem_cons_self))
         refine if_f rfl (s_next (s_seq (s_if (t_testB (e_op (e_op (e_var rfl (e_int (o_ixT (a:= .str w) (atI_at (i:=0) rfl) (e_ktS ["set","join"] s2 rfl (o_inStr (.inr rfl) ⟨_,rfl,?_⟩)))))))))))
         have hb:(!decide (w∈(["turn","fall","back","fresh","leave"]:List Str)) && (if w∈(["set","join"]:List Str) then numsB u else decide (w∈(["tie","cut"]:List Str)) && twoB n u))=false:=hb
         rw [decide_eq_false h1] at hb
         have hb:(if w∈(["set","join"]:List Str) then numsB u else decide (w∈(["tie","cut"]:List Str)) && twoB n u)=false:=hb
         by_cases h2:w∈(["set","join"]:List Str)
         ·rw [if_pos h2] at hb
          refine if_t (decide_eq_true h2) (s_ret (e_call (a_cons (e_op (e_var rfl (e_int (o_ixT (a:=u) (atI_at (i:=2) rfl) (a_nil ⟨u,rfl,ou.1.1,ou.2,?_⟩))))))))
          rw [hb]
          exact dn0 q
         ·rw [if_neg h2] at hb
          refine if_f (decide_eq_false h2) (s_next (s_ret (e_andV (e_op (e_op (e_var rfl (e_int (o_ixT (a:= .str w) (atI_at (i:=0) rfl) (e_ktS ["tie","cut"] s3 rfl (o_inStr (.inr rfl) ⟨_,rfl,?_⟩))))))))))
          by_cases h3:w∈(["tie","cut"]:List Str)
          ·rw [decide_eq_true h3] at hb ⊢
           refine if_t rfl (e_andV (e_call (a_cons (e_op (e_var rfl (e_int (o_ixT (a:=u) (atI_at (i:=2) rfl) (a_nil ⟨u,rfl,ou.1.1,ou.1.2,⟨_,rfl,?_⟩⟩))))))))
           have hb:twoB n u=false:=hb
           cases hu:nameB u with
           | false=>exact if_f rfl (dn0 q)
           | true=>
            cases u with
            | str o=>
             cases n with
             | str y=>
              have hb:(nmB o && !decide (o=y))=false:=hb
              rw [show nmB o=true from hu] at hb
              have t1:=nmB_isTx (show nmB o=true from hu)
              have t2:=nmB_isTx (show nmB y=true from hn)
              refine if_t rfl (e_op (e_op (e_var rfl (e_int (o_ixT (a:= .str o) (atI_at (i:=2) rfl) (e_op (e_var rfl (e_int (o_ixT (a:= .str y) (atI_at (i:=1) rfl) (o_neD rfl rfl (shaped_str t1.tx) (shaped_str t2.tx) ?_))))))))))
              rw [eqA_str,show(!decide (o=y))=false from hb]
              exact dn0 q
             | _=>cases hn
            | _=>cases hu
          ·rw [decide_eq_false h3]
           exact if_f rfl (dn0 q)
    | _=>exact⟨_,rfl,if_t rfl (s_ret (e_bl (dn0 q)))⟩
  | _=>exact⟨_,rfl,if_t rfl (if_t rfl (s_ret (e_bl (dn0 q))))⟩
 have one:∀(w n:Str),isTx8 n→w∈(["turn","fall","back","fresh","leave"]:List Str)→w≠ "come" →Qa (.bl true) M→ES K E0 (fun _ _=>False) (t_is_deed K) (startA N_is_deed [.tup [.str w,.str n]]) M (fun _ M'=>Dn Qa .non M') (Dn Qa) (fun _ _=>False) (fun _ _=>False):=by
  intro w n hn hw hc q
  unfold t_is_deed
  ((with_reducible refine Ab.s_seq ?_);(with_reducible refine Ab.s_if ?_);(with_reducible refine Ab.t_or ?_);(with_reducible refine Ab.t_not ?_);(with_reducible refine Ab.t_B ?_);(with_reducible refine Ab.e_cb ?_);(with_reducible refine Ab.a_cons ?_);((with_reducible refine' Ab.e_var ?hh_229 ?_);(case hh_229=>exact rfl));(with_reducible refine Ab.a_cons ?_);(with_reducible refine Ab.e_ty ?_);(with_reducible refine Ab.a_nil ?_);((with_reducible refine' Ab.l_isTuple ?h1_230 ?_);(case h1_230=>exact rfl));(with_reducible refine Ab.e_B ?_);((with_reducible refine Go.if_f ?hh_231 ?_);(case hh_231=>exact rfl));(with_reducible refine Ab.t_or ?_);(with_reducible refine Ab.t_testB ?_);(with_reducible refine Ab.e_op ?_);(with_reducible refine Ab.e_cb ?_);(with_reducible refine Ab.a_cons ?_);((with_reducible refine' Ab.e_var ?hh_232 ?_);(case hh_232=>exact rfl));(with_reducible refine Ab.a_nil ?_);(with_reducible refine Ab.l_lenT ?_);(with_reducible refine Ab.e_int ?_);(with_reducible refine Ab.o_lt ?_);(with_reducible refine Ab.e_B ?_);((with_reducible refine Go.if_f ?hh_233 ?_);(case hh_233=>exact rfl));(with_reducible refine Ab.t_not ?_);(with_reducible refine Ab.t_B ?_);(with_reducible refine Ab.e_cb ?_);(with_reducible refine Ab.a_cons ?_);(with_reducible refine Ab.e_op ?_);((with_reducible refine' Ab.e_var ?hh_234 ?_);(case hh_234=>exact rfl));(with_reducible refine Ab.e_int ?_);((with_reducible refine' Ab.o_ixT ?hh_235 ?_);(case hh_235=>exact rfl));(with_reducible refine Ab.a_cons ?_);(with_reducible refine Ab.e_ty ?_);(with_reducible refine Ab.a_nil ?_);((with_reducible refine' Ab.l_isStr ?h1_236 ?_);(case h1_236=>exact rfl));(with_reducible refine Ab.e_B ?_);((with_reducible refine Go.if_f ?hh_237 ?_);(case hh_237=>exact rfl));(with_reducible refine Ab.s_next ?_);(with_reducible refine Ab.s_seq ?_);(with_reducible refine Ab.s_if ?_);(with_reducible refine Ab.t_testB ?_);(with_reducible refine Ab.e_op ?_);(with_reducible refine Ab.e_op ?_);((with_reducible refine' Ab.e_var ?hh_238 ?_);(case hh_238=>exact rfl));(with_reducible refine Ab.e_int ?_);((with_reducible refine' Ab.o_ixT ?hh_239 ?_);(case hh_239=>exact rfl));(with_reducible refine Ab.e_str ?_);(with_reducible refine Ab.o_eqS ?_);(with_reducible refine Ab.e_B ?_))
  rw [decide_eq_false hc]
  (((with_reducible refine Go.if_f ?hh_240 ?_);(case hh_240=>exact rfl));(with_reducible refine Ab.s_next ?_);(with_reducible refine Ab.s_seq ?_);(with_reducible refine Ab.s_if ?_);(with_reducible refine Ab.t_not ?_);(with_reducible refine Ab.t_B ?_);(with_reducible refine Ab.e_call ?_);(with_reducible refine Ab.a_cons ?_);(with_reducible refine Ab.e_op ?_);((with_reducible refine' Ab.e_var ?hh_241 ?_);(case hh_241=>exact rfl));(with_reducible refine Ab.e_int ?_);((with_reducible refine' Ab.o_ixT ?hh_242 ?_);(case hh_242=>exact rfl));(with_reducible refine Ab.a_nil ?_))
  refine⟨_,rfl,rfl,fun z hz=>by cases hz;have:=hn.2.1;omega,?_⟩
  rw [show nameB (.str n)=true from nmB_of hn]
  ((with_reducible refine Ab.e_B ?_);((with_reducible refine Go.if_f ?hh_243 ?_);(case hh_243=>exact rfl));(with_reducible refine Ab.s_next ?_);(with_reducible refine Ab.s_seq ?_);(with_reducible refine Ab.s_if ?_);(with_reducible refine Ab.t_testB ?_);(with_reducible refine Ab.e_op ?_);(with_reducible refine Ab.e_op ?_);((with_reducible refine' Ab.e_var ?hh_244 ?_);(case hh_244=>exact rfl));(with_reducible refine Ab.e_int ?_);((with_reducible refine' Ab.o_ixT ?hh_245 ?_);(case hh_245=>exact rfl)))
  refine e_ktS ["turn","fall","back","fresh","leave"] s1 rfl ?_
  refine o_inStr (.inr rfl) ?_
  rw [decide_eq_true hw]
  ((with_reducible refine Ab.e_B ?_);((with_reducible refine Go.if_t ?hh_246 ?_);(case hh_246=>exact rfl));(with_reducible refine Ab.s_ret ?_);(with_reducible refine Ab.e_op ?_);(with_reducible refine Ab.e_cb ?_);(with_reducible refine Ab.a_cons ?_);((with_reducible refine' Ab.e_var ?hh_247 ?_);(case hh_247=>exact rfl));(with_reducible refine Ab.a_nil ?_);(with_reducible refine Ab.l_lenT ?_);(with_reducible refine Ab.e_int ?_);(with_reducible refine Ab.o_eqI ?_);(with_reducible refine Ab.dn0 ?_))
  exact q
 have num:∀(w n:Str) (ns:List Int),isTx8 n→w∉(["turn","fall","back","fresh","leave"]:List Str)→w∈(["set","join"]:List Str)→w≠ "come" →Qa (.bl (numsB (.tup (ns.map A.int)))) M→ES K E0 (fun _ _=>False) (t_is_deed K) (startA N_is_deed [.tup [.str w,.str n,.tup (ns.map A.int)]]) M (fun _ M'=>Dn Qa .non M') (Dn Qa) (fun _ _=>False) (fun _ _=>False):=by
  intro w n ns hn hw hw2 hc q
  unfold t_is_deed
  ((with_reducible refine Ab.s_seq ?_);(with_reducible refine Ab.s_if ?_);(with_reducible refine Ab.t_or ?_);(with_reducible refine Ab.t_not ?_);(with_reducible refine Ab.t_B ?_);(with_reducible refine Ab.e_cb ?_);(with_reducible refine Ab.a_cons ?_);((with_reducible refine' Ab.e_var ?hh_248 ?_);(case hh_248=>exact rfl));(with_reducible refine Ab.a_cons ?_);(with_reducible refine Ab.e_ty ?_);(with_reducible refine Ab.a_nil ?_);((with_reducible refine' Ab.l_isTuple ?h1_249 ?_);(case h1_249=>exact rfl));(with_reducible refine Ab.e_B ?_);((with_reducible refine Go.if_f ?hh_250 ?_);(case hh_250=>exact rfl));(with_reducible refine Ab.t_or ?_);(with_reducible refine Ab.t_testB ?_);(with_reducible refine Ab.e_op ?_);(with_reducible refine Ab.e_cb ?_);(with_reducible refine Ab.a_cons ?_);((with_reducible refine' Ab.e_var ?hh_251 ?_);(case hh_251=>exact rfl));(with_reducible refine Ab.a_nil ?_);(with_reducible refine Ab.l_lenT ?_);(with_reducible refine Ab.e_int ?_);(with_reducible refine Ab.o_lt ?_);(with_reducible refine Ab.e_B ?_);((with_reducible refine Go.if_f ?hh_252 ?_);(case hh_252=>exact rfl));(with_reducible refine Ab.t_not ?_);(with_reducible refine Ab.t_B ?_);(with_reducible refine Ab.e_cb ?_);(with_reducible refine Ab.a_cons ?_);(with_reducible refine Ab.e_op ?_);((with_reducible refine' Ab.e_var ?hh_253 ?_);(case hh_253=>exact rfl));(with_reducible refine Ab.e_int ?_);((with_reducible refine' Ab.o_ixT ?hh_254 ?_);(case hh_254=>exact rfl));(with_reducible refine Ab.a_cons ?_);(with_reducible refine Ab.e_ty ?_);(with_reducible refine Ab.a_nil ?_);((with_reducible refine' Ab.l_isStr ?h1_255 ?_);(case h1_255=>exact rfl));(with_reducible refine Ab.e_B ?_);((with_reducible refine Go.if_f ?hh_256 ?_);(case hh_256=>exact rfl));(with_reducible refine Ab.s_next ?_);(with_reducible refine Ab.s_seq ?_);(with_reducible refine Ab.s_if ?_);(with_reducible refine Ab.t_testB ?_);(with_reducible refine Ab.e_op ?_);(with_reducible refine Ab.e_op ?_);((with_reducible refine' Ab.e_var ?hh_257 ?_);(case hh_257=>exact rfl));(with_reducible refine Ab.e_int ?_);((with_reducible refine' Ab.o_ixT ?hh_258 ?_);(case hh_258=>exact rfl));(with_reducible refine Ab.e_str ?_);(with_reducible refine Ab.o_eqS ?_);(with_reducible refine Ab.e_B ?_))
  rw [decide_eq_false hc]
  (((with_reducible refine Go.if_f ?hh_259 ?_);(case hh_259=>exact rfl));(with_reducible refine Ab.s_next ?_);(with_reducible refine Ab.s_seq ?_);(with_reducible refine Ab.s_if ?_);(with_reducible refine Ab.t_not ?_);(with_reducible refine Ab.t_B ?_);(with_reducible refine Ab.e_call ?_);(with_reducible refine Ab.a_cons ?_);(with_reducible refine Ab.e_op ?_);((with_reducible refine' Ab.e_var ?hh_260 ?_);(case hh_260=>exact rfl));(with_reducible refine Ab.e_int ?_);((with_reducible refine' Ab.o_ixT ?hh_261 ?_);(case hh_261=>exact rfl));(with_reducible refine Ab.a_nil ?_))
  refine⟨_,rfl,rfl,fun z hz=>by cases hz;have:=hn.2.1;omega,?_⟩
  rw [show nameB (.str n)=true from nmB_of hn]
  ((with_reducible refine Ab.e_B ?_);((with_reducible refine Go.if_f ?hh_262 ?_);(case hh_262=>exact rfl));(with_reducible refine Ab.s_next ?_);(with_reducible refine Ab.s_seq ?_);(with_reducible refine Ab.s_if ?_);(with_reducible refine Ab.t_testB ?_);(with_reducible refine Ab.e_op ?_);(with_reducible refine Ab.e_op ?_);((with_reducible refine' Ab.e_var ?hh_263 ?_);(case hh_263=>exact rfl));(with_reducible refine Ab.e_int ?_);((with_reducible refine' Ab.o_ixT ?hh_264 ?_);(case hh_264=>exact rfl)))
  refine e_ktS ["turn","fall","back","fresh","leave"] s1 rfl ?_
  refine o_inStr (.inr rfl) ?_
  rw [decide_eq_false hw]
  ((with_reducible refine Ab.e_B ?_);((with_reducible refine Go.if_f ?hh_265 ?_);(case hh_265=>exact rfl));(with_reducible refine Ab.s_next ?_);(with_reducible refine Ab.s_seq ?_);(with_reducible refine Ab.s_if ?_);(with_reducible refine Ab.t_testB ?_);(with_reducible refine Ab.e_op ?_);(with_reducible refine Ab.e_cb ?_);(with_reducible refine Ab.a_cons ?_);((with_reducible refine' Ab.e_var ?hh_266 ?_);(case hh_266=>exact rfl));(with_reducible refine Ab.a_nil ?_);(with_reducible refine Ab.l_lenT ?_);(with_reducible refine Ab.e_int ?_);(with_reducible refine Ab.o_neI ?_);(with_reducible refine Ab.e_B ?_);((with_reducible refine Go.if_f ?hh_267 ?_);(case hh_267=>exact rfl));(with_reducible refine Ab.s_next ?_);(with_reducible refine Ab.s_seq ?_);(with_reducible refine Ab.s_if ?_);(with_reducible refine Ab.t_testB ?_);(with_reducible refine Ab.e_op ?_);(with_reducible refine Ab.e_op ?_);((with_reducible refine' Ab.e_var ?hh_268 ?_);(case hh_268=>exact rfl));(with_reducible refine Ab.e_int ?_);((with_reducible refine' Ab.o_ixT ?hh_269 ?_);(case hh_269=>exact rfl)))
  refine e_ktS ["set","join"] s2 rfl ?_
  refine o_inStr (.inr rfl) ?_
  rw [decide_eq_true hw2]
  ((with_reducible refine Ab.e_B ?_);((with_reducible refine Go.if_t ?hh_270 ?_);(case hh_270=>exact rfl));(with_reducible refine Ab.s_ret ?_);(with_reducible refine Ab.e_call ?_);(with_reducible refine Ab.a_cons ?_);(with_reducible refine Ab.e_op ?_);((with_reducible refine' Ab.e_var ?hh_271 ?_);(case hh_271=>exact rfl));(with_reducible refine Ab.e_int ?_);((with_reducible refine' Ab.o_ixT ?hh_272 ?_);(case hh_272=>exact rfl));(with_reducible refine Ab.a_nil ?_))
  refine⟨_,rfl,rfl,fun xs hxs=>by cases hxs;exact ints_plain _,?_⟩
  ((with_reducible refine Ab.dn0 ?_))
  exact q
 have two:∀(w n o:Str),isTx8 n→isTx8 o→w∉(["turn","fall","back","fresh","leave"]:List Str)→w∉(["set","join"]:List Str)→w∈(["tie","cut"]:List Str)→w≠ "come" →Qa (.bl (!decide (o=n))) M→ES K E0 (fun _ _=>False) (t_is_deed K) (startA N_is_deed [.tup [.str w,.str n,.str o]]) M (fun _ M'=>Dn Qa .non M') (Dn Qa) (fun _ _=>False) (fun _ _=>False):=by
  intro w n o hn ho hw hw2 hw3 hc q
  unfold t_is_deed
  ((with_reducible refine Ab.s_seq ?_);(with_reducible refine Ab.s_if ?_);(with_reducible refine Ab.t_or ?_);(with_reducible refine Ab.t_not ?_);(with_reducible refine Ab.t_B ?_);(with_reducible refine Ab.e_cb ?_);(with_reducible refine Ab.a_cons ?_);((with_reducible refine' Ab.e_var ?hh_273 ?_);(case hh_273=>exact rfl));(with_reducible refine Ab.a_cons ?_);(with_reducible refine Ab.e_ty ?_);(with_reducible refine Ab.a_nil ?_);((with_reducible refine' Ab.l_isTuple ?h1_274 ?_);(case h1_274=>exact rfl));(with_reducible refine Ab.e_B ?_);((with_reducible refine Go.if_f ?hh_275 ?_);(case hh_275=>exact rfl));(with_reducible refine Ab.t_or ?_);(with_reducible refine Ab.t_testB ?_);(with_reducible refine Ab.e_op ?_);(with_reducible refine Ab.e_cb ?_);(with_reducible refine Ab.a_cons ?_);((with_reducible refine' Ab.e_var ?hh_276 ?_);(case hh_276=>exact rfl));(with_reducible refine Ab.a_nil ?_);(with_reducible refine Ab.l_lenT ?_);(with_reducible refine Ab.e_int ?_);(with_reducible refine Ab.o_lt ?_);(with_reducible refine Ab.e_B ?_);((with_reducible refine Go.if_f ?hh_277 ?_);(case hh_277=>exact rfl));(with_reducible refine Ab.t_not ?_);(with_reducible refine Ab.t_B ?_);(with_reducible refine Ab.e_cb ?_);(with_reducible refine Ab.a_cons ?_);(with_reducible refine Ab.e_op ?_);((with_reducible refine' Ab.e_var ?hh_278 ?_);(case hh_278=>exact rfl));(with_reducible refine Ab.e_int ?_);((with_reducible refine' Ab.o_ixT ?hh_279 ?_);(case hh_279=>exact rfl));(with_reducible refine Ab.a_cons ?_);(with_reducible refine Ab.e_ty ?_);(with_reducible refine Ab.a_nil ?_);((with_reducible refine' Ab.l_isStr ?h1_280 ?_);(case h1_280=>exact rfl));(with_reducible refine Ab.e_B ?_);((with_reducible refine Go.if_f ?hh_281 ?_);(case hh_281=>exact rfl));(with_reducible refine Ab.s_next ?_);(with_reducible refine Ab.s_seq ?_);(with_reducible refine Ab.s_if ?_);(with_reducible refine Ab.t_testB ?_);(with_reducible refine Ab.e_op ?_);(with_reducible refine Ab.e_op ?_);((with_reducible refine' Ab.e_var ?hh_282 ?_);(case hh_282=>exact rfl));(with_reducible refine Ab.e_int ?_);((with_reducible refine' Ab.o_ixT ?hh_283 ?_);(case hh_283=>exact rfl));(with_reducible refine Ab.e_str ?_);(with_reducible refine Ab.o_eqS ?_);(with_reducible refine Ab.e_B ?_))
  rw [decide_eq_false hc]
  (((with_reducible refine Go.if_f ?hh_284 ?_);(case hh_284=>exact rfl));(with_reducible refine Ab.s_next ?_);(with_reducible refine Ab.s_seq ?_);(with_reducible refine Ab.s_if ?_);(with_reducible refine Ab.t_not ?_);(with_reducible refine Ab.t_B ?_);(with_reducible refine Ab.e_call ?_);(with_reducible refine Ab.a_cons ?_);(with_reducible refine Ab.e_op ?_);((with_reducible refine' Ab.e_var ?hh_285 ?_);(case hh_285=>exact rfl));(with_reducible refine Ab.e_int ?_);((with_reducible refine' Ab.o_ixT ?hh_286 ?_);(case hh_286=>exact rfl));(with_reducible refine Ab.a_nil ?_))
  refine⟨_,rfl,rfl,fun z hz=>by cases hz;have:=hn.2.1;omega,?_⟩
  rw [show nameB (.str n)=true from nmB_of hn]
  ((with_reducible refine Ab.e_B ?_);((with_reducible refine Go.if_f ?hh_287 ?_);(case hh_287=>exact rfl));(with_reducible refine Ab.s_next ?_);(with_reducible refine Ab.s_seq ?_);(with_reducible refine Ab.s_if ?_);(with_reducible refine Ab.t_testB ?_);(with_reducible refine Ab.e_op ?_);(with_reducible refine Ab.e_op ?_);((with_reducible refine' Ab.e_var ?hh_288 ?_);(case hh_288=>exact rfl));(with_reducible refine Ab.e_int ?_);((with_reducible refine' Ab.o_ixT ?hh_289 ?_);(case hh_289=>exact rfl)))
  refine e_ktS ["turn","fall","back","fresh","leave"] s1 rfl ?_
  refine o_inStr (.inr rfl) ?_
  rw [decide_eq_false hw]
  ((with_reducible refine Ab.e_B ?_);((with_reducible refine Go.if_f ?hh_290 ?_);(case hh_290=>exact rfl));(with_reducible refine Ab.s_next ?_);(with_reducible refine Ab.s_seq ?_);(with_reducible refine Ab.s_if ?_);(with_reducible refine Ab.t_testB ?_);(with_reducible refine Ab.e_op ?_);(with_reducible refine Ab.e_cb ?_);(with_reducible refine Ab.a_cons ?_);((with_reducible refine' Ab.e_var ?hh_291 ?_);(case hh_291=>exact rfl));(with_reducible refine Ab.a_nil ?_);(with_reducible refine Ab.l_lenT ?_);(with_reducible refine Ab.e_int ?_);(with_reducible refine Ab.o_neI ?_);(with_reducible refine Ab.e_B ?_);((with_reducible refine Go.if_f ?hh_292 ?_);(case hh_292=>exact rfl));(with_reducible refine Ab.s_next ?_);(with_reducible refine Ab.s_seq ?_);(with_reducible refine Ab.s_if ?_);(with_reducible refine Ab.t_testB ?_);(with_reducible refine Ab.e_op ?_);(with_reducible refine Ab.e_op ?_);((with_reducible refine' Ab.e_var ?hh_293 ?_);(case hh_293=>exact rfl));(with_reducible refine Ab.e_int ?_);((with_reducible refine' Ab.o_ixT ?hh_294 ?_);(case hh_294=>exact rfl)))
  refine e_ktS ["set","join"] s2 rfl ?_
  refine o_inStr (.inr rfl) ?_
  rw [decide_eq_false hw2]
  ((with_reducible refine Ab.e_B ?_);((with_reducible refine Go.if_f ?hh_295 ?_);(case hh_295=>exact rfl));(with_reducible refine Ab.s_next ?_);(with_reducible refine Ab.s_ret ?_);(with_reducible refine Ab.e_andV ?_);(with_reducible refine Ab.e_op ?_);(with_reducible refine Ab.e_op ?_);((with_reducible refine' Ab.e_var ?hh_296 ?_);(case hh_296=>exact rfl));(with_reducible refine Ab.e_int ?_);((with_reducible refine' Ab.o_ixT ?hh_297 ?_);(case hh_297=>exact rfl)))
  refine e_ktS ["tie","cut"] s3 rfl ?_
  refine o_inStr (.inr rfl) ?_
  rw [decide_eq_true hw3]
  ((with_reducible refine Ab.e_B ?_);((with_reducible refine Go.if_t ?hh_298 ?_);(case hh_298=>exact rfl));(with_reducible refine Ab.e_andV ?_);(with_reducible refine Ab.e_call ?_);(with_reducible refine Ab.a_cons ?_);(with_reducible refine Ab.e_op ?_);((with_reducible refine' Ab.e_var ?hh_299 ?_);(case hh_299=>exact rfl));(with_reducible refine Ab.e_int ?_);((with_reducible refine' Ab.o_ixT ?hh_300 ?_);(case hh_300=>exact rfl));(with_reducible refine Ab.a_nil ?_))
  refine⟨_,rfl,rfl,fun z hz=>by cases hz;have:=ho.2.1;omega,?_⟩
  rw [show nameB (.str o)=true from nmB_of ho]
  ((with_reducible refine Ab.e_B ?_);((with_reducible refine Go.if_t ?hh_301 ?_);(case hh_301=>exact rfl));(with_reducible refine Ab.e_op ?_);(with_reducible refine Ab.e_op ?_);((with_reducible refine' Ab.e_var ?hh_302 ?_);(case hh_302=>exact rfl));(with_reducible refine Ab.e_int ?_);((with_reducible refine' Ab.o_ixT ?hh_303 ?_);(case hh_303=>exact rfl));(with_reducible refine Ab.e_op ?_);((with_reducible refine' Ab.e_var ?hh_304 ?_);(case hh_304=>exact rfl));(with_reducible refine Ab.e_int ?_);((with_reducible refine' Ab.o_ixT ?hh_305 ?_);(case hh_305=>exact rfl)))
  refine o_neD rfl rfl (shaped_str ho.tx) (shaped_str hn.tx) ?_
  rw [eqA_str]
  exact dn0 q
 cases d with
 | turn n=>exact one "turn" n nm (by decide +kernel) (by decide +kernel) q
 | fall n=>exact one "fall" n nm (by decide +kernel) (by decide +kernel) q
 | back n=>exact one "back" n nm (by decide +kernel) (by decide +kernel) q
 | fresh n=>exact one "fresh" n nm (by decide +kernel) (by decide +kernel) q
 | leave n=>exact one "leave" n nm (by decide +kernel) (by decide +kernel) q
 | set n ns=>exact num "set" n ns nm (by decide +kernel) (by decide +kernel) (by decide +kernel) q
 | join n ns=>exact num "join" n ns nm (by decide +kernel) (by decide +kernel) (by decide +kernel) q
 | tie n o=>exact two "tie" n o nm.1 nm.2 (by decide +kernel) (by decide +kernel) (by decide +kernel) (by decide +kernel) q
 | cut n o=>exact two "cut" n o nm.1 nm.2 (by decide +kernel) (by decide +kernel) (by decide +kernel) (by decide +kernel) q
 | come k=>
  unfold t_is_deed ddA
  ((with_reducible refine Ab.s_seq ?_);(with_reducible refine Ab.s_if ?_);(with_reducible refine Ab.t_or ?_);(with_reducible refine Ab.t_not ?_);(with_reducible refine Ab.t_B ?_);(with_reducible refine Ab.e_cb ?_);(with_reducible refine Ab.a_cons ?_);((with_reducible refine' Ab.e_var ?hh_306 ?_);(case hh_306=>exact rfl));(with_reducible refine Ab.a_cons ?_);(with_reducible refine Ab.e_ty ?_);(with_reducible refine Ab.a_nil ?_);((with_reducible refine' Ab.l_isTuple ?h1_307 ?_);(case h1_307=>exact rfl));(with_reducible refine Ab.e_B ?_);((with_reducible refine Go.if_f ?hh_308 ?_);(case hh_308=>exact rfl));(with_reducible refine Ab.t_or ?_);(with_reducible refine Ab.t_testB ?_);(with_reducible refine Ab.e_op ?_);(with_reducible refine Ab.e_cb ?_);(with_reducible refine Ab.a_cons ?_);((with_reducible refine' Ab.e_var ?hh_309 ?_);(case hh_309=>exact rfl));(with_reducible refine Ab.a_nil ?_);(with_reducible refine Ab.l_lenT ?_);(with_reducible refine Ab.e_int ?_);(with_reducible refine Ab.o_lt ?_);(with_reducible refine Ab.e_B ?_);((with_reducible refine Go.if_f ?hh_310 ?_);(case hh_310=>exact rfl));(with_reducible refine Ab.t_not ?_);(with_reducible refine Ab.t_B ?_);(with_reducible refine Ab.e_cb ?_);(with_reducible refine Ab.a_cons ?_);(with_reducible refine Ab.e_op ?_);((with_reducible refine' Ab.e_var ?hh_311 ?_);(case hh_311=>exact rfl));(with_reducible refine Ab.e_int ?_);((with_reducible refine' Ab.o_ixT ?hh_312 ?_);(case hh_312=>exact rfl));(with_reducible refine Ab.a_cons ?_);(with_reducible refine Ab.e_ty ?_);(with_reducible refine Ab.a_nil ?_);((with_reducible refine' Ab.l_isStr ?h1_313 ?_);(case h1_313=>exact rfl));(with_reducible refine Ab.e_B ?_);((with_reducible refine Go.if_f ?hh_314 ?_);(case hh_314=>exact rfl));(with_reducible refine Ab.s_next ?_);(with_reducible refine Ab.s_seq ?_);(with_reducible refine Ab.s_if ?_);(with_reducible refine Ab.t_testB ?_);(with_reducible refine Ab.e_op ?_);(with_reducible refine Ab.e_op ?_);((with_reducible refine' Ab.e_var ?hh_315 ?_);(case hh_315=>exact rfl));(with_reducible refine Ab.e_int ?_);((with_reducible refine' Ab.o_ixT ?hh_316 ?_);(case hh_316=>exact rfl));(with_reducible refine Ab.e_str ?_);(with_reducible refine Ab.o_eqS ?_);(with_reducible refine Ab.e_B ?_);((with_reducible refine Go.if_t ?hh_317 ?_);(case hh_317=>exact rfl));(with_reducible refine Ab.s_ret ?_);(with_reducible refine Ab.e_andV ?_);(with_reducible refine Ab.e_op ?_);(with_reducible refine Ab.e_cb ?_);(with_reducible refine Ab.a_cons ?_);((with_reducible refine' Ab.e_var ?hh_318 ?_);(case hh_318=>exact rfl));(with_reducible refine Ab.a_nil ?_);(with_reducible refine Ab.l_lenT ?_);(with_reducible refine Ab.e_int ?_);(with_reducible refine Ab.o_eqI ?_);(with_reducible refine Ab.e_B ?_);((with_reducible refine Go.if_t ?hh_319 ?_);(case hh_319=>exact rfl));(with_reducible refine Ab.e_andV ?_);(with_reducible refine Ab.e_call ?_);(with_reducible refine Ab.a_cons ?_);(with_reducible refine Ab.e_op ?_);((with_reducible refine' Ab.e_var ?hh_320 ?_);(case hh_320=>exact rfl));(with_reducible refine Ab.e_int ?_);((with_reducible refine' Ab.o_ixT ?hh_321 ?_);(case hh_321=>exact rfl));(with_reducible refine Ab.a_nil ?_))
  refine⟨_,rfl,rfl,?_⟩
  ((with_reducible refine Ab.e_B ?_);((with_reducible refine Go.if_t ?hh_322 ?_);(case hh_322=>exact rfl));(with_reducible refine Ab.e_op ?_);(with_reducible refine Ab.e_op ?_);((with_reducible refine' Ab.e_var ?hh_323 ?_);(case hh_323=>exact rfl));(with_reducible refine Ab.e_int ?_);((with_reducible refine' Ab.o_ixT ?hh_324 ?_);(case hh_324=>exact rfl));(with_reducible refine Ab.e_int ?_);(with_reducible refine Ab.o_ge ?_);(with_reducible refine Ab.dn0 ?_))
  rw [decide_eq_true (show(0:Int)≤(k:Int) by omega)]
  exact q
/-- what comes of a deed -/
inductive Wh
 | none
 | word (w:Str)
 | letters (ls:List Lt)
def whA:Wh→A
 | .none=> .tup []
 | .word w=> .str w
 | .letters ls=> .tup (ls.map ltA)
structure Rn where
 size:Nat
 hs:List (Hd×Bool)
 known:List Str
 post:List Lt
 rows:List (Dd×Wh)
structure RAd where
 p:Addr
 ph:Addr
 pu:Addr
 pk:Addr
 pp:Addr
 pr:Addr
 ds:List HAd
abbrev CRun (K:PySem.W.Frag):Addr:=He.ga K "Run"
def runF (a b c d e f:A):List (Str×A):= [("size",a),("here",b),("up",c),("known",d),("post",e),("rows",f)]
abbrev rwA (x:Dd×Wh):A:= .tup [ddA x.1,whA x.2]
def hereD (hs:List (Hd×Bool)) (ds:List HAd):List (Key×A):=List.zipWith (fun x d=>((.inr x.1.called:Key),A.loc d.p)) hs ds
def upD (hs:List (Hd×Bool)):List (Key×A):=hs.map fun x=>((.inr x.1.called:Key),A.bl x.2)
def knownD (zs:List Str):List (Key×A):=zs.map fun z=>((.inr z:Key),A.bl true)
def runO (K:PySem.W.Frag) (d:RAd) (r:Rn):AO:= .ins (CRun K) (runF (.int (r.size:Int)) (.loc d.ph) (.loc d.pu) (.loc d.pk) (.loc d.pp) (.loc d.pr))
def handsC (K:PySem.W.Frag):List (Hd×Bool)→List HAd→AM
 | x :: hs,d :: ds=>handC K d x.1 ++ handsC K hs ds
 | _,_=> []
def runC (K:PySem.W.Frag) (d:RAd) (r:Rn):AM:=(d.p,runO K d r) :: (d.ph,.dic (hereD r.hs d.ds)) :: (d.pu,.dic (upD r.hs)) :: (d.pk,.dic (knownD r.known)) :: (d.pp,.lst (r.post.map ltA)) :: (d.pr,.lst (r.rows.map rwA)) :: handsC K r.hs d.ds
namespace Rn
def names (r:Rn):List Str:=r.hs.map fun x=>x.1.called
def get (r:Rn) (z:Str):Option (Hd×Bool):=r.hs.find? fun x=>decide (x.1.called=z)
def upd (r:Rn) (z:Str) (f:Hd→Hd):Rn:= { r with hs:=r.hs.map fun x=>if x.1.called=z then(f x.1,x.2) else x }
def setUp (r:Rn) (z:Str) (b:Bool):Rn:= { r with hs:=r.hs.map fun x=>if x.1.called=z then(x.1,b) else x }
def isUp (r:Rn) (z:Str):Bool:=((r.get z).map (·.2)).getD false
def tied (r:Rn) (n o:Str):Bool:=((r.get n).map fun x=>decide (o∈x.1.names)).getD false
def can (r:Rn):Dd→Bool
 | .come k=>decide (k < r.post.length)
 | .join n ns=> !decide (n∈r.known) && decide (r.hs.length < 8) && decide (ns.length=r.size)
 | .turn n=>decide (n∈r.names) && r.isUp n
 | .fall n=>decide (n∈r.names) && r.isUp n
 | .back n=>decide (n∈r.names) && !r.isUp n
 | .set n ns=>decide (n∈r.names) && decide (ns.length=r.size)
 | .tie n o=>decide (n∈r.names) && decide (o∈r.names) && !decide (o=n) && !r.tied n o
 | .cut n o=>decide (n∈r.names) && decide (o∈r.names) && !decide (o=n) && r.tied n o
 | .fresh n=>decide (n∈r.names)
 | .leave n=>decide (n∈r.names)
def come (r:Rn) (l:Lt):Str×Rn:=match r.get l.other with
 | none=>("",r)
 | some x=>if x.2=true∧l.one∈x.1.names then((x.1.take l).1,r.upd l.other fun h=>(h.take l).2) else("",r)
def done (r:Rn):Dd→Wh×Rn
 | .turn n=>match r.get n with
  | some x=>(.letters x.1.letters,{ (r.upd n Hd.turned) with post:=r.post ++ x.1.letters })
  | none=>(.none,r)
 | .come k=>match r.post[k]? with
  | some l=>(.word (r.come l).1,(r.come l).2)
  | none=>(.none,r)
 | .join n ns=>(.none,{ r with hs:=r.hs ++ [(hd0 n ns [],true)],known:=r.known ++ [n] })
 | .set n ns=>(.none,r.upd n fun h=>h.setOwn ns)
 | .tie n o=>(.none,(r.upd n fun h=>h.tie o).upd o fun h=>h.tie n)
 | .cut n o=>(.none,(r.upd n fun h=>h.cut o).upd o fun h=>h.cut n)
 | .leave n=>match r.get n with
  | some x=>(.none,{ r with hs:=(r.hs.filter fun y=>decide (y.1.called≠n)).map fun y=>if y.1.called∈x.1.names then(y.1.cut n,y.2) else y })
  | none=>(.none,r)
 | .fall n=>(.none,r.setUp n false)
 | .back n=>(.none,r.setUp n true)
 | .fresh n=>(.none,(r.setUp n true).upd n Hd.fresh)
def step (r:Rn) (d:Dd):Rn:= { (r.done d).2 with rows:=r.rows ++ [(d,(r.done d).1)] }
end Rn
/-- what must be so of a run -/
structure RnW (d:RAd) (r:Rn):Prop where
 lds:r.hs.length=d.ds.length
 nd:r.names.Nodup
 few:r.hs.length≤8
 hw:∀(i:Nat) (x:Hd×Bool) (e:HAd),r.hs[i]? =some x→d.ds[i]? =some e→HdW e x.1
 sym:∀x∈r.hs,∀z∈x.1.names,z≠x.1.called∧ ∃y∈r.hs,y.1.called=z∧x.1.called∈y.1.names
section
variable {a b c d e f v:A}
theorem rF_size:(runF a b c d e f).lookup ("size" :Str)=some a:=by kernel_rfl
theorem rF_here:(runF a b c d e f).lookup ("here" :Str)=some b:=by kernel_rfl
theorem rF_up:(runF a b c d e f).lookup ("up" :Str)=some c:=by kernel_rfl
theorem rF_known:(runF a b c d e f).lookup ("known" :Str)=some d:=by kernel_rfl
theorem rF_post:(runF a b c d e f).lookup ("post" :Str)=some e:=by kernel_rfl
theorem rF_rows:(runF a b c d e f).lookup ("rows" :Str)=some f:=by kernel_rfl
end
section
variable {K:PySem.W.Frag} {M F:AM} {Q:A→Prop} {R:Addr→Prop} {d:RAd} {r:Rn}
theorem lk_run:Lk (runC K d r ++ F) d.p (runO K d r):= .here
theorem lk_here:Lk (runC K d r ++ F) d.ph (.dic (hereD r.hs d.ds)):= .there .here
theorem lk_up:Lk (runC K d r ++ F) d.pu (.dic (upD r.hs)):= .there (.there .here)
theorem lk_known:Lk (runC K d r ++ F) d.pk (.dic (knownD r.known)):= .there (.there (.there .here))
theorem lk_post:Lk (runC K d r ++ F) d.pp (.lst (r.post.map ltA)):= .there (.there (.there (.there .here)))
theorem lk_rows:Lk (runC K d r ++ F) d.pr (.lst (r.rows.map rwA)):= .there (.there (.there (.there (.there .here))))
theorem rf_size (G:GcRun K) (lk:Lk M d.p (runO K d r)) (q:Q (.int (r.size:Int))):∃p C fs v,A.loc d.p= .loc p∧Lk M p (.ins C fs)∧Cls K C∧NoAttr K C ("size" :Str)∧fs.lookup ("size" :Str)=some v∧Q v:=⟨d.p,_,_,_,rfl,lk,G.c,G.n_size,rF_size,q⟩
theorem rf_here (G:GcRun K) (lk:Lk M d.p (runO K d r)) (q:Q (.loc d.ph)):∃p C fs v,A.loc d.p= .loc p∧Lk M p (.ins C fs)∧Cls K C∧NoAttr K C ("here" :Str)∧fs.lookup ("here" :Str)=some v∧Q v:=⟨d.p,_,_,_,rfl,lk,G.c,G.n_here,rF_here,q⟩
theorem rf_up (G:GcRun K) (lk:Lk M d.p (runO K d r)) (q:Q (.loc d.pu)):∃p C fs v,A.loc d.p= .loc p∧Lk M p (.ins C fs)∧Cls K C∧NoAttr K C ("up" :Str)∧fs.lookup ("up" :Str)=some v∧Q v:=⟨d.p,_,_,_,rfl,lk,G.c,G.n_up,rF_up,q⟩
theorem rf_known (G:GcRun K) (lk:Lk M d.p (runO K d r)) (q:Q (.loc d.pk)):∃p C fs v,A.loc d.p= .loc p∧Lk M p (.ins C fs)∧Cls K C∧NoAttr K C ("known" :Str)∧fs.lookup ("known" :Str)=some v∧Q v:=⟨d.p,_,_,_,rfl,lk,G.c,G.n_known,rF_known,q⟩
theorem rf_post (G:GcRun K) (lk:Lk M d.p (runO K d r)) (q:Q (.loc d.pp)):∃p C fs v,A.loc d.p= .loc p∧Lk M p (.ins C fs)∧Cls K C∧NoAttr K C ("post" :Str)∧fs.lookup ("post" :Str)=some v∧Q v:=⟨d.p,_,_,_,rfl,lk,G.c,G.n_post,rF_post,q⟩
theorem rf_rows (G:GcRun K) (lk:Lk M d.p (runO K d r)) (q:Q (.loc d.pr)):∃p C fs v,A.loc d.p= .loc p∧Lk M p (.ins C fs)∧Cls K C∧NoAttr K C ("rows" :Str)∧fs.lookup ("rows" :Str)=some v∧Q v:=⟨d.p,_,_,_,rfl,lk,G.c,G.n_rows,rF_rows,q⟩
end
local macro_rules | `(tactic| walk_at "lkr")=> `(tactic| first | assumption | exact lk_run | exact lk_here | exact lk_up | exact lk_known | exact lk_post | exact lk_rows | walk_at "lkh")
local macro_rules | `(tactic| walk_at "q")=> `(tactic| first
 | walk_at "o"
 | ((with_reducible refine' rf_size ?gg ?ll ?_);(case gg=>assumption);(case ll=>walk_at "lkr"))
 | ((with_reducible refine' rf_here ?gg ?ll ?_);(case gg=>assumption);(case ll=>walk_at "lkr"))
 | ((with_reducible refine' rf_up ?gg ?ll ?_);(case gg=>assumption);(case ll=>walk_at "lkr"))
 | ((with_reducible refine' rf_known ?gg ?ll ?_);(case gg=>assumption);(case ll=>walk_at "lkr"))
 | ((with_reducible refine' rf_post ?gg ?ll ?_);(case gg=>assumption);(case ll=>walk_at "lkr"))
 | ((with_reducible refine' rf_rows ?gg ?ll ?_);(case gg=>assumption);(case ll=>walk_at "lkr")))
local macro_rules | `(tactic| walk_at "r")=> `(tactic| repeat (walk_at "q"))
local macro_rules | `(tactic| walk_at "t")=> `(tactic| repeat (first | walk_at "q" | with_reducible refine Ab.s_if ?_))
def RIn (K:PySem.W.Frag) (M:AM) (d:RAd) (r:Rn):Prop:=Sub (runC K d r ++ []) M
theorem hereD_zip (hs:List (Hd×Bool)) (ds:List HAd):hereD hs ds=zipD (hs.map fun x=>x.1.called) (ds.map (·.p)):=by
 unfold hereD zipD
 rw [List.zipWith_map]
theorem here_get {hs:List (Hd×Bool)} {ds:List HAd} (hl:hs.length=ds.length) (nd:(hs.map fun x=>x.1.called).Nodup) {i:Nat} {x:Hd×Bool} (hi:hs[i]? =some x):∃e,ds[i]? =some e∧valA (hereD hs ds) (.inr x.1.called)=some (.loc e.p):=by
 have hlt:=(List.getElem?_eq_some_iff.mp hi).1
 refine⟨ds[i]'(by omega),List.getElem?_eq_getElem (by omega),?_⟩
 rw [hereD_zip]
 exact zip_val nd (by rw [List.getElem?_map,hi];rfl) (by rw [List.getElem?_map,List.getElem?_eq_getElem (show i < ds.length by omega)];rfl)
theorem get_find {hs:List (Hd×Bool)} (nd:(hs.map fun x=>x.1.called).Nodup) {i:Nat} {x:Hd×Bool} (hi:hs[i]? =some x):(hs.find? fun y=>decide (y.1.called=x.1.called))=some x:=by
 cases hf:hs.find? fun y=>decide (y.1.called=x.1.called) with
 | none=>have:=List.find?_eq_none.mp hf x (List.mem_of_getElem? hi);simp at this
 | some y=>
  have e2:y.1.called=x.1.called:=by simpa using List.find?_some hf
  obtain⟨j,hj⟩:=List.getElem?_of_mem (List.mem_of_find?_eq_some hf)
  have h1:(hs.map fun x=>x.1.called)[i]? =some x.1.called:=by rw [List.getElem?_map,hi];rfl
  have h2:(hs.map fun x=>x.1.called)[j]? =some x.1.called:=by rw [List.getElem?_map,hj];exact congrArg some e2
  have:=(List.getElem?_inj (List.getElem?_eq_some_iff.mp h1).1 nd).mp (h1.trans h2.symm)
  subst this
  rw [hi] at hj
  exact hj.symm
theorem handsC_sub {K:PySem.W.Frag} {F:AM} :∀ {hs:List (Hd×Bool)} {ds:List HAd} {i:Nat} {x:Hd×Bool} {e:HAd},hs[i]? =some x→ds[i]? =some e→ ∀p o,Lk (handC K e x.1 ++ []) p o→Lk (handsC K hs ds ++ F) p o
 | [],_,_,_,_,h,_=>by cases h
 | _ :: _,[],_,_,_,_,h=>by cases h
 | y :: hs,d :: ds,0,x,e,h1,h2=>fun p o l=>by
  cases h1;cases h2
  rw [List.append_nil] at l
  show Lk ((handC K d y.1 ++ handsC K hs ds) ++ F) p o
  rw [List.append_assoc]
  exact lk_app l
 | y :: hs,d :: ds,i+1,x,e,h1,h2=>fun p o l=>by
  show Lk ((handC K d y.1 ++ handsC K hs ds) ++ F) p o
  rw [List.append_assoc]
  exact lk_pre (handsC_sub (hs:=hs) (ds:=ds) (i:=i) h1 h2 p o l)
theorem run_hin {K:PySem.W.Frag} {M:AM} {d:RAd} {r:Rn} (hi:RIn K M d r) {i:Nat} {x:Hd×Bool} {e:HAd} (h1:r.hs[i]? =some x) (h2:d.ds[i]? =some e):HIn K M e x.1:=fun p o l=>hi p o (.there (.there (.there (.there (.there (.there (handsC_sub h1 h2 p o l)))))))
theorem name_at {r:Rn} {z:Str} (h:z∈r.names):∃(i:Nat) (x:Hd×Bool),r.hs[i]? =some x∧x.1.called=z:=by
 obtain⟨x,hx,e⟩:=List.mem_map.mp h
 obtain⟨i,hi⟩:=List.getElem?_of_mem hx
 exact⟨i,x,hi,e⟩
theorem get_none {r:Rn} {z:Str} (h:z∉r.names):r.get z=none:=by
 unfold Rn.get
 refine List.find?_eq_none.mpr fun x hx e=> ?_
 simp at e
 exact h (List.mem_map.mpr ⟨x,hx,e⟩)
theorem take_called (h:Hd) (l:Lt):(h.take l).2.called=h.called:=by
 unfold Hd.take
 cases h.acc l.one with
 | none=>rfl
 | some a=>
  dsimp only
  (repeat' split) <;> rfl
def qb (c:Nat):Nat:=1000000000000*2^(10*c)
theorem qb_succ (c:Nat):qb (c+1)=1024*qb c:=by
 unfold qb
 rw [show 10*(c+1)=10*c+10 by omega,Nat.pow_add]
 omega
theorem qb_mono {c c':Nat} (h:c≤c'):qb c≤qb c':=Nat.mul_le_mul_left _ (Nat.pow_le_pow_right (by decide) (by omega))
theorem qb_own (c:Nat):1000000000000≤qb c:=by
 have:=qb_mono (Nat.zero_le c)
 exact this
theorem qb_fit {c:Nat} (h:c≤20000):2000*qb c*2^(5*c+10) < 2^1000000:=by
 unfold qb
 have h1:2000*(1000000000000*2^(10*c))*2^(5*c+10)≤2^11*(2^40*2^(10*c))*2^(5*c+10):=Nat.mul_le_mul_right _ (Nat.mul_le_mul (by decide) (Nat.mul_le_mul_right _ (by decide)))
 refine Nat.lt_of_le_of_lt h1 ?_
 rw [← Nat.pow_add,← Nat.pow_add,← Nat.pow_add]
 exact Nat.pow_lt_pow_right (by decide) (by omega)
/-- a roll within some names -/
structure RoB (U:List Str) (es:List En):Prop where
 nd:(es.map (·.nm)).Nodup
 sub:∀e∈es,e.nm∈U
theorem RoB.len {U:List Str} {es:List En} (h:RoB U es):es.length≤U.length:=by
 have:=sub_len h.nd (m:=U) fun x hx=>by
  obtain⟨e,he,rfl⟩:=List.mem_map.mp hx
  exact h.sub e he
 rwa [List.length_map] at this
theorem mput_mem {acc:List En} {e x:En} (h:x∈mput acc e):x∈acc∨x=e:=by
 unfold mput at h
 split at h
 ·obtain⟨y,hy,rfl⟩:=List.mem_map.mp h
  split
  ·split
   ·exact .inr rfl
   ·exact .inl hy
  ·exact .inl hy
 ·rcases List.mem_append.mp h with h | h
  ·exact .inl h
  ·exact .inr (List.mem_singleton.mp h)
theorem mfold_mem {es:List En} {x:En} (h:x∈mfold es):x∈es:=by
 have key:∀(es acc:List En),x∈es.foldl mput acc→x∈acc∨x∈es:=by
  intro es
  induction es with
  | nil=>intro acc h;exact .inl h
  | cons e es ih=>
   intro acc h
   rcases ih _ h with h | h
   ·rcases mput_mem h with h | rfl
    ·exact .inl h
    ·exact .inr List.mem_cons_self
   ·exact .inr (List.mem_cons_of_mem _ h)
 rcases key es [] h with h | h
 ·cases h
 ·exact h
theorem mfold_b {U:List Str} {es:List En} (h:∀e∈es,e.nm∈U):RoB U (mfold es):=⟨mfold_nd es,fun e he=>h e (mfold_mem he)⟩
theorem mrg_b {U:List Str} {es fs:List En} (h1:∀e∈es,e.nm∈U) (h2:∀e∈fs,e.nm∈U):RoB U (mrg es fs):=by
 have h:=mfold_b (U:=U) (es:=es ++ fs) fun e he=>by
  rcases List.mem_append.mp he with he | he
  ·exact h1 e he
  ·exact h2 e he
 have p:=srtE_perm (mfold (es ++ fs))
 exact⟨((p.map (·.nm)).nodup_iff).mpr h.nd,fun e he=>h.sub e (p.mem_iff.mp he)⟩
def AccB (n c:Nat) (a:Acc):Prop:=a.many=n∧a.given.length=n+1∧a.taken.length=n+1∧Sq (qb c) (5*c) a.given∧Sq (qb c) (5*c) a.taken
theorem AccB.mono {n c c':Nat} {a:Acc} (h:AccB n c a) (hc:c≤c'):AccB n c' a:=⟨h.1,h.2.1,h.2.2.1,h.2.2.2.1.mono (qb_mono hc) (by omega),h.2.2.2.2.mono (qb_mono hc) (by omega)⟩
theorem acc0_b (n c:Nat) (st:Option (Int×Int)):AccB n c (acc0 n st):=⟨rfl,List.length_replicate,List.length_replicate,rzero_sq _ _ _,rzero_sq _ _ _⟩
/-- what is so of a hand behind so many deeds -/
structure HB (U:List Str) (n c:Nat) (h:Hd):Prop where
 len:h.own.length=n
 own:∀x∈h.own,x.natAbs≤1000000000000
 acc:∀a∈h.accs,AccB n c a.2
 nd:h.names.Nodup
 era:∀z∈h.names,z∈h.eras.map (·.1)
 nde:(h.eras.map (·.1)).Nodup
 sube:∀z∈h.eras.map (·.1),z∈U
 ro:RoB U h.heard
 me:h.called∈U
theorem HB.mono {U:List Str} {n c c':Nat} {h:Hd} (b:HB U n c h) (hc:c≤c'):HB U n c' h:=⟨b.len,b.own,fun a ha=>(b.acc a ha).mono hc,b.nd,b.era,b.nde,b.sube,b.ro,b.me⟩
theorem HB.hdb {U:List Str} {n c:Nat} {h:Hd} (b:HB U n c h) (hn:n≤3) (hc:c≤20000):HdB n (qb c) (5*c) h:=⟨b.len,hn,fun x hx=>Nat.le_trans (b.own x hx) (qb_own c),Nat.le_trans (by decide) (qb_own c),b.acc,qb_fit hc,by omega⟩
theorem HB.w {U:List Str} {n c:Nat} {h:Hd} (b:HB U n c h) (hu:U.length < 64) (few:h.accs.length≤20) {d:HAd} (l:h.accs.length=d.ps.length):HdW d h:=⟨l,b.nd,few,b.era,by
 have:=sub_len b.nde b.sube
 rw [List.length_map] at this
 omega,b.nde⟩
theorem written_b {U:List Str} {h:Hd} (ro:RoB U h.heard) (me:h.called∈U):RoB U h.written.heard:=mrg_b (fun e he=>by rw [List.mem_singleton.mp he];exact me) ro.sub
theorem HB.changed {U:List Str} {n c:Nat} {h:Hd} (b:HB U n c h):HB U n c h.changed:=⟨b.len,b.own,b.acc,b.nd,b.era,b.nde,b.sube,written_b (h:= { h with version:=h.version+1 }) b.ro b.me,b.me⟩
theorem HB.setOwn {U:List Str} {n c:Nat} {h:Hd} (b:HB U n c h) {ns:List Int} (l:ns.length=n) (hs:∀x∈ns,x.natAbs≤1000000000000):HB U n c (h.setOwn ns):=
 HB.changed (h:= { h with own:=ns }) ⟨l,hs,b.acc,b.nd,b.era,b.nde,b.sube,b.ro,b.me⟩
theorem HB.tie {U:List Str} {n c:Nat} {h:Hd} (b:HB U n c h) {z:Str} (hz:z∉h.names) (hU:z∈U):HB U n c (h.tie z):=by
 refine HB.changed (h:= { h with eras:=if z∈h.eras.map (·.1) then h.eras else h.eras ++ [(z,0)],accs:=h.accs ++ [(z,acc0 h.own.length none)] }) ⟨b.len,b.own,fun a ha=> ?_,?_,fun y hy=> ?_,?_,fun y hy=> ?_,b.ro,b.me⟩
 ·rcases List.mem_append.mp ha with ha | ha
  ·exact b.acc a ha
  ·rw [List.mem_singleton.mp ha,b.len];exact acc0_b _ _ _
 ·show((h.accs ++ [(z,acc0 h.own.length none)]).map (·.1)).Nodup
  rw [List.map_append]
  exact snoc_nodup b.nd hz
 ·have hy':y∈(h.accs ++ [(z,acc0 h.own.length none)]).map (·.1):=hy
  show y∈(if z∈h.eras.map (·.1) then h.eras else h.eras ++ [(z,0)]).map (·.1)
  rw [List.map_append] at hy'
  rcases List.mem_append.mp hy' with hy' | hy'
  ·have:=b.era y hy'
   split
   ·exact this
   ·rw [List.map_append];exact List.mem_append_left _ this
  ·have e:y=z:=List.mem_singleton.mp hy'
   split
   ·rw [e];assumption
   ·rw [List.map_append,e];exact List.mem_append_right _ List.mem_cons_self
 ·show((if z∈h.eras.map (·.1) then h.eras else h.eras ++ [(z,0)]).map (·.1)).Nodup
  split
  ·exact b.nde
  ·rw [List.map_append];exact snoc_nodup b.nde (by assumption)
 ·have hy':y∈(if z∈h.eras.map (·.1) then h.eras else h.eras ++ [(z,0)]).map (·.1):=hy
  split at hy'
  ·exact b.sube y hy'
  ·rw [List.map_append] at hy'
   rcases List.mem_append.mp hy' with hy' | hy'
   ·exact b.sube y hy'
   ·rw [List.mem_singleton.mp hy'];exact hU
theorem cut_eras (l:List (Str×Int)) (z:Str):(l.map fun x=>if x.1=z then(x.1,x.2+1) else x).map (·.1)=l.map (·.1):=by
 rw [List.map_map]
 refine List.map_congr_left fun x _=> ?_
 show(if x.1=z then(x.1,x.2+1) else x).1=x.1
 split <;> rfl
theorem cut_names (l:List (Str×Acc)) (z:Str):(l.filter fun x=>decide (x.1≠z)).map (·.1)=(l.map (·.1)).filter fun y=>decide (y≠z):=by
 rw [List.filter_map];rfl
theorem HB.cut {U:List Str} {n c:Nat} {h:Hd} (b:HB U n c h) (z:Str):HB U n c (h.cut z):=by
 refine HB.changed (h:= { h with eras:=h.eras.map fun x=>if x.1=z then(x.1,x.2+1) else x,accs:=h.accs.filter fun x=>decide (x.1≠z) }) ⟨b.len,b.own,fun a ha=>b.acc a (List.mem_filter.mp ha).1,?_,fun y hy=> ?_,?_,fun y hy=> ?_,b.ro,b.me⟩
 ·show((h.accs.filter fun x=>decide (x.1≠z)).map (·.1)).Nodup
  rw [cut_names]
  exact b.nd.sublist List.filter_sublist
 ·have hy':y∈(h.accs.filter fun x=>decide (x.1≠z)).map (·.1):=hy
  rw [cut_names] at hy'
  show y∈(h.eras.map fun x=>if x.1=z then(x.1,x.2+1) else x).map (·.1)
  rw [cut_eras]
  exact b.era y (List.mem_filter.mp hy').1
 ·show((h.eras.map fun x=>if x.1=z then(x.1,x.2+1) else x).map (·.1)).Nodup
  rw [cut_eras];exact b.nde
 ·have hy':y∈(h.eras.map fun x=>if x.1=z then(x.1,x.2+1) else x).map (·.1):=hy
  rw [cut_eras] at hy'
  exact b.sube y hy'
theorem new_names {α:Type} (zs:List Str) (a:α):(zs.map fun z=>(z,a)).map (·.1)=zs:=by rw [List.map_map];exact List.map_id' _
theorem new_b {U:List Str} {n c:Nat} {z:Str} {i j:Int} {ns:List Int} {zs:List Str} {es:List En} (l:ns.length=n) (hs:∀x∈ns,x.natAbs≤1000000000000) (nd:zs.Nodup) (hz:∀y∈zs,y∈U) (ro:RoB U es) (me:z∈U):HB U n c ⟨z,i,j,ns,zs.map fun z=>(z,0),zs.map fun z=>(z,acc0 ns.length none),es⟩:=by
 refine⟨l,hs,fun a ha=> ?_,?_,fun y hy=> ?_,?_,fun y hy=> ?_,ro,me⟩
 ·obtain⟨y,hy,rfl⟩:=List.mem_map.mp ha
  rw [l];exact acc0_b _ _ _
 ·show((zs.map fun z=>(z,acc0 ns.length none)).map (·.1)).Nodup
  rw [new_names];exact nd
 ·have hy':y∈(zs.map fun z=>(z,acc0 ns.length none)).map (·.1):=hy
  show y∈(zs.map fun z=>(z,(0:Int))).map (·.1)
  rw [new_names] at hy' ⊢;exact hy'
 ·show((zs.map fun z=>(z,(0:Int))).map (·.1)).Nodup
  rw [new_names];exact nd
 ·have hy':y∈(zs.map fun z=>(z,(0:Int))).map (·.1):=hy
  rw [new_names] at hy';exact hz y hy'
theorem one_b {U:List Str} {e:En} (h:e.nm∈U):RoB U [e]:=⟨one_nodup _,fun x hx=>by rw [List.mem_singleton.mp hx];exact h⟩
theorem nil_b (U:List Str):RoB U []:=⟨List.nodup_nil,fun x hx=>by cases hx⟩
theorem HB.fresh {U:List Str} {n c:Nat} {h:Hd} (b:HB U n c h):HB U n c h.fresh:=
 new_b (zs:=srtS h.names) b.len b.own ((srtS_perm _).nodup_iff.mpr b.nd) (fun y hy=>b.sube y (b.era y ((srtS_perm _).mem_iff.mp hy))) (one_b b.me) b.me
theorem hd0_b {U:List Str} {n c:Nat} {z:Str} {ns:List Int} {os:List Str} (l:ns.length=n) (hs:∀x∈ns,x.natAbs≤1000000000000) (nd:os.Nodup) (hz:∀y∈os,y∈U) (me:z∈U):HB U n c (hd0 z ns os):=by
 have b:HB U n c ⟨z,1,1,ns,os.map fun o=>(o,0),os.map fun o=>(o,acc0 ns.length none),[]⟩:=new_b l hs nd hz (nil_b U) me
 exact⟨b.len,b.own,b.acc,b.nd,b.era,b.nde,b.sube,written_b b.ro b.me,b.me⟩
theorem gaveTo_from (h:Hd):∀i,∀a∈gaveTo h i,∃a0∈h.accs,a.1=a0.1∧a.2.many=a0.2.many∧a.2.taken=a0.2.taken
 | 0,a,ha=>⟨a,ha,rfl,rfl,rfl⟩
 | i+1,a,ha=>by
  cases hz:h.opens[i]? with
  | none=>
   have e:gaveTo h (i+1)=gaveTo h i:=by
    unfold gaveTo
    rw [List.take_add_one,hz];simp
   rw [e] at ha
   exact gaveTo_from h i a ha
  | some z=>
   rw [gaveTo_succ hz] at ha
   unfold updA at ha
   obtain⟨x,hx,rfl⟩:=List.mem_map.mp ha
   obtain⟨a0,h0,h1,h2,h3⟩:=gaveTo_from h i x hx
   refine⟨a0,h0,?_⟩
   split
   ·exact⟨h1,h2,h3⟩
   ·exact⟨h1,h2,h3⟩
theorem turned_eq (h:Hd):h.turned= { h with accs:=gaveTo h h.opens.length } :=by
 unfold Hd.turned gaveTo
 rw [List.take_of_length_le (Nat.le_refl _)]
theorem turned_names (h:Hd):h.turned.names=h.names:=by
 rw [turned_eq]
 exact gaveTo_names h _
theorem HB.turned {U:List Str} {n c:Nat} {h:Hd} (b:HB U n c h) (hu:U.length < 64) (hn:n≤3) (hc:c≤20000) (few:h.accs.length≤20):HB U n (c+1) h.turned:=by
 have w:HdW ⟨0,0,0,List.replicate h.accs.length 0⟩ h:=b.w hu few (by rw [List.length_replicate])
 have nm:(gaveTo h h.opens.length).map (·.1)=h.names:=gaveTo_names h _
 rw [turned_eq]
 refine⟨b.len,b.own,fun a ha=> ?_,by show((gaveTo h h.opens.length).map (·.1)).Nodup;rw [nm];exact b.nd,fun y hy=>b.era y (by have hy':y∈(gaveTo h h.opens.length).map (·.1):=hy;rwa [nm] at hy'),b.nde,b.sube,b.ro,b.me⟩
 obtain⟨a0,h0,h1,h2,h3⟩:=gaveTo_from h _ a ha
 obtain⟨g1,g2⟩:=gaveTo_ok w (b.hdb hn hc) _ a ha
 obtain⟨b1,b2,b3,b4,b5⟩:=b.acc a0 h0
 refine⟨by rw [h2,b1],g1,by rw [h3,b3],g2.mono ?_ (by omega),by rw [h3];exact b5.mono (qb_mono (by omega)) (by omega)⟩
 rw [qb_succ]
 have lo:=opens_len h
 have:h.opens.length*(41*qb c)≤20*(41*qb c):=Nat.mul_le_mul_right _ (by omega)
 omega
/-- what is so of a letter -/
structure LB (U:List Str) (n c:Nat) (l:Lt):Prop where
 len:l.given.length=n+1
 sq:Sq (qb c) (5*c) l.given
 ro:RoB U l.roll
theorem LB.mono {U:List Str} {n c c':Nat} {l:Lt} (b:LB U n c l) (hc:c≤c'):LB U n c' l:=⟨b.len,b.sq.mono (qb_mono hc) (by omega),b.ro⟩
theorem acc_mem {h:Hd} {z:Str} {a:Acc} (e:h.acc z=some a):(z,a)∈h.accs:=by
 unfold Hd.acc at e
 cases hf:h.accs.find? fun x=>decide (x.1=z) with
 | none=>rw [hf] at e;cases e
 | some x=>
  rw [hf] at e
  have e1:x.2=a:=Option.some.inj e
  have e2:x.1=z:=of_decide_eq_true (List.find?_some (p:=fun x:Str×Acc=>decide (x.1=z)) hf)
  rw [← e1,← e2]
  exact List.mem_of_find?_eq_some hf
theorem acc_some {h:Hd} {z:Str} (hz:z∈h.names):∃a,h.acc z=some a:=by
 cases e:h.acc z with
 | none=>exact absurd hz (acc_none e)
 | some a=>exact⟨a,rfl⟩
theorem HB.letters {U:List Str} {n c:Nat} {h:Hd} (b:HB U n c h) (hu:U.length < 64) (hn:n≤3) (hc:c≤20000) (few:h.accs.length≤20):∀l∈h.letters,LB U n (c+1) l:=fun l hl=>by
 obtain⟨z,hz,rfl⟩:=List.mem_map.mp hl
 have hz':z∈h.turned.names:=by rw [turned_names];exact(srtS_perm _).mem_iff.mp hz
 obtain⟨a,ha⟩:=acc_some hz'
 have bt:=b.turned hu hn hc few
 unfold Hd.letter
 rw [ha]
 obtain⟨b1,b2,b3,b4,b5⟩:=bt.acc _ (acc_mem ha)
 exact⟨b2,b4,bt.ro⟩
theorem hear_b {n c:Nat} {a:Acc} (b:AccB n c a) (st:Int×Int):AccB n c (a.hear st):=by
 unfold Acc.hear
 split
 ·rw [b.1];exact acc0_b _ _ _
 ·split
  ·rw [b.1];exact acc0_b _ _ _
  ·exact b
theorem updA_b {n c:Nat} {l:List (Str×Acc)} {z:Str} {a:Acc} (h:∀x∈l,AccB n c x.2) (ha:AccB n c a):∀x∈updA l z fun _=>a,AccB n c x.2:=fun x hx=>by
 obtain⟨y,hy,rfl⟩:=List.mem_map.mp hx
 split
 ·exact ha
 ·exact h y hy
theorem HB.take {U:List Str} {n c:Nat} {h:Hd} (b:HB U n c h) {l:Lt} (bl:LB U n c l):HB U n c (h.take l).2∧(h.take l).2.names=h.names:=by
 have ro:=mrg_b (U:=U) (es:=h.heard) (fs:=l.roll) b.ro.sub bl.ro.sub
 have key:∀a:Acc,AccB n c a→HB U n c { h with accs:=updA h.accs l.one fun _=>a,heard:=mrg h.heard l.roll } ∧Hd.names { h with accs:=updA h.accs l.one fun _=>a,heard:=mrg h.heard l.roll } =h.names:=fun a ba=>by
  have nm:Hd.names { h with accs:=updA h.accs l.one fun _=>a,heard:=mrg h.heard l.roll } =h.names:=updA_names h.accs l.one fun _=>a
  exact⟨⟨b.len,b.own,updA_b b.acc ba,by rw [nm];exact b.nd,by rw [nm];exact b.era,b.nde,b.sube,ro,b.me⟩,nm⟩
 unfold Hd.take
 cases ha:h.acc l.one with
 | none=>exact⟨b,rfl⟩
 | some a=>
  have ba:=hear_b (b.acc _ (acc_mem ha)) l.stamp
  dsimp only
  have two:∀bb:Bool,HB U n c (if bb=true then(("" :Str),h) else if l.seen=some (h.stamp l.one)∧(a.hear l.stamp).takes < l.gifts then(("taken" :Str),{ h with accs:=updA h.accs l.one fun _=> { a.hear l.stamp with takes:=l.gifts,taken:=l.given },heard:=mrg h.heard l.roll }) else(("heard" :Str),{ h with accs:=updA h.accs l.one fun _=>a.hear l.stamp,heard:=mrg h.heard l.roll })).2∧(if bb=true then(("" :Str),h) else if l.seen=some (h.stamp l.one)∧(a.hear l.stamp).takes < l.gifts then(("taken" :Str),{ h with accs:=updA h.accs l.one fun _=> { a.hear l.stamp with takes:=l.gifts,taken:=l.given },heard:=mrg h.heard l.roll }) else(("heard" :Str),{ h with accs:=updA h.accs l.one fun _=>a.hear l.stamp,heard:=mrg h.heard l.roll })).2.names=h.names:=by
   intro bb
   cases bb with
   | true=>exact⟨b,rfl⟩
   | false=>
    rw [if_neg (by decide)]
    by_cases h2:l.seen=some (h.stamp l.one)∧(a.hear l.stamp).takes < l.gifts
    ·rw [if_pos h2]
     exact key { a.hear l.stamp with takes:=l.gifts,taken:=l.given } ⟨ba.1,ba.2.1,bl.len,ba.2.2.2.1,bl.sq⟩
    ·rw [if_neg h2]
     exact key _ ba
  exact two _
/-- what is so of a run behind so many deeds -/
structure RB (U:List Str) (c:Nat) (r:Rn):Prop where
 n1:1≤r.size
 n3:r.size≤3
 u:U.length < 64
 hb:∀x∈r.hs,HB U r.size c x.1
 nd:r.names.Nodup
 few:r.hs.length≤8
 sym:∀a b,r.tied a b=true→a≠b∧r.tied b a=true
 kn:r.known.Nodup
 ku:∀z∈r.known,z∈U
 nk:∀z∈r.names,z∈r.known
 post:∀l∈r.post,LB U r.size c l
 lp:r.post.length≤20*c
 lr:r.rows.length≤c
/-- the deed's names and numbers are within bounds -/
def Dd.okU (U:List Str):Dd→Prop
 | .join n ns=>n∈U∧ ∀x∈ns,x.natAbs≤1000000000000
 | .set _ ns=> ∀x∈ns,x.natAbs≤1000000000000
 | _=>True
theorem rget_some {r:Rn} {z:Str} {x:Hd×Bool} (h:r.get z=some x):x∈r.hs∧x.1.called=z:=⟨List.mem_of_find?_eq_some h,of_decide_eq_true (List.find?_some (p:=fun x:Hd×Bool=>decide (x.1.called=z)) h)⟩
theorem rget_of {r:Rn} (nd:r.names.Nodup) {x:Hd×Bool} (hx:x∈r.hs):r.get x.1.called=some x:=by
 obtain⟨i,hi⟩:=List.getElem?_of_mem hx
 exact get_find nd hi
theorem rget_mem {r:Rn} {z:Str} (nd:r.names.Nodup) (h:z∈r.names):∃x,r.get z=some x:=by
 obtain⟨i,x,hx,rfl⟩:=name_at h
 exact⟨x,get_find nd hx⟩
theorem rget_names {r:Rn} {z:Str} {x:Hd×Bool} (h:r.get z=some x):z∈r.names:=by
 obtain⟨h1,h2⟩:=rget_some h
 rw [← h2]
 exact List.mem_map.mpr ⟨x,h1,rfl⟩
theorem tied_iff {r:Rn} {a b:Str} :r.tied a b=true↔ ∃x,r.get a=some x∧b∈x.1.names:=by
 unfold Rn.tied
 cases h:r.get a with
 | none=>exact⟨fun h=>(by cases h),fun⟨x,h,_⟩=>(by cases h)⟩
 | some x=>exact⟨fun h=>⟨x,rfl,of_decide_eq_true h⟩,fun⟨y,h,m⟩=>by cases h;exact decide_eq_true m⟩
theorem RB.fewA {U:List Str} {c:Nat} {r:Rn} (b:RB U c r) {x:Hd×Bool} (hx:x∈r.hs):x.1.accs.length≤8:=by
 have h:=sub_len (b.hb x hx).nd (m:=r.names) fun z hz=>by
  have t:r.tied x.1.called z=true:=tied_iff.mpr ⟨x,rget_of b.nd hx,hz⟩
  obtain⟨y,hy,_⟩:=tied_iff.mp (b.sym _ _ t).2
  exact rget_names hy
 have e1:x.1.names.length=x.1.accs.length:=List.length_map _
 have e2:r.names.length=r.hs.length:=List.length_map _
 have:=b.few
 omega
theorem rget_map {r:Rn} {g:Hd×Bool→Hd×Bool} (hg:∀x,(g x).1.called=x.1.called) {hs:List (Hd×Bool)} (e:hs=r.hs.map g) {k:List Str} {po:List Lt} {n:Nat} {ro:List (Dd×Wh)} (z:Str):(⟨n,hs,k,po,ro⟩:Rn).get z=(r.get z).map g:=by
 unfold Rn.get
 rw [e,List.find?_map]
 congr 1
 refine congrFun (congrArg _ (funext fun x=> ?_)) _
 show decide ((g x).1.called=z)=_
 rw [hg]
theorem RB.mono {U:List Str} {c:Nat} {r:Rn} (b:RB U c r):RB U (c+1) r:=⟨b.n1,b.n3,b.u,fun x hx=>(b.hb x hx).mono (by omega),b.nd,b.few,b.sym,b.kn,b.ku,b.nk,fun l hl=>(b.post l hl).mono (by omega),by have:=b.lp;omega,by have:=b.lr;omega⟩
theorem RB.map {U:List Str} {c:Nat} {r:Rn} (b:RB U c r) (g:Hd×Bool→Hd×Bool) (hg:∀x,(g x).1.called=x.1.called) (hb:∀x∈r.hs,HB U r.size (c+1) (g x).1) (sy:∀x y a z,r.get a=some x→r.get z=some y→z∈(g x).1.names→a≠z∧a∈(g y).1.names) (sn:∀x a z,r.get a=some x→z∈(g x).1.names→z∈r.names)
  {hs:List (Hd×Bool)} (e:hs=r.hs.map g) {po:List Lt} (hp:∀l∈po,LB U r.size (c+1) l) (lp:po.length≤20*(c+1)):RB U (c+1) ⟨r.size,hs,r.known,po,r.rows⟩:=by
 have en:(⟨r.size,hs,r.known,po,r.rows⟩:Rn).names=r.names:=by
  show hs.map (fun x=>x.1.called)=r.hs.map fun x=>x.1.called
  rw [e,List.map_map]
  exact List.map_congr_left fun x _=>hg x
 refine⟨b.n1,b.n3,b.u,fun x hx=> ?_,by rw [en];exact b.nd,by show hs.length≤8;rw [e,List.length_map];exact b.few,fun a z h=> ?_,b.kn,b.ku,by rw [en];exact b.nk,hp,lp,by have:=b.lr;show r.rows.length≤_;omega⟩
 ·have hx':x∈hs:=hx
  rw [e] at hx'
  obtain⟨y,hy,rfl⟩:=List.mem_map.mp hx'
  exact hb y hy
 ·obtain⟨x',hx',m⟩:=tied_iff.mp h
  rw [rget_map hg e] at hx'
  cases hx:r.get a with
  | none=>rw [hx] at hx';cases hx'
  | some x=>
   rw [hx] at hx'
   cases hx'
   obtain⟨y,hy⟩:=rget_mem b.nd (sn x a z hx m)
   obtain⟨h1,h2⟩:=sy x y a z hx hy m
   exact⟨h1,tied_iff.mpr ⟨g y,by rw [rget_map hg e,hy];rfl,h2⟩⟩
/-- a change of one hand that leaves its ties -/
theorem RB.one {U:List Str} {c:Nat} {r:Rn} (b:RB U c r) (g:Hd×Bool→Hd×Bool) (hg:∀x,(g x).1.called=x.1.called) (hb:∀x∈r.hs,HB U r.size (c+1) (g x).1) (hn:∀x∈r.hs,∀z,z∈(g x).1.names↔z∈x.1.names)
  {hs:List (Hd×Bool)} (e:hs=r.hs.map g) {po:List Lt} (hp:∀l∈po,LB U r.size (c+1) l) (lp:po.length≤20*(c+1)):RB U (c+1) ⟨r.size,hs,r.known,po,r.rows⟩:=by
 refine b.map g hg hb (fun x y a z hx hy m=> ?_) (fun x a z hx m=> ?_) e hp lp
 ·have t:=b.sym a z (tied_iff.mpr ⟨x,hx,(hn x (rget_some hx).1 z).mp m⟩)
  obtain⟨y',hy',m'⟩:=tied_iff.mp t.2
  rw [hy] at hy'
  cases hy'
  exact⟨t.1,(hn y (rget_some hy).1 a).mpr m'⟩
 ·have t:=b.sym a z (tied_iff.mpr ⟨x,hx,(hn x (rget_some hx).1 z).mp m⟩)
  obtain⟨y',hy',m'⟩:=tied_iff.mp t.2
  exact rget_names hy'
theorem RB.postM {U:List Str} {c:Nat} {r:Rn} (b:RB U c r):(∀l∈r.post,LB U r.size (c+1) l)∧r.post.length≤20*(c+1):=⟨fun l hl=>(b.post l hl).mono (by omega),by have:=b.lp;omega⟩
abbrev gU (z:Str) (f:Hd→Hd):Hd×Bool→Hd×Bool:=fun x=>if x.1.called=z then(f x.1,x.2) else x
theorem gU_called {z:Str} {f:Hd→Hd} (hf:∀h,(f h).called=h.called) (x:Hd×Bool):(gU z f x).1.called=x.1.called:=by
 show(if x.1.called=z then(f x.1,x.2) else x).1.called=_
 split
 ·exact hf _
 ·rfl
theorem RB.upd {U:List Str} {c:Nat} {r:Rn} (b:RB U c r) (z:Str) {f:Hd→Hd} (hf:∀h,(f h).called=h.called) (hb:∀x,r.get z=some x→HB U r.size (c+1) (f x.1)∧ ∀y,y∈(f x.1).names↔y∈x.1.names) {po:List Lt} (hp:∀l∈po,LB U r.size (c+1) l) (lp:po.length≤20*(c+1)):RB U (c+1) ⟨r.size,(r.upd z f).hs,r.known,po,r.rows⟩:=by
 refine b.one (gU z f) (gU_called hf) (fun x hx=> ?_) (fun x hx y=> ?_) rfl hp lp
 ·show HB U r.size (c+1) (if x.1.called=z then(f x.1,x.2) else x).1
  split
  ·next e=>subst e;exact(hb x (rget_of b.nd hx)).1
  ·exact(b.hb x hx).mono (by omega)
 ·show y∈(if x.1.called=z then(f x.1,x.2) else x).1.names↔_
  split
  ·next e=>subst e;exact(hb x (rget_of b.nd hx)).2 y
  ·exact Iff.rfl
theorem setOwn_names (h:Hd) (ns:List Int):(h.setOwn ns).names=h.names:=rfl
theorem tie_names (h:Hd) (z:Str):(h.tie z).names=h.names ++ [z]:=by
 show(h.accs ++ [(z,acc0 h.own.length none)]).map (·.1)=_
 rw [List.map_append];rfl
theorem hcut_names (h:Hd) (z:Str):(h.cut z).names=h.names.filter fun y=>decide (y≠z):=cut_names _ _
theorem fresh_names (h:Hd):h.fresh.names=srtS h.names:=new_names _ _
theorem RB.turn {U:List Str} {c:Nat} {r:Rn} (b:RB U c r) (hc:c≤20000) {n:Str} :RB U (c+1) (r.done (.turn n)).2:=by
 show RB U (c+1) (match r.get n with | some x=>(Wh.letters x.1.letters,({ (r.upd n Hd.turned) with post:=r.post ++ x.1.letters } :Rn)) | none=>(.none,r)).2
 cases h:r.get n with
 | none=>exact b.mono
 | some x=>
  have hx:=(rget_some h).1
  have few:=b.fewA hx
  have bl:=(b.hb x hx).letters b.u b.n3 hc (by omega)
  refine b.upd n (f:=Hd.turned) (fun _=>rfl) (fun y hy=>⟨(b.hb y (rget_some hy).1).turned b.u b.n3 hc (by have:=b.fewA (rget_some hy).1;omega),fun z=>by rw [turned_names]⟩) (fun l hl=> ?_) ?_
  ·rcases List.mem_append.mp hl with hl | hl
   ·exact b.postM.1 l hl
   ·exact bl l hl
  ·rw [List.length_append]
   have:x.1.letters.length≤8:=by
    unfold Hd.letters
    rw [List.length_map,(srtS_perm _).length_eq]
    unfold Hd.names
    rw [List.length_map];exact few
   have:=b.lp
   omega
theorem RB.come {U:List Str} {c:Nat} {r:Rn} (b:RB U c r) {l:Lt} (hl:l∈r.post):RB U (c+1) (r.come l).2:=by
 unfold Rn.come
 cases h:r.get l.other with
 | none=>exact b.mono
 | some x=>
  dsimp only
  split
  ·exact b.upd l.other (f:=fun h=>(h.take l).2) (fun h=>take_called h l) (fun y hy=>by
    obtain⟨h1,h2⟩:=(b.hb y (rget_some hy).1).take (b.post l hl)
    exact⟨h1.mono (by omega),fun z=>by rw [h2]⟩) b.postM.1 b.postM.2
  ·exact b.mono
theorem RB.set {U:List Str} {c:Nat} {r:Rn} (b:RB U c r) {n:Str} {ns:List Int} (hl:ns.length=r.size) (hs:∀x∈ns,x.natAbs≤1000000000000):RB U (c+1) (r.upd n fun h=>h.setOwn ns):=
 b.upd n (f:=fun h=>h.setOwn ns) (fun _=>rfl) (fun y hy=>⟨((b.hb y (rget_some hy).1).setOwn hl hs).mono (by omega),fun z=>Iff.rfl⟩) b.postM.1 b.postM.2
theorem RB.setUp {U:List Str} {c:Nat} {r:Rn} (b:RB U c r) (n:Str) (u:Bool):RB U (c+1) (r.setUp n u):=by
 refine b.one (fun x=>if x.1.called=n then(x.1,u) else x) (fun x=> ?_) (fun x hx=> ?_) (fun x hx z=> ?_) rfl b.postM.1 b.postM.2
 ·split <;> rfl
 ·have:=(b.hb x hx).mono (c':=c+1) (by omega)
  split <;> exact this
 ·split <;> exact Iff.rfl
theorem RB.fresh {U:List Str} {c:Nat} {r:Rn} (b:RB U c r) (n:Str):RB U (c+1) ((r.setUp n true).upd n Hd.fresh):=by
 refine b.one (gU n Hd.fresh∘fun x=>if x.1.called=n then(x.1,true) else x) (fun x=> ?_) (fun x hx=> ?_) (fun x hx z=> ?_) (by show((r.hs.map _).map _)=_;rw [List.map_map]) b.postM.1 b.postM.2
 ·show(gU n Hd.fresh _).1.called=_
  rw [gU_called (f:=Hd.fresh) fun _=>rfl]
  show(if x.1.called=n then(x.1,true) else x).1.called=_
  split <;> rfl
 ·have h:=(b.hb x hx).mono (c':=c+1) (by omega)
  show HB U r.size (c+1) (gU n Hd.fresh (if x.1.called=n then(x.1,true) else x)).1
  by_cases e:x.1.called=n
  ·rw [if_pos e]
   show HB U r.size (c+1) (if x.1.called=n then(x.1.fresh,true) else(x.1,true)).1
   rw [if_pos e];exact h.fresh
  ·rw [if_neg e]
   show HB U r.size (c+1) (if x.1.called=n then(x.1.fresh,x.2) else x).1
   rw [if_neg e];exact h
 ·show z∈(gU n Hd.fresh (if x.1.called=n then(x.1,true) else x)).1.names↔_
  by_cases e:x.1.called=n
  ·rw [if_pos e]
   show z∈(if x.1.called=n then(x.1.fresh,true) else(x.1,true)).1.names↔_
   rw [if_pos e]
   show z∈x.1.fresh.names↔_
   rw [fresh_names];exact(srtS_perm _).mem_iff
  ·rw [if_neg e]
   show z∈(if x.1.called=n then(x.1.fresh,x.2) else x).1.names↔_
   rw [if_neg e]
theorem RB.join {U:List Str} {c:Nat} {r:Rn} (b:RB U c r) {n:Str} {ns:List Int} (hn:n∉r.known) (h8:r.hs.length < 8) (hl:ns.length=r.size) (hU:n∈U) (hs:∀x∈ns,x.natAbs≤1000000000000):RB U (c+1) (r.done (.join n ns)).2:=by
 show RB U (c+1) ⟨r.size,r.hs ++ [(hd0 n ns [],true)],r.known ++ [n],r.post,r.rows⟩
 have en:(⟨r.size,r.hs ++ [(hd0 n ns [],true)],r.known ++ [n],r.post,r.rows⟩:Rn).names=r.names ++ [n]:=by
  show(r.hs ++ [(hd0 n ns [],true)]).map (fun x=>x.1.called)=_
  rw [List.map_append];rfl
 have nn:n∉r.names:=fun h=>hn (b.nk n h)
 have gt:∀a z,(⟨r.size,r.hs ++ [(hd0 n ns [],true)],r.known ++ [n],r.post,r.rows⟩:Rn).tied a z=true↔r.tied a z=true:=fun a z=>by
  rw [tied_iff,tied_iff]
  unfold Rn.get
  show(∃x,(r.hs ++ [(hd0 n ns [],true)]).find? _=some x∧_)↔_
  rw [List.find?_append]
  cases h:r.hs.find? fun x=>decide (x.1.called=a) with
  | some x=>exact Iff.rfl
  | none=>
   refine⟨fun⟨x,hx,m⟩=> ?_,fun⟨x,hx,m⟩=>by cases hx⟩
   have:x=(hd0 n ns [],true):=by
    have:=List.mem_of_find?_eq_some (show [(hd0 n ns [],true)].find? (fun x=>decide (x.1.called=a))=some x from hx)
    exact List.mem_singleton.mp this
   rw [this] at m
   cases m
 refine⟨b.n1,b.n3,b.u,fun x hx=> ?_,by rw [en];exact snoc_nodup b.nd nn,by show(r.hs ++ [(hd0 n ns [],true)]).length≤8;rw [List.length_append];exact h8,fun a z h=> ?_,snoc_nodup b.kn hn,fun z hz=> ?_,fun z hz=> ?_,b.postM.1,b.postM.2,by have:=b.lr;show r.rows.length≤_;omega⟩
 ·rcases List.mem_append.mp hx with hx | hx
  ·exact(b.hb x hx).mono (by omega)
  ·rw [List.mem_singleton.mp hx]
   exact hd0_b hl hs List.nodup_nil (fun y hy=>by cases hy) hU
 ·have:=b.sym a z ((gt a z).mp h)
  exact⟨this.1,(gt z a).mpr this.2⟩
 ·rcases List.mem_append.mp hz with hz | hz
  ·exact b.ku z hz
  ·rw [List.mem_singleton.mp hz];exact hU
 ·rw [en] at hz
  rcases List.mem_append.mp hz with hz | hz
  ·exact List.mem_append_left _ (b.nk z hz)
  ·exact List.mem_append_right _ hz
theorem two_at {n o:Str} {f g:Hd→Hd} (hf:∀h,(f h).called=h.called) (no:n≠o) (x:Hd×Bool):gU o g (gU n f x)=if x.1.called=n then(f x.1,x.2) else if x.1.called=o then(g x.1,x.2) else x:=by
 by_cases e1:x.1.called=n
 ·rw [if_pos e1]
  have e2:gU n f x=(f x.1,x.2):=if_pos e1
  show(if(gU n f x).1.called=o then(g (gU n f x).1,(gU n f x).2) else gU n f x)=_
  rw [e2,if_neg]
  show ¬ (f x.1).called=o
  rw [hf,e1];exact no
 ·rw [if_neg e1]
  show(if(if x.1.called=n then(f x.1,x.2) else x).1.called=o then(g (if x.1.called=n then(f x.1,x.2) else x).1,(if x.1.called=n then(f x.1,x.2) else x).2) else(if x.1.called=n then(f x.1,x.2) else x))=_
  rw [if_neg e1]
theorem RB.tie {U:List Str} {c:Nat} {r:Rn} (b:RB U c r) {n o:Str} (hn:n∈r.names) (ho:o∈r.names) (no:n≠o) (nt:r.tied n o≠true):RB U (c+1) ((r.upd n fun h=>h.tie o).upd o fun h=>h.tie n):=by
 have g1:∀x,(gU o (fun h=>h.tie n) (gU n (fun h=>h.tie o) x))=if x.1.called=n then(x.1.tie o,x.2) else if x.1.called=o then(x.1.tie n,x.2) else x:=two_at (fun _=>rfl) no
 have up:∀ {x:Hd×Bool} {z:Str},z∈x.1.names→z∈(gU o (fun h=>h.tie n) (gU n (fun h=>h.tie o) x)).1.names:=fun {x z} h=>by
  rw [g1]
  split
  ·show z∈(x.1.tie o).names;rw [tie_names];exact List.mem_append_left _ h
  ·split
   ·show z∈(x.1.tie n).names;rw [tie_names];exact List.mem_append_left _ h
   ·exact h
 have dn:∀ {x:Hd×Bool} {a z:Str},r.get a=some x→z∈(gU o (fun h=>h.tie n) (gU n (fun h=>h.tie o) x)).1.names→z∈x.1.names∨(a=n∧z=o)∨(a=o∧z=n):=fun {x a z} hx h=>by
  have ea:=(rget_some hx).2
  rw [g1] at h
  split at h
  ·next e=>
   have h':z∈(x.1.tie o).names:=h
   rw [tie_names] at h'
   rcases List.mem_append.mp h' with h' | h'
   ·exact .inl h'
   ·exact .inr (.inl ⟨ea ▸ e,List.mem_singleton.mp h'⟩)
  ·split at h
   ·next e=>
    have h':z∈(x.1.tie n).names:=h
    rw [tie_names] at h'
    rcases List.mem_append.mp h' with h' | h'
    ·exact .inl h'
    ·exact .inr (.inr ⟨ea ▸ e,List.mem_singleton.mp h'⟩)
   ·exact .inl h
 refine b.map (gU o (fun h=>h.tie n)∘gU n (fun h=>h.tie o)) (fun x=>by show(gU o (fun h=>h.tie n) (gU n (fun h=>h.tie o) x)).1.called=_;rw [gU_called (f:=fun h=>h.tie n) (fun _=>rfl),gU_called (f:=fun h=>h.tie o) (fun _=>rfl)]) (fun x hx=> ?_) (fun x y a z hx hy m=> ?_) (fun x a z hx m=> ?_) (by show((r.hs.map _).map _)=_;rw [List.map_map]) b.postM.1 b.postM.2
 ·have h:=(b.hb x hx).mono (c':=c+1) (by omega)
  have hxg:=rget_of b.nd hx
  show HB U r.size (c+1) (gU o (fun h=>h.tie n) (gU n (fun h=>h.tie o) x)).1
  rw [g1]
  split
  ·next e=>exact h.tie (fun m=>nt (tied_iff.mpr ⟨x,e ▸ hxg,m⟩)) (b.ku o (b.nk o ho))
  ·split
   ·next e=>exact h.tie (fun m=>nt (b.sym o n (tied_iff.mpr ⟨x,e ▸ hxg,m⟩)).2) (b.ku n (b.nk n hn))
   ·exact h
 ·rcases dn hx m with m | ⟨rfl,rfl⟩ | ⟨rfl,rfl⟩
  ·have t:=b.sym a z (tied_iff.mpr ⟨x,hx,m⟩)
   obtain⟨y',hy',m'⟩:=tied_iff.mp t.2
   rw [hy] at hy'
   cases hy'
   exact⟨t.1,up m'⟩
  ·refine⟨no,?_⟩
   show a∈(gU z (fun h=>h.tie a) (gU a (fun h=>h.tie z) y)).1.names
   have e:=(rget_some hy).2
   rw [g1,if_neg (by rw [e];exact fun q=>no q.symm),if_pos e]
   show a∈(y.1.tie a).names
   rw [tie_names];exact List.mem_append_right _ List.mem_cons_self
  ·refine⟨fun q=>no q.symm,?_⟩
   show a∈(gU a (fun h=>h.tie z) (gU z (fun h=>h.tie a) y)).1.names
   have e:=(rget_some hy).2
   rw [g1,if_pos e]
   show a∈(y.1.tie a).names
   rw [tie_names];exact List.mem_append_right _ List.mem_cons_self
 ·rcases dn hx m with m | ⟨rfl,rfl⟩ | ⟨rfl,rfl⟩
  ·obtain⟨y',hy',m'⟩:=tied_iff.mp (b.sym a z (tied_iff.mpr ⟨x,hx,m⟩)).2
   exact rget_names hy'
  ·exact ho
  ·exact hn
theorem mem_ne {l:List Str} {z y:Str} :(y∈l.filter fun y=>decide (y≠z))↔y∈l∧y≠z:=by rw [List.mem_filter,decide_eq_true_eq]
theorem RB.cut {U:List Str} {c:Nat} {r:Rn} (b:RB U c r) {n o:Str} (no:n≠o):RB U (c+1) ((r.upd n fun h=>h.cut o).upd o fun h=>h.cut n):=by
 have g1:∀x,(gU o (fun h=>h.cut n) (gU n (fun h=>h.cut o) x))=if x.1.called=n then(x.1.cut o,x.2) else if x.1.called=o then(x.1.cut n,x.2) else x:=two_at (fun _=>rfl) no
 have dn:∀ {x:Hd×Bool} {a z:Str},r.get a=some x→(z∈(gU o (fun h=>h.cut n) (gU n (fun h=>h.cut o) x)).1.names↔z∈x.1.names∧¬ (a=n∧z=o)∧¬ (a=o∧z=n)):=fun {x a z} hx=>by
  have ea:=(rget_some hx).2
  rw [g1]
  split
  ·next e=>
   show z∈(x.1.cut o).names↔_
   have an:a=n:=ea ▸ e
   rw [hcut_names,mem_ne]
   exact⟨fun h=>⟨h.1,fun q=>h.2 q.2,fun q=>no (an ▸ q.1)⟩,fun h=>⟨h.1,fun q=>h.2.1 ⟨an,q⟩⟩⟩
  ·next e0=>
   split
   ·next e=>
    show z∈(x.1.cut n).names↔_
    have an:a=o:=ea ▸ e
    rw [hcut_names,mem_ne]
    exact⟨fun h=>⟨h.1,fun q=>no (q.1 ▸ an),fun q=>h.2 q.2⟩,fun h=>⟨h.1,fun q=>h.2.2 ⟨an,q⟩⟩⟩
   ·next e=>exact⟨fun h=>⟨h,fun q=>e0 (ea.trans q.1),fun q=>e (ea.trans q.1)⟩,fun h=>h.1⟩
 refine b.map (gU o (fun h=>h.cut n)∘gU n (fun h=>h.cut o)) (fun x=>by show(gU o (fun h=>h.cut n) (gU n (fun h=>h.cut o) x)).1.called=_;rw [gU_called (f:=fun h=>h.cut n) (fun _=>rfl),gU_called (f:=fun h=>h.cut o) (fun _=>rfl)]) (fun x hx=> ?_) (fun x y a z hx hy m=> ?_) (fun x a z hx m=> ?_) (by show((r.hs.map _).map _)=_;rw [List.map_map]) b.postM.1 b.postM.2
 ·have h:=(b.hb x hx).mono (c':=c+1) (by omega)
  show HB U r.size (c+1) (gU o (fun h=>h.cut n) (gU n (fun h=>h.cut o) x)).1
  rw [g1]
  split
  ·exact h.cut o
  ·split
   ·exact h.cut n
   ·exact h
 ·obtain⟨m1,m2,m3⟩:=(dn hx).mp m
  have t:=b.sym a z (tied_iff.mpr ⟨x,hx,m1⟩)
  obtain⟨y',hy',m'⟩:=tied_iff.mp t.2
  rw [hy] at hy'
  cases hy'
  exact⟨t.1,(dn hy).mpr ⟨m',fun q=>m3 ⟨q.2,q.1⟩,fun q=>m2 ⟨q.2,q.1⟩⟩⟩
 ·obtain⟨m1,m2,m3⟩:=(dn hx).mp m
  obtain⟨y',hy',m'⟩:=tied_iff.mp (b.sym a z (tied_iff.mpr ⟨x,hx,m1⟩)).2
  exact rget_names hy'
abbrev gL (n:Str) (ns:List Str):Hd×Bool→Hd×Bool:=fun y=>if y.1.called∈ns then(y.1.cut n,y.2) else y
theorem gL_called (n:Str) (ns:List Str) (x:Hd×Bool):(gL n ns x).1.called=x.1.called:=by
 show(if x.1.called∈ns then(x.1.cut n,x.2) else x).1.called=_
 split <;> rfl
theorem find_filt {hs:List (Hd×Bool)} {n a:Str} (h:a≠n):(hs.filter fun y:Hd×Bool=>decide (y.1.called≠n)).find? (fun x=>decide (x.1.called=a))=hs.find? fun x=>decide (x.1.called=a):=by
 rw [List.find?_filter]
 congr 1
 funext x
 by_cases e:x.1.called=a
 ·rw [decide_eq_true e,decide_eq_true (show x.1.called≠n by rw [e];exact h)];simp
 ·rw [decide_eq_false e];simp
theorem RB.leave {U:List Str} {c:Nat} {r:Rn} (b:RB U c r) {n:Str} :RB U (c+1) (r.done (.leave n)).2:=by
 show RB U (c+1) (match r.get n with | some x=>(Wh.none,({ r with hs:=(r.hs.filter fun y:Hd×Bool=>decide (y.1.called≠n)).map (gL n x.1.names) } :Rn)) | none=>(.none,r)).2
 cases h:r.get n with
 | none=>exact b.mono
 | some x=>
  show RB U (c+1) ⟨r.size,(r.hs.filter fun y:Hd×Bool=>decide (y.1.called≠n)).map (gL n x.1.names),r.known,r.post,r.rows⟩
  have en:(⟨r.size,(r.hs.filter fun y:Hd×Bool=>decide (y.1.called≠n)).map (gL n x.1.names),r.known,r.post,r.rows⟩:Rn).names=r.names.filter fun y=>decide (y≠n):=by
   show((r.hs.filter fun y:Hd×Bool=>decide (y.1.called≠n)).map (gL n x.1.names)).map (fun x=>x.1.called)=(r.hs.map fun x=>x.1.called).filter _
   rw [List.map_map,List.filter_map]
   exact List.map_congr_left fun y _=>gL_called n _ y
  have gt:∀a,a≠n→(⟨r.size,(r.hs.filter fun y:Hd×Bool=>decide (y.1.called≠n)).map (gL n x.1.names),r.known,r.post,r.rows⟩:Rn).get a=(r.get a).map (gL n x.1.names):=fun a ha=>by
   rw [rget_map (r:=⟨r.size,r.hs.filter fun y:Hd×Bool=>decide (y.1.called≠n),r.known,r.post,r.rows⟩) (gL_called n x.1.names) rfl]
   congr 1
   exact find_filt ha
  have ti:∀a z,(⟨r.size,(r.hs.filter fun y:Hd×Bool=>decide (y.1.called≠n)).map (gL n x.1.names),r.known,r.post,r.rows⟩:Rn).tied a z=true↔a≠n∧z≠n∧r.tied a z=true:=fun a z=>by
   constructor
   ·intro t
    obtain⟨y',hy',m⟩:=tied_iff.mp t
    have an:a≠n:=fun e=>by
     have:=rget_names hy'
     rw [en,mem_ne] at this
     exact this.2 e
    rw [gt a an] at hy'
    cases hy:r.get a with
    | none=>rw [hy] at hy';cases hy'
    | some y=>
     rw [hy] at hy'
     cases hy'
     have ey:=(rget_some hy).2
     by_cases e:y.1.called∈x.1.names
     ·have m':z∈(if y.1.called∈x.1.names then(y.1.cut n,y.2) else y).1.names:=m
      rw [if_pos e] at m'
      have m2:z∈(y.1.cut n).names:=m'
      rw [hcut_names,mem_ne] at m2
      exact⟨an,m2.2,tied_iff.mpr ⟨y,hy,m2.1⟩⟩
     ·have m':z∈(if y.1.called∈x.1.names then(y.1.cut n,y.2) else y).1.names:=m
      rw [if_neg e] at m'
      refine⟨an,fun ez=>e ?_,tied_iff.mpr ⟨y,hy,m'⟩⟩
      have t2:=(b.sym a n (tied_iff.mpr ⟨y,hy,ez ▸ m'⟩)).2
      obtain⟨x',hx',m3⟩:=tied_iff.mp t2
      rw [h] at hx'
      cases hx'
      rw [ey];exact m3
   ·rintro⟨an,zn,t⟩
    obtain⟨y,hy,m⟩:=tied_iff.mp t
    refine tied_iff.mpr ⟨gL n x.1.names y,by rw [gt a an,hy];rfl,?_⟩
    show z∈(if y.1.called∈x.1.names then(y.1.cut n,y.2) else y).1.names
    split
    ·show z∈(y.1.cut n).names
     rw [hcut_names,mem_ne];exact⟨m,zn⟩
    ·exact m
  refine⟨b.n1,b.n3,b.u,fun y hy=> ?_,by rw [en];exact b.nd.sublist List.filter_sublist,?_,fun a z t=> ?_,b.kn,b.ku,fun z hz=> ?_,b.postM.1,b.postM.2,by have:=b.lr;show r.rows.length≤_;omega⟩
  ·obtain⟨y0,hy0,rfl⟩:=List.mem_map.mp (show y∈(r.hs.filter fun y:Hd×Bool=>decide (y.1.called≠n)).map (gL n x.1.names) from hy)
   have hb:=(b.hb y0 (List.mem_filter.mp hy0).1).mono (c':=c+1) (by omega)
   show HB U r.size (c+1) (if y0.1.called∈x.1.names then(y0.1.cut n,y0.2) else y0).1
   split
   ·exact hb.cut n
   ·exact hb
  ·show((r.hs.filter fun y:Hd×Bool=>decide (y.1.called≠n)).map (gL n x.1.names)).length≤8
   rw [List.length_map]
   exact Nat.le_trans (List.length_filter_le _ _) b.few
  ·obtain⟨h1,h2,h3⟩:=(ti a z).mp t
   have:=b.sym a z h3
   exact⟨this.1,(ti z a).mpr ⟨h2,h1,this.2⟩⟩
  ·rw [en,mem_ne] at hz
   exact b.nk z hz.1
theorem RB.done {U:List Str} {c:Nat} {r:Rn} (b:RB U c r) (hc:c≤20000) {x:Dd} (hx:r.can x=true) (ok:x.okU U):RB U (c+1) (r.done x).2:=by
 cases x with
 | turn n=>exact b.turn hc
 | come k=>
  show RB U (c+1) (match r.post[k]? with | some l=>(Wh.word (r.come l).1,(r.come l).2) | none=>(.none,r)).2
  cases h:r.post[k]? with
  | none=>exact b.mono
  | some l=>exact b.come (List.mem_of_getElem? h)
 | fall n=>exact b.setUp n false
 | back n=>exact b.setUp n true
 | fresh n=>exact b.fresh n
 | leave n=>exact b.leave
 | set n ns=>
  have h:(decide (n∈r.names) && decide (ns.length=r.size))=true:=hx
  rw [Bool.and_eq_true] at h
  exact b.set (of_decide_eq_true h.2) ok
 | join n ns=>
  have h:(!decide (n∈r.known) && decide (r.hs.length < 8) && decide (ns.length=r.size))=true:=hx
  rw [Bool.and_eq_true,Bool.and_eq_true] at h
  refine b.join (fun m=> ?_) (of_decide_eq_true h.1.2) (of_decide_eq_true h.2) ok.1 ok.2
  rw [decide_eq_true m] at h
  exact Bool.noConfusion h.1.1
 | tie n o=>
  have h:(decide (n∈r.names) && decide (o∈r.names) && !decide (o=n) && !r.tied n o)=true:=hx
  rw [Bool.and_eq_true,Bool.and_eq_true,Bool.and_eq_true] at h
  refine b.tie (of_decide_eq_true h.1.1.1) (of_decide_eq_true h.1.1.2) (fun e=> ?_) (fun e=> ?_)
  ·rw [decide_eq_true e.symm] at h;exact Bool.noConfusion h.1.2
  ·rw [e] at h;exact Bool.noConfusion h.2
 | cut n o=>
  have h:(decide (n∈r.names) && decide (o∈r.names) && !decide (o=n) && r.tied n o)=true:=hx
  rw [Bool.and_eq_true,Bool.and_eq_true,Bool.and_eq_true] at h
  refine b.cut (fun e=> ?_)
  rw [decide_eq_true e.symm] at h;exact Bool.noConfusion h.1.2
theorem done_rows (r:Rn) (x:Dd):(r.done x).2.rows=r.rows∧(r.done x).2.size=r.size:=by
 cases x with
 | turn n=>
  show(match r.get n with | some x=>(Wh.letters x.1.letters,({ (r.upd n Hd.turned) with post:=r.post ++ x.1.letters } :Rn)) | none=>(.none,r)).2.rows=_∧(match r.get n with | some x=>(Wh.letters x.1.letters,({ (r.upd n Hd.turned) with post:=r.post ++ x.1.letters } :Rn)) | none=>(.none,r)).2.size=_
  cases r.get n <;> exact⟨rfl,rfl⟩
 | come k=>
  show(match r.post[k]? with | some l=>(Wh.word (r.come l).1,(r.come l).2) | none=>(.none,r)).2.rows=_∧(match r.post[k]? with | some l=>(Wh.word (r.come l).1,(r.come l).2) | none=>(.none,r)).2.size=_
  cases r.post[k]? with
  | none=>exact⟨rfl,rfl⟩
  | some l=>
   show(r.come l).2.rows=_∧(r.come l).2.size=_
   unfold Rn.come
   cases r.get l.other with
   | none=>exact⟨rfl,rfl⟩
   | some x=>dsimp only;split <;> exact⟨rfl,rfl⟩
 | leave n=>
  show(match r.get n with | some x=>(Wh.none,({ r with hs:=(r.hs.filter fun y:Hd×Bool=>decide (y.1.called≠n)).map (gL n x.1.names) } :Rn)) | none=>(.none,r)).2.rows=_∧(match r.get n with | some x=>(Wh.none,({ r with hs:=(r.hs.filter fun y:Hd×Bool=>decide (y.1.called≠n)).map (gL n x.1.names) } :Rn)) | none=>(.none,r)).2.size=_
  cases r.get n <;> exact⟨rfl,rfl⟩
 | _=>exact⟨rfl,rfl⟩
theorem RB.step {U:List Str} {c:Nat} {r:Rn} (b:RB U c r) (hc:c≤20000) {x:Dd} (hx:r.can x=true) (ok:x.okU U):RB U (c+1) (r.step x):=by
 have h:=b.done hc hx ok
 refine⟨h.n1,h.n3,h.u,h.hb,h.nd,h.few,h.sym,h.kn,h.ku,h.nk,h.post,h.lp,?_⟩
 show(r.rows ++ [(x,(r.done x).1)]).length≤c+1
 rw [List.length_append]
 have:=b.lr
 exact Nat.succ_le_succ this
/-- where a run's things stand -/
structure AdW (d:RAd) (r:Rn):Prop where
 lds:r.hs.length=d.ds.length
 lps:∀(i:Nat) (x:Hd×Bool) (e:HAd),r.hs[i]? =some x→d.ds[i]? =some e→x.1.accs.length=e.ps.length
theorem RB.w {U:List Str} {c:Nat} {r:Rn} (b:RB U c r) {d:RAd} (a:AdW d r):RnW d r:=by
 refine⟨a.lds,b.nd,b.few,fun i x e hx he=>(b.hb x (List.mem_of_getElem? hx)).w b.u (by have:=b.fewA (List.mem_of_getElem? hx);omega) (a.lps i x e hx he),fun x hx z hz=> ?_⟩
 have t:=b.sym x.1.called z (tied_iff.mpr ⟨x,rget_of b.nd hx,hz⟩)
 obtain⟨y,hy,m⟩:=tied_iff.mp t.2
 exact⟨fun e=>t.1 e.symm,y,(rget_some hy).1,(rget_some hy).2,m⟩
local macro_rules | `(tactic| walk_at "u")=> `(tactic| repeat (first | with_reducible refine Ab.e_methP ?_ | with_reducible refine Ab.e_methX ?_ | with_reducible refine Ab.e_makeX ?_ | walk_at "q" | with_reducible refine Ab.s_if ?_))
local macro_rules | `(tactic| walk_at "v")=> `(tactic| repeat (first | with_reducible refine Ab.e_lst ?_ | with_reducible refine Ab.e_methP ?_ | with_reducible refine Ab.e_methX ?_ | with_reducible refine Ab.e_makeX ?_ | walk_at "q" | with_reducible refine Ab.s_if ?_))
theorem AdW.set {d:RAd} {r:Rn} (a:AdW d r) {i:Nat} {h':Hd} {b:Bool} {e':HAd} (hl:h'.accs.length=e'.ps.length):AdW { d with ds:=d.ds.set i e' } { r with hs:=r.hs.set i (h',b) } :=by
 refine⟨by show(r.hs.set i (h',b)).length=(d.ds.set i e').length;rw [List.length_set,List.length_set];exact a.lds,fun j x e hx he=> ?_⟩
 have hx':(r.hs.set i (h',b))[j]? =some x:=hx
 have he':(d.ds.set i e')[j]? =some e:=he
 by_cases q:i=j
 ·subst q
  rw [List.getElem?_set] at hx' he'
  rw [if_pos rfl] at hx' he'
  split at hx'
  ·split at he'
   ·cases hx';cases he';exact hl
   ·cases he'
  ·cases hx'
 ·rw [List.getElem?_set_ne q] at hx' he'
  exact a.lps j x e hx' he'
theorem AdW.setUp {d:RAd} {r:Rn} (a:AdW d r) (n:Str) (b:Bool):AdW d (r.setUp n b):=by
 refine⟨by show(r.hs.map _).length=_;rw [List.length_map];exact a.lds,fun i x e hx he=> ?_⟩
 have hx':(r.hs.map fun x=>if x.1.called=n then(x.1,b) else x)[i]? =some x:=hx
 rw [List.getElem?_map] at hx'
 cases h:r.hs[i]? with
 | none=>rw [h] at hx';cases hx'
 | some y=>
  rw [h] at hx'
  have e2:(if y.1.called=n then(y.1,b) else y)=x:=Option.some.inj hx'
  rw [← a.lps i y e h he,← e2]
  split <;> rfl
theorem srt_two (a b:Str):srtS [a,b]=srtS [b,a]:=srtS_congr (List.Perm.swap _ _ _)
/-- the hand of a name -/
def Rn.hd (r:Rn) (z:Str):Hd:=((r.get z).map (·.1)).getD ⟨z,1,1,[],[],[],[]⟩
def Hd.seen (h:Hd) (z:Str):Option (Int×Int):=(h.acc z).bind (·.seen)
/-- a run stands there -/
structure RQ (K:PySem.W.Frag) (M:AM) (U:List Str) (c:Nat) (d:RAd) (r:Rn):Prop where
 i:RIn K M d r
 b:RB U c r
 a:AdW d r
 c:c≤20000
theorem hd_of {r:Rn} {z:Str} {x:Hd×Bool} (h:r.get z=some x):r.hd z=x.1:=by unfold Rn.hd;rw [h];rfl
/-- a hand of a run, to look at -/
theorem RQ.at {K:PySem.W.Frag} {M:AM} {U:List Str} {c:Nat} {d:RAd} {r:Rn} (q:RQ K M U c d r) {z:Str} (hz:z∈r.names):∃(i:Nat) (x:Hd×Bool) (e:HAd),r.hs[i]? =some x∧d.ds[i]? =some e∧x.1.called=z∧r.get z=some x∧r.hd z=x.1∧valA (hereD r.hs d.ds) (.inr z)=some (.loc e.p)∧HIn K M e x.1∧Lk M e.p (handO K e x.1)∧HdW e x.1∧HB U r.size c x.1∧x.1.accs.length≤8:=by
 obtain⟨i,x,hx,ex⟩:=name_at hz
 have hw:=q.b.w q.a
 obtain⟨e,he,hv⟩:=here_get hw.lds hw.nd hx
 have hm:=List.mem_of_getElem? hx
 have gx:r.get z=some x:=by rw [← ex];exact rget_of q.b.nd hm
 rw [ex] at hv
 exact⟨i,x,e,hx,he,ex,gx,hd_of gx,hv,run_hin q.i hx he,run_hin q.i hx he _ _ lk_hand,hw.hw i x e hx he,q.b.hb x hm,q.b.fewA hm⟩
theorem tied_hd {r:Rn} {z o:Str} :r.tied z o=true↔z∈r.names∧o∈(r.hd z).names:=by
 rw [tied_iff]
 constructor
 ·rintro⟨x,gx,m⟩
  exact⟨rget_names gx,by rw [hd_of gx];exact m⟩
 ·rintro⟨hz,m⟩
  cases gx:r.get z with
  | none=>
   unfold Rn.hd at m
   rw [gx] at m
   cases m
  | some x=>exact⟨x,rfl,by rw [hd_of gx] at m;exact m⟩
def Lay (k:Nat) (a:A):Prop:=a.isD=true∧a.toD.canLay0=true∧a.toD.depth≤k
section
variable {k:Nat} {a b:A} {xs:List A}
theorem Lay.sh (h:Lay k a) (hk:k≤60):SeqAt.shaped a.toD=true:=by
 unfold SeqAt.shaped
 rw [h.2.1,Bool.true_and]
 exact decide_eq_true (by have:=h.2.2;omega)
theorem Lay.mono (h:Lay k a) {k':Nat} (hk:k≤k'):Lay k' a:=⟨h.1,h.2.1,Nat.le_trans h.2.2 hk⟩
theorem Lay.non:Lay 0 .non:=⟨rfl,by unfold A.toD PyData.canLay0;rfl,by unfold A.toD PyData.depth;exact Nat.le_refl _⟩
theorem Lay.bl (x:Bool):Lay 0 (.bl x):=⟨rfl,by unfold A.toD PyData.canLay0;rfl,by unfold A.toD PyData.depth;exact Nat.le_refl _⟩
theorem Lay.int (x:Int):Lay 0 (.int x):=⟨rfl,by unfold A.toD PyData.canLay0;rfl,by unfold A.toD PyData.depth;exact Nat.le_refl _⟩
theorem Lay.str {z:Str} (h:isTx z):Lay 0 (.str z):=⟨rfl,by unfold A.toD PyData.canLay0;exact txOk h,by unfold A.toD PyData.depth;exact Nat.le_refl _⟩
theorem Lay.all (h:∀x∈xs,Lay k x):isDs xs=true∧PyData.canLayAll0 (toDs xs)=true∧PyData.depthAll (toDs xs)≤k:=by
 induction xs with
 | nil=>exact⟨rfl,by unfold toDs PyData.canLayAll0;rfl,by unfold toDs PyData.depthAll;exact Nat.zero_le _⟩
 | cons x xs ih=>
  obtain⟨h1,h2,h3⟩:=h x List.mem_cons_self
  obtain⟨k1,k2,k3⟩:=ih fun y hy=>h y (List.mem_cons_of_mem _ hy)
  exact⟨by unfold isDs;rw [h1,k1];rfl,by unfold toDs PyData.canLayAll0;rw [h2,k2];rfl,by unfold toDs PyData.depthAll;omega⟩
theorem Lay.tup (h:∀x∈xs,Lay k x):Lay (k+1) (.tup xs):=by
 obtain⟨h1,h2,h3⟩:=Lay.all h
 exact⟨h1,by unfold A.toD PyData.canLay0;exact h2,by unfold A.toD PyData.depth;omega⟩
theorem Lay.lst (h:∀x∈xs,Lay k x):Lay (k+1) (.lst xs):=by
 obtain⟨h1,h2,h3⟩:=Lay.all h
 exact⟨h1,by unfold A.toD PyData.canLay0;exact h2,by unfold A.toD PyData.depth;omega⟩
theorem Lay.nil:∀x∈([]:List A),Lay k x:=fun x hx=>nomatch hx
theorem Lay.cons (h:Lay k a) (t:∀x∈xs,Lay k x):∀x∈a :: xs,Lay k x:=fun x hx=>by
 rcases List.mem_cons.mp hx with e | e
 ·rw [e];exact h
 ·exact t x e
theorem Lay.map {α:Type} {f:α→A} {l:List α} (h:∀x∈l,Lay k (f x)):∀x∈l.map f,Lay k x:=fun x hx=>by
 obtain⟨y,hy,rfl⟩:=List.mem_map.mp hx
 exact h y hy
theorem Lay.ints (ns:List Int):∀x∈ns.map A.int,Lay 0 x:=Lay.map fun n _=>Lay.int n
theorem Lay.pt (x:Pt):Lay 1 (ptA x):=Lay.tup ((Lay.int _).cons ((Lay.int _).cons Lay.nil))
theorem Lay.row (r:Rw):Lay 2 (rowA r):=Lay.tup (Lay.map fun x _=>Lay.pt x)
theorem Lay.st (o:Option (Int×Int)):Lay 1 (stA o):=by
 cases o with
 | none=>exact Lay.non.mono (by decide)
 | some x=>exact Lay.tup ((Lay.int _).cons ((Lay.int _).cons Lay.nil))
variable {K:PySem.W.Frag} {M:AM} {Q:QA} {k':Nat}
theorem o_eqL (h1:Lay k a) (h2:Lay k' b) (hk:k≤60) (hk':k'≤60) (q:Q (.bl (eqA a b)) M):O2 K (rEqD K) a b M Q:=o_eqD h1.1 h2.1 (h1.sh hk) (h2.sh hk') q
theorem o_neL (h1:Lay k a) (h2:Lay k' b) (hk:k≤60) (hk':k'≤60) (q:Q (.bl (!eqA a b)) M):O2 K (rNeD K) a b M Q:=o_neD h1.1 h2.1 (h1.sh hk) (h2.sh hk') q
theorem o_neSame (e:a=b) (h1:Lay k a) (hk:k≤60) (q:Q (.bl false) M):O2 K (rNeD K) a b M Q:=by
 subst e
 exact o_neL h1 h1 hk hk (by rw [eqA_refl (h1.sh hk)];exact q)
theorem eqA_nil:eqA (.lst xs) (.lst [])=xs.isEmpty:=by
 unfold eqA A.toD
 cases xs with
 | nil=>simp [toDs,PyData.eqv,PyData.eqvAll]
 | cons x xs=>simp [toDs,PyData.eqv,PyData.eqvAll]
theorem o_neNil (h:∀x∈xs,Lay k x) (hk:k < 60) (q:Q (.bl (!xs.isEmpty)) M):O2 K (rNeD K) (.lst xs) (.lst []) M Q:=o_neL (Lay.lst h) (Lay.lst (k:=0) Lay.nil) hk (by decide) (by rw [eqA_nil];exact q)
theorem o_eqNil (h:∀x∈xs,Lay k x) (hk:k < 60) (q:Q (.bl xs.isEmpty) M):O2 K (rEqD K) (.lst xs) (.lst []) M Q:=o_eqL (Lay.lst h) (Lay.lst (k:=0) Lay.nil) hk (by decide) (by rw [eqA_nil];exact q)
end
abbrev prA (q:Rat):A:= .tup [.int q.num,.int (q.den:Int)]
def QB (n:Nat) (q:Rat):Prop:=q.num.natAbs < 2^n∧q.den < 2^n
def allSome {α:Type} :List (Option α)→Option (List α)
 | []=>some []
 | none :: _=>none
 | some x :: l=>(allSome l).map (x :: ·)
theorem o_inD {K:PySem.W.Frag} {M:AM} {Q:QA} {a:A} {xs:List A} (h1:a.isD=true) (h2:(A.lst xs).isD=true) (s1:SeqAt.shaped a.toD=true) (s2:SeqAt.shaped (A.lst xs).toD=true) (q:Q (.bl (xs.any fun z=>eqA z a)) M):O2 K (rInD K) a (.lst xs) M Q:=fun x y H Qc rx ry rm kc=>by
 have hy:=ry.dp h2
 have e:(A.lst xs).toD= .list (xs.map A.toD):=by unfold A.toD;rw [toDs_mp]
 rw [e] at hy s2
 refine⟨a.toD,xs.map A.toD,rx.dp h1,hy,s1,s2,kc.go rm (.bl _) ?_⟩
 rw [List.any_map]
 exact q
theorem rat_b {n:Int} {d k:Nat} (hd:0 < d) (hn:n.natAbs < 2^k) (hk:d < 2^k):QB k (mkRat n d):=by
 have h0:d≠0:=by omega
 unfold QB
 rw [Rat.num_mkRat,Rat.den_mkRat,if_neg h0,if_neg h0]
 refine⟨Nat.lt_of_le_of_lt ?_ hn,Nat.lt_of_le_of_lt (Nat.div_le_self _ _) hk⟩
 exact Int.natAbs_ediv_le_natAbs _ _
theorem QB.mono {m n:Nat} {q:Rat} (h:QB m q) (hn:m≤n):QB n q:=⟨Nat.lt_of_lt_of_le h.1 (Nat.pow_le_pow_right (by decide) hn),Nat.lt_of_lt_of_le h.2 (Nat.pow_le_pow_right (by decide) hn)⟩
theorem rden_pos (q:Rat):0 < q.den:=Nat.pos_of_ne_zero q.den_nz
theorem mul_lt2 {a b m n:Nat} (h1:a < 2^m) (h2:b < 2^n):a*b < 2^(m+n):=by
 rw [Nat.pow_add]
 exact Nat.mul_lt_mul'' h1 h2
theorem QB.mul {m n:Nat} {x y:Rat} (hx:QB m x) (hy:QB n y):QB (m+n) (x*y):=by
 rw [Rat.mul_def']
 exact rat_b (Nat.mul_pos (rden_pos x) (rden_pos y)) (by rw [Int.natAbs_mul];exact mul_lt2 hx.1 hy.1) (mul_lt2 hx.2 hy.2)
theorem QB.sub {m n:Nat} {x y:Rat} (hx:QB m x) (hy:QB n y):QB (m+n+1) (x - y):=by
 rw [Rat.sub_def']
 refine rat_b (Nat.mul_pos (rden_pos x) (rden_pos y)) ?_ (Nat.lt_of_lt_of_le (mul_lt2 hx.2 hy.2) (Nat.pow_le_pow_right (by decide) (by omega)))
 have h1:(x.num*(y.den:Int)).natAbs < 2^(m+n):=by rw [Int.natAbs_mul,Int.natAbs_natCast];exact mul_lt2 hx.1 hy.2
 have h2:(y.num*(x.den:Int)).natAbs < 2^(m+n):=by rw [Int.natAbs_mul,Int.natAbs_natCast,Nat.add_comm m];exact mul_lt2 hy.1 hx.2
 rw [Nat.pow_succ]
 omega
theorem RQ.sub {K:PySem.W.Frag} {M M':AM} {U:List Str} {c:Nat} {d:RAd} {r:Rn} (q:RQ K M U c d r) (h:Sub M M'):RQ K M' U c d r:=⟨fun p o lk=>h p o (q.i p o lk),q.b,q.a,q.c⟩
theorem Lay.pr (q:Rat):Lay 1 (prA q):=Lay.tup ((Lay.int _).cons ((Lay.int _).cons Lay.nil))
local macro_rules | `(tactic| walk_at "k")=> `(tactic| repeat (first | with_reducible refine Ab.s_sub ?_ | walk_at "e" | with_reducible refine Ab.s_if ?_))
def spLaw (K:PySem.W.Frag):Sp:=fun vs H Q _=> ∃a ns,vs= [.ref a]∧SqL K H a (List.map V.int ns)∧ns.length≤63∧ ∀H',Q (.bl true) H'
theorem law_of {K:PySem.W.Frag} {vs:List V} {H:Hp} {Q:VK} {E:XK} {N:List Str} {t:TS} (h:spLaw K vs H Q E) (hb:∀ns:List Int,ns.length≤63→ES K (fun _ _ _=>False) (fun _ _=>False) t (startA N [.scr ns]) [] (fun _ M'=>Dn (fun a _=>a= .bl true) .non M') (Dn fun a _=>a= .bl true) (fun _ _=>False) (fun _ _=>False)) :
  t { nx:=fun _ H'=>Q .non H',rt:=Q } (start N vs) H:=by
 obtain⟨a,ns,rfl,sq,hl,q⟩:=h
 have h2:cs K (fun as M Qa=> ∃ns,as= [.scr ns]∧M= []∧ns.length≤63∧Qa=fun a _=>a= .bl true) [.ref a] H Q E:=by
  refine⟨[.scr ns],[],fun a _=>a= .bl true,.cons (.scr ?_) .nil,⟨(fun x hx=>by cases hx),.nil⟩,⟨ns,rfl,rfl,hl,rfl⟩,fun a' v M' H' _ _ rv e=> ?_⟩
  ·rcases sq with sq | sq
   ·exact .inl ⟨(by intro z;cases z),sq⟩
   ·exact .inr sq
  ·subst e;cases rv
   exact q H'
 exact fn_of h2 fun as M Qa ⟨ns,e1,e2,hl,e3⟩=>by subst e1 e2 e3;exact hb ns hl
theorem mulA {i j:Int} (h0: -(2^64) < i) (h1:i < 2^64) (h2: -(2^64) < j) (h3:j < 2^64):CMulX i j:=by
 have a:i.natAbs < 2^64:=by omega
 have b:j.natAbs < 2^64:=by omega
 exact mulx_ok a b (by decide)
theorem abc_at {d:Nat} (h1:d < 26):atI (("abcdefghijklmnopqrstuvwxyz" :Str)).cps.toList (d:Int)=some (97+d):=by
 have key:∀i:Nat,i < 26→atI (("abcdefghijklmnopqrstuvwxyz" :Str)).cps.toList (i:Int)=some (97+i):=by decide +kernel
 exact key d h1
theorem str_len (x:Str):x.length=x.cps.toList.length:=by
 show x.cps.size=_
 simp
/-- ties drawn so far: of the names ahead of two places -/
structure TieTo (zs:List Str) (k j:Nat) (ps:List (Str×Str)):Prop where
 at':∀p∈ps,∃(x y:Nat) (a b:Str),x < y∧(y < k∨(y=k∧x < j))∧zs[x]? =some a∧zs[y]? =some b∧(p=(a,b)∨p=(b,a))
 nd:(ps.map fun p=>srtS [p.1,p.2]).Nodup
theorem two_perm {a b c d:Str} (h:srtS [a,b]=srtS [c,d]):(a=c∧b=d)∨(a=d∧b=c)∨(a=b):=by
 have p: [a,b].Perm [c,d]:=(srtS_perm [a,b]).symm.trans (h ▸ srtS_perm [c,d])
 have ha:a=c∨a=d:=by
  have:=p.mem_iff.mp (List.mem_cons_self (a:=a) (l:= [b]))
  simpa using this
 have hb:b=c∨b=d:=by
  have:=p.mem_iff.mp (List.mem_cons_of_mem a (List.mem_cons_self (a:=b) (l:= [])))
  simpa using this
 rcases ha with rfl | rfl <;> rcases hb with rfl | rfl
 ·exact .inr (.inr rfl)
 ·exact .inl ⟨rfl,rfl⟩
 ·exact .inr (.inl ⟨rfl,rfl⟩)
 ·exact .inr (.inr rfl)
theorem at_inj {zs:List Str} (nd:zs.Nodup) {i j:Nat} {a:Str} (h1:zs[i]? =some a) (h2:zs[j]? =some a):i=j:=(List.getElem?_inj (List.getElem?_eq_some_iff.mp h1).1 nd).mp (h1.trans h2.symm)
theorem TieTo.put {zs:List Str} (nd:zs.Nodup) {k j:Nat} {ps:List (Str×Str)} (t:TieTo zs k j ps) (hj:j < k) {a b:Str} (ha:zs[j]? =some a) (hb:zs[k]? =some b) {p:Str×Str} (hp:p=(a,b)∨p=(b,a)):TieTo zs k (j+1) (ps ++ [p]):=by
 refine⟨fun r hr=> ?_,?_⟩
 ·rcases List.mem_append.mp hr with hr | hr
  ·obtain⟨x,y,a',b',h1,h2,h3,h4,h5⟩:=t.at' r hr
   exact⟨x,y,a',b',h1,by omega,h3,h4,h5⟩
  ·rw [List.mem_singleton.mp hr]
   exact⟨j,k,a,b,hj,.inr ⟨rfl,by omega⟩,ha,hb,hp⟩
 ·rw [List.map_append]
  refine List.nodup_append.mpr ⟨t.nd,List.nodup_cons.mpr ⟨List.not_mem_nil,List.nodup_nil⟩,fun u hu v hv e=> ?_⟩
  obtain⟨r,hr,rfl⟩:=List.mem_map.mp hu
  obtain⟨x,y,a',b',h1,h2,h3,h4,h5⟩:=t.at' r hr
  have ev:v=srtS [a,b]:=by
   rw [List.mem_singleton.mp hv]
   rcases hp with rfl | rfl
   ·rfl
   ·exact srt_two _ _
  have eu:srtS [r.1,r.2]=srtS [a',b']:=by
   rcases h5 with rfl | rfl
   ·rfl
   ·exact srt_two _ _
  have e2:srtS [a',b']=srtS [a,b]:=eu.symm.trans (e.trans ev)
  rcases two_perm e2 with⟨rfl,rfl⟩ | ⟨rfl,rfl⟩ | rfl
  ·have:=at_inj nd h3 ha
   have:=at_inj nd h4 hb
   omega
  ·have:=at_inj nd h3 hb
   have:=at_inj nd h4 ha
   omega
  ·have:=at_inj nd h3 h4
   omega
/-- the letters of a book's turns are few -/
def RowsOk (r:Rn):Prop:= ∀w∈r.rows,∀n,w.1= .turn n→ ∃ls:List Lt,w.2= .letters ls∧ls.length≤8
def Dd.isTurn:Dd→Bool | .turn _=>true | _=>false
def Wh.many:Wh→Nat | .letters ls=>ls.length | _=>0
def wrote (r:Rn):Nat:=((r.rows.filter fun w=>w.1.isTurn).map fun w=>w.2.many).sum
def stLe (x y:Int×Int):Prop:=x.1 < y.1∨(x.1=y.1∧x.2≤y.2)
def stL (x y:Int×Int):Prop:=x.1 < y.1∨(x.1=y.1∧x.2 < y.2)
theorem stLt_iff {x y:Int×Int} :stLt x y=true↔stL x y:=by unfold stLt stL;exact decide_eq_true_iff
theorem stL.le {x y:Int×Int} (h:stL x y):stLe x y:=by unfold stL at h;unfold stLe;omega
theorem stLe.refl (x:Int×Int):stLe x x:= .inr ⟨rfl,Int.le_refl _⟩
theorem stL.irr {x:Int×Int} (h:stL x x):False:=by unfold stL at h;omega
theorem stLe.lt {x y z:Int×Int} (h:stLe x y) (h2:stL y z):stL x z:=by unfold stLe at h;unfold stL at *;omega
theorem stLe.anti {x y:Int×Int} (h:stLe x y) (h2: ¬ stL x y):x=y:=by
 obtain⟨a,b⟩:=x
 obtain⟨c,d⟩:=y
 unfold stLe at h
 unfold stL at h2
 dsimp only at h h2
 have:a=c∧b=d:=by omega
 rw [this.1,this.2]
theorem stLe.not {x y:Int×Int} (h:stLe x y): ¬ stL y x:=by unfold stLe at h;unfold stL;omega
theorem find_upd {l:List (Str×Acc)} {z y:Str} {f:Acc→Acc} :((updA l z f).find? fun x=>decide (x.1=y))=(l.find? fun x=>decide (x.1=y)).map fun x=>if x.1=z then(x.1,f x.2) else x:=by
 unfold updA
 rw [List.find?_map]
 congr 1
 refine congrFun (congrArg _ (funext fun x=> ?_)) _
 show decide ((if x.1=z then(x.1,f x.2) else x).1=y)=_
 split <;> rfl
theorem acc_upd {h:Hd} {z y:Str} {f:Acc→Acc} {hd:List En} :({ h with accs:=updA h.accs z f,heard:=hd } :Hd).acc y=(h.acc y).map fun a=>if y=z then f a else a:=by
 unfold Hd.acc
 show(((updA h.accs z f).find? fun x=>decide (x.1=y)).map (·.2))=_
 rw [find_upd]
 cases e:h.accs.find? fun x=>decide (x.1=y) with
 | none=>rfl
 | some x=>
  have ex:x.1=y:=of_decide_eq_true (List.find?_some (p:=fun x:Str×Acc=>decide (x.1=y)) e)
  show some (if x.1=z then(x.1,f x.2) else x).2=some (if y=z then f x.2 else x.2)
  rw [ex]
  split <;> rfl
def giveTo (h:Hd) (a:Acc):Acc:=if a.seen.isSome=true then { a with given:=rplus a.given h.share,gifts:=a.gifts+1 } else a
theorem gave_acc (h:Hd) (nd:h.names.Nodup) (z:Str):h.turned.acc z=(h.acc z).map (giveTo h):=by
 have key:∀(os:List Str) (l:List (Str×Acc)),os.Nodup→((os.foldl (fun l z=>updA l z fun a=> { a with given:=rplus a.given h.share,gifts:=a.gifts+1 }) l).find? fun x=>decide (x.1=z))=(l.find? fun x=>decide (x.1=z)).map fun x=>if z∈os then(x.1,{ x.2 with given:=rplus x.2.given h.share,gifts:=x.2.gifts+1 }) else x:=by
  intro os
  induction os with
  | nil=>
   intro l _
   show(l.find? fun x=>decide (x.1=z))=_
   cases l.find? fun x=>decide (x.1=z) with
   | none=>rfl
   | some x=>show some x=some (if z∈ [] then _ else x);rw [if_neg (by simp)]
  | cons o os ih=>
   intro l nd
   obtain⟨n1,n2⟩:=List.nodup_cons.mp nd
   rw [List.foldl_cons,ih _ n2,find_upd]
   cases e:l.find? fun x=>decide (x.1=z) with
   | none=>rfl
   | some x=>
    have ex:x.1=z:=of_decide_eq_true (List.find?_some (p:=fun x:Str×Acc=>decide (x.1=z)) e)
    by_cases ho:z=o
    ·have hz:z∉os:=by rw [ho];exact n1
     show some (if z∈os then _ else(if x.1=o then(x.1,_) else x))=some (if z∈o :: os then _ else x)
     rw [if_neg hz,if_pos (by rw [ex];exact ho),if_pos (by rw [ho];exact List.mem_cons_self)]
    ·show some (if z∈os then _ else(if x.1=o then(x.1,_) else x))=some (if z∈o :: os then _ else x)
     have e2:(if x.1=o then(x.1,({ x.2 with given:=rplus x.2.given h.share,gifts:=x.2.gifts+1 } :Acc)) else x)=x:=if_neg (by rw [ex];exact ho)
     have e3:∀y:Str×Acc,y=x→(if z∈os then(y.1,({ y.2 with given:=rplus y.2.given h.share,gifts:=y.2.gifts+1 } :Acc)) else y)=if z∈o :: os then(x.1,({ x.2 with given:=rplus x.2.given h.share,gifts:=x.2.gifts+1 } :Acc)) else x:=by
      rintro y rfl
      by_cases hz:z∈os
      ·rw [if_pos hz,if_pos (List.mem_cons_of_mem _ hz)]
      ·rw [if_neg hz,if_neg (by rw [List.mem_cons];rintro(c | c);exact ho c;exact hz c)]
     exact congrArg some (e3 _ e2)
 unfold Hd.turned Hd.acc
 show(((h.opens.foldl _ h.accs).find? fun x=>decide (x.1=z)).map (·.2))=_
 rw [key h.opens h.accs ((((srtS_perm _).nodup_iff).mpr nd).sublist List.filter_sublist)]
 cases e:h.accs.find? fun x=>decide (x.1=z) with
 | none=>rfl
 | some x=>
  have ex:x.1=z:=of_decide_eq_true (List.find?_some (p:=fun x:Str×Acc=>decide (x.1=z)) e)
  have hm:z∈h.names:=by rw [← ex];exact List.mem_map_of_mem (List.mem_of_find?_eq_some e)
  have ha:h.acc z=some x.2:=by unfold Hd.acc;rw [e];rfl
  have ho:z∈h.opens↔x.2.seen.isSome=true:=by
   unfold Hd.opens
   rw [List.mem_filter,ha]
   exact⟨fun c=>c.2,fun c=>⟨(srtS_perm _).mem_iff.mpr hm,c⟩⟩
  show some (if z∈h.opens then _ else x).2=some (giveTo h x.2)
  unfold giveTo
  by_cases hs:x.2.seen.isSome=true
  ·rw [if_pos hs,if_pos (ho.mpr hs)]
  ·rw [if_neg hs,if_neg fun c=>hs (ho.mp c)]
theorem take_rest (h:Hd) (l:Lt) (z:Str):(h.take l).2.stamp z=h.stamp z:=by
 unfold Hd.take
 cases h.acc l.one with
 | none=>rfl
 | some a=>
  dsimp only
  (repeat' split) <;> rfl
theorem find_app {α:Type} {l:List (Str×α)} {y z:Str} {a:α} (hz:z∉l.map (·.1)):((l ++ [(z,a)]).find? fun x=>decide (x.1=y))=if y=z then some (z,a) else l.find? fun x=>decide (x.1=y):=by
 rw [List.find?_append]
 by_cases e:y=z
 ·subst e
  rw [if_pos rfl,List.find?_eq_none.mpr fun x hx c=>hz (by have e:x.1=y:=of_decide_eq_true c;rw [← e];exact List.mem_map_of_mem hx)]
  show [(y,a)].find? (fun x=>decide (x.1=y))=_
  rw [List.find?_cons_of_pos (by simp)]
 ·rw [if_neg e]
  cases l.find? fun x=>decide (x.1=y) with
  | some x=>rfl
  | none=>
   show [(z,a)].find? (fun x=>decide (x.1=y))=_
   rw [List.find?_cons_of_neg (by simp;exact fun c=>e c.symm)];rfl
theorem tie_acc {h:Hd} {z:Str} (hz:z∉h.names) (y:Str):(h.tie z).acc y=if y=z then some (acc0 h.own.length none) else h.acc y:=by
 show(((h.accs ++ [(z,acc0 h.own.length none)]).find? fun x=>decide (x.1=y)).map (·.2))=_
 rw [find_app hz]
 split <;> rfl
theorem tie_stamp {h:Hd} {z:Str} (y:Str):(h.tie z).stamp y=h.stamp y:=by
 show(h.life,(((if z∈h.eras.map (·.1) then h.eras else h.eras ++ [(z,0)]).find? fun x=>decide (x.1=y)).map (·.2)).getD 0)=(h.life,((h.eras.find? fun x=>decide (x.1=y)).map (·.2)).getD 0)
 split
 ·rfl
 ·next hz=>
  rw [find_app hz]
  by_cases e:y=z
  ·subst e
   rw [if_pos rfl,List.find?_eq_none.mpr fun x hx c=>hz (by have e:x.1=y:=of_decide_eq_true c;rw [← e];exact List.mem_map_of_mem hx)];rfl
  ·rw [if_neg e]
theorem cut_acc (h:Hd) (z y:Str):(h.cut z).acc y=if y=z then none else h.acc y:=by
 show(((h.accs.filter fun x=>decide (x.1≠z)).find? fun x=>decide (x.1=y)).map (·.2))=_
 rw [List.find?_filter]
 by_cases e:y=z
 ·subst e
  rw [if_pos rfl,List.find?_eq_none.mpr]
  ·rfl
  ·intro x _ c
   simp at c
 ·rw [if_neg e]
  show _=((h.accs.find? fun x=>decide (x.1=y)).map (·.2))
  congr 1
  refine congrFun (congrArg _ (funext fun x=> ?_)) _
  by_cases h1:x.1=y
  ·simp [h1,e]
  ·simp [h1]
theorem cut_stamp {h:Hd} {z:Str} (hz:z∈h.eras.map (·.1)) (y:Str):(h.cut z).stamp y=if y=z then(h.life,h.era z+1) else h.stamp y:=by
 show(h.life,(((h.eras.map fun x=>if x.1=z then(x.1,x.2+1) else x).find? fun x=>decide (x.1=y)).map (·.2)).getD 0)=_
 rw [List.find?_map,show((fun x:Str×Int=>decide (x.1=y))∘fun x=>if x.1=z then(x.1,x.2+1) else x)=fun x=>decide (x.1=y) from funext fun x=>by
  show decide ((if x.1=z then(x.1,x.2+1) else x).1=y)=_
  split <;> rfl]
 by_cases e:y=z
 ·subst e
  rw [if_pos rfl]
  unfold Hd.era
  cases ef:h.eras.find? fun x=>decide (x.1=y) with
  | none=>
   obtain⟨x,hx,ex⟩:=List.mem_map.mp hz
   have:=List.find?_eq_none.mp ef x hx
   simp [ex] at this
  | some x=>
   have ex:x.1=y:=of_decide_eq_true (List.find?_some (p:=fun x:Str×Int=>decide (x.1=y)) ef)
   show(h.life,(if x.1=y then(x.1,x.2+1) else x).2)=(h.life,x.2+1)
   rw [if_pos ex]
 ·rw [if_neg e]
  unfold Hd.stamp Hd.era
  cases ef:h.eras.find? fun x=>decide (x.1=y) with
  | none=>rfl
  | some x=>
   have ex:x.1=y:=of_decide_eq_true (List.find?_some (p:=fun x:Str×Int=>decide (x.1=y)) ef)
   show(h.life,(if x.1=z then(x.1,x.2+1) else x).2)=(h.life,x.2)
   rw [if_neg (by rw [ex];exact e)]
theorem find_new {α:Type} {zs:List Str} {a:α} {y:Str} :((zs.map fun z=>(z,a)).find? fun x=>decide (x.1=y))=if y∈zs then some (y,a) else none:=by
 rw [List.find?_map]
 by_cases h:y∈zs
 ·rw [if_pos h]
  have:zs.find? ((fun x:Str×α=>decide (x.1=y))∘fun z=>(z,a))=some y:=by
   induction zs with
   | nil=>cases h
   | cons z zs ih=>
    by_cases e:z=y
    ·subst e;rw [List.find?_cons_of_pos (by simp)]
    ·rw [List.find?_cons_of_neg (by simp [e])]
     rcases List.mem_cons.mp h with c | c
     ·exact absurd c.symm e
     ·exact ih c
  rw [this];rfl
 ·rw [if_neg h,List.find?_eq_none.mpr]
  ·rfl
  ·intro z hz c
   simp at c
   exact h (c ▸ hz)
theorem fresh_acc (h:Hd) (y:Str):h.fresh.acc y=if y∈h.names then some (acc0 h.own.length none) else none:=by
 show((((srtS h.names).map fun z=>(z,acc0 h.own.length none)).find? fun x=>decide (x.1=y)).map (·.2))=_
 rw [find_new]
 by_cases m:y∈h.names
 ·rw [if_pos ((srtS_perm _).mem_iff.mpr m),if_pos m];rfl
 ·rw [if_neg fun c=>m ((srtS_perm _).mem_iff.mp c),if_neg m];rfl
theorem fresh_stamp (h:Hd) (y:Str):h.fresh.stamp y=(h.life+1,0):=by
 show(h.life+1,((((srtS h.names).map fun z=>(z,(0:Int))).find? fun x=>decide (x.1=y)).map (·.2)).getD 0)=_
 rw [find_new]
 split <;> rfl
theorem acc_iff {h:Hd} {z:Str} :z∈h.names↔ ∃a,h.acc z=some a:=⟨acc_some,fun⟨a,e⟩=>by
 have:=acc_mem e
 exact List.mem_map_of_mem (f:=fun x:Str×Acc=>x.1) this⟩
/-- what stamps, letters and accounts of a run keep -/
structure Sane (P:Str→Prop) (hd:Str→Hd) (post:List Lt) (kn:List Str) (sz:Nat):Prop where
 k1:∀l∈post,l.one∈kn∧l.other∈kn
 pk:∀n,P n→n∈kn
 own:∀a,P a→(hd a).own.length=sz
 le:∀l∈post,P l.one→stLe l.stamp ((hd l.one).stamp l.other)
 lt:∀l∈post,P l.one→l.other∉(hd l.one).names→stL l.stamp ((hd l.one).stamp l.other)
 xle:∀l∈post,∀s,l.seen=some s→P l.other→stLe s ((hd l.other).stamp l.one)
 xlt:∀l∈post,∀s,l.seen=some s→P l.other→l.one∉(hd l.other).names→stL s ((hd l.other).stamp l.one)
 seen:∀a b A s,P a→P b→(hd a).acc b=some A→A.seen=some s→stLe s ((hd b).stamp a)
 mat:∀l∈post,∀A,P l.one→(hd l.one).acc l.other=some A→P l.other→l.stamp=(hd l.one).stamp l.other→l.seen=some ((hd l.other).stamp l.one)→A.seen=some ((hd l.other).stamp l.one)∧l.gifts≤A.gifts∧(l.gifts=A.gifts→l.given=A.given)
 tk:∀b a B,P b→(hd b).acc a=some B→(B.takes=0∧B.taken=rzero sz)∨ ∃s,B.seen=some s∧ ∃l∈post,l.one=a∧l.other=b∧l.stamp=s∧l.seen=some ((hd b).stamp a)∧l.gifts=B.takes∧l.given=B.taken∧0 < l.gifts
 gf:∀a b A,P a→(hd a).acc b=some A→0≤A.gifts∧(A.gifts=0→A.given=rzero sz)
section
variable {P:Str→Prop} {hd:Str→Hd} {post:List Lt} {kn:List Str} {sz:Nat} {n:Str} {h':Hd}
def upH (hd:Str→Hd) (n:Str) (h':Hd):Str→Hd:=fun y=>if y=n then h' else hd y
theorem upH_same:upH hd n h' n=h':=if_pos rfl
theorem upH_ne {y:Str} (h:y≠n):upH hd n h' y=hd y:=if_neg h
theorem Sane.mono (s:Sane P hd post kn sz) {P':Str→Prop} (h:∀y,P' y→P y):Sane P' hd post kn sz:=⟨s.k1,fun y hy=>s.pk y (h y hy),fun y hy=>s.own y (h y hy),fun l hl p=>s.le l hl (h _ p),fun l hl p=>s.lt l hl (h _ p),fun l hl x e p=>s.xle l hl x e (h _ p),fun l hl x e p=>s.xlt l hl x e (h _ p),fun a b A x pa pb=>s.seen a b A x (h _ pa) (h _ pb),fun l hl A p e p2=>s.mat l hl A (h _ p) e (h _ p2),fun b a B p=>s.tk b a B (h _ p),fun a b A p=>s.gf a b A (h _ p)⟩
/-- a hand that keeps its stamps -/
theorem Sane.upd (s:Sane P hd post kn sz) (hn:P n) (ow:h'.own.length=sz) (st:∀z,h'.stamp z=(hd n).stamp z) (nm:∀z,z∈(hd n).names→z∈h'.names) (ls:List Lt)
  (hls:∀l∈ls,l.one=n∧l.other∈kn∧l.stamp=(hd n).stamp l.other∧(∃A,h'.acc l.other=some A∧l.seen=A.seen∧l.gifts=A.gifts∧l.given=A.given)∧(P l.other→l.other≠n∧n∈(hd l.other).names))
  (hse:∀z A x,h'.acc z=some A→A.seen=some x→P z→stLe x ((hd z).stamp n))
  (hma:∀l∈post,∀A,l.one=n→h'.acc l.other=some A→P l.other→l.stamp=(hd n).stamp l.other→l.seen=some ((hd l.other).stamp n)→A.seen=some ((hd l.other).stamp n)∧l.gifts≤A.gifts∧(l.gifts=A.gifts→l.given=A.given))
  (htk:∀a B,h'.acc a=some B→(B.takes=0∧B.taken=rzero sz)∨ ∃x,B.seen=some x∧ ∃l∈post,l.one=a∧l.other=n∧l.stamp=x∧l.seen=some ((hd n).stamp a)∧l.gifts=B.takes∧l.given=B.taken∧0 < l.gifts)
  (hgf:∀b A,h'.acc b=some A→0≤A.gifts∧(A.gifts=0→A.given=rzero sz)):Sane P (upH hd n h') (post ++ ls) kn sz:=by
 have ss:∀y z,(upH hd n h' y).stamp z=(hd y).stamp z:=fun y z=>by
  by_cases e:y=n
  ·subst e;rw [upH_same];exact st z
  ·rw [upH_ne e]
 have sn:∀y z,z∉(upH hd n h' y).names→z∉(hd y).names:=fun y z hz m=>hz (by
  by_cases e:y=n
  ·subst e;rw [upH_same];exact nm z m
  ·rw [upH_ne e];exact m)
 refine⟨fun l hl=> ?_,s.pk,fun a pa=> ?_,fun l hl p=> ?_,fun l hl p hm=> ?_,fun l hl x e p=> ?_,fun l hl x e p hm=> ?_,fun a b A x pa pb ha hx=> ?_,fun l hl A p ha p2 e1 e2=> ?_,fun b a B p hb=> ?_,fun a b A p ha=> ?_⟩
 ·rcases List.mem_append.mp hl with hl | hl
  ·exact s.k1 l hl
  ·obtain⟨h1,h2,_⟩:=hls l hl
   exact⟨by rw [h1];exact s.pk n hn,h2⟩
 ·by_cases e:a=n
  ·subst e;rw [upH_same];exact ow
  ·rw [upH_ne e];exact s.own a pa
 ·rw [ss]
  rcases List.mem_append.mp hl with hl | hl
  ·exact s.le l hl p
  ·obtain⟨h1,_,h3,_⟩:=hls l hl
   rw [h3,h1];exact .refl _
 ·rw [ss]
  rcases List.mem_append.mp hl with hl | hl
  ·exact s.lt l hl p (sn _ _ hm)
  ·obtain⟨h1,_,_,⟨A,hA,_⟩,_⟩:=hls l hl
   rw [h1,upH_same] at hm
   exact absurd (acc_iff.mpr ⟨A,hA⟩) hm
 ·rw [ss]
  rcases List.mem_append.mp hl with hl | hl
  ·exact s.xle l hl x e p
  ·obtain⟨h1,_,_,⟨A,hA,h5,_⟩,_⟩:=hls l hl
   rw [h1];exact hse _ A x hA (h5 ▸ e) p
 ·rw [ss]
  rcases List.mem_append.mp hl with hl | hl
  ·exact s.xlt l hl x e p (sn _ _ hm)
  ·obtain⟨h1,_,_,_,h6⟩:=hls l hl
   obtain⟨g1,g2⟩:=h6 p
   rw [upH_ne g1,h1] at hm
   exact absurd g2 hm
 ·rw [ss]
  by_cases e:a=n
  ·subst e;rw [upH_same] at ha;exact hse b A x ha hx pb
  ·rw [upH_ne e] at ha;exact s.seen a b A x pa pb ha hx
 ·rw [ss] at e1 e2 ⊢
  by_cases e:l.one=n
  ·rw [e,upH_same] at ha
   rw [e] at e1 e2 ⊢
   rcases List.mem_append.mp hl with hl | hl
   ·exact hma l hl A e ha p2 e1 e2
   ·obtain⟨_,_,_,⟨A',hA,h5,h6,h7⟩,_⟩:=hls l hl
    rw [ha] at hA;cases hA
    exact⟨h5 ▸ e2,by rw [h6];exact Int.le_refl _,fun _=>h7⟩
  ·rw [upH_ne e] at ha
   rcases List.mem_append.mp hl with hl | hl
   ·exact s.mat l hl A p ha p2 e1 e2
   ·exact absurd (hls l hl).1 e
 ·rw [ss]
  have grow:∀ {x:Option (Int×Int)} {a b:Str} {B:Acc},(B.takes=0∧B.taken=rzero sz)∨(∃y,B.seen=some y∧ ∃l∈post,l.one=a∧l.other=b∧l.stamp=y∧l.seen=x∧l.gifts=B.takes∧l.given=B.taken∧0 < l.gifts)→(B.takes=0∧B.taken=rzero sz)∨ ∃y,B.seen=some y∧ ∃l∈post ++ ls,l.one=a∧l.other=b∧l.stamp=y∧l.seen=x∧l.gifts=B.takes∧l.given=B.taken∧0 < l.gifts:=fun h=>by
   rcases h with h | ⟨y,h1,l,h2,h3⟩
   ·exact .inl h
   ·exact .inr ⟨y,h1,l,List.mem_append_left _ h2,h3⟩
  by_cases e:b=n
  ·subst e;rw [upH_same] at hb;exact grow (htk a B hb)
  ·rw [upH_ne e] at hb;exact grow (s.tk b a B p hb)
 ·by_cases e:a=n
  ·subst e;rw [upH_same] at ha;exact hgf b A ha
  ·rw [upH_ne e] at ha;exact s.gf a b A p ha
/-- .. that writes nothing -/
theorem Sane.upd0 (s:Sane P hd post kn sz) (hn:P n) (ow:h'.own.length=sz) (st:∀z,h'.stamp z=(hd n).stamp z) (nm:∀z,z∈(hd n).names→z∈h'.names)
  (hse:∀z A x,h'.acc z=some A→A.seen=some x→P z→stLe x ((hd z).stamp n))
  (hma:∀l∈post,∀A,l.one=n→h'.acc l.other=some A→P l.other→l.stamp=(hd n).stamp l.other→l.seen=some ((hd l.other).stamp n)→A.seen=some ((hd l.other).stamp n)∧l.gifts≤A.gifts∧(l.gifts=A.gifts→l.given=A.given))
  (htk:∀a B,h'.acc a=some B→(B.takes=0∧B.taken=rzero sz)∨ ∃x,B.seen=some x∧ ∃l∈post,l.one=a∧l.other=n∧l.stamp=x∧l.seen=some ((hd n).stamp a)∧l.gifts=B.takes∧l.given=B.taken∧0 < l.gifts)
  (hgf:∀b A,h'.acc b=some A→0≤A.gifts∧(A.gifts=0→A.given=rzero sz)):Sane P (upH hd n h') post kn sz:=by
 have:=s.upd hn ow st nm [] (fun l hl=>nomatch hl) hse hma htk hgf
 rwa [List.append_nil] at this
theorem Sane.set (s:Sane P hd post kn sz) (hn:P n) {ns:List Int} (hl:ns.length=sz):Sane P (upH hd n ((hd n).setOwn ns)) post kn sz:=
 s.upd0 hn hl (fun _=>rfl) (fun _ h=>h) (fun z A x ha hx pz=>s.seen n z A x hn pz ha hx) (fun l hl A e ha p2 e1 e2=>by
  subst e
  exact s.mat l hl A hn ha p2 e1 e2) (fun a B hb=>s.tk n a B hn hb) (fun b A ha=>s.gf n b A hn ha)
theorem Sane.tie1 (s:Sane P hd post kn sz) (hn:P n) {z:Str} (hz:z∉(hd n).names):Sane P (upH hd n ((hd n).tie z)) post kn sz:=by
 have ac:=tie_acc hz
 refine s.upd0 hn (s.own n hn) (fun y=>tie_stamp y) (fun y hy=>by rw [tie_names];exact List.mem_append_left _ hy) (fun y A x ha hx py=> ?_) (fun l hl A e ha p2 e1 e2=> ?_) (fun a B hb=> ?_) (fun b A ha=> ?_)
 ·rw [ac] at ha
  split at ha
  ·cases ha;cases hx
  ·exact s.seen n y A x hn py ha hx
 ·subst e
  rw [ac] at ha
  split at ha
  ·next e=>
   have:=s.lt l hl hn (by rw [e];exact hz)
   rw [e1] at this
   exact this.irr.elim
  ·exact s.mat l hl A hn ha p2 e1 e2
 ·rw [ac] at hb
  split at hb
  ·cases hb
   exact .inl ⟨rfl,by rw [s.own n hn];rfl⟩
  ·exact s.tk n a B hn hb
 ·rw [ac] at ha
  split at ha
  ·cases ha
   exact⟨Int.le_refl _,fun _=>by rw [s.own n hn];rfl⟩
  ·exact s.gf n b A hn ha
/-- a hand whose stamps rise -/
theorem Sane.rise (s:Sane P hd post kn sz) (hn:P n) (ow:h'.own.length=sz) (R:Str→Prop) (st:∀z,¬ R z→h'.stamp z=(hd n).stamp z) (stR:∀z,R z→stL ((hd n).stamp z) (h'.stamp z)) (nm:∀z,¬ R z→z∈(hd n).names→z∈h'.names)
  (hac:∀z A,h'.acc z=some A→(R z∧A=acc0 sz none)∨(¬ R z∧(hd n).acc z=some A)):Sane P (upH hd n h') post kn sz:=by
 have sl:∀ {x:Int×Int} {y z:Str},stLe x ((hd y).stamp z)→stLe x ((upH hd n h' y).stamp z):=fun {x y z} h=>by
  by_cases e:y=n
  ·subst e
   rw [upH_same]
   by_cases r:R z
   ·exact(h.lt (stR z r)).le
   ·rw [st z r];exact h
  ·rw [upH_ne e];exact h
 have sL:∀ {x:Int×Int} {y z:Str},stLe x ((hd y).stamp z)→(z∉(hd y).names→stL x ((hd y).stamp z))→z∉(upH hd n h' y).names→stL x ((upH hd n h' y).stamp z):=fun {x y z} h h2 hm=>by
  by_cases e:y=n
  ·subst e
   rw [upH_same] at hm ⊢
   by_cases r:R z
   ·exact h.lt (stR z r)
   ·rw [st z r];exact h2 fun c=>hm (nm z r c)
  ·rw [upH_ne e] at hm ⊢;exact h2 hm
 refine⟨s.k1,s.pk,fun a pa=> ?_,fun l hl p=>sl (s.le l hl p),fun l hl p hm=>sL (s.le l hl p) (s.lt l hl p) hm,fun l hl x e p=>sl (s.xle l hl x e p),fun l hl x e p hm=>sL (s.xle l hl x e p) (s.xlt l hl x e p) hm,fun a b A x pa pb ha hx=>sl ?_,fun l hl A p ha p2 e1 e2=> ?_,fun b a B p hb=> ?_,fun a b A p ha=> ?_⟩
 ·by_cases e:a=n
  ·subst e;rw [upH_same];exact ow
  ·rw [upH_ne e];exact s.own a pa
 ·by_cases e:a=n
  ·subst e
   rw [upH_same] at ha
   rcases hac b A ha with⟨_,rfl⟩ | ⟨_,ha⟩
   ·cases hx
   ·exact s.seen a b A x pa pb ha hx
  ·rw [upH_ne e] at ha;exact s.seen a b A x pa pb ha hx
 ·-- the letter's stamps are the ones of now: neither of them rose
  have o1:(upH hd n h' l.one).stamp l.other=(hd l.one).stamp l.other:=by
   by_cases e:l.one=n
   ·by_cases r:R l.other
    ·have h1:=s.le l hl p
     rw [e,upH_same] at e1
     rw [e1,e] at h1
     exact absurd (stR _ r) h1.not
    ·rw [e,upH_same];exact st _ r
   ·rw [upH_ne e]
  have o2:(upH hd n h' l.other).stamp l.one=(hd l.other).stamp l.one:=by
   by_cases e:l.other=n
   ·by_cases r:R l.one
    ·have h1:=s.xle l hl _ e2 p2
     rw [e,upH_same] at h1
     exact absurd (stR _ r) h1.not
    ·rw [e,upH_same];exact st _ r
   ·rw [upH_ne e]
  rw [o1] at e1
  rw [o2] at e2 ⊢
  by_cases e:l.one=n
  ·rw [e,upH_same] at ha
   rcases hac l.other A ha with⟨r,_⟩ | ⟨_,ha⟩
   ·have:=stR _ r
    rw [e,upH_same] at o1
    rw [o1] at this
    exact this.irr.elim
   ·exact s.mat l hl A p (by rw [e];exact ha) p2 e1 e2
  ·rw [upH_ne e] at ha
   exact s.mat l hl A p ha p2 e1 e2
 ·by_cases e:b=n
  ·subst e
   rw [upH_same] at hb ⊢
   rcases hac a B hb with⟨_,rfl⟩ | ⟨r,hb⟩
   ·exact .inl ⟨rfl,rfl⟩
   ·rw [st a r];exact s.tk b a B p hb
  ·rw [upH_ne e] at hb ⊢;exact s.tk b a B p hb
 ·by_cases e:a=n
  ·subst e
   rw [upH_same] at ha
   rcases hac b A ha with⟨_,rfl⟩ | ⟨_,ha⟩
   ·exact⟨Int.le_refl _,fun _=>rfl⟩
   ·exact s.gf a b A p ha
  ·rw [upH_ne e] at ha;exact s.gf a b A p ha
theorem Sane.cut1 (s:Sane P hd post kn sz) (hn:P n) {z:Str} (hz:z∈(hd n).eras.map (·.1)):Sane P (upH hd n ((hd n).cut z)) post kn sz:=by
 refine s.rise hn (s.own n hn) (fun y=>y=z) (fun y r=>by rw [cut_stamp hz,if_neg r]) (fun y r=> ?_) (fun y r m=> ?_) (fun y A ha=> ?_)
 ·subst r
  rw [cut_stamp hz,if_pos rfl]
  exact .inr ⟨rfl,by show(hd n).era y < (hd n).era y+1;omega⟩
 ·rw [hcut_names,mem_ne];exact⟨m,r⟩
 ·rw [cut_acc] at ha
  split at ha
  ·cases ha
  ·next e=>exact .inr ⟨e,ha⟩
theorem Sane.fresh1 (s:Sane P hd post kn sz) (hn:P n):Sane P (upH hd n (hd n).fresh) post kn sz:=by
 refine s.rise hn (s.own n hn) (fun _=>True) (fun y r=>absurd trivial r) (fun y _=> ?_) (fun y r=>absurd trivial r) (fun y A ha=> ?_)
 ·rw [fresh_stamp]
  exact .inl (by show(hd n).life < (hd n).life+1;omega)
 ·rw [fresh_acc] at ha
  split at ha
  ·cases ha
   exact .inl ⟨trivial,by rw [s.own n hn]⟩
  ·cases ha
end
section
variable {P:Str→Prop} {hd:Str→Hd} {post:List Lt} {kn:List Str} {sz:Nat} {n:Str}
theorem Sane.turn (s:Sane P hd post kn sz) (hn:P n) (hc:(hd n).called=n) (nd:(hd n).names.Nodup) (sy:∀z∈(hd n).names,P z∧z≠n∧n∈(hd z).names):Sane P (upH hd n (hd n).turned) (post ++ (hd n).letters) kn sz:=by
 have ac:=gave_acc (hd n) nd
 have get:∀ {z:Str} {A':Acc},(hd n).turned.acc z=some A'→ ∃A,(hd n).acc z=some A∧A'=giveTo (hd n) A:=fun {z A'} h=>by
  rw [ac] at h
  cases e:(hd n).acc z with
  | none=>rw [e] at h;cases h
  | some A=>rw [e] at h;exact⟨A,rfl,(Option.some.inj h).symm⟩
 have gs:∀A,(giveTo (hd n) A).seen=A.seen∧(giveTo (hd n) A).takes=A.takes∧(giveTo (hd n) A).taken=A.taken:=fun A=>by
  unfold giveTo
  split <;> exact⟨rfl,rfl,rfl⟩
 refine s.upd (h':=(hd n).turned) hn (s.own n hn) (fun _=>rfl) (fun z hz=>by rw [turned_names];exact hz) _ (fun l hl=> ?_) (fun z A' x ha hx pz=> ?_) (fun l hl A' e ha p2 e1 e2=> ?_) (fun a B' hb=> ?_) (fun b A' ha=> ?_)
 ·obtain⟨z,hz,rfl⟩:=List.mem_map.mp hl
  have hz:=(srtS_perm _).mem_iff.mp hz
  have hz':z∈(hd n).turned.names:=by rw [turned_names];exact hz
  obtain⟨A,hA⟩:=acc_some hz'
  obtain⟨h1,h2,h3⟩:=sy z hz
  have el:(hd n).turned.letter z=⟨(hd n).called,z,(hd n).turned.stamp z,A.seen,A.gifts,A.given,(hd n).turned.heard⟩:=by
   unfold Hd.letter
   rw [hA];rfl
  rw [el]
  exact⟨hc,s.pk z h1,rfl,⟨A,hA,rfl,rfl,rfl⟩,fun _=>⟨h2,h3⟩⟩
 ·obtain⟨A,hA,rfl⟩:=get ha
  rw [(gs A).1] at hx
  exact s.seen n z A x hn pz hA hx
 ·subst e
  obtain⟨A,hA,rfl⟩:=get ha
  obtain⟨m1,m2,m3⟩:=s.mat l hl A hn hA p2 e1 e2
  have hs:A.seen.isSome=true:=by rw [m1];rfl
  have e9:giveTo (hd l.one) A= { A with given:=rplus A.given (hd l.one).share,gifts:=A.gifts+1 } :=if_pos hs
  rw [e9]
  exact⟨m1,by show l.gifts≤A.gifts+1;omega,fun h=>by
   have h':l.gifts=A.gifts+1:=h
   omega⟩
 ·obtain⟨B,hB,rfl⟩:=get hb
  rw [(gs B).1,(gs B).2.1,(gs B).2.2]
  exact s.tk n a B hn hB
 ·obtain⟨A,hA,rfl⟩:=get ha
  obtain⟨h1,h2⟩:=s.gf n b A hn hA
  unfold giveTo
  split
  ·exact⟨by show 0≤A.gifts+1;omega,fun h=>by
    have h':A.gifts+1=0:=h
    omega⟩
  ·exact⟨h1,h2⟩
theorem hear_is {A:Acc} {st:Int×Int} {sz:Nat} (mn:A.many=sz) (h:(match A.seen with | none=>false | some x=>stLt st x)=false):(A.hear st=acc0 sz (some st)∨A.hear st=A)∧(A.hear st).seen=some st∧(A.seen=some st→A.hear st=A):=by
 unfold Acc.hear
 cases hs:A.seen with
 | none=>exact⟨.inl (by rw [mn]),rfl,fun c=>by cases c⟩
 | some x=>
  rw [hs] at h
  have h:stLt st x=false:=h
  have h1: ¬ stL st x:=fun c=>by
   have:=stLt_iff.mpr c
   rw [this] at h
   cases h
  dsimp only
  by_cases h2:stLt x st=true
  ·rw [if_pos h2]
   refine⟨.inl (by rw [mn]),rfl,fun c=> ?_⟩
   cases c
   exact(stLt_iff.mp h2).irr.elim
  ·rw [if_neg h2]
   have h3: ¬ stL x st:=fun c=>h2 (stLt_iff.mpr c)
   have e:x=st:=by
    obtain⟨a,b⟩:=x
    obtain⟨c,d⟩:=st
    unfold stL at h1 h3
    dsimp only at h1 h3
    have:a=c∧b=d:=by omega
    rw [this.1,this.2]
   exact⟨.inr rfl,by rw [hs,e],fun _=>rfl⟩
/-- what a letter that comes makes of its account -/
theorem take_is (h:Hd) (l:Lt) {A:Acc} {sz:Nat} (hA:h.acc l.one=some A) (mn:A.many=sz):((∃x,A.seen=some x∧stL l.stamp x)∧(h.take l).2=h)∨
  ∃A1 A':Acc,(∀y,(h.take l).2.acc y=if y=l.one then some A' else h.acc y)∧(h.take l).2.own=h.own∧(h.take l).2.names=h.names∧(A1=acc0 sz (some l.stamp)∨A1=A)∧A1.seen=some l.stamp∧(A.seen=some l.stamp→A1=A)∧(∀x,A.seen=some x→¬ stL l.stamp x)∧
   ((l.seen=some (h.stamp l.one)∧A1.takes < l.gifts∧A'= { A1 with takes:=l.gifts,taken:=l.given })∨(¬ (l.seen=some (h.stamp l.one)∧A1.takes < l.gifts)∧A'=A1)):=by
 have key:∀(A':Acc) (hr:List En),(∀y,({ h with accs:=updA h.accs l.one fun _=>A',heard:=hr } :Hd).acc y=if y=l.one then some A' else h.acc y)∧({ h with accs:=updA h.accs l.one fun _=>A',heard:=hr } :Hd).names=h.names:=fun A' hr=>by
  refine⟨fun y=> ?_,updA_names h.accs l.one fun _=>A'⟩
  rw [acc_upd]
  by_cases e:y=l.one
  ·subst e
   rw [hA,if_pos rfl]
   show some (if l.one=l.one then A' else A)=_
   rw [if_pos rfl]
  ·rw [if_neg e]
   cases h.acc y with
   | none=>rfl
   | some a=>show some (if y=l.one then A' else a)=_;rw [if_neg e]
 have two:∀bb:Bool,(match A.seen with | none=>false | some x=>stLt l.stamp x)=bb→(h.take l).2=if bb=true then h else if l.seen=some (h.stamp l.one)∧(A.hear l.stamp).takes < l.gifts then { h with accs:=updA h.accs l.one fun _=> { A.hear l.stamp with takes:=l.gifts,taken:=l.given },heard:=mrg h.heard l.roll } else { h with accs:=updA h.accs l.one fun _=>A.hear l.stamp,heard:=mrg h.heard l.roll } :=by
  intro bb hb
  have e:h.take l=if(match A.seen with | none=>false | some x=>stLt l.stamp x)=true then(("" :Str),h) else if l.seen=some (h.stamp l.one)∧(A.hear l.stamp).takes < l.gifts then(("taken" :Str),{ h with accs:=updA h.accs l.one fun _=> { A.hear l.stamp with takes:=l.gifts,taken:=l.given },heard:=mrg h.heard l.roll }) else(("heard" :Str),{ h with accs:=updA h.accs l.one fun _=>A.hear l.stamp,heard:=mrg h.heard l.roll }):=by
   unfold Hd.take
   rw [hA] <;> rfl
  rw [e,hb]
  cases bb
  ·show(if l.seen=some (h.stamp l.one)∧(A.hear l.stamp).takes < l.gifts then(("taken" :Str),({ h with accs:=updA h.accs l.one fun _=> { A.hear l.stamp with takes:=l.gifts,taken:=l.given },heard:=mrg h.heard l.roll } :Hd)) else(("heard" :Str),{ h with accs:=updA h.accs l.one fun _=>A.hear l.stamp,heard:=mrg h.heard l.roll })).2=if l.seen=some (h.stamp l.one)∧(A.hear l.stamp).takes < l.gifts then({ h with accs:=updA h.accs l.one fun _=> { A.hear l.stamp with takes:=l.gifts,taken:=l.given },heard:=mrg h.heard l.roll } :Hd) else { h with accs:=updA h.accs l.one fun _=>A.hear l.stamp,heard:=mrg h.heard l.roll }
   split <;> rfl
  ·rfl
 cases hb:(match A.seen with | none=>false | some x=>stLt l.stamp x) with
 | true=>
  refine .inl ⟨?_,by rw [two true hb,if_pos rfl]⟩
  cases hs:A.seen with
  | none=>rw [hs] at hb;cases hb
  | some x=>rw [hs] at hb;exact⟨x,rfl,stLt_iff.mp hb⟩
 | false=>
  obtain⟨h1,h2,h3⟩:=hear_is mn hb
  have e:(h.take l).2=if l.seen=some (h.stamp l.one)∧(A.hear l.stamp).takes < l.gifts then({ h with accs:=updA h.accs l.one fun _=> { A.hear l.stamp with takes:=l.gifts,taken:=l.given },heard:=mrg h.heard l.roll } :Hd) else { h with accs:=updA h.accs l.one fun _=>A.hear l.stamp,heard:=mrg h.heard l.roll } :=two false hb
  have h4:∀x,A.seen=some x→¬ stL l.stamp x:=fun x hx c=>by
   rw [hx] at hb
   have hb:stLt l.stamp x=false:=hb
   rw [stLt_iff.mpr c] at hb
   cases hb
  by_cases hc:l.seen=some (h.stamp l.one)∧(A.hear l.stamp).takes < l.gifts
  ·rw [if_pos hc] at e
   rw [e]
   exact .inr ⟨A.hear l.stamp,_,(key _ _).1,rfl,(key _ _).2,h1,h2,h3,h4,.inl ⟨hc.1,hc.2,rfl⟩⟩
  ·rw [if_neg hc] at e
   rw [e]
   exact .inr ⟨A.hear l.stamp,_,(key _ _).1,rfl,(key _ _).2,h1,h2,h3,h4,.inr ⟨hc,rfl⟩⟩
theorem stLe.antiN {x y:Int×Int} (h:stLe x y) (h': ¬ stL x y):y=x:=by
 obtain⟨a,b⟩:=x
 obtain⟨c,d⟩:=y
 unfold stLe at h
 unfold stL at h'
 dsimp only at h h'
 have:c=a∧d=b:=by omega
 rw [this.1,this.2]
theorem upH_self (hd:Str→Hd) (n:Str):upH hd n (hd n)=hd:=funext fun y=>by
 by_cases e:y=n
 ·rw [e,upH_same]
 ·exact upH_ne e
theorem Sane.takes0 (s:Sane P hd post kn sz) {b a:Str} {B:Acc} (p:P b) (hB:(hd b).acc a=some B):0≤B.takes:=by
 rcases s.tk b a B p hB with⟨h,_⟩ | ⟨_,_,l,_,_,_,_,_,h,_,h0⟩
 ·omega
 ·omega
theorem Sane.come (s:Sane P hd post kn sz) {l:Lt} (hl:l∈post) (hn:P l.other) (hone:P l.one) {A:Acc} (hA:(hd l.other).acc l.one=some A) (mn:A.many=sz):Sane P (upH hd l.other ((hd l.other).take l).2) post kn sz:=by
 rcases take_is (hd l.other) l hA mn with⟨_,e⟩ | ⟨A1,A',ac,ow,nm,c1,c2,c3,c5,c4⟩
 ·rw [e,upH_self];exact s
 have le:=s.le l hl hone
 have e1:A'.seen=A1.seen∧A'.gifts=A1.gifts∧A'.given=A1.given:=by
  rcases c4 with⟨_,_,rfl⟩ | ⟨_,rfl⟩ <;> exact⟨rfl,rfl,rfl⟩
 have t0:0≤A1.takes:=by
  rcases c1 with rfl | rfl
  ·exact Int.le_refl _
  ·exact s.takes0 hn hA
 refine s.upd0 hn (by rw [ow];exact s.own _ hn) (fun z=>take_rest _ _ z) (fun z hz=>by rw [nm];exact hz) (fun z B x hb hx pz=> ?_) (fun k hk B e hb p2 f1 f2=> ?_) (fun a B hb=> ?_) (fun b B hb=> ?_)
 ·rw [ac] at hb
  split at hb
  ·next e=>
   cases hb
   rw [e1.1,c2] at hx
   cases hx
   rw [e];exact le
  ·exact s.seen _ z B x hn pz hb hx
 ·rw [ac] at hb
  split at hb
  ·next e2=>
   cases hb
   obtain⟨m1,m2,m3⟩:=s.mat k hk A (by rw [e];exact hn) (by rw [e,e2];exact hA) p2 (by rw [e];exact f1) (by rw [e];exact f2)
   rw [e] at m1
   have same:A1=A:=by
    refine c3 ?_
    have:=c5 _ m1
    rw [e2] at this m1
    rw [m1,stLe.antiN le this]
   rw [e1.1,e1.2.1,e1.2.2,same]
   exact⟨m1,m2,m3⟩
  ·have:=s.mat k hk B (by rw [e];exact hn) (by rw [e];exact hb) p2 (by rw [e];exact f1) (by rw [e];exact f2)
   rw [e] at this
   exact this
 ·rw [ac] at hb
  split at hb
  ·next e=>
   cases hb
   rcases c4 with⟨g1,g2,rfl⟩ | ⟨_,rfl⟩
   ·exact .inr ⟨l.stamp,c2,l,hl,e.symm,rfl,rfl,by rw [e];exact g1,rfl,rfl,by omega⟩
   ·rcases c1 with rfl | rfl
    ·exact .inl ⟨rfl,rfl⟩
    ·rw [e];exact s.tk _ _ _ hn hA
  ·exact s.tk _ a B hn hb
 ·rw [ac] at hb
  split at hb
  ·cases hb
   rw [e1.2.1,e1.2.2]
   rcases c1 with rfl | rfl
   ·exact⟨Int.le_refl _,fun _=>rfl⟩
   ·exact s.gf _ _ _ hn hA
  ·exact s.gf _ b B hn hb
end
theorem hd_at {r:Rn} (nd:r.names.Nodup) {n:Str} (hn:n∈r.names):∃x,r.get n=some x∧r.hd n=x.1∧x∈r.hs∧x.1.called=n:=by
 obtain⟨x,hx⟩:=rget_mem nd hn
 exact⟨x,hx,hd_of hx,(rget_some hx).1,(rget_some hx).2⟩
theorem upd_names (r:Rn) (z:Str) {f:Hd→Hd} (hf:∀h,(f h).called=h.called):(r.upd z f).names=r.names:=by
 show(r.hs.map (gU z f)).map (fun x=>x.1.called)=r.hs.map fun x=>x.1.called
 rw [List.map_map]
 exact List.map_congr_left fun x _=>gU_called hf x
theorem upd_hd {r:Rn} (nd:r.names.Nodup) {z:Str} (hz:z∈r.names) {f:Hd→Hd} (hf:∀h,(f h).called=h.called):(r.upd z f).hd=upH r.hd z (f (r.hd z)):=funext fun y=>by
 have e:(r.upd z f).get y=(r.get y).map (gU z f):=rget_map (gU_called hf) rfl y
 by_cases h:y=z
 ·subst h
  obtain⟨x,hx,hd,_,hc⟩:=hd_at nd hz
  rw [hx] at e
  have e2:=hd_of (r:=r.upd y f) (x:=gU y f x) e
  rw [e2,upH_same,hd]
  show(if x.1.called=y then(f x.1,x.2) else x).1=_
  rw [if_pos hc]
 ·rw [upH_ne h]
  cases hx:r.get y with
  | none=>
   rw [hx] at e
   unfold Rn.hd
   rw [e,hx];rfl
  | some x=>
   rw [hx] at e
   rw [hd_of (r:=r.upd z f) (x:=gU z f x) e,hd_of hx]
   show(if x.1.called=z then(f x.1,x.2) else x).1=_
   rw [if_neg (by rw [(rget_some hx).2];exact h)]
theorem setUp_names (r:Rn) (z:Str) (b:Bool):(r.setUp z b).names=r.names:=by
 show(r.hs.map _).map (fun x:Hd×Bool=>x.1.called)=r.hs.map fun x=>x.1.called
 rw [List.map_map]
 refine List.map_congr_left fun x _=> ?_
 show(if x.1.called=z then(x.1,b) else x).1.called=_
 split <;> rfl
theorem setUp_hd (r:Rn) (z:Str) (b:Bool):(r.setUp z b).hd=r.hd:=funext fun y=>by
 have e:(r.setUp z b).get y=(r.get y).map (fun x:Hd×Bool=>if x.1.called=z then(x.1,b) else x):=rget_map (g:=fun x:Hd×Bool=>if x.1.called=z then(x.1,b) else x) (fun x=>by show(if x.1.called=z then(x.1,b) else x).1.called=_;split <;> rfl) rfl y
 cases hx:r.get y with
 | none=>
  rw [hx] at e
  unfold Rn.hd
  rw [e,hx];rfl
 | some x=>
  rw [hx] at e
  rw [hd_of (r:=r.setUp z b) e,hd_of hx]
  show(if x.1.called=z then(x.1,b) else x).1=_
  split <;> rfl
def SaneR (r:Rn):Prop:=Sane (· ∈r.names) r.hd r.post r.known r.size
theorem Sane.congr {P:Str→Prop} {hd hd':Str→Hd} {post:List Lt} {kn:List Str} {sz:Nat} (s:Sane P hd post kn sz) (h:∀y,P y→hd' y=hd y):Sane P hd' post kn sz:=
 ⟨s.k1,s.pk,fun a p=>by rw [h a p];exact s.own a p,fun l hl p=>by rw [h _ p];exact s.le l hl p,fun l hl p=>by rw [h _ p];exact s.lt l hl p,fun l hl x e p=>by rw [h _ p];exact s.xle l hl x e p,fun l hl x e p=>by rw [h _ p];exact s.xlt l hl x e p,
  fun a b A x pa pb=>by rw [h a pa,h b pb];exact s.seen a b A x pa pb,fun l hl A p ha p2=>by
  rw [h _ p] at ha
  rw [h _ p,h _ p2]
  exact s.mat l hl A p ha p2,fun b a B p=>by rw [h b p];exact s.tk b a B p,fun a b A p=>by rw [h a p];exact s.gf a b A p⟩
section
variable {U:List Str} {c:Nat} {r:Rn}
theorem RB.tie' (b:RB U c r) {n z:Str} (hn:n∈r.names) (hz:z∈(r.hd n).names):z∈r.names∧z≠n∧n∈(r.hd z).names:=by
 have:=b.sym n z (tied_hd.mpr ⟨hn,hz⟩)
 obtain⟨h1,h2⟩:=tied_hd.mp this.2
 exact⟨h1,fun e=>this.1 e.symm,h2⟩
theorem RB.hbn (b:RB U c r) {n:Str} (hn:n∈r.names):HB U r.size c (r.hd n)∧(r.hd n).called=n:=by
 obtain⟨x,_,e,hx,hc⟩:=hd_at b.nd hn
 rw [e]
 exact⟨b.hb x hx,hc⟩
theorem SaneR.upd (b:RB U c r) {n:Str} (hn:n∈r.names) {f:Hd→Hd} (hf:∀h,(f h).called=h.called) {post:List Lt} (s:Sane (· ∈r.names) (upH r.hd n (f (r.hd n))) post r.known r.size):SaneR { (r.upd n f) with post:=post } :=by
 show Sane (· ∈(r.upd n f).names) (r.upd n f).hd post r.known r.size
 rw [upd_names r n hf,upd_hd b.nd hn hf]
 exact s
theorem SaneR.turn (b:RB U c r) (s:SaneR r) {n:Str} :SaneR (r.done (.turn n)).2:=by
 show SaneR (match r.get n with | some x=>(Wh.letters x.1.letters,({ (r.upd n Hd.turned) with post:=r.post ++ x.1.letters } :Rn)) | none=>(.none,r)).2
 cases h:r.get n with
 | none=>exact s
 | some x=>
  have hn:=rget_names h
  have hb:=b.hbn hn
  show SaneR { (r.upd n Hd.turned) with post:=r.post ++ x.1.letters }
  rw [← hd_of h]
  exact SaneR.upd (f:=Hd.turned) b hn (fun _=>rfl) (Sane.turn s hn hb.2 hb.1.nd fun z hz=>b.tie' hn hz)
theorem SaneR.come (b:RB U c r) (s:SaneR r) {l:Lt} (hl:l∈r.post):SaneR (r.come l).2:=by
 unfold Rn.come
 cases h:r.get l.other with
 | none=>exact s
 | some x=>
  dsimp only
  split
  ·next hh=>
   have hn:=rget_names h
   have hb:=b.hbn hn
   have ho:l.one∈(r.hd l.other).names:=by rw [hd_of h];exact hh.2
   obtain⟨A,hA⟩:=acc_some ho
   exact SaneR.upd (f:=fun h=>(h.take l).2) (post:=r.post) b hn (take_called · l) (Sane.come s hl hn (b.tie' hn ho).1 hA (hb.1.acc _ (acc_mem hA)).1)
  ·exact s
theorem SaneR.set (b:RB U c r) (s:SaneR r) {n:Str} {ns:List Int} (hn:n∈r.names) (hl:ns.length=r.size):SaneR (r.upd n fun h=>h.setOwn ns):=
 SaneR.upd (f:=fun h=>h.setOwn ns) (post:=r.post) b hn (fun _=>rfl) (Sane.set s hn hl)
theorem SaneR.setUp (s:SaneR r) (n:Str) (u:Bool):SaneR (r.setUp n u):=by
 show Sane (· ∈(r.setUp n u).names) (r.setUp n u).hd r.post r.known r.size
 rw [setUp_names,setUp_hd]
 exact s
theorem SaneR.two (b:RB U c r) {n o:Str} (hn:n∈r.names) (ho:o∈r.names) {f g:Hd→Hd} (hf:∀h,(f h).called=h.called) (hg:∀h,(g h).called=h.called) (s:Sane (· ∈r.names) (upH (upH r.hd n (f (r.hd n))) o (g (upH r.hd n (f (r.hd n)) o))) r.post r.known r.size):SaneR ((r.upd n f).upd o g):=by
 show Sane (· ∈((r.upd n f).upd o g).names) ((r.upd n f).upd o g).hd r.post r.known r.size
 have nd:(r.upd n f).names.Nodup:=by rw [upd_names r n hf];exact b.nd
 rw [upd_names _ o hg,upd_hd nd (by rw [upd_names r n hf];exact ho) hg,upd_names r n hf,upd_hd b.nd hn hf]
 exact s
theorem SaneR.tie (b:RB U c r) (s:SaneR r) {n o:Str} (hn:n∈r.names) (ho:o∈r.names) (no:n≠o) (nt:r.tied n o≠true):SaneR ((r.upd n fun h=>h.tie o).upd o fun h=>h.tie n):=by
 refine SaneR.two (f:=fun h=>h.tie o) (g:=fun h=>h.tie n) b hn ho (fun _=>rfl) (fun _=>rfl) ?_
 have h1:o∉(r.hd n).names:=fun m=>nt (tied_hd.mpr ⟨hn,m⟩)
 refine Sane.tie1 (Sane.tie1 s hn h1) ho ?_
 rw [upH_ne fun e=>no e.symm]
 exact fun m=>nt (b.sym o n (tied_hd.mpr ⟨ho,m⟩)).2
theorem SaneR.cut (b:RB U c r) (s:SaneR r) {n o:Str} (no:n≠o) (t:r.tied n o=true):SaneR ((r.upd n fun h=>h.cut o).upd o fun h=>h.cut n):=by
 obtain⟨hn,m⟩:=tied_hd.mp t
 obtain⟨ho,m2⟩:=tied_hd.mp (b.sym n o t).2
 refine SaneR.two (f:=fun h=>h.cut o) (g:=fun h=>h.cut n) b hn ho (fun _=>rfl) (fun _=>rfl) ?_
 refine Sane.cut1 (Sane.cut1 s hn ((b.hbn hn).1.era o m)) ho ?_
 rw [upH_ne fun e=>no e.symm]
 exact(b.hbn ho).1.era n m2
theorem SaneR.fresh (b:RB U c r) (s:SaneR r) {n:Str} (hn:n∈r.names):SaneR ((r.setUp n true).upd n Hd.fresh):=by
 have s1:=s.setUp n true
 have hn':n∈(r.setUp n true).names:=by rw [setUp_names];exact hn
 exact SaneR.upd (f:=Hd.fresh) (post:=r.post) (b.setUp n true) hn' (fun _=>rfl) (Sane.fresh1 s1 hn')
theorem SaneR.join (b:RB U c r) (s:SaneR r) {n:Str} {ns:List Int} (hn:n∉r.known) (hl:ns.length=r.size):SaneR (r.done (.join n ns)).2:=by
 have nn:n∉r.names:=fun h=>hn (b.nk n h)
 show Sane (· ∈(r.hs ++ [(hd0 n ns [],true)]).map fun x=>x.1.called) (({ r with hs:=r.hs ++ [(hd0 n ns [],true)],known:=r.known ++ [n] } :Rn)).hd r.post (r.known ++ [n]) r.size
 have en:∀y,y∈((r.hs ++ [(hd0 n ns [],true)]).map fun x=>x.1.called)↔y∈r.names∨y=n:=fun y=>by
  rw [List.map_append,List.mem_append]
  exact or_congr Iff.rfl List.mem_singleton
 have eh:∀y,(({ r with hs:=r.hs ++ [(hd0 n ns [],true)],known:=r.known ++ [n] } :Rn)).hd y=if y=n then hd0 n ns [] else r.hd y:=fun y=>by
  unfold Rn.hd Rn.get
  rw [List.find?_append]
  by_cases e:y=n
  ·subst e
   rw [if_pos rfl]
   have:r.hs.find? (fun x=>decide (x.1.called=y))=none:=get_none nn
   rw [this]
   show((List.find? (fun x:Hd×Bool=>decide (x.1.called=y)) [(hd0 y ns [],true)]).map (·.1)).getD _=_
   have e2:decide ((hd0 y ns []).called=y)=true:=decide_eq_true rfl
   rw [List.find?_cons_of_pos (p:=fun x:Hd×Bool=>decide (x.1.called=y)) e2]
   rfl
  ·rw [if_neg e]
   cases r.hs.find? (fun x=>decide (x.1.called=y)) with
   | some x=>rfl
   | none=>
    show((List.find? (fun x:Hd×Bool=>decide (x.1.called=y)) [(hd0 n ns [],true)]).map (·.1)).getD _=_
    have e2: ¬ decide ((hd0 n ns []).called=y)=true:=fun c=>e (of_decide_eq_true c).symm
    rw [List.find?_cons_of_neg (p:=fun x:Hd×Bool=>decide (x.1.called=y)) e2]
    rfl
 have hne:∀y∈r.known,y≠n:=fun y hy e=>hn (e ▸ hy)
 have old:∀ {y},(y∈((r.hs ++ [(hd0 n ns [],true)]).map fun x=>x.1.called))→y≠n→y∈r.names:=fun {y} hy ne=>((en y).mp hy).resolve_right ne
 have no:∀b,(hd0 n ns []).acc b=none:=fun b=>rfl
 have e0:=fun y (ne:y≠n)=>(eh y).trans (if_neg ne)
 have e1:=(eh n).trans (if_pos rfl)
 refine⟨fun l hl=>⟨List.mem_append_left _ (s.k1 l hl).1,List.mem_append_left _ (s.k1 l hl).2⟩,fun y hy=> ?_,fun a pa=> ?_,fun l hl p=> ?_,fun l hl p hm=> ?_,fun l hl x e p=> ?_,fun l hl x e p hm=> ?_,fun a b' A x pa pb ha hx=> ?_,fun l hl A p ha p2 f1 f2=> ?_,fun b' a B p hb=> ?_,fun a b' A p ha=> ?_⟩
 ·rcases(en y).mp hy with h | rfl
  ·exact List.mem_append_left _ (b.nk y h)
  ·exact List.mem_append_right _ List.mem_cons_self
 ·by_cases e:a=n
  ·subst e;rw [e1];exact hl
  ·rw [e0 a e];exact s.own a (old pa e)
 ·have ne:=hne _ (s.k1 l hl).1
  rw [e0 _ ne];exact s.le l hl (old p ne)
 ·have ne:=hne _ (s.k1 l hl).1
  rw [e0 _ ne] at hm ⊢;exact s.lt l hl (old p ne) hm
 ·have ne:=hne _ (s.k1 l hl).2
  rw [e0 _ ne];exact s.xle l hl x e (old p ne)
 ·have ne:=hne _ (s.k1 l hl).2
  rw [e0 _ ne] at hm ⊢;exact s.xlt l hl x e (old p ne) hm
 ·by_cases e:a=n
  ·subst e;rw [e1,no] at ha;cases ha
  ·rw [e0 a e] at ha
   have oa:=old pa e
   have nb:b'≠n:=fun c=>by
    have:=(b.tie' oa (acc_iff.mpr ⟨A,ha⟩)).1
    rw [c] at this
    exact nn this
   rw [e0 b' nb];exact s.seen a b' A x oa (old pb nb) ha hx
 ·have ne:=hne _ (s.k1 l hl).1
  have ne2:=hne _ (s.k1 l hl).2
  rw [e0 _ ne] at ha f1
  rw [e0 _ ne2] at f2 ⊢
  exact s.mat l hl A (old p ne) ha (old p2 ne2) f1 f2
 ·by_cases e:b'=n
  ·subst e;rw [e1,no] at hb;cases hb
  ·rw [e0 b' e] at hb ⊢;exact s.tk b' a B (old p e) hb
 ·by_cases e:a=n
  ·subst e;rw [e1,no] at ha;cases ha
  ·rw [e0 a e] at ha;exact s.gf a b' A (old p e) ha
theorem Sane.cuts {P:Str→Prop} {hd:Str→Hd} {post:List Lt} {kn:List Str} {sz:Nat} (s:Sane P hd post kn sz) (n:Str):∀zs:List Str,zs.Nodup→(∀z∈zs,P z∧n∈(hd z).eras.map (·.1))→Sane P (fun y=>if y∈zs then(hd y).cut n else hd y) post kn sz
 | [],_,_=>s.congr fun y _=>if_neg (by simp)
 | z :: zs,nd,h=>by
  have ih:=Sane.cuts s n zs (List.nodup_cons.mp nd).2 fun y hy=>h y (List.mem_cons_of_mem _ hy)
  have hz:=(List.nodup_cons.mp nd).1
  obtain⟨h1,h2⟩:=h z List.mem_cons_self
  have e:(if z∈zs then(hd z).cut n else hd z)=hd z:=if_neg hz
  have:=ih.cut1 (n:=z) (z:=n) h1 (by rw [e];exact h2)
  rw [e] at this
  refine this.congr fun y _=> ?_
  by_cases c:y=z
  ·subst c
   rw [upH_same];exact if_pos List.mem_cons_self
  ·rw [upH_ne c]
   by_cases d:y∈zs
   ·rw [if_pos d,if_pos (List.mem_cons_of_mem _ d)]
   ·rw [if_neg d,if_neg fun m=>(List.mem_cons.mp m).elim c d]
theorem SaneR.leave (b:RB U c r) (s:SaneR r) {n:Str} :SaneR (r.done (.leave n)).2:=by
 show SaneR (match r.get n with | some x=>(Wh.none,({ r with hs:=(r.hs.filter fun y:Hd×Bool=>decide (y.1.called≠n)).map (gL n x.1.names) } :Rn)) | none=>(.none,r)).2
 cases h:r.get n with
 | none=>exact s
 | some x=>
  have hn:=rget_names h
  have ex:=hd_of h
  have hb:=b.hbn hn
  have en:(⟨r.size,(r.hs.filter fun y:Hd×Bool=>decide (y.1.called≠n)).map (gL n x.1.names),r.known,r.post,r.rows⟩:Rn).names=r.names.filter fun y=>decide (y≠n):=by
   show((r.hs.filter fun y:Hd×Bool=>decide (y.1.called≠n)).map (gL n x.1.names)).map (fun x=>x.1.called)=(r.hs.map fun x=>x.1.called).filter _
   rw [List.map_map,List.filter_map]
   exact List.map_congr_left fun y _=>gL_called n _ y
  have gt:∀a,a≠n→(⟨r.size,(r.hs.filter fun y:Hd×Bool=>decide (y.1.called≠n)).map (gL n x.1.names),r.known,r.post,r.rows⟩:Rn).get a=(r.get a).map (gL n x.1.names):=fun a ha=>by
   rw [rget_map (r:=⟨r.size,r.hs.filter fun y:Hd×Bool=>decide (y.1.called≠n),r.known,r.post,r.rows⟩) (gL_called n x.1.names) rfl]
   congr 1
   exact find_filt ha
  show Sane (· ∈(⟨r.size,(r.hs.filter fun y:Hd×Bool=>decide (y.1.called≠n)).map (gL n x.1.names),r.known,r.post,r.rows⟩:Rn).names) _ r.post r.known r.size
  rw [en]
  have s1:=Sane.cuts s n x.1.names (by rw [← ex];exact hb.1.nd) fun z hz=>by
   rw [← ex] at hz
   obtain⟨h1,h2,h3⟩:=b.tie' hn hz
   exact⟨h1,(b.hbn h1).1.era n h3⟩
  refine(s1.mono (P':=(· ∈r.names.filter fun y=>decide (y≠n))) fun y hy=>(mem_ne.mp hy).1).congr fun y hy=> ?_
  obtain⟨h1,h2⟩:=mem_ne.mp hy
  obtain⟨w,hw,e,hx,hc⟩:=hd_at b.nd h1
  rw [hd_of (x:=gL n x.1.names w) (by rw [gt y h2,hw];rfl),e]
  show(if w.1.called∈x.1.names then(w.1.cut n,w.2) else w).1=_
  rw [hc]
  split <;> rfl
theorem SaneR.done (b:RB U c r) (s:SaneR r) {x:Dd} (hx:r.can x=true):SaneR (r.done x).2:=by
 cases x with
 | turn n=>exact s.turn b
 | come k=>
  show SaneR (match r.post[k]? with | some l=>(Wh.word (r.come l).1,(r.come l).2) | none=>(.none,r)).2
  cases h:r.post[k]? with
  | none=>exact s
  | some l=>exact s.come b (List.mem_of_getElem? h)
 | fall n=>exact s.setUp n false
 | back n=>exact s.setUp n true
 | fresh n=>exact s.fresh b (of_decide_eq_true hx)
 | leave n=>exact s.leave b
 | set n ns=>
  have h:(decide (n∈r.names) && decide (ns.length=r.size))=true:=hx
  rw [Bool.and_eq_true] at h
  exact s.set b (of_decide_eq_true h.1) (of_decide_eq_true h.2)
 | join n ns=>
  have h:(!decide (n∈r.known) && decide (r.hs.length < 8) && decide (ns.length=r.size))=true:=hx
  rw [Bool.and_eq_true,Bool.and_eq_true] at h
  refine s.join b (fun m=> ?_) (of_decide_eq_true h.2)
  rw [decide_eq_true m] at h
  exact Bool.noConfusion h.1.1
 | tie n o=>
  have h:(decide (n∈r.names) && decide (o∈r.names) && !decide (o=n) && !r.tied n o)=true:=hx
  rw [Bool.and_eq_true,Bool.and_eq_true,Bool.and_eq_true] at h
  refine s.tie b (of_decide_eq_true h.1.1.1) (of_decide_eq_true h.1.1.2) (fun e=> ?_) (fun e=> ?_)
  ·rw [decide_eq_true e.symm] at h;exact Bool.noConfusion h.1.2
  ·rw [e] at h;exact Bool.noConfusion h.2
 | cut n o=>
  have h:(decide (n∈r.names) && decide (o∈r.names) && !decide (o=n) && r.tied n o)=true:=hx
  rw [Bool.and_eq_true,Bool.and_eq_true,Bool.and_eq_true] at h
  refine s.cut b (fun e=> ?_) h.2
  rw [decide_eq_true e.symm] at h;exact Bool.noConfusion h.1.2
theorem SaneR.step (b:RB U c r) (s:SaneR r) {x:Dd} (hx:r.can x=true):SaneR (r.step x):=s.done b hx
end
/-- the same hands, ties and stamps; all who were up are up -/
structure Same (r r':Rn):Prop where
 names:r'.names=r.names
 nm:∀n∈r.names,∀z,z∈(r'.hd n).names↔z∈(r.hd n).names
 st:∀n z,(r'.hd n).stamp z=(r.hd n).stamp z
 up:∀n,r'.isUp n=r.isUp n
 post:∃ls,r'.post=r.post ++ ls
theorem Same.refl (r:Rn):Same r r:=⟨rfl,fun _ _ _=>Iff.rfl,fun _ _=>rfl,fun _=>rfl,[],(List.append_nil _).symm⟩
theorem Same.trans {r r' r'':Rn} (a:Same r r') (b:Same r' r''):Same r r'':=by
 obtain⟨l1,e1⟩:=a.post
 obtain⟨l2,e2⟩:=b.post
 exact⟨b.names.trans a.names,fun n hn z=>(b.nm n (a.names ▸ hn) z).trans (a.nm n hn z),fun n z=>(b.st n z).trans (a.st n z),fun n=>(b.up n).trans (a.up n),l1 ++ l2,by rw [e2,e1,List.append_assoc]⟩
theorem Same.mem {r r':Rn} (a:Same r r') {l:Lt} (h:l∈r.post):l∈r'.post:=by
 obtain⟨ls,e⟩:=a.post
 rw [e];exact List.mem_append_left _ h
theorem Same.at {r r':Rn} (a:Same r r') {k:Nat} {l:Lt} (h:r.post[k]? =some l):r'.post[k]? =some l:=by
 obtain⟨ls,e⟩:=a.post
 rw [e,List.getElem?_append_left (List.getElem?_eq_some_iff.mp h).1]
 exact h
theorem upd_up (r:Rn) (z:Str) {f:Hd→Hd} (hf:∀h,(f h).called=h.called) (n:Str):(r.upd z f).isUp n=r.isUp n:=by
 have e:(r.upd z f).get n=(r.get n).map (gU z f):=rget_map (gU_called hf) rfl n
 unfold Rn.isUp
 rw [e]
 cases r.get n with
 | none=>rfl
 | some x=>
  show(if x.1.called=z then(f x.1,x.2) else x).2=x.2
  split <;> rfl
section
variable {U:List Str} {c:Nat} {r:Rn}
theorem turn_is (b:RB U c r) {n:Str} (hn:n∈r.names):(r.step (.turn n)).hd=upH r.hd n (r.hd n).turned∧(r.step (.turn n)).post=r.post ++ (r.hd n).letters∧(r.done (.turn n)).1= .letters (r.hd n).letters∧(r.step (.turn n)).names=r.names∧ ∀y,(r.step (.turn n)).isUp y=r.isUp y:=by
 obtain⟨x,hx,e,_,_⟩:=hd_at b.nd hn
 have k:r.done (.turn n)=(.letters x.1.letters,{ (r.upd n Hd.turned) with post:=r.post ++ x.1.letters }):=by
  show(match r.get n with | some x=>(Wh.letters x.1.letters,({ (r.upd n Hd.turned) with post:=r.post ++ x.1.letters } :Rn)) | none=>(.none,r))=_
  rw [hx]
 have e1:(r.step (.turn n)).hd=(r.upd n Hd.turned).hd:=by
  unfold Rn.step
  rw [k];rfl
 refine⟨by rw [e1];exact upd_hd b.nd hn (fun _=>rfl),by unfold Rn.step;rw [k,e],by rw [k,e],?_,fun y=> ?_⟩
 ·have:(r.step (.turn n)).names=(r.upd n Hd.turned).names:=by unfold Rn.step;rw [k];rfl
  rw [this];exact upd_names r n fun _=>rfl
 ·have:(r.step (.turn n)).isUp y=(r.upd n Hd.turned).isUp y:=by unfold Rn.step;rw [k];rfl
  rw [this];exact upd_up r n (f:=Hd.turned) (fun _=>rfl) y
theorem Same.turn (b:RB U c r) {n:Str} (hn:n∈r.names):Same r (r.step (.turn n)):=by
 obtain⟨h1,h2,_,h4,h5⟩:=turn_is b hn
 refine⟨h4,fun a _ z=> ?_,fun a z=> ?_,h5,_,h2⟩
 ·rw [h1]
  by_cases e:a=n
  ·rw [e,upH_same,turned_names]
  ·rw [upH_ne e]
 ·rw [h1]
  by_cases e:a=n
  ·rw [e,upH_same];rfl
  ·rw [upH_ne e]
/-- what a letter that comes does to a run -/
theorem come_is (b:RB U c r) {k:Nat} {l:Lt} (hk:r.post[k]? =some l):((r.step (.come k)).hd=r.hd∧¬ (l.other∈r.names∧r.isUp l.other=true∧l.one∈(r.hd l.other).names)∨(l.other∈r.names∧l.one∈(r.hd l.other).names∧(r.step (.come k)).hd=upH r.hd l.other ((r.hd l.other).take l).2))∧(r.step (.come k)).post=r.post∧(r.step (.come k)).names=r.names∧ ∀y,(r.step (.come k)).isUp y=r.isUp y:=by
 have k0:(r.done (.come k)).2=(r.come l).2:=by
  show(match r.post[k]? with | some l=>(Wh.word (r.come l).1,(r.come l).2) | none=>(.none,r)).2=_
  rw [hk]
 have k1:(r.step (.come k)).hd=(r.come l).2.hd∧(r.step (.come k)).post=(r.come l).2.post∧(r.step (.come k)).names=(r.come l).2.names∧ ∀y,(r.step (.come k)).isUp y=(r.come l).2.isUp y:=by
  unfold Rn.step
  rw [k0]
  exact⟨rfl,rfl,rfl,fun _=>rfl⟩
 rw [k1.1,k1.2.1,k1.2.2.1]
 have k2:=k1.2.2.2
 suffices h:(((r.come l).2.hd=r.hd∧¬ (l.other∈r.names∧r.isUp l.other=true∧l.one∈(r.hd l.other).names))∨(l.other∈r.names∧l.one∈(r.hd l.other).names∧(r.come l).2.hd=upH r.hd l.other ((r.hd l.other).take l).2))∧(r.come l).2.post=r.post∧(r.come l).2.names=r.names∧ ∀y,(r.come l).2.isUp y=r.isUp y from⟨h.1,h.2.1,h.2.2.1,fun y=>(k2 y).trans (h.2.2.2 y)⟩
 unfold Rn.come
 cases h:r.get l.other with
 | none=>exact⟨.inl ⟨rfl,fun c=>by
   obtain⟨x,hx⟩:=rget_mem b.nd c.1
   rw [h] at hx;cases hx⟩,rfl,rfl,fun _=>rfl⟩
 | some x=>
  have hn:=rget_names h
  have eu:r.isUp l.other=x.2:=by unfold Rn.isUp;rw [h];rfl
  dsimp only
  split
  ·next hh=>
   have ho:l.one∈(r.hd l.other).names:=by rw [hd_of h];exact hh.2
   exact⟨.inr ⟨hn,ho,upd_hd b.nd hn (f:=fun h=>(h.take l).2) (take_called · l)⟩,rfl,upd_names r _ (f:=fun h=>(h.take l).2) (take_called · l),upd_up r _ (f:=fun h=>(h.take l).2) (take_called · l)⟩
  ·next hh=>
   exact⟨.inl ⟨rfl,fun c=>hh ⟨by rw [← eu];exact c.2.1,by rw [← hd_of h];exact c.2.2⟩⟩,rfl,rfl,fun _=>rfl⟩
theorem Same.come (b:RB U c r) {k:Nat} (hk:k < r.post.length):Same r (r.step (.come k)):=by
 obtain⟨h1,h2,h3,h4⟩:=come_is b (List.getElem?_eq_getElem hk)
 rcases h1 with⟨e,_⟩ | ⟨_,_,e⟩
 ·exact⟨h3,fun n _ z=>by rw [e],fun n z=>by rw [e],h4,[],by rw [h2,List.append_nil]⟩
 ·refine⟨h3,fun n hn z=> ?_,fun n z=> ?_,h4,[],by rw [h2,List.append_nil]⟩
  ·rw [e]
   by_cases c:n=(r.post[k]).other
   ·rw [c,upH_same,((b.hbn (c ▸ hn)).1.take (b.post _ (List.getElem_mem hk))).2]
   ·rw [upH_ne c]
  ·rw [e]
   by_cases c:n=(r.post[k]).other
   ·rw [c,upH_same];exact take_rest _ _ z
   ·rw [upH_ne c]
/-- the letter of the one's last turn to the other -/
def Gone (r:Rn) (a b:Str) (l:Lt):Prop:=l∈r.post∧l.one=a∧l.other=b∧l.stamp=(r.hd a).stamp b∧ ∀A,(r.hd a).acc b=some A→A.gifts=0∨A.seen≠some ((r.hd b).stamp a)∨(l.seen=some ((r.hd b).stamp a)∧l.gifts=A.gifts)
/-- .. has come -/
def Came (r:Rn) (a b:Str) (l:Lt):Prop:= ∃B,(r.hd b).acc a=some B∧B.seen=some ((r.hd a).stamp b)∧(l.seen=some ((r.hd b).stamp a)→l.gifts≤B.takes)
theorem Gone.turn (rb:RB U c r) {n a b:Str} {l:Lt} (hn:n∈r.names) (ne:a≠n) (g:Gone r a b l):Gone (r.step (.turn n)) a b l:=by
 have s:=Same.turn rb hn
 obtain⟨h1,_⟩:=turn_is rb hn
 refine⟨s.mem g.1,g.2.1,g.2.2.1,by rw [s.st];exact g.2.2.2.1,fun A hA=> ?_⟩
 rw [h1,upH_ne ne] at hA
 rw [s.st]
 exact g.2.2.2.2 A hA
theorem Gone.come (rb:RB U c r) (sn:SaneR r) {k:Nat} {a b:Str} {l:Lt} (hk:k < r.post.length) (g:Gone r a b l):Gone (r.step (.come k)) a b l:=by
 have s:=Same.come rb hk
 refine⟨s.mem g.1,g.2.1,g.2.2.1,by rw [s.st];exact g.2.2.2.1,fun A hA=> ?_⟩
 rw [s.st]
 obtain⟨h1,_⟩:=come_is rb (List.getElem?_eq_getElem hk)
 rcases h1 with⟨e,_⟩ | ⟨hn,ho,e⟩
 ·rw [e] at hA;exact g.2.2.2.2 A hA
 ·rw [e] at hA
  by_cases ca:a=(r.post[k]).other
  ·rw [ca,upH_same] at hA
   obtain⟨A0,hA0⟩:=acc_some ho
   rcases take_is (r.hd (r.post[k]).other) (r.post[k]) hA0 ((rb.hbn hn).1.acc _ (acc_mem hA0)).1 with⟨_,e2⟩ | ⟨A1,A',ac,_,_,c1,c2,c3,c5,c4⟩
   ·rw [e2] at hA
    rw [← ca] at hA
    exact g.2.2.2.2 A hA
   ·rw [ac] at hA
    split at hA
    ·next eb=>
     have hA:=Option.some.inj hA
     rw [← hA]
     have ee:A'.seen=A1.seen∧A'.gifts=A1.gifts:=by
      rcases c4 with⟨_,_,rfl⟩ | ⟨_,rfl⟩ <;> exact⟨rfl,rfl⟩
     rcases c1 with h | h
     ·left;rw [ee.2,h];rfl
     ·rw [ee.1,ee.2,h]
      exact g.2.2.2.2 A0 (by rw [ca,eb];exact hA0)
    ·rw [← ca] at hA
     exact g.2.2.2.2 A hA
  ·rw [upH_ne ca] at hA
   exact g.2.2.2.2 A hA
theorem giveTo_rest (h:Hd) (A:Acc):(giveTo h A).seen=A.seen∧(giveTo h A).takes=A.takes∧(giveTo h A).taken=A.taken:=by
 unfold giveTo
 split <;> exact⟨rfl,rfl,rfl⟩
theorem Came.turn (rb:RB U c r) {n a b:Str} {l:Lt} (hn:n∈r.names) (g:Came r a b l):Came (r.step (.turn n)) a b l:=by
 have s:=Same.turn rb hn
 obtain⟨h1,_⟩:=turn_is rb hn
 obtain⟨B,hB,hs,ht⟩:=g
 by_cases e:b=n
 ·refine⟨giveTo (r.hd n) B,?_,?_,?_⟩
  ·rw [h1,e,upH_same,gave_acc _ (rb.hbn hn).1.nd,← e,hB];rfl
  ·rw [s.st,(giveTo_rest _ _).1];exact hs
  ·rw [s.st,(giveTo_rest _ _).2.1];exact ht
 ·exact⟨B,by rw [h1,upH_ne e];exact hB,by rw [s.st];exact hs,by rw [s.st];exact ht⟩
theorem Came.come (rb:RB U c r) (sn:SaneR r) {k:Nat} {a b:Str} {l:Lt} (hk:k < r.post.length) (ha:a∈r.names) (g:Came r a b l):Came (r.step (.come k)) a b l:=by
 have s:=Same.come rb hk
 obtain⟨B,hB,hs,ht⟩:=g
 obtain⟨h1,_⟩:=come_is rb (List.getElem?_eq_getElem hk)
 rcases h1 with⟨e,_⟩ | ⟨hn,ho,e⟩
 ·exact⟨B,by rw [e];exact hB,by rw [s.st];exact hs,by rw [s.st];exact ht⟩
 ·have stay:(r.step (.come k)).hd b=r.hd b→Came (r.step (.come k)) a b l:=fun e=>⟨B,by rw [e];exact hB,by rw [s.st];exact hs,by rw [s.st];exact ht⟩
  by_cases cb:b=(r.post[k]).other
  ·obtain⟨A0,hA0⟩:=acc_some ho
   have eh:(r.step (.come k)).hd b=((r.hd (r.post[k]).other).take (r.post[k])).2:=by rw [e,cb,upH_same]
   rcases take_is (r.hd (r.post[k]).other) (r.post[k]) hA0 ((rb.hbn hn).1.acc _ (acc_mem hA0)).1 with⟨_,e2⟩ | ⟨A1,A',ac,_,_,c1,c2,c3,c5,c4⟩
   ·exact stay (by rw [eh,e2,cb])
   ·by_cases ea:a=(r.post[k]).one
    ·rw [cb,ea,hA0] at hB
     have hB:=Option.some.inj hB
     rw [← hB] at hs ht
     have le:=sn.le _ (List.getElem_mem hk) (ea ▸ ha)
     rw [← ea,← cb] at le
     have eq:(r.post[k]).stamp=(r.hd a).stamp b:=le.anti (c5 _ hs)
     have e1:A1=A0:=c3 (by rw [eq];exact hs)
     refine⟨A',by rw [eh,ac,if_pos ea],?_,fun hl=> ?_⟩
     ·rw [s.st]
      rcases c4 with⟨_,_,rfl⟩ | ⟨_,rfl⟩
      ·show A1.seen=_;rw [e1];exact hs
      ·rw [e1];exact hs
     ·rw [s.st] at hl
      have:=ht hl
      rcases c4 with⟨_,lt,rfl⟩ | ⟨_,rfl⟩
      ·rw [e1] at lt
       show l.gifts≤(r.post[k]).gifts
       omega
      ·rw [e1];exact this
    ·exact⟨B,by rw [eh,ac,if_neg ea,← cb];exact hB,by rw [s.st];exact hs,by rw [s.st];exact ht⟩
  ·exact stay (by rw [e,upH_ne cb])
/-- the letters of a turn -/
theorem Gone.mk (rb:RB U c r) {n b:Str} (hn:n∈r.names) (hb:b∈(r.hd n).names):∃i l,i < (r.hd n).letters.length∧(r.step (.turn n)).post[r.post.length+i]? =some l∧Gone (r.step (.turn n)) n b l:=by
 have s:=Same.turn rb hn
 obtain⟨h1,h2,_⟩:=turn_is rb hn
 have hb2:b∈srtS (r.hd n).names:=(srtS_perm _).mem_iff.mpr hb
 obtain⟨i,hi⟩:=List.getElem?_of_mem hb2
 have hl:(r.hd n).letters[i]? =some ((r.hd n).turned.letter b):=by
  unfold Hd.letters
  rw [List.getElem?_map,hi];rfl
 have il:=(List.getElem?_eq_some_iff.mp hl).1
 have hp:(r.step (.turn n)).post[r.post.length+i]? =some ((r.hd n).turned.letter b):=by
  rw [h2,List.getElem?_append_right (by omega),Nat.add_sub_cancel_left]
  exact hl
 have hb':b∈(r.hd n).turned.names:=by rw [turned_names];exact hb
 obtain⟨A,hA⟩:=acc_some hb'
 have el:(r.hd n).turned.letter b=⟨(r.hd n).called,b,(r.hd n).turned.stamp b,A.seen,A.gifts,A.given,(r.hd n).turned.heard⟩:=by
  unfold Hd.letter
  rw [hA];rfl
 refine⟨i,_,il,hp,List.mem_of_getElem? hp,?_,?_,?_,fun A2 h2=> ?_⟩
 ·rw [el];exact(rb.hbn hn).2
 ·rw [el]
 ·rw [el,s.st];rfl
 ·rw [h1,upH_same,hA] at h2
  cases h2
  rw [el]
  by_cases e:A.seen=some (((r.step (.turn n)).hd b).stamp n)
  ·exact .inr (.inr ⟨e,rfl⟩)
  ·exact .inr (.inl e)
/-- .. that come -/
theorem Came.mk (rb:RB U c r) (sn:SaneR r) {k:Nat} {a b:Str} {l:Lt} (hk:r.post[k]? =some l) (ha:a∈r.names) (hb:b∈(r.hd a).names) (up:r.isUp b=true) (g:Gone r a b l):Came (r.step (.come k)) a b l:=by
 have hk':=(List.getElem?_eq_some_iff.mp hk).1
 have s:=Same.come rb hk'
 obtain⟨t1,t2,t3⟩:=rb.tie' ha hb
 obtain⟨h1,_⟩:=come_is rb hk
 obtain⟨g0,g1,g2,g3,g4⟩:=g
 rcases h1 with⟨e,no⟩ | ⟨hn,ho,e⟩
 ·exact absurd ⟨by rw [g2];exact t1,by rw [g2];exact up,by rw [g1,g2];exact t3⟩ no
 ·obtain⟨A0,hA0⟩:=acc_some ho
  rw [g2] at e
  have eh:(r.step (.come k)).hd b=((r.hd b).take l).2:=by rw [e,upH_same]
  rw [g1,g2] at hA0
  have hA1:(r.hd b).acc l.one=some A0:=by rw [g1];exact hA0
  rcases take_is (r.hd b) l hA1 ((rb.hbn t1).1.acc _ (acc_mem hA0)).1 with⟨⟨x,hx,lt⟩,_⟩ | ⟨A1,A',ac,_,_,c1,c2,c3,c5,c4⟩
  ·have:=sn.seen b a A0 x t1 ha hA0 hx
   rw [g3] at lt
   exact absurd lt this.not
  ·refine⟨A',by rw [eh,ac,if_pos g1.symm],?_,fun hl=> ?_⟩
   ·rw [s.st,← g3]
    rcases c4 with⟨_,_,rfl⟩ | ⟨_,rfl⟩ <;> exact c2
   ·rw [s.st] at hl
    rcases c4 with⟨_,_,rfl⟩ | ⟨no,rfl⟩
    ·exact Int.le_refl _
    ·exact Classical.byContradiction fun h=>no ⟨by rw [g1];exact hl,by omega⟩
/-- all is told -/
def Heal (r:Rn):Prop:= ∀a∈r.names,∀b∈(r.hd a).names,∃l,Gone r a b l∧Came r a b l
theorem Heal.come (rb:RB U c r) (sn:SaneR r) {k:Nat} (hk:k < r.post.length) (h:Heal r):Heal (r.step (.come k)):=fun a ha b hb=>by
 have s:=Same.come rb hk
 rw [s.names] at ha
 rw [s.nm a ha] at hb
 obtain⟨l,g,d⟩:=h a ha b hb
 exact⟨l,g.come rb sn hk,d.come rb sn hk ha⟩
theorem Heal.is (rb:RB U c r) (sn:SaneR r) (h:Heal r) {a b:Str} (ha:a∈r.names) (hb:b∈(r.hd a).names):∃A B,(r.hd a).acc b=some A∧(r.hd b).acc a=some B∧A.seen=some ((r.hd b).stamp a)∧B.seen=some ((r.hd a).stamp b)∧B.taken=A.given:=by
 obtain⟨t1,t2,t3⟩:=rb.tie' ha hb
 obtain⟨l,⟨g0,g1,g2,g3,g4⟩,⟨B,hB,hs,ht⟩⟩:=h a ha b hb
 obtain⟨l',_,⟨A,hA,hs',_⟩⟩:=h b t1 a t3
 refine⟨A,B,hA,hB,hs',hs,?_⟩
 obtain⟨f1,f2⟩:=sn.gf a b A ha hA
 have g5:A.gifts=0∨(l.seen=some ((r.hd b).stamp a)∧l.gifts=A.gifts):=by
  rcases g4 A hA with h | h | h
  ·exact .inl h
  ·exact absurd hs' h
  ·exact .inr h
 rcases sn.tk b a B t1 hB with⟨k1,k2⟩ | ⟨x,k1,m,km,m1,m2,m3,m4,m5,m6,m7⟩
 ·rw [k2]
  rcases g5 with h | ⟨h1,h2⟩
  ·exact(f2 h).symm
  ·have:=ht h1
   exact(f2 (by omega)).symm
 ·rw [hs] at k1
  cases k1
  have mt:=sn.mat m km A (by rw [m1];exact ha) (by rw [m1,m2];exact hA) (by rw [m2];exact t1) (by rw [m3,m1,m2]) (by rw [m4,m1,m2])
  rcases g5 with h | ⟨h1,h2⟩
  ·have:=mt.2.1
   omega
  ·have:=ht h1
   have:=mt.2.1
   rw [← m6]
   exact mt.2.2 (by omega)
end
def wv (N:Nat) (p:Pt):Int:=p.1*2^(N - p.2)
def Cn (p:Pt):Prop:=p.2=0∨p.1 % 2=1
theorem powCut {a b c:Nat} (h1:a≤b) (h2:b≤c):(2:Int)^(c - a)=2^(b - a)*2^(c - b):=by
 rw [← Int.pow_add]
 congr 1
 omega
theorem pow_pos2 (n:Nat):(2:Int)^n≠0:=Int.ne_of_gt (Int.pow_pos (by decide))
theorem wv_prt {N e:Nat} {n:Int} (h:e≤N):wv N (Mth.prt n e)=n*2^(N - e)∧Cn (Mth.prt n e)∧(Mth.prt n e).2≤N:=by
 have l:=(Mth.prt_le e n).2
 refine⟨?_,Mth.prt_norm e n,Nat.le_trans l h⟩
 unfold wv
 rw [powCut l h,← Int.mul_assoc]
 congr 1
 have w:=Mth.prt_worth e n
 have s:(2:Int)^e=2^(e - (Mth.prt n e).2)*2^(Mth.prt n e).2:=by
  rw [← Int.pow_add]
  congr 1
  omega
 rw [s,← Int.mul_assoc] at w
 exact Int.eq_of_mul_eq_mul_right (pow_pos2 _) w
theorem cn_eq {N:Nat} {x y:Pt} (cx:Cn x) (cy:Cn y) (hx:x.2≤N) (hy:y.2≤N) (h:wv N x=wv N y):x=y:=by
 have k:∀ {z:Pt},Cn z→z.2≤N→z=Mth.prt (wv N z) N:=fun {z} cz hz=>by
  have h1:=Mth.prt_pow z.1 z.2 (N - z.2)
  rw [show z.2+(N - z.2)=N by omega] at h1
  unfold wv
  rw [h1,Mth.prt_self cz]
 rw [k cx hx,k cy hy,h]
theorem wv_plus {N:Nat} {x y:Pt} (hx:x.2≤N) (hy:y.2≤N):wv N (pplus x y)=wv N x+wv N y∧Cn (pplus x y)∧(pplus x y).2≤N:=by
 obtain⟨a,m⟩:=x
 obtain⟨b,n⟩:=y
 have hm:m≤N:=hx
 have hn:n≤N:=hy
 have l1:m≤max m n:=Nat.le_max_left _ _
 have l2:n≤max m n:=Nat.le_max_right _ _
 have l3:max m n≤N:=Nat.max_le.mpr ⟨hm,hn⟩
 rw [pplus_max a b m n _ rfl]
 obtain⟨h1,h2,h3⟩:=wv_prt (n:=a*2^(max m n - m)+b*2^(max m n - n)) l3
 refine⟨?_,h2,h3⟩
 rw [h1,Int.add_mul,Int.mul_assoc,Int.mul_assoc,← powCut l1 l3,← powCut l2 l3]
 rfl
theorem pless_is (x y:Pt):pless x y=pplus x (-y.1,y.2):=by
 unfold pless pplus
 dsimp only
 rw [Int.neg_mul,← Int.sub_eq_add_neg]
theorem wv_less {N:Nat} {x y:Pt} (hx:x.2≤N) (hy:y.2≤N):wv N (pless x y)=wv N x - wv N y∧Cn (pless x y)∧(pless x y).2≤N:=by
 rw [pless_is]
 obtain⟨h1,h2⟩:=wv_plus (N:=N) (x:=x) (y:=(-y.1,y.2)) hx hy
 refine⟨?_,h2⟩
 rw [h1,Int.sub_eq_add_neg]
 congr 1
 exact Int.neg_mul _ _
/-- rows of some size whose parts are within a bound -/
def RE (N n:Nat) (r:Rw):Prop:=r.length=n+1∧ ∀x∈r,x.2≤N
def RCn (r:Rw):Prop:= ∀x∈r,Cn x
def cv (N:Nat) (r:Rw) (i:Nat):Int:=wv N (r.getD i (0,0))
theorem cv0 (N:Nat):wv N (0,0)=0:=Int.zero_mul _
theorem zip_at {f:Pt→Pt→Pt} {xs ys:Rw} {n i:Nat} (hx:xs.length=n+1) (hy:ys.length=n+1) (h:i < n+1):∃x y,xs[i]? =some x∧ys[i]? =some y∧(List.zipWith f xs ys)[i]? =some (f x y):=by
 have e1:=List.getElem?_eq_getElem (l:=xs) (i:=i) (by omega)
 have e2:=List.getElem?_eq_getElem (l:=ys) (i:=i) (by omega)
 exact⟨_,_,e1,e2,by rw [List.getElem?_zipWith,e1,e2]⟩
theorem RE.zip {N n:Nat} {xs ys:Rw} (hx:RE N n xs) (hy:RE N n ys) {f:Pt→Pt→Pt} {g:Int→Int→Int} (hg:g 0 0=0) (hf:∀x y:Pt,x.2≤N→y.2≤N→wv N (f x y)=g (wv N x) (wv N y)∧Cn (f x y)∧(f x y).2≤N):RE N n (List.zipWith f xs ys)∧RCn (List.zipWith f xs ys)∧ ∀i,cv N (List.zipWith f xs ys) i=g (cv N xs i) (cv N ys i):=by
 have len:(List.zipWith f xs ys).length=n+1:=by rw [List.length_zipWith,hx.1,hy.1];omega
 have at':∀z∈List.zipWith f xs ys,∃x∈xs,∃y∈ys,z=f x y:=fun z hz=>by
  obtain⟨i,hi⟩:=List.getElem?_of_mem hz
  have il:=(List.getElem?_eq_some_iff.mp hi).1
  obtain⟨x,y,h1,h2,h3⟩:=zip_at (f:=f) hx.1 hy.1 (i:=i) (by omega)
  rw [hi] at h3
  exact⟨x,List.mem_of_getElem? h1,y,List.mem_of_getElem? h2,Option.some.inj h3⟩
 refine⟨⟨len,fun z hz=> ?_⟩,fun z hz=> ?_,fun i=> ?_⟩
 ·obtain⟨x,mx,y,my,rfl⟩:=at' z hz
  exact(hf x y (hx.2 x mx) (hy.2 y my)).2.2
 ·obtain⟨x,mx,y,my,rfl⟩:=at' z hz
  exact(hf x y (hx.2 x mx) (hy.2 y my)).2.1
 ·unfold cv
  rw [List.getD_eq_getElem?_getD,List.getD_eq_getElem?_getD,List.getD_eq_getElem?_getD]
  by_cases h:i < n+1
  ·obtain⟨x,y,h1,h2,h3⟩:=zip_at (f:=f) hx.1 hy.1 h
   rw [h1,h2,h3]
   exact(hf x y (hx.2 x (List.mem_of_getElem? h1)) (hy.2 y (List.mem_of_getElem? h2))).1
  ·rw [List.getElem?_eq_none (by omega),List.getElem?_eq_none (by rw [hx.1];omega),List.getElem?_eq_none (by rw [hy.1];omega)]
   show wv N (0,0)=g (wv N (0,0)) (wv N (0,0))
   rw [cv0,hg]
theorem RE.plus {N n:Nat} {xs ys:Rw} (hx:RE N n xs) (hy:RE N n ys):RE N n (rplus xs ys)∧RCn (rplus xs ys)∧ ∀i,cv N (rplus xs ys) i=cv N xs i+cv N ys i:=hx.zip hy (g:=fun a b=>a+b) rfl fun _ _=>wv_plus
theorem RE.less {N n:Nat} {xs ys:Rw} (hx:RE N n xs) (hy:RE N n ys):RE N n (rless xs ys)∧RCn (rless xs ys)∧ ∀i,cv N (rless xs ys) i=cv N xs i - cv N ys i:=hx.zip hy (g:=fun a b=>a - b) rfl fun _ _=>wv_less
theorem RE.ext {N n:Nat} {xs ys:Rw} (hx:RE N n xs) (hy:RE N n ys) (cx:RCn xs) (cy:RCn ys) (h:∀i,cv N xs i=cv N ys i):xs=ys:=by
 refine List.ext_getElem (by rw [hx.1,hy.1]) fun i h1 h2=> ?_
 have:=h i
 unfold cv at this
 rw [List.getD_eq_getElem?_getD,List.getD_eq_getElem?_getD,List.getElem?_eq_getElem h1,List.getElem?_eq_getElem h2] at this
 exact cn_eq (cx _ (List.getElem_mem h1)) (cy _ (List.getElem_mem h2)) (hx.2 _ (List.getElem_mem h1)) (hy.2 _ (List.getElem_mem h2)) this
theorem RE.own (N:Nat) {n:Nat} {ns:List Int} (h:ns.length=n):RE N n (rown ns)∧RCn (rown ns):=by
 have k:∀x∈rown ns,x.2=0:=fun x hx=>by
  rcases List.mem_append.mp hx with h | h
  ·obtain⟨m,_,rfl⟩:=List.mem_map.mp h;rfl
  ·rw [List.mem_singleton.mp h]
 refine⟨⟨?_,fun x hx=>by rw [k x hx];exact Nat.zero_le _⟩,fun x hx=> .inl (k x hx)⟩
 unfold rown
 rw [List.length_append,List.length_map,h]
 rfl
def sm {α:Type} (f:α→Int):List α→Int
 | []=>0
 | a :: l=>f a+sm f l
theorem sm_perm {α:Type} {f:α→Int} {l m:List α} (p:l.Perm m):sm f l=sm f m:=by
 induction p with
 | nil=>rfl
 | cons a _ ih=>unfold sm;rw [ih]
 | swap a b l=>simp only [sm];omega
 | trans _ _ h1 h2=>exact h1.trans h2
structure RG (U:List Str) (c:Nat) (r:Rn):Prop where
 b:RB U c r
 s:SaneR r
 ro:RowsOk r
 po:wrote r=r.post.length
theorem isUp_get {r:Rn} {n:Str} (h:r.isUp n=true):∃x,r.get n=some x∧x.2=true:=by
 unfold Rn.isUp at h
 cases hg:r.get n with
 | none=>rw [hg] at h;cases h
 | some x=>rw [hg] at h;exact⟨x,rfl,h⟩
theorem come_post (r:Rn) (l:Lt):(r.come l).2.post=r.post:=by
 unfold Rn.come
 split
 ·rfl
 ·split <;> rfl
theorem done_turn {r:Rn} {n:Str} {y:Hd×Bool} (hg:r.get n=some y):r.done (.turn n)=(.letters y.1.letters,{ (r.upd n Hd.turned) with post:=r.post ++ y.1.letters }):=by simp only [Rn.done,hg]
theorem done_come {r:Rn} {k:Nat} {l:Lt} (hg:r.post[k]? =some l):r.done (.come k)=(.word (r.come l).1,(r.come l).2):=by simp only [Rn.done,hg]
theorem done_post {r:Rn} {x:Dd} (hx:r.can x=true):(r.done x).2.post.length=r.post.length+(if x.isTurn=true then(r.done x).1.many else 0):=by
 cases x with
 | turn n=>
  unfold Rn.can at hx
  rw [Bool.and_eq_true] at hx
  obtain⟨y,hg,_⟩:=isUp_get hx.2
  rw [done_turn hg]
  exact List.length_append
 | come k=>
  have hk:k < r.post.length:=of_decide_eq_true hx
  rw [done_come (List.getElem?_eq_getElem hk)]
  show(r.come _).2.post.length=_
  rw [come_post];rfl
 | leave n=>
  cases hg:r.get n with
  | none=>simp only [Rn.done,hg];rfl
  | some l=>simp only [Rn.done,hg];rfl
 | _=>rfl
theorem wrote_app (r:Rn) (x:Dd×Wh):wrote { r with rows:=r.rows ++ [x] } =wrote r+(if x.1.isTurn=true then x.2.many else 0):=by
 unfold wrote
 show(((r.rows ++ [x]).filter _).map _).sum=_
 rw [List.filter_append,List.map_append,List.sum_append_nat]
 by_cases h:x.1.isTurn=true
 ·rw [if_pos h,List.filter_cons_of_pos (p:=fun w:Dd×Wh=>w.1.isTurn) h];rfl
 ·rw [if_neg h,List.filter_cons_of_neg (p:=fun w:Dd×Wh=>w.1.isTurn) h];rfl
theorem letters_len {U:List Str} {c:Nat} {r:Rn} (b:RB U c r) {x:Hd×Bool} (hx:x∈r.hs):x.1.letters.length≤8:=by
 unfold Hd.letters
 rw [List.length_map,(srtS_perm _).length_eq]
 unfold Hd.names
 rw [List.length_map]
 exact b.fewA hx
theorem step_rows (r:Rn) (x:Dd):(r.step x).rows=r.rows ++ [(x,(r.done x).1)]:=rfl
theorem step_post (r:Rn) (x:Dd):(r.step x).post=(r.done x).2.post:=rfl
theorem RowsOk.step {U:List Str} {c:Nat} {r:Rn} (b:RB U c r) (h:RowsOk r) {x:Dd} (hx:r.can x=true):RowsOk (r.step x):=by
 intro w hw n hn
 rw [step_rows] at hw
 rcases List.mem_append.mp hw with hw | hw
 ·exact h w hw n hn
 ·rw [List.mem_singleton.mp hw] at hn ⊢
  have hn:x= .turn n:=hn
  subst hn
  unfold Rn.can at hx
  rw [Bool.and_eq_true] at hx
  obtain⟨y,hg,_⟩:=isUp_get hx.2
  refine⟨y.1.letters,?_,letters_len b (rget_some hg).1⟩
  show(r.done (.turn n)).1=_
  rw [done_turn hg]
theorem wrote_rows {r r':Rn} (h:r.rows=r'.rows):wrote r=wrote r':=by unfold wrote;rw [h]
theorem RG.step {U:List Str} {c:Nat} {r:Rn} (g:RG U c r) (hc:c≤20000) {x:Dd} (hx:r.can x=true) (ok:x.okU U):RG U (c+1) (r.step x):=by
 refine⟨g.b.step hc hx ok,g.s.step g.b hx,g.ro.step g.b hx,?_⟩
 rw [step_post,done_post hx,← g.po,← wrote_app r (x,(r.done x).1)]
 exact wrote_rows rfl
theorem RG.mono {U:List Str} {c:Nat} {r:Rn} (g:RG U c r):RG U (c+1) r:=⟨g.b.mono,g.s,g.ro,g.po⟩
theorem RG.to {U:List Str} {c:Nat} {r:Rn} (g:RG U c r):∀k,RG U (c+k) r
 | 0=>g
 | k+1=>(g.to k).mono
theorem RG.le {U:List Str} {c c':Nat} {r:Rn} (g:RG U c r) (h:c≤c'):RG U c' r:=by
 obtain⟨k,rfl⟩:=Nat.exists_eq_add_of_le h
 exact g.to k
theorem lk_of_mem {p:Addr} {o:AO} :∀ {M:AM},(p,o)∈M→Lk M p o
 | [],h=>nomatch h
 | x :: M,h=>by
  rcases List.mem_cons.mp h with e | e
  ·rw [← e];exact .here
  ·exact .there (lk_of_mem e)
theorem rin_of {K:PySem.W.Frag} {d:RAd} {r:Rn} {M F:AM} (h:M.Perm (runC K d r ++ F)):RIn K M d r:=by
 intro p o lk
 rw [List.append_nil] at lk
 exact lk_of_mem (h.mem_iff.mpr (List.mem_append_left _ lk.mem))
theorem RG.q {K:PySem.W.Frag} {U:List Str} {c:Nat} {d:RAd} {r:Rn} {M F:AM} (g:RG U c r) (a:AdW d r) (hc:c≤20000) (h:M.Perm (runC K d r ++ F)):RQ K M U c d r:=⟨rin_of h,g.b,a,hc⟩
theorem cutA_few {xs:List A} {a b:Nat} :(cutA xs (some (a:Int)) (some (b:Int))).length≤b - a:=by
 unfold cutA
 rw [HT.sIx_nat,HT.sIx_nat,List.length_take,List.length_drop]
 omega
theorem RG.tx {U:List Str} {c:Nat} {r:Rn} (g:RG U c r) (hU:∀z∈U,isTx8 z):∀z∈r.names,isTx8 z:=fun z hz=>hU z (g.b.ku z (g.b.nk z hz))
/-- what stands between two loops -/
structure HW (U:List Str) (r0:Rn) (d0:RAd) (k:Nat) (d:RAd) (r:Rn):Prop where
 p:d.p=d0.p
 a:AdW d r
 g:RG U k r
 n:r.names=r0.names
 s:r.size=r0.size
theorem HW.step {U:List Str} {r0:Rn} {d0 d d':RAd} {k:Nat} {r:Rn} (h:HW U r0 d0 k d r) (hk:k≤20000) {x:Dd} (hx:r.can x=true) (ok:x.okU U) (e:d'.p=d.p) (a:AdW d' (r.step x)) (hn:(r.step x).names=r.names):HW U r0 d0 (k+1) d' (r.step x):=
 ⟨e.trans h.p,a,h.g.step hk hx ok,hn.trans h.n,(done_rows r x).2.trans h.s⟩
theorem can_come {r:Rn} {k:Nat} (h:k < r.post.length):r.can (.come k)=true:=decide_eq_true h
theorem can_turn {r:Rn} {n:Str} (hn:n∈r.names) (hu:r.isUp n=true):r.can (.turn n)=true:=by
 show(decide (n∈r.names) && r.isUp n)=true
 rw [decide_eq_true hn,hu];rfl
theorem HW.le {U:List Str} {r0:Rn} {d0 d:RAd} {k k':Nat} {r:Rn} (h:HW U r0 d0 k d r) (hk:k≤k'):HW U r0 d0 k' d r:=⟨h.p,h.a,h.g.le hk,h.n,h.s⟩
theorem len2 {a b:A} : [a,b].length≤sizeLine:=small (show 2≤_ by decide)
theorem len3 {a b c:A} : [a,b,c].length≤sizeLine:=small (show 3≤_ by decide)
def EnOk (many:Nat) (e:En):Prop:=isTx e.nm∧e.nu.length=many∧e.ot.length≤60∧ ∀z∈e.ot,isTx z
def LtOk (many:Nat) (l:Lt):Prop:=isTx8 l.one∧isTx8 l.other∧ ∀e∈l.roll,EnOk many e
structure TxR (r:Rn):Prop where
 nm:∀z∈r.names,isTx8 z
 hs:∀x∈r.hs,∀e∈x.1.heard,EnOk r.size e
 post:∀l∈r.post,LtOk r.size l
 rows:∀w∈r.rows,w.1.nmd∧(∀ls,w.2= .letters ls→ ∀l∈ls,LtOk r.size l)∧ ∀wd,w.2= .word wd→isTx wd
theorem mrg_mem {es fs:List En} {e:En} (h:e∈mrg es fs):e∈es∨e∈fs:=by
 have:=mfold_mem ((srtE_perm _).mem_iff.mp h)
 exact List.mem_append.mp this
theorem written_mem {h:Hd} {e:En} (he:e∈h.written.heard):e=h.entry∨e∈h.heard:=by
 rcases mrg_mem he with h | h
 ·exact .inl (List.mem_singleton.mp h)
 ·exact .inr h
theorem entry_ok {n:Nat} {h:Hd} (c:isTx8 h.called) (l:h.own.length=n) (few:h.names.length≤60) (nm:∀z∈h.names,isTx8 z):EnOk n h.entry:=
 ⟨c.tx,l,by show(srtS h.names).length≤60;rw [(srtS_perm _).length_eq];exact few,fun z hz=>(nm z ((srtS_perm _).mem_iff.mp hz)).tx⟩
theorem changed_ok {n:Nat} {h:Hd} (c:isTx8 h.called) (l:h.own.length=n) (few:h.names.length≤60) (nm:∀z∈h.names,isTx8 z) (he:∀e∈h.heard,EnOk n e):∀e∈h.changed.heard,EnOk n e:=fun e h1=>by
 rcases written_mem (h:= { h with version:=h.version+1 }) h1 with rfl | h1
 ·exact entry_ok (h:= { h with version:=h.version+1 }) c l few nm
 ·exact he e h1
theorem upd_mem {r:Rn} {z:Str} {f:Hd→Hd} {y:Hd×Bool} (h:y∈(r.upd z f).hs):∃x∈r.hs,(x.1.called=z∧y=(f x.1,x.2))∨(x.1.called≠z∧y=x):=by
 obtain⟨x,hx,e⟩:=List.mem_map.mp h
 refine⟨x,hx,?_⟩
 by_cases c:x.1.called=z
 ·rw [if_pos c] at e;exact .inl ⟨c,e.symm⟩
 ·rw [if_neg c] at e;exact .inr ⟨c,e.symm⟩
theorem setUp_mem {r:Rn} {z:Str} {b:Bool} {y:Hd×Bool} (h:y∈(r.setUp z b).hs):∃x∈r.hs,y.1=x.1:=by
 obtain⟨x,hx,e⟩:=List.mem_map.mp h
 refine⟨x,hx,?_⟩
 rw [← e]
 split <;> rfl
section
variable {U:List Str} {c:Nat} {r:Rn}
theorem TxR.of (b:RB U c r) (t:TxR r) {x:Hd×Bool} (hx:x∈r.hs):isTx8 x.1.called∧x.1.own.length=r.size∧x.1.names.length≤8∧(∀z∈x.1.names,isTx8 z)∧ ∀e∈x.1.heard,EnOk r.size e:=by
 have hn:x.1.called∈r.names:=List.mem_map.mpr ⟨x,hx,rfl⟩
 refine⟨t.nm _ hn,(b.hb x hx).len,by unfold Hd.names;rw [List.length_map];exact b.fewA hx,fun z hz=> ?_,t.hs x hx⟩
 have e:=hd_of (rget_of b.nd hx)
 exact t.nm z (b.tie' hn (by rw [e];exact hz)).1
theorem TxR.upd (b:RB U c r) (t:TxR r) {z:Str} {f:Hd→Hd} (hf:∀h,(f h).called=h.called) (h:∀x∈r.hs,x.1.called=z→ ∀e∈(f x.1).heard,EnOk r.size e):TxR (r.upd z f):=by
 refine⟨by rw [upd_names r z hf];exact t.nm,fun y hy=> ?_,t.post,t.rows⟩
 obtain⟨x,hx,⟨c1,e⟩ | ⟨c1,e⟩⟩:=upd_mem hy
 ·rw [e];exact h x hx c1
 ·rw [e];exact t.hs x hx
theorem letters_ok (b:RB U c r) (t:TxR r) {x:Hd×Bool} (hx:x∈r.hs):∀l∈x.1.letters,LtOk r.size l:=fun l hl=>by
 obtain⟨h1,h2,h3,h4,h5⟩:=t.of b hx
 obtain⟨z,hz,rfl⟩:=List.mem_map.mp hl
 have hz:=h4 z ((srtS_perm _).mem_iff.mp hz)
 unfold Hd.letter
 split
 ·exact⟨h1,hz,h5⟩
 ·exact⟨h1,hz,h5⟩
theorem take_cases (h:Hd) (l:Lt):((h.take l).2.heard=h.heard∨(h.take l).2.heard=mrg h.heard l.roll)∧(h.take l).2.called=h.called∧((h.take l).1= "" ∨(h.take l).1= "taken" ∨(h.take l).1= "heard"):=by
 unfold Hd.take
 cases h.acc l.one with
 | none=>exact⟨.inl rfl,rfl,.inl rfl⟩
 | some a=>
  obtain⟨many,seen,gifts,given,takes,taken⟩:=a
  cases seen with
  | none=>
   dsimp only
   repeat' split
   all_goals first | exact⟨.inl rfl,rfl,.inl rfl⟩ | exact⟨.inr rfl,rfl,.inr (.inl rfl)⟩ | exact⟨.inr rfl,rfl,.inr (.inr rfl)⟩
  | some st=>
   dsimp only
   repeat' split
   all_goals first | exact⟨.inl rfl,rfl,.inl rfl⟩ | exact⟨.inr rfl,rfl,.inr (.inl rfl)⟩ | exact⟨.inr rfl,rfl,.inr (.inr rfl)⟩
theorem take_heard {h:Hd} {l:Lt} {e:En} (he:e∈(h.take l).2.heard):e∈h.heard∨e∈l.roll:=by
 rcases(take_cases h l).1 with h1 | h1
 ·rw [h1] at he;exact .inl he
 ·rw [h1] at he;exact mrg_mem he
theorem TxR.come (b:RB U c r) (t:TxR r) {l:Lt} (hl:l∈r.post):TxR (r.come l).2∧isTx (r.come l).1:=by
 have e0:isTx ("" :Str):=⟨by decide,fun c hc=>nomatch hc⟩
 unfold Rn.come
 cases h:r.get l.other with
 | none=>exact⟨t,e0⟩
 | some x=>
  dsimp only
  split
  ·refine⟨t.upd b (z:=l.other) (f:=fun h=>(h.take l).2) (fun h=>(take_cases h l).2.1) fun y hy _ e he=> ?_,?_⟩
   ·rcases take_heard he with h1 | h1
    ·exact t.hs y hy e h1
    ·exact(t.post l hl).2.2 e h1
   ·show isTx (x.1.take l).1
    rcases(take_cases x.1 l).2.2 with h1 | h1 | h1
    ·rw [h1];exact e0
    ·rw [h1];exact⟨by decide,by decide⟩
    ·rw [h1];exact⟨by decide,by decide⟩
  ·exact⟨t,e0⟩
theorem TxR.setUp (t:TxR r) (z:Str) (u:Bool):TxR (r.setUp z u):=by
 refine⟨by rw [setUp_names];exact t.nm,fun y hy=> ?_,t.post,t.rows⟩
 obtain⟨x,hx,e⟩:=setUp_mem hy
 rw [e];exact t.hs x hx
theorem TxR.done (b:RB U c r) (t:TxR r) {x:Dd} (hx:r.can x=true) (nm:x.nmd):TxR (r.done x).2∧(∀ls,(r.done x).1= .letters ls→ ∀l∈ls,LtOk r.size l)∧ ∀wd,(r.done x).1= .word wd→isTx wd:=by
 have no1:∀ls,Wh.none= .letters ls→ ∀l∈ls,LtOk r.size l:=fun _ h=>nomatch h
 have no2:∀wd,Wh.none= .word wd→isTx wd:=fun _ h=>nomatch h
 cases x with
 | turn n=>
  have hx:(decide (n∈r.names) && r.isUp n)=true:=hx
  rw [Bool.and_eq_true] at hx
  obtain⟨y,hg,_⟩:=isUp_get hx.2
  rw [done_turn hg]
  have lo:=letters_ok b t (rget_some hg).1
  have tu:=t.upd b (z:=n) (f:=Hd.turned) (fun _=>rfl) fun x hx _ e he=>t.hs x hx e he
  refine⟨⟨tu.nm,tu.hs,fun l hl=> ?_,tu.rows⟩,fun ls e l hl=> ?_,(fun wd e=>nomatch e)⟩
  ·rcases List.mem_append.mp hl with hl | hl
   ·exact t.post l hl
   ·exact lo l hl
  ·cases e;exact lo l hl
 | come k=>
  have hk:k < r.post.length:=of_decide_eq_true hx
  rw [done_come (List.getElem?_eq_getElem hk)]
  obtain⟨h1,h2⟩:=t.come b (List.getElem_mem hk)
  exact⟨h1,(fun ls e=>nomatch e),fun wd e=>by cases e;exact h2⟩
 | join n ns=>
  have hx:(!decide (n∈r.known) && decide (r.hs.length < 8) && decide (ns.length=r.size))=true:=hx
  rw [Bool.and_eq_true] at hx
  have hl:=of_decide_eq_true hx.2
  refine⟨⟨fun z hz=> ?_,fun y hy=> ?_,t.post,t.rows⟩,no1,no2⟩
  ·have:z∈(r.hs ++ [(hd0 n ns [],true)]).map fun x=>x.1.called:=hz
   rw [List.map_append] at this
   rcases List.mem_append.mp this with h | h
   ·exact t.nm z h
   ·rw [List.mem_singleton.mp h];exact nm
  ·rcases List.mem_append.mp hy with h | h
   ·exact t.hs y h
   ·rw [List.mem_singleton.mp h]
    intro e he
    rcases written_mem (h:=⟨n,1,1,ns,[],[],[]⟩) he with rfl | h
    ·exact entry_ok (h:=⟨n,1,1,ns,[],[],[]⟩) nm hl (Nat.zero_le _) (fun z hz=>nomatch hz)
    ·cases h
 | set n ns=>
  have hx:(decide (n∈r.names) && decide (ns.length=r.size))=true:=hx
  rw [Bool.and_eq_true] at hx
  refine⟨t.upd b (z:=n) (f:=fun h=>h.setOwn ns) (fun _=>rfl) fun x hx' _=> ?_,no1,no2⟩
  obtain⟨h1,h2,h3,h4,h5⟩:=t.of b hx'
  exact changed_ok (h:= { x.1 with own:=ns }) h1 (of_decide_eq_true hx.2) (by show x.1.names.length≤60;omega) h4 h5
 | tie n o=>
  have key:∀ {x:Hd×Bool} {z:Str},x∈r.hs→isTx8 z→ ∀e∈(x.1.tie z).heard,EnOk r.size e:=fun {x z} hx' hz=>by
   obtain⟨h1,h2,h3,h4,h5⟩:=t.of b hx'
   have en:({ x.1 with eras:=if z∈x.1.eras.map (·.1) then x.1.eras else x.1.eras ++ [(z,0)],accs:=x.1.accs ++ [(z,acc0 x.1.own.length none)] } :Hd).names=x.1.names ++ [z]:=by unfold Hd.names;rw [List.map_append];rfl
   have nz:∀y∈x.1.names ++ [z],isTx8 y:=fun y hy=>by
    rcases List.mem_append.mp hy with hy | hy
    ·exact h4 y hy
    ·rw [List.mem_singleton.mp hy];exact hz
   exact changed_ok (h:= { x.1 with eras:=if z∈x.1.eras.map (·.1) then x.1.eras else x.1.eras ++ [(z,0)],accs:=x.1.accs ++ [(z,acc0 x.1.own.length none)] }) h1 h2 (by rw [en,List.length_append];show _+1≤60;omega) (by rw [en];exact nz) h5
  refine⟨?_,no1,no2⟩
  have t1:=t.upd b (z:=n) (f:=fun h=>h.tie o) (fun _=>rfl) fun x hx' _=>key hx' nm.2
  refine⟨by show∀z∈(((r.upd n fun h=>h.tie o).upd o fun h=>h.tie n).names),isTx8 z;rw [upd_names (r.upd n fun h=>h.tie o) o (f:=fun h=>h.tie n) (fun _=>rfl)];exact t1.nm,fun y hy=> ?_,t.post,t.rows⟩
  have hx:(decide (n∈r.names) && decide (o∈r.names) && !decide (o=n) && !r.tied n o)=true:=hx
  simp only [Bool.and_eq_true,Bool.not_eq_true',decide_eq_false_iff_not] at hx
  obtain⟨x,hx1,⟨c1,e1⟩ | ⟨c1,e1⟩⟩:=upd_mem hy
  ·obtain⟨w,hw,⟨c2,e2⟩ | ⟨c2,e2⟩⟩:=upd_mem hx1
   ·rw [e2] at c1
    exact absurd (c1.symm.trans c2) hx.1.2
   ·rw [e1,e2];exact key hw nm.1
  ·rw [e1];exact t1.hs x hx1
 | cut n o=>
  have key:∀ {x:Hd×Bool} {z:Str},x∈r.hs→ ∀e∈(x.1.cut z).heard,EnOk r.size e:=fun {x z} hx'=>by
   obtain⟨h1,h2,h3,h4,h5⟩:=t.of b hx'
   have en:({ x.1 with eras:=x.1.eras.map fun x=>if x.1=z then(x.1,x.2+1) else x,accs:=x.1.accs.filter fun x=>decide (x.1≠z) } :Hd).names=x.1.names.filter fun y=>decide (y≠z):=cut_names _ _
   exact changed_ok (h:= { x.1 with eras:=x.1.eras.map fun x=>if x.1=z then(x.1,x.2+1) else x,accs:=x.1.accs.filter fun x=>decide (x.1≠z) }) h1 h2 (by rw [en];exact Nat.le_trans (List.length_filter_le _ _) (by omega)) (by rw [en];exact fun y hy=>h4 y (List.mem_filter.mp hy).1) h5
  refine⟨?_,no1,no2⟩
  have t1:=t.upd b (z:=n) (f:=fun h=>h.cut o) (fun _=>rfl) fun x hx' _=>key hx'
  refine⟨by show∀z∈(((r.upd n fun h=>h.cut o).upd o fun h=>h.cut n).names),isTx8 z;rw [upd_names (r.upd n fun h=>h.cut o) o (f:=fun h=>h.cut n) (fun _=>rfl)];exact t1.nm,fun y hy=> ?_,t.post,t.rows⟩
  have hx:(decide (n∈r.names) && decide (o∈r.names) && !decide (o=n) && r.tied n o)=true:=hx
  simp only [Bool.and_eq_true,Bool.not_eq_true',decide_eq_false_iff_not] at hx
  obtain⟨x,hx1,⟨c1,e1⟩ | ⟨c1,e1⟩⟩:=upd_mem hy
  ·obtain⟨w,hw,⟨c2,e2⟩ | ⟨c2,e2⟩⟩:=upd_mem hx1
   ·rw [e2] at c1
    exact absurd (c1.symm.trans c2) hx.1.2
   ·rw [e1,e2];exact key hw
  ·rw [e1];exact t1.hs x hx1
 | leave n=>
  cases hg:r.get n with
  | none=>simp only [Rn.done,hg];exact⟨t,fun _ h=>(nomatch h),fun _ h=>(nomatch h)⟩
  | some u=>
   simp only [Rn.done,hg]
   refine⟨⟨fun z hz=> ?_,fun y hy=> ?_,t.post,t.rows⟩,fun _ h=>(nomatch h),fun _ h=>(nomatch h)⟩
   ·obtain⟨y,hy,rfl⟩:=List.mem_map.mp hz
    obtain⟨w,hw,rfl⟩:=List.mem_map.mp hy
    have hw:=(List.mem_filter.mp hw).1
    have e:(if w.1.called∈u.1.names then(w.1.cut n,w.2) else w).1.called=w.1.called:=by split <;> rfl
    rw [e]
    exact t.nm _ (List.mem_map.mpr ⟨w,hw,rfl⟩)
   ·obtain⟨w,hw,rfl⟩:=List.mem_map.mp hy
    have hw:=(List.mem_filter.mp hw).1
    obtain⟨h1,h2,h3,h4,h5⟩:=t.of b hw
    split
    ·have en:({ w.1 with eras:=w.1.eras.map fun x=>if x.1=n then(x.1,x.2+1) else x,accs:=w.1.accs.filter fun x=>decide (x.1≠n) } :Hd).names=w.1.names.filter fun y=>decide (y≠n):=cut_names _ _
     exact changed_ok (h:= { w.1 with eras:=w.1.eras.map fun x=>if x.1=n then(x.1,x.2+1) else x,accs:=w.1.accs.filter fun x=>decide (x.1≠n) }) h1 h2 (by rw [en];exact Nat.le_trans (List.length_filter_le _ _) (by omega)) (by rw [en];exact fun y hy=>h4 y (List.mem_filter.mp hy).1) h5
    ·exact h5
 | fall n=>exact⟨t.setUp n false,no1,no2⟩
 | back n=>exact⟨t.setUp n true,no1,no2⟩
 | fresh n=>
  refine⟨?_,no1,no2⟩
  refine⟨by show∀z∈(((r.setUp n true).upd n Hd.fresh).names),isTx8 z;rw [upd_names (r.setUp n true) n (f:=Hd.fresh) (fun _=>rfl),setUp_names];exact t.nm,fun y hy=> ?_,t.post,t.rows⟩
  obtain⟨x,hx1,⟨c1,e1⟩ | ⟨c1,e1⟩⟩:=upd_mem hy
  ·obtain⟨w,hw,e⟩:=setUp_mem hx1
   obtain⟨h1,h2,h3,h4,h5⟩:=t.of b hw
   rw [e1]
   intro e' he'
   have he':e'∈x.1.fresh.heard:=he'
   rw [e] at he'
   have en:({ w.1 with life:=w.1.life+1,version:=1,eras:=(srtS w.1.names).map fun z=>(z,0),accs:=(srtS w.1.names).map fun z=>(z,acc0 w.1.own.length none) } :Hd).names=srtS w.1.names:=new_names _ _
   rw [List.mem_singleton.mp he']
   exact entry_ok (h:= { w.1 with life:=w.1.life+1,version:=1,eras:=(srtS w.1.names).map fun z=>(z,0),accs:=(srtS w.1.names).map fun z=>(z,acc0 w.1.own.length none) }) h1 h2 (by rw [en,(srtS_perm _).length_eq];omega) (by rw [en];exact fun z hz=>h4 z ((srtS_perm _).mem_iff.mp hz))
  ·obtain⟨w,hw,e⟩:=setUp_mem hx1
   rw [e1,e];exact t.hs w hw
theorem TxR.step (b:RB U c r) (t:TxR r) {x:Dd} (hx:r.can x=true) (nm:x.nmd):TxR (r.step x):=by
 obtain⟨h1,h2,h3⟩:=t.done b hx nm
 have sz:=(done_rows r x).2
 refine⟨h1.nm,?_,?_,fun w hw=> ?_⟩
 ·exact h1.hs
 ·exact h1.post
 ·rw [step_rows] at hw
  show w.1.nmd∧(∀ls,w.2= .letters ls→ ∀l∈ls,LtOk (r.done x).2.size l)∧ ∀wd,w.2= .word wd→isTx wd
  rw [sz]
  rcases List.mem_append.mp hw with hw | hw
  ·exact t.rows w hw
  ·rw [List.mem_singleton.mp hw]
   exact⟨nm,h2,h3⟩
end
abbrev enSt (e:En):Int×Int:=(e.li,e.ve)
theorem newerP_iff {x y:En} :newerP x y=true↔stL (enSt y) (enSt x):=by
 unfold newerP stL
 rw [decide_eq_true_iff]
 constructor
 ·rintro(h | ⟨h1,h2⟩)
  ·exact .inl h
  ·exact .inr ⟨h1.symm,h2⟩
 ·rintro(h | ⟨h1,h2⟩)
  ·exact .inl h
  ·exact .inr ⟨h1.symm,h2⟩
theorem stLe.trans {x y z:Int×Int} (h:stLe x y) (h2:stLe y z):stLe x z:=by unfold stLe at *;omega
theorem stLe_or (x y:Int×Int):stLe x y∨stL y x:=by unfold stLe stL;omega
theorem mput_ge {acc:List En} {e x:En} (h:x∈acc∨x=e):∃y∈mput acc e,y.nm=x.nm∧stLe (enSt x) (enSt y):=by
 unfold mput
 by_cases c:(acc.any fun x=>decide (x.nm=e.nm))=true
 ·rw [if_pos c]
  rcases h with h | rfl
  ·refine⟨_,List.mem_map.mpr ⟨x,h,rfl⟩,?_⟩
   by_cases c1:x.nm=e.nm
   ·rw [if_pos c1]
    by_cases c2:newerP e x=true
    ·rw [if_pos c2];exact⟨c1.symm,(newerP_iff.mp c2).le⟩
    ·rw [if_neg c2];exact⟨rfl,stLe.refl _⟩
   ·rw [if_neg c1];exact⟨rfl,stLe.refl _⟩
  ·obtain⟨w,hw,c1⟩:=List.any_eq_true.mp c
   have c1:=of_decide_eq_true c1
   refine⟨_,List.mem_map.mpr ⟨w,hw,rfl⟩,?_⟩
   rw [if_pos c1]
   by_cases c2:newerP x w=true
   ·rw [if_pos c2];exact⟨rfl,stLe.refl _⟩
   ·rw [if_neg c2]
    refine⟨c1,?_⟩
    rcases stLe_or (enSt x) (enSt w) with h | h
    ·exact h
    ·exact absurd (newerP_iff.mpr h) c2
 ·rw [if_neg c]
  rcases h with h | rfl
  ·exact⟨x,List.mem_append_left _ h,rfl,stLe.refl _⟩
  ·exact⟨x,List.mem_append_right _ List.mem_cons_self,rfl,stLe.refl _⟩
theorem mfold_ge:∀ {l acc:List En} {x:En},x∈acc∨x∈l→ ∃y∈l.foldl mput acc,y.nm=x.nm∧stLe (enSt x) (enSt y)
 | [],acc,x,h=>by
  rcases h with h | h
  ·exact⟨x,h,rfl,stLe.refl _⟩
  ·cases h
 | e :: l,acc,x,h=>by
  have h2:(x∈acc∨x=e)∨x∈l:=by
   rcases h with h | h
   ·exact .inl (.inl h)
   ·rcases List.mem_cons.mp h with h | h
    ·exact .inl (.inr h)
    ·exact .inr h
  rcases h2 with h2 | h2
  ·obtain⟨y,hy,e1,l1⟩:=mput_ge h2
   obtain⟨w,hw,e2,l2⟩:=mfold_ge (l:=l) (acc:=mput acc e) (.inl hy)
   exact⟨w,hw,e2.trans e1,l1.trans l2⟩
  ·exact mfold_ge (l:=l) (acc:=mput acc e) (.inr h2)
/-- the newest entry of a name stays -/
theorem mrg_in {es fs:List En} {e:En} (h:e∈es∨e∈fs) (mx:∀f,f∈es∨f∈fs→f.nm=e.nm→stL (enSt f) (enSt e)∨f=e):e∈mrg es fs:=by
 obtain⟨y,hy,e1,l1⟩:=mfold_ge (l:=es ++ fs) (acc:= []) (.inr (List.mem_append.mpr h))
 have hm:y∈mfold (es ++ fs):=hy
 rcases mx y (List.mem_append.mp (mfold_mem hm)) e1 with h1 | h1
 ·exact absurd h1 l1.not
 ·rw [← h1];exact(srtE_perm _).mem_iff.mpr hm
def Old (h:Hd) (e:En):Prop:=stL (enSt e) (h.life,h.version)∨e=h.entry
structure Tru (P:Str→Prop) (hd:Str→Hd) (post:List Lt) (kn:List Str):Prop where
 nm:∀a,P a→(hd a).called=a
 k1:∀a,P a→a∈kn
 hk:∀a e,P a→e∈(hd a).heard→e.nm∈kn
 pk:∀l∈post,∀e∈l.roll,e.nm∈kn
 hh:∀a e,P a→e∈(hd a).heard→P e.nm→Old (hd e.nm) e
 pp:∀l∈post,∀e∈l.roll,P e.nm→Old (hd e.nm) e
 me:∀a,P a→(hd a).entry∈(hd a).heard
section
variable {P:Str→Prop} {hd:Str→Hd} {post:List Lt} {kn:List Str} {n:Str} {h':Hd}
theorem Tru.mono (t:Tru P hd post kn) {P':Str→Prop} (h:∀y,P' y→P y):Tru P' hd post kn:=⟨fun a p=>t.nm a (h a p),fun a p=>t.k1 a (h a p),fun a e p=>t.hk a e (h a p),t.pk,fun a e p he q=>t.hh a e (h a p) he (h _ q),fun l hl e he q=>t.pp l hl e he (h _ q),fun a p=>t.me a (h a p)⟩
theorem Tru.congr (t:Tru P hd post kn) {hd':Str→Hd} (h:∀y,P y→hd' y=hd y):Tru P hd' post kn:=
 ⟨fun a p=>by rw [h a p];exact t.nm a p,t.k1,fun a e p he=>by rw [h a p] at he;exact t.hk a e p he,t.pk,fun a e p he q=>by rw [h a p] at he;rw [h _ q];exact t.hh a e p he q,fun l hl e he q=>by rw [h _ q];exact t.pp l hl e he q,fun a p=>by rw [h a p];exact t.me a p⟩
theorem Tru.upd (t:Tru P hd post kn) (hn:P n) (hc:h'.called=n) (old:∀e,e.nm=n→Old (hd n) e→Old h' e) (me:h'.entry∈h'.heard) (hrd:∀e∈h'.heard,e=h'.entry∨e∈(hd n).heard∨ ∃l∈post,e∈l.roll) (ls:List Lt) (hls:∀l∈ls,l.roll=h'.heard):Tru P (upH hd n h') (post ++ ls) kn:=by
 have hk:∀e∈h'.heard,e.nm∈kn:=fun e he=>by
  rcases hrd e he with rfl | h | ⟨l,hl,h⟩
  ·show h'.called∈kn;rw [hc];exact t.k1 n hn
  ·exact t.hk n e hn h
  ·exact t.pk l hl e h
 have up:∀e,P e.nm→Old (hd e.nm) e→Old (upH hd n h' e.nm) e:=fun e p o=>by
  by_cases c:e.nm=n
  ·rw [c,upH_same];rw [c] at o;exact old e c o
  ·rw [upH_ne c];exact o
 have hh:∀e∈h'.heard,P e.nm→Old (upH hd n h' e.nm) e:=fun e he p=>by
  rcases hrd e he with e1 | h | ⟨l,hl,h⟩
  ·have:e.nm=n:=by rw [e1];exact hc
   rw [this,upH_same];exact .inr e1
  ·exact up e p (t.hh n e hn h p)
  ·exact up e p (t.pp l hl e h p)
 refine⟨fun a p=> ?_,t.k1,fun a e p he=> ?_,fun l hl e he=> ?_,fun a e p he q=> ?_,fun l hl e he q=> ?_,fun a p=> ?_⟩
 ·by_cases c:a=n
  ·rw [c,upH_same];exact hc
  ·rw [upH_ne c];exact t.nm a p
 ·by_cases c:a=n
  ·rw [c,upH_same] at he;exact hk e he
  ·rw [upH_ne c] at he;exact t.hk a e p he
 ·rcases List.mem_append.mp hl with hl | hl
  ·exact t.pk l hl e he
  ·rw [hls l hl] at he;exact hk e he
 ·by_cases c:a=n
  ·rw [c,upH_same] at he;exact hh e he q
  ·rw [upH_ne c] at he;exact up e q (t.hh a e p he q)
 ·rcases List.mem_append.mp hl with hl | hl
  ·exact up e q (t.pp l hl e he q)
  ·rw [hls l hl] at he;exact hh e he q
 ·by_cases c:a=n
  ·rw [c,upH_same];exact me
  ·rw [upH_ne c];exact t.me a p
theorem Tru.upd0 (t:Tru P hd post kn) (hn:P n) (hc:h'.called=n) (old:∀e,e.nm=n→Old (hd n) e→Old h' e) (me:h'.entry∈h'.heard) (hrd:∀e∈h'.heard,e=h'.entry∨e∈(hd n).heard∨ ∃l∈post,e∈l.roll):Tru P (upH hd n h') post kn:=by
 have:=t.upd hn hc old me hrd [] fun l hl=>nomatch hl
 rw [List.append_nil] at this
 exact this
/-- a change: the version is one more -/
theorem Tru.chg (t:Tru P hd post kn) (hn:P n) {h1:Hd} (e1:h1.called=(hd n).called) (e2:h1.life=(hd n).life) (e3:h1.version=(hd n).version) (e4:h1.heard=(hd n).heard):Tru P (upH hd n h1.changed) post kn:=by
 have hc:=t.nm n hn
 have old:∀e,e.nm=n→Old (hd n) e→stL (enSt e) (h1.life,h1.version+1):=fun e _ o=>by
  rw [e2,e3]
  rcases o with o | o
  ·unfold stL at o ⊢;simp only at o ⊢;omega
  ·rw [o];exact .inr ⟨rfl,by show(hd n).version < (hd n).version+1;omega⟩
 have ol:∀e,e.nm=n→Old (hd n) e→Old h1.changed e:=fun e c o=> .inl (old e c o)
 have eh:h1.changed.heard=mrg [({ h1 with version:=h1.version+1 } :Hd).entry] h1.heard:=rfl
 have ee:h1.changed.entry=({ h1 with version:=h1.version+1 } :Hd).entry:=rfl
 refine t.upd0 hn (by show h1.called=n;rw [e1,hc]) ol ?_ fun e he=> ?_
 ·rw [eh,ee]
  refine mrg_in (.inl List.mem_cons_self) fun f hf hnm=> ?_
  rcases hf with hf | hf
  ·exact .inr (List.mem_singleton.mp hf)
  ·have fn:f.nm=n:=by rw [hnm];show h1.called=n;rw [e1,hc]
   rw [e4] at hf
   have:=t.hh n f hn hf (by rw [fn];exact hn)
   rw [fn] at this
   exact .inl (old f fn this)
 ·rw [eh] at he
  rcases mrg_mem he with h | h
  ·exact .inl (List.mem_singleton.mp h)
  ·rw [e4] at h;exact .inr (.inl h)
theorem Tru.fresh1 (t:Tru P hd post kn) (hn:P n):Tru P (upH hd n (hd n).fresh) post kn:=by
 have hc:=t.nm n hn
 refine t.upd0 hn hc (fun e _ o=> .inl ?_) List.mem_cons_self fun e he=> .inl (List.mem_singleton.mp he)
 show stL (enSt e) ((hd n).life+1,1)
 rcases o with o | o
 ·unfold stL at o ⊢;simp only at o ⊢;omega
 ·rw [o];exact .inl (by show(hd n).life < (hd n).life+1;omega)
theorem Tru.turn (t:Tru P hd post kn) (hn:P n):Tru P (upH hd n (hd n).turned) (post ++ (hd n).letters) kn:=by
 have ee:(hd n).turned.entry=(hd n).entry:=by
  unfold Hd.entry
  rw [turned_names];rfl
 refine t.upd (h':=(hd n).turned) hn (t.nm n hn) (fun e _ o=> ?_) (show(hd n).turned.entry∈(hd n).heard from by rw [ee];exact t.me n hn) (fun e he=> .inr (.inl he)) _ fun l hl=> ?_
 ·rcases o with o | o
  ·exact .inl o
  ·exact .inr (by rw [o,ee])
 ·obtain⟨z,_,rfl⟩:=List.mem_map.mp hl
  unfold Hd.letter
  split <;> rfl
theorem take_entry (h:Hd) (l:Lt):(h.take l).2.entry=h.entry∧(h.take l).2.life=h.life∧(h.take l).2.version=h.version:=by
 have key:∀ {g:Hd},g.called=h.called→g.life=h.life→g.version=h.version→g.own=h.own→g.names=h.names→g.entry=h.entry∧g.life=h.life∧g.version=h.version:=fun a b c d e=>⟨by unfold Hd.entry;rw [a,b,c,d,e],b,c⟩
 have un:∀f:Acc→Acc,(updA h.accs l.one f).map (·.1)=h.accs.map (·.1):=fun f=>by
  unfold updA
  rw [List.map_map]
  exact List.map_congr_left fun x _=>by
   show(if x.1=l.one then(x.1,f x.2) else x).1=x.1
   split <;> rfl
 have un':∀(f:Acc→Acc) (hr:List En),({ h with accs:=updA h.accs l.one f,heard:=hr } :Hd).names=h.names:=fun f _=>un f
 unfold Hd.take
 cases h.acc l.one with
 | none=>exact⟨rfl,rfl,rfl⟩
 | some a=>
  obtain⟨many,seen,gifts,given,takes,taken⟩:=a
  cases seen with
  | none=>
   dsimp only
   repeat' split
   all_goals first | exact⟨rfl,rfl,rfl⟩ | exact key rfl rfl rfl rfl (un' _ _)
  | some st=>
   dsimp only
   repeat' split
   all_goals first | exact⟨rfl,rfl,rfl⟩ | exact key rfl rfl rfl rfl (un' _ _)
theorem Tru.come (t:Tru P hd post kn) {l:Lt} (hl:l∈post) (hn:P l.other):Tru P (upH hd l.other ((hd l.other).take l).2) post kn:=by
 obtain⟨e1,e2,e3⟩:=take_entry (hd l.other) l
 have hc:=t.nm _ hn
 have ec:(hd l.other).entry.nm=l.other:=hc
 refine t.upd0 hn (by rw [(take_cases _ l).2.1];exact hc) (fun e _ o=> ?_) ?_ fun e he=> ?_
 ·unfold Old at o ⊢
  rw [e1,e2,e3];exact o
 ·rw [e1]
  rcases(take_cases (hd l.other) l).1 with h | h
  ·rw [h];exact t.me _ hn
  ·rw [h]
   refine mrg_in (.inl (t.me _ hn)) fun f hf fn=> ?_
   rw [ec] at fn
   rcases hf with hf | hf
   ·have:=t.hh _ f hn hf (by rw [fn];exact hn)
    rw [fn] at this;exact this
   ·have:=t.pp l hl f hf (by rw [fn];exact hn)
    rw [fn] at this;exact this
 ·rcases take_heard he with h | h
  ·exact .inr (.inl h)
  ·exact .inr (.inr ⟨l,hl,h⟩)
theorem Tru.cuts (t:Tru P hd post kn) (n:Str):∀zs:List Str,zs.Nodup→(∀z∈zs,P z)→Tru P (fun y=>if y∈zs then(hd y).cut n else hd y) post kn
 | [],_,_=>t.congr fun y _=>if_neg (by simp)
 | z :: zs,nd,h=>by
  have ih:=Tru.cuts t n zs (List.nodup_cons.mp nd).2 fun y hy=>h y (List.mem_cons_of_mem _ hy)
  have hz:=(List.nodup_cons.mp nd).1
  have e:(if z∈zs then(hd z).cut n else hd z)=hd z:=if_neg hz
  have:=ih.chg (n:=z) (h1:= { (hd z) with eras:=(hd z).eras.map fun x=>if x.1=n then(x.1,x.2+1) else x,accs:=(hd z).accs.filter fun x=>decide (x.1≠n) }) (h z List.mem_cons_self) (by rw [e]) (by rw [e]) (by rw [e]) (by rw [e])
  refine this.congr fun y _=> ?_
  by_cases c:y=z
  ·subst c
   rw [upH_same];exact if_pos List.mem_cons_self
  ·rw [upH_ne c]
   by_cases d:y∈zs
   ·rw [if_pos d,if_pos (List.mem_cons_of_mem _ d)]
   ·rw [if_neg d,if_neg fun m=>(List.mem_cons.mp m).elim c d]
end
def TruR (r:Rn):Prop:=Tru (· ∈r.names) r.hd r.post r.known
section
variable {U:List Str} {c:Nat} {r:Rn}
theorem TruR.updR (b:RB U c r) {n:Str} (hn:n∈r.names) {f:Hd→Hd} (hf:∀h,(f h).called=h.called) {post:List Lt} (s:Tru (· ∈r.names) (upH r.hd n (f (r.hd n))) post r.known):TruR { (r.upd n f) with post:=post } :=by
 show Tru (· ∈(r.upd n f).names) (r.upd n f).hd post r.known
 rw [upd_names r n hf,upd_hd b.nd hn hf]
 exact s
theorem TruR.setUp (s:TruR r) (n:Str) (u:Bool):TruR (r.setUp n u):=by
 show Tru (· ∈(r.setUp n u).names) (r.setUp n u).hd r.post r.known
 rw [setUp_names,setUp_hd];exact s
theorem TruR.two (b:RB U c r) {n o:Str} (hn:n∈r.names) (ho:o∈r.names) {f g:Hd→Hd} (hf:∀h,(f h).called=h.called) (hg:∀h,(g h).called=h.called) (s:Tru (· ∈r.names) (upH (upH r.hd n (f (r.hd n))) o (g (upH r.hd n (f (r.hd n)) o))) r.post r.known):TruR ((r.upd n f).upd o g):=by
 show Tru (· ∈((r.upd n f).upd o g).names) ((r.upd n f).upd o g).hd r.post r.known
 have nd:(r.upd n f).names.Nodup:=by rw [upd_names r n hf];exact b.nd
 rw [upd_names _ o hg,upd_hd nd (by rw [upd_names r n hf];exact ho) hg,upd_names r n hf,upd_hd b.nd hn hf]
 exact s
theorem join_hd {n:Str} {ns:List Int} (nn:n∉r.names) (y:Str):(r.done (.join n ns)).2.hd y=if y=n then hd0 n ns [] else r.hd y:=by
 show(({ r with hs:=r.hs ++ [(hd0 n ns [],true)],known:=r.known ++ [n] } :Rn)).hd y=_
 unfold Rn.hd Rn.get
 rw [List.find?_append]
 by_cases e:y=n
 ·subst e
  rw [if_pos rfl]
  have:r.hs.find? (fun x=>decide (x.1.called=y))=none:=get_none nn
  rw [this]
  show((List.find? (fun x:Hd×Bool=>decide (x.1.called=y)) [(hd0 y ns [],true)]).map (·.1)).getD _=_
  have e2:decide ((hd0 y ns []).called=y)=true:=decide_eq_true rfl
  rw [List.find?_cons_of_pos (p:=fun x:Hd×Bool=>decide (x.1.called=y)) e2]
  rfl
 ·rw [if_neg e]
  cases r.hs.find? (fun x=>decide (x.1.called=y)) with
  | some x=>rfl
  | none=>
   show((List.find? (fun x:Hd×Bool=>decide (x.1.called=y)) [(hd0 n ns [],true)]).map (·.1)).getD _=_
   have e2: ¬ decide ((hd0 n ns []).called=y)=true:=fun c=>e (of_decide_eq_true c).symm
   rw [List.find?_cons_of_neg (p:=fun x:Hd×Bool=>decide (x.1.called=y)) e2]
   rfl
theorem join_names {n:Str} {ns:List Int} (y:Str):y∈(r.done (.join n ns)).2.names↔y∈r.names∨y=n:=by
 show y∈((r.hs ++ [(hd0 n ns [],true)]).map fun x=>x.1.called)↔_
 rw [List.map_append,List.mem_append]
 exact or_congr Iff.rfl List.mem_singleton
theorem hd0_heard (n:Str) (ns:List Int) (os:List Str):(hd0 n ns os).heard= [(hd0 n ns os).entry]:=rfl
theorem TruR.join (b:RB U c r) (s:TruR r) {n:Str} {ns:List Int} (hn:n∉r.known):TruR (r.done (.join n ns)).2:=by
 have nn:n∉r.names:=fun h=>hn (b.nk n h)
 have hne:∀y∈r.known,y≠n:=fun y hy e=>hn (e ▸ hy)
 have old:∀ {y:Str},y∈(r.done (.join n ns)).2.names→y≠n→y∈r.names:=fun hy ne=>((join_names _).mp hy).resolve_right ne
 have e1:=(join_hd (ns:=ns) nn n).trans (if_pos rfl)
 have e0:=fun y (ne:y≠n)=>(join_hd (ns:=ns) nn y).trans (if_neg ne)
 have kn:(r.done (.join n ns)).2.known=r.known ++ [n]:=rfl
 have po:(r.done (.join n ns)).2.post=r.post:=rfl
 unfold TruR
 rw [kn,po]
 refine⟨fun a p=> ?_,fun a p=> ?_,fun a e p he=> ?_,fun l hl e he=>List.mem_append_left _ (s.pk l hl e he),fun a e p he q=> ?_,fun l hl e he q=> ?_,fun a p=> ?_⟩
 ·by_cases c:a=n
  ·rw [c,e1];rfl
  ·rw [e0 a c];exact s.nm a (old p c)
 ·rcases(join_names _).mp p with h | h
  ·exact List.mem_append_left _ (s.k1 a h)
  ·rw [h];exact List.mem_append_right _ List.mem_cons_self
 ·by_cases c:a=n
  ·rw [c,e1,hd0_heard] at he
   rw [List.mem_singleton.mp he]
   exact List.mem_append_right _ List.mem_cons_self
  ·rw [e0 a c] at he
   exact List.mem_append_left _ (s.hk a e (old p c) he)
 ·by_cases c:a=n
  ·rw [c,e1,hd0_heard] at he
   have e2:=List.mem_singleton.mp he
   have e3:e.nm=n:=by rw [e2];rfl
   rw [e3,e1];exact .inr e2
  ·rw [e0 a c] at he
   have ne:=hne _ (s.hk a e (old p c) he)
   rw [e0 _ ne]
   exact s.hh a e (old p c) he (old q ne)
 ·have ne:=hne _ (s.pk l hl e he)
  rw [e0 _ ne]
  exact s.pp l hl e he (old q ne)
 ·by_cases c:a=n
  ·rw [c,e1,hd0_heard];exact List.mem_cons_self
  ·rw [e0 a c];exact s.me a (old p c)
theorem leave_is (b:RB U c r) {n:Str} (hn:n∈r.names):(r.done (.leave n)).2.names=r.names.filter (fun y=>decide (y≠n))∧(∀y∈r.names,y≠n→(r.done (.leave n)).2.hd y=if y∈(r.hd n).names then(r.hd y).cut n else r.hd y)∧(r.done (.leave n)).2.post=r.post∧(r.done (.leave n)).2.known=r.known:=by
 obtain⟨x,h,ex,_,_⟩:=hd_at b.nd hn
 have e:r.done (.leave n)=(Wh.none,({ r with hs:=(r.hs.filter fun y:Hd×Bool=>decide (y.1.called≠n)).map (gL n x.1.names) } :Rn)):=by simp only [Rn.done,h]
 rw [e]
 have en:(⟨r.size,(r.hs.filter fun y:Hd×Bool=>decide (y.1.called≠n)).map (gL n x.1.names),r.known,r.post,r.rows⟩:Rn).names=r.names.filter fun y=>decide (y≠n):=by
  show((r.hs.filter fun y:Hd×Bool=>decide (y.1.called≠n)).map (gL n x.1.names)).map (fun x=>x.1.called)=(r.hs.map fun x=>x.1.called).filter _
  rw [List.map_map,List.filter_map]
  exact List.map_congr_left fun y _=>gL_called n _ y
 have gt:∀a,a≠n→(⟨r.size,(r.hs.filter fun y:Hd×Bool=>decide (y.1.called≠n)).map (gL n x.1.names),r.known,r.post,r.rows⟩:Rn).get a=(r.get a).map (gL n x.1.names):=fun a ha=>by
  rw [rget_map (r:=⟨r.size,r.hs.filter fun y:Hd×Bool=>decide (y.1.called≠n),r.known,r.post,r.rows⟩) (gL_called n x.1.names) rfl]
  congr 1
  exact find_filt ha
 refine⟨en,fun y h1 h2=> ?_,rfl,rfl⟩
 obtain⟨w,hw,e,hx,hc⟩:=hd_at b.nd h1
 show(⟨r.size,(r.hs.filter fun y:Hd×Bool=>decide (y.1.called≠n)).map (gL n x.1.names),r.known,r.post,r.rows⟩:Rn).hd y=_
 rw [hd_of (x:=gL n x.1.names w) (by rw [gt y h2,hw];rfl),e,ex]
 show(if w.1.called∈x.1.names then(w.1.cut n,w.2) else w).1=_
 rw [hc]
 split <;> rfl
theorem TruR.leave (b:RB U c r) (s:TruR r) {n:Str} (hn:n∈r.names):TruR (r.done (.leave n)).2:=by
 obtain⟨e1,e2,e3,e4⟩:=leave_is b hn
 unfold TruR
 rw [e1,e3,e4]
 have s1:=Tru.cuts s n (r.hd n).names (b.hbn hn).1.nd fun z hz=>(b.tie' hn hz).1
 refine(s1.mono (P':=(· ∈r.names.filter fun y=>decide (y≠n))) fun y hy=>(mem_ne.mp hy).1).congr fun y hy=> ?_
 obtain⟨h1,h2⟩:=mem_ne.mp hy
 exact e2 y h1 h2
theorem TruR.done (b:RB U c r) (s:TruR r) {x:Dd} (hx:r.can x=true):TruR (r.done x).2:=by
 cases x with
 | turn n=>
  have h:(decide (n∈r.names) && r.isUp n)=true:=hx
  rw [Bool.and_eq_true] at h
  obtain⟨y,hg,_⟩:=isUp_get h.2
  have hn:=rget_names hg
  rw [done_turn hg]
  show TruR { (r.upd n Hd.turned) with post:=r.post ++ y.1.letters }
  rw [← hd_of hg]
  exact TruR.updR (f:=Hd.turned) b hn (fun _=>rfl) (Tru.turn s hn)
 | come k=>
  have hk:k < r.post.length:=of_decide_eq_true hx
  rw [done_come (List.getElem?_eq_getElem hk)]
  show TruR (r.come _).2
  generalize hl:r.post[k]=l
  have ml:l∈r.post:=by rw [← hl];exact List.getElem_mem hk
  unfold Rn.come
  cases h:r.get l.other with
  | none=>exact s
  | some x=>
   dsimp only
   split
   ·exact TruR.updR (f:=fun h=>(h.take l).2) (post:=r.post) b (rget_names h) (take_called · l) (Tru.come s ml (rget_names h))
   ·exact s
 | fall n=>exact s.setUp n false
 | back n=>exact s.setUp n true
 | fresh n=>
  have hn:n∈r.names:=of_decide_eq_true hx
  have s1:=s.setUp n true
  have hn':n∈(r.setUp n true).names:=by rw [setUp_names];exact hn
  exact TruR.updR (f:=Hd.fresh) (post:=r.post) (b.setUp n true) hn' (fun _=>rfl) (Tru.fresh1 s1 hn')
 | leave n=>exact s.leave b (of_decide_eq_true hx)
 | set n ns=>
  have h:(decide (n∈r.names) && decide (ns.length=r.size))=true:=hx
  rw [Bool.and_eq_true] at h
  have hn:n∈r.names:=of_decide_eq_true h.1
  exact TruR.updR (f:=fun h=>h.setOwn ns) (post:=r.post) b hn (fun _=>rfl) (Tru.chg (h1:= { (r.hd n) with own:=ns }) s hn rfl rfl rfl rfl)
 | join n ns=>
  have h:(!decide (n∈r.known) && decide (r.hs.length < 8) && decide (ns.length=r.size))=true:=hx
  rw [Bool.and_eq_true,Bool.and_eq_true] at h
  refine s.join b fun m=> ?_
  rw [decide_eq_true m] at h
  exact Bool.noConfusion h.1.1
 | tie n o=>
  have h:(decide (n∈r.names) && decide (o∈r.names) && !decide (o=n) && !r.tied n o)=true:=hx
  rw [Bool.and_eq_true,Bool.and_eq_true,Bool.and_eq_true] at h
  have hn:n∈r.names:=of_decide_eq_true h.1.1.1
  have ho:o∈r.names:=of_decide_eq_true h.1.1.2
  refine TruR.two (f:=fun h=>h.tie o) (g:=fun h=>h.tie n) b hn ho (fun _=>rfl) (fun _=>rfl) ?_
  have s1:=Tru.chg (h1:= { (r.hd n) with eras:=if o∈(r.hd n).eras.map (·.1) then(r.hd n).eras else(r.hd n).eras ++ [(o,0)],accs:=(r.hd n).accs ++ [(o,acc0 (r.hd n).own.length none)] }) s hn rfl rfl rfl rfl
  exact Tru.chg (n:=o) (h1:= { (upH r.hd n ((r.hd n).tie o) o) with eras:=if n∈(upH r.hd n ((r.hd n).tie o) o).eras.map (·.1) then(upH r.hd n ((r.hd n).tie o) o).eras else(upH r.hd n ((r.hd n).tie o) o).eras ++ [(n,0)],accs:=(upH r.hd n ((r.hd n).tie o) o).accs ++ [(n,acc0 (upH r.hd n ((r.hd n).tie o) o).own.length none)] }) s1 ho rfl rfl rfl rfl
 | cut n o=>
  have h:(decide (n∈r.names) && decide (o∈r.names) && !decide (o=n) && r.tied n o)=true:=hx
  rw [Bool.and_eq_true,Bool.and_eq_true,Bool.and_eq_true] at h
  have hn:n∈r.names:=of_decide_eq_true h.1.1.1
  have ho:o∈r.names:=of_decide_eq_true h.1.1.2
  refine TruR.two (f:=fun h=>h.cut o) (g:=fun h=>h.cut n) b hn ho (fun _=>rfl) (fun _=>rfl) ?_
  have s1:=Tru.chg (h1:= { (r.hd n) with eras:=(r.hd n).eras.map fun x=>if x.1=o then(x.1,x.2+1) else x,accs:=(r.hd n).accs.filter fun x=>decide (x.1≠o) }) s hn rfl rfl rfl rfl
  exact Tru.chg (n:=o) (h1:= { (upH r.hd n ((r.hd n).cut o) o) with eras:=(upH r.hd n ((r.hd n).cut o) o).eras.map fun x=>if x.1=n then(x.1,x.2+1) else x,accs:=(upH r.hd n ((r.hd n).cut o) o).accs.filter fun x=>decide (x.1≠n) }) s1 ho rfl rfl rfl rfl
theorem TruR.step (b:RB U c r) (s:TruR r) {x:Dd} (hx:r.can x=true):TruR (r.step x):=s.done b hx
end
inductive F2 {α:Type} (R:α→α→Prop):List α→List α→Prop
 | nil:F2 R [] []
 | cons {a b:α} {l m:List α} :R a b→F2 R l m→F2 R (a :: l) (b :: m)
def PRel {α:Type} (R:α→α→Prop) (l l':List α):Prop:= ∃m,F2 R l m∧m.Perm l'
section
variable {α β:Type} {R:α→α→Prop} {S:β→β→Prop} {l l' m m':List α}
theorem F2.map {f g:α→β} (h:F2 R l m) (k:∀a∈l,∀b∈m,R a b→S (f a) (g b)):F2 S (l.map f) (m.map g):=by
 induction h with
 | nil=>exact .nil
 | cons r _ ih=>exact .cons (k _ List.mem_cons_self _ List.mem_cons_self r) (ih fun a ha b hb=>k a (List.mem_cons_of_mem _ ha) b (List.mem_cons_of_mem _ hb))
theorem F2.filter {p q:α→Bool} (h:F2 R l m) (k:∀a b,R a b→p a=q b):F2 R (l.filter p) (m.filter q):=by
 induction h with
 | nil=>exact .nil
 | @cons a b l m r _ ih=>
  have e:=k a b r
  by_cases c:p a=true
  ·rw [List.filter_cons_of_pos c,List.filter_cons_of_pos (e ▸ c)]
   exact .cons r ih
  ·rw [List.filter_cons_of_neg c,List.filter_cons_of_neg (e ▸ c)]
   exact ih
theorem F2.app {m2 l2:List α} (h:F2 R l m) (h2:F2 R l2 m2):F2 R (l ++ l2) (m ++ m2):=by
 induction h with
 | nil=>exact h2
 | cons r _ ih=>exact .cons r ih
theorem F2.eq {l m:List α} (h:F2 (fun a b=>a=b) l m):l=m:=by
 induction h with
 | nil=>rfl
 | cons r _ ih=>rw [r,ih]
theorem F2.find {p:α→Bool} (h:F2 R l m) (k:∀a b,R a b→p a=p b):(l.find? p=none∧m.find? p=none)∨ ∃a b,l.find? p=some a∧m.find? p=some b∧R a b:=by
 induction h with
 | nil=>exact .inl ⟨rfl,rfl⟩
 | @cons a b l m r _ ih=>
  have e:=k a b r
  by_cases c:p a=true
  ·exact .inr ⟨a,b,List.find?_cons_of_pos c,List.find?_cons_of_pos (e ▸ c),r⟩
  ·rw [List.find?_cons_of_neg c,List.find?_cons_of_neg (e ▸ c)]
   exact ih
theorem find_perm {key:α→Str} {z:Str} (p:l.Perm m):(l.map key).Nodup→l.find? (fun x=>decide (key x=z))=m.find? fun x=>decide (key x=z):=by
 have hp:∀(x:α) (l:List α),key x=z→(x :: l).find? (fun x=>decide (key x=z))=some x:=fun x l c=>List.find?_cons_of_pos (p:=fun x=>decide (key x=z)) (decide_eq_true c)
 have hn:∀(x:α) (l:List α),key x≠z→(x :: l).find? (fun x=>decide (key x=z))=l.find? fun x=>decide (key x=z):=fun x l c=>List.find?_cons_of_neg (p:=fun x=>decide (key x=z)) (by simpa using c)
 induction p with
 | nil=>intro _;rfl
 | @cons x l m _ ih=>
  intro nd
  have nd2:=(List.nodup_cons.mp nd).2
  by_cases c:key x=z
  ·rw [hp _ _ c,hp _ _ c]
  ·rw [hn _ _ c,hn _ _ c]
   exact ih nd2
 | @swap x y l=>
  intro nd
  have ne:key y≠key x:=fun e=>(List.nodup_cons.mp nd).1 (by rw [e];exact List.mem_cons_self)
  by_cases c:key y=z
  ·have c2:key x≠z:=fun e=>ne (c.trans e.symm)
   rw [hp _ _ c,hn _ _ c2,hp _ _ c]
  ·by_cases c2:key x=z
   ·rw [hn _ _ c,hp _ _ c2,hp _ _ c2]
   ·rw [hn _ _ c,hn _ _ c2,hn _ _ c2,hn _ _ c]
 | trans p1 _ ih1 ih2=>intro nd;exact(ih1 nd).trans (ih2 ((p1.map _).nodup_iff.mp nd))
theorem PRel.map {f g:α→β} (h:PRel R l l') (k:∀a∈l,∀b∈l',R a b→S (f a) (g b)):PRel S (l.map f) (l'.map g):=by
 obtain⟨m,h1,h2⟩:=h
 exact⟨m.map g,h1.map fun a ha b hb=>k a ha b (h2.mem_iff.mp hb),h2.map g⟩
theorem PRel.filter {p q:α→Bool} (h:PRel R l l') (k:∀a b,R a b→p a=q b):PRel R (l.filter p) (l'.filter q):=by
 obtain⟨m,h1,h2⟩:=h
 exact⟨m.filter q,h1.filter k,h2.filter q⟩
theorem PRel.app {l2 l2':List α} (h:PRel R l l') (h2:PRel R l2 l2'):PRel R (l ++ l2) (l' ++ l2'):=by
 obtain⟨m,a1,a2⟩:=h
 obtain⟨m2,b1,b2⟩:=h2
 exact⟨m ++ m2,a1.app b1,a2.append b2⟩
theorem PRel.perm {l l':List α} (h:PRel (fun a b=>a=b) l l'):l.Perm l':=by
 obtain⟨m,h1,h2⟩:=h
 rw [h1.eq];exact h2
theorem PRel.find {key:α→Str} {z:Str} (h:PRel R l l') (k:∀a b,R a b→key a=key b) (nd:(l'.map key).Nodup):(l.find? (fun x=>decide (key x=z))=none∧l'.find? (fun x=>decide (key x=z))=none)∨ ∃a b,l.find? (fun x=>decide (key x=z))=some a∧l'.find? (fun x=>decide (key x=z))=some b∧R a b:=by
 obtain⟨m,h1,h2⟩:=h
 rw [← find_perm h2 ((h2.map key).nodup_iff.mpr nd)]
 exact h1.find fun a b r=>by rw [k a b r]
end
structure HSim (h h':Hd):Prop where
 called:h.called=h'.called
 life:h.life=h'.life
 version:h.version=h'.version
 own:h.own=h'.own
 heard:h.heard=h'.heard
 eras:h.eras.Perm h'.eras
 accs:h.accs.Perm h'.accs
namespace HSim
variable {h h':Hd}
theorem nms (s:HSim h h'):h.names.Perm h'.names:=s.accs.map _
theorem srt (s:HSim h h'):srtS h.names=srtS h'.names:=srtS_congr s.nms
theorem entry (s:HSim h h'):h.entry=h'.entry:=by
 unfold Hd.entry
 rw [s.called,s.life,s.version,s.own,s.srt]
theorem acc (s:HSim h h') (nd:h.names.Nodup) (z:Str):h.acc z=h'.acc z:=by
 unfold Hd.acc
 rw [find_perm (key:=fun x:Str×Acc=>x.1) s.accs nd]
theorem era (s:HSim h h') (nd:(h.eras.map (·.1)).Nodup) (z:Str):h.era z=h'.era z:=by
 unfold Hd.era
 rw [find_perm (key:=fun x:Str×Int=>x.1) s.eras nd]
theorem stamp (s:HSim h h') (nd:(h.eras.map (·.1)).Nodup) (z:Str):h.stamp z=h'.stamp z:=by
 unfold Hd.stamp
 rw [s.life,s.era nd z]
theorem written (s:HSim h h'):HSim h.written h'.written:=⟨s.called,s.life,s.version,s.own,by show mrg [h.entry] h.heard=mrg [h'.entry] h'.heard;rw [s.entry,s.heard],s.eras,s.accs⟩
theorem changed (s:HSim h h'):HSim h.changed h'.changed:=by
 unfold Hd.changed
 exact written ⟨s.called,s.life,by show h.version+1=h'.version+1;rw [s.version],s.own,s.heard,s.eras,s.accs⟩
theorem setOwn (s:HSim h h') (ns:List Int):HSim (h.setOwn ns) (h'.setOwn ns):=by
 unfold Hd.setOwn
 exact changed ⟨s.called,s.life,s.version,rfl,s.heard,s.eras,s.accs⟩
theorem tie (s:HSim h h') (z:Str):HSim (h.tie z) (h'.tie z):=by
 unfold Hd.tie
 refine changed ⟨s.called,s.life,s.version,s.own,s.heard,?_,?_⟩
 ·have e:z∈h.eras.map (·.1)↔z∈h'.eras.map (·.1):=(s.eras.map _).mem_iff
  show(if z∈h.eras.map (·.1) then h.eras else h.eras ++ [(z,0)]).Perm (if z∈h'.eras.map (·.1) then h'.eras else h'.eras ++ [(z,0)])
  by_cases c:z∈h.eras.map (·.1)
  ·rw [if_pos c,if_pos (e.mp c)];exact s.eras
  ·rw [if_neg c,if_neg fun x=>c (e.mpr x)];exact s.eras.append_right _
 ·show(h.accs ++ [(z,acc0 h.own.length none)]).Perm (h'.accs ++ [(z,acc0 h'.own.length none)])
  rw [s.own];exact s.accs.append_right _
theorem cut (s:HSim h h') (z:Str):HSim (h.cut z) (h'.cut z):=by
 unfold Hd.cut
 exact changed ⟨s.called,s.life,s.version,s.own,s.heard,s.eras.map _,s.accs.filter _⟩
theorem fresh (s:HSim h h'):HSim h.fresh h'.fresh:=by
 have e:h.fresh=h'.fresh:=by
  have e1:({ h with life:=h.life+1,version:=1,eras:=(srtS h.names).map fun z=>(z,0),accs:=(srtS h.names).map fun z=>(z,acc0 h.own.length none) } :Hd)= { h' with life:=h'.life+1,version:=1,eras:=(srtS h'.names).map fun z=>(z,0),accs:=(srtS h'.names).map fun z=>(z,acc0 h'.own.length none) } :=by
   rw [s.srt,s.own,s.life,s.called,s.heard]
  exact congrArg (fun k:Hd=>({ k with heard:= [k.entry] } :Hd)) e1
 rw [e]
 exact⟨rfl,rfl,rfl,rfl,rfl,.refl _,.refl _⟩
theorem letter (s:HSim h h') (nd:h.names.Nodup) (nde:(h.eras.map (·.1)).Nodup) (z:Str):h.letter z=h'.letter z:=by
 unfold Hd.letter
 rw [s.acc nd z,s.called,s.stamp nde z,s.heard]
theorem opens (s:HSim h h') (nd:h.names.Nodup):h.opens=h'.opens:=by
 unfold Hd.opens
 rw [s.srt]
 exact List.filter_congr fun z _=>by rw [s.acc nd z]
theorem updF {l l':List (Str×Acc)} (f:Acc→Acc):∀ {os:List Str},l.Perm l'→(os.foldl (fun l z=>updA l z f) l).Perm (os.foldl (fun l z=>updA l z f) l')
 :=fun {os} =>by
 induction os generalizing l l' with
 | nil=>exact id
 | cons o os ih=>intro p;exact ih (p.map _)
theorem turned (s:HSim h h') (nd:h.names.Nodup) (hh:h.held=h'.held):HSim h.turned h'.turned:=by
 have e:h.share=h'.share:=by unfold Hd.share;rw [hh,s.opens nd]
 refine⟨s.called,s.life,s.version,s.own,s.heard,s.eras,?_⟩
 show(h.opens.foldl _ h.accs).Perm (h'.opens.foldl _ h'.accs)
 rw [s.opens nd,e]
 exact updF _ s.accs
theorem letters (s:HSim h h') (nd:h.names.Nodup) (nde:(h.eras.map (·.1)).Nodup) (hh:h.held=h'.held):h.letters=h'.letters:=by
 unfold Hd.letters
 rw [s.srt]
 have t:=s.turned nd hh
 exact List.map_congr_left fun z _=>t.letter (by rw [turned_names];exact nd) nde z
theorem take (s:HSim h h') (nd:h.names.Nodup) (nde:(h.eras.map (·.1)).Nodup) (l:Lt):(h.take l).1=(h'.take l).1∧HSim (h.take l).2 (h'.take l).2:=by
 unfold Hd.take
 rw [s.acc nd l.one,s.stamp nde l.one]
 have fin:∀a:Acc,(if l.seen=some (h'.stamp l.one)∧(a.hear l.stamp).takes < l.gifts then(("taken" :Str),({ h with accs:=updA h.accs l.one fun _=> { a.hear l.stamp with takes:=l.gifts,taken:=l.given },heard:=mrg h.heard l.roll } :Hd)) else(("heard" :Str),{ h with accs:=updA h.accs l.one fun _=>a.hear l.stamp,heard:=mrg h.heard l.roll })).1=(if l.seen=some (h'.stamp l.one)∧(a.hear l.stamp).takes < l.gifts then(("taken" :Str),({ h' with accs:=updA h'.accs l.one fun _=> { a.hear l.stamp with takes:=l.gifts,taken:=l.given },heard:=mrg h'.heard l.roll } :Hd)) else(("heard" :Str),{ h' with accs:=updA h'.accs l.one fun _=>a.hear l.stamp,heard:=mrg h'.heard l.roll })).1∧HSim (if l.seen=some (h'.stamp l.one)∧(a.hear l.stamp).takes < l.gifts then(("taken" :Str),({ h with accs:=updA h.accs l.one fun _=> { a.hear l.stamp with takes:=l.gifts,taken:=l.given },heard:=mrg h.heard l.roll } :Hd)) else(("heard" :Str),{ h with accs:=updA h.accs l.one fun _=>a.hear l.stamp,heard:=mrg h.heard l.roll })).2 (if l.seen=some (h'.stamp l.one)∧(a.hear l.stamp).takes < l.gifts then(("taken" :Str),({ h' with accs:=updA h'.accs l.one fun _=> { a.hear l.stamp with takes:=l.gifts,taken:=l.given },heard:=mrg h'.heard l.roll } :Hd)) else(("heard" :Str),{ h' with accs:=updA h'.accs l.one fun _=>a.hear l.stamp,heard:=mrg h'.heard l.roll })).2:=fun a=>by
  by_cases hC:l.seen=some (h'.stamp l.one)∧(a.hear l.stamp).takes < l.gifts
  ·rw [if_pos hC,if_pos hC]
   exact⟨rfl,s.called,s.life,s.version,s.own,by show mrg h.heard l.roll=mrg h'.heard l.roll;rw [s.heard],s.eras,s.accs.map _⟩
  ·rw [if_neg hC,if_neg hC]
   exact⟨rfl,s.called,s.life,s.version,s.own,by show mrg h.heard l.roll=mrg h'.heard l.roll;rw [s.heard],s.eras,s.accs.map _⟩
 cases h'.acc l.one with
 | none=>exact⟨rfl,s⟩
 | some a=>
  obtain⟨many,seen,gifts,given,takes,taken⟩:=a
  cases seen with
  | none=>
   have:=fin ⟨many,none,gifts,given,takes,taken⟩
   exact this
  | some st=>
   have:=fin ⟨many,some st,gifts,given,takes,taken⟩
   dsimp only
   by_cases hB:stLt l.stamp st=true
   ·rw [if_pos hB,if_pos hB];exact⟨rfl,s⟩
   ·rw [if_neg hB,if_neg hB];exact this
end HSim
theorem held_fold {N n:Nat} :∀(l:List (Str×Acc)) (row:Rw),RE N n row→RCn row→(∀a∈l,RE N n a.2.taken∧RE N n a.2.given)→RE N n (l.foldl (fun row a=>rless (rplus row a.2.taken) a.2.given) row)∧RCn (l.foldl (fun row a=>rless (rplus row a.2.taken) a.2.given) row)∧ ∀i,cv N (l.foldl (fun row a=>rless (rplus row a.2.taken) a.2.given) row) i=cv N row i+sm (fun a:Str×Acc=>cv N a.2.taken i - cv N a.2.given i) l
 | [],row,h1,h2,_=>⟨h1,h2,fun i=>(Int.add_zero _).symm⟩
 | a :: l,row,h1,h2,h=>by
  obtain⟨ht,hg⟩:=h a List.mem_cons_self
  obtain⟨p1,p2,p3⟩:=h1.plus ht
  obtain⟨q1,q2,q3⟩:=p1.less hg
  obtain⟨j1,j2,j3⟩:=held_fold l _ q1 q2 fun b hb=>h b (List.mem_cons_of_mem _ hb)
  refine⟨j1,j2,fun i=> ?_⟩
  have:=j3 i
  rw [q3,p3] at this
  simp only [sm,List.foldl_cons]
  rw [this]
  omega
theorem HSim.held {U:List Str} {n c:Nat} {h h':Hd} (s:HSim h h') (b:HB U n c h) (b':HB U n c h'):h.held=h'.held:=by
 have re:∀ {h:Hd},HB U n c h→ ∀a∈h.accs,RE (5*c) n a.2.taken∧RE (5*c) n a.2.given:=fun b a ha=>by
  obtain⟨_,l1,l2,s1,s2⟩:=b.acc a ha
  exact⟨⟨l2,fun x hx=>(s2 x hx).1⟩,l1,fun x hx=>(s1 x hx).1⟩
 obtain⟨o1,o2⟩:=RE.own (5*c) b.len
 obtain⟨o1',o2'⟩:=RE.own (5*c) b'.len
 obtain⟨h1,h2,h3⟩:=held_fold h.accs _ o1 o2 (re b)
 obtain⟨k1,k2,k3⟩:=held_fold h'.accs _ o1' o2' (re b')
 refine RE.ext h1 k1 h2 k2 fun i=> ?_
 show cv _ (h.accs.foldl (fun row a=>rless (rplus row a.2.taken) a.2.given) (rown h.own)) i=cv _ (h'.accs.foldl (fun row a=>rless (rplus row a.2.taken) a.2.given) (rown h'.own)) i
 rw [h3,k3,s.own,sm_perm s.accs]
def HS (x y:Hd×Bool):Prop:=HSim x.1 y.1∧x.2=y.2
structure RSim (r r':Rn):Prop where
 size:r.size=r'.size
 post:r.post=r'.post
 rows:r.rows=r'.rows
 known:∀z,z∈r.known↔z∈r'.known
 hs:PRel HS r.hs r'.hs
section
variable {U:List Str} {c:Nat} {r r':Rn}
theorem RSim.nms (s:RSim r r'):r.names.Perm r'.names:=by
 have:PRel (fun a b:Str=>a=b) (r.hs.map fun x=>x.1.called) (r'.hs.map fun x=>x.1.called):=s.hs.map fun a _ b _ h=>h.1.called
 exact this.perm
theorem RSim.mem (s:RSim r r') (z:Str):z∈r.names↔z∈r'.names:=s.nms.mem_iff
theorem RSim.len (s:RSim r r'):r.hs.length=r'.hs.length:=by
 have:=s.nms.length_eq
 unfold Rn.names at this
 rw [List.length_map,List.length_map] at this
 exact this
theorem RSim.get (s:RSim r r') (nd:r'.names.Nodup) (z:Str):(r.get z=none∧r'.get z=none)∨ ∃x y,r.get z=some x∧r'.get z=some y∧HS x y:=s.hs.find (key:=fun x:Hd×Bool=>x.1.called) (fun a b h=>h.1.called) nd
theorem RSim.isUp (s:RSim r r') (nd:r'.names.Nodup) (z:Str):r.isUp z=r'.isUp z:=by
 unfold Rn.isUp
 rcases s.get nd z with⟨h1,h2⟩ | ⟨x,y,h1,h2,h⟩
 ·rw [h1,h2]
 ·rw [h1,h2];exact h.2
theorem RSim.tied (s:RSim r r') (nd:r'.names.Nodup) (n o:Str):r.tied n o=r'.tied n o:=by
 unfold Rn.tied
 rcases s.get nd n with⟨h1,h2⟩ | ⟨x,y,h1,h2,h⟩
 ·rw [h1,h2]
 ·rw [h1,h2]
  show decide (o∈x.1.names)=decide (o∈y.1.names)
  exact decide_eq_decide.mpr h.1.nms.mem_iff
theorem RSim.hd (s:RSim r r') (nd:r'.names.Nodup) {z:Str} (hz:z∈r.names) (ndr:r.names.Nodup):HSim (r.hd z) (r'.hd z):=by
 obtain⟨x0,hx0⟩:=rget_mem ndr hz
 rcases s.get nd z with⟨h1,h2⟩ | ⟨x,y,h1,h2,h⟩
 ·rw [h1] at hx0;cases hx0
 ·rw [hd_of h1,hd_of h2];exact h.1
theorem RSim.can (s:RSim r r') (nd:r'.names.Nodup) (x:Dd):r.can x=r'.can x:=by
 have dm:∀z,decide (z∈r.names)=decide (z∈r'.names):=fun z=>decide_eq_decide.mpr (s.mem z)
 cases x with
 | come k=>show decide (k < r.post.length)=decide (k < r'.post.length);rw [s.post]
 | join n ns=>
  show(!decide (n∈r.known) && decide (r.hs.length < 8) && decide (ns.length=r.size))=(!decide (n∈r'.known) && decide (r'.hs.length < 8) && decide (ns.length=r'.size))
  rw [decide_eq_decide.mpr (s.known n),s.len,s.size]
 | turn n=>show(decide (n∈r.names) && r.isUp n)=_;rw [dm,s.isUp nd];rfl
 | fall n=>show(decide (n∈r.names) && r.isUp n)=_;rw [dm,s.isUp nd];rfl
 | back n=>show(decide (n∈r.names) && !r.isUp n)=_;rw [dm,s.isUp nd];rfl
 | set n ns=>show(decide (n∈r.names) && decide (ns.length=r.size))=_;rw [dm,s.size];rfl
 | tie n o=>show(decide (n∈r.names) && decide (o∈r.names) && !decide (o=n) && !r.tied n o)=_;rw [dm,dm,s.tied nd];rfl
 | cut n o=>show(decide (n∈r.names) && decide (o∈r.names) && !decide (o=n) && r.tied n o)=_;rw [dm,dm,s.tied nd];rfl
 | fresh n=>exact dm n
 | leave n=>exact dm n
theorem RSim.updIf (s:RSim r r') (z:Str) {f g:Hd→Hd} (h:∀x∈r.hs,∀y∈r'.hs,HSim x.1 y.1→x.1.called=z→HSim (f x.1) (g y.1)):PRel HS (r.upd z f).hs (r'.upd z g).hs:=by
 refine s.hs.map fun x hx y hy e=> ?_
 by_cases c:x.1.called=z
 ·rw [if_pos c,if_pos (e.1.called ▸ c)]
  exact⟨h x hx y hy e.1 c,e.2⟩
 ·rw [if_neg c,if_neg (e.1.called ▸ c)]
  exact e
theorem RSim.upd (s:RSim r r') (z:Str) {f:Hd→Hd} (h:∀ {x y:Hd},HSim x y→HSim (f x) (f y)):RSim (r.upd z f) (r'.upd z f):=⟨s.size,s.post,s.rows,s.known,s.updIf z fun _ _ _ _ e _=>h e⟩
theorem RSim.setUp (s:RSim r r') (z:Str) (b:Bool):RSim (r.setUp z b) (r'.setUp z b):=by
 refine⟨s.size,s.post,s.rows,s.known,s.hs.map fun x _ y _ e=> ?_⟩
 by_cases c:x.1.called=z
 ·rw [if_pos c,if_pos (e.1.called ▸ c)]
  exact⟨e.1,rfl⟩
 ·rw [if_neg c,if_neg (e.1.called ▸ c)]
  exact e
theorem RSim.row (s:RSim r r') (x:Dd×Wh):RSim { r with rows:=r.rows ++ [x] } { r' with rows:=r'.rows ++ [x] } :=⟨s.size,s.post,by show r.rows ++ [x]=r'.rows ++ [x];rw [s.rows],s.known,s.hs⟩
theorem RSim.come (b:RB U c r) (b':RB U c r') (s:RSim r r') (l:Lt):(r.come l).1=(r'.come l).1∧RSim (r.come l).2 (r'.come l).2:=by
 unfold Rn.come
 rcases s.get b'.nd l.other with⟨h1,h2⟩ | ⟨x,y,h1,h2,h⟩
 ·rw [h1,h2];exact⟨rfl,s⟩
 ·rw [h1,h2]
  have hb:=b.hb x (rget_some h1).1
  have ec:(x.2=true∧l.one∈x.1.names)↔(y.2=true∧l.one∈y.1.names):=by rw [h.2,h.1.nms.mem_iff]
  dsimp only
  by_cases cnd:x.2=true∧l.one∈x.1.names
  ·rw [if_pos cnd,if_pos (ec.mp cnd)]
   refine⟨(h.1.take hb.nd hb.nde l).1,s.size,s.post,s.rows,s.known,s.updIf l.other fun u hu v _ e _=> ?_⟩
   have hu:=b.hb u hu
   exact(e.take hu.nd hu.nde l).2
  ·rw [if_neg cnd,if_neg fun z=>cnd (ec.mpr z)]
   exact⟨rfl,s⟩
theorem RSim.done (b:RB U c r) (b':RB U c r') (s:RSim r r') (x:Dd):(r.done x).1=(r'.done x).1∧RSim (r.done x).2 (r'.done x).2:=by
 cases x with
 | turn n=>
  rcases s.get b'.nd n with⟨h1,h2⟩ | ⟨u,v,h1,h2,h⟩
  ·simp only [Rn.done,h1,h2];exact⟨trivial,s⟩
  ·rw [done_turn h1,done_turn h2]
   have hb:=b.hb u (rget_some h1).1
   have hb':=b'.hb v (rget_some h2).1
   rw [← s.size] at hb'
   have el:=h.1.letters hb.nd hb.nde (h.1.held hb hb')
   refine⟨congrArg Wh.letters el,s.size,?_,s.rows,s.known,s.updIf n fun p hp q hq e _=> ?_⟩
   ·show r.post ++ u.1.letters=r'.post ++ v.1.letters
    rw [s.post,el]
   ·have hp:=b.hb p hp
    have hq:=b'.hb q hq
    rw [← s.size] at hq
    exact e.turned hp.nd (e.held hp hq)
 | come k=>
  cases hk:r.post[k]? with
  | none=>
   have hk':r'.post[k]? =none:=by rw [← s.post];exact hk
   simp only [Rn.done,hk,hk'];exact⟨trivial,s⟩
  | some l=>
   rw [done_come hk,done_come (by rw [← s.post];exact hk)]
   have:=s.come b b' l
   exact⟨congrArg Wh.word this.1,this.2⟩
 | join n ns=>exact⟨rfl,s.size,s.post,s.rows,fun z=>by
   show z∈r.known ++ [n]↔z∈r'.known ++ [n]
   rw [List.mem_append,List.mem_append,s.known z],s.hs.app ⟨_,.cons ⟨⟨rfl,rfl,rfl,rfl,rfl,.refl _,.refl _⟩,rfl⟩ .nil,.refl _⟩⟩
 | set n ns=>exact⟨rfl,s.upd n fun e=>e.setOwn ns⟩
 | tie n o=>exact⟨rfl,(s.upd n fun e=>e.tie o).upd o fun e=>e.tie n⟩
 | cut n o=>exact⟨rfl,(s.upd n fun e=>e.cut o).upd o fun e=>e.cut n⟩
 | leave n=>
  rcases s.get b'.nd n with⟨h1,h2⟩ | ⟨u,v,h1,h2,h⟩
  ·simp only [Rn.done,h1,h2];exact⟨trivial,s⟩
  ·simp only [Rn.done,h1,h2]
   refine⟨trivial,s.size,s.post,s.rows,s.known,(s.hs.filter fun a b e=>by rw [e.1.called]).map fun p _ q _ e=> ?_⟩
   have em:p.1.called∈u.1.names↔q.1.called∈v.1.names:=by rw [e.1.called];exact h.1.nms.mem_iff
   by_cases cnd:p.1.called∈u.1.names
   ·rw [if_pos cnd,if_pos (em.mp cnd)];exact⟨e.1.cut n,e.2⟩
   ·rw [if_neg cnd,if_neg fun z=>cnd (em.mpr z)];exact e
 | fall n=>exact⟨rfl,s.setUp n false⟩
 | back n=>exact⟨rfl,s.setUp n true⟩
 | fresh n=>exact⟨rfl,(s.setUp n true).upd n fun e=>e.fresh⟩
theorem RSim.step (b:RB U c r) (b':RB U c r') (s:RSim r r') (x:Dd):RSim (r.step x) (r'.step x):=by
 obtain⟨h1,h2⟩:=s.done b b' x
 refine⟨h2.size,h2.post,?_,h2.known,h2.hs⟩
 rw [step_rows,step_rows,s.rows,h1]
end
section
variable {U:List Str} {c:Nat} {r r':Rn}
theorem RSim.srt (s:RSim r r'):srtS r.names=srtS r'.names:=srtS_congr s.nms
end
def Rn.turns (r:Rn) (ns:List Str):Rn:=ns.foldl (fun r n=>r.step (.turn n)) r
def Rn.comes (r:Rn) (ks:List Nat):Rn:=ks.foldl (fun r k=>r.step (.come k)) r
def Rn.ups (r:Rn):List Str:=(srtS r.names).filter r.isUp
def from_ (p n:Nat):List Nat:=(List.range n).map (p+ ·)
def Rn.round (r:Rn):Rn:=(r.turns r.ups).comes (from_ r.post.length ((r.turns r.ups).post.length - r.post.length))
/-- what a run has more than another one -/
structure More (r ri:Rn) (new:List (Dd×Wh)):Prop where
 sm:Same r ri
 rows:ri.rows=r.rows ++ new
theorem More.refl (r:Rn):More r r []:=⟨.refl r,(List.append_nil _).symm⟩
theorem More.step {r ri:Rn} {new:List (Dd×Wh)} (m:More r ri new) {x:Dd} (s:Same ri (ri.step x)):More r (ri.step x) (new ++ [(x,(ri.done x).1)]):=⟨m.sm.trans s,by rw [step_rows,m.rows,List.append_assoc]⟩
def lens (new:List (Dd×Wh)):Nat:=(new.map fun w=>w.2.many).sum
theorem lens_app (a b:List (Dd×Wh)):lens (a ++ b)=lens a+lens b:=by
 unfold lens
 rw [List.map_append,List.sum_append_nat]
/-- turns of some that are up -/
theorem RG.turns {U:List Str} {r:Rn} :∀(ns:List Str) {c:Nat} {ri:Rn} {new:List (Dd×Wh)},RG U c ri→More r ri new→c+ns.length≤20000→(∀n∈ns,n∈r.names∧r.isUp n=true)→RG U (c+ns.length) (ri.turns ns)∧ ∃new2,More r (ri.turns ns) (new ++ new2)∧lens new2+ri.post.length=(ri.turns ns).post.length∧(∀w∈new2,∃z ls,w=(Dd.turn z,Wh.letters ls))∧new2.length=ns.length∧lens new2≤8*ns.length
 | [],c,ri,new,g,m,_,_=>⟨g,[],by rw [List.append_nil];exact m,Nat.zero_add _,(fun w hw=>nomatch hw),rfl,Nat.zero_le _⟩
 | n :: ns,c,ri,new,g,m,hc,h=>by
  have hc:c+(ns.length+1)≤20000:=hc
  obtain⟨h1,h2⟩:=h n List.mem_cons_self
  have hn:n∈ri.names:=by rw [m.sm.names];exact h1
  have hu:ri.isUp n=true:=by rw [m.sm.up];exact h2
  have can:=can_turn hn hu
  obtain⟨t1,t2,t3,t4,t5⟩:=turn_is g.b hn
  have sm:=Same.turn g.b hn
  obtain⟨k1,new2,k2,k3,k4,k5,k6⟩:=RG.turns ns (g.step (by omega) can trivial) (m.step sm) (by omega) fun y hy=>h y (List.mem_cons_of_mem _ hy)
  have lL:(ri.hd n).letters.length≤8:=by
   obtain⟨x,gx,ehd,hx,_⟩:=hd_at g.b.nd hn
   rw [ehd];exact letters_len g.b hx
  refine⟨by rw [show c+(n :: ns).length=c+1+ns.length by rw [List.length_cons];omega];exact k1,(Dd.turn n,(ri.done (.turn n)).1) :: new2,by rw [List.append_assoc] at k2;exact k2,?_,fun w hw=> ?_,by rw [List.length_cons,List.length_cons,k5],?_⟩
  ·show lens ([(Dd.turn n,(ri.done (.turn n)).1)] ++ new2)+_=_
   rw [lens_app]
   show _=((ri.step (.turn n)).turns ns).post.length
   rw [← k3,t2,List.length_append,t3]
   show(ri.hd n).letters.length+0+lens new2+_=_
   omega
  ·rcases List.mem_cons.mp hw with e | hw
   ·exact⟨n,_,by rw [e,t3]⟩
   ·exact k4 w hw
  ·show lens ([(Dd.turn n,(ri.done (.turn n)).1)] ++ new2)≤8*(ns.length+1)
   rw [lens_app,t3]
   show(ri.hd n).letters.length+0+lens new2≤_
   omega
theorem RG.comes {U:List Str} {r:Rn} :∀(ks:List Nat) {c:Nat} {ri:Rn} {new:List (Dd×Wh)},RG U c ri→More r ri new→c+ks.length≤20000→(∀k∈ks,k < ri.post.length)→RG U (c+ks.length) (ri.comes ks)∧ ∃new2,More r (ri.comes ks) (new ++ new2)∧(ri.comes ks).post=ri.post∧new2.length=ks.length
 | [],c,ri,new,g,m,_,_=>⟨g,[],by rw [List.append_nil];exact m,rfl,rfl⟩
 | k :: ks,c,ri,new,g,m,hc,h=>by
  have hc:c+(ks.length+1)≤20000:=hc
  have hk:=h k List.mem_cons_self
  have sm:=Same.come g.b hk
  have po:(ri.step (.come k)).post=ri.post:=(come_is g.b (List.getElem?_eq_getElem hk)).2.1
  obtain⟨k1,new2,k2,k3,k5⟩:=RG.comes ks (g.step (by omega) (can_come hk) trivial) (m.step sm) (by omega) fun y hy=>by rw [po];exact h y (List.mem_cons_of_mem _ hy)
  refine⟨by rw [show c+(k :: ks).length=c+1+ks.length by rw [List.length_cons];omega];exact k1,(Dd.come k,(ri.done (.come k)).1) :: new2,by rw [List.append_assoc] at k2;exact k2,?_,by rw [List.length_cons,List.length_cons,k5]⟩
  show((ri.step (.come k)).comes ks).post=_
  rw [k3,po]
theorem ups_len {U:List Str} {c:Nat} {r:Rn} (b:RB U c r):r.ups.length≤8:=by
 unfold Rn.ups
 refine Nat.le_trans (List.length_filter_le _ _) ?_
 rw [(srtS_perm _).length_eq]
 unfold Rn.names
 rw [List.length_map];exact b.few
theorem ups_mem {r:Rn} {n:Str} (h:n∈r.ups):n∈r.names∧r.isUp n=true:=by
 obtain⟨h1,h2⟩:=List.mem_filter.mp h
 exact⟨(srtS_perm _).mem_iff.mp h1,h2⟩
theorem RG.round {U:List Str} {c:Nat} {r:Rn} (g:RG U c r) (hc:c≤10000):RG U (c+72) r.round∧Same r r.round:=by
 have l8:=ups_len g.b
 obtain⟨k1,new,k2,k3,k4,k5,k6⟩:=RG.turns r.ups g (More.refl r) (by omega) fun n hn=>ups_mem hn
 have lf:(from_ r.post.length ((r.turns r.ups).post.length - r.post.length)).length≤64:=by
  unfold from_
  rw [List.length_map,List.length_range];omega
 obtain⟨j1,new2,j2,j3,j4⟩:=RG.comes (from_ r.post.length ((r.turns r.ups).post.length - r.post.length)) k1 k2 (by omega) fun k hk=>by
  unfold from_ at hk
  obtain⟨i,hi,rfl⟩:=List.mem_map.mp hk
  have:=List.mem_range.mp hi
  omega
 exact⟨j1.le (by omega),j2.sm⟩
theorem RSim.turns {U:List Str} :∀(ns:List Str) {c:Nat} {r r':Rn},RG U c r→RG U c r'→RSim r r'→c+ns.length≤20000→(∀n∈ns,n∈r.names∧r.isUp n=true)→RSim (r.turns ns) (r'.turns ns)
 | [],_,_,_,_,_,s,_,_=>s
 | n :: ns,c,r,r',g,g',s,hc,h=>by
  have hc:c+(ns.length+1)≤20000:=hc
  obtain⟨h1,h2⟩:=h n List.mem_cons_self
  have can:=can_turn h1 h2
  have can':r'.can (.turn n)=true:=by rw [← s.can g'.b.nd];exact can
  have sm:=Same.turn g.b h1
  exact RSim.turns ns (g.step (by omega) can trivial) (g'.step (by omega) can' trivial) (s.step g.b g'.b _) (by omega) fun y hy=>by rw [sm.names,sm.up];exact h y (List.mem_cons_of_mem _ hy)
theorem RSim.comes {U:List Str} :∀(ks:List Nat) {c:Nat} {r r':Rn},RG U c r→RG U c r'→RSim r r'→c+ks.length≤20000→(∀k∈ks,k < r.post.length)→RSim (r.comes ks) (r'.comes ks)
 | [],_,_,_,_,_,s,_,_=>s
 | k :: ks,c,r,r',g,g',s,hc,h=>by
  have hc:c+(ks.length+1)≤20000:=hc
  have hk:=h k List.mem_cons_self
  have can':r'.can (.come k)=true:=by rw [← s.can g'.b.nd];exact can_come hk
  have po:(r.step (.come k)).post=r.post:=(come_is g.b (List.getElem?_eq_getElem hk)).2.1
  exact RSim.comes ks (g.step (by omega) (can_come hk) trivial) (g'.step (by omega) can' trivial) (s.step g.b g'.b _) (by omega) fun y hy=>by rw [po];exact h y (List.mem_cons_of_mem _ hy)
theorem RSim.round {U:List Str} {c:Nat} {r r':Rn} (g:RG U c r) (g':RG U c r') (s:RSim r r') (hc:c≤10000):RSim r.round r'.round:=by
 have l8:=ups_len g.b
 have eu:r'.ups=r.ups:=by
  unfold Rn.ups
  rw [s.srt]
  exact List.filter_congr fun z _=>(s.isUp g'.b.nd z).symm
 have st:=RSim.turns r.ups g g' s (by omega) fun n hn=>ups_mem hn
 obtain⟨k1,new,k2,k3,k4,k5,k6⟩:=RG.turns r.ups g (More.refl r) (by omega) fun n hn=>ups_mem hn
 obtain⟨k1',_⟩:=RG.turns r.ups g' (More.refl r') (by omega) fun n hn=>by rw [← eu] at hn;exact ups_mem hn
 unfold Rn.round
 rw [eu,← st.post,← s.post]
 have lf:(from_ r.post.length ((r.turns r.ups).post.length - r.post.length)).length≤64:=by
  unfold from_
  rw [List.length_map,List.length_range];omega
 refine RSim.comes _ k1 k1' st (by omega) fun k hk=> ?_
 unfold from_ at hk
 obtain⟨i,hi,rfl⟩:=List.mem_map.mp hk
 have:=List.mem_range.mp hi
 omega
theorem TxR.turns {U:List Str} :∀(ns:List Str) {c:Nat} {r:Rn},RG U c r→TxR r→c+ns.length≤20000→(∀n∈ns,n∈r.names∧r.isUp n=true)→TxR (r.turns ns)
 | [],_,_,_,t,_,_=>t
 | n :: ns,c,r,g,t,hc,h=>by
  have hc:c+(ns.length+1)≤20000:=hc
  obtain⟨h1,h2⟩:=h n List.mem_cons_self
  have can:=can_turn h1 h2
  have sm:=Same.turn g.b h1
  exact TxR.turns ns (g.step (by omega) can trivial) (t.step g.b can (t.nm n h1)) (by omega) fun y hy=>by rw [sm.names,sm.up];exact h y (List.mem_cons_of_mem _ hy)
theorem TxR.comes {U:List Str} :∀(ks:List Nat) {c:Nat} {r:Rn},RG U c r→TxR r→c+ks.length≤20000→(∀k∈ks,k < r.post.length)→TxR (r.comes ks)
 | [],_,_,_,t,_,_=>t
 | k :: ks,c,r,g,t,hc,h=>by
  have hc:c+(ks.length+1)≤20000:=hc
  have hk:=h k List.mem_cons_self
  have po:(r.step (.come k)).post=r.post:=(come_is g.b (List.getElem?_eq_getElem hk)).2.1
  exact TxR.comes ks (g.step (by omega) (can_come hk) trivial) (t.step g.b (can_come hk) trivial) (by omega) fun y hy=>by rw [po];exact h y (List.mem_cons_of_mem _ hy)
theorem TxR.round {U:List Str} {c:Nat} {r:Rn} (g:RG U c r) (t:TxR r) (hc:c≤10000):TxR r.round:=by
 have l8:=ups_len g.b
 obtain⟨k1,new,k2,k3,k4,k5,k6⟩:=RG.turns r.ups g (More.refl r) (by omega) fun n hn=>ups_mem hn
 have lf:(from_ r.post.length ((r.turns r.ups).post.length - r.post.length)).length≤64:=by
  unfold from_
  rw [List.length_map,List.length_range];omega
 refine TxR.comes _ k1 (t.turns r.ups g (by omega) fun n hn=>ups_mem hn) (by omega) fun k hk=> ?_
 unfold from_ at hk
 obtain⟨i,hi,rfl⟩:=List.mem_map.mp hk
 have:=List.mem_range.mp hi
 omega
inductive Reach (r:Rn) (a:Str):Str→Prop
 | here:Reach r a a
 | step {x y:Str} (h:Reach r a x) (hy:y∈(r.hd x).names):Reach r a y
def Know (r:Rn) (a z:Str):Prop:=(r.hd z).entry∈(r.hd a).heard
/-- a letter that tells of a hand is on its way -/
def Sent (r:Rn) (b a z:Str) (l:Lt):Prop:=l∈r.post∧l.one=b∧l.other=a∧l.stamp=(r.hd b).stamp a∧(r.hd z).entry∈l.roll
/-- all that is asked of a run here -/
structure RT (U:List Str) (c:Nat) (r:Rn):Prop where
 g:RG U c r
 t:TruR r
theorem RT.step {U:List Str} {c:Nat} {r:Rn} (h:RT U c r) (hc:c≤20000) {x:Dd} (hx:r.can x=true) (ok:x.okU U):RT U (c+1) (r.step x):=⟨h.g.step hc hx ok,h.t.step h.g.b hx⟩
theorem RT.le {U:List Str} {c c':Nat} {r:Rn} (h:RT U c r) (hc:c≤c'):RT U c' r:=⟨h.g.le hc,h.t⟩
theorem take_merge {h:Hd} {l:Lt} {A:Acc} (hA:h.acc l.one=some A) (hs:∀x,A.seen=some x→¬ stL l.stamp x):(h.take l).2.heard=mrg h.heard l.roll:=by
 unfold Hd.take
 rw [hA]
 obtain⟨many,seen,gifts,given,takes,taken⟩:=A
 cases seen with
 | none=>
  dsimp only
  repeat' split
  all_goals first | rfl | (next h=>exact absurd h (by decide))
 | some st=>
  have: ¬ stLt l.stamp st=true:=fun h=>hs st rfl (stLt_iff.mp h)
  dsimp only
  rw [if_neg this]
  split <;> rfl
section
variable {U:List Str} {c:Nat} {r:Rn} {a b z n:Str} {k:Nat} {l:Lt}
theorem turn_entry (g:RB U c r) (hn:n∈r.names) (y:Str):((r.step (.turn n)).hd y).entry=(r.hd y).entry∧((r.step (.turn n)).hd y).heard=(r.hd y).heard:=by
 rw [(turn_is g hn).1]
 by_cases e:y=n
 ·subst e
  rw [upH_same]
  refine⟨?_,rfl⟩
  unfold Hd.entry
  rw [turned_names];rfl
 ·rw [upH_ne e];exact⟨rfl,rfl⟩
theorem come_entry (g:RB U c r) (hk:r.post[k]? =some l) (y:Str):((r.step (.come k)).hd y).entry=(r.hd y).entry:=by
 rcases(come_is g hk).1 with⟨e,_⟩ | ⟨_,_,e⟩
 ·rw [e]
 ·rw [e]
  by_cases e2:y=l.other
  ·subst e2;rw [upH_same];exact(take_entry _ l).1
  ·rw [upH_ne e2]
theorem mrg_know (t:TruR r) (hz:z∈r.names) {es fs:List En} (h:(r.hd z).entry∈es∨(r.hd z).entry∈fs) (ho:∀f,f∈es∨f∈fs→f.nm=z→Old (r.hd z) f):(r.hd z).entry∈mrg es fs:=by
 refine mrg_in h fun f hf fn=> ?_
 have e:(r.hd z).entry.nm=z:=t.nm z hz
 rw [e] at fn
 exact ho f hf fn
theorem Know.turn (g:RB U c r) (hn:n∈r.names) (h:Know r a z):Know (r.step (.turn n)) a z:=by
 unfold Know
 rw [(turn_entry g hn z).1,(turn_entry g hn a).2];exact h
theorem Know.come (h:RT U c r) (hk:k < r.post.length) (hz:z∈r.names) (ha:a∈r.names) (h0:Know r a z):Know (r.step (.come k)) a z:=by
 have ek:r.post[k]? =some r.post[k]:=List.getElem?_eq_getElem hk
 have ml:r.post[k]∈r.post:=List.getElem_mem hk
 unfold Know
 rw [come_entry h.g.b ek z]
 rcases(come_is h.g.b ek).1 with⟨e,_⟩ | ⟨_,_,e⟩
 ·rw [e];exact h0
 ·rw [e]
  by_cases e2:a=r.post[k].other
  ·rw [e2,upH_same]
   rw [e2] at h0 ha
   rcases(take_cases (r.hd r.post[k].other) r.post[k]).1 with h1 | h1
   ·rw [h1];exact h0
   ·rw [h1]
    refine mrg_know h.t hz (.inl h0) fun f hf fn=> ?_
    rcases hf with hf | hf
    ·have:=h.t.hh _ f ha hf (by rw [fn];exact hz)
     rw [fn] at this;exact this
    ·have:=h.t.pp _ ml f hf (by rw [fn];exact hz)
     rw [fn] at this;exact this
  ·rw [upH_ne e2];exact h0
theorem Sent.turn (g:RB U c r) (hn:n∈r.names) (h:Sent r b a z l):Sent (r.step (.turn n)) b a z l:=by
 obtain⟨h1,h2,h3,h4,h5⟩:=h
 have sm:=Same.turn g hn
 exact⟨sm.mem h1,h2,h3,by rw [sm.st];exact h4,by rw [(turn_entry g hn z).1];exact h5⟩
theorem Sent.come (g:RB U c r) (hk:k < r.post.length) (h:Sent r b a z l):Sent (r.step (.come k)) b a z l:=by
 obtain⟨h1,h2,h3,h4,h5⟩:=h
 have sm:=Same.come g hk
 exact⟨sm.mem h1,h2,h3,by rw [sm.st];exact h4,by rw [come_entry g (List.getElem?_eq_getElem hk) z];exact h5⟩
theorem Sent.mk (g:RB U c r) (hb:b∈r.names) (ha:a∈(r.hd b).names) (h:Know r b z):∃j l,r.post.length≤j∧(r.step (.turn b)).post[j]? =some l∧Sent (r.step (.turn b)) b a z l:=by
 obtain⟨t1,t2,t3,t4,t5⟩:=turn_is g hb
 have sm:=Same.turn g hb
 have hc:=(g.hbn hb).2
 have ma:a∈srtS (r.hd b).names:=(srtS_perm _).mem_iff.mpr ha
 obtain⟨i,hi⟩:=List.getElem?_of_mem ma
 have el:(r.hd b).letters[i]? =some ((r.hd b).turned.letter a):=by unfold Hd.letters;rw [List.getElem?_map,hi];rfl
 obtain⟨A,hA⟩:=acc_some (h:=(r.hd b).turned) (z:=a) (by rw [turned_names];exact ha)
 have elt:(r.hd b).turned.letter a=⟨b,a,(r.hd b).stamp a,A.seen,A.gifts,A.given,(r.hd b).heard⟩:=by
  unfold Hd.letter
  rw [hA]
  show(⟨(r.hd b).called,_,_,_,_,_,_⟩:Lt)=_
  rw [hc];rfl
 have hp:(r.step (.turn b)).post[r.post.length+i]? =some ((r.hd b).turned.letter a):=by
  rw [t2,List.getElem?_append_right (Nat.le_add_right _ _),Nat.add_sub_cancel_left];exact el
 refine⟨r.post.length+i,_,Nat.le_add_right _ _,hp,List.mem_of_getElem? hp,?_⟩
 rw [elt]
 exact⟨rfl,rfl,(sm.st b a).symm,by rw [(turn_entry g hb z).1];exact h⟩
theorem Sent.hear (h:RT U c r) (hk:r.post[k]? =some l) (hz:z∈r.names) (ha:a∈r.names) (hb:b∈(r.hd a).names) (up:r.isUp a=true) (s:Sent r b a z l):Know (r.step (.come k)) a z:=by
 obtain⟨h1,h2,h3,h4,h5⟩:=s
 have bn:=(h.g.b.tie' ha hb).1
 unfold Know
 rw [come_entry h.g.b hk z]
 rcases(come_is h.g.b hk).1 with⟨_,e⟩ | ⟨_,_,e⟩
 ·exact absurd ⟨by rw [h3];exact ha,by rw [h3];exact up,by rw [h2,h3];exact hb⟩ e
 ·rw [e,h3,upH_same]
  obtain⟨A,hA⟩:=acc_some (by rw [← h2] at hb;exact hb:l.one∈(r.hd a).names)
  rw [take_merge hA fun x hx=>by
   have:=h.g.s.seen a b A x ha bn (by rw [← h2];exact hA) hx
   rw [h4];exact this.not]
  refine mrg_know h.t hz (.inr h5) fun f hf fn=> ?_
  rcases hf with hf | hf
  ·have:=h.t.hh _ f ha hf (by rw [fn];exact hz)
   rw [fn] at this;exact this
  ·have:=h.t.pp l h1 f hf (by rw [fn];exact hz)
   rw [fn] at this;exact this
end
theorem RT.turns {U:List Str} :∀(ns:List Str) {c:Nat} {r:Rn},RT U c r→c+ns.length≤20000→(∀n∈ns,n∈r.names∧r.isUp n=true)→RT U (c+ns.length) (r.turns ns)∧Same r (r.turns ns)∧(∀a z,Know r a z→Know (r.turns ns) a z)∧(∀b a z l,Sent r b a z l→Sent (r.turns ns) b a z l)∧ ∀b∈ns,∀a z,a∈(r.hd b).names→Know r b z→ ∃j l,r.post.length≤j∧(r.turns ns).post[j]? =some l∧Sent (r.turns ns) b a z l
 | [],_,r,h,_,_=>⟨h,Same.refl r,(fun _ _ k=>k),(fun _ _ _ _ s=>s),(fun b hb=>nomatch hb)⟩
 | n :: ns,c,r,h,hc,hn=>by
  have hc:c+(ns.length+1)≤20000:=hc
  obtain⟨h1,h2⟩:=hn n List.mem_cons_self
  have can:=can_turn h1 h2
  have sm:=Same.turn h.g.b h1
  obtain⟨k1,k2,k3,k4,k5⟩:=RT.turns ns (h.step (by omega) can trivial) (by omega) fun y hy=>by rw [sm.names,sm.up];exact hn y (List.mem_cons_of_mem _ hy)
  refine⟨by rw [show c+(n :: ns).length=c+1+ns.length by rw [List.length_cons];omega];exact k1,sm.trans k2,fun a z k=>k3 a z (k.turn h.g.b h1),fun b a z l s=>k4 b a z l (s.turn h.g.b h1),fun b hb a z ha k=> ?_⟩
  by_cases e:b=n
  ·subst e
   obtain⟨j,l,j1,j2,j3⟩:=Sent.mk h.g.b h1 ha k
   exact⟨j,l,j1,k2.at j2,k4 _ _ _ _ j3⟩
  ·have bm:b∈ns:=by
    rcases List.mem_cons.mp hb with h | h
    ·exact absurd h e
    ·exact h
   have bn:=(hn b hb).1
   obtain⟨j,l,j1,j2,j3⟩:=k5 b bm a z ((sm.nm b bn a).mpr ha) (k.turn h.g.b h1)
   refine⟨j,l,?_,j2,j3⟩
   obtain⟨ls,el⟩:=sm.post
   rw [el,List.length_append] at j1
   omega
theorem RT.comes {U:List Str} :∀(ks:List Nat) {c:Nat} {r:Rn},RT U c r→c+ks.length≤20000→(∀k∈ks,k < r.post.length)→RT U (c+ks.length) (r.comes ks)∧Same r (r.comes ks)∧(∀a z,a∈r.names→z∈r.names→Know r a z→Know (r.comes ks) a z)∧ ∀b a z k l,k∈ks→r.post[k]? =some l→Sent r b a z l→z∈r.names→a∈r.names→b∈(r.hd a).names→r.isUp a=true→Know (r.comes ks) a z
 | [],_,r,h,_,_=>⟨h,Same.refl r,(fun _ _ _ _ k=>k),(fun b a z k l hk=>nomatch hk)⟩
 | j :: ks,c,r,h,hc,hn=>by
  have hc:c+(ks.length+1)≤20000:=hc
  have hj:=hn j List.mem_cons_self
  have sm:=Same.come h.g.b hj
  have po:(r.step (.come j)).post=r.post:=(come_is h.g.b (List.getElem?_eq_getElem hj)).2.1
  obtain⟨k1,k2,k3,k4⟩:=RT.comes ks (h.step (by omega) (can_come hj) trivial) (by omega) fun y hy=>by rw [po];exact hn y (List.mem_cons_of_mem _ hy)
  refine⟨by rw [show c+(j :: ks).length=c+1+ks.length by rw [List.length_cons];omega];exact k1,sm.trans k2,fun a z ha hz k=>k3 a z (by rw [sm.names];exact ha) (by rw [sm.names];exact hz) (k.come h hj hz ha),fun b a z k l hk hl s hz ha hb up=> ?_⟩
  by_cases e:k=j
  ·subst e
   exact k3 a z (by rw [sm.names];exact ha) (by rw [sm.names];exact hz) (s.hear h hl hz ha hb up)
  ·have km:k∈ks:=by
    rcases List.mem_cons.mp hk with h | h
    ·exact absurd h e
    ·exact h
   exact k4 b a z k l km (by rw [po];exact hl) (s.come h.g.b hj) (by rw [sm.names];exact hz) (by rw [sm.names];exact ha) ((sm.nm a ha b).mpr hb) (by rw [sm.up];exact up)
theorem RT.round {U:List Str} {c:Nat} {r:Rn} (h:RT U c r) (hc:c≤10000):RT U (c+72) r.round∧Same r r.round∧(∀a z,a∈r.names→z∈r.names→Know r a z→Know r.round a z)∧((∀y∈r.names,r.isUp y=true)→ ∀b a z,b∈r.names→z∈r.names→a∈(r.hd b).names→Know r b z→Know r.round a z):=by
 have l8:=ups_len h.g.b
 obtain⟨_,new,_,k3,_,_,k6⟩:=RG.turns r.ups h.g (More.refl r) (by omega) fun n hn=>ups_mem hn
 obtain⟨t1,t2,t3,t4,t5⟩:=RT.turns r.ups h (by omega) fun n hn=>ups_mem hn
 have lf:(from_ r.post.length ((r.turns r.ups).post.length - r.post.length)).length≤64:=by
  unfold from_
  rw [List.length_map,List.length_range];omega
 obtain⟨c1,c2,c3,c4⟩:=RT.comes (from_ r.post.length ((r.turns r.ups).post.length - r.post.length)) t1 (by omega) fun k hk=>by
  unfold from_ at hk
  obtain⟨i,hi,rfl⟩:=List.mem_map.mp hk
  have:=List.mem_range.mp hi
  omega
 refine⟨c1.le (by omega),t2.trans c2,fun a z ha hz k=>c3 a z (by rw [t2.names];exact ha) (by rw [t2.names];exact hz) (t3 a z k),fun up b a z hb hz ha k=> ?_⟩
 obtain⟨an,_,bm⟩:=h.g.b.tie' hb ha
 have bu:b∈r.ups:=List.mem_filter.mpr ⟨(srtS_perm _).mem_iff.mpr hb,up b hb⟩
 obtain⟨j,l,j1,j2,j3⟩:=t5 b bu a z ha k
 have jl:=(List.getElem?_eq_some_iff.mp j2).1
 refine c4 b a z j l ?_ j2 j3 (by rw [t2.names];exact hz) (by rw [t2.names];exact an) ((t2.nm a an b).mpr bm) (by rw [t2.up];exact up a an)
 unfold from_
 exact List.mem_map.mpr ⟨j - r.post.length,List.mem_range.mpr (by omega),by omega⟩
def Rn.rounds (r:Rn):Nat→Rn
 | 0=>r
 | k+1=>(r.rounds k).round
theorem RT.rounds {U:List Str} {c:Nat} {r:Rn} (h:RT U c r) (hc:c≤1000):∀k,k≤20→RT U (c+72*k) (r.rounds k)∧Same r (r.rounds k)
 | 0,_=>⟨h,Same.refl r⟩
 | k+1,hk=>by
  obtain⟨h1,h2⟩:=RT.rounds h hc k (by omega)
  obtain⟨k1,k2,_,_⟩:=h1.round (by omega)
  exact⟨k1.le (by omega),h2.trans k2⟩
open Classical in
/-- what grows along ties comes to all -/
theorem grow {names:List Str} (nd:names.Nodup) {T:Str→List Str} {z:Str} (A:Nat→Str→Prop) (hz:z∈names) (hT:∀x∈names,∀y∈T x,y∈names) (start:A 0 z) (mono:∀k x,x∈names→A k x→A (k+1) x) (step:∀k x y,x∈names→A k x→y∈T x→A (k+1) y) {R:Str→Prop} (hR:∀P:Str→Prop,P z→(∀x y,x∈names→P x→y∈T x→P y)→ ∀y,R y→P y):∀y,R y→A names.length y:=by
 have Rn:∀y,R y→y∈names:=hR (· ∈names) hz fun x y hx _ hy=>hT x hx y hy
 have A0:∀k,A k z:=fun k=>by
  induction k with
  | zero=>exact start
  | succ k ih=>exact mono k z hz ih
 have key:∀k,(∀y,R y→A k y)∨k+1≤(names.filter fun x=>decide (A k x)).length:=by
  intro k
  induction k with
  | zero=>
   refine .inr (List.length_pos_of_mem (a:=z) (List.mem_filter.mpr ⟨hz,decide_eq_true start⟩))
  | succ k ih=>
   rcases ih with ih | ih
   ·exact .inl fun y hy=>mono k y (Rn y hy) (ih y hy)
   ·by_cases cl:∀x y,x∈names→A k x→y∈T x→A k y
    ·exact .inl fun y hy=>mono k y (Rn y hy) (hR (A k) (A0 k) cl y hy)
    ·right
     simp only [Classical.not_forall] at cl
     obtain⟨x,y,hx,ax,hy,ny⟩:=cl
     have yn:=hT x hx y hy
     have nd1:(y :: names.filter fun x=>decide (A k x)).Nodup:=List.nodup_cons.mpr ⟨fun m=>ny (of_decide_eq_true (List.mem_filter.mp m).2),nd.sublist List.filter_sublist⟩
     have:=sub_len nd1 (m:=names.filter fun x=>decide (A (k+1) x)) fun w hw=>by
      rcases List.mem_cons.mp hw with e | hw
      ·rw [e];exact List.mem_filter.mpr ⟨yn,decide_eq_true (step k x y hx ax hy)⟩
      ·obtain⟨h1,h2⟩:=List.mem_filter.mp hw
       exact List.mem_filter.mpr ⟨h1,decide_eq_true (mono k w h1 (of_decide_eq_true h2))⟩
     rw [List.length_cons] at this
     omega
 intro y hy
 rcases key names.length with h | h
 ·exact h y hy
 ·have:=List.length_filter_le (fun x=>decide (A names.length x)) names
  omega
theorem Reach.mem {U:List Str} {c:Nat} {r:Rn} (b:RB U c r) {a y:Str} (ha:a∈r.names) (h:Reach r a y):y∈r.names:=by
 induction h with
 | here=>exact ha
 | step _ hy ih=>exact(b.tie' ih hy).1
theorem Reach.trans {r:Rn} {a b z:Str} (h:Reach r a b) (h2:Reach r b z):Reach r a z:=by
 induction h2 with
 | here=>exact h
 | step _ hy ih=>exact .step ih hy
theorem Reach.sym {U:List Str} {c:Nat} {r:Rn} (b:RB U c r) {a y:Str} (ha:a∈r.names) (h:Reach r a y):Reach r y a:=by
 induction h with
 | here=>exact .here
 | @step x y h hy ih=>exact(Reach.step .here (b.tie' (h.mem b ha) hy).2.2).trans ih
theorem Reach.same {r r':Rn} (s:Same r r') {U:List Str} {c:Nat} (b:RB U c r) {a y:Str} (ha:a∈r.names):Reach r a y↔Reach r' a y:=by
 constructor
 ·intro h
  induction h with
  | here=>exact .here
  | step h hy ih=>exact .step ih ((s.nm _ (h.mem b ha) _).mpr hy)
 ·intro h
  induction h with
  | here=>exact .here
  | step h hy ih=>exact .step ih ((s.nm _ (ih.mem b ha) _).mp hy)
/-- behind as many full rounds as there are hands each knows all that ties lead to -/
theorem RT.known {U:List Str} {c:Nat} {r:Rn} (h:RT U c r) (hc:c≤1000) (up:∀y∈r.names,r.isUp y=true) {a z:Str} (ha:a∈r.names) (hz:Reach r a z):Know (r.rounds r.names.length) a z:=by
 have zn:=hz.mem h.g.b ha
 have l8:r.names.length≤8:=by unfold Rn.names;rw [List.length_map];exact h.g.b.few
 have go:∀k,k≤20→RT U (c+72*k) (r.rounds k)∧Same r (r.rounds k):=fun k hk=>RT.rounds h hc k hk
 have base:Know r z z:=h.t.me z zn
 refine grow (T:=fun x=>(r.hd x).names) (z:=z) (R:=fun y=>Reach r z y) h.g.b.nd (fun k x=>k≤20→Know (r.rounds k) x z) zn (fun x hx y hy=>(h.g.b.tie' hx hy).1) (fun _=>base) (fun k x hx ih hk=> ?_) (fun k x y hx ih hy hk=> ?_) (fun P p0 ps y hy=> ?_) a (hz.sym h.g.b ha) (by omega)
 ·obtain⟨h1,h2⟩:=go k (by omega)
  exact(h1.round (by omega)).2.2.1 x z (by rw [h2.names];exact hx) (by rw [h2.names];exact zn) (ih (by omega))
 ·obtain⟨h1,h2⟩:=go k (by omega)
  exact(h1.round (by omega)).2.2.2 (fun y hy=>by rw [h2.names] at hy;rw [h2.up];exact up y hy) x y z (by rw [h2.names];exact hx) (by rw [h2.names];exact zn) ((h2.nm x hx y).mpr hy) (ih (by omega))
 ·have key:y∈r.names∧P y:=by
   induction hy with
   | here=>exact⟨zn,p0⟩
   | step _ hy ih=>exact⟨(h.g.b.tie' ih.1 hy).1,ps _ _ ih.1 ih.2 hy⟩
  exact key.2
/-- what may be due: so deep, of tuples, texts, numbers, none -/
def DueA:Nat→A→Prop
 | 0,_=>False
 | _+1,.non=>True
 | _+1,.int _=>True
 | _+1,.str z=>Lay 0 (.str z)
 | n+1,.tup xs=>xs.length≤1000000∧ ∀x∈xs,DueA n x
 | _+1,_=>False
/-- what may be held against it -/
def ThA:Nat→A→Prop
 | 0,_=>True
 | n+1,t=>t.plain=true∧(∀z,t= .str z→Lay 0 (.str z))∧ ∀ts,t= .tup ts→ts.length≤1000000∧ ∀x∈ts,ThA n x
theorem DueA.th:∀ {n:Nat} {d:A},DueA n d→ThA n d
 | 0,_,h=>h.elim
 | n+1,.non,_=>⟨rfl,(fun _ e=>nomatch e),fun _ e=>nomatch e⟩
 | n+1,.int _,_=>⟨rfl,(fun _ e=>nomatch e),fun _ e=>nomatch e⟩
 | n+1,.str z,h=>⟨rfl,(fun _ e=>by cases e;exact h),fun _ e=>nomatch e⟩
 | n+1,.tup xs,h=>⟨rfl,(fun _ e=>nomatch e),fun ts e=>by cases e;exact⟨h.1,fun x hx=>(h.2 x hx).th⟩⟩
 | n+1,.bl _,h=>h.elim
 | n+1,.ty _,h=>h.elim
 | n+1,.loc _,h=>h.elim
 | n+1,.lst _,h=>h.elim
 | n+1,.dic _ _,h=>h.elim
 | n+1,.scr _,h=>h.elim
theorem DueA.up:∀ {n:Nat} {d:A},DueA n d→DueA (n+1) d
 | 0,_,h=>h.elim
 | n+1,.non,_=>trivial
 | n+1,.int _,_=>trivial
 | n+1,.str z,h=>h
 | n+1,.tup xs,h=>⟨h.1,fun x hx=>(h.2 x hx).up⟩
 | n+1,.bl _,h=>h.elim
 | n+1,.ty _,h=>h.elim
 | n+1,.loc _,h=>h.elim
 | n+1,.lst _,h=>h.elim
 | n+1,.dic _ _,h=>h.elim
 | n+1,.scr _,h=>h.elim
theorem DueA.le {n m:Nat} {d:A} (h:DueA n d) (hm:n≤m):DueA m d:=by
 induction hm with
 | refl=>exact h
 | step _ ih=>exact ih.up
section
variable {n:Nat}
theorem due_all {α:Type} {f:α→A} {l:List α} (hl:l.length≤1000000) (h:∀x∈l,DueA n (f x)):DueA (n+1) (.tup (l.map f)):=⟨by rw [List.length_map];exact hl,fun y hy=>by
 obtain⟨x,hx,rfl⟩:=List.mem_map.mp hy
 exact h x hx⟩
theorem due_nil:∀x∈([]:List A),DueA n x:=fun x hx=>nomatch hx
theorem due_cons {a:A} {xs:List A} (h:DueA n a) (t:∀x∈xs,DueA n x):∀x∈a :: xs,DueA n x:=fun x hx=>by
 rcases List.mem_cons.mp hx with e | e
 ·rw [e];exact h
 ·exact t x e
theorem due_int (i:Int):DueA (n+1) (.int i):=trivial
theorem due_str {z:Str} (h:isTx z):DueA (n+1) (.str z):=Lay.str h
theorem due_en {e:En} {k:Nat} (h:EnOk k e) (hk:k≤1000):DueA 3 (entA e):=
 ⟨(by show 5≤1000000;decide),due_cons (due_str h.1) (due_cons (due_int _) (due_cons (due_int _) (due_cons (due_all (by have:=h.2.1;omega) fun i _=>due_int i) (due_cons (due_all (by have:=h.2.2.1;omega) fun z hz=>due_str (h.2.2.2 z hz)) due_nil))))⟩
theorem due_st (o:Option (Int×Int)):DueA 2 (stA o):=by
 cases o with
 | none=>trivial
 | some x=>exact⟨(by show 2≤1000000;decide),due_cons (due_int _) (due_cons (due_int _) due_nil)⟩
theorem due_lt {U:List Str} {k c:Nat} {l:Lt} (h:LtOk k l) (b:LB U k c l) (hk:k≤900) (hu:U.length < 64):DueA 5 (ltA l):=by
 refine⟨(by show 7≤1000000;decide),due_cons (due_str h.1.tx) (due_cons (due_str h.2.1.tx) (due_cons ?_ (due_cons ((due_st _).le (by decide)) (due_cons (due_int _) (due_cons ?_ (due_cons ?_ due_nil))))))⟩
 ·exact DueA.le (n:=2) ⟨(by show 2≤1000000;decide),due_cons (due_int _) (due_cons (due_int _) due_nil)⟩ (by decide)
 ·refine DueA.le (n:=3) (due_all (by have:=b.len;omega) fun x _=> ?_) (by decide)
  exact⟨(by show 2≤1000000;decide),due_cons (due_int _) (due_cons (due_int _) due_nil)⟩
 ·exact due_all (by have:=b.ro.len;omega) fun e he=>due_en (h.2.2 e he) (by omega)
end
theorem due_wh {U:List Str} {c:Nat} {r:Rn} (b:RB U c r) (t:TxR r) (hc:c≤20000) {x:Dd} (hx:r.can x=true) (nm:x.nmd) (ok:x.okU U):DueA 9 (whA (r.done x).1):=by
 obtain⟨_,h2,h3⟩:=t.done b hx nm
 have bs:=b.step hc hx ok
 have sz:=(done_rows r x).2
 have key:∀ls,(r.done x).1= .letters ls→ ∀l∈ls,l∈(r.step x).post∧ls.length≤(r.step x).post.length:=by
  cases x with
  | turn n=>
   have hx:(decide (n∈r.names) && r.isUp n)=true:=hx
   rw [Bool.and_eq_true] at hx
   obtain⟨_,t2,t3,_⟩:=turn_is b (of_decide_eq_true hx.1:n∈r.names)
   intro ls e l hl
   rw [t3] at e
   cases e
   rw [t2]
   exact⟨List.mem_append_right _ hl,by rw [List.length_append];omega⟩
  | come k=>
   have hk:k < r.post.length:=of_decide_eq_true hx
   rw [done_come (List.getElem?_eq_getElem hk)]
   exact fun ls e=>nomatch e
  | leave n=>
   intro ls e
   exfalso
   cases hg:r.get n with
   | none=>simp only [Rn.done,hg] at e;cases e
   | some y=>simp only [Rn.done,hg] at e;cases e
  | join n ns=>exact fun ls e=>nomatch e
  | set n ns=>exact fun ls e=>nomatch e
  | tie n o=>exact fun ls e=>nomatch e
  | cut n o=>exact fun ls e=>nomatch e
  | fall n=>exact fun ls e=>nomatch e
  | back n=>exact fun ls e=>nomatch e
  | fresh n=>exact fun ls e=>nomatch e
 have lp:=bs.lp
 have n3:=b.n3
 cases e:(r.done x).1 with
 | none=>exact⟨Nat.zero_le _,due_nil⟩
 | word w=>exact due_str (h3 w e)
 | letters ls=>
  refine DueA.le (n:=6) (due_all ?_ fun l hl=> ?_) (by decide)
  ·cases ls with
   | nil=>exact Nat.zero_le _
   | cons l ls=>have:=(key _ e l List.mem_cons_self).2;omega
  ·have lb:=bs.post l (key ls e l hl).1
   exact due_lt (h2 ls e l hl) (c:=c+1) (by rw [← sz];exact lb) (by omega) b.u
/-- a run led from another, deed by deed -/
inductive LedR (U:List Str) (r0:Rn):Nat→Rn→Prop
 | refl:RB U 0 r0→TxR r0→r0.rows= []→LedR U r0 0 r0
 | step {c:Nat} {r:Rn} {x:Dd} :LedR U r0 c r→c≤20000→(x.formB && r.can x)=true→x.nmd→x.okU U→LedR U r0 (c+1) (r.step x)
section
variable {U:List Str} {r0 r:Rn} {c:Nat}
theorem LedR.bt (h:LedR U r0 c r):RB U c r∧TxR r:=by
 induction h with
 | refl b t _=>exact⟨b,t⟩
 | step _ hc hx nm ok ih=>
  have can:=(Bool.and_eq_true_iff.mp hx).2
  exact⟨ih.1.step hc can ok,ih.2.step ih.1 can nm⟩
theorem stepRows (r:Rn) (x:Dd):(r.step x).rows=r.rows ++ [(x,(r.done x).1)]:=rfl
theorem LedR.len (h:LedR U r0 c r):r.rows.length=c:=by
 induction h with
 | refl _ _ e=>rw [e];rfl
 | step _ _ _ _ _ ih=>rw [stepRows,List.length_append,ih];rfl
theorem LedR.rows (h:LedR U r0 c r):∀z∈r.rows,z.1.nmd∧z.1.okU U∧ThA 9 (whA z.2):=by
 induction h with
 | refl _ _ e=>intro z hz;rw [e] at hz;cases hz
 | step l hc hx nm ok ih=>
  intro z hz
  rw [stepRows] at hz
  rcases List.mem_append.mp hz with hz | hz
  ·exact ih z hz
  ·rw [List.mem_singleton.mp hz]
   exact⟨nm,ok,(due_wh l.bt.1 l.bt.2 hc (Bool.and_eq_true_iff.mp hx).2 nm ok).th⟩
theorem LedR.take (h:LedR U r0 c r):∀k,k≤c→ ∃r1,LedR U r0 k r1∧r1.rows=r.rows.take k:=by
 induction h with
 | refl b t e=>
  intro k hk
  obtain rfl:k=0:=by omega
  exact⟨r0,.refl b t e,by rw [e];rfl⟩
 | step l hc hx nm ok ih=>
  rename_i c r x
  intro k hk
  have len:=l.len
  by_cases e:k=c+1
  ·subst e
   refine⟨_,.step l hc hx nm ok,?_⟩
   rw [stepRows,List.take_of_length_le (by rw [List.length_append,len];exact Nat.le_refl _)]
  ·obtain⟨r1,h1,h2⟩:=ih k (by omega)
   refine⟨r1,h1,?_⟩
   rw [h2,stepRows,List.take_append_of_le_length (by omega)]
end
abbrev wlO (a:Nat) (z:Int) (k:Nat):AO:= .lst [.int (a:Int),.int z,.int (k:Int)]
def fCellAt:ASp:=fun as M Q=> ∃(ns:List Int) (k:Nat),as= [.scr ns,.int (k:Int)]∧ ∀z:Int,Q (.int z) M
def fMixW:ASp:=fun as M Q=> ∃(z:Int) (k:Nat),as= [.int z,.int (k:Int)]∧k≤1000000∧ ∀v:Nat,Q (.int (v:Int)) M
def fWell:ASp:=fun as M Q=> ∃z:Int,as= [.int z]∧ ∀(l:Addr) (a:Nat),Q (.loc l) ((l,wlO a z 0) :: M)
def fDrawW:ASp:=fun as M Q=> ∃(l:Addr) (a k m:Nat) (z:Int) (C:AO→AM),as= [.loc l,.int (m:Int)]∧Ctx M l (wlO a z k) C∧0 < m∧m < 2^200∧k < 1000000∧ ∀v a' k':Nat,v < m→k'≤k+1→Q (.int (v:Int)) (C (wlO a' z k'))
abbrev N_m_cell_at:List Str:= ["_law_script","_law_k"]
def t_m_cell_at (K:PySem.W.Frag):TS:=
 (tSeq (tIfS (tTest (tOp rLtI (tVar 1) (tCB (Evl.rLenS K) (tCons (tVar 0) tNil)))) (tRet (tOp (rIxL K) (tVar 0) (tVar 1))) tNext)
  (tRet (tC (.int 0))))
abbrev N_m_mixed:List Str:= ["_law_cell","_law_k","_law_number"]
def t_m_mixed (K:PySem.W.Frag):TS:=
 (tSeq (tAsg (tOp rModI (tOp rMulI (tOp rAddI (tOp rAddI (tOp rModI (tVar 0) (tC (.int 2147483647))) (tOp rMulI (tC (.int 7919)) (tVar 1))) (tC (.int 1))) (tC (.int 48271))) (tC (.int 2147483647))) (gName 2))
  (tSeq (tAsg (tOp rModI (tOp rMulX (tVar 2) (tOp rAddI (tOp rDivI (tVar 2) (tC (.int 1009))) (tC (.int 69621)))) (tC (.int 2147483647))) (gName 2))
  (tRet (tOp rModI (tOp rMulX (tVar 2) (tOp rAddI (tOp rDivI (tVar 2) (tC (.int 2003))) (tC (.int 40692)))) (tC (.int 2147483399))))))
abbrev N_m_well:List Str:= ["_law_cell"]
def t_m_well (K:PySem.W.Frag):TS:=
 (tRet (tLst (tCons (tOp (rIxL K) (tLst (tCons (tC (.int 0)) (tCons (tVar 0) tNil))) (tCB rInt1 (tCons (tOp rGeI (tVar 0) (tOp rPowI (tC (.int 10)) (tC (.int 18)))) tNil))) (tCons (tVar 0) (tCons (tC (.int 0)) tNil)))))
abbrev N_m_draw:List Str:= ["_law_well_here","_law_many","_law_found"]
def t_m_draw (K:PySem.W.Frag):TS:=
 (tSeq (tIfS (tTest (tOp rGtI (tOp (rIxL K) (tVar 0) (tC (.int 0))) (tC (.int 0)))) (tSeq (tAsg (tOp rModI (tOp (rIxL K) (tVar 0) (tC (.int 0))) (tVar 1)) (gName 2))
   (tSeq (tAsg (tOp rDivI (tOp (rIxL K) (tVar 0) (tC (.int 0))) (tVar 1)) (gSub (tVar 0) (tC (.int 0)) rSetL))
   (tRet (tVar 2)))) tNext)
  (tSeq (tAsg (tOp rAddI (tOp (rIxL K) (tVar 0) (tC (.int 2))) (tC (.int 1))) (gSub (tVar 0) (tC (.int 2)) rSetL))
  (tRet (tOp rModI (tCall (cs K fMixW) [] E0 (tCons (tOp (rIxL K) (tVar 0) (tC (.int 1))) (tCons (tOp (rIxL K) (tVar 0) (tC (.int 2))) tNil))) (tVar 1)))))
theorem p_m_cell_at_len {K:PySem.W.Frag} {vs:List V} {H:Hp} {Q:VK} {E:XK} (h:cs K fCellAt vs H Q E):vs.length=2:=fn_len (fun as M Q ⟨_,_,e,_⟩=>by rw [e];rfl) h
theorem p_m_cell_at {K:PySem.W.Frag} {vs:List V} {H:Hp} {Q:VK} {E:XK} (h:cs K fCellAt vs H Q E):t_m_cell_at K { nx:=fun _ H'=>Q .non H',rt:=Q } (start N_m_cell_at vs) H:=fn_of h fun as M Qa h=>by
 obtain⟨ns,k,rfl,q⟩:=h
 unfold t_m_cell_at
 ((with_reducible refine Ab.s_seq ?_);(with_reducible refine Ab.s_if ?_);(with_reducible refine Ab.t_testB ?_);(with_reducible refine Ab.e_op ?_);((with_reducible refine' Ab.e_var ?hh_1757 ?_);(case hh_1757=>exact rfl));(with_reducible refine Ab.e_cb ?_);(with_reducible refine Ab.a_cons ?_);((with_reducible refine' Ab.e_var ?hh_1758 ?_);(case hh_1758=>exact rfl));(with_reducible refine Ab.a_nil ?_);((with_reducible refine' Ab.l_lenL ?h1_1759 ?_);(case h1_1759=>walk_at "ls"));(with_reducible refine Ab.o_lt ?_);(with_reducible refine Ab.e_B ?_))
 rw [List.length_map]
 by_cases hl:k < ns.length
 ·rw [decide_eq_true (show(k:Int) < (ns.length:Int) by omega)]
  have hk:(ns.map A.int)[k]? =some (.int ns[k]):=by rw [List.getElem?_map,List.getElem?_eq_getElem hl];rfl
  exact if_t rfl (s_ret (e_op (e_var rfl (e_var rfl (o_ixL .scr (atI_at hk) (dn0 (q _)))))))
 ·rw [decide_eq_false (show ¬ (k:Int) < (ns.length:Int) by omega)]
  exact if_f rfl (s_next (s_ret (e_int (dn0 (q _)))))
theorem p_m_mixed_len {K:PySem.W.Frag} {vs:List V} {H:Hp} {Q:VK} {E:XK} (h:cs K fMixW vs H Q E):vs.length=2:=fn_len (fun as M Q ⟨_,_,e,_⟩=>by rw [e];rfl) h
theorem p_m_mixed {K:PySem.W.Frag} {vs:List V} {H:Hp} {Q:VK} {E:XK} (h:cs K fMixW vs H Q E):t_m_mixed K { nx:=fun _ H'=>Q .non H',rt:=Q } (start N_m_mixed vs) H:=fn_of h fun as M Qa h=>by
 obtain⟨z,k,rfl,hk,q⟩:=h
 unfold t_m_mixed
 ((with_reducible refine Ab.s_seq ?_);(with_reducible refine Ab.s_asg ?_);(with_reducible refine Ab.e_op ?_);(with_reducible refine Ab.e_op ?_);(with_reducible refine Ab.e_op ?_);(with_reducible refine Ab.e_op ?_);(with_reducible refine Ab.e_op ?_);((with_reducible refine' Ab.e_var ?hh_1760 ?_);(case hh_1760=>exact rfl));(with_reducible refine Ab.e_int ?_);((with_reducible refine Ab.o_mod ?hh_1761 ?_);(case hh_1761=>first | decide | omega));(with_reducible refine Ab.e_op ?_);(with_reducible refine Ab.e_int ?_);((with_reducible refine' Ab.e_var ?hh_1762 ?_);(case hh_1762=>exact rfl));((with_reducible refine Ab.o_mul ?hh_1763 ?_);(case hh_1763=>first | exact Or.inl ⟨by decide,by decide⟩ | exact Or.inr ⟨by decide,by decide⟩));(with_reducible refine Ab.o_add ?_);(with_reducible refine Ab.e_int ?_);(with_reducible refine Ab.o_add ?_);(with_reducible refine Ab.e_int ?_);((with_reducible refine Ab.o_mul ?hh_1764 ?_);(case hh_1764=>first | exact Or.inl ⟨by decide,by decide⟩ | exact Or.inr ⟨by decide,by decide⟩));(with_reducible refine Ab.e_int ?_);((with_reducible refine Ab.o_mod ?hh_1765 ?_);(case hh_1765=>first | decide | omega));(with_reducible refine Ab.s_seq ?_);(with_reducible refine Ab.s_asg ?_);(with_reducible refine Ab.e_op ?_);(with_reducible refine Ab.e_op ?_);((with_reducible refine' Ab.e_var ?hh_1766 ?_);(case hh_1766=>exact rfl));(with_reducible refine Ab.e_op ?_);(with_reducible refine Ab.e_op ?_);((with_reducible refine' Ab.e_var ?hh_1767 ?_);(case hh_1767=>exact rfl));(with_reducible refine Ab.e_int ?_);((with_reducible refine Ab.o_div ?hh_1768 ?_);(case hh_1768=>exact⟨by decide +kernel,by decide +kernel⟩));(with_reducible refine Ab.e_int ?_);(with_reducible refine Ab.o_add ?_))
 generalize hx:((z % 2147483647+7919*(k:Int)+1)*48271 % 2147483647)=x
 have x0:0≤x:=by rw [← hx];exact Int.emod_nonneg _ (by decide)
 have x1:x < 2147483647:=by rw [← hx];exact Int.emod_lt_of_pos _ (by decide)
 refine o_mulX (mulA (by omega) (by omega) (by omega) (by omega)) ?_
 ((with_reducible refine Ab.e_int ?_);((with_reducible refine Ab.o_mod ?hh_1769 ?_);(case hh_1769=>first | decide | omega));(with_reducible refine Ab.s_ret ?_);(with_reducible refine Ab.e_op ?_);(with_reducible refine Ab.e_op ?_);((with_reducible refine' Ab.e_var ?hh_1770 ?_);(case hh_1770=>exact rfl));(with_reducible refine Ab.e_op ?_);(with_reducible refine Ab.e_op ?_);((with_reducible refine' Ab.e_var ?hh_1771 ?_);(case hh_1771=>exact rfl));(with_reducible refine Ab.e_int ?_);((with_reducible refine Ab.o_div ?hh_1772 ?_);(case hh_1772=>exact⟨by decide +kernel,by decide +kernel⟩));(with_reducible refine Ab.e_int ?_);(with_reducible refine Ab.o_add ?_))
 generalize hy:(x*(x / 1009+69621) % 2147483647)=y
 have y0:0≤y:=by rw [← hy];exact Int.emod_nonneg _ (by decide)
 have y1:y < 2147483647:=by rw [← hy];exact Int.emod_lt_of_pos _ (by decide)
 refine o_mulX (mulA (by omega) (by omega) (by omega) (by omega)) ?_
 ((with_reducible refine Ab.e_int ?_);((with_reducible refine Ab.o_mod ?hh_1773 ?_);(case hh_1773=>first | decide | omega));(with_reducible refine Ab.dn0 ?_))
 generalize hw:(y*(y / 2003+40692) % 2147483399)=w
 have w0:0≤w:=by rw [← hw];exact Int.emod_nonneg _ (by decide)
 have:=q w.toNat
 rw [Int.toNat_of_nonneg w0] at this
 exact this
theorem p_m_well_len {K:PySem.W.Frag} {vs:List V} {H:Hp} {Q:VK} {E:XK} (h:cs K fWell vs H Q E):vs.length=1:=fn_len (fun as M Q ⟨_,e,_⟩=>by rw [e];rfl) h
theorem p_m_well {K:PySem.W.Frag} {vs:List V} {H:Hp} {Q:VK} {E:XK} (h:cs K fWell vs H Q E):t_m_well K { nx:=fun _ H'=>Q .non H',rt:=Q } (start N_m_well vs) H:=fn_of h fun as M Qa h=>by
 obtain⟨z,rfl,q⟩:=h
 unfold t_m_well
 refine s_ret (e_lstC ?_)
 ((with_reducible refine Ab.a_cons ?_);(with_reducible refine Ab.e_op ?_);(with_reducible refine Ab.e_lst ?_);(with_reducible refine Ab.a_cons ?_);(with_reducible refine Ab.e_int ?_);(with_reducible refine Ab.a_cons ?_);((with_reducible refine' Ab.e_var ?hh_1774 ?_);(case hh_1774=>exact rfl));(with_reducible refine Ab.a_nil ?_);((with_reducible refine And.intro ?hl_1775 ?_);(case hl_1775=>exact Ab.len_ok (Nat.le_of_ble_eq_true rfl)));(with_reducible refine Ab.e_cb ?_);(with_reducible refine Ab.a_cons ?_);(with_reducible refine Ab.e_op ?_);((with_reducible refine' Ab.e_var ?hh_1776 ?_);(case hh_1776=>exact rfl));(with_reducible refine Ab.e_op ?_);(with_reducible refine Ab.e_int ?_);(with_reducible refine Ab.e_int ?_);((with_reducible refine Ab.o_pow ?hh_1777 ?_);(case hh_1777=>exact⟨by decide +kernel,by decide +kernel,by decide +kernel⟩));(with_reducible refine Ab.o_ge ?_);(with_reducible refine Ab.a_nil ?_);(with_reducible refine Ab.l_intB ?_))
 obtain⟨n,hn⟩:∃n:Nat,atI [A.int 0,A.int z] (if decide (10^Int.toNat 18≤z)=true then 1 else 0)=some (.int (n:Int)):=by
  by_cases hz:(10:Int)^Int.toNat 18≤z
  ·rw [decide_eq_true hz]
   have z0:(0:Int)≤z:=Int.le_trans (by decide) hz
   refine⟨z.toNat,?_⟩
   rw [Int.toNat_of_nonneg z0];rfl
  ·rw [decide_eq_false hz]
   exact⟨0,rfl⟩
 refine o_ixL .lst hn ?_
 ((with_reducible refine Ab.a_cons ?_);((with_reducible refine' Ab.e_var ?hh_1778 ?_);(case hh_1778=>exact rfl));(with_reducible refine Ab.a_cons ?_);(with_reducible refine Ab.e_int ?_);(with_reducible refine Ab.a_nil ?_);((with_reducible refine And.intro ?hl_1779 ?_);(case hl_1779=>exact Ab.len_ok (Nat.le_of_ble_eq_true rfl))))
 intro p
 exact dn0 (q p n)
theorem p_m_draw_len {K:PySem.W.Frag} {vs:List V} {H:Hp} {Q:VK} {E:XK} (h:cs K fDrawW vs H Q E):vs.length=2:=fn_len (fun as M Q ⟨_,_,_,_,_,_,e,_⟩=>by rw [e];rfl) h
theorem p_m_draw {K:PySem.W.Frag} {vs:List V} {H:Hp} {Q:VK} {E:XK} (h:cs K fDrawW vs H Q E):t_m_draw K { nx:=fun _ H'=>Q .non H',rt:=Q } (start N_m_draw vs) H:=fn_of h fun as M Qa h=>by
 obtain⟨l,a,k,m,z,C,rfl,hC,m0,m1,hk,q⟩:=h
 have eM:=hC.eq
 subst eM
 have hC2:∀u,Ctx (C u) l u C:=fun u=>hC.at u
 unfold t_m_draw
 ((with_reducible refine Ab.s_seq ?_);(with_reducible refine Ab.s_if ?_);(with_reducible refine Ab.t_testB ?_);(with_reducible refine Ab.e_op ?_);(with_reducible refine Ab.e_op ?_);((with_reducible refine' Ab.e_var ?hh_1780 ?_);(case hh_1780=>exact rfl));(with_reducible refine Ab.e_int ?_);((with_reducible refine' Ab.o_ixL ?h1_1781 ?h2_1781 ?_);(case h1_1781=>walk_at "ls");(case h2_1781=>exact rfl));(with_reducible refine Ab.e_int ?_);(with_reducible refine Ab.o_gt ?_);(with_reducible refine Ab.e_B ?_))
 have hcd:∀i:Int,CDivW i (m:Int):=fun i=>⟨by omega,by
  rw [Int.natAbs_natCast]
  exact(Nat.log2_lt (by omega)).mpr (Nat.lt_trans m1 (Nat.pow_lt_pow_right (by decide) (by decide)))⟩
 refine if_2 (fun h=> ?_) (fun h=> ?_)
 ·((with_reducible refine Ab.s_seq ?_);(with_reducible refine Ab.s_asg ?_);(with_reducible refine Ab.e_op ?_);(with_reducible refine Ab.e_op ?_);((with_reducible refine' Ab.e_var ?hh_1782 ?_);(case hh_1782=>exact rfl));(with_reducible refine Ab.e_int ?_);((with_reducible refine' Ab.o_ixL ?h1_1783 ?h2_1783 ?_);(case h1_1783=>walk_at "ls");(case h2_1783=>exact rfl));((with_reducible refine' Ab.e_var ?hh_1784 ?_);(case hh_1784=>exact rfl));((with_reducible refine Ab.o_mod ?hh_1785 ?_);(case hh_1785=>first | decide | omega));(with_reducible refine Ab.s_seq ?_);(with_reducible refine Ab.s_sub ?_);(with_reducible refine Ab.e_op ?_);(with_reducible refine Ab.e_op ?_);((with_reducible refine' Ab.e_var ?hh_1786 ?_);(case hh_1786=>exact rfl));(with_reducible refine Ab.e_int ?_);((with_reducible refine' Ab.o_ixL ?h1_1787 ?h2_1787 ?_);(case h1_1787=>walk_at "ls");(case h2_1787=>exact rfl));((with_reducible refine' Ab.e_var ?hh_1788 ?_);(case hh_1788=>exact rfl)))
  refine o_div (hcd _) ?_
  (((with_reducible refine' Ab.e_var ?hh_1789 ?_);(case hh_1789=>exact rfl));(with_reducible refine Ab.e_int ?_))
  refine⟨l,_,0,0,_,rfl,rfl,(hC2 _).up _,rfl,?_⟩
  ((with_reducible refine Ab.s_ret ?_);((with_reducible refine' Ab.e_var ?hh_1790 ?_);(case hh_1790=>exact rfl));(with_reducible refine Ab.dn0 ?_))
  have:=q (a % m) (a / m) k (Nat.mod_lt _ m0) (by omega)
  rw [wlO,Int.natCast_emod,Int.natCast_ediv] at this
  exact this
 ·((with_reducible refine Ab.s_next ?_);(with_reducible refine Ab.s_seq ?_);(with_reducible refine Ab.s_sub ?_);(with_reducible refine Ab.e_op ?_);(with_reducible refine Ab.e_op ?_);((with_reducible refine' Ab.e_var ?hh_1791 ?_);(case hh_1791=>exact rfl));(with_reducible refine Ab.e_int ?_);((with_reducible refine' Ab.o_ixL ?h1_1792 ?h2_1792 ?_);(case h1_1792=>walk_at "ls");(case h2_1792=>exact rfl));(with_reducible refine Ab.e_int ?_);(with_reducible refine Ab.o_add ?_);((with_reducible refine' Ab.e_var ?hh_1793 ?_);(case hh_1793=>exact rfl));(with_reducible refine Ab.e_int ?_))
  refine⟨l,_,2,2,_,rfl,rfl,(hC2 _).up _,rfl,?_⟩
  ((with_reducible refine Ab.s_ret ?_);(with_reducible refine Ab.e_op ?_);(with_reducible refine Ab.e_call ?_);(with_reducible refine Ab.a_cons ?_);(with_reducible refine Ab.e_op ?_);((with_reducible refine' Ab.e_var ?hh_1794 ?_);(case hh_1794=>exact rfl));(with_reducible refine Ab.e_int ?_);((with_reducible refine' Ab.o_ixL ?h1_1795 ?h2_1795 ?_);(case h1_1795=>walk_at "ls");(case h2_1795=>exact rfl));(with_reducible refine Ab.a_cons ?_);(with_reducible refine Ab.e_op ?_);((with_reducible refine' Ab.e_var ?hh_1796 ?_);(case hh_1796=>exact rfl));(with_reducible refine Ab.e_int ?_);((with_reducible refine' Ab.o_ixL ?h1_1797 ?h2_1797 ?_);(case h1_1797=>walk_at "ls");(case h2_1797=>exact rfl));(with_reducible refine Ab.a_nil ?_))
  refine⟨z,k+1,by rw [Int.natCast_add];rfl,by omega,fun v=> ?_⟩
  (((with_reducible refine' Ab.e_var ?hh_1798 ?_);(case hh_1798=>exact rfl));((with_reducible refine Ab.o_mod ?hh_1799 ?_);(case hh_1799=>first | decide | omega));(with_reducible refine Ab.dn0 ?_))
  have:=q (v % m) a (k+1) (Nat.mod_lt _ m0) (by omega)
  rw [wlO,Int.natCast_emod,Int.natCast_add] at this
  exact this
def fPickW:ASp:=fun as M Q=> ∃(l:Addr) (a k:Nat) (z:Int) (C:AO→AM) (xs:List A),as= [.loc l,.lst xs]∧Ctx M l (wlO a z k) C∧xs≠ []∧xs.length≤1000∧k < 1000000∧ ∀(y:A) (a' k':Nat),y∈xs→k'≤k+1→Q y (C (wlO a' z k'))
def fNumbersW:ASp:=fun as M Q=> ∃(l:Addr) (a k n:Nat) (z:Int) (C:AO→AM),as= [.loc l,.int (n:Int)]∧Ctx M l (wlO a z k) C∧k < 900000∧n≤3∧ ∀(ns:List Int) (a' k':Nat),ns.length=n→(∀x∈ns,-1000000000000≤x∧x≤1000000000000)→k'≤k+3*n→Q (.tup (ns.map A.int)) (C (wlO a' z k'))
abbrev N_m_pick:List Str:= ["_law_well_here","_law_some"]
def t_m_pick (K:PySem.W.Frag):TS:=
 (tRet (tOp (rIxL K) (tVar 1) (tCall (cs K fDrawW) [] E0 (tCons (tVar 0) (tCons (tCB (Evl.rLenS K) (tCons (tVar 1) tNil)) tNil)))))
abbrev N_m_numbers:List Str:= ["_law_well_here","_law_size","_law_found","_law_k","_law_some"]
def t_m_numbers (K:PySem.W.Frag):TS:=
 (tSeq (tAsg (tLst tNil) (gName 2))
  (tSeq (tFor (iRng1 (tCons (tVar 1) tNil)) (gName 3) (tSeq (tAsg (tLst (tCons (tC (.int 0)) (tCons (tOp rSubI (tCall (cs K fDrawW) [] E0 (tCons (tVar 0) (tCons (tC (.int 11)) tNil))) (tC (.int 5))) (tCons (tOp rPowI (tC (.int 10)) (tC (.int 12))) (tCons (tOp rSubI (tC (.int 0)) (tOp rPowI (tC (.int 10)) (tC (.int 12)))) tNil))))) (gName 4))
   (tSeq (tAsg (tOp rCat (tVar 4) (tLst (tCons (tOp rSubI (tCall (cs K fDrawW) [] E0 (tCons (tVar 0) (tCons (tOp rAddI (tOp rMulI (tC (.int 2)) (tOp rPowI (tC (.int 10)) (tC (.int 12)))) (tC (.int 1))) tNil))) (tOp rPowI (tC (.int 10)) (tC (.int 12)))) tNil))) (gName 4))
   (tDrop (tBM K "list" rAppend (tVar 2) (tCons (tOp (rIxL K) (tVar 4) (tCall (cs K fDrawW) [] E0 (tCons (tVar 0) (tCons (tC (.int 5)) tNil)))) tNil))))))
  (tRet (tCB (rTupOf K) (tCons (tVar 2) tNil)))))
theorem p_m_pick_len {K:PySem.W.Frag} {vs:List V} {H:Hp} {Q:VK} {E:XK} (h:cs K fPickW vs H Q E):vs.length=2:=fn_len (fun as M Q ⟨_,_,_,_,_,_,e,_⟩=>by rw [e];rfl) h
theorem p_m_pick {K:PySem.W.Frag} {vs:List V} {H:Hp} {Q:VK} {E:XK} (h:cs K fPickW vs H Q E):t_m_pick K { nx:=fun _ H'=>Q .non H',rt:=Q } (start N_m_pick vs) H:=fn_of h fun as M Qa h=>by
 obtain⟨l,a,k,z,C,xs,rfl,hC,ne,hl,hk,q⟩:=h
 unfold t_m_pick
 refine s_ret (e_op (e_var rfl (e_call (a_cons (e_var rfl (a_cons (e_cb (a_cons (e_var rfl (a_nil (l_lenL .lst (a_nil ?_))))))))))))
 have p0:=List.length_pos_iff.mpr ne
 refine⟨l,a,k,xs.length,z,C,rfl,hC,p0,Nat.lt_of_le_of_lt hl (by decide),hk,fun v a' k' hv hk'=> ?_⟩
 exact o_ixL .lst (atI_at (List.getElem?_eq_getElem hv)) (dn0 (q _ a' k' (List.getElem_mem hv) hk'))
theorem p_m_numbers_len {K:PySem.W.Frag} {vs:List V} {H:Hp} {Q:VK} {E:XK} (h:cs K fNumbersW vs H Q E):vs.length=2:=fn_len (fun as M Q ⟨_,_,_,_,_,_,e,_⟩=>by rw [e];rfl) h
theorem p_m_numbers {K:PySem.W.Frag} {vs:List V} {H:Hp} {Q:VK} {E:XK} (h:cs K fNumbersW vs H Q E):t_m_numbers K { nx:=fun _ H'=>Q .non H',rt:=Q } (start N_m_numbers vs) H:=fn_of h fun as M Qa h=>by
 obtain⟨l,a,k,n,z,C,rfl,hC,hk,hn,q⟩:=h
 have eM:=hC.eq
 subst eM
 have hC2:∀u,Ctx (C u) l u C:=fun u=>hC.at u
 unfold t_m_numbers
 ((with_reducible refine Ab.s_seq ?_);(with_reducible refine Ab.s_asg ?_);(with_reducible refine Ab.e_nilC ?_))
 intro F
 ((with_reducible refine Ab.s_seq ?_);(with_reducible refine Ab.s_for ?_);(with_reducible refine Ab.i_rng1 ?_);(with_reducible refine Ab.a_cons ?_);((with_reducible refine' Ab.e_var ?hh_1800 ?_);(case hh_1800=>exact rfl));(with_reducible refine Ab.a_nil ?_))
 refine⟨_,rfl,by omega,by omega,?_⟩
 refine⟨fun i s M'=> ∃(ns:List Int) (a' k':Nat) (y3 y4:_),s= [some (.loc l),some (.int (n:Int)),some (.loc F),y3,y4]∧M'=(F,.lst (ns.map A.int)) :: C (wlO a' z k')∧ns.length=i∧(∀x∈ns,-1000000000000≤x∧x≤1000000000000)∧k'≤k+3*i,⟨[],a,k,_,_,rfl,rfl,rfl,(fun x hx=>nomatch hx),by omega⟩,?_,?_⟩
 ·rintro i x s M' hx ⟨ns,a',k',y3,y4,rfl,rfl,ln,hns,hk'⟩
  have hi:i < n:=by
   have:=(List.getElem?_eq_some_iff.mp hx).1
   rw [List.length_map,List.length_range] at this
   omega
  ((with_reducible refine Ab.g_name ?_);(with_reducible refine Ab.s_seq ?_);(with_reducible refine Ab.s_asg ?_);(with_reducible refine Ab.e_lst ?_);(with_reducible refine Ab.a_cons ?_);(with_reducible refine Ab.e_int ?_);(with_reducible refine Ab.a_cons ?_);(with_reducible refine Ab.e_op ?_);(with_reducible refine Ab.e_call ?_);(with_reducible refine Ab.a_cons ?_);((with_reducible refine' Ab.e_var ?hh_1801 ?_);(case hh_1801=>exact rfl));(with_reducible refine Ab.a_cons ?_);(with_reducible refine Ab.e_int ?_);(with_reducible refine Ab.a_nil ?_))
  refine⟨l,a',k',11,z,_,rfl,.there (hC2 _),by decide,by decide,by omega,fun v a2 k2 hv hk2=> ?_⟩
  ((with_reducible refine Ab.e_int ?_);(with_reducible refine Ab.o_subI ?_);(with_reducible refine Ab.a_cons ?_);(with_reducible refine Ab.e_op ?_);(with_reducible refine Ab.e_int ?_);(with_reducible refine Ab.e_int ?_);((with_reducible refine Ab.o_pow ?hh_1802 ?_);(case hh_1802=>exact⟨by decide +kernel,by decide +kernel,by decide +kernel⟩));(with_reducible refine Ab.a_cons ?_);(with_reducible refine Ab.e_op ?_);(with_reducible refine Ab.e_int ?_);(with_reducible refine Ab.e_op ?_);(with_reducible refine Ab.e_int ?_);(with_reducible refine Ab.e_int ?_);((with_reducible refine Ab.o_pow ?hh_1803 ?_);(case hh_1803=>exact⟨by decide +kernel,by decide +kernel,by decide +kernel⟩));(with_reducible refine Ab.o_subI ?_);(with_reducible refine Ab.a_nil ?_);((with_reducible refine And.intro ?hl_1804 ?_);(case hl_1804=>exact Ab.len_ok (Nat.le_of_ble_eq_true rfl)));(with_reducible refine Ab.s_seq ?_);(with_reducible refine Ab.s_asg ?_);(with_reducible refine Ab.e_op ?_);((with_reducible refine' Ab.e_var ?hh_1805 ?_);(case hh_1805=>exact rfl));(with_reducible refine Ab.e_lst ?_);(with_reducible refine Ab.a_cons ?_);(with_reducible refine Ab.e_op ?_);(with_reducible refine Ab.e_call ?_);(with_reducible refine Ab.a_cons ?_);((with_reducible refine' Ab.e_var ?hh_1806 ?_);(case hh_1806=>exact rfl));(with_reducible refine Ab.a_cons ?_);(with_reducible refine Ab.e_op ?_);(with_reducible refine Ab.e_op ?_);(with_reducible refine Ab.e_int ?_);(with_reducible refine Ab.e_op ?_);(with_reducible refine Ab.e_int ?_);(with_reducible refine Ab.e_int ?_);((with_reducible refine Ab.o_pow ?hh_1807 ?_);(case hh_1807=>exact⟨by decide +kernel,by decide +kernel,by decide +kernel⟩));((with_reducible refine Ab.o_mul ?hh_1808 ?_);(case hh_1808=>first | exact Or.inl ⟨by decide,by decide⟩ | exact Or.inr ⟨by decide,by decide⟩));(with_reducible refine Ab.e_int ?_);(with_reducible refine Ab.o_add ?_);(with_reducible refine Ab.a_nil ?_))
  refine⟨l,a2,k2,2000000000001,z,_,rfl,.there (hC2 _),by decide,by decide,by omega,fun w a3 k3 hw hk3=> ?_⟩
  ((with_reducible refine Ab.e_op ?_);(with_reducible refine Ab.e_int ?_);(with_reducible refine Ab.e_int ?_);((with_reducible refine Ab.o_pow ?hh_1809 ?_);(case hh_1809=>exact⟨by decide +kernel,by decide +kernel,by decide +kernel⟩));(with_reducible refine Ab.o_subI ?_);(with_reducible refine Ab.a_nil ?_);((with_reducible refine And.intro ?hl_1810 ?_);(case hl_1810=>exact Ab.len_ok (Nat.le_of_ble_eq_true rfl))))
  refine o_cat .lst .lst (small (by show 5≤_;decide)) ?_
  ((with_reducible refine Ab.s_drop ?_);((with_reducible refine' Ab.e_bmL ?_));((with_reducible refine' Ab.e_var ?hh_1811 ?_);(case hh_1811=>exact rfl));((with_reducible refine' Ab.e_lsx ?h1_1812 ?_);(case h1_1812=>walk_at "ls"));(with_reducible refine Ab.a_cons ?_);(with_reducible refine Ab.e_op ?_);((with_reducible refine' Ab.e_var ?hh_1813 ?_);(case hh_1813=>exact rfl));(with_reducible refine Ab.e_call ?_);(with_reducible refine Ab.a_cons ?_);((with_reducible refine' Ab.e_var ?hh_1814 ?_);(case hh_1814=>exact rfl));(with_reducible refine Ab.a_cons ?_);(with_reducible refine Ab.e_int ?_);(with_reducible refine Ab.a_nil ?_))
  refine⟨l,a3,k3,5,z,_,rfl,.there (hC2 _),by decide,by decide,by omega,fun j a4 k4 hj hk4=> ?_⟩
  obtain⟨g,hg,hg1⟩:∃g:Int,atI ([A.int 0,A.int ((v:Int) - 5),A.int (10^Int.toNat 12),A.int (0 - 10^Int.toNat 12)] ++ [A.int ((w:Int) - 10^Int.toNat 12)]) (j:Int)=some (.int g)∧ -1000000000000≤g∧g≤1000000000000:=by
   have:j=0∨j=1∨j=2∨j=3∨j=4:=by omega
   have e12:(10:Int)^Int.toNat 12=1000000000000:=by decide
   rw [e12]
   rcases this with rfl | rfl | rfl | rfl | rfl
   ·exact⟨_,rfl,by decide,by decide⟩
   ·exact⟨_,rfl,by omega,by omega⟩
   ·exact⟨_,rfl,by decide,by decide⟩
   ·exact⟨_,rfl,by decide,by decide⟩
   ·exact⟨_,rfl,by omega,by omega⟩
  refine o_ixL .lst hg ?_
  ((with_reducible refine Ab.a_nil ?_))
  refine m_append .here (small' (by rw [List.length_map];omega)) ?_
  skip
  refine⟨ns ++ [g],a4,k4,_,_,rfl,by rw [List.map_append];rfl,by rw [List.length_append,ln];rfl,fun x hx=> ?_,by omega⟩
  rcases List.mem_append.mp hx with hx | hx
  ·exact hns x hx
  ·rw [List.mem_singleton.mp hx];exact hg1
 ·rintro s M' ⟨ns,a',k',y3,y4,rfl,rfl,ln,hns,hk'⟩
  rw [List.length_map,List.length_range] at ln hk'
  ((with_reducible refine Ab.s_ret ?_);(with_reducible refine Ab.e_cb ?_);(with_reducible refine Ab.a_cons ?_);((with_reducible refine' Ab.e_var ?hh_1815 ?_);(case hh_1815=>exact rfl));(with_reducible refine Ab.a_nil ?_);((with_reducible refine' Ab.l_tupL ?h1_1816 ?_);(case h1_1816=>walk_at "ls"));(with_reducible refine Ab.dnD ?_);(with_reducible refine Ab.dn0 ?_))
  exact q ns a' k' (by omega) hns (by omega)
/-- how names are drawn: words, one letter more and more, or of one stem -/
def wordL:List Str:= ["turn","come","tie","cut","set","hand","web","book","up","held","way","sure","sum"]
def NmK (zs:List Str):Prop:=(∀z∈zs,z∈wordL)∨(∀z∈zs,∃n c,z.cps.toList=List.replicate n c)∨ ∃as bs:List Nat,∀z∈zs,∃x,z.cps.toList=as ++ x :: bs
def fNamesW:ASp:=fun as M Q=> ∃(l:Addr) (a k n:Nat) (z:Int) (C:AO→AM),as= [.loc l,.int (n:Int)]∧Ctx M l (wlO a z k) C∧k < 700000∧n≤8∧ ∀(zs:List Str) (a' k':Nat),zs.length=n→zs.Nodup→(∀z∈zs,isTx8 z)→NmK zs→k'≤k+20→Q (.lst (zs.map A.str)) (C (wlO a' z k'))
abbrev N_m_names:List Str:= ["_law_well_here","_law_many","_law_letters","_law_words","_law_shift","_law_way","_law_stem","_law_at","_law_k"]
def t_m_names (K:PySem.W.Frag):TS:=
 (tSeq (tAsg (tC (.str ("abcdefghijklmnopqrstuvwxyz" :Str))) (gName 2))
  (tSeq (tAsg (tSplit (tC (.str ("turn come tie cut set hand web book up held way sure sum" :Str))) (tC (.str (" " :Str)))) (gName 3))
  (tSeq (tAsg (tCall (cs K fDrawW) [] E0 (tCons (tVar 0) (tCons (tC (.int 26)) tNil))) (gName 4))
  (tSeq (tAsg (tCall (cs K fDrawW) [] E0 (tCons (tVar 0) (tCons (tC (.int 4)) tNil))) (gName 5))
  (tSeq (tIfS (tTest (tOp rEq (tVar 5) (tC (.int 0)))) (tRet (tLc (iRng1 (tCons (tVar 1) tNil)) (gName 8) tYes (tOp (rIxL K) (tVar 3) (tOp rModI (tOp rAddI (tVar 4) (tVar 8)) (tC (.int 13)))) [8])) tNext)
  (tSeq (tIfS (tTest (tOp rEq (tVar 5) (tC (.int 1)))) (tRet (tLc (iRng1 (tCons (tVar 1) tNil)) (gName 8) tYes (tOp rRepStr (tOp rIxS (tVar 2) (tVar 4)) (tOp rAddI (tVar 8) (tC (.int 1)))) [8])) tNext)
  (tSeq (tAsg (tJoin K (tC (.str ("" :Str))) (tLc (iRng1 (tCons (tCall (cs K fDrawW) [] E0 (tCons (tVar 0) (tCons (tC (.int 8)) tNil))) tNil)) (gName 8) tYes (tOp rIxS (tVar 2) (tCall (cs K fDrawW) [] E0 (tCons (tVar 0) (tCons (tC (.int 26)) tNil)))) [8])) (gName 6))
  (tSeq (tAsg (tCall (cs K fDrawW) [] E0 (tCons (tVar 0) (tCons (tOp rAddI (tCB rLenStr (tCons (tVar 6) tNil)) (tC (.int 1))) tNil))) (gName 7))
  (tRet (tLc (iRng1 (tCons (tVar 1) tNil)) (gName 8) tYes (tOp rAddStr (tOp rAddStr (tSl rSlS (tVar 6) tNoPart (tPart (tVar 7))) (tOp rIxS (tVar 2) (tOp rModI (tOp rAddI (tVar 4) (tOp rMulI (tC (.int 3)) (tVar 8))) (tC (.int 26))))) (tSl rSlS (tVar 6) (tPart (tVar 7)) tNoPart)) [8]))))))))))
abbrev sgn (c:Nat):Str:=⟨#[c]⟩
theorem words_eq:Txt.split ("turn come tie cut set hand web book up held way sure sum" :Str) (" " :Str)=wordL:=by decide +kernel
def wordAt (i:Nat):Str:=wordL.getD (i % 13) Str.empty
theorem word_get (i:Nat):wordL[i % 13]? =some (wordAt i):=by
 have h:i % 13 < wordL.length:=Nat.mod_lt _ (by decide)
 unfold wordAt
 rw [List.getD_eq_getElem?_getD,List.getElem?_eq_getElem h];rfl
theorem word_in (i:Nat):wordAt i∈wordL:=List.mem_of_getElem? (word_get i)
theorem nmB_tx {z:Str} (h:nmB z=true):isTx8 z:=by
 unfold nmB at h
 rw [Bool.and_eq_true,Bool.and_eq_true] at h
 exact⟨of_decide_eq_true h.1.1,of_decide_eq_true h.1.2,fun c hc=>of_decide_eq_true (List.all_eq_true.mp h.2 c hc)⟩
theorem word_tx (i:Nat):isTx8 (wordAt i):=by
 have h:∀j,j < 13→nmB (wordL.getD j Str.empty)=true:=by decide +kernel
 exact nmB_tx (h _ (Nat.mod_lt _ (by decide)))
theorem word_inj (i j:Nat) (e:wordAt i=wordAt j):i % 13=j % 13:=by
 have h:∀a,a < 13→ ∀b,b < 13→wordL.getD a Str.empty=wordL.getD b Str.empty→a=b:=by decide +kernel
 exact h _ (Nat.mod_lt _ (by decide)) _ (Nat.mod_lt _ (by decide)) e
theorem mul_list (c n:Nat):Txt.mul (sgn c) (n:Int)=⟨(List.replicate n c).toArray⟩:=by
 have key:∀(k:Nat) (acc:Array Nat),(List.replicate k (#[c]:Array Nat)).foldl (· ++ ·) acc=acc ++ (List.replicate k c).toArray:=by
  intro k
  induction k with
  | zero=>intro acc;simp
  | succ k ih=>
   intro acc
   rw [List.replicate_succ,List.foldl_cons,ih]
   apply Array.toList_inj.mp
   simp [List.replicate_succ]
 unfold Txt.mul
 by_cases h:(n:Int) < 1
 ·rw [if_pos h]
  have:n=0:=by omega
  subst this;rfl
 ·rw [if_neg h]
  by_cases h1:n=1
  ·subst h1;rfl
  ·have h2:(((n:Int) == 1) || ((sgn c).length == 0))=false:=by
    have:((n:Int) == 1)=false:=by simp;omega
    rw [this];rfl
   rw [h2]
   show(⟨_⟩:Str)=_
   rw [Int.toNat_natCast,key]
   simp
theorem joinL_sgn:∀cs:List Nat,TL.joinL [] (cs.map fun c=> [c])=cs
 | []=>rfl
 | [c]=>rfl
 | c :: d :: r=>by
  have:=joinL_sgn (d :: r)
  show [c] ++ ([] ++ TL.joinL [] ((d :: r).map fun c=> [c]))=_
  rw [this];rfl
theorem join_sgn (cs:List Nat):Txt.join ("" :Str) (cs.map sgn)=⟨cs.toArray⟩:=by
 have e:=SX.join_S [] (cs.map fun c=> [c])
 rw [joinL_sgn,List.map_map] at e
 exact e
theorem sgn_sum:∀cs:List Nat,((cs.map sgn).map (·.length)).sum=cs.length
 | []=>rfl
 | c :: cs=>by
  rw [List.map_cons,List.map_cons,List.sum_cons,sgn_sum cs,List.length_cons]
  show 1+_=_
  omega
theorem range_nd {f:Nat→Str} {n:Nat} (h:∀i j,i < n→j < n→f i=f j→i=j):((List.range n).map f).Nodup:=
 List.pairwise_map.mpr (List.Pairwise.imp_of_mem (fun {a b} ha hb hne e=>hne (h a b (List.mem_range.mp ha) (List.mem_range.mp hb) e)) List.nodup_range)
theorem cut_list (z:Str) (f:Nat) (h:f≤z.length):(cutS z none (some (f:Int))).cps.toList=z.cps.toList.take f∧(cutS z (some (f:Int)) none).cps.toList=z.cps.toList.drop f:=by
 have e1:HT.sIx z.length z.length (some (f:Int))=f:=by
  rw [HT.sIx_nat];omega
 have e2:HT.sIx z.length 0 (some (f:Int))=f:=by
  rw [HT.sIx_nat];omega
 have e3:HT.sIx z.length 0 none=0:=rfl
 have e4:HT.sIx z.length z.length none=z.length:=rfl
 have lz:z.cps.toList.length=z.length:=Array.length_toList
 constructor
 ·unfold cutS
  rw [e1,e3,List.drop_zero,Nat.sub_zero]
 ·unfold cutS
  rw [e2,e4]
  show(z.cps.toList.drop f).take (z.length - f)=_
  refine List.take_of_length_le ?_
  rw [List.length_drop,lz]
  exact Nat.le_refl _
def stemAt (cs:List Nat) (f sh i:Nat):Str:=⟨(cs.take f ++ (97+(sh+3*i) % 26) :: cs.drop f).toArray⟩
theorem stem_tx {cs:List Nat} {f sh i:Nat} (l:cs.length≤7) (h:∀c∈cs,97≤c∧c≤122):isTx8 (stemAt cs f sh i):=by
 have e:(stemAt cs f sh i).length=cs.length+1:=by
  rw [str_len]
  show(cs.take f ++ _ :: cs.drop f).length=_
  rw [List.length_append,List.length_cons,List.length_take,List.length_drop]
  omega
 refine⟨by omega,by omega,fun c hc=> ?_⟩
 have hc:c∈cs.take f ++ (97+(sh+3*i) % 26) :: cs.drop f:=hc
 rcases List.mem_append.mp hc with hc | hc
 ·exact h c (List.mem_of_mem_take hc)
 ·rcases List.mem_cons.mp hc with hc | hc
  ·omega
  ·exact h c (List.mem_of_mem_drop hc)
theorem stem_inj {cs:List Nat} {f sh i j:Nat} (e:stemAt cs f sh i=stemAt cs f sh j):(sh+3*i) % 26=(sh+3*j) % 26:=by
 have e2:cs.take f ++ (97+(sh+3*i) % 26) :: cs.drop f=cs.take f ++ (97+(sh+3*j) % 26) :: cs.drop f:=congrArg (fun z:Str=>z.cps.toList) e
 have e3:=(List.cons.inj (List.append_cancel_left e2)).1
 omega
theorem str_ext {x y:Str} (h:x.cps.toList=y.cps.toList):x=y:=by
 cases x;cases y
 exact congrArg Str.mk (Array.toList_inj.mp h)
theorem p_m_names_len {K:PySem.W.Frag} {vs:List V} {H:Hp} {Q:VK} {E:XK} (h:cs K fNamesW vs H Q E):vs.length=2:=fn_len (fun as M Q ⟨_,_,_,_,_,_,e,_⟩=>by rw [e];rfl) h
theorem p_m_names {K:PySem.W.Frag} {vs:List V} {H:Hp} {Q:VK} {E:XK} (h:cs K fNamesW vs H Q E):t_m_names K { nx:=fun _ H'=>Q .non H',rt:=Q } (start N_m_names vs) H:=fn_of h fun as M Qa h=>by
 obtain⟨l,a,k,n,z,C,rfl,hC,hk,n8,q⟩:=h
 have eM:=hC.eq
 subst eM
 have hC2:∀u,Ctx (C u) l u C:=fun u=>hC.at u
 unfold t_m_names
 ((with_reducible refine Ab.s_seq ?_);(with_reducible refine Ab.s_asg ?_);(with_reducible refine Ab.e_str ?_);(with_reducible refine Ab.s_seq ?_);(with_reducible refine Ab.s_asg ?_))
 refine e_split (e_str ⟨_,rfl,e_str ⟨_,rfl,rfl,by decide +kernel,?_⟩⟩)
 rw [words_eq]
 ((with_reducible refine Ab.s_seq ?_);(with_reducible refine Ab.s_asg ?_);(with_reducible refine Ab.e_call ?_);(with_reducible refine Ab.a_cons ?_);((with_reducible refine' Ab.e_var ?hh_1845 ?_);(case hh_1845=>exact rfl));(with_reducible refine Ab.a_cons ?_);(with_reducible refine Ab.e_int ?_);(with_reducible refine Ab.a_nil ?_))
 refine⟨l,a,k,26,z,_,rfl,hC2 _,by decide,by decide,by omega,fun sh a1 k1 hsh hk1=> ?_⟩
 ((with_reducible refine Ab.s_seq ?_);(with_reducible refine Ab.s_asg ?_);(with_reducible refine Ab.e_call ?_);(with_reducible refine Ab.a_cons ?_);((with_reducible refine' Ab.e_var ?hh_1846 ?_);(case hh_1846=>exact rfl));(with_reducible refine Ab.a_cons ?_);(with_reducible refine Ab.e_int ?_);(with_reducible refine Ab.a_nil ?_))
 refine⟨l,a1,k1,4,z,_,rfl,hC2 _,by decide,by decide,by omega,fun way a2 k2 hway hk2=> ?_⟩
 ((with_reducible refine Ab.s_seq ?_);(with_reducible refine Ab.s_if ?_);(with_reducible refine Ab.t_testB ?_);(with_reducible refine Ab.e_op ?_);((with_reducible refine' Ab.e_var ?hh_1847 ?_);(case hh_1847=>exact rfl));(with_reducible refine Ab.e_int ?_);(with_reducible refine Ab.o_eqI ?_);(with_reducible refine Ab.e_B ?_))
 refine if_2 (fun h=> ?_) (fun h=> ?_)
 ·refine s_ret (e_mapF (α:=Nat) (fun i=> .str (wordAt (sh+i))) (i_rng1 (a_cons (e_var rfl (a_nil ⟨_,rfl,by omega,by omega,?_⟩)))))
  refine⟨_,_,rfl,small (by rw [List.length_range];omega),fun i hi M' up=> ?_,?_⟩
  ·refine c_name (by decide) ?_
   ((with_reducible refine Ab.e_op ?_);((with_reducible refine' Ab.e_var ?hh_1848 ?_);(case hh_1848=>exact rfl));(with_reducible refine Ab.e_op ?_);(with_reducible refine Ab.e_op ?_);((with_reducible refine' Ab.e_var ?hh_1849 ?_);(case hh_1849=>exact rfl));((with_reducible refine' Ab.e_var ?hh_1850 ?_);(case hh_1850=>exact rfl));(with_reducible refine Ab.o_add ?_);(with_reducible refine Ab.e_int ?_);((with_reducible refine Ab.o_mod ?hh_1851 ?_);(case hh_1851=>first | decide | omega)))
   have e:((sh:Int)+(0+(i:Int))) % 13=(((sh+i) % 13:Nat):Int):=by omega
   rw [e]
   exact o_ixL .lst (atI_at (by rw [List.getElem?_map,word_get];rfl)) ⟨rfl,rfl⟩
  ·have:=q ((List.range n).map fun i=>wordAt (sh+i)) a2 k2 (by rw [List.length_map,List.length_range]) (range_nd fun i j hi hj e=>by have:=word_inj _ _ e;omega) (fun z hz=>by
    obtain⟨i,_,rfl⟩:=List.mem_map.mp hz
    exact word_tx _) (.inl fun z hz=>by
    obtain⟨i,_,rfl⟩:=List.mem_map.mp hz
    exact word_in _) (by omega)
   rw [List.map_map] at this
   exact dn0 this
 ·((with_reducible refine Ab.s_next ?_);(with_reducible refine Ab.s_seq ?_);(with_reducible refine Ab.s_if ?_);(with_reducible refine Ab.t_testB ?_);(with_reducible refine Ab.e_op ?_);((with_reducible refine' Ab.e_var ?hh_1852 ?_);(case hh_1852=>exact rfl));(with_reducible refine Ab.e_int ?_);(with_reducible refine Ab.o_eqI ?_);(with_reducible refine Ab.e_B ?_))
  refine if_2 (fun h2=> ?_) (fun h2=> ?_)
  ·refine s_ret (e_mapF (α:=Nat) (fun i=> .str (Txt.mul (sgn (97+sh)) ((i+1:Nat):Int))) (i_rng1 (a_cons (e_var rfl (a_nil ⟨_,rfl,by omega,by omega,?_⟩)))))
   rw [Int.toNat_natCast]
   refine⟨_,_,rfl,small (by rw [List.length_range];omega),fun i hi M' up=> ?_,?_⟩
   ·have hi:=List.mem_range.mp hi
    refine c_name (by decide) ?_
    ((with_reducible refine Ab.e_op ?_);(with_reducible refine Ab.e_op ?_);((with_reducible refine' Ab.e_var ?hh_1853 ?_);(case hh_1853=>exact rfl));((with_reducible refine' Ab.e_var ?hh_1854 ?_);(case hh_1854=>exact rfl)))
    refine o_ixS (small (by decide +kernel)) (abc_at hsh) ?_
    ((with_reducible refine Ab.e_op ?_);((with_reducible refine' Ab.e_var ?hh_1855 ?_);(case hh_1855=>exact rfl));(with_reducible refine Ab.e_int ?_);(with_reducible refine Ab.o_add ?_))
    have e:(0+(i:Int))+1=((i+1:Nat):Int):=by omega
    rw [e]
    exact o_repS (by show 1*(i+1)≤1000;omega) (by omega) ⟨rfl,rfl⟩
   ·have el:∀i:Nat,(Txt.mul (sgn (97+sh)) ((i+1:Nat):Int)).cps.toList=List.replicate (i+1) (97+sh):=fun i=>by rw [mul_list]
    have:=q ((List.range n).map fun i:Nat=>Txt.mul (sgn (97+sh)) ((i+1:Nat):Int)) a2 k2 (by rw [List.length_map,List.length_range]) (range_nd fun i j hi hj e=>by
     have e2:=congrArg (fun z:Str=>z.cps.toList.length) e
     have e2:(Txt.mul (sgn (97+sh)) ((i+1:Nat):Int)).cps.toList.length=(Txt.mul (sgn (97+sh)) ((j+1:Nat):Int)).cps.toList.length:=e2
     rw [el,el,List.length_replicate,List.length_replicate] at e2
     omega) (fun z hz=>by
     obtain⟨i,hi,rfl⟩:=List.mem_map.mp hz
     have hi:=List.mem_range.mp hi
     have ln:(Txt.mul (sgn (97+sh)) ((i+1:Nat):Int)).length=i+1:=by rw [str_len,el,List.length_replicate]
     refine⟨by omega,by omega,fun c hc=> ?_⟩
     rw [el] at hc
     have:=(List.mem_replicate.mp hc).2
     omega) (.inr (.inl fun z hz=>by
     obtain⟨i,hi,rfl⟩:=List.mem_map.mp hz
     exact⟨_,_,el i⟩)) (by omega)
    rw [List.map_map] at this
    exact dn0 this
  ·refine s_next (s_seq (s_asg (e_join (zs:= []) (e_str ⟨_,rfl,?_⟩))))
   refine e_lc (i_rng1 (a_cons (e_call (a_cons (e_var rfl (a_cons (e_int (a_nil ⟨l,a2,k2,8,z,_,rfl,hC2 _,by decide,by decide,by omega,fun d a3 k3 hd hk3=>a_nil ⟨_,rfl,by omega,by omega,?_⟩⟩))))))))
   rw [Int.toNat_natCast]
   refine⟨small (by rw [List.length_map,List.length_range];omega),fun i acc M'=> ∃(cs:List Nat) (a' k':Nat),acc=(cs.map sgn).map A.str∧M'=C (wlO a' z k')∧cs.length=i∧(∀c∈cs,97≤c∧c≤122)∧k'≤k3+i,⟨[],a3,k3,rfl,rfl,rfl,(fun x hx=>nomatch hx),by omega⟩,?_,?_⟩
   ·rintro i x acc M' D hx ⟨cs,a4,k4,rfl,rfl,lc,hcs,hk4⟩
    have hi:i < d:=by
     have:=(List.getElem?_eq_some_iff.mp hx).1
     rw [List.length_map,List.length_range] at this
     exact this
    refine c_name (by decide) (t_yes (if_t rfl ?_))
    ((with_reducible refine Ab.e_op ?_);((with_reducible refine' Ab.e_var ?hh_1856 ?_);(case hh_1856=>exact rfl));(with_reducible refine Ab.e_call ?_);(with_reducible refine Ab.a_cons ?_);((with_reducible refine' Ab.e_var ?hh_1857 ?_);(case hh_1857=>exact rfl));(with_reducible refine Ab.a_cons ?_);(with_reducible refine Ab.e_int ?_);(with_reducible refine Ab.a_nil ?_))
    refine⟨l,a4,k4,26,z,_,rfl,.there (hC2 _),by decide,by decide,by omega,fun e a5 k5 he hk5=> ?_⟩
    refine o_ixS (small (by decide +kernel)) (abc_at he) ?_
    refine⟨_,rfl,cs ++ [97+e],a5,k5,by rw [List.map_append,List.map_append];rfl,rfl,by rw [List.length_append,lc];rfl,fun c hc=> ?_,by omega⟩
    rcases List.mem_append.mp hc with hc | hc
    ·exact hcs c hc
    ·have:=List.mem_singleton.mp hc
     omega
   ·rintro acc M' ⟨cs,a4,k4,rfl,rfl,lc,hcs,hk4⟩
    rw [List.length_map,List.length_range] at lc hk4
    refine⟨cs.map sgn,.inl .lst,by rw [sgn_sum,List.length_map];show cs.length+cs.length*0≤_;omega,?_⟩
    rw [join_sgn]
    have lz:(⟨cs.toArray⟩:Str).length=cs.length:=by
     show cs.toArray.size=cs.length
     simp
    have lt:(⟨cs.toArray⟩:Str).cps.toList=cs:=rfl
    generalize (⟨cs.toArray⟩:Str)=y at *
    ((with_reducible refine Ab.s_seq ?_);(with_reducible refine Ab.s_asg ?_);(with_reducible refine Ab.e_call ?_);(with_reducible refine Ab.a_cons ?_);((with_reducible refine' Ab.e_var ?hh_1858 ?_);(case hh_1858=>exact rfl));(with_reducible refine Ab.a_cons ?_);(with_reducible refine Ab.e_op ?_);(with_reducible refine Ab.e_cb ?_);(with_reducible refine Ab.a_cons ?_);((with_reducible refine' Ab.e_var ?hh_1859 ?_);(case hh_1859=>exact rfl));(with_reducible refine Ab.a_nil ?_))
    refine l_lenS (small (by omega)) ?_
    ((with_reducible refine Ab.e_int ?_);(with_reducible refine Ab.o_add ?_);(with_reducible refine Ab.a_nil ?_))
    refine⟨l,a4,k4,y.length+1,z,_,by rw [Int.natCast_add];rfl,hC2 _,by omega,Nat.lt_of_le_of_lt (show y.length+1≤100 by omega) (by decide),by omega,fun f a5 k5 hf hk5=> ?_⟩
    obtain⟨ct,cd⟩:=cut_list y f (by omega)
    have c1:(cutS y none (some (f:Int))).length≤7:=by rw [str_len,ct,List.length_take,lt];omega
    have c2:(cutS y (some (f:Int)) none).length≤7:=by rw [str_len,cd,List.length_drop,lt];omega
    refine s_ret (e_mapF (α:=Nat) (fun i=> .str (stemAt cs f sh i)) (i_rng1 (a_cons (e_var rfl (a_nil ⟨_,rfl,by omega,by omega,?_⟩)))))
    rw [Int.toNat_natCast]
    refine⟨_,_,rfl,small (by rw [List.length_range];omega),fun i hi M' up=> ?_,?_⟩
    ·have hi:=List.mem_range.mp hi
     refine c_name (by decide) ?_
     ((with_reducible refine Ab.e_op ?_);(with_reducible refine Ab.e_op ?_);(with_reducible refine Ab.e_sl ?_);((with_reducible refine' Ab.e_var ?hh_1860 ?_);(case hh_1860=>exact rfl));(with_reducible refine Ab.e_noPart ?_);(with_reducible refine Ab.e_part ?_);((with_reducible refine' Ab.e_var ?hh_1861 ?_);(case hh_1861=>exact rfl));(with_reducible refine Ab.e_I ?_))
     refine o_slS (small (by omega)) ?_
     ((with_reducible refine Ab.e_op ?_);((with_reducible refine' Ab.e_var ?hh_1862 ?_);(case hh_1862=>exact rfl));(with_reducible refine Ab.e_op ?_);(with_reducible refine Ab.e_op ?_);((with_reducible refine' Ab.e_var ?hh_1863 ?_);(case hh_1863=>exact rfl));(with_reducible refine Ab.e_op ?_);(with_reducible refine Ab.e_int ?_);((with_reducible refine' Ab.e_var ?hh_1864 ?_);(case hh_1864=>exact rfl));((with_reducible refine Ab.o_mul ?hh_1865 ?_);(case hh_1865=>first | exact Or.inl ⟨by decide,by decide⟩ | exact Or.inr ⟨by decide,by decide⟩));(with_reducible refine Ab.o_add ?_);(with_reducible refine Ab.e_int ?_);((with_reducible refine Ab.o_mod ?hh_1866 ?_);(case hh_1866=>first | decide | omega)))
     have e:((sh:Int)+3*(0+(i:Int))) % 26=(((sh+3*i) % 26:Nat):Int):=by omega
     rw [e]
     refine o_ixS (small (by decide +kernel)) (abc_at (by omega)) ?_
     have l1:(sgn (97+(sh+3*i) % 26)).length=1:=rfl
     refine o_addS (small (by rw [show Str.length ⟨#[97+(sh+3*i) % 26]⟩=1 from rfl];omega)) ?_
     ((with_reducible refine Ab.e_sl ?_);((with_reducible refine' Ab.e_var ?hh_1867 ?_);(case hh_1867=>exact rfl));(with_reducible refine Ab.e_part ?_);((with_reducible refine' Ab.e_var ?hh_1868 ?_);(case hh_1868=>exact rfl));(with_reducible refine Ab.e_I ?_);(with_reducible refine Ab.e_noPart ?_))
     refine o_slS (small (by omega)) ?_
     refine o_addS (small (by rw [Str.length_append,show Str.length ⟨#[97+(sh+3*i) % 26]⟩=1 from rfl];omega)) ⟨rfl,?_⟩
     refine congrArg A.str (str_ext ?_)
     show((cutS y none (some (f:Int))).cps ++ #[97+(sh+3*i) % 26] ++ (cutS y (some (f:Int)) none).cps:Array Nat).toList=cs.take f ++ _ :: cs.drop f
     rw [Array.toList_append,Array.toList_append,ct,cd,lt]
     simp
    ·have:=q ((List.range n).map fun i=>stemAt cs f sh i) a5 k5 (by rw [List.length_map,List.length_range]) (range_nd fun i j hi hj e=>by have:=stem_inj e;omega) (fun z hz=>by
      obtain⟨i,hi,rfl⟩:=List.mem_map.mp hz
      exact stem_tx (by omega) hcs) (.inr (.inr ⟨cs.take f,cs.drop f,fun z hz=>by
      obtain⟨i,hi,rfl⟩:=List.mem_map.mp hz
      exact⟨_,rfl⟩⟩)) (by omega)
     rw [List.map_map] at this
     exact dn0 this
def mism (l m:List Nat):Nat:=(List.zipWith (fun a b=>if a=b then 0 else 1) l m).sum
theorem mism_self:∀l:List Nat,mism l l=0
 | []=>rfl
 | a :: l=>by
  show(if a=a then 0 else 1)+mism l l=0
  rw [if_pos rfl,mism_self l]
theorem mism_one (as bs:List Nat) (x y:Nat):mism (as ++ x :: bs) (as ++ y :: bs)≤1:=by
 induction as with
 | nil=>
  show(if x=y then 0 else 1)+mism bs bs≤1
  rw [mism_self]
  split <;> omega
 | cons a as ih=>
  show(if a=a then 0 else 1)+mism (as ++ x :: bs) (as ++ y :: bs)≤1
  rw [if_pos rfl];omega
def twoL:List Nat→Bool
 | a :: l=>l.any fun b=> !decide (b=a)
 | []=>false
def notBoth (u w:Str):Bool:= !decide (u∈wordL) && twoL u.cps.toList && (!decide (u.cps.toList.length=w.cps.toList.length) || decide (2≤mism u.cps.toList w.cps.toList))
theorem NmK.not {zs:List Str} (h:NmK zs) {u w:Str} (hb:notBoth u w=true) (h1:u∈zs) (h2:w∈zs):False:=by
 unfold notBoth at hb
 rw [Bool.and_eq_true,Bool.and_eq_true] at hb
 obtain⟨⟨b1,b2⟩,b3⟩:=hb
 rcases h with h | h | ⟨as,bs,h⟩
 ·rw [decide_eq_true (h u h1)] at b1;cases b1
 ·obtain⟨n,c,e⟩:=h u h1
  rw [e] at b2
  cases n with
  | zero=>cases b2
  | succ n=>
   obtain⟨y,hy,hc⟩:=List.any_eq_true.mp (show((List.replicate n c).any fun b=> !decide (b=c))=true from b2)
   rw [(List.mem_replicate.mp hy).2,decide_eq_true rfl] at hc
   cases hc
 ·obtain⟨x,ex⟩:=h u h1
  obtain⟨y,ey⟩:=h w h2
  rw [ex,ey] at b3
  rw [Bool.or_eq_true] at b3
  rcases b3 with b3 | b3
  ·rw [decide_eq_true (by rw [List.length_append,List.length_append];rfl)] at b3;cases b3
  ·have:=of_decide_eq_true b3
   have:=mism_one as bs x y
   omega
theorem Lay.strs {zs:List Str} (h:∀z∈zs,isTx z):∀x∈zs.map A.str,Lay 0 x:=Lay.map fun z hz=>Lay.str (h z hz)
theorem Lay.en {n:Nat} {e:En} (h:EnOk n e):Lay 2 (entA e):=Lay.tup ((Lay.str h.1).mono (by decide) |>.cons (((Lay.int _).mono (by decide)).cons (((Lay.int _).mono (by decide)).cons ((Lay.tup (Lay.ints _)).cons ((Lay.tup (Lay.strs h.2.2.2)).cons Lay.nil)))))
theorem Lay.lt {n:Nat} {l:Lt} (h:LtOk n l):Lay 4 (ltA l):=
 Lay.tup (((Lay.str h.1.tx).mono (by decide)).cons (((Lay.str h.2.1.tx).mono (by decide)).cons (((Lay.tup ((Lay.int _).cons ((Lay.int _).cons Lay.nil))).mono (by decide)).cons (((Lay.st _).mono (by decide)).cons (((Lay.int _).mono (by decide)).cons (((Lay.row _).mono (by decide)).cons ((Lay.tup (Lay.map fun e he=>Lay.en (h.2.2 e he))).cons Lay.nil)))))))
theorem lit_tx {w:Str} (h1:w.length≤20) (h2:∀c∈w.cps.toList,97≤c∧c≤122):isTx w:=⟨h1,h2⟩
theorem Lay.dd {x:Dd} (h:x.nmd):Lay 2 (ddA x):=by
 have w:∀z:Str,isTx z→Lay 1 (.str z):=fun z hz=>(Lay.str hz).mono (by decide)
 have i:∀k:Int,Lay 1 (.int k):=fun k=>(Lay.int k).mono (by decide)
 cases x with
 | turn n=>exact Lay.tup ((w _ ⟨by decide,by decide⟩).cons ((w _ (isTx8.tx h)).cons Lay.nil))
 | come k=>exact Lay.tup ((w _ ⟨by decide,by decide⟩).cons ((i _).cons Lay.nil))
 | fall n=>exact Lay.tup ((w _ ⟨by decide,by decide⟩).cons ((w _ (isTx8.tx h)).cons Lay.nil))
 | back n=>exact Lay.tup ((w _ ⟨by decide,by decide⟩).cons ((w _ (isTx8.tx h)).cons Lay.nil))
 | fresh n=>exact Lay.tup ((w _ ⟨by decide,by decide⟩).cons ((w _ (isTx8.tx h)).cons Lay.nil))
 | leave n=>exact Lay.tup ((w _ ⟨by decide,by decide⟩).cons ((w _ (isTx8.tx h)).cons Lay.nil))
 | set n ns=>exact Lay.tup ((w _ ⟨by decide,by decide⟩).cons ((w _ (isTx8.tx h)).cons ((Lay.tup (Lay.ints ns)).cons Lay.nil)))
 | join n ns=>exact Lay.tup ((w _ ⟨by decide,by decide⟩).cons ((w _ (isTx8.tx h)).cons ((Lay.tup (Lay.ints ns)).cons Lay.nil)))
 | tie n o=>exact Lay.tup ((w _ ⟨by decide,by decide⟩).cons ((w _ h.1.tx).cons ((w _ h.2.tx).cons Lay.nil)))
 | cut n o=>exact Lay.tup ((w _ ⟨by decide,by decide⟩).cons ((w _ h.1.tx).cons ((w _ h.2.tx).cons Lay.nil)))
theorem Lay.rw {n:Nat} {w:Dd×Wh} (h:w.1.nmd∧(∀ls,w.2= .letters ls→ ∀l∈ls,LtOk n l)∧ ∀wd,w.2= .word wd→isTx wd):Lay 6 (rwA w):=by
 obtain⟨x,y⟩:=w
 refine Lay.tup (((Lay.dd h.1).mono (by decide)).cons (Lay.cons ?_ Lay.nil))
 cases y with
 | none=>exact(Lay.tup (k:=0) Lay.nil).mono (by decide)
 | word wd=>exact(Lay.str (h.2.2 wd rfl)).mono (by decide)
 | letters ls=>exact(Lay.tup (Lay.map fun l hl=>Lay.lt (h.2.1 ls rfl l hl)))
structure Mr where
 up:List (Str×Bool)
 known:List Str
 many:Nat
 ties:List (List Str)
 size:Nat
/-- a mirror tells of a run, behind so many deeds -/
structure MG (c:Nat) (r:Rn) (m:Mr):Prop where
 up:m.up=r.hs.map fun x=>(x.1.called,x.2)
 known:m.known=r.known
 many:m.many≤r.post.length
 size:m.size=r.size
 tie:∀t∈m.ties,∃a b,a∈r.names∧b∈r.names∧a≠b∧t=srtS [a,b]
 tied:∀a b,a∈r.names→b∈r.names→a≠b→(srtS [a,b]∈m.ties↔r.tied a b=true)
 tnd:m.ties.Nodup
 cnt:2*m.known.length≤c+r.hs.length+8
 tl:m.ties.length≤28+c
def putU (l:List (Str×Bool)) (n:Str) (b:Bool):List (Str×Bool):=if l.any (fun x=>decide (x.1=n))=true then l.map (fun x=>if x.1=n then(n,b) else x) else l ++ [(n,b)]
def Mr.note (m:Mr):Dd→Mr
 | .turn n=> { m with many:=m.many+(m.ties.filter fun t=>decide (n∈t)).length }
 | .leave n=> { m with up:=m.up.filter fun y=>decide (y.1≠n),ties:=m.ties.filter fun t=> !decide (n∈t) }
 | .tie n o=> { m with ties:=m.ties.filter (fun t=> !decide (t=srtS [n,o])) ++ [srtS [n,o]] }
 | .cut n o=> { m with ties:=m.ties.filter fun t=> !decide (t=srtS [n,o]) }
 | .come _=>m
 | .set _ _=>m
 | .fall n=> { m with up:=putU m.up n false }
 | .back n=> { m with up:=putU m.up n true }
 | .fresh n=> { m with up:=putU m.up n true }
 | .join n _=> { m with up:=putU m.up n true,known:=m.known ++ [n] }
def upsOf (r:Rn):List (Str×Bool):=r.hs.map fun x=>(x.1.called,x.2)
theorem ups_upd (r:Rn) (z:Str) {f:Hd→Hd} (hf:∀h,(f h).called=h.called):upsOf (r.upd z f)=upsOf r:=by
 show List.map _ (List.map _ _)=List.map _ _
 rw [List.map_map]
 refine List.map_congr_left fun x _=> ?_
 show((if x.1.called=z then(f x.1,x.2) else x).1.called,(if x.1.called=z then(f x.1,x.2) else x).2)=(x.1.called,x.2)
 split
 ·exact Prod.ext (hf x.1) rfl
 ·rfl
theorem ups_fst (r:Rn):(upsOf r).map (·.1)=r.names:=by
 show List.map _ (List.map _ _)=List.map _ _
 rw [List.map_map];rfl
theorem ups_setUp (r:Rn) {z:Str} (hz:z∈r.names) (b:Bool):upsOf (r.setUp z b)=putU (upsOf r) z b:=by
 have h:(upsOf r).any (fun x=>decide (x.1=z))=true:=by
  obtain⟨x,hx,e⟩:=List.mem_map.mp hz
  exact List.any_eq_true.mpr ⟨(x.1.called,x.2),List.mem_map_of_mem (f:=fun x:Hd×Bool=>(x.1.called,x.2)) hx,decide_eq_true e⟩
 unfold putU
 rw [if_pos h]
 show List.map _ (List.map _ _)=List.map _ (List.map _ _)
 rw [List.map_map,List.map_map]
 refine List.map_congr_left fun x _=> ?_
 show((if x.1.called=z then(x.1,b) else x).1.called,(if x.1.called=z then(x.1,b) else x).2)=if x.1.called=z then(z,b) else(x.1.called,x.2)
 by_cases e:x.1.called=z
 ·rw [if_pos e,if_pos e,e]
 ·rw [if_neg e,if_neg e]
theorem putU_new {l:List (Str×Bool)} {z:Str} (h:z∉l.map (·.1)) (b:Bool):putU l z b=l ++ [(z,b)]:=by
 unfold putU
 rw [if_neg]
 intro c
 obtain⟨x,hx,e⟩:=List.any_eq_true.mp c
 exact h (List.mem_map.mpr ⟨x,hx,of_decide_eq_true e⟩)
/-- where names, ties and who is tied stay -/
theorem MG.keep {c:Nat} {r r':Rn} {m m':Mr} (g:MG c r m) (hu:m'.up=upsOf r') (hk:m'.known=r'.known) (hm:m'.many≤r'.post.length) (hs:m'.size=r'.size) (ht:m'.ties=m.ties) (hn:r'.names=r.names) (hd:∀a∈r.names,∀o,o∈(r'.hd a).names↔o∈(r.hd a).names) (kn:r'.known=r.known):MG (c+1) r' m':=by
 have tt:∀a b,r'.tied a b=true↔r.tied a b=true:=fun a b=>by
  rw [tied_hd,tied_hd,hn]
  exact⟨fun⟨h1,h2⟩=>⟨h1,(hd a h1 b).mp h2⟩,fun⟨h1,h2⟩=>⟨h1,(hd a h1 b).mpr h2⟩⟩
 have hl:r'.hs.length=r.hs.length:=by
  have:=congrArg List.length hn
  have e1:r'.names.length=r'.hs.length:=List.length_map _
  have e2:r.names.length=r.hs.length:=List.length_map _
  omega
 refine⟨hu,hk,hm,hs,fun t h=> ?_,fun a b ha hb ne=> ?_,by rw [ht];exact g.tnd,?_,by rw [ht];have:=g.tl;omega⟩
 ·rw [ht] at h
  obtain⟨a,b,h1,h2,h3⟩:=g.tie t h
  exact⟨a,b,by rw [hn];exact h1,by rw [hn];exact h2,h3⟩
 ·rw [hn] at ha hb
  rw [ht,tt]
  exact g.tied a b ha hb ne
 ·rw [hk,kn,hl]
  have:=g.cnt
  rw [g.known] at this
  omega
theorem sub_lenG {α:Type} [BEq α] [LawfulBEq α] {l m:List α} (hl:l.Nodup) (h:∀x∈l,x∈m):l.length≤m.length:=by
 induction l generalizing m with
 | nil=>exact Nat.zero_le _
 | cons x l ih=>
  obtain⟨n1,n2⟩:=List.nodup_cons.mp hl
  have hx:=h x (.head _)
  have:=ih n2 (m:=m.erase x) fun y hy=>(List.mem_erase_of_ne (fun e:y=x=>n1 (e ▸ hy))).mpr (h y (.tail _ hy))
  rw [List.length_erase_of_mem hx] at this
  have:0 < m.length:=List.length_pos_of_mem hx
  rw [List.length_cons]
  omega
theorem mem_srt2 {a b y:Str} :y∈srtS [a,b]↔y=a∨y=b:=by
 rw [(srtS_perm _).mem_iff]
 simp
/-- as many ties as others -/
theorem MG.few {c:Nat} {r:Rn} {m:Mr} (g:MG c r m) {n:Str} (hn:n∈r.names):(m.ties.filter fun t=>decide (n∈t)).length≤(r.hd n).names.length:=by
 have h:=sub_lenG (l:=m.ties.filter fun t=>decide (n∈t)) (m:=(r.hd n).names.map fun o=>srtS [n,o]) (g.tnd.sublist List.filter_sublist) fun t ht=>by
  obtain⟨h1,h2⟩:=List.mem_filter.mp ht
  have h2:=of_decide_eq_true h2
  obtain⟨a,b,ha,hb,ne,rfl⟩:=g.tie t h1
  have ht:=(g.tied a b ha hb ne).mp h1
  rcases mem_srt2.mp h2 with e | e
  ·subst e
   exact List.mem_map.mpr ⟨b,(tied_hd.mp ht).2,rfl⟩
  ·subst e
   have h3:srtS [n,a]∈m.ties:=by rw [srt_two];exact h1
   have:=(g.tied n a hb ha (fun e=>ne e.symm)).mp h3
   exact List.mem_map.mpr ⟨a,(tied_hd.mp this).2,srt_two _ _⟩
 rw [List.length_map] at h
 exact h
section
variable {U:List Str} {c:Nat} {r:Rn} {m:Mr}
theorem two_names (r:Rn) (n o:Str) {f g:Hd→Hd} (hf:∀h,(f h).called=h.called) (hg:∀h,(g h).called=h.called):((r.upd n f).upd o g).names=r.names:=by rw [upd_names _ o hg,upd_names r n hf]
theorem two_hd (b:RB U c r) {n o:Str} (hn:n∈r.names) (ho:o∈r.names) (no:n≠o) {f g:Hd→Hd} (hf:∀h,(f h).called=h.called) (hg:∀h,(g h).called=h.called) (a:Str):((r.upd n f).upd o g).hd a=if a=n then f (r.hd n) else if a=o then g (r.hd o) else r.hd a:=by
 have nd:(r.upd n f).names.Nodup:=by rw [upd_names r n hf];exact b.nd
 rw [upd_hd nd (by rw [upd_names r n hf];exact ho) hg,upd_hd b.nd hn hf,upH_ne (fun e=>no e.symm)]
 unfold upH
 by_cases h1:a=n
 ·subst h1
  rw [if_neg no,if_pos rfl,if_pos rfl]
 ·rw [if_neg h1,if_neg h1]
theorem MG.tieS (g:MG c r m) (b:RB U c r) {n o:Str} (hn:n∈r.names) (ho:o∈r.names) (no:n≠o) (nt:r.tied n o=false):MG (c+1) (r.step (.tie n o)) (m.note (.tie n o)):=by
 have en:(r.step (.tie n o)).names=r.names:=two_names r n o (f:=fun h=>h.tie o) (g:=fun h=>h.tie n) (fun _=>rfl) (fun _=>rfl)
 have eh:∀a,(r.step (.tie n o)).hd a=if a=n then(r.hd n).tie o else if a=o then(r.hd o).tie n else r.hd a:=two_hd b hn ho no (f:=fun h=>h.tie o) (g:=fun h=>h.tie n) (fun _=>rfl) (fun _=>rfl)
 have no':o≠n:=fun e=>no e.symm
 have tt:∀x y,(r.step (.tie n o)).tied x y=true↔r.tied x y=true∨(x=n∧y=o)∨(x=o∧y=n):=fun x y=>by
  rw [tied_hd,tied_hd,en,eh]
  by_cases h1:x=n
  ·subst h1
   rw [if_pos rfl,tie_names,List.mem_append,List.mem_singleton]
   exact⟨fun⟨_,h⟩=>h.elim (fun h=> .inl ⟨hn,h⟩) fun h=> .inr (.inl ⟨rfl,h⟩),fun h=>⟨hn,h.elim (fun h=> .inl h.2) fun h=>h.elim (fun h=> .inr h.2) fun h=>absurd h.1 no⟩⟩
  ·by_cases h2:x=o
   ·subst h2
    rw [if_neg h1,if_pos rfl,tie_names,List.mem_append,List.mem_singleton]
    exact⟨fun⟨_,h⟩=>h.elim (fun h=> .inl ⟨ho,h⟩) fun h=> .inr (.inr ⟨rfl,h⟩),fun h=>⟨ho,h.elim (fun h=> .inl h.2) fun h=>h.elim (fun h=>absurd h.1 h1) fun h=> .inr h.2⟩⟩
   ·rw [if_neg h1,if_neg h2]
    exact⟨fun h=> .inl h,fun h=>h.elim id fun h=>h.elim (fun h=>absurd h.1 h1) fun h=>absurd h.1 h2⟩
 have nin:srtS [n,o]∉m.ties:=fun h=>by
  rw [(g.tied n o hn ho no).mp h] at nt;cases nt
 have ef:(m.note (.tie n o)).ties=m.ties ++ [srtS [n,o]]:=by
  show m.ties.filter _ ++ _=_
  rw [List.filter_eq_self.mpr fun t ht=>by
   show(!decide (t=srtS [n,o]))=true
   rw [decide_eq_false fun e=>nin (by rw [← e];exact ht)];rfl]
 refine⟨?_,g.known,g.many,g.size,fun t h=> ?_,fun x y hx hy ne=> ?_,?_,?_,?_⟩
 ·show m.up=upsOf ((r.upd n fun h=>h.tie o).upd o fun h=>h.tie n)
  rw [ups_upd _ o (f:=fun h=>h.tie n) (fun _=>rfl),ups_upd _ n (f:=fun h=>h.tie o) (fun _=>rfl)]
  exact g.up
 ·rw [ef] at h
  rw [en]
  rcases List.mem_append.mp h with h | h
  ·exact g.tie t h
  ·exact⟨n,o,hn,ho,no,List.mem_singleton.mp h⟩
 ·rw [en] at hx hy
  rw [ef,tt,List.mem_append,List.mem_singleton,g.tied x y hx hy ne]
  refine or_congr Iff.rfl ⟨fun e=> ?_,fun e=> ?_⟩
  ·rcases two_perm e with h | h | h
   ·exact .inl h
   ·exact .inr h
   ·exact absurd h ne
  ·rcases e with⟨rfl,rfl⟩ | ⟨rfl,rfl⟩
   ·rfl
   ·exact srt_two _ _
 ·rw [ef]
  exact List.nodup_append.mpr ⟨g.tnd,List.nodup_cons.mpr ⟨(by simp),List.nodup_nil⟩,fun x hx y hy e=>nin (by rw [List.mem_singleton.mp hy] at e;rw [← e];exact hx)⟩
 ·have:=g.cnt
  have e1:(r.step (.tie n o)).names.length=(r.step (.tie n o)).hs.length:=List.length_map _
  have e2:r.names.length=r.hs.length:=List.length_map _
  rw [en] at e1
  show 2*m.known.length≤c+1+(r.step (.tie n o)).hs.length+8
  omega
 ·rw [ef,List.length_append]
  have:=g.tl
  show m.ties.length+1≤_
  omega
theorem MG.cutS (g:MG c r m) (b:RB U c r) {n o:Str} (hn:n∈r.names) (ho:o∈r.names) (no:n≠o):MG (c+1) (r.step (.cut n o)) (m.note (.cut n o)):=by
 have en:(r.step (.cut n o)).names=r.names:=two_names r n o (f:=fun h=>h.cut o) (g:=fun h=>h.cut n) (fun _=>rfl) (fun _=>rfl)
 have eh:∀a,(r.step (.cut n o)).hd a=if a=n then(r.hd n).cut o else if a=o then(r.hd o).cut n else r.hd a:=two_hd b hn ho no (f:=fun h=>h.cut o) (g:=fun h=>h.cut n) (fun _=>rfl) (fun _=>rfl)
 have tt:∀x y,(r.step (.cut n o)).tied x y=true↔r.tied x y=true∧¬ ((x=n∧y=o)∨(x=o∧y=n)):=fun x y=>by
  rw [tied_hd,tied_hd,en,eh]
  by_cases h1:x=n
  ·subst h1
   rw [if_pos rfl,hcut_names,mem_ne]
   exact⟨fun⟨_,h⟩=>⟨⟨hn,h.1⟩,fun c=>c.elim (fun c=>h.2 c.2) fun c=>no c.1⟩,fun h=>⟨hn,⟨h.1.2,fun e=>h.2 (.inl ⟨rfl,e⟩)⟩⟩⟩
  ·by_cases h2:x=o
   ·subst h2
    rw [if_neg h1,if_pos rfl,hcut_names,mem_ne]
    exact⟨fun⟨_,h⟩=>⟨⟨ho,h.1⟩,fun c=>c.elim (fun c=>h1 c.1) fun c=>h.2 c.2⟩,fun h=>⟨ho,h.1.2,fun e=>h.2 (.inr ⟨rfl,e⟩)⟩⟩
   ·rw [if_neg h1,if_neg h2]
    exact⟨fun h=>⟨h,fun c=>c.elim (fun c=>h1 c.1) fun c=>h2 c.1⟩,fun h=>h.1⟩
 have ef:∀t,t∈(m.note (.cut n o)).ties↔t∈m.ties∧t≠srtS [n,o]:=fun t=>by
  show t∈m.ties.filter _↔_
  rw [List.mem_filter]
  refine and_congr Iff.rfl ⟨fun h e=> ?_,fun h=> ?_⟩
  ·rw [decide_eq_true e] at h;cases h
  ·rw [decide_eq_false h];rfl
 refine⟨?_,g.known,g.many,g.size,fun t h=> ?_,fun x y hx hy ne=> ?_,?_,?_,?_⟩
 ·show m.up=upsOf ((r.upd n fun h=>h.cut o).upd o fun h=>h.cut n)
  rw [ups_upd _ o (f:=fun h=>h.cut n) (fun _=>rfl),ups_upd _ n (f:=fun h=>h.cut o) (fun _=>rfl)]
  exact g.up
 ·rw [en]
  exact g.tie t ((ef t).mp h).1
 ·rw [en] at hx hy
  rw [ef,tt,g.tied x y hx hy ne]
  refine and_congr Iff.rfl (not_congr ⟨fun e=> ?_,fun e=> ?_⟩)
  ·rcases two_perm e with h | h | h
   ·exact .inl h
   ·exact .inr h
   ·exact absurd h ne
  ·rcases e with⟨rfl,rfl⟩ | ⟨rfl,rfl⟩
   ·rfl
   ·exact srt_two _ _
 ·exact g.tnd.sublist List.filter_sublist
 ·have:=g.cnt
  have e1:(r.step (.cut n o)).names.length=(r.step (.cut n o)).hs.length:=List.length_map _
  have e2:r.names.length=r.hs.length:=List.length_map _
  rw [en] at e1
  show 2*m.known.length≤c+1+(r.step (.cut n o)).hs.length+8
  omega
 ·have:=g.tl
  have:=List.length_filter_le (fun t=> !decide (t=srtS [n,o])) m.ties
  show(m.ties.filter _).length≤_
  omega
theorem MG.leaveS (g:MG c r m) (b:RB U c r) {n:Str} (hn:n∈r.names):MG (c+1) (r.step (.leave n)) (m.note (.leave n)):=by
 obtain⟨en,eh,ep,ek⟩:=leave_is b hn
 have en:(r.step (.leave n)).names=r.names.filter fun y=>decide (y≠n):=en
 have eh:∀y∈r.names,y≠n→(r.step (.leave n)).hd y=if y∈(r.hd n).names then(r.hd y).cut n else r.hd y:=eh
 obtain⟨x,hx,_,_,_⟩:=hd_at b.nd hn
 have es:r.done (.leave n)=(Wh.none,({ r with hs:=(r.hs.filter fun y:Hd×Bool=>decide (y.1.called≠n)).map (gL n x.1.names) } :Rn)):=by simp only [Rn.done,hx]
 have eu:upsOf (r.step (.leave n))=(upsOf r).filter fun y=>decide (y.1≠n):=by
  show upsOf (r.done (.leave n)).2=_
  rw [es]
  show List.map _ (List.map _ _)=List.filter _ (List.map _ _)
  rw [List.map_map,List.filter_map]
  refine List.map_congr_left fun y _=> ?_
  show((gL n x.1.names y).1.called,(gL n x.1.names y).2)=(y.1.called,y.2)
  unfold gL
  split <;> rfl
 have tt:∀a b',a∈r.names→a≠n→b'≠n→((r.step (.leave n)).tied a b'=true↔r.tied a b'=true):=fun a b' ha na nb=>by
  rw [tied_hd,tied_hd,en,eh a ha na,mem_ne]
  split
  ·rw [hcut_names,mem_ne]
   exact⟨fun h=>⟨ha,h.2.1⟩,fun h=>⟨⟨ha,na⟩,h.2,nb⟩⟩
  ·exact⟨fun h=>⟨ha,h.2⟩,fun h=>⟨⟨ha,na⟩,h.2⟩⟩
 have ef:∀t,t∈(m.note (.leave n)).ties↔t∈m.ties∧n∉t:=fun t=>by
  show t∈m.ties.filter _↔_
  rw [List.mem_filter]
  refine and_congr Iff.rfl ⟨fun h e=> ?_,fun h=> ?_⟩
  ·rw [decide_eq_true e] at h;cases h
  ·rw [decide_eq_false h];rfl
 refine⟨?_,?_,?_,?_,fun t h=> ?_,fun a b' ha hb ne=> ?_,g.tnd.sublist List.filter_sublist,?_,?_⟩
 ·show m.up.filter _=upsOf _
  rw [eu,g.up];rfl
 ·show m.known=(r.done (.leave n)).2.known
  rw [ek];exact g.known
 ·show m.many≤(r.done (.leave n)).2.post.length
  rw [ep];exact g.many
 ·show m.size=(r.done (.leave n)).2.size
  rw [(done_rows r _).2];exact g.size
 ·obtain⟨h1,h2⟩:=(ef t).mp h
  obtain⟨a,b',ha,hb,ne,rfl⟩:=g.tie t h1
  rw [en]
  exact⟨a,b',mem_ne.mpr ⟨ha,fun e=>h2 (mem_srt2.mpr (.inl e.symm))⟩,mem_ne.mpr ⟨hb,fun e=>h2 (mem_srt2.mpr (.inr e.symm))⟩,ne,rfl⟩
 ·rw [en,mem_ne] at ha hb
  rw [ef,tt a b' ha.1 ha.2 hb.2,g.tied a b' ha.1 hb.1 ne]
  exact⟨fun h=>h.1,fun h=>⟨h,fun c=>(mem_srt2.mp c).elim (fun e=>ha.2 e.symm) fun e=>hb.2 e.symm⟩⟩
 ·have:=g.cnt
  have e1:(r.step (.leave n)).names.length=(r.step (.leave n)).hs.length:=List.length_map _
  have e2:r.names.length=r.hs.length:=List.length_map _
  rw [en] at e1
  have e3:(r.names.filter fun y=>decide (y≠n)).length+1≥r.names.length:=by
   have h:=sub_len b.nd (m:=n :: r.names.filter fun y=>decide (y≠n)) fun y hy=>by
    by_cases e:y=n
    ·rw [e];exact List.mem_cons_self
    ·exact List.mem_cons_of_mem _ (mem_ne.mpr ⟨hy,e⟩)
   exact h
  show 2*m.known.length≤c+1+(r.step (.leave n)).hs.length+8
  omega
 ·have:=g.tl
  have:=List.length_filter_le (fun t=> !decide (n∈t)) m.ties
  show(m.ties.filter _).length≤_
  omega
theorem MG.joinS (g:MG c r m) (b:RB U c r) {n:Str} {ns:List Int} (nn:n∉r.known):MG (c+1) (r.step (.join n ns)) (m.note (.join n ns)):=by
 have nm:n∉r.names:=fun h=>nn (b.nk n h)
 have en:∀y,y∈(r.step (.join n ns)).names↔y∈r.names∨y=n:=join_names (r:=r) (n:=n) (ns:=ns)
 have eh:∀y,(r.step (.join n ns)).hd y=if y=n then hd0 n ns [] else r.hd y:=join_hd (ns:=ns) nm
 have tt:∀a b',(r.step (.join n ns)).tied a b'=true↔r.tied a b'=true:=fun a b'=>by
  rw [tied_hd,tied_hd,en,eh]
  by_cases e:a=n
  ·subst e
   rw [if_pos rfl]
   exact⟨fun h=>(nomatch h.2),fun h=>absurd h.1 nm⟩
  ·rw [if_neg e]
   exact⟨fun h=>⟨h.1.resolve_right e,h.2⟩,fun h=>⟨.inl h.1,h.2⟩⟩
 have hup:n∉m.up.map (·.1):=by
  rw [g.up]
  show n∉(upsOf r).map (·.1)
  rw [ups_fst];exact nm
 refine⟨?_,?_,g.many,g.size,fun t h=> ?_,fun a b' ha hb ne=> ?_,g.tnd,?_,by have:=g.tl;show m.ties.length≤_;omega⟩
 ·show putU m.up n true=upsOf { r with hs:=r.hs ++ [(hd0 n ns [],true)],known:=r.known ++ [n] }
  rw [putU_new hup,g.up]
  show _=List.map _ (r.hs ++ [(hd0 n ns [],true)])
  rw [List.map_append];rfl
 ·show m.known ++ [n]=r.known ++ [n]
  rw [g.known]
 ·obtain⟨a,b',ha,hb,h⟩:=g.tie t h
  exact⟨a,b',(en a).mpr (.inl ha),(en b').mpr (.inl hb),h⟩
 ·rw [tt]
  show srtS [a,b']∈m.ties↔_
  have key:∀x y,srtS [x,y]∈m.ties→x∈r.names∧y∈r.names:=fun x y h=>by
   obtain⟨u,w,hu,hw,nu,e⟩:=g.tie _ h
   have h1:x=u∨x=w:=mem_srt2.mp (by rw [← e];exact mem_srt2.mpr (.inl rfl))
   have h2:y=u∨y=w:=mem_srt2.mp (by rw [← e];exact mem_srt2.mpr (.inr rfl))
   exact⟨h1.elim (fun e=>by rw [e];exact hu) fun e=>by rw [e];exact hw,h2.elim (fun e=>by rw [e];exact hu) fun e=>by rw [e];exact hw⟩
  refine⟨fun h=> ?_,fun h=> ?_⟩
  ·obtain⟨h1,h2⟩:=key _ _ h
   exact(g.tied a b' h1 h2 ne).mp h
  ·obtain⟨h1,h2⟩:=tied_hd.mp h
   exact(g.tied a b' h1 (b.tie' h1 h2).1 ne).mpr h
 ·have:=g.cnt
  show 2*(m.known ++ [n]).length≤c+1+(r.hs ++ [(hd0 n ns [],true)]).length+8
  rw [List.length_append,List.length_append]
  show 2*(m.known.length+1)≤c+1+(r.hs.length+1)+8
  omega
theorem MG.step (g:MG c r m) (b:RB U c r) {x:Dd} (hx:r.can x=true):MG (c+1) (r.step x) (m.note x):=by
 cases x with
 | turn n=>
  have h:(decide (n∈r.names) && r.isUp n)=true:=hx
  rw [Bool.and_eq_true] at h
  have hn:n∈r.names:=of_decide_eq_true h.1
  obtain⟨y,hg,_⟩:=isUp_get h.2
  have sm:=Same.turn b hn
  have ed:=done_turn hg
  have ey:=hd_of hg
  refine g.keep ?_ ?_ ?_ ?_ rfl sm.names (fun a ha o=>sm.nm a ha o) ?_
  ·show m.up=upsOf (r.done (.turn n)).2
   rw [ed]
   exact g.up.trans (ups_upd r n (f:=Hd.turned) fun _=>rfl).symm
  ·show m.known=(r.done (.turn n)).2.known
   rw [ed];exact g.known
  ·show m.many+_≤(r.done (.turn n)).2.post.length
   rw [ed]
   show _≤(r.post ++ y.1.letters).length
   rw [List.length_append]
   have h1:=g.few hn
   have h2:y.1.letters.length=(r.hd n).names.length:=by
    unfold Hd.letters
    rw [List.length_map,(srtS_perm _).length_eq,ey]
   have:=g.many
   omega
  ·show m.size=(r.done (.turn n)).2.size
   rw [(done_rows r _).2];exact g.size
  ·show(r.done (.turn n)).2.known=_
   rw [ed];rfl
 | come k=>
  have hk:k < r.post.length:=of_decide_eq_true hx
  have sm:=Same.come b hk
  have ed:=done_come (List.getElem?_eq_getElem hk)
  have eu:upsOf (r.come r.post[k]).2=upsOf r∧(r.come r.post[k]).2.known=r.known:=by
   unfold Rn.come
   split
   ·exact⟨rfl,rfl⟩
   ·split
    ·exact⟨ups_upd r _ fun h=>take_called h _,rfl⟩
    ·exact⟨rfl,rfl⟩
  refine g.keep ?_ ?_ ?_ ?_ rfl sm.names (fun a ha o=>sm.nm a ha o) ?_
  ·show m.up=upsOf (r.done (.come k)).2
   rw [ed];exact g.up.trans eu.1.symm
  ·show m.known=(r.done (.come k)).2.known
   rw [ed];exact g.known.trans eu.2.symm
  ·show m.many≤(r.done (.come k)).2.post.length
   rw [ed]
   show _≤(r.come r.post[k]).2.post.length
   rw [come_post];exact g.many
  ·show m.size=(r.done (.come k)).2.size
   rw [(done_rows r _).2];exact g.size
  ·show(r.done (.come k)).2.known=_
   rw [ed];exact eu.2
 | fall n=>
  have h:(decide (n∈r.names) && r.isUp n)=true:=hx
  rw [Bool.and_eq_true] at h
  have hn:n∈r.names:=of_decide_eq_true h.1
  exact g.keep (r':=r.step (.fall n)) (by show putU m.up n false=upsOf (r.setUp n false);rw [ups_setUp r hn,g.up];rfl) g.known g.many g.size rfl (setUp_names r n false) (fun a ha o=>by rw [show(r.step (.fall n)).hd=r.hd from setUp_hd r n false]) rfl
 | back n=>
  have h:(decide (n∈r.names) && !r.isUp n)=true:=hx
  rw [Bool.and_eq_true] at h
  have hn:n∈r.names:=of_decide_eq_true h.1
  exact g.keep (r':=r.step (.back n)) (by show putU m.up n true=upsOf (r.setUp n true);rw [ups_setUp r hn,g.up];rfl) g.known g.many g.size rfl (setUp_names r n true) (fun a ha o=>by rw [show(r.step (.back n)).hd=r.hd from setUp_hd r n true]) rfl
 | fresh n=>
  have hn:n∈r.names:=of_decide_eq_true hx
  have hn':n∈(r.setUp n true).names:=by rw [setUp_names];exact hn
  refine g.keep (r':=r.step (.fresh n)) ?_ g.known g.many g.size rfl ?_ (fun a ha o=> ?_) rfl
  ·show putU m.up n true=upsOf ((r.setUp n true).upd n Hd.fresh)
   rw [ups_upd _ n (f:=Hd.fresh) (fun _=>rfl),ups_setUp r hn,g.up];rfl
  ·show((r.setUp n true).upd n Hd.fresh).names=_
   rw [upd_names _ n (f:=Hd.fresh) (fun _=>rfl),setUp_names]
  ·have e:(r.step (.fresh n)).hd=upH (r.setUp n true).hd n ((r.setUp n true).hd n).fresh:=upd_hd (r:=r.setUp n true) (by rw [setUp_names];exact b.nd) hn' (f:=Hd.fresh) fun _=>rfl
   rw [e,setUp_hd]
   by_cases c:a=n
   ·subst c
    rw [upH_same,fresh_names]
    exact(srtS_perm _).mem_iff
   ·rw [upH_ne c]
 | leave n=>exact g.leaveS b (of_decide_eq_true hx)
 | set n ns=>
  have h:(decide (n∈r.names) && decide (ns.length=r.size))=true:=hx
  rw [Bool.and_eq_true] at h
  have hn:n∈r.names:=of_decide_eq_true h.1
  refine g.keep (r':=r.step (.set n ns)) ?_ g.known g.many g.size rfl ?_ (fun a ha o=> ?_) rfl
  ·show m.up=upsOf (r.upd n fun h=>h.setOwn ns)
   rw [ups_upd _ n (f:=fun h=>h.setOwn ns) (fun _=>rfl)]
   exact g.up
  ·exact upd_names r n (f:=fun h=>h.setOwn ns) fun _=>rfl
  ·have e:(r.step (.set n ns)).hd=upH r.hd n ((r.hd n).setOwn ns):=upd_hd b.nd hn (f:=fun h=>h.setOwn ns) fun _=>rfl
   rw [e]
   by_cases c:a=n
   ·subst c
    rw [upH_same,setOwn_names]
   ·rw [upH_ne c]
 | join n ns=>
  have h:(!decide (n∈r.known) && decide (r.hs.length < 8) && decide (ns.length=r.size))=true:=hx
  rw [Bool.and_eq_true,Bool.and_eq_true] at h
  refine g.joinS b fun m=> ?_
  rw [decide_eq_true m] at h
  exact Bool.noConfusion h.1.1
 | tie n o=>
  have h:(decide (n∈r.names) && decide (o∈r.names) && !decide (o=n) && !r.tied n o)=true:=hx
  rw [Bool.and_eq_true,Bool.and_eq_true,Bool.and_eq_true] at h
  exact g.tieS b (of_decide_eq_true h.1.1.1) (of_decide_eq_true h.1.1.2) (fun e=>by rw [e] at h;simp at h) (by simpa using h.2)
 | cut n o=>
  have h:(decide (n∈r.names) && decide (o∈r.names) && !decide (o=n) && r.tied n o)=true:=hx
  rw [Bool.and_eq_true,Bool.and_eq_true,Bool.and_eq_true] at h
  exact g.cutS b (of_decide_eq_true h.1.1.1) (of_decide_eq_true h.1.1.2) (fun e=>by rw [e] at h;simp at h)
end
theorem eqA_tup (xs ys:List A):eqA (.tup xs) (.tup ys)=(decide (xs.length=ys.length) && (List.zipWith eqA xs ys).all id):=by
 induction xs generalizing ys with
 | nil=>
  cases ys with
  | nil=>unfold eqA A.toD;simp [toDs,PyData.eqv,PyData.eqvAll]
  | cons y ys=>unfold eqA A.toD;simp [toDs,PyData.eqv,PyData.eqvAll]
 | cons x xs ih=>
  cases ys with
  | nil=>unfold eqA A.toD;simp [toDs,PyData.eqv,PyData.eqvAll]
  | cons y ys=>
   have e:eqA (.tup (x :: xs)) (.tup (y :: ys))=(eqA x y && eqA (.tup xs) (.tup ys)):=by
    unfold eqA
    simp [A.toD,toDs,PyData.eqv,PyData.eqvAll]
   rw [e,ih]
   show _=(decide (xs.length+1=ys.length+1) && (eqA x y && (List.zipWith eqA xs ys).all id))
   have e2:decide (xs.length+1=ys.length+1)=decide (xs.length=ys.length):=decide_eq_decide.mpr (by omega)
   rw [e2]
   cases eqA x y <;> cases decide (xs.length=ys.length) <;> rfl
def NbE (B:Nat) (e:En):Prop:=e.li.natAbs≤B∧e.ve.natAbs≤B∧ ∀i∈e.nu,i.natAbs≤B
def NbS (B:Nat) (o:Option (Int×Int)):Prop:= ∀x,o=some x→x.1.natAbs≤B∧x.2.natAbs≤B
def NbA (B:Nat) (a:Acc):Prop:=NbS B a.seen∧a.gifts.natAbs≤B
structure NbH (B:Nat) (h:Hd):Prop where
 life:h.life.natAbs≤B
 ver:h.version.natAbs≤B
 own:∀i∈h.own,i.natAbs≤B
 eras:∀x∈h.eras,x.2.natAbs≤B
 accs:∀x∈h.accs,NbA B x.2
 heard:∀e∈h.heard,NbE B e
structure NbL (B:Nat) (l:Lt):Prop where
 stamp:l.stamp.1.natAbs≤B∧l.stamp.2.natAbs≤B
 seen:NbS B l.seen
 gifts:l.gifts.natAbs≤B
 roll:∀e∈l.roll,NbE B e
structure NbR (B:Nat) (r:Rn):Prop where
 hs:∀x∈r.hs,NbH B x.1
 post:∀l∈r.post,NbL B l
 rows:∀w∈r.rows,∀ls,w.2= .letters ls→(∀l∈ls,NbL B l)∧(ls.map (·.other)).Nodup∧ls.length≤20
section
variable {B B':Nat}
theorem NbE.mono {e:En} (h:NbE B e) (hb:B≤B'):NbE B' e:=⟨Nat.le_trans h.1 hb,Nat.le_trans h.2.1 hb,fun i hi=>Nat.le_trans (h.2.2 i hi) hb⟩
theorem NbS.mono {o:Option (Int×Int)} (h:NbS B o) (hb:B≤B'):NbS B' o:=fun x e=>⟨Nat.le_trans (h x e).1 hb,Nat.le_trans (h x e).2 hb⟩
theorem NbA.mono {a:Acc} (h:NbA B a) (hb:B≤B'):NbA B' a:=⟨h.1.mono hb,Nat.le_trans h.2 hb⟩
theorem NbH.mono {h:Hd} (b:NbH B h) (hb:B≤B'):NbH B' h:=⟨Nat.le_trans b.life hb,Nat.le_trans b.ver hb,fun i hi=>Nat.le_trans (b.own i hi) hb,fun x hx=>Nat.le_trans (b.eras x hx) hb,fun x hx=>(b.accs x hx).mono hb,fun e he=>(b.heard e he).mono hb⟩
theorem NbL.mono {l:Lt} (b:NbL B l) (hb:B≤B'):NbL B' l:=⟨⟨Nat.le_trans b.stamp.1 hb,Nat.le_trans b.stamp.2 hb⟩,b.seen.mono hb,Nat.le_trans b.gifts hb,fun e he=>(b.roll e he).mono hb⟩
theorem NbR.mono {r:Rn} (b:NbR B r) (hb:B≤B'):NbR B' r:=⟨fun x hx=>(b.hs x hx).mono hb,fun l hl=>(b.post l hl).mono hb,fun w hw ls e=>⟨fun l hl=>((b.rows w hw ls e).1 l hl).mono hb,(b.rows w hw ls e).2⟩⟩
theorem nbS_none:NbS B none:=fun x e=>nomatch e
theorem nbA0 (n:Nat) {st:Option (Int×Int)} (h:NbS B st):NbA B (acc0 n st):=⟨h,Nat.zero_le _⟩
theorem NbH.written {h:Hd} (b:NbH B h):NbH B h.written:=⟨b.life,b.ver,b.own,b.eras,b.accs,fun e he=>by
 rcases written_mem he with rfl | he
 ·exact⟨b.life,b.ver,b.own⟩
 ·exact b.heard e he⟩
theorem inc_le {i:Int} (h:i.natAbs≤B):(i+1).natAbs≤B+1:=by omega
theorem NbH.changed {h:Hd} (b:NbH B h):NbH (B+1) h.changed:=NbH.written (h:= { h with version:=h.version+1 }) ⟨Nat.le_succ_of_le b.life,inc_le b.ver,(b.mono (Nat.le_succ B)).own,(b.mono (Nat.le_succ B)).eras,(b.mono (Nat.le_succ B)).accs,(b.mono (Nat.le_succ B)).heard⟩
theorem NbH.setOwn {h:Hd} (b:NbH B h) {ns:List Int} (hn:∀i∈ns,i.natAbs≤B):NbH (B+1) (h.setOwn ns):=NbH.changed (h:= { h with own:=ns }) ⟨b.life,b.ver,hn,b.eras,b.accs,b.heard⟩
theorem NbH.tie {h:Hd} (b:NbH B h) (z:Str):NbH (B+1) (h.tie z):=by
 refine NbH.changed (h:= { h with eras:=if z∈h.eras.map (·.1) then h.eras else h.eras ++ [(z,0)],accs:=h.accs ++ [(z,acc0 h.own.length none)] }) ⟨b.life,b.ver,b.own,fun x hx=> ?_,fun x hx=> ?_,b.heard⟩
 ·have hx:x∈(if z∈h.eras.map (·.1) then h.eras else h.eras ++ [(z,0)]):=hx
  split at hx
  ·exact b.eras x hx
  ·rcases List.mem_append.mp hx with hx | hx
   ·exact b.eras x hx
   ·rw [List.mem_singleton.mp hx];exact Nat.zero_le _
 ·rcases List.mem_append.mp hx with hx | hx
  ·exact b.accs x hx
  ·rw [List.mem_singleton.mp hx];exact nbA0 _ nbS_none
theorem NbH.cut {h:Hd} (b:NbH B h) (z:Str):NbH (B+1) (h.cut z):=by
 refine NbH.written (h:= { h with eras:=h.eras.map fun x=>if x.1=z then(x.1,x.2+1) else x,accs:=h.accs.filter fun x=>decide (x.1≠z),version:=h.version+1 }) ⟨Nat.le_succ_of_le b.life,inc_le b.ver,(b.mono (Nat.le_succ B)).own,fun x hx=> ?_,fun x hx=>(b.mono (Nat.le_succ B)).accs x (List.mem_filter.mp hx).1,(b.mono (Nat.le_succ B)).heard⟩
 obtain⟨y,hy,rfl⟩:=List.mem_map.mp hx
 split
 ·exact inc_le (b.eras y hy)
 ·exact Nat.le_succ_of_le (b.eras y hy)
theorem NbH.new {z:Str} {i:Int} {ns:List Int} {zs:List Str} {es:List En} (hi:i.natAbs≤B) (h1:1≤B) (hn:∀i∈ns,i.natAbs≤B) (he:∀e∈es,NbE B e):NbH B ⟨z,i,1,ns,zs.map fun z=>(z,0),zs.map fun z=>(z,acc0 ns.length none),es⟩:=by
 refine⟨hi,h1,hn,fun x hx=> ?_,fun x hx=> ?_,he⟩
 ·obtain⟨y,_,rfl⟩:=List.mem_map.mp hx
  exact Nat.zero_le _
 ·obtain⟨y,_,rfl⟩:=List.mem_map.mp hx
  exact nbA0 _ nbS_none
theorem NbH.fresh {h:Hd} (b:NbH B h) (h1:1≤B):NbH (B+1) h.fresh:=
 NbH.new (zs:=srtS h.names) (inc_le b.life) (by omega) (b.mono (Nat.le_succ B)).own fun e he=>by
  rw [List.mem_singleton.mp he]
  exact⟨inc_le b.life,(by show 1≤B+1;omega),(b.mono (Nat.le_succ B)).own⟩
theorem nbH0 {z:Str} {ns:List Int} {os:List Str} (h1:1≤B) (hn:∀i∈ns,i.natAbs≤B):NbH B (hd0 z ns os):=NbH.written (NbH.new h1 h1 hn fun e he=>nomatch he)
theorem gave_nb {sh:Rw} :∀(zs:List Str) {l:List (Str×Acc)} {B:Nat},(∀x∈l,NbA B x.2)→ ∀x∈zs.foldl (fun l z=>updA l z fun a=> { a with given:=rplus a.given sh,gifts:=a.gifts+1 }) l,NbA (B+zs.length) x.2
 | [],_,_,h=>h
 | z :: zs,l,B,h=>fun x hx=>by
  have:=gave_nb (sh:=sh) zs (l:=updA l z fun a=> { a with given:=rplus a.given sh,gifts:=a.gifts+1 }) (B:=B+1) (fun y hy=>by
   obtain⟨w,hw,rfl⟩:=List.mem_map.mp hy
   split
   ·exact⟨(h w hw).1.mono (Nat.le_succ B),inc_le (h w hw).2⟩
   ·exact(h w hw).mono (Nat.le_succ B)) x hx
  exact this.mono (by rw [List.length_cons];omega)
theorem NbH.turned {h:Hd} (b:NbH B h) (few:h.accs.length≤8):NbH (B+8) h.turned:=by
 have m:=b.mono (Nat.le_add_right B 8)
 refine⟨m.life,m.ver,m.own,m.eras,fun x hx=> ?_,m.heard⟩
 exact(gave_nb (sh:=h.share) h.opens b.accs x hx).mono (by have:=opens_len h;omega)
theorem NbH.letter {h:Hd} (b:NbH B h) (z:Str):NbL B (h.letter z):=by
 have st:(h.stamp z).1.natAbs≤B∧(h.stamp z).2.natAbs≤B:=by
  refine⟨b.life,?_⟩
  show(h.era z).natAbs≤B
  unfold Hd.era
  cases e:h.eras.find? fun x=>decide (x.1=z) with
  | none=>exact Nat.zero_le _
  | some x=>exact b.eras x (List.mem_of_find?_eq_some e)
 unfold Hd.letter
 cases e:h.acc z with
 | none=>exact⟨st,nbS_none,Nat.zero_le _,b.heard⟩
 | some a=>
  have:=b.accs _ (acc_mem e)
  exact⟨st,this.1,this.2,b.heard⟩
theorem NbA.hear {a:Acc} (h:NbA B a) {st:Int×Int} (hs:st.1.natAbs≤B∧st.2.natAbs≤B):NbA B (a.hear st):=by
 have s1:NbS B (some st):=fun x e=>by cases e;exact hs
 unfold Acc.hear
 split
 ·exact nbA0 _ s1
 ·split
  ·exact nbA0 _ s1
  ·exact h
theorem NbH.take {h:Hd} (b:NbH B h) {l:Lt} (bl:NbL B l):NbH B (h.take l).2:=by
 unfold Hd.take
 cases e:h.acc l.one with
 | none=>exact b
 | some a=>
  have ha:=(b.accs _ (acc_mem e)).hear bl.stamp
  have hh:∀e∈mrg h.heard l.roll,NbE B e:=fun e he=>by
   rcases mrg_mem he with he | he
   ·exact b.heard e he
   ·exact bl.roll e he
  have hu:∀a':Acc,NbA B a'→ ∀x∈updA h.accs l.one fun _=>a',NbA B x.2:=fun a' ha' x hx=>by
   obtain⟨y,hy,rfl⟩:=List.mem_map.mp hx
   split
   ·exact ha'
   ·exact b.accs y hy
  dsimp only
  repeat' split
  all_goals first | exact b | exact⟨b.life,b.ver,b.own,b.eras,hu (a.hear l.stamp) ha,hh⟩ | exact⟨b.life,b.ver,b.own,b.eras,hu _ ⟨ha.1,ha.2⟩,hh⟩
theorem NbR.upd {r:Rn} (b:NbR B r) {k:Nat} {z:Str} {f:Hd→Hd} (hf:∀x∈r.hs,NbH (B+k) (f x.1)):∀x∈(r.upd z f).hs,NbH (B+k) x.1:=fun y hy=>by
 obtain⟨x,hx,⟨_,e⟩ | ⟨_,e⟩⟩:=upd_mem hy
 ·rw [e];exact hf x hx
 ·rw [e];exact(b.hs x hx).mono (by omega)
end
section
variable {U:List Str} {c B:Nat} {r:Rn}
theorem NbR.done (b:RB U c r) (n:NbR B r) (hB:1000000000000≤B) {x:Dd} (hx:r.can x=true) (ok:x.okU U):(∀y∈(r.done x).2.hs,NbH (B+10) y.1)∧(∀l∈(r.done x).2.post,NbL (B+10) l)∧ ∀ls,(r.done x).1= .letters ls→(∀l∈ls,NbL (B+10) l)∧(ls.map (·.other)).Nodup∧ls.length≤20:=by
 have m:=n.mono (Nat.le_add_right B 10)
 have no1:∀ls,Wh.none= .letters ls→(∀l∈ls,NbL (B+10) l)∧(ls.map (·.other)).Nodup∧ls.length≤20:=fun _ h=>nomatch h
 have ups:∀ {r':Rn} {k j:Nat} {z:Str} {f:Hd→Hd},(∀x∈r'.hs,NbH (B+k) x.1)→(∀h,NbH (B+k) h→NbH (B+k+j) (f h))→ ∀x∈(r'.upd z f).hs,NbH (B+k+j) x.1:=fun h hf y hy=>by
  obtain⟨x,hx,⟨_,e⟩ | ⟨_,e⟩⟩:=upd_mem hy
  ·rw [e];exact hf _ (h x hx)
  ·rw [e];exact(h x hx).mono (by omega)
 have su:∀ {z:Str} {u:Bool},∀x∈(r.setUp z u).hs,NbH (B+0) x.1:=fun y hy=>by
  obtain⟨x,hx,e⟩:=setUp_mem hy
  rw [e];exact n.hs x hx
 cases x with
 | turn z=>
  have hx:(decide (z∈r.names) && r.isUp z)=true:=hx
  rw [Bool.and_eq_true] at hx
  obtain⟨y,hg,_⟩:=isUp_get hx.2
  rw [done_turn hg]
  have hy:=(rget_some hg).1
  have few:=b.fewA hy
  have tn:=((n.hs y hy).turned few).mono (show B+8≤B+10 by omega)
  have lo:∀l∈y.1.letters,NbL (B+10) l:=fun l hl=>by
   obtain⟨z,_,rfl⟩:=List.mem_map.mp hl
   exact tn.letter z
  refine⟨fun w hw=> ?_,fun l hl=> ?_,fun ls e=> ?_⟩
  ·obtain⟨x,hx,⟨_,e⟩ | ⟨_,e⟩⟩:=upd_mem hw
   ·rw [e];exact((n.hs x hx).turned (b.fewA hx)).mono (by omega)
   ·rw [e];exact m.hs x hx
  ·rcases List.mem_append.mp hl with hl | hl
   ·exact m.post l hl
   ·exact lo l hl
  ·cases e
   refine⟨lo,?_,?_⟩
   ·have e:y.1.letters.map (·.other)=srtS y.1.names:=by
     unfold Hd.letters
     rw [List.map_map]
     refine(List.map_congr_left fun z _=> ?_).trans (List.map_id' _)
     show(y.1.turned.letter z).other=z
     unfold Hd.letter
     split <;> rfl
    rw [e]
    exact(srtS_perm _).nodup_iff.mpr (b.hb y hy).nd
   ·unfold Hd.letters
    rw [List.length_map,(srtS_perm _).length_eq]
    unfold Hd.names
    rw [List.length_map];omega
 | come k=>
  have hk:k < r.post.length:=of_decide_eq_true hx
  rw [done_come (List.getElem?_eq_getElem hk)]
  have bl:=n.post _ (List.getElem_mem hk)
  refine⟨fun w hw=> ?_,?_,fun ls e=>nomatch e⟩
  ·unfold Rn.come at hw
   cases hg:r.get (r.post[k]).other with
   | none=>rw [hg] at hw;exact m.hs w hw
   | some y=>
    rw [hg] at hw
    dsimp only at hw
    split at hw
    ·obtain⟨x,hx,⟨_,e⟩ | ⟨_,e⟩⟩:=upd_mem hw
     ·rw [e];exact((n.hs x hx).take bl).mono (by omega)
     ·rw [e];exact m.hs x hx
    ·exact m.hs w hw
  ·intro l hl
   have e:(r.come r.post[k]).2.post=r.post:=by
    unfold Rn.come
    cases hg:r.get (r.post[k]).other with
    | none=>rfl
    | some y=>dsimp only;split <;> rfl
   have hl:l∈(r.come r.post[k]).2.post:=hl
   rw [e] at hl
   exact m.post l hl
 | join z ns=>
  refine⟨fun y hy=> ?_,m.post,no1⟩
  rcases List.mem_append.mp hy with h | h
  ·exact m.hs y h
  ·rw [List.mem_singleton.mp h]
   exact nbH0 (by omega) fun i hi=>Nat.le_trans (ok.2 i hi) (by omega)
 | set z ns=>
  refine⟨fun y hy=> ?_,m.post,no1⟩
  exact(ups (k:=0) (j:=1) n.hs (fun h hh=>hh.setOwn fun i hi=>Nat.le_trans (ok i hi) (by omega)) y hy).mono (by omega)
 | tie z o=>
  refine⟨fun y hy=> ?_,m.post,no1⟩
  exact(ups (k:=1) (j:=1) (ups (k:=0) (j:=1) n.hs fun h hh=>hh.tie _) (fun h hh=>hh.tie _) y hy).mono (by omega)
 | cut z o=>
  refine⟨fun y hy=> ?_,m.post,no1⟩
  exact(ups (k:=1) (j:=1) (ups (k:=0) (j:=1) n.hs fun h hh=>hh.cut _) (fun h hh=>hh.cut _) y hy).mono (by omega)
 | leave z=>
  cases hg:r.get z with
  | none=>simp only [Rn.done,hg];exact⟨m.hs,m.post,no1⟩
  | some u=>
   simp only [Rn.done,hg]
   refine⟨fun y hy=> ?_,m.post,no1⟩
   obtain⟨w,hw,rfl⟩:=List.mem_map.mp hy
   have hw:=(List.mem_filter.mp hw).1
   split
   ·exact((n.hs w hw).cut z).mono (by omega)
   ·exact m.hs w hw
 | fall z=>exact⟨fun y hy=>(su y hy).mono (by omega),m.post,no1⟩
 | back z=>exact⟨fun y hy=>(su y hy).mono (by omega),m.post,no1⟩
 | fresh z=>exact⟨fun y hy=>(ups (k:=0) (j:=1) su (fun h hh=>hh.fresh (by omega)) y hy).mono (by omega),m.post,no1⟩
theorem NbR.step (b:RB U c r) (n:NbR B r) (hB:1000000000000≤B) {x:Dd} (hx:r.can x=true) (ok:x.okU U):NbR (B+10) (r.step x):=by
 obtain⟨h1,h2,h3⟩:=n.done b hB hx ok
 refine⟨h1,h2,fun w hw=> ?_⟩
 rw [step_rows] at hw
 rcases List.mem_append.mp hw with hw | hw
 ·exact(n.mono (Nat.le_add_right B 10)).rows w hw
 ·rw [List.mem_singleton.mp hw]
  exact h3
theorem LedR.nb {r0:Rn} (h:LedR U r0 c r) (n0:NbR 1000000000000 r0):NbR (1000000000000+10*c) r:=by
 induction h with
 | refl _ _ _=>exact n0
 | step l hc hx nm ok ih=>exact(ih.step l.bt.1 (by omega) (Bool.and_eq_true_iff.mp hx).2 ok).mono (by omega)
end
abbrev jn (y:Str) (zs:List Str):Str:=Txt.join y zs
def partT (x:Pt):Str:=sI x.1 ++ (">>" :Str) ++ sI (x.2:Int)
def tRow (r:Rw):Str:=jn "," (r.map partT)
def tStamp:Option (Int×Int)→Str
 | none=> "-"
 | some s=>sI s.1 ++ ("." :Str) ++ sI s.2
def tNums (ns:List Int):Str:=jn "," (ns.map sI)
def tOthers (zs:List Str):Str:=if zs= [] then "-" else jn "," zs
def tEn (e:En):Str:=jn "=" [e.nm,tStamp (some (e.li,e.ve)),tNums e.nu,tOthers e.ot]
def tRoll (es:List En):Str:=jn " " (es.map tEn)
def tLt (l:Lt):Str:=jn " " [l.one,l.other,tStamp (some l.stamp),tStamp l.seen,sI l.gifts,tRow l.given,tRoll l.roll]
def ddW:Dd→List Str
 | .turn n=> ["turn",n]
 | .come k=> ["come",sI (k:Int)]
 | .fall n=> ["fall",n]
 | .back n=> ["back",n]
 | .fresh n=> ["fresh",n]
 | .leave n=> ["leave",n]
 | .set n ns=> [("set" :Str),n] ++ ns.map sI
 | .join n ns=> [("join" :Str),n] ++ ns.map sI
 | .tie n o=> ["tie",n,o]
 | .cut n o=> ["cut",n,o]
def tDd (d:Dd):Str:=jn " " (ddW d)
/-- what a letter came to, as a word -/
def wdT (z:Str):Str:=if z= "" then "nothing" else z
def tBk:Dd×Wh→Str
 | (.come k,.word w)=>tDd (.come k) ++ (" : " :Str) ++ wdT w
 | (.turn n,.letters ls)=>jn " ; " (tDd (.turn n) :: ls.map tLt)
 | (d,_)=>tDd d
def tBook (rows:List (Dd×Wh)):Str:=jn "\n" (rows.map tBk)
def tDone:Dd×Wh→Str
 | (.turn _,.letters ls)=>jn "\n" (ls.map tLt)
 | (.come _,.word w)=>wdT w
 | _=> "ok"
/-- a row whose numbers have at most so many figures -/
def RowP (k:Nat) (r:Rw):Prop:=r.length≤4∧ ∀x∈r,x.1.natAbs < 10^k∧x.2 < 10^6
def Nb14 (i:Int):Prop:=i.natAbs < 10^14
def StP (o:Option (Int×Int)):Prop:= ∀x,o=some x→Nb14 x.1∧Nb14 x.2
structure EnT (e:En):Prop where
 nm:isTx8 e.nm
 li:Nb14 e.li
 ve:Nb14 e.ve
 nu:e.nu.length≤3
 nb:∀i∈e.nu,Nb14 i
 ot:e.ot.length≤8
 on:∀z∈e.ot,isTx8 z
structure LtT (k:Nat) (l:Lt):Prop where
 one:isTx8 l.one
 other:isTx8 l.other
 st:StP (some l.stamp)
 seen:StP l.seen
 gifts:l.gifts.natAbs < 10^1000
 given:RowP k l.given
 few:l.roll.length≤64
 roll:∀e∈l.roll,EnT e
/-- a deed whose words are short -/
def Dd.txB:Dd→Prop
 | .turn n | .fall n | .back n | .fresh n | .leave n=>n.length≤8
 | .come k=>k < 10^1000
 | .set n ns | .join n ns=>n.length≤8∧ns.length≤3∧ ∀i∈ns,Nb14 i
 | .tie n o | .cut n o=>n.length≤8∧o.length≤8
/-- what is noted of a deed fits it -/
def Noted (k:Nat):Dd×Wh→Prop
 | (.turn n,w)=>n.length≤8∧ ∃ls,w= .letters ls∧ls.length≤8∧ ∀l∈ls,LtT k l
 | (.come m,w)=>m < 10^1000∧ ∃z,w= .word z∧(z= "" ∨z= "heard" ∨z= "taken")
 | (d,_)=>d.txB
section
variable (K:PySem.W.Frag)
def fRowT:ASp:=fun as M Q=> ∃(r:Rw) (k:Nat),as= [rowA r]∧RowP k r∧k≤1500∧Q (.str (tRow r)) M
def fStampT:ASp:=fun as M Q=> ∃o:Option (Int×Int),as= [stA o]∧StP o∧Q (.str (tStamp o)) M
def fEntryT:ASp:=fun as M Q=> ∃e:En,as= [entA e]∧EnT e∧Q (.str (tEn e)) M
def fRollT:ASp:=fun as M Q=> ∃es:List En,as= [rollA es]∧es.length≤64∧(∀e∈es,EnT e)∧Q (.str (tRoll es)) M
def fLetterT:ASp:=fun as M Q=> ∃(l:Lt) (k:Nat),as= [ltA l]∧LtT k l∧k≤1500∧l.roll≠ []∧Q (.str (tLt l)) M
def fDeedT:ASp:=fun as M Q=> ∃d:Dd,as= [ddA d]∧d.txB∧Q (.str (tDd d)) M
/-- the letters of a row have rolls -/
def RollsN (x:Dd×Wh):Prop:= ∀ls,x.2= .letters ls→ ∀l∈ls,l.roll≠ []
def fBookRowT:ASp:=fun as M Q=> ∃(x:Dd×Wh) (k:Nat),as= [rwA x]∧Noted k x∧k≤1500∧RollsN x∧Q (.str (tBk x)) M
def fBookT:ASp:=fun as M Q=> ∃(rows:List (Dd×Wh)) (k:Nat),as= [.lst (rows.map rwA)]∧(∀x∈rows,Noted k x)∧k≤1500∧(∀x∈rows,RollsN x)∧rows.length*(8*(4*k+11683)+5030+1)≤16777000∧Q (.str (tBook rows)) M
end
/-- the module's words -/
structure WdsK (K:PySem.W.Frag):Prop where
 w0:∃u0,PySem.W.nsIn K (He.ga K "WORDS") "" =some (some u0)∧RelV (.str "nothing") u0
 w1:∃u0,PySem.W.nsIn K (He.ga K "WORDS") "heard" =some (some u0)∧RelV (.str "heard") u0
 w2:∃u0,PySem.W.nsIn K (He.ga K "WORDS") "taken" =some (some u0)∧RelV (.str "taken") u0
def wdB (z:Str):Prop:=z= "" ∨z= "heard" ∨z= "taken"
theorem WdsK.of {K:PySem.W.Frag} (w:WdsK K) {z:Str} (h:wdB z):∃u0,PySem.W.nsIn K (He.ga K "WORDS") z=some (some u0)∧RelV (.str (wdT z)) u0:=by
 rcases h with rfl | rfl | rfl
 ·exact w.w0
 ·exact w.w1
 ·exact w.w2
theorem lenA (x y:Str):(x ++ y).length=x.length+y.length:=Str.length_append x y
theorem sI_len {i:Int} {k:Nat} (hk:0 < k) (h:i.natAbs < 10^k):(sI i).length≤k+1:=by
 show(Str.ofString (toString i)).length≤_
 rw [PySem.ofString_length]
 exact int_text_length_le10 hk h
theorem sN_len {n:Nat} {k:Nat} (hk:0 < k) (h:n < 10^k):(sI (n:Int)).length≤k+1:=sI_len hk (by rw [Int.natAbs_natCast];exact h)
theorem sum_le {α:Type} {f:α→Nat} {b:Nat} :∀ {l:List α},(∀x∈l,f x≤b)→(l.map f).sum≤l.length*b
 | [],_=>by simp
 | x :: l,h=>by
  rw [List.map_cons,List.sum_cons,List.length_cons,Nat.succ_mul]
  have h1:=h x List.mem_cons_self
  have h2:=sum_le fun y hy=>h y (List.mem_cons_of_mem x hy)
  omega
theorem jn_join (y:Str) (zs:List Str):jn y zs=Str.join y zs:=TL.join_eq y zs
theorem jn_len (y:Str):∀zs:List Str,(jn y zs).length≤(zs.map (·.length)).sum+zs.length*y.length:=fun zs=>by
 rw [jn_join]
 have h:∀ps:List (List Nat),(TL.joinL (TL.tl y) ps).length≤(ps.map (·.length)).sum+ps.length*(TL.tl y).length:=fun ps=>by
  induction ps with
  | nil=>exact Nat.zero_le _
  | cons p ps ih=>
   cases ps with
   | nil=>show p.length≤_;simp
   | cons q ps=>
    show(p ++ (TL.tl y ++ TL.joinL (TL.tl y) (q :: ps))).length≤_
    rw [List.length_append,List.length_append,List.map_cons,List.sum_cons,List.length_cons,Nat.succ_mul]
    omega
 have:=h (zs.map TL.tl)
 rw [TL.len_tl,TL.tl_join,TL.len_tl y]
 rw [List.map_map,List.length_map] at this
 rw [show zs.map (fun x=>x.length)=zs.map ((fun x=>x.length)∘TL.tl) from List.map_congr_left fun x _=>TL.len_tl x]
 exact this
/-- a joint text of so many texts, none longer than b -/
theorem jn_le {y:Str} {zs:List Str} {n b c:Nat} (hn:zs.length≤n) (hb:∀z∈zs,z.length≤b) (hy:y.length=c):(zs.map (·.length)).sum+zs.length*y.length≤n*(b+c)∧(jn y zs).length≤n*(b+c):=by
 have h1:=sum_le (f:=fun z:Str=>z.length) (b:=b) hb
 have h2:=jn_len y zs
 have h3:zs.length*b+zs.length*c≤n*(b+c):=by rw [← Nat.mul_add];exact Nat.mul_le_mul_right _ hn
 rw [hy] at h2 ⊢
 have h1':(zs.map (·.length)).sum≤zs.length*b:=h1
 omega
theorem lt4300 {i:Int} {k:Nat} (hk:k≤4300) (h:i.natAbs < 10^k):i.natAbs < 10^4300:=Nat.lt_of_lt_of_le h (Nat.pow_le_pow_right (by decide) hk)
theorem Nb14.d {i:Int} (h:Nb14 i):i.natAbs < 10^4300:=lt4300 (k:=14) (by decide) h
theorem Nb14.k {i:Int} (h:Nb14 i):i.natAbs < 10^1000:=Nat.lt_of_lt_of_le h (Nat.pow_le_pow_right (by decide) (by decide))
theorem Nb14.len {i:Int} (h:Nb14 i):(sI i).length≤15:=sI_len (by decide) h
theorem RowP.one {k:Nat} {r:Rw} (h:RowP k r) (hk:k≤1500) {x:Pt} (hx:x∈r):x.1.natAbs < 10^4300∧((x.2:Int)).natAbs < 10^4300∧(sI x.1).length≤k+2∧(sI (x.2:Int)).length≤7:=by
 obtain⟨h1,h2⟩:=h.2 x hx
 refine⟨lt4300 (by omega) h1,lt4300 (k:=6) (by decide) (by rw [Int.natAbs_natCast];exact h2),?_,sN_len (by decide) h2⟩
 by_cases h0:k=0
 ·subst h0
  have e:x.1.natAbs < 10^1:=Nat.lt_trans h1 (by decide)
  exact sI_len (k:=1) (by decide) e
 ·have:=sI_len (by omega) h1
  omega
theorem part_len (x:Pt):(partT x).length=(sI x.1).length+2+(sI (x.2:Int)).length:=by
 show(sI x.1 ++ (">>" :Str) ++ sI (x.2:Int)).length=_
 rw [lenA,lenA,show(">>" :Str).length=2 from rfl]
theorem RowP.join {k:Nat} {r:Rw} (h:RowP k r) (hk:k≤1500):((r.map partT).map (·.length)).sum+(r.map partT).length*(",": Str).length≤4*(k+12)∧(jn "," (r.map partT)).length≤4*(k+12):=
 jn_le (y:=(",": Str)) (n:=4) (b:=k+11) (c:=1) (by rw [List.length_map];exact h.1) (fun z hz=>by
  obtain⟨x,hx,rfl⟩:=List.mem_map.mp hz
  obtain⟨_,_,h3,h4⟩:=h.one hk hx
  rw [part_len]
  omega) rfl
theorem tRow_len {k:Nat} {r:Rw} (h:RowP k r) (hk:k≤1500):(tRow r).length≤4*k+48:=by
 have:=(h.join hk).2
 unfold tRow
 omega
theorem tStamp_len {o:Option (Int×Int)} (h:StP o):(tStamp o).length≤31:=by
 cases o with
 | none=>show(1:Nat)≤31;decide
 | some s=>
  obtain⟨h1,h2⟩:=h s rfl
  have:=h1.len
  have:=h2.len
  show(sI s.1 ++ ("." :Str) ++ sI s.2).length≤_
  rw [lenA,lenA,show("." :Str).length=1 from rfl]
  omega
theorem tNums_len {ns:List Int} (h:ns.length≤3) (nb:∀i∈ns,Nb14 i):(tNums ns).length≤48:=(jn_le (y:=(",": Str)) (zs:=ns.map sI) (n:=3) (b:=15) (c:=1) (by rw [List.length_map];exact h) (fun z hz=>by
 obtain⟨i,hi,rfl⟩:=List.mem_map.mp hz
 exact(nb i hi).len) rfl).2
theorem tOthers_len {zs:List Str} (h:zs.length≤8) (nb:∀z∈zs,z.length≤8):(tOthers zs).length≤72:=by
 unfold tOthers
 split
 ·show(1:Nat)≤72;decide
 ·exact(jn_le (y:=(",": Str)) (n:=8) (b:=8) (c:=1) h nb rfl).2
theorem tEn_len {e:En} (h:EnT e):(tEn e).length≤163:=by
 have h1:=tStamp_len (o:=some (e.li,e.ve)) fun x ex=>by cases ex;exact⟨h.li,h.ve⟩
 have h2:=tNums_len h.nu h.nb
 have h3:=tOthers_len h.ot fun z hz=>(h.on z hz).2.1
 have h4:=h.nm.2.1
 have:=jn_len ("=" :Str) [e.nm,tStamp (some (e.li,e.ve)),tNums e.nu,tOthers e.ot]
 unfold tEn
 rw [show("=" :Str).length=1 from rfl] at this
 simp only [List.map_cons,List.map_nil,List.sum_cons,List.sum_nil,List.length_cons,List.length_nil] at this
 omega
theorem tRoll_len {es:List En} (h:es.length≤64) (hb:∀e∈es,EnT e):(tRoll es).length≤10496:=(jn_le (y:=(" ": Str)) (zs:=es.map tEn) (n:=64) (b:=163) (c:=1) (by rw [List.length_map];exact h) (fun z hz=>by
 obtain⟨e,he,rfl⟩:=List.mem_map.mp hz
 exact tEn_len (hb e he)) rfl).2
theorem tLt_len {k:Nat} {l:Lt} (h:LtT k l) (hk:k≤1500):(tLt l).length≤4*k+11680:=by
 have h1:=tStamp_len h.st
 have h2:=tStamp_len h.seen
 have h3:(sI l.gifts).length≤1001:=sI_len (by decide) h.gifts
 have h4:=tRow_len h.given hk
 have h5:=tRoll_len h.few h.roll
 have h6:=h.one.2.1
 have h7:=h.other.2.1
 have:=jn_len (" " :Str) [l.one,l.other,tStamp (some l.stamp),tStamp l.seen,sI l.gifts,tRow l.given,tRoll l.roll]
 unfold tLt
 rw [show(" " :Str).length=1 from rfl] at this
 simp only [List.map_cons,List.map_nil,List.sum_cons,List.sum_nil,List.length_cons,List.length_nil] at this
 omega
theorem ddW_len {d:Dd} (h:d.txB):(ddW d).length≤5∧ ∀z∈ddW d,z.length≤1001:=by
 have nm:∀ {z:Str},z.length≤8→z.length≤1001:=fun h=>by omega
 have ns:∀ {n:Str} {l:List Int} {w:Str},w.length≤8→(n.length≤8∧l.length≤3∧ ∀i∈l,Nb14 i)→([w,n] ++ l.map sI).length≤5∧ ∀z∈ [w,n] ++ l.map sI,z.length≤1001:=fun hw ⟨h1,h2,h3⟩=>by
  refine⟨by rw [List.length_append,List.length_map];show 2+_≤5;omega,fun z hz=> ?_⟩
  rcases List.mem_append.mp hz with hz | hz
  ·simp only [List.mem_cons,List.not_mem_nil,or_false] at hz
   rcases hz with rfl | rfl
   ·exact nm hw
   ·exact nm h1
  ·obtain⟨i,hi,rfl⟩:=List.mem_map.mp hz
   have:=(h3 i hi).len
   omega
 have two:∀ {w n:Str},w.length≤8→n.length≤1001→ [w,n].length≤5∧ ∀z∈ [w,n],z.length≤1001:=fun hw h1=>⟨(by show 2≤5;decide),fun z hz=>by
  simp only [List.mem_cons,List.not_mem_nil,or_false] at hz
  rcases hz with rfl | rfl
  ·exact nm hw
  ·exact h1⟩
 have three:∀ {w n o:Str},w.length≤8→n.length≤8∧o.length≤8→ [w,n,o].length≤5∧ ∀z∈ [w,n,o],z.length≤1001:=fun hw h1=>⟨(by show 3≤5;decide),fun z hz=>by
  simp only [List.mem_cons,List.not_mem_nil,or_false] at hz
  rcases hz with rfl | rfl | rfl
  ·exact nm hw
  ·exact nm h1.1
  ·exact nm h1.2⟩
 cases d with
 | turn n=>exact two (by decide) (nm h)
 | come k=>exact two (by decide) (sN_len (k:=1000) (by decide) h)
 | fall n=>exact two (by decide) (nm h)
 | back n=>exact two (by decide) (nm h)
 | fresh n=>exact two (by decide) (nm h)
 | leave n=>exact two (by decide) (nm h)
 | set n l=>exact ns (by decide) h
 | join n l=>exact ns (by decide) h
 | tie n o=>exact three (by decide) h
 | cut n o=>exact three (by decide) h
theorem tDd_len {d:Dd} (h:d.txB):((ddW d).map (·.length)).sum+(ddW d).length*(" " :Str).length≤5010∧(tDd d).length≤5010:=by
 obtain⟨h1,h2⟩:=ddW_len h
 exact jn_le (n:=5) (b:=1001) (c:=1) h1 h2 rfl
theorem enJ {e:En} (h:EnT e):(([e.nm,tStamp (some (e.li,e.ve)),tNums e.nu,tOthers e.ot]:List Str).map (·.length)).sum+([e.nm,tStamp (some (e.li,e.ve)),tNums e.nu,tOthers e.ot]:List Str).length*("=" :Str).length≤16777216:=by
 have h1:=tStamp_len (o:=some (e.li,e.ve)) fun x ex=>by cases ex;exact⟨h.li,h.ve⟩
 have h2:=tNums_len h.nu h.nb
 have h3:=tOthers_len h.ot fun z hz=>(h.on z hz).2.1
 have h4:=h.nm.2.1
 rw [show("=" :Str).length=1 from rfl]
 simp only [List.map_cons,List.map_nil,List.sum_cons,List.sum_nil,List.length_cons,List.length_nil]
 omega
theorem rollJ {es:List En} (h:es.length≤64) (hb:∀e∈es,EnT e):((es.map tEn).map (·.length)).sum+(es.map tEn).length*(" " :Str).length≤16777216:=Nat.le_trans (jn_le (y:=(" ": Str)) (zs:=es.map tEn) (n:=64) (b:=163) (c:=1) (by rw [List.length_map];exact h) (fun z hz=>by
 obtain⟨e,he,rfl⟩:=List.mem_map.mp hz
 exact tEn_len (hb e he)) rfl).1 (by decide)
abbrev ltW (l:Lt):List Str:= [l.one,l.other,tStamp (some l.stamp),tStamp l.seen,sI l.gifts,tRow l.given,tRoll l.roll]
theorem ltJ {k:Nat} {l:Lt} (h:LtT k l) (hk:k≤1500):((ltW l).map (·.length)).sum+(ltW l).length*(" " :Str).length≤16777216:=by
 have h1:=tStamp_len h.st
 have h2:=tStamp_len h.seen
 have h3:(sI l.gifts).length≤1001:=sI_len (by decide) h.gifts
 have h4:=tRow_len h.given hk
 have h5:=tRoll_len h.few h.roll
 have h6:=h.one.2.1
 have h7:=h.other.2.1
 rw [show(" " :Str).length=1 from rfl]
 simp only [List.map_cons,List.map_nil,List.sum_cons,List.sum_nil,List.length_cons,List.length_nil]
 omega
theorem numsJ {ns:List Int} (h:ns.length≤3) (nb:∀i∈ns,Nb14 i):((ns.map sI).map (·.length)).sum+(ns.map sI).length*("," :Str).length≤16777216:=Nat.le_trans (jn_le (y:=(",": Str)) (zs:=ns.map sI) (n:=3) (b:=15) (c:=1) (by rw [List.length_map];exact h) (fun z hz=>by
 obtain⟨i,hi,rfl⟩:=List.mem_map.mp hz
 exact(nb i hi).len) rfl).1 (by decide)
theorem othJ {zs:List Str} (h:zs.length≤8) (nb:∀z∈zs,isTx8 z):(zs.map (·.length)).sum+zs.length*("," :Str).length≤16777216:=Nat.le_trans (jn_le (y:=(",": Str)) (n:=8) (b:=8) (c:=1) h (fun z hz=>(nb z hz).2.1) rfl).1 (by decide)
theorem eqA_nilT {xs:List A} :eqA (.tup xs) (.tup [])=xs.isEmpty:=by
 rw [eqA_tup]
 cases xs <;> simp
theorem o_neNilT {K:PySem.W.Frag} {M:AM} {Q:QA} {k:Nat} {xs:List A} (h:∀x∈xs,Lay k x) (hk:k < 60) (q:Q (.bl (!xs.isEmpty)) M):O2 K (rNeD K) (.tup xs) (.tup []) M Q:=o_neL (Lay.tup h) (Lay.tup (k:=0) Lay.nil) hk (by decide) (by rw [eqA_nilT];exact q)
/-- the figures of a word -/
def figL (w:Str):List Nat:=if w.cps.toList.take 1= [45] then w.cps.toList.drop 1 else w.cps.toList
def digB1 (c:Nat):Bool:=decide (48≤c∧c≤57)
def numOk (w:Str):Bool:=decide (1≤(figL w).length) && decide ((figL w).length≤1000) && (figL w).all digB1 && !(decide ((figL w).head? =some 48) && !decide (w= "0"))
def numV (w:Str):Int:=if w.cps.toList.take 1= [45] then -((NumText.digitsVal (figL w):Nat):Int) else((NumText.digitsVal (figL w):Nat):Int)
def pNum (w:Str):Option Int:=if numOk w=true then some (numV w) else none
def optI:Option Int→A
 | none=> .non
 | some i=> .int i
def pStamp (w:Str) (least:Int):Option (Int×Int):=match(Txt.split w ".").map pNum with
 | [some a,some b]=>if a < 1∨b < least then none else some (a,b)
 | _=>none
def isPt (n e:Int):Bool:=decide (0≤e) && (decide (e=0) || decide (n % 2=1))
def pPart (w:Str):Option Pt:=match(Txt.split w ">>").map pNum with
 | [some n,some e]=>if isPt n e=true then some (n,e.toNat) else none
 | _=>none
def pRow (w:Str):Option Rw:=match allSome ((Txt.split w ",").map pPart) with
 | some r=>if 2≤r.length∧r.length≤4 then some r else none
 | none=>none
/-- rising, none twice -/
def risB (zs:List Str):Bool:=decide (zs=srtS (once zs))
def pNames (w:Str):Option (List Str):=if w= "-" then some [] else if(Txt.split w ",").all nmB && risB (Txt.split w ",") then some (Txt.split w ",") else none
def pEntry (w:Str):Option En:=match Txt.split w "=" with
 | [n,s,u,o]=>if nmB n=true then
   match pStamp s 1,allSome ((Txt.split u ",").map pNum),pNames o with
   | some st,some ns,some os=>if numsB (.tup (ns.map A.int))=true then some ⟨n,st.1,st.2,ns,os⟩ else none
   | _,_,_=>none
  else none
 | _=>none
def pRoll (ws:List Str):Option (List En):=match allSome (ws.map pEntry) with
 | some es=>if es≠ []∧risB (es.map (·.nm))=true then some es else none
 | none=>none
def pSeen (w:Str):Option (Option (Int×Int)):=if w= "-" then some none else(pStamp w 0).map some
def pLetter (t:Str):Option Lt:=match Txt.split t " " with
 | a :: b :: c :: d :: e :: f :: g :: r=>if nmB a=true∧nmB b=true then
   match pStamp c 0,pSeen d,pNum e,pRow f,pRoll (g :: r) with
   | some st,some se,some gi,some gv,some ro=>if gi < 0 then none else some ⟨a,b,st,se,gi,gv,ro⟩
   | _,_,_,_,_=>none
  else none
 | _=>none
/-- a deed's words as a thing -/
def deedW (ws:List Str):A:=if ws.head? =some ("set" :Str)∨ws.head? =some ("join" :Str) then .tup ((ws.take 2).map A.str ++ [.tup ((ws.drop 2).map fun w=>optI (pNum w))]) else
 if ws.head? =some ("come" :Str) then .tup (.str "come" :: (ws.drop 1).map fun w=>optI (pNum w)) else .tup (ws.map A.str)
def pDeed2 (w n:Str):Option Dd:=if w= "come" then(match pNum n with | some k=>if 0≤k then some (.come k.toNat) else none | none=>none) else
 if nmB n=true then(if w= "turn" then some (.turn n) else if w= "fall" then some (.fall n) else if w= "back" then some (.back n) else if w= "fresh" then some (.fresh n) else if w= "leave" then some (.leave n) else none) else none
def pDeed3 (w n u:Str) (r:List Str):Option Dd:=if nmB n=true then
  if w= "set" ∨w= "join" then
   match allSome ((u :: r).map pNum) with
   | some ns=>if numsB (.tup (ns.map A.int))=true then some (if w= "set" then .set n ns else .join n ns) else none
   | none=>none
  else if r= []∧nmB u=true∧u≠n then(if w= "tie" then some (.tie n u) else if w= "cut" then some (.cut n u) else none) else none
 else none
def pDeedW:List Str→Option Dd
 | [w,n]=>pDeed2 w n
 | w :: n :: u :: r=>pDeed3 w n u r
 | _=>none
def pDeed (t:Str):Option Dd:=pDeedW (Txt.split t " ")
/-- a come's row by its word -/
def pComeW (t w:Str):Option (Dd×Wh):=if Txt.endswith t ((" : " :Str) ++ wdT w)=true then
  match pDeed (cutS t none (some ((t.length:Int) - (((" : " :Str) ++ wdT w).length:Int)))) with
  | some (.come k)=>some (.come k,.word w)
  | _=>none
 else none
def pCome (t:Str):Option (Dd×Wh):=match pComeW t "" with
 | some x=>some x
 | none=>match pComeW t "heard" with
  | some x=>some x
  | none=>pComeW t "taken"
def pBk (t:Str):Option (Dd×Wh):=if Txt.startswith t "come " =true then pCome t else
 match pDeed ((Txt.split t " ; ").headD ""),allSome ((Txt.split t " ; ").tail.map pLetter) with
 | some (.turn n),some ls=>some (.turn n,.letters ls)
 | some d,some []=>some (d,.none)
 | _,_=>none
def pBook (t:Str):Option (List (Dd×Wh)):=if t= "" then some [] else allSome ((Txt.split t "\n").map pBk)
/-- few words, few names in each -/
def FewW (t:Str):Prop:=(Txt.split t " ").length≤69∧ ∀w∈Txt.split t " ",∀u∈Txt.split w "=",(Txt.split u ",").length≤62
def FewT (t:Str):Prop:=t.length≤15000000∧ ∀row∈Txt.split t "\n",row.length≤1000000∧ ∀part∈Txt.split row " ; ",FewW part
section
variable (K:PySem.W.Frag)
def fNumIn:ASp:=fun as M Q=> ∃w:Str,as= [.str w]∧w.length≤1000000∧Q (optI (pNum w)) M
def fStampIn:ASp:=fun as M Q=> ∃(w:Str) (b:Int),as= [.str w,.int b]∧w.length≤1000000∧Q (stA (pStamp w b)) M
def optR:Option Rw→A
 | none=> .non
 | some r=>rowA r
def fIsPart:ASp:=fun as M Q=> ∃n e:Int,as= [.tup [.int n,.int e]]∧Q (.bl (isPt n e)) M
def fRowIn:ASp:=fun as M Q=> ∃w:Str,as= [.str w]∧w.length≤1000000∧Q (optR (pRow w)) M
def optN:Option (List Str)→A
 | none=> .non
 | some zs=> .tup (zs.map A.str)
def fNamesIn:ASp:=fun as M Q=> ∃w:Str,as= [.str w]∧w.length≤1000000∧(Txt.split w ",").length≤62∧Q (optN (pNames w)) M
def optE:Option En→A
 | none=> .non
 | some e=>entA e
def fEntryIn:ASp:=fun as M Q=> ∃w:Str,as= [.str w]∧w.length≤1000000∧(∀u∈Txt.split w "=",(Txt.split u ",").length≤62)∧Q (optE (pEntry w)) M
def optRo:Option (List En)→A
 | none=> .non
 | some es=>rollA es
def fRollIn:ASp:=fun as M Q=> ∃ws:List Str,as= [.lst (ws.map A.str)]∧ws.length≤63∧(∀w∈ws,w.length≤1000000∧ ∀u∈Txt.split w "=",(Txt.split u ",").length≤62)∧Q (optRo (pRoll ws)) M
def optSe:Option (Option (Int×Int))→A
 | none=> .non
 | some o=> .tup [stA o]
def fSeenIn:ASp:=fun as M Q=> ∃w:Str,as= [.str w]∧w.length≤1000000∧Q (optSe (pSeen w)) M
def optL:Option Lt→A
 | none=> .non
 | some l=>ltA l
def fLetterIn:ASp:=fun as M Q=> ∃t:Str,as= [.str t]∧t.length≤1000000∧FewW t∧Q (optL (pLetter t)) M
def optD:Option Dd→A
 | none=> .non
 | some d=>ddA d
def fDeedIn:ASp:=fun as M Q=> ∃t:Str,as= [.str t]∧t.length≤1000000∧(Txt.split t " ").length≤900∧Q (optD (pDeed t)) M
def optB:Option (Dd×Wh)→A
 | none=> .non
 | some x=>rwA x
def fComeIn:ASp:=fun as M Q=> ∃t:Str,as= [.str t]∧t.length≤1000000∧(Txt.split t " ").length≤900∧Q (optB (pCome t)) M
def fBkIn:ASp:=fun as M Q=> ∃t:Str,as= [.str t]∧t.length≤1000000∧(Txt.split t " ").length≤900∧(∀part∈Txt.split t " ; ",FewW part)∧Q (optB (pBk t)) M
def fReadBook:ASpX:=fun as M Q X=>(∃t:Str,as= [.str t]∧FewT t∧(∀row∈Txt.split t "\n",(Txt.split row " ").length≤900)∧(∀rows,pBook t=some rows→Q (.lst (rows.map rwA)) M)∧(pBook t=none→X (He.ga K "NoText") M))∨ ∃a:A,as= [a]∧a.plain=true∧a.isS=false∧X (He.ga K "NoText") M
end
theorem big' {n:Nat} (h:n < 16000000):n < sizeLine:=Nat.lt_of_lt_of_le h (by decide)
theorem big {n:Nat} (h:n≤16000000):n≤sizeLine:=Nat.le_trans h (by decide)
theorem join_len (y:Str):∀ {zs:List Str},zs≠ []→(Str.join y zs).length+y.length=(zs.map (·.length)).sum+zs.length*y.length
 | [],h=>absurd rfl h
 | [x],_=>by
  show x.length+y.length=_
  simp
 | x :: z :: r,_=>by
  have ih:=join_len y (zs:=z :: r) (by simp)
  show(x ++ y ++ Str.join y (z :: r)).length+y.length=_
  rw [lenA,lenA,List.map_cons,List.sum_cons,List.length_cons,Nat.succ_mul]
  omega
theorem split_ne (x y:Str):Txt.split x y≠ []:=by
 unfold Txt.split
 split
 ·simp
 ·split
  ·simp
  ·rw [StrLaws.partsBetween_eq]
   obtain⟨p,r,e⟩:=StrLaws.partsFrom_ne x y.length 0 (Builtin.Str.occurrences x y 0 x.length (x.length+1))
   rw [e]
   simp
theorem le_sum:∀ {l:List Str} {z:Str},z∈l→z.length≤(l.map (·.length)).sum
 | x :: l,z,h=>by
  rw [List.map_cons,List.sum_cons]
  rcases List.mem_cons.mp h with rfl | h
  ·omega
  ·have:=le_sum h
   omega
/-- no part is longer than the text, and there are not more parts than signs, and one -/
theorem split_b (x:Str) {y:Str} (hy:1≤y.length):(Txt.split x y).length≤x.length+1∧ ∀z∈Txt.split x y,z.length≤x.length:=by
 have h:=join_len y (split_ne x y)
 rw [StrLaws.join_split] at h
 have ne:1≤(Txt.split x y).length:=List.length_pos_iff.mpr (split_ne x y)
 have h2:(Txt.split x y).length≤(Txt.split x y).length*y.length:=Nat.le_mul_of_pos_right _ hy
 have h3:(Txt.split x y).length*y.length=((Txt.split x y).length - 1)*y.length+y.length:=by
  rw [← Nat.succ_mul]
  congr 1
  omega
 have h4:(Txt.split x y).length - 1≤((Txt.split x y).length - 1)*y.length:=Nat.le_mul_of_pos_right _ hy
 refine⟨by omega,fun z hz=> ?_⟩
 have:=le_sum hz
 omega
theorem inF_opt (l:List (Option Int)):inF .non (l.map optI)=l.any Option.isNone:=by
 unfold inF inV
 rw [List.map_map,List.any_map]
 refine congrFun (congrArg List.any rfl) _ |>.trans ?_
 induction l with
 | nil=>rfl
 | cons a l ih=>
  rw [List.any_cons,List.any_cons,ih]
  cases a <;> rfl
theorem opt_flat (l:List (Option Int)):(l.map optI).all A.flat=true:=by
 rw [List.all_map]
 refine List.all_eq_true.mpr fun x _=> ?_
 cases x <;> rfl
theorem spl_count (s:Nat):∀(n:Nat) (L:List Nat),L.length≤n→ ∀acc,(TL.spl [s] 0 acc L).length=L.count s+1
 | 0,[],_,acc=>rfl
 | n+1,L,hl,acc=>by
  by_cases h:s∈L
  ·obtain⟨p,q,e,np⟩:=List.eq_append_cons_of_mem h
   subst e
   have e1:TL.spl [s] 0 acc (p ++ s :: q)=(acc ++ p) :: TL.spl [s] 0 [] q:=TL.spl_part1 (S:= []) np
   rw [List.length_append,List.length_cons] at hl
   rw [e1,List.length_cons,spl_count s n q (by omega),List.count_append,List.count_cons_self,List.count_eq_zero_of_not_mem np]
   omega
  ·have e1:TL.spl [s] 0 acc L= [acc ++ L]:=TL.spl_last1 h
   rw [e1,List.count_eq_zero_of_not_mem h]
   rfl
theorem split_count {s:Nat} {y:Str} (ey:TL.tl y= [s]) (hk:y.cps.all (· < 256)=true) (x:Str):(Txt.split x y).length=(TL.tl x).count s+1:=by
 have h:=TL.split_spl x y (by rw [ey];simp) (TL.kind_ok hk)
 have:=congrArg List.length h
 rw [List.length_map,ey,spl_count s (TL.tl x).length _ (Nat.le_refl _)] at this
 exact this
theorem join_count (c:Nat) (y:Str):∀zs:List Str,(zs.map fun z=>(TL.tl z).count c).sum≤(TL.tl (Str.join y zs)).count c
 | []=>Nat.zero_le _
 | [x]=>by
  rw [List.map_cons,List.map_nil,List.sum_cons,List.sum_nil]
  exact Nat.le_refl _
 | x :: z :: r=>by
  have ih:=join_count c y (z :: r)
  show _≤(TL.tl (x ++ y ++ Str.join y (z :: r))).count c
  rw [TL.tl_append,TL.tl_append,List.count_append,List.count_append,List.map_cons,List.sum_cons]
  omega
theorem mem_le {α:Type} {f:α→Nat} :∀ {l:List α} {z:α},z∈l→f z≤(l.map f).sum
 | x :: l,z,h=>by
  rw [List.map_cons,List.sum_cons]
  rcases List.mem_cons.mp h with rfl | h
  ·omega
  ·have:=mem_le (f:=f) h
   omega
/-- a part has not more of a sign than the text -/
theorem split_sign (c:Nat) {x y z:Str} (h:z∈Txt.split x y):(TL.tl z).count c≤(TL.tl x).count c:=by
 have h1:=join_count c y (Txt.split x y)
 rw [StrLaws.join_split] at h1
 exact Nat.le_trans (mem_le (f:=fun z=>(TL.tl z).count c) h) h1
theorem cutS_count (c:Nat) (z:Str) (lo hi:Option Int):(TL.tl (cutS z lo hi)).count c≤(TL.tl z).count c:=by
 unfold cutS
 show(((z.cps.toList.drop _).take _).toArray.toList).count c≤_
 rw [List.toList_toArray]
 exact List.Sublist.count_le c ((List.take_sublist _ _).trans (List.drop_sublist _ _))
abbrev N_number_in:List Str:= ["word","figures","sign"]
def t_number_in (K:PySem.W.Frag):TS:=
 (tSeq (tAsg (tSl rSlS (tVar 0) (tPart (tCB rInt1 (tCons (tOp rEq (tSl rSlS (tVar 0) tNoPart (tPart (tC (.int 1)))) (tC (.str ("-" :Str)))) tNil))) tNoPart) (gName 1))
  (tSeq (tIfS (tOr (tNot (tTest (tChain rLeI rLeI (tC (.int 1)) (tCB rLenStr (tCons (tVar 1) tNil)) (tC (.int 1000))))) (tNot (tB (tCB (rAll K) (tCons (tLc (iStr (tVar 1)) (gName 2) tYes (tOp rInS (tVar 2) (tC (.str ("0123456789" :Str)))) [2]) tNil))))) (tRet (tC .non)) tNext)
  (tSeq (tIfS (tAnd (tTest (tOp rEq (tOp rIxS (tVar 1) (tC (.int 0))) (tC (.str ("0" :Str))))) (tTest (tOp rNe (tVar 0) (tC (.str ("0" :Str)))))) (tRet (tC .non)) tNext)
  (tRet (tCB (Go.rIntU K) (tCons (tVar 0) tNil))))))
theorem fig_cps (w:Str):(cutS w (some (if decide (cutS w none (some 1)=("-" :Str))=true then 1 else 0)) none).cps.toList=figL w:=by
 have hh:(cutS w none (some 1)).cps.toList=w.cps.toList.take 1:=by
  unfold cutS
  rw [HT.sIx_none,show HT.sIx w.length w.length (some 1)=min 1 w.length from HT.sIx_nat _ _ 1]
  show((w.cps.toList.drop 0).take (min 1 w.length - 0))=_
  rw [Nat.sub_zero,List.drop_zero,str_len]
  exact List.take_eq_take_iff.mpr (by omega)
 have hd:∀k:Nat,(cutS w (some (k:Int)) none).cps.toList=w.cps.toList.drop k:=fun k=>by
  unfold cutS
  rw [HT.sIx_none,show HT.sIx w.length 0 (some (k:Int))=min k w.length from HT.sIx_nat _ _ k]
  show((w.cps.toList.drop (min k w.length)).take (w.length - min k w.length))=_
  have e:w.cps.toList.drop (min k w.length)=w.cps.toList.drop k:=by
   by_cases h:k≤w.length
   ·rw [Nat.min_eq_left h]
   ·rw [Nat.min_eq_right (by omega),str_len,List.drop_length,List.drop_eq_nil_of_le (by rw [← str_len];omega)]
  rw [e]
  refine List.take_of_length_le ?_
  rw [List.length_drop,← str_len]
  omega
 have e1:decide (cutS w none (some 1)=("-" :Str))=decide (w.cps.toList.take 1= [45]):=decide_eq_decide.mpr ⟨fun h=>by rw [← hh,h];rfl,fun h=>TL.ext_tl (by show(cutS w none (some 1)).cps.toList=_;rw [hh,h];rfl)⟩
 rw [e1]
 unfold figL
 by_cases h:w.cps.toList.take 1= [45]
 ·rw [if_pos h,if_pos (decide_eq_true h)]
  exact hd 1
 ·rw [if_neg h,if_neg (by rw [decide_eq_false h];exact Bool.false_ne_true)]
  exact(hd 0).trans (List.drop_zero ..)
theorem dig_mem (c:Nat):decide (c∈(("0123456789" :Str)).cps.toList)=digB1 c:=by
 unfold digB1
 refine decide_eq_decide.mpr ?_
 rw [show(("0123456789" :Str)).cps.toList= [48,49,50,51,52,53,54,55,56,57] from by decide +kernel]
 simp only [List.mem_cons,List.not_mem_nil,or_false]
 omega
theorem figL_len (w:Str):(figL w).length≤w.length:=by
 unfold figL
 rw [str_len]
 split
 ·rw [List.length_drop];omega
 ·exact Nat.le_refl _
theorem num_val {w:Str} (h:numOk w=true):PySem.intText? w=some (numV w)∧w.length≤1001:=by
 unfold numOk at h
 simp only [Bool.and_eq_true,decide_eq_true_eq] at h
 obtain⟨⟨⟨h1,h2⟩,h3⟩,h4⟩:=h
 have hd:NumText.AllDigits (figL w):=fun c hc=>by
  have:=List.all_eq_true.mp h3 c hc
  exact of_decide_eq_true this
 have ne:figL w≠ []:=fun e=>by rw [e] at h1;exact absurd h1 (by decide)
 unfold numV
 unfold figL at hd ne h1 h2 ⊢
 by_cases hm:w.cps.toList.take 1= [45]
 ·rw [if_pos hm] at hd ne h1 h2 ⊢
  rw [if_pos hm]
  cases hw:w.cps.toList with
  | nil=>rw [hw] at hm;cases hm
  | cons c r=>
   rw [hw] at hm hd ne h1 h2
   have e:c=45:=by
    have:=hm
    simp at this
    exact this
   subst e
   have hl:w.length≤1001:=by
    rw [str_len,hw]
    have:([45] ++ r).length≤1001:=by simp at h2 ⊢;omega
    exact this
   exact⟨PySem.intText_neg hw hd ne (by omega),hl⟩
 ·rw [if_neg hm] at hd ne h1 h2 ⊢
  rw [if_neg hm]
  have hl:w.length≤1001:=by rw [str_len];omega
  exact⟨PySem.intText_digits hd ne (by omega),hl⟩
section
variable {K:PySem.W.Frag} {vs:List V} {H:Hp} {Q:VK} {E:XK}
theorem p_number_in_len (h:cs K fNumIn vs H Q E):vs.length=1:=fn_len (fun as M Q ⟨_,e,_⟩=>by rw [e];rfl) h
theorem p_number_in (dg:DigK K) (h:cs K fNumIn vs H Q E):t_number_in K { nx:=fun _ H'=>Q .non H',rt:=Q } (start N_number_in vs) H:=fn_of h fun as M Qa h=>by
 obtain⟨w,rfl,hl,q⟩:=h
 have hw:w.length≤sizeLine:=small hl
 unfold t_number_in
 refine s_seq (s_asg (e_sl (e_var rfl (e_part (e_cb (a_cons (e_op (e_sl (e_var rfl (e_noPart (e_part (e_int ⟨_,rfl,o_slS hw (e_str (o_eqS (a_nil (l_intB ⟨_,rfl,e_noPart (o_slS hw ?_)⟩))))⟩))))))))))))
 generalize hF:cutS w (some (if decide (cutS w none (some 1)=("-" :Str))=true then 1 else 0)) none=F
 have eF:F.cps.toList=figL w:=by rw [← hF];exact fig_cps w
 have lF:F.length=(figL w).length:=by rw [str_len,eF]
 have lF2:F.length≤1000000:=by have:=figL_len w;omega
 have none:pNum w=none→Qa .non M:=fun e=>by rw [e] at q;exact q
 refine s_seq (s_if (t_or (t_not (t_testB (e_chain (e_int (e_cb (a_cons (e_var rfl (a_nil (l_lenS (small lF2) (o_le ⟨_,rfl,?_⟩))))))))))))
 have bad:∀ {s:Sv} {Nx:Sv→AM→Prop},numOk w=false→ES K (fun _ _ _=>False) (fun _ _=>False) (tRet (tC .non)) s M Nx (Dn Qa) (fun _ _=>False) (fun _ _=>False):=fun {s Nx} e=>by
  refine s_ret (e_non (dn0 (none ?_)))
  unfold pNum
  rw [e]
  rfl
 by_cases c1:(1:Int)≤(F.length:Int)
 ·refine if_t (decide_eq_true c1) (e_int (o_le ⟨_,rfl,?_⟩))
  by_cases c2:(F.length:Int)≤1000
  ·rw [decide_eq_true c2]
   refine if_f rfl (t_not (t_B (e_cb (a_cons ?_))))
   refine e_mapF (α:=Nat) (fun c=> .bl (digB1 c)) (i_str (e_var rfl ⟨F,rfl,sign,F.cps.toList,rfl,small (by rw [← str_len];exact lF2),fun c hc M' up=> ?_,?_⟩))
   ·exact c_name (by decide) (e_op (e_var rfl (e_str (o_inSign ⟨rfl,by rw [dig_mem]⟩))))
   refine a_nil (l_all (bs:=F.cps.toList.map digB1) (by rw [List.map_map];exact LsA.lst) ⟨_,rfl,?_⟩)
   have eall:(F.cps.toList.map digB1).all id=(figL w).all digB1:=by rw [List.all_map,eF];rfl
   rw [eall]
   cases c3:(figL w).all digB1 with
   | false=>
    refine if_t rfl (bad ?_)
    unfold numOk
    rw [c3,Bool.and_false,Bool.false_and]
   | true=>
    refine if_f rfl (s_next ?_)
    cases hf:figL w with
    | nil=>rw [lF,hf] at c1;exact absurd c1 (by decide)
    | cons c r=>
     have hc:F.cps.toList=c :: r:=eF.trans hf
     have e0:decide ((⟨#[c]⟩:Str)=("0" :Str))=decide (c=48):=decide_eq_decide.mpr ⟨fun h=>by
      have h2:([c]:List Nat)= [48]:=congrArg (fun z:Str=>z.cps.toList) h
      exact(List.cons.inj h2).1,fun h=>by rw [h];rfl⟩
     refine s_seq (s_if (t_and (t_testB (e_op (e_op (e_var rfl (e_int (o_ixS (c:=c) (small lF2) (by rw [hc];exact atI_nat (j:=0) rfl) (e_str (o_eqS ⟨_,rfl,?_⟩))))))))))
     rw [e0]
     have nz:numOk w= !(decide (c=48) && !decide (w= "0")):=by
      unfold numOk
      rw [c3,decide_eq_true (show 1≤(figL w).length by omega),decide_eq_true (show(figL w).length≤1000 by omega),hf]
      have e1:decide ((c :: r).head? =some 48)=decide (c=48):=decide_eq_decide.mpr ⟨fun h=>Option.some.inj h,fun h=>by rw [h];rfl⟩
      rw [e1]
      rfl
     have fin:∀ {s:Sv},s[0]? =some (some (.str w))→numOk w=true→ES K (fun _ _ _=>False) (fun _ _=>False) (tRet (tCB (Go.rIntU K) (tCons (tVar 0) tNil))) s M (fun _ M'=>Dn Qa .non M') (Dn Qa) (fun _ _=>False) (fun _ _=>False):=fun {s} hs e=>by
      obtain⟨h1,h2⟩:=num_val e
      refine s_ret (e_cb (a_cons (e_var hs (a_nil (l_intU dg h1 (by omega) (dn0 ?_))))))
      unfold pNum at q
      rw [if_pos e] at q
      exact q
     by_cases c4:c=48
     ·rw [decide_eq_true c4] at nz ⊢
      refine if_t rfl (t_testB (e_op (e_var rfl (e_str (o_neS ⟨_,rfl,?_⟩)))))
      by_cases c5:w= "0"
      ·rw [decide_eq_true c5] at nz ⊢
       exact if_f rfl (s_next (fin rfl nz))
      ·rw [decide_eq_false c5] at nz ⊢
       exact if_t rfl (bad nz)
     ·rw [decide_eq_false c4] at nz ⊢
      exact if_f rfl (if_f rfl (s_next (fin rfl nz)))
  ·rw [decide_eq_false c2]
   refine if_t rfl (if_t rfl (bad ?_))
   unfold numOk
   rw [decide_eq_false (show ¬ (figL w).length≤1000 by omega),Bool.and_false,Bool.false_and,Bool.false_and]
 ·refine if_f (decide_eq_false c1) ⟨_,rfl,if_t rfl (if_t rfl (bad ?_))⟩
  unfold numOk
  rw [decide_eq_false (show ¬ 1≤(figL w).length by omega),Bool.false_and,Bool.false_and,Bool.false_and]
end
abbrev N_is_part:List Str:= ["thing"]
def t_is_part (K:PySem.W.Frag):TS:=
 (tSeq (tIfS (tOr (tNot (tB (tCB (rIsi K) (tCons (tVar 0) (tCons (tC (.ty "tuple")) tNil))))) (tTest (tOp rNe (tCB (Evl.rLenS K) (tCons (tVar 0) tNil)) (tC (.int 2))))) (tRet (tC (.bl false))) tNext)
  (tSeq (tIfS (tOr (tNot (tB (tCall (cs K fIsInt) [] E0 (tCons (tOp (rIxT K) (tVar 0) (tC (.int 0))) tNil)))) (tOr (tNot (tB (tCall (cs K fIsInt) [] E0 (tCons (tOp (rIxT K) (tVar 0) (tC (.int 1))) tNil)))) (tTest (tOp rLtI (tOp (rIxT K) (tVar 0) (tC (.int 1))) (tC (.int 0)))))) (tRet (tC (.bl false))) tNext)
  (tRet (tOrV (tOp rEq (tOp (rIxT K) (tVar 0) (tC (.int 1))) (tC (.int 0))) (tOp rEq (tOp rModI (tOp (rIxT K) (tVar 0) (tC (.int 0))) (tC (.int 2))) (tC (.int 1)))))))
abbrev N_stamp_in:List Str:= ["word","least","numbers","one"]
def t_stamp_in (K:PySem.W.Frag):TS:=
 (tSeq (tAsg (tLc (iList K (tSplit (tVar 0) (tC (.str ("." :Str))))) (gName 3) tYes (tCall (cs K fNumIn) [] E0 (tCons (tVar 3) tNil)) [3]) (gName 2))
  (tSeq (tIfS (tOr (tTest (tOp rNe (tCB (Evl.rLenS K) (tCons (tVar 2) tNil)) (tC (.int 2)))) (tOr (tTest (tOp (rIn K false) (tC .non) (tVar 2))) (tOr (tTest (tOp rLtI (tOp (rIxL K) (tVar 2) (tC (.int 0))) (tC (.int 1)))) (tTest (tOp rLtI (tOp (rIxL K) (tVar 2) (tC (.int 1))) (tVar 1)))))) (tRet (tC .non)) tNext)
  (tRet (tCB (rTupOf K) (tCons (tVar 2) tNil)))))
abbrev N_row_in:List Str:= ["word","row","piece","part","one"]
def t_row_in (K:PySem.W.Frag):TS:=
 (tSeq (tAsg (tLst tNil) (gName 1))
  (tSeq (tFor (iList K (tSplit (tVar 0) (tC (.str ("," :Str))))) (gName 2) (tSeq (tAsg (tCB (rTupOf K) (tCons (tLc (iList K (tSplit (tVar 2) (tC (.str (">>" :Str))))) (gName 4) tYes (tCall (cs K fNumIn) [] E0 (tCons (tVar 4) tNil)) [4]) tNil)) (gName 3))
   (tSeq (tIfS (tOr (tTest (tOp rNe (tCB (Evl.rLenS K) (tCons (tVar 3) tNil)) (tC (.int 2)))) (tOr (tTest (tOp (rIn K false) (tC .non) (tVar 3))) (tNot (tB (tCall (cs K fIsPart) [] E0 (tCons (tVar 3) tNil)))))) (tRet (tC .non)) tNext)
   (tDrop (tBM K "list" rAppend (tVar 1) (tCons (tVar 3) tNil))))))
  (tSeq (tIfS (tNot (tTest (tChain rLeI rLeI (tC (.int 2)) (tCB (Evl.rLenS K) (tCons (tVar 1) tNil)) (tC (.int 4))))) (tRet (tC .non)) tNext)
  (tRet (tCB (rTupOf K) (tCons (tVar 1) tNil))))))
section
variable {K:PySem.W.Frag} {vs:List V} {H:Hp} {Q:VK} {E:XK}
theorem p_is_part_len (h:cs K fIsPart vs H Q E):vs.length=1:=fn_len (fun as M Q ⟨_,_,e,_⟩=>by rw [e];rfl) h
theorem p_is_part (h:cs K fIsPart vs H Q E):t_is_part K { nx:=fun _ H'=>Q .non H',rt:=Q } (start N_is_part vs) H:=fn_of h fun as M Qa h=>by
 obtain⟨n,e,rfl,q⟩:=h
 unfold t_is_part
 ((with_reducible refine Ab.s_seq ?_);(with_reducible refine Ab.s_if ?_);(with_reducible refine Ab.t_or ?_);(with_reducible refine Ab.t_not ?_);(with_reducible refine Ab.t_B ?_);(with_reducible refine Ab.e_cb ?_);(with_reducible refine Ab.a_cons ?_);((with_reducible refine' Ab.e_var ?hh_2107 ?_);(case hh_2107=>exact rfl));(with_reducible refine Ab.a_cons ?_);(with_reducible refine Ab.e_ty ?_);(with_reducible refine Ab.a_nil ?_);((with_reducible refine' Ab.l_isTuple ?h1_2108 ?_);(case h1_2108=>exact rfl));(with_reducible refine Ab.e_B ?_);((with_reducible refine Go.if_f ?hh_2109 ?_);(case hh_2109=>exact rfl));(with_reducible refine Ab.t_testB ?_);(with_reducible refine Ab.e_op ?_);(with_reducible refine Ab.e_cb ?_);(with_reducible refine Ab.a_cons ?_);((with_reducible refine' Ab.e_var ?hh_2110 ?_);(case hh_2110=>exact rfl));(with_reducible refine Ab.a_nil ?_);(with_reducible refine Ab.l_lenT ?_);(with_reducible refine Ab.e_int ?_);(with_reducible refine Ab.o_neI ?_);(with_reducible refine Ab.e_B ?_);((with_reducible refine Go.if_f ?hh_2111 ?_);(case hh_2111=>exact rfl));(with_reducible refine Ab.s_next ?_);(with_reducible refine Ab.s_seq ?_);(with_reducible refine Ab.s_if ?_);(with_reducible refine Ab.t_or ?_);(with_reducible refine Ab.t_not ?_);(with_reducible refine Ab.t_B ?_);(with_reducible refine Ab.e_call ?_);(with_reducible refine Ab.a_cons ?_);(with_reducible refine Ab.e_op ?_);((with_reducible refine' Ab.e_var ?hh_2112 ?_);(case hh_2112=>exact rfl));(with_reducible refine Ab.e_int ?_);((with_reducible refine' Ab.o_ixT ?hh_2113 ?_);(case hh_2113=>exact rfl));(with_reducible refine Ab.a_nil ?_))
 refine⟨.int n,rfl,rfl,?_⟩
 ((with_reducible refine Ab.e_B ?_);((with_reducible refine Go.if_f ?hh_2114 ?_);(case hh_2114=>exact rfl));(with_reducible refine Ab.t_or ?_);(with_reducible refine Ab.t_not ?_);(with_reducible refine Ab.t_B ?_);(with_reducible refine Ab.e_call ?_);(with_reducible refine Ab.a_cons ?_);(with_reducible refine Ab.e_op ?_);((with_reducible refine' Ab.e_var ?hh_2115 ?_);(case hh_2115=>exact rfl));(with_reducible refine Ab.e_int ?_);((with_reducible refine' Ab.o_ixT ?hh_2116 ?_);(case hh_2116=>exact rfl));(with_reducible refine Ab.a_nil ?_))
 refine⟨.int e,rfl,rfl,?_⟩
 ((with_reducible refine Ab.e_B ?_);((with_reducible refine Go.if_f ?hh_2117 ?_);(case hh_2117=>exact rfl));(with_reducible refine Ab.t_testB ?_);(with_reducible refine Ab.e_op ?_);(with_reducible refine Ab.e_op ?_);((with_reducible refine' Ab.e_var ?hh_2118 ?_);(case hh_2118=>exact rfl));(with_reducible refine Ab.e_int ?_);((with_reducible refine' Ab.o_ixT ?hh_2119 ?_);(case hh_2119=>exact rfl));(with_reducible refine Ab.e_int ?_);(with_reducible refine Ab.o_lt ?_);(with_reducible refine Ab.e_B ?_))
 unfold isPt at q
 by_cases c1:e < 0
 ·rw [decide_eq_false (show ¬ 0≤e by omega)] at q
  refine if_t (decide_eq_true c1) ?_
  ((with_reducible refine Ab.s_ret ?_);(with_reducible refine Ab.e_bl ?_);(with_reducible refine Ab.dn0 ?_))
  exact q
 ·rw [decide_eq_true (show 0≤e by omega)] at q
  refine if_f (decide_eq_false c1) ?_
  ((with_reducible refine Ab.s_next ?_);(with_reducible refine Ab.s_ret ?_);(with_reducible refine Ab.e_orV ?_);(with_reducible refine Ab.e_op ?_);(with_reducible refine Ab.e_op ?_);((with_reducible refine' Ab.e_var ?hh_2120 ?_);(case hh_2120=>exact rfl));(with_reducible refine Ab.e_int ?_);((with_reducible refine' Ab.o_ixT ?hh_2121 ?_);(case hh_2121=>exact rfl));(with_reducible refine Ab.e_int ?_);(with_reducible refine Ab.o_eqI ?_);(with_reducible refine Ab.e_B ?_))
  by_cases c2:e=0
  ·rw [decide_eq_true c2] at q ⊢
   exact if_t rfl (dn0 q)
  ·rw [decide_eq_false c2] at q ⊢
   refine if_f rfl ?_
   ((with_reducible refine Ab.e_op ?_);(with_reducible refine Ab.e_op ?_);(with_reducible refine Ab.e_op ?_);((with_reducible refine' Ab.e_var ?hh_2122 ?_);(case hh_2122=>exact rfl));(with_reducible refine Ab.e_int ?_);((with_reducible refine' Ab.o_ixT ?hh_2123 ?_);(case hh_2123=>exact rfl));(with_reducible refine Ab.e_int ?_);((with_reducible refine Ab.o_mod ?hh_2124 ?_);(case hh_2124=>first | decide | omega));(with_reducible refine Ab.e_int ?_);(with_reducible refine Ab.o_eqI ?_);(with_reducible refine Ab.dn0 ?_))
   exact q
theorem p_stamp_in_len (h:cs K fStampIn vs H Q E):vs.length=2:=fn_len (fun as M Q ⟨_,_,e,_⟩=>by rw [e];rfl) h
theorem p_stamp_in (h:cs K fStampIn vs H Q E):t_stamp_in K { nx:=fun _ H'=>Q .non H',rt:=Q } (start N_stamp_in vs) H:=fn_of h fun as M Qa h=>by
 obtain⟨w,b,rfl,hl,q⟩:=h
 unfold t_stamp_in
 obtain⟨l1,l2⟩:=split_b w (y:= ".") (by decide)
 refine s_seq (s_asg (e_mapF (α:=Str) (fun z=>optI (pNum z)) (i_lst (e_split (e_var rfl ⟨w,rfl,e_str ⟨".",rfl,rfl,big (by omega),_,rfl,A.str,Txt.split w ".",rfl,big (by omega),fun z hz M' up=> ?_,?_⟩⟩)))))
 ·exact c_name (by decide) (e_call (a_cons (e_var rfl (a_nil ⟨z,rfl,Nat.le_trans (l2 z hz) hl,rfl,rfl⟩))))
 unfold pStamp at q
 rw [show(Txt.split w ".").map (fun z=>optI (pNum z))=((Txt.split w ".").map pNum).map optI by rw [List.map_map];rfl]
 generalize (Txt.split w ".").map pNum=ns at q
 have nn:∀ {s:Sv} {Nx:Sv→AM→Prop},Qa .non M→ES K (fun _ _ _=>False) (fun _ _=>False) (tRet (tC .non)) s M Nx (Dn Qa) (fun _ _=>False) (fun _ _=>False):=fun q=>s_ret (e_non (dn0 q))
 refine s_seq (s_if (t_or (t_testB (e_op (e_cb (a_cons (e_var rfl (a_nil (l_lenL .lst (e_int (o_neI ⟨_,rfl,?_⟩)))))))))))
 rw [List.length_map]
 have long:∀ {c:Option Int} {a b:Option Int} {r:List (Option Int)},(!decide (((a :: b :: c :: r).length:Int)=2))=true:=fun {c a b r} =>by
  rw [List.length_cons,List.length_cons,List.length_cons,decide_eq_false (by omega)]
  rfl
 match ns,q with
 | [],q=>exact if_t rfl (if_t rfl (nn q))
 | [none],q=>exact if_t rfl (if_t rfl (nn q))
 | [some _],q=>exact if_t rfl (if_t rfl (nn q))
 | none :: _ :: _ :: _,q=>exact if_t long (if_t rfl (nn q))
 | some _ :: none :: _ :: _,q=>exact if_t long (if_t rfl (nn q))
 | some _ :: some _ :: _ :: _,q=>exact if_t long (if_t rfl (nn q))
 | [x,y],q=>
  refine if_f rfl (t_or (t_testB (e_op (e_non (e_var rfl (o_in (.inl .lst) rfl (opt_flat _) ⟨_,rfl,?_⟩))))))
  rw [if_neg Bool.false_ne_true,inF_opt]
  cases x with
  | none=>exact if_t rfl (if_t rfl (nn q))
  | some x=>
   cases y with
   | none=>exact if_t rfl (if_t rfl (nn q))
   | some y=>
    refine if_f rfl (t_or (t_testB (e_op (e_op (e_var rfl (e_int (o_ixL .lst rfl (e_int (o_lt ⟨_,rfl,?_⟩)))))))))
    by_cases c1:x < 1
    ·have q:Qa (stA (if x < 1∨y < b then none else some (x,y))) M:=q
     rw [if_pos (.inl c1)] at q
     exact if_t (decide_eq_true c1) (if_t rfl (nn q))
    ·refine if_f (decide_eq_false c1) (t_testB (e_op (e_op (e_var rfl (e_int (o_ixL .lst rfl (e_var rfl (o_lt ⟨_,rfl,?_⟩))))))))
     have q:Qa (stA (if x < 1∨y < b then none else some (x,y))) M:=q
     by_cases c2:y < b
     ·rw [if_pos (.inr c2)] at q
      exact if_t (decide_eq_true c2) (nn q)
     ·rw [if_neg (by omega)] at q
      exact if_f (decide_eq_false c2) (s_next (s_ret (e_cb (a_cons (e_var rfl (a_nil (l_tupL .lst (dn0 q))))))))
/-- a part that a word writes, as the loop has it -/
theorem part_cases (ns:List (Option Int)):(∃n e,ns= [some n,some e]∧isPt n e=true)∨(ns.length≠2∨(ns.length=2∧ns.any Option.isNone=true)∨ ∃n e,ns= [some n,some e]∧isPt n e=false):=by
 match ns with
 | []=>exact .inr (.inl (by decide))
 | [_]=>exact .inr (.inl (by simp))
 | _ :: _ :: _ :: _=>exact .inr (.inl (by simp))
 | [none,_]=>exact .inr (.inr (.inl ⟨rfl,rfl⟩))
 | [some _,none]=>exact .inr (.inr (.inl ⟨rfl,rfl⟩))
 | [some n,some e]=>
  cases h:isPt n e with
  | true=>exact .inl ⟨n,e,rfl,h⟩
  | false=>exact .inr (.inr (.inr ⟨n,e,rfl,h⟩))
theorem isPt_nn {n e:Int} (h:isPt n e=true):0≤e:=by
 unfold isPt at h
 rw [Bool.and_eq_true] at h
 exact of_decide_eq_true h.1
theorem allSome_none {α β:Type} {f:α→Option β} :∀ {l:List α},allSome (l.map f)=none↔ ∃x∈l,f x=none
 | []=>⟨fun h=>(by cases h),fun⟨x,hx,_⟩=>(by cases hx)⟩
 | a :: l=>by
  rw [List.map_cons]
  cases ha:f a with
  | none=>exact⟨fun _=>⟨a,List.mem_cons_self,ha⟩,fun _=>rfl⟩
  | some b=>
   show(allSome (l.map f)).map (b :: ·)=none↔_
   rw [Option.map_eq_none_iff,allSome_none]
   constructor
   ·rintro⟨x,hx,e⟩;exact⟨x,List.mem_cons_of_mem _ hx,e⟩
   ·rintro⟨x,hx,e⟩
    rcases List.mem_cons.mp hx with rfl | hx
    ·rw [ha] at e;cases e
    ·exact⟨x,hx,e⟩
theorem allSome_some {α β:Type} {f:α→Option β} :∀ {l:List α} {r:List β},allSome (l.map f)=some r→l.map f=r.map some
 | [],r,h=>by cases h;rfl
 | a :: l,r,h=>by
  rw [List.map_cons] at h ⊢
  cases ha:f a with
  | none=>rw [ha] at h;cases h
  | some b=>
   rw [ha] at h
   have h:(allSome (l.map f)).map (b :: ·)=some r:=h
   cases ht:allSome (l.map f) with
   | none=>rw [ht] at h;cases h
   | some t=>rw [ht] at h;cases h;rw [allSome_some ht,List.map_cons]
theorem allSome_map {β:Type} :∀r:List β,allSome (r.map some)=some r
 | []=>rfl
 | b :: r=>by show(allSome (r.map some)).map (b :: ·)=_;rw [allSome_map r];rfl
theorem p_row_in_len (h:cs K fRowIn vs H Q E):vs.length=1:=fn_len (fun as M Q ⟨_,e,_⟩=>by rw [e];rfl) h
theorem p_row_in (h:cs K fRowIn vs H Q E):t_row_in K { nx:=fun _ H'=>Q .non H',rt:=Q } (start N_row_in vs) H:=fn_of h fun as M Qa h=>by
 obtain⟨w,rfl,hl,q⟩:=h
 unfold t_row_in
 obtain⟨l1,l2⟩:=split_b w (y:= ",") (by decide)
 refine s_seq (s_asg (e_nilC fun D=> ?_))
 refine s_seq (s_for (i_lst (e_split (e_var rfl ⟨w,rfl,e_str ⟨",",rfl,rfl,big (by omega),_,rfl,?_⟩⟩))))
 refine⟨fun i s M'=> ∃y2 y3 y4 r,s= [some (.str w),some (.loc D),y2,y3,y4]∧M'=(D,.lst (r.map ptA)) :: M∧((Txt.split w ",").take i).map pPart=r.map some,⟨_,_,_,[],rfl,rfl,rfl⟩,?_,?_⟩
 ·rintro i pv s M' hx0 ⟨y2,y3,y4,r,rfl,rfl,hr⟩
  obtain⟨z,hz,rfl⟩:=map_at hx0
  have hzl:=l2 z (List.mem_of_getElem? hz)
  obtain⟨k1,k2⟩:=split_b z (y:= ">>") (by decide)
  have hi:i < (Txt.split w ",").length:=(List.getElem?_eq_some_iff.mp hz).1
  refine g_name (s_seq (s_asg (e_cb (a_cons (e_mapF (α:=Str) (fun z=>optI (pNum z)) (i_lst (e_split (e_var rfl ⟨z,rfl,e_str ⟨">>",rfl,rfl,big (by omega),_,rfl,A.str,Txt.split z ">>",rfl,big (by omega),fun u hu M' up=> ?_,?_⟩⟩))))))))
  ·exact c_name (by decide) (e_call (a_cons (e_var rfl (a_nil ⟨u,rfl,by have:=k2 u hu;omega,rfl,rfl⟩))))
  have ep:pPart z=(match(Txt.split z ">>").map pNum with | [some n,some e]=>if isPt n e=true then some (n,e.toNat) else none | _=>none):=rfl
  rw [show(Txt.split z ">>").map (fun z=>optI (pNum z))=((Txt.split z ">>").map pNum).map optI by rw [List.map_map];rfl]
  generalize (Txt.split z ">>").map pNum=ns at ep
  refine a_nil (l_tupL .lst ?_)
  have bad:pPart z=none→Qa .non M:=fun e=>by
   unfold pRow at q
   rw [allSome_none.mpr ⟨z,List.mem_of_getElem? hz,e⟩] at q
   exact q
  refine s_seq (s_if (t_or (t_testB (e_op (e_cb (a_cons (e_var rfl (a_nil (l_lenT (e_int (o_neI ⟨_,rfl,?_⟩)))))))))))
  rw [List.length_map]
  rcases part_cases ns with⟨n,e,rfl,h⟩ | h | ⟨h,h2⟩ | ⟨n,e,rfl,h⟩
  ·have ee:((e.toNat:Nat):Int)=e:=Int.toNat_of_nonneg (isPt_nn h)
   refine if_f rfl (t_or (t_testB (e_op (e_non (e_var rfl (o_in (.inr rfl) rfl (opt_flat [some n,some e]) ⟨_,rfl,if_f rfl ?_⟩))))))
   refine t_not (t_B (e_call (a_cons (e_var rfl (a_nil ⟨n,e,rfl,⟨_,rfl,?_⟩⟩)))))
   rw [h]
   refine if_f rfl (s_next (s_drop (e_bmL (e_var rfl ⟨⟨_,.loc .here⟩,a_cons (e_var rfl (a_nil (m_append .here ?_ ?_)))⟩))))
   ·have:r.length=i:=by
     have:=congrArg List.length hr
     rw [List.length_map,List.length_map,List.length_take] at this
     omega
    rw [List.length_map]
    exact big' (by omega)
   ·refine⟨_,_,_,r ++ [(n,e.toNat)],rfl,?_,?_⟩
    ·rw [List.map_append]
     show(D,AO.lst (r.map ptA ++ [A.tup [.int n,.int e]])) :: M=(D,AO.lst (r.map ptA ++ [A.tup [.int n,.int ((e.toNat:Nat):Int)]])) :: M
     rw [ee]
    ·rw [List.take_add_one,hz,List.map_append,hr,List.map_append]
     have:pPart z=some (n,e.toNat):=by rw [ep];exact if_pos h
     show r.map some ++ [pPart z]=_
     rw [this]
     rfl
  ·refine if_t (by rw [decide_eq_false (by omega)];rfl) (if_t rfl (s_ret (e_non (dnD (dn0 (bad ?_))))))
   rw [ep]
   match ns,h with
   | [],_=>rfl
   | [none],_=>rfl
   | [some _],_=>rfl
   | [_,_],h=>exact absurd rfl h
   | none :: _ :: _ :: _,_=>rfl
   | some _ :: none :: _ :: _,_=>rfl
   | some _ :: some _ :: _ :: _,_=>rfl
  ·refine if_f (by rw [decide_eq_true (by omega)];rfl) (t_or (t_testB (e_op (e_non (e_var rfl (o_in (.inr rfl) rfl (opt_flat _) ⟨_,rfl,?_⟩))))))
   rw [if_neg Bool.false_ne_true,inF_opt,h2]
   refine if_t rfl (if_t rfl (s_ret (e_non (dnD (dn0 (bad ?_))))))
   rw [ep]
   match ns,h,h2 with
   | [none,_],_,_=>rfl
   | [some _,none],_,_=>rfl
   | [some _,some _],_,h2=>cases h2
  ·refine if_f rfl (t_or (t_testB (e_op (e_non (e_var rfl (o_in (.inr rfl) rfl (opt_flat [some n,some e]) ⟨_,rfl,if_f rfl ?_⟩))))))
   refine t_not (t_B (e_call (a_cons (e_var rfl (a_nil ⟨n,e,rfl,⟨_,rfl,?_⟩⟩)))))
   rw [h]
   refine if_t rfl (s_ret (e_non (dnD (dn0 (bad ?_)))))
   rw [ep]
   exact if_neg (by rw [h];exact Bool.false_ne_true)
 ·rintro s M' ⟨y2,y3,y4,r,rfl,rfl,hr⟩
  rw [List.length_map,List.take_length] at hr
  have q:Qa (optR (if 2≤r.length∧r.length≤4 then some r else none)) M:=by
   unfold pRow at q
   rw [hr,allSome_map] at q
   exact q
  refine s_seq (s_if (t_not (t_testB (e_chain (e_int (e_cb (a_cons (e_var rfl (a_nil (l_lenL (.loc .here) (o_le ⟨_,rfl,?_⟩)))))))))))
  rw [List.length_map]
  by_cases c1:(2:Int)≤(r.length:Int)
  ·refine if_t (decide_eq_true c1) (e_int (o_le ⟨_,rfl,?_⟩))
   by_cases c2:(r.length:Int)≤4
   ·rw [if_pos ⟨by omega,by omega⟩] at q
    rw [decide_eq_true c2]
    exact if_f rfl (s_next (s_ret (e_cb (a_cons (e_var rfl (a_nil (l_tupL (.loc .here) (dnD (dn0 q)))))))))
   ·rw [if_neg (by omega)] at q
    rw [decide_eq_false c2]
    exact if_t rfl (s_ret (e_non (dnD (dn0 q))))
  ·rw [if_neg (by omega)] at q
   exact if_f (decide_eq_false c1) ⟨_,rfl,if_t rfl (s_ret (e_non (dnD (dn0 q))))⟩
end
abbrev N_names_in:List Str:= ["word","names","one"]
def t_names_in (K:PySem.W.Frag):TS:=
 (tSeq (tIfS (tTest (tOp rEq (tVar 0) (tC (.str ("-" :Str))))) (tRet (tTup tNil)) tNext)
  (tSeq (tAsg (tSplit (tVar 0) (tC (.str ("," :Str)))) (gName 1))
  (tSeq (tIfS (tOr (tNot (tB (tCB (rAll K) (tCons (tLc (iList K (tVar 1)) (gName 2) tYes (tCall (cs K fIsName) [] E0 (tCons (tVar 2) tNil)) [2]) tNil)))) (tTest (tOp (rNeD K) (tVar 1) (tSortSetS K (tVar 1))))) (tRet (tC .non)) tNext)
  (tRet (tCB (rTupOf K) (tCons (tVar 1) tNil))))))
abbrev N_entry_in:List Str:= ["word","parts","stamp","numbers","names","one"]
def t_entry_in (K:PySem.W.Frag):TS:=
 (tSeq (tAsg (tSplit (tVar 0) (tC (.str ("=" :Str)))) (gName 1))
  (tSeq (tIfS (tOr (tTest (tOp rNe (tCB (Evl.rLenS K) (tCons (tVar 1) tNil)) (tC (.int 4)))) (tNot (tB (tCall (cs K fIsName) [] E0 (tCons (tOp (rIxL K) (tVar 1) (tC (.int 0))) tNil))))) (tRet (tC .non)) tNext)
  (tSeq (tAsg (tCall (cs K fStampIn) [] E0 (tCons (tOp (rIxL K) (tVar 1) (tC (.int 1))) (tCons (tC (.int 1)) tNil))) (gName 2))
  (tSeq (tAsg (tCB (rTupOf K) (tCons (tLc (iList K (tSplit (tOp (rIxL K) (tVar 1) (tC (.int 2))) (tC (.str ("," :Str))))) (gName 5) tYes (tCall (cs K fNumIn) [] E0 (tCons (tVar 5) tNil)) [5]) tNil)) (gName 3))
  (tSeq (tAsg (tCall (cs K fNamesIn) [] E0 (tCons (tOp (rIxL K) (tVar 1) (tC (.int 3))) tNil)) (gName 4))
  (tSeq (tIfS (tOr (tTest (tOp rIsN (tVar 2) (tC .non))) (tOr (tNot (tB (tCall (cs K fIsNumbers) [] E0 (tCons (tVar 3) tNil)))) (tTest (tOp rIsN (tVar 4) (tC .non))))) (tRet (tC .non)) tNext)
  (tRet (tTup (tCons (tOp (rIxL K) (tVar 1) (tC (.int 0))) (tCons (tOp (rIx K) (tVar 2) (tC (.int 0))) (tCons (tOp (rIx K) (tVar 2) (tC (.int 1))) (tCons (tVar 3) (tCons (tVar 4) tNil)))))))))))))
abbrev N_roll_in:List Str:= ["words","roll","names","word","entry"]
def t_roll_in (K:PySem.W.Frag):TS:=
 (tSeq (tAsg (tLc (iList K (tVar 0)) (gName 3) tYes (tCall (cs K fEntryIn) [] E0 (tCons (tVar 3) tNil)) [3]) (gName 1))
  (tSeq (tIfS (tOr (tTest (tOp (rEqD K) (tVar 1) (tLst tNil))) (tTest (tOp (rInD K) (tC .non) (tVar 1)))) (tRet (tC .non)) tNext)
  (tSeq (tAsg (tLc (iList K (tVar 1)) (gName 4) tYes (tOp (rIxT K) (tVar 4) (tC (.int 0))) [4]) (gName 2))
  (tSeq (tIfS (tTest (tOp (rNeD K) (tVar 2) (tSortSetS K (tVar 2)))) (tRet (tC .non)) tNext)
  (tRet (tCB (rTupOf K) (tCons (tVar 1) tNil)))))))
abbrev N_seen_in:List Str:= ["word","stamp"]
def t_seen_in (K:PySem.W.Frag):TS:=
 (tSeq (tIfS (tTest (tOp rEq (tVar 0) (tC (.str ("-" :Str))))) (tRet (tTup (tCons (tC .non) tNil))) tNext)
  (tSeq (tAsg (tCall (cs K fStampIn) [] E0 (tCons (tVar 0) (tCons (tC (.int 0)) tNil))) (gName 1))
  (tSeq (tIfS (tTest (tOp rIsN (tVar 1) (tC .non))) (tRet (tC .non)) tNext)
  (tRet (tTup (tCons (tVar 1) tNil))))))
theorem eqA_strL:∀(s t:List Str),eqA (.lst (s.map A.str)) (.lst (t.map A.str))=decide (s=t)
 | [],[]=>by
  unfold eqA A.toD
  simp [toDs,PyData.eqv,PyData.eqvAll]
 | [],y :: t=>by
  unfold eqA A.toD
  simp [toDs,PyData.eqv,PyData.eqvAll]
 | x :: s,[]=>by
  unfold eqA A.toD
  simp [toDs,PyData.eqv,PyData.eqvAll]
 | x :: s,y :: t=>by
  have e:eqA (.lst ((x :: s).map A.str)) (.lst ((y :: t).map A.str))=(eqA (.str x) (.str y) && eqA (.lst (s.map A.str)) (.lst (t.map A.str))):=by
   unfold eqA
   simp [A.toD,toDs,PyData.eqv,PyData.eqvAll]
  rw [e,eqA_str,eqA_strL s t]
  by_cases h1:x=y
  ·by_cases h2:s=t
   ·simp [h1,h2]
   ·simp [h1,h2]
  ·simp [h1]
theorem Lay.enT {e:En} (h1:isTx e.nm) (h2:∀z∈e.ot,isTx z):Lay 2 (entA e):=Lay.tup ((Lay.str h1).mono (by decide) |>.cons (((Lay.int _).mono (by decide)).cons (((Lay.int _).mono (by decide)).cons ((Lay.tup (Lay.ints _)).cons ((Lay.tup (Lay.strs h2)).cons Lay.nil)))))
theorem all_nm {zs:List Str} (h:zs.all nmB=true):∀z∈zs,isTx8 z:=fun z hz=>nmB_isTx (List.all_eq_true.mp h z hz)
theorem pNames_ok {w:Str} {zs:List Str} (h:pNames w=some zs):(∀z∈zs,isTx8 z)∧risB zs=true:=by
 unfold pNames at h
 split at h
 ·cases h;exact⟨(fun z hz=>nomatch hz),(by decide)⟩
 ·split at h
  ·rename_i h2
   rw [Bool.and_eq_true] at h2
   cases h
   exact⟨all_nm h2.1,h2.2⟩
  ·cases h
/-- what an entry is, where it is read -/
theorem pEntry_cases (w:Str):(∃n s u o st ns os,Txt.split w "=" = [n,s,u,o]∧nmB n=true∧pStamp s 1=some st∧allSome ((Txt.split u ",").map pNum)=some ns∧pNames o=some os∧numsB (.tup (ns.map A.int))=true∧pEntry w=some ⟨n,st.1,st.2,ns,os⟩)∨pEntry w=none:=by
 unfold pEntry
 split
 ·rename_i n s u o e
  split
  ·rename_i hn
   split
   ·rename_i st ns os e1 e2 e3
    split
    ·rename_i hb
     exact .inl ⟨n,s,u,o,st,ns,os,e,hn,e1,e2,e3,hb,rfl⟩
    ·exact .inr rfl
   ·exact .inr rfl
  ·exact .inr rfl
 ·exact .inr rfl
theorem pEntry_ok {w:Str} {e:En} (h:pEntry w=some e):isTx8 e.nm∧(∀z∈e.ot,isTx8 z)∧risB e.ot=true:=by
 rcases pEntry_cases w with⟨n,s,u,o,st,ns,os,h1,h2,h3,h4,h5,h6,h7⟩ | h7
 ·rw [h7] at h
  cases h
  exact⟨nmB_isTx h2,(pNames_ok h5).1,(pNames_ok h5).2⟩
 ·rw [h7] at h;cases h
section
variable {K:PySem.W.Frag} {vs:List V} {H:Hp} {Q:VK} {E:XK} {Qa:QA} {M:AM} {s:Sv} {Nx:Sv→AM→Prop}
theorem s_non (q:Qa .non M):ES K (fun _ _ _=>False) (fun _ _=>False) (tRet (tC .non)) s M Nx (Dn Qa) (fun _ _=>False) (fun _ _=>False):=s_ret (e_non (dn0 q))
theorem p_names_in_len (h:cs K fNamesIn vs H Q E):vs.length=1:=fn_len (fun as M Q ⟨_,e,_⟩=>by rw [e];rfl) h
theorem p_names_in (h:cs K fNamesIn vs H Q E):t_names_in K { nx:=fun _ H'=>Q .non H',rt:=Q } (start N_names_in vs) H:=fn_of h fun as M Qa h=>by
 obtain⟨w,rfl,hl,hc,q⟩:=h
 unfold t_names_in
 unfold pNames at q
 obtain⟨l1,l2⟩:=split_b w (y:= ",") (by decide)
 refine s_seq (s_if (t_testB (e_op (e_var rfl (e_str (o_eqS ⟨_,rfl,?_⟩))))))
 by_cases c0:w= "-"
 ·rw [if_pos c0] at q
  exact if_t (decide_eq_true c0) (s_ret (e_tup (a_nil ⟨Nat.zero_le _,dn0 q⟩)))
 ·rw [if_neg c0] at q
  refine if_f (decide_eq_false c0) (s_next (s_seq (s_asg (e_split (e_var rfl ⟨w,rfl,e_str ⟨",",rfl,rfl,big (by omega),?_⟩⟩)))))
  generalize Txt.split w "," =zs at q hc l1 l2
  refine s_seq (s_if (t_or (t_not (t_B (e_cb (a_cons (e_mapF (α:=Str) (fun z=> .bl (nmB z)) (i_lst (e_var rfl ⟨_,rfl,A.str,zs,rfl,big (by omega),fun z hz M' up=> ?_,?_⟩)))))))))
  ·exact c_name (by decide) (e_call (a_cons (e_var rfl (a_nil ⟨.str z,rfl,rfl,fun y e=>by cases e;have:=l2 z hz;omega,rfl,rfl⟩))))
  refine a_nil (l_all (bs:=zs.map nmB) (by rw [List.map_map];exact LsA.lst) ⟨_,rfl,?_⟩)
  rw [all_id]
  cases ha:zs.all nmB with
  | false=>
   rw [ha,Bool.false_and,if_neg Bool.false_ne_true] at q
   exact if_t rfl (if_t rfl (s_non q))
  | true=>
   rw [ha,Bool.true_and] at q
   have tx:=all_nm ha
   refine if_f rfl (t_testB (e_op (e_var rfl (e_sortSet (zs:=zs) (e_var rfl ⟨zs,.lst,by omega,fun ys h1 h2=> ?_⟩)))))
   have ey:ys=srtS (once zs):=srtS_eq h1 h2
   have txy:∀y∈ys,isTx y:=fun y hy=>(tx y (mem_once.mp (h1.mem_iff.mp hy))).tx
   refine o_neL (k:=1) (k':=1) (Lay.lst (Lay.strs fun z hz=>(tx z hz).tx)) (Lay.lst (Lay.strs txy)) (by decide) (by decide) ⟨_,rfl,?_⟩
   rw [eqA_strL,ey]
   cases hr:decide (zs=srtS (once zs)) with
   | false=>
    rw [show risB zs=false from hr,if_neg Bool.false_ne_true] at q
    exact if_t rfl (s_non q)
   | true=>
    rw [show risB zs=true from hr,if_pos rfl] at q
    exact if_f rfl (s_next (s_ret (e_cb (a_cons (e_var rfl (a_nil (l_tupL .lst (dn0 q))))))))
theorem nums_opt (ns:List (Option Int)):numsB (.tup (ns.map optI))=(match allSome ns with | some is=>numsB (.tup (is.map A.int)) | none=>false):=by
 have key:allSome ns=none→(ns.map optI).all numB=false:=fun h=>by
  have h:allSome (ns.map id)=none:=by rw [List.map_id];exact h
  obtain⟨x,hx,e⟩:=allSome_none.mp h
  have e:x=none:=e
  subst e
  rw [List.all_map,List.all_eq_false]
  exact⟨none,hx,Bool.false_ne_true⟩
 cases h:allSome ns with
 | none=>
  show(decide (1≤(ns.map optI).length) && decide ((ns.map optI).length≤3) && (ns.map optI).all numB)=false
  rw [key h,Bool.and_false]
 | some is=>
  have e:ns.map id=is.map some:=allSome_some (by rw [List.map_id];exact h)
  rw [List.map_id] at e
  subst e
  rw [List.map_map]
  rfl
theorem opt_plain (ns:List (Option Int)):(ns.map optI).all A.plain=true:=by
 rw [List.all_map]
 refine List.all_eq_true.mpr fun x _=> ?_
 cases x <;> rfl
theorem p_entry_in_len (h:cs K fEntryIn vs H Q E):vs.length=1:=fn_len (fun as M Q ⟨_,e,_⟩=>by rw [e];rfl) h
theorem p_entry_in (h:cs K fEntryIn vs H Q E):t_entry_in K { nx:=fun _ H'=>Q .non H',rt:=Q } (start N_entry_in vs) H:=fn_of h fun as M Qa h=>by
 obtain⟨w,rfl,hl,hc,q⟩:=h
 unfold t_entry_in
 unfold pEntry at q
 obtain⟨l1,l2⟩:=split_b w (y:= "=") (by decide)
 refine s_seq (s_asg (e_split (e_var rfl ⟨w,rfl,e_str ⟨"=",rfl,rfl,big (by omega),?_⟩⟩)))
 generalize Txt.split w "=" =ps at q hc l1 l2
 refine s_seq (s_if (t_or (t_testB (e_op (e_cb (a_cons (e_var rfl (a_nil (l_lenL .lst (e_int (o_neI ⟨_,rfl,?_⟩)))))))))))
 rw [List.length_map]
 have four:∀ {a b c d e:Str} {r:List Str},(!decide (((a :: b :: c :: d :: e :: r).length:Int)=4))=true:=fun {a b c d e r} =>by
  rw [List.length_cons,List.length_cons,List.length_cons,List.length_cons,List.length_cons,decide_eq_false (by omega)]
  rfl
 match ps,q,hc,l2 with
 | [],q,_,_=>exact if_t rfl (if_t rfl (s_non q))
 | [_],q,_,_=>exact if_t rfl (if_t rfl (s_non q))
 | [_,_],q,_,_=>exact if_t rfl (if_t rfl (s_non q))
 | [_,_,_],q,_,_=>exact if_t rfl (if_t rfl (s_non q))
 | _ :: _ :: _ :: _ :: _ :: _,q,_,_=>exact if_t four (if_t rfl (s_non q))
 | [n,y,u,o],q,hc,l2=>
  have ln:=l2 n (by simp)
  have ly:=l2 y (by simp)
  have lu:=l2 u (by simp)
  have lo:=l2 o (by simp)
  obtain⟨u1,u2⟩:=split_b u (y:= ",") (by decide)
  refine if_f rfl (t_not (t_B (e_call (a_cons (e_op (e_var rfl (e_int (o_ixL .lst rfl (a_nil ⟨.str n,rfl,rfl,fun y e=>by cases e;omega,⟨_,rfl,?_⟩⟩)))))))))
  have q:Qa (optE (if nmB n=true then(match pStamp y 1,allSome ((Txt.split u ",").map pNum),pNames o with
    | some st,some ns,some os=>if numsB (.tup (ns.map A.int))=true then some ⟨n,st.1,st.2,ns,os⟩ else none
    | _,_,_=>none) else none)) M:=q
  cases hn:nmB n with
  | false=>
   rw [hn] at q
   rw [show nameB (.str n)=false from hn]
   exact if_t rfl (s_non q)
  | true=>
   rw [hn] at q
   rw [show nameB (.str n)=true from hn]
   refine if_f rfl (s_next ?_)
   have q:Qa (optE (match pStamp y 1,allSome ((Txt.split u ",").map pNum),pNames o with
    | some st,some ns,some os=>if numsB (.tup (ns.map A.int))=true then some ⟨n,st.1,st.2,ns,os⟩ else none
    | _,_,_=>none)) M:=q
   refine s_seq (s_asg (e_call (a_cons (e_op (e_var rfl (e_int (o_ixL .lst rfl (a_cons (e_int (a_nil ⟨y,1,rfl,by omega,?_⟩))))))))))
   refine s_seq (s_asg (e_cb (a_cons (e_mapF (α:=Str) (fun z=>optI (pNum z)) (i_lst (e_split (e_op (e_var rfl (e_int (o_ixL .lst rfl ⟨u,rfl,e_str ⟨",",rfl,rfl,big (by omega),_,rfl,A.str,Txt.split u ",",rfl,big (by omega),fun z hz M' up=> ?_,?_⟩⟩))))))))))
   ·exact c_name (by decide) (e_call (a_cons (e_var rfl (a_nil ⟨z,rfl,by have:=u2 z hz;omega,rfl,rfl⟩))))
   refine a_nil (l_tupL .lst (s_seq (s_asg (e_call (a_cons (e_op (e_var rfl (e_int (o_ixL .lst rfl (a_nil ⟨o,rfl,by omega,hc o (by simp),?_⟩))))))))))
   rw [show(Txt.split u ",").map (fun z=>optI (pNum z))=((Txt.split u ",").map pNum).map optI by rw [List.map_map];rfl]
   generalize (Txt.split u ",").map pNum=ns at q
   refine s_seq (s_if (t_or (t_testB (e_op (e_var rfl (e_non (o_isN ⟨_,rfl,?_⟩)))))))
   cases hs:pStamp y 1 with
   | none=>rw [hs] at q;exact if_t rfl (if_t rfl (s_non q))
   | some st=>
    rw [hs] at q
    refine if_f rfl (t_or (t_not (t_B (e_call (a_cons (e_var rfl (a_nil ⟨_,rfl,rfl,fun xs e=>by cases e;exact opt_plain ns,⟨_,rfl,?_⟩⟩)))))))
    cases hns:allSome ns with
    | none=>
     rw [hns] at q
     rw [show numsB (.tup (ns.map optI))=false by rw [nums_opt,hns]]
     exact if_t rfl (if_t rfl (s_non q))
    | some is=>
     rw [hns] at q
     have ens:ns.map optI=is.map A.int:=by
      have e:ns.map id=is.map some:=allSome_some (by rw [List.map_id];exact hns)
      rw [List.map_id] at e
      rw [e,List.map_map]
      rfl
     rw [ens]
     cases hb:numsB (.tup (is.map A.int)) with
     | false=>
      have q:Qa .non M:=by
       cases ho:pNames o with
       | none=>rw [ho] at q;exact q
       | some os=>
        rw [ho] at q
        have q:Qa (optE (if numsB (.tup (is.map A.int))=true then some ⟨n,st.1,st.2,is,os⟩ else none)) M:=q
        rw [hb,if_neg Bool.false_ne_true] at q
        exact q
      exact if_t rfl (if_t rfl (s_non q))
     | true=>
      refine if_f rfl (t_testB (e_op (e_var rfl (e_non (o_isN ⟨_,rfl,?_⟩)))))
      cases ho:pNames o with
      | none=>rw [ho] at q;exact if_t rfl (s_non q)
      | some os=>
       rw [ho] at q
       have q:Qa (optE (if numsB (.tup (is.map A.int))=true then some ⟨n,st.1,st.2,is,os⟩ else none)) M:=q
       rw [hb,if_pos rfl] at q
       refine if_f rfl (s_next (s_ret (e_tup (a_cons (e_op (e_var rfl (e_int (o_ixL .lst rfl (a_cons (e_op (e_var rfl (e_int (o_ixsT rfl (a_cons (e_op (e_var rfl (e_int (o_ixsT rfl (a_cons (e_var rfl (a_cons (e_var rfl (a_nil ⟨by show 5≤_;decide,dn0 ?_⟩)))))))))))))))))))))))
       exact q
theorem eqA_optE (x:Option En):eqA (optE x) .non=x.isNone:=by
 cases x <;> (unfold eqA;simp [optE,A.toD,PyData.eqv])
theorem p_roll_in_len (h:cs K fRollIn vs H Q E):vs.length=1:=fn_len (fun as M Q ⟨_,e,_⟩=>by rw [e];rfl) h
theorem p_roll_in (h:cs K fRollIn vs H Q E):t_roll_in K { nx:=fun _ H'=>Q .non H',rt:=Q } (start N_roll_in vs) H:=fn_of h fun as M Qa h=>by
 obtain⟨ws,rfl,hl,hw,q⟩:=h
 unfold t_roll_in
 unfold pRoll at q
 refine s_seq (s_asg (e_mapF (α:=Str) (fun z=>optE (pEntry z)) (i_lst (e_var rfl ⟨_,rfl,A.str,ws,rfl,big (by omega),fun z hz M' up=> ?_,?_⟩))))
 ·exact c_name (by decide) (e_call (a_cons (e_var rfl (a_nil ⟨z,rfl,(hw z hz).1,(hw z hz).2,rfl,rfl⟩))))
 have lay:∀x∈ws.map (fun z=>optE (pEntry z)),Lay 2 x:=Lay.map fun z hz=>by
  cases h:pEntry z with
  | none=>exact Lay.non.mono (by decide)
  | some e=>exact Lay.enT (pEntry_ok h).1.tx fun z hz=>((pEntry_ok h).2.1 z hz).tx
 refine s_seq (s_if (t_or (t_testB (e_op (e_var rfl (e_lst (a_nil ⟨Nat.zero_le _,o_eqNil lay (by decide) ⟨_,rfl,?_⟩⟩)))))))
 cases he:(ws.map fun z=>optE (pEntry z)).isEmpty with
 | true=>
  have:ws= []:=by cases ws with | nil=>rfl | cons=>cases he
  subst this
  exact if_t rfl (if_t rfl (s_non q))
 | false=>
  refine if_f rfl (t_testB (e_op (e_non (e_var rfl (o_inD rfl (Lay.lst lay).1 (Lay.non.sh (by decide)) ((Lay.lst lay).sh (by decide)) ⟨_,rfl,?_⟩)))))
  have ean:(ws.map fun z=>optE (pEntry z)).any (fun z=>eqA z .non)=(ws.map pEntry).any Option.isNone:=by
   rw [List.any_map,List.any_map]
   refine congrArg (fun f=>ws.any f) (funext fun z=>eqA_optE _)
  rw [ean]
  cases ha:allSome (ws.map pEntry) with
  | none=>
   rw [ha] at q
   obtain⟨x,hx,e⟩:=allSome_none.mp ha
   have:(ws.map pEntry).any Option.isNone=true:=List.any_eq_true.mpr ⟨none,List.mem_map.mpr ⟨x,hx,e⟩,rfl⟩
   rw [this]
   exact if_t rfl (s_non q)
  | some es=>
   rw [ha] at q
   have ee:=allSome_some ha
   have:(ws.map pEntry).any Option.isNone=false:=by
    rw [ee,List.any_map,List.any_eq_false]
    exact fun x _ h=>Bool.false_ne_true h
   rw [this]
   have el:ws.map (fun z=>optE (pEntry z))=es.map entA:=by
    rw [show ws.map (fun z=>optE (pEntry z))=(ws.map pEntry).map optE by rw [List.map_map];rfl,ee,List.map_map]
    rfl
   have ok:∀e∈es,isTx8 e.nm:=fun e h=>by
    have:some e∈ws.map pEntry:=by rw [ee];exact List.mem_map.mpr ⟨e,h,rfl⟩
    obtain⟨z,hz,e2⟩:=List.mem_map.mp this
    exact(pEntry_ok e2).1
   have les:es.length=ws.length:=by
    have:=congrArg List.length ee
    rw [List.length_map,List.length_map] at this
    exact this.symm
   have ne:es≠ []:=fun e=>by
    rw [el,e] at he
    cases he
   rw [el]
   refine if_f rfl (s_next (s_seq (s_asg (e_mapF (α:=En) (fun e=> .str e.nm) (i_lst (e_var rfl ⟨_,rfl,entA,es,rfl,big (by omega),fun e hz M' up=> ?_,?_⟩))))))
   ·exact c_name (by decide) (e_op (e_var rfl (e_int (o_ixT rfl ⟨rfl,rfl⟩))))
   rw [show es.map (fun e=>A.str e.nm)=(es.map (·.nm)).map A.str by rw [List.map_map];rfl]
   refine s_seq (s_if (t_testB (e_op (e_var rfl (e_sortSet (zs:=es.map (·.nm)) (e_var rfl ⟨es.map (·.nm),.lst,by rw [List.length_map];omega,fun ys h1 h2=> ?_⟩))))))
   have ey:ys=srtS (once (es.map (·.nm))):=srtS_eq h1 h2
   have tx:∀z∈es.map (·.nm),isTx z:=fun z hz=>by
    obtain⟨e,h,rfl⟩:=List.mem_map.mp hz
    exact(ok e h).tx
   have txy:∀y∈ys,isTx y:=fun y hy=>tx y (mem_once.mp (h1.mem_iff.mp hy))
   refine o_neL (k:=1) (k':=1) (Lay.lst (Lay.strs tx)) (Lay.lst (Lay.strs txy)) (by decide) (by decide) ⟨_,rfl,?_⟩
   rw [eqA_strL,ey]
   have q:Qa (optRo (if es≠ []∧risB (es.map (·.nm))=true then some es else none)) M:=q
   cases hr:decide (es.map (·.nm)=srtS (once (es.map (·.nm)))) with
   | false=>
    rw [if_neg (fun h=>by rw [show risB (es.map (·.nm))=false from hr] at h;exact Bool.false_ne_true h.2)] at q
    exact if_t rfl (s_non q)
   | true=>
    rw [if_pos ⟨ne,hr⟩] at q
    exact if_f rfl (s_next (s_ret (e_cb (a_cons (e_var rfl (a_nil (l_tupL .lst (dn0 q))))))))
theorem p_seen_in_len (h:cs K fSeenIn vs H Q E):vs.length=1:=fn_len (fun as M Q ⟨_,e,_⟩=>by rw [e];rfl) h
theorem p_seen_in (h:cs K fSeenIn vs H Q E):t_seen_in K { nx:=fun _ H'=>Q .non H',rt:=Q } (start N_seen_in vs) H:=fn_of h fun as M Qa h=>by
 obtain⟨w,rfl,hl,q⟩:=h
 unfold t_seen_in
 unfold pSeen at q
 refine s_seq (s_if (t_testB (e_op (e_var rfl (e_str (o_eqS ⟨_,rfl,?_⟩))))))
 by_cases c0:w= "-"
 ·rw [if_pos c0] at q
  exact if_t (decide_eq_true c0) (s_ret (e_tup (a_cons (e_non (a_nil ⟨by show 1≤_;decide,dn0 q⟩)))))
 ·rw [if_neg c0] at q
  refine if_f (decide_eq_false c0) (s_next (s_seq (s_asg (e_call (a_cons (e_var rfl (a_cons (e_int (a_nil ⟨w,0,rfl,hl,?_⟩)))))))))
  refine s_seq (s_if (t_testB (e_op (e_var rfl (e_non (o_isN ⟨_,rfl,?_⟩))))))
  cases h:pStamp w 0 with
  | none=>rw [h] at q;exact if_t rfl (s_non q)
  | some st=>rw [h] at q;exact if_f rfl (s_next (s_ret (e_tup (a_cons (e_var rfl (a_nil ⟨by show 1≤_;decide,dn0 q⟩))))))
end
abbrev N_deed_text:List Str:= ["deed","part","one"]
def t_deed_text (K:PySem.W.Frag):TS:=
 (tSeq (tIfS (tTest (tOp (rIn K false) (tOp (rIxT K) (tVar 0) (tC (.int 0))) (tC (.ref (He.ga K "OF_NUMBERS"))))) (tRet (tJoin K (tC (.str (" " :Str))) (tOp rCat (tLst (tCons (tOp (rIxT K) (tVar 0) (tC (.int 0))) (tCons (tOp (rIxT K) (tVar 0) (tC (.int 1))) tNil))) (tLc (iTup K (tOp (rIxT K) (tVar 0) (tC (.int 2)))) (gName 2) tYes (tCB (Go.rStrU K) (tCons (tVar 2) tNil)) [2])))) tNext)
  (tRet (tJoin K (tC (.str (" " :Str))) (tLc (iTup K (tVar 0)) (gName 1) tYes (tCB (Go.rStrU K) (tCons (tVar 1) tNil)) [1]))))
abbrev N_book_row_text:List Str:= ["row","deed","what","letter"]
def t_book_row_text (K:PySem.W.Frag):TS:=
 (tSeq (tAsg (tVar 0) (gTup K 2 (gCons (gName 1) (gCons (gName 2) gNil))))
  (tSeq (tIfS (tTest (tOp rEq (tOp (rIxT K) (tVar 1) (tC (.int 0))) (tC (.str ("come" :Str))))) (tRet (tOp rAddStr (tOp rAddStr (tCall (cs K fDeedT) [] E0 (tCons (tVar 1) tNil)) (tC (.str (" : " :Str)))) (tOp (Go.rItemK K (He.ga K "WORDS")) (tC (.ref (He.ga K "WORDS"))) (tVar 2)))) tNext)
  (tSeq (tIfS (tTest (tOp rEq (tOp (rIxT K) (tVar 1) (tC (.int 0))) (tC (.str ("turn" :Str))))) (tRet (tJoin K (tC (.str (" ; " :Str))) (tOp rCat (tLst (tCons (tCall (cs K fDeedT) [] E0 (tCons (tVar 1) tNil)) tNil)) (tLc (iTup K (tVar 2)) (gName 3) tYes (tCall (cs K fLetterT) [] E0 (tCons (tVar 3) tNil)) [3])))) tNext)
  (tRet (tCall (cs K fDeedT) [] E0 (tCons (tVar 1) tNil))))))
abbrev N_book_text:List Str:= ["book","row"]
def t_book_text (K:PySem.W.Frag):TS:=
 (tRet (tJoin K (tC (.str ("\n" :Str))) (tLc (iList K (tVar 0)) (gName 1) tYes (tCall (cs K fBookRowT) [] E0 (tCons (tVar 1) tNil)) [1])))
def txA:A→A
 | .int i=> .str (sI i)
 | a=>a
def TxA (a:A):Prop:=(∃z,a= .str z)∨ ∃i:Int,a= .int i∧i.natAbs < 10^1000
/-- the first word of a deed -/
def Dd.wd:Dd→Str
 | .turn _=> "turn"
 | .come _=> "come"
 | .fall _=> "fall"
 | .back _=> "back"
 | .fresh _=> "fresh"
 | .leave _=> "leave"
 | .set _ _=> "set"
 | .join _ _=> "join"
 | .tie _ _=> "tie"
 | .cut _ _=> "cut"
abbrev setJoin:List Str:= ["set","join"]
theorem tx_two {w n:Str} :∀a∈ [A.str w,A.str n],TxA a:=fun a ha=>by
 simp only [List.mem_cons,List.not_mem_nil,or_false] at ha
 rcases ha with rfl | rfl <;> exact .inl ⟨_,rfl⟩
theorem tx_three {w n o:Str} :∀a∈ [A.str w,A.str n,A.str o],TxA a:=fun a ha=>by
 simp only [List.mem_cons,List.not_mem_nil,or_false] at ha
 rcases ha with rfl | rfl | rfl <;> exact .inl ⟨_,rfl⟩
theorem deed_cases {d:Dd} (h:d.txB):(∃(n:Str) (ns:List Int),ddA d= .tup [.str d.wd,.str n,.tup (ns.map A.int)]∧ddW d= [d.wd,n] ++ ns.map sI∧d.wd∈setJoin∧ns.length≤3∧ ∀i∈ns,Nb14 i)∨
  ∃x xs,ddA d= .tup (.str d.wd :: x :: xs)∧xs.length≤1∧(.str d.wd :: x :: xs).map txA=(ddW d).map A.str∧d.wd∉setJoin∧ ∀a∈ .str d.wd :: x :: xs,TxA a:=by
 cases d with
 | set n ns=>exact .inl ⟨n,ns,rfl,rfl,(by decide:("set" :Str)∈setJoin),h.2⟩
 | join n ns=>exact .inl ⟨n,ns,rfl,rfl,(by decide:("join" :Str)∈setJoin),h.2⟩
 | come k=>exact .inr ⟨_,_,rfl,Nat.zero_le _,rfl,(by decide:("come" :Str)∉setJoin),fun a ha=>by
   simp only [List.mem_cons,List.not_mem_nil,or_false] at ha
   rcases ha with rfl | rfl
   ·exact .inl ⟨_,rfl⟩
   ·exact .inr ⟨_,rfl,by rw [Int.natAbs_natCast];exact h⟩⟩
 | turn n=>exact .inr ⟨_,_,rfl,Nat.zero_le _,rfl,(by decide:("turn" :Str)∉setJoin),tx_two⟩
 | fall n=>exact .inr ⟨_,_,rfl,Nat.zero_le _,rfl,(by decide:("fall" :Str)∉setJoin),tx_two⟩
 | back n=>exact .inr ⟨_,_,rfl,Nat.zero_le _,rfl,(by decide:("back" :Str)∉setJoin),tx_two⟩
 | fresh n=>exact .inr ⟨_,_,rfl,Nat.zero_le _,rfl,(by decide:("fresh" :Str)∉setJoin),tx_two⟩
 | leave n=>exact .inr ⟨_,_,rfl,Nat.zero_le _,rfl,(by decide:("leave" :Str)∉setJoin),tx_two⟩
 | tie n o=>exact .inr ⟨_,_,rfl,Nat.le_refl _,rfl,(by decide:("tie" :Str)∉setJoin),tx_three⟩
 | cut n o=>exact .inr ⟨_,_,rfl,Nat.le_refl _,rfl,(by decide:("cut" :Str)∉setJoin),tx_three⟩
section
variable {K:PySem.W.Frag} {vs:List V} {H:Hp} {Q:VK} {E:XK} {Ex:XK} {Xa:XA} {s:Sv} {M:AM} {Qa:QA}
/-- str(one) for one in .. -/
theorem l_strTx (dg:DigK K) {a:A} (h:TxA a) (q:Qa (txA a) M):OL K (rStrU K) [a] M Qa:=by
 rcases h with⟨z,rfl⟩ | ⟨i,rfl,hi⟩
 ·exact l_strU q
 ·exact l_strUI dg (lt4300 (by decide) hi) q
theorem p_deed_text_len (h:cs K fDeedT vs H Q E):vs.length=1:=fn_len (fun as M Q ⟨_,e,_⟩=>by rw [e];rfl) h
theorem p_deed_text (s2:KT K (He.ga K "OF_NUMBERS") [.str ("set" :Str),.str ("join" :Str)]) (dg:DigK K) (h:cs K fDeedT vs H Q E):t_deed_text K { nx:=fun _ H'=>Q .non H',rt:=Q } (start N_deed_text vs) H:=fn_of h fun as M Qa h=>by
 obtain⟨d,rfl,hb,q⟩:=h
 unfold t_deed_text
 have jz:=Nat.le_trans (tDd_len hb).1 (by decide:5010≤16777216)
 rcases deed_cases hb with⟨n,ns,e1,e2,hw,hl,hn⟩ | ⟨x,xs,e1,hl,e2,hw,hx⟩
 ·rw [e1]
  refine s_seq (s_if (t_testB (e_op (e_op (e_var rfl (e_int (o_ixT (atI_at (i:=0) rfl) (e_ktS setJoin s2 rfl (o_inStr (.inr rfl) ⟨_,rfl,if_t (decide_eq_true hw) ?_⟩)))))))))
  refine s_ret (e_join (zs:= []) (e_str ⟨_,rfl,e_op (e_lst (a_cons (e_op (e_var rfl (e_int (o_ixT (atI_at (i:=0) rfl) (a_cons ?_)))))))⟩))
  refine e_op (e_var rfl (e_int (o_ixT (atI_at (i:=1) rfl) (a_nil ⟨len2,?_⟩))))
  refine e_mapF (α:=Int) (fun x=> .str (sI x)) (i_tup (e_op (e_var rfl (e_int (o_ixT (atI_at (i:=2) rfl) ⟨_,rfl,A.int,ns,rfl,small (by omega),fun x hx M' up=> ?_,?_⟩)))))
  ·exact c_name (by decide) (e_cb (a_cons (e_var rfl (a_nil (l_strUI dg (hn x hx).d ⟨rfl,rfl⟩)))))
  ·refine o_cat .lst .lst (small (by rw [List.length_map];show 2+_≤_;omega)) ⟨ddW d,.inl ?_,jz,dn0 q⟩
   rw [e2,List.map_append,List.map_map]
   exact .lst
 ·rw [e1]
  refine s_seq (s_if (t_testB (e_op (e_op (e_var rfl (e_int (o_ixT (atI_at (i:=0) rfl) (e_ktS setJoin s2 rfl (o_inStr (.inr rfl) ⟨_,rfl,if_f (decide_eq_false hw) (s_next ?_)⟩)))))))))
  refine s_ret (e_join (zs:= []) (e_str ⟨_,rfl,?_⟩))
  refine e_mapF (α:=A) txA (i_tup (e_var rfl ⟨_,rfl,id,_,(List.map_id _).symm,small (by show xs.length+2≤_;omega),fun x hx' M' up=> ?_,?_⟩))
  ·exact c_name (by decide) (e_cb (a_cons (e_var rfl (a_nil (l_strTx dg (hx _ hx') ⟨rfl,rfl⟩)))))
  ·exact⟨ddW d,.inl (by rw [e2];exact .lst),jz,dn0 q⟩
/-- what is noted: a come, a turn, or nothing to tell of -/
theorem noted_cases {k:Nat} {x:Dd×Wh} (h:Noted k x):(∃m z,x=(.come m,.word z)∧m < 10^1000∧wdB z)∨(∃n ls,x=(.turn n,.letters ls)∧n.length≤8∧ls.length≤8∧ ∀l∈ls,LtT k l)∨
  (x.1.txB∧x.1.wd≠ "come" ∧x.1.wd≠ "turn" ∧tBk x=tDd x.1∧tDone x= "ok"):=by
 obtain⟨d,w⟩:=x
 cases d with
 | turn n=>obtain⟨h1,ls,rfl,h2,h3⟩:=h;exact .inr (.inl ⟨n,ls,rfl,h1,h2,h3⟩)
 | come m=>obtain⟨h1,z,rfl,h2⟩:=h;exact .inl ⟨m,z,rfl,h1,h2⟩
 | fall n=>exact .inr (.inr ⟨h,(by decide:("fall" :Str)≠ "come"),(by decide:("fall" :Str)≠ "turn"),rfl,rfl⟩)
 | back n=>exact .inr (.inr ⟨h,(by decide:("back" :Str)≠ "come"),(by decide:("back" :Str)≠ "turn"),rfl,rfl⟩)
 | fresh n=>exact .inr (.inr ⟨h,(by decide:("fresh" :Str)≠ "come"),(by decide:("fresh" :Str)≠ "turn"),rfl,rfl⟩)
 | leave n=>exact .inr (.inr ⟨h,(by decide:("leave" :Str)≠ "come"),(by decide:("leave" :Str)≠ "turn"),rfl,rfl⟩)
 | set n ns=>exact .inr (.inr ⟨h,(by decide:("set" :Str)≠ "come"),(by decide:("set" :Str)≠ "turn"),rfl,rfl⟩)
 | join n ns=>exact .inr (.inr ⟨h,(by decide:("join" :Str)≠ "come"),(by decide:("join" :Str)≠ "turn"),rfl,rfl⟩)
 | tie n o=>exact .inr (.inr ⟨h,(by decide:("tie" :Str)≠ "come"),(by decide:("tie" :Str)≠ "turn"),rfl,rfl⟩)
 | cut n o=>exact .inr (.inr ⟨h,(by decide:("cut" :Str)≠ "come"),(by decide:("cut" :Str)≠ "turn"),rfl,rfl⟩)
theorem dd_fst (d:Dd):∃x xs,ddA d= .tup (.str d.wd :: x :: xs):=by cases d <;> exact⟨_,_,rfl⟩
theorem wdT_len {z:Str} (h:wdB z):(wdT z).length≤7:=by
 rcases h with rfl | rfl | rfl <;> decide
theorem ltsJ {k:Nat} {ls:List Lt} (hk:k≤1500) (hl:ls.length≤8) (h:∀l∈ls,LtT k l) {y:Str} (hy:y.length≤3):((ls.map tLt).map (·.length)).sum+(ls.map tLt).length*y.length≤8*(4*k+11683)∧(jn y (ls.map tLt)).length≤8*(4*k+11683):=by
 have:=jn_le (y:=y) (zs:=ls.map tLt) (n:=8) (b:=4*k+11680) (c:=y.length) (by rw [List.length_map];exact hl) (fun z hz=>by
  obtain⟨l,h1,rfl⟩:=List.mem_map.mp hz
  exact tLt_len (h l h1) hk) rfl
 constructor <;> omega
theorem tBk_len {k:Nat} {x:Dd×Wh} (hk:k≤1500) (h:Noted k x):(tBk x).length≤8*(4*k+11683)+5030∧ ∀n ls,x=(.turn n,.letters ls)→((tDd (.turn n) :: ls.map tLt).map (·.length)).sum+(tDd (.turn n) :: ls.map tLt).length*(" ; " :Str).length≤8*(4*k+11683)+5030:=by
 have tu:∀n ls,x=(.turn n,.letters ls)→n.length≤8→ls.length≤8→(∀l∈ls,LtT k l)→((tDd (.turn n) :: ls.map tLt).map (·.length)).sum+(tDd (.turn n) :: ls.map tLt).length*(" ; " :Str).length≤8*(4*k+11683)+5030:=fun n ls ex h1 h2 h3=>by
  have a1:=(ltsJ hk h2 h3 (y:= " ; ") (by decide)).1
  have a2:=(tDd_len (d:= .turn n) h1).2
  rw [List.map_cons,List.sum_cons,List.length_cons,Nat.succ_mul,show(" ; " :Str).length=3 from rfl]
  rw [show(" ; " :Str).length=3 from rfl] at a1
  omega
 rcases noted_cases h with⟨m,z,rfl,h1,h2⟩ | ⟨n,ls,rfl,h1,h2,h3⟩ | ⟨h1,h2,h3,h4,h5⟩
 ·refine⟨?_,fun n ls ex=>by cases ex⟩
  have a1:=(tDd_len (d:= .come m) h1).2
  have a2:=wdT_len h2
  show(tDd (.come m) ++ (" : " :Str) ++ wdT z).length≤_
  rw [lenA,lenA,show(" : " :Str).length=3 from rfl]
  omega
 ·have t0:=tu n ls rfl h1 h2 h3
  refine⟨?_,fun n ls ex=>by cases ex;exact t0⟩
  exact Nat.le_trans (jn_len (" ; " :Str) (tDd (.turn n) :: ls.map tLt)) t0
 ·refine⟨?_,fun n ls ex=> ?_⟩
  ·rw [h4]
   have a1:=(tDd_len h1).2
   omega
  ·subst ex;exact absurd rfl h3
theorem p_book_row_text_len (h:cs K fBookRowT vs H Q E):vs.length=1:=fn_len (fun as M Q ⟨_,_,e,_⟩=>by rw [e];rfl) h
theorem p_book_row_text (dg:DigK K) (wk:WdsK K) (h:cs K fBookRowT vs H Q E):t_book_row_text K { nx:=fun _ H'=>Q .non H',rt:=Q } (start N_book_row_text vs) H:=fn_of h fun as M Qa h=>by
 obtain⟨x,k,rfl,hp,hk,hr,q⟩:=h
 unfold t_book_row_text
 refine s_seq (s_asgG (e_var rfl (g_tup rfl (g_cons (g_name (g_cons (g_name (g_nil ?_))))))))
 have tl:=tBk_len hk hp
 rcases noted_cases hp with⟨m,z,rfl,h1,h2⟩ | ⟨n,ls,rfl,h1,h2,h3⟩ | ⟨h1,h2,h3,h4,h5⟩
 ·refine s_seq (s_if (t_testB (e_op (e_op (e_var rfl (e_int (o_ixT rfl (e_str (o_eqS ⟨_,rfl,if_t rfl ?_⟩)))))))))
  have a1:=(tDd_len (d:= .come m) h1).2
  have a2:=wdT_len h2
  refine s_ret (e_op (e_op (e_call (a_cons (e_var rfl (a_nil ⟨.come m,rfl,h1,e_str (o_addS (small ?_) (e_op (e_ref (e_var rfl (o_itemK (wk.of h2) (o_addS (small ?_) (dn0 q)))))))⟩))))))
  ·rw [show(" : " :Str).length=3 from rfl];omega
  ·rw [lenA,show(" : " :Str).length=3 from rfl];omega
 ·refine s_seq (s_if (t_testB (e_op (e_op (e_var rfl (e_int (o_ixT rfl (e_str (o_eqS ⟨_,rfl,if_f rfl (s_next ?_)⟩)))))))))
  refine s_seq (s_if (t_testB (e_op (e_op (e_var rfl (e_int (o_ixT rfl (e_str (o_eqS ⟨_,rfl,if_t rfl ?_⟩)))))))))
  refine s_ret (e_join (zs:= []) (e_str ⟨_,rfl,e_op (e_lst (a_cons (e_call (a_cons (e_var rfl (a_nil ⟨.turn n,rfl,h1,a_nil ⟨by show 1≤_;decide,?_⟩⟩))))))⟩))
  refine e_mapF (α:=Lt) (fun l=> .str (tLt l)) (i_tup (e_var rfl ⟨_,rfl,ltA,ls,rfl,small (by omega),fun l hl M' up=> ?_,?_⟩))
  ·exact c_name (by decide) (e_call (a_cons (e_var rfl (a_nil ⟨l,k,rfl,h3 l hl,hk,hr ls rfl l hl,rfl,rfl⟩))))
  ·refine o_cat .lst .lst (small (by rw [List.length_map];show 1+_≤_;omega)) ⟨tDd (.turn n) :: ls.map tLt,.inl (by rw [List.map_cons,List.map_map];exact .lst),?_,dn0 q⟩
   have:=tl.2 n ls rfl
   omega
 ·obtain⟨d,w⟩:=x
  obtain⟨y,ys,e⟩:=dd_fst d
  have fs:∀z:Str,d.wd≠z→decide (d.wd=z)=false:=fun z h=>decide_eq_false h
  rw [show ddA (d,w).1=ddA d from rfl,e]
  refine s_seq (s_if (t_testB (e_op (e_op (e_var rfl (e_int (o_ixT (atI_at (i:=0) rfl) (e_str (o_eqS ⟨_,rfl,if_f (fs _ h2) (s_next ?_)⟩)))))))))
  refine s_seq (s_if (t_testB (e_op (e_op (e_var rfl (e_int (o_ixT (atI_at (i:=0) rfl) (e_str (o_eqS ⟨_,rfl,if_f (fs _ h3) (s_next ?_)⟩)))))))))
  refine s_ret (e_call (a_cons (e_var rfl (a_nil ⟨d,by rw [e],h1,dn0 ?_⟩))))
  rw [← h4]
  exact q
theorem p_book_text_len (h:cs K fBookT vs H Q E):vs.length=1:=fn_len (fun as M Q ⟨_,_,e,_⟩=>by rw [e];rfl) h
theorem bookJ {rows:List (Dd×Wh)} {k:Nat} (hp:∀x∈rows,Noted k x) (hk:k≤1500) (hs:rows.length*(8*(4*k+11683)+5030+1)≤16777000):((rows.map tBk).map (·.length)).sum+(rows.map tBk).length*("\n" :Str).length≤16777000∧(tBook rows).length≤16777000:=by
 have:=jn_le (y:=("\n" :Str)) (zs:=rows.map tBk) (n:=rows.length) (b:=8*(4*k+11683)+5030) (c:=1) (by rw [List.length_map];exact Nat.le_refl _) (fun z hz=>by
  obtain⟨x,hx,rfl⟩:=List.mem_map.mp hz
  exact(tBk_len hk (hp x hx)).1) rfl
 unfold tBook
 constructor <;> omega
theorem p_book_text (h:cs K fBookT vs H Q E):t_book_text K { nx:=fun _ H'=>Q .non H',rt:=Q } (start N_book_text vs) H:=fn_of h fun as M Qa h=>by
 obtain⟨rows,k,rfl,hp,hk,hr,hs,q⟩:=h
 unfold t_book_text
 have jz:=(bookJ hp hk hs).1
 refine s_ret (e_join (zs:= []) (e_str ⟨_,rfl,?_⟩))
 refine e_mapF (α:=Dd×Wh) (fun x=> .str (tBk x)) (i_lst (e_var rfl ⟨_,rfl,rwA,rows,rfl,Nat.le_trans (Nat.le_mul_of_pos_right _ (by omega)) (Nat.le_trans hs (by decide)),fun x hx M' up=> ?_,?_⟩))
 ·exact c_name (by decide) (e_call (a_cons (e_var rfl (a_nil ⟨x,k,rfl,hp x hx,hk,hr x hx,rfl,rfl⟩))))
 ·exact⟨rows.map tBk,.inl (by rw [List.map_map];exact .lst),by omega,dn0 q⟩
end
abbrev N_deed_in:List Str:= ["text","words","deed","word"]
def t_deed_in (K:PySem.W.Frag):TS:=
 (tSeq (tAsg (tSplit (tVar 0) (tC (.str (" " :Str)))) (gName 1))
  (tSeq (tAsg (tCB (rTupOf K) (tCons (tVar 1) tNil)) (gName 2))
  (tSeq (tIfS (tTest (tOp (rIn K false) (tOp (rIxL K) (tVar 1) (tC (.int 0))) (tC (.ref (He.ga K "OF_NUMBERS"))))) (tAsg (tOp (rCatA K) (tCB (rTupOf K) (tCons (tSl (rSlL K) (tVar 1) tNoPart (tPart (tC (.int 2)))) tNil)) (tTup (tCons (tCB (rTupOf K) (tCons (tLc (iList K (tSl (rSlL K) (tVar 1) (tPart (tC (.int 2))) tNoPart)) (gName 3) tYes (tCall (cs K fNumIn) [] E0 (tCons (tVar 3) tNil)) [3]) tNil)) tNil))) (gName 2)) (tIfS (tTest (tOp rEq (tOp (rIxL K) (tVar 1) (tC (.int 0))) (tC (.str ("come" :Str))))) (tAsg (tOp (rCatA K) (tTup (tCons (tC (.str ("come" :Str))) tNil)) (tCB (rTupOf K) (tCons (tLc (iList K (tSl (rSlL K) (tVar 1) (tPart (tC (.int 1))) tNoPart)) (gName 3) tYes (tCall (cs K fNumIn) [] E0 (tCons (tVar 3) tNil)) [3]) tNil))) (gName 2)) tNext))
  (tSeq (tIfS (tNot (tB (tCall (cs K fIsDeed) [] E0 (tCons (tVar 2) tNil)))) (tRet (tC .non)) tNext)
  (tRet (tVar 2))))))
theorem deedW_spec (ws:List Str):(∃d,pDeedW ws=some d∧deedW ws=ddA d∧d.nmd∧d.formB=true)∨(pDeedW ws=none∧deedB (deedW ws)=false):=by
 match ws with
 | []=>exact .inr ⟨rfl,rfl⟩
 | [w]=>
  refine .inr ⟨rfl,?_⟩
  unfold deedW
  split
  ·show deedB (.tup [.str w,.tup []])=false
   show(if w= "come" then comeB (.tup []) [] else nameB (.tup []) && deedR w (.tup []) [])=false
   split <;> rfl
  ·split <;> rfl
 | [w,n]=>
  show(∃d,pDeed2 w n=some d∧_)∨(pDeed2 w n=none∧_)
  unfold pDeed2
  by_cases hc:w= "come"
  ·subst hc
   have e:deedW [("come" :Str),n]= .tup [.str "come",optI (pNum n)]:=rfl
   rw [e,if_pos rfl]
   cases hn:pNum n with
   | none=>exact .inr ⟨rfl,rfl⟩
   | some k=>
    by_cases hk:0≤k
    ·refine .inl ⟨.come k.toNat,if_pos hk,?_,trivial,rfl⟩
     show A.tup [.str "come",.int k]= .tup [.str "come",.int ((k.toNat:Nat):Int)]
     rw [Int.toNat_of_nonneg hk]
    ·refine .inr ⟨if_neg hk,?_⟩
     show(if("come" :Str)= "come" then comeB (.int k) [] else nameB (.int k) && deedR "come" (.int k) [])=false
     rw [if_pos rfl]
     exact decide_eq_false hk
  ·rw [if_neg hc]
   by_cases hs:w= "set" ∨w= "join"
   ·have e:deedW [w,n]= .tup [.str w,.str n,.tup []]:=by
     unfold deedW
     rw [if_pos (by rcases hs with rfl | rfl <;> simp)]
     rfl
    rw [e]
    refine .inr ⟨?_,?_⟩
    ·rcases hs with rfl | rfl
     ·split <;> rfl
     ·split <;> rfl
    ·show(if w= "come" then _ else nameB (.str n) && deedR w (.str n) [.tup []])=false
     rw [if_neg hc]
     rcases hs with rfl | rfl
     ·exact Bool.and_false _
     ·exact Bool.and_false _
   ·have e:deedW [w,n]= .tup [.str w,.str n]:=by
     unfold deedW
     rw [if_neg (by simp only [List.head?_cons,Option.some.injEq];exact hs),if_neg (by simp only [List.head?_cons,Option.some.injEq];exact hc)]
     rfl
    rw [e]
    have eb:deedB (.tup [.str w,.str n])=(nmB n && decide (w∈(["turn","fall","back","fresh","leave"]:List Str))):=by
     show(if w= "come" then _ else nameB (.str n) && deedR w (.str n) [])=_
     rw [if_neg hc]
     rfl
    rw [eb]
    cases hn:nmB n with
    | false=>exact .inr ⟨if_neg Bool.false_ne_true,rfl⟩
    | true=>
     rw [if_pos rfl]
     have tn:=nmB_isTx hn
     by_cases h1:w= "turn"
     ·subst h1;exact .inl ⟨.turn n,if_pos rfl,rfl,tn,rfl⟩
     by_cases h2:w= "fall"
     ·subst h2;exact .inl ⟨.fall n,by rw [if_neg h1,if_pos rfl],rfl,tn,rfl⟩
     by_cases h3:w= "back"
     ·subst h3;exact .inl ⟨.back n,by rw [if_neg h1,if_neg h2,if_pos rfl],rfl,tn,rfl⟩
     by_cases h4:w= "fresh"
     ·subst h4;exact .inl ⟨.fresh n,by rw [if_neg h1,if_neg h2,if_neg h3,if_pos rfl],rfl,tn,rfl⟩
     by_cases h5:w= "leave"
     ·subst h5;exact .inl ⟨.leave n,by rw [if_neg h1,if_neg h2,if_neg h3,if_neg h4,if_pos rfl],rfl,tn,rfl⟩
     refine .inr ⟨by rw [if_neg h1,if_neg h2,if_neg h3,if_neg h4,if_neg h5],?_⟩
     rw [Bool.true_and]
     exact decide_eq_false (by simp only [List.mem_cons,List.not_mem_nil,or_false,not_or];exact⟨h1,h2,h3,h4,h5⟩)
 | w :: n :: u :: r=>
  show(∃d,pDeed3 w n u r=some d∧_)∨(pDeed3 w n u r=none∧_)
  unfold pDeed3
  by_cases hs:w= "set" ∨w= "join"
  ·have e:deedW (w :: n :: u :: r)= .tup [.str w,.str n,.tup ((u :: r).map fun z=>optI (pNum z))]:=by
    unfold deedW
    rw [if_pos (by simp only [List.head?_cons,Option.some.injEq];exact hs)]
    rfl
   have hc: ¬ w= "come" :=by rcases hs with rfl | rfl <;> decide
   have eb:deedB (.tup [.str w,.str n,.tup ((u :: r).map fun z=>optI (pNum z))])=(nmB n && numsB (.tup ((u :: r).map fun z=>optI (pNum z)))):=by
    show(if w= "come" then _ else nameB (.str n) && deedR w (.str n) [_])=_
    rw [if_neg hc]
    rcases hs with rfl | rfl
    ·rfl
    ·rfl
   have eo:(u :: r).map (fun z=>optI (pNum z))=((u :: r).map pNum).map optI:=by rw [List.map_map];rfl
   rw [e,eb]
   cases hn:nmB n with
   | false=>exact .inr ⟨if_neg Bool.false_ne_true,rfl⟩
   | true=>
    rw [if_pos rfl,if_pos hs,eo,Bool.true_and,nums_opt]
    cases ha:allSome ((u :: r).map pNum) with
    | none=>exact .inr ⟨rfl,rfl⟩
    | some ns=>
     cases hb:numsB (.tup (ns.map A.int)) with
     | false=>exact .inr ⟨if_neg (by rw [hb];exact Bool.false_ne_true),hb⟩
     | true=>
      have ens:((u :: r).map pNum).map optI=ns.map A.int:=by
       rw [allSome_some ha,List.map_map]
       rfl
      rw [ens]
      have tn:=nmB_isTx hn
      rcases hs with rfl | rfl
      ·exact .inl ⟨.set n ns,(if_pos hb).trans rfl,rfl,tn,hb⟩
      ·exact .inl ⟨.join n ns,(if_pos hb).trans rfl,rfl,tn,hb⟩
  ·by_cases hc:w= "come"
   ·subst hc
    refine .inr ⟨?_,?_⟩
    ·split
     ·split
      ·rfl
      ·rfl
     ·rfl
    ·have e:deedW (("come" :Str) :: n :: u :: r)= .tup (.str "come" :: optI (pNum n) :: optI (pNum u) :: r.map fun w=>optI (pNum w)):=by
      unfold deedW
      rw [if_neg (by simp only [List.head?_cons,Option.some.injEq];exact hs),if_pos (by rw [List.head?_cons])]
      rfl
     rw [e]
     show(if("come" :Str)= "come" then comeB (optI (pNum n)) (optI (pNum u) :: r.map fun w=>optI (pNum w)) else nameB (optI (pNum n)) && deedR "come" (optI (pNum n)) (optI (pNum u) :: r.map fun w=>optI (pNum w)))=false
     rw [if_pos rfl]
     cases pNum n <;> rfl
   ·have e:deedW (w :: n :: u :: r)= .tup (.str w :: .str n :: .str u :: r.map A.str):=by
     unfold deedW
     rw [if_neg (by simp only [List.head?_cons,Option.some.injEq];exact hs),if_neg (by simp only [List.head?_cons,Option.some.injEq];exact hc)]
     rfl
    rw [e]
    have eb:deedB (.tup (.str w :: .str n :: .str u :: r.map A.str))=(nmB n && deedR w (.str n) (.str u :: r.map A.str)):=by
     show(if w= "come" then _ else nameB (.str n) && deedR w (.str n) _)=_
     rw [if_neg hc]
     rfl
    rw [eb]
    cases hn:nmB n with
    | false=>exact .inr ⟨if_neg Bool.false_ne_true,rfl⟩
    | true=>
     have tn:=nmB_isTx hn
     rw [if_pos rfl,if_neg hs,Bool.true_and]
     cases r with
     | cons y r=>exact .inr ⟨if_neg (fun h=>nomatch h.1),rfl⟩
     | nil=>
      by_cases hu:nmB u=true∧u≠n
      ·have tu:=nmB_isTx hu.1
       rw [if_pos ⟨rfl,hu⟩]
       have hf:(!decide (u=n))=true:=by rw [decide_eq_false hu.2];rfl
       by_cases h1:w= "tie"
       ·subst h1;exact .inl ⟨.tie n u,if_pos rfl,rfl,⟨tn,tu⟩,hf⟩
       by_cases h2:w= "cut"
       ·subst h2;exact .inl ⟨.cut n u,by rw [if_neg h1,if_pos rfl],rfl,⟨tn,tu⟩,hf⟩
       refine .inr ⟨by rw [if_neg h1,if_neg h2],?_⟩
       show(_ && (if w∈(["set","join"]:List Str) then _ else decide (w∈(["tie","cut"]:List Str)) && _))=false
       rw [if_neg (by simp only [List.mem_cons,List.not_mem_nil,or_false];exact hs),decide_eq_false (show ¬ w∈(["tie","cut"]:List Str) by simp only [List.mem_cons,List.not_mem_nil,or_false,not_or];exact⟨h1,h2⟩),Bool.false_and,Bool.and_false]
      ·refine .inr ⟨if_neg (fun h=>hu h.2),?_⟩
       show(_ && (if w∈(["set","join"]:List Str) then _ else decide (w∈(["tie","cut"]:List Str)) && (nmB u && !decide (u=n))))=false
       have:(nmB u && !decide (u=n))=false:=by
        cases h:nmB u with
        | false=>rfl
        | true=>
         rw [decide_eq_true (show u=n from Classical.byContradiction fun h2=>hu ⟨h,h2⟩)]
         rfl
       rw [if_neg (by simp only [List.mem_cons,List.not_mem_nil,or_false];exact hs),this,Bool.and_false,Bool.and_false]
theorem deedW_od {ws:List Str} (h1:ws.length≤900) (h2:∀w∈ws,w.length≤1000000):Od1 (deedW ws):=by
 have st:∀z:Str,z.length≤1000000→OdE (.str z)∧ ∀ys,A.str z= .tup ys→ys.all A.plain=true:=fun z h=>⟨⟨rfl,fun y e=>by cases e;exact h⟩,fun ys e=>nomatch e⟩
 have op:∀o:Option Int,OdE (optI o)∧ ∀ys,optI o= .tup ys→ys.all A.plain=true:=fun o=>by
  cases o <;> exact⟨⟨rfl,fun y e=>nomatch e⟩,fun ys e=>nomatch e⟩
 have tu:∀xs:List A,xs.length≤1000→(∀x∈xs,OdE x∧ ∀ys,x= .tup ys→ys.all A.plain=true)→Od1 (.tup xs):=fun xs hl h=>⟨⟨rfl,fun y e=>nomatch e⟩,fun ys e=>by cases e;exact⟨hl,h⟩⟩
 unfold deedW
 split
 ·refine tu _ ?_ fun x hx=> ?_
  ·rw [List.length_append,List.length_map,List.length_take]
   show _+1≤_
   omega
  ·rcases List.mem_append.mp hx with hx | hx
   ·obtain⟨z,hz,rfl⟩:=List.mem_map.mp hx
    exact st z (h2 z (List.mem_of_mem_take hz))
   ·rw [List.mem_singleton.mp hx]
    refine⟨⟨rfl,fun y e=>nomatch e⟩,fun ys e=> ?_⟩
    cases e
    rw [List.all_map]
    refine List.all_eq_true.mpr fun w _=> ?_
    show(optI (pNum w)).plain=true
    cases pNum w <;> rfl
 ·split
  ·refine tu _ ?_ fun x hx=> ?_
   ·rw [List.length_cons,List.length_map,List.length_drop]
    omega
   ·rcases List.mem_cons.mp hx with rfl | hx
    ·exact st _ (by decide)
    ·obtain⟨z,hz,rfl⟩:=List.mem_map.mp hx
     exact op _
  ·refine tu _ (by rw [List.length_map];omega) fun x hx=> ?_
   obtain⟨z,hz,rfl⟩:=List.mem_map.mp hx
   exact st z (h2 z hz)
section
variable {K:PySem.W.Frag} {vs:List V} {H:Hp} {Q:VK} {E:XK} {Qa:QA} {M:AM} {s:Sv} {Nx:Sv→AM→Prop}
theorem p_deed_in_len (h:cs K fDeedIn vs H Q E):vs.length=1:=fn_len (fun as M Q ⟨_,e,_⟩=>by rw [e];rfl) h
theorem p_deed_in (s2:KT K (He.ga K "OF_NUMBERS") [.str ("set" :Str),.str ("join" :Str)]) (h:cs K fDeedIn vs H Q E):t_deed_in K { nx:=fun _ H'=>Q .non H',rt:=Q } (start N_deed_in vs) H:=fn_of h fun as M Qa h=>by
 obtain⟨t,rfl,hl,hn,q⟩:=h
 unfold t_deed_in
 unfold pDeed at q
 obtain⟨l1,l2⟩:=split_b t (y:= " ") (by decide)
 have ne:=split_ne t " "
 refine s_seq (s_asg (e_split (e_var rfl ⟨t,rfl,e_str ⟨" ",rfl,rfl,big (by omega),?_⟩⟩)))
 generalize Txt.split t " " =ws at q hn l1 l2 ne
 have l3:∀w∈ws,w.length≤1000000:=fun w h=>Nat.le_trans (l2 w h) hl
 cases ws with
 | nil=>exact absurd rfl ne
 | cons w r=>
  refine s_seq (s_asg (e_cb (a_cons (e_var rfl (a_nil (l_tupL .lst ?_))))))
  refine s_seq (s_join (fun s1 M1=>s1= [some (.str t),some (.lst ((w :: r).map A.str)),some (deedW (w :: r)),none]∧M1=M) ?_ ?_)
  ·refine s_if (t_testB (e_op (e_op (e_var rfl (e_int (o_ixL .lst (atI_at (i:=0) rfl) (e_ktS setJoin s2 rfl (o_inStr (.inr rfl) ⟨_,rfl,?_⟩))))))))
   by_cases hs:w∈setJoin
   ·have hs':w= "set" ∨w= "join" :=by simpa only [List.mem_cons,List.not_mem_nil,or_false] using hs
    refine if_t (decide_eq_true hs) (s_asg (e_op (e_cb (a_cons (e_sl (e_var rfl (e_noPart (e_part (e_int ⟨_,rfl,o_slL .lst (a_nil (l_tupL .lst ?_))⟩)))))))))
    refine e_tup (a_cons (e_cb (a_cons (e_mapF (α:=Str) (fun z=>optI (pNum z)) (i_lst (e_sl (e_var rfl (e_part (e_int ⟨_,rfl,e_noPart (o_slL .lst ⟨_,rfl,A.str,(w :: r).drop 2,?_,?_,fun z hz M' up=> ?_,?_⟩)⟩)))))))))
    ·show cutA _ (some ((2:Nat):Int)) none=_
     rw [cut_from,List.map_drop]
    ·rw [List.length_drop];exact big (by omega)
    ·exact c_name (by decide) (e_call (a_cons (e_var rfl (a_nil ⟨z,rfl,l3 z (List.mem_of_mem_drop hz),rfl,rfl⟩))))
    refine a_nil (l_tupL .lst (a_nil ⟨by show 1≤_;decide,o_catA ?_ ⟨?_,rfl⟩⟩))
    ·show(cutA _ none (some ((2:Nat):Int))).length+1≤_
     rw [cut_to,List.length_take]
     exact big (by omega)
    ·have e:deedW (w :: r)= .tup (((w :: r).take 2).map A.str ++ [.tup (((w :: r).drop 2).map fun w=>optI (pNum w))]):=by
      unfold deedW
      rw [if_pos (by simp only [List.head?_cons,Option.some.injEq];exact hs')]
     have e2:cutA ((w :: r).map A.str) none (some (2:Int))=((w :: r).take 2).map A.str:=by
      show cutA _ none (some ((2:Nat):Int))=_
      rw [cut_to,List.map_take]
     rw [e,e2]
     rfl
   ·have hs': ¬ (w= "set" ∨w= "join"):=by simpa only [List.mem_cons,List.not_mem_nil,or_false] using hs
    refine if_f (decide_eq_false hs) (s_if (t_testB (e_op (e_op (e_var rfl (e_int (o_ixL .lst (atI_at (i:=0) rfl) (e_str (o_eqS ⟨_,rfl,?_⟩)))))))))
    by_cases hc:w= "come"
    ·refine if_t (decide_eq_true hc) (s_asg (e_op (e_tup (a_cons (e_str (a_nil ⟨by show 1≤_;decide,?_⟩))))))
     refine e_cb (a_cons (e_mapF (α:=Str) (fun z=>optI (pNum z)) (i_lst (e_sl (e_var rfl (e_part (e_int ⟨_,rfl,e_noPart (o_slL .lst ⟨_,rfl,A.str,(w :: r).drop 1,?_,?_,fun z hz M' up=> ?_,?_⟩)⟩)))))))
     ·show cutA _ (some ((1:Nat):Int)) none=_
      rw [cut_from,List.map_drop]
     ·rw [List.length_drop];exact big (by omega)
     ·exact c_name (by decide) (e_call (a_cons (e_var rfl (a_nil ⟨z,rfl,l3 z (List.mem_of_mem_drop hz),rfl,rfl⟩))))
     refine a_nil (l_tupL .lst (o_catA ?_ ⟨?_,rfl⟩))
     ·rw [List.length_map,List.length_drop]
      show 1+_≤_
      exact big (by omega)
     ·have e:deedW (w :: r)= .tup (.str "come" :: ((w :: r).drop 1).map fun w=>optI (pNum w)):=by
       unfold deedW
       rw [if_neg (by simp only [List.head?_cons,Option.some.injEq];exact hs'),if_pos (by rw [hc];rfl)]
      rw [e]
      rfl
    ·refine if_f (decide_eq_false hc) (s_next ⟨?_,rfl⟩)
     have e:deedW (w :: r)= .tup ((w :: r).map A.str):=by
      unfold deedW
      rw [if_neg (by simp only [List.head?_cons,Option.some.injEq];exact hs'),if_neg (by simp only [List.head?_cons,Option.some.injEq];exact hc)]
     rw [e]
     rfl
  ·rintro s1 M1 ⟨rfl,rfl⟩
   rcases deedW_spec (w :: r) with⟨d,e1,e2,nm,fb⟩ | ⟨e1,e2⟩
   ·rw [e1] at q
    rw [e2]
    refine s_seq (s_if (t_not (t_B (e_call (a_cons (e_var rfl (a_nil (.inl ⟨d,rfl,nm,⟨_,rfl,?_⟩⟩))))))))
    rw [fb]
    exact if_f rfl (s_next (s_ret (e_var rfl (dn0 q))))
   ·rw [e1] at q
    exact s_seq (s_if (t_not (t_B (e_call (a_cons (e_var rfl (a_nil (.inr ⟨_,rfl,deedW_od hn l3,e2,⟨_,rfl,if_t rfl (s_non q)⟩⟩))))))))
end
theorem pDeed_nm {t:Str} {d:Dd} (h:pDeed t=some d):d.nmd∧d.formB=true:=by
 rcases deedW_spec (Txt.split t " ") with⟨d',e1,e2,nm,fb⟩ | ⟨e1,_⟩
 ·have h:pDeedW (Txt.split t " ")=some d:=h
  rw [e1] at h
  cases h
  exact⟨nm,fb⟩
 ·have h:pDeedW (Txt.split t " ")=some d:=h
  rw [e1] at h
  cases h
abbrev N_row_text:List Str:= ["row","num","e"]
def t_row_text (K:PySem.W.Frag):TS:=
 (tRet (tJoin K (tC (.str ("," :Str))) (tLc (iTup K (tVar 0)) (gTup K 2 (gCons (gName 1) (gCons (gName 2) gNil))) tYes (tOp rAddStr (tOp rAddStr (tCB (Go.rStrU K) (tCons (tVar 1) tNil)) (tC (.str (">>" :Str)))) (tCB (Go.rStrU K) (tCons (tVar 2) tNil))) [1,2])))
abbrev N_stamp_text:List Str:= ["stamp"]
def t_stamp_text (K:PySem.W.Frag):TS:=
 (tSeq (tIfS (tTest (tOp rIsN (tVar 0) (tC .non))) (tRet (tC (.str ("-" :Str)))) tNext)
  (tRet (tOp rAddStr (tOp rAddStr (tCB (Go.rStrU K) (tCons (tOp (rIxT K) (tVar 0) (tC (.int 0))) tNil)) (tC (.str ("." :Str)))) (tCB (Go.rStrU K) (tCons (tOp (rIxT K) (tVar 0) (tC (.int 1))) tNil)))))
section
variable {K:PySem.W.Frag} {vs:List V} {H:Hp} {Q:VK} {E:XK}
theorem p_row_text_len (h:cs K fRowT vs H Q E):vs.length=1:=fn_len (fun as M Q ⟨_,_,e,_⟩=>by rw [e];rfl) h
theorem p_row_text (dg:DigK K) (h:cs K fRowT vs H Q E):t_row_text K { nx:=fun _ H'=>Q .non H',rt:=Q } (start N_row_text vs) H:=fn_of h fun as M Qa h=>by
 obtain⟨r,k,rfl,hp,hk,q⟩:=h
 unfold t_row_text
 refine s_ret (e_join (zs:= []) (e_str ⟨_,rfl,?_⟩))
 refine e_mapF (α:=Pt) (fun x=> .str (partT x)) (i_tup (e_var rfl ⟨_,rfl,ptA,r,rfl,small (by have:=hp.1;omega),fun x hx M' up=> ?_,?_⟩))
 ·obtain⟨h1,h2,h3,h4⟩:=hp.one hk hx
  refine c_tup rfl (c_cons (c_name (by decide) (c_cons (c_name (by decide) (c_nil ?_)))))
  refine e_op (e_op (e_cb (a_cons (e_var rfl (a_nil (l_strUI dg h1 (e_str (o_addS (small ?_) ?_))))))))
  ·rw [show(">>" :Str).length=2 from rfl];omega
  ·exact e_cb (a_cons (e_var rfl (a_nil (l_strUI dg h2 (o_addS (small (by rw [lenA,show(">>" :Str).length=2 from rfl];omega)) ⟨rfl,rfl⟩)))))
 ·refine⟨r.map partT,.inl (by rw [List.map_map];exact .lst),?_,dn0 q⟩
  have:=(hp.join hk).1
  omega
theorem p_stamp_text_len (h:cs K fStampT vs H Q E):vs.length=1:=fn_len (fun as M Q ⟨_,e,_⟩=>by rw [e];rfl) h
theorem p_stamp_text (dg:DigK K) (h:cs K fStampT vs H Q E):t_stamp_text K { nx:=fun _ H'=>Q .non H',rt:=Q } (start N_stamp_text vs) H:=fn_of h fun as M Qa h=>by
 obtain⟨o,rfl,hp,q⟩:=h
 unfold t_stamp_text
 cases o with
 | none=>
  exact s_seq (s_if (t_testB (e_op (e_var rfl (e_non (o_isN ⟨_,rfl,if_t rfl (s_ret (e_str (dn0 q)))⟩))))))
 | some s=>
  obtain⟨h1,h2⟩:=hp s rfl
  have l1:=h1.len
  have l2:=h2.len
  refine s_seq (s_if (t_testB (e_op (e_var rfl (e_non (o_isN ⟨_,rfl,if_f rfl (s_next ?_)⟩))))))
  refine s_ret (e_op (e_op (e_cb (a_cons (e_op (e_var rfl (e_int (o_ixT rfl (a_nil (l_strUI dg h1.d (e_str (o_addS (small ?_) ?_))))))))))))
  ·rw [show("." :Str).length=1 from rfl];omega
  ·exact e_cb (a_cons (e_op (e_var rfl (e_int (o_ixT rfl (a_nil (l_strUI dg h2.d (o_addS (small (by rw [lenA,show("." :Str).length=1 from rfl];omega)) (dn0 q)))))))))
end
abbrev N_entry_text:List Str:= ["entry","name","life","version","numbers","others","words","one"]
def t_entry_text (K:PySem.W.Frag):TS:=
 (tSeq (tAsg (tVar 0) (gTup K 5 (gCons (gName 1) (gCons (gName 2) (gCons (gName 3) (gCons (gName 4) (gCons (gName 5) gNil)))))))
  (tSeq (tAsg (tLst (tCons (tVar 1) (tCons (tCall (cs K fStampT) [] E0 (tCons (tTup (tCons (tVar 2) (tCons (tVar 3) tNil))) tNil)) (tCons (tJoin K (tC (.str ("," :Str))) (tLc (iTup K (tVar 4)) (gName 7) tYes (tCB (Go.rStrU K) (tCons (tVar 7) tNil)) [7])) tNil)))) (gName 6))
  (tRet (tJoin K (tC (.str ("=" :Str))) (tOp rCat (tVar 6) (tLst (tCons (tIf (tTest (tOp (rNeD K) (tVar 5) (tTup tNil))) (tJoin K (tC (.str ("," :Str))) (tVar 5)) (tC (.str ("-" :Str)))) tNil)))))))
abbrev N_roll_text:List Str:= ["roll","entry"]
def t_roll_text (K:PySem.W.Frag):TS:=
 (tRet (tJoin K (tC (.str (" " :Str))) (tLc (iTup K (tVar 0)) (gName 1) tYes (tCall (cs K fEntryT) [] E0 (tCons (tVar 1) tNil)) [1])))
abbrev N_letter_text:List Str:= ["letter","one","other","stamp","seen","gifts","given","roll","words"]
def t_letter_text (K:PySem.W.Frag):TS:=
 (tSeq (tAsg (tVar 0) (gTup K 7 (gCons (gName 1) (gCons (gName 2) (gCons (gName 3) (gCons (gName 4) (gCons (gName 5) (gCons (gName 6) (gCons (gName 7) gNil)))))))))
  (tSeq (tAsg (tLst (tCons (tVar 1) (tCons (tVar 2) (tCons (tCall (cs K fStampT) [] E0 (tCons (tVar 3) tNil)) (tCons (tCall (cs K fStampT) [] E0 (tCons (tVar 4) tNil)) (tCons (tCB (Go.rStrU K) (tCons (tVar 5) tNil)) (tCons (tCall (cs K fRowT) [] E0 (tCons (tVar 6) tNil)) (tCons (tCall (cs K fRollT) [] E0 (tCons (tVar 7) tNil)) tNil)))))))) (gName 8))
  (tRet (tJoin K (tC (.str (" " :Str))) (tVar 8)))))
section
variable {K:PySem.W.Frag} {vs:List V} {H:Hp} {Q:VK} {E:XK}
theorem p_entry_text_len (h:cs K fEntryT vs H Q E):vs.length=1:=fn_len (fun as M Q ⟨_,e,_⟩=>by rw [e];rfl) h
theorem p_entry_text (dg:DigK K) (h:cs K fEntryT vs H Q E):t_entry_text K { nx:=fun _ H'=>Q .non H',rt:=Q } (start N_entry_text vs) H:=fn_of h fun as M Qa h=>by
 obtain⟨e,rfl,hp,q⟩:=h
 unfold t_entry_text
 refine s_seq (s_asgG (e_var rfl (g_tup rfl (g_cons (g_name (g_cons (g_name (g_cons (g_name (g_cons (g_name (g_cons (g_name (g_nil ?_))))))))))))))
 refine s_seq (s_asg (e_lst (a_cons (e_var rfl (a_cons (e_call (a_cons (e_tup (a_cons (e_var rfl (a_cons (e_var rfl (a_nil ⟨len2,a_nil ⟨some (e.li,e.ve),rfl,fun x ex=>by cases ex;exact⟨hp.li,hp.ve⟩,?_⟩⟩)))))))))))))
 refine a_cons (e_join (zs:= []) (e_str ⟨_,rfl,?_⟩))
 refine e_mapF (α:=Int) (fun x=> .str (sI x)) (i_tup (e_var rfl ⟨_,rfl,A.int,e.nu,rfl,small (by have:=hp.nu;omega),fun x hx M' up=> ?_,?_⟩))
 ·exact c_name (by decide) (e_cb (a_cons (e_var rfl (a_nil (l_strUI dg (hp.nb x hx).d ⟨rfl,rfl⟩)))))
 refine⟨e.nu.map sI,.inl (by rw [List.map_map];exact .lst),numsJ hp.nu hp.nb,a_nil ⟨by show 3≤_;decide,?_⟩⟩
 refine s_ret (e_join (zs:= []) (e_str ⟨_,rfl,e_op (e_var rfl (e_lst (a_cons (e_ifE (t_testB (e_op (e_var rfl (e_tup (a_nil ⟨Nat.zero_le _,?_⟩)))))))))⟩))
 refine o_neNilT (k:=0) (Lay.map fun z hz=>Lay.str (hp.on z hz).tx) (by decide) ⟨_,rfl,?_⟩
 by_cases h0:e.ot= []
 ·refine if_f (by rw [h0];rfl) (e_str (a_nil ⟨by show 1≤_;decide,?_⟩))
  refine o_cat .lst .lst (by show 3+1≤_;decide) ⟨[e.nm,tStamp (some (e.li,e.ve)),tNums e.nu,tOthers e.ot],.inl ?_,enJ hp,dn0 q⟩
  rw [show tOthers e.ot= "-" by unfold tOthers;rw [if_pos h0]]
  exact .lst
 ·refine if_t (by cases h1:e.ot with | nil=>exact absurd h1 h0 | cons=>rfl) ?_
  refine e_join (zs:= []) (e_str ⟨_,rfl,e_var rfl ⟨e.ot,.inr rfl,othJ hp.ot hp.on,a_nil ⟨by show 1≤_;decide,?_⟩⟩⟩)
  refine o_cat .lst .lst (by show 3+1≤_;decide) ⟨[e.nm,tStamp (some (e.li,e.ve)),tNums e.nu,tOthers e.ot],.inl ?_,enJ hp,dn0 q⟩
  rw [show tOthers e.ot=jn "," e.ot by unfold tOthers;rw [if_neg h0]]
  exact .lst
theorem p_roll_text_len (h:cs K fRollT vs H Q E):vs.length=1:=fn_len (fun as M Q ⟨_,e,_⟩=>by rw [e];rfl) h
theorem p_roll_text (h:cs K fRollT vs H Q E):t_roll_text K { nx:=fun _ H'=>Q .non H',rt:=Q } (start N_roll_text vs) H:=fn_of h fun as M Qa h=>by
 obtain⟨es,rfl,hl,hp,q⟩:=h
 unfold t_roll_text
 refine s_ret (e_join (zs:= []) (e_str ⟨_,rfl,?_⟩))
 refine e_mapF (α:=En) (fun x=> .str (tEn x)) (i_tup (e_var rfl ⟨_,rfl,entA,es,rfl,small (by omega),fun x hx M' up=> ?_,?_⟩))
 ·exact c_name (by decide) (e_call (a_cons (e_var rfl (a_nil ⟨x,rfl,hp x hx,rfl,rfl⟩))))
 exact⟨es.map tEn,.inl (by rw [List.map_map];exact .lst),rollJ hl hp,dn0 q⟩
theorem p_letter_text_len (h:cs K fLetterT vs H Q E):vs.length=1:=fn_len (fun as M Q ⟨_,_,e,_⟩=>by rw [e];rfl) h
theorem p_letter_text (dg:DigK K) (h:cs K fLetterT vs H Q E):t_letter_text K { nx:=fun _ H'=>Q .non H',rt:=Q } (start N_letter_text vs) H:=fn_of h fun as M Qa h=>by
 obtain⟨l,k,rfl,hp,hk,hn,q⟩:=h
 unfold t_letter_text
 refine s_seq (s_asgG (e_var rfl (g_tup rfl (g_cons (g_name (g_cons (g_name (g_cons (g_name (g_cons (g_name (g_cons (g_name (g_cons (g_name (g_cons (g_name (g_nil ?_))))))))))))))))))
 refine s_seq (s_asg (e_lst (a_cons (e_var rfl (a_cons (e_var rfl (a_cons (e_call (a_cons (e_var rfl (a_nil ⟨some l.stamp,rfl,hp.st,?_⟩)))))))))))
 refine a_cons (e_call (a_cons (e_var rfl (a_nil ⟨l.seen,rfl,hp.seen,a_cons (e_cb (a_cons (e_var rfl (a_nil (l_strUI dg (lt4300 (k:=1000) (by decide) hp.gifts) ?_)))))⟩))))
 refine a_cons (e_call (a_cons (e_var rfl (a_nil ⟨l.given,k,rfl,hp.given,hk,a_cons (e_call (a_cons (e_var rfl (a_nil ⟨l.roll,rfl,hp.few,hp.roll,a_nil ⟨by show 7≤_;decide,?_⟩⟩))))⟩))))
 exact s_ret (e_join (zs:= []) (e_str ⟨_,rfl,e_var rfl ⟨ltW l,.inl .lst,ltJ hp hk,dn0 q⟩⟩))
end
abbrev N_m_stamp_text:List Str:= ["_law_stamp"]
def t_m_stamp_text (K:PySem.W.Frag):TS:=
 (tSeq (tIfS (tTest (tOp rIsN (tVar 0) (tC .non))) (tRet (tC (.str ("-" :Str)))) tNext)
  (tRet (Go.tFS ((Go.tFmtU K (tOp (rIxT K) (tVar 0) (tC (.int 0)))) :: ((tC (.str ("." :Str))) :: ((Go.tFmtU K (tOp (rIxT K) (tVar 0) (tC (.int 1)))) :: []))))))
abbrev N_m_row_text:List Str:= ["_law_row","_law_num","_law_e"]
def t_m_row_text (K:PySem.W.Frag):TS:=
 (tRet (tJoin K (tC (.str ("," :Str))) (tLc (iTup K (tVar 0)) (gTup K 2 (gCons (gName 1) (gCons (gName 2) gNil))) tYes (Go.tFS ((Go.tFmtU K (tVar 1)) :: ((tC (.str (">>" :Str))) :: ((Go.tFmtU K (tVar 2)) :: [])))) [1,2])))
theorem jn4 (a b c d y:Str):jn y [a,b,c,d]=a ++ y ++ (b ++ y ++ (c ++ y ++ d)):=by rw [jn_join];rfl
section
variable {K:PySem.W.Frag} {vs:List V} {H:Hp} {Q:VK} {E:XK} {Ex:XK} {Xa:XA} {s:Sv} {M:AM} {Qa:QA}
theorem m3 {a b y:Str} :(Str.empty ++ a ++ y ++ b:Str)=a ++ y ++ b:=TL.ext_tl (by simp only [TL.tl_append];rfl)
theorem lenE:(Str.empty).length=0:=rfl
/-- f"{i}y{j}" -/
theorem e_fII (dg:DigK K) {t1 t2:TE} {y:Str} {i j:Int} (h1:∀ {Q:QA},Q (.int i) M→EE K Ex Xa t1 s M Q) (h2:∀ {Q:QA},Q (.int j) M→EE K Ex Xa t2 s M Q) (b1:i.natAbs < 10^1500) (b2:j.natAbs < 10^1500) (hy:y.length≤3) (q:Qa (.str (sI i ++ y ++ sI j)) M):EE K Ex Xa (Go.tFS ((Go.tFmtU K t1) :: (tC (.str y)) :: (Go.tFmtU K t2) :: [])) s M Qa:=by
 have l1:=sI_len (by decide) b1
 have l2:=sI_len (by decide) b2
 refine e_fs (j_cons (e_fmtI dg (h1 ⟨_,rfl,lt4300 (by decide) b1,_,rfl,small ?_,j_cons (e_str ⟨_,rfl,small ?_,j_cons (e_fmtI dg (h2 ⟨_,rfl,lt4300 (by decide) b2,_,rfl,small ?_,j_nil ?_⟩))⟩)⟩)))
 ·rw [lenA,lenE];omega
 ·rw [lenA,lenA,lenE];omega
 ·rw [lenA,lenA,lenA,lenE];omega
 ·rw [m3];exact q
theorem p_m_stamp_text (dg:DigK K) (h:cs K fStampT vs H Q E):t_m_stamp_text K { nx:=fun _ H'=>Q .non H',rt:=Q } (start N_m_stamp_text vs) H:=fn_of h fun as M Qa h=>by
 obtain⟨o,rfl,hp,q⟩:=h
 unfold t_m_stamp_text
 cases o with
 | none=>exact s_seq (s_if (t_testB (e_op (e_var rfl (e_non (o_isN ⟨_,rfl,if_t rfl (s_ret (e_str (dn0 q)))⟩))))))
 | some s=>
  obtain⟨h1,h2⟩:=hp s rfl
  have up:∀ {i:Int},Nb14 i→i.natAbs < 10^1500:=fun h=>Nat.lt_of_lt_of_le h (Nat.pow_le_pow_right (by decide) (by decide))
  refine s_seq (s_if (t_testB (e_op (e_var rfl (e_non (o_isN ⟨_,rfl,if_f rfl (s_next ?_)⟩))))))
  exact s_ret (e_fII dg (fun q=>e_op (e_var rfl (e_int (o_ixT (atI_at (i:=0) rfl) q)))) (fun q=>e_op (e_var rfl (e_int (o_ixT (atI_at (i:=1) rfl) q)))) (up h1) (up h2) (by decide) (dn0 q))
theorem p_m_row_text_len (h:cs K fRowT vs H Q E):vs.length=1:=p_row_text_len h
theorem p_m_row_text (dg:DigK K) (h:cs K fRowT vs H Q E):t_m_row_text K { nx:=fun _ H'=>Q .non H',rt:=Q } (start N_m_row_text vs) H:=fn_of h fun as M Qa h=>by
 obtain⟨r,k,rfl,hp,hk,q⟩:=h
 unfold t_m_row_text
 refine s_ret (e_join (zs:= []) (e_str ⟨_,rfl,?_⟩))
 refine e_mapF (α:=Pt) (fun x=> .str (partT x)) (i_tup (e_var rfl ⟨_,rfl,ptA,r,rfl,small (by have:=hp.1;omega),fun x hx M' up=> ?_,?_⟩))
 ·obtain⟨h1,h2⟩:=hp.2 x hx
  refine c_tup rfl (c_cons (c_name (by decide) (c_cons (c_name (by decide) (c_nil ?_)))))
  exact e_fII dg (fun q=>e_var rfl q) (fun q=>e_var rfl q) (Nat.lt_of_lt_of_le h1 (Nat.pow_le_pow_right (by decide) hk)) (Nat.lt_of_lt_of_le (by rw [Int.natAbs_natCast];exact h2) (Nat.pow_le_pow_right (by decide) (by decide:6≤1500))) (by decide) ⟨rfl,rfl⟩
 ·refine⟨r.map partT,.inl (by rw [List.map_map];exact .lst),?_,dn0 q⟩
  have:=(hp.join hk).1
  omega
end
abbrev N_m_entry_text:List Str:= ["_law_entry","_law_name","_law_life","_law_version","_law_numbers_here","_law_others","_law_told","_law_number"]
def t_m_entry_text (K:PySem.W.Frag):TS:=
 (tSeq (tAsg (tVar 0) (gTup K 5 (gCons (gName 1) (gCons (gName 2) (gCons (gName 3) (gCons (gName 4) (gCons (gName 5) gNil)))))))
  (tSeq (tAsg (tOp (rIxL K) (tLst (tCons (tC (.str ("-" :Str))) (tCons (tJoin K (tC (.str ("," :Str))) (tVar 5)) tNil))) (tCB rInt1 (tCons (tOp (rNeD K) (tVar 5) (tTup tNil)) tNil))) (gName 6))
  (tRet (tOp rAddStr (tOp rAddStr (tOp rAddStr (Go.tFS ((Go.tFmtU K (tVar 1)) :: ((tC (.str ("=" :Str))) :: ((Go.tFmtU K (tVar 2)) :: ((tC (.str ("." :Str))) :: ((Go.tFmtU K (tVar 3)) :: ((tC (.str ("=" :Str))) :: []))))))) (tJoin K (tC (.str ("," :Str))) (tLc (iTup K (tVar 4)) (gName 7) tYes (tCB (Go.rStrU K) (tCons (tVar 7) tNil)) [7]))) (tC (.str ("=" :Str)))) (tVar 6)))))
abbrev N_m_letter_text:List Str:= ["_law_letter","_law_one","_law_other","_law_stamp","_law_seen","_law_gifts","_law_given","_law_roll","_law_words","_law_entry"]
def t_m_letter_text (K:PySem.W.Frag):TS:=
 (tSeq (tAsg (tVar 0) (gTup K 7 (gCons (gName 1) (gCons (gName 2) (gCons (gName 3) (gCons (gName 4) (gCons (gName 5) (gCons (gName 6) (gCons (gName 7) gNil)))))))))
  (tSeq (tAsg (tLst (tCons (tVar 1) (tCons (tVar 2) (tCons (tCall (cs K fStampT) [] E0 (tCons (tVar 3) tNil)) (tCons (tCall (cs K fStampT) [] E0 (tCons (tVar 4) tNil)) (tCons (tCB (Go.rStrU K) (tCons (tVar 5) tNil)) (tCons (tCall (cs K fRowT) [] E0 (tCons (tVar 6) tNil)) tNil))))))) (gName 8))
  (tRet (tJoin K (tC (.str (" " :Str))) (tOp rCat (tVar 8) (tLc (iTup K (tVar 7)) (gName 9) tYes (tCall (cs K fEntryT) [] E0 (tCons (tVar 9) tNil)) [9]))))))
abbrev N_m_deed_text:List Str:= ["_law_deed_here","_law_one","_law_number"]
def t_m_deed_text (K:PySem.W.Frag):TS:=
 (tSeq (tIfS (tTest (tOp (rIn K false) (tOp (rIxT K) (tVar 0) (tC (.int 0))) (tTup (tCons (tC (.str ("set" :Str))) (tCons (tC (.str ("join" :Str))) tNil))))) (tRet (tJoin K (tC (.str (" " :Str))) (tOp rCat (tCB (Evl.rListS K) (tCons (tSl (rSlA K) (tVar 0) tNoPart (tPart (tC (.int 2)))) tNil)) (tLc (iTup K (tOp (rIxT K) (tVar 0) (tC (.int 2)))) (gName 2) tYes (tCB (Go.rStrU K) (tCons (tVar 2) tNil)) [2])))) tNext)
  (tRet (tJoin K (tC (.str (" " :Str))) (tLc (iTup K (tVar 0)) (gName 1) tYes (tCB (Go.rStrU K) (tCons (tVar 1) tNil)) [1]))))
abbrev N_m_row_of_book:List Str:= ["_law_row","_law_deed_here","_law_what","_law_letter"]
def t_m_row_of_book (K:PySem.W.Frag):TS:=
 (tSeq (tAsg (tVar 0) (gTup K 2 (gCons (gName 1) (gCons (gName 2) gNil))))
  (tSeq (tIfS (tTest (tOp rEq (tOp (rIxT K) (tVar 1) (tC (.int 0))) (tC (.str ("come" :Str))))) (tRet (tOp rAddStr (tOp rAddStr (tCall (cs K fDeedT) [] E0 (tCons (tVar 1) tNil)) (tC (.str (" : " :Str)))) (tDGet (tDisp (((tC (.str ("" :Str))),(tC (.str ("nothing" :Str)))) :: (((tC (.str ("heard" :Str))),(tC (.str ("heard" :Str)))) :: (((tC (.str ("taken" :Str))),(tC (.str ("taken" :Str)))) :: [])))) (tVar 2)))) tNext)
  (tSeq (tIfS (tTest (tOp rEq (tOp (rIxT K) (tVar 1) (tC (.int 0))) (tC (.str ("turn" :Str))))) (tRet (tJoin K (tC (.str (" ; " :Str))) (tOp rCat (tLst (tCons (tCall (cs K fDeedT) [] E0 (tCons (tVar 1) tNil)) tNil)) (tLc (iTup K (tVar 2)) (gName 3) tYes (tCall (cs K fLetterT) [] E0 (tCons (tVar 3) tNil)) [3])))) tNext)
  (tRet (tCall (cs K fDeedT) [] E0 (tCons (tVar 1) tNil))))))
theorem jn_cons {y x:Str} {zs:List Str} (h:zs≠ []):jn y (x :: zs)=x ++ y ++ jn y zs:=by
 cases zs with
 | nil=>exact absurd rfl h
 | cons z zs=>rw [jn_join,jn_join];rfl
theorem jn_one {y x:Str} :jn y [x]=x:=by rw [jn_join];rfl
theorem jn_app {y:Str} {zs:List Str} (h:zs≠ []):∀xs:List Str,jn y (xs ++ [jn y zs])=jn y (xs ++ zs)
 | []=>jn_one
 | x :: xs=>by
  rw [List.cons_append,List.cons_append,jn_cons (by simp),jn_cons (by simp [h]),jn_app h xs]
theorem tEn_eq (e:En):Str.empty ++ e.nm ++ ("=" :Str) ++ sI e.li ++ ("." :Str) ++ sI e.ve ++ ("=" :Str) ++ tNums e.nu ++ ("=" :Str) ++ tOthers e.ot=tEn e:=by
 unfold tEn tStamp
 rw [jn4]
 apply TL.ext_tl
 simp only [TL.tl_append,List.append_assoc]
 rfl
theorem tLt_eq {l:Lt} (h:l.roll≠ []):jn " " ([l.one,l.other,tStamp (some l.stamp),tStamp l.seen,sI l.gifts,tRow l.given] ++ l.roll.map tEn)=tLt l:=by
 rw [← jn_app (by simp [h])]
 rfl
theorem ltJ2 {k:Nat} {l:Lt} (h:LtT k l) (hk:k≤1500):(([l.one,l.other,tStamp (some l.stamp),tStamp l.seen,sI l.gifts,tRow l.given] ++ l.roll.map tEn).map (·.length)).sum+([l.one,l.other,tStamp (some l.stamp),tStamp l.seen,sI l.gifts,tRow l.given] ++ l.roll.map tEn).length*(" " :Str).length≤16777216:=by
 have h1:=tStamp_len h.st
 have h2:=tStamp_len h.seen
 have h3:(sI l.gifts).length≤1001:=sI_len (by decide) h.gifts
 have h4:=tRow_len h.given hk
 have h6:=h.one.2.1
 have h7:=h.other.2.1
 have h5:=sum_le (f:=fun z:Str=>z.length) (b:=163) (l:=l.roll.map tEn) fun z hz=>by
  obtain⟨e,he,rfl⟩:=List.mem_map.mp hz
  exact tEn_len (h.roll e he)
 have h8:(l.roll.map tEn).length≤64:=by rw [List.length_map];exact h.few
 have h9:(l.roll.map tEn).length*163≤64*163:=Nat.mul_le_mul_right _ h8
 rw [List.map_append,List.sum_append,List.length_append,show(" " :Str).length=1 from rfl]
 simp only [List.map_cons,List.map_nil,List.sum_cons,List.sum_nil,List.length_cons,List.length_nil]
 have h5':((l.roll.map tEn).map (·.length)).sum≤(l.roll.map tEn).length*163:=h5
 omega
theorem GH.tx {hs:List (Str×List Int)} {n:Nat} (g:GH hs n):∀h∈hs,h.1.length≤8∧h.2.length≤3∧ ∀i∈h.2,Nb14 i:=fun h hh=>⟨(g.nm h hh).2.1,by have:=g.len h hh;have:=g.n3;omega,fun i hi=>by
 have:=g.num h hh i hi
 unfold Nb14
 have e:(10:Nat)^14=100000000000000:=by decide
 omega⟩
section
variable {K:PySem.W.Frag} {vs:List V} {H:Hp} {Q:VK} {E:XK} {Ex:XK} {Xa:XA} {s:Sv} {M:AM} {Qa:QA}
theorem p_m_entry_text (dg:DigK K) (h:cs K fEntryT vs H Q E):t_m_entry_text K { nx:=fun _ H'=>Q .non H',rt:=Q } (start N_m_entry_text vs) H:=fn_of h fun as M Qa h=>by
 obtain⟨e,rfl,hp,q⟩:=h
 unfold t_m_entry_text
 have lt:=tOthers_len hp.ot fun z hz=>(hp.on z hz).2.1
 have ln:=tNums_len hp.nu hp.nb
 have ll:=hp.li.len
 have lv:=hp.ve.len
 have lm:=hp.nm.2.1
 refine s_seq (s_asgG (e_var rfl (g_tup rfl (g_cons (g_name (g_cons (g_name (g_cons (g_name (g_cons (g_name (g_cons (g_name (g_nil ?_))))))))))))))
 refine s_seq (s_asg (e_op (e_lst (a_cons (e_str (a_cons (e_join (zs:= []) (e_str ⟨_,rfl,e_var rfl ⟨e.ot,.inr rfl,othJ hp.ot hp.on,a_nil ⟨len2,?_⟩⟩⟩))))))))
 refine e_cb (a_cons (e_op (e_var rfl (e_tup (a_nil ⟨Nat.zero_le _,o_neNilT (k:=0) (Lay.map fun z hz=>Lay.str (hp.on z hz).tx) (by decide) (a_nil (l_intB ?_))⟩)))))
 refine o_ixL (a:= .str (tOthers e.ot)) .lst ?_ ?_
 ·unfold tOthers
  cases e.ot with
  | nil=>rfl
  | cons z zs=>rfl
 refine s_ret (e_op (e_op (e_op (e_fs (j_cons (e_fmtU (e_var rfl ⟨_,rfl,small (by omega),_,rfl,small ?_,j_cons (e_str ⟨_,rfl,small ?_,j_cons (e_fmtI dg (e_var rfl ⟨_,rfl,hp.li.d,_,rfl,small ?_,j_cons (e_str ⟨_,rfl,small ?_,j_cons (e_fmtI dg (e_var rfl ⟨_,rfl,hp.ve.d,_,rfl,small ?_,j_cons (e_str ⟨_,rfl,small ?_,j_nil ?_⟩)⟩))⟩)⟩))⟩)⟩)))))))
 ·rw [lenA,lenE];omega
 ·rw [lenA,lenA,lenE,show("=" :Str).length=1 from rfl];omega
 ·rw [lenA,lenA,lenA,lenE,show("=" :Str).length=1 from rfl];omega
 ·rw [lenA,lenA,lenA,lenA,lenE,show("=" :Str).length=1 from rfl,show("." :Str).length=1 from rfl];omega
 ·rw [lenA,lenA,lenA,lenA,lenA,lenE,show("=" :Str).length=1 from rfl,show("." :Str).length=1 from rfl];omega
 ·rw [lenA,lenA,lenA,lenA,lenA,lenA,lenE,show("=" :Str).length=1 from rfl,show("." :Str).length=1 from rfl];omega
 refine e_join (zs:= []) (e_str ⟨_,rfl,?_⟩)
 refine e_mapF (α:=Int) (fun x=> .str (sI x)) (i_tup (e_var rfl ⟨_,rfl,A.int,e.nu,rfl,small (by have:=hp.nu;omega),fun x hx M' up=> ?_,?_⟩))
 ·exact c_name (by decide) (e_cb (a_cons (e_var rfl (a_nil (l_strUI dg (hp.nb x hx).d ⟨rfl,rfl⟩)))))
 refine⟨e.nu.map sI,.inl (by rw [List.map_map];exact .lst),numsJ hp.nu hp.nb,o_addS (small ?_) (e_str (o_addS (small ?_) (e_var rfl (o_addS (small ?_) (dn0 ?_)))))⟩
 ·rw [lenA,lenA,lenA,lenA,lenA,lenA,lenE,show("=" :Str).length=1 from rfl,show("." :Str).length=1 from rfl,show(Txt.join (",") (e.nu.map sI))=tNums e.nu from rfl];omega
 ·rw [lenA,lenA,lenA,lenA,lenA,lenA,lenA,lenE,show("=" :Str).length=1 from rfl,show("." :Str).length=1 from rfl,show(Txt.join (",") (e.nu.map sI))=tNums e.nu from rfl];omega
 ·rw [lenA,lenA,lenA,lenA,lenA,lenA,lenA,lenA,lenE,show("=" :Str).length=1 from rfl,show("." :Str).length=1 from rfl,show(Txt.join (",") (e.nu.map sI))=tNums e.nu from rfl];omega
 ·rw [show(Txt.join (",") (e.nu.map sI))=tNums e.nu from rfl,tEn_eq]
  exact q
theorem p_m_letter_text (dg:DigK K) (h:cs K fLetterT vs H Q E):t_m_letter_text K { nx:=fun _ H'=>Q .non H',rt:=Q } (start N_m_letter_text vs) H:=fn_of h fun as M Qa h=>by
 obtain⟨l,k,rfl,hp,hk,hn,q⟩:=h
 unfold t_m_letter_text
 refine s_seq (s_asgG (e_var rfl (g_tup rfl (g_cons (g_name (g_cons (g_name (g_cons (g_name (g_cons (g_name (g_cons (g_name (g_cons (g_name (g_cons (g_name (g_nil ?_))))))))))))))))))
 refine s_seq (s_asg (e_lst (a_cons (e_var rfl (a_cons (e_var rfl (a_cons (e_call (a_cons (e_var rfl (a_nil ⟨some l.stamp,rfl,hp.st,?_⟩)))))))))))
 refine a_cons (e_call (a_cons (e_var rfl (a_nil ⟨l.seen,rfl,hp.seen,a_cons (e_cb (a_cons (e_var rfl (a_nil (l_strUI dg (lt4300 (k:=1000) (by decide) hp.gifts) ?_)))))⟩))))
 refine a_cons (e_call (a_cons (e_var rfl (a_nil ⟨l.given,k,rfl,hp.given,hk,a_nil ⟨by show 6≤_;decide,?_⟩⟩))))
 refine s_ret (e_join (zs:= []) (e_str ⟨_,rfl,e_op (e_var rfl ?_)⟩))
 refine e_mapF (α:=En) (fun x=> .str (tEn x)) (i_tup (e_var rfl ⟨_,rfl,entA,l.roll,rfl,small (by have:=hp.few;omega),fun x hx M' up=> ?_,?_⟩))
 ·exact c_name (by decide) (e_call (a_cons (e_var rfl (a_nil ⟨x,rfl,hp.roll x hx,rfl,rfl⟩))))
 refine o_cat .lst .lst (small (by rw [List.length_map];have:=hp.few;show 6+_≤_;omega)) ⟨[l.one,l.other,tStamp (some l.stamp),tStamp l.seen,sI l.gifts,tRow l.given] ++ l.roll.map tEn,.inl (by rw [List.map_append,List.map_map];exact .lst),ltJ2 hp hk,dn0 ?_⟩
 have e:=tLt_eq hn
 unfold jn at e
 rw [e]
 exact q
theorem p_m_deed_text (dg:DigK K) (h:cs K fDeedT vs H Q E):t_m_deed_text K { nx:=fun _ H'=>Q .non H',rt:=Q } (start N_m_deed_text vs) H:=fn_of h fun as M Qa h=>by
 obtain⟨d,rfl,hb,q⟩:=h
 unfold t_m_deed_text
 have jz:=Nat.le_trans (tDd_len hb).1 (by decide:5010≤16777216)
 rcases deed_cases hb with⟨n,ns,e1,e2,hw,hl,hn⟩ | ⟨x,xs,e1,hl,e2,hw,hx⟩
 ·rw [e1]
  refine s_seq (s_if (t_testB (e_op (e_op (e_var rfl (e_int (o_ixT (atI_at (i:=0) rfl) (e_tup (a_cons (e_str (a_cons (e_str (a_nil ⟨len2,o_inStr (names:=setJoin) (.inr rfl) ⟨_,rfl,if_t (decide_eq_true hw) ?_⟩⟩)))))))))))))
  refine s_ret (e_join (zs:= []) (e_str ⟨_,rfl,e_op (e_cb (a_cons (e_sl (e_var rfl (e_noPart (e_part (e_int ⟨2,rfl,o_slT (a_nil (l_listL (.inr rfl) ?_))⟩)))))))⟩))
  refine e_mapF (α:=Int) (fun x=> .str (sI x)) (i_tup (e_op (e_var rfl (e_int (o_ixT (atI_at (i:=2) rfl) ⟨_,rfl,A.int,ns,rfl,small (by omega),fun x hx M' up=> ?_,?_⟩)))))
  ·exact c_name (by decide) (e_cb (a_cons (e_var rfl (a_nil (l_strUI dg (hn x hx).d ⟨rfl,rfl⟩)))))
  ·rw [show cutA [A.str d.wd,A.str n,A.tup (ns.map A.int)] none (some 2)= [A.str d.wd,A.str n] from rfl]
   refine o_cat .lst .lst (small (by rw [List.length_map];show 2+_≤_;omega)) ⟨ddW d,.inl ?_,jz,dn0 q⟩
   rw [e2,List.map_append,List.map_map]
   exact .lst
 ·rw [e1]
  refine s_seq (s_if (t_testB (e_op (e_op (e_var rfl (e_int (o_ixT (atI_at (i:=0) rfl) (e_tup (a_cons (e_str (a_cons (e_str (a_nil ⟨len2,o_inStr (names:=setJoin) (.inr rfl) ⟨_,rfl,if_f (decide_eq_false hw) (s_next ?_)⟩⟩)))))))))))))
  refine s_ret (e_join (zs:= []) (e_str ⟨_,rfl,?_⟩))
  refine e_mapF (α:=A) txA (i_tup (e_var rfl ⟨_,rfl,id,_,(List.map_id _).symm,small (by show xs.length+2≤_;omega),fun x hx' M' up=> ?_,?_⟩))
  ·exact c_name (by decide) (e_cb (a_cons (e_var rfl (a_nil (l_strTx dg (hx _ hx') ⟨rfl,rfl⟩)))))
  ·exact⟨ddW d,.inl (by rw [e2];exact .lst),jz,dn0 q⟩
/-- the laws' own words -/
abbrev wdD:List (Key×A):= [(.inr ("" :Str),.str "nothing"),(.inr ("heard" :Str),.str "heard"),(.inr ("taken" :Str),.str "taken")]
theorem e_wds {ty:TE} {z:Str} (hz:wdB z) (h:∀ {M:AM} {Q:QA},Q (.str z) M→EE K Ex Xa ty s M Q) (q:∀p,Qa (.str (wdT z)) ((p,.dic wdD) :: M)):EE K Ex Xa (tDGet (tDisp (((tC (.str ("" :Str))),(tC (.str ("nothing" :Str)))) :: (((tC (.str ("heard" :Str))),(tC (.str ("heard" :Str)))) :: (((tC (.str ("taken" :Str))),(tC (.str ("taken" :Str)))) :: [])))) ty) s M Qa:=by
 refine e_dget (e_disp fun p=>e_str (e_str (e_str (e_str (e_str (e_str ⟨wdD,_,rfl,by show 3≤15;decide,.here,h ⟨p,wdD,.inr z,.str (wdT z),rfl,?_,rfl,?_,q p⟩⟩))))))
 ·rw [show mergeA [] wdD=wdD by kernel_rfl];exact .here
 ·rcases hz with rfl | rfl | rfl <;> kernel_rfl
theorem p_m_row_of_book (h:cs K fBookRowT vs H Q E):t_m_row_of_book K { nx:=fun _ H'=>Q .non H',rt:=Q } (start N_m_row_of_book vs) H:=fn_of h fun as M Qa h=>by
 obtain⟨x,k,rfl,hp,hk,hr,q⟩:=h
 unfold t_m_row_of_book
 refine s_seq (s_asgG (e_var rfl (g_tup rfl (g_cons (g_name (g_cons (g_name (g_nil ?_))))))))
 have tl:=tBk_len hk hp
 rcases noted_cases hp with⟨m,z,rfl,h1,h2⟩ | ⟨n,ls,rfl,h1,h2,h3⟩ | ⟨h1,h2,h3,h4,h5⟩
 ·refine s_seq (s_if (t_testB (e_op (e_op (e_var rfl (e_int (o_ixT rfl (e_str (o_eqS ⟨_,rfl,if_t rfl ?_⟩)))))))))
  have a1:=(tDd_len (d:= .come m) h1).2
  have a2:=wdT_len h2
  refine s_ret (e_op (e_op (e_call (a_cons (e_var rfl (a_nil ⟨.come m,rfl,h1,e_str (o_addS (small ?_) (e_wds h2 (fun q=>e_var rfl q) fun p=>o_addS (small ?_) (dnD (dn0 q))))⟩))))))
  ·rw [show(" : " :Str).length=3 from rfl];omega
  ·rw [lenA,show(" : " :Str).length=3 from rfl];omega
 ·refine s_seq (s_if (t_testB (e_op (e_op (e_var rfl (e_int (o_ixT rfl (e_str (o_eqS ⟨_,rfl,if_f rfl (s_next ?_)⟩)))))))))
  refine s_seq (s_if (t_testB (e_op (e_op (e_var rfl (e_int (o_ixT rfl (e_str (o_eqS ⟨_,rfl,if_t rfl ?_⟩)))))))))
  refine s_ret (e_join (zs:= []) (e_str ⟨_,rfl,e_op (e_lst (a_cons (e_call (a_cons (e_var rfl (a_nil ⟨.turn n,rfl,h1,a_nil ⟨by show 1≤_;decide,?_⟩⟩))))))⟩))
  refine e_mapF (α:=Lt) (fun l=> .str (tLt l)) (i_tup (e_var rfl ⟨_,rfl,ltA,ls,rfl,small (by omega),fun l hl M' up=> ?_,?_⟩))
  ·exact c_name (by decide) (e_call (a_cons (e_var rfl (a_nil ⟨l,k,rfl,h3 l hl,hk,hr ls rfl l hl,rfl,rfl⟩))))
  ·refine o_cat .lst .lst (small (by rw [List.length_map];show 1+_≤_;omega)) ⟨tDd (.turn n) :: ls.map tLt,.inl (by rw [List.map_cons,List.map_map];exact .lst),?_,dn0 q⟩
   have:=tl.2 n ls rfl
   omega
 ·obtain⟨d,w⟩:=x
  obtain⟨y,ys,e⟩:=dd_fst d
  have fs:∀z:Str,d.wd≠z→decide (d.wd=z)=false:=fun z h=>decide_eq_false h
  rw [show ddA (d,w).1=ddA d from rfl,e]
  refine s_seq (s_if (t_testB (e_op (e_op (e_var rfl (e_int (o_ixT (atI_at (i:=0) rfl) (e_str (o_eqS ⟨_,rfl,if_f (fs _ h2) (s_next ?_)⟩)))))))))
  refine s_seq (s_if (t_testB (e_op (e_op (e_var rfl (e_int (o_ixT (atI_at (i:=0) rfl) (e_str (o_eqS ⟨_,rfl,if_f (fs _ h3) (s_next ?_)⟩)))))))))
  refine s_ret (e_call (a_cons (e_var rfl (a_nil ⟨d,by rw [e],h1,dn0 ?_⟩))))
  rw [← h4]
  exact q
end
theorem sI_tl (i:Int):TL.tl (sI i)=if i < 0 then 45 :: TL.numL i.natAbs else TL.numL i.natAbs:=by
 cases i with
 | ofNat n=>rw [if_neg (by show ¬ ((n:Int) < 0);omega)];exact TL.tl_num n
 | negSucc n=>
  rw [if_pos (Int.negSucc_lt_zero n)]
  show TL.tl (Str.ofString ("-" ++ toString (n+1)))=45 :: TL.numL (n+1)
  rw [TL.tl_ofString,String.toList_append,List.map_append]
  show 45 :: ((Nat.repr (n+1)).toList.map Char.toNat)=45 :: TL.numL (n+1)
  rw [Nat.toList_repr]
  rfl
theorem sI_free {i:Int} {s:Nat} (h:s < 45∨57 < s∨s=46∨s=47):s∉TL.tl (sI i):=fun hm=>by
 rw [sI_tl] at hm
 have key:s∈TL.numL i.natAbs→False:=fun hm=>TL.numL_free (by omega) hm
 split at hm
 ·rcases List.mem_cons.mp hm with e | hm
  ·omega
  ·exact key hm
 ·exact key hm
theorem numL_hd {n:Nat} (h:(TL.numL n).head? =some 48):n=0:=by
 induction n using Nat.strongRecOn with
 | _ n ih=>
  by_cases hn:n < 10
  ·rw [TL.numL_lt hn] at h
   simp at h
   exact h
  ·rw [TL.numL_step (by omega)] at h
   have ne:=TL.numL_ne (n / 10)
   rw [List.head?_append,Option.or_of_isSome (by cases e:TL.numL (n / 10) with | nil=>exact absurd e ne | cons a l=>rfl)] at h
   have:=ih (n / 10) (by omega) h
   omega
theorem figL_sI (i:Int):figL (sI i)=TL.numL i.natAbs:=by
 have e:=sI_tl i
 unfold figL
 show(if(TL.tl (sI i)).take 1= [45] then(TL.tl (sI i)).drop 1 else TL.tl (sI i))=_
 rw [e]
 split
 ·rfl
 ·rename_i h
  refine if_neg fun e=> ?_
  have:(45:Nat)∈TL.numL i.natAbs:=List.mem_of_mem_take (by rw [e];exact List.mem_singleton.mpr rfl)
  exact TL.numL_free (by decide) this
theorem pNum_sI {i:Int} (h:i.natAbs < 10^1000):pNum (sI i)=some i:=by
 have e:=figL_sI i
 have ok:numOk (sI i)=true:=by
  unfold numOk
  rw [e]
  simp only [Bool.and_eq_true,decide_eq_true_eq]
  refine⟨⟨⟨?_,TL.numL_len (by decide) h⟩,List.all_eq_true.mpr fun c hc=>decide_eq_true (TL.numL_digits _ c hc)⟩,?_⟩
  ·exact List.length_pos_iff.mpr (TL.numL_ne _)
  ·by_cases h0:(TL.numL i.natAbs).head? =some 48
   ·have:=numL_hd h0
    have:i=0:=by omega
    subst this
    decide
   ·rw [decide_eq_false h0];rfl
 unfold pNum
 rw [if_pos ok]
 unfold numV
 rw [e,TL.numL_val]
 show some (if(TL.tl (sI i)).take 1= [45] then _ else _)=_
 rw [sI_tl]
 split
 ·rw [show List.take 1 (45 :: TL.numL i.natAbs)= [45] from rfl,if_pos rfl]
  congr 1
  omega
 ·rw [if_neg]
  ·congr 1
   omega
  ·intro e
   have:(45:Nat)∈TL.numL i.natAbs:=List.mem_of_mem_take (by rw [e];exact List.mem_singleton.mpr rfl)
   exact TL.numL_free (by decide) this
theorem allSome_sI {ns:List Int} (h:∀i∈ns,i.natAbs < 10^1000):allSome ((ns.map sI).map pNum)=some ns:=by
 rw [List.map_map,show ns.map (pNum∘sI)=ns.map some from List.map_congr_left fun i hi=>pNum_sI (h i hi),allSome_map]
theorem isTx_nmB {z:Str} (h:isTx8 z):nmB z=true:=by
 unfold nmB
 simp only [Bool.and_eq_true,decide_eq_true_eq]
 exact⟨⟨h.1,h.2.1⟩,List.all_eq_true.mpr fun c hc=>decide_eq_true (h.2.2 c hc)⟩
theorem tx_free {z:Str} (h:isTx8 z) {s:Nat} (hs:s < 97∨122 < s):s∉TL.tl z:=fun hm=>by
 have:=h.2.2 s hm
 omega
theorem jn_split {ws:List Str} (ne:ws≠ []) (h:∀w∈ws,32∉TL.tl w):Txt.split (jn " " ws) " " =ws:=TL.split_join (y:= " ") (s:=32) (S:= []) rfl (by decide +kernel) ne h
theorem num1000 {i:Int} (h:i.natAbs≤1000000000000):i.natAbs < 10^1000:=Nat.lt_of_lt_of_le (m:=10^13) (Nat.lt_of_le_of_lt h (by decide)) (Nat.pow_le_pow_right (by decide) (by decide))
theorem numsB_b {ns:List Int} (h:numsB (.tup (ns.map A.int))=true):1≤ns.length∧ns.length≤3∧ ∀i∈ns,i.natAbs≤1000000000000:=by
 have h:(decide (1≤(ns.map A.int).length) && decide ((ns.map A.int).length≤3) && (ns.map A.int).all numB)=true:=h
 rw [Bool.and_eq_true,Bool.and_eq_true,List.length_map] at h
 refine⟨of_decide_eq_true h.1.1,of_decide_eq_true h.1.2,fun i hi=> ?_⟩
 have:=List.all_eq_true.mp h.2 (.int i) (List.mem_map.mpr ⟨i,hi,rfl⟩)
 have:=of_decide_eq_true this
 omega
/-- a deed whose number can be read again -/
def Dd.kB:Dd→Prop
 | .come k=>k < 10^1000
 | _=>True
theorem ddW_free {d:Dd} (nm:d.nmd) {s:Nat} (hs:s < 45∨57 < s∧s < 97∨122 < s∨s=46∨s=47):∀w∈ddW d,s∉TL.tl w:=fun w hw=>by
 have lit:∀ {z:Str},(∀c∈TL.tl z,97≤c∧c≤122)→s∉TL.tl z:=fun h hm=>by have:=h s hm;omega
 have num:∀i:Int,s∉TL.tl (sI i):=fun i=>sI_free (by omega)
 have tx:∀ {z:Str},isTx8 z→s∉TL.tl z:=fun h=>tx_free h (by omega)
 cases d with
 | turn n=>simp only [ddW,List.mem_cons,List.not_mem_nil,or_false] at hw;rcases hw with rfl | rfl;exact lit (by decide);exact tx nm
 | fall n=>simp only [ddW,List.mem_cons,List.not_mem_nil,or_false] at hw;rcases hw with rfl | rfl;exact lit (by decide);exact tx nm
 | back n=>simp only [ddW,List.mem_cons,List.not_mem_nil,or_false] at hw;rcases hw with rfl | rfl;exact lit (by decide);exact tx nm
 | fresh n=>simp only [ddW,List.mem_cons,List.not_mem_nil,or_false] at hw;rcases hw with rfl | rfl;exact lit (by decide);exact tx nm
 | leave n=>simp only [ddW,List.mem_cons,List.not_mem_nil,or_false] at hw;rcases hw with rfl | rfl;exact lit (by decide);exact tx nm
 | come k=>simp only [ddW,List.mem_cons,List.not_mem_nil,or_false] at hw;rcases hw with rfl | rfl;exact lit (by decide);exact num _
 | tie n o=>simp only [ddW,List.mem_cons,List.not_mem_nil,or_false] at hw;rcases hw with rfl | rfl | rfl;exact lit (by decide);exact tx nm.1;exact tx nm.2
 | cut n o=>simp only [ddW,List.mem_cons,List.not_mem_nil,or_false] at hw;rcases hw with rfl | rfl | rfl;exact lit (by decide);exact tx nm.1;exact tx nm.2
 | set n ns=>
  rcases List.mem_append.mp hw with hw | hw
  ·simp only [List.mem_cons,List.not_mem_nil,or_false] at hw
   rcases hw with rfl | rfl
   ·exact lit (by decide)
   ·exact tx nm
  ·obtain⟨i,_,rfl⟩:=List.mem_map.mp hw
   exact num i
 | join n ns=>
  rcases List.mem_append.mp hw with hw | hw
  ·simp only [List.mem_cons,List.not_mem_nil,or_false] at hw
   rcases hw with rfl | rfl
   ·exact lit (by decide)
   ·exact tx nm
  ·obtain⟨i,_,rfl⟩:=List.mem_map.mp hw
   exact num i
theorem ddW_ne (d:Dd):ddW d≠ []:=by cases d <;> exact fun h=>nomatch h
theorem tDd_split {d:Dd} (nm:d.nmd):Txt.split (tDd d) " " =ddW d:=jn_split (ddW_ne d) (ddW_free nm (by decide))
theorem pDeed_tDd {d:Dd} (nm:d.nmd) (fb:d.formB=true) (kb:d.kB):pDeed (tDd d)=some d:=by
 unfold pDeed
 rw [tDd_split nm]
 cases d with
 | turn n=>show pDeed2 "turn" n=_;unfold pDeed2;rw [if_neg (by decide),if_pos (isTx_nmB nm),if_pos rfl]
 | fall n=>show pDeed2 "fall" n=_;unfold pDeed2;rw [if_neg (by decide),if_pos (isTx_nmB nm),if_neg (by decide),if_pos rfl]
 | back n=>show pDeed2 "back" n=_;unfold pDeed2;rw [if_neg (by decide),if_pos (isTx_nmB nm),if_neg (by decide),if_neg (by decide),if_pos rfl]
 | fresh n=>show pDeed2 "fresh" n=_;unfold pDeed2;rw [if_neg (by decide),if_pos (isTx_nmB nm),if_neg (by decide),if_neg (by decide),if_neg (by decide),if_pos rfl]
 | leave n=>show pDeed2 "leave" n=_;unfold pDeed2;rw [if_neg (by decide),if_pos (isTx_nmB nm),if_neg (by decide),if_neg (by decide),if_neg (by decide),if_neg (by decide),if_pos rfl]
 | come k=>
  show pDeed2 "come" (sI (k:Int))=_
  unfold pDeed2
  rw [if_pos rfl,pNum_sI (by rw [Int.natAbs_natCast];exact kb)]
  show(if(0:Int)≤(k:Int) then some (Dd.come (k:Int).toNat) else none)=_
  rw [if_pos (Int.natCast_nonneg k),Int.toNat_natCast]
 | tie n o=>
  have ne:o≠n:=of_decide_eq_false (by have h:(!decide (o=n))=true:=fb;cases e:decide (o=n) with | true=>rw [e] at h;cases h | false=>rfl)
  show pDeed3 "tie" n o []=_
  unfold pDeed3
  rw [if_pos (isTx_nmB nm.1),if_neg (by decide),if_pos ⟨rfl,isTx_nmB nm.2,ne⟩,if_pos rfl]
 | cut n o=>
  have ne:o≠n:=of_decide_eq_false (by have h:(!decide (o=n))=true:=fb;cases e:decide (o=n) with | true=>rw [e] at h;cases h | false=>rfl)
  show pDeed3 "cut" n o []=_
  unfold pDeed3
  rw [if_pos (isTx_nmB nm.1),if_neg (by decide),if_pos ⟨rfl,isTx_nmB nm.2,ne⟩,if_neg (by decide),if_pos rfl]
 | set n ns=>
  obtain⟨h1,_,h3⟩:=numsB_b fb
  cases ns with
  | nil=>exact absurd h1 (by decide)
  | cons i ns=>
   show pDeed3 "set" n (sI i) (ns.map sI)=_
   have e:allSome ((sI i :: ns.map sI).map pNum)=some (i :: ns):=allSome_sI (ns:=i :: ns) fun j hj=>num1000 (h3 j hj)
   have fb:numsB (.tup ((i :: ns).map A.int))=true:=fb
   unfold pDeed3
   rw [if_pos (isTx_nmB nm),if_pos (.inl rfl),e]
   show(if numsB (.tup ((i :: ns).map A.int))=true then some (if("set" :Str)= "set" then Dd.set n (i :: ns) else Dd.join n (i :: ns)) else none)=_
   rw [if_pos fb,if_pos rfl]
 | join n ns=>
  obtain⟨h1,_,h3⟩:=numsB_b fb
  cases ns with
  | nil=>exact absurd h1 (by decide)
  | cons i ns=>
   show pDeed3 "join" n (sI i) (ns.map sI)=_
   have e:allSome ((sI i :: ns.map sI).map pNum)=some (i :: ns):=allSome_sI (ns:=i :: ns) fun j hj=>num1000 (h3 j hj)
   have fb:numsB (.tup ((i :: ns).map A.int))=true:=fb
   unfold pDeed3
   rw [if_pos (isTx_nmB nm),if_pos (.inr rfl),e]
   show(if numsB (.tup ((i :: ns).map A.int))=true then some (if("join" :Str)= "set" then Dd.set n (i :: ns) else Dd.join n (i :: ns)) else none)=_
   rw [if_pos fb,if_neg (by decide)]
theorem once_nd {κ:Type} [DecidableEq κ] {l:List κ} :l.Nodup→once l=l:=by
 refine snoc_ind (P:=fun l=>l.Nodup→once l=l) (fun _=>rfl) (fun l x ih nd=> ?_) l
 obtain⟨n1,_,n3⟩:=List.nodup_append.mp nd
 rw [once_snoc,ih n1,if_neg]
 intro m
 exact n3 _ m _ (.head _) rfl
theorem risB_of {zs:List Str} (nd:zs.Nodup) (s:sortedS zs=true):risB zs=true:=by
 unfold risB
 rw [once_nd nd]
 exact decide_eq_true (srtS_eq (.refl _) s)
theorem ris_srt {zs:List Str} (nd:zs.Nodup):risB (srtS zs)=true:=risB_of ((srtS_perm _).nodup_iff.mpr nd) (srtS_sorted _)
def RPt (r:Rw):Prop:= ∀x∈r,isPt x.1 (x.2:Int)=true
theorem isPt_of {x:Pt} (h:Cn x):isPt x.1 (x.2:Int)=true:=by
 unfold isPt
 rw [decide_eq_true (show(0:Int)≤(x.2:Int) by omega),Bool.true_and,Bool.or_eq_true]
 rcases h with h | h
 ·exact .inl (decide_eq_true (by rw [h];rfl))
 ·exact .inr (decide_eq_true h)
theorem prt_pt (n:Int) (e:Nat):isPt (Mth.prt n e).1 ((Mth.prt n e).2:Int)=true:=isPt_of (Mth.prt_norm e n)
theorem zip_pt {f:Pt→Pt→Pt} (hf:∀x y,∃n e,f x y=Mth.prt n e):∀xs ys:Rw,RPt (List.zipWith f xs ys)
 | [],_=>by rw [List.zipWith_nil_left];exact fun x hx=>nomatch hx
 | _ :: _,[]=>by rw [List.zipWith_nil_right];exact fun x hx=>nomatch hx
 | x :: xs,y :: ys=>fun z hz=>by
  rw [List.zipWith_cons_cons] at hz
  rcases List.mem_cons.mp hz with rfl | hz
  ·obtain⟨n,e,h⟩:=hf x y
   rw [h]
   exact prt_pt n e
  ·exact zip_pt hf xs ys z hz
theorem rplus_pt (xs ys:Rw):RPt (rplus xs ys):=zip_pt (fun x y=>⟨_,_,rfl⟩) xs ys
theorem rzero_pt (n:Nat):RPt (rzero n):=fun x hx=>by
 rw [List.eq_of_mem_replicate hx]
 rfl
def StF (s:Int×Int):Prop:=1≤s.1∧0≤s.2
structure EnF (e:En):Prop where
 nm:isTx8 e.nm
 li:1≤e.li
 ve:1≤e.ve
 n1:1≤e.nu.length
 n3:e.nu.length≤3
 nb:∀i∈e.nu,i.natAbs≤1000000000000
 ot:e.ot.length≤8
 on:∀z∈e.ot,isTx8 z
 ri:risB e.ot=true
structure RoF (es:List En):Prop where
 en:∀e∈es,EnF e
 ri:risB (es.map (·.nm))=true
 ne:es≠ []
structure LtX (l:Lt):Prop where
 st:StF l.stamp
 se:∀s,l.seen=some s→StF s
 gi:0≤l.gifts
 gv:RPt l.given
 ro:RoF l.roll
structure AcX (a:Acc):Prop where
 se:∀s,a.seen=some s→StF s
 gi:0≤a.gifts
 ta:0≤a.takes
 gv:RPt a.given
 tk:RPt a.taken
structure HdX (h:Hd):Prop where
 li:1≤h.life
 ve:1≤h.version
 er:∀x∈h.eras,0≤x.2
 ac:∀x∈h.accs,AcX x.2
 ro:RoF h.heard
structure FmR (r:Rn):Prop where
 hs:∀x∈r.hs,HdX x.1
 post:∀l∈r.post,LtX l
 rows:∀w∈r.rows,∀ls,w.2= .letters ls→ ∀l∈ls,LtX l
theorem acX0 (n:Nat) {st:Option (Int×Int)} (h:∀s,st=some s→StF s):AcX (acc0 n st):=⟨h,Int.le_refl _,Int.le_refl _,rzero_pt _,rzero_pt _⟩
theorem none_st:∀s:Int×Int,(none:Option (Int×Int))=some s→StF s:=fun _ h=>nomatch h
theorem mrg_ro {es fs:List En} (h1:∀e∈es,EnF e) (h2:∀e∈fs,EnF e) (ne:es≠ []∨fs≠ []):RoF (mrg es fs):=by
 refine⟨fun e he=> ?_,risB_of ?_ (srtE_sorted _),fun e=> ?_⟩
 ·rcases mrg_mem he with he | he
  ·exact h1 e he
  ·exact h2 e he
 ·exact(((srtE_perm _).map _).nodup_iff).mpr (mfold_nd (es ++ fs))
 ·have e1:mfold (es ++ fs)= []:=List.Perm.eq_nil ((srtE_perm (mfold (es ++ fs))).symm.trans (by rw [show srtE (mfold (es ++ fs))= [] from e]))
  have key:∀(l acc:List En),acc≠ []→l.foldl mput acc≠ []:=fun l=>by
   induction l with
   | nil=>exact fun acc h=>h
   | cons x l ih=>
    intro acc h
    refine ih _ ?_
    unfold mput
    split
    ·intro h2
     exact h (List.map_eq_nil_iff.mp h2)
    ·simp
  have:∀l:List En,l≠ []→mfold l≠ []:=fun l hl=>by
   cases l with
   | nil=>exact absurd rfl hl
   | cons x l=>
    refine key l (mput [] x) ?_
    unfold mput
    simp
  refine this (es ++ fs) ?_ e1
  intro h
  obtain⟨a,b⟩:=List.append_eq_nil_iff.mp h
  rcases ne with h | h
  ·exact h a
  ·exact h b
/-- a hand whose entry is written anew -/
theorem HdX.written {h:Hd} (li:1≤h.life) (ve:1≤h.version) (er:∀x∈h.eras,0≤x.2) (ac:∀x∈h.accs,AcX x.2) (he:∀e∈h.heard,EnF e) (en:EnF h.entry):HdX h.written:=
 ⟨li,ve,er,ac,mrg_ro (fun e h=>by rw [List.mem_singleton.mp h];exact en) he (.inl (by simp))⟩
theorem gave_x {sh:Rw} :∀(zs:List Str) {l:List (Str×Acc)},(∀x∈l,AcX x.2)→ ∀x∈zs.foldl (fun l z=>updA l z fun a=> { a with given:=rplus a.given sh,gifts:=a.gifts+1 }) l,AcX x.2
 | [],_,h=>h
 | z :: zs,l,h=>gave_x (sh:=sh) zs (l:=updA l z fun a=> { a with given:=rplus a.given sh,gifts:=a.gifts+1 }) fun y hy=>by
  obtain⟨w,hw,rfl⟩:=List.mem_map.mp hy
  split
  ·have a:=h w hw
   exact⟨a.se,by have:=a.gi;show 0≤w.2.gifts+1;omega,a.ta,rplus_pt _ _,a.tk⟩
  ·exact h w hw
theorem HdX.turned {h:Hd} (b:HdX h):HdX h.turned:=⟨b.li,b.ve,b.er,gave_x h.opens b.ac,b.ro⟩
theorem era_nn {h:Hd} (b:∀x∈h.eras,0≤x.2) (z:Str):0≤h.era z:=by
 unfold Hd.era
 cases e:h.eras.find? fun x=>decide (x.1=z) with
 | none=>exact Int.le_refl _
 | some x=>exact b x (List.mem_of_find?_eq_some e)
theorem HdX.letter {h:Hd} (b:HdX h) {z:Str} (hz:z∈h.names):LtX (h.letter z):=by
 obtain⟨a,e⟩:=acc_some hz
 have st:StF (h.stamp z):=⟨b.li,era_nn b.er z⟩
 unfold Hd.letter
 rw [e]
 have x:=b.ac _ (acc_mem e)
 exact⟨st,x.se,x.gi,x.gv,b.ro⟩
theorem AcX.hear {a:Acc} (h:AcX a) {st:Int×Int} (hs:StF st):AcX (a.hear st):=by
 have s1:∀s,some st=some s→StF s:=fun s e=>by cases e;exact hs
 unfold Acc.hear
 split
 ·exact acX0 _ s1
 ·split
  ·exact acX0 _ s1
  ·exact h
theorem HdX.take {h:Hd} (b:HdX h) {l:Lt} (bl:LtX l):HdX (h.take l).2:=by
 unfold Hd.take
 cases e:h.acc l.one with
 | none=>exact b
 | some a=>
  have ha:=(b.ac _ (acc_mem e)).hear bl.st
  have hh:=mrg_ro b.ro.en bl.ro.en (.inl b.ro.ne)
  have hu:∀a':Acc,AcX a'→ ∀x∈updA h.accs l.one fun _=>a',AcX x.2:=fun a' ha' x hx=>by
   obtain⟨y,hy,rfl⟩:=List.mem_map.mp hx
   split
   ·exact ha'
   ·exact b.ac y hy
  dsimp only
  repeat' split
  all_goals first | exact b | exact⟨b.li,b.ve,b.er,hu (a.hear l.stamp) ha,hh⟩ | exact⟨b.li,b.ve,b.er,hu _ ⟨ha.se,ha.gi,bl.gi,ha.gv,bl.gv⟩,hh⟩
/-- the own entry is as it should be, where the hand is one of a right run -/
theorem entry_f {U:List Str} {c n:Nat} {h:Hd} (b:HB U n c h) (n1:1≤n) (n3:n≤3) (few:h.accs.length≤8) (nm:isTx8 h.called) (ns:∀z∈h.names,isTx8 z) (li:1≤h.life) (ve:1≤h.version):EnF h.entry:=
 ⟨nm,li,ve,by show 1≤h.own.length;rw [b.len];exact n1,by show h.own.length≤3;rw [b.len];exact n3,b.own,by show(srtS h.names).length≤8;rw [(srtS_perm _).length_eq];unfold Hd.names;rw [List.length_map];exact few,
  fun z hz=>ns z ((srtS_perm _).mem_iff.mp hz),ris_srt b.nd⟩
section
variable {U:List Str} {c:Nat} {r:Rn}
/-- hands of a run, with their names -/
theorem RB.ent (b:RB U c r) (t:TxR r) {x:Hd×Bool} (hx:x∈r.hs) (li:1≤x.1.life) (ve:1≤x.1.version):EnF x.1.entry:=by
 obtain⟨h1,_,_,h4,_⟩:=t.of b hx
 exact entry_f (b.hb x hx) b.n1 b.n3 (b.fewA hx) h1 h4 li ve
theorem one_ro {e:En} (h:EnF e):RoF [e]:=⟨fun x hx=>by rw [List.mem_singleton.mp hx];exact h,risB_of (one_nodup _) rfl,by simp⟩
theorem HdX.setOwn {h:Hd} (b:HdX h) {ns:List Int} (en:EnF (h.setOwn ns).entry):HdX (h.setOwn ns):=HdX.written (h:= { h with own:=ns,version:=h.version+1 }) b.li (by have:=b.ve;show 1≤h.version+1;omega) b.er b.ac b.ro.en en
theorem HdX.tie {h:Hd} (b:HdX h) {z:Str} (en:EnF (h.tie z).entry):HdX (h.tie z):=by
 refine HdX.written (h:= { h with eras:=if z∈h.eras.map (·.1) then h.eras else h.eras ++ [(z,0)],accs:=h.accs ++ [(z,acc0 h.own.length none)],version:=h.version+1 }) b.li (by have:=b.ve;show 1≤h.version+1;omega) (fun x hx=> ?_) (fun x hx=> ?_) b.ro.en en
 ·have hx:x∈(if z∈h.eras.map (·.1) then h.eras else h.eras ++ [(z,0)]):=hx
  split at hx
  ·exact b.er x hx
  ·rcases List.mem_append.mp hx with hx | hx
   ·exact b.er x hx
   ·rw [List.mem_singleton.mp hx];exact Int.le_refl _
 ·rcases List.mem_append.mp hx with hx | hx
  ·exact b.ac x hx
  ·rw [List.mem_singleton.mp hx];exact acX0 _ none_st
theorem HdX.cut {h:Hd} (b:HdX h) {z:Str} (en:EnF (h.cut z).entry):HdX (h.cut z):=by
 refine HdX.written (h:= { h with eras:=h.eras.map fun x=>if x.1=z then(x.1,x.2+1) else x,accs:=h.accs.filter fun x=>decide (x.1≠z),version:=h.version+1 }) b.li (by have:=b.ve;show 1≤h.version+1;omega) (fun x hx=> ?_) (fun x hx=>b.ac x (List.mem_filter.mp hx).1) b.ro.en en
 obtain⟨y,hy,rfl⟩:=List.mem_map.mp hx
 have:=b.er y hy
 split
 ·show 0≤y.2+1;omega
 ·exact this
theorem new_x {z:Str} {i:Int} {ns:List Int} {zs:List Str} {es:List En} (hi:1≤i) (he:RoF es):HdX ⟨z,i,1,ns,zs.map fun z=>(z,0),zs.map fun z=>(z,acc0 ns.length none),es⟩:=by
 refine⟨hi,Int.le_refl _,fun x hx=> ?_,fun x hx=> ?_,he⟩
 ·obtain⟨y,_,rfl⟩:=List.mem_map.mp hx
  exact Int.le_refl _
 ·obtain⟨y,_,rfl⟩:=List.mem_map.mp hx
  exact acX0 _ none_st
theorem HdX.fresh {h:Hd} (b:HdX h) (en:EnF h.fresh.entry):HdX h.fresh:=new_x (zs:=srtS h.names) (by have:=b.li;show 1≤h.life+1;omega) (one_ro en)
theorem hd0_x {z:Str} {ns:List Int} {os:List Str} (en:EnF (hd0 z ns os).entry):HdX (hd0 z ns os):=by
 have:=HdX.written (h:=⟨z,1,1,ns,os.map fun o=>(o,0),os.map fun o=>(o,acc0 ns.length none),[]⟩) (Int.le_refl _) (Int.le_refl _) (fun x hx=>by
  obtain⟨y,_,rfl⟩:=List.mem_map.mp hx
  exact Int.le_refl _) (fun x hx=>by
  obtain⟨y,_,rfl⟩:=List.mem_map.mp hx
  exact acX0 _ none_st) (fun e he=>nomatch he) en
 exact this
theorem FmR.done (b:RB U c r) (t:TxR r) (f:FmR r) (hc:c≤20000) {x:Dd} (hx:r.can x=true) (nm:x.nmd) (ok:x.okU U):(∀y∈(r.done x).2.hs,HdX y.1)∧(∀l∈(r.done x).2.post,LtX l)∧ ∀ls,(r.done x).1= .letters ls→ ∀l∈ls,LtX l:=by
 have b':=b.done hc hx ok
 have t':=(t.done b hx nm).1
 have ent:∀y∈(r.done x).2.hs,1≤y.1.life→1≤y.1.version→EnF y.1.entry:=fun y hy=>b'.ent t' hy
 have no1:∀ls,Wh.none= .letters ls→ ∀l∈ls,LtX l:=fun _ h=>nomatch h
 have up1:∀ {n:Str} {g:Hd→Hd},(∀y∈(r.upd n g).hs,1≤y.1.life→1≤y.1.version→EnF y.1.entry)→(∀h,HdX h→1≤(g h).life∧1≤(g h).version∧(EnF (g h).entry→HdX (g h)))→ ∀y∈(r.upd n g).hs,HdX y.1:=fun {n g} en hg y hy=>by
  obtain⟨x,hx,⟨_,e⟩ | ⟨_,e⟩⟩:=upd_mem hy
  ·obtain⟨h1,h2,h3⟩:=hg _ (f.hs x hx)
   have:=en y hy
   rw [e] at this ⊢
   exact h3 (this h1 h2)
  ·rw [e];exact f.hs x hx
 have v1:∀ {i:Int},1≤i→1≤i+1:=fun h=>by omega
 have up2:∀ {n o:Str} {g k:Hd→Hd},n≠o→(∀h,(g h).called=h.called)→(∀y∈((r.upd n g).upd o k).hs,1≤y.1.life→1≤y.1.version→EnF y.1.entry)→(∀h,HdX h→1≤(g h).life∧1≤(g h).version∧(EnF (g h).entry→HdX (g h)))→(∀h,HdX h→1≤(k h).life∧1≤(k h).version∧(EnF (k h).entry→HdX (k h)))→ ∀y∈((r.upd n g).upd o k).hs,HdX y.1:=fun {n o g k} no gc en hg hk y hy=>by
  obtain⟨x,hx,⟨c2,e⟩ | ⟨c2,e⟩⟩:=upd_mem hy
  ·obtain⟨w,hw,⟨c1,e1⟩ | ⟨c1,e1⟩⟩:=upd_mem hx
   ·rw [e1] at c2
    exact absurd (c1.symm.trans ((gc w.1).symm.trans c2)) no
   ·obtain⟨h1,h2,h3⟩:=hk _ (f.hs w hw)
    have:=en y hy
    rw [e,e1] at this
    rw [e,e1]
    exact h3 (this h1 h2)
  ·obtain⟨w,hw,⟨c1,e1⟩ | ⟨c1,e1⟩⟩:=upd_mem hx
   ·obtain⟨h1,h2,h3⟩:=hg _ (f.hs w hw)
    have:=en y hy
    rw [e,e1] at this
    rw [e,e1]
    exact h3 (this h1 h2)
   ·rw [e,e1];exact f.hs w hw
 cases x with
 | turn z=>
  have hx:(decide (z∈r.names) && r.isUp z)=true:=hx
  rw [Bool.and_eq_true] at hx
  obtain⟨y,hg,_⟩:=isUp_get hx.2
  rw [done_turn hg]
  have hy:=(rget_some hg).1
  have lo:∀l∈y.1.letters,LtX l:=fun l hl=>by
   obtain⟨z,hz,rfl⟩:=List.mem_map.mp hl
   exact(f.hs y hy).turned.letter (by rw [turned_names];exact(srtS_perm _).mem_iff.mp hz)
  refine⟨fun w hw=> ?_,fun l hl=> ?_,fun ls e=>by cases e;exact lo⟩
  ·obtain⟨x,hx,⟨_,e⟩ | ⟨_,e⟩⟩:=upd_mem hw
   ·rw [e];exact(f.hs x hx).turned
   ·rw [e];exact f.hs x hx
  ·rcases List.mem_append.mp hl with hl | hl
   ·exact f.post l hl
   ·exact lo l hl
 | come k=>
  have hk:k < r.post.length:=of_decide_eq_true hx
  rw [done_come (List.getElem?_eq_getElem hk)]
  have bl:=f.post _ (List.getElem_mem hk)
  refine⟨fun w hw=> ?_,fun l hl=> ?_,fun ls e=>nomatch e⟩
  ·unfold Rn.come at hw
   cases hg:r.get (r.post[k]).other with
   | none=>rw [hg] at hw;exact f.hs w hw
   | some y=>
    rw [hg] at hw
    dsimp only at hw
    split at hw
    ·obtain⟨x,hx,⟨_,e⟩ | ⟨_,e⟩⟩:=upd_mem hw
     ·rw [e];exact(f.hs x hx).take bl
     ·rw [e];exact f.hs x hx
    ·exact f.hs w hw
  ·have hl:l∈(r.come r.post[k]).2.post:=hl
   rw [come_post] at hl
   exact f.post l hl
 | join z ns=>
  refine⟨fun y hy=> ?_,f.post,no1⟩
  have en:=ent y hy
  rcases List.mem_append.mp hy with h | h
  ·exact f.hs y h
  ·rw [List.mem_singleton.mp h] at en ⊢
   exact hd0_x (en (Int.le_refl _) (Int.le_refl _))
 | set z ns=>exact⟨up1 ent fun h b=>⟨b.li,v1 b.ve,b.setOwn⟩,f.post,no1⟩
 | tie z o=>
  have hx:(decide (z∈r.names) && decide (o∈r.names) && !decide (o=z) && !r.tied z o)=true:=hx
  have no:z≠o:=fun e=>by rw [e] at hx;simp at hx
  exact⟨up2 no (fun _=>rfl) ent (fun h b=>⟨b.li,v1 b.ve,b.tie⟩) (fun h b=>⟨b.li,v1 b.ve,b.tie⟩),f.post,no1⟩
 | cut z o=>
  have hx:(decide (z∈r.names) && decide (o∈r.names) && !decide (o=z) && r.tied z o)=true:=hx
  have no:z≠o:=fun e=>by rw [e] at hx;simp at hx
  exact⟨up2 no (fun _=>rfl) ent (fun h b=>⟨b.li,v1 b.ve,b.cut⟩) (fun h b=>⟨b.li,v1 b.ve,b.cut⟩),f.post,no1⟩
 | leave z=>
  cases hg:r.get z with
  | none=>simp only [Rn.done,hg];exact⟨f.hs,f.post,no1⟩
  | some u=>
   simp only [Rn.done,hg] at ent ⊢
   refine⟨fun y hy=> ?_,f.post,no1⟩
   have en:=ent y hy
   obtain⟨w,hw,e⟩:=List.mem_map.mp hy
   have hw:=f.hs w (List.mem_filter.mp hw).1
   rw [← e] at en ⊢
   split
   ·rename_i hc
    rw [if_pos hc] at en
    exact hw.cut (en hw.li (v1 hw.ve))
   ·exact hw
 | fall z=>
  refine⟨fun y hy=> ?_,f.post,no1⟩
  obtain⟨x,hx,e⟩:=setUp_mem hy
  rw [e];exact f.hs x hx
 | back z=>
  refine⟨fun y hy=> ?_,f.post,no1⟩
  obtain⟨x,hx,e⟩:=setUp_mem hy
  rw [e];exact f.hs x hx
 | fresh z=>
  refine⟨fun y hy=> ?_,f.post,no1⟩
  have en:=ent y hy
  obtain⟨x,hx,⟨_,e⟩ | ⟨_,e⟩⟩:=upd_mem hy
  ·obtain⟨w,hw,e1⟩:=setUp_mem hx
   rw [e] at en ⊢
   dsimp only at en ⊢
   rw [e1] at en ⊢
   exact(f.hs w hw).fresh (en (by have:=(f.hs w hw).li;show 1≤w.1.life+1;omega) (Int.le_refl _))
  ·obtain⟨w,hw,e1⟩:=setUp_mem hx
   rw [e,e1];exact f.hs w hw
theorem FmR.step (b:RB U c r) (t:TxR r) (f:FmR r) (hc:c≤20000) {x:Dd} (hx:r.can x=true) (nm:x.nmd) (ok:x.okU U):FmR (r.step x):=by
 obtain⟨h1,h2,h3⟩:=f.done b t hc hx nm ok
 refine⟨h1,h2,fun w hw=> ?_⟩
 rw [step_rows] at hw
 rcases List.mem_append.mp hw with hw | hw
 ·exact f.rows w hw
 ·rw [List.mem_singleton.mp hw]
  exact h3
end
/-- a run at a desk, behind so many deeds -/
structure DkR (U:List Str) (c:Nat) (r:Rn):Prop where
 g:RG U c r
 t:TxR r
 f:FmR r
 n:NbR (1000000000000+10*c) r
 rl:∀w∈r.rows,∀ls,w.2= .letters ls→ ∀l∈ls,l∈r.post
 nt:∀w∈r.rows,(∃n ls,w=(.turn n,.letters ls)∧n.length≤8∧ls.length≤8)∨(∃k z,w=(.come k,.word z)∧k < 10^1000∧wdB z)∨(w.1.txB∧w.1.wd≠ "turn" ∧w.1.wd≠ "come" ∧w.2= .none)
 c:c≤100
section
variable {K:PySem.W.Frag} {Ex:XK} {Xa:XA} {s:Sv} {M:AM} {Q:QA}
/-- an error may be told of with more about -/
def XSub (Xa:XA):XA:=fun C M=> ∃M2,M2.Sublist M∧Xa C M2
theorem XSub.of {C:Addr} (h:Xa C M):XSub Xa C M:=⟨M,List.Sublist.refl _,h⟩
end
section
variable {U:List Str} {c:Nat} {r:Rn}
theorem sq_rowP {q:Nat} {row:Rw} (h:Sq q (5*c) row) (hq:q≤128*qb c) (hc:c≤100) (hl:row.length≤4):RowP 470 row:=by
 refine⟨hl,fun x hx=> ?_⟩
 obtain⟨h1,h2⟩:=h x hx
 refine⟨?_,by omega⟩
 refine Nat.lt_of_le_of_lt h2 ?_
 have a1:q*2^x.2≤(128*qb 100)*2^500:=Nat.mul_le_mul (Nat.le_trans hq (Nat.mul_le_mul_left _ (qb_mono hc))) (Nat.pow_le_pow_right (by decide) (by omega))
 refine Nat.lt_of_le_of_lt a1 ?_
 unfold qb
 decide +kernel
theorem DkR.few (k:DkR U c r) {x:Hd×Bool} (hx:x∈r.hs):x.1.heard.length≤63:=by
 have:=(k.g.b.hb x hx).ro.len
 have:=k.g.b.u
 omega
theorem n14 {i:Int} {B:Nat} (hc:c≤100) (h:i.natAbs≤1000000000000+10*c):Nb14 i:=by
 unfold Nb14
 have:(10:Nat)^14=100000000000000:=by decide
 omega
theorem enT_of (hc:c≤100) {e:En} (f:EnF e) (n:NbE (1000000000000+10*c) e):EnT e:=
 ⟨f.nm,n14 (B:=0) hc n.1,n14 (B:=0) hc n.2.1,f.n3,fun i hi=>n14 (B:=0) hc (n.2.2 i hi),f.ot,f.on⟩
theorem stP_of (hc:c≤100) {o:Option (Int×Int)} (n:NbS (1000000000000+10*c) o):StP o:=fun x e=>⟨n14 (B:=0) hc (n x e).1,n14 (B:=0) hc (n x e).2⟩
theorem DkR.heard (k:DkR U c r) {x:Hd×Bool} (hx:x∈r.hs):x.1.heard.length≤64∧ ∀e∈x.1.heard,EnT e:=
 ⟨Nat.le_succ_of_le (k.few hx),fun e he=>enT_of k.c ((k.f.hs x hx).ro.en e he) ((k.n.hs x hx).heard e he)⟩
theorem DkR.lt (k:DkR U c r) {l:Lt} (hl:l∈r.post):LtT 470 l∧l.roll≠ []:=by
 have b:=k.g.b.post l hl
 have n:=k.n.post l hl
 have x:=k.f.post l hl
 have t:=k.t.post l hl
 have u:=k.g.b.u
 have n3:=k.g.b.n3
 have q0:qb c≤128*qb c:=Nat.le_mul_of_pos_left _ (by decide)
 refine⟨⟨t.1,t.2.1,stP_of k.c (fun y e=>by cases e;exact n.stamp),stP_of k.c n.seen,(n14 (B:=0) k.c n.gifts).k,sq_rowP b.sq q0 k.c (by rw [b.len];omega),?_,fun e he=>enT_of k.c (x.ro.en e he) (n.roll e he)⟩,x.ro.ne⟩
 have:=b.ro.len
 omega
end
section
variable {U:List Str} {c:Nat} {r:Rn}
theorem rows_split (r:Rn) (x:Dd) {w:Dd×Wh} (h:w∈(r.step x).rows):w∈r.rows∨w=(x,(r.done x).1):=by
 rw [step_rows] at h
 rcases List.mem_append.mp h with h | h
 ·exact .inl h
 ·exact .inr (List.mem_singleton.mp h)
theorem num_b {ns:List Int} (h:numsB (.tup (ns.map A.int))=true):ns.length≤3∧ ∀i∈ns,Nb14 i:=by
 have h:(decide (1≤(ns.map A.int).length) && decide ((ns.map A.int).length≤3) && (ns.map A.int).all numB)=true:=h
 rw [Bool.and_eq_true,Bool.and_eq_true] at h
 refine⟨by have:=of_decide_eq_true h.1.2;rw [List.length_map] at this;exact this,fun i hi=> ?_⟩
 have:=List.all_eq_true.mp h.2 (.int i) (List.mem_map.mpr ⟨i,hi,rfl⟩)
 have:=of_decide_eq_true this
 unfold Nb14
 have e:(10:Nat)^14=100000000000000:=by decide
 omega
theorem DkR.step (k:DkR U c r) {x:Dd} (hx:r.can x=true) (nm:x.nmd) (fb:x.formB=true) (ok:x.okU U) (hc:c < 100):DkR U (c+1) (r.step x):=by
 have c2:c≤20000:=by omega
 have post:∀l∈r.post,l∈(r.step x).post:=fun l hl=>by
  rw [step_post]
  cases x with
  | turn n=>
   have hx:(decide (n∈r.names) && r.isUp n)=true:=hx
   rw [Bool.and_eq_true] at hx
   obtain⟨y,hg,_⟩:=isUp_get hx.2
   rw [done_turn hg]
   exact List.mem_append_left _ hl
  | come j=>
   have hk:j < r.post.length:=of_decide_eq_true hx
   rw [done_come (List.getElem?_eq_getElem hk)]
   show l∈(r.come _).2.post
   rw [come_post]
   exact hl
  | leave z=>
   cases hg:r.get z with
   | none=>simp only [Rn.done,hg];exact hl
   | some u=>simp only [Rn.done,hg];exact hl
  | _=>exact hl
 have short:∀ {z:Str},isTx8 z→z.length≤8:=fun h=>h.2.1
 have new:((∃n ls,(x,(r.done x).1)=(.turn n,.letters ls)∧n.length≤8∧ls.length≤8)∨(∃k z,(x,(r.done x).1)=(.come k,.word z)∧k < 10^1000∧wdB z)∨(x.txB∧x.wd≠ "turn" ∧x.wd≠ "come" ∧(r.done x).1= .none))∧ ∀ls,(r.done x).1= .letters ls→ ∀l∈ls,l∈(r.step x).post:=by
  rw [step_post]
  have nol:∀ls,Wh.none= .letters ls→ ∀l∈ls,l∈(r.done x).2.post:=fun _ h=>nomatch h
  cases x with
  | turn n=>
   have hx:(decide (n∈r.names) && r.isUp n)=true:=hx
   rw [Bool.and_eq_true] at hx
   obtain⟨y,hg,_⟩:=isUp_get hx.2
   rw [done_turn hg]
   refine⟨.inl ⟨n,_,rfl,short nm,letters_len k.g.b (rget_some hg).1⟩,fun ls e l hl=> ?_⟩
   cases e
   exact List.mem_append_right _ hl
  | come j=>
   have hk:j < r.post.length:=of_decide_eq_true hx
   rw [done_come (List.getElem?_eq_getElem hk)]
   refine⟨.inr (.inl ⟨j,_,rfl,?_,?_⟩),fun ls e=>nomatch e⟩
   ·have:=k.g.b.lp
    exact Nat.lt_of_lt_of_le (show j < 10^4 by omega) (Nat.pow_le_pow_right (by decide) (by decide))
   ·unfold Rn.come
    cases hg:r.get (r.post[j]).other with
    | none=>exact .inl rfl
    | some y=>
     dsimp only
     split
     ·rcases(take_cases y.1 r.post[j]).2.2 with h | h | h
      ·exact .inl h
      ·exact .inr (.inr h)
      ·exact .inr (.inl h)
     ·exact .inl rfl
  | fall n=>exact⟨.inr (.inr ⟨short nm,(by decide:("fall" :Str)≠ "turn"),(by decide:("fall" :Str)≠ "come"),rfl⟩),nol⟩
  | back n=>exact⟨.inr (.inr ⟨short nm,(by decide:("back" :Str)≠ "turn"),(by decide:("back" :Str)≠ "come"),rfl⟩),nol⟩
  | fresh n=>exact⟨.inr (.inr ⟨short nm,(by decide:("fresh" :Str)≠ "turn"),(by decide:("fresh" :Str)≠ "come"),rfl⟩),nol⟩
  | leave n=>
   have e:(r.done (.leave n)).1= .none:=by
    cases hg:r.get n with
    | none=>simp only [Rn.done,hg]
    | some u=>simp only [Rn.done,hg]
   rw [e]
   exact⟨.inr (.inr ⟨short nm,(by decide:("leave" :Str)≠ "turn"),(by decide:("leave" :Str)≠ "come"),rfl⟩),nol⟩
  | set n ns=>exact⟨.inr (.inr ⟨⟨short nm,num_b fb⟩,(by decide:("set" :Str)≠ "turn"),(by decide:("set" :Str)≠ "come"),rfl⟩),nol⟩
  | join n ns=>exact⟨.inr (.inr ⟨⟨short nm,num_b fb⟩,(by decide:("join" :Str)≠ "turn"),(by decide:("join" :Str)≠ "come"),rfl⟩),nol⟩
  | tie n o=>exact⟨.inr (.inr ⟨⟨short nm.1,short nm.2⟩,(by decide:("tie" :Str)≠ "turn"),(by decide:("tie" :Str)≠ "come"),rfl⟩),nol⟩
  | cut n o=>exact⟨.inr (.inr ⟨⟨short nm.1,short nm.2⟩,(by decide:("cut" :Str)≠ "turn"),(by decide:("cut" :Str)≠ "come"),rfl⟩),nol⟩
 refine⟨k.g.step c2 hx ok,k.t.step k.g.b hx nm,k.f.step k.g.b k.t c2 hx nm ok,?_,fun w hw ls e l hl=> ?_,fun w hw=> ?_,by omega⟩
 ·have:=k.n.step k.g.b (by omega) hx ok
  rw [show 1000000000000+10*(c+1)=1000000000000+10*c+10 by omega]
  exact this
 ·rcases rows_split r x hw with h | h
  ·exact post l (k.rl w h ls e l hl)
  ·subst h
   exact new.2 ls e l hl
 ·rcases rows_split r x hw with h | h
  ·exact k.nt w h
  ·subst h
   exact new.1
end
theorem joinL_free {s:Nat} {S:List Nat} (hS:s∉S):∀ {ps:List (List Nat)},(∀p∈ps,s∉p)→s∉TL.joinL S ps
 | [],_=>fun h=>nomatch h
 | [p],h=>h p (List.mem_singleton.mpr rfl)
 | p :: q :: r,h=>fun hm=>by
  have hm:s∈p ++ (S ++ TL.joinL S (q :: r)):=hm
  rcases List.mem_append.mp hm with hm | hm
  ·exact h p List.mem_cons_self hm
  ·rcases List.mem_append.mp hm with hm | hm
   ·exact hS hm
   ·exact joinL_free hS (ps:=q :: r) (fun p hp=>h p (List.mem_cons_of_mem _ hp)) hm
theorem jn_free {y:Str} {s:Nat} {ws:List Str} (hy:s∉TL.tl y) (h:∀w∈ws,s∉TL.tl w):s∉TL.tl (jn y ws):=by
 rw [jn_join,TL.tl_join]
 refine joinL_free hy fun p hp=> ?_
 obtain⟨w,hw,rfl⟩:=List.mem_map.mp hp
 exact h w hw
theorem jn_lines {ws:List Str} (ne:ws≠ []) (h:∀w∈ws,10∉TL.tl w):Txt.split (jn "\n" ws) "\n" =ws:=TL.split_join (y:= "\n") (s:=10) (S:= []) rfl (by decide +kernel) ne h
theorem jn2 (w z:Str):jn " " [w,z]=w ++ (" " :Str) ++ z:=by rw [jn_join];rfl
abbrev N_letter_in:List Str:= ["text","words","stamp","seen","gifts","given","roll"]
def t_letter_in (K:PySem.W.Frag):TS:=
 (tSeq (tAsg (tSplit (tVar 0) (tC (.str (" " :Str)))) (gName 1))
  (tSeq (tIfS (tOr (tTest (tOp rLtI (tCB (Evl.rLenS K) (tCons (tVar 1) tNil)) (tC (.int 7)))) (tOr (tNot (tB (tCall (cs K fIsName) [] E0 (tCons (tOp (rIxL K) (tVar 1) (tC (.int 0))) tNil)))) (tNot (tB (tCall (cs K fIsName) [] E0 (tCons (tOp (rIxL K) (tVar 1) (tC (.int 1))) tNil)))))) (tRet (tC .non)) tNext)
  (tSeq (tAsg (tCall (cs K fStampIn) [] E0 (tCons (tOp (rIxL K) (tVar 1) (tC (.int 2))) (tCons (tC (.int 0)) tNil))) (gName 2))
  (tSeq (tAsg (tCall (cs K fSeenIn) [] E0 (tCons (tOp (rIxL K) (tVar 1) (tC (.int 3))) tNil)) (gName 3))
  (tSeq (tAsg (tCall (cs K fNumIn) [] E0 (tCons (tOp (rIxL K) (tVar 1) (tC (.int 4))) tNil)) (gName 4))
  (tSeq (tAsg (tCall (cs K fRowIn) [] E0 (tCons (tOp (rIxL K) (tVar 1) (tC (.int 5))) tNil)) (gName 5))
  (tSeq (tAsg (tCall (cs K fRollIn) [] E0 (tCons (tSl (rSlL K) (tVar 1) (tPart (tC (.int 6))) tNoPart) tNil)) (gName 6))
  (tSeq (tIfS (tOr (tTest (tOp (Go.rInTD K) (tC .non) (tTup (tCons (tVar 2) (tCons (tVar 3) (tCons (tVar 4) (tCons (tVar 5) (tCons (tVar 6) tNil)))))))) (tTest (tOp rLtI (tVar 4) (tC (.int 0))))) (tRet (tC .non)) tNext)
  (tRet (tTup (tCons (tOp (rIxL K) (tVar 1) (tC (.int 0))) (tCons (tOp (rIxL K) (tVar 1) (tC (.int 1))) (tCons (tVar 2) (tCons (tOp (rIx K) (tVar 3) (tC (.int 0))) (tCons (tVar 4) (tCons (tVar 5) (tCons (tVar 6) tNil)))))))))))))))))
theorem pRoll_ok {ws:List Str} {es:List En} (h:pRoll ws=some es):(∀e∈es,isTx8 e.nm∧(∀z∈e.ot,isTx8 z)∧risB e.ot=true)∧es≠ []∧risB (es.map (·.nm))=true:=by
 unfold pRoll at h
 cases ha:allSome (ws.map pEntry) with
 | none=>rw [ha] at h;cases h
 | some fs=>
  rw [ha] at h
  have h:(if fs≠ []∧risB (fs.map (·.nm))=true then some fs else none)=some es:=h
  split at h
  ·rename_i h2
   cases h
   have ee:=allSome_some ha
   refine⟨fun e he=> ?_,h2.1,h2.2⟩
   have:some e∈ws.map pEntry:=by rw [ee];exact List.mem_map.mpr ⟨e,he,rfl⟩
   obtain⟨z,hz,e2⟩:=List.mem_map.mp this
   exact pEntry_ok e2
  ·cases h
theorem Lay.rollT {es:List En} (h:∀e∈es,isTx8 e.nm∧(∀z∈e.ot,isTx8 z)∧risB e.ot=true):Lay 3 (rollA es):=Lay.tup (Lay.map fun e he=>Lay.enT (h e he).1.tx fun z hz=>((h e he).2.1 z hz).tx)
theorem Lay.ltT {l:Lt} (h1:isTx8 l.one) (h2:isTx8 l.other) (h:∀e∈l.roll,isTx8 e.nm∧(∀z∈e.ot,isTx8 z)∧risB e.ot=true):Lay 4 (ltA l):=
 Lay.tup (((Lay.str h1.tx).mono (by decide)).cons (((Lay.str h2.tx).mono (by decide)).cons (((Lay.tup ((Lay.int _).cons ((Lay.int _).cons Lay.nil))).mono (by decide)).cons (((Lay.st _).mono (by decide)).cons (((Lay.int _).mono (by decide)).cons (((Lay.row _).mono (by decide)).cons ((Lay.rollT h).cons Lay.nil)))))))
theorem eqA_st (x:Option (Int×Int)):eqA (stA x) .non=x.isNone:=by
 cases x <;> (unfold eqA;simp [stA,A.toD,PyData.eqv])
theorem eqA_se (x:Option (Option (Int×Int))):eqA (optSe x) .non=x.isNone:=by
 cases x <;> (unfold eqA;simp [optSe,A.toD,PyData.eqv])
theorem eqA_oi (x:Option Int):eqA (optI x) .non=x.isNone:=by
 cases x <;> (unfold eqA;simp [optI,A.toD,PyData.eqv])
theorem eqA_or (x:Option Rw):eqA (optR x) .non=x.isNone:=by
 cases x <;> (unfold eqA;simp [optR,A.toD,PyData.eqv])
theorem eqA_oo (x:Option (List En)):eqA (optRo x) .non=x.isNone:=by
 cases x <;> (unfold eqA;simp [optRo,A.toD,PyData.eqv])
theorem lay_st (x:Option (Int×Int)):Lay 3 (stA x):=(Lay.st x).mono (by decide)
theorem lay_se (x:Option (Option (Int×Int))):Lay 3 (optSe x):=by
 cases x with
 | none=>exact Lay.non.mono (by decide)
 | some o=>exact(Lay.tup ((Lay.st o).cons Lay.nil)).mono (by decide)
theorem lay_oi (x:Option Int):Lay 3 (optI x):=by
 cases x with
 | none=>exact Lay.non.mono (by decide)
 | some i=>exact(Lay.int i).mono (by decide)
theorem lay_or (x:Option Rw):Lay 3 (optR x):=by
 cases x with
 | none=>exact Lay.non.mono (by decide)
 | some r=>exact(Lay.row r).mono (by decide)
theorem lay_oo (ws:List Str):Lay 3 (optRo (pRoll ws)):=by
 cases h:pRoll ws with
 | none=>exact Lay.non.mono (by decide)
 | some es=>exact Lay.rollT (pRoll_ok h).1
section
variable {K:PySem.W.Frag} {vs:List V} {H:Hp} {Q:VK} {E:XK} {Qa:QA} {M:AM} {s:Sv} {Nx:Sv→AM→Prop}
theorem p_letter_in_len (h:cs K fLetterIn vs H Q E):vs.length=1:=fn_len (fun as M Q ⟨_,e,_⟩=>by rw [e];rfl) h
theorem p_letter_in (h:cs K fLetterIn vs H Q E):t_letter_in K { nx:=fun _ H'=>Q .non H',rt:=Q } (start N_letter_in vs) H:=fn_of h fun as M Qa h=>by
 obtain⟨t,rfl,hl,⟨hf,hw⟩,q⟩:=h
 unfold t_letter_in
 unfold pLetter at q
 obtain⟨l1,l2⟩:=split_b t (y:= " ") (by decide)
 refine s_seq (s_asg (e_split (e_var rfl ⟨t,rfl,e_str ⟨" ",rfl,rfl,big (by omega),?_⟩⟩)))
 generalize Txt.split t " " =ws at q hf hw l1 l2
 refine s_seq (s_if (t_or (t_testB (e_op (e_cb (a_cons (e_var rfl (a_nil (l_lenL .lst (e_int (o_lt ⟨_,rfl,?_⟩)))))))))))
 rw [List.length_map]
 match ws,q,hf,hw,l2 with
 | [],q,_,_,_=>exact if_t rfl (if_t rfl (s_non q))
 | [_],q,_,_,_=>exact if_t rfl (if_t rfl (s_non q))
 | [_,_],q,_,_,_=>exact if_t rfl (if_t rfl (s_non q))
 | [_,_,_],q,_,_,_=>exact if_t rfl (if_t rfl (s_non q))
 | [_,_,_,_],q,_,_,_=>exact if_t rfl (if_t rfl (s_non q))
 | [_,_,_,_,_],q,_,_,_=>exact if_t rfl (if_t rfl (s_non q))
 | [_,_,_,_,_,_],q,_,_,_=>exact if_t rfl (if_t rfl (s_non q))
 | a :: b :: c :: d :: e :: f :: g :: r,q,hf,hw,l2=>
  have la:=l2 a (by simp)
  have lb:=l2 b (by simp)
  have lc:=l2 c (by simp)
  have ld:=l2 d (by simp)
  have le:=l2 e (by simp)
  have lf:=l2 f (by simp)
  have q:Qa (optL (if nmB a=true∧nmB b=true then
   (match pStamp c 0,pSeen d,pNum e,pRow f,pRoll (g :: r) with
   | some st,some se,some gi,some gv,some ro=>if gi < 0 then none else some ⟨a,b,st,se,gi,gv,ro⟩
   | _,_,_,_,_=>none) else none)) M:=q
  refine if_f (decide_eq_false (by simp only [List.length_cons];omega)) (t_or (t_not (t_B (e_call (a_cons (e_op (e_var rfl (e_int (o_ixL .lst (atI_at (i:=0) rfl) (a_nil ⟨.str a,rfl,rfl,fun y e=>by cases e;omega,⟨_,rfl,?_⟩⟩))))))))))
  rw [show nameB (.str a)=nmB a from rfl]
  cases ha:nmB a with
  | false=>
   rw [ha,if_neg (fun h=>Bool.false_ne_true h.1)] at q
   exact if_t rfl (if_t rfl (s_non q))
  | true=>
   refine if_f rfl (t_not (t_B (e_call (a_cons (e_op (e_var rfl (e_int (o_ixL .lst (atI_at (i:=1) rfl) (a_nil ⟨.str b,rfl,rfl,fun y e=>by cases e;omega,⟨_,rfl,?_⟩⟩)))))))))
   rw [show nameB (.str b)=nmB b from rfl]
   cases hb:nmB b with
   | false=>
    rw [hb,if_neg (fun h=>Bool.false_ne_true h.2)] at q
    exact if_t rfl (s_non q)
   | true=>
    rw [ha,hb,if_pos ⟨rfl,rfl⟩] at q
    refine if_f rfl (s_next ?_)
    refine s_seq (s_asg (e_call (a_cons (e_op (e_var rfl (e_int (o_ixL .lst (atI_at (i:=2) rfl) (a_cons (e_int (a_nil ⟨c,0,rfl,by omega,?_⟩))))))))))
    refine s_seq (s_asg (e_call (a_cons (e_op (e_var rfl (e_int (o_ixL .lst (atI_at (i:=3) rfl) (a_nil ⟨d,rfl,by omega,?_⟩))))))))
    refine s_seq (s_asg (e_call (a_cons (e_op (e_var rfl (e_int (o_ixL .lst (atI_at (i:=4) rfl) (a_nil ⟨e,rfl,by omega,?_⟩))))))))
    refine s_seq (s_asg (e_call (a_cons (e_op (e_var rfl (e_int (o_ixL .lst (atI_at (i:=5) rfl) (a_nil ⟨f,rfl,by omega,?_⟩))))))))
    refine s_seq (s_asg (e_call (a_cons (e_sl (e_var rfl (e_part (e_int ⟨_,rfl,e_noPart (o_slL .lst (a_nil ⟨g :: r,?_,?_,?_,?_⟩))⟩)))))))
    ·show [A.lst (cutA _ (some ((6:Nat):Int)) none)]=_
     rw [cut_from]
     rfl
    ·simp only [List.length_cons] at hf ⊢
     omega
    ·intro w hw2
     have m:w∈a :: b :: c :: d :: e :: f :: g :: r:=List.mem_cons_of_mem _ (List.mem_cons_of_mem _ (List.mem_cons_of_mem _ (List.mem_cons_of_mem _ (List.mem_cons_of_mem _ (List.mem_cons_of_mem _ hw2)))))
     exact⟨by have:=l2 w m;omega,hw w m⟩
    generalize hro:pRoll (g :: r)=ro at q
    have lay:∀x∈ [stA (pStamp c 0),optSe (pSeen d),optI (pNum e),optR (pRow f),optRo ro],Lay 3 x:=(lay_st _).cons ((lay_se _).cons ((lay_oi _).cons ((lay_or _).cons ((hro ▸ lay_oo _).cons Lay.nil))))
    refine s_seq (s_if (t_or (t_testB (e_op (e_non (e_tup (a_cons (e_var rfl (a_cons (e_var rfl (a_cons (e_var rfl (a_cons (e_var rfl (a_cons (e_var rfl (a_nil ⟨by show 5≤_;decide,o_inTD rfl (Lay.tup lay).1 (Lay.non.sh (by decide)) ((Lay.tup lay).sh (by decide)) ⟨_,rfl,?_⟩⟩)))))))))))))))))
    have ean: [stA (pStamp c 0),optSe (pSeen d),optI (pNum e),optR (pRow f),optRo ro].any (fun z=>eqA z .non)=((pStamp c 0).isNone || ((pSeen d).isNone || ((pNum e).isNone || ((pRow f).isNone || (ro.isNone || false))))):=by
     simp only [List.any_cons,List.any_nil,eqA_st,eqA_se,eqA_oi,eqA_or,eqA_oo]
    rw [ean]
    generalize pStamp c 0=st at q
    generalize pSeen d=se at q
    generalize pNum e=gi at q
    generalize pRow f=gv at q
    cases st with
    | none=>exact if_t rfl (if_t rfl (s_non q))
    | some st=>
     cases se with
     | none=>exact if_t rfl (if_t rfl (s_non q))
     | some se=>
      cases gi with
      | none=>exact if_t rfl (if_t rfl (s_non q))
      | some gi=>
       cases gv with
       | none=>exact if_t rfl (if_t rfl (s_non q))
       | some gv=>
        cases ro with
        | none=>exact if_t rfl (if_t rfl (s_non q))
        | some ro=>
         have q:Qa (optL (if gi < 0 then none else some ⟨a,b,st,se,gi,gv,ro⟩)) M:=q
         refine if_f rfl (t_testB (e_op (e_var rfl (e_int (o_lt ⟨_,rfl,?_⟩)))))
         by_cases c0:gi < 0
         ·rw [if_pos c0] at q
          exact if_t (decide_eq_true c0) (s_non q)
         ·rw [if_neg c0] at q
          refine if_f (decide_eq_false c0) (s_next (s_ret (e_tup (a_cons (e_op (e_var rfl (e_int (o_ixL .lst (atI_at (i:=0) rfl) (a_cons (e_op (e_var rfl (e_int (o_ixL .lst (atI_at (i:=1) rfl) (a_cons (e_var rfl (a_cons (e_op (e_var rfl (e_int (o_ixsT rfl (a_cons (e_var rfl (a_cons (e_var rfl (a_cons (e_var rfl (a_nil ⟨by show 7≤_;decide,dn0 q⟩)))))))))))))))))))))))))))
end
abbrev N_come_in:List Str:= ["text","word","tail","deed"]
def t_come_in (K:PySem.W.Frag):TS:=
 (tSeq (tFor (Go.iKd [("" :Str),("heard" :Str),("taken" :Str)]) (gName 1) (tSeq (tAsg (tOp rAddStr (tC (.str (" : " :Str))) (tOp (Go.rItemK K (He.ga K "WORDS")) (tC (.ref (He.ga K "WORDS"))) (tVar 1))) (gName 2))
   (tIfS (tB (Go.tEnds (tVar 0) (tVar 2))) (tSeq (tAsg (tCall (cs K fDeedIn) [] E0 (tCons (tSl rSlS (tVar 0) tNoPart (tPart (tOp rSubI (tCB rLenStr (tCons (tVar 0) tNil)) (tCB rLenStr (tCons (tVar 2) tNil))))) tNil)) (gName 3))
    (tIfS (tAnd (tTest (tOp rNotN (tVar 3) (tC .non))) (tTest (tOp rEq (tOp (rIx K) (tVar 3) (tC (.int 0))) (tC (.str ("come" :Str)))))) (tRet (tTup (tCons (tVar 3) (tCons (tVar 1) tNil)))) tNext)) tNext)))
  (tRet (tC .non)))
abbrev N_book_row_in:List Str:= ["text","parts","deed","letters","part"]
def t_book_row_in (K:PySem.W.Frag):TS:=
 (tSeq (tIfS (tB (Go.tStarts (tVar 0) (tC (.str ("come " :Str))))) (tRet (tCall (cs K fComeIn) [] E0 (tCons (tVar 0) tNil))) tNext)
  (tSeq (tAsg (tSplit (tVar 0) (tC (.str (" ; " :Str)))) (gName 1))
  (tSeq (tAsg (tCall (cs K fDeedIn) [] E0 (tCons (tOp (rIxL K) (tVar 1) (tC (.int 0))) tNil)) (gName 2))
  (tSeq (tAsg (tLc (iList K (tSl (rSlL K) (tVar 1) (tPart (tC (.int 1))) tNoPart)) (gName 4) tYes (tCall (cs K fLetterIn) [] E0 (tCons (tVar 4) tNil)) [4]) (gName 3))
  (tSeq (tIfS (tOr (tTest (tOp rIsN (tVar 2) (tC .non))) (tOr (tTest (tOp (rInD K) (tC .non) (tVar 3))) (tAnd (tTest (tOp (rNeD K) (tVar 3) (tLst tNil))) (tTest (tOp rNe (tOp (rIx K) (tVar 2) (tC (.int 0))) (tC (.str ("turn" :Str)))))))) (tRet (tC .non)) tNext)
  (tRet (tTup (tCons (tVar 2) (tCons (tCB (rTupOf K) (tCons (tVar 3) tNil)) tNil)))))))))
abbrev N_read_book:List Str:= ["text","book","row"]
def t_read_book (K:PySem.W.Frag) (E:XK):TS:=
 (tSeq (tIfS (tNot (tB (tCB (rIsi K) (tCons (tVar 0) (tCons (tC (.ty "str")) tNil))))) (Go.tRaise E (He.ga K "NoText")) tNext)
  (tSeq (tIfS (tTest (tOp rEq (tVar 0) (tC (.str ("" :Str))))) (tRet (tLst tNil)) tNext)
  (tSeq (tAsg (tLc (iList K (tSplit (tVar 0) (tC (.str ("\n" :Str))))) (gName 2) tYes (tCall (cs K fBkIn) [] E0 (tCons (tVar 2) tNil)) [2]) (gName 1))
  (tSeq (tIfS (tTest (tOp (rInD K) (tC .non) (tVar 1))) (Go.tRaise E (He.ga K "NoText")) tNext)
  (tRet (tVar 1))))))
theorem wd_come {d:Dd} (h:d.wd= "come"):∃k,d= .come k:=by
 cases d with
 | come k=>exact⟨k,rfl⟩
 | turn n=>exact absurd h (by decide:("turn" :Str)≠ "come")
 | fall n=>exact absurd h (by decide:("fall" :Str)≠ "come")
 | back n=>exact absurd h (by decide:("back" :Str)≠ "come")
 | fresh n=>exact absurd h (by decide:("fresh" :Str)≠ "come")
 | leave n=>exact absurd h (by decide:("leave" :Str)≠ "come")
 | set n ns=>exact absurd h (by decide:("set" :Str)≠ "come")
 | join n ns=>exact absurd h (by decide:("join" :Str)≠ "come")
 | tie n o=>exact absurd h (by decide:("tie" :Str)≠ "come")
 | cut n o=>exact absurd h (by decide:("cut" :Str)≠ "come")
theorem wd_turn {d:Dd} (h:d.wd= "turn"):∃n,d= .turn n:=by
 cases d with
 | turn n=>exact⟨n,rfl⟩
 | come k=>exact absurd h (by decide:("come" :Str)≠ "turn")
 | fall n=>exact absurd h (by decide:("fall" :Str)≠ "turn")
 | back n=>exact absurd h (by decide:("back" :Str)≠ "turn")
 | fresh n=>exact absurd h (by decide:("fresh" :Str)≠ "turn")
 | leave n=>exact absurd h (by decide:("leave" :Str)≠ "turn")
 | set n ns=>exact absurd h (by decide:("set" :Str)≠ "turn")
 | join n ns=>exact absurd h (by decide:("join" :Str)≠ "turn")
 | tie n o=>exact absurd h (by decide:("tie" :Str)≠ "turn")
 | cut n o=>exact absurd h (by decide:("cut" :Str)≠ "turn")
theorem cutS_len' (z:Str) (lo hi:Option Int):(cutS z lo hi).length≤z.length:=by
 unfold cutS
 show(List.toArray _).size≤_
 rw [List.size_toArray,List.length_take,List.length_drop,str_len]
 omega
theorem pLetter_ok {t:Str} {l:Lt} (h:pLetter t=some l):isTx8 l.one∧isTx8 l.other∧(∀e∈l.roll,isTx8 e.nm∧(∀z∈e.ot,isTx8 z)∧risB e.ot=true):=by
 unfold pLetter at h
 split at h
 ·rename_i a b c d e f g r _
  split at h
  ·rename_i hn
   split at h
   ·rename_i st se gi gv ro e1 e2 e3 e4 e5
    split at h
    ·cases h
    ·cases h
     exact⟨nmB_isTx hn.1,nmB_isTx hn.2,(pRoll_ok e5).1⟩
   ·cases h
  ·cases h
 ·cases h
theorem eqA_optL (x:Option Lt):eqA (optL x) .non=x.isNone:=by
 cases x <;> (unfold eqA;simp [optL,A.toD,PyData.eqv])
theorem lay_optL (t:Str):Lay 4 (optL (pLetter t)):=by
 cases h:pLetter t with
 | none=>exact Lay.non.mono (by decide)
 | some l=>obtain⟨h1,h2,h3⟩:=pLetter_ok h;exact Lay.ltT h1 h2 h3
theorem eqA_optB (x:Option (Dd×Wh)):eqA (optB x) .non=x.isNone:=by
 cases x <;> (unfold eqA;simp [optB,A.toD,PyData.eqv])
theorem pComeW_ok {t w:Str} {x:Dd×Wh} (h:pComeW t w=some x):∃k,x=(.come k,.word w):=by
 unfold pComeW at h
 split at h
 ·split at h
  ·cases h;exact⟨_,rfl⟩
  ·cases h
 ·cases h
theorem pCome_ok {t:Str} {x:Dd×Wh} (h:pCome t=some x):∃k w,x=(.come k,.word w)∧wdB w:=by
 unfold pCome at h
 split at h
 ·rename_i y e
  cases h
  obtain⟨k,e2⟩:=pComeW_ok e
  exact⟨k,_,e2,.inl rfl⟩
 ·split at h
  ·rename_i y e
   cases h
   obtain⟨k,e2⟩:=pComeW_ok e
   exact⟨k,_,e2,.inr (.inl rfl)⟩
  ·obtain⟨k,e2⟩:=pComeW_ok h
   exact⟨k,_,e2,.inr (.inr rfl)⟩
def bkRest (t:Str):Option (Dd×Wh):=match pDeed ((Txt.split t " ; ").headD ""),allSome ((Txt.split t " ; ").tail.map pLetter) with
 | some (.turn n),some ls=>some (.turn n,.letters ls)
 | some d,some []=>some (d,.none)
 | _,_=>none
theorem pBk_eq (t:Str):pBk t=if Txt.startswith t "come " =true then pCome t else bkRest t:=rfl
theorem bkRest_lay (t:Str):Lay 6 (optB (bkRest t)):=by
 unfold bkRest
 have dl:∀ {d:Dd},pDeed ((Txt.split t " ; ").headD "")=some d→Lay 5 (ddA d):=fun {d} h=>(Lay.dd (pDeed_nm h).1).mono (by decide)
 have ll:∀ {ls:List Lt},allSome ((Txt.split t " ; ").tail.map pLetter)=some ls→ ∀l∈ls,Lay 4 (ltA l):=fun {ls} h l hl=>by
  have e:=allSome_some h
  have m:some l∈(Txt.split t " ; ").tail.map pLetter:=by rw [e];exact List.mem_map.mpr ⟨l,hl,rfl⟩
  obtain⟨z,hz,e2⟩:=List.mem_map.mp m
  have:=lay_optL z
  rw [e2] at this
  exact this
 split
 ·rename_i n ls e1 e2
  exact Lay.tup ((dl e1).cons ((Lay.tup (Lay.map (ll e2))).cons Lay.nil))
 ·rename_i d _ e1 _
  exact Lay.tup ((dl e1).cons ((Lay.tup (k:=4) Lay.nil).cons Lay.nil))
 ·exact Lay.non.mono (by decide)
theorem wd_lay {w:Str} (h:wdB w):Lay 0 (.str w):=by
 refine Lay.str ?_
 rcases h with rfl | rfl | rfl
 ·exact lit_tx (by decide +kernel) (by decide +kernel)
 ·exact lit_tx (by decide +kernel) (by decide +kernel)
 ·exact lit_tx (by decide +kernel) (by decide +kernel)
theorem pBk_lay (t:Str):Lay 6 (optB (pBk t)):=by
 rw [pBk_eq]
 split
 ·cases h:pCome t with
  | none=>exact Lay.non.mono (by decide)
  | some x=>
   obtain⟨k,w,rfl,hw⟩:=pCome_ok h
   exact Lay.tup (((Lay.dd (x:= .come k) trivial).mono (by decide)).cons (((wd_lay hw).mono (by decide)).cons Lay.nil))
 ·exact bkRest_lay t
section
variable {K:PySem.W.Frag} {vs:List V} {H:Hp} {Q:VK} {E:XK} {Qa:QA} {M:AM} {s:Sv} {Nx:Sv→AM→Prop}
theorem p_come_in_len (h:cs K fComeIn vs H Q E):vs.length=1:=fn_len (fun as M Q ⟨_,e,_⟩=>by rw [e];rfl) h
theorem p_come_in (wk:WdsK K) (h:cs K fComeIn vs H Q E):t_come_in K { nx:=fun _ H'=>Q .non H',rt:=Q } (start N_come_in vs) H:=fn_of h fun as M Qa h=>by
 obtain⟨t,rfl,hl,hc,q⟩:=h
 unfold t_come_in
 have lt:t.length≤sizeLine:=big (by omega)
 refine s_seq (s_for (i_kd ?_))
 refine⟨fun i s M'=> ∃y1 y2 y3,s= [some (.str t),y1,y2,y3]∧M'=M∧(1≤i→pComeW t "" =none)∧(2≤i→pComeW t "heard" =none)∧(3≤i→pComeW t "taken" =none),⟨_,_,_,rfl,rfl,fun h=>absurd h (by decide),fun h=>absurd h (by decide),fun h=>absurd h (by decide)⟩,?_,?_⟩
 ·rintro i x s M' hx ⟨y1,y2,y3,rfl,rfl,h1,h2,h3⟩
  obtain⟨w,hw,rfl⟩:=map_at hx
  have wd:wdB w:=by
   match i,hw with
   | 0,hw=>cases hw;exact .inl rfl
   | 1,hw=>cases hw;exact .inr (.inl rfl)
   | 2,hw=>cases hw;exact .inr (.inr rfl)
  have wl:=wdT_len wd
  have go:pComeW t w=none→ ∃y1 y2 y3,True∧(1≤i+1→pComeW t "" =none)∧(2≤i+1→pComeW t "heard" =none)∧(3≤i+1→pComeW t "taken" =none):=fun e=>by
   refine⟨y1,y2,y3,trivial,?_⟩
   match i,hw with
   | 0,hw=>cases hw;exact⟨fun _=>e,fun h=>absurd h (by decide),fun h=>absurd h (by decide)⟩
   | 1,hw=>cases hw;exact⟨fun _=>h1 (by decide),fun _=>e,fun h=>absurd h (by decide)⟩
   | 2,hw=>cases hw;exact⟨fun _=>h1 (by decide),fun _=>h2 (by decide),fun _=>e⟩
  have hit:∀z,pComeW t w=some z→Qa (optB (some z)) M':=fun z e=>by
   have:pCome t=some z:=by
    unfold pCome
    match i,hw with
    | 0,hw=>cases hw;rw [e]
    | 1,hw=>cases hw;rw [h1 (by decide)];dsimp only;rw [e]
    | 2,hw=>cases hw;rw [h1 (by decide),h2 (by decide)];exact e
   rw [this] at q
   exact q
  refine g_name (s_seq (s_asg (e_op (e_str (e_op (e_ref (e_var rfl (o_itemK (wk.of wd) (o_addS (small ?_) ?_)))))))))
  ·rw [show(" : " :Str).length=3 from rfl];omega
  have ll:((" : " :Str) ++ wdT w).length=3+(wdT w).length:=by rw [lenA,show(" : " :Str).length=3 from rfl]
  refine s_if (t_B (Ab.e_ends (e_var rfl ⟨t,rfl,e_var rfl ⟨_,rfl,⟨_,rfl,?_⟩⟩⟩)))
  have pw:pComeW t w=if Txt.endswith t ((" : " :Str) ++ wdT w)=true then
   (match pDeed (cutS t none (some ((t.length:Int) - (((" : " :Str) ++ wdT w).length:Int)))) with
   | some (.come k)=>some (.come k,.word w)
   | _=>none) else none:=rfl
  cases he:Txt.endswith t ((" : " :Str) ++ wdT w) with
  | false=>
   rw [he,if_neg Bool.false_ne_true] at pw
   obtain⟨_,_,_,_,g⟩:=go pw
   exact if_f rfl (s_next ⟨_,_,_,rfl,rfl,g⟩)
  | true=>
   rw [he,if_pos rfl] at pw
   have cl:(cutS t none (some ((t.length:Int) - (((" : " :Str) ++ wdT w).length:Int)))).length≤t.length:=cutS_len' _ _ _
   refine if_t rfl (s_seq (s_asg (e_call (a_cons (e_sl (e_var rfl (e_noPart (e_part (e_op (e_cb (a_cons (e_var rfl (a_nil (l_lenS lt (e_cb (a_cons (e_var rfl (a_nil (l_lenS (small (by omega)) (o_subI ⟨_,rfl,o_slS lt (a_nil ⟨_,rfl,by omega,?_,?_⟩)⟩))))))))))))))))))))
   ·rw [split_count (y:= " ") (s:=32) rfl (by decide +kernel)] at hc ⊢
    have:=cutS_count 32 t none (some ((t.length:Int) - (((" : " :Str) ++ wdT w).length:Int)))
    omega
   generalize hpd:pDeed (cutS t none (some ((t.length:Int) - (((" : " :Str) ++ wdT w).length:Int))))=od at pw
   refine s_if (t_and (t_testB (e_op (e_var rfl (e_non (o_notN ⟨_,rfl,?_⟩))))))
   cases od with
   | none=>
    obtain⟨_,_,_,_,g⟩:=go pw
    exact if_f rfl (if_f rfl (s_next ⟨_,_,_,rfl,rfl,g⟩))
   | some d=>
    obtain⟨z,zs,ed⟩:=dd_fst d
    refine if_t (by show(!(ddA d).isNon)=true;rw [ed];rfl) (t_testB (e_op (e_op (e_var rfl (e_int ?_)))))
    rw [show optD (some d)=ddA d from rfl,ed]
    refine o_ixsT (atI_at (i:=0) rfl) (e_str (o_eqS ⟨_,rfl,?_⟩))
    by_cases hcm:d.wd= "come"
    ·obtain⟨k,rfl⟩:=wd_come hcm
     have:=hit _ pw
     refine if_t rfl (s_ret (e_tup (a_cons (e_var rfl (a_cons (e_var rfl (a_nil ⟨by show 2≤_;decide,dn0 ?_⟩)))))))
     cases ed
     exact this
    ·have pw:pComeW t w=none:=by
      rw [pw]
      cases d with
      | come k=>exact absurd rfl hcm
      | _=>rfl
     obtain⟨_,_,_,_,g⟩:=go pw
     exact if_f (decide_eq_false hcm) (s_next ⟨_,_,_,rfl,rfl,g⟩)
 ·rintro s M' ⟨y1,y2,y3,rfl,rfl,h1,h2,h3⟩
  have:pCome t=none:=by
   unfold pCome
   rw [h1 (by decide),h2 (by decide)]
   exact h3 (by decide)
  rw [this] at q
  exact s_ret (e_non (dn0 q))
theorem p_book_row_in_len (h:cs K fBkIn vs H Q E):vs.length=1:=fn_len (fun as M Q ⟨_,e,_⟩=>by rw [e];rfl) h
theorem p_book_row_in (h:cs K fBkIn vs H Q E):t_book_row_in K { nx:=fun _ H'=>Q .non H',rt:=Q } (start N_book_row_in vs) H:=fn_of h fun as M Qa h=>by
 obtain⟨t,rfl,hl,hc,hw,q⟩:=h
 unfold t_book_row_in
 rw [pBk_eq] at q
 refine s_seq (s_if (t_B (Ab.e_starts (e_var rfl ⟨t,rfl,e_str ⟨_,rfl,⟨_,rfl,?_⟩⟩⟩))))
 cases hs:Txt.startswith t "come " with
 | true=>
  rw [hs,if_pos rfl] at q
  exact if_t rfl (s_ret (e_call (a_cons (e_var rfl (a_nil ⟨t,rfl,hl,hc,dn0 q⟩)))))
 | false=>
  rw [hs,if_neg Bool.false_ne_true] at q
  unfold bkRest at q
  obtain⟨l1,l2⟩:=split_b t (y:= " ; ") (by decide)
  have ne:=split_ne t " ; "
  have cnt:∀z∈Txt.split t " ; ",(Txt.split z " ").length≤900:=fun z hz=>by
   rw [split_count (y:= " ") (s:=32) rfl (by decide +kernel)] at hc ⊢
   have:=split_sign 32 hz
   omega
  refine if_f rfl (s_next (s_seq (s_asg (e_split (e_var rfl ⟨t,rfl,e_str ⟨" ; ",rfl,rfl,big (by omega),?_⟩⟩)))))
  generalize Txt.split t " ; " =ps at q hw l1 l2 ne cnt
  cases ps with
  | nil=>exact absurd rfl ne
  | cons p ps=>
   have lp:=l2 p (by simp)
   have q:Qa (optB (match pDeed p,allSome (ps.map pLetter) with
    | some (.turn n),some ls=>some (.turn n,.letters ls)
    | some d,some []=>some (d,.none)
    | _,_=>none)) M:=q
   refine s_seq (s_asg (e_call (a_cons (e_op (e_var rfl (e_int (o_ixL .lst (atI_at (i:=0) rfl) (a_nil ⟨p,rfl,by omega,cnt p (by simp),?_⟩))))))))
   refine s_seq (s_asg (e_mapF (α:=Str) (fun z=>optL (pLetter z)) (i_lst (e_sl (e_var rfl (e_part (e_int ⟨_,rfl,e_noPart (o_slL .lst ⟨_,rfl,A.str,ps,?_,?_,fun z hz M' up=> ?_,?_⟩)⟩)))))))
   ·show cutA _ (some ((1:Nat):Int)) none=_
    rw [cut_from]
    rfl
   ·rw [List.length_cons] at l1
    exact big (by omega)
   ·have m:z∈p :: ps:=List.mem_cons_of_mem _ hz
    exact c_name (by decide) (e_call (a_cons (e_var rfl (a_nil ⟨z,rfl,by have:=l2 z m;omega,hw z m,rfl,rfl⟩))))
   refine s_seq (s_if (t_or (t_testB (e_op (e_var rfl (e_non (o_isN ⟨_,rfl,?_⟩)))))))
   cases hd:pDeed p with
   | none=>
    rw [hd] at q
    exact if_t rfl (if_t rfl (s_non q))
   | some d=>
    rw [hd] at q
    obtain⟨z,zs,ed⟩:=dd_fst d
    have lay:∀x∈ps.map (fun z=>optL (pLetter z)),Lay 4 x:=Lay.map fun z _=>lay_optL z
    refine if_f (by show(ddA d).isNon=false;rw [ed];rfl) (t_or (t_testB (e_op (e_non (e_var rfl (o_inD rfl (Lay.lst lay).1 (Lay.non.sh (by decide)) ((Lay.lst lay).sh (by decide)) ⟨_,rfl,?_⟩))))))
    have ean:(ps.map fun z=>optL (pLetter z)).any (fun z=>eqA z .non)=(ps.map pLetter).any Option.isNone:=by
     rw [List.any_map,List.any_map]
     refine congrArg (fun f=>ps.any f) (funext fun z=>eqA_optL _)
    rw [ean]
    cases ha:allSome (ps.map pLetter) with
    | none=>
     rw [ha] at q
     obtain⟨x,hx,e⟩:=allSome_none.mp ha
     rw [show(ps.map pLetter).any Option.isNone=true from List.any_eq_true.mpr ⟨none,List.mem_map.mpr ⟨x,hx,e⟩,rfl⟩]
     refine if_t rfl (if_t rfl (s_non ?_))
     cases d <;> exact q
    | some ls=>
     rw [ha] at q
     have ee:=allSome_some ha
     have ean2:(ps.map pLetter).any Option.isNone=false:=by
      rw [ee,List.any_map,List.any_eq_false]
      exact fun x _ h=>Bool.false_ne_true h
     rw [ean2]
     have el:ps.map (fun z=>optL (pLetter z))=ls.map ltA:=by
      rw [show ps.map (fun z=>optL (pLetter z))=(ps.map pLetter).map optL by rw [List.map_map];rfl,ee,List.map_map]
      rfl
     rw [el] at lay ⊢
     refine if_f rfl (t_and (t_testB (e_op (e_var rfl (e_lst (a_nil ⟨Nat.zero_le _,o_neNil lay (by decide) ⟨_,rfl,?_⟩⟩))))))
     have fin:∀ {s:Sv},s[2]? =some (some (ddA d))→s[3]? =some (some (.lst (ls.map ltA)))→Qa (.tup [ddA d,.tup (ls.map ltA)]) M→ES K (fun _ _ _=>False) (fun _ _=>False) (tRet (tTup (tCons (tVar 2) (tCons (tCB (rTupOf K) (tCons (tVar 3) tNil)) tNil)))) s M (fun _ M'=>Dn Qa .non M') (Dn Qa) (fun _ _=>False) (fun _ _=>False):=fun {s} h2 h3 q=>s_ret (e_tup (a_cons (e_var h2 (a_cons (e_cb (a_cons (e_var h3 (a_nil (l_tupL .lst (a_nil ⟨by show 2≤_;decide,dn0 q⟩))))))))))
     cases ls with
     | nil=>
      refine if_f rfl (if_f rfl (s_next (fin rfl rfl ?_)))
      cases d <;> exact q
     | cons l ls=>
      refine if_t rfl (t_testB (e_op (e_op (e_var rfl (e_int ?_)))))
      rw [show optD (some d)=ddA d from rfl,ed]
      refine o_ixsT (atI_at (i:=0) rfl) (e_str (o_neS ⟨_,rfl,?_⟩))
      rw [← ed]
      by_cases ht:d.wd= "turn"
      ·obtain⟨n,rfl⟩:=wd_turn ht
       exact if_f rfl (s_next (fin rfl rfl q))
      ·refine if_t (by rw [decide_eq_false ht];rfl) (s_non ?_)
       cases d with
       | turn n=>exact absurd rfl ht
       | _=>exact q
theorem p_read_book_len (h:csX K (fReadBook K) vs H Q E):vs.length=1:=fn_lenX (fun as M Q X h=>by
 rcases h with⟨_,e,_⟩ | ⟨_,e,_⟩ <;> (rw [e];rfl)) h
theorem p_read_book (h:csX K (fReadBook K) vs H Q E):t_read_book K E { nx:=fun _ H'=>Q .non H',rt:=Q } (start N_read_book vs) H:=fn_ofX h fun as M Qa Xa h=>by
 unfold t_read_book
 rcases h with⟨t,rfl,⟨hl,hf⟩,hc,q,x⟩ | ⟨a,rfl,hp,hs,x⟩
 ·refine s_seq (s_if (t_not (t_B (e_cb (a_cons (e_var rfl (a_cons (e_ty (a_nil (l_isStr rfl ⟨_,rfl,if_f rfl (s_next ?_)⟩))))))))))
  obtain⟨l1,l2⟩:=split_b t (y:= "\n") (by decide)
  unfold pBook at q x
  refine s_seq (s_if (t_testB (e_op (e_var rfl (e_str (o_eqS ⟨_,rfl,?_⟩))))))
  by_cases c0:t= ""
  ·rw [if_pos c0] at q
   exact if_t (decide_eq_true c0) (s_ret (e_lst (a_nil ⟨Nat.zero_le _,dn0 (q [] rfl)⟩)))
  ·rw [if_neg c0] at q x
   refine if_f (decide_eq_false c0) (s_next (s_seq (s_asg (e_mapF (α:=Str) (fun z=>optB (pBk z)) (i_lst (e_split (e_var rfl ⟨t,rfl,e_str ⟨"\n",rfl,rfl,big (by omega),_,rfl,A.str,Txt.split t "\n",rfl,big (by omega),fun z hz M' up=> ?_,?_⟩⟩)))))))
   ·exact c_name (by decide) (e_call (a_cons (e_var rfl (a_nil ⟨z,rfl,(hf z hz).1,hc z hz,(hf z hz).2,rfl,rfl⟩))))
   generalize Txt.split t "\n" =ws at q x
   have lay:∀y∈ws.map (fun z=>optB (pBk z)),Lay 6 y:=Lay.map fun z _=>pBk_lay z
   refine s_seq (s_if (t_testB (e_op (e_non (e_var rfl (o_inD rfl (Lay.lst lay).1 (Lay.non.sh (by decide)) ((Lay.lst lay).sh (by decide)) ⟨_,rfl,?_⟩))))))
   have ean:(ws.map fun z=>optB (pBk z)).any (fun z=>eqA z .non)=(ws.map pBk).any Option.isNone:=by
    rw [List.any_map,List.any_map]
    refine congrArg (fun f=>ws.any f) (funext fun z=>eqA_optB _)
   rw [ean]
   cases ha:allSome (ws.map pBk) with
   | none=>
    obtain⟨y,hy,e⟩:=allSome_none.mp ha
    rw [show(ws.map pBk).any Option.isNone=true from List.any_eq_true.mpr ⟨none,List.mem_map.mpr ⟨y,hy,e⟩,rfl⟩]
    exact if_t rfl (s_raise (x ha))
   | some rows=>
    have ee:=allSome_some ha
    have ean2:(ws.map pBk).any Option.isNone=false:=by
     rw [ee,List.any_map,List.any_eq_false]
     exact fun x _ h=>Bool.false_ne_true h
    have el:ws.map (fun z=>optB (pBk z))=rows.map rwA:=by
     rw [show ws.map (fun z=>optB (pBk z))=(ws.map pBk).map optB by rw [List.map_map];rfl,ee,List.map_map]
     rfl
    rw [ean2,el]
    exact if_f rfl (s_next (s_ret (e_var rfl (dn0 (q rows ha)))))
 ·refine s_seq (s_if (t_not (t_B (e_cb (a_cons (e_var rfl (a_cons (e_ty (a_nil (l_isStr hp ⟨_,rfl,?_⟩))))))))))
  rw [hs]
  exact if_t rfl (s_raise x)
end
abbrev N3 (i:Int):Prop:=i.natAbs < 10^1000
structure LtR (l:Lt):Prop where
 one:isTx8 l.one
 other:isTx8 l.other
 x:LtX l
 st:N3 l.stamp.1∧N3 l.stamp.2
 se:∀s,l.seen=some s→N3 s.1∧N3 s.2
 gi:N3 l.gifts
 g2:2≤l.given.length
 g4:l.given.length≤4
 gb:∀x∈l.given,x.1.natAbs < 10^1000∧x.2 < 10^1000
 ro:∀e∈l.roll,N3 e.li∧N3 e.ve
 few:l.roll.length≤63
theorem sp1 {y:Str} {s:Nat} {S:List Nat} (ey:TL.tl y=s :: S) (hk:y.cps.all (· < 256)=true) {w:Str} (h:s∉TL.tl w):Txt.split w y= [w]:=by
 have:=TL.split_join ey hk (parts:= [w]) (by simp) (fun z hz=>by rw [List.mem_singleton.mp hz];exact h)
 rwa [show Txt.join y [w]=w from(TL.join_eq y [w]).trans rfl] at this
theorem stamp_j (s:Int×Int):tStamp (some s)=jn "." [sI s.1,sI s.2]:=by rw [jn_join];rfl
theorem two_free {a b:Str} {s:Nat} (ha:s∉TL.tl a) (hb:s∉TL.tl b):∀w∈ [a,b],s∉TL.tl w:=fun w hw=>by
 simp only [List.mem_cons,List.not_mem_nil,or_false] at hw
 rcases hw with rfl | rfl
 ·exact ha
 ·exact hb
theorem pStamp_t {s:Int×Int} {b:Int} (h:1≤s.1) (hb:b≤s.2) (n1:N3 s.1) (n2:N3 s.2):pStamp (tStamp (some s)) b=some s:=by
 unfold pStamp
 rw [stamp_j,show Txt.split (jn "." [sI s.1,sI s.2]) "." = [sI s.1,sI s.2] from TL.split_join (y:= ".") (s:=46) (S:= []) rfl (by decide +kernel) (by simp) (two_free (sI_free (by omega)) (sI_free (by omega)))]
 rw [List.map_cons,List.map_cons,List.map_nil,pNum_sI n1,pNum_sI n2]
 exact if_neg (by omega)
theorem part_j (x:Pt):partT x=jn ">>" [sI x.1,sI (x.2:Int)]:=by rw [jn_join];rfl
theorem nat3 {n:Nat} (h:n < 10^1000):N3 (n:Int):=by show((n:Int)).natAbs < _;rw [Int.natAbs_natCast];exact h
theorem pPart_t {x:Pt} (h:isPt x.1 (x.2:Int)=true) (b:x.1.natAbs < 10^1000∧x.2 < 10^1000):pPart (partT x)=some x:=by
 unfold pPart
 rw [part_j,show Txt.split (jn ">>" [sI x.1,sI (x.2:Int)]) ">>" = [sI x.1,sI (x.2:Int)] from TL.split_join (y:= ">>") (s:=62) (S:= [62]) rfl (by decide +kernel) (by simp) (two_free (sI_free (by omega)) (sI_free (by omega)))]
 rw [List.map_cons,List.map_cons,List.map_nil,pNum_sI b.1,pNum_sI (nat3 b.2)]
 show(if isPt x.1 (x.2:Int)=true then some (x.1,((x.2:Int)).toNat) else none)=_
 rw [if_pos h,Int.toNat_natCast]
theorem part_free (x:Pt) {s:Nat} (hs:s < 45∨s=46∨s=47∨57 < s∧s≠62):s∉TL.tl (partT x):=by
 rw [part_j]
 refine jn_free ?_ (two_free (sI_free (by omega)) (sI_free (by omega)))
 show s∉ [62,62]
 simp only [List.mem_cons,List.not_mem_nil,or_false]
 omega
theorem row_free (r:Rw) {s:Nat} (hs:s < 44∨s=46∨s=47∨57 < s∧s≠62):s∉TL.tl (tRow r):=by
 refine jn_free ?_ fun w hw=> ?_
 ·show s∉ [44]
  simp only [List.mem_cons,List.not_mem_nil,or_false]
  omega
 ·obtain⟨x,_,rfl⟩:=List.mem_map.mp hw
  exact part_free x (by omega)
theorem row_split {r:Rw} (ne:r≠ []):Txt.split (tRow r) "," =r.map partT:=TL.split_join (y:= ",") (s:=44) (S:= []) rfl (by decide +kernel) (fun e=>ne (List.map_eq_nil_iff.mp e)) fun w hw=>by
 obtain⟨x,_,rfl⟩:=List.mem_map.mp hw
 exact part_free x (by omega)
theorem pRow_t {r:Rw} (h2:2≤r.length) (h4:r.length≤4) (hp:RPt r) (hb:∀x∈r,x.1.natAbs < 10^1000∧x.2 < 10^1000):pRow (tRow r)=some r:=by
 unfold pRow
 rw [row_split (fun e=>by rw [e] at h2;simp at h2),List.map_map,show r.map (pPart∘partT)=r.map some from List.map_congr_left fun x hx=>pPart_t (hp x hx) (hb x hx),allSome_map]
 exact if_pos ⟨h2,h4⟩
theorem oth_free {zs:List Str} (h:∀z∈zs,isTx8 z) {s:Nat} (hs:s < 44∨45 < s∧s < 97∨122 < s):s∉TL.tl (tOthers zs):=by
 unfold tOthers
 split
 ·show s∉ [45]
  simp only [List.mem_cons,List.not_mem_nil,or_false]
  omega
 ·refine jn_free ?_ fun z hz=>tx_free (h z hz) (by omega)
  show s∉ [44]
  simp only [List.mem_cons,List.not_mem_nil,or_false]
  omega
theorem oth_split {zs:List Str} (ne:zs≠ []) (h:∀z∈zs,isTx8 z):Txt.split (jn "," zs) "," =zs:=TL.split_join (y:= ",") (s:=44) (S:= []) rfl (by decide +kernel) ne fun z hz=>tx_free (h z hz) (by omega)
theorem pNames_t {zs:List Str} (h:∀z∈zs,isTx8 z) (ri:risB zs=true):pNames (tOthers zs)=some zs:=by
 unfold pNames tOthers
 by_cases e:zs= []
 ·rw [if_pos e,if_pos rfl,e]
 ·have ne:jn "," zs≠ "-" :=fun e2=>by
   have h1:45∉TL.tl (jn "," zs):=jn_free (by decide) fun z hz=>tx_free (h z hz) (by omega)
   rw [e2] at h1
   exact h1 (by decide)
  rw [if_neg e,if_neg ne,oth_split e h,ri,Bool.and_true,if_pos (List.all_eq_true.mpr fun z hz=>isTx_nmB (h z hz))]
theorem nums_free (ns:List Int) {s:Nat} (hs:s < 44∨s=46∨s=47∨57 < s):s∉TL.tl (tNums ns):=by
 refine jn_free ?_ fun w hw=> ?_
 ·show s∉ [44]
  simp only [List.mem_cons,List.not_mem_nil,or_false]
  omega
 ·obtain⟨i,_,rfl⟩:=List.mem_map.mp hw
  exact sI_free (by omega)
theorem nums_split {ns:List Int} (ne:ns≠ []):Txt.split (tNums ns) "," =ns.map sI:=TL.split_join (y:= ",") (s:=44) (S:= []) rfl (by decide +kernel) (fun e=>ne (List.map_eq_nil_iff.mp e)) fun w hw=>by
 obtain⟨i,_,rfl⟩:=List.mem_map.mp hw
 exact sI_free (by omega)
theorem numsB_of {ns:List Int} (h1:1≤ns.length) (h3:ns.length≤3) (hb:∀i∈ns,i.natAbs≤1000000000000):numsB (.tup (ns.map A.int))=true:=by
 show(decide (1≤(ns.map A.int).length) && decide ((ns.map A.int).length≤3) && (ns.map A.int).all numB)=true
 rw [List.length_map,decide_eq_true h1,decide_eq_true h3,Bool.true_and,Bool.true_and]
 refine List.all_eq_true.mpr fun a ha=> ?_
 obtain⟨i,hi,rfl⟩:=List.mem_map.mp ha
 have:=hb i hi
 exact decide_eq_true (by omega)
theorem stamp_free (o:Option (Int×Int)) {s:Nat} (hs:s < 45∨s=47∨57 < s):s∉TL.tl (tStamp o):=by
 cases o with
 | none=>
  show s∉ [45]
  simp only [List.mem_cons,List.not_mem_nil,or_false]
  omega
 | some x=>
  rw [stamp_j]
  refine jn_free ?_ (two_free (sI_free (by omega)) (sI_free (by omega)))
  show s∉ [46]
  simp only [List.mem_cons,List.not_mem_nil,or_false]
  omega
theorem en_parts {e:En} (h:EnF e) {s:Nat} (hs:s < 44∨57 < s∧s < 97∨122 < s):∀w∈ [e.nm,tStamp (some (e.li,e.ve)),tNums e.nu,tOthers e.ot],s∉TL.tl w:=fun w hw=>by
 simp only [List.mem_cons,List.not_mem_nil,or_false] at hw
 rcases hw with rfl | rfl | rfl | rfl
 ·exact tx_free h.nm (by omega)
 ·exact stamp_free _ (by omega)
 ·exact nums_free _ (by omega)
 ·exact oth_free h.on (by omega)
theorem en_split {e:En} (h:EnF e):Txt.split (tEn e) "=" = [e.nm,tStamp (some (e.li,e.ve)),tNums e.nu,tOthers e.ot]:=TL.split_join (y:= "=") (s:=61) (S:= []) rfl (by decide +kernel) (by simp) (en_parts h (by omega))
theorem en_free {e:En} (h:EnF e) {s:Nat} (hs:s < 44∨57 < s∧s < 97∧s≠61∨122 < s):s∉TL.tl (tEn e):=by
 refine jn_free ?_ (en_parts h (by omega))
 show s∉ [61]
 simp only [List.mem_cons,List.not_mem_nil,or_false]
 omega
theorem ne_of_len {α:Type} {l:List α} (h:1≤l.length):l≠ []:=fun e=>by rw [e] at h;simp at h
theorem pEntry_t {e:En} (h:EnF e) (n:N3 e.li∧N3 e.ve):pEntry (tEn e)=some e:=by
 unfold pEntry
 rw [en_split h]
 show(if nmB e.nm=true then(match pStamp (tStamp (some (e.li,e.ve))) 1,allSome ((Txt.split (tNums e.nu) ",").map pNum),pNames (tOthers e.ot) with
   | some st,some ns,some os=>if numsB (.tup (ns.map A.int))=true then some (⟨e.nm,st.1,st.2,ns,os⟩:En) else none
   | _,_,_=>none) else none)=_
 rw [if_pos (isTx_nmB h.nm),pStamp_t h.li h.ve n.1 n.2,nums_split (ne_of_len h.n1),allSome_sI fun i hi=>num1000 (h.nb i hi),pNames_t h.on h.ri]
 exact if_pos (numsB_of h.n1 h.n3 h.nb)
theorem pRoll_t {es:List En} (h:RoF es) (n:∀e∈es,N3 e.li∧N3 e.ve):pRoll (es.map tEn)=some es:=by
 unfold pRoll
 rw [List.map_map,show es.map (pEntry∘tEn)=es.map some from List.map_congr_left fun e he=>pEntry_t (h.en e he) (n e he),allSome_map]
 exact if_pos ⟨h.ne,h.ri⟩
theorem pSeen_t {o:Option (Int×Int)} (h:∀s,o=some s→StF s) (n:∀s,o=some s→N3 s.1∧N3 s.2):pSeen (tStamp o)=some o:=by
 unfold pSeen
 cases o with
 | none=>exact if_pos rfl
 | some s=>
  have ne:tStamp (some s)≠ "-" :=fun e=>by
   have h1:46∈TL.tl (tStamp (some s)):=by
    show 46∈TL.tl (sI s.1 ++ ("." :Str) ++ sI s.2)
    rw [TL.tl_append,TL.tl_append]
    exact List.mem_append_left _ (List.mem_append_right _ (by decide))
   rw [e] at h1
   revert h1
   decide
  rw [if_neg ne,pStamp_t (h s rfl).1 (h s rfl).2 (n s rfl).1 (n s rfl).2]
  rfl
abbrev ltWs (l:Lt):List Str:= [l.one,l.other,tStamp (some l.stamp),tStamp l.seen,sI l.gifts,tRow l.given] ++ l.roll.map tEn
theorem lt_words {l:Lt} (h:LtR l) {s:Nat} (hs:s < 44∨57 < s∧s < 97∧s≠61∧s≠62∨122 < s):∀w∈ltWs l,s∉TL.tl w:=fun w hw=>by
 rcases List.mem_append.mp hw with hw | hw
 ·simp only [List.mem_cons,List.not_mem_nil,or_false] at hw
  rcases hw with rfl | rfl | rfl | rfl | rfl | rfl
  ·exact tx_free h.one (by omega)
  ·exact tx_free h.other (by omega)
  ·exact stamp_free _ (by omega)
  ·exact stamp_free _ (by omega)
  ·exact sI_free (by omega)
  ·exact row_free _ (by omega)
 ·obtain⟨e,he,rfl⟩:=List.mem_map.mp hw
  exact en_free (h.x.ro.en e he) (by omega)
theorem lt_j {l:Lt} (h:LtR l):tLt l=jn " " (ltWs l):=(tLt_eq h.x.ro.ne).symm
theorem lt_split {l:Lt} (h:LtR l):Txt.split (tLt l) " " =ltWs l:=by
 rw [lt_j h]
 exact jn_split (by simp) (lt_words h (by omega))
theorem lt_free {l:Lt} (h:LtR l) {s:Nat} (hs:s < 32∨s=59∨122 < s):s∉TL.tl (tLt l):=by
 rw [lt_j h]
 refine jn_free ?_ (lt_words h (by omega))
 show s∉ [32]
 simp only [List.mem_cons,List.not_mem_nil,or_false]
 omega
theorem pLetter_t {l:Lt} (h:LtR l):pLetter (tLt l)=some l:=by
 have ro:=pRoll_t h.x.ro h.ro
 unfold pLetter
 rw [lt_split h]
 unfold ltWs
 revert ro
 cases er:l.roll with
 | nil=>exact absurd er h.x.ro.ne
 | cons e es=>
  intro ro
  rw [List.map_cons] at ro ⊢
  show(if nmB l.one=true∧nmB l.other=true then(match pStamp (tStamp (some l.stamp)) 0,pSeen (tStamp l.seen),pNum (sI l.gifts),pRow (tRow l.given),pRoll (tEn e :: es.map tEn) with
    | some st,some se,some gi,some gv,some ro=>if gi < 0 then none else some (⟨l.one,l.other,st,se,gi,gv,ro⟩:Lt)
    | _,_,_,_,_=>none) else none)=_
  rw [if_pos ⟨isTx_nmB h.one,isTx_nmB h.other⟩,pStamp_t h.x.st.1 h.x.st.2 h.st.1 h.st.2,pSeen_t h.x.se h.se,pNum_sI h.gi,pRow_t h.g2 h.g4 h.x.gv h.gb,ro]
  show(if l.gifts < 0 then none else some (⟨l.one,l.other,l.stamp,l.seen,l.gifts,l.given,e :: es⟩:Lt))=_
  rw [if_neg (by have:=h.x.gi;omega),← er]
theorem starts_take {x y:Str} (h:Txt.startswith x y=true):(TL.tl x).take y.length=TL.tl y:=by
 unfold Txt.startswith at h
 rw [Bool.and_eq_true,StrLaws.subAt_eq,List.drop_zero] at h
 exact eq_of_beq h.2
theorem starts_self (y z:Str):Txt.startswith (y ++ z) y=true:=by
 have e:(TL.tl (y ++ z)).take y.length=TL.tl y:=by rw [TL.tl_append,TL.len_tl,List.take_left]
 unfold Txt.startswith
 rw [Bool.and_eq_true,StrLaws.subAt_eq,List.drop_zero]
 refine⟨decide_eq_true (by rw [lenA];omega),?_⟩
 exact beq_iff_eq.mpr e
theorem not_come {t:Str} {a b:Nat} {r:List Nat} (e:TL.tl t=a :: b :: r) (h:a≠99∨b≠111):Txt.startswith t "come " =false:=by
 cases hs:Txt.startswith t "come " with
 | false=>rfl
 | true=>
  have:=starts_take hs
  rw [e] at this
  have:a :: b :: r.take 3= [99,111,109,101,32]:=this
  simp only [List.cons.injEq] at this
  omega
theorem ends_last {x y:Str} (h:Txt.endswith x y=true) (ne:TL.tl y≠ []):(TL.tl x).getLast? =(TL.tl y).getLast? :=by
 unfold Txt.endswith at h
 rw [Bool.and_eq_true,StrLaws.subAt_eq] at h
 have hl:0+y.length≤x.length:=of_decide_eq_true h.1
 have e:((TL.tl x).drop (x.length - y.length)).take y.length=TL.tl y:=eq_of_beq h.2
 rw [List.take_of_length_le (by rw [List.length_drop,← TL.len_tl];omega)] at e
 rw [← List.take_append_drop (x.length - y.length) (TL.tl x),e,List.getLast?_append]
 cases hy:(TL.tl y).getLast? with
 | none=>exact absurd (List.getLast?_eq_none_iff.mp hy) ne
 | some c=>rfl
theorem ends_self (x y:Str):Txt.endswith (x ++ y) y=true:=by
 unfold Txt.endswith
 rw [Bool.and_eq_true,StrLaws.subAt_eq]
 refine⟨decide_eq_true (by rw [lenA];omega),beq_iff_eq.mpr ?_⟩
 rw [show(x ++ y).length - y.length=(TL.tl x).length by rw [lenA,← TL.len_tl];omega]
 show((TL.tl (x ++ y)).drop _).take _=TL.tl y
 rw [TL.tl_append,List.drop_left,TL.len_tl,List.take_length]
theorem cut_tail (x y:Str):cutS (x ++ y) none (some (((x ++ y).length:Int) - (y.length:Int)))=x:=by
 refine TL.ext_tl ?_
 rw [show(((x ++ y).length:Int) - (y.length:Int))=((x.length:Nat):Int) by rw [lenA];omega]
 unfold cutS
 rw [HT.sIx_nat,HT.sIx_none,List.drop_zero,Nat.sub_zero,Nat.min_eq_left (by rw [lenA];omega)]
 show(TL.tl (x ++ y)).take x.length=TL.tl x
 rw [TL.tl_append,TL.len_tl,List.take_left]
theorem pComeW_t {k:Nat} (hk:k < 10^1000) {z:Str} :pComeW (tDd (.come k) ++ ((" : " :Str) ++ wdT z)) z=some (.come k,.word z):=by
 unfold pComeW
 rw [if_pos (ends_self _ _),cut_tail,pDeed_tDd (d:= .come k) trivial rfl hk]
theorem pComeW_no {x z z':Str} (h:(TL.tl (wdT z)).getLast? ≠(TL.tl (wdT z')).getLast?) (n:TL.tl (wdT z)≠ []) (n':TL.tl (wdT z')≠ []):pComeW (x ++ ((" : " :Str) ++ wdT z)) z'=none:=by
 unfold pComeW
 refine if_neg fun e=>h ?_
 have:=ends_last e (by rw [TL.tl_append];exact fun e=>n' (List.append_eq_nil_iff.mp e).2)
 rw [TL.tl_append,TL.tl_append,TL.tl_append,List.getLast?_append,List.getLast?_append,List.getLast?_append] at this
 cases h1:(TL.tl (wdT z)).getLast? with
 | none=>exact absurd (List.getLast?_eq_none_iff.mp h1) n
 | some a=>
  cases h2:(TL.tl (wdT z')).getLast? with
  | none=>exact absurd (List.getLast?_eq_none_iff.mp h2) n'
  | some b=>
   rw [h1,h2] at this
   exact this
theorem pCome_t {k:Nat} (hk:k < 10^1000) {z:Str} (hz:wdB z):pCome (tDd (.come k) ++ ((" : " :Str) ++ wdT z))=some (.come k,.word z):=by
 unfold pCome
 rcases hz with rfl | rfl | rfl
 ·rw [pComeW_t hk]
 ·rw [pComeW_no (by decide) (by decide) (by decide),pComeW_t hk]
 ·rw [pComeW_no (by decide) (by decide) (by decide),pComeW_no (by decide) (by decide) (by decide)]
  exact pComeW_t hk
theorem joinL_head {S p:List Nat} {r:List (List Nat)} :∃q,TL.joinL S (p :: r)=p ++ q:=by
 cases r with
 | nil=>exact⟨[],(List.append_nil _).symm⟩
 | cons q r=>exact⟨_,rfl⟩
theorem jn_head (y p:Str) (r:List Str):∃q,TL.tl (jn y (p :: r))=TL.tl p ++ q:=by
 rw [jn_join,TL.tl_join,List.map_cons]
 exact joinL_head
theorem dd_head (d:Dd):∃w r,ddW d=w :: r∧w=d.wd:=by cases d <;> exact⟨_,_,rfl,rfl⟩
theorem wd_not {d:Dd} (h:d.wd≠ "come"):∃a b r,TL.tl d.wd=a :: b :: r∧(a≠99∨b≠111):=by
 cases d with
 | come k=>exact absurd rfl h
 | turn _=>exact⟨116,117,_,rfl,.inl (by decide)⟩
 | fall _=>exact⟨102,97,_,rfl,.inl (by decide)⟩
 | back _=>exact⟨98,97,_,rfl,.inl (by decide)⟩
 | fresh _=>exact⟨102,114,_,rfl,.inl (by decide)⟩
 | leave _=>exact⟨108,101,_,rfl,.inl (by decide)⟩
 | set _ _=>exact⟨115,101,_,rfl,.inl (by decide)⟩
 | join _ _=>exact⟨106,111,_,rfl,.inl (by decide)⟩
 | tie _ _=>exact⟨116,105,_,rfl,.inl (by decide)⟩
 | cut _ _=>exact⟨99,117,_,rfl,.inr (by decide)⟩
theorem dd_not {d:Dd} (h:d.wd≠ "come"):∃a b r,TL.tl (tDd d)=a :: b :: r∧(a≠99∨b≠111):=by
 obtain⟨w,r,e,rfl⟩:=dd_head d
 obtain⟨a,b,q,e1,hn⟩:=wd_not h
 obtain⟨q2,e2⟩:=jn_head " " d.wd r
 unfold tDd
 rw [e,e2,e1]
 exact⟨a,b,_,rfl,hn⟩
theorem dd_semi {d:Dd} (nm:d.nmd):59∉TL.tl (tDd d):=jn_free (by decide) (ddW_free nm (by omega))
theorem semi_no {p q:List Nat} (h:59∉p) (hq:q.head? ≠some 59) {i:Nat} (hi:i < p.length):TL.pre [32,59,32] ((p ++ q).drop i)=false:=by
 cases hp:TL.pre [32,59,32] ((p ++ q).drop i) with
 | false=>rfl
 | true=>
  exfalso
  have e:((p ++ q).drop i).take 3= [32,59,32]:=eq_of_beq hp
  have e1:(p ++ q)[i+1]? =some 59:=by
   have:=congrArg (fun l=>l[1]?) e
   simp only [List.getElem?_take,List.getElem?_drop] at this
   exact this
  by_cases h1:i+1 < p.length
  ·rw [List.getElem?_append_left h1] at e1
   exact h (List.mem_of_getElem? e1)
  ·rw [List.getElem?_append_right (by omega),show i+1 - p.length=0 by omega] at e1
   exact hq (by rw [List.head?_eq_getElem?];exact e1)
theorem spl_semi:∀ {ps:List (List Nat)},ps≠ []→(∀p∈ps,59∉p)→TL.spl [32,59,32] 0 [] (TL.joinL [32,59,32] ps)=ps
 | [],h,_=>absurd rfl h
 | [p],_,hp=>by
  show TL.spl [32,59,32] 0 [] p= [p]
  rw [TL.spl_last (fun i hi=>by
   have:=semi_no (q:= []) (hp p (List.mem_singleton.mpr rfl)) (by simp) hi
   rwa [List.append_nil] at this),List.nil_append]
 | p :: q :: r,_,hp=>by
  show TL.spl [32,59,32] 0 [] (p ++ ([32,59,32] ++ TL.joinL [32,59,32] (q :: r)))=p :: q :: r
  rw [TL.spl_part (by simp) (fun i hi=>semi_no (hp p List.mem_cons_self) (by simp) hi),List.nil_append,spl_semi (by simp) fun z hz=>hp z (List.mem_cons_of_mem _ hz)]
theorem semi_split {ws:List Str} (ne:ws≠ []) (h:∀w∈ws,59∉TL.tl w):Txt.split (jn " ; " ws) " ; " =ws:=by
 refine TL.map_tl_inj ?_
 rw [TL.split_spl _ _ (by decide) (TL.kind_ok (by decide +kernel)),jn_join,TL.tl_join]
 refine spl_semi (fun e=>ne (List.map_eq_nil_iff.mp e)) fun p hp=> ?_
 obtain⟨z,hz,rfl⟩:=List.mem_map.mp hp
 exact h z hz
def RowR (x:Dd×Wh):Prop:=(∃n ls,x=(.turn n,.letters ls)∧isTx8 n∧ ∀l∈ls,LtR l)∨(∃k z,x=(.come k,.word z)∧k < 10^1000∧wdB z)∨(x.1.nmd∧x.1.formB=true∧x.1.wd≠ "turn" ∧x.1.wd≠ "come" ∧x.2= .none)
theorem come_tBk (k:Nat) (z:Str):tBk (.come k,.word z)=tDd (.come k) ++ ((" : " :Str) ++ wdT z):=TL.ext_tl (by
 show TL.tl (tDd (.come k) ++ (" : " :Str) ++ wdT z)=_
 rw [TL.tl_append,TL.tl_append,TL.tl_append,TL.tl_append,List.append_assoc])
theorem other_tBk {d:Dd} (h1:d.wd≠ "turn") (h2:d.wd≠ "come"):tBk (d,.none)=tDd d:=by
 cases d with
 | turn _=>exact absurd rfl h1
 | come _=>exact absurd rfl h2
 | _=>rfl
theorem parts_tBk {x:Dd×Wh} (h:RowR x) (hc:∀k z,x≠(.come k,.word z)):Txt.split (tBk x) " ; " =tDd x.1 :: (match x.2 with | .letters ls=>ls.map tLt | _=> []):=by
 rcases h with⟨n,ls,rfl,hn,hl⟩ | ⟨k,z,rfl,_,_⟩ | ⟨h1,h2,h3,h4,h5⟩
 ·refine semi_split (by simp) fun w hw=> ?_
  rcases List.mem_cons.mp hw with rfl | hw
  ·exact dd_semi (d:= .turn n) hn
  ·obtain⟨l,hl',rfl⟩:=List.mem_map.mp hw
   exact lt_free (hl l hl') (by omega)
 ·exact absurd rfl (hc k z)
 ·obtain⟨d,w⟩:=x
  cases h5
  rw [other_tBk h3 h4]
  have:=semi_split (ws:= [tDd d]) (by simp) (fun w hw=>by rw [List.mem_singleton.mp hw];exact dd_semi h1)
  rwa [jn_join] at this
theorem pBk_t {x:Dd×Wh} (h:RowR x):pBk (tBk x)=some x:=by
 rw [pBk_eq]
 have h':=h
 rcases h with⟨n,ls,rfl,hn,hl⟩ | ⟨k,z,rfl,hk,hz⟩ | ⟨h1,h2,h3,h4,h5⟩
 ·obtain⟨a,b,r,e,hn2⟩:=dd_not (d:= .turn n) (by decide:("turn" :Str)≠ "come")
  obtain⟨q,e2⟩:=jn_head " ; " (tDd (.turn n)) (ls.map tLt)
  rw [if_neg (by
   rw [not_come (t:=tBk (.turn n,.letters ls)) (e2.trans (by rw [e];rfl)) hn2]
   exact Bool.false_ne_true)]
  unfold bkRest
  rw [parts_tBk h' fun k z e=>nomatch e]
  show(match pDeed (tDd (.turn n)),allSome ((ls.map tLt).map pLetter) with
   | some (.turn n),some ls=>some (Dd.turn n,Wh.letters ls)
   | some d,some []=>some (d,.none)
   | _,_=>none)=_
  rw [pDeed_tDd (d:= .turn n) hn rfl trivial,List.map_map,show ls.map (pLetter∘tLt)=ls.map some from List.map_congr_left fun l hl'=>pLetter_t (hl l hl'),allSome_map]
 ·rw [come_tBk,if_pos,pCome_t hk hz]
  have e:tDd (.come k) ++ ((" : " :Str) ++ wdT z)=("come " :Str) ++ (sI (k:Int) ++ ((" : " :Str) ++ wdT z)):=TL.ext_tl (by
   show TL.tl (jn " " [("come" :Str),sI (k:Int)] ++ _)=_
   rw [jn2]
   simp only [TL.tl_append,List.append_assoc]
   rfl)
  rw [e]
  exact starts_self _ _
 ·obtain⟨d,w⟩:=x
  cases h5
  obtain⟨a,b,r,e,hn2⟩:=dd_not h4
  have e2:=other_tBk h3 h4
  rw [if_neg (by rw [e2,not_come e hn2];exact Bool.false_ne_true)]
  unfold bkRest
  rw [parts_tBk h' fun k z e=>by cases e]
  show(match pDeed (tDd d),allSome (([]:List Str).map pLetter) with
   | some (.turn n),some ls=>some (Dd.turn n,Wh.letters ls)
   | some d,some []=>some (d,.none)
   | _,_=>none)=_
  have kb:d.kB:=by
   cases d with
   | come _=>exact absurd rfl h4
   | _=>trivial
  rw [pDeed_tDd h1 h2 kb]
  cases d with
  | turn _=>exact absurd rfl h3
  | _=>rfl
theorem lit_free {w:Str} (h:∀c∈TL.tl w,32≤c∧c≤122) {s:Nat} (hs:s=10∨122 < s):s∉TL.tl w:=fun hm=>by
 have:=h s hm
 omega
theorem row_frees {x:Dd×Wh} (h:RowR x) {s:Nat} (hs:s=10∨122 < s):s∉TL.tl (tBk x):=by
 have h':=h
 rcases h with⟨n,ls,rfl,hn,hl⟩ | ⟨k,z,rfl,hk,hz⟩ | ⟨h1,h2,h3,h4,h5⟩
 ·refine jn_free (lit_free (by decide) hs) fun w hw=> ?_
  rcases List.mem_cons.mp hw with rfl | hw
  ·exact jn_free (lit_free (by decide) hs) (ddW_free (d:= .turn n) hn (by omega))
  ·obtain⟨l,hl',rfl⟩:=List.mem_map.mp hw
   exact lt_free (hl l hl') (by omega)
 ·rw [come_tBk,TL.tl_append,TL.tl_append]
  intro hm
  rcases List.mem_append.mp hm with hm | hm
  ·exact jn_free (lit_free (by decide) hs) (ddW_free (d:= .come k) trivial (by omega)) hm
  ·rcases List.mem_append.mp hm with hm | hm
   ·exact lit_free (by decide) hs hm
   ·exact lit_free (by rcases hz with rfl | rfl | rfl <;> decide) hs hm
 ·obtain⟨d,w⟩:=x
  cases h5
  rw [other_tBk h3 h4]
  exact jn_free (lit_free (by decide) hs) (ddW_free h1 (by omega))
theorem row_nl {x:Dd×Wh} (h:RowR x):10∉TL.tl (tBk x):=row_frees h (.inl rfl)
theorem row_ne {x:Dd×Wh} (h:RowR x):tBk x≠ "" :=fun e=>by
 have:=pBk_t h
 rw [e] at this
 have h0:pBk "" =none:=by decide +kernel
 rw [h0] at this
 cases this
theorem book_split {rows:List (Dd×Wh)} (ne:rows≠ []) (h:∀x∈rows,RowR x):Txt.split (tBook rows) "\n" =rows.map tBk:=jn_lines (fun e=>ne (List.map_eq_nil_iff.mp e)) fun w hw=>by
 obtain⟨x,hx,rfl⟩:=List.mem_map.mp hw
 exact row_nl (h x hx)
theorem pBook_t {rows:List (Dd×Wh)} (h:∀x∈rows,RowR x):pBook (tBook rows)=some rows:=by
 unfold pBook
 by_cases ne:rows= []
 ·subst ne
  rw [if_pos (show tBook []= "" from rfl)]
 ·rw [if_neg,book_split ne h,List.map_map,show rows.map (pBk∘tBk)=rows.map some from List.map_congr_left fun x hx=>pBk_t (h x hx),allSome_map]
  intro e
  cases rows with
  | nil=>exact ne rfl
  | cons x xs=>
   have h2:=book_split ne h
   rw [e] at h2
   have h3:Txt.split "" "\n" = [("" :Str)]:=by decide +kernel
   rw [h3,List.map_cons] at h2
   exact row_ne (h x List.mem_cons_self) (List.cons.inj h2).1.symm
theorem count_joinL (c:Nat) {S:List Nat} :∀ps:List (List Nat),(TL.joinL S ps).count c≤(ps.map fun p=>p.count c+S.count c).sum
 | []=>Nat.zero_le _
 | [p]=>by
  show p.count c≤_
  rw [List.map_cons,List.sum_cons]
  omega
 | p :: q :: r=>by
  have ih:=count_joinL c (S:=S) (q :: r)
  show(p ++ (S ++ TL.joinL S (q :: r))).count c≤_
  rw [List.count_append,List.count_append,List.map_cons,List.sum_cons]
  omega
theorem few1 {w:Str} (h:44∉TL.tl w):(Txt.split w ",").length≤62:=by
 rw [sp1 (y:= ",") (s:=44) (S:= []) rfl (by decide +kernel) h]
 show 1≤62
 decide
theorem few_w {w:Str} (h:61∉TL.tl w) (h2:(Txt.split w ",").length≤62):∀u∈Txt.split w "=",(Txt.split u ",").length≤62:=fun u hu=>by
 rw [sp1 (y:= "=") (s:=61) (S:= []) rfl (by decide +kernel) h] at hu
 rw [List.mem_singleton.mp hu]
 exact h2
theorem few_lt {l:Lt} (h:LtR l):FewW (tLt l):=by
 refine⟨?_,?_⟩
 ·rw [lt_split h,List.length_append,List.length_map]
  have:=h.few
  show 6+_≤_
  omega
 ·rw [lt_split h]
  intro w hw
  rcases List.mem_append.mp hw with hw | hw
  ·have g2:=h.g2
   simp only [List.mem_cons,List.not_mem_nil,or_false] at hw
   rcases hw with rfl | rfl | rfl | rfl | rfl | rfl
   ·exact few_w (tx_free h.one (by omega)) (few1 (tx_free h.one (by omega)))
   ·exact few_w (tx_free h.other (by omega)) (few1 (tx_free h.other (by omega)))
   ·exact few_w (stamp_free _ (by omega)) (few1 (stamp_free _ (by omega)))
   ·exact few_w (stamp_free _ (by omega)) (few1 (stamp_free _ (by omega)))
   ·exact few_w (sI_free (by omega)) (few1 (sI_free (by omega)))
   ·refine few_w (row_free _ (by omega)) ?_
    rw [row_split (ne_of_len (by omega)),List.length_map]
    have:=h.g4
    omega
  ·obtain⟨e,he,rfl⟩:=List.mem_map.mp hw
   have f:=h.x.ro.en e he
   intro u hu
   rw [en_split f] at hu
   simp only [List.mem_cons,List.not_mem_nil,or_false] at hu
   rcases hu with rfl | rfl | rfl | rfl
   ·exact few1 (tx_free f.nm (by omega))
   ·exact few1 (stamp_free _ (by omega))
   ·rw [nums_split (ne_of_len f.n1),List.length_map]
    have:=f.n3
    omega
   ·unfold tOthers
    by_cases e0:e.ot= []
    ·rw [if_pos e0]
     exact few1 (by decide)
    ·rw [if_neg e0,oth_split e0 f.on]
     have:=f.ot
     omega
theorem few_dd {d:Dd} (nm:d.nmd) (t:d.txB):FewW (tDd d):=by
 obtain⟨h1,_⟩:=ddW_len t
 refine⟨by rw [tDd_split nm];omega,?_⟩
 rw [tDd_split nm]
 exact fun w hw=>few_w (ddW_free nm (by omega) w hw) (few1 (ddW_free nm (by omega) w hw))
theorem blanks {w:Str} {n:Nat} (h:(Txt.split w " ").length≤n):(TL.tl w).count 32+1≤n:=by
 rw [split_count (y:= " ") (s:=32) rfl (by decide +kernel) w] at h
 exact h
theorem row_few {x:Dd×Wh} {k:Nat} (h:RowR x) (no:Noted k x) (hk:k≤1500):(tBk x).length≤1000000∧(∀part∈Txt.split (tBk x) " ; ",FewW part)∧(Txt.split (tBk x) " ").length≤900:=by
 have ll:=(tBk_len hk no).1
 refine⟨by omega,?_,?_⟩
 ·have h':=h
  rcases h with⟨n,ls,rfl,hn,hl⟩ | ⟨m,z,rfl,hm,hz⟩ | ⟨h1,h2,h3,h4,h5⟩
  ·rw [parts_tBk h' fun k z e=>nomatch e]
   intro p hp
   rcases List.mem_cons.mp hp with rfl | hp
   ·exact few_dd (d:= .turn n) hn no.1
   ·obtain⟨l,hl',rfl⟩:=List.mem_map.mp hp
    exact few_lt (hl l hl')
  ·have hs:59∉TL.tl (tBk (.come m,.word z)):=by
    rw [come_tBk,TL.tl_append,TL.tl_append]
    intro hm
    rcases List.mem_append.mp hm with hm | hm
    ·exact dd_semi (d:= .come m) trivial hm
    ·rcases List.mem_append.mp hm with hm | hm
     ·revert hm;decide
     ·rcases hz with rfl | rfl | rfl <;> (revert hm;decide)
   have e:=semi_split (ws:= [tBk (.come m,.word z)]) (by simp) (fun w hw=>by rw [List.mem_singleton.mp hw];exact hs)
   rw [jn_join] at e
   intro p hp
   have e:Txt.split (tBk (.come m,.word z)) " ; " = [tBk (.come m,.word z)]:=e
   rw [e] at hp
   rw [List.mem_singleton.mp hp]
   have ej:tBk (.come m,.word z)=jn " " [("come" :Str),sI (m:Int),":",wdT z]:=TL.ext_tl (by
    rw [come_tBk,jn_join]
    show TL.tl (jn " " [("come" :Str),sI (m:Int)] ++ _)=TL.tl (("come" :Str) ++ (" " :Str) ++ (sI (m:Int) ++ (" " :Str) ++ ((":" :Str) ++ (" " :Str) ++ wdT z)))
    rw [jn2]
    simp only [TL.tl_append,List.append_assoc]
    rfl)
   have fr:∀s,s < 45∨s=61→ ∀w∈ [("come" :Str),sI (m:Int),":",wdT z],s∉TL.tl w:=fun s hs w hw=>by
    simp only [List.mem_cons,List.not_mem_nil,or_false] at hw
    rcases hw with rfl | rfl | rfl | rfl
    ·intro hm
     have:∀c∈TL.tl ("come" :Str),97≤c:=by decide
     have:=this s hm;omega
    ·exact sI_free (by omega)
    ·show s∉ [58]
     simp only [List.mem_cons,List.not_mem_nil,or_false]
     omega
    ·intro hm
     have:∀c∈TL.tl (wdT z),97≤c:=by rcases hz with rfl | rfl | rfl <;> decide
     have:=this s hm;omega
   rw [ej]
   refine⟨?_,?_⟩
   ·rw [jn_split (by simp) (fr 32 (by omega))]
    show 4≤69
    decide
   ·rw [jn_split (by simp) (fr 32 (by omega))]
    exact fun w hw=>few_w (fr 61 (by omega) w hw) (few1 (fr 44 (by omega) w hw))
  ·obtain⟨d,w⟩:=x
   cases h5
   rw [parts_tBk h' fun k z e=>by cases e]
   intro p hp
   rw [List.mem_singleton.mp hp]
   refine few_dd h1 ?_
   cases d with
   | turn _=>exact absurd rfl h3
   | come _=>exact absurd rfl h4
   | _=>exact no
 ·have h':=h
  rw [split_count (y:= " ") (s:=32) rfl (by decide +kernel)]
  rcases h with⟨n,ls,rfl,hn,hl⟩ | ⟨m,z,rfl,hm,hz⟩ | ⟨h1,h2,h3,h4,h5⟩
  ·have c1:=blanks (few_dd (d:= .turn n) hn no.1).1
   obtain⟨_,_,e,h8,_⟩:=no
   cases e
   show(TL.tl (jn " ; " (tDd (.turn n) :: ls.map tLt))).count 32+1≤900
   rw [jn_join,TL.tl_join]
   have c2:=count_joinL 32 (S:=TL.tl " ; ") ((tDd (.turn n) :: ls.map tLt).map TL.tl)
   have c3:(((tDd (.turn n) :: ls.map tLt).map TL.tl).map fun p=>p.count 32+(TL.tl " ; ").count 32).sum≤(((tDd (.turn n) :: ls.map tLt).map TL.tl)).length*72:=sum_le fun p hp=>by
    obtain⟨w,hw,rfl⟩:=List.mem_map.mp hp
    have:(TL.tl (" ; " :Str)).count 32=2:=by decide
    rw [this]
    rcases List.mem_cons.mp hw with rfl | hw
    ·omega
    ·obtain⟨l,hl',rfl⟩:=List.mem_map.mp hw
     have:=blanks (few_lt (hl l hl')).1
     omega
   rw [List.length_map,List.length_cons,List.length_map] at c3
   have:(ls.length+1)*72≤9*72:=Nat.mul_le_mul_right _ (by omega)
   omega
  ·rw [come_tBk,TL.tl_append,TL.tl_append,List.count_append,List.count_append]
   have c1:(TL.tl (tDd (.come m))).count 32+1≤5:=blanks (by rw [tDd_split (d:= .come m) trivial];exact(ddW_len (d:= .come m) hm).1)
   have c2:(TL.tl (" : " :Str)).count 32=2:=by decide
   have c3:(TL.tl (wdT z)).count 32=0:=by rcases hz with rfl | rfl | rfl <;> decide
   omega
  ·obtain⟨d,w⟩:=x
   cases h5
   have tb:d.txB:=by
    cases d with
    | turn _=>exact absurd rfl h3
    | come _=>exact absurd rfl h4
    | _=>exact no
   rw [other_tBk h3 h4]
   have:=blanks (few_dd h1 tb).1
   omega
theorem book_few {rows:List (Dd×Wh)} {k:Nat} (h:∀x∈rows,RowR x) (no:∀x∈rows,Noted k x) (hk:k≤1500) (hb:(tBook rows).length≤15000000):FewT (tBook rows)∧ ∀row∈Txt.split (tBook rows) "\n",(Txt.split row " ").length≤900:=by
 by_cases ne:rows= []
 ·subst ne
  have e:Txt.split (tBook []) "\n" = [("" :Str)]:=by decide +kernel
  have e2:Txt.split ("" :Str) " ; " = [("" :Str)]:=by decide +kernel
  have e3:Txt.split ("" :Str) " " = [("" :Str)]:=by decide +kernel
  have e4:Txt.split ("" :Str) "=" = [("" :Str)]:=by decide +kernel
  have e5:Txt.split ("" :Str) "," = [("" :Str)]:=by decide +kernel
  refine⟨⟨hb,fun row hr=> ?_⟩,fun row hr=> ?_⟩
  ·rw [e] at hr
   rw [List.mem_singleton.mp hr]
   refine⟨by decide,fun p hp=> ?_⟩
   rw [e2] at hp
   rw [List.mem_singleton.mp hp]
   refine⟨by rw [e3];decide,?_⟩
   rw [e3]
   intro w hw
   rw [List.mem_singleton.mp hw,e4]
   intro u hu
   rw [List.mem_singleton.mp hu,e5]
   decide
  ·rw [e] at hr
   rw [List.mem_singleton.mp hr,e3]
   decide
 ·rw [show FewT (tBook rows)=((tBook rows).length≤15000000∧ ∀row∈Txt.split (tBook rows) "\n",row.length≤1000000∧ ∀part∈Txt.split row " ; ",FewW part) from rfl,book_split ne h]
  refine⟨⟨hb,fun row hr=> ?_⟩,fun row hr=> ?_⟩
  ·obtain⟨x,hx,rfl⟩:=List.mem_map.mp hr
   obtain⟨a,b,_⟩:=row_few (h x hx) (no x hx) hk
   exact⟨a,b⟩
  ·obtain⟨x,hx,rfl⟩:=List.mem_map.mp hr
   exact(row_few (h x hx) (no x hx) hk).2.2
abbrev N_is_whole_number:List Str:= ["thing"]
def t_is_whole_number (K:PySem.W.Frag):TS:=
 (tRet (tAndV (tCB (rIsi K) (tCons (tVar 0) (tCons (tC (.ty "int")) tNil))) (tNotV (tCB (rIsi K) (tCons (tVar 0) (tCons (tC (.ty "bool")) tNil))))))
theorem p_is_whole_number_len {K:PySem.W.Frag} {vs:List V} {H:Hp} {Q:VK} {E:XK} (h:cs K fIsInt vs H Q E):vs.length=1:=fn_len (fun as M Q ⟨_,e,_⟩=>by rw [e];rfl) h
theorem p_is_whole_number {K:PySem.W.Frag} {vs:List V} {H:Hp} {Q:VK} {E:XK} (h:cs K fIsInt vs H Q E):t_is_whole_number K { nx:=fun _ H'=>Q .non H',rt:=Q } (start N_is_whole_number vs) H:=fn_of h fun as M Qa h=>by
 obtain⟨a,rfl,hp,q⟩:=h
 unfold t_is_whole_number
 cases a <;> first | (cases hp;done) | (walk_at "a";exact q)
def stOk (s:Int×Int):Prop:=1≤s.1∧s.1≤30∧0≤s.2∧s.2≤29
def ptOk (x:Pt):Prop:=isPt x.1 (x.2:Int)=true∧x.1.natAbs < 10^42∧x.2≤500
def enOk (e:En):Prop:=EnF e∧e.li≤30∧e.ve≤30
def ltOk (l:Lt):Prop:=LtR l∧LtT 50 l
def rowOk (x:Dd×Wh):Prop:=RowR x∧Noted 50 x∧RollsN x
def fStampW:ASp:=fun as M Q=> ∃(l:Addr) (a k:Nat) (z:Int) (C:AO→AM),as= [.loc l]∧Ctx M l (wlO a z k) C∧k < 800000∧ ∀(s:Int×Int) (a' k':Nat),stOk s→k'≤k+4→Q (.tup [.int s.1,.int s.2]) (C (wlO a' z k'))
def fPartW:ASp:=fun as M Q=> ∃(l:Addr) (a k:Nat) (z:Int) (C:AO→AM),as= [.loc l]∧Ctx M l (wlO a z k) C∧k < 600000∧ ∀(x:Pt) (a' k':Nat),ptOk x→k'≤k+7→Q (ptA x) (C (wlO a' z k'))
def fEntryW:ASp:=fun as M Q=> ∃(l:Addr) (a k n:Nat) (z:Int) (C:AO→AM) (w:Str),as= [.loc l,.str w,.int (n:Int)]∧Ctx M l (wlO a z k) C∧k < 600000∧isTx8 w∧1≤n∧n≤3∧ ∀(e:En) (a' k':Nat),e.nm=w→enOk e→k'≤k+50→Q (entA e) (C (wlO a' z k'))
def fLetterW:ASp:=fun as M Q=> ∃(l:Addr) (a k:Nat) (z:Int) (C:AO→AM),as= [.loc l]∧Ctx M l (wlO a z k) C∧k < 500000∧ ∀(x:Lt) (a' k':Nat),ltOk x→k'≤k+500→Q (ltA x) (C (wlO a' z k'))
def fAnyRowW:ASp:=fun as M Q=> ∃(l:Addr) (a k:Nat) (z:Int) (C:AO→AM),as= [.loc l]∧Ctx M l (wlO a z k) C∧k < 400000∧ ∀(x:Dd×Wh) (a' k':Nat),rowOk x→k'≤k+3000→Q (rwA x) (C (wlO a' z k'))
abbrev N_m_stamp:List Str:= ["_law_well_here"]
def t_m_stamp (K:PySem.W.Frag):TS:=
 (tRet (tTup (tCons (tOp rAddI (tC (.int 1)) (tCall (cs K fDrawW) [] E0 (tCons (tVar 0) (tCons (tOp (rIxL K) (tLst (tCons (tC (.int 2)) (tCons (tC (.int 30)) tNil))) (tCall (cs K fDrawW) [] E0 (tCons (tVar 0) (tCons (tC (.int 2)) tNil)))) tNil)))) (tCons (tCall (cs K fDrawW) [] E0 (tCons (tVar 0) (tCons (tOp (rIxL K) (tLst (tCons (tC (.int 2)) (tCons (tC (.int 30)) tNil))) (tCall (cs K fDrawW) [] E0 (tCons (tVar 0) (tCons (tC (.int 2)) tNil)))) tNil))) tNil))))
abbrev N_m_part:List Str:= ["_law_well_here","_law_some","_law_whole"]
def t_m_part (K:PySem.W.Frag):TS:=
 (tSeq (tAsg (tLst (tCons (tOp rSubI (tCall (cs K fDrawW) [] E0 (tCons (tVar 0) (tCons (tC (.int 9)) tNil))) (tC (.int 4))) (tCons (tCall (cs K fDrawW) [] E0 (tCons (tVar 0) (tCons (tOp rPowI (tC (.int 10)) (tC (.int 13))) tNil))) (tCons (tOp rSubI (tC (.int 0)) (tCall (cs K fDrawW) [] E0 (tCons (tVar 0) (tCons (tOp rPowI (tC (.int 10)) (tC (.int 40))) tNil)))) tNil)))) (gName 1))
  (tSeq (tAsg (tOp (rIxL K) (tVar 1) (tCall (cs K fDrawW) [] E0 (tCons (tVar 0) (tCons (tC (.int 3)) tNil)))) (gName 2))
  (tSeq (tIfS (tTest (tOp rEq (tCall (cs K fDrawW) [] E0 (tCons (tVar 0) (tCons (tC (.int 3)) tNil))) (tC (.int 0)))) (tRet (tTup (tCons (tVar 2) (tCons (tC (.int 0)) tNil)))) tNext)
  (tRet (tTup (tCons (tOp rAddI (tOp rMulI (tC (.int 2)) (tVar 2)) (tC (.int 1))) (tCons (tOp rAddI (tC (.int 1)) (tCall (cs K fDrawW) [] E0 (tCons (tVar 0) (tCons (tOp (rIxL K) (tLst (tCons (tC (.int 4)) (tCons (tC (.int 500)) tNil))) (tCall (cs K fDrawW) [] E0 (tCons (tVar 0) (tCons (tC (.int 2)) tNil)))) tNil)))) tNil)))))))
abbrev N_m_entry:List Str:= ["_law_well_here","_law_name","_law_size","_law_others","_law_life","_law_version"]
def t_m_entry (K:PySem.W.Frag):TS:=
 (tSeq (tAsg (tCB (rTupOf K) (tCons (tCB (rSortedS K) (tCons (tCall (cs K fNamesW) [] E0 (tCons (tVar 0) (tCons (tCall (cs K fDrawW) [] E0 (tCons (tVar 0) (tCons (tC (.int 4)) tNil))) tNil))) tNil)) tNil)) (gName 3))
  (tSeq (tAsg (tCall (cs K fStampW) [] E0 (tCons (tVar 0) tNil)) (gTup K 2 (gCons (gName 4) (gCons (gName 5) gNil))))
  (tRet (tTup (tCons (tVar 1) (tCons (tVar 4) (tCons (tOp rAddI (tVar 5) (tC (.int 1))) (tCons (tCall (cs K fNumbersW) [] E0 (tCons (tVar 0) (tCons (tVar 2) tNil))) (tCons (tVar 3) tNil)))))))))
section
variable {K:PySem.W.Frag} {C:AO→AM} {l:Addr} {z:Int}
/-- a draw from a well -/
theorem w_dr {s:Sv} {M:AM} {te:TE} {Q2:QA} (hC2:∀u,Ctx (C u) l u C) (h0:s[0]? =some (some (.loc l))) (ht:EE K (fun _ _ _=>False) (fun _ _=>False) te s M fun x M1=> ∃n a1 k1:Nat,x= .int (n:Int)∧M1=C (wlO a1 z k1)∧0 < n∧n < 2^200∧k1 < 900000∧ ∀v a2 k2:Nat,v < n→k2≤k1+1→Q2 (.int (v:Int)) (C (wlO a2 z k2))) :
  EE K (fun _ _ _=>False) (fun _ _=>False) (tCall (cs K fDrawW) [] E0 (tCons (tVar 0) (tCons te tNil))) s M Q2:=
 e_call (a_cons (e_var h0 (a_cons (ht.mono fun x M1 ⟨n,a1,k1,e1,e2,n0,n1,hk,q⟩=>by
  subst e1 e2
  exact a_nil ⟨l,_,_,_,z,_,rfl,hC2 _,n0,n1,by omega,q⟩))))
/-- one of two numbers -/
theorem w_two {s:Sv} {x y a1 k1:Nat} {Q2:QA} (hC2:∀u,Ctx (C u) l u C) (h0:s[0]? =some (some (.loc l))) (hk:k1 < 900000) (q:∀n a2 k2:Nat,n=x∨n=y→k2≤k1+1→Q2 (.int (n:Int)) (C (wlO a2 z k2))) :
  EE K (fun _ _ _=>False) (fun _ _=>False) (tOp (rIxL K) (tLst (tCons (tC (.int (x:Int))) (tCons (tC (.int (y:Int))) tNil))) (tCall (cs K fDrawW) [] E0 (tCons (tVar 0) (tCons (tC (.int 2)) tNil)))) s (C (wlO a1 z k1)) Q2:=by
 refine e_op (e_lst (a_cons (e_int (a_cons (e_int (a_nil ⟨len2,w_dr hC2 h0 (e_int ⟨2,a1,k1,rfl,rfl,by decide,by decide,hk,fun v a2 k2 hv hk2=> ?_⟩)⟩))))))
 have:v=0∨v=1:=by omega
 rcases this with rfl | rfl
 ·exact o_ixL (a:= .int (x:Int)) .lst rfl (q x a2 k2 (.inl rfl) hk2)
 ·exact o_ixL (a:= .int (y:Int)) .lst rfl (q y a2 k2 (.inr rfl) hk2)
variable {vs:List V} {H:Hp} {Q:VK} {E:XK}
theorem p_m_stamp_len (h:cs K fStampW vs H Q E):vs.length=1:=fn_len (fun as M Q ⟨_,_,_,_,_,e,_⟩=>by rw [e];rfl) h
theorem p_m_stamp (h:cs K fStampW vs H Q E):t_m_stamp K { nx:=fun _ H'=>Q .non H',rt:=Q } (start N_m_stamp vs) H:=fn_of h fun as M Qa h=>by
 obtain⟨l,a,k,z,C,rfl,hC,hk,q⟩:=h
 have eM:=hC.eq
 subst eM
 have hC2:∀u,Ctx (C u) l u C:=fun u=>hC.at u
 unfold t_m_stamp
 refine s_ret (e_tup (a_cons (e_op (e_int (w_dr hC2 rfl (w_two (x:=2) (y:=30) hC2 rfl (by omega) fun n a1 k1 hn hk1=>⟨n,a1,k1,rfl,rfl,by omega,Nat.lt_of_le_of_lt (show n≤30 by omega) (by decide),by omega,fun v a2 k2 hv hk2=>o_add ?_⟩))))))
 refine a_cons (w_dr hC2 rfl (w_two (x:=2) (y:=30) hC2 rfl (by omega) fun m a3 k3 hm hk3=>⟨m,a3,k3,rfl,rfl,by omega,Nat.lt_of_le_of_lt (show m≤30 by omega) (by decide),by omega,fun w a4 k4 hw hk4=>a_nil ⟨len2,dn0 (q (1+(v:Int),(w:Int)) a4 k4 ⟨by show(1:Int)≤1+(v:Int);omega,by show 1+(v:Int)≤30;omega,by show(0:Int)≤(w:Int);omega,by show(w:Int)≤29;omega⟩ (by omega))⟩⟩))
theorem p_m_part_len (h:cs K fPartW vs H Q E):vs.length=1:=fn_len (fun as M Q ⟨_,_,_,_,_,e,_⟩=>by rw [e];rfl) h
theorem p_m_part (h:cs K fPartW vs H Q E):t_m_part K { nx:=fun _ H'=>Q .non H',rt:=Q } (start N_m_part vs) H:=fn_of h fun as M Qa h=>by
 obtain⟨l,a,k,z,C,rfl,hC,hk,q⟩:=h
 have eM:=hC.eq
 subst eM
 have hC2:∀u,Ctx (C u) l u C:=fun u=>hC.at u
 unfold t_m_part
 refine s_seq (s_asg (e_lst (a_cons (e_op (w_dr hC2 rfl (e_int ⟨9,a,k,rfl,rfl,by decide,by decide,by omega,fun v a1 k1 hv hk1=>e_int (o_subI ?_)⟩))))))
 refine a_cons (w_dr hC2 rfl (e_op (e_int (e_int (o_pow ⟨by decide +kernel,by decide +kernel,by decide +kernel⟩ ⟨10^13,a1,k1,rfl,rfl,by decide,by decide,by omega,fun w a2 k2 hw hk2=> ?_⟩)))))
 refine a_cons (e_op (e_int (w_dr hC2 rfl (e_op (e_int (e_int (o_pow ⟨by decide +kernel,by decide +kernel,by decide +kernel⟩ ⟨10^40,a2,k2,rfl,rfl,by decide,by decide,by omega,fun x a3 k3 hx hk3=>o_subI (a_nil ⟨len3,?_⟩)⟩)))))))
 refine s_seq (s_asg (e_op (e_var rfl (w_dr hC2 rfl (e_int ⟨3,a3,k3,rfl,rfl,by decide,by decide,by omega,fun j a4 k4 hj hk4=> ?_⟩)))))
 obtain⟨i,hi,bi⟩:∃i:Int,atI [A.int ((v:Int) - 4),A.int (w:Int),A.int (0 - (x:Int))] (j:Int)=some (.int i)∧i.natAbs≤10^40:=by
  have h13:(10:Nat)^13≤10^40:=by decide
  have h1:(9:Nat)≤10^40:=by decide
  have:j=0∨j=1∨j=2:=by omega
  rcases this with rfl | rfl | rfl
  ·exact⟨_,rfl,by omega⟩
  ·exact⟨_,rfl,by rw [Int.natAbs_natCast];omega⟩
  ·exact⟨_,rfl,by omega⟩
 have h4042:(10:Nat)^40*2+1 < 10^42:=by decide
 refine o_ixL .lst hi ?_
 refine s_seq (s_if (t_testB (e_op (w_dr hC2 rfl (e_int ⟨3,a4,k4,rfl,rfl,by decide,by decide,by omega,fun y a5 k5 hy hk5=>e_int (o_eqI ⟨_,rfl,if_b (fun h=> ?_) (fun h=>s_next ?_)⟩)⟩)))))
 ·refine s_ret (e_tup (a_cons (e_var rfl (a_cons (e_int (a_nil ⟨len2,dn0 (q (i,0) a5 k5 ⟨?_,by show i.natAbs < _;omega,by show 0≤500;decide⟩ (by omega))⟩))))))
  show isPt i 0=true
  unfold isPt
  rfl
 ·have hm:CMul 2 i:= .inl ⟨by decide,by decide⟩
  refine s_ret (e_tup (a_cons (e_op (e_op (e_int (e_var rfl (o_mul hm (e_int (o_add ?_)))))))))
  refine a_cons (e_op (e_int (w_dr hC2 rfl (w_two (x:=4) (y:=500) hC2 rfl (by omega) fun n a6 k6 hn hk6=>⟨n,a6,k6,rfl,rfl,by omega,Nat.lt_of_le_of_lt (show n≤500 by omega) (by decide),by omega,fun t a7 k7 ht hk7=>o_add (a_nil ⟨len2,?_⟩)⟩))))
  have e:(1+(t:Int))=((1+t:Nat):Int):=by omega
  rw [e]
  refine dn0 (q (2*i+1,1+t) a7 k7 ⟨?_,by show(2*i+1).natAbs < _;omega,by show 1+t≤500;omega⟩ (by omega))
  show isPt (2*i+1) ((1+t:Nat):Int)=true
  unfold isPt
  rw [decide_eq_true (show(0:Int)≤((1+t:Nat):Int) by omega),decide_eq_true (show(2*i+1) % 2=1 by omega),Bool.or_true]
  rfl
theorem p_m_entry_len (h:cs K fEntryW vs H Q E):vs.length=3:=fn_len (fun as M Q ⟨_,_,_,_,_,_,_,e,_⟩=>by rw [e];rfl) h
theorem p_m_entry (h:cs K fEntryW vs H Q E):t_m_entry K { nx:=fun _ H'=>Q .non H',rt:=Q } (start N_m_entry vs) H:=fn_of h fun as M Qa h=>by
 obtain⟨l,a,k,n,z,C,w,rfl,hC,hk,tw,n1,n3,q⟩:=h
 have eM:=hC.eq
 subst eM
 have hC2:∀u,Ctx (C u) l u C:=fun u=>hC.at u
 unfold t_m_entry
 refine s_seq (s_asg (e_cb (a_cons (e_cb (a_cons (e_call (a_cons (e_var rfl (a_cons (w_dr hC2 rfl (e_int ⟨4,a,k,rfl,rfl,by decide,by decide,by omega,fun v a2 k2 hv hk2=>a_nil ⟨l,a2,k2,v,z,C,rfl,hC2 _,by omega,by omega,fun zs a3 k3 lz nz tz _ hk3=>a_nil (l_sorted .lst (by omega) fun ys hy sy=>a_nil (l_tupL .lst ?_))⟩⟩)))))))))))
 have ny:ys.Nodup:=hy.nodup_iff.mpr nz
 have ly:ys.length=v:=by rw [hy.length_eq,lz]
 refine s_seq (s_asgG (e_call (a_cons (e_var rfl (a_nil ⟨l,a3,k3,z,_,rfl,hC2 _,by omega,fun s a4 k4 hs hk4=>g_tup rfl (g_cons (g_name (g_cons (g_name (g_nil ?_)))))⟩)))))
 obtain⟨s1,s2,s3,s4⟩:=hs
 refine s_ret (e_tup (a_cons (e_var rfl (a_cons (e_var rfl (a_cons (e_op (e_var rfl (e_int (o_add (a_cons (e_call (a_cons (e_var rfl (a_cons (e_var rfl (a_nil ⟨l,a4,k4,n,z,_,rfl,hC2 _,by omega,by omega,fun ns a5 k5 ln hn hk5=>a_cons (e_var rfl (a_nil ⟨by show 5≤_;decide,?_⟩))⟩)))))))))))))))))
 refine dn0 (q ⟨w,s.1,s.2+1,ns,ys⟩ a5 k5 rfl ⟨⟨tw,s1,by show(1:Int)≤s.2+1;omega,by show 1≤ns.length;omega,by show ns.length≤3;omega,fun i hi=>by have:=hn i hi;omega,by show ys.length≤8;omega,fun y h=>tz y (hy.mem_iff.mp h),risB_of ny sy⟩,s2,by show s.2+1≤30;omega⟩ (by omega))
end
abbrev N_m_letter:List Str:= ["_law_well_here","_law_one","_law_other","_law_given","_law_seen","_law_some","_law_gifts","_law_names_here","_law_roll","_law_k","_law_name"]
def t_m_letter (K:PySem.W.Frag):TS:=
 (tSeq (tAsg (tCall (cs K fNamesW) [] E0 (tCons (tVar 0) (tCons (tC (.int 2)) tNil))) (gUnl K 2 (gCons (gName 1) (gCons (gName 2) gNil))))
  (tSeq (tAsg (tOp (rIxL K) (tLst (tCons (tVar 2) (tCons (tVar 1) tNil))) (tCB rInt1 (tCons (tOp rEq (tCall (cs K fDrawW) [] E0 (tCons (tVar 0) (tCons (tC (.int 4)) tNil))) (tC (.int 0))) tNil))) (gName 2))
  (tSeq (tAsg (tCB (rTupOf K) (tCons (tLc (iRng1 (tCons (tOp rAddI (tC (.int 2)) (tCall (cs K fDrawW) [] E0 (tCons (tVar 0) (tCons (tC (.int 3)) tNil)))) tNil)) (gName 9) tYes (tCall (cs K fPartW) [] E0 (tCons (tVar 0) tNil)) [9]) tNil)) (gName 3))
  (tSeq (tAsg (tOp (rIxL K) (tLst (tCons (tC .non) (tCons (tCall (cs K fStampW) [] E0 (tCons (tVar 0) tNil)) tNil))) (tCall (cs K fDrawW) [] E0 (tCons (tVar 0) (tCons (tC (.int 2)) tNil)))) (gName 4))
  (tSeq (tAsg (tLst (tCons (tC (.int 0)) (tCons (tCall (cs K fDrawW) [] E0 (tCons (tVar 0) (tCons (tC (.int 100)) tNil))) (tCons (tCall (cs K fDrawW) [] E0 (tCons (tVar 0) (tCons (tOp rPowI (tC (.int 10)) (tC (.int 12))) tNil))) (tCons (tOp rAddI (tCB (Go.rIntU K) (tCons (tOp rAddStr (tC (.str ("1" :Str))) (tOp rRepStr (tC (.str ("0" :Str))) (tC (.int 999)))) tNil)) (tCall (cs K fDrawW) [] E0 (tCons (tVar 0) (tCons (tC (.int 10)) tNil)))) tNil))))) (gName 5))
  (tSeq (tAsg (tOp (rIxL K) (tVar 5) (tCall (cs K fDrawW) [] E0 (tCons (tVar 0) (tCons (tC (.int 4)) tNil)))) (gName 6))
  (tSeq (tAsg (tCB (rSortedS K) (tCons (tCall (cs K fNamesW) [] E0 (tCons (tVar 0) (tCons (tOp rAddI (tC (.int 1)) (tCall (cs K fDrawW) [] E0 (tCons (tVar 0) (tCons (tC (.int 4)) tNil)))) tNil))) tNil)) (gName 7))
  (tSeq (tAsg (tCB (rTupOf K) (tCons (tLc (iList K (tVar 7)) (gName 10) tYes (tCall (cs K fEntryW) [] E0 (tCons (tVar 0) (tCons (tVar 10) (tCons (tOp rAddI (tC (.int 1)) (tCall (cs K fDrawW) [] E0 (tCons (tVar 0) (tCons (tC (.int 3)) tNil)))) tNil)))) [10]) tNil)) (gName 8))
  (tRet (tTup (tCons (tVar 1) (tCons (tVar 2) (tCons (tCall (cs K fStampW) [] E0 (tCons (tVar 0) tNil)) (tCons (tVar 4) (tCons (tVar 6) (tCons (tVar 3) (tCons (tVar 8) tNil)))))))))))))))))
theorem dv_zeros (k:Nat):NumText.digitsVal (49 :: List.replicate k 48)=10^k:=by
 induction k with
 | zero=>rfl
 | succ k ih=>
  have e:49 :: List.replicate (k+1) 48=(49 :: List.replicate k 48) ++ [48]:=by rw [List.replicate_succ',List.cons_append]
  rw [e]
  unfold NumText.digitsVal at ih ⊢
  rw [List.foldl_append,ih,Nat.pow_succ]
  rfl
theorem big_int:∃n:Nat,PySem.intText? (("1" :Str) ++ Txt.mul ("0" :Str) (999:Int))=some (n:Int)∧n+10≤10^1000∧(("1" :Str) ++ Txt.mul ("0" :Str) (999:Int)).length≤1000:=by
 have em:Txt.mul ("0" :Str) (999:Int)=⟨(List.replicate 999 48).toArray⟩:=by
  have:=mul_list 48 999
  rwa [show sgn 48=("0" :Str) by decide +kernel] at this
 have el:(("1" :Str) ++ Txt.mul ("0" :Str) (999:Int)).cps.toList=49 :: List.replicate 999 48:=by
  rw [em]
  show(("1" :Str).cps ++ (List.replicate 999 48).toArray).toList=_
  rw [Array.toList_append,show("1" :Str).cps.toList= [49] by decide +kernel]
  rfl
 have ln:(("1" :Str) ++ Txt.mul ("0" :Str) (999:Int)).length=1000:=by
  rw [str_len,el,List.length_cons,List.length_replicate]
 refine⟨10^999,?_,?_,by omega⟩
 ·rw [PySem.intText_digits (fun c hc=>by
   rw [el] at hc
   rcases List.mem_cons.mp hc with rfl | hc
   ·omega
   ·rw [(List.mem_replicate.mp hc).2];omega) (by rw [el];exact List.cons_ne_nil _ _) (by rw [ln];omega),el,dv_zeros]
 ·have h:(10:Nat)^1≤10^999:=Nat.pow_le_pow_right (by decide) (by decide)
  have e:(10:Nat)^1000=10^999*10:=Nat.pow_succ 10 999
  rw [e]
  generalize (10:Nat)^999=x at h ⊢
  omega
section
variable {K:PySem.W.Frag} {vs:List V} {H:Hp} {Q:VK} {E:XK}
theorem p_m_letter_len (h:cs K fLetterW vs H Q E):vs.length=1:=fn_len (fun as M Q ⟨_,_,_,_,_,e,_⟩=>by rw [e];rfl) h
theorem p_m_letter (dg:DigK K) (h:cs K fLetterW vs H Q E):t_m_letter K { nx:=fun _ H'=>Q .non H',rt:=Q } (start N_m_letter vs) H:=fn_of h fun as M Qa h=>by
 obtain⟨l,a,k,z,C,rfl,hC,hk,q⟩:=h
 have eM:=hC.eq
 subst eM
 have hC2:∀u,Ctx (C u) l u C:=fun u=>hC.at u
 unfold t_m_letter
 refine s_seq (s_asgG (e_call (a_cons (e_var rfl (a_cons (e_int (a_nil ⟨l,a,k,2,z,_,rfl,hC2 _,by omega,by omega,fun zs a1 k1 lz nz tz _ hk1=> ?_⟩)))))))
 match zs,lz with
 | [x,y],_=>
 refine g_unl .lst rfl (g_cons (g_name (g_cons (g_name (g_nil ?_)))))
 have tx:isTx8 x:=tz x (.head _)
 have ty:isTx8 y:=tz y (.tail _ (.head _))
 refine s_seq (s_asg (e_op (e_lst (a_cons (e_var rfl (a_cons (e_var rfl (a_nil ⟨len2,e_cb (a_cons (e_op (w_dr hC2 rfl (e_int ⟨4,a1,k1,rfl,rfl,by decide,by decide,by omega,fun v a2 k2 hv hk2=>e_int (o_eqI (a_nil (l_intB ?_)))⟩))))⟩))))))))
 obtain⟨w,hw,tw⟩:∃w,atI [A.str y,A.str x] (if decide ((v:Int)=0)=true then 1 else 0)=some (.str w)∧isTx8 w:=by
  split
  ·exact⟨x,rfl,tx⟩
  ·exact⟨y,rfl,ty⟩
 refine o_ixL .lst hw ?_
 refine s_seq (s_asg (e_cb (a_cons (e_lc (i_rng1 (a_cons (e_op (e_int (w_dr hC2 rfl (e_int ⟨3,a2,k2,rfl,rfl,by decide,by decide,by omega,fun n a3 k3 hn hk3=>o_add (a_nil ⟨_,rfl,by omega,by omega,?_⟩)⟩))))))))))
 refine⟨small (by rw [List.length_map,List.length_range];omega),fun i acc M'=> ∃(r:Rw) (a' k':Nat),acc=r.map ptA∧M'=C (wlO a' z k')∧r.length=i∧(∀x∈r,ptOk x)∧k'≤k3+7*i,⟨[],a3,k3,rfl,rfl,rfl,(fun x hx=>nomatch hx),by omega⟩,?_,?_⟩
 ·rintro i x acc M' D hx ⟨r,a4,k4,rfl,rfl,lr,hr,hk4⟩
  have hi:i < 4:=by
   have:=(List.getElem?_eq_some_iff.mp hx).1
   rw [List.length_map,List.length_range] at this
   omega
  refine c_name (by decide) (t_yes (if_t rfl (e_call (a_cons (e_var rfl (a_nil ⟨l,a4,k4,z,_,rfl,.there (hC2 _),by omega,fun x a5 k5 hx hk5=>⟨_,rfl,r ++ [x],a5,k5,by rw [List.map_append];rfl,rfl,by rw [List.length_append,lr];rfl,fun y hy=> ?_,by omega⟩⟩))))))
  rcases List.mem_append.mp hy with hy | hy
  ·exact hr y hy
  ·rw [List.mem_singleton.mp hy];exact hx
 rintro acc M' ⟨r,a4,k4,rfl,rfl,lr,hr,hk4⟩
 have lr:r.length=2+n:=by rw [lr,List.length_map,List.length_range];omega
 rw [List.length_map,List.length_range] at hk4
 have hk4:k4≤k3+28:=by omega
 refine a_nil (l_tupL .lst ?_)
 refine s_seq (s_asg (e_op (e_lst (a_cons (e_non (a_cons (e_call (a_cons (e_var rfl (a_nil ⟨l,a4,k4,z,_,rfl,hC2 _,by omega,fun se a5 k5 hse hk5=>a_nil ⟨len2,w_dr hC2 rfl (e_int ⟨2,a5,k5,rfl,rfl,by decide,by decide,by omega,fun v a6 k6 hv hk6=> ?_⟩)⟩⟩))))))))))
 obtain⟨o,ho,so⟩:∃o:Option (Int×Int),atI [A.non,A.tup [.int se.1,.int se.2]] (v:Int)=some (stA o)∧ ∀s,o=some s→stOk s:=by
  have:v=0∨v=1:=by omega
  rcases this with rfl | rfl
  ·exact⟨none,rfl,fun s e=>nomatch e⟩
  ·exact⟨some se,rfl,fun s e=>by cases e;exact hse⟩
 refine o_ixL .lst ho ?_
 obtain⟨b,hb,bb,bl⟩:=big_int
 refine s_seq (s_asg (e_lst (a_cons (e_int (a_cons (w_dr hC2 rfl (e_int ⟨100,a6,k6,rfl,rfl,by decide,by decide,by omega,fun g1 a7 k7 hg1 hk7=> ?_⟩)))))))
 refine a_cons (w_dr hC2 rfl (e_op (e_int (e_int (o_pow ⟨by decide +kernel,by decide +kernel,by decide +kernel⟩ ⟨10^12,a7,k7,rfl,rfl,by decide,by decide,by omega,fun g2 a8 k8 hg2 hk8=> ?_⟩)))))
 refine a_cons (e_op (e_cb (a_cons (e_op (e_str (e_op (e_str (e_int (o_repS (n:=999) (by decide +kernel) (by decide) (o_addS (small (by have:=bl;rw [show(("1" :Str) ++ Txt.mul ("0" :Str) (999:Int)).length=("1" :Str).length+(Txt.mul ("0" :Str) (999:Int)).length from Array.size_append] at this;exact Nat.le_trans this (by decide))) (a_nil (l_intU dg hb (Nat.le_trans bl (by decide)) (w_dr hC2 rfl (e_int ⟨10,a8,k8,rfl,rfl,by decide,by decide,by omega,fun g3 a9 k9 hg3 hk9=>o_add (a_nil ⟨small (show 4≤_ by decide),?_⟩)⟩))))))))))))))
 refine s_seq (s_asg (e_op (e_var rfl (w_dr hC2 rfl (e_int ⟨4,a9,k9,rfl,rfl,by decide,by decide,by omega,fun v2 a10 k10 hv2 hk10=> ?_⟩)))))
 obtain⟨gi,hgi,g0,gb⟩:∃g:Int,atI [A.int 0,A.int (g1:Int),A.int (g2:Int),A.int ((b:Int)+(g3:Int))] (v2:Int)=some (.int g)∧0≤g∧g.natAbs < 10^1000:=by
  have h12:(10:Nat)^12≤10^1000:=Nat.pow_le_pow_right (by decide) (by decide)
  have h2:(10:Nat)^2≤10^1000:=Nat.pow_le_pow_right (by decide) (by decide)
  have c2:(10:Nat)^2=100:=rfl
  generalize (10:Nat)^1000=T at bb h12 h2 ⊢
  generalize (10:Nat)^12=T2 at hg2 h12
  have:v2=0∨v2=1∨v2=2∨v2=3:=by omega
  rcases this with rfl | rfl | rfl | rfl
  ·exact⟨_,rfl,by omega,by omega⟩
  ·exact⟨_,rfl,by omega,by omega⟩
  ·exact⟨_,rfl,by omega,by omega⟩
  ·exact⟨_,rfl,by omega,by omega⟩
 refine o_ixL .lst hgi ?_
 clear hg2 bb hb bl
 refine s_seq (s_asg (e_cb (a_cons (e_call (a_cons (e_var rfl (a_cons (e_op (e_int (w_dr hC2 rfl (e_int ⟨4,a10,k10,rfl,rfl,by decide,by decide,by omega,fun nn a11 k11 hnn hk11=>o_add (a_nil ⟨l,a11,k11,1+nn,z,_,by rw [show(((1+nn:Nat)):Int)=1+(nn:Int) by omega],hC2 _,by omega,by omega,fun ys a12 k12 ly ny ty _ hk12=>a_nil (l_sorted .lst (by omega) fun ws hws sws=> ?_)⟩)⟩)))))))))))
 have nw:ws.Nodup:=hws.nodup_iff.mpr ny
 have lw:ws.length=1+nn:=by rw [hws.length_eq,ly]
 have tws:∀w∈ws,isTx8 w:=fun w hw=>ty w (hws.mem_iff.mp hw)
 refine s_seq (s_asg (e_cb (a_cons (e_lc (i_lst (e_var rfl ⟨_,rfl,?_⟩))))))
 refine⟨small (by rw [List.length_map];omega),fun i acc M'=> ∃(es:List En) (a' k':Nat),acc=es.map entA∧M'=C (wlO a' z k')∧es.map (·.nm)=ws.take i∧(∀e∈es,enOk e)∧k'≤k12+51*i,⟨[],a12,k12,rfl,rfl,(by rw [List.take_zero];rfl),(fun x hx=>nomatch hx),by omega⟩,?_,?_⟩
 ·rintro i x acc M' D hx ⟨es,a13,k13,rfl,rfl,les,hes,hk13⟩
  rw [List.getElem?_map] at hx
  obtain⟨w,hw,rfl⟩:=Option.map_eq_some_iff.mp hx
  have hi:=(List.getElem?_eq_some_iff.mp hw).1
  refine c_name (by decide) (t_yes (if_t rfl (e_call (a_cons (e_var rfl (a_cons (e_var rfl (a_cons (e_op (e_int (w_dr (C:=fun u=>(D,.lst (es.map entA)) :: C u) (fun u=> .there (hC2 u)) rfl (e_int ⟨3,a13,k13,rfl,rfl,by decide,by decide,by omega,fun nz a14 k14 hnz hk14=>o_add (a_nil ⟨l,a14,k14,1+nz,z,_,w,by rw [show(((1+nz:Nat)):Int)=1+(nz:Int) by omega],.there (hC2 _),by omega,tws w (List.mem_of_getElem? hw),by omega,by omega,fun e a15 k15 en eo hk15=>⟨_,rfl,es ++ [e],a15,k15,by rw [List.map_append];rfl,rfl,?_,fun y hy=> ?_,by omega⟩⟩)⟩))))))))))))
  ·rw [List.map_append,les,List.take_succ,hw,List.map_singleton,en];rfl
  ·rcases List.mem_append.mp hy with hy | hy
   ·exact hes y hy
   ·rw [List.mem_singleton.mp hy];exact eo
 rintro acc M' ⟨es,a13,k13,rfl,rfl,les,hes,hk13⟩
 rw [List.length_map] at les hk13
 rw [List.take_length] at les
 have hk13:k13≤k12+204:=by omega
 have lse:es.length=1+nn:=by rw [← lw,← les,List.length_map]
 refine a_nil (l_tupL .lst ?_)
 refine s_ret (e_tup (a_cons (e_var rfl (a_cons (e_var rfl (a_cons (e_call (a_cons (e_var rfl (a_nil ⟨l,a13,k13,z,_,rfl,hC2 _,by omega,fun st a14 k14 hst hk14=>a_cons (e_var rfl (a_cons (e_var rfl (a_cons (e_var rfl (a_cons (e_var rfl (a_nil ⟨by show 7≤_;decide,?_⟩))))))))⟩))))))))))
 have N3s:∀s,stOk s→N3 s.1∧N3 s.2:=fun s ⟨h1,h2,h3,h4⟩=>⟨Nat.lt_of_lt_of_le (show s.1.natAbs < 10^2 by omega) (Nat.pow_le_pow_right (by decide) (by decide)),Nat.lt_of_lt_of_le (show s.2.natAbs < 10^2 by omega) (Nat.pow_le_pow_right (by decide) (by decide))⟩
 have N14s:∀s,stOk s→Nb14 s.1∧Nb14 s.2:=fun s ⟨h1,h2,h3,h4⟩=>⟨Nat.lt_of_lt_of_le (show s.1.natAbs < 10^2 by omega) (by decide),Nat.lt_of_lt_of_le (show s.2.natAbs < 10^2 by omega) (by decide)⟩
 refine dn0 (q ⟨x,w,st,o,gi,r,es⟩ a14 k14 ⟨?_,?_⟩ (by omega))
 ·refine⟨tx,tw,⟨⟨hst.1,hst.2.2.1⟩,fun s e=>⟨(so s e).1,(so s e).2.2.1⟩,g0,fun x hx=>(hr x hx).1,⟨fun e he=>(hes e he).1,?_,?_⟩⟩,N3s st hst,fun s e=>N3s s (so s e),gb,?_,?_,fun x hx=> ?_,fun e he=> ?_,?_⟩
  ·show risB (es.map (·.nm))=true
   rw [les];exact risB_of nw sws
  ·exact ne_of_len (show 1≤es.length by rw [lse];clear gb;omega)
  ·show 2≤r.length
   clear gb;omega
  ·show r.length≤4
   clear gb;omega
  ·obtain⟨_,h1,h2⟩:=hr x hx
   exact⟨Nat.lt_of_lt_of_le h1 (Nat.pow_le_pow_right (by decide) (by decide)),Nat.lt_of_le_of_lt h2 (Nat.lt_of_lt_of_le (show 500 < 10^3 by decide) (Nat.pow_le_pow_right (by decide) (by decide)))⟩
  ·obtain⟨h1,h2,h3⟩:=hes e he
   have h4:=h1.li
   have h5:=h1.ve
   exact⟨Nat.lt_of_lt_of_le (show e.li.natAbs < 10^2 by clear gb;omega) (Nat.pow_le_pow_right (by decide) (by decide)),Nat.lt_of_lt_of_le (show e.ve.natAbs < 10^2 by clear gb;omega) (Nat.pow_le_pow_right (by decide) (by decide))⟩
  ·show es.length≤63
   clear gb;omega
 ·refine⟨tx,tw,fun s e=>by cases e;exact N14s st hst,fun s e=>N14s s (so s e),gb,⟨?_,fun x hx=> ?_⟩,?_,fun e he=> ?_⟩
  ·show r.length≤4
   clear gb;omega
  ·obtain⟨_,h1,h2⟩:=hr x hx
   exact⟨Nat.lt_of_lt_of_le h1 (Nat.pow_le_pow_right (by decide) (by decide)),Nat.lt_of_le_of_lt h2 (by decide)⟩
  ·show es.length≤64
   clear gb;omega
  ·obtain⟨h1,h2,h3⟩:=hes e he
   have h4:=h1.li
   have h5:=h1.ve
   refine⟨h1.nm,Nat.lt_of_lt_of_le (show e.li.natAbs < 10^2 by clear gb;omega) (by decide),Nat.lt_of_lt_of_le (show e.ve.natAbs < 10^2 by clear gb;omega) (by decide),h1.n3,fun i hi=> ?_,h1.ot,h1.on⟩
   have:=h1.nb i hi
   show i.natAbs < 10^14
   clear gb;omega
end
abbrev N_m_any_row:List Str:= ["_law_well_here","_law_way","_law_one","_law_other","_law_k"]
def t_m_any_row (K:PySem.W.Frag):TS:=
 (tSeq (tAsg (tCall (cs K fDrawW) [] E0 (tCons (tVar 0) (tCons (tC (.int 8)) tNil))) (gName 1))
  (tSeq (tAsg (tCall (cs K fNamesW) [] E0 (tCons (tVar 0) (tCons (tC (.int 2)) tNil))) (gUnl K 2 (gCons (gName 2) (gCons (gName 3) gNil))))
  (tSeq (tIfS (tTest (tOp rLtI (tVar 1) (tC (.int 3)))) (tRet (tTup (tCons (tTup (tCons (tC (.str ("turn" :Str))) (tCons (tVar 2) tNil))) (tCons (tCB (rTupOf K) (tCons (tLc (iRng1 (tCons (tCall (cs K fDrawW) [] E0 (tCons (tVar 0) (tCons (tC (.int 4)) tNil))) tNil)) (gName 4) tYes (tCall (cs K fLetterW) [] E0 (tCons (tVar 0) tNil)) [4]) tNil)) tNil)))) tNext)
  (tSeq (tIfS (tTest (tOp rLtI (tVar 1) (tC (.int 5)))) (tSeq (tAsg (tOp (rIxL K) (tLst (tCons (tCall (cs K fDrawW) [] E0 (tCons (tVar 0) (tCons (tC (.int 12)) tNil))) (tCons (tCall (cs K fDrawW) [] E0 (tCons (tVar 0) (tCons (tOp rPowI (tC (.int 10)) (tC (.int 30))) tNil))) tNil))) (tCall (cs K fDrawW) [] E0 (tCons (tVar 0) (tCons (tC (.int 2)) tNil)))) (gName 4))
   (tRet (tTup (tCons (tTup (tCons (tC (.str ("come" :Str))) (tCons (tVar 4) tNil))) (tCons (tCall (cs K fPickW) [] E0 (tCons (tVar 0) (tCons (tLst (tCons (tC (.str ("taken" :Str))) (tCons (tC (.str ("heard" :Str))) (tCons (tC (.str ("" :Str))) tNil)))) tNil))) tNil))))) tNext)
  (tSeq (tIfS (tTest (tOp rEq (tVar 1) (tC (.int 5)))) (tRet (tTup (tCons (tTup (tCons (tCall (cs K fPickW) [] E0 (tCons (tVar 0) (tCons (tLst (tCons (tC (.str ("set" :Str))) (tCons (tC (.str ("join" :Str))) tNil))) tNil))) (tCons (tVar 2) (tCons (tCall (cs K fNumbersW) [] E0 (tCons (tVar 0) (tCons (tOp rAddI (tC (.int 1)) (tCall (cs K fDrawW) [] E0 (tCons (tVar 0) (tCons (tC (.int 3)) tNil)))) tNil))) tNil)))) (tCons (tTup tNil) tNil)))) tNext)
  (tSeq (tIfS (tTest (tOp rEq (tVar 1) (tC (.int 6)))) (tRet (tTup (tCons (tTup (tCons (tCall (cs K fPickW) [] E0 (tCons (tVar 0) (tCons (tLst (tCons (tC (.str ("tie" :Str))) (tCons (tC (.str ("cut" :Str))) tNil))) tNil))) (tCons (tVar 2) (tCons (tVar 3) tNil)))) (tCons (tTup tNil) tNil)))) tNext)
  (tRet (tTup (tCons (tTup (tCons (tCall (cs K fPickW) [] E0 (tCons (tVar 0) (tCons (tLst (tCons (tC (.str ("fall" :Str))) (tCons (tC (.str ("back" :Str))) (tCons (tC (.str ("fresh" :Str))) (tCons (tC (.str ("leave" :Str))) tNil))))) tNil))) (tCons (tVar 2) tNil))) (tCons (tTup tNil) tNil))))))))))
section
variable {K:PySem.W.Frag} {C:AO→AM} {l:Addr} {z:Int}
/-- one of some words -/
theorem w_word {s:Sv} {te:TE} {ws:List Str} {Q2:QA} {a1 k1:Nat} (hC2:∀u,Ctx (C u) l u C) (h0:s[0]? =some (some (.loc l))) (ht:∀Q3:QA,Q3 (.lst (ws.map A.str)) (C (wlO a1 z k1))→EE K (fun _ _ _=>False) (fun _ _=>False) te s (C (wlO a1 z k1)) Q3) (ne:ws≠ []) (few:ws.length≤1000) (hk:k1 < 900000) (q:∀(w:Str) (a2 k2:Nat),w∈ws→k2≤k1+1→Q2 (.str w) (C (wlO a2 z k2))) :
  EE K (fun _ _ _=>False) (fun _ _=>False) (tCall (cs K fPickW) [] E0 (tCons (tVar 0) (tCons te tNil))) s (C (wlO a1 z k1)) Q2:=
 e_call (a_cons (e_var h0 (a_cons (ht _ (a_nil ⟨l,a1,k1,z,_,ws.map A.str,rfl,hC2 _,(fun e=>ne (List.map_eq_nil_iff.mp e)),by rw [List.length_map];exact few,by omega,fun y a2 k2 hy hk2=>by
  obtain⟨w,hw,rfl⟩:=List.mem_map.mp hy
  exact q w a2 k2 hw hk2⟩)))))
variable {vs:List V} {H:Hp} {Q:VK} {E:XK}
theorem p_m_any_row_len (h:cs K fAnyRowW vs H Q E):vs.length=1:=fn_len (fun as M Q ⟨_,_,_,_,_,e,_⟩=>by rw [e];rfl) h
theorem p_m_any_row (h:cs K fAnyRowW vs H Q E):t_m_any_row K { nx:=fun _ H'=>Q .non H',rt:=Q } (start N_m_any_row vs) H:=fn_of h fun as M Qa h=>by
 obtain⟨l,a,k,z,C,rfl,hC,hk,q⟩:=h
 have eM:=hC.eq
 subst eM
 have hC2:∀u,Ctx (C u) l u C:=fun u=>hC.at u
 have plain:∀ {d:Dd} {a' k':Nat},d.nmd→d.formB=true→d.wd≠ "turn" →d.wd≠ "come" →Noted 50 (d,.none)→k'≤k+3000→Dn Qa (.tup [ddA d,.tup []]) (C (wlO a' z k')):=fun h1 h2 h3 h4 h5 hk'=>dn0 (q (_,.none) _ _ ⟨.inr (.inr ⟨h1,h2,h3,h4,rfl⟩),h5,fun ls e=>nomatch e⟩ hk')
 unfold t_m_any_row
 refine s_seq (s_asg (w_dr hC2 rfl (e_int ⟨8,a,k,rfl,rfl,by decide,by decide,by omega,fun way a1 k1 hway hk1=> ?_⟩)))
 refine s_seq (s_asgG (e_call (a_cons (e_var rfl (a_cons (e_int (a_nil ⟨l,a1,k1,2,z,_,rfl,hC2 _,by omega,by omega,fun zs a2 k2 lz nz tz _ hk2=> ?_⟩)))))))
 match zs,lz with
 | [x,y],_=>
 refine g_unl .lst rfl (g_cons (g_name (g_cons (g_name (g_nil ?_)))))
 have tx:isTx8 x:=tz x (.head _)
 have ty:isTx8 y:=tz y (.tail _ (.head _))
 have nxy:y≠x:=fun e=>(List.nodup_cons.mp nz).1 (by rw [e];exact .head _)
 refine s_seq (s_if (t_testB (e_op (e_var rfl (e_int (o_lt ⟨_,rfl,if_b (fun h=> ?_) (fun h=>s_next ?_)⟩))))))
 ·refine s_ret (e_tup (a_cons (e_tup (a_cons (e_str (a_cons (e_var rfl (a_nil ⟨len2,?_⟩))))))))
  refine a_cons (e_cb (a_cons (e_lc (i_rng1 (a_cons (w_dr hC2 rfl (e_int ⟨4,a2,k2,rfl,rfl,by decide,by decide,by omega,fun n a3 k3 hn hk3=>a_nil ⟨_,rfl,by omega,by omega,?_⟩⟩)))))))
  rw [Int.toNat_natCast]
  refine⟨small (by rw [List.length_map,List.length_range];omega),fun i acc M'=> ∃(ls:List Lt) (a' k':Nat),acc=ls.map ltA∧M'=C (wlO a' z k')∧ls.length=i∧(∀x∈ls,ltOk x)∧k'≤k3+500*i,⟨[],a3,k3,rfl,rfl,rfl,(fun x hx=>nomatch hx),by omega⟩,?_,?_⟩
  ·rintro i x acc M' D hx ⟨r,a4,k4,rfl,rfl,lr,hr,hk4⟩
   have hi:i < 4:=by
    have:=(List.getElem?_eq_some_iff.mp hx).1
    rw [List.length_map,List.length_range] at this
    omega
   refine c_name (by decide) (t_yes (if_t rfl (e_call (a_cons (e_var rfl (a_nil ⟨l,a4,k4,z,_,rfl,.there (hC2 _),by omega,fun x a5 k5 hx hk5=>⟨_,rfl,r ++ [x],a5,k5,by rw [List.map_append];rfl,rfl,by rw [List.length_append,lr];rfl,fun y hy=> ?_,by omega⟩⟩))))))
   rcases List.mem_append.mp hy with hy | hy
   ·exact hr y hy
   ·rw [List.mem_singleton.mp hy];exact hx
  rintro acc M' ⟨r,a4,k4,rfl,rfl,lr,hr,hk4⟩
  have lr:r.length=n:=by rw [lr,List.length_map,List.length_range]
  rw [List.length_map,List.length_range] at hk4
  have hk4:k4≤k3+1500:=by omega
  refine a_nil (l_tupL .lst (a_nil ⟨len2,dn0 (q (.turn x,.letters r) a4 k4 ⟨.inl ⟨x,r,rfl,tx,fun l hl=>(hr l hl).1⟩,⟨tx.2.1,r,rfl,by omega,fun l hl=>(hr l hl).2⟩,fun ls e l hl=> ?_⟩ (by omega))⟩))
  cases e
  exact(hr l hl).1.x.ro.ne
 refine s_seq (s_if (t_testB (e_op (e_var rfl (e_int (o_lt ⟨_,rfl,if_b (fun h2=> ?_) (fun h2=>s_next ?_)⟩))))))
 ·refine s_seq (s_asg (e_op (e_lst (a_cons (w_dr hC2 rfl (e_int ⟨12,a2,k2,rfl,rfl,by decide,by decide,by omega,fun n1 a3 k3 hn1 hk3=> ?_⟩))))))
  refine a_cons (w_dr hC2 rfl (e_op (e_int (e_int (o_pow ⟨by decide +kernel,by decide +kernel,by decide +kernel⟩ ⟨10^30,a3,k3,rfl,rfl,by decide,by decide,by omega,fun n2 a4 k4 hn2 hk4=>a_nil ⟨len2,?_⟩⟩)))))
  refine w_dr hC2 rfl (e_int ⟨2,a4,k4,rfl,rfl,by decide,by decide,by omega,fun v a5 k5 hv hk5=> ?_⟩)
  obtain⟨c,hc,bc⟩:∃c:Nat,atI [A.int (n1:Int),A.int (n2:Int)] (v:Int)=some (.int (c:Int))∧c < 10^1000:=by
   have h12:(10:Nat)^30≤10^1000:=Nat.pow_le_pow_right (by decide) (by decide)
   have h2:(10:Nat)^2≤10^1000:=Nat.pow_le_pow_right (by decide) (by decide)
   have c2:(10:Nat)^2=100:=rfl
   generalize (10:Nat)^1000=T at h12 h2 ⊢
   generalize (10:Nat)^30=T2 at hn2 h12
   have:v=0∨v=1:=by omega
   rcases this with rfl | rfl
   ·exact⟨_,rfl,by omega⟩
   ·exact⟨_,rfl,by omega⟩
  clear hn2
  refine o_ixL .lst hc ?_
  refine s_ret (e_tup (a_cons (e_tup (a_cons (e_str (a_cons (e_var rfl (a_nil ⟨len2,?_⟩))))))))
  refine a_cons (w_word (ws:= ["taken","heard",""]) hC2 rfl (fun Q3 q3=>e_lst (a_cons (e_str (a_cons (e_str (a_cons (e_str (a_nil ⟨len3,q3⟩)))))))) (by decide) (by decide) (by clear bc;omega) fun w a6 k6 hw hk6=>a_nil ⟨len2,?_⟩)
  have wd:wdB w:=by
   simp only [List.mem_cons,List.not_mem_nil,or_false] at hw
   rcases hw with rfl | rfl | rfl
   ·exact .inr (.inr rfl)
   ·exact .inr (.inl rfl)
   ·exact .inl rfl
  exact dn0 (q (.come c,.word w) a6 k6 ⟨.inr (.inl ⟨c,w,rfl,bc,wd⟩),⟨bc,w,rfl,wd⟩,fun ls e=>nomatch e⟩ (by clear bc;omega))
 refine s_seq (s_if (t_testB (e_op (e_var rfl (e_int (o_eqI ⟨_,rfl,if_b (fun h3=> ?_) (fun h3=>s_next ?_)⟩))))))
 ·refine s_ret (e_tup (a_cons (e_tup (a_cons (w_word (ws:= ["set","join"]) hC2 rfl (fun Q3 q3=>e_lst (a_cons (e_str (a_cons (e_str (a_nil ⟨len2,q3⟩)))))) (by decide) (by decide) (by omega) fun w a3 k3 hw hk3=> ?_)))))
  refine a_cons (e_var rfl (a_cons (e_call (a_cons (e_var rfl (a_cons (e_op (e_int (w_dr hC2 rfl (e_int ⟨3,a3,k3,rfl,rfl,by decide,by decide,by omega,fun nz a4 k4 hnz hk4=>o_add (a_nil ⟨l,a4,k4,1+nz,z,_,by rw [show(((1+nz:Nat)):Int)=1+(nz:Int) by omega],hC2 _,by omega,by omega,fun ns a5 k5 ln hns hk5=>a_nil ⟨len3,a_cons (e_tup (a_nil ⟨by decide,a_nil ⟨len2,?_⟩⟩))⟩⟩)⟩))))))))))
  have nb:numsB (.tup (ns.map A.int))=true:=nums_ok ln (by omega) (by omega) hns
  have n14:∀i∈ns,Nb14 i:=fun i hi=>by
   have:=hns i hi
   show i.natAbs < 10^14
   omega
  simp only [List.mem_cons,List.not_mem_nil,or_false] at hw
  rcases hw with rfl | rfl
  ·exact plain (d:= .set x ns) tx nb (show("set" :Str)≠ "turn" by decide) (show("set" :Str)≠ "come" by decide) ⟨tx.2.1,by omega,n14⟩ (by omega)
  ·exact plain (d:= .join x ns) tx nb (show("join" :Str)≠ "turn" by decide) (show("join" :Str)≠ "come" by decide) ⟨tx.2.1,by omega,n14⟩ (by omega)
 refine s_seq (s_if (t_testB (e_op (e_var rfl (e_int (o_eqI ⟨_,rfl,if_b (fun h4=> ?_) (fun h4=>s_next ?_)⟩))))))
 ·refine s_ret (e_tup (a_cons (e_tup (a_cons (w_word (ws:= ["tie","cut"]) hC2 rfl (fun Q3 q3=>e_lst (a_cons (e_str (a_cons (e_str (a_nil ⟨len2,q3⟩)))))) (by decide) (by decide) (by omega) fun w a3 k3 hw hk3=> ?_)))))
  refine a_cons (e_var rfl (a_cons (e_var rfl (a_nil ⟨len3,a_cons (e_tup (a_nil ⟨by decide,a_nil ⟨len2,?_⟩⟩))⟩))))
  have nb:(!decide (y=x))=true:=by rw [decide_eq_false nxy];rfl
  simp only [List.mem_cons,List.not_mem_nil,or_false] at hw
  rcases hw with rfl | rfl
  ·exact plain (d:= .tie x y) ⟨tx,ty⟩ nb (show("tie" :Str)≠ "turn" by decide) (show("tie" :Str)≠ "come" by decide) ⟨tx.2.1,ty.2.1⟩ (by omega)
  ·exact plain (d:= .cut x y) ⟨tx,ty⟩ nb (show("cut" :Str)≠ "turn" by decide) (show("cut" :Str)≠ "come" by decide) ⟨tx.2.1,ty.2.1⟩ (by omega)
 ·refine s_ret (e_tup (a_cons (e_tup (a_cons (w_word (ws:= ["fall","back","fresh","leave"]) hC2 rfl (fun Q3 q3=>e_lst (a_cons (e_str (a_cons (e_str (a_cons (e_str (a_cons (e_str (a_nil ⟨small (show 4≤_ by decide),q3⟩)))))))))) (by decide) (by decide) (by omega) fun w a3 k3 hw hk3=> ?_)))))
  refine a_cons (e_var rfl (a_nil ⟨len2,a_cons (e_tup (a_nil ⟨by decide,a_nil ⟨len2,?_⟩⟩))⟩))
  simp only [List.mem_cons,List.not_mem_nil,or_false] at hw
  rcases hw with rfl | rfl | rfl | rfl
  ·exact plain (d:= .fall x) tx rfl (show("fall" :Str)≠ "turn" by decide) (show("fall" :Str)≠ "come" by decide) tx.2.1 (by omega)
  ·exact plain (d:= .back x) tx rfl (show("back" :Str)≠ "turn" by decide) (show("back" :Str)≠ "come" by decide) tx.2.1 (by omega)
  ·exact plain (d:= .fresh x) tx rfl (show("fresh" :Str)≠ "turn" by decide) (show("fresh" :Str)≠ "come" by decide) tx.2.1 (by omega)
  ·exact plain (d:= .leave x) tx rfl (show("leave" :Str)≠ "turn" by decide) (show("leave" :Str)≠ "come" by decide) tx.2.1 (by omega)
end
theorem Lay.strW {z:Str} (h:∀c∈TL.tl z,c≤122):Lay 0 (.str z):=⟨rfl,by
 unfold A.toD PyData.canLay0 PyData.strOk
 rw [Array.all_eq_true]
 intro i hi
 have:=h z.cps[i] (by show _∈z.cps.toList;rw [Array.mem_toList_iff];exact Array.getElem_mem hi)
 exact decide_eq_true (by omega),by unfold A.toD PyData.depth;exact Nat.le_refl _⟩
theorem row_low {x:Dd×Wh} (h:RowR x):∀c∈TL.tl (tBk x),c≤122:=fun c hc=>by
 by_cases h2:c≤122
 ·exact h2
 ·exact absurd hc (row_frees h (.inr (by omega)))
abbrev rtA (w:Dd×Wh):A:= .str (tBk w)
theorem Lay.rt {x:Dd×Wh} (h:RowR x):Lay 0 (rtA x):=Lay.strW (row_low h)
section
variable {U:List Str} {c:Nat} {r:Rn}
theorem DkR.lr (k:DkR U c r) {l:Lt} (hl:l∈r.post):LtR l:=by
 obtain⟨t,ne⟩:=k.lt hl
 have x:=k.f.post l hl
 have b:=k.g.b.post l hl
 have n1:=k.g.b.n1
 have n3:=k.g.b.n3
 refine⟨t.one,t.other,x,⟨(t.st _ rfl).1.k,(t.st _ rfl).2.k⟩,fun s e=>⟨(t.seen s e).1.k,(t.seen s e).2.k⟩,t.gifts,by rw [b.len];omega,by rw [b.len];omega,fun y hy=>⟨Nat.lt_of_lt_of_le (t.given.2 y hy).1 (Nat.pow_le_pow_right (by decide) (by decide)),Nat.lt_of_lt_of_le (t.given.2 y hy).2 (Nat.pow_le_pow_right (by decide) (by decide))⟩,fun e he=>⟨(t.roll e he).li.k,(t.roll e he).ve.k⟩,?_⟩
 have:=b.ro.len
 have:=k.g.b.u
 omega
end
theorem tBook_len {bk:List (Dd×Wh)} (h:∀w∈bk,Noted 470 w) (hl:bk.length≤120):(tBook bk).length≤14000000∧((bk.map tBk).map (·.length)).sum+(bk.map tBk).length*("\n" :Str).length≤14000000:=by
 have:=jn_le (y:=("\n" :Str)) (zs:=bk.map tBk) (n:=120) (b:=8*(4*470+11683)+5030) (c:=1) (by rw [List.length_map];exact hl) (fun z hz=>by
  obtain⟨x,hx,rfl⟩:=List.mem_map.mp hz
  exact(tBk_len (by decide) (h x hx)).1) rfl
 have e:120*(8*(4*470+11683)+5030+1)≤14000000:=by decide
 exact⟨Nat.le_trans this.2 e,Nat.le_trans this.1 e⟩
/-- what is read of a book's text -/
theorem rd_ok {K:PySem.W.Frag} {bk:List (Dd×Wh)} {Q:QA} {X:XA} {M:AM} (h:∀w∈bk,RowR w∧Noted 470 w) (lb:bk.length≤120) (q:Q (.lst (bk.map rwA)) M):fReadBook K [.str (tBook bk)] M Q X:=by
 have f:=book_few (k:=470) (fun w hw=>(h w hw).1) (fun w hw=>(h w hw).2) (by decide) (by have:=(tBook_len (fun w hw=>(h w hw).2) lb).1;omega)
 have p:=pBook_t fun w hw=>(h w hw).1
 refine .inl ⟨_,rfl,f.1,f.2,fun rows e=> ?_,fun e=> ?_⟩
 ·rw [p] at e;cases e;exact q
 ·rw [p] at e;cases e
section
variable {K:PySem.W.Frag} {s:Sv} {M:AM} {Q:QA} {te:TE} {Ex:XK} {Xa:XA}
theorem e_revM (h:EE K Ex Xa te s M fun a M1=> ∃p xs M2,a= .loc p∧Up M1 p (.lst xs) (.lst xs.reverse) M2∧Q .non M2):EE K Ex Xa (tBM0 K "list" rReverse te) s M Q:=fun σ H Qc rep k=>
 h σ H _ rep fun a v M1 H1 st rm rv ⟨p,xs,M2,e,up,q⟩=>by
  subst e
  cases rv
  obtain⟨vs,hv,r⟩:=rm.cell _ up.mem
  have hm:p∈ad M1:=List.mem_map.mpr ⟨_,up.mem,rfl⟩
  have sw:∀ {u:HO},Step (ad M1) H1 (ad M1) (upd H1 p u):=Step.write hm
  exact⟨.inl ⟨rfl,vs,SqL.of hv⟩,p,vs,rfl,rfl,hv,(k.step st) _ _ M2 _ (by rw [up.ad];exact sw) (rm.put up ⟨_,upd_same,(r.step sw).rev⟩) .non q⟩
theorem o_neSameL {p:Addr} {xs:List A} {k:Nat} (lk:Lk M p (.lst xs)) (h:Lay k (.lst xs)) (hk:k≤60) (q:Q (.bl false) M):O2 K (rNeD K) (.loc p) (.lst xs) M Q:=
 o_neDL lk h.1 h.1 (h.sh hk) (h.sh hk) (by rw [show eqA (.lst xs) (.lst xs)=true from eqA_refl (h.sh hk)];exact q)
theorem o_inDL {p:Addr} {a:A} {xs:List A} (lk:Lk M p (.lst xs)) (h1:a.isD=true) (h2:(A.lst xs).isD=true) (s1:SeqAt.shaped a.toD=true) (s2:SeqAt.shaped (A.lst xs).toD=true) (q:Q (.bl (xs.any fun z=>eqA z a)) M):O2 K (rInD K) a (.loc p) M Q:=fun x y H Qc rx ry rm kc=>by
 have hy:Dp K H y (A.lst xs).toD:=by
  obtain⟨p',vs,rfl,sq,r⟩:=(LsA.loc lk).of ry rm
  unfold A.toD
  unfold A.isD at h2
  exact .lst sq (RvL.dp h2 r)
 have e:(A.lst xs).toD= .list (xs.map A.toD):=by unfold A.toD;rw [toDs_mp]
 rw [e] at hy s2
 refine⟨a.toD,xs.map A.toD,rx.dp h1,hy,s1,s2,kc.go rm (.bl _) ?_⟩
 rw [List.any_map]
 exact q
theorem l_isLoc {p:Addr} {xs:List A} (lk:Lk M p (.lst xs)) (q:Q (.bl true) M):OL K (rIsi K) [.loc p,.ty "list"] M Q:=fun vs H Qc rv rm kc=>by
 cases rv with
 | cons r t=>cases t with | cons r2 t=>
  cases t
  cases r2
  cases r
  obtain⟨ws,hv,_⟩:=rm.cell _ lk.mem
  exact w_isi (.ty _) (.base (.lst hv)) (kit_ty (by decide +kernel)) (kc.go rm (.bl _) q)
end
def plN:Nat→A→Bool
 | 0,_=>false
 | _+1,.non=>true
 | _+1,.str _=>true
 | _+1,.int _=>true
 | n+1,.tup xs=>decide (xs.length≤1000) && xs.all (plN n)
 | _+1,_=>false
def fPlain81 (n:Nat):ASp:=fun as M Q=> ∃a:A,as= [a]∧plN n a=true∧Q (.bl true) M
abbrev N_m_plain:List Str:= ["_law_thing","_law_one"]
def t_m_plain (K:PySem.W.Frag) (n:Nat):TS:=
 (tSeq (tIfS (tB (tCB (rIsi K) (tCons (tVar 0) (tCons (tC (.ty "tuple")) tNil)))) (tRet (tOp (rIn K true) (tC (.bl false)) (tLc (iTup K (tVar 0)) (gName 1) tYes (tCall (cs K (fPlain81 n)) [] E0 (tCons (tVar 1) tNil)) [1]))) tNext)
  (tRet (tOrV (tOp rIsN (tVar 0) (tC .non)) (tOrV (tCB (rIsi K) (tCons (tVar 0) (tCons (tC (.ty "str")) tNil))) (tAndV (tCB (rIsi K) (tCons (tVar 0) (tCons (tC (.ty "int")) tNil))) (tNotV (tCB (rIsi K) (tCons (tVar 0) (tCons (tC (.ty "bool")) tNil)))))))))
abbrev N_read_bookL:List Str:= ["text","book","row"]
def t_read_bookL (K:PySem.W.Frag) (E:XK):TS:=
 (tSeq (tIfS (tNot (tB (tCB (rIsi K) (tCons (tVar 0) (tCons (tC (.ty "str")) tNil))))) (Go.tRaise E (He.ga K "NoText")) tNext)
  (tSeq (tIfS (tTest (tOp rEq (tVar 0) (tC (.str ("" :Str))))) (tRet (tLst tNil)) tNext)
  (tSeq (tAsg (tLc (iList K (tSplit (tVar 0) (tC (.str ("\n" :Str))))) (gName 2) tYes (tCall (cs K fBkIn) [] E0 (tCons (tVar 2) tNil)) [2]) (gName 1))
  (tSeq (tIfS (tTest (tOp (rInD K) (tC .non) (tVar 1))) (Go.tRaise E (He.ga K "NoText")) tNext)
  (tRet (tVar 1))))))
theorem inF_bl:∀xs:List A,inF (.bl false) (xs.map fun _=>A.bl true)=false
 | []=>rfl
 | x :: xs=>by
  have ih:=inF_bl xs
  unfold inF at ih ⊢
  rw [List.map_cons,List.map_cons]
  unfold inV at ih ⊢
  rw [List.any_cons,ih]
  rfl
section
variable {K:PySem.W.Frag} {vs:List V} {H:Hp} {Q:VK} {E:XK}
theorem p_m_plain0 (h:cs K (fPlain81 0) vs H Q E):False:=by
 have h1:vs.length=0:=fn_len (fun as M Q ⟨_,_,hd,_⟩=>nomatch hd) h
 have h2:vs.length=1:=fn_len (fun as M Q ⟨_,_,hd,_⟩=>nomatch hd) h
 omega
theorem p_m_plain_len {n:Nat} (h:cs K (fPlain81 (n+1)) vs H Q E):vs.length=1:=fn_len (fun as M Q ⟨_,e,_⟩=>by rw [e];rfl) h
theorem p_m_plain {n:Nat} (h:cs K (fPlain81 (n+1)) vs H Q E):t_m_plain K n { nx:=fun _ H'=>Q .non H',rt:=Q } (start N_m_plain vs) H:=fn_of h fun as M Qa h=>by
 obtain⟨a,rfl,hp,q⟩:=h
 unfold t_m_plain
 have no:a.plain=true→a.isT=false→ ∀ {Nx:Sv→AM→Prop} {Rt:QA} {Bk Ct:Sv→AM→Prop} {Ex:XK} {Xa:XA} {t:TS} {s:Sv},s[0]? =some (some a)→Nx s M→ES K Ex Xa (tIfS (tB (tCB (rIsi K) (tCons (tVar 0) (tCons (tC (.ty "tuple")) tNil)))) t tNext) s M Nx Rt Bk Ct:=fun p1 p2 {_ _ _ _ _ _ _ _} e nx=>s_if (t_B (e_cb (a_cons (e_var e (a_cons (e_ty (a_nil (l_isTuple p1 ⟨_,rfl,by rw [p2];exact if_f rfl (s_next nx)⟩))))))))
 cases a with
 | tup xs=>
  unfold plN at hp
  rw [Bool.and_eq_true,decide_eq_true_eq] at hp
  obtain⟨hl,hp⟩:=hp
  refine s_seq (s_if (t_B (e_cb (a_cons (e_var rfl (a_cons (e_ty (a_nil (l_isTuple rfl ⟨_,rfl,if_t rfl ?_⟩)))))))))
  refine s_ret (e_op (e_bl (e_mapF (α:=A) (fun _=> .bl true) (i_tup (e_var rfl ⟨_,rfl,id,xs,(List.map_id xs).symm,small (by omega),fun z hz M' up=> ?_,?_⟩)))))
  ·exact c_name (by decide) (e_call (a_cons (e_var rfl (a_nil ⟨z,rfl,List.all_eq_true.mp hp z hz,rfl,rfl⟩))))
  ·refine o_in (.inl .lst) rfl ?_ (dn0 ?_)
   ·rw [List.all_map]
    exact List.all_eq_true.mpr fun x _=>rfl
   ·have e:inF (.bl false) (xs.map fun _=>A.bl true)=false:=inF_bl xs
    rw [e]
    exact q
 | non=>exact s_seq (no rfl rfl rfl (s_ret (e_orV (e_op (e_var rfl (e_non (o_isN ⟨_,rfl,if_t rfl (dn0 q)⟩)))))))
 | str z=>exact s_seq (no rfl rfl rfl (s_ret (e_orV (e_op (e_var rfl (e_non (o_isN ⟨_,rfl,if_f rfl (e_orV (e_cb (a_cons (e_var rfl (a_cons (e_ty (a_nil (l_isStr rfl ⟨_,rfl,if_t rfl (dn0 q)⟩))))))))⟩)))))))
 | int i=>exact s_seq (no rfl rfl rfl (s_ret (e_orV (e_op (e_var rfl (e_non (o_isN ⟨_,rfl,if_f rfl (e_orV (e_cb (a_cons (e_var rfl (a_cons (e_ty (a_nil (l_isStr rfl ⟨_,rfl,if_f rfl (e_andV (e_cb (a_cons (e_var rfl (a_cons (e_ty (a_nil (l_isInt rfl ⟨_,rfl,if_t rfl (e_notV (e_cb (a_cons (e_var rfl (a_cons (e_ty (a_nil (l_isBool rfl ⟨_,rfl,dn0 q⟩))))))))⟩))))))))⟩))))))))⟩)))))))
 | _=>cases hp
theorem pl_up:∀ {n:Nat} {a:A},plN n a=true→plN (n+1) a=true
 | 0,_,h=>nomatch h
 | n+1,.non,_=>rfl
 | n+1,.str _,_=>rfl
 | n+1,.int _,_=>rfl
 | n+1,.tup xs,h=>by
  have h:(decide (xs.length≤1000) && xs.all (plN n))=true:=h
  rw [Bool.and_eq_true] at h
  show(decide (xs.length≤1000) && xs.all (plN (n+1)))=true
  rw [h.1,Bool.true_and]
  exact List.all_eq_true.mpr fun x hx=>pl_up (List.all_eq_true.mp h.2 x hx)
/-- the things of a row are plain -/
theorem pl_strs {n:Nat} {zs:List Str} (h:zs.length≤1000):plN (n+2) (.tup (zs.map A.str))=true:=by
 show(decide ((zs.map A.str).length≤1000) && (zs.map A.str).all (plN (n+1)))=true
 rw [List.length_map,decide_eq_true h,Bool.true_and,List.all_map]
 exact List.all_eq_true.mpr fun _ _=>rfl
theorem pl_ints {n:Nat} {zs:List Int} (h:zs.length≤1000):plN (n+2) (.tup (zs.map A.int))=true:=by
 show(decide ((zs.map A.int).length≤1000) && (zs.map A.int).all (plN (n+1)))=true
 rw [List.length_map,decide_eq_true h,Bool.true_and,List.all_map]
 exact List.all_eq_true.mpr fun _ _=>rfl
theorem pl_tup {n:Nat} {α:Type} {f:α→A} {l:List α} (h:l.length≤1000) (hp:∀x∈l,plN n (f x)=true):plN (n+1) (.tup (l.map f))=true:=by
 show(decide ((l.map f).length≤1000) && (l.map f).all (plN n))=true
 rw [List.length_map,decide_eq_true h,Bool.true_and,List.all_map]
 exact List.all_eq_true.mpr hp
theorem pl_2 {n:Nat} {a b:A} (ha:plN n a=true) (hb:plN n b=true):plN (n+1) (.tup [a,b])=true:=by
 show(decide ([a,b].length≤1000) && [a,b].all (plN n))=true
 rw [List.all_cons,List.all_cons,ha,hb];rfl
theorem pl_lt {l:Lt} (r:LtR l) (t:LtT 50 l):plN 5 (ltA l)=true:=by
 have given:plN 4 (rowA l.given)=true:=pl_tup (by have:=r.g4;omega) fun x _=>rfl
 have roll:plN 4 (rollA l.roll)=true:=pl_tup (by have:=r.few;omega) fun e he=>by
  have f:=r.x.ro.en e he
  show(decide ([A.str e.nm,.int e.li,.int e.ve,.tup (e.nu.map A.int),.tup (e.ot.map A.str)].length≤1000) && [A.str e.nm,.int e.li,.int e.ve,.tup (e.nu.map A.int),.tup (e.ot.map A.str)].all (plN 2))=true
  rw [List.all_cons,List.all_cons,List.all_cons,List.all_cons,List.all_cons,pl_ints (n:=0) (by have:=f.n3;omega),pl_strs (n:=0) (by have:=f.ot;omega)]
  rfl
 have st:∀o,plN 4 (stA o)=true:=fun o=>by cases o <;> rfl
 show(decide ([A.str l.one,.str l.other,.tup [.int l.stamp.1,.int l.stamp.2],stA l.seen,.int l.gifts,rowA l.given,rollA l.roll].length≤1000) && [A.str l.one,.str l.other,.tup [.int l.stamp.1,.int l.stamp.2],stA l.seen,.int l.gifts,rowA l.given,rollA l.roll].all (plN 4))=true
 rw [List.all_cons,List.all_cons,List.all_cons,List.all_cons,List.all_cons,List.all_cons,List.all_cons,st,given,roll]
 rfl
theorem pl_row {x:Dd×Wh} (h:rowOk x):plN 7 (rwA x)=true:=by
 obtain⟨h,no,_⟩:=h
 rcases h with⟨n,ls,rfl,hn,hl⟩ | ⟨k,z,rfl,hk,hz⟩ | ⟨h1,h2,h3,h4,h5⟩
 ·obtain⟨_,ls',e,l8,ht⟩:=no
  cases e
  exact pl_2 rfl (pl_tup (by omega) fun l m=>pl_lt (hl l m) (ht l m))
 ·rfl
 ·obtain⟨d,w⟩:=x
  cases h5
  refine pl_2 ?_ rfl
  cases d with
  | set n ns=>
   obtain⟨_,l3,_⟩:=no
   show(decide ([A.str "set",.str n,.tup (ns.map A.int)].length≤1000) && [A.str "set",.str n,.tup (ns.map A.int)].all (plN 5))=true
   rw [List.all_cons,List.all_cons,List.all_cons,pl_ints (n:=3) (by omega)];rfl
  | join n ns=>
   obtain⟨_,l3,_⟩:=no
   show(decide ([A.str "join",.str n,.tup (ns.map A.int)].length≤1000) && [A.str "join",.str n,.tup (ns.map A.int)].all (plN 5))=true
   rw [List.all_cons,List.all_cons,List.all_cons,pl_ints (n:=3) (by omega)];rfl
  | _=>rfl
theorem Lay.rwR {x:Dd×Wh} (h:RowR x):Lay 6 (rwA x):=by
 have:=pBk_lay (tBk x)
 rw [pBk_t h] at this
 exact this
/-- the book read anew, as a list that may grow -/
def fReadBookL:ASpX:=fun as M Q X=> ∃rows:List (Dd×Wh),as= [.str (tBook rows)]∧rows≠ []∧(∀x∈rows,RowR x∧Noted 50 x)∧(tBook rows).length≤15000000∧ ∀p,Q (.loc p) ((p,.lst (rows.map rwA)) :: M)
theorem p_read_bookL_len (h:csX K fReadBookL vs H Q E):vs.length=1:=fn_lenX (fun as M Q X ⟨_,e,_⟩=>by rw [e];rfl) h
theorem p_read_bookL (h:csX K fReadBookL vs H Q E):t_read_bookL K E { nx:=fun _ H'=>Q .non H',rt:=Q } (start N_read_bookL vs) H:=fn_ofX h fun as M Qa Xa h=>by
 obtain⟨rows,rfl,ne,hr,hb,q⟩:=h
 unfold t_read_bookL
 have rr:∀x∈rows,RowR x:=fun x hx=>(hr x hx).1
 have f:=book_few (k:=50) rr (fun x hx=>(hr x hx).2) (by decide) hb
 have es:=book_split ne rr
 have c0:tBook rows≠ "" :=fun e=>by
  have:=pBook_t rr
  rw [e] at this
  have e2:pBook "" =some []:=by unfold pBook;rw [if_pos rfl]
  rw [e2] at this
  cases this
  exact ne rfl
 obtain⟨l1,l2⟩:=split_b (tBook rows) (y:= "\n") (by decide)
 refine s_seq (s_if (t_not (t_B (e_cb (a_cons (e_var rfl (a_cons (e_ty (a_nil (l_isStr rfl ⟨_,rfl,if_f rfl (s_next ?_)⟩))))))))))
 refine s_seq (s_if (t_testB (e_op (e_var rfl (e_str (o_eqS ⟨_,rfl,if_f (decide_eq_false c0) (s_next ?_)⟩))))))
 refine s_seq (s_asg (e_mapC (α:=Str) (fun z=>optB (pBk z)) (i_lst (e_split (e_var rfl ⟨tBook rows,rfl,e_str ⟨"\n",rfl,rfl,big (by omega),_,rfl,A.str,Txt.split (tBook rows) "\n",rfl,big (by omega),fun z hz M' up=> ?_,fun p=> ?_⟩⟩)))))
 ·exact c_name (by decide) (e_call (a_cons (e_var rfl (a_nil ⟨z,rfl,(f.1.2 z hz).1,f.2 z hz,(f.1.2 z hz).2,rfl,rfl⟩))))
 have el:(Txt.split (tBook rows) "\n").map (fun z=>optB (pBk z))=rows.map rwA:=by
  rw [es,List.map_map]
  exact List.map_congr_left fun x hx=>by show optB (pBk (tBk x))=_;rw [pBk_t (rr x hx)];rfl
 rw [el]
 have lay:∀y∈rows.map rwA,Lay 6 y:=Lay.map fun x hx=>Lay.rwR (rr x hx)
 refine s_seq (s_if (t_testB (e_op (e_non (e_var rfl (o_inDL .here rfl (Lay.lst lay).1 (Lay.non.sh (by decide)) ((Lay.lst lay).sh (by decide)) ⟨_,rfl,?_⟩))))))
 have ean:(rows.map rwA).any (fun z=>eqA z .non)=false:=by
  rw [List.any_map,List.any_eq_false]
  exact fun x _ h=>by cases h
 rw [ean]
 exact if_f rfl (s_next (s_ret (e_var rfl (dn0 (q p)))))
end
abbrev N_m_stamp_textK:List Str:= ["_law_stamp_here"]
def t_m_stamp_textK (K:PySem.W.Frag):TS:=
 (tSeq (tIfS (tTest (tOp rIsN (tVar 0) (tC .non))) (tRet (tC (.str ("-" :Str)))) tNext)
  (tRet (Go.tFS ((Go.tFmtU K (tOp (rIxT K) (tVar 0) (tC (.int 0)))) :: ((tC (.str ("." :Str))) :: ((Go.tFmtU K (tOp (rIxT K) (tVar 0) (tC (.int 1)))) :: []))))))
abbrev N_m_entry_textK:List Str:= ["_law_entry_here","_law_name","_law_life","_law_version","_law_numbers_here","_law_others","_law_told","_law_number"]
def t_m_entry_textK (K:PySem.W.Frag):TS:=
 (tSeq (tAsg (tVar 0) (gTup K 5 (gCons (gName 1) (gCons (gName 2) (gCons (gName 3) (gCons (gName 4) (gCons (gName 5) gNil)))))))
  (tSeq (tAsg (tOp (rIxL K) (tLst (tCons (tC (.str ("-" :Str))) (tCons (tJoin K (tC (.str ("," :Str))) (tVar 5)) tNil))) (tCB rInt1 (tCons (tOp (rNeD K) (tVar 5) (tTup tNil)) tNil))) (gName 6))
  (tRet (tOp rAddStr (tOp rAddStr (tOp rAddStr (Go.tFS ((Go.tFmtU K (tVar 1)) :: ((tC (.str ("=" :Str))) :: ((Go.tFmtU K (tVar 2)) :: ((tC (.str ("." :Str))) :: ((Go.tFmtU K (tVar 3)) :: ((tC (.str ("=" :Str))) :: []))))))) (tJoin K (tC (.str ("," :Str))) (tLc (iTup K (tVar 4)) (gName 7) tYes (tCB (Go.rStrU K) (tCons (tVar 7) tNil)) [7]))) (tC (.str ("=" :Str)))) (tVar 6)))))
abbrev N_m_letter_textK:List Str:= ["_law_letter_here","_law_one","_law_other","_law_stamp_here","_law_seen","_law_gifts","_law_given","_law_roll","_law_words","_law_entry_here"]
def t_m_letter_textK (K:PySem.W.Frag):TS:=
 (tSeq (tAsg (tVar 0) (gTup K 7 (gCons (gName 1) (gCons (gName 2) (gCons (gName 3) (gCons (gName 4) (gCons (gName 5) (gCons (gName 6) (gCons (gName 7) gNil)))))))))
  (tSeq (tAsg (tLst (tCons (tVar 1) (tCons (tVar 2) (tCons (tCall (cs K fStampT) [] E0 (tCons (tVar 3) tNil)) (tCons (tCall (cs K fStampT) [] E0 (tCons (tVar 4) tNil)) (tCons (tCB (Go.rStrU K) (tCons (tVar 5) tNil)) (tCons (tCall (cs K fRowT) [] E0 (tCons (tVar 6) tNil)) tNil))))))) (gName 8))
  (tRet (tJoin K (tC (.str (" " :Str))) (tOp rCat (tVar 8) (tLc (iTup K (tVar 7)) (gName 9) tYes (tCall (cs K fEntryT) [] E0 (tCons (tVar 9) tNil)) [9]))))))
abbrev N_m_deed_textK:List Str:= ["_law_deed","_law_one","_law_number"]
def t_m_deed_textK (K:PySem.W.Frag):TS:=
 (tSeq (tIfS (tTest (tOp (rIn K false) (tOp (rIxT K) (tVar 0) (tC (.int 0))) (tTup (tCons (tC (.str ("set" :Str))) (tCons (tC (.str ("join" :Str))) tNil))))) (tRet (tJoin K (tC (.str (" " :Str))) (tOp rCat (tCB (Evl.rListS K) (tCons (tSl (rSlA K) (tVar 0) tNoPart (tPart (tC (.int 2)))) tNil)) (tLc (iTup K (tOp (rIxT K) (tVar 0) (tC (.int 2)))) (gName 2) tYes (tCB (Go.rStrU K) (tCons (tVar 2) tNil)) [2])))) tNext)
  (tRet (tJoin K (tC (.str (" " :Str))) (tLc (iTup K (tVar 0)) (gName 1) tYes (tCB (Go.rStrU K) (tCons (tVar 1) tNil)) [1]))))
abbrev N_m_row_of_bookK:List Str:= ["_law_row","_law_deed","_law_what","_law_letter_here"]
def t_m_row_of_bookK (K:PySem.W.Frag):TS:=
 (tSeq (tAsg (tVar 0) (gTup K 2 (gCons (gName 1) (gCons (gName 2) gNil))))
  (tSeq (tIfS (tTest (tOp rEq (tOp (rIxT K) (tVar 1) (tC (.int 0))) (tC (.str ("come" :Str))))) (tRet (tOp rAddStr (tOp rAddStr (tCall (cs K fDeedT) [] E0 (tCons (tVar 1) tNil)) (tC (.str (" : " :Str)))) (tDGet (tDisp (((tC (.str ("" :Str))),(tC (.str ("nothing" :Str)))) :: (((tC (.str ("heard" :Str))),(tC (.str ("heard" :Str)))) :: (((tC (.str ("taken" :Str))),(tC (.str ("taken" :Str)))) :: [])))) (tVar 2)))) tNext)
  (tSeq (tIfS (tTest (tOp rEq (tOp (rIxT K) (tVar 1) (tC (.int 0))) (tC (.str ("turn" :Str))))) (tRet (tJoin K (tC (.str (" ; " :Str))) (tOp rCat (tLst (tCons (tCall (cs K fDeedT) [] E0 (tCons (tVar 1) tNil)) tNil)) (tLc (iTup K (tVar 2)) (gName 3) tYes (tCall (cs K fLetterT) [] E0 (tCons (tVar 3) tNil)) [3])))) tNext)
  (tRet (tCall (cs K fDeedT) [] E0 (tCons (tVar 1) tNil))))))
section
variable {K:PySem.W.Frag} {vs:List V} {H:Hp} {Q:VK} {E:XK}
theorem p_m_stamp_textK_len (h:cs K fStampT vs H Q E):vs.length=1:=p_stamp_text_len h
theorem p_m_stamp_textK (dg:DigK K) (h:cs K fStampT vs H Q E):t_m_stamp_textK K { nx:=fun _ H'=>Q .non H',rt:=Q } (start N_m_stamp_textK vs) H:=p_m_stamp_text dg h
theorem p_m_entry_textK_len (h:cs K fEntryT vs H Q E):vs.length=1:=p_entry_text_len h
theorem p_m_entry_textK (dg:DigK K) (h:cs K fEntryT vs H Q E):t_m_entry_textK K { nx:=fun _ H'=>Q .non H',rt:=Q } (start N_m_entry_textK vs) H:=p_m_entry_text dg h
theorem p_m_letter_textK_len (h:cs K fLetterT vs H Q E):vs.length=1:=p_letter_text_len h
theorem p_m_letter_textK (dg:DigK K) (h:cs K fLetterT vs H Q E):t_m_letter_textK K { nx:=fun _ H'=>Q .non H',rt:=Q } (start N_m_letter_textK vs) H:=p_m_letter_text dg h
theorem p_m_deed_textK_len (h:cs K fDeedT vs H Q E):vs.length=1:=p_deed_text_len h
theorem p_m_deed_textK (dg:DigK K) (h:cs K fDeedT vs H Q E):t_m_deed_textK K { nx:=fun _ H'=>Q .non H',rt:=Q } (start N_m_deed_textK vs) H:=p_m_deed_text dg h
theorem p_m_row_of_bookK_len (h:cs K fBookRowT vs H Q E):vs.length=1:=p_book_row_text_len h
theorem p_m_row_of_bookK (h:cs K fBookRowT vs H Q E):t_m_row_of_bookK K { nx:=fun _ H'=>Q .non H',rt:=Q } (start N_m_row_of_bookK vs) H:=p_m_row_of_book h
end
abbrev N_law:List Str:= ["_law_script","_law_book","_law_due","_law_kept","_law_found","_law_cell","_law_row"]
def t_law (K:PySem.W.Frag):TS:=
 (tSeq (tAsg (tLc (iList K (tOp rCat (tLst (tCons (tCall (cs K fCellAt) [] E0 (tCons (tVar 0) (tCons (tC (.int 0)) tNil))) tNil)) (tSl (rSlL K) (tVar 0) (tPart (tC (.int 1))) (tPart (tC (.int 24)))))) (gName 5) tYes (tCall (cs K fAnyRowW) [] E0 (tCons (tCall (cs K fWell) [] E0 (tCons (tVar 5) tNil)) tNil)) [5]) (gName 1))
  (tSeq (tAsg (tJoin K (tC (.str ("\n" :Str))) (tLc (iList K (tVar 1)) (gName 6) tYes (tCall (cs K fBookRowT) [] E0 (tCons (tVar 6) tNil)) [6])) (gName 2))
  (tSeq (tAsg (tCB (Evl.rListS K) (tCons (tVar 1) tNil)) (gName 3))
  (tSeq (tIfS (tOr (tTest (tOp rNe (tCall (cs K fBookT) [] E0 (tCons (tVar 1) tNil)) (tVar 2))) (tTest (tOp (rNeD K) (tVar 1) (tVar 3)))) (tRet (tC (.bl false))) tNext)
  (tSeq (tAsg (tCallS (csX K fReadBookL) (WE (fun _ _ _ _=>False)) (tCons (tVar 2) tNil)) (gName 4))
  (tSeq (tIfS (tOr (tNot (tB (tCB (rIsi K) (tCons (tVar 4) (tCons (tC (.ty "list")) tNil))))) (tOr (tTest (tOp (rNeD K) (tVar 4) (tVar 1))) (tNot (tB (tCall (cs K (fPlain81 9)) [] E0 (tCons (tCB (rTupOf K) (tCons (tVar 4) tNil)) tNil)))))) (tRet (tC (.bl false))) tNext)
  (tSeq (tDrop (tBM0 K "list" rReverse (tVar 4)))
  (tSeq (tDrop (tBM K "list" rAppend (tVar 4) (tCons (tC .non) tNil)))
  (tSeq (tIfS (tOr (tTest (tOp (rNeD K) (tCallS (csX K (fReadBook K)) (WE (fun _ _ _ _=>False)) (tCons (tVar 2) tNil)) (tVar 1))) (tTest (tOp rNe (tCall (cs K fBookT) [] E0 (tCons (tCallS (csX K (fReadBook K)) (WE (fun _ _ _ _=>False)) (tCons (tVar 2) tNil)) tNil)) (tVar 2)))) (tRet (tC (.bl false))) tNext)
  (tRet (tAndV (tOp rEq (tCall (cs K fBookT) [] E0 (tCons (tLst tNil) tNil)) (tC (.str ("" :Str)))) (tOp (rEqD K) (tCallS (csX K (fReadBook K)) (WE (fun _ _ _ _=>False)) (tCons (tC (.str ("" :Str))) tNil)) (tLst tNil)))))))))))))
structure GtX (K:PySem.W.Frag):Prop where
 k_NoText:ExcK K (He.ga K "NoText")
 dig:DigK K
 wds:WdsK K
theorem gt_of {K:PySem.W.Frag} (h:exK K=true):GtX K:=by
 unfold exK at h
 obtain⟨h,p5⟩:=He.ba h
 obtain⟨h,p4⟩:=He.ba h
 refine⟨excB_ok h,Go.digB_ok p4,⟨?_,?_,?_⟩⟩
 ·exact He.valsB_ok p5 (q:=(("" :Str),.str "nothing")) (by simp)
 ·exact He.valsB_ok p5 (q:=(("heard" :Str),.str "heard")) (by simp)
 ·exact He.valsB_ok p5 (q:=(("taken" :Str),.str "taken")) (by simp)
/-- what is known of the module -/
structure Gt (K:PySem.W.Frag):Prop where
 s_OF_ONE:Ab.KT K (He.ga K "OF_ONE") [.str ("turn" :Str),.str ("fall" :Str),.str ("back" :Str),.str ("fresh" :Str),.str ("leave" :Str)]
 s_OF_NUMBERS:Ab.KT K (He.ga K "OF_NUMBERS") [.str ("set" :Str),.str ("join" :Str)]
 s_OF_TWO:Ab.KT K (He.ga K "OF_TWO") [.str ("tie" :Str),.str ("cut" :Str)]
 x:GtX K
theorem LtT.mono {k k':Nat} {l:Lt} (hk:k≤k') (h:LtT k l):LtT k' l:= { h with given:=⟨h.given.1,fun x hx=>⟨Nat.lt_of_lt_of_le (h.given.2 x hx).1 (Nat.pow_le_pow_right (by decide) hk),(h.given.2 x hx).2⟩⟩ }
theorem Noted.mono {k k':Nat} {x:Dd×Wh} (hk:k≤k') (h:Noted k x):Noted k' x:=by
 obtain⟨d,w⟩:=x
 cases d with
 | turn n=>
  obtain⟨n8,ls,e,l8,ht⟩:=h
  exact⟨n8,ls,e,l8,fun l hl=>(ht l hl).mono hk⟩
 | _=>exact h
theorem p_law_len {K:PySem.W.Frag} {vs:List V} {H:Hp} {Q:VK} {E:XK} (h:spLaw K vs H Q E):vs.length=1:=by
 obtain⟨a,ns,rfl,_⟩:=h;rfl
theorem p_law {K:PySem.W.Frag} {vs:List V} {H:Hp} {Q:VK} {E:XK} (h:spLaw K vs H Q E):t_law K { nx:=fun _ H'=>Q .non H',rt:=Q } (start N_law vs) H:=law_of h fun ns hl=>by
 unfold t_law
 refine s_seq (s_asg (e_lc (i_lst (e_op (e_lst (a_cons (e_call (a_cons (e_var rfl (a_cons (e_int (a_nil ⟨ns,0,rfl,fun z3=>a_nil ⟨by show 1≤_;decide,e_sl (e_var rfl (e_part (e_int ⟨1,rfl,e_part (e_int ⟨24,rfl,o_slL .scr ?_⟩)⟩)))⟩⟩))))))))))))
 have lc:(cutA (ns.map A.int) (some 1) (some 24)).length≤23:=cutA_few (a:=1) (b:=24)
 have ci:∀x∈ [A.int z3] ++ cutA (ns.map A.int) (some 1) (some 24),∃z:Int,x= .int z:=fun x hx=>by
  rcases List.mem_append.mp hx with hx | hx
  ·exact⟨z3,List.mem_singleton.mp hx⟩
  ·unfold cutA at hx
   obtain⟨z,_,e⟩:=List.mem_map.mp (List.mem_of_mem_drop (List.mem_of_mem_take hx))
   exact⟨z,e.symm⟩
 have lc2:([A.int z3] ++ cutA (ns.map A.int) (some 1) (some 24)).length≤24:=by rw [List.length_append];show 1+_≤_;omega
 have lc1:1≤([A.int z3] ++ cutA (ns.map A.int) (some 1) (some 24)).length:=by rw [List.length_append];show 1≤1+_;omega
 refine o_cat .lst .lst (small (by show 1+_≤_;omega)) ⟨_,rfl,?_⟩
 refine⟨small (by omega),fun i acc _=> ∃rows:List (Dd×Wh),acc=rows.map rwA∧rows.length=i∧ ∀x∈rows,rowOk x,⟨[],rfl,rfl,fun x hx=>nomatch hx⟩,?_,?_⟩
 ·rintro i x acc M' D hx ⟨rows,rfl,lr,hr⟩
  obtain⟨z,rfl⟩:=ci x (List.mem_of_getElem? hx)
  refine c_name (by decide) (t_yes (if_t rfl (e_permQ (e_call (a_cons (e_call (a_cons (e_var rfl (a_nil ⟨z,rfl,fun l a=>a_nil ⟨l,a,0,z,_,rfl,.here,by decide,fun x a' k' hx hk=>⟨_,.swap _ _ _,_,rfl,rows ++ [x],by rw [List.map_append];rfl,by rw [List.length_append,lr];rfl,fun y hy=> ?_⟩⟩⟩)))))))))
  rcases List.mem_append.mp hy with hy | hy
  ·exact hr y hy
  ·rw [List.mem_singleton.mp hy];exact hx
 generalize [A.int z3] ++ cutA (ns.map A.int) (some 1) (some 24)=cells at lc1 lc2
 clear lc ci
 rintro acc M' ⟨rows,rfl,lr,hr⟩
 have lb:rows.length≤120:=by omega
 have ne:rows≠ []:=ne_of_len (by omega)
 have hrn:∀w∈rows,RowR w∧Noted 470 w:=fun w hw=>⟨(hr w hw).1,(hr w hw).2.1.mono (by decide)⟩
 have nt:∀w∈rows,Noted 470 w:=fun w hw=>(hrn w hw).2
 have rn:∀w∈rows,RollsN w:=fun w hw=>(hr w hw).2.2
 have bl:=tBook_len nt lb
 have lay:Lay 7 (.lst (rows.map rwA)):=Lay.lst (Lay.map fun w hw=>Lay.rwR (hr w hw).1)
 have bt:rows.length*(8*(4*470+11683)+5030+1)≤16777000:=Nat.le_trans (Nat.mul_le_mul_right _ (show rows.length≤24 by omega)) (by decide)
 refine s_seq (s_asg (e_join (zs:= []) (e_str ⟨_,rfl,e_mapF (α:=Dd×Wh) (fun x=> .str (tBk x)) (i_lst (e_var rfl ⟨_,rfl,rwA,rows,rfl,small (by omega),fun x hx M' up=>c_name (by decide) (e_call (a_cons (e_var rfl (a_nil ⟨x,470,rfl,nt x hx,by decide,rn x hx,rfl,rfl⟩)))),⟨rows.map tBk,.inl (by rw [List.map_map];exact .lst),by have:=bl.2;omega,?_⟩⟩))⟩)))
 refine s_seq (s_asg (e_cb (a_cons (e_var rfl (a_nil (l_listL (.inl .lst) ?_))))))
 refine s_seq (s_if (t_or (t_testB (e_op (e_call (a_cons (e_var rfl (a_nil ⟨rows,470,rfl,nt,by decide,rn,bt,e_var rfl (o_neS ⟨_,rfl,if_f (show(!decide (tBook rows=tBook rows))=false by simp) (t_testB (e_op (e_var rfl (e_var rfl (o_neSame rfl lay (by decide) ⟨_,rfl,if_f rfl (s_next ?_)⟩)))))⟩)⟩))))))))
 refine s_seq (s_asg (e_callN (a_cons (e_var rfl (a_nil ⟨rows,rfl,ne,fun x hx=>⟨(hr x hx).1,(hr x hx).2.1⟩,by have:=bl.1;omega,fun D=> ?_⟩)))))
 refine s_seq (s_if (t_or (t_not (t_B (e_cb (a_cons (e_var rfl (a_cons (e_ty (a_nil (l_isLoc .here ⟨_,rfl,if_f rfl ?_⟩)))))))))))
 refine t_or (t_testB (e_op (e_var rfl (e_var rfl (o_neSameL .here lay (by decide) ⟨_,rfl,if_f rfl ?_⟩)))))
 refine t_not (t_B (e_call (a_cons (e_cb (a_cons (e_var rfl (a_nil (l_tupL (.loc .here) (a_nil ⟨.tup (rows.map rwA),rfl,?_,⟨_,rfl,if_f rfl (s_next ?_)⟩⟩)))))))))
 ·exact pl_tup (by omega) fun w hw=>pl_up (pl_row (hr w hw))
 refine s_seq (s_drop (e_revM (e_var rfl ⟨D,_,_,rfl,.here,?_⟩)))
 refine s_seq (s_drop (e_bmL (e_var rfl ⟨⟨_,.loc .here⟩,a_cons (e_non (a_nil (m_append .here (small' (by rw [List.length_reverse,List.length_map];omega)) ?_)))⟩)))
 refine s_seq (s_if (t_or (t_testB (e_op (e_callN (a_cons (e_var rfl (a_nil (rd_ok hrn lb (e_var rfl (o_neSame rfl lay (by decide) ⟨_,rfl,if_f rfl (t_testB (e_op (e_call (a_cons (e_callN (a_cons (e_var rfl (a_nil (rd_ok hrn lb (a_nil ⟨rows,470,rfl,nt,by decide,rn,bt,e_var rfl (o_neS ⟨_,rfl,if_f (show(!decide (tBook rows=tBook rows))=false by simp) (s_next ?_)⟩)⟩))))))))))⟩)))))))))))
 have e0:tBook []= "" :=by decide +kernel
 have key:∀ {Q:QA} {X:XA} {M:AM},Q (.lst []) M→fReadBook K [.str ""] M Q X:=fun {Q X M} q=>by
  have:=rd_ok (K:=K) (bk:= []) (M:=M) (X:=X) (Q:=Q) (fun w hw=>nomatch hw) (by decide) q
  rwa [e0] at this
 refine s_ret (e_andV (e_op (e_call (a_cons (e_lst (a_nil ⟨Nat.zero_le _,a_nil ⟨[],470,rfl,(fun x hx=>nomatch hx),by decide,(fun x hx=>nomatch hx),by decide,e_str (o_eqS ⟨_,rfl,?_⟩)⟩⟩))))))
 rw [e0]
 refine if_t rfl (e_op (e_callN (a_cons (e_str (a_nil ?_)))))
 exact key (e_lst (a_nil ⟨Nat.zero_le _,o_eqNil (k:=0) Lay.nil (by decide) (dn0 rfl)⟩))
structure Gs (K:PySem.W.Frag) (w:World) (mg:Str→Option Value):Prop where
 tt:Gt K
 g_LETTERS:∃t,mg "LETTERS" =some (.str ("abcdefghijklmnopqrstuvwxyz" :Str) t)
 g_MOST_LETTERS:∃t,mg "MOST_LETTERS" =some (.int 8 t)
 g_MOST_NUMBERS:∃t,mg "MOST_NUMBERS" =some (.int 3 t)
 g_FAR:∃t,mg "FAR" =some (.int 1000000000000 t)
 g_OF_ONE:mg "OF_ONE" =some (.ref (He.ga K "OF_ONE"))
 g_OF_NUMBERS:mg "OF_NUMBERS" =some (.ref (He.ga K "OF_NUMBERS"))
 g_OF_TWO:mg "OF_TWO" =some (.ref (He.ga K "OF_TWO"))
 g_FIGURES:∃t,mg "FIGURES" =some (.str ("0123456789" :Str) t)
 g_MOST_FIGURES:∃t,mg "MOST_FIGURES" =some (.int 1000 t)
 g_WORDS:mg "WORDS" =some (.ref (He.ga K "WORDS"))
 g_NoText:mg "NoText" =some (.ref (He.ga K "NoText"))
 w_WORDS:Go.KdX K w (He.ga K "WORDS") [("" :Str),("heard" :Str),("taken" :Str)]
structure Bl (mg:Str→Option Value):Prop where
 b_all:mg "all" =none
 b_bool:mg "bool" =none
 b_int:mg "int" =none
 b_isinstance:mg "isinstance" =none
 b_len:mg "len" =none
 b_list:mg "list" =none
 b_range:mg "range" =none
 b_set:mg "set" =none
 b_sorted:mg "sorted" =none
 b_str:mg "str" =none
 b_tuple:mg "tuple" =none
section
variable {P:Program} {w:World} {K:PySem.W.Frag} {mg:Str→Option Value} {base:Heap}
theorem sc_is_whole_number:FnScope N_is_whole_number ["thing"] (defScope s_is_whole_number):=⟨rfl,rfl,rfl,by decide +kernel,rfl,by decide +kernel,by decide +kernel⟩
theorem ok_is_whole_number (F:∃fd,FnP K "is_whole_number" s_is_whole_number (He.ga K "is_whole_number") fd) (gm:mg "is_whole_number" =some (.ref (He.ga K "is_whole_number"))) (B:Bl mg)  :Has P w K mg base "is_whole_number" 1 ["thing"] (cs K fIsInt):=by
 obtain⟨fd,F⟩:=F
 refine⟨_,fd,gm,F.kp,FunD.bindsN (ps:= ["thing"]) F fun _ _ _ _ _ _ us hl=>match us,hl with | [_],_=>rfl,F.ok sc_is_whole_number (fun vs H Q E h=>p_is_whole_number_len h) (fun cdv A outer s H vs Q E hr h=>⟨t_is_whole_number K,PSs.nox ?_,p_is_whole_number h⟩)⟩
 have hu:=hu_of hr
 exact(pss_one (ps_ret (pe_and (pe_callB call_isi (by rfl) B.b_isinstance (by decide +kernel) (pa_cons (pv 0) (pa_cons (pe_bltn (v:= .ty "int") (by rfl) B.b_int (by decide +kernel) rfl) pa_nil))) (pe_one (pe_not (pe_callB call_isi (by rfl) B.b_isinstance (by decide +kernel) (pa_cons (pv 0) (pa_cons (pe_bltn (v:= .ty "bool") (by rfl) B.b_bool (by decide +kernel) rfl) pa_nil))))))))
theorem sc_is_part:FnScope N_is_part ["thing"] (defScope s_is_part):=⟨rfl,rfl,rfl,by decide +kernel,rfl,by decide +kernel,by decide +kernel⟩
theorem ok_is_part (F:∃fd,FnP K "is_part" s_is_part (He.ga K "is_part") fd) (gm:mg "is_part" =some (.ref (He.ga K "is_part"))) (B:Bl mg) (h_is_whole_number:Has P w K mg base "is_whole_number" 1 ["thing"] (cs K fIsInt)):Has P w K mg base "is_part" 2 ["thing"] (cs K fIsPart):=by
 obtain⟨fd,F⟩:=F
 refine⟨_,fd,gm,F.kp,FunD.bindsN (ps:= ["thing"]) F fun _ _ _ _ _ _ us hl=>match us,hl with | [_],_=>rfl,F.ok sc_is_part (fun vs H Q E h=>p_is_part_len h) (fun cdv A outer s H vs Q E hr h=>⟨t_is_part K,PSs.nox ?_,p_is_part h⟩)⟩
 have hu:=hu_of hr
 exact(pss_cons (ps_if (PW.pt (pw_or (pt_not (pt_val (pe_callB call_isi (by rfl) B.b_isinstance (by decide +kernel) (pa_cons (pv 0) (pa_cons (pe_bltn (v:= .ty "tuple") (by rfl) B.b_tuple (by decide +kernel) rfl) pa_nil))))) (pw_or1 (pt_cmpR op_ne (pe_callB call_len_seq (by rfl) B.b_len (by decide +kernel) (pa_cons (pv 0) pa_nil)) pe_int (nomark _))))) (pss_one (ps_ret pe_bl)) pss_nil)
  (pss_cons (ps_if (PW.pt (pw_or (pt_not (pt_val (pe_has h_is_whole_number (hr.mono (by decide)) (by rfl) (pa_cons (pe_ix ix_tup (pv 0) pe_int (fun _ _=>rfl)) pa_nil)))) (pw_or (pt_not (pt_val (pe_has h_is_whole_number (hr.mono (by decide)) (by rfl) (pa_cons (pe_ix ix_tup (pv 0) pe_int (fun _ _=>rfl)) pa_nil)))) (pw_or1 (pt_cmpR op_lt (pe_ix ix_tup (pv 0) pe_int (fun _ _=>rfl)) pe_int (nomark _)))))) (pss_one (ps_ret pe_bl)) pss_nil)
  (pss_one (ps_ret (pe_or (pe_cmpR op_eq (pe_ix ix_tup (pv 0) pe_int (fun _ _=>rfl)) pe_int (nomark _)) (pe_one (pe_cmpR op_eq (pe_op op_mod (pe_ix ix_tup (pv 0) pe_int (fun _ _=>rfl)) pe_int) pe_int (nomark _))))))))
theorem sc_is_int:FnScope N_is_int ["thing"] (defScope s_is_int):=⟨rfl,rfl,rfl,by decide +kernel,rfl,by decide +kernel,by decide +kernel⟩
theorem ok_is_int (F:∃fd,FnP K "is_int" s_is_int (He.ga K "is_int") fd) (gm:mg "is_int" =some (.ref (He.ga K "is_int"))) (B:Bl mg)  :Has P w K mg base "is_int" 1 ["thing"] (cs K fIsInt):=by
 obtain⟨fd,F⟩:=F
 refine⟨_,fd,gm,F.kp,FunD.bindsN (ps:= ["thing"]) F fun _ _ _ _ _ _ us hl=>match us,hl with | [_],_=>rfl,F.ok sc_is_int (fun vs H Q E h=>p_is_int_len h) (fun cdv A outer s H vs Q E hr h=>⟨t_is_int K,PSs.nox ?_,p_is_int h⟩)⟩
 have hu:=hu_of hr
 exact(pss_one (ps_ret (pe_and (pe_callB call_isi (by rfl) B.b_isinstance (by decide +kernel) (pa_cons (pv 0) (pa_cons (pe_bltn (v:= .ty "int") (by rfl) B.b_int (by decide +kernel) rfl) pa_nil))) (pe_one (pe_not (pe_callB call_isi (by rfl) B.b_isinstance (by decide +kernel) (pa_cons (pv 0) (pa_cons (pe_bltn (v:= .ty "bool") (by rfl) B.b_bool (by decide +kernel) rfl) pa_nil))))))))
theorem sc_is_name:FnScope N_is_name ["thing"] (defScope s_is_name):=⟨rfl,rfl,rfl,by decide +kernel,rfl,by decide +kernel,by decide +kernel⟩
theorem ok_is_name (F:∃fd,FnP K "is_name" s_is_name (He.ga K "is_name") fd) (gm:mg "is_name" =some (.ref (He.ga K "is_name"))) (B:Bl mg) (G:Gs K w mg)  :Has P w K mg base "is_name" 1 ["thing"] (cs K fIsName):=by
 obtain⟨fd,F⟩:=F
 refine⟨_,fd,gm,F.kp,FunD.bindsN (ps:= ["thing"]) F fun _ _ _ _ _ _ us hl=>match us,hl with | [_],_=>rfl,F.ok sc_is_name (fun vs H Q E h=>p_is_name_len h) (fun cdv A outer s H vs Q E hr h=>⟨t_is_name K,PSs.nox ?_,p_is_name h⟩)⟩
 have hu:=hu_of hr
 exact(pss_cons (ps_if (PW.pt (pw_or (pt_not (pt_val (pe_callB call_isi (by rfl) B.b_isinstance (by decide +kernel) (pa_cons (pv 0) (pa_cons (pe_bltn (v:= .ty "str") (by rfl) B.b_str (by decide +kernel) rfl) pa_nil))))) (pw_or1 (pt_not (pt_chain op_le op_le pe_int (pe_callB call_len_str (by rfl) B.b_len (by decide +kernel) (pa_cons (pv 0) pa_nil)) (pe_globI (by rfl) G.g_MOST_LETTERS)))))) (pss_one (ps_ret pe_bl)) pss_nil)
  (pss_one (ps_ret (pe_callB (cr_all rfl) (by rfl) B.b_all (by decide +kernel) (pa_cons (pe_lc (own:= [("sign",1)]) (g:=(gName 1)) (tt:=tYes) (te:=(tOp rInS (tVar 1) (tC (.str ("abcdefghijklmnopqrstuvwxyz" :Str))))) (wi:=(iStr (tVar 0))) rfl sc_is_name.nd (pi_str (pv 0)) (blkOk_by (own:= [("sign",1)]) (N:=N_is_name) (sc:=defScope s_is_name) (by decide +kernel)) (fun _ _ _ _ _=>(pg_name (i:=1) sc_is_name.nd rfl (Or.inl rfl))) (fun _ _ _ _ _=>pts_nil) (fun _ _ _ _ _=>(pe_cmpR op_inS (pv 1) (pe_globS (by rfl) G.g_LETTERS) rfl))) pa_nil)))))
theorem sc_is_numbers:FnScope N_is_numbers ["thing"] (defScope s_is_numbers):=⟨rfl,rfl,rfl,by decide +kernel,rfl,by decide +kernel,by decide +kernel⟩
theorem ok_is_numbers (F:∃fd,FnP K "is_numbers" s_is_numbers (He.ga K "is_numbers") fd) (gm:mg "is_numbers" =some (.ref (He.ga K "is_numbers"))) (B:Bl mg) (G:Gs K w mg) (h_is_int:Has P w K mg base "is_int" 1 ["thing"] (cs K fIsInt)):Has P w K mg base "is_numbers" 2 ["thing"] (cs K fIsNumbers):=by
 obtain⟨fd,F⟩:=F
 refine⟨_,fd,gm,F.kp,FunD.bindsN (ps:= ["thing"]) F fun _ _ _ _ _ _ us hl=>match us,hl with | [_],_=>rfl,F.ok sc_is_numbers (fun vs H Q E h=>p_is_numbers_len h) (fun cdv A outer s H vs Q E hr h=>⟨t_is_numbers K,PSs.nox ?_,p_is_numbers h⟩)⟩
 have hu:=hu_of hr
 exact(pss_cons (ps_if (PW.pt (pw_or (pt_not (pt_val (pe_callB call_isi (by rfl) B.b_isinstance (by decide +kernel) (pa_cons (pv 0) (pa_cons (pe_bltn (v:= .ty "tuple") (by rfl) B.b_tuple (by decide +kernel) rfl) pa_nil))))) (pw_or1 (pt_not (pt_chain op_le op_le pe_int (pe_callB call_len_seq (by rfl) B.b_len (by decide +kernel) (pa_cons (pv 0) pa_nil)) (pe_globI (by rfl) G.g_MOST_NUMBERS)))))) (pss_one (ps_ret pe_bl)) pss_nil)
  (pss_one (ps_ret (pe_callB (cr_all rfl) (by rfl) B.b_all (by decide +kernel) (pa_cons (pe_lc (own:= [("one",1)]) (g:=(gName 1)) (tt:=tYes) (te:=(tAndV (tCall (cs K fIsInt) [] E0 (tCons (tVar 1) tNil)) (tChain rLeI rLeI (tOp rSubI (tC (.int 0)) (tC (.int 1000000000000))) (tVar 1) (tC (.int 1000000000000))))) (wi:=(iTup K (tVar 0))) rfl sc_is_numbers.nd (pi_tup (pv 0)) (blkOk_by (own:= [("one",1)]) (N:=N_is_numbers) (sc:=defScope s_is_numbers) (by decide +kernel)) (fun _ _ _ _ _=>(pg_name (i:=1) sc_is_numbers.nd rfl (Or.inl rfl))) (fun _ _ _ _ _=>pts_nil) (fun _ _ _ _ _=>(pe_and (pe_has h_is_int (hr.mono (by decide)) (by rfl) (pa_cons (pv 1) pa_nil)) (pe_one (pe_chain op_le op_le (pe_op op_sub pe_int (pe_globI (by rfl) G.g_FAR)) (pv 1) (pe_globI (by rfl) G.g_FAR)))))) pa_nil)))))
theorem sc_is_deed:FnScope N_is_deed ["thing"] (defScope s_is_deed):=⟨rfl,rfl,rfl,by decide +kernel,rfl,by decide +kernel,by decide +kernel⟩
theorem ok_is_deed (F:∃fd,FnP K "is_deed" s_is_deed (He.ga K "is_deed") fd) (gm:mg "is_deed" =some (.ref (He.ga K "is_deed"))) (B:Bl mg) (G:Gs K w mg) (h_is_name:Has P w K mg base "is_name" 1 ["thing"] (cs K fIsName)) (h_is_numbers:Has P w K mg base "is_numbers" 2 ["thing"] (cs K fIsNumbers)) (h_is_int:Has P w K mg base "is_int" 1 ["thing"] (cs K fIsInt)):Has P w K mg base "is_deed" 3 ["thing"] (cs K fIsDeed):=by
 obtain⟨fd,F⟩:=F
 refine⟨_,fd,gm,F.kp,FunD.bindsN (ps:= ["thing"]) F fun _ _ _ _ _ _ us hl=>match us,hl with | [_],_=>rfl,F.ok sc_is_deed (fun vs H Q E h=>p_is_deed_len h) (fun cdv A outer s H vs Q E hr h=>⟨t_is_deed K,PSs.nox ?_,p_is_deed G.tt.s_OF_ONE G.tt.s_OF_NUMBERS G.tt.s_OF_TWO h⟩)⟩
 have hu:=hu_of hr
 exact(pss_cons (ps_if (PW.pt (pw_or (pt_not (pt_val (pe_callB call_isi (by rfl) B.b_isinstance (by decide +kernel) (pa_cons (pv 0) (pa_cons (pe_bltn (v:= .ty "tuple") (by rfl) B.b_tuple (by decide +kernel) rfl) pa_nil))))) (pw_or (pt_cmpR op_lt (pe_callB call_len_seq (by rfl) B.b_len (by decide +kernel) (pa_cons (pv 0) pa_nil)) pe_int (nomark _)) (pw_or1 (pt_not (pt_val (pe_callB call_isi (by rfl) B.b_isinstance (by decide +kernel) (pa_cons (pe_ix ix_tup (pv 0) pe_int (fun _ _=>rfl)) (pa_cons (pe_bltn (v:= .ty "str") (by rfl) B.b_str (by decide +kernel) rfl) pa_nil))))))))) (pss_one (ps_ret pe_bl)) pss_nil)
  (pss_cons (ps_if (pt_cmpR op_eq (pe_ix ix_tup (pv 0) pe_int (fun _ _=>rfl)) pe_str (nomark _)) (pss_one (ps_ret (pe_and (pe_cmpR op_eq (pe_callB call_len_seq (by rfl) B.b_len (by decide +kernel) (pa_cons (pv 0) pa_nil)) pe_int (nomark _)) (pe_and (pe_has h_is_int (hr.mono (by decide)) (by rfl) (pa_cons (pe_ix ix_tup (pv 0) pe_int (fun _ _=>rfl)) pa_nil)) (pe_one (pe_cmpR op_ge (pe_ix ix_tup (pv 0) pe_int (fun _ _=>rfl)) pe_int (nomark _))))))) pss_nil)
  (pss_cons (ps_if (pt_not (pt_val (pe_has h_is_name (hr.mono (by decide)) (by rfl) (pa_cons (pe_ix ix_tup (pv 0) pe_int (fun _ _=>rfl)) pa_nil)))) (pss_one (ps_ret pe_bl)) pss_nil)
  (pss_cons (ps_if (pt_cmpR op_in_seq (pe_ix ix_tup (pv 0) pe_int (fun _ _=>rfl)) (pe_glob (by rfl) G.g_OF_ONE rfl) (by rfl)) (pss_one (ps_ret (pe_cmpR op_eq (pe_callB call_len_seq (by rfl) B.b_len (by decide +kernel) (pa_cons (pv 0) pa_nil)) pe_int (nomark _)))) pss_nil)
  (pss_cons (ps_if (pt_cmpR op_ne (pe_callB call_len_seq (by rfl) B.b_len (by decide +kernel) (pa_cons (pv 0) pa_nil)) pe_int (nomark _)) (pss_one (ps_ret pe_bl)) pss_nil)
  (pss_cons (ps_if (pt_cmpR op_in_seq (pe_ix ix_tup (pv 0) pe_int (fun _ _=>rfl)) (pe_glob (by rfl) G.g_OF_NUMBERS rfl) (by rfl)) (pss_one (ps_ret (pe_has h_is_numbers (hr.mono (by decide)) (by rfl) (pa_cons (pe_ix ix_tup (pv 0) pe_int (fun _ _=>rfl)) pa_nil)))) pss_nil)
  (pss_one (ps_ret (pe_and (pe_cmpR op_in_seq (pe_ix ix_tup (pv 0) pe_int (fun _ _=>rfl)) (pe_glob (by rfl) G.g_OF_TWO rfl) (by rfl)) (pe_and (pe_has h_is_name (hr.mono (by decide)) (by rfl) (pa_cons (pe_ix ix_tup (pv 0) pe_int (fun _ _=>rfl)) pa_nil)) (pe_one (pe_cmpR (op_neD hr.units) (pe_ix ix_tup (pv 0) pe_int (fun _ _=>rfl)) (pe_ix ix_tup (pv 0) pe_int (fun _ _=>rfl)) (nomark _)))))))))))))
theorem sc_number_in:FnScope N_number_in ["word"] (defScope s_number_in):=⟨rfl,rfl,rfl,by decide +kernel,rfl,by decide +kernel,by decide +kernel⟩
theorem ok_number_in (F:∃fd,FnP K "number_in" s_number_in (He.ga K "number_in") fd) (gm:mg "number_in" =some (.ref (He.ga K "number_in"))) (B:Bl mg) (G:Gs K w mg)  :Has P w K mg base "number_in" 1 ["word"] (cs K fNumIn):=by
 obtain⟨fd,F⟩:=F
 refine⟨_,fd,gm,F.kp,FunD.bindsN (ps:= ["word"]) F fun _ _ _ _ _ _ us hl=>match us,hl with | [_],_=>rfl,F.ok sc_number_in (fun vs H Q E h=>p_number_in_len h) (fun cdv A outer s H vs Q E hr h=>⟨t_number_in K,PSs.nox ?_,p_number_in G.tt.x.dig h⟩)⟩
 have hu:=hu_of hr
 exact(pss_cons (ps_set (i:=1) sc_number_in.nd rfl (Or.inl rfl) (pe_slice sl_str (pv 0) (po_some (pe_callTy call_int1 (by rfl) B.b_int (by decide +kernel) (pa_cons (pe_cmpR op_eq (pe_slice sl_str (pv 0) po_none (po_some pe_int)) pe_str (nomark _)) pa_nil))) po_none))
  (pss_cons (ps_if (PW.pt (pw_or (pt_not (pt_chain op_le op_le pe_int (pe_callB call_len_str (by rfl) B.b_len (by decide +kernel) (pa_cons (pv 1) pa_nil)) (pe_globI (by rfl) G.g_MOST_FIGURES))) (pw_or1 (pt_not (pt_val (pe_callB (cr_all rfl) (by rfl) B.b_all (by decide +kernel) (pa_cons (pe_lc (own:= [("sign",2)]) (g:=(gName 2)) (tt:=tYes) (te:=(tOp rInS (tVar 2) (tC (.str ("0123456789" :Str))))) (wi:=(iStr (tVar 1))) rfl sc_number_in.nd (pi_str (pv 1)) (blkOk_by (own:= [("sign",2)]) (N:=N_number_in) (sc:=defScope s_number_in) (by decide +kernel)) (fun _ _ _ _ _=>(pg_name (i:=2) sc_number_in.nd rfl (Or.inl rfl))) (fun _ _ _ _ _=>pts_nil) (fun _ _ _ _ _=>(pe_cmpR op_inS (pv 2) (pe_globS (by rfl) G.g_FIGURES) rfl))) pa_nil))))))) (pss_one (ps_ret pe_non)) pss_nil)
  (pss_cons (ps_if (PW.pt (pw_and (pt_cmpR op_eq (pe_ix ix_str (pv 1) pe_int (fun _ _=>rfl)) pe_str (nomark _)) (pw_and1 (pt_cmpR op_ne (pv 0) pe_str (nomark _))))) (pss_one (ps_ret pe_non)) pss_nil)
  (pss_one (ps_ret (pe_callTy Go.call_intU (by rfl) B.b_int (by decide +kernel) (pa_cons (pv 0) pa_nil)))))))
theorem sc_row_text:FnScope N_row_text ["row"] (defScope s_row_text):=⟨rfl,rfl,rfl,by decide +kernel,rfl,by decide +kernel,by decide +kernel⟩
theorem ok_row_text (F:∃fd,FnP K "row_text" s_row_text (He.ga K "row_text") fd) (gm:mg "row_text" =some (.ref (He.ga K "row_text"))) (B:Bl mg) (G:Gs K w mg)  :Has P w K mg base "row_text" 1 ["row"] (cs K fRowT):=by
 obtain⟨fd,F⟩:=F
 refine⟨_,fd,gm,F.kp,FunD.bindsN (ps:= ["row"]) F fun _ _ _ _ _ _ us hl=>match us,hl with | [_],_=>rfl,F.ok sc_row_text (fun vs H Q E h=>p_row_text_len h) (fun cdv A outer s H vs Q E hr h=>⟨t_row_text K,PSs.nox ?_,p_row_text G.tt.x.dig h⟩)⟩
 have hu:=hu_of hr
 exact(pss_one (ps_ret (pe_join pe_str (pe_lc (own:= [("num",1),("e",2)]) (g:=(gTup K 2 (gCons (gName 1) (gCons (gName 2) gNil)))) (tt:=tYes) (te:=(tOp rAddStr (tOp rAddStr (tCB (Go.rStrU K) (tCons (tVar 1) tNil)) (tC (.str (">>" :Str)))) (tCB (Go.rStrU K) (tCons (tVar 2) tNil)))) (wi:=(iTup K (tVar 0))) rfl sc_row_text.nd (pi_tup (pv 0)) (blkOk_by (own:= [("num",1),("e",2)]) (N:=N_row_text) (sc:=defScope s_row_text) (by decide +kernel)) (fun _ _ _ _ _=>(pg_tup rfl (pgs_cons (pg_name (i:=1) sc_row_text.nd rfl (Or.inl rfl)) (pgs_cons (pg_name (i:=2) sc_row_text.nd rfl (Or.inl rfl)) pgs_nil)))) (fun _ _ _ _ _=>pts_nil) (fun _ _ _ _ _=>(pe_op op_add_str (pe_op op_add_str (pe_callTy Go.call_strU (by rfl) B.b_str (by decide +kernel) (pa_cons (pv 1) pa_nil)) pe_str) (pe_callTy Go.call_strU (by rfl) B.b_str (by decide +kernel) (pa_cons (pv 2) pa_nil))))))))
theorem sc_row_in:FnScope N_row_in ["word"] (defScope s_row_in):=⟨rfl,rfl,rfl,by decide +kernel,rfl,by decide +kernel,by decide +kernel⟩
theorem ok_row_in (F:∃fd,FnP K "row_in" s_row_in (He.ga K "row_in") fd) (gm:mg "row_in" =some (.ref (He.ga K "row_in"))) (B:Bl mg) (h_is_part:Has P w K mg base "is_part" 2 ["thing"] (cs K fIsPart)) (h_number_in:Has P w K mg base "number_in" 1 ["word"] (cs K fNumIn)):Has P w K mg base "row_in" 3 ["word"] (cs K fRowIn):=by
 obtain⟨fd,F⟩:=F
 refine⟨_,fd,gm,F.kp,FunD.bindsN (ps:= ["word"]) F fun _ _ _ _ _ _ us hl=>match us,hl with | [_],_=>rfl,F.ok sc_row_in (fun vs H Q E h=>p_row_in_len h) (fun cdv A outer s H vs Q E hr h=>⟨t_row_in K,PSs.nox ?_,p_row_in h⟩)⟩
 have hu:=hu_of hr
 exact(pss_cons (ps_set (i:=1) sc_row_in.nd rfl (Or.inl rfl) (pe_lst pa_nil))
  (pss_cons (ps_for PassesOwn.never rfl (pi_list (pe_split (pv 0) pe_str)) (pg_name (i:=2) sc_row_in.nd rfl (Or.inl rfl)) (pss_cons (ps_set (i:=3) sc_row_in.nd rfl (Or.inl rfl) (pe_callTy call_tuple_of (by rfl) B.b_tuple (by decide +kernel) (pa_cons (pe_lc (own:= [("one",4)]) (g:=(gName 4)) (tt:=tYes) (te:=(tCall (cs K fNumIn) [] E0 (tCons (tVar 4) tNil))) (wi:=(iList K (tSplit (tVar 2) (tC (.str (">>" :Str)))))) rfl sc_row_in.nd (pi_list (pe_split (pv 2) pe_str)) (blkOk_by (own:= [("one",4)]) (N:=N_row_in) (sc:=defScope s_row_in) (by decide +kernel)) (fun _ _ _ _ _=>(pg_name (i:=4) sc_row_in.nd rfl (Or.inl rfl))) (fun _ _ _ _ _=>pts_nil) (fun _ _ _ _ _=>(pe_has h_number_in (hr.mono (by decide)) (by rfl) (pa_cons (pv 4) pa_nil)))) pa_nil)))
   (pss_cons (ps_if (PW.pt (pw_or (pt_cmpR op_ne (pe_callB call_len_seq (by rfl) B.b_len (by decide +kernel) (pa_cons (pv 3) pa_nil)) pe_int (nomark _)) (pw_or (pt_cmpR op_in_seq pe_non (pv 3) (by rfl)) (pw_or1 (pt_not (pt_val (pe_has h_is_part (hr.mono (by decide)) (by rfl) (pa_cons (pv 3) pa_nil)))))))) (pss_one (ps_ret pe_non)) pss_nil)
   (pss_one (ps_expr (pe_bm PySem.F.plainAttrs_list PySem.F.slot_list_append PySem.F.type_list_append mt_append (pv 1) (pa_cons (pv 3) pa_nil)))))))
  (pss_cons (ps_if (pt_not (pt_chain op_le op_le pe_int (pe_callB call_len_seq (by rfl) B.b_len (by decide +kernel) (pa_cons (pv 1) pa_nil)) pe_int)) (pss_one (ps_ret pe_non)) pss_nil)
  (pss_one (ps_ret (pe_callTy call_tuple_of (by rfl) B.b_tuple (by decide +kernel) (pa_cons (pv 1) pa_nil)))))))
theorem sc_stamp_text:FnScope N_stamp_text ["stamp"] (defScope s_stamp_text):=⟨rfl,rfl,rfl,by decide +kernel,rfl,by decide +kernel,by decide +kernel⟩
theorem ok_stamp_text (F:∃fd,FnP K "stamp_text" s_stamp_text (He.ga K "stamp_text") fd) (gm:mg "stamp_text" =some (.ref (He.ga K "stamp_text"))) (B:Bl mg) (G:Gs K w mg)  :Has P w K mg base "stamp_text" 1 ["stamp"] (cs K fStampT):=by
 obtain⟨fd,F⟩:=F
 refine⟨_,fd,gm,F.kp,FunD.bindsN (ps:= ["stamp"]) F fun _ _ _ _ _ _ us hl=>match us,hl with | [_],_=>rfl,F.ok sc_stamp_text (fun vs H Q E h=>p_stamp_text_len h) (fun cdv A outer s H vs Q E hr h=>⟨t_stamp_text K,PSs.nox ?_,p_stamp_text G.tt.x.dig h⟩)⟩
 have hu:=hu_of hr
 exact(pss_cons (ps_if (pt_cmpR op_isN1 (pv 0) pe_non (nomark _)) (pss_one (ps_ret pe_str)) pss_nil)
  (pss_one (ps_ret (pe_op op_add_str (pe_op op_add_str (pe_callTy Go.call_strU (by rfl) B.b_str (by decide +kernel) (pa_cons (pe_ix ix_tup (pv 0) pe_int (fun _ _=>rfl)) pa_nil)) pe_str) (pe_callTy Go.call_strU (by rfl) B.b_str (by decide +kernel) (pa_cons (pe_ix ix_tup (pv 0) pe_int (fun _ _=>rfl)) pa_nil))))))
theorem sc_stamp_in:FnScope N_stamp_in ["word","least"] (defScope s_stamp_in):=⟨rfl,rfl,rfl,by decide +kernel,rfl,by decide +kernel,by decide +kernel⟩
theorem ok_stamp_in (F:∃fd,FnP K "stamp_in" s_stamp_in (He.ga K "stamp_in") fd) (gm:mg "stamp_in" =some (.ref (He.ga K "stamp_in"))) (B:Bl mg) (h_number_in:Has P w K mg base "number_in" 1 ["word"] (cs K fNumIn)):Has P w K mg base "stamp_in" 2 ["word","least"] (cs K fStampIn):=by
 obtain⟨fd,F⟩:=F
 refine⟨_,fd,gm,F.kp,FunD.bindsN (ps:= ["word","least"]) F fun _ _ _ _ _ _ us hl=>match us,hl with | [_,_],_=>rfl,F.ok sc_stamp_in (fun vs H Q E h=>p_stamp_in_len h) (fun cdv A outer s H vs Q E hr h=>⟨t_stamp_in K,PSs.nox ?_,p_stamp_in h⟩)⟩
 have hu:=hu_of hr
 exact(pss_cons (ps_setLc (i:=2) (own:= [("one",3)]) (g:=(gName 3)) (tt:=tYes) (te:=(tCall (cs K fNumIn) [] E0 (tCons (tVar 3) tNil))) (wi:=(iList K (tSplit (tVar 0) (tC (.str ("." :Str)))))) rfl sc_stamp_in.nd rfl rfl (sw_true rfl rfl rfl (by decide +kernel)) (pi_list (pe_split (pv 0) pe_str)) (blkOk_by (own:= [("one",3)]) (N:=N_stamp_in) (sc:=defScope s_stamp_in) (by decide +kernel)) (fun _ _ _ _ _=>(pg_name (i:=3) sc_stamp_in.nd rfl (Or.inl rfl))) (fun _ _ _ _ _=>pts_nil) (fun _ _ _ _ _=>(pe_has h_number_in (hr.mono (by decide)) (by rfl) (pa_cons (pv 3) pa_nil))))
  (pss_cons (ps_if (PW.pt (pw_or (pt_cmpR op_ne (pe_callB call_len_seq (by rfl) B.b_len (by decide +kernel) (pa_cons (pv 2) pa_nil)) pe_int (nomark _)) (pw_or (pt_cmpR op_in_seq pe_non (pv 2) (by rfl)) (pw_or (pt_cmpR op_lt (pe_ix ix_list (pv 2) pe_int (fun _ _=>rfl)) pe_int (nomark _)) (pw_or1 (pt_cmpR op_lt (pe_ix ix_list (pv 2) pe_int (fun _ _=>rfl)) (pv 1) (nomark _))))))) (pss_one (ps_ret pe_non)) pss_nil)
  (pss_one (ps_ret (pe_callTy call_tuple_of (by rfl) B.b_tuple (by decide +kernel) (pa_cons (pv 2) pa_nil))))))
theorem sc_entry_text:FnScope N_entry_text ["entry"] (defScope s_entry_text):=⟨rfl,rfl,rfl,by decide +kernel,rfl,by decide +kernel,by decide +kernel⟩
theorem ok_entry_text (F:∃fd,FnP K "entry_text" s_entry_text (He.ga K "entry_text") fd) (gm:mg "entry_text" =some (.ref (He.ga K "entry_text"))) (B:Bl mg) (G:Gs K w mg) (h_stamp_text:Has P w K mg base "stamp_text" 1 ["stamp"] (cs K fStampT)):Has P w K mg base "entry_text" 2 ["entry"] (cs K fEntryT):=by
 obtain⟨fd,F⟩:=F
 refine⟨_,fd,gm,F.kp,FunD.bindsN (ps:= ["entry"]) F fun _ _ _ _ _ _ us hl=>match us,hl with | [_],_=>rfl,F.ok sc_entry_text (fun vs H Q E h=>p_entry_text_len h) (fun cdv A outer s H vs Q E hr h=>⟨t_entry_text K,PSs.nox ?_,p_entry_text G.tt.x.dig h⟩)⟩
 have hu:=hu_of hr
 exact(pss_cons (ps_asg (pv 0) (pg_tup rfl (pgs_cons (pg_name (i:=1) sc_entry_text.nd rfl (Or.inl rfl)) (pgs_cons (pg_name (i:=2) sc_entry_text.nd rfl (Or.inl rfl)) (pgs_cons (pg_name (i:=3) sc_entry_text.nd rfl (Or.inl rfl)) (pgs_cons (pg_name (i:=4) sc_entry_text.nd rfl (Or.inl rfl)) (pgs_cons (pg_name (i:=5) sc_entry_text.nd rfl (Or.inl rfl)) pgs_nil)))))))
  (pss_cons (ps_set (i:=6) sc_entry_text.nd rfl (Or.inl rfl) (pe_lst (pa_cons (pv 1) (pa_cons (pe_has h_stamp_text (hr.mono (by decide)) (by rfl) (pa_cons (pe_tup (pa_cons (pv 2) (pa_cons (pv 3) pa_nil))) pa_nil)) (pa_cons (pe_join pe_str (pe_lc (own:= [("one",7)]) (g:=(gName 7)) (tt:=tYes) (te:=(tCB (Go.rStrU K) (tCons (tVar 7) tNil))) (wi:=(iTup K (tVar 4))) rfl sc_entry_text.nd (pi_tup (pv 4)) (blkOk_by (own:= [("one",7)]) (N:=N_entry_text) (sc:=defScope s_entry_text) (by decide +kernel)) (fun _ _ _ _ _=>(pg_name (i:=7) sc_entry_text.nd rfl (Or.inl rfl))) (fun _ _ _ _ _=>pts_nil) (fun _ _ _ _ _=>(pe_callTy Go.call_strU (by rfl) B.b_str (by decide +kernel) (pa_cons (pv 7) pa_nil))))) pa_nil)))))
  (pss_one (ps_ret (pe_join pe_str (pe_op op_cat (pv 6) (pe_lst (pa_cons (pe_ifExp (pt_cmpR (op_neD hr.units) (pv 5) (pe_tup pa_nil) (nomark _)) (pe_join pe_str (pv 5)) pe_str) pa_nil))))))))
theorem sc_names_in:FnScope N_names_in ["word"] (defScope s_names_in):=⟨rfl,rfl,rfl,by decide +kernel,rfl,by decide +kernel,by decide +kernel⟩
theorem ok_names_in (F:∃fd,FnP K "names_in" s_names_in (He.ga K "names_in") fd) (gm:mg "names_in" =some (.ref (He.ga K "names_in"))) (B:Bl mg) (h_is_name:Has P w K mg base "is_name" 1 ["thing"] (cs K fIsName)):Has P w K mg base "names_in" 2 ["word"] (cs K fNamesIn):=by
 obtain⟨fd,F⟩:=F
 refine⟨_,fd,gm,F.kp,FunD.bindsN (ps:= ["word"]) F fun _ _ _ _ _ _ us hl=>match us,hl with | [_],_=>rfl,F.ok sc_names_in (fun vs H Q E h=>p_names_in_len h) (fun cdv A outer s H vs Q E hr h=>⟨t_names_in K,PSs.nox ?_,p_names_in h⟩)⟩
 have hu:=hu_of hr
 exact(pss_cons (ps_if (pt_cmpR op_eq (pv 0) pe_str (nomark _)) (pss_one (ps_ret (pe_tup pa_nil))) pss_nil)
  (pss_cons (ps_set (i:=1) sc_names_in.nd rfl (Or.inl rfl) (pe_split (pv 0) pe_str))
  (pss_cons (ps_if (PW.pt (pw_or (pt_not (pt_val (pe_callB (cr_all rfl) (by rfl) B.b_all (by decide +kernel) (pa_cons (pe_lc (own:= [("one",2)]) (g:=(gName 2)) (tt:=tYes) (te:=(tCall (cs K fIsName) [] E0 (tCons (tVar 2) tNil))) (wi:=(iList K (tVar 1))) rfl sc_names_in.nd (pi_list (pv 1)) (blkOk_by (own:= [("one",2)]) (N:=N_names_in) (sc:=defScope s_names_in) (by decide +kernel)) (fun _ _ _ _ _=>(pg_name (i:=2) sc_names_in.nd rfl (Or.inl rfl))) (fun _ _ _ _ _=>pts_nil) (fun _ _ _ _ _=>(pe_has h_is_name (hr.mono (by decide)) (by rfl) (pa_cons (pv 2) pa_nil)))) pa_nil)))) (pw_or1 (pt_cmpR (op_neD hr.units) (pv 1) (pe_sortSetS (by rfl) B.b_sorted (by rfl) B.b_set (pv 1)) (nomark _))))) (pss_one (ps_ret pe_non)) pss_nil)
  (pss_one (ps_ret (pe_callTy call_tuple_of (by rfl) B.b_tuple (by decide +kernel) (pa_cons (pv 1) pa_nil)))))))
theorem sc_entry_in:FnScope N_entry_in ["word"] (defScope s_entry_in):=⟨rfl,rfl,rfl,by decide +kernel,rfl,by decide +kernel,by decide +kernel⟩
theorem ok_entry_in (F:∃fd,FnP K "entry_in" s_entry_in (He.ga K "entry_in") fd) (gm:mg "entry_in" =some (.ref (He.ga K "entry_in"))) (B:Bl mg) (h_is_numbers:Has P w K mg base "is_numbers" 2 ["thing"] (cs K fIsNumbers)) (h_names_in:Has P w K mg base "names_in" 2 ["word"] (cs K fNamesIn)) (h_number_in:Has P w K mg base "number_in" 1 ["word"] (cs K fNumIn)) (h_stamp_in:Has P w K mg base "stamp_in" 2 ["word","least"] (cs K fStampIn)) (h_is_name:Has P w K mg base "is_name" 1 ["thing"] (cs K fIsName)):Has P w K mg base "entry_in" 3 ["word"] (cs K fEntryIn):=by
 obtain⟨fd,F⟩:=F
 refine⟨_,fd,gm,F.kp,FunD.bindsN (ps:= ["word"]) F fun _ _ _ _ _ _ us hl=>match us,hl with | [_],_=>rfl,F.ok sc_entry_in (fun vs H Q E h=>p_entry_in_len h) (fun cdv A outer s H vs Q E hr h=>⟨t_entry_in K,PSs.nox ?_,p_entry_in h⟩)⟩
 have hu:=hu_of hr
 exact(pss_cons (ps_set (i:=1) sc_entry_in.nd rfl (Or.inl rfl) (pe_split (pv 0) pe_str))
  (pss_cons (ps_if (PW.pt (pw_or (pt_cmpR op_ne (pe_callB call_len_seq (by rfl) B.b_len (by decide +kernel) (pa_cons (pv 1) pa_nil)) pe_int (nomark _)) (pw_or1 (pt_not (pt_val (pe_has h_is_name (hr.mono (by decide)) (by rfl) (pa_cons (pe_ix ix_list (pv 1) pe_int (fun _ _=>rfl)) pa_nil))))))) (pss_one (ps_ret pe_non)) pss_nil)
  (pss_cons (ps_set (i:=2) sc_entry_in.nd rfl (Or.inl rfl) (pe_has h_stamp_in (hr.mono (by decide)) (by rfl) (pa_cons (pe_ix ix_list (pv 1) pe_int (fun _ _=>rfl)) (pa_cons pe_int pa_nil))))
  (pss_cons (ps_set (i:=3) sc_entry_in.nd rfl (Or.inl rfl) (pe_callTy call_tuple_of (by rfl) B.b_tuple (by decide +kernel) (pa_cons (pe_lc (own:= [("one",5)]) (g:=(gName 5)) (tt:=tYes) (te:=(tCall (cs K fNumIn) [] E0 (tCons (tVar 5) tNil))) (wi:=(iList K (tSplit (tOp (rIxL K) (tVar 1) (tC (.int 2))) (tC (.str ("," :Str)))))) rfl sc_entry_in.nd (pi_list (pe_split (pe_ix ix_list (pv 1) pe_int (fun _ _=>rfl)) pe_str)) (blkOk_by (own:= [("one",5)]) (N:=N_entry_in) (sc:=defScope s_entry_in) (by decide +kernel)) (fun _ _ _ _ _=>(pg_name (i:=5) sc_entry_in.nd rfl (Or.inl rfl))) (fun _ _ _ _ _=>pts_nil) (fun _ _ _ _ _=>(pe_has h_number_in (hr.mono (by decide)) (by rfl) (pa_cons (pv 5) pa_nil)))) pa_nil)))
  (pss_cons (ps_set (i:=4) sc_entry_in.nd rfl (Or.inl rfl) (pe_has h_names_in (hr.mono (by decide)) (by rfl) (pa_cons (pe_ix ix_list (pv 1) pe_int (fun _ _=>rfl)) pa_nil)))
  (pss_cons (ps_if (PW.pt (pw_or (pt_cmpR op_isN1 (pv 2) pe_non (nomark _)) (pw_or (pt_not (pt_val (pe_has h_is_numbers (hr.mono (by decide)) (by rfl) (pa_cons (pv 3) pa_nil)))) (pw_or1 (pt_cmpR op_isN1 (pv 4) pe_non (nomark _)))))) (pss_one (ps_ret pe_non)) pss_nil)
  (pss_one (ps_ret (pe_tup (pa_cons (pe_ix ix_list (pv 1) pe_int (fun _ _=>rfl)) (pa_cons (pe_ix ix_seq (pv 2) pe_int (fun _ _=>rfl)) (pa_cons (pe_ix ix_seq (pv 2) pe_int (fun _ _=>rfl)) (pa_cons (pv 3) (pa_cons (pv 4) pa_nil))))))))))))))
theorem sc_roll_text:FnScope N_roll_text ["roll"] (defScope s_roll_text):=⟨rfl,rfl,rfl,by decide +kernel,rfl,by decide +kernel,by decide +kernel⟩
theorem ok_roll_text (F:∃fd,FnP K "roll_text" s_roll_text (He.ga K "roll_text") fd) (gm:mg "roll_text" =some (.ref (He.ga K "roll_text"))) (B:Bl mg) (h_entry_text:Has P w K mg base "entry_text" 2 ["entry"] (cs K fEntryT)):Has P w K mg base "roll_text" 3 ["roll"] (cs K fRollT):=by
 obtain⟨fd,F⟩:=F
 refine⟨_,fd,gm,F.kp,FunD.bindsN (ps:= ["roll"]) F fun _ _ _ _ _ _ us hl=>match us,hl with | [_],_=>rfl,F.ok sc_roll_text (fun vs H Q E h=>p_roll_text_len h) (fun cdv A outer s H vs Q E hr h=>⟨t_roll_text K,PSs.nox ?_,p_roll_text h⟩)⟩
 have hu:=hu_of hr
 exact(pss_one (ps_ret (pe_join pe_str (pe_lc (own:= [("entry",1)]) (g:=(gName 1)) (tt:=tYes) (te:=(tCall (cs K fEntryT) [] E0 (tCons (tVar 1) tNil))) (wi:=(iTup K (tVar 0))) rfl sc_roll_text.nd (pi_tup (pv 0)) (blkOk_by (own:= [("entry",1)]) (N:=N_roll_text) (sc:=defScope s_roll_text) (by decide +kernel)) (fun _ _ _ _ _=>(pg_name (i:=1) sc_roll_text.nd rfl (Or.inl rfl))) (fun _ _ _ _ _=>pts_nil) (fun _ _ _ _ _=>(pe_has h_entry_text (hr.mono (by decide)) (by rfl) (pa_cons (pv 1) pa_nil)))))))
theorem sc_roll_in:FnScope N_roll_in ["words"] (defScope s_roll_in):=⟨rfl,rfl,rfl,by decide +kernel,rfl,by decide +kernel,by decide +kernel⟩
theorem ok_roll_in (F:∃fd,FnP K "roll_in" s_roll_in (He.ga K "roll_in") fd) (gm:mg "roll_in" =some (.ref (He.ga K "roll_in"))) (B:Bl mg) (h_entry_in:Has P w K mg base "entry_in" 3 ["word"] (cs K fEntryIn)):Has P w K mg base "roll_in" 4 ["words"] (cs K fRollIn):=by
 obtain⟨fd,F⟩:=F
 refine⟨_,fd,gm,F.kp,FunD.bindsN (ps:= ["words"]) F fun _ _ _ _ _ _ us hl=>match us,hl with | [_],_=>rfl,F.ok sc_roll_in (fun vs H Q E h=>p_roll_in_len h) (fun cdv A outer s H vs Q E hr h=>⟨t_roll_in K,PSs.nox ?_,p_roll_in h⟩)⟩
 have hu:=hu_of hr
 exact(pss_cons (ps_setLc (i:=1) (own:= [("word",3)]) (g:=(gName 3)) (tt:=tYes) (te:=(tCall (cs K fEntryIn) [] E0 (tCons (tVar 3) tNil))) (wi:=(iList K (tVar 0))) rfl sc_roll_in.nd rfl rfl (sw_true rfl rfl rfl (by decide +kernel)) (pi_list (pv 0)) (blkOk_by (own:= [("word",3)]) (N:=N_roll_in) (sc:=defScope s_roll_in) (by decide +kernel)) (fun _ _ _ _ _=>(pg_name (i:=3) sc_roll_in.nd rfl (Or.inl rfl))) (fun _ _ _ _ _=>pts_nil) (fun _ _ _ _ _=>(pe_has h_entry_in (hr.mono (by decide)) (by rfl) (pa_cons (pv 3) pa_nil))))
  (pss_cons (ps_if (PW.pt (pw_or (pt_cmpR (op_eqD hr.units) (pv 1) (pe_lst pa_nil) (nomark _)) (pw_or1 (pt_cmpR (op_inD (Go.un65 hr)) pe_non (pv 1) (by rfl))))) (pss_one (ps_ret pe_non)) pss_nil)
  (pss_cons (ps_setLc (i:=2) (own:= [("entry",4)]) (g:=(gName 4)) (tt:=tYes) (te:=(tOp (rIxT K) (tVar 4) (tC (.int 0)))) (wi:=(iList K (tVar 1))) rfl sc_roll_in.nd rfl rfl (sw_true rfl rfl rfl (by decide +kernel)) (pi_list (pv 1)) (blkOk_by (own:= [("entry",4)]) (N:=N_roll_in) (sc:=defScope s_roll_in) (by decide +kernel)) (fun _ _ _ _ _=>(pg_name (i:=4) sc_roll_in.nd rfl (Or.inl rfl))) (fun _ _ _ _ _=>pts_nil) (fun _ _ _ _ _=>(pe_ix ix_tup (pv 4) pe_int (fun _ _=>rfl))))
  (pss_cons (ps_if (pt_cmpR (op_neD hr.units) (pv 2) (pe_sortSetS (by rfl) B.b_sorted (by rfl) B.b_set (pv 2)) (nomark _)) (pss_one (ps_ret pe_non)) pss_nil)
  (pss_one (ps_ret (pe_callTy call_tuple_of (by rfl) B.b_tuple (by decide +kernel) (pa_cons (pv 1) pa_nil))))))))
theorem sc_letter_text:FnScope N_letter_text ["letter"] (defScope s_letter_text):=⟨rfl,rfl,rfl,by decide +kernel,rfl,by decide +kernel,by decide +kernel⟩
theorem ok_letter_text (F:∃fd,FnP K "letter_text" s_letter_text (He.ga K "letter_text") fd) (gm:mg "letter_text" =some (.ref (He.ga K "letter_text"))) (B:Bl mg) (G:Gs K w mg) (h_roll_text:Has P w K mg base "roll_text" 3 ["roll"] (cs K fRollT)) (h_row_text:Has P w K mg base "row_text" 1 ["row"] (cs K fRowT)) (h_stamp_text:Has P w K mg base "stamp_text" 1 ["stamp"] (cs K fStampT)):Has P w K mg base "letter_text" 4 ["letter"] (cs K fLetterT):=by
 obtain⟨fd,F⟩:=F
 refine⟨_,fd,gm,F.kp,FunD.bindsN (ps:= ["letter"]) F fun _ _ _ _ _ _ us hl=>match us,hl with | [_],_=>rfl,F.ok sc_letter_text (fun vs H Q E h=>p_letter_text_len h) (fun cdv A outer s H vs Q E hr h=>⟨t_letter_text K,PSs.nox ?_,p_letter_text G.tt.x.dig h⟩)⟩
 have hu:=hu_of hr
 exact(pss_cons (ps_asg (pv 0) (pg_tup rfl (pgs_cons (pg_name (i:=1) sc_letter_text.nd rfl (Or.inl rfl)) (pgs_cons (pg_name (i:=2) sc_letter_text.nd rfl (Or.inl rfl)) (pgs_cons (pg_name (i:=3) sc_letter_text.nd rfl (Or.inl rfl)) (pgs_cons (pg_name (i:=4) sc_letter_text.nd rfl (Or.inl rfl)) (pgs_cons (pg_name (i:=5) sc_letter_text.nd rfl (Or.inl rfl)) (pgs_cons (pg_name (i:=6) sc_letter_text.nd rfl (Or.inl rfl)) (pgs_cons (pg_name (i:=7) sc_letter_text.nd rfl (Or.inl rfl)) pgs_nil)))))))))
  (pss_cons (ps_set (i:=8) sc_letter_text.nd rfl (Or.inl rfl) (pe_lst (pa_cons (pv 1) (pa_cons (pv 2) (pa_cons (pe_has h_stamp_text (hr.mono (by decide)) (by rfl) (pa_cons (pv 3) pa_nil)) (pa_cons (pe_has h_stamp_text (hr.mono (by decide)) (by rfl) (pa_cons (pv 4) pa_nil)) (pa_cons (pe_callTy Go.call_strU (by rfl) B.b_str (by decide +kernel) (pa_cons (pv 5) pa_nil)) (pa_cons (pe_has h_row_text (hr.mono (by decide)) (by rfl) (pa_cons (pv 6) pa_nil)) (pa_cons (pe_has h_roll_text (hr.mono (by decide)) (by rfl) (pa_cons (pv 7) pa_nil)) pa_nil)))))))))
  (pss_one (ps_ret (pe_join pe_str (pv 8))))))
theorem sc_seen_in:FnScope N_seen_in ["word"] (defScope s_seen_in):=⟨rfl,rfl,rfl,by decide +kernel,rfl,by decide +kernel,by decide +kernel⟩
theorem ok_seen_in (F:∃fd,FnP K "seen_in" s_seen_in (He.ga K "seen_in") fd) (gm:mg "seen_in" =some (.ref (He.ga K "seen_in"))) (B:Bl mg) (h_stamp_in:Has P w K mg base "stamp_in" 2 ["word","least"] (cs K fStampIn)):Has P w K mg base "seen_in" 3 ["word"] (cs K fSeenIn):=by
 obtain⟨fd,F⟩:=F
 refine⟨_,fd,gm,F.kp,FunD.bindsN (ps:= ["word"]) F fun _ _ _ _ _ _ us hl=>match us,hl with | [_],_=>rfl,F.ok sc_seen_in (fun vs H Q E h=>p_seen_in_len h) (fun cdv A outer s H vs Q E hr h=>⟨t_seen_in K,PSs.nox ?_,p_seen_in h⟩)⟩
 have hu:=hu_of hr
 exact(pss_cons (ps_if (pt_cmpR op_eq (pv 0) pe_str (nomark _)) (pss_one (ps_ret (pe_tup (pa_cons pe_non pa_nil)))) pss_nil)
  (pss_cons (ps_set (i:=1) sc_seen_in.nd rfl (Or.inl rfl) (pe_has h_stamp_in (hr.mono (by decide)) (by rfl) (pa_cons (pv 0) (pa_cons pe_int pa_nil))))
  (pss_cons (ps_if (pt_cmpR op_isN1 (pv 1) pe_non (nomark _)) (pss_one (ps_ret pe_non)) pss_nil)
  (pss_one (ps_ret (pe_tup (pa_cons (pv 1) pa_nil)))))))
theorem sc_letter_in:FnScope N_letter_in ["text"] (defScope s_letter_in):=⟨rfl,rfl,rfl,by decide +kernel,rfl,by decide +kernel,by decide +kernel⟩
theorem ok_letter_in (F:∃fd,FnP K "letter_in" s_letter_in (He.ga K "letter_in") fd) (gm:mg "letter_in" =some (.ref (He.ga K "letter_in"))) (B:Bl mg) (h_roll_in:Has P w K mg base "roll_in" 4 ["words"] (cs K fRollIn)) (h_row_in:Has P w K mg base "row_in" 3 ["word"] (cs K fRowIn)) (h_number_in:Has P w K mg base "number_in" 1 ["word"] (cs K fNumIn)) (h_seen_in:Has P w K mg base "seen_in" 3 ["word"] (cs K fSeenIn)) (h_stamp_in:Has P w K mg base "stamp_in" 2 ["word","least"] (cs K fStampIn)) (h_is_name:Has P w K mg base "is_name" 1 ["thing"] (cs K fIsName)):Has P w K mg base "letter_in" 5 ["text"] (cs K fLetterIn):=by
 obtain⟨fd,F⟩:=F
 refine⟨_,fd,gm,F.kp,FunD.bindsN (ps:= ["text"]) F fun _ _ _ _ _ _ us hl=>match us,hl with | [_],_=>rfl,F.ok sc_letter_in (fun vs H Q E h=>p_letter_in_len h) (fun cdv A outer s H vs Q E hr h=>⟨t_letter_in K,PSs.nox ?_,p_letter_in h⟩)⟩
 have hu:=hu_of hr
 exact(pss_cons (ps_set (i:=1) sc_letter_in.nd rfl (Or.inl rfl) (pe_split (pv 0) pe_str))
  (pss_cons (ps_if (PW.pt (pw_or (pt_cmpR op_lt (pe_callB call_len_seq (by rfl) B.b_len (by decide +kernel) (pa_cons (pv 1) pa_nil)) pe_int (nomark _)) (pw_or (pt_not (pt_val (pe_has h_is_name (hr.mono (by decide)) (by rfl) (pa_cons (pe_ix ix_list (pv 1) pe_int (fun _ _=>rfl)) pa_nil)))) (pw_or1 (pt_not (pt_val (pe_has h_is_name (hr.mono (by decide)) (by rfl) (pa_cons (pe_ix ix_list (pv 1) pe_int (fun _ _=>rfl)) pa_nil)))))))) (pss_one (ps_ret pe_non)) pss_nil)
  (pss_cons (ps_set (i:=2) sc_letter_in.nd rfl (Or.inl rfl) (pe_has h_stamp_in (hr.mono (by decide)) (by rfl) (pa_cons (pe_ix ix_list (pv 1) pe_int (fun _ _=>rfl)) (pa_cons pe_int pa_nil))))
  (pss_cons (ps_set (i:=3) sc_letter_in.nd rfl (Or.inl rfl) (pe_has h_seen_in (hr.mono (by decide)) (by rfl) (pa_cons (pe_ix ix_list (pv 1) pe_int (fun _ _=>rfl)) pa_nil)))
  (pss_cons (ps_set (i:=4) sc_letter_in.nd rfl (Or.inl rfl) (pe_has h_number_in (hr.mono (by decide)) (by rfl) (pa_cons (pe_ix ix_list (pv 1) pe_int (fun _ _=>rfl)) pa_nil)))
  (pss_cons (ps_set (i:=5) sc_letter_in.nd rfl (Or.inl rfl) (pe_has h_row_in (hr.mono (by decide)) (by rfl) (pa_cons (pe_ix ix_list (pv 1) pe_int (fun _ _=>rfl)) pa_nil)))
  (pss_cons (ps_set (i:=6) sc_letter_in.nd rfl (Or.inl rfl) (pe_has h_roll_in (hr.mono (by decide)) (by rfl) (pa_cons (pe_slice sl_list (pv 1) (po_some pe_int) po_none) pa_nil)))
  (pss_cons (ps_if (PW.pt (pw_or (pt_cmpR (Go.op_inTD (Go.un65 hr)) pe_non (pe_tup (pa_cons (pv 2) (pa_cons (pv 3) (pa_cons (pv 4) (pa_cons (pv 5) (pa_cons (pv 6) pa_nil)))))) (by rfl)) (pw_or1 (pt_cmpR op_lt (pv 4) pe_int (nomark _))))) (pss_one (ps_ret pe_non)) pss_nil)
  (pss_one (ps_ret (pe_tup (pa_cons (pe_ix ix_list (pv 1) pe_int (fun _ _=>rfl)) (pa_cons (pe_ix ix_list (pv 1) pe_int (fun _ _=>rfl)) (pa_cons (pv 2) (pa_cons (pe_ix ix_seq (pv 3) pe_int (fun _ _=>rfl)) (pa_cons (pv 4) (pa_cons (pv 5) (pa_cons (pv 6) pa_nil))))))))))))))))))
theorem sc_deed_text:FnScope N_deed_text ["deed"] (defScope s_deed_text):=⟨rfl,rfl,rfl,by decide +kernel,rfl,by decide +kernel,by decide +kernel⟩
theorem ok_deed_text (F:∃fd,FnP K "deed_text" s_deed_text (He.ga K "deed_text") fd) (gm:mg "deed_text" =some (.ref (He.ga K "deed_text"))) (B:Bl mg) (G:Gs K w mg)  :Has P w K mg base "deed_text" 1 ["deed"] (cs K fDeedT):=by
 obtain⟨fd,F⟩:=F
 refine⟨_,fd,gm,F.kp,FunD.bindsN (ps:= ["deed"]) F fun _ _ _ _ _ _ us hl=>match us,hl with | [_],_=>rfl,F.ok sc_deed_text (fun vs H Q E h=>p_deed_text_len h) (fun cdv A outer s H vs Q E hr h=>⟨t_deed_text K,PSs.nox ?_,p_deed_text G.tt.s_OF_NUMBERS G.tt.x.dig h⟩)⟩
 have hu:=hu_of hr
 exact(pss_cons (ps_if (pt_cmpR op_in_seq (pe_ix ix_tup (pv 0) pe_int (fun _ _=>rfl)) (pe_glob (by rfl) G.g_OF_NUMBERS rfl) (by rfl)) (pss_one (ps_ret (pe_join pe_str (pe_op op_cat (pe_lst (pa_cons (pe_ix ix_tup (pv 0) pe_int (fun _ _=>rfl)) (pa_cons (pe_ix ix_tup (pv 0) pe_int (fun _ _=>rfl)) pa_nil))) (pe_lc (own:= [("one",2)]) (g:=(gName 2)) (tt:=tYes) (te:=(tCB (Go.rStrU K) (tCons (tVar 2) tNil))) (wi:=(iTup K (tOp (rIxT K) (tVar 0) (tC (.int 2))))) rfl sc_deed_text.nd (pi_tup (pe_ix ix_tup (pv 0) pe_int (fun _ _=>rfl))) (blkOk_by (own:= [("one",2)]) (N:=N_deed_text) (sc:=defScope s_deed_text) (by decide +kernel)) (fun _ _ _ _ _=>(pg_name (i:=2) sc_deed_text.nd rfl (Or.inl rfl))) (fun _ _ _ _ _=>pts_nil) (fun _ _ _ _ _=>(pe_callTy Go.call_strU (by rfl) B.b_str (by decide +kernel) (pa_cons (pv 2) pa_nil)))))))) pss_nil)
  (pss_one (ps_ret (pe_join pe_str (pe_lc (own:= [("part",1)]) (g:=(gName 1)) (tt:=tYes) (te:=(tCB (Go.rStrU K) (tCons (tVar 1) tNil))) (wi:=(iTup K (tVar 0))) rfl sc_deed_text.nd (pi_tup (pv 0)) (blkOk_by (own:= [("part",1)]) (N:=N_deed_text) (sc:=defScope s_deed_text) (by decide +kernel)) (fun _ _ _ _ _=>(pg_name (i:=1) sc_deed_text.nd rfl (Or.inl rfl))) (fun _ _ _ _ _=>pts_nil) (fun _ _ _ _ _=>(pe_callTy Go.call_strU (by rfl) B.b_str (by decide +kernel) (pa_cons (pv 1) pa_nil))))))))
theorem sc_deed_in:FnScope N_deed_in ["text"] (defScope s_deed_in):=⟨rfl,rfl,rfl,by decide +kernel,rfl,by decide +kernel,by decide +kernel⟩
theorem ok_deed_in (F:∃fd,FnP K "deed_in" s_deed_in (He.ga K "deed_in") fd) (gm:mg "deed_in" =some (.ref (He.ga K "deed_in"))) (B:Bl mg) (G:Gs K w mg) (h_is_deed:Has P w K mg base "is_deed" 3 ["thing"] (cs K fIsDeed)) (h_number_in:Has P w K mg base "number_in" 1 ["word"] (cs K fNumIn)):Has P w K mg base "deed_in" 4 ["text"] (cs K fDeedIn):=by
 obtain⟨fd,F⟩:=F
 refine⟨_,fd,gm,F.kp,FunD.bindsN (ps:= ["text"]) F fun _ _ _ _ _ _ us hl=>match us,hl with | [_],_=>rfl,F.ok sc_deed_in (fun vs H Q E h=>p_deed_in_len h) (fun cdv A outer s H vs Q E hr h=>⟨t_deed_in K,PSs.nox ?_,p_deed_in G.tt.s_OF_NUMBERS h⟩)⟩
 have hu:=hu_of hr
 exact(pss_cons (ps_set (i:=1) sc_deed_in.nd rfl (Or.inl rfl) (pe_split (pv 0) pe_str))
  (pss_cons (ps_set (i:=2) sc_deed_in.nd rfl (Or.inl rfl) (pe_callTy call_tuple_of (by rfl) B.b_tuple (by decide +kernel) (pa_cons (pv 1) pa_nil)))
  (pss_cons (ps_if (pt_cmpR op_in_seq (pe_ix ix_list (pv 1) pe_int (fun _ _=>rfl)) (pe_glob (by rfl) G.g_OF_NUMBERS rfl) (by rfl)) (pss_one (ps_set (i:=2) sc_deed_in.nd rfl (Or.inl rfl) (pe_op op_catA (pe_callTy call_tuple_of (by rfl) B.b_tuple (by decide +kernel) (pa_cons (pe_slice sl_list (pv 1) po_none (po_some pe_int)) pa_nil)) (pe_tup (pa_cons (pe_callTy call_tuple_of (by rfl) B.b_tuple (by decide +kernel) (pa_cons (pe_lc (own:= [("word",3)]) (g:=(gName 3)) (tt:=tYes) (te:=(tCall (cs K fNumIn) [] E0 (tCons (tVar 3) tNil))) (wi:=(iList K (tSl (rSlL K) (tVar 1) (tPart (tC (.int 2))) tNoPart))) rfl sc_deed_in.nd (pi_list (pe_slice sl_list (pv 1) (po_some pe_int) po_none)) (blkOk_by (own:= [("word",3)]) (N:=N_deed_in) (sc:=defScope s_deed_in) (by decide +kernel)) (fun _ _ _ _ _=>(pg_name (i:=3) sc_deed_in.nd rfl (Or.inl rfl))) (fun _ _ _ _ _=>pts_nil) (fun _ _ _ _ _=>(pe_has h_number_in (hr.mono (by decide)) (by rfl) (pa_cons (pv 3) pa_nil)))) pa_nil)) pa_nil))))) (pss_one (ps_if (pt_cmpR op_eq (pe_ix ix_list (pv 1) pe_int (fun _ _=>rfl)) pe_str (nomark _)) (pss_one (ps_set (i:=2) sc_deed_in.nd rfl (Or.inl rfl) (pe_op op_catA (pe_tup (pa_cons pe_str pa_nil)) (pe_callTy call_tuple_of (by rfl) B.b_tuple (by decide +kernel) (pa_cons (pe_lc (own:= [("word",3)]) (g:=(gName 3)) (tt:=tYes) (te:=(tCall (cs K fNumIn) [] E0 (tCons (tVar 3) tNil))) (wi:=(iList K (tSl (rSlL K) (tVar 1) (tPart (tC (.int 1))) tNoPart))) rfl sc_deed_in.nd (pi_list (pe_slice sl_list (pv 1) (po_some pe_int) po_none)) (blkOk_by (own:= [("word",3)]) (N:=N_deed_in) (sc:=defScope s_deed_in) (by decide +kernel)) (fun _ _ _ _ _=>(pg_name (i:=3) sc_deed_in.nd rfl (Or.inl rfl))) (fun _ _ _ _ _=>pts_nil) (fun _ _ _ _ _=>(pe_has h_number_in (hr.mono (by decide)) (by rfl) (pa_cons (pv 3) pa_nil)))) pa_nil))))) pss_nil)))
  (pss_cons (ps_if (pt_not (pt_val (pe_has h_is_deed (hr.mono (by decide)) (by rfl) (pa_cons (pv 2) pa_nil)))) (pss_one (ps_ret pe_non)) pss_nil)
  (pss_one (ps_ret (pv 2)))))))
theorem sc_book_row_text:FnScope N_book_row_text ["row"] (defScope s_book_row_text):=⟨rfl,rfl,rfl,by decide +kernel,rfl,by decide +kernel,by decide +kernel⟩
theorem ok_book_row_text (F:∃fd,FnP K "book_row_text" s_book_row_text (He.ga K "book_row_text") fd) (gm:mg "book_row_text" =some (.ref (He.ga K "book_row_text"))) (B:Bl mg) (G:Gs K w mg) (h_deed_text:Has P w K mg base "deed_text" 1 ["deed"] (cs K fDeedT)) (h_letter_text:Has P w K mg base "letter_text" 4 ["letter"] (cs K fLetterT)):Has P w K mg base "book_row_text" 5 ["row"] (cs K fBookRowT):=by
 obtain⟨fd,F⟩:=F
 refine⟨_,fd,gm,F.kp,FunD.bindsN (ps:= ["row"]) F fun _ _ _ _ _ _ us hl=>match us,hl with | [_],_=>rfl,F.ok sc_book_row_text (fun vs H Q E h=>p_book_row_text_len h) (fun cdv A outer s H vs Q E hr h=>⟨t_book_row_text K,PSs.nox ?_,p_book_row_text G.tt.x.dig G.tt.x.wds h⟩)⟩
 have hu:=hu_of hr
 exact(pss_cons (ps_asg (pv 0) (pg_tup rfl (pgs_cons (pg_name (i:=1) sc_book_row_text.nd rfl (Or.inl rfl)) (pgs_cons (pg_name (i:=2) sc_book_row_text.nd rfl (Or.inl rfl)) pgs_nil))))
  (pss_cons (ps_if (pt_cmpR op_eq (pe_ix ix_tup (pv 1) pe_int (fun _ _=>rfl)) pe_str (nomark _)) (pss_one (ps_ret (pe_op op_add_str (pe_op op_add_str (pe_has h_deed_text (hr.mono (by decide)) (by rfl) (pa_cons (pv 1) pa_nil)) pe_str) (pe_ix (Go.ix_itemK G.w_WORDS.kd) (pe_glob (by rfl) G.g_WORDS rfl) (pv 2) (fun _ _=>rfl))))) pss_nil)
  (pss_cons (ps_if (pt_cmpR op_eq (pe_ix ix_tup (pv 1) pe_int (fun _ _=>rfl)) pe_str (nomark _)) (pss_one (ps_ret (pe_join pe_str (pe_op op_cat (pe_lst (pa_cons (pe_has h_deed_text (hr.mono (by decide)) (by rfl) (pa_cons (pv 1) pa_nil)) pa_nil)) (pe_lc (own:= [("letter",3)]) (g:=(gName 3)) (tt:=tYes) (te:=(tCall (cs K fLetterT) [] E0 (tCons (tVar 3) tNil))) (wi:=(iTup K (tVar 2))) rfl sc_book_row_text.nd (pi_tup (pv 2)) (blkOk_by (own:= [("letter",3)]) (N:=N_book_row_text) (sc:=defScope s_book_row_text) (by decide +kernel)) (fun _ _ _ _ _=>(pg_name (i:=3) sc_book_row_text.nd rfl (Or.inl rfl))) (fun _ _ _ _ _=>pts_nil) (fun _ _ _ _ _=>(pe_has h_letter_text (hr.mono (by decide)) (by rfl) (pa_cons (pv 3) pa_nil)))))))) pss_nil)
  (pss_one (ps_ret (pe_has h_deed_text (hr.mono (by decide)) (by rfl) (pa_cons (pv 1) pa_nil)))))))
theorem sc_come_in:FnScope N_come_in ["text"] (defScope s_come_in):=⟨rfl,rfl,rfl,by decide +kernel,rfl,by decide +kernel,by decide +kernel⟩
theorem ok_come_in (F:∃fd,FnP K "come_in" s_come_in (He.ga K "come_in") fd) (gm:mg "come_in" =some (.ref (He.ga K "come_in"))) (B:Bl mg) (G:Gs K w mg) (h_deed_in:Has P w K mg base "deed_in" 4 ["text"] (cs K fDeedIn)):Has P w K mg base "come_in" 5 ["text"] (cs K fComeIn):=by
 obtain⟨fd,F⟩:=F
 refine⟨_,fd,gm,F.kp,FunD.bindsN (ps:= ["text"]) F fun _ _ _ _ _ _ us hl=>match us,hl with | [_],_=>rfl,F.ok sc_come_in (fun vs H Q E h=>p_come_in_len h) (fun cdv A outer s H vs Q E hr h=>⟨t_come_in K,PSs.nox ?_,p_come_in G.tt.x.wds h⟩)⟩
 have hu:=hu_of hr
 exact(pss_cons (ps_for PassesOwn.never rfl (Go.pi_kd G.w_WORDS (pe_glob (by rfl) G.g_WORDS rfl)) (pg_name (i:=1) sc_come_in.nd rfl (Or.inl rfl)) (pss_cons (ps_set (i:=2) sc_come_in.nd rfl (Or.inl rfl) (pe_op op_add_str pe_str (pe_ix (Go.ix_itemK G.w_WORDS.kd) (pe_glob (by rfl) G.g_WORDS rfl) (pv 1) (fun _ _=>rfl))))
   (pss_one (ps_if (pt_val (Go.pe_ends (pv 0) (pv 2))) (pss_cons (ps_set (i:=3) sc_come_in.nd rfl (Or.inl rfl) (pe_has h_deed_in (hr.mono (by decide)) (by rfl) (pa_cons (pe_slice sl_str (pv 0) po_none (po_some (pe_op op_sub (pe_callB call_len_str (by rfl) B.b_len (by decide +kernel) (pa_cons (pv 0) pa_nil)) (pe_callB call_len_str (by rfl) B.b_len (by decide +kernel) (pa_cons (pv 2) pa_nil))))) pa_nil)))
    (pss_one (ps_if (PW.pt (pw_and (pt_cmpR op_notN1 (pv 3) pe_non (nomark _)) (pw_and1 (pt_cmpR op_eq (pe_ix ix_seq (pv 3) pe_int (fun _ _=>rfl)) pe_str (nomark _))))) (pss_one (ps_ret (pe_tup (pa_cons (pv 3) (pa_cons (pv 1) pa_nil))))) pss_nil))) pss_nil))))
  (pss_one (ps_ret pe_non)))
theorem sc_book_row_in:FnScope N_book_row_in ["text"] (defScope s_book_row_in):=⟨rfl,rfl,rfl,by decide +kernel,rfl,by decide +kernel,by decide +kernel⟩
theorem ok_book_row_in (F:∃fd,FnP K "book_row_in" s_book_row_in (He.ga K "book_row_in") fd) (gm:mg "book_row_in" =some (.ref (He.ga K "book_row_in"))) (B:Bl mg) (h_letter_in:Has P w K mg base "letter_in" 5 ["text"] (cs K fLetterIn)) (h_deed_in:Has P w K mg base "deed_in" 4 ["text"] (cs K fDeedIn)) (h_come_in:Has P w K mg base "come_in" 5 ["text"] (cs K fComeIn)):Has P w K mg base "book_row_in" 6 ["text"] (cs K fBkIn):=by
 obtain⟨fd,F⟩:=F
 refine⟨_,fd,gm,F.kp,FunD.bindsN (ps:= ["text"]) F fun _ _ _ _ _ _ us hl=>match us,hl with | [_],_=>rfl,F.ok sc_book_row_in (fun vs H Q E h=>p_book_row_in_len h) (fun cdv A outer s H vs Q E hr h=>⟨t_book_row_in K,PSs.nox ?_,p_book_row_in h⟩)⟩
 have hu:=hu_of hr
 exact(pss_cons (ps_if (pt_val (Go.pe_starts (pv 0) pe_str)) (pss_one (ps_ret (pe_has h_come_in (hr.mono (by decide)) (by rfl) (pa_cons (pv 0) pa_nil)))) pss_nil)
  (pss_cons (ps_set (i:=1) sc_book_row_in.nd rfl (Or.inl rfl) (pe_split (pv 0) pe_str))
  (pss_cons (ps_set (i:=2) sc_book_row_in.nd rfl (Or.inl rfl) (pe_has h_deed_in (hr.mono (by decide)) (by rfl) (pa_cons (pe_ix ix_list (pv 1) pe_int (fun _ _=>rfl)) pa_nil)))
  (pss_cons (ps_setLc (i:=3) (own:= [("part",4)]) (g:=(gName 4)) (tt:=tYes) (te:=(tCall (cs K fLetterIn) [] E0 (tCons (tVar 4) tNil))) (wi:=(iList K (tSl (rSlL K) (tVar 1) (tPart (tC (.int 1))) tNoPart))) rfl sc_book_row_in.nd rfl rfl (sw_true rfl rfl rfl (by decide +kernel)) (pi_list (pe_slice sl_list (pv 1) (po_some pe_int) po_none)) (blkOk_by (own:= [("part",4)]) (N:=N_book_row_in) (sc:=defScope s_book_row_in) (by decide +kernel)) (fun _ _ _ _ _=>(pg_name (i:=4) sc_book_row_in.nd rfl (Or.inl rfl))) (fun _ _ _ _ _=>pts_nil) (fun _ _ _ _ _=>(pe_has h_letter_in (hr.mono (by decide)) (by rfl) (pa_cons (pv 4) pa_nil))))
  (pss_cons (ps_if (PW.pt (pw_or (pt_cmpR op_isN1 (pv 2) pe_non (nomark _)) (pw_or (pt_cmpR (op_inD (Go.un65 hr)) pe_non (pv 3) (by rfl)) (pw_or1 (PW.pt (pw_and (pt_cmpR (op_neD hr.units) (pv 3) (pe_lst pa_nil) (nomark _)) (pw_and1 (pt_cmpR op_ne (pe_ix ix_seq (pv 2) pe_int (fun _ _=>rfl)) pe_str (nomark _))))))))) (pss_one (ps_ret pe_non)) pss_nil)
  (pss_one (ps_ret (pe_tup (pa_cons (pv 2) (pa_cons (pe_callTy call_tuple_of (by rfl) B.b_tuple (by decide +kernel) (pa_cons (pv 3) pa_nil)) pa_nil))))))))))
theorem sc_book_text:FnScope N_book_text ["book"] (defScope s_book_text):=⟨rfl,rfl,rfl,by decide +kernel,rfl,by decide +kernel,by decide +kernel⟩
theorem ok_book_text (F:∃fd,FnP K "book_text" s_book_text (He.ga K "book_text") fd) (gm:mg "book_text" =some (.ref (He.ga K "book_text"))) (B:Bl mg) (h_book_row_text:Has P w K mg base "book_row_text" 5 ["row"] (cs K fBookRowT)):Has P w K mg base "book_text" 6 ["book"] (cs K fBookT):=by
 obtain⟨fd,F⟩:=F
 refine⟨_,fd,gm,F.kp,FunD.bindsN (ps:= ["book"]) F fun _ _ _ _ _ _ us hl=>match us,hl with | [_],_=>rfl,F.ok sc_book_text (fun vs H Q E h=>p_book_text_len h) (fun cdv A outer s H vs Q E hr h=>⟨t_book_text K,PSs.nox ?_,p_book_text h⟩)⟩
 have hu:=hu_of hr
 exact(pss_one (ps_ret (pe_join pe_str (pe_lc (own:= [("row",1)]) (g:=(gName 1)) (tt:=tYes) (te:=(tCall (cs K fBookRowT) [] E0 (tCons (tVar 1) tNil))) (wi:=(iList K (tVar 0))) rfl sc_book_text.nd (pi_list (pv 0)) (blkOk_by (own:= [("row",1)]) (N:=N_book_text) (sc:=defScope s_book_text) (by decide +kernel)) (fun _ _ _ _ _=>(pg_name (i:=1) sc_book_text.nd rfl (Or.inl rfl))) (fun _ _ _ _ _=>pts_nil) (fun _ _ _ _ _=>(pe_has h_book_row_text (hr.mono (by decide)) (by rfl) (pa_cons (pv 1) pa_nil)))))))
theorem sc_read_book:FnScope N_read_book ["text"] (defScope s_read_book):=⟨rfl,rfl,rfl,by decide +kernel,rfl,by decide +kernel,by decide +kernel⟩
theorem ok_read_book (F:∃fd,FnP K "read_book" s_read_book (He.ga K "read_book") fd) (gm:mg "read_book" =some (.ref (He.ga K "read_book"))) (B:Bl mg) (G:Gs K w mg) (h_book_row_in:Has P w K mg base "book_row_in" 6 ["text"] (cs K fBkIn)):Go.HasX P w K mg base "read_book" 7 ["text"] (csX K (fReadBook K)):=by
 obtain⟨fd,F⟩:=F
 refine⟨_,fd,gm,F.kp,FunD.bindsN (ps:= ["text"]) F fun _ _ _ _ _ _ us hl=>match us,hl with | [_],_=>rfl,F.ok sc_read_book (fun vs H Q E h=>p_read_book_len h) (fun cdv A outer s H vs Q E hr h=>⟨t_read_book K E,?_,p_read_book h⟩)⟩
 have hu:=hu_of hr
 exact(pss_cons (ps_if (pt_not (pt_val (pe_callB call_isi (by rfl) B.b_isinstance (by decide +kernel) (pa_cons (pv 0) (pa_cons (pe_bltn (v:= .ty "str") (by rfl) B.b_str (by decide +kernel) rfl) pa_nil))))) (pss_one (Go.ps_raiseOwn (E:=E) rfl (takes_of rfl rfl rfl rfl) G.tt.x.k_NoText G.g_NoText (by rfl))) pss_nil)
  (pss_cons (ps_if (pt_cmpR op_eq (pv 0) pe_str (nomark _)) (pss_one (ps_ret (pe_lst pa_nil))) pss_nil)
  (pss_cons (ps_setLc (i:=1) (own:= [("row",2)]) (g:=(gName 2)) (tt:=tYes) (te:=(tCall (cs K fBkIn) [] E0 (tCons (tVar 2) tNil))) (wi:=(iList K (tSplit (tVar 0) (tC (.str ("\n" :Str)))))) rfl sc_read_book.nd rfl rfl (sw_true rfl rfl rfl (by decide +kernel)) (pi_list (pe_split (pv 0) pe_str)) (blkOk_by (own:= [("row",2)]) (N:=N_read_book) (sc:=defScope s_read_book) (by decide +kernel)) (fun _ _ _ _ _=>(pg_name (i:=2) sc_read_book.nd rfl (Or.inl rfl))) (fun _ _ _ _ _=>pts_nil) (fun _ _ _ _ _=>(pe_has h_book_row_in (hr.mono (by decide)) (by rfl) (pa_cons (pv 2) pa_nil))))
  (pss_cons (ps_if (pt_cmpR (op_inD (Go.un65 hr)) pe_non (pv 1) (by rfl)) (pss_one (Go.ps_raiseOwn (E:=E) rfl (takes_of rfl rfl rfl rfl) G.tt.x.k_NoText G.g_NoText (by rfl))) pss_nil)
  (pss_one (ps_ret (pv 1)))))))
theorem sc_read_bookL:FnScope N_read_bookL ["text"] (defScope s_read_bookL):=⟨rfl,rfl,rfl,by decide +kernel,rfl,by decide +kernel,by decide +kernel⟩
theorem ok_read_bookL (F:∃fd,FnP K "read_book" s_read_bookL (He.ga K "read_book") fd) (gm:mg "read_book" =some (.ref (He.ga K "read_book"))) (B:Bl mg) (G:Gs K w mg) (h_book_row_in:Has P w K mg base "book_row_in" 6 ["text"] (cs K fBkIn)):Go.HasX P w K mg base "read_book" 7 ["text"] (csX K fReadBookL):=by
 obtain⟨fd,F⟩:=F
 refine⟨_,fd,gm,F.kp,FunD.bindsN (ps:= ["text"]) F fun _ _ _ _ _ _ us hl=>match us,hl with | [_],_=>rfl,F.ok sc_read_bookL (fun vs H Q E h=>p_read_bookL_len h) (fun cdv A outer s H vs Q E hr h=>⟨t_read_bookL K E,?_,p_read_bookL h⟩)⟩
 have hu:=hu_of hr
 exact(pss_cons (ps_if (pt_not (pt_val (pe_callB call_isi (by rfl) B.b_isinstance (by decide +kernel) (pa_cons (pv 0) (pa_cons (pe_bltn (v:= .ty "str") (by rfl) B.b_str (by decide +kernel) rfl) pa_nil))))) (pss_one (Go.ps_raiseOwn (E:=E) rfl (takes_of rfl rfl rfl rfl) G.tt.x.k_NoText G.g_NoText (by rfl))) pss_nil)
  (pss_cons (ps_if (pt_cmpR op_eq (pv 0) pe_str (nomark _)) (pss_one (ps_ret (pe_lst pa_nil))) pss_nil)
  (pss_cons (ps_setLc (i:=1) (own:= [("row",2)]) (g:=(gName 2)) (tt:=tYes) (te:=(tCall (cs K fBkIn) [] E0 (tCons (tVar 2) tNil))) (wi:=(iList K (tSplit (tVar 0) (tC (.str ("\n" :Str)))))) rfl sc_read_bookL.nd rfl rfl (sw_true rfl rfl rfl (by decide +kernel)) (pi_list (pe_split (pv 0) pe_str)) (blkOk_by (own:= [("row",2)]) (N:=N_read_bookL) (sc:=defScope s_read_bookL) (by decide +kernel)) (fun _ _ _ _ _=>(pg_name (i:=2) sc_read_bookL.nd rfl (Or.inl rfl))) (fun _ _ _ _ _=>pts_nil) (fun _ _ _ _ _=>(pe_has h_book_row_in (hr.mono (by decide)) (by rfl) (pa_cons (pv 2) pa_nil))))
  (pss_cons (ps_if (pt_cmpR (op_inD (Go.un65 hr)) pe_non (pv 1) (by rfl)) (pss_one (Go.ps_raiseOwn (E:=E) rfl (takes_of rfl rfl rfl rfl) G.tt.x.k_NoText G.g_NoText (by rfl))) pss_nil)
  (pss_one (ps_ret (pv 1)))))))
theorem sc_m_cell_at:FnScope N_m_cell_at ["_law_script","_law_k"] (defScope s_m_cell_at):=⟨rfl,rfl,rfl,by decide +kernel,rfl,by decide +kernel,by decide +kernel⟩
theorem ok_m_cell_at (F:∃fd,FnP K "_law_cell_at" s_m_cell_at (He.ga K "_law_cell_at") fd) (gm:mg "_law_cell_at" =some (.ref (He.ga K "_law_cell_at"))) (B:Bl mg)  :Has P w K mg base "_law_cell_at" 1 ["_law_script","_law_k"] (cs K fCellAt):=by
 obtain⟨fd,F⟩:=F
 refine⟨_,fd,gm,F.kp,FunD.bindsN (ps:= ["_law_script","_law_k"]) F fun _ _ _ _ _ _ us hl=>match us,hl with | [_,_],_=>rfl,F.ok sc_m_cell_at (fun vs H Q E h=>p_m_cell_at_len h) (fun cdv A outer s H vs Q E hr h=>⟨t_m_cell_at K,PSs.nox ?_,p_m_cell_at h⟩)⟩
 have hu:=hu_of hr
 exact(pss_cons (ps_if (pt_cmpR op_lt (pv 1) (pe_callB call_len_seq (by rfl) B.b_len (by decide +kernel) (pa_cons (pv 0) pa_nil)) (nomark _)) (pss_one (ps_ret (pe_ix ix_list (pv 0) (pv 1) (fun _ _=>rfl)))) pss_nil)
  (pss_one (ps_ret pe_int)))
theorem sc_m_mixed:FnScope N_m_mixed ["_law_cell","_law_k"] (defScope s_m_mixed):=⟨rfl,rfl,rfl,by decide +kernel,rfl,by decide +kernel,by decide +kernel⟩
theorem ok_m_mixed (F:∃fd,FnP K "_law_mixed" s_m_mixed (He.ga K "_law_mixed") fd) (gm:mg "_law_mixed" =some (.ref (He.ga K "_law_mixed"))) (B:Bl mg)  :Has P w K mg base "_law_mixed" 1 ["_law_cell","_law_k"] (cs K fMixW):=by
 obtain⟨fd,F⟩:=F
 refine⟨_,fd,gm,F.kp,FunD.bindsN (ps:= ["_law_cell","_law_k"]) F fun _ _ _ _ _ _ us hl=>match us,hl with | [_,_],_=>rfl,F.ok sc_m_mixed (fun vs H Q E h=>p_m_mixed_len h) (fun cdv A outer s H vs Q E hr h=>⟨t_m_mixed K,PSs.nox ?_,p_m_mixed h⟩)⟩
 have hu:=hu_of hr
 exact(pss_cons (ps_set (i:=2) sc_m_mixed.nd rfl (Or.inl rfl) (pe_op op_mod (pe_op op_mul (pe_op op_add (pe_op op_add (pe_op op_mod (pv 0) pe_int) (pe_op op_mul pe_int (pv 1))) pe_int) pe_int) pe_int))
  (pss_cons (ps_set (i:=2) sc_m_mixed.nd rfl (Or.inl rfl) (pe_op op_mod (pe_op op_mulX (pv 2) (pe_op op_add (pe_op op_fdivW (pv 2) pe_int) pe_int)) pe_int))
  (pss_one (ps_ret (pe_op op_mod (pe_op op_mulX (pv 2) (pe_op op_add (pe_op op_fdivW (pv 2) pe_int) pe_int)) pe_int)))))
theorem sc_m_well:FnScope N_m_well ["_law_cell"] (defScope s_m_well):=⟨rfl,rfl,rfl,by decide +kernel,rfl,by decide +kernel,by decide +kernel⟩
theorem ok_m_well (F:∃fd,FnP K "_law_well" s_m_well (He.ga K "_law_well") fd) (gm:mg "_law_well" =some (.ref (He.ga K "_law_well"))) (B:Bl mg)  :Has P w K mg base "_law_well" 1 ["_law_cell"] (cs K fWell):=by
 obtain⟨fd,F⟩:=F
 refine⟨_,fd,gm,F.kp,FunD.bindsN (ps:= ["_law_cell"]) F fun _ _ _ _ _ _ us hl=>match us,hl with | [_],_=>rfl,F.ok sc_m_well (fun vs H Q E h=>p_m_well_len h) (fun cdv A outer s H vs Q E hr h=>⟨t_m_well K,PSs.nox ?_,p_m_well h⟩)⟩
 have hu:=hu_of hr
 exact(pss_one (ps_ret (pe_lst (pa_cons (pe_ix ix_list (pe_lst (pa_cons pe_int (pa_cons (pv 0) pa_nil))) (pe_callTy call_int1 (by rfl) B.b_int (by decide +kernel) (pa_cons (pe_cmpR op_ge (pv 0) (pe_op op_pow pe_int pe_int) (nomark _)) pa_nil)) (fun _ _=>rfl)) (pa_cons (pv 0) (pa_cons pe_int pa_nil))))))
theorem sc_m_draw:FnScope N_m_draw ["_law_well_here","_law_many"] (defScope s_m_draw):=⟨rfl,rfl,rfl,by decide +kernel,rfl,by decide +kernel,by decide +kernel⟩
theorem ok_m_draw (F:∃fd,FnP K "_law_draw" s_m_draw (He.ga K "_law_draw") fd) (gm:mg "_law_draw" =some (.ref (He.ga K "_law_draw"))) (B:Bl mg) (h_m_mixed:Has P w K mg base "_law_mixed" 1 ["_law_cell","_law_k"] (cs K fMixW)):Has P w K mg base "_law_draw" 2 ["_law_well_here","_law_many"] (cs K fDrawW):=by
 obtain⟨fd,F⟩:=F
 refine⟨_,fd,gm,F.kp,FunD.bindsN (ps:= ["_law_well_here","_law_many"]) F fun _ _ _ _ _ _ us hl=>match us,hl with | [_,_],_=>rfl,F.ok sc_m_draw (fun vs H Q E h=>p_m_draw_len h) (fun cdv A outer s H vs Q E hr h=>⟨t_m_draw K,PSs.nox ?_,p_m_draw h⟩)⟩
 have hu:=hu_of hr
 exact(pss_cons (ps_if (pt_cmpR op_gt (pe_ix ix_list (pv 0) pe_int (fun _ _=>rfl)) pe_int (nomark _)) (pss_cons (ps_set (i:=2) sc_m_draw.nd rfl (Or.inl rfl) (pe_op op_mod (pe_ix ix_list (pv 0) pe_int (fun _ _=>rfl)) (pv 1)))
   (pss_cons (ps_asg (pe_op op_fdivW (pe_ix ix_list (pv 0) pe_int (fun _ _=>rfl)) (pv 1)) (pg_sub (pv 0) pe_int set_list))
   (pss_one (ps_ret (pv 2))))) pss_nil)
  (pss_cons (ps_asg (pe_op op_add (pe_ix ix_list (pv 0) pe_int (fun _ _=>rfl)) pe_int) (pg_sub (pv 0) pe_int set_list))
  (pss_one (ps_ret (pe_op op_mod (pe_has h_m_mixed (hr.mono (by decide)) (by rfl) (pa_cons (pe_ix ix_list (pv 0) pe_int (fun _ _=>rfl)) (pa_cons (pe_ix ix_list (pv 0) pe_int (fun _ _=>rfl)) pa_nil))) (pv 1))))))
theorem sc_m_pick:FnScope N_m_pick ["_law_well_here","_law_some"] (defScope s_m_pick):=⟨rfl,rfl,rfl,by decide +kernel,rfl,by decide +kernel,by decide +kernel⟩
theorem ok_m_pick (F:∃fd,FnP K "_law_pick" s_m_pick (He.ga K "_law_pick") fd) (gm:mg "_law_pick" =some (.ref (He.ga K "_law_pick"))) (B:Bl mg) (h_m_draw:Has P w K mg base "_law_draw" 2 ["_law_well_here","_law_many"] (cs K fDrawW)):Has P w K mg base "_law_pick" 3 ["_law_well_here","_law_some"] (cs K fPickW):=by
 obtain⟨fd,F⟩:=F
 refine⟨_,fd,gm,F.kp,FunD.bindsN (ps:= ["_law_well_here","_law_some"]) F fun _ _ _ _ _ _ us hl=>match us,hl with | [_,_],_=>rfl,F.ok sc_m_pick (fun vs H Q E h=>p_m_pick_len h) (fun cdv A outer s H vs Q E hr h=>⟨t_m_pick K,PSs.nox ?_,p_m_pick h⟩)⟩
 have hu:=hu_of hr
 exact(pss_one (ps_ret (pe_ix ix_list (pv 1) (pe_has h_m_draw (hr.mono (by decide)) (by rfl) (pa_cons (pv 0) (pa_cons (pe_callB call_len_seq (by rfl) B.b_len (by decide +kernel) (pa_cons (pv 1) pa_nil)) pa_nil))) (fun _ _=>rfl))))
theorem sc_m_names:FnScope N_m_names ["_law_well_here","_law_many"] (defScope s_m_names):=⟨rfl,rfl,rfl,by decide +kernel,rfl,by decide +kernel,by decide +kernel⟩
theorem ok_m_names (F:∃fd,FnP K "_law_names" s_m_names (He.ga K "_law_names") fd) (gm:mg "_law_names" =some (.ref (He.ga K "_law_names"))) (B:Bl mg) (h_m_draw:Has P w K mg base "_law_draw" 2 ["_law_well_here","_law_many"] (cs K fDrawW)):Has P w K mg base "_law_names" 3 ["_law_well_here","_law_many"] (cs K fNamesW):=by
 obtain⟨fd,F⟩:=F
 refine⟨_,fd,gm,F.kp,FunD.bindsN (ps:= ["_law_well_here","_law_many"]) F fun _ _ _ _ _ _ us hl=>match us,hl with | [_,_],_=>rfl,F.ok sc_m_names (fun vs H Q E h=>p_m_names_len h) (fun cdv A outer s H vs Q E hr h=>⟨t_m_names K,PSs.nox ?_,p_m_names h⟩)⟩
 have hu:=hu_of hr
 exact(pss_cons (ps_set (i:=2) sc_m_names.nd rfl (Or.inr rfl) pe_str)
  (pss_cons (ps_set (i:=3) sc_m_names.nd rfl (Or.inr rfl) (pe_split pe_str pe_str))
  (pss_cons (ps_set (i:=4) sc_m_names.nd rfl (Or.inr rfl) (pe_has h_m_draw (hr.mono (by decide)) (by rfl) (pa_cons (pv 0) (pa_cons pe_int pa_nil))))
  (pss_cons (ps_set (i:=5) sc_m_names.nd rfl (Or.inl rfl) (pe_has h_m_draw (hr.mono (by decide)) (by rfl) (pa_cons (pv 0) (pa_cons pe_int pa_nil))))
  (pss_cons (ps_if (pt_cmpR op_eq (pv 5) pe_int (nomark _)) (pss_one (ps_ret (pe_lc (own:= [("_law_k",8)]) (g:=(gName 8)) (tt:=tYes) (te:=(tOp (rIxL K) (tVar 3) (tOp rModI (tOp rAddI (tVar 4) (tVar 8)) (tC (.int 13))))) (wi:=(iRng1 (tCons (tVar 1) tNil))) rfl sc_m_names.nd (pi_range1 (by rfl) B.b_range (pa_cons (pv 1) pa_nil)) (blkOk_by (own:= [("_law_k",8)]) (N:=N_m_names) (sc:=defScope s_m_names) (by decide +kernel)) (fun _ _ _ _ _=>(pg_name (i:=8) sc_m_names.nd rfl (Or.inl rfl))) (fun _ _ _ _ _=>pts_nil) (fun _ _ _ _ _=>(pe_ix ix_list (pv 3) (pe_op op_mod (pe_op op_add (pv 4) (pv 8)) pe_int) (fun _ _=>rfl)))))) pss_nil)
  (pss_cons (ps_if (pt_cmpR op_eq (pv 5) pe_int (nomark _)) (pss_one (ps_ret (pe_lc (own:= [("_law_k",8)]) (g:=(gName 8)) (tt:=tYes) (te:=(tOp rRepStr (tOp rIxS (tVar 2) (tVar 4)) (tOp rAddI (tVar 8) (tC (.int 1))))) (wi:=(iRng1 (tCons (tVar 1) tNil))) rfl sc_m_names.nd (pi_range1 (by rfl) B.b_range (pa_cons (pv 1) pa_nil)) (blkOk_by (own:= [("_law_k",8)]) (N:=N_m_names) (sc:=defScope s_m_names) (by decide +kernel)) (fun _ _ _ _ _=>(pg_name (i:=8) sc_m_names.nd rfl (Or.inl rfl))) (fun _ _ _ _ _=>pts_nil) (fun _ _ _ _ _=>(pe_op op_rep_str (pe_ix ix_str (pv 2) (pv 4) (fun _ _=>rfl)) (pe_op op_add (pv 8) pe_int)))))) pss_nil)
  (pss_cons (ps_set (i:=6) sc_m_names.nd rfl (Or.inr rfl) (pe_join pe_str (pe_lc (own:= [("_law_k",8)]) (g:=(gName 8)) (tt:=tYes) (te:=(tOp rIxS (tVar 2) (tCall (cs K fDrawW) [] E0 (tCons (tVar 0) (tCons (tC (.int 26)) tNil))))) (wi:=(iRng1 (tCons (tCall (cs K fDrawW) [] E0 (tCons (tVar 0) (tCons (tC (.int 8)) tNil))) tNil))) rfl sc_m_names.nd (pi_range1 (by rfl) B.b_range (pa_cons (pe_has h_m_draw (hr.mono (by decide)) (by rfl) (pa_cons (pv 0) (pa_cons pe_int pa_nil))) pa_nil)) (blkOk_by (own:= [("_law_k",8)]) (N:=N_m_names) (sc:=defScope s_m_names) (by decide +kernel)) (fun _ _ _ _ _=>(pg_name (i:=8) sc_m_names.nd rfl (Or.inl rfl))) (fun _ _ _ _ _=>pts_nil) (fun _ _ _ _ _=>(pe_ix ix_str (pv 2) (pe_has h_m_draw (hr.mono (by decide)) (by rfl) (pa_cons (pv 0) (pa_cons pe_int pa_nil))) (fun _ _=>rfl))))))
  (pss_cons (ps_set (i:=7) sc_m_names.nd rfl (Or.inr rfl) (pe_has h_m_draw (hr.mono (by decide)) (by rfl) (pa_cons (pv 0) (pa_cons (pe_op op_add (pe_callB call_len_str (by rfl) B.b_len (by decide +kernel) (pa_cons (pv 6) pa_nil)) pe_int) pa_nil))))
  (pss_one (ps_ret (pe_lc (own:= [("_law_k",8)]) (g:=(gName 8)) (tt:=tYes) (te:=(tOp rAddStr (tOp rAddStr (tSl rSlS (tVar 6) tNoPart (tPart (tVar 7))) (tOp rIxS (tVar 2) (tOp rModI (tOp rAddI (tVar 4) (tOp rMulI (tC (.int 3)) (tVar 8))) (tC (.int 26))))) (tSl rSlS (tVar 6) (tPart (tVar 7)) tNoPart))) (wi:=(iRng1 (tCons (tVar 1) tNil))) rfl sc_m_names.nd (pi_range1 (by rfl) B.b_range (pa_cons (pv 1) pa_nil)) (blkOk_by (own:= [("_law_k",8)]) (N:=N_m_names) (sc:=defScope s_m_names) (by decide +kernel)) (fun _ _ _ _ _=>(pg_name (i:=8) sc_m_names.nd rfl (Or.inl rfl))) (fun _ _ _ _ _=>pts_nil) (fun _ _ _ _ _=>(pe_op op_add_str (pe_op op_add_str (pe_slice sl_str (pv 6) po_none (po_some (pv 7))) (pe_ix ix_str (pv 2) (pe_op op_mod (pe_op op_add (pv 4) (pe_op op_mul pe_int (pv 8))) pe_int) (fun _ _=>rfl))) (pe_slice sl_str (pv 6) (po_some (pv 7)) po_none))))))))))))))
theorem sc_m_numbers:FnScope N_m_numbers ["_law_well_here","_law_size"] (defScope s_m_numbers):=⟨rfl,rfl,rfl,by decide +kernel,rfl,by decide +kernel,by decide +kernel⟩
theorem ok_m_numbers (F:∃fd,FnP K "_law_numbers" s_m_numbers (He.ga K "_law_numbers") fd) (gm:mg "_law_numbers" =some (.ref (He.ga K "_law_numbers"))) (B:Bl mg) (h_m_draw:Has P w K mg base "_law_draw" 2 ["_law_well_here","_law_many"] (cs K fDrawW)):Has P w K mg base "_law_numbers" 3 ["_law_well_here","_law_size"] (cs K fNumbersW):=by
 obtain⟨fd,F⟩:=F
 refine⟨_,fd,gm,F.kp,FunD.bindsN (ps:= ["_law_well_here","_law_size"]) F fun _ _ _ _ _ _ us hl=>match us,hl with | [_,_],_=>rfl,F.ok sc_m_numbers (fun vs H Q E h=>p_m_numbers_len h) (fun cdv A outer s H vs Q E hr h=>⟨t_m_numbers K,PSs.nox ?_,p_m_numbers h⟩)⟩
 have hu:=hu_of hr
 exact(pss_cons (ps_set (i:=2) sc_m_numbers.nd rfl (Or.inl rfl) (pe_lst pa_nil))
  (pss_cons (ps_for PassesOwn.never rfl (pi_range1 (by rfl) B.b_range (pa_cons (pv 1) pa_nil)) (pg_name (i:=3) sc_m_numbers.nd rfl (Or.inl rfl)) (pss_cons (ps_set (i:=4) sc_m_numbers.nd rfl (Or.inl rfl) (pe_lst (pa_cons pe_int (pa_cons (pe_op op_sub (pe_has h_m_draw (hr.mono (by decide)) (by rfl) (pa_cons (pv 0) (pa_cons pe_int pa_nil))) pe_int) (pa_cons (pe_op op_pow pe_int pe_int) (pa_cons (pe_op op_sub pe_int (pe_op op_pow pe_int pe_int)) pa_nil))))))
   (pss_cons (ps_set (i:=4) sc_m_numbers.nd rfl (Or.inl rfl) (pe_op op_cat (pv 4) (pe_lst (pa_cons (pe_op op_sub (pe_has h_m_draw (hr.mono (by decide)) (by rfl) (pa_cons (pv 0) (pa_cons (pe_op op_add (pe_op op_mul pe_int (pe_op op_pow pe_int pe_int)) pe_int) pa_nil))) (pe_op op_pow pe_int pe_int)) pa_nil))))
   (pss_one (ps_expr (pe_bm PySem.F.plainAttrs_list PySem.F.slot_list_append PySem.F.type_list_append mt_append (pv 2) (pa_cons (pe_ix ix_list (pv 4) (pe_has h_m_draw (hr.mono (by decide)) (by rfl) (pa_cons (pv 0) (pa_cons pe_int pa_nil))) (fun _ _=>rfl)) pa_nil)))))))
  (pss_one (ps_ret (pe_callTy call_tuple_of (by rfl) B.b_tuple (by decide +kernel) (pa_cons (pv 2) pa_nil))))))
theorem sc_m_stamp:FnScope N_m_stamp ["_law_well_here"] (defScope s_m_stamp):=⟨rfl,rfl,rfl,by decide +kernel,rfl,by decide +kernel,by decide +kernel⟩
theorem ok_m_stamp (F:∃fd,FnP K "_law_stamp" s_m_stamp (He.ga K "_law_stamp") fd) (gm:mg "_law_stamp" =some (.ref (He.ga K "_law_stamp"))) (B:Bl mg) (h_m_draw:Has P w K mg base "_law_draw" 2 ["_law_well_here","_law_many"] (cs K fDrawW)):Has P w K mg base "_law_stamp" 4 ["_law_well_here"] (cs K fStampW):=by
 obtain⟨fd,F⟩:=F
 refine⟨_,fd,gm,F.kp,FunD.bindsN (ps:= ["_law_well_here"]) F fun _ _ _ _ _ _ us hl=>match us,hl with | [_],_=>rfl,F.ok sc_m_stamp (fun vs H Q E h=>p_m_stamp_len h) (fun cdv A outer s H vs Q E hr h=>⟨t_m_stamp K,PSs.nox ?_,p_m_stamp h⟩)⟩
 have hu:=hu_of hr
 exact(pss_one (ps_ret (pe_tup (pa_cons (pe_op op_add pe_int (pe_has h_m_draw (hr.mono (by decide)) (by rfl) (pa_cons (pv 0) (pa_cons (pe_ix ix_list (pe_lst (pa_cons pe_int (pa_cons pe_int pa_nil))) (pe_has h_m_draw (hr.mono (by decide)) (by rfl) (pa_cons (pv 0) (pa_cons pe_int pa_nil))) (fun _ _=>rfl)) pa_nil)))) (pa_cons (pe_has h_m_draw (hr.mono (by decide)) (by rfl) (pa_cons (pv 0) (pa_cons (pe_ix ix_list (pe_lst (pa_cons pe_int (pa_cons pe_int pa_nil))) (pe_has h_m_draw (hr.mono (by decide)) (by rfl) (pa_cons (pv 0) (pa_cons pe_int pa_nil))) (fun _ _=>rfl)) pa_nil))) pa_nil)))))
theorem sc_m_part:FnScope N_m_part ["_law_well_here"] (defScope s_m_part):=⟨rfl,rfl,rfl,by decide +kernel,rfl,by decide +kernel,by decide +kernel⟩
theorem ok_m_part (F:∃fd,FnP K "_law_part" s_m_part (He.ga K "_law_part") fd) (gm:mg "_law_part" =some (.ref (He.ga K "_law_part"))) (B:Bl mg) (h_m_draw:Has P w K mg base "_law_draw" 2 ["_law_well_here","_law_many"] (cs K fDrawW)):Has P w K mg base "_law_part" 4 ["_law_well_here"] (cs K fPartW):=by
 obtain⟨fd,F⟩:=F
 refine⟨_,fd,gm,F.kp,FunD.bindsN (ps:= ["_law_well_here"]) F fun _ _ _ _ _ _ us hl=>match us,hl with | [_],_=>rfl,F.ok sc_m_part (fun vs H Q E h=>p_m_part_len h) (fun cdv A outer s H vs Q E hr h=>⟨t_m_part K,PSs.nox ?_,p_m_part h⟩)⟩
 have hu:=hu_of hr
 exact(pss_cons (ps_set (i:=1) sc_m_part.nd rfl (Or.inl rfl) (pe_lst (pa_cons (pe_op op_sub (pe_has h_m_draw (hr.mono (by decide)) (by rfl) (pa_cons (pv 0) (pa_cons pe_int pa_nil))) pe_int) (pa_cons (pe_has h_m_draw (hr.mono (by decide)) (by rfl) (pa_cons (pv 0) (pa_cons (pe_op op_pow pe_int pe_int) pa_nil))) (pa_cons (pe_op op_sub pe_int (pe_has h_m_draw (hr.mono (by decide)) (by rfl) (pa_cons (pv 0) (pa_cons (pe_op op_pow pe_int pe_int) pa_nil)))) pa_nil)))))
  (pss_cons (ps_set (i:=2) sc_m_part.nd rfl (Or.inl rfl) (pe_ix ix_list (pv 1) (pe_has h_m_draw (hr.mono (by decide)) (by rfl) (pa_cons (pv 0) (pa_cons pe_int pa_nil))) (fun _ _=>rfl)))
  (pss_cons (ps_if (pt_cmpR op_eq (pe_has h_m_draw (hr.mono (by decide)) (by rfl) (pa_cons (pv 0) (pa_cons pe_int pa_nil))) pe_int (nomark _)) (pss_one (ps_ret (pe_tup (pa_cons (pv 2) (pa_cons pe_int pa_nil))))) pss_nil)
  (pss_one (ps_ret (pe_tup (pa_cons (pe_op op_add (pe_op op_mul pe_int (pv 2)) pe_int) (pa_cons (pe_op op_add pe_int (pe_has h_m_draw (hr.mono (by decide)) (by rfl) (pa_cons (pv 0) (pa_cons (pe_ix ix_list (pe_lst (pa_cons pe_int (pa_cons pe_int pa_nil))) (pe_has h_m_draw (hr.mono (by decide)) (by rfl) (pa_cons (pv 0) (pa_cons pe_int pa_nil))) (fun _ _=>rfl)) pa_nil)))) pa_nil))))))))
theorem sc_m_entry:FnScope N_m_entry ["_law_well_here","_law_name","_law_size"] (defScope s_m_entry):=⟨rfl,rfl,rfl,by decide +kernel,rfl,by decide +kernel,by decide +kernel⟩
theorem ok_m_entry (F:∃fd,FnP K "_law_entry" s_m_entry (He.ga K "_law_entry") fd) (gm:mg "_law_entry" =some (.ref (He.ga K "_law_entry"))) (B:Bl mg) (h_m_numbers:Has P w K mg base "_law_numbers" 3 ["_law_well_here","_law_size"] (cs K fNumbersW)) (h_m_stamp:Has P w K mg base "_law_stamp" 4 ["_law_well_here"] (cs K fStampW)) (h_m_names:Has P w K mg base "_law_names" 3 ["_law_well_here","_law_many"] (cs K fNamesW)) (h_m_draw:Has P w K mg base "_law_draw" 2 ["_law_well_here","_law_many"] (cs K fDrawW)):Has P w K mg base "_law_entry" 6 ["_law_well_here","_law_name","_law_size"] (cs K fEntryW):=by
 obtain⟨fd,F⟩:=F
 refine⟨_,fd,gm,F.kp,FunD.bindsN (ps:= ["_law_well_here","_law_name","_law_size"]) F fun _ _ _ _ _ _ us hl=>match us,hl with | [_,_,_],_=>rfl,F.ok sc_m_entry (fun vs H Q E h=>p_m_entry_len h) (fun cdv A outer s H vs Q E hr h=>⟨t_m_entry K,PSs.nox ?_,p_m_entry h⟩)⟩
 have hu:=hu_of hr
 exact(pss_cons (ps_set (i:=3) sc_m_entry.nd rfl (Or.inl rfl) (pe_callTy call_tuple_of (by rfl) B.b_tuple (by decide +kernel) (pa_cons (pe_callB cr_sortedS (by rfl) B.b_sorted (by decide +kernel) (pa_cons (pe_has h_m_names (hr.mono (by decide)) (by rfl) (pa_cons (pv 0) (pa_cons (pe_has h_m_draw (hr.mono (by decide)) (by rfl) (pa_cons (pv 0) (pa_cons pe_int pa_nil))) pa_nil))) pa_nil)) pa_nil)))
  (pss_cons (ps_asg (pe_has h_m_stamp (hr.mono (by decide)) (by rfl) (pa_cons (pv 0) pa_nil)) (pg_tup rfl (pgs_cons (pg_name (i:=4) sc_m_entry.nd rfl (Or.inl rfl)) (pgs_cons (pg_name (i:=5) sc_m_entry.nd rfl (Or.inl rfl)) pgs_nil))))
  (pss_one (ps_ret (pe_tup (pa_cons (pv 1) (pa_cons (pv 4) (pa_cons (pe_op op_add (pv 5) pe_int) (pa_cons (pe_has h_m_numbers (hr.mono (by decide)) (by rfl) (pa_cons (pv 0) (pa_cons (pv 2) pa_nil))) (pa_cons (pv 3) pa_nil))))))))))
theorem sc_m_letter:FnScope N_m_letter ["_law_well_here"] (defScope s_m_letter):=⟨rfl,rfl,rfl,by decide +kernel,rfl,by decide +kernel,by decide +kernel⟩
theorem ok_m_letter (F:∃fd,FnP K "_law_letter" s_m_letter (He.ga K "_law_letter") fd) (gm:mg "_law_letter" =some (.ref (He.ga K "_law_letter"))) (B:Bl mg) (G:Gs K w mg) (h_m_stamp:Has P w K mg base "_law_stamp" 4 ["_law_well_here"] (cs K fStampW)) (h_m_entry:Has P w K mg base "_law_entry" 6 ["_law_well_here","_law_name","_law_size"] (cs K fEntryW)) (h_m_draw:Has P w K mg base "_law_draw" 2 ["_law_well_here","_law_many"] (cs K fDrawW)) (h_m_names:Has P w K mg base "_law_names" 3 ["_law_well_here","_law_many"] (cs K fNamesW)) (h_m_part:Has P w K mg base "_law_part" 4 ["_law_well_here"] (cs K fPartW)):Has P w K mg base "_law_letter" 8 ["_law_well_here"] (cs K fLetterW):=by
 obtain⟨fd,F⟩:=F
 refine⟨_,fd,gm,F.kp,FunD.bindsN (ps:= ["_law_well_here"]) F fun _ _ _ _ _ _ us hl=>match us,hl with | [_],_=>rfl,F.ok sc_m_letter (fun vs H Q E h=>p_m_letter_len h) (fun cdv A outer s H vs Q E hr h=>⟨t_m_letter K,PSs.nox ?_,p_m_letter G.tt.x.dig h⟩)⟩
 have hu:=hu_of hr
 exact(pss_cons (ps_asg (pe_has h_m_names (hr.mono (by decide)) (by rfl) (pa_cons (pv 0) (pa_cons pe_int pa_nil))) (pg_unl rfl (pgs_cons (pg_name (i:=1) sc_m_letter.nd rfl (Or.inl rfl)) (pgs_cons (pg_name (i:=2) sc_m_letter.nd rfl (Or.inl rfl)) pgs_nil))))
  (pss_cons (ps_set (i:=2) sc_m_letter.nd rfl (Or.inl rfl) (pe_ix ix_list (pe_lst (pa_cons (pv 2) (pa_cons (pv 1) pa_nil))) (pe_callTy call_int1 (by rfl) B.b_int (by decide +kernel) (pa_cons (pe_cmpR op_eq (pe_has h_m_draw (hr.mono (by decide)) (by rfl) (pa_cons (pv 0) (pa_cons pe_int pa_nil))) pe_int (nomark _)) pa_nil)) (fun _ _=>rfl)))
  (pss_cons (ps_set (i:=3) sc_m_letter.nd rfl (Or.inl rfl) (pe_callTy call_tuple_of (by rfl) B.b_tuple (by decide +kernel) (pa_cons (pe_lc (own:= [("_law_k",9)]) (g:=(gName 9)) (tt:=tYes) (te:=(tCall (cs K fPartW) [] E0 (tCons (tVar 0) tNil))) (wi:=(iRng1 (tCons (tOp rAddI (tC (.int 2)) (tCall (cs K fDrawW) [] E0 (tCons (tVar 0) (tCons (tC (.int 3)) tNil)))) tNil))) rfl sc_m_letter.nd (pi_range1 (by rfl) B.b_range (pa_cons (pe_op op_add pe_int (pe_has h_m_draw (hr.mono (by decide)) (by rfl) (pa_cons (pv 0) (pa_cons pe_int pa_nil)))) pa_nil)) (blkOk_by (own:= [("_law_k",9)]) (N:=N_m_letter) (sc:=defScope s_m_letter) (by decide +kernel)) (fun _ _ _ _ _=>(pg_name (i:=9) sc_m_letter.nd rfl (Or.inl rfl))) (fun _ _ _ _ _=>pts_nil) (fun _ _ _ _ _=>(pe_has h_m_part (hr.mono (by decide)) (by rfl) (pa_cons (pv 0) pa_nil)))) pa_nil)))
  (pss_cons (ps_set (i:=4) sc_m_letter.nd rfl (Or.inl rfl) (pe_ix ix_list (pe_lst (pa_cons pe_non (pa_cons (pe_has h_m_stamp (hr.mono (by decide)) (by rfl) (pa_cons (pv 0) pa_nil)) pa_nil))) (pe_has h_m_draw (hr.mono (by decide)) (by rfl) (pa_cons (pv 0) (pa_cons pe_int pa_nil))) (fun _ _=>rfl)))
  (pss_cons (ps_set (i:=5) sc_m_letter.nd rfl (Or.inl rfl) (pe_lst (pa_cons pe_int (pa_cons (pe_has h_m_draw (hr.mono (by decide)) (by rfl) (pa_cons (pv 0) (pa_cons pe_int pa_nil))) (pa_cons (pe_has h_m_draw (hr.mono (by decide)) (by rfl) (pa_cons (pv 0) (pa_cons (pe_op op_pow pe_int pe_int) pa_nil))) (pa_cons (pe_op op_add (pe_callTy Go.call_intU (by rfl) B.b_int (by decide +kernel) (pa_cons (pe_op op_add_str pe_str (pe_op op_rep_str pe_str pe_int)) pa_nil)) (pe_has h_m_draw (hr.mono (by decide)) (by rfl) (pa_cons (pv 0) (pa_cons pe_int pa_nil)))) pa_nil))))))
  (pss_cons (ps_set (i:=6) sc_m_letter.nd rfl (Or.inl rfl) (pe_ix ix_list (pv 5) (pe_has h_m_draw (hr.mono (by decide)) (by rfl) (pa_cons (pv 0) (pa_cons pe_int pa_nil))) (fun _ _=>rfl)))
  (pss_cons (ps_set (i:=7) sc_m_letter.nd rfl (Or.inl rfl) (pe_callB cr_sortedS (by rfl) B.b_sorted (by decide +kernel) (pa_cons (pe_has h_m_names (hr.mono (by decide)) (by rfl) (pa_cons (pv 0) (pa_cons (pe_op op_add pe_int (pe_has h_m_draw (hr.mono (by decide)) (by rfl) (pa_cons (pv 0) (pa_cons pe_int pa_nil)))) pa_nil))) pa_nil)))
  (pss_cons (ps_set (i:=8) sc_m_letter.nd rfl (Or.inl rfl) (pe_callTy call_tuple_of (by rfl) B.b_tuple (by decide +kernel) (pa_cons (pe_lc (own:= [("_law_name",10)]) (g:=(gName 10)) (tt:=tYes) (te:=(tCall (cs K fEntryW) [] E0 (tCons (tVar 0) (tCons (tVar 10) (tCons (tOp rAddI (tC (.int 1)) (tCall (cs K fDrawW) [] E0 (tCons (tVar 0) (tCons (tC (.int 3)) tNil)))) tNil))))) (wi:=(iList K (tVar 7))) rfl sc_m_letter.nd (pi_list (pv 7)) (blkOk_by (own:= [("_law_name",10)]) (N:=N_m_letter) (sc:=defScope s_m_letter) (by decide +kernel)) (fun _ _ _ _ _=>(pg_name (i:=10) sc_m_letter.nd rfl (Or.inl rfl))) (fun _ _ _ _ _=>pts_nil) (fun _ _ _ _ _=>(pe_has h_m_entry (hr.mono (by decide)) (by rfl) (pa_cons (pv 0) (pa_cons (pv 10) (pa_cons (pe_op op_add pe_int (pe_has h_m_draw (hr.mono (by decide)) (by rfl) (pa_cons (pv 0) (pa_cons pe_int pa_nil)))) pa_nil)))))) pa_nil)))
  (pss_one (ps_ret (pe_tup (pa_cons (pv 1) (pa_cons (pv 2) (pa_cons (pe_has h_m_stamp (hr.mono (by decide)) (by rfl) (pa_cons (pv 0) pa_nil)) (pa_cons (pv 4) (pa_cons (pv 6) (pa_cons (pv 3) (pa_cons (pv 8) pa_nil))))))))))))))))))
theorem sc_m_any_row:FnScope N_m_any_row ["_law_well_here"] (defScope s_m_any_row):=⟨rfl,rfl,rfl,by decide +kernel,rfl,by decide +kernel,by decide +kernel⟩
theorem ok_m_any_row (F:∃fd,FnP K "_law_any_row" s_m_any_row (He.ga K "_law_any_row") fd) (gm:mg "_law_any_row" =some (.ref (He.ga K "_law_any_row"))) (B:Bl mg) (h_m_pick:Has P w K mg base "_law_pick" 3 ["_law_well_here","_law_some"] (cs K fPickW)) (h_m_numbers:Has P w K mg base "_law_numbers" 3 ["_law_well_here","_law_size"] (cs K fNumbersW)) (h_m_draw:Has P w K mg base "_law_draw" 2 ["_law_well_here","_law_many"] (cs K fDrawW)) (h_m_letter:Has P w K mg base "_law_letter" 8 ["_law_well_here"] (cs K fLetterW)) (h_m_names:Has P w K mg base "_law_names" 3 ["_law_well_here","_law_many"] (cs K fNamesW)):Has P w K mg base "_law_any_row" 10 ["_law_well_here"] (cs K fAnyRowW):=by
 obtain⟨fd,F⟩:=F
 refine⟨_,fd,gm,F.kp,FunD.bindsN (ps:= ["_law_well_here"]) F fun _ _ _ _ _ _ us hl=>match us,hl with | [_],_=>rfl,F.ok sc_m_any_row (fun vs H Q E h=>p_m_any_row_len h) (fun cdv A outer s H vs Q E hr h=>⟨t_m_any_row K,PSs.nox ?_,p_m_any_row h⟩)⟩
 have hu:=hu_of hr
 exact(pss_cons (ps_set (i:=1) sc_m_any_row.nd rfl (Or.inl rfl) (pe_has h_m_draw (hr.mono (by decide)) (by rfl) (pa_cons (pv 0) (pa_cons pe_int pa_nil))))
  (pss_cons (ps_asg (pe_has h_m_names (hr.mono (by decide)) (by rfl) (pa_cons (pv 0) (pa_cons pe_int pa_nil))) (pg_unl rfl (pgs_cons (pg_name (i:=2) sc_m_any_row.nd rfl (Or.inl rfl)) (pgs_cons (pg_name (i:=3) sc_m_any_row.nd rfl (Or.inl rfl)) pgs_nil))))
  (pss_cons (ps_if (pt_cmpR op_lt (pv 1) pe_int (nomark _)) (pss_one (ps_ret (pe_tup (pa_cons (pe_tup (pa_cons pe_str (pa_cons (pv 2) pa_nil))) (pa_cons (pe_callTy call_tuple_of (by rfl) B.b_tuple (by decide +kernel) (pa_cons (pe_lc (own:= [("_law_k",4)]) (g:=(gName 4)) (tt:=tYes) (te:=(tCall (cs K fLetterW) [] E0 (tCons (tVar 0) tNil))) (wi:=(iRng1 (tCons (tCall (cs K fDrawW) [] E0 (tCons (tVar 0) (tCons (tC (.int 4)) tNil))) tNil))) rfl sc_m_any_row.nd (pi_range1 (by rfl) B.b_range (pa_cons (pe_has h_m_draw (hr.mono (by decide)) (by rfl) (pa_cons (pv 0) (pa_cons pe_int pa_nil))) pa_nil)) (blkOk_by (own:= [("_law_k",4)]) (N:=N_m_any_row) (sc:=defScope s_m_any_row) (by decide +kernel)) (fun _ _ _ _ _=>(pg_name (i:=4) sc_m_any_row.nd rfl (Or.inl rfl))) (fun _ _ _ _ _=>pts_nil) (fun _ _ _ _ _=>(pe_has h_m_letter (hr.mono (by decide)) (by rfl) (pa_cons (pv 0) pa_nil)))) pa_nil)) pa_nil))))) pss_nil)
  (pss_cons (ps_if (pt_cmpR op_lt (pv 1) pe_int (nomark _)) (pss_cons (ps_set (i:=4) sc_m_any_row.nd rfl (Or.inl rfl) (pe_ix ix_list (pe_lst (pa_cons (pe_has h_m_draw (hr.mono (by decide)) (by rfl) (pa_cons (pv 0) (pa_cons pe_int pa_nil))) (pa_cons (pe_has h_m_draw (hr.mono (by decide)) (by rfl) (pa_cons (pv 0) (pa_cons (pe_op op_pow pe_int pe_int) pa_nil))) pa_nil))) (pe_has h_m_draw (hr.mono (by decide)) (by rfl) (pa_cons (pv 0) (pa_cons pe_int pa_nil))) (fun _ _=>rfl)))
   (pss_one (ps_ret (pe_tup (pa_cons (pe_tup (pa_cons pe_str (pa_cons (pv 4) pa_nil))) (pa_cons (pe_has h_m_pick (hr.mono (by decide)) (by rfl) (pa_cons (pv 0) (pa_cons (pe_lst (pa_cons pe_str (pa_cons pe_str (pa_cons pe_str pa_nil)))) pa_nil))) pa_nil)))))) pss_nil)
  (pss_cons (ps_if (pt_cmpR op_eq (pv 1) pe_int (nomark _)) (pss_one (ps_ret (pe_tup (pa_cons (pe_tup (pa_cons (pe_has h_m_pick (hr.mono (by decide)) (by rfl) (pa_cons (pv 0) (pa_cons (pe_lst (pa_cons pe_str (pa_cons pe_str pa_nil))) pa_nil))) (pa_cons (pv 2) (pa_cons (pe_has h_m_numbers (hr.mono (by decide)) (by rfl) (pa_cons (pv 0) (pa_cons (pe_op op_add pe_int (pe_has h_m_draw (hr.mono (by decide)) (by rfl) (pa_cons (pv 0) (pa_cons pe_int pa_nil)))) pa_nil))) pa_nil)))) (pa_cons (pe_tup pa_nil) pa_nil))))) pss_nil)
  (pss_cons (ps_if (pt_cmpR op_eq (pv 1) pe_int (nomark _)) (pss_one (ps_ret (pe_tup (pa_cons (pe_tup (pa_cons (pe_has h_m_pick (hr.mono (by decide)) (by rfl) (pa_cons (pv 0) (pa_cons (pe_lst (pa_cons pe_str (pa_cons pe_str pa_nil))) pa_nil))) (pa_cons (pv 2) (pa_cons (pv 3) pa_nil)))) (pa_cons (pe_tup pa_nil) pa_nil))))) pss_nil)
  (pss_one (ps_ret (pe_tup (pa_cons (pe_tup (pa_cons (pe_has h_m_pick (hr.mono (by decide)) (by rfl) (pa_cons (pv 0) (pa_cons (pe_lst (pa_cons pe_str (pa_cons pe_str (pa_cons pe_str (pa_cons pe_str pa_nil))))) pa_nil))) (pa_cons (pv 2) pa_nil))) (pa_cons (pe_tup pa_nil) pa_nil)))))))))))
theorem sc_m_stamp_text:FnScope N_m_stamp_textK ["_law_stamp_here"] (defScope s_m_stamp_text):=⟨rfl,rfl,rfl,by decide +kernel,rfl,by decide +kernel,by decide +kernel⟩
theorem ok_m_stamp_text (F:∃fd,FnP K "_law_stamp_text" s_m_stamp_text (He.ga K "_law_stamp_text") fd) (gm:mg "_law_stamp_text" =some (.ref (He.ga K "_law_stamp_text"))) (B:Bl mg) (G:Gs K w mg)  :Has P w K mg base "_law_stamp_text" 1 ["_law_stamp_here"] (cs K fStampT):=by
 obtain⟨fd,F⟩:=F
 refine⟨_,fd,gm,F.kp,FunD.bindsN (ps:= ["_law_stamp_here"]) F fun _ _ _ _ _ _ us hl=>match us,hl with | [_],_=>rfl,F.ok sc_m_stamp_text (fun vs H Q E h=>p_m_stamp_textK_len h) (fun cdv A outer s H vs Q E hr h=>⟨t_m_stamp_textK K,PSs.nox ?_,p_m_stamp_textK G.tt.x.dig h⟩)⟩
 have hu:=hu_of hr
 exact(pss_cons (ps_if (pt_cmpR op_isN1 (pv 0) pe_non (nomark _)) (pss_one (ps_ret pe_str)) pss_nil)
  (pss_one (ps_ret (Go.pe_fs (PJ.cons (Go.pe_fmtU (pe_ix ix_tup (pv 0) pe_int (fun _ _=>rfl))) (PJ.cons pe_str (PJ.cons (Go.pe_fmtU (pe_ix ix_tup (pv 0) pe_int (fun _ _=>rfl))) PJ.nil)))))))
theorem sc_m_row_text:FnScope N_m_row_text ["_law_row"] (defScope s_m_row_text):=⟨rfl,rfl,rfl,by decide +kernel,rfl,by decide +kernel,by decide +kernel⟩
theorem ok_m_row_text (F:∃fd,FnP K "_law_row_text" s_m_row_text (He.ga K "_law_row_text") fd) (gm:mg "_law_row_text" =some (.ref (He.ga K "_law_row_text"))) (B:Bl mg) (G:Gs K w mg)  :Has P w K mg base "_law_row_text" 1 ["_law_row"] (cs K fRowT):=by
 obtain⟨fd,F⟩:=F
 refine⟨_,fd,gm,F.kp,FunD.bindsN (ps:= ["_law_row"]) F fun _ _ _ _ _ _ us hl=>match us,hl with | [_],_=>rfl,F.ok sc_m_row_text (fun vs H Q E h=>p_m_row_text_len h) (fun cdv A outer s H vs Q E hr h=>⟨t_m_row_text K,PSs.nox ?_,p_m_row_text G.tt.x.dig h⟩)⟩
 have hu:=hu_of hr
 exact(pss_one (ps_ret (pe_join pe_str (pe_lc (own:= [("_law_num",1),("_law_e",2)]) (g:=(gTup K 2 (gCons (gName 1) (gCons (gName 2) gNil)))) (tt:=tYes) (te:=(Go.tFS ((Go.tFmtU K (tVar 1)) :: ((tC (.str (">>" :Str))) :: ((Go.tFmtU K (tVar 2)) :: []))))) (wi:=(iTup K (tVar 0))) rfl sc_m_row_text.nd (pi_tup (pv 0)) (blkOk_by (own:= [("_law_num",1),("_law_e",2)]) (N:=N_m_row_text) (sc:=defScope s_m_row_text) (by decide +kernel)) (fun _ _ _ _ _=>(pg_tup rfl (pgs_cons (pg_name (i:=1) sc_m_row_text.nd rfl (Or.inl rfl)) (pgs_cons (pg_name (i:=2) sc_m_row_text.nd rfl (Or.inl rfl)) pgs_nil)))) (fun _ _ _ _ _=>pts_nil) (fun _ _ _ _ _=>(Go.pe_fs (PJ.cons (Go.pe_fmtU (pv 1)) (PJ.cons pe_str (PJ.cons (Go.pe_fmtU (pv 2)) PJ.nil)))))))))
theorem sc_m_entry_text:FnScope N_m_entry_textK ["_law_entry_here"] (defScope s_m_entry_text):=⟨rfl,rfl,rfl,by decide +kernel,rfl,by decide +kernel,by decide +kernel⟩
theorem ok_m_entry_text (F:∃fd,FnP K "_law_entry_text" s_m_entry_text (He.ga K "_law_entry_text") fd) (gm:mg "_law_entry_text" =some (.ref (He.ga K "_law_entry_text"))) (B:Bl mg) (G:Gs K w mg)  :Has P w K mg base "_law_entry_text" 1 ["_law_entry_here"] (cs K fEntryT):=by
 obtain⟨fd,F⟩:=F
 refine⟨_,fd,gm,F.kp,FunD.bindsN (ps:= ["_law_entry_here"]) F fun _ _ _ _ _ _ us hl=>match us,hl with | [_],_=>rfl,F.ok sc_m_entry_text (fun vs H Q E h=>p_m_entry_textK_len h) (fun cdv A outer s H vs Q E hr h=>⟨t_m_entry_textK K,PSs.nox ?_,p_m_entry_textK G.tt.x.dig h⟩)⟩
 have hu:=hu_of hr
 exact(pss_cons (ps_asg (pv 0) (pg_tup rfl (pgs_cons (pg_name (i:=1) sc_m_entry_text.nd rfl (Or.inl rfl)) (pgs_cons (pg_name (i:=2) sc_m_entry_text.nd rfl (Or.inl rfl)) (pgs_cons (pg_name (i:=3) sc_m_entry_text.nd rfl (Or.inl rfl)) (pgs_cons (pg_name (i:=4) sc_m_entry_text.nd rfl (Or.inl rfl)) (pgs_cons (pg_name (i:=5) sc_m_entry_text.nd rfl (Or.inl rfl)) pgs_nil)))))))
  (pss_cons (ps_set (i:=6) sc_m_entry_text.nd rfl (Or.inl rfl) (pe_ix ix_list (pe_lst (pa_cons pe_str (pa_cons (pe_join pe_str (pv 5)) pa_nil))) (pe_callTy call_int1 (by rfl) B.b_int (by decide +kernel) (pa_cons (pe_cmpR (op_neD hr.units) (pv 5) (pe_tup pa_nil) (nomark _)) pa_nil)) (fun _ _=>rfl)))
  (pss_one (ps_ret (pe_op op_add_str (pe_op op_add_str (pe_op op_add_str (Go.pe_fs (PJ.cons (Go.pe_fmtU (pv 1)) (PJ.cons pe_str (PJ.cons (Go.pe_fmtU (pv 2)) (PJ.cons pe_str (PJ.cons (Go.pe_fmtU (pv 3)) (PJ.cons pe_str PJ.nil))))))) (pe_join pe_str (pe_lc (own:= [("_law_number",7)]) (g:=(gName 7)) (tt:=tYes) (te:=(tCB (Go.rStrU K) (tCons (tVar 7) tNil))) (wi:=(iTup K (tVar 4))) rfl sc_m_entry_text.nd (pi_tup (pv 4)) (blkOk_by (own:= [("_law_number",7)]) (N:=N_m_entry_textK) (sc:=defScope s_m_entry_text) (by decide +kernel)) (fun _ _ _ _ _=>(pg_name (i:=7) sc_m_entry_text.nd rfl (Or.inl rfl))) (fun _ _ _ _ _=>pts_nil) (fun _ _ _ _ _=>(pe_callTy Go.call_strU (by rfl) B.b_str (by decide +kernel) (pa_cons (pv 7) pa_nil)))))) pe_str) (pv 6))))))
theorem sc_m_letter_text:FnScope N_m_letter_textK ["_law_letter_here"] (defScope s_m_letter_text):=⟨rfl,rfl,rfl,by decide +kernel,rfl,by decide +kernel,by decide +kernel⟩
theorem ok_m_letter_text (F:∃fd,FnP K "_law_letter_text" s_m_letter_text (He.ga K "_law_letter_text") fd) (gm:mg "_law_letter_text" =some (.ref (He.ga K "_law_letter_text"))) (B:Bl mg) (G:Gs K w mg) (h_m_entry_text:Has P w K mg base "_law_entry_text" 1 ["_law_entry_here"] (cs K fEntryT)) (h_m_row_text:Has P w K mg base "_law_row_text" 1 ["_law_row"] (cs K fRowT)) (h_m_stamp_text:Has P w K mg base "_law_stamp_text" 1 ["_law_stamp_here"] (cs K fStampT)):Has P w K mg base "_law_letter_text" 2 ["_law_letter_here"] (cs K fLetterT):=by
 obtain⟨fd,F⟩:=F
 refine⟨_,fd,gm,F.kp,FunD.bindsN (ps:= ["_law_letter_here"]) F fun _ _ _ _ _ _ us hl=>match us,hl with | [_],_=>rfl,F.ok sc_m_letter_text (fun vs H Q E h=>p_m_letter_textK_len h) (fun cdv A outer s H vs Q E hr h=>⟨t_m_letter_textK K,PSs.nox ?_,p_m_letter_textK G.tt.x.dig h⟩)⟩
 have hu:=hu_of hr
 exact(pss_cons (ps_asg (pv 0) (pg_tup rfl (pgs_cons (pg_name (i:=1) sc_m_letter_text.nd rfl (Or.inl rfl)) (pgs_cons (pg_name (i:=2) sc_m_letter_text.nd rfl (Or.inl rfl)) (pgs_cons (pg_name (i:=3) sc_m_letter_text.nd rfl (Or.inl rfl)) (pgs_cons (pg_name (i:=4) sc_m_letter_text.nd rfl (Or.inl rfl)) (pgs_cons (pg_name (i:=5) sc_m_letter_text.nd rfl (Or.inl rfl)) (pgs_cons (pg_name (i:=6) sc_m_letter_text.nd rfl (Or.inl rfl)) (pgs_cons (pg_name (i:=7) sc_m_letter_text.nd rfl (Or.inl rfl)) pgs_nil)))))))))
  (pss_cons (ps_set (i:=8) sc_m_letter_text.nd rfl (Or.inl rfl) (pe_lst (pa_cons (pv 1) (pa_cons (pv 2) (pa_cons (pe_has h_m_stamp_text (hr.mono (by decide)) (by rfl) (pa_cons (pv 3) pa_nil)) (pa_cons (pe_has h_m_stamp_text (hr.mono (by decide)) (by rfl) (pa_cons (pv 4) pa_nil)) (pa_cons (pe_callTy Go.call_strU (by rfl) B.b_str (by decide +kernel) (pa_cons (pv 5) pa_nil)) (pa_cons (pe_has h_m_row_text (hr.mono (by decide)) (by rfl) (pa_cons (pv 6) pa_nil)) pa_nil))))))))
  (pss_one (ps_ret (pe_join pe_str (pe_op op_cat (pv 8) (pe_lc (own:= [("_law_entry_here",9)]) (g:=(gName 9)) (tt:=tYes) (te:=(tCall (cs K fEntryT) [] E0 (tCons (tVar 9) tNil))) (wi:=(iTup K (tVar 7))) rfl sc_m_letter_text.nd (pi_tup (pv 7)) (blkOk_by (own:= [("_law_entry_here",9)]) (N:=N_m_letter_textK) (sc:=defScope s_m_letter_text) (by decide +kernel)) (fun _ _ _ _ _=>(pg_name (i:=9) sc_m_letter_text.nd rfl (Or.inl rfl))) (fun _ _ _ _ _=>pts_nil) (fun _ _ _ _ _=>(pe_has h_m_entry_text (hr.mono (by decide)) (by rfl) (pa_cons (pv 9) pa_nil))))))))))
theorem sc_m_deed_text:FnScope N_m_deed_textK ["_law_deed"] (defScope s_m_deed_text):=⟨rfl,rfl,rfl,by decide +kernel,rfl,by decide +kernel,by decide +kernel⟩
theorem ok_m_deed_text (F:∃fd,FnP K "_law_deed_text" s_m_deed_text (He.ga K "_law_deed_text") fd) (gm:mg "_law_deed_text" =some (.ref (He.ga K "_law_deed_text"))) (B:Bl mg) (G:Gs K w mg)  :Has P w K mg base "_law_deed_text" 1 ["_law_deed"] (cs K fDeedT):=by
 obtain⟨fd,F⟩:=F
 refine⟨_,fd,gm,F.kp,FunD.bindsN (ps:= ["_law_deed"]) F fun _ _ _ _ _ _ us hl=>match us,hl with | [_],_=>rfl,F.ok sc_m_deed_text (fun vs H Q E h=>p_m_deed_textK_len h) (fun cdv A outer s H vs Q E hr h=>⟨t_m_deed_textK K,PSs.nox ?_,p_m_deed_textK G.tt.x.dig h⟩)⟩
 have hu:=hu_of hr
 exact(pss_cons (ps_if (pt_cmpR op_in_seq (pe_ix ix_tup (pv 0) pe_int (fun _ _=>rfl)) (pe_tup (pa_cons pe_str (pa_cons pe_str pa_nil))) (by rfl)) (pss_one (ps_ret (pe_join pe_str (pe_op op_cat (pe_callTy call_list_of (by rfl) B.b_list (by decide +kernel) (pa_cons (pe_slice sl_tupA (pv 0) po_none (po_some pe_int)) pa_nil)) (pe_lc (own:= [("_law_number",2)]) (g:=(gName 2)) (tt:=tYes) (te:=(tCB (Go.rStrU K) (tCons (tVar 2) tNil))) (wi:=(iTup K (tOp (rIxT K) (tVar 0) (tC (.int 2))))) rfl sc_m_deed_text.nd (pi_tup (pe_ix ix_tup (pv 0) pe_int (fun _ _=>rfl))) (blkOk_by (own:= [("_law_number",2)]) (N:=N_m_deed_textK) (sc:=defScope s_m_deed_text) (by decide +kernel)) (fun _ _ _ _ _=>(pg_name (i:=2) sc_m_deed_text.nd rfl (Or.inl rfl))) (fun _ _ _ _ _=>pts_nil) (fun _ _ _ _ _=>(pe_callTy Go.call_strU (by rfl) B.b_str (by decide +kernel) (pa_cons (pv 2) pa_nil)))))))) pss_nil)
  (pss_one (ps_ret (pe_join pe_str (pe_lc (own:= [("_law_one",1)]) (g:=(gName 1)) (tt:=tYes) (te:=(tCB (Go.rStrU K) (tCons (tVar 1) tNil))) (wi:=(iTup K (tVar 0))) rfl sc_m_deed_text.nd (pi_tup (pv 0)) (blkOk_by (own:= [("_law_one",1)]) (N:=N_m_deed_textK) (sc:=defScope s_m_deed_text) (by decide +kernel)) (fun _ _ _ _ _=>(pg_name (i:=1) sc_m_deed_text.nd rfl (Or.inl rfl))) (fun _ _ _ _ _=>pts_nil) (fun _ _ _ _ _=>(pe_callTy Go.call_strU (by rfl) B.b_str (by decide +kernel) (pa_cons (pv 1) pa_nil))))))))
theorem sc_m_row_of_book:FnScope N_m_row_of_bookK ["_law_row"] (defScope s_m_row_of_book):=⟨rfl,rfl,rfl,by decide +kernel,rfl,by decide +kernel,by decide +kernel⟩
theorem ok_m_row_of_book (F:∃fd,FnP K "_law_row_of_book" s_m_row_of_book (He.ga K "_law_row_of_book") fd) (gm:mg "_law_row_of_book" =some (.ref (He.ga K "_law_row_of_book"))) (B:Bl mg) (h_m_deed_text:Has P w K mg base "_law_deed_text" 1 ["_law_deed"] (cs K fDeedT)) (h_m_letter_text:Has P w K mg base "_law_letter_text" 2 ["_law_letter_here"] (cs K fLetterT)):Has P w K mg base "_law_row_of_book" 3 ["_law_row"] (cs K fBookRowT):=by
 obtain⟨fd,F⟩:=F
 refine⟨_,fd,gm,F.kp,FunD.bindsN (ps:= ["_law_row"]) F fun _ _ _ _ _ _ us hl=>match us,hl with | [_],_=>rfl,F.ok sc_m_row_of_book (fun vs H Q E h=>p_m_row_of_bookK_len h) (fun cdv A outer s H vs Q E hr h=>⟨t_m_row_of_bookK K,PSs.nox ?_,p_m_row_of_bookK h⟩)⟩
 have hu:=hu_of hr
 exact(pss_cons (ps_asg (pv 0) (pg_tup rfl (pgs_cons (pg_name (i:=1) sc_m_row_of_book.nd rfl (Or.inl rfl)) (pgs_cons (pg_name (i:=2) sc_m_row_of_book.nd rfl (Or.inl rfl)) pgs_nil))))
  (pss_cons (ps_if (pt_cmpR op_eq (pe_ix ix_tup (pv 1) pe_int (fun _ _=>rfl)) pe_str (nomark _)) (pss_one (ps_ret (pe_op op_add_str (pe_op op_add_str (pe_has h_m_deed_text (hr.mono (by decide)) (by rfl) (pa_cons (pv 1) pa_nil)) pe_str) (pe_dget hu (pe_disp (pps_cons pe_str pe_str (pps_cons pe_str pe_str (pps_cons pe_str pe_str pps_nil))) (by rfl) (by rfl) (fun z=>by cases z) (by decide)) (pv 2) (fun _ _=>rfl))))) pss_nil)
  (pss_cons (ps_if (pt_cmpR op_eq (pe_ix ix_tup (pv 1) pe_int (fun _ _=>rfl)) pe_str (nomark _)) (pss_one (ps_ret (pe_join pe_str (pe_op op_cat (pe_lst (pa_cons (pe_has h_m_deed_text (hr.mono (by decide)) (by rfl) (pa_cons (pv 1) pa_nil)) pa_nil)) (pe_lc (own:= [("_law_letter_here",3)]) (g:=(gName 3)) (tt:=tYes) (te:=(tCall (cs K fLetterT) [] E0 (tCons (tVar 3) tNil))) (wi:=(iTup K (tVar 2))) rfl sc_m_row_of_book.nd (pi_tup (pv 2)) (blkOk_by (own:= [("_law_letter_here",3)]) (N:=N_m_row_of_bookK) (sc:=defScope s_m_row_of_book) (by decide +kernel)) (fun _ _ _ _ _=>(pg_name (i:=3) sc_m_row_of_book.nd rfl (Or.inl rfl))) (fun _ _ _ _ _=>pts_nil) (fun _ _ _ _ _=>(pe_has h_m_letter_text (hr.mono (by decide)) (by rfl) (pa_cons (pv 3) pa_nil)))))))) pss_nil)
  (pss_one (ps_ret (pe_has h_m_deed_text (hr.mono (by decide)) (by rfl) (pa_cons (pv 1) pa_nil)))))))
theorem sc_m_plain:FnScope N_m_plain ["_law_thing"] (defScope s_m_plain):=⟨rfl,rfl,rfl,by decide +kernel,rfl,by decide +kernel,by decide +kernel⟩
theorem ok_m_plain0 (F:∃fd,FnP K "_law_plain" s_m_plain (He.ga K "_law_plain") fd) (gm:mg "_law_plain" =some (.ref (He.ga K "_law_plain"))) (B:Bl mg):Has P w K mg base "_law_plain" 2 ["_law_thing"] (cs K (fPlain81 0)):=by
 obtain⟨fd,F⟩:=F
 exact⟨_,fd,gm,F.kp,FunD.bindsN (ps:= ["_law_thing"]) F fun _ _ _ _ _ _ us hl=>match us,hl with | [_],_=>rfl,F.ok sc_m_plain (fun vs H Q E h=>(p_m_plain0 h).elim) (fun cdv A outer s H vs Q E hr h=>(p_m_plain0 h).elim)⟩
theorem ok_m_plain (F:∃fd,FnP K "_law_plain" s_m_plain (He.ga K "_law_plain") fd) (gm:mg "_law_plain" =some (.ref (He.ga K "_law_plain"))) (B:Bl mg)  {k n:Nat} (h_rec:Has P w K mg base "_law_plain" (k+2) ["_law_thing"] (cs K (fPlain81 n))):Has P w K mg base "_law_plain" (k+3) ["_law_thing"] (cs K (fPlain81 (n+1))):=by
 obtain⟨fd,F⟩:=F
 refine⟨_,fd,gm,F.kp,FunD.bindsN (ps:= ["_law_thing"]) F fun _ _ _ _ _ _ us hl=>match us,hl with | [_],_=>rfl,F.ok sc_m_plain (fun vs H Q E h=>p_m_plain_len h) (fun cdv A outer s H vs Q E hr h=>⟨t_m_plain K n,PSs.nox ?_,p_m_plain h⟩)⟩
 have hu:=hu_of hr
 exact(pss_cons (ps_if (pt_val (pe_callB call_isi (by rfl) B.b_isinstance (by decide +kernel) (pa_cons (pv 0) (pa_cons (pe_bltn (v:= .ty "tuple") (by rfl) B.b_tuple (by decide +kernel) rfl) pa_nil)))) (pss_one (ps_ret (pe_cmpR op_notIn_seq pe_bl (pe_lc (own:= [("_law_one",1)]) (g:=(gName 1)) (tt:=tYes) (te:=(tCall (cs K (fPlain81 n)) [] E0 (tCons (tVar 1) tNil))) (wi:=(iTup K (tVar 0))) rfl sc_m_plain.nd (pi_tup (pv 0)) (blkOk_by (own:= [("_law_one",1)]) (N:=N_m_plain) (sc:=defScope s_m_plain) (by decide +kernel)) (fun _ _ _ _ _=>(pg_name (i:=1) sc_m_plain.nd rfl (Or.inl rfl))) (fun _ _ _ _ _=>pts_nil) (fun _ _ _ _ _=>(pe_has h_rec (hr.mono (by omega)) (by rfl) (pa_cons (pv 1) pa_nil)))) (by rfl)))) pss_nil)
  (pss_one (ps_ret (pe_or (pe_cmpR op_isN1 (pv 0) pe_non (nomark _)) (pe_or (pe_callB call_isi (by rfl) B.b_isinstance (by decide +kernel) (pa_cons (pv 0) (pa_cons (pe_bltn (v:= .ty "str") (by rfl) B.b_str (by decide +kernel) rfl) pa_nil))) (pe_one (pe_and (pe_callB call_isi (by rfl) B.b_isinstance (by decide +kernel) (pa_cons (pv 0) (pa_cons (pe_bltn (v:= .ty "int") (by rfl) B.b_int (by decide +kernel) rfl) pa_nil))) (pe_one (pe_not (pe_callB call_isi (by rfl) B.b_isinstance (by decide +kernel) (pa_cons (pv 0) (pa_cons (pe_bltn (v:= .ty "bool") (by rfl) B.b_bool (by decide +kernel) rfl) pa_nil))))))))))))
theorem sc_law:FnScope N_law ["_law_script"] (defScope s_law):=⟨rfl,rfl,rfl,by decide +kernel,rfl,by decide +kernel,by decide +kernel⟩
theorem ok_law {f:Addr} {fd:FuncData} (F:FnP K "law" s_law f fd) (B:Bl mg) (h_read_book:Go.HasX P w K mg base "read_book" 7 ["text"] (csX K (fReadBook K))) (h_book_text:Has P w K mg base "book_text" 6 ["book"] (cs K fBookT)) (h_m_plain:Has P w K mg base "_law_plain" 11 ["_law_thing"] (cs K (fPlain81 9))) (h_read_bookL:Go.HasX P w K mg base "read_book" 7 ["text"] (csX K fReadBookL)) (h_m_row_of_book:Has P w K mg base "_law_row_of_book" 3 ["_law_row"] (cs K fBookRowT)) (h_m_cell_at:Has P w K mg base "_law_cell_at" 1 ["_law_script","_law_k"] (cs K fCellAt)) (h_m_any_row:Has P w K mg base "_law_any_row" 10 ["_law_well_here"] (cs K fAnyRowW)) (h_m_well:Has P w K mg base "_law_well" 1 ["_law_cell"] (cs K fWell)):FnOk P w K mg base CX0 16 f fd ["_law_script"] (spLaw K):=by
 refine F.ok sc_law (fun vs H Q E h=>p_law_len h) (fun cdv A outer s H vs Q E hr h=>⟨t_law K,PSs.nox ?_,p_law h⟩)
 have hu:=hu_of hr
 exact(pss_cons (ps_setLc (i:=1) (own:= [("_law_cell",5)]) (g:=(gName 5)) (tt:=tYes) (te:=(tCall (cs K fAnyRowW) [] E0 (tCons (tCall (cs K fWell) [] E0 (tCons (tVar 5) tNil)) tNil))) (wi:=(iList K (tOp rCat (tLst (tCons (tCall (cs K fCellAt) [] E0 (tCons (tVar 0) (tCons (tC (.int 0)) tNil))) tNil)) (tSl (rSlL K) (tVar 0) (tPart (tC (.int 1))) (tPart (tC (.int 24))))))) rfl sc_law.nd rfl rfl (sw_true rfl rfl rfl (by decide +kernel)) (pi_list (pe_op op_cat (pe_lst (pa_cons (pe_has h_m_cell_at (hr.mono (by decide)) (by rfl) (pa_cons (pv 0) (pa_cons pe_int pa_nil))) pa_nil)) (pe_slice sl_list (pv 0) (po_some pe_int) (po_some pe_int)))) (blkOk_by (own:= [("_law_cell",5)]) (N:=N_law) (sc:=defScope s_law) (by decide +kernel)) (fun _ _ _ _ _=>(pg_name (i:=5) sc_law.nd rfl (Or.inl rfl))) (fun _ _ _ _ _=>pts_nil) (fun _ _ _ _ _=>(pe_has h_m_any_row (hr.mono (by decide)) (by rfl) (pa_cons (pe_has h_m_well (hr.mono (by decide)) (by rfl) (pa_cons (pv 5) pa_nil)) pa_nil))))
  (pss_cons (ps_set (i:=2) sc_law.nd rfl (Or.inl rfl) (pe_join pe_str (pe_lc (own:= [("_law_row",6)]) (g:=(gName 6)) (tt:=tYes) (te:=(tCall (cs K fBookRowT) [] E0 (tCons (tVar 6) tNil))) (wi:=(iList K (tVar 1))) rfl sc_law.nd (pi_list (pv 1)) (blkOk_by (own:= [("_law_row",6)]) (N:=N_law) (sc:=defScope s_law) (by decide +kernel)) (fun _ _ _ _ _=>(pg_name (i:=6) sc_law.nd rfl (Or.inl rfl))) (fun _ _ _ _ _=>pts_nil) (fun _ _ _ _ _=>(pe_has h_m_row_of_book (hr.mono (by decide)) (by rfl) (pa_cons (pv 6) pa_nil))))))
  (pss_cons (ps_set (i:=3) sc_law.nd rfl (Or.inl rfl) (pe_callTy call_list_of (by rfl) B.b_list (by decide +kernel) (pa_cons (pv 1) pa_nil)))
  (pss_cons (ps_if (PW.pt (pw_or (pt_cmpR op_ne (pe_has h_book_text (hr.mono (by decide)) (by rfl) (pa_cons (pv 1) pa_nil)) (pv 2) (nomark _)) (pw_or1 (pt_cmpR (op_neD hr.units) (pv 1) (pv 3) (nomark _))))) (pss_one (ps_ret pe_bl)) pss_nil)
  (pss_cons (ps_set (i:=4) sc_law.nd rfl (Or.inl rfl) (Go.pe_hasX (W:=(fun _ _ _ _=>False)) h_read_bookL (hr.mono (by decide)) (by rfl) takes0 (pa_cons (pv 2) pa_nil)))
  (pss_cons (ps_if (PW.pt (pw_or (pt_not (pt_val (pe_callB call_isi (by rfl) B.b_isinstance (by decide +kernel) (pa_cons (pv 4) (pa_cons (pe_bltn (v:= .ty "list") (by rfl) B.b_list (by decide +kernel) rfl) pa_nil))))) (pw_or (pt_cmpR (op_neD hr.units) (pv 4) (pv 1) (nomark _)) (pw_or1 (pt_not (pt_val (pe_has h_m_plain (hr.mono (by decide)) (by rfl) (pa_cons (pe_callTy call_tuple_of (by rfl) B.b_tuple (by decide +kernel) (pa_cons (pv 4) pa_nil)) pa_nil)))))))) (pss_one (ps_ret pe_bl)) pss_nil)
  (pss_cons (ps_expr (pe_bm0 PySem.F.plainAttrs_list PySem.F.slot_list_reverse PySem.F.type_list_reverse mt_reverse (pv 4)))
  (pss_cons (ps_expr (pe_bm PySem.F.plainAttrs_list PySem.F.slot_list_append PySem.F.type_list_append mt_append (pv 4) (pa_cons pe_non pa_nil)))
  (pss_cons (ps_if (PW.pt (pw_or (pt_cmpR (op_neD hr.units) (Go.pe_hasX (W:=(fun _ _ _ _=>False)) h_read_book (hr.mono (by decide)) (by rfl) takes0 (pa_cons (pv 2) pa_nil)) (pv 1) (nomark _)) (pw_or1 (pt_cmpR op_ne (pe_has h_book_text (hr.mono (by decide)) (by rfl) (pa_cons (Go.pe_hasX (W:=(fun _ _ _ _=>False)) h_read_book (hr.mono (by decide)) (by rfl) takes0 (pa_cons (pv 2) pa_nil)) pa_nil)) (pv 2) (nomark _))))) (pss_one (ps_ret pe_bl)) pss_nil)
  (pss_one (ps_ret (pe_and (pe_cmpR op_eq (pe_has h_book_text (hr.mono (by decide)) (by rfl) (pa_cons (pe_lst pa_nil) pa_nil)) pe_str (nomark _)) (pe_one (pe_cmpR (op_eqD hr.units) (Go.pe_hasX (W:=(fun _ _ _ _=>False)) h_read_book (hr.mono (by decide)) (by rfl) takes0 (pa_cons pe_str pa_nil)) (pe_lst pa_nil) (nomark _)))))))))))))))
end
theorem facts {P:Program} {w:World} {K:PySem.W.Frag} {h:Heap} {mg:Str→Option Value} {f:Addr} (X:K.In h) (G:h.Ns mainGlobals mg) (hfa:mg ("law" :Str)=some (.ref f)) (c:He.SaysD fa fn K) (cx:ex K=true) (ct:Go.tabsSay ts w K) :
  ∃fd:FuncData,(∀(s:Shared) (v:Value),BindsTo s fd ⟨[v],[]⟩ [("_law_script",v)])∧ ∀base:Heap,K.In base→base.Ns mainGlobals mg→FnOk P w K mg base CX0 16 f fd ["_law_script"] ((spLaw K)):=by
 have F_is_whole_number:=c.def_ 0 (d:=dd_is_whole_number) rfl
 have g_is_whole_number:=He.glo_ok X G (c.fact 0 (f:= .glo "is_whole_number") rfl)
 have F_is_part:=c.def_ 1 (d:=dd_is_part) rfl
 have g_is_part:=He.glo_ok X G (c.fact 1 (f:= .glo "is_part") rfl)
 have F_is_int:=c.def_ 2 (d:=dd_is_int) rfl
 have g_is_int:=He.glo_ok X G (c.fact 2 (f:= .glo "is_int") rfl)
 have F_is_name:=c.def_ 3 (d:=dd_is_name) rfl
 have g_is_name:=He.glo_ok X G (c.fact 3 (f:= .glo "is_name") rfl)
 have F_is_numbers:=c.def_ 4 (d:=dd_is_numbers) rfl
 have g_is_numbers:=He.glo_ok X G (c.fact 4 (f:= .glo "is_numbers") rfl)
 have F_is_deed:=c.def_ 5 (d:=dd_is_deed) rfl
 have g_is_deed:=He.glo_ok X G (c.fact 5 (f:= .glo "is_deed") rfl)
 have F_number_in:=c.def_ 6 (d:=dd_number_in) rfl
 have g_number_in:=He.glo_ok X G (c.fact 6 (f:= .glo "number_in") rfl)
 have F_row_text:=c.def_ 7 (d:=dd_row_text) rfl
 have g_row_text:=He.glo_ok X G (c.fact 7 (f:= .glo "row_text") rfl)
 have F_row_in:=c.def_ 8 (d:=dd_row_in) rfl
 have g_row_in:=He.glo_ok X G (c.fact 8 (f:= .glo "row_in") rfl)
 have F_stamp_text:=c.def_ 9 (d:=dd_stamp_text) rfl
 have g_stamp_text:=He.glo_ok X G (c.fact 9 (f:= .glo "stamp_text") rfl)
 have F_stamp_in:=c.def_ 10 (d:=dd_stamp_in) rfl
 have g_stamp_in:=He.glo_ok X G (c.fact 10 (f:= .glo "stamp_in") rfl)
 have F_entry_text:=c.def_ 11 (d:=dd_entry_text) rfl
 have g_entry_text:=He.glo_ok X G (c.fact 11 (f:= .glo "entry_text") rfl)
 have F_names_in:=c.def_ 12 (d:=dd_names_in) rfl
 have g_names_in:=He.glo_ok X G (c.fact 12 (f:= .glo "names_in") rfl)
 have F_entry_in:=c.def_ 13 (d:=dd_entry_in) rfl
 have g_entry_in:=He.glo_ok X G (c.fact 13 (f:= .glo "entry_in") rfl)
 have F_roll_text:=c.def_ 14 (d:=dd_roll_text) rfl
 have g_roll_text:=He.glo_ok X G (c.fact 14 (f:= .glo "roll_text") rfl)
 have F_roll_in:=c.def_ 15 (d:=dd_roll_in) rfl
 have g_roll_in:=He.glo_ok X G (c.fact 15 (f:= .glo "roll_in") rfl)
 have F_letter_text:=c.def_ 16 (d:=dd_letter_text) rfl
 have g_letter_text:=He.glo_ok X G (c.fact 16 (f:= .glo "letter_text") rfl)
 have F_seen_in:=c.def_ 17 (d:=dd_seen_in) rfl
 have g_seen_in:=He.glo_ok X G (c.fact 17 (f:= .glo "seen_in") rfl)
 have F_letter_in:=c.def_ 18 (d:=dd_letter_in) rfl
 have g_letter_in:=He.glo_ok X G (c.fact 18 (f:= .glo "letter_in") rfl)
 have F_deed_text:=c.def_ 19 (d:=dd_deed_text) rfl
 have g_deed_text:=He.glo_ok X G (c.fact 19 (f:= .glo "deed_text") rfl)
 have F_deed_in:=c.def_ 20 (d:=dd_deed_in) rfl
 have g_deed_in:=He.glo_ok X G (c.fact 20 (f:= .glo "deed_in") rfl)
 have F_book_row_text:=c.def_ 21 (d:=dd_book_row_text) rfl
 have g_book_row_text:=He.glo_ok X G (c.fact 21 (f:= .glo "book_row_text") rfl)
 have F_come_in:=c.def_ 22 (d:=dd_come_in) rfl
 have g_come_in:=He.glo_ok X G (c.fact 22 (f:= .glo "come_in") rfl)
 have F_book_row_in:=c.def_ 23 (d:=dd_book_row_in) rfl
 have g_book_row_in:=He.glo_ok X G (c.fact 23 (f:= .glo "book_row_in") rfl)
 have F_book_text:=c.def_ 24 (d:=dd_book_text) rfl
 have g_book_text:=He.glo_ok X G (c.fact 24 (f:= .glo "book_text") rfl)
 have F_read_book:=c.def_ 25 (d:=dd_read_book) rfl
 have g_read_book:=He.glo_ok X G (c.fact 25 (f:= .glo "read_book") rfl)
 have F_m_cell_at:=c.def_ 26 (d:=dd_m_cell_at) rfl
 have g_m_cell_at:=He.glo_ok X G (c.fact 26 (f:= .glo "_law_cell_at") rfl)
 have F_m_mixed:=c.def_ 27 (d:=dd_m_mixed) rfl
 have g_m_mixed:=He.glo_ok X G (c.fact 27 (f:= .glo "_law_mixed") rfl)
 have F_m_well:=c.def_ 28 (d:=dd_m_well) rfl
 have g_m_well:=He.glo_ok X G (c.fact 28 (f:= .glo "_law_well") rfl)
 have F_m_draw:=c.def_ 29 (d:=dd_m_draw) rfl
 have g_m_draw:=He.glo_ok X G (c.fact 29 (f:= .glo "_law_draw") rfl)
 have F_m_pick:=c.def_ 30 (d:=dd_m_pick) rfl
 have g_m_pick:=He.glo_ok X G (c.fact 30 (f:= .glo "_law_pick") rfl)
 have F_m_names:=c.def_ 31 (d:=dd_m_names) rfl
 have g_m_names:=He.glo_ok X G (c.fact 31 (f:= .glo "_law_names") rfl)
 have F_m_numbers:=c.def_ 32 (d:=dd_m_numbers) rfl
 have g_m_numbers:=He.glo_ok X G (c.fact 32 (f:= .glo "_law_numbers") rfl)
 have F_m_stamp:=c.def_ 33 (d:=dd_m_stamp) rfl
 have g_m_stamp:=He.glo_ok X G (c.fact 33 (f:= .glo "_law_stamp") rfl)
 have F_m_part:=c.def_ 34 (d:=dd_m_part) rfl
 have g_m_part:=He.glo_ok X G (c.fact 34 (f:= .glo "_law_part") rfl)
 have F_m_entry:=c.def_ 35 (d:=dd_m_entry) rfl
 have g_m_entry:=He.glo_ok X G (c.fact 35 (f:= .glo "_law_entry") rfl)
 have F_m_letter:=c.def_ 36 (d:=dd_m_letter) rfl
 have g_m_letter:=He.glo_ok X G (c.fact 36 (f:= .glo "_law_letter") rfl)
 have F_m_any_row:=c.def_ 37 (d:=dd_m_any_row) rfl
 have g_m_any_row:=He.glo_ok X G (c.fact 37 (f:= .glo "_law_any_row") rfl)
 have F_m_stamp_text:=c.def_ 38 (d:=dd_m_stamp_text) rfl
 have g_m_stamp_text:=He.glo_ok X G (c.fact 38 (f:= .glo "_law_stamp_text") rfl)
 have F_m_row_text:=c.def_ 39 (d:=dd_m_row_text) rfl
 have g_m_row_text:=He.glo_ok X G (c.fact 39 (f:= .glo "_law_row_text") rfl)
 have F_m_entry_text:=c.def_ 40 (d:=dd_m_entry_text) rfl
 have g_m_entry_text:=He.glo_ok X G (c.fact 40 (f:= .glo "_law_entry_text") rfl)
 have F_m_letter_text:=c.def_ 41 (d:=dd_m_letter_text) rfl
 have g_m_letter_text:=He.glo_ok X G (c.fact 41 (f:= .glo "_law_letter_text") rfl)
 have F_m_deed_text:=c.def_ 42 (d:=dd_m_deed_text) rfl
 have g_m_deed_text:=He.glo_ok X G (c.fact 42 (f:= .glo "_law_deed_text") rfl)
 have F_m_row_of_book:=c.def_ 43 (d:=dd_m_row_of_book) rfl
 have g_m_row_of_book:=He.glo_ok X G (c.fact 43 (f:= .glo "_law_row_of_book") rfl)
 have F_m_plain:=c.def_ 44 (d:=dd_m_plain) rfl
 have g_m_plain:=He.glo_ok X G (c.fact 44 (f:= .glo "_law_plain") rfl)
 have F_law:=c.def_ 45 (d:=dd_law) rfl
 have g_law:=He.glo_ok X G (c.fact 45 (f:= .glo "law") rfl)
 have B:Bl mg:=⟨He.free_ok X G (c.fact 46 (f:= .free "all") rfl),He.free_ok X G (c.fact 47 (f:= .free "bool") rfl),He.free_ok X G (c.fact 48 (f:= .free "int") rfl),He.free_ok X G (c.fact 49 (f:= .free "isinstance") rfl),He.free_ok X G (c.fact 50 (f:= .free "len") rfl),He.free_ok X G (c.fact 51 (f:= .free "list") rfl),He.free_ok X G (c.fact 52 (f:= .free "range") rfl),He.free_ok X G (c.fact 53 (f:= .free "set") rfl),He.free_ok X G (c.fact 54 (f:= .free "sorted") rfl),He.free_ok X G (c.fact 55 (f:= .free "str") rfl),He.free_ok X G (c.fact 56 (f:= .free "tuple") rfl)⟩
 unfold ex at cx
 obtain⟨cx,x3⟩:=He.ba cx
 obtain⟨cx,x2⟩:=He.ba cx
 obtain⟨cx,x1⟩:=He.ba cx
 have x0:=cx
 have TT:Gt K:=⟨Go.kt_of fun H=>He.tupB_ok x0 H,Go.kt_of fun H=>He.tupB_ok x1 H,Go.kt_of fun H=>He.tupB_ok x2 H,gt_of x3⟩
 have GG:Gs K w mg:=⟨TT,He.str_ok X G (c.fact 57 (f:= .str "LETTERS" "abcdefghijklmnopqrstuvwxyz") rfl),He.int_ok X G (c.fact 58 (f:= .int "MOST_LETTERS" 8) rfl),He.int_ok X G (c.fact 59 (f:= .int "MOST_NUMBERS" 3) rfl),He.int_ok X G (c.fact 60 (f:= .int "FAR" 1000000000000) rfl),He.glo_ok X G (c.fact 61 (f:= .glo "OF_ONE") rfl),He.glo_ok X G (c.fact 62 (f:= .glo "OF_NUMBERS") rfl),He.glo_ok X G (c.fact 63 (f:= .glo "OF_TWO") rfl),He.str_ok X G (c.fact 64 (f:= .str "FIGURES" "0123456789") rfl),He.int_ok X G (c.fact 65 (f:= .int "MOST_FIGURES" 1000) rfl),He.glo_ok X G (c.fact 66 (f:= .glo "WORDS") rfl),He.glo_ok X G (c.fact 67 (f:= .glo "NoText") rfl),ct.tab 0 (t:=(fun K=>He.ga K "WORDS",[("" :Str),("heard" :Str),("taken" :Str)])) rfl⟩
 have e:=hfa.symm.trans g_law
 cases e
 obtain⟨fd,Fl⟩:=F_law
 refine⟨fd,fun s v=>(FunD.bindsA (ps:= ["_law_script"]) Fl fun _ _ _ _ _ _ us hl=>match us,hl with | [_],_=>rfl) s [v] rfl,fun base _ _=> ?_⟩
 have h_is_whole_number:=ok_is_whole_number (P:=P) (w:=w) (base:=base) F_is_whole_number g_is_whole_number B
 have h_is_part:=ok_is_part (P:=P) (w:=w) (base:=base) F_is_part g_is_part B h_is_whole_number
 have h_is_int:=ok_is_int (P:=P) (w:=w) (base:=base) F_is_int g_is_int B
 have h_is_name:=ok_is_name (P:=P) (w:=w) (base:=base) F_is_name g_is_name B GG
 have h_is_numbers:=ok_is_numbers (P:=P) (w:=w) (base:=base) F_is_numbers g_is_numbers B GG h_is_int
 have h_is_deed:=ok_is_deed (P:=P) (w:=w) (base:=base) F_is_deed g_is_deed B GG h_is_name h_is_numbers h_is_int
 have h_number_in:=ok_number_in (P:=P) (w:=w) (base:=base) F_number_in g_number_in B GG
 have h_row_text:=ok_row_text (P:=P) (w:=w) (base:=base) F_row_text g_row_text B GG
 have h_row_in:=ok_row_in (P:=P) (w:=w) (base:=base) F_row_in g_row_in B h_is_part h_number_in
 have h_stamp_text:=ok_stamp_text (P:=P) (w:=w) (base:=base) F_stamp_text g_stamp_text B GG
 have h_stamp_in:=ok_stamp_in (P:=P) (w:=w) (base:=base) F_stamp_in g_stamp_in B h_number_in
 have h_entry_text:=ok_entry_text (P:=P) (w:=w) (base:=base) F_entry_text g_entry_text B GG h_stamp_text
 have h_names_in:=ok_names_in (P:=P) (w:=w) (base:=base) F_names_in g_names_in B h_is_name
 have h_entry_in:=ok_entry_in (P:=P) (w:=w) (base:=base) F_entry_in g_entry_in B h_is_numbers h_names_in h_number_in h_stamp_in h_is_name
 have h_roll_text:=ok_roll_text (P:=P) (w:=w) (base:=base) F_roll_text g_roll_text B h_entry_text
 have h_roll_in:=ok_roll_in (P:=P) (w:=w) (base:=base) F_roll_in g_roll_in B h_entry_in
 have h_letter_text:=ok_letter_text (P:=P) (w:=w) (base:=base) F_letter_text g_letter_text B GG h_roll_text h_row_text h_stamp_text
 have h_seen_in:=ok_seen_in (P:=P) (w:=w) (base:=base) F_seen_in g_seen_in B h_stamp_in
 have h_letter_in:=ok_letter_in (P:=P) (w:=w) (base:=base) F_letter_in g_letter_in B h_roll_in h_row_in h_number_in h_seen_in h_stamp_in h_is_name
 have h_deed_text:=ok_deed_text (P:=P) (w:=w) (base:=base) F_deed_text g_deed_text B GG
 have h_deed_in:=ok_deed_in (P:=P) (w:=w) (base:=base) F_deed_in g_deed_in B GG h_is_deed h_number_in
 have h_book_row_text:=ok_book_row_text (P:=P) (w:=w) (base:=base) F_book_row_text g_book_row_text B GG h_deed_text h_letter_text
 have h_come_in:=ok_come_in (P:=P) (w:=w) (base:=base) F_come_in g_come_in B GG h_deed_in
 have h_book_row_in:=ok_book_row_in (P:=P) (w:=w) (base:=base) F_book_row_in g_book_row_in B h_letter_in h_deed_in h_come_in
 have h_book_text:=ok_book_text (P:=P) (w:=w) (base:=base) F_book_text g_book_text B h_book_row_text
 have h_read_book:=ok_read_book (P:=P) (w:=w) (base:=base) F_read_book g_read_book B GG h_book_row_in
 have h_read_bookL:=ok_read_bookL (P:=P) (w:=w) (base:=base) F_read_book g_read_book B GG h_book_row_in
 have h_m_cell_at:=ok_m_cell_at (P:=P) (w:=w) (base:=base) F_m_cell_at g_m_cell_at B
 have h_m_mixed:=ok_m_mixed (P:=P) (w:=w) (base:=base) F_m_mixed g_m_mixed B
 have h_m_well:=ok_m_well (P:=P) (w:=w) (base:=base) F_m_well g_m_well B
 have h_m_draw:=ok_m_draw (P:=P) (w:=w) (base:=base) F_m_draw g_m_draw B h_m_mixed
 have h_m_pick:=ok_m_pick (P:=P) (w:=w) (base:=base) F_m_pick g_m_pick B h_m_draw
 have h_m_names:=ok_m_names (P:=P) (w:=w) (base:=base) F_m_names g_m_names B h_m_draw
 have h_m_numbers:=ok_m_numbers (P:=P) (w:=w) (base:=base) F_m_numbers g_m_numbers B h_m_draw
 have h_m_stamp:=ok_m_stamp (P:=P) (w:=w) (base:=base) F_m_stamp g_m_stamp B h_m_draw
 have h_m_part:=ok_m_part (P:=P) (w:=w) (base:=base) F_m_part g_m_part B h_m_draw
 have h_m_entry:=ok_m_entry (P:=P) (w:=w) (base:=base) F_m_entry g_m_entry B h_m_numbers h_m_stamp h_m_names h_m_draw
 have h_m_letter:=ok_m_letter (P:=P) (w:=w) (base:=base) F_m_letter g_m_letter B GG h_m_stamp h_m_entry h_m_draw h_m_names h_m_part
 have h_m_any_row:=ok_m_any_row (P:=P) (w:=w) (base:=base) F_m_any_row g_m_any_row B h_m_pick h_m_numbers h_m_draw h_m_letter h_m_names
 have h_m_stamp_text:=ok_m_stamp_text (P:=P) (w:=w) (base:=base) F_m_stamp_text g_m_stamp_text B GG
 have h_m_row_text:=ok_m_row_text (P:=P) (w:=w) (base:=base) F_m_row_text g_m_row_text B GG
 have h_m_entry_text:=ok_m_entry_text (P:=P) (w:=w) (base:=base) F_m_entry_text g_m_entry_text B GG
 have h_m_letter_text:=ok_m_letter_text (P:=P) (w:=w) (base:=base) F_m_letter_text g_m_letter_text B GG h_m_entry_text h_m_row_text h_m_stamp_text
 have h_m_deed_text:=ok_m_deed_text (P:=P) (w:=w) (base:=base) F_m_deed_text g_m_deed_text B GG
 have h_m_row_of_book:=ok_m_row_of_book (P:=P) (w:=w) (base:=base) F_m_row_of_book g_m_row_of_book B h_m_deed_text h_m_letter_text
 have h_m_plain:=ok_m_plain0 (P:=P) (w:=w) (base:=base) F_m_plain g_m_plain B
 have h_m_plain:Has P w K mg base "_law_plain" 3 ["_law_thing"] (cs K (fPlain81 1)):=ok_m_plain (k:=0) (n:=0) F_m_plain g_m_plain B  h_m_plain
 have h_m_plain:Has P w K mg base "_law_plain" 4 ["_law_thing"] (cs K (fPlain81 2)):=ok_m_plain (k:=1) (n:=1) F_m_plain g_m_plain B  h_m_plain
 have h_m_plain:Has P w K mg base "_law_plain" 5 ["_law_thing"] (cs K (fPlain81 3)):=ok_m_plain (k:=2) (n:=2) F_m_plain g_m_plain B  h_m_plain
 have h_m_plain:Has P w K mg base "_law_plain" 6 ["_law_thing"] (cs K (fPlain81 4)):=ok_m_plain (k:=3) (n:=3) F_m_plain g_m_plain B  h_m_plain
 have h_m_plain:Has P w K mg base "_law_plain" 7 ["_law_thing"] (cs K (fPlain81 5)):=ok_m_plain (k:=4) (n:=4) F_m_plain g_m_plain B  h_m_plain
 have h_m_plain:Has P w K mg base "_law_plain" 8 ["_law_thing"] (cs K (fPlain81 6)):=ok_m_plain (k:=5) (n:=5) F_m_plain g_m_plain B  h_m_plain
 have h_m_plain:Has P w K mg base "_law_plain" 9 ["_law_thing"] (cs K (fPlain81 7)):=ok_m_plain (k:=6) (n:=6) F_m_plain g_m_plain B  h_m_plain
 have h_m_plain:Has P w K mg base "_law_plain" 10 ["_law_thing"] (cs K (fPlain81 8)):=ok_m_plain (k:=7) (n:=7) F_m_plain g_m_plain B  h_m_plain
 have h_m_plain:Has P w K mg base "_law_plain" 11 ["_law_thing"] (cs K (fPlain81 9)):=ok_m_plain (k:=8) (n:=8) F_m_plain g_m_plain B  h_m_plain
 exact ok_law (P:=P) (w:=w) (base:=base) Fl B h_read_book h_book_text h_m_plain h_read_bookL h_m_row_of_book h_m_cell_at h_m_any_row h_m_well
end Sum
open PySem PySem.W PySem.Calls PyProof.Rows
set_option maxRecDepth 100000 in
set_option maxHeartbeats 0 in
theorem PySem.Challenge.cw_sumtold_k81_books_as_texts_holds : PySem.Challenge.rw_sumtold_k81_books_as_texts.Holds := by
 w_on;o_law
 refine HandSHeadRun.head_any (r:=OpenLaw.row PySem.Challenge.rw_sumtold_k81_books_as_texts) (q:=view (OpenLaw.row PySem.Challenge.rw_sumtold_k81_books_as_texts).prog [64]) (H:=Sum.hk) (ob:=Sum.ob) (M:=20000) (loose:=Sum.loose) (d:=HandSHeadRun.topDef (OpenLaw.row PySem.Challenge.rw_sumtold_k81_books_as_texts).prog 64) (kwd:= []) Sum.ob_eq
  (by kernel_rfl) (fun s=>by kernel_rfl) Sum.run (by kernel_rfl) (by kernel_rfl) (by kernel_rfl) (by rfl) (by first | assumption | decide +kernel) (by decide +kernel) ⟨rfl,rfl,rfl,rfl,rfl,by decide +kernel⟩ ?hw ?hc
 case hw=>w_witness2
 case hc=>
  refine L2.walk_ofE (l:=PySem.Challenge.rw_sumtold_k81_books_as_texts) (n:=63) (k:=16) (x:= "_law_script") (CX:=L2.CX0) rfl (by decide) (by kernel_rfl) ⟨rfl,by decide,by decide⟩ ?F (fun _ _ _ _ z=>z)
  intro w mg fa h Y G hmg0
  obtain⟨K,KX,c,cx,ct⟩:=Y
  have hmg:mg ("law" :PySem.Str)=some (.ref fa):=by
   have e:(HandSHeadRun.topDef (OpenLaw.row PySem.Challenge.rw_sumtold_k81_books_as_texts).prog 64).name=("law" :PySem.Str):=by kernel_rfl
   rw [← e]
   exact hmg0
  obtain⟨fd,hb,hF⟩:=Sum.facts (P:=(PySem.Challenge.rw_sumtold_k81_books_as_texts).prog) (w:=w) KX G hmg c cx ct
  exact⟨K,fd,Sum.spLaw K,KX,hb,fun H a ns hl _ hS=>⟨a,ns,rfl,hS,hl,fun _=>rfl⟩,hF⟩
#print axioms PySem.Challenge.cw_sumtold_k81_books_as_texts_holds
