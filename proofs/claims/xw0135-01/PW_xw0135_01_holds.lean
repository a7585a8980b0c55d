import PyProof.Rows.All
import KE.KDictSum
import KE.KEqDict
import Open.Tops
import OpenK.ZGo
import Wide.FinOn
import OpenK.AllK
import Wide.All
import PySem.Challenge.RW_xw0135_01
set_option Elab.async false
set_option genSizeOf false
set_option genInjectivity false
set_option linter.unusedVariables false
set_option maxRecDepth 100000
set_option maxHeartbeats 0
set_option tactic.hygienic false
namespace Mine
theorem dG.{u}{α:Type u} {a b:α} (h:a∈[b]):a=b:=List.mem_singleton.mp h
theorem fY.{u}{α:Type u} {a b:α} {l:List α} (h:a∈b::l):a=b\/a∈l:=List.mem_cons.mp h
theorem rO.{u}{α:Type u} {l:List α} {i:Nat} {a:α} (h:l[i]?=some a):∃h:i<l.length,l[i]=a:=List.getElem?_eq_some_iff.mp h
theorem pW.{u}{α:Type u} {l:List α} {p:α->Bool} (h:l.all p=true):∀x∈l,p x=true:=List.all_eq_true.mp h
theorem qz.{u}{α:Type u} {l:List α} (h:l.isEmpty=true):l=[]:=List.isEmpty_iff.mp h
theorem tW.{u}{α:Type u} {a:α} {s t:List α} (h:a∈s++t):a∈s\/a∈t:=List.mem_append.mp h
abbrev aH:=@Nat.le_trans
abbrev bx:=@of_decide_eq_true
abbrev au:=@congrArg
abbrev cP:=@List.mem_cons_of_mem
abbrev cC:=@List.mem_cons_self
abbrev bV:=@Option.some.inj
abbrev di:=@Nat.lt_of_le_of_lt
abbrev aV:=@PySem.wpAny_bind
abbrev dj:=@decide_eq_true
abbrev cK:=@Nat.le_of_eq
abbrev cG:=@Nat.add_le_add_left
abbrev bZ:=@Nat.le_add_right
abbrev aP:=@PySem.wpAny_pure
abbrev aW:=@Nat.le_refl
abbrev dQ:=@Nat.add_le_add_right
abbrev ay:=@if_neg
abbrev az:=@if_pos
abbrev eB:=@Nat.lt_of_lt_of_le
abbrev cT:=@List.length_map
abbrev eH:=@Bool.false_ne_true
abbrev dg:=@decide_eq_false
abbrev c6:=@Decidable.em
abbrev fC:=@Nat.le_add_left
abbrev gH:=@List.length_append
abbrev bu:=@trivial
abbrev kU:=@List.mem_append_right
abbrev lZ:=@Nat.le_sub_one_of_lt
abbrev kW:=@Nat.mul_le_mul_left
abbrev fT:=@Nat.le_of_lt
abbrev qA:=@List.getElem?_eq_getElem
abbrev nE:=@List.mem_append_left
abbrev fD:=@Nat.zero_le
abbrev nF:=@PySem.Heap.get?_push_size
abbrev pX:=@List.mem_of_getElem?
abbrev l8:=@Nat.le_of_succ_le
abbrev vM:=@List.getElem?_append_left
abbrev qB:=@List.getElem?_set_ne
abbrev iX:=@PySem.wpAny_holding
abbrev gD:=@Nat.le_succ
abbrev je:=@List.cons.inj
abbrev kX:=@List.append_nil
abbrev tX:=@PySem.Heap.get?_push_of_some
abbrev nG:=@Nat.succ_le_succ
abbrev mh:=@List.map_append
abbrev tY:=@List.length_filter_le
abbrev qC:=@Nat.add_right_comm
abbrev Az:=@List.getElem?_append_right
abbrev xJ:=@Nat.lt_add_of_pos_right
abbrev gE:=@PySem.wpAny_mono
abbrev pY:=@List.not_mem_nil
abbrev nW:=@Nat.min_eq_left
abbrev kY:=@Nat.lt_irrefl
abbrev rP:=@Nat.le_succ_of_le
abbrev rQ:=@List.append_assoc
abbrev kZ:=@Nat.succ.inj
abbrev AA:=@List.getElem?_set_self
abbrev nH:=@Nat.add_assoc
abbrev nJ:=@Int.ofNat.inj
abbrev pZ:=@Nat.add_le_add
abbrev CK:=@List.filter_cons_of_neg
abbrev tZ:=@Nat.min_le_right
abbrev nX:=@PySem.wpAny_standAt
abbrev nK:=@List.map_map
abbrev vO:=@List.lookup_cons
abbrev E7:=@List.pairwise_singleton
abbrev p8:=@Nat.zero_add
abbrev AD:=@Int.natCast_nonneg
abbrev qD:=@PySem.mem_of_lookup
abbrev CL:=@Nat.add_lt_add_left
abbrev CM:=@List.map_congr_left
abbrev I2:=@List.filter_cons_of_pos
abbrev AE:=@beq_self_eq_true
abbrev AF:=@Nat.min_eq_right
abbrev E8:=@List.filter_sublist
abbrev AG:=@PySem.wpAny_call_entry
abbrev t8:=@Nat.ne_of_lt
abbrev AH:=@Nat.min_le_left
abbrev I3:=@Nat.le_of_ble_eq_true
abbrev I4:=@List.getElem?_toArray
abbrev CN:=@PySem.wpAny_newObj_type
abbrev jT:=@congrFun
abbrev ua:=@PySem.Heap.lt_size
abbrev vP:=@Nat.add_comm
abbrev E9:=@Nat.le_of_lt_succ
abbrev I5:=@Nat.add_sub_cancel'
abbrev xK:=@Nat.lt_trans
abbrev NJ:=@PySem.Heap.get?_update_other
abbrev I6:=@List.size_toArray
abbrev Fb:=@List.length_set
abbrev NK:=@PySem.Heap.get?_update_self
abbrev AI:=@Nat.lt_or_ge
abbrev QF:=@List.mem_singleton_self
abbrev kH:=@Iff.rfl
abbrev I7:=@PySem.wpAny_loadPart_at
abbrev Wn:=@Nat.exists_eq_succ_of_ne_zero
abbrev QG:=@Nat.le_of_succ_le_succ
abbrev QH:=@Nat.le_add_right_of_le
abbrev NL:=@Nat.sub_add_cancel
abbrev CO:=@Nat.sub_self
abbrev xM:=@bind_congr
abbrev Bv:=@Nat.lt_succ_of_le
abbrev QI:=@List.exists_cons_of_length_eq_add_one
abbrev j6:=@or_congr
abbrev Bw:=@Nat.succ_ne_zero
abbrev Fc:=@Nat.zero_ne_add_one
abbrev qk:=@Nat.sub_le
abbrev xN:=@Bool.or_false
abbrev Fd:=@PySem.Heap.SameBut.update
abbrev Fe:=@List.getElem?_map
abbrev Bx:=@List.nodup_nil
abbrev LK:=@List.set_append_right
abbrev xO:=@PySem.W.Looks.of_pure
abbrev Ff:=@PySem.getMethod_builtin
abbrev Fg:=@Nat.le_antisymm
abbrev LL:=@List.contains_cons
end Mine
section
open PySem PySem.W
namespace Mine
section
abbrev Nm:=List Nat
noncomputable abbrev kQ:Nm:=[116,97,98]
noncomputable abbrev ql:Nm:=[114,111,119,115]
noncomputable abbrev rM:Nm:=[104,111,115,116]
noncomputable abbrev xP:Nm:=[98,101,115,116]
noncomputable abbrev xQ:Nm:=[115,108,111,116]
noncomputable abbrev CP:Nm:=[115,116,101,112,115]
noncomputable abbrev Fi:Nm:=[108,101,118,101,108]
noncomputable abbrev I8:Nm:=[112,117,116]
noncomputable abbrev I9:Nm:=[112,108,97,105,110]
noncomputable abbrev LM:Nm:=[100,101,101,112]
noncomputable abbrev uc:Nm:=[114,117,108,101,115]
noncomputable abbrev ud:Nm:=[109,97,100,101]
noncomputable abbrev ue:Nm:=[111,119,110]
noncomputable abbrev vQ:Nm:=[97,112,112,101,110,100]
noncomputable abbrev vR:Nm:=[103,101,116]
noncomputable abbrev vS:Nm:=[109,101,101,116,101,114]
noncomputable abbrev vU:Nm:=[112,111,111,108]
noncomputable abbrev xR:Nm:=[116,117,114,110,101,100]
noncomputable abbrev AJ:Nm:=[119,97,116,99,104]
noncomputable abbrev CQ:Nm:=[115,101,101,110]
noncomputable abbrev CS:Nm:=[119,104,111,108,101]
noncomputable abbrev Fj:Nm:=[108,97,116,101]
noncomputable abbrev Fo:Nm:=[116,119,105,110]
noncomputable abbrev Ja:Nm:=[99,111,110,116,114,97]
noncomputable abbrev Jc:Nm:=[99,117,116,115]
noncomputable abbrev Jd:Nm:=[105,110,100,101,120]
noncomputable abbrev Je:Nm:=[111,118,101,114]
noncomputable abbrev NN:Nm:=[97,115,107,101,100]
noncomputable abbrev NO:Nm:=[98,111,117,110,100,115]
noncomputable abbrev NP:Nm:=[110,101,118,101,114]
noncomputable abbrev NQ:Nm:=[110,117,109,98,101,114]
noncomputable abbrev NR:Nm:=[100,101,101,112,101,114]
noncomputable abbrev NS:Nm:=[105,110,102,101,114]
noncomputable abbrev NT:Nm:=[110,117,109,115]
noncomputable abbrev NU:Nm:=[119,111,114,100]
noncomputable abbrev QJ:Nm:=[98,111,116,104]
noncomputable abbrev QK:Nm:=[108,105,116,101,114,97,108]
noncomputable abbrev QL:Nm:=[108,111,119]
noncomputable abbrev QM:Nm:=[112,105,100,115]
noncomputable abbrev QN:Nm:=[114,97,110,107,115]
noncomputable abbrev QO:Nm:=[115,116,97,110,100,115]
noncomputable abbrev QS:Nm:=[116,111,112]
noncomputable abbrev QT:Nm:=[112,97,114,97,109,115]
noncomputable abbrev QU:Nm:=[116,101,114,109,115]
noncomputable abbrev Wo:Nm:=[100,101,102,97,117,108,116,115]
noncomputable abbrev Wq:Nm:=[102,105,120,101,100]
noncomputable abbrev Wr:Nm:=[102,111,117,110,100]
noncomputable abbrev Ws:Nm:=[110,97,109,101,115]
noncomputable abbrev Wu:Nm:=[119,114,105,116,116,101,110]
noncomputable abbrev Wv:Nm:=[102,111,114,99,101]
noncomputable abbrev aa1:Nm:=[102,97,108,108,101,110]
noncomputable abbrev aa2:Nm:=[102,105,120,105,110,103]
noncomputable abbrev aa3:Nm:=[109,111,115,116,95,100,101,101,112]
noncomputable abbrev aa4:Nm:=[109,111,115,116,95,114,111,117,110,100,115]
noncomputable abbrev aa5:Nm:=[111,114,105,103,105,110,115]
noncomputable abbrev aa6:Nm:=[112,117,116,116,105,110,103]
noncomputable abbrev aa7:Nm:=[114,101,110,97,109,101,100]
noncomputable abbrev aa8:Nm:=[114,101,115,117,108,116]
noncomputable abbrev aa9:Nm:=[114,101,116,95,99,111,110,116,114,97]
noncomputable abbrev aba:Nm:=[114,101,116,117,114,110,115]
noncomputable abbrev abb:Nm:=[115,101,116,116,108,105,110,103]
noncomputable abbrev abc:Nm:=[115,104,97,112,105,110,103]
noncomputable abbrev abd:Nm:=[117,110,107,110,111,119,110]
noncomputable abbrev abe:Nm:=[117,110,100,101,102,105,110,101,100]
noncomputable abbrev abf:Nm:=[115,116,114,105,110,103]
noncomputable abbrev abg:Nm:=[111,98,106,101,99,116]
inductive V where
 |none
 |bool (b:Bool)
 |int (i:Int)
 |str (s:Nm)
 |aC (xs:List V)
 |lst (xs:List V)
 |fE (c:Nat) (l:Nat)
 |ref (l:Nat)
 |Fp (lo hi:Int)
 |sd (a:Nat)
 |fn (a:Nat)
 |cls (a:Nat)
 |bi (n:Nat)
noncomputable def V.fG(v:V):Nat:=V.casesOn (motive_1:=λ_=>Nat) v 0 (λ_=>1) (λ_=>2) (λ_=>3) (λ_=>4) (λ_=>5) (λ_ _=>6) (λ_=>7) (λ_ _=>8) (λ_=>9) (λ_=>10) (λ_=>11) (λ_=>12)
noncomputable def V.tU(v:V):Int:=V.casesOn (motive_1:=λ_=>Int) v 0 (λb=>cond b 1 0) (λi=>i) (λ_=>0) (λ_=>0) (λ_=>0) (λc _=>.ofNat c) (λl=>.ofNat l) (λi _=>i) (λa=>.ofNat a) (λa=>.ofNat a) (λa=>.ofNat a) (λa=>.ofNat a)
noncomputable def V.Ww(v:V):Int:=V.casesOn (motive_1:=λ_=>Int) v 0 (λ_=>0) (λ_=>0) (λ_=>0) (λ_=>0) (λ_=>0) (λ_ l=>.ofNat l) (λ_=>0) (λ_ j=>j) (λ_=>0) (λ_=>0) (λ_=>0) (λ_=>0)
noncomputable def V.Jf(v:V):Nm:=V.casesOn (motive_1:=λ_=>Nm) v [] (λ_=>[]) (λ_=>[]) (λs=>s) (λ_=>[]) (λ_=>[]) (λ_ _=>[]) (λ_=>[]) (λ_ _=>[]) (λ_=>[]) (λ_=>[]) (λ_=>[]) (λ_=>[])
noncomputable def V.g9(v:V):List V:=V.casesOn (motive_1:=λ_=>List V) v [] (λ_=>[]) (λ_=>[]) (λ_=>[]) (λxs=>xs) (λxs=>xs) (λ_ _=>[]) (λ_=>[]) (λ_ _=>[]) (λ_=>[]) (λ_=>[]) (λ_=>[]) (λ_=>[])
noncomputable def V.mk(t:Nat)(i j:Int)(n:Nm)(l:List V):V:=([V.none,.bool (i==1),.int i,.str n,.aC l,.lst l,.fE i.toNat j.toNat,.ref i.toNat,.Fp i j,.sd i.toNat,.fn i.toNat,.cls i.toNat]:List V).getD t (.bi i.toNat)
theorem V.QV(v:V):V.mk v.fG v.tU v.Ww v.Jf v.g9=v:=V.casesOn v rfl (λb=>by cases b<;>rfl) (λ_=>rfl) (λ_=>rfl) (λ_=>rfl) (λ_=>rfl) (λ_ _=>rfl) (λ_=>rfl) (λ_ _=>rfl) (λ_=>rfl) (λ_=>rfl) (λ_=>rfl) (λ_=>rfl)
theorem V.ext{a b:V}(h1:a.fG=b.fG)(h2:a.tU=b.tU)(h3:a.Ww=b.Ww)(h4:a.Jf=b.Jf)(h5:a.g9=b.g9):a=b:=(V.QV a).symm.trans ((by rw [h1,h2,h3,h4,h5]:V.mk a.fG a.tU a.Ww a.Jf a.g9=_).trans (V.QV b))
theorem V.int.inj(h:V.int a=.int b):a=b:=au V.tU h
theorem V.str.inj(h:V.str a=.str b):a=b:=au V.Jf h
theorem V.aC.inj(h:V.aC a=.aC b):a=b:=au V.g9 h
theorem V.lst.inj(h:V.lst a=.lst b):a=b:=au V.g9 h
theorem dF(h:a=true)(k:b=true):(a&&b)=true:=by rw [h,k];rfl
theorem ff{P:Prop}(h:false=true):P:=Bool.noConfusion h
theorem ns{α:Type}{a:α}{P:Prop}(h:(Option.none:Option α)=some a):P:=absurd h (Option.some_ne_none a).symm
theorem tg{a b:Nat}{P:Prop}(k:(a==b)=false)(h:a=b):P:=absurd (beq_iff_eq.mpr h) (k▸eH)
theorem bg{α:Type}{a:α}{P:Prop}(h:a∈([]:List α)):P:=absurd h pY
noncomputable def V.flat(a b:V):Bool:=a.fG==b.fG&&(a.tU==b.tU&&(a.Ww==b.Ww&&a.Jf==b.Jf))
theorem ah(h:(a&&b)=true):a=true/\b=true:=by
 cases a
 ·exact absurd h eH
 ·exact⟨rfl,h⟩
theorem V.CT{a b:V}(h:a.flat b=true):a.fG=b.fG/\a.tU=b.tU/\a.Ww=b.Ww/\a.Jf=b.Jf:=
 have h1:=ah h;have h2:=ah h1.2;have h3:=ah h2.2
 ⟨eq_of_beq h1.1,eq_of_beq h2.1,eq_of_beq h3.1,eq_of_beq h3.2⟩
theorem V.fh(a:V):a.flat a=true:=by
 unfold V.flat;rw [AE,AE,AE,AE];rfl
noncomputable def V.same(a:V):V->Bool:=V.rec (motive_1:=λ_=>V->Bool) (motive_2:=λ_=>List V->Bool) (V.flat .none) (λb=>V.flat (.bool b)) (λi=>V.flat (.int i)) (λs=>V.flat (.str s))
 (λ_ ih b=>V.flat (.aC []) b&&ih b.g9) (λ_ ih b=>V.flat (.lst []) b&&ih b.g9) (λc l=>V.flat (.fE c l)) (λl=>V.flat (.ref l)) (λi j=>V.flat (.Fp i j)) (λa=>V.flat (.sd a)) (λa=>V.flat (.fn a)) (λa=>V.flat (.cls a)) (λa=>V.flat (.bi a))
 (λl=>l.isEmpty) (λ_ _ ih uf l=>l.rec (motive:=λ_=>Bool) false λy ys _=>ih y&&uf ys) a
theorem V.NV(a:V):a.same a=true:=V.rec rfl (λb=>V.fh (.bool b)) (λi=>V.fh (.int i)) (λs=>V.fh (.str s))
 (λ_ ih=>ih) (λ_ ih=>ih) (λc l=>V.fh (.fE c l)) (λl=>V.fh (.ref l)) (λi j=>V.fh (.Fp i j)) (λa=>V.fh (.sd a)) (λa=>V.fh (.fn a)) (λa=>V.fh (.cls a)) (λa=>V.fh (.bi a))
 rfl (λx xs ih uf=>dF ih uf) a
theorem V.gI{a b:V}(ha:a.g9=[])(n:(a.fG==4||a.fG==5)=false)(h:a.flat b=true):a=b:=by
 obtain⟨h1,h2,h3,h4⟩:=V.CT h;refine V.ext h1 h2 h3 h4 (ha.trans ?_);rw [h1]at n;revert n;exact V.casesOn b (λ_=>rfl) (λ_ _=>rfl) (λ_ _=>rfl) (λ_ _=>rfl) (λ_ n=>absurd n.symm eH) (λ_ n=>absurd n.symm eH) (λ_ _ _=>rfl) (λ_ _=>rfl) (λ_ _ _=>rfl) (λ_ _=>rfl) (λ_ _=>rfl) (λ_ _=>rfl) (λ_ _=>rfl)
theorem V.Wx(a:V):∀b:V,a.same b=true->a=b:=V.rec (motive_1:=λa=>∀b:V,a.same b=true->a=b) (motive_2:=λxs=>∀b:V,(V.flat (.lst []) b&&V.same (.lst xs) (.lst b.g9))=true->xs=b.g9)
 (λ_=>V.gI rfl rfl) (λ_ _=>V.gI rfl rfl) (λ_ _=>V.gI rfl rfl) (λ_ _=>V.gI rfl rfl)
 (λxs ih b h=>have h1:=ah h
  have f:=V.CT h1.1
  V.ext f.1 f.2.1 f.2.2.1 f.2.2.2 (ih (.lst b.g9) h1.2)) (λxs ih b h=>have h1:=ah h
  have f:=V.CT h1.1
  V.ext f.1 f.2.1 f.2.2.1 f.2.2.2 (ih (.lst b.g9) h1.2))
 (λ_ _ _=>V.gI rfl rfl) (λ_ _=>V.gI rfl rfl) (λ_ _ _=>V.gI rfl rfl) (λ_ _=>V.gI rfl rfl) (λ_ _=>V.gI rfl rfl) (λ_ _=>V.gI rfl rfl) (λ_ _=>V.gI rfl rfl)
 (λb h=>(qz (ah h).2).symm)
 (λx xs ih uf b h=>by
  have h2:=(ah h).2;generalize b.g9=l at h2;cases l with
  |nil=>exact absurd h2 eH
  |cons y ys=>
   have h3:=ah h2;rw [ih y h3.1,uf (.lst ys) (dF rfl h3.2)];rfl) a
noncomputable instance:DecidableEq V:=λa b=>decidable_of_iff (a.same b=true) ⟨V.Wx a b,λh=>h▸V.NV a⟩
noncomputable def V.gJ(v:V):Option Int:=if v.fG=2 then some v.tU else Option.none
noncomputable def V.Fq(v:V):Option (List V):=if v.fG=4 then some v.g9 else Option.none
noncomputable def V.onC{α:Type}(v:V)(d:α)(ft fl:List V->α)(fr fs:Nat->α):α:=V.casesOn (motive_1:=λ_=>α) v d (λ_=>d) (λ_=>d) (λ_=>d) ft fl (λ_ _=>d) fr (λ_ _=>d) fs (λ_=>d) (λ_=>d) (λ_=>d)
noncomputable def V.onO{α:Type}(v:V)(d:α)(fo:Nat->Nat->α):α:=V.casesOn (motive_1:=λ_=>α) v d (λ_=>d) (λ_=>d) (λ_=>d) (λ_=>d) (λ_=>d) fo (λ_=>d) (λ_ _=>d) (λ_=>d) (λ_=>d) (λ_=>d) (λ_=>d)
noncomputable def V.Wy{α:Type}(v:V)(d:α)(fr:Nat->α):α:=v.onC d (λ_=>d) (λ_=>d) fr (λ_=>d)
noncomputable def V.onF{α:Type}(v:V)(d:α)(ff fc fb:Nat->α):α:=V.casesOn (motive_1:=λ_=>α) v d (λ_=>d) (λ_=>d) (λ_=>d) (λ_=>d) (λ_=>d) (λ_ _=>d) (λ_=>d) (λ_ _=>d) (λ_=>d) ff fc fb
noncomputable def V.plain(a:V):Bool:=V.rec (motive_1:=λ_=>Bool) (motive_2:=λ_=>Bool) true (λ_=>false) (λ_=>true) (λ_=>true) (λ_ r=>r) (λ_ r=>r) (λ_ _=>false) (λ_=>false) (λ_ _=>false) (λ_=>false) (λ_=>false) (λ_=>false) (λ_=>false) true (λ_ _ a b=>a&&b) a
noncomputable def V.cZ(xs:List V):Bool:=(V.lst xs).plain
noncomputable def V.i7(a:V):Bool:=V.rec (motive_1:=λ_=>Bool) (motive_2:=λ_=>Bool) false (λ_=>false) (λ_=>true) (λ_=>true) (λ_ r=>r) (λ_ _=>false) (λ_ _=>false) (λ_=>false) (λ_ _=>false) (λ_=>false) (λ_=>false) (λ_=>false) (λ_=>false) true (λ_ _ a b=>a&&b) a
noncomputable def V.mj(xs:List V):Bool:=(V.aC xs).i7
noncomputable def V.gF(a:V):Nat:=V.rec (motive_1:=λ_=>Nat) (motive_2:=λ_=>Nat) 0 (λ_=>0) (λ_=>0) (λ_=>0) (λ_ r=>r+1) (λ_ r=>r+1) (λ_ _=>0) (λ_=>0) (λ_ _=>0) (λ_=>0) (λ_=>0) (λ_=>0) (λ_=>0) 0 (λ_ _ a b=>max a b) a
noncomputable def V.abi(xs:List V):Nat:=(V.aC xs).gF-1
noncomputable def fU:Nat:=8
noncomputable def gn(k:V)(es:List (V×V)):Bool:=k.i7&&(decide (k.gF<=fU)&&es.head?.all λp=>p.1.fG==k.fG)
inductive bw where
 |list (xs:List V)
 |dict (es:List (V×V))
 |ns (cR:List (Nm×V))
 |bH
noncomputable def bw.on{α:Type}(c:bw)(d:α)(fl:List V->α)(fd:List (V×V)->α)(fn:List (Nm×V)->α):α:=bw.casesOn (motive:=λ_=>α) c fl fd fn d
abbrev St:=List bw
inductive fH(α:Type)where
 |ok (a:α) (s:St)
 |exc (s:St)
 |aJ
noncomputable def M(α:Type):=St->fH α
noncomputable def M.pure{α:Type}(a:α):M α:=λs=>.ok a s
noncomputable def fH.bind{α β:Type}(o:fH α)(f:α->M β):fH β:=fH.casesOn (motive:=λ_=>fH β) o f .exc .aJ
noncomputable def M.bind{α β:Type}(m:M α)(f:α->M β):M β:=λs=>(m s).bind f
noncomputable def M.fail{α:Type}:M α:=λ_=>.aJ
noncomputable def cu:Nat:=2^23
noncomputable def lk{α:Type}(n:Nm):List (Nm×α)->Option α:=List.rec none λp _ r=>if n=p.1 then some p.2 else r
noncomputable def pt{α:Type}(n:Nm)(v:α):List (Nm×α)->List (Nm×α):=List.rec [(n,v)] λp l r=>if n=p.1 then(p.1,v)::l else p::r
noncomputable def bJ(k:V):List (V×V)->Option V:=List.rec none λp _ r=>if p.1=k then some p.2 else r
noncomputable def cS(k v:V):List (V×V)->List (V×V):=List.rec [(k,v)] λp l r=>if p.1=k then(p.1,v)::l else p::r
noncomputable def kI(k:V):List (V×V)->List (V×V):=List.rec [] λp l r=>if p.1=k then l else p::r
noncomputable def bX{α:Type}(o:Option α):M α:=λs=>Option.casesOn (motive:=λ_=>fH α) o .aJ λa=>.ok a s
noncomputable def eK(l:Nat):M bw:=λs=>bX s[l]? s
noncomputable def jf(l:Nat)(c:bw):M Unit:=λs=>.ok () (s.set l c)
noncomputable def qb(c:bw):M Nat:=λs=>.ok s.length (s++[c])
structure iL where
 sd:Nat->Option (List (V×V))
 bA:Nat->Nm->Option Nat
 init:Nat->Option (Option Nat)
inductive Ct where
 |aC (xs:List V)
 |lst (xs:List V)
 |dict (es:List (V×V))
noncomputable def Ct.on{α:Type}(c:Ct)(ft fl:List V->α)(fd:List (V×V)->α):α:=Ct.casesOn (motive:=λ_=>α) c ft fl fd
variable(T:iL)
noncomputable def vp(o:V):M Ct:=o.onC M.fail (λxs=>M.pure (.aC xs)) (λxs=>M.pure (.lst xs)) (λl=>M.bind (eK l) λc=>c.on M.fail (λxs=>M.pure (.lst xs)) (λes=>M.pure (.dict es)) λ_=>M.fail) λa=>bX ((T.sd a).map Ct.dict)
noncomputable def look{α:Type}(o:V)(f:Ct->Option α):M α:=M.bind (vp T o) λc=>bX (f c)
noncomputable def vq(o:V)(n:Nm):M V:=o.onO M.fail λ_ l=>M.bind (eK l) λc=>c.on M.fail (λ_=>M.fail) (λ_=>M.fail) λa=>bX (lk n a)
noncomputable def rR(o:V)(n:Nm)(v:V):M Unit:=o.onO M.fail λ_ l=>M.bind (eK l) λc=>c.on M.fail (λ_=>M.fail) (λ_=>M.fail) λa=>if a.length<100 then jf l (.ns (pt n v a))else M.fail
noncomputable def ZS(xs:List V)(i:Int):Option V:=if 0<=i then xs[i.toNat]? else if-(xs.length:Int)<=i then xs[(xs.length+i).toNat]? else none
noncomputable def natAt(xs:List V)(i:Int):Option V:=if 0<=i then xs[i.toNat]? else none
noncomputable def abj(k:V)(es:List (V×V)):Option V:=if gn k es then bJ k es else none
noncomputable def QX(i:V)(c:Ct):Option V:=c.on (λxs=>i.gJ.bind (ZS xs)) (λxs=>i.gJ.bind (natAt xs)) (abj i)
noncomputable def vt(o i:V):M V:=look T o (QX i)
noncomputable def xS(o i v:V):M Unit:=o.Wy M.fail λl=>M.bind (eK l) λc=>c.on M.fail (λ_=>M.fail) (λes=>if gn i es&&decide (es.length<cu)then jf l (.dict (cS i v es))else M.fail) λ_=>M.fail
noncomputable def Ft(o i:V):M Unit:=o.Wy M.fail λl=>M.bind (eK l) λc=>c.on M.fail (λ_=>M.fail) (λes=>if gn i es&&(bJ i es).isSome then jf l (.dict (kI i es))else M.fail) λ_=>M.fail
noncomputable def bK(n:Nat)(o:Option Int)(d:Nat):Nat:=Option.casesOn (motive:=λ_=>Nat) o d λi=>if 0<=i then min i.toNat n else(n+i).toNat
noncomputable def cut(xs:List V)(lo hi:Option Int):List V:=(xs.take (bK xs.length hi xs.length)).drop (bK xs.length lo 0)
noncomputable def abk(o:Option V):Option (Option Int):=Option.casesOn (motive:=λ_=>Option (Option Int)) o (some none) λv=>v.gJ.map some
noncomputable def ug(lo hi:Option V)(c:Ct):Option V:=(abk lo).bind λa=>(abk hi).bind λb=>c.on (λxs=>if(cut xs a b).length=xs.length then none else some (.aC (cut xs a b))) (λxs=>some (.lst (cut xs a b))) λ_=>none
noncomputable def jg(x:V):List V->Bool:=List.rec false λy _ r=>decide (y=x)||r
noncomputable def vz(x:V)(c:Ct):Option Bool:=c.on (λxs=>if x.plain&&(V.cZ xs&&decide (x.gF<=fU))then some (jg x xs)else none) (λxs=>if x.plain&&(V.cZ xs&&decide (x.gF<=fU))then some (jg x xs)else none) λes=>if gn x es then some (bJ x es).isSome else none
inductive COp where|eq|ne|lt|le|gt|ge|eU|dz|ZT
inductive xT where|add|aE|mod|fdiv|or|and
noncomputable def eqP(c d:Ct):Option Bool:=c.on (λ_=>none) (λxs=>d.on (λ_=>none) (λys=>if V.cZ xs&&(V.cZ ys&&decide (V.abi ys+1<=fU))then some (decide (xs=ys))else none) λ_=>none) λes=>d.on (λ_=>none) (λ_=>none) λfs=>if es.isEmpty&&fs.isEmpty then some true else none
noncomputable def eqV(a b:V):M Bool:=if a.plain&&(b.plain&&decide (min a.gF b.gF<=fU))then M.pure (decide (a=b))else M.bind (vp T a) λc=>M.bind (vp T b) λd=>bX (eqP c d)
noncomputable def QY(f:Int->Int->Bool)(a b:V):M Bool:=bX (a.gJ.bind λx=>b.gJ.map λy=>f x y)
noncomputable def Jg(a b:V):Option Bool:=if b.fG=0 then(if a.fG=0 then some false else if a.fG=3 then some true else none)else none
noncomputable def aM(op:COp)(a b:V):M Bool:=COp.casesOn (motive:=λ_=>M Bool) op (eqV T a b) (M.bind (eqV T a b) λr=>M.pure (! r)) (QY (λx y=>decide (x<y)) a b) (QY (λx y=>decide (x<=y)) a b) (QY (λx y=>decide (x>y)) a b) (QY (λx y=>decide (x≥y)) a b)
 (look T b (vz a)) (M.bind (look T b (vz a)) λr=>M.pure (! r)) (bX (Jg a b))
noncomputable def CU(x y:Int):Bool:=decide (0<=x)&&(decide (x<2^20)&&(decide (0<=y)&&decide (y<2^20)))
noncomputable def binI(op:xT)(x y:Int):Option Int:=xT.casesOn (motive:=λ_=>Option Int) op (some (x+y)) (some (x-y)) (if 0<y then some (Int.fmod x y)else none) (if decide (0<y)&&decide (y<2^20)then some (Int.fdiv x y)else none)
 (if CU x y then some (x.toNat|||y.toNat:Nat)else none) (if CU x y then some (x.toNat&&&y.toNat:Nat)else none)
noncomputable def NW(f:List V->V)(t:Nat)(xs:List V)(b:V):Option V:=if b.fG=t then(if xs.length+b.g9.length<cu then some (f (xs++b.g9))else none)else none
noncomputable def xT.LN(op:xT):Bool:=xT.casesOn (motive:=λ_=>Bool) op true false false false false false
noncomputable def abn(op:xT)(a b:V):Option V:=if a.fG=2 then b.gJ.bind λy=>(binI op a.tU y).map V.int else if op.LN then a.onC none (λxs=>NW .aC 4 xs b) (λxs=>NW .lst 5 xs b) (λ_=>none) λ_=>none else none
noncomputable def d9(op:xT)(a b:V):M V:=bX (abn op a b)
noncomputable def aeV(op:xT)(x y:Int):Option Int:=xT.casesOn (motive:=λ_=>Option Int) op (some (x+y)) (some (x-y)) none none none none
noncomputable def NY(op:xT)(a b:V):M V:=bX (a.gJ.bind λx=>b.gJ.bind λy=>(aeV op x y).map V.int)
noncomputable def CV(c:Ct):Option Bool:=c.on (λxs=>some (! xs.isEmpty)) (λxs=>some (! xs.isEmpty)) λ_=>none
noncomputable def gK(v:V):M Bool:=if v.fG=0 then M.pure false else if v.fG=1 then M.pure (v.tU==1)else if v.fG=2 then M.pure (decide (v.tU≠0))else look T v CV
noncomputable def xU(lo:Int)(n:Nat):List V:=Nat.rec (motive:=λ_=>Int->List V) (λ_=>[]) (λ_ r lo=>.int lo::r (lo+1)) n lo
noncomputable def abo(l:Nat)(c:bw):M (V×List V):=c.on M.fail (λxs=>M.pure (.ref l,xs)) (λes=>if es.isEmpty then M.pure (.none,[])else M.fail) λ_=>M.fail
noncomputable def items(v:V):M (V×List V):=if v.fG=8 then M.pure (v,xU v.tU (v.Ww-v.tU).toNat)else v.onC M.fail (λxs=>M.pure (v,xs)) (λxs=>M.pure (v,xs)) (λl=>M.bind (eK l) (abo l)) λ_=>M.fail
noncomputable def dO(v:V)(xs:List V):M Unit:=v.Wy (M.pure ()) λl=>M.bind (eK l) λc=>c.on M.fail (λys=>if xs=ys then M.pure ()else M.fail) (λ_=>M.fail) λ_=>M.fail
noncomputable def c7{α:Type}(m:M α):M α:=λs=>fH.casesOn (motive:=λ_=>fH α) (m s) .ok (λ_=>.aJ) .aJ
inductive Tg where
 |aR (i:Nat)
 |nM (is:List Nat)
abbrev aQ:=List (Option V)
noncomputable def rd(ρ:aQ)(i:Nat):M V:=bX (ρ[i]?.bind id)
noncomputable def wr(ρ:aQ)(i:Nat)(v:V):aQ:=ρ.set i (some v)
noncomputable def V7(ρ:aQ)(is:List Nat)(vs:List V):Option aQ:=List.rec (motive:=λ_=>aQ->List V->Option aQ) (λρ vs=>if vs.isEmpty then some ρ else none) (λi _ r ρ vs=>vs.casesOn (motive:=λ_=>Option aQ) none λv vs=>r (wr ρ i v) vs) is ρ vs
noncomputable def qE(ρ:aQ)(t:Tg)(v:V):Option aQ:=Tg.casesOn (motive:=λ_=>Option aQ) t (λi=>some (wr ρ i v)) λis=>v.Fq.bind (V7 ρ is)
noncomputable def qF(ρ:aQ)(is:List Nat):aQ:=is.foldl (λρ i=>ρ.set i none) ρ
noncomputable def Tg.slots(t:Tg):List Nat:=Tg.casesOn (motive:=λ_=>List Nat) t (λi=>[i]) id
inductive E where
 |br (v:V)
 |var (i:Nat)
 |aC (es:List E)
 |list (es:List E)
 |j7 (es:List E)
 |dict (ks:List V) (vs:List E)
 |d9 (op:xT) (a b:E)
 |neg (a:E)
 |not (a:E)
 |and (es:List E)
 |or (es:List E)
 |aM (op:COp) (a b:E)
 |ite (t a b:E)
 |attr (o:E) (n:Nm)
 |aE (o i:E)
 |V8 (o:E) (lo hi:Option E)
 |call (f:E) (args:List E)
 |bA (o:E) (n:Nm) (args:List E)
 |comp (elt:E) (t:Tg) (cD:E) (ifs:List E)
 |jU
 |By (elt:E) (t:Tg) (cD:E) (t2:Tg) (qG:E)
inductive S where
 |set (x:Nat) (e:E)
 |Fv (xs:List Nat) (e:E)
 |bC (o:E) (n:Nm) (e:E)
 |dR (o i:E) (e:E)
 |uh (o:E) (n:Nm) (op:xT) (e:E)
 |gM (e:E)
 |ite (t:E) (a b:List S)
 |dK (t:Tg) (cD:E) (body:List S)
 |QZ (t:E) (body:List S)
 |ret (e:E)
 |rS
 |jU
 |um
 |jC (x:Nat) (e:E) (y:Nat) (v:V)
 |Qk (o i:E)
inductive Fl where
 |next (ρ:aQ)
 |ret (v:V)
noncomputable def Jh{α:Type}(le:α->α->Bool)(a:α):List α->List α:=List.rec [a] λb bs r=>if le a b then a::b::bs else b::r
noncomputable def j8{α:Type}(le:α->α->Bool):List α->List α:=List.rec [] λa _ r=>Jh le a r
noncomputable def xV(xs:List V):Option (List Int):=if xs.all (λv=>v.fG==2)then some (xs.map V.tU)else none
noncomputable def Ji(xs:List V):Option (List Nm):=if xs.all (λv=>v.fG==3)then some (xs.map V.Jf)else none
noncomputable def Wz(a b:Nm):Bool:=decide (a<=b)
noncomputable def LO(xs:List V):Option (List V):=((xV xs).map λis=>(j8 (λa b=>decide (a<=b)) is).map V.int)<|>(Ji xs).map λss=>(j8 Wz ss).map V.str
noncomputable def AK(m:Int)(l:List Int):Int:=l.foldl (λm a=>if a<m then a else m) m
noncomputable def abp(c:Ct):Option V:=c.on (λxs=>some (.int xs.length)) (λxs=>some (.int xs.length)) λ_=>none
noncomputable def wR(c:Ct):Option V:=c.on (λ_=>none) (λ_=>none) λes=>if es.length<64 then(LO (es.map (·.1))).map V.lst else none
noncomputable def abq(c:Ct):Option V:=c.on (λ_=>none) (λxs=>(xV xs).bind λl=>l.head?.map λm=>.int (AK m l.tail)) λ_=>none
noncomputable def Jj(c:Ct):Option V:=c.on (λxs=>some (.aC xs)) (λxs=>some (.aC xs)) λ_=>none
noncomputable def ZU(n:Nat)(c:Ct):Option V:=if n=0 then abp c else if n=1 then wR c else if n=2 then abq c else if n=4 then Jj c else none
noncomputable def vV(i:Int):Bool:=decide (-(2^20)<i)&&decide (i<2^20)
noncomputable def CW(a b:V):Option V:=a.gJ.bind λx=>b.gJ.bind λy=>if vV x&&vV y then some (.Fp x y)else none
noncomputable def builtin(n:Nat)(args:List V):M V:=args.casesOn (motive:=λ_=>M V) M.fail λv r=>r.casesOn (motive:=λ_=>M V) (if n=5 then bX (CW (.int 0) v)else look T v (ZU n)) λu r=>if n=5&&r.isEmpty then bX (CW v u)else M.fail
noncomputable def j9:Nm:=vQ
noncomputable def kg:Nm:=[101,120,116,101,110,100]
noncomputable def nY:Nm:=[112,111,112]
noncomputable def vW:Nm:=vR
noncomputable def aeW(n:Nm)(c:Ct):Option Nat:=c.on (λ_=>none) (λ_=>if n=j9\/n=kg\/n=nY then some 1 else none) λ_=>if n=vW\/n=nY then some 2 else none
noncomputable def CX(o:V)(n:Nm):M Nat:=o.onO (look T o (aeW n)) λc l=>M.bind (eK l) λk=>k.on M.fail (λ_=>M.fail) (λ_=>M.fail) λa=>bX ((T.bA c n).bind λf=>if(lk n a).isNone then some f else none)
noncomputable def ajF(args:List V)(c:Ct):Option V:=c.on (λ_=>none) (λ_=>none) λes=>args.casesOn (motive:=λ_=>Option V) none λk r=>if gn k es then r.casesOn (motive:=λ_=>Option V) (some ((bJ k es).getD .none)) λd r=>if r.isEmpty then some ((bJ k es).getD d)else none else none
noncomputable def gg{α:Type}(m:M Unit)(a:α):M α:=M.bind m λ_=>M.pure a
noncomputable def Fw(l:Nat)(n:Nm)(args:List V)(xs:List V):M V:=args.casesOn (motive:=λ_=>M V)
 (if n=nY then M.bind (bX xs.getLast?) λv=>gg (jf l (.list xs.dropLast)) v else M.fail) λv r=>if r.isEmpty then
  (if n=j9 then(if xs.length<cu then gg (jf l (.list (xs++[v]))) .none else M.fail)
   else if n=kg then(if v=.ref l then M.fail else M.bind (vp T v) λc=>c.on (λ_=>M.fail) (λys=>if xs.length+ys.length<cu then gg (jf l (.list (xs++ys))) .none else M.fail) λ_=>M.fail)else M.fail)else M.fail
noncomputable def Fy(l:Nat)(n:Nm)(args:List V)(es:List (V×V)):M V:=args.casesOn (motive:=λ_=>M V) M.fail λk r=>r.casesOn (motive:=λ_=>M V) M.fail λd r=>if r.isEmpty&&(decide (n=nY)&&gn k es)then
  ((bJ k es).casesOn (motive:=λ_=>M V) (M.pure d) λv=>gg (jf l (.dict (kI k es))) v)else M.fail
noncomputable def kh(l:Nat)(ks xs:List V)(c:bw):M V:=c.on M.fail (λ_=>M.fail) (λes=>if es.isEmpty&&(decide (xs.length=ks.length)&&(ks.all (λk=>k.i7&&k.fG==3)&&decide ks.Nodup))then gg (jf l (.dict (ks.zip xs))) (.ref l)else M.fail) λ_=>M.fail
noncomputable def nZ(c l:Nat)(v:V):M V:=if v.fG=0 then M.pure (.fE c l)else M.fail
section
variable(C:Nat->List V->M V)
noncomputable def k7(f:V)(args:List V):M V:=f.onF M.fail (λa=>C a args)
 (λc=>(T.init c).casesOn (motive:=λ_=>M V) M.fail λi=>i.casesOn (motive:=λ_=>M V) (if args.isEmpty then M.bind (qb (.ns [])) λl=>M.pure (.fE c l)else M.fail) λi=>M.bind (qb (.ns [])) λl=>M.bind (C i (.fE c l::args)) (nZ c l)) λn=>builtin T n args
noncomputable def Fz(o:V)(n:Nm)(k:Nat)(args:List V):M V:=if k=2 then(if n=vW then look T o (ajF args)else o.Wy M.fail λl=>M.bind (eK l) λc=>c.on M.fail (λ_=>M.fail) (Fy l n args) λ_=>M.fail)
 else o.Wy M.fail λl=>M.bind (eK l) λc=>c.on M.fail (Fw T l n args) (λ_=>M.fail) λ_=>M.fail
noncomputable def gZ(o:V)(n:Nm)(k:Nat)(args:List V):M V:=o.onO (Fz T o n k args) λ_ _=>C k (o::args)
noncomputable def Au(k:aQ->M Fl)(f:Fl):M Fl:=Fl.casesOn (motive:=λ_=>M Fl) f k λv=>M.pure (.ret v)
noncomputable def BA(l:Nat)(v:V)(c:bw):M Unit:=c.on M.fail (λys=>if ys.length<cu then jf l (.list (ys++[v]))else M.fail) (λ_=>M.fail) λ_=>M.fail
noncomputable def uo(l:Nat)(c:bw):M V:=c.on M.fail (λys=>gg (jf l .bH) (.lst ys)) (λ_=>M.fail) λ_=>M.fail
noncomputable def wT{α:Type}(o:Option aQ)(f:aQ->M α):M α:=M.bind (bX o) f
noncomputable def jD(step:V->M Unit)(cD:V)(xs:List V)(r:List V):M Unit:=List.rec (dO cD xs) (λx _ k=>M.bind (dO cD xs) λ_=>M.bind (c7 (step x)) λ_=>k) r
noncomputable def vA(step:V->aQ->M Fl)(cD:V)(xs:List V)(r:List V):aQ->M Fl:=List.rec (λρ=>M.bind (dO cD xs) λ_=>M.pure (.next ρ)) (λx _ k ρ=>M.bind (dO cD xs) λ_=>M.bind (c7 (step x ρ)) (Au k)) r
noncomputable def gO(test:aQ->M Bool)(body:aQ->M Fl)(n:Nat):aQ->M Fl:=Nat.rec (λ_=>M.fail) (λ_ k ρ=>M.bind (c7 (test ρ)) λb=>if b then M.bind (c7 (body ρ)) (Au k)else M.pure (.next ρ)) n
noncomputable def fH.mw{α:Type}(o:fH α):Prop:=fH.casesOn (motive:=λ_=>Prop) o (λ_ _=>False) (λ_=>False) True
open Classical in
noncomputable def n7(test:aQ->M Bool)(body:aQ->M Fl)(ρ:aQ):M Fl:=λs=>if h:∃n,¬(gO test body n ρ s).mw then gO test body h.choose ρ s else .aJ
mutual
noncomputable def fV:E->aQ->M V
 |.br v,_=>M.pure v
 |.var i,ρ=>rd ρ i
 |.aC es,ρ=>M.bind (qc es ρ) λvs=>M.pure (.aC vs)
 |.list es,ρ=>M.bind (qc es ρ) λvs=>M.pure (.lst vs)
 |.j7 es,ρ=>M.bind (qc es ρ) λvs=>M.bind (qb (.list vs)) λl=>M.pure (.ref l)
 |.dict ks vs,ρ=>M.bind (qb (.dict [])) λl=>M.bind (qc vs ρ) λxs=>M.bind (eK l) (kh l ks xs)
 |.d9 op a b,ρ=>M.bind (fV a ρ) λx=>M.bind (fV b ρ) λy=>d9 op x y
 |.neg a,ρ=>M.bind (fV a ρ) λx=>bX (x.gJ.map λi=>.int (-i))
 |.not a,ρ=>M.bind (fV a ρ) λx=>M.bind (gK T x) λb=>M.pure (.bool (! b))
 |.and es,ρ=>evB true es ρ
 |.or es,ρ=>evB false es ρ
 |.aM op a b,ρ=>M.bind (fV a ρ) λx=>M.bind (fV b ρ) λy=>M.bind (aM T op x y) λr=>M.pure (.bool r)
 |.ite t a b,ρ=>M.bind (BB t ρ (fV t ρ)) λc=>if c then fV a ρ else fV b ρ
 |.attr o n,ρ=>M.bind (fV o ρ) λx=>vq x n
 |.aE o i,ρ=>M.bind (fV o ρ) λx=>M.bind (fV i ρ) λy=>vt T x y
 |.V8 o lo hi,ρ=>M.bind (fV o ρ) λx=>M.bind (evO lo ρ) λa=>M.bind (evO hi ρ) λb=>look T x (ug a b)
 |.call f args,ρ=>M.bind (fV f ρ) λx=>M.bind (qc args ρ) λvs=>k7 T C x vs
 |.bA o n args,ρ=>M.bind (fV o ρ) λx=>M.bind (CX T x n) λk=>M.bind (qc args ρ) λvs=>gZ T C x n k vs
 |.comp elt t cD ifs,ρ=>M.bind (fV cD ρ) λv=>M.bind (items v) λp=>M.bind (qb (.list [])) λl=>
   M.bind (jD (λx=>wT (qE ρ t x) λfJ=>M.bind (evI ifs fJ) λb=>if b then M.bind (fV elt fJ) λy=>M.bind (eK l) (BA l y)else M.pure ()) p.1 p.2 p.2) λ_=>M.bind (eK l) (uo l)
 |.jU,_=>M.fail
 |.By elt t cD t2 qG,ρ=>M.bind (fV cD ρ) λv=>M.bind (items v) λp=>M.bind (qb (.list [])) λl=>
   M.bind (jD (λx=>wT (qE (qF ρ t2.slots) t x) λfJ=>M.bind (fV qG fJ) λv2=>M.bind (items v2) λp2=>jD (λx2=>wT (qE fJ t2 x2) λQ0=>M.bind (fV elt Q0) λy=>M.bind (eK l) (BA l y)) p2.1 p2.2 p2.2) p.1 p.2 p.2) λ_=>M.bind (eK l) (uo l)
noncomputable def qc:List E->aQ->M (List V)
 |[],_=>M.pure []
 |e::es,ρ=>M.bind (fV e ρ) λv=>M.bind (qc es ρ) λvs=>M.pure (v::vs)
noncomputable def evO:Option E->aQ->M (Option V)
 |none,_=>M.pure none
 |some e,ρ=>M.bind (fV e ρ) λv=>M.pure (some v)
noncomputable def evB:Bool->List E->aQ->M V
 |_,[],_=>M.fail
 |b,e::es,ρ=>M.bind (fV e ρ) λv=>if es.isEmpty then M.pure v else M.bind (gK T v) λt=>if t=b then evB b es ρ else M.pure v
noncomputable def evI:List E->aQ->M Bool
 |[],_=>M.pure true
 |e::es,ρ=>M.bind (BB e ρ (fV e ρ)) λb=>if b then evI es ρ else M.pure false
noncomputable def BB:E->aQ->M V->M Bool
 |.not a,ρ,_=>M.bind (BB a ρ (fV a ρ)) λb=>M.pure (! b)
 |.and es,ρ,_=>evA true es ρ
 |.or es,ρ,_=>evA false es ρ
 |.aM op a b,ρ,_=>M.bind (fV a ρ) λx=>M.bind (fV b ρ) λy=>aM T op x y
 |.ite t a b,ρ,_=>M.bind (BB t ρ (fV t ρ)) λc=>if c then BB a ρ (fV a ρ)else BB b ρ (fV b ρ)
 |_,_,w=>M.bind w (gK T)
noncomputable def evA:Bool->List E->aQ->M Bool
 |b,[],_=>M.pure b
 |b,e::es,ρ=>M.bind (BB e ρ (fV e ρ)) λt=>if t=b then evA b es ρ else M.pure (! b)
end
mutual
noncomputable def i8:S->aQ->M Fl
 |.set x e,ρ=>M.bind (fV T C e ρ) λv=>M.pure (.next (wr ρ x v))
 |.Fv xs e,ρ=>M.bind (fV T C e ρ) λv=>wT (qE ρ (.nM xs) v) λfJ=>M.pure (.next fJ)
 |.bC o n e,ρ=>M.bind (fV T C e ρ) λv=>M.bind (fV T C o ρ) λx=>M.bind (rR x n v) λ_=>M.pure (.next ρ)
 |.dR o i e,ρ=>M.bind (fV T C e ρ) λv=>M.bind (fV T C o ρ) λx=>M.bind (fV T C i ρ) λy=>M.bind (xS x y v) λ_=>M.pure (.next ρ)
 |.uh o n op e,ρ=>M.bind (fV T C o ρ) λx=>M.bind (vq x n) λa=>M.bind (fV T C e ρ) λb=>M.bind (NY op a b) λr=>M.bind (rR x n r) λ_=>M.pure (.next ρ)
 |.gM e,ρ=>M.bind (fV T C e ρ) λ_=>M.pure (.next ρ)
 |.ite t a b,ρ=>M.bind (BB T C t ρ (fV T C t ρ)) λc=>if c then eZ a ρ else eZ b ρ
 |.dK t cD body,ρ=>M.bind (fV T C cD ρ) λv=>M.bind (items v) λp=>vA (λx ρ=>wT (qE ρ t x) (eZ body)) p.1 p.2 p.2 ρ
 |.QZ t body,ρ=>n7 (λρ=>BB T C t ρ (fV T C t ρ)) (eZ body) ρ
 |.ret e,ρ=>M.bind (fV T C e ρ) λv=>M.pure (.ret v)
 |.rS,_=>.exc
 |.jU,_=>M.fail
 |.um,_=>M.pure (.ret .none)
 |.jC x e y v,ρ=>λs=>fH.casesOn (motive:=λ_=>fH Fl) (fV T C e ρ s) (λr s'=>.ok (.next (wr ρ x r)) s') (λs'=>.ok (.next (wr ρ y v)) s') .aJ
 |.Qk o i,ρ=>M.bind (fV T C o ρ) λx=>M.bind (fV T C i ρ) λy=>M.bind (Ft x y) λ_=>M.pure (.next ρ)
noncomputable def eZ:List S->aQ->M Fl
 |[],ρ=>M.pure (.next ρ)
 |s::r,ρ=>M.bind (i8 s ρ) (Au (eZ r))
end
end
structure Fn where
 gP:Nat
 slots:Nat
 m6:List V
 body:List S
noncomputable def abr(r:Fl):M V:=Fl.casesOn (motive:=λ_=>M V) r (λ_=>M.pure .none) M.pure
noncomputable def Fn.env(f:Fn)(args:List V):aQ:=(args++f.m6.drop (f.m6.length-(f.gP-args.length))).map some++List.replicate (f.slots-f.gP) none
noncomputable def Fn.Q2(f:Fn)(args:List V):Bool:=decide (args.length<=f.gP)&&decide (f.gP<=args.length+f.m6.length)
noncomputable def aS(T:iL)(FT:Nat->Option Fn)(d:Nat):Nat->List V->M V:=Nat.rec (λ_ _=>M.fail) (λ_ C a args=>M.bind (bX (FT a)) λf=>if f.Q2 args then M.bind (eZ T C f.body (f.env args)) abr else M.fail) d
end
end Mine
end
set_option tactic.hygienic true
section
open PySem PySem.W
namespace Mine
noncomputable abbrev PW:=PySem.Challenge.pw_xw0135_01
namespace H
noncomputable def hb:List Stmt:=behindTheImports PW
noncomputable def hn(l:List Stmt)(i:Nat):Stmt:=(l.drop i).headD (.Pass ⟨0,0,0,0⟩)
noncomputable def hk(s:Stmt):List Stmt:=match s with
 |.ClassDef _ _ _ b _ _ _ _ _ _ _=>b
 |_=>[]
noncomputable def hw(s:Stmt)(k:Str->Arguments->List Stmt->Scope->Pos->List Obj):List Obj:=match s with
 |.FunctionDef n a b _ _ _ sc _ _ p=>k n a b sc p
 |_=>[]
noncomputable def hs(x:String)(t:Nat):Value:=.str (Str.ofString x) t
noncomputable def he(P:Params)(k:String)(t:Nat)(v:Value):DictEntry:=⟨PyData.keyHash P (Str.ofString k),hs k t,v⟩
noncomputable def ht(l:List Value):Obj:=⟨.type "tuple",none,.seq l.toArray 0,#[]⟩
noncomputable def hf(l:List Value):Obj:=⟨.none,none,.fields l.toArray,#[]⟩
noncomputable def ho(c:String)(l:List Value):Obj:=⟨.type c,none,.fields l.toArray,#[]⟩
noncomputable def hd(l:List DictEntry)(n:Nat):Obj:=⟨.type "dict",none,.dict l.toArray n,#[]⟩
noncomputable def LP(t:Nat):Value:=hs "/claim/cut.py" t
noncomputable def hc(n:String)(a t l:Nat):Obj:=ho "code" [hs n t,hs n (t+1),LP (t+2),.int l 0,.int 0 0,.int 0 0,.int 0 0,.int 0 0,.ref (a-2),.bool false,.int 181 0,.ref (a-1),.none,.none,.none,.none,.int (t+3:Nat) 0,.int l 0,LP (t+4)]
noncomputable def hr(c n m:Value):Obj:=⟨.type "frame",none,.plain,#[some c,some (.ref 3),some n,none,some m,none,some (.ref 0)]⟩
noncomputable def hl(n:String)(bs mro:List Value)(a ns:Nat)(ajG:List Value)(s0:Option Value)(t1 t2:Nat)(nw:Value):Obj:=⟨.type "type",none,.cls ⟨Str.ofString n,bs,.ref a::mro,ns,Str.ofString n,true,[],ajG,false,none,false⟩,#[s0,none,some (hs n t1),some (hs n t2),some nw,some (.bool true)]⟩
noncomputable def ZV(n q:Str)(t:Nat)(p:Pos)(a:Arguments)(b:Nat)(r1 r2:Value)(f t2:Nat):Obj:=ho "code" [.str n t,.str q (t+1),LP (t+2),.int p.line 0,.int (a.posonlyargs.length+a.args.length:Nat) 0,.int 0 0,.int 0 0,.int 3 0,.ref b,.bool true,.int 181 0,.ref (b+1),.none,r1,r2,.ref f,.int t2 0,.int p.line 0,LP (t2+1)]
noncomputable def hfn(c:Value)(n q:Str)(a:Arguments)(b:List Stmt)(sc:Scope)(g:Nat)(df md cd:Value):Obj:=⟨c,none,.func ⟨n,q,a,.stmts b,sc,g,[],df,.none,.none,md,none,cd,.none,0⟩,#[]⟩
noncomputable def aeZ(sc:Scope):List Str:=(sc.names.filter λx=>match x.2 with|.local=>true|_=>false).map (·.1)
noncomputable def V9(s:Stmt)(b t:Nat)(df md:Value)(q:Str->Str):List Obj:=hw s λn a x sc p=>[ht [],hf [],ht ((aeZ sc).zipIdx.map λy=>.str y.1 (t+3+y.2)),ht [],hfn .none n (q n) a x sc 0 .none .none .none,ZV n (q n) t p a b (.ref (b+2)) (.ref (b+3)) (b+4) (t+3+(aeZ sc).length),hfn (.type "function") n (q n) a x sc 3 df md (.ref (b+5))]
noncomputable def hgB(s:Stmt)(b t:Nat)(df md:Value)(q:Str->Str):List Obj:=hw s λn a x sc p=>[ht [],hf [],hfn .none n (q n) a x sc 0 .none .none .none,ZV n (q n) t p a b .none .none (b+2) (t+3),hfn (.type "function") n (q n) a x sc 3 df md (.ref (b+3))]
noncomputable def hq(x:String)(_:Str):Str:=Str.ofString x
noncomputable abbrev kR:Value:=hs "kindkeep.types" 283
noncomputable abbrev jR:Value:=hs "kindkeep.guess" 773
noncomputable abbrev rN:Value:=hs "kindkeep.hosts" 1391
noncomputable abbrev xW:Value:=hs "law_xw0135_01" 1649
noncomputable abbrev E3:Value:=hs "kindkeep.inferkind" 1245
noncomputable abbrev hm5:Value:=hs "kindkeep.typeops" 734
noncomputable abbrev NZ:Value:=hs "kindkeep.diags" 194
noncomputable abbrev hm7:Value:=hs "kindkeep.settle" 1214
noncomputable abbrev hm8:Value:=hs "__main__" 164
noncomputable abbrev hm9:Value:=hs "kindkeep.infershape" 1625
noncomputable def hA(i b t:Nat)(m:Value):List Obj:=V9 (hn hb i) b t .none m id
noncomputable def hB(i b t:Nat)(m:Value):List Obj:=hgB (hn hb i) b t .none m id
noncomputable def nT(c j b t:Nat)(m:Value)(q:String):List Obj:=V9 (hn (hk (hn hb c)) j) b t .none m (hq q)
noncomputable def hMB(c j b t:Nat)(m:Value)(q:String):List Obj:=hgB (hn (hk (hn hb c)) j) b t .none m (hq q)
noncomputable def qH:Obj:=ho "builtin_function_or_method" [.builtin "type.__prepare__",.type "type"]
noncomputable def uq(a:Nat):Obj:=ho "builtin_function_or_method" [.builtin "object.__init_subclass__",.ref a]
noncomputable def ur(a:Nat):Obj:=ho "super" [.ref a,.ref a,.ref a]
noncomputable def AL:Value:=.builtin "object.__new__"
noncomputable def vB(P:Params):Nat->Value->DictEntry:=he P "__module__"
noncomputable def N1(P:Params)(t:Nat)(q:String)(u:Nat):DictEntry:=he P "__qualname__" t (hs q u)
noncomputable def vC(P:Params)(t n u:Nat):DictEntry:=he P "__firstlineno__" t (.int n u)
noncomputable def tV(P:Params)(t a:Nat):DictEntry:=he P "__static_attributes__" t (.ref a)
noncomputable def LQ(P:Params)(t:Nat)(v:Value):DictEntry:=he P "__doc__" t v
noncomputable def hwr(P:Params)(t a:Nat):DictEntry:=he P "__weakref__" t (.ref a)
noncomputable def hdi(P:Params)(t a:Nat):DictEntry:=he P "__dict__" t (.ref a)
noncomputable def Jk(c n:Nat)(m:Value):Obj:=hr (.ref c) (.ref n) m
noncomputable def bh(P:Params)(k:String)(t a:Nat):DictEntry:=he P k t (.ref a)
noncomputable def gQ(P:Params)(k:String)(t:Nat)(n:Int)(u:Nat):DictEntry:=he P k t (.int n u)
noncomputable def hN(P:Params)(m:Value):List DictEntry:=[he P "__name__" 165 m,LQ P 166 .none,he P "__package__" 167 .none,he P "__loader__" 168 (.builtin "__main__.__loader__#opaque"),he P "__spec__" 169 .none,bh P "__annotations__" 170 6,bh P "__builtins__" 171 4,he P "__file__" 173 (hs "/claim/cut.py" 172),he P "__cached__" 174 .none,bh P "_wall" 193 21,bh P "KeepError" 226 39,bh P "TooDeep" 255 60,bh P "HostFault" 282 80,gQ P "Y_KEY" 286 1 285,gQ P "Y_BOOL" 288 2 287,gQ P "Y_STR" 290 3 289,gQ P "Y_NUM" 292 4 291,gQ P "Y_ENUM" 294 5 293,gQ P "Y_UNION" 296 6 295,gQ P "Y_INTER" 298 7 297,gQ P "Y_OBJ" 300 8 299,gQ P "Y_REF" 302 9 301,gQ P "Y_PARAM" 304 10 303,gQ P "Y_ARRAY" 306 11 305,gQ P "Y_TUPLE" 308 12 307,gQ P "Y_SIG" 310 13 309,gQ P "Y_KEYOF" 312 14 311,gQ P "Y_INDEX" 314 15 313,gQ P "Y_COND" 316 16 315,gQ P "Y_MAPPED" 318 17 317,gQ P "Y_TPL" 320 18 319,gQ P "Y_ALIAS" 322 19 321,gQ P "ANY" 324 0 323,gQ P "UNKNOWN" 326 1 325,gQ P "NEVER" 328 2 327,gQ P "VOID" 330 3 329,gQ P "UNDEF" 332 4 331,gQ P "NULLT" 334 5 333,gQ P "STRING" 336 6 335,gQ P "NUMBER" 338 7 337,gQ P "FALSE_T" 340 8 339,gQ P "TRUE_T" 342 9 341,gQ P "OBJECTT" 344 10 343,gQ P "EMPTY" 346 11 345,gQ P "BOOLEAN" 348 12 347,gQ P "ERR" 350 13 349,gQ P "FRESH_F" 352 14 351,gQ P "FRESH_T" 354 15 353,gQ P "FAM_OTHER" 356 0 355,gQ P "FAM_STR" 358 1 357,gQ P "FAM_NUM" 360 2 359,gQ P "FAM_BOOL" 362 3 361,gQ P "FAM_NULL" 364 4 363,gQ P "FAM_UNDEF" 366 5 365,gQ P "FAM_VOID" 368 6 367,gQ P "FAM_OBJ" 370 7 369,gQ P "MAX_UNION" 372 400 371,bh P "FIRST_ROWS" 394 105,bh P "LITERAL_ROWS" 395 106,bh P "MARKED_ROWS" 396 107,bh P "OBJECT_ROWS" 397 108,bh P "KEY_FAMILIES" 404 109,bh P "KID_SPANS" 420 110,bh P "TypeTable" 475 146,bh P "kind_of" 483 157,bh P "member_type" 498 165,bh P "sorted_props" 504 170,bh P "obj_type" 518 182,bh P "new_param" 533 190,bh P "parts_of" 542 197,bh P "whole_of_row" 550 204,bh P "regular_twin" 559 211,bh P "join_bools" 566 218,bh P "stays_beside" 575 225,bh P "top_of" 583 232,bh P "union" 589 237,bh P "add_undef" 597 244,bh P "is_literal" 605 251,bh P "is_unit" 613 258,bh P "is_fresh" 622 265,bh P "regular_one" 630 272,bh P "regular" 636 277,bh P "enum_type" 642 282,bh P "whole_of" 652 289,bh P "common_family" 658 294,bh P "meet_family" 669 301,bh P "family" 680 308,bh P "index_kids" 687 315,bh P "sig_kids" 693 320,bh P "object_kids" 699 325,bh P "row_kids" 705 330,bh P "row_binds" 712 337,bh P "inner_kids" 722 344,bh P "reached" 733 351,bh P "value_holds" 745 358,bh P "units_fit" 758 365,bh P "widen_one" 766 372,bh P "widen_literal" 772 377,gQ P "PR_PLAIN" 776 0 775,gQ P "PR_NAKED" 778 1 777,gQ P "PR_COND" 780 8 779,gQ P "PR_RETURN" 782 16 781,gQ P "PR_KEYOF" 784 32 783,gQ P "PR_MOST" 786 1024 785,he P "PR_CIRCLE" 789 (.int (-1) 788),he P "SLOT" 792 (.int (-2) 791),he P "MARK" 794 (hs "?" 793),gQ P "MOST_LEVEL" 796 12 795,gQ P "MOST_DEEP" 798 40 797,gQ P "MOST_STEPS" 800 20000 799,gQ P "MOST_BRANCHES" 802 3 801,bh P "ONCE_ROWS" 803 378,bh P "Meeter" 860 414,bh P "InferRule" 891 435,bh P "Guessing" 986 477,bh P "is_asked" 996 488,bh P "holds_primitive" 1010 496,bh P "keeps_literals" 1018 503,bh P "holds_mark" 1027 510,bh P "holds_own" 1033 515,bh P "at_top" 1046 523,bh P "begin_wanted" 1056 530,bh P "put_wanted" 1067 537,bh P "put_candidate" 1073 542,bh P "put_silent" 1083 549,bh P "infer_from" 1093 556,bh P "infer_target" 1104 563,bh P "infer_once" 1117 570,bh P "is_naked" 1126 577,bh P "same_or_literal" 1136 584,bh P "same_part" 1146 591,bh P "same_maker" 1157 598,bh P "take_matches" 1163 603,bh P "source_parts" 1169 608,bh P "infer_union" 1175 613,bh P "reached_by" 1187 620,bh P "infer_parts" 1193 625,bh P "met_naked" 1199 630,bh P "infer_each" 1213 637,bh P "best_priority" 1227 644,bh P "kept_kinds" 1233 649,bh P "stored" 1244 656,gQ P "MOD_ADD" 1248 1 1247,bh P "KeysRule" 1275 673,bh P "InferkindIndexRule" 1304 692,bh P "InferkindCondRule" 1336 711,bh P "keys_object" 1348 720,bh P "infer_keys" 1361 727,bh P "text_of_row" 1368 734,bh P "template_of" 1376 741,bh P "inferkind_slot_kind" 1390 748,gQ P "MOST_ROUNDS" 1394 200 1393,gQ P "MOST_SHAPES" 1396 40 1395,bh P "Thin" 1582 891,bh P "RefHost" 1624 926,bh P "RowMeeter" 1648 943,bh P "_law_take" 1660 952,bh P "_law_sum" 1666 957,bh P "_law_wide" 1672 962,bh P "_law_lay" 1678 967,bh P "_law_thing" 1684 972,bh P "_law_world" 1690 977,bh P "_law_some" 1700 984,bh P "_law_branched" 1711 991,bh P "_law_template" 1721 998,bh P "_law_kind" 1727 1003,bh P "_law_names" 1737 1010,bh P "_law_least" 1743 1015,bh P "_law_hear" 1762 1022,bh P "_law_keyed" 1768 1027,bh P "_law_branches" 1785 1034,bh P "_law_many" 1791 1039,bh P "_law_answer" 1806 1046,bh P "_law_room" 1816 1053,bh P "_law_right" 1834 1060,bh P "law" 1840 1065]
noncomputable def hF:List (Nat×Nat):=[(1,20),(5,27),(10,48),(15,68),(71,121),(97,156),(99,164),(105,169),(110,181),(112,189),(118,196),(125,203),(134,210),(139,217),(143,224),(147,231),(152,236),(169,243),(171,250),(173,257),(175,264),(178,271),(182,276),(186,281),(191,288),(199,293),(203,300),(212,307),(229,314),(231,319),(237,324),(242,329),(258,336),(266,343),(272,350),(282,357),(287,364),(297,371),(301,376),(318,384),(335,424),(339,445),(391,487),(399,495),(416,502),(420,509),(425,514),(431,522),(445,529),(452,536),(465,541),(495,548),(500,555),(515,562),(528,569),(550,576),(553,583),(561,590),(568,597),(576,602),(588,607),(590,612),(604,619),(612,624),(632,629),(641,636),(653,643),(660,648),(662,655),(670,662),(674,681),(682,700),(697,719),(709,726),(718,733),(724,740),(726,747),(749,754),(811,901),(822,934),(827,951),(832,956),(840,961),(842,966),(849,971),(852,976),(877,983),(883,990),(888,997),(901,1002),(908,1009),(917,1014),(919,1021),(945,1026),(951,1033),(965,1038),(987,1045),(1000,1052),(1007,1059),(1026,1064)]
noncomputable def hO(P:Params)(m:Value)(j i:Nat)(c d e f:List Value):List (List Obj):=[
 [boot_o_0 P,boot_o_1 P,⟨.none,none,.dict (List.toArray [gQ P "type.__subclasses__.Exception.0" 223 39 0,gQ P "type.__subclasses__.Exception.n" 224 1 0]) 2,#[]⟩,hd ((hN P m).take j) j,boot_o_4 P,boot_o_5 P,boot_o_6 P,boot_o_7 P,boot_o_8 P,boot_o_9 P,boot_o_10 P,ht [],hf ((hF.take i).flatMap λx=>[.int x.1 0,.int 0 0,.ref x.2]),hc "<module>" 13 182 1,Jk 13 3 hm8],hA 0 15 187 hm8,[ht [.type "Exception"],qH,hd [vB P 203 NZ,N1 P 205 "KeepError" 204,vC P 207 5 206,bh P "__init__" 216 36,tV P 219 37] 5,ht [],hf [.int 7 0,.int 4 0,.ref 35],hc "KeepError" 27 198 5,Jk 27 24 NZ,ht [hs "" 208]],V9 (hn (hk (hn hb 2)) 0) 30 209 (.ref 29) NZ (hq "KeepError.__init__"),[ht [hs "number" 217,hs "text" 218],hd [vB P 203 NZ,vC P 207 5 206,bh P "__init__" 216 36,tV P 219 37,hwr P 221 40,LQ P 222 .none] 3,hl "KeepError" [.type "Exception"] [.type "Exception",.type "BaseException",.type "object"] 39 38 e (some (.ref 22)) 196 204 (.builtin "Exception.__new__"),ho "getset_descriptor" [hs "__weakref__" 220,.ref 39,.builtin "ExceptionGroup.__weakref__",.none],ur 39,uq 39,ht [.ref 39],qH,hd [vB P 234 NZ,N1 P 236 "TooDeep" 235,vC P 238 10 237,bh P "__init__" 249 57,tV P 252 58] 5,ht [],hf [.int 12 0,.int 4 0,.ref 56],hc "TooDeep" 48 229 10,Jk 48 45 NZ,ht [.int 2589 239,hs "" 240]],V9 (hn (hk (hn hb 3)) 0) 51 241 (.ref 50) NZ (hq "TooDeep.__init__"),[ht [hs "number" 250,hs "text" 251],hd [vB P 234 NZ,vC P 238 10 237,bh P "__init__" 249 57,tV P 252 58,LQ P 253 .none] 2,hl "TooDeep" [.ref 39] [.ref 39,.type "Exception",.type "BaseException",.type "object"] 60 59 [] (some (.ref 43)) 227 235 (.builtin "Exception.__new__"),ur 60,uq 60,ht [.ref 39],qH,hd [vB P 263 NZ,N1 P 265 "HostFault" 264,vC P 267 15 266,bh P "__init__" 276 77,tV P 279 78] 5,ht [],hf [.int 17 0,.int 4 0,.ref 76],hc "HostFault" 68 258 15,Jk 68 65 NZ,ht [hs "" 268]],V9 (hn (hk (hn hb 4)) 0) 71 269 (.ref 70) NZ (hq "HostFault.__init__"),[ht [hs "number" 277,hs "text" 278],hd [vB P 263 NZ,vC P 267 15 266,bh P "__init__" 276 77,tV P 279 78,LQ P 280 .none] 2,hl "HostFault" [.ref 39] [.ref 39,.type "Exception",.type "BaseException",.type "object"] 80 79 [] (some (.ref 63)) 256 264 (.builtin "Exception.__new__"),ur 80,uq 80,ht [.int 1 285,hs "any" 373],ht [.int 1 285,hs "unknown" 374],ht [.int 1 285,hs "never" 375],ht [.int 1 285,hs "void" 376],ht [.int 1 285,hs "undefined" 377],ht [.int 1 285,hs "null" 378],ht [.int 1 285,hs "string" 379],ht [.int 1 285,hs "number" 380],ht [.int 2 287,.int 0 381,.int 0 382],ht [.int 2 287,.int 1 383,.int 0 384],ht [.int 1 285,hs "object" 385],ht [],ht [],ht [],ht [],ht [],ht [.int 8 299,.ref 94,.ref 95,.ref 96,.ref 97,.ref 98,.int 0 386],ht [.int 8 387,.int 9 388],ht [.int 6 295,.ref 100],ht [.int 1 285,hs "error" 389],ht [.int 2 287,.int 0 390,.int 1 391],ht [.int 2 287,.int 1 392,.int 1 393],ht [.ref 83,.ref 84,.ref 85,.ref 86,.ref 87,.ref 88,.ref 89,.ref 90,.ref 91,.ref 92,.ref 93,.ref 99,.ref 101,.ref 102,.ref 103,.ref 104],ht [.int 2 287,.int 3 289,.int 4 291,.int 5 293],ht [.int 2 287,.int 3 289,.int 4 291,.int 5 293,.int 8 299],ht [.int 8 299,.int 9 301,.int 11 305,.int 12 307,.int 13 309],hd [⟨3,.int 3 329,.int 6 367⟩,⟨4,.int 4 331,.int 5 365⟩,⟨5,.int 5 333,.int 4 363⟩,⟨6,.int 6 335,.int 1 357⟩,⟨7,.int 7 337,.int 2 359⟩,⟨10,.int 10 343,.int 7 369⟩] 6,hd [⟨11,.int 11 305,.ref 111⟩,⟨14,.int 14 311,.ref 112⟩,⟨15,.int 15 313,.ref 113⟩,⟨16,.int 16 315,.ref 114⟩,⟨17,.int 17 317,.ref 115⟩] 5,ht [.int 1 405,.int 2 406],ht [.int 1 407,.int 2 408],ht [.int 1 409,.int 3 410],ht [.int 1 411,.int 5 412],ht [.int 2 413,.int 5 414],ht [],qH,hd [vB P 428 kR,N1 P 430 "TypeTable" 429,vC P 432 71 431,bh P "__init__" 440 129,bh P "row" 448 136,bh P "put" 457 143,tV P 468 144] 7,ht [],hf [.int 73 0,.int 4 0,.ref 128,.int 87 0,.int 4 0,.ref 135,.int 90 0,.int 4 0,.ref 142],hc "TypeTable" 121 423 71,Jk 121 118 kR],nT 56 0 123 433 kR "TypeTable.__init__",nT 56 1 130 441 kR "TypeTable.row",nT 56 2 137 449 kR "TypeTable.put",[ht [hs "bounds" 458,hs "decls" 459,hs "defaults" 460,hs "index" 461,hs "names" 462,hs "origins" 463,hs "putting" 464,hs "renamed" 465,hs "rows" 466,hs "shaping" 467],hd [vB P 428 kR,vC P 432 71 431,bh P "__init__" 440 129,bh P "row" 448 136,bh P "put" 457 143,tV P 468 144,hdi P 470 147,hwr P 472 148,LQ P 473 .none] 4,hl "TypeTable" [.type "object"] [.type "object"] 146 145 [] none 421 429 AL,ho "getset_descriptor" [hs "__dict__" 469,.ref 146,.builtin "function.__dict__",.builtin "function.__dict__#set"],ho "getset_descriptor" [hs "__weakref__" 471,.ref 146,.builtin "ExceptionGroup.__weakref__",.none],ur 146,uq 146],hA 57 151 476 kR,[ht [.int 0 484]],V9 (hn hb 58) 159 485 (.ref 158) kR id,hB 59 166 499 kR,[ht [],ht [],ht [],ht [],ht [.ref 171,.ref 172,.ref 173,.ref 174,.int 0 505]],V9 (hn hb 60) 176 506 (.ref 175) kR id,[ht [.int (-1) 520,.int (-1) 522]],V9 (hn hb 61) 184 523 (.ref 183) kR id,hA 62 191 534 kR,hA 63 198 543 kR,hA 64 205 551 kR,hA 65 212 560 kR,hA 66 219 567 kR,hA 67 226 576 kR,hB 68 233 584 kR,hA 69 238 590 kR,hA 70 245 598 kR,hA 71 252 606 kR,hA 72 259 614 kR,hA 73 266 623 kR,hB 74 273 631 kR,hB 75 278 637 kR,hA 76 283 643 kR,hB 77 290 653 kR,hA 78 295 659 kR,hA 79 302 670 kR,hA 80 309 681 kR,hB 81 316 688 kR,hB 82 321 694 kR,hB 83 326 700 kR,hA 84 331 706 kR,hA 85 338 713 kR,hA 86 345 723 kR,hA 88 352 736 hm5,hA 89 359 746 hm5,hA 90 366 759 hm5,hB 91 373 767 hm5,[ht [.int 8 299,.int 9 301,.int 12 307,.int 16 315,.int 17 317],ht [],qH,hd [vB P 811 jR,N1 P 813 "Meeter" 812,vC P 815 318 814,bh P "meet" 824 392,bh P "params" 830 397,bh P "put" 843 404,bh P "store" 852 411,tV P 853 412] 8,ht [],hf [.int 320 0,.int 4 0,.ref 391,.int 323 0,.int 4 0,.ref 396,.int 326 0,.int 4 0,.ref 403,.int 333 0,.int 4 0,.ref 410],hc "Meeter" 384 806 318,Jk 384 381 jR],nT 107 0 386 816 jR "Meeter.meet",hMB 107 1 393 825 jR "Meeter.params",nT 107 2 398 831 jR "Meeter.put",nT 107 3 405 844 jR "Meeter.store",[ht [],hd [vB P 811 jR,vC P 815 318 814,bh P "meet" 824 392,bh P "params" 830 397,bh P "put" 843 404,bh P "store" 852 411,tV P 853 412,hdi P 855 415,hwr P 857 416,LQ P 858 .none] 4,hl "Meeter" [.type "object"] [.type "object"] 414 413 c none 804 812 AL,ho "getset_descriptor" [hs "__dict__" 854,.ref 414,.builtin "function.__dict__",.builtin "function.__dict__#set"],ho "getset_descriptor" [hs "__weakref__" 856,.ref 414,.builtin "ExceptionGroup.__weakref__",.none],ur 414,uq 414,ht [],qH,hd [vB P 868 jR,N1 P 870 "InferRule" 869,vC P 872 335 871,bh P "infer" 883 432,tV P 884 433] 5,ht [],hf [.int 337 0,.int 4 0,.ref 431],hc "InferRule" 424 863 335,Jk 424 421 jR],nT 108 0 426 873 jR "InferRule.infer",[ht [],hd [vB P 868 jR,vC P 872 335 871,bh P "infer" 883 432,tV P 884 433,hdi P 886 436,hwr P 888 437,LQ P 889 .none] 4,hl "InferRule" [.type "object"] [.type "object"] 435 434 d none 861 869 AL,ho "getset_descriptor" [hs "__dict__" 885,.ref 435,.builtin "function.__dict__",.builtin "function.__dict__#set"],ho "getset_descriptor" [hs "__weakref__" 887,.ref 435,.builtin "ExceptionGroup.__weakref__",.none],ur 435,uq 435,ht [],qH,hd [vB P 899 jR,N1 P 901 "Guessing" 900,vC P 903 339 902,bh P "__init__" 912 453,bh P "go" 922 460,bh P "deeper" 932 467,bh P "turn" 942 474,tV P 979 475] 8,ht [],hf [.int 341 0,.int 4 0,.ref 452,.int 379 0,.int 4 0,.ref 459,.int 382 0,.int 4 0,.ref 466,.int 387 0,.int 4 0,.ref 473],hc "Guessing" 445 894 339,Jk 445 442 jR],nT 109 0 447 904 jR "Guessing.__init__",nT 109 1 454 913 jR "Guessing.go",nT 109 2 461 923 jR "Guessing.deeper",nT 109 3 468 933 jR "Guessing.turn",[ht [hs "asked" 943,hs "best" 944,hs "both" 945,hs "co" 946,hs "contra" 947,hs "cuts" 948,hs "deep" 949,hs "fallen" 950,hs "fixed" 951,hs "fixing" 952,hs "found" 953,hs "hints" 954,hs "host" 955,hs "late" 956,hs "level" 957,hs "literal" 958,hs "low" 959,hs "meeter" 960,hs "pids" 961,hs "ranks" 962,hs "result" 963,hs "ret" 964,hs "ret_contra" 965,hs "returns" 966,hs "road" 967,hs "rules" 968,hs "seen" 969,hs "settling" 970,hs "slot" 971,hs "stands" 972,hs "steps" 973,hs "told" 974,hs "top" 975,hs "turned" 976,hs "watch" 977,hs "written" 978],hd [vB P 899 jR,vC P 903 339 902,bh P "__init__" 912 453,bh P "go" 922 460,bh P "deeper" 932 467,bh P "turn" 942 474,tV P 979 475,hdi P 981 478,hwr P 983 479,LQ P 984 .none] 4,hl "Guessing" [.type "object"] [.type "object"] 477 476 [] none 892 900 AL,ho "getset_descriptor" [hs "__dict__" 980,.ref 477,.builtin "function.__dict__",.builtin "function.__dict__#set"],ho "getset_descriptor" [hs "__weakref__" 982,.ref 477,.builtin "ExceptionGroup.__weakref__",.none],ur 477,uq 477],hA 110 482 987 jR,[ht [.int 0 997]],V9 (hn hb 111) 490 998 (.ref 489) jR id,hA 112 497 1011 jR,hA 113 504 1019 jR,hB 114 511 1028 jR,[ht [.int 0 1034]],V9 (hn hb 115) 517 1035 (.ref 516) jR id,hA 116 524 1047 jR,hA 117 531 1057 jR,hB 118 538 1068 jR,hA 119 543 1074 jR,hA 120 550 1084 jR,hA 121 557 1094 jR,hA 122 564 1105 jR,hA 123 571 1118 jR,hA 124 578 1127 jR,hA 125 585 1137 jR,hA 126 592 1147 jR,hB 127 599 1158 jR,hB 128 604 1164 jR,hB 129 609 1170 jR,hA 130 614 1176 jR,hB 131 621 1188 jR,hB 132 626 1194 jR,hA 133 631 1200 jR,hA 135 638 1216 hm7,hB 136 645 1228 hm7,hA 137 650 1234 hm7,[ht [.ref 435],qH,hd [vB P 1256 E3,N1 P 1258 "KeysRule" 1257,vC P 1260 670 1259,bh P "infer" 1271 670,tV P 1272 671] 5,ht [],hf [.int 672 0,.int 4 0,.ref 669],hc "KeysRule" 662 1251 670,Jk 662 659 E3],nT 140 0 664 1261 E3 "KeysRule.infer",[ht [],hd [vB P 1256 E3,vC P 1260 670 1259,bh P "infer" 1271 670,tV P 1272 671,LQ P 1273 .none] 2,hl "KeysRule" [.ref 435] [.ref 435,.type "object"] 673 672 [] (some (.ref 657)) 1249 1257 AL,ur 673,uq 673,ht [.ref 435],qH,hd [vB P 1283 E3,N1 P 1285 "InferkindIndexRule" 1284,vC P 1287 674 1286,bh P "infer" 1300 689,tV P 1301 690] 5,ht [],hf [.int 676 0,.int 4 0,.ref 688],hc "InferkindIndexRule" 681 1278 674,Jk 681 678 E3],nT 141 0 683 1288 E3 "InferkindIndexRule.infer",[ht [],hd [vB P 1283 E3,vC P 1287 674 1286,bh P "infer" 1300 689,tV P 1301 690,LQ P 1302 .none] 2,hl "InferkindIndexRule" [.ref 435] [.ref 435,.type "object"] 692 691 [] (some (.ref 676)) 1276 1284 AL,ur 692,uq 692,ht [.ref 435],qH,hd [vB P 1312 E3,N1 P 1314 "InferkindCondRule" 1313,vC P 1316 682 1315,bh P "infer" 1332 708,tV P 1333 709] 5,ht [],hf [.int 684 0,.int 4 0,.ref 707],hc "InferkindCondRule" 700 1307 682,Jk 700 697 E3],nT 142 0 702 1317 E3 "InferkindCondRule.infer",[ht [],hd [vB P 1312 E3,vC P 1316 682 1315,bh P "infer" 1332 708,tV P 1333 709,LQ P 1334 .none] 2,hl "InferkindCondRule" [.ref 435] [.ref 435,.type "object"] 711 710 [] (some (.ref 695)) 1305 1313 AL,ur 711,uq 711],hA 143 714 1337 E3,hA 144 721 1349 E3,hA 145 728 1362 E3,hA 146 735 1369 E3,hA 147 742 1377 E3,[ht [],qH,hd [vB P 1404 rN,N1 P 1406 "Thin" 1405,vC P 1408 749 1407,bh P "__init__" 1416 762,bh P "force" 1424 769,bh P "put_deferred" 1432 776,bh P "put_cond" 1441 783,bh P "lay_row" 1450 790,bh P "bound" 1458 797,bh P "shape" 1466 804,bh P "fits" 1475 811,bh P "lies" 1484 818,bh P "infers" 1494 825,bh P "tpl_fits" 1503 832,bh P "shape_fits" 1512 839,bh P "put_in" 1521 846,bh P "own_sig" 1530 853,bh P "forget" 1537 860,bh P "list_prop" 1546 867,bh P "list_index" 1554 874,bh P "elem_met" 1562 881,bh P "error_class" 1569 888,tV P 1575 889] 23,ht [],hf [.int 751 0,.int 4 0,.ref 761,.int 758 0,.int 4 0,.ref 768,.int 761 0,.int 4 0,.ref 775,.int 764 0,.int 4 0,.ref 782,.int 767 0,.int 4 0,.ref 789,.int 770 0,.int 4 0,.ref 796,.int 773 0,.int 4 0,.ref 803,.int 776 0,.int 4 0,.ref 810,.int 779 0,.int 4 0,.ref 817,.int 782 0,.int 4 0,.ref 824,.int 785 0,.int 4 0,.ref 831,.int 788 0,.int 4 0,.ref 838,.int 791 0,.int 4 0,.ref 845,.int 794 0,.int 4 0,.ref 852,.int 797 0,.int 4 0,.ref 859,.int 800 0,.int 4 0,.ref 866,.int 803 0,.int 4 0,.ref 873,.int 806 0,.int 4 0,.ref 880,.int 809 0,.int 4 0,.ref 887],hc "Thin" 754 1399 749,Jk 754 751 rN],nT 151 0 756 1409 rN "Thin.__init__",nT 151 1 763 1417 rN "Thin.force",nT 151 2 770 1425 rN "Thin.put_deferred",nT 151 3 777 1433 rN "Thin.put_cond",nT 151 4 784 1442 rN "Thin.lay_row",nT 151 5 791 1451 rN "Thin.bound",nT 151 6 798 1459 rN "Thin.shape",nT 151 7 805 1467 rN "Thin.fits",nT 151 8 812 1476 rN "Thin.lies",nT 151 9 819 1485 rN "Thin.infers",nT 151 10 826 1495 rN "Thin.tpl_fits",nT 151 11 833 1504 rN "Thin.shape_fits",nT 151 12 840 1513 rN "Thin.put_in",nT 151 13 847 1522 rN "Thin.own_sig",nT 151 14 854 1531 rN "Thin.forget",nT 151 15 861 1538 rN "Thin.list_prop",nT 151 16 868 1547 rN "Thin.list_index",nT 151 17 875 1555 rN "Thin.elem_met",nT 151 18 882 1563 rN "Thin.error_class",[ht [hs "deep" 1570,hs "lib" 1571,hs "most_deep" 1572,hs "most_rounds" 1573,hs "tab" 1574],hd [vB P 1404 rN,vC P 1408 749 1407,bh P "__init__" 1416 762,bh P "force" 1424 769,bh P "put_deferred" 1432 776,bh P "put_cond" 1441 783,bh P "lay_row" 1450 790,bh P "bound" 1458 797,bh P "shape" 1466 804,bh P "fits" 1475 811,bh P "lies" 1484 818,bh P "infers" 1494 825,bh P "tpl_fits" 1503 832,bh P "shape_fits" 1512 839,bh P "put_in" 1521 846,bh P "own_sig" 1530 853,bh P "forget" 1537 860,bh P "list_prop" 1546 867,bh P "list_index" 1554 874,bh P "elem_met" 1562 881,bh P "error_class" 1569 888,tV P 1575 889,hdi P 1577 892,hwr P 1579 893,LQ P 1580 .none] 4,hl "Thin" [.type "object"] [.type "object"] 891 890 f none 1397 1405 AL,ho "getset_descriptor" [hs "__dict__" 1576,.ref 891,.builtin "function.__dict__",.builtin "function.__dict__#set"],ho "getset_descriptor" [hs "__weakref__" 1578,.ref 891,.builtin "ExceptionGroup.__weakref__",.none],ur 891,uq 891,ht [.ref 891],qH,hd [vB P 1590 rN,N1 P 1592 "RefHost" 1591,vC P 1594 811 1593,bh P "shape" 1602 909,bh P "fits" 1611 916,bh P "lies" 1620 923,tV P 1621 924] 7,ht [],hf [.int 813 0,.int 4 0,.ref 908,.int 816 0,.int 4 0,.ref 915,.int 819 0,.int 4 0,.ref 922],hc "RefHost" 901 1585 811,Jk 901 898 rN],nT 152 0 903 1595 rN "RefHost.shape",nT 152 1 910 1603 rN "RefHost.fits",nT 152 2 917 1612 rN "RefHost.lies",[ht [],hd [vB P 1590 rN,vC P 1594 811 1593,bh P "shape" 1602 909,bh P "fits" 1611 916,bh P "lies" 1620 923,tV P 1621 924,LQ P 1622 .none] 2,hl "RefHost" [.ref 891] [.ref 891,.type "object"] 926 925 [] (some (.ref 896)) 1583 1591 AL,ur 926,uq 926,ht [.ref 414],qH,hd [vB P 1634 hm9,N1 P 1636 "RowMeeter" 1635,vC P 1638 822 1637,bh P "params" 1644 940,tV P 1645 941] 5,ht [],hf [.int 824 0,.int 4 0,.ref 939],hc "RowMeeter" 934 1629 822,Jk 934 931 hm9],hMB 154 0 936 1639 hm9 "RowMeeter.params",[ht [],hd [vB P 1634 hm9,vC P 1638 822 1637,bh P "params" 1644 940,tV P 1645 941,LQ P 1646 .none] 2,hl "RowMeeter" [.ref 414] [.ref 414,.type "object"] 943 942 [] (some (.ref 929)) 1627 1635 AL,ur 943,uq 943],hA 156 946 1651 xW,hB 157 953 1661 xW,hB 158 958 1667 xW,hB 159 963 1673 xW,hB 160 968 1679 xW,hB 161 973 1685 xW,hA 162 978 1691 xW,hA 163 985 1701 xW,hA 164 992 1712 xW,hB 165 999 1722 xW,hA 166 1004 1728 xW,hB 167 1011 1738 xW,hA 168 1016 1744 xW,hB 169 1023 1763 xW,hA 170 1028 1769 xW,hB 171 1035 1786 xW,hA 172 1040 1792 xW,hA 173 1047 1807 xW,hA 174 1054 1817 xW,hB 175 1061 1835 xW]
noncomputable def ae2(r:List Obj):Bool->List Obj:=r.rec (λ_=>[]) λx _ ih b=>cond b (x::ih (! b)) (ih (! b))
noncomputable def hbt(n:Nat):List Obj->BT:=n.rec (λ_=>.nil) λ_ f l=>l.casesOn .nil λx r=>.node x (f (ae2 r true)) (f (ae2 r false))
noncomputable def hT(P:Params)(n:Nat)(m:Value)(j i:Nat)(c d e f:List Value):BT:=hbt 11 ((hO P m j i c d e f).flatten.take n)
noncomputable def hE:PySem.Env:={scope:=PW.main.scope,locals:=mainNs,globals:=mainNs,cells:=[],code:=.ref 13,frame:=some 14}
noncomputable abbrev cE(l c e f:Nat):Pos:=⟨l,c,e,f⟩
noncomputable def hR(w:World)(N:Nat)(S:SharedT)(a m:Nat)(p:Pos):Option (Flow×SharedT×Code×Pos):=segRunT treeTable PW w 11 (some (.ref 6)) 1 N S (piecesOf ((hb.drop a).take m) hE (.body hb hE) p [topFrame (cE 0 0 0 0)])
noncomputable def hS0(w:World)(os:OsState):SharedT:=⟨hbt 5 [boot_o_0 w.params,boot_o_1 w.params,boot_o_2 w.params,boot_o_3 w.params,boot_o_4 w.params,boot_o_5 w.params,boot_o_6 w.params,boot_o_7 w.params,boot_o_8 w.params,boot_o_9 w.params,boot_o_10 w.params,ht [],hf [],hc "<module>" 13 182 1,Jk 13 3 hm8],15,{},⟨[]⟩,{},187,os⟩
noncomputable def hS1(w:World)(os:OsState):SharedT:=⟨hT w.params 63 NZ 12 3 [] [] [.ref 60] [],63,{},⟨[]⟩,{},256,os⟩
noncomputable def hS2(w:World)(os:OsState):SharedT:=⟨hT w.params 83 kR 28 4 [] [] [.ref 60,.ref 80] [],83,{},⟨[]⟩,{},315,os⟩
noncomputable def Q3(w:World)(os:OsState):SharedT:=⟨hT w.params 107 kR 59 4 [] [] [.ref 60,.ref 80] [],107,{},⟨[]⟩,{},396,os⟩
noncomputable def hS4(w:World)(os:OsState):SharedT:=⟨hT w.params 116 kR 63 4 [] [] [.ref 60,.ref 80] [],116,{},⟨[]⟩,{},421,os⟩
noncomputable def hS5(w:World)(os:OsState):SharedT:=⟨hT w.params 171 kR 67 8 [] [] [.ref 60,.ref 80] [],171,{},⟨[]⟩,{},505,os⟩
noncomputable def hS6(w:World)(os:OsState):SharedT:=⟨hT w.params 259 kR 79 20 [] [] [.ref 60,.ref 80] [],259,{},⟨[]⟩,{},614,os⟩
noncomputable def hS7(w:World)(os:OsState):SharedT:=⟨hT w.params 338 kR 92 33 [] [] [.ref 60,.ref 80] [],338,{},⟨[]⟩,{},713,os⟩
noncomputable def hS8(w:World)(os:OsState):SharedT:=⟨hT w.params 379 jR 112 39 [] [] [.ref 60,.ref 80] [],379,{},⟨[]⟩,{},804,os⟩
noncomputable def hS9(w:World)(os:OsState):SharedT:=⟨hT w.params 440 jR 114 41 [] [] [.ref 60,.ref 80] [],440,{},⟨[]⟩,{},892,os⟩
noncomputable def ae4(w:World)(os:OsState):SharedT:=⟨hT w.params 489 jR 116 43 [] [] [.ref 60,.ref 80] [],489,{},⟨[]⟩,{},997,os⟩
noncomputable def ae5(w:World)(os:OsState):SharedT:=⟨hT w.params 571 jR 128 55 [] [] [.ref 60,.ref 80] [],571,{},⟨[]⟩,{},1118,os⟩
noncomputable def ae6(w:World)(os:OsState):SharedT:=⟨hT w.params 650 hm7 141 68 [] [] [.ref 60,.ref 80] [],650,{},⟨[]⟩,{},1234,os⟩
noncomputable def ae7(w:World)(os:OsState):SharedT:=⟨hT w.params 695 E3 145 71 [] [.ref 673,.ref 692] [.ref 60,.ref 80] [],695,{},⟨[]⟩,{},1305,os⟩
noncomputable def ae8(w:World)(os:OsState):SharedT:=⟨hT w.params 749 rN 153 77 [] [.ref 673,.ref 692,.ref 711] [.ref 60,.ref 80] [],749,{},⟨[]⟩,{},1397,os⟩
noncomputable def ae9(w:World)(os:OsState):SharedT:=⟨hT w.params 896 rN 154 78 [] [.ref 673,.ref 692,.ref 711] [.ref 60,.ref 80] [],896,{},⟨[]⟩,{},1583,os⟩
noncomputable def afa(w:World)(os:OsState):SharedT:=⟨hT w.params 929 hm9 155 79 [] [.ref 673,.ref 692,.ref 711] [.ref 60,.ref 80] [.ref 926],929,{},⟨[]⟩,{},1627,os⟩
noncomputable def afb(w:World)(os:OsState):SharedT:=⟨hT w.params 973 xW 161 85 [.ref 943] [.ref 673,.ref 692,.ref 711] [.ref 60,.ref 80] [.ref 926],973,{},⟨[]⟩,{},1685,os⟩
noncomputable def afc(w:World)(os:OsState):SharedT:=⟨hT w.params 1066 xW 176 100 [.ref 943] [.ref 673,.ref 692,.ref 711] [.ref 60,.ref 80] [.ref 926],1066,{},⟨[]⟩,{},1841,os⟩
noncomputable def HTt(P:Params):BT:=hT P 1066 xW 176 100 [.ref 943] [.ref 673,.ref 692,.ref 711] [.ref 60,.ref 80] [.ref 926]
end H
namespace H
theorem hp0(w:World)(os:OsState):hR w 521 (hS0 w os) 0 4 (cE 0 0 0 0)=some (.next,hS1 w os,.body hb hE,(cE 10 0 14 24)):=by kernel_rfl
end H
namespace H
theorem hp1(w:World)(os:OsState):hR w 393 (hS1 w os) 4 17 (cE 10 0 14 24)=some (.next,hS2 w os,.body hb hE,(cE 35 0 35 7)):=by kernel_rfl
end H
namespace H
theorem BC(w:World)(os:OsState):hR w 387 (hS2 w os) 21 31 (cE 35 0 35 7)=some (.next,Q3 w os,.body hb hE,(cE 66 0 66 12)):=by kernel_rfl
end H
namespace H
theorem hp3(w:World)(os:OsState):hR w 236 (Q3 w os) 52 4 (cE 66 0 66 12)=some (.next,hS4 w os,.body hb hE,(cE 70 0 70 9)):=byRow2 "special-get-raises" (P:=λw=>∀os,hR w 236 (Q3 w os) 52 4 (cE 66 0 66 12)=some (.next,hS4 w os,.body hb hE,(cE 70 0 70 9))) (λw os=>by kernel_rfl) (λw os=>by kernel_rfl) w os
end H
namespace H
theorem hp4(w:World)(os:OsState):hR w 391 (hS4 w os) 56 4 (cE 70 0 70 9)=some (.next,hS5 w os,.body hb hE,(cE 105 0 109 57)):=by kernel_rfl
end H
namespace H
theorem hp5(w:World)(os:OsState):hR w 390 (hS5 w os) 60 12 (cE 105 0 109 57)=some (.next,hS6 w os,.body hb hE,(cE 173 0 174 57)):=by kernel_rfl
end H
namespace H
theorem hp6(w:World)(os:OsState):hR w 374 (hS6 w os) 72 13 (cE 173 0 174 57)=some (.next,hS7 w os,.body hb hE,(cE 258 0 265 13)):=by kernel_rfl
end H
namespace H
theorem hp7(w:World)(os:OsState):hR w 354 (hS7 w os) 85 22 (cE 258 0 265 13)=some (.next,hS8 w os,.body hb hE,(cE 317 0 317 9)):=by kernel_rfl
end H
namespace H
theorem hp8(w:World)(os:OsState):hR w 546 (hS8 w os) 107 2 (cE 317 0 317 9)=some (.next,hS9 w os,.body hb hE,(cE 335 0 338 19)):=by kernel_rfl
end H
namespace H
theorem hp9(w:World)(os:OsState):hR w 393 (hS9 w os) 109 2 (cE 335 0 338 19)=some (.next,ae4 w os,.body hb hE,(cE 391 0 398 21)):=by kernel_rfl
end H
namespace H
theorem ajJ(w:World)(os:OsState):hR w 384 (ae4 w os) 111 12 (cE 391 0 398 21)=some (.next,ae5 w os,.body hb hE,(cE 528 0 549 21)):=by kernel_rfl
end H
namespace H
theorem ajK(w:World)(os:OsState):hR w 398 (ae5 w os) 123 14 (cE 528 0 549 21)=some (.next,ae6 w os,.body hb hE,(cE 660 0 661 71)):=by kernel_rfl
end H
namespace H
theorem ajL(w:World)(os:OsState):hR w 549 (ae6 w os) 137 5 (cE 660 0 661 71)=some (.next,ae7 w os,.body hb hE,(cE 674 0 681 42)):=by kernel_rfl
end H
namespace H
theorem ajM(w:World)(os:OsState):hR w 445 (ae7 w os) 142 9 (cE 674 0 681 42)=some (.next,ae8 w os,.body hb hE,(cE 748 0 748 11)):=by kernel_rfl
end H
namespace H
theorem ajN(w:World)(os:OsState):hR w 812 (ae8 w os) 151 1 (cE 748 0 748 11)=some (.next,ae9 w os,.body hb hE,(cE 749 0 810 17)):=by kernel_rfl
end H
namespace H
theorem ajO(w:World)(os:OsState):hR w 320 (ae9 w os) 152 2 (cE 749 0 810 17)=some (.next,afa w os,.body hb hE,(cE 821 0 821 8)):=by kernel_rfl
end H
namespace H
theorem ajP(w:World)(os:OsState):hR w 386 (afa w os) 154 7 (cE 821 0 821 8)=some (.next,afb w os,.body hb hE,(cE 849 0 851 83)):=by kernel_rfl
end H
namespace H
theorem ajQ(w:World)(os:OsState):hR w 476 (afb w os) 161 15 (cE 849 0 851 83)=some (.next,afc w os,.body hb hE,(cE 1026 0 1041 15)):=by kernel_rfl
end H
end Mine
end
section
open PySem PySem.W PyProof.Rows
namespace Mine
section
open H
noncomputable abbrev rT(w:World)(os:OsState):Shared:=(afc w os).abs
noncomputable abbrev hK(w:World)(N a:Nat)(S:Shared)(p:Pos):Option Shared:=topRun treeTable PW w 11 (some (.ref 6)) N S (restOf (hb.drop a) hE (.body hb hE) p [topFrame (cE 0 0 0 0)])
theorem fu{w:World}{S S':SharedT}{a m N N':Nat}{p p':Pos}{r:Shared}(h:hR w N S a m p=some (.next,S',.body hb hE,p'))(k:hK w N' (a+m) S'.abs p'=some r):hK w (N+N') a S.abs p=some r:=by
 have:=piece_app (rest:=hb.drop (a+m)) (segRun_of h) k;rwa [←List.drop_drop,List.take_append_drop]at this
theorem ajR(w:World)(os:OsState):hK w 6 176 (rT w os) (cE 1026 0 1041 15)=some (rT w os):=by kernel_rfl
theorem ajS(w:World)(os:OsState):topGo treeTable PW w 11 (some (.ref 6)) 12 ⟨boot_heap w.params,⟨[]⟩,boot_drawn,boot_toks,os⟩ (topStub PW)=
  some ((hS0 w os).abs,⟨denote treeTable (Code.body hb hE),Code.body hb hE,cE 0 0 0 0,[topFrame (cE 0 0 0 0)]⟩):=by kernel_rfl
theorem ajT(w:World)(os:OsState):segRun treeTable PW w 11 (some (.ref 6)) 1 1 (hS0 w os).abs (blockOf hb hE (.body hb hE) (cE 0 0 0 0) [topFrame (cE 0 0 0 0)])=some (.next,(hS0 w os).abs,.body hb hE,cE 0 0 0 0):=by kernel_rfl
theorem ajU(w:World)(os:OsState):topRun treeTable PW w 11 (some (.ref 6)) (12+(1+(521+(393+(387+(236+(391+(390+(374+(354+(546+(393+(384+(398+(549+(445+(812+(320+(386+(476+6)))))))))))))))))))) ⟨boot_heap w.params,⟨[]⟩,boot_drawn,boot_toks,os⟩ (topStub PW)=some (rT w os):=go_top (ajS w os) (piece_block (p':=cE 0 0 0 0) (s':=(hS0 w os).abs) (ajT w os) (fu (hp0 w os) (fu (hp1 w os) (fu (BC w os) (fu (hp3 w os) (fu (hp4 w os) (fu (hp5 w os) (fu (hp6 w os) (fu (hp7 w os) (fu (hp8 w os) (fu (hp9 w os) (fu (ajJ w os) (fu (ajK w os) (fu (ajL w os) (fu (ajM w os) (fu (ajN w os) (fu (ajO w os) (fu (ajP w os) (fu (ajQ w os) (ajR w os))))))))))))))))))))
theorem afd:∀w:World,(fencedOpening treeTable PW w 20000).map (λs=>(s.heap,s.gens,s.drawn,s.toks))=some (boot_heap w.params,Array.mk [],boot_drawn,boot_toks):=boot_open (by kernel_rfl) (by kernel_rfl) (λs=>by kernel_rfl)
theorem afe:∀w:World,((boot_heap w.params).isNs mainGlobals&&(Array.mk []:Array GenState).size==0,(boot_heap w.params).objs.size,(boot_heap w.params).nsMap mainGlobals "__annotations__")=(true,11,some (Value.ref 6)):=λw=>by kernel_rfl
noncomputable abbrev Q4:List Stmt:=PW.main.body.drop 175
noncomputable abbrev QW:Program:={PW with main:={PW.main with body:=Q4}}
noncomputable abbrev xX:List PySem.Str:=(PW.main.scope.names.map (·.1)).filter (·!=("law":PySem.Str))
theorem abt:∀w:World,(λos=>((staticsOk (importedModules PW.main.body) (boot_heap w.params) (rT w default).heap&&namesBound PW (rT w default).heap&&gensDone (rT w os)&&laidKept (boot_heap w.params) (rT w default).heap),openSeen QW xX (importedModules PW.main.body) (λ_=>true) true (rT w os),((rT w os).heap,(rT w os).toks)))=λ_=>(true,openGood QW xX,((rT w default).heap,1841)):=λw=>by
 kernel_rfl
theorem afg:LeftO PW QW xX (λ_=>true) (λs=>(s.heap,s.toks)) (λw=>((rT w default).heap,1841)) 20000 true:=by
 refine LeftO.of_pieces (H₁:=λP=>absHeap (HTt P) 1066 {}) (gs₁:=⟨[]⟩) (d₁:={}) (k₁:=1841) afd afe ajU ?_ abt;decide+kernel
end
end Mine
end
set_option tactic.hygienic false
section
open PySem PySem.W PyProof.Rows PySem.Calls
namespace Mine
abbrev rU(c d:Addr):Obj:={cls:=.ref c,dict:=some d,data:=.plain}
abbrev mz(vs:List Value)(n:Nat):Obj:={cls:=.type "tuple",data:=.seq vs.toArray n}
abbrev nN(vs:List Value)(n:Nat):Obj:={cls:=.type "list",data:=.seq vs.toArray n}
noncomputable abbrev WA(lo hi:Int)(t1 t2 t3:Tok):Obj:={cls:=.type "range",data:=.fields #[.int lo t1,.int hi t2,.int 1 t3]}
noncomputable def toS(n:Nm):PySem.Str:=⟨n.toArray⟩
theorem wU(h:toS a=toS b):a=b:=au (λs:PySem.Str=>s.cps.toList) h
noncomputable def n8(n:Nat):Value:=if n=0 then .builtin "len"else if n=1 then .builtin "sorted"else if n=2 then .builtin "min"else if n=4 then .type "tuple"else if n=5 then .type "range"else .none
noncomputable def AM:Nat:=2^24
noncomputable def vX(o:Obj):Bool:=match o.data with
 |.dict ..=>true
 |.cell _=>true
 |.fields _=>o.cls !=.type "range"
 |_=>false
theorem rV:¬vX (mz vs n)=true:=eH
theorem wV:¬vX (nN vs n)=true:=eH
theorem Q5:¬vX (rU c d)=true:=eH
theorem WB{lo hi:Int}:¬vX (WA lo hi t1 t2 t3)=true:=by
 show¬(Value.type "range"!=Value.type "range")=true;rw [bne_self_eq_false];exact eH
noncomputable def IU:List Nat:=[146,414,943,477,673,692,711,926]
noncomputable def LR(x:V)(u:Value):Prop:=V.casesOn (motive_1:=λ_=>Prop) x (u=.none) (λb=>u=.bool b) (λi=>∃t,u=.int i t) (λs=>PyData.strOk (toS s)=true/\∃t,u=.str (toS s) t) (λ_=>False) (λ_=>False) (λ_ _=>False) (λ_=>False) (λ_ _=>False)
 (λa=>u=.ref a) (λa=>u=.ref a) (λa=>u=.ref a) (λn=>u=n8 n)
mutual
inductive VR(h:Heap)(pl:List Addr):V->Value->Prop
 |flat {x:V} {u:Value}:LR x u->VR h pl x u
 |aC {xs:List V} {a:Addr} {vs:List Value} {n:Nat}:h.get? a=some (mz vs n)->a∉0::pl->dH h pl xs vs->xs.length<=AM->VR h pl (.aC xs) (.ref a)
 |lst {xs:List V} {a:Addr} {vs:List Value} {n:Nat}:h.get? a=some (nN vs n)->a∉0::pl->dH h pl xs vs->xs.length<=AM->VR h pl (.lst xs) (.ref a)
 |fE {c l:Nat} {a d:Addr}:c∈IU->h.get? a=some (rU c d)->a∉0::pl->pl[l]?=some d->VR h pl (.fE c l) (.ref a)
 |ref {l:Nat} {a:Addr}:pl[l]?=some a->VR h pl (.ref l) (.ref a)
 |bH {l:Nat} {a:Addr}:pl[l]?=some 0->VR h pl (.ref l) (.ref a)
 |Q6 {k l:Nat} {a:Addr}:pl[l]?=some 0->VR h pl (.fE k l) (.ref a)
 |Fp {lo hi:Int} {a:Addr} {t1 t2 t3:Tok}:h.get? a=some (WA lo hi t1 t2 t3)->a∉0::pl->(vV lo&&vV hi)=true->VR h pl (.Fp lo hi) (.ref a)
inductive dH(h:Heap)(pl:List Addr):List V->List Value->Prop
 |nil:dH h pl [] []
 |cons {x:V} {v:Value} {xs:List V} {vs:List Value}:VR h pl x v->dH h pl xs vs->dH h pl (x::xs) (v::vs)
end
structure qI(h:Heap)(pl:List Addr)(f:List Value->Nat->Obj)(xs:List V)(u:Value)(a:Addr)(vs:List Value)(n:Nat):Prop where
 eq:u=.ref a
 get:h.get? a=some (f vs n)
 out:a∉0::pl
 CY:dH h pl xs vs
 qJ:xs.length<=AM
structure ajV(h:Heap)(pl:List Addr)(c l:Nat)(u:Value)(a d:Addr):Prop where
 eq:u=.ref a
 cR:pl[l]?=some d
 ok:d=0\/(c∈IU/\h.get? a=some (rU c d)/\a∉0::pl)
structure ajW(h:Heap)(pl:List Addr)(lo hi:Int)(u:Value)(a:Addr)(t1 t2 t3:Tok):Prop where
 eq:u=.ref a
 get:h.get? a=some (WA lo hi t1 t2 t3)
 out:a∉0::pl
 ok:(vV lo&&vV hi)=true
noncomputable def VRD(h:Heap)(pl:List Addr)(x:V)(u:Value):Prop:=V.casesOn (motive_1:=λ_=>Prop) x (u=.none) (λb=>u=.bool b) (λi=>∃t,u=.int i t) (λs=>PyData.strOk (toS s)=true/\∃t,u=.str (toS s) t)
 (λxs=>∃a vs n,qI h pl mz xs u a vs n) (λxs=>∃a vs n,qI h pl nN xs u a vs n) (λc l=>∃a d,ajV h pl c l u a d) (λl=>∃a d,u=.ref a/\pl[l]?=some d/\(d=a\/d=0)) (λlo hi=>∃a t1 t2 t3,ajW h pl lo hi u a t1 t2 t3)
 (λa=>u=.ref a) (λa=>u=.ref a) (λa=>u=.ref a) (λn=>u=n8 n)
theorem LR.vrd(k:LR x u):VRD h pl x u:=by
 revert k;exact V.casesOn x id (λ_=>id) (λ_=>id) (λ_=>id) (λ_=>False.elim) (λ_=>False.elim) (λ_ _=>False.elim) (λ_=>False.elim) (λ_ _=>False.elim) (λ_=>id) (λ_=>id) (λ_=>id) (λ_=>id)
theorem VR.nU(r:VR h pl x u):VRD h pl x u:=VR.casesOn r (λk=>k.vrd) (λe n r b=>⟨_,_,_,rfl,e,n,r,b⟩) (λe n r b=>⟨_,_,_,rfl,e,n,r,b⟩) (λq e n p=>⟨_,_,rfl,p,.inr ⟨q,e,n⟩⟩) (λp=>⟨_,_,rfl,p,.inl rfl⟩) (λp=>⟨_,_,rfl,p,.inr rfl⟩) (λp=>⟨_,_,rfl,p,.inl rfl⟩) (λe n k=>⟨_,_,_,_,rfl,e,n,k⟩)
theorem VR.int:VR h pl (.int i) (.int i t):=.flat ⟨t,rfl⟩
theorem VR.bool:VR h pl (.bool b) (.bool b):=.flat rfl
theorem VR.none:VR h pl .none .none:=.flat rfl
theorem VR.str(e:PyData.strOk (toS s)=true):VR h pl (.str s) (.str (toS s) t):=.flat ⟨e,t,rfl⟩
structure rW(o o':Obj):Prop where
 data:o'.data=o.data
 cls:o'.cls=o.cls
 all:(∀es n,o.data≠.dict es n)->o'=o
def ZW(o:Obj):Prop:=∃es n,o.data=.dict es n
def FA(o o':Obj):Prop:=ZW o->ZW o'
theorem rW.w(x:rW a b):FA a b:=λ⟨es,n,h⟩=>⟨es,n,x.data.trans h⟩
theorem rW.refl(o:Obj):rW o o:=⟨rfl,rfl,λ_=>rfl⟩
theorem rW.trans(x:rW a b)(y:rW b c):rW a c:=⟨y.data.trans x.data,y.cls.trans x.cls,λh=>(y.all λes n e=>h es n (x.data.symm.trans e)).trans (x.all h)⟩
theorem CZ(h:(a==b)=false):Value.type a≠Value.type b:=λe=>by
 injection e with e;rw [e,AE]at h;cases h
theorem qK:∀es m,(mz vs n).data≠.dict es m:=λ_ _=>nofun
theorem C0:∀es m,(nN vs n).data≠.dict es m:=λ_ _=>nofun
theorem WC:∀es m,(rU c d).data≠.dict es m:=λ_ _=>nofun
theorem abu{lo hi:Int}:∀es m,(WA lo hi t1 t2 t3).data≠.dict es m:=λ_ _=>nofun
structure Gk(W:List Addr)(h:Heap)(pl:List Addr)(h':Heap)(cU:List Addr):Prop where
 ext:∃new,cU=pl++new/\∀a∈new,a∉0::pl->h.get? a=none
 keep:∀b o,b∉0::pl->b∉W->h.get? b=some o->∃o',h'.get? b=some o'/\rW o o'
structure Gr(W:List Addr)(h:Heap)(pl:List Addr)(h':Heap)(cU:List Addr):Prop extends Gk W h pl h' cU where
 AN:∀b o,b∉0::pl->h.get? b=some o->∃o',h'.get? b=some o'/\FA o o'
abbrev fy(h h':Heap):Prop:=∀b o,h.get? b=some o->h'.get? b=some o
theorem C1(h:Heap)(pl:List Addr):∃new,pl=pl++new/\∀a∈new,a∉0::pl->h.get? a=Option.none:=⟨[],(kX pl).symm,λ_ q=>nomatch q⟩
theorem Gr.iM(W:List Addr)(pl:List Addr)(k:fy h h'):Gr W h pl h' pl:=⟨⟨C1 h pl,λb o _ _ e=>⟨o,k b o e,.refl o⟩⟩,λb o _ e=>⟨o,k b o e,(rW.refl o).w⟩⟩
theorem Gr.refl(W:List Addr)(h:Heap)(pl:List Addr):Gr W h pl h pl:=.iM W pl λ_ _ e=>e
theorem Gk.same(x:Gk W h pl h' cU)(hb:b∉0::pl)(hW:b∉W)(e:h.get? b=some o)(hf:∀es n,o.data≠.dict es n):h'.get? b=some o:=by
 obtain⟨o',e',k⟩:=x.keep b o hb hW e;exact e'.trans (au some (k.all hf))
theorem bL{α:Type}{o:Option α}{a:α}{P:Prop}(e:o=some a)(h:o=Option.none):P:=nomatch e.symm.trans h
theorem Gk.out{W:List Addr}{h h':Heap}(x:Gk W h pl h' cU)(e:h.get? a=some o)(ha:a∉0::pl):a∉0::cU:=λhm=>by
 obtain⟨new,q,f⟩:=x.ext;rw [q,←List.cons_append]at hm;exact(tW hm).elim ha λm=>bL e (f a m ha)
theorem Gr.trans{W:List Addr}{h1 h2 h3:Heap}{p1 p2 p3:List Addr}(x:Gr W h1 p1 h2 p2)(y:Gr W h2 p2 h3 p3):Gr W h1 p1 h3 p3:=by
 obtain⟨n1,e1,f1⟩:=x.ext;obtain⟨n2,e2,f2⟩:=y.ext;refine⟨⟨⟨n1++n2,by rw [e2,e1,rQ],λa ha hn=>(tW ha).elim (λm=>f1 a m hn) λm=>?_⟩,λb o hb hW e=>?_⟩,λb o hb e=>?_⟩
 ·cases q:h1.get? a with
  |none=>rfl
  |some o=>
   obtain⟨o',e',_⟩:=x.AN a o hn q;exact bL e' (f2 a m (x.toGk.out q hn))
 ·obtain⟨o',e',k⟩:=x.keep b o hb hW e
  obtain⟨o2,e2,k'⟩:=y.keep b o' (x.toGk.out e hb) hW e';exact⟨o2,e2,k.trans k'⟩
 ·obtain⟨o',e',k⟩:=x.AN b o hb e
  obtain⟨o2,e2,k'⟩:=y.AN b o' (x.toGk.out e hb) e';exact⟨o2,e2,λd=>k' (k d)⟩
theorem Gr.mono(x:Gr W h1 p1 h2 p2)(hW:∀a∈W,a∈W'):Gr W' h1 p1 h2 p2:=⟨⟨x.ext,λb o hb WD e=>x.keep b o hb (λq=>WD (hW b q)) e⟩,x.AN⟩
theorem Gr.drop{W W':List Addr}{h1 h2:Heap}{p1 p2:List Addr}(x:Gr W h1 p1 h2 p2)(hW:∀a∈W,a∈W'\/h1.get? a=none):Gr W' h1 p1 h2 p2:=⟨⟨x.ext,λb o hb WD e=>x.keep b o hb (λq=>(hW b q).elim WD (bL e)) e⟩,x.AN⟩
theorem Gk.at(x:Gk W h pl h' cU){l:Nat}(e:pl[l]?=some a):cU[l]?=some a:=by
 obtain⟨new,q,_⟩:=x.ext;rw [q,vM (rO e).1];exact e
def FD(h:Heap)(W:List Addr):Prop:=∀b∈W,∀o,h.get? b=some o->vX o=true
theorem FD.nil:FD h []:=λ_ q=>nomatch q
theorem Gk.dO(g:Gk W h pl h' cU)(hW:FD h W)(n:a∉0::pl)(e:h.get? a=some o)(nw:¬vX o=true)(nf:∀es m,o.data≠.dict es m):h'.get? a=some o:=g.same n (λq=>nw (hW _ q _ e)) e nf
section
theorem VR.mono(g:Gk W h pl h' cU)(hW:FD h W){x:V}(r:VR h pl x v):VR h' cU x v:=VR.rec (motive_1:=λx v _=>VR h' cU x v) .flat (λe n _ b ih=>.aC (g.dO hW n e rV qK) (g.out e n) ih b) (λe n _ b ih=>.lst (g.dO hW n e wV C0) (g.out e n) ih b)
  (λq e n p=>.fE q (g.dO hW n e Q5 WC) (g.out e n) (g.at p)) (λp=>.ref (g.at p)) (λp=>.bH (g.at p)) (λp=>.Q6 (g.at p)) (λe n k=>.Fp (g.dO hW n e WB abu) (g.out e n) k) .nil (λ_ _ a b=>.cons a b) r
theorem dH.mono(g:Gk W h pl h' cU)(hW:FD h W)(r:dH h pl xs vs):dH h' cU xs vs:=dH.rec (motive_1:=λ_ _ _=>True) (λ_=>⟨⟩) (λ_ _ _ _ _=>⟨⟩) (λ_ _ _ _ _=>⟨⟩) (λ_ _ _ _=>⟨⟩) (λ_=>⟨⟩) (λ_=>⟨⟩) (λ_=>⟨⟩) (λ_ _ _=>⟨⟩) .nil (λa _ _ b=>.cons (a.mono g hW) b) r
theorem VR.c8(g:Gr [] h pl h' cU)(r:VR h pl x v):VR h' cU x v:=r.mono g.toGk .nil
theorem dH.c8(g:Gr [] h pl h' cU)(r:dH h pl x v):dH h' cU x v:=r.mono g.toGk .nil
theorem dH.Ql{P:List V->List Value->Prop}(h0:P [] [])(h1:∀{x v xs vs},VR h pl x v->dH h pl xs vs->P xs vs->P (x::xs) (v::vs))(r:dH h pl xs vs):P xs vs:=dH.rec (motive_1:=λ_ _ _=>True) (λ_=>⟨⟩) (λ_ _ _ _ _=>⟨⟩) (λ_ _ _ _ _=>⟨⟩) (λ_ _ _ _=>⟨⟩) (λ_=>⟨⟩) (λ_=>⟨⟩) (λ_=>⟨⟩) (λ_ _ _=>⟨⟩) h0 (λa b _ ih=>h1 a b ih) r
theorem dH.length{xs:List V}(r:dH h pl xs vs):xs.length=vs.length:=r.Ql (P:=λxs vs=>xs.length=vs.length) rfl λ_ _ ih=>au (·+1) ih
theorem dH.get{xs:List V}(r:dH h pl xs vs):∀{i:Nat}{x:V},xs[i]?=some x->∃v,vs[i]?=some v/\VR h pl x v:=r.Ql (P:=λxs vs=>∀{i:Nat}{x:V},xs[i]?=some x->∃v,vs[i]?=some v/\VR h pl x v) (λe=>nomatch e) λ{_ v _ _}a _ ih i _ e=>by
  cases i with
  |zero=>exact⟨v,rfl,bV e▸a⟩
  |succ i=>exact ih e
theorem dH.append{xs ys:List V}(r:dH h pl xs vs)(q:dH h pl ys ws):dH h pl (xs++ys) (vs++ws):=r.Ql (P:=λxs vs=>dH h pl (xs++ys) (vs++ws)) q λa _ ih=>.cons a ih
theorem dH.take{xs:List V}(r:dH h pl xs vs):∀n,dH h pl (xs.take n) (vs.take n):=r.Ql (P:=λxs vs=>∀n,dH h pl (xs.take n) (vs.take n)) (λn=>by rw [List.take_nil,List.take_nil];exact .nil) λa _ ih n=>Nat.casesOn n .nil λn=>.cons a (ih n)
theorem dH.drop{xs:List V}(r:dH h pl xs vs):∀n,dH h pl (xs.drop n) (vs.drop n):=r.Ql (P:=λxs vs=>∀n,dH h pl (xs.drop n) (vs.drop n)) (λn=>by rw [List.drop_nil,List.drop_nil];exact .nil) λa b ih n=>Nat.casesOn n (.cons a b) λn=>ih n
end
mutual
inductive KR(h:Heap):V->Value->Prop
 |int {i:Int} {t:Tok}:KR h (.int i) (.int i t)
 |str {s:Nm} {t:Tok}:PyData.strOk (toS s)=true->KR h (.str s) (.str (toS s) t)
 |aC {xs:List V} {a:Addr} {vs:List Value} {n:Nat}:h.get? a=some (mz vs n)->Q7 h xs vs->KR h (.aC xs) (.ref a)
inductive Q7(h:Heap):List V->List Value->Prop
 |nil:Q7 h [] []
 |cons {x:V} {v:Value} {xs:List V} {vs:List Value}:KR h x v->Q7 h xs vs->Q7 h (x::xs) (v::vs)
end
section
theorem KR.of(r:VR h pl x v):x.i7=true->KR h x v:=VR.rec (motive_2:=λxs vs _=>V.mj xs=true->Q7 h xs vs)
  (λ{x u}k=>V.casesOn x (λ_=>ff) (λ_ _=>ff) (λ_⟨_,e⟩_=>e▸.int) (λ_⟨o,_,e⟩_=>e▸.str o) (λ_=>False.elim) (λ_=>False.elim) (λ_ _=>False.elim) (λ_=>False.elim) (λ_ _=>False.elim) (λ_ _=>ff) (λ_ _=>ff) (λ_ _=>ff) (λ_ _=>ff) k)
  (λe _ _ _ ih k=>.aC e (ih k)) (λ_ _ _ _ _=>ff) (λ_ _ _ _=>ff) (λ_=>ff) (λ_=>ff) (λ_=>ff) (λ_ _ _=>ff) (λ_=>.nil) (λ_ _ ih uf k=>.cons (ih (ah k).1) (uf (ah k).2)) r
noncomputable def KRD(h:Heap)(x:V)(u:Value):Prop:=match u with
 |.int i _=>x=.int i
 |.str s _=>∃n,x=.str n/\s=toS n
 |.ref a=>∃xs vs n,x=.aC xs/\h.get? a=some (mz vs n)/\Q7 h xs vs
 |_=>True
theorem KR.nU(r:KR h x u):KRD h x u:=KR.casesOn r rfl (λ_=>⟨_,rfl,rfl⟩) λe r=>⟨_,_,_,rfl,e,r⟩
theorem KR.inj(r:KR h x v):KR h y v->x=y:=KR.rec (motive_2:=λxs vs _=>∀ys,Q7 h ys vs->xs=ys) (λ_ q=>(q.nU).symm) (λ_ _ q=>by obtain⟨n,e,k⟩:=q.nU;rw [e,wU k])
  (λ{xs a vs n}e _ ih y q=>by
   obtain⟨ys,vs',n',e1,e2,r2⟩:=q.nU;have z:=au (λo:Option Obj=>match o with|some ⟨_,_,.seq us _,_⟩=>us|_=>#[]) (e.symm.trans e2)
   have z':vs=vs':=au (λa:Array Value=>a.toList) z;rw [e1,ih ys (z'▸r2)])
  (λys q=>by cases q;rfl) (λ_ _ ih uf ys q=>by
   cases q with
   |cons a b=>rw [ih _ a,uf _ b]) r y
theorem KR.keeps(k:∀b o,h.get? b=some o->(∀es n,o.data≠.dict es n)->h'.get? b=some o)(r:KR h x v):KR h' x v:=KR.rec .int .str (λe _ ih=>.aC (k _ _ e qK) ih) .nil (λ_ _ a b=>.cons a b) r
theorem KR.key(r:KR h x v):x.i7=true:=KR.rec rfl (λ_=>rfl) (λ_ _ ih=>ih) rfl (λ_ _ a b=>dF a b) r
theorem KR.plain(r:KR h x v):x.plain=true:=KR.rec rfl (λ_=>rfl) (λ_ _ ih=>ih) rfl (λ_ _ a b=>dF a b) r
end
section
variable(w:World)
noncomputable def rX(a:V):Int:=V.rec (motive_1:=λ_=>Int) (motive_2:=λ_=>List Int) 0 (λ_=>0) hashInt (λs=>hashStr w (toS s)) (λ_ r=>reduceHash (Builtin.Tuple.tupleHashOf r)) (λ_ _=>0) (λ_ _=>0) (λ_=>0) (λ_ _=>0) (λ_=>0) (λ_=>0) (λ_=>0) (λ_=>0) [] (λ_ _ a b=>a::b) a
noncomputable def qL(a:V):Nat:=V.rec (motive_1:=λ_=>Nat) (motive_2:=λ_=>Nat) 0 (λ_=>0) (λ_=>1) (λ_=>1) (λ_ r=>r+1) (λ_ _=>0) (λ_ _=>0) (λ_=>0) (λ_ _=>0) (λ_=>0) (λ_=>0) (λ_=>0) (λ_=>0) 0 (λ_ _ a b=>a+b) a
noncomputable def pe(xs:List V):List Int:=xs.map (rX w)
noncomputable def mC(xs:List V):Nat:=(xs.map qL).sum
variable{w}
theorem WE:∀{xs:List V},x∈xs->x.gF<(V.aC xs).gF:=λ{xs}=>List.rec bg (λy ys ih m=>(fY m).elim (λe=>e▸Bv (Nat.le_max_left ..)) λm=>eB (ih m) (nG (Nat.le_max_right ..))) xs
theorem N2(xs:List V):rX w (.aC xs)=reduceHash (Builtin.Tuple.tupleHashOf (pe w xs)):=au (λl=>reduceHash (Builtin.Tuple.tupleHashOf l)) (List.rec rfl (λx _ ih=>au (rX w x::·) ih) xs)
theorem Jl(xs:List V):qL (.aC xs)=mC xs+1:=List.rec rfl (λx xs ih=>by
  rw [show mC (x::xs)=qL x+mC xs from List.sum_cons,nH,←ih];rfl) xs
def C3(w:World)(x:V):Prop:=∀(v:Value)(A:Around)(E:Value->Shared->Prop)(s:Shared)(Q:Int->Shared->Prop),A.units+x.gF<cLine->KR s.heap x v->Q (rX w x) {s with toks:=s.toks+qL x}->wpAny (model PW w) A (pyHash v) Q E s
theorem Q8(ih:∀x∈xs,C3 w x):C3 w (.aC xs):=by
 intro v A E s Q hu kr h;obtain⟨a,vs,n,rfl,e,r⟩:∃a vs n,v=.ref a/\s.heap.get? a=some (mz vs n)/\Q7 s.heap xs vs:=by
  cases kr with
  |aC e r=>exact⟨_,_,_,rfl,e,r⟩
 have hT:s.TypeIs (.ref a) "tuple":=⟨_,e,rfl⟩;have hu0:=di (bZ ..) hu;rw [N2,Jl]at h;unfold pyHash;unfold pyHashByItsType;refine aV (wpAny_cRoomFor_or (.inr hu0) (aV (wpAny_specialOf hT F.slot_tuple_hash.lookup ?_)));rw [ay (by rw [beq_builtin_none];exact eH)]
 refine aV (wpAny_specialOf hT F.slot_tuple_hash.lookup ?_);refine aV (wpAny_callSpecialIfBoundUnlessNone?_slot hT F.slot_tuple_hash (AG F.slot_tuple_hash hT F.entry_tuple_hash ?_ (F.args_tuple_hash_1 _)));show wpAny _ _ (Builtin.Tuple.tupleItemsOf (.ref a)>>=_) _ _ s;refine aV (wpAny_tupleItemsOf e rfl (aV ?_));rw [←Array.forIn_toList];refine wpAny_forIn_list _
  (λrest(b:Array Int)s'=>∃done left,xs=done++left/\Q7 s.heap left rest/\b.toList=pe w done/\s'={s with toks:=s.toks+mC done})
  _ ?_ ?_ _ _ ⟨[],xs,rfl,r,rfl,rfl⟩
 ·rintro x rest b s' ⟨done,left,Qm,hl,hb,rfl⟩
  obtain⟨k,ks',rfl,h1,hl'⟩:∃k ks',left=k::ks'/\KR s.heap k x/\Q7 s.heap ks' rest:=by
   cases hl with
   |cons a b=>exact⟨_,_,rfl,a,b⟩
  have hk:=Qm▸kU _ cC;refine aV (ih k hk _ A.in1 _ _ _ (di (Nat.succ_add A.units k.gF▸CL (WE hk) A.units) hu) h1 ?_);have gV:∃d l,xs=d++l/\Q7 s.heap l rest/\(b.push (rX w k)).toList=pe w d/\({s with toks:=s.toks+mC done+qL k}:Shared)={s with toks:=s.toks+mC d}:=⟨done++[k],ks',by rw [Qm,rQ];rfl,hl',by rw [Array.toList_push,hb];unfold pe;rw [mh];rfl,by unfold mC;rw [mh,List.sum_append,nH];rfl⟩
  first
   |exact aP gV
   |exact aV (aP (aP gV))
 ·rintro b s' ⟨done,left,Qm,hl,hb,rfl⟩
  obtain rfl:left=[]:=by cases hl;rfl
  rw [kX]at Qm;subst Qm;show wpAny _ _ (retInt (Builtin.Tuple.tupleHashOf b.toList)) _ _ _;rw [hb];refine wpAny_ret_mkInt ?_;show wpAny _ _ (if(decide (-(2:Int)^63<=Builtin.Tuple.tupleHashOf (pe w xs))&&decide (Builtin.Tuple.tupleHashOf (pe w xs)<2^63))=true then _ else _) Q E _;unfold reduceHash at h;split at h
  ·rename_i hr
   rw [az hr];exact aP h
  ·rename_i hr
   rw [ay hr];exact aV (wpAny_rule (aP h))
theorem iG(n:x.i7=false):C3 w x:=λ_ _ _ _ _ _ r _=>absurd (r.key.symm.trans n).symm eH
theorem WG(x:V):C3 w x:=V.rec (iG rfl) (λ_=>iG rfl) (λi v A E s Q _ r h=>by cases r;exact wpAny_pyHash_int h) (λn v A E s Q _ r h=>by cases r;exact wpAny_pyHash_str h)
 (λ_ ih=>Q8 ih) (λ_ _=>iG rfl) (λ_ _=>iG rfl) (λ_=>iG rfl) (λ_ _=>iG rfl) (λ_=>iG rfl) (λ_=>iG rfl) (λ_=>iG rfl) (λ_=>iG rfl) (λ_=>bg) (λ_ _ a b x m=>(fY m).elim (λe=>e▸a) (b x)) x
end
noncomputable def qd(a:V):PyData:=V.rec (motive_1:=λ_=>PyData) (motive_2:=λ_=>List PyData) .none (λ_=>.none) .int (λs=>.str (toS s)) (λ_ r=>.tuple r) (λ_ r=>.list r) (λ_ _=>.none) (λ_=>.none) (λ_ _=>.none) (λ_=>.none) (λ_=>.none) (λ_=>.none) (λ_=>.none) [] (λ_ _ a b=>a::b) a
noncomputable def afh(d:PyData):List PyData:=match d with
 |.tuple xs=>xs
 |_=>[]
noncomputable def m7(xs:List V):List PyData:=afh (qd (.aC xs))
theorem xY(x:V):x.plain=true->(qd x).depth=x.gF:=V.rec (motive_2:=λxs=>V.cZ xs=true->PyData.depthAll (m7 xs)=V.abi xs) (λ_=>rfl) (λ_=>ff) (λ_ _=>rfl) (λ_ _=>rfl)
 (λ_ ih p=>au (·+1) (ih p)) (λ_ ih p=>au (·+1) (ih p)) (λ_ _=>ff) (λ_=>ff) (λ_ _=>ff) (λ_=>ff) (λ_=>ff) (λ_=>ff) (λ_=>ff) (λ_=>rfl)
 (λx xs a b p=>by
  have p:=ah p;show max (qd x).depth (PyData.depthAll (m7 xs))=_;rw [a p.1,b p.2];rfl) x
theorem eL{x y:V}(h:(x.fG==y.fG)=false):false=decide (x=y):=(dg λe=>ff (h.symm.trans (beq_iff_eq.mpr (au V.fG e)))).symm
theorem Jm(x:V):∀y:V,x.plain=true->y.plain=true->PyData.eqv (qd x) (qd y)=decide (x=y):=by
 refine V.rec (motive_2:=λxs=>∀ys:List V,V.cZ xs=true->V.cZ ys=true->PyData.eqvAll (m7 xs) (m7 ys)=decide (xs=ys))
  ?_ (λ_ _=>ff) ?_ ?_ ?_ ?_ (λ_ _ _=>ff) (λ_ _=>ff) (λ_ _ _=>ff) (λ_ _=>ff) (λ_ _=>ff) (λ_ _=>ff) (λ_ _=>ff) ?_ ?_ x
 ·exactλy _=>V.casesOn y (λ_=>(dj rfl).symm) (λ_=>ff) (λ_ _=>eL rfl) (λ_ _=>eL rfl) (λ_ _=>eL rfl) (λ_ _=>eL rfl) (λ_ _=>ff) (λ_=>ff) (λ_ _=>ff) (λ_=>ff) (λ_=>ff) (λ_=>ff) (λ_=>ff)
 ·exactλi y _=>V.casesOn y (λ_=>eL rfl) (λ_=>ff) (λj _=>(decide_eq_decide.mpr ⟨au V.int,V.int.inj⟩)) (λ_ _=>eL rfl) (λ_ _=>eL rfl) (λ_ _=>eL rfl) (λ_ _=>ff) (λ_=>ff) (λ_ _=>ff) (λ_=>ff) (λ_=>ff) (λ_=>ff) (λ_=>ff)
 ·exactλn y _=>V.casesOn y (λ_=>eL rfl) (λ_=>ff) (λ_ _=>eL rfl) (λm _=>(Bool.eq_iff_iff.mpr (beq_iff_eq.trans ((⟨λe=>au V.str (wU e),λe=>au toS (V.str.inj e)⟩:toS n=toS m↔V.str n=V.str m).trans decide_eq_true_iff.symm)))) (λ_ _=>eL rfl) (λ_ _=>eL rfl) (λ_ _=>ff) (λ_=>ff) (λ_ _=>ff) (λ_=>ff) (λ_=>ff) (λ_=>ff) (λ_=>ff)
 ·exactλxs ih y p=>V.casesOn y (λ_=>eL rfl) (λ_=>ff) (λ_ _=>eL rfl) (λ_ _=>eL rfl) (λys q=>(ih ys p q).trans (decide_eq_decide.mpr ⟨au V.aC,V.aC.inj⟩)) (λ_ _=>eL rfl) (λ_ _=>ff) (λ_=>ff) (λ_ _=>ff) (λ_=>ff) (λ_=>ff) (λ_=>ff) (λ_=>ff)
 ·exactλxs ih y p=>V.casesOn y (λ_=>eL rfl) (λ_=>ff) (λ_ _=>eL rfl) (λ_ _=>eL rfl) (λ_ _=>eL rfl) (λys q=>(ih ys p q).trans (decide_eq_decide.mpr ⟨au V.lst,V.lst.inj⟩)) (λ_ _=>ff) (λ_=>ff) (λ_ _=>ff) (λ_=>ff) (λ_=>ff) (λ_=>ff) (λ_=>ff)
 ·exactλys _=>List.casesOn ys (λ_=>rfl) λ_ _ _=>rfl
 ·exactλx xs a b ys p=>List.casesOn ys (λ_=>rfl) λy ys q=>by
   show(PyData.eqv (qd x) (qd y)&&PyData.eqvAll (m7 xs) (m7 ys))=_;rw [a y (ah p).1 (ah q).1,b ys (ah p).2 (ah q).2,←Bool.decide_and];exact decide_eq_decide.mpr List.cons_eq_cons.symm
def PR(h:Heap)(x:V)(u:Value):Prop:=∃as,Reads h u (qd x) as/\(qd x).canLay0=true
def Q9(h:Heap)(xs:List V)(us:List Value):Prop:=∃as,ReadsAll h us (m7 xs) as/\PyData.canLayAll0 (m7 xs)=true
section
theorem PR.aC(e:h.get? a=some (mz vs n))(r:Q9 h xs vs):PR h (.aC xs) (.ref a):=let⟨as,ra,c⟩:=r;⟨as,.tuple e rfl rfl ra,c⟩
theorem PR.lst(e:h.get? a=some (nN vs n))(r:Q9 h xs vs):PR h (.lst xs) (.ref a):=let⟨_,ra,c⟩:=r;⟨_,.list e rfl rfl ra,c⟩
theorem Q9.cons(a:PR h x u)(b:Q9 h xs us):Q9 h (x::xs) (u::us):=let⟨_,ra,ca⟩:=a;let⟨_,rb,cb⟩:=b;⟨_,.cons ra rb,dF ca cb⟩
theorem VR.reads(r:VR h pl x v):x.plain=true->PR h x v:=VR.rec (motive_2:=λxs vs _=>V.cZ xs=true->Q9 h xs vs)
  (λ{x u}k=>V.casesOn x (λe _=>e▸⟨_,.none,rfl⟩) (λ_ _=>ff) (λ_⟨_,e⟩_=>e▸⟨_,.int _ _,rfl⟩) (λ_⟨o,_,e⟩_=>e▸⟨_,.str _ _,o⟩) (λ_=>False.elim) (λ_=>False.elim) (λ_ _=>False.elim) (λ_=>False.elim) (λ_ _=>False.elim) (λ_ _=>ff) (λ_ _=>ff) (λ_ _=>ff) (λ_ _=>ff) k)
  (λe _ _ _ ih p=>.aC e (ih p)) (λe _ _ _ ih p=>.lst e (ih p)) (λ_ _ _ _=>ff) (λ_=>ff) (λ_=>ff) (λ_=>ff) (λ_ _ _=>ff) (λ_=>⟨_,.nil,rfl⟩) (λ_ _ a b p=>Q9.cons (a (ah p).1) (b (ah p).2)) r
theorem dH.reads(r:dH h pl xs vs):V.cZ xs=true->Q9 h xs vs:=r.Ql (P:=λxs vs=>V.cZ xs=true->Q9 h xs vs) (λ_=>⟨_,.nil,rfl⟩) λa _ ih p=>Q9.cons (a.reads (ah p).1) (ih (ah p).2)
theorem KR.reads(r:KR h x v):PR h x v:=KR.rec ⟨_,.int _ _,rfl⟩ (λe=>⟨_,.str _ _,e⟩) (λe _ ih=>.aC e ih) ⟨_,.nil,rfl⟩ (λ_ _ a b=>Q9.cons a b) r
end
section
variable{E:Value->Shared->Prop}
theorem Ra(hx:PR s.heap x u)(hy:PR s.heap y v)(px:x.plain=true)(py:y.plain=true)(hu:A.units+min x.gF y.gF<cLine)(h:Q (decide (x=y)) s):
  wpAny (model PW w) A (eqBool u v) Q E s:=by
 obtain⟨as,ra,ca⟩:=hx;obtain⟨bs,rb,cb⟩:=hy;refine SeqAt.eqBoolOverData _ _ _ _ _ _ _ _ _ _ _ _ ra rb ca cb ?_ ?_
 ·rw [xY x px,xY y py];exact hu
 ·rw [Jm x y px py];exact h
def pg(w:World)(A:Around)(E:Value->Shared->Prop)(s:Shared)(n:Nat)(v:Value):Prop:=∀Q:Bool->Shared->Prop,Q true s->wpAny (model PW w) A (eqIsQuiet n v) Q E s
theorem N3(e:s.heap.get? a=some (mz vs m))(ih:∀v∈vs,pg w A E s n v):pg w A E s (n+1) (.ref a):=λQ h=>by
 have hT:s.TypeIs (.ref a) "tuple":=⟨_,e,rfl⟩;unfold eqIsQuiet;refine aV (wpAny_specialOf hT F.slot_tuple_eq.lookup ?_);refine aV (wpAny_isInstance hT isSubtype_tuple_tuple ?_);refine aV (wpAny_seqItems e rfl (aV ?_));rw [←Array.forIn_toList];refine wpAny_forIn_list _ (λrest r s'=>r.1=none/\s'=s/\∀v∈rest,pg w A E s n v) _ ?_ ?_ _ _ ⟨rfl,rfl,ih⟩
 ·rintro v rest r s' ⟨hr,rfl,afi⟩
  exact aV (afi v cC _ (aP ⟨rfl,rfl,λu hu'=>afi u (cP _ hu')⟩))
 ·rintro⟨r1,r2⟩ s' ⟨hr,rfl,_⟩
  obtain rfl:r1=none:=hr;exact aP h
theorem Rb(r:KR s.heap x v):∀{n:Nat},x.gF<=n->pg w A E s n v:=KR.rec (motive_1:=λx v _=>∀{n:Nat},x.gF<=n->pg w A E s n v) (motive_2:=λxs vs _=>∀{n:Nat},(V.aC xs).gF<=n+1->∀v∈vs,pg w A E s n v)
  (λ{_ _ n}_ Q h=>by rw [eqIsQuiet_byValue n rfl];exact aP h) (λ_ n _ Q h=>by rw [eqIsQuiet_byValue n rfl];exact aP h)
  (λe _ ih n hd=>by
   cases n with
   |zero=>exact absurd hd (Nat.not_succ_le_zero _)
   |succ n=>exact N3 e (ih hd))
  (λ_ _=>bg) (λ{x v xs vs}_ _ a b n hd u m=>by
   have hd:=Nat.max_le.mp (QG hd);exact(fY m).elim (λe=>e▸a hd.1) λm=>b (nG hd.2) u m) r
end
noncomputable def xZ(w:World):HeapKind PW w V where
 is:=λh k a=>k.gF<=8/\KR h k (.ref a)
 hash:=rX w
 draws:=qL
 room:=λA=>A.units+40<cLine
 inj:=λhx hy=>hx.2.inj hy.2
 keeps:=λx ho hd hs=>⟨x.1,x.2.keeps λb o e hn=>(hs.2 b λq=>hn _ _ ((au (·.data) (bV ((q▸ho).symm.trans e))).symm.trans hd)).trans e⟩
 pyHash:=λ{A E s k a Q}hu hk h=>WG k _ A E s Q (di (cG (aH hk.1 (by decide)) _) hu) hk.2 h
 eqBool:=λ{A E s x y a b Q}hu hx hy h=>Ra hx.2.reads hy.2.reads hx.2.plain hy.2.plain (di (cG (aH (AH ..) (aH hx.1 (by decide))) _) hu) h
 quiet:=λ{A E s k a Q}hk h=>Rb hk.2 hk.1 Q h
section
noncomputable def jE(t:Nat)(k:V)(u:Value):Bool:=k.fG==t&&V.casesOn (motive_1:=λ_=>Bool) k false (λ_=>false) (λi=>Value.isInt i u) (λs=>Value.isStrOf (toS s) u&&PyData.strOk (toS s)) (λ_=>false) (λ_=>false) (λ_ _=>false) (λ_=>false) (λ_ _=>false) (λ_=>false) (λ_=>false) (λ_=>false) (λ_=>false)
theorem gp(h:jE t k u=true):k.fG=t/\((∃i tk,k=.int i/\u=.int i tk)\/∃s tk,k=.str s/\u=.str (toS s) tk/\PyData.strOk (toS s)=true):=by
 refine⟨eq_of_beq (ah h).1,?_⟩;have h:=(ah h).2;revert h;exact V.casesOn k
  ff (λ_=>ff) (λi h=>let⟨t,e⟩:=Value.isInt_shape h;.inl ⟨i,t,rfl,e⟩) (λs h=>let⟨t,e⟩:=Value.isStrOf_shape (ah h).1;.inr ⟨s,t,rfl,e,(ah h).2⟩) (λ_=>ff) (λ_=>ff) (λ_ _=>ff) (λ_=>ff) (λ_ _=>ff) (λ_=>ff) (λ_=>ff) (λ_=>ff) (λ_=>ff)
theorem Jo(i:Int)(t:Tok):jE 2 (.int i) (.int i t)=true:=dF rfl (AE i)
theorem ya(s:Nm)(t:Tok)(h:PyData.strOk (toS s)=true):jE 3 (.str s) (.str (toS s) t)=true:=dF rfl (dF (AE (toS s)) h)
theorem BD(h:jE t k u=true)(hp:Heap):KR hp k u:=by
 rcases(gp h).2 with⟨i,tk,rfl,rfl⟩|⟨s,tk,rfl,rfl,o⟩
 ·exact .int
 ·exact .str o
noncomputable def k8(w:World)(t:Nat):KeyKind PW w V where
 is:=jE t
 hash:=rX w
 inj:=λ_ _ _ ha hb=>(BD ha default).inj (BD hb default)
 byValue:=λk v h=>by
  rcases(gp h).2 with⟨i,tk,rfl,rfl⟩|⟨s,tk,rfl,rfl,o⟩<;>rfl
 pyHash:=λ{A E s k v Q}h q=>by
  rcases(gp h).2 with⟨i,tk,rfl,rfl⟩|⟨s,tk,rfl,rfl,o⟩
  ·exact wpAny_pyHash_int q
  ·exact wpAny_pyHash_str q
 eqBool:=λ{A E s a b u v Q}ha hb q=>by
  obtain⟨ta,ha⟩:=gp ha;obtain⟨tb,hb⟩:=gp hb;rcases ha with⟨i,tk,rfl,rfl⟩|⟨x,tk,rfl,rfl,o⟩<;>rcases hb with⟨j,tk',rfl,rfl⟩|⟨y,tk',rfl,rfl,o'⟩
  ·exact wpAny_eqBool_int (by rw [show(i==j)=decide (V.int i=V.int j)from decide_eq_decide.mpr ⟨au V.int,V.int.inj⟩];exact q)
  ·exact absurd (show 2=3 from ta.trans tb.symm) (by decide)
  ·exact absurd (show 3=2 from ta.trans tb.symm) (by decide)
  ·exact wpAny_eqBool_str (by rw [show decide (toS x=toS y)=decide (V.str x=V.str y)from decide_eq_decide.mpr ⟨λe=>au V.str (wU e),λe=>au toS (V.str.inj e)⟩];exact q)
 «strs»:=λk x t v h=>by
  obtain⟨tg,h⟩:=gp h;rcases h with⟨i,tk,rfl,e⟩|⟨s,tk,rfl,e,o⟩
  ·cases e
  ·injection e with e _
   subst e;show(V.fG (.str s)==_&&(Value.isStrOf (toS s) v&&PyData.strOk (toS s)))=_;rw [o,beq_iff_eq.mpr tg,Bool.true_and,Bool.and_true];cases v<;>rfl
end
section
variable{κ:Type}
inductive DP(h:Heap)(pl:List Addr)(f:κ->V)(g:κ->Value):List (V×V)->List κ->Prop
 |nil:DP h pl f g [] []
 |cons {k:κ} {v:V} {es:List (V×V)} {ks:List κ}:VR h pl v (g k)->DP h pl f g es ks->DP h pl f g ((f k,v)::es) (k::ks)
def qe(h:Heap)(pl:List Addr)(a:Option V)(b:Option Value):Prop:=Option.casesOn (motive:=λ_=>Prop) a (b=none) λv=>∃u,b=some u/\VR h pl v u
variable{f:κ->V}{ks:List κ}
theorem DP.mono(x:Gk W h pl h' cU)(hW:FD h W)(p:DP h pl f g es ks):DP h' cU f g es ks:=DP.rec .nil (λr _ ih=>.cons (r.mono x hW) ih) p
theorem qe.mono(x:Gk W h pl h' cU)(hW:FD h W)(r:qe h pl a b):qe h' cU a b:=by
 cases a with
 |none=>exact r
 |some v=>exact let⟨u,e,q⟩:=r;⟨u,e,q.mono x hW⟩
theorem DP.len(p:DP h pl f g es ks):es.length=ks.length:=DP.rec rfl (λ_ _ ih=>au (·+1) ih) p
theorem DP.get(p:DP h pl f g es ks)(k:V):qe h pl (bJ k es) ((ks.find? λx=>decide (f x=k)).map g):=DP.rec rfl (λ{k1 v es ks}r _ ih=>by
 show qe h pl (if f k1=k then some v else bJ k es) _;by_cases e:f k1=k
 ·rw [az e,List.find?_cons_of_pos (p:=λx=>decide (f x=k)) (dj e)];exact⟨_,rfl,r⟩
 ·rw [ay e,List.find?_cons_of_neg (p:=λx=>decide (f x=k)) (λq=>e (bx q))];exact ih) p
theorem WH(u:κ->κ)(n:k∉ks.map f):ks.map (λx=>if f x=k then u x else x)=ks:=(CM λx hx=>ay λe=>n (List.mem_map.mpr ⟨x,hx,e⟩)).trans (List.map_id' ks)
theorem DP.upd(p:DP h pl f g es ks)(k:V)(r:VR h pl v v')(u:κ->κ)(hf:∀x,f (u x)=f x)(hg:∀x,g (u x)=v'):(ks.map f).Nodup->(∃x∈ks,f x=k)->DP h pl f g (cS k v es) (ks.map λx=>if f x=k then u x else x):=DP.rec (λ_⟨_,m,_⟩=>bg m) (λ{k1 v1 es ks}r1 p ih hn⟨x,m,ex⟩=>by
  have hn:=List.nodup_cons.mp hn;show DP h pl f g (if f k1=k then(f k1,v)::es else(f k1,v1)::cS k v es) ((if f k1=k then u k1 else k1)::_);by_cases e:f k1=k
  ·rw [az e,az e,WH u (e▸hn.1),←hf k1]
   exact .cons ((hg k1).symm▸r) p
  ·rw [ay e,ay e]
   exact .cons r1 (ih hn.2 ⟨x,(fY m).elim (λq=>absurd (q▸ex) e) id,ex⟩)) p
theorem DP.add(p:DP h pl f g es ks)(r:VR h pl v (g n)):(∀x∈ks,f x≠f n)->DP h pl f g (cS (f n) v es) (ks++[n]):=DP.rec (λ_=>.cons r .nil) (λ{k1 v1 es ks}r1 _ ih hn=>by
  show DP h pl f g (if f k1=f n then(f k1,v)::es else(f k1,v1)::cS (f n) v es) (k1::(ks++[n]));rw [ay (hn k1 cC)];exact .cons r1 (ih λx m=>hn x (cP _ m))) p
theorem DP.Qk(p:DP h pl f g es ks)(k:V):(ks.map f).Nodup->DP h pl f g (kI k es) (ks.filter λx=>decide (f x≠k)):=DP.rec (λ_=>.nil) (λ{k1 v1 es ks}r1 p ih hn=>by
  have hn:=List.nodup_cons.mp hn;show DP h pl f g (if f k1=k then es else(f k1,v1)::kI k es) _;by_cases e:f k1=k
  ·rw [az e,CK (p:=λx=>decide (f x≠k)) (λq=>absurd e (bx q)),(List.filter_eq_self (p:=λx=>decide (f x≠k))).mpr λx hx=>dj λq:f x=k=>hn.1 (List.mem_map.mpr ⟨x,hx,q.trans e.symm⟩)]
   exact p
  ·rw [ay e,I2 (p:=λx=>decide (f x≠k)) (dj e)]
   exact .cons r1 (ih hn.2)) p
end
abbrev DPF(h:Heap)(pl:List Addr)(es:List (V×V))(kvs:List (V×Value)):Prop:=DP h pl Prod.fst Prod.snd es kvs
abbrev DPH(h:Heap)(pl:List Addr)(es:List (V×V))(xs:List (V×Addr×Value)):Prop:=DP h pl Prod.fst (λx=>x.2.2) es xs
section
theorem DPF.put(p:DPF h pl es kvs)(hn:(kvs.map Prod.fst).Nodup)(k:V)(r:VR h pl v v'):DPF h pl (cS k v es) (stored kvs k v'):=by
 unfold stored;by_cases e:kvs.any (λkv=>decide (kv.1=k))=true
 ·rw [az e]
  obtain⟨x,hx,q⟩:=List.any_eq_true.mp e;exact p.upd k r (λkv=>(kv.1,v')) (λ_=>rfl) (λ_=>rfl) hn ⟨x,hx,bx q⟩
 ·rw [ay e]
  exact p.add (n:=(k,v')) r λx hx q=>e (List.any_eq_true.mpr ⟨x,hx,dj q⟩)
theorem DPH.put(p:DPH h pl es xs)(hn:(xs.map Prod.fst).Nodup)(k:V)(b:Addr)(r:VR h pl v v'):DPH h pl (cS k v es) (storedH xs k b v'):=by
 unfold storedH atKey;rw [Option.isSome_map];by_cases e:(xs.find? λx=>decide (x.1=k)).isSome=true
 ·rw [az e]
  obtain⟨x,hx,q⟩:=List.find?_isSome.mp e;exact p.upd k r (λx=>(x.1,x.2.1,v')) (λ_=>rfl) (λ_=>rfl) hn ⟨x,hx,bx q⟩
 ·rw [ay e]
  exact p.add (n:=(k,b,v')) r λx hx q=>e (List.find?_isSome.mpr ⟨x,hx,dj q⟩)
end
noncomputable abbrev HB(P:Params):Heap:=absHeap (H.HTt P) 1066 {}
def FE(w:World)(h:Heap)(pl:List Addr)(a:Addr)(es:List (V×V))(t:Nat):Prop:=∃kvs,h.DictOf (k8 w t) a kvs/\DPF h pl es kvs
def Rc(w:World)(h:Heap)(pl:List Addr)(a:Addr)(es:List (V×V)):Prop:=∃xs,h.DictOfH (xZ w) a xs/\DPH h pl es xs
def g6(w:World)(h:Heap)(pl:List Addr)(a:Addr)(es:List (V×V)):Prop:=es.length<=cu/\((∃t,FE w h pl a es t)\/Rc w h pl a es)
def rY(h:Heap)(pl:List Addr)(a:Addr)(xs:List V):Prop:=∃vs n,h.get? a=some (nN vs n)/\dH h pl xs vs/\xs.length<=AM
def NsR(h:Heap)(pl:List Addr)(a:Addr)(cR:List (Nm×V)):Prop:=∃m,h.Ns a m/\(∀n,qe h pl (lk n cR) (m (toS n)))/\h.DictLe a cR.length
noncomputable def CR(w:World)(h:Heap)(pl:List Addr)(a:Addr)(c:bw):Prop:=bw.casesOn (motive:=λ_=>Prop) c (rY h pl a) (g6 w h pl a) (NsR h pl a) (a=0)
structure Pt where
 s:Shared
 pl:List Addr
 st:St
abbrev Pt.h(p:Pt):Heap:=p.s.heap
structure RR(w:World)(p:Pt):Prop where
 base:fy (HB w.params) p.h
 len:p.pl.length=p.st.length
 nodup:∀(i j:Nat)(a:Addr),a≠0->p.pl[i]?=some a->p.pl[j]?=some a->i=j
 low:∀a∈p.pl,a=0\/1066<=a
 jk:∀l:Nat,p.pl[l]?=some 0->p.st[l]?=some .bH
 cells:∀(l:Nat)(c:bw)(a:Addr),p.st[l]?=some c->p.pl[l]?=some a->CR w p.h p.pl a c
theorem g6.fE(x:g6 w h pl a es):∃o,h.get? a=some o/\ZW o:=by
 rcases x.2 with⟨_,_,⟨o,es,ep,e,_,d,_⟩,_⟩|⟨_,⟨o,es,ep,e,_,d,_⟩,_⟩
 ·exact⟨o,e,es,ep,d⟩
 ·exact⟨o,e,es,ep,d⟩
theorem CR.fE:CR w h pl a c->a=0\/∃o,h.get? a=some o/\((∃vs n,o=nN vs n)\/ZW o):=bw.casesOn c (λ_⟨vs,n,e,_⟩=>.inr ⟨_,e,.inl ⟨vs,n,rfl⟩⟩) (λ_ x=>let⟨o,e,d⟩:=g6.fE x;.inr ⟨o,e,.inr d⟩) (λ_⟨_,⟨o,es,ep,e,d,_⟩,_⟩=>.inr ⟨o,e,.inr ⟨es,ep,d⟩⟩) .inl
theorem cJ(h:Heap):h.get? h.objs.size=none:=by
 cases e:h.get? h.objs.size with
 |none=>rfl
 |some o=>exact absurd (ua e) (kY _)
theorem WI(P:Params):((HB P).get? 1065).isSome=true:=by kernel_rfl
noncomputable def abx(d:Data):Bool:=match d with
 |.dict ..=>true
 |_=>false
theorem aby(h:(o.any λo=>abx o.data)=true):∃o',o=some o'/\ZW o':=by
 cases o with
 |none=>exact ff h
 |some o=>
  refine⟨o,rfl,?_⟩;have h:abx o.data=true:=h;cases e:o.data<;>rw [e]at h<;>first|exact ff h|exact⟨_,_,e⟩
theorem ajY(P:Params):(((HB P).get? 0).any λo=>abx o.data)=true:=by kernel_rfl
section
theorem RR.qJ(R:RR w p):1066<=p.h.objs.size:=by
 obtain⟨o,e⟩:=Option.isSome_iff_exists.mp (WI w.params);exact ua (R.base _ _ e)
theorem RR.out(R:RR w p)(h0:∀o,p.h.get? a=some o->¬ZW o)(hl:∀vs n,p.h.get? a≠some (nN vs n)):a∉0::p.pl:=λhm=>by
 have z:a≠0:=λz=>by
  obtain⟨o,e,d⟩:=aby (ajY w.params);exact h0 o (z▸R.base _ _ e) d
 obtain⟨l,hl',e⟩:=List.mem_iff_getElem?.mp ((fY hm).resolve_left z)|>.elim λl e=>(⟨l,(rO e).1,e⟩:∃l,l<p.pl.length/\p.pl[l]?=some a)
 have c:=R.cells l (p.st[l]'(R.len▸hl')) a (qA (R.len▸hl')) e;rcases c.fE with c|⟨o,e',⟨vs,n,rfl⟩|d⟩
 ·exact z c
 ·exact hl vs n e'
 ·exact h0 o e' d
theorem RR.Rd(R:RR w p)(e:p.h.get? a=some (mz vs n)):a∉0::p.pl:=R.out (λ_ e'⟨es,n,d⟩=>qK es n ((au (·.data) (bV (e.symm.trans e'))).trans d)) λ_ _ e'=>by
  have z:=au (·.cls) (bV (e.symm.trans e'))
  exact CZ (by decide) z
theorem RR.free(R:RR w p)(e:p.h.get? a=none):a∉0::p.pl:=R.out (λ_ e' _=>bL e' e) λ_ _ e'=>bL e' e
theorem RR.iN(R:RR w p):p.h.objs.size∉0::p.pl:=R.free (cJ _)
theorem RR.Jp(R:RR w p){l:Nat}(e:p.st[l]?=some c)(hl:p.pl[l]?=some a)(h:c≠.bH):1066<=a:=(R.low a (pX hl)).resolve_left λz=>h (bV (e.symm.trans (R.jk l (z▸hl))))
theorem KR.qM(R:RR w p)(g:Gk W p.h p.pl h' cU)(hW:FD p.h W)(r:KR p.h x v):KR h' x v:=KR.rec .int .str (λe _ ih=>.aC (g.dO hW (R.Rd e) e rV qK) ih) .nil (λ_ _ a b=>.cons a b) r
theorem CR.mono(R:RR w p)(g:Gk W p.h p.pl h' cU)(hW:FD p.h W)(ha:∀o,p.h.get? a=some o->h'.get? a=some o):CR w p.h p.pl a c->CR w h' cU a c:=bw.casesOn c (λ_⟨vs,n,e,r,b⟩=>⟨vs,n,ha _ e,r.mono g hW,b⟩)
  (λ_⟨b,x⟩=>⟨b,x.elim (λ⟨t,kvs,⟨o,es,ep,e,q⟩,d⟩=>.inl ⟨t,kvs,⟨o,es,ep,ha _ e,q⟩,d.mono g hW⟩) λ⟨xs,⟨o,es,ep,e,q1,q2,q3,q4,q5⟩,d⟩=>.inr ⟨xs,⟨o,es,ep,ha _ e,q1,q2,q3,λx hx=>⟨(q4 x hx).1,(q4 x hx).2.qM R g hW⟩,q5⟩,d.mono g hW⟩⟩)
  (λ_⟨m,⟨o,es,ep,e,q⟩,r,z⟩=>⟨m,⟨o,es,ep,ha _ e,q⟩,λn=>(r n).mono g hW,z.of_same e (ha _ e)⟩) id
end
structure bq(w:World)(W:List Addr)(p p':Pt):Prop where
 same:∃h' tk,p'.s={p.s with heap:=h',toks:=tk}
 gr:Gr W p.h p.pl p'.h p'.pl
 rr:RR w p'
section
theorem bq.refl(R:RR w p):bq w W p p:=⟨⟨_,_,rfl⟩,.refl ..,R⟩
theorem bq.trans(x:bq w W p p1)(y:bq w W p1 p2):bq w W p p2:=by
 obtain⟨h1,k1,e1⟩:=x.same;obtain⟨h2,k2,e2⟩:=y.same;exact⟨⟨h2,k2,by rw [e2,e1]⟩,x.gr.trans y.gr,y.rr⟩
theorem bq.mono(x:bq w W p p1)(h:∀a∈W,a∈W'):bq w W' p p1:=⟨x.same,x.gr.mono h,x.rr⟩
theorem bq.any(x:bq w [] p p1):bq w W' p p1:=x.mono λ_=>bg
abbrev Pt.at(p:Pt)(h':Heap)(tk:Nat):Pt:=⟨{p.s with heap:=h',toks:=tk},p.pl,p.st⟩
theorem bq.push(R:RR w p)(h':Heap)(tk:Nat)(k:fy p.h h'):bq w W p (p.at h' tk):=
 have g:Gr [] p.h p.pl h' p.pl:=.iM [] p.pl k
 ⟨⟨_,_,rfl⟩,.iM W p.pl k,⟨λb o e=>k _ _ (R.base b o e),R.len,R.nodup,R.low,R.jk,λl c a e1 e2=>(R.cells l c a e1 e2).mono R g.toGk .nil λo=>k _ o⟩⟩
theorem bq.ZX(R:RR w p)(tk:Nat):bq w W p (p.at p.h tk):=.push R p.h tk λ_ _ e=>e
theorem dI(h:Heap)(o:Obj):fy h (h.push o):=λ_ _ e=>tX _ e
theorem bq.n9(R:RR w p)(o:Obj)(tk:Nat):bq w W p (p.at (p.h.push o) tk):=.push R _ tk (dI _ o)
theorem bq.cell(R:RR w p)(h:∀g:Gr [] p.h p.pl (p.h.push o) (p.pl++[p.h.objs.size]),CR w (p.h.push o) (p.pl++[p.h.objs.size]) p.h.objs.size c):
  bq w W p ⟨{p.s with heap:=p.h.push o,toks:=tk},p.pl++[p.h.objs.size],p.st++[c]⟩:=by
 have k:=dI p.h o;have g:Gr [] p.h p.pl (p.h.push o) (p.pl++[p.h.objs.size]):=⟨⟨⟨[_],rfl,λa ha _=>dG ha▸cJ _⟩,λb o' _ _ e=>⟨o',k _ _ e,.refl o'⟩⟩,λb o' _ e=>⟨o',k _ _ e,(rW.refl o').w⟩⟩;have new:∀{i:Nat}{a:Addr},(p.pl++[p.h.objs.size])[i]?=some a->p.pl[i]?=some a\/(i=p.pl.length/\a=p.h.objs.size):=λ{i a}e=>by
  rcases AI i p.pl.length with hi|hi
  ·exact .inl (vM hi▸e)
  ·rw [Az hi]at e
   obtain⟨h0,e⟩:=rO e;have z:=Nat.lt_one_iff.mp h0;exact .inr ⟨Fg (Nat.sub_eq_zero_iff_le.mp z) hi,by rw [←e];exact List.getElem_singleton ..⟩
 have old:∀{l:Nat}{a:Addr},p.pl[l]?=some a->l<p.st.length:=λe=>R.len▸(rO e).1;refine⟨⟨_,_,rfl⟩,g.mono λ_=>bg,⟨λb o' e=>k _ _ (R.base b o' e),by rw [gH,gH,R.len];rfl,λi j a h0 e1 e2=>?_,λa ha=>?_,λl e=>?_,λl c' a e1 e2=>?_⟩⟩
 ·rcases new e1 with q1|⟨h1,q1⟩<;>rcases new e2 with q2|⟨h2,q2⟩
  ·exact R.nodup i j a h0 q1 q2
  ·exact absurd (cP _ (pX q1)) (q2▸R.iN)
  ·exact absurd (cP _ (pX q2)) (q1▸R.iN)
  ·exact h1.trans h2.symm
 ·exact(tW ha).elim (R.low a) λq=>.inr (dG q▸R.qJ)
 ·rcases new e with q|⟨_,q⟩
  ·exact(vM (old q)).trans (R.jk l q)
  ·exact absurd R.qJ (q▸by decide)
 ·rcases new e2 with q|⟨z,q⟩
  ·exact(R.cells l c' a ((vM (old q)).symm.trans e1) q).mono R g.toGk .nil λo'=>k _ o'
  ·rw [z,R.len,Az (aW _),CO]at e1
   rw [q,←bV (e1)];exact h g
theorem bq.kJ(R:RR w p)(hl:p.pl[l]?=some a)(hf:1066<=a)(hs:Heap.SameBut a p.h h')(hc:Gr [] p.h p.pl h' p.pl->CR w h' p.pl a c):
  bq w W p ⟨{p.s with heap:=h',toks:=tk},p.pl,p.st.set l c⟩:=by
 have hm:=pX hl;have h0:a≠0:=λq=>absurd (q▸hf) (by decide)
 have k:∀b o,b≠a->p.h.get? b=some o->h'.get? b=some o:=λb o n e=>(hs.2 b n).trans e;have g:Gr [] p.h p.pl h' p.pl:=⟨⟨C1 _ _,λb o hb _ e=>⟨o,k b o (λq=>hb (q▸cP _ hm)) e,.refl o⟩⟩,λb o hb e=>⟨o,k b o (λq=>hb (q▸cP _ hm)) e,(rW.refl o).w⟩⟩;refine⟨⟨_,_,rfl⟩,g.mono λ_=>bg,⟨λb o e=>k b o (λq=>?_) (R.base b o e),by rw [Fb];exact R.len,R.nodup,R.low,λj e=>?_,λj c' b e1 e2=>?_⟩⟩
 ·have:=ua e
  rw [absHeap_size]at this;exact absurd this (Nat.not_lt.mpr (q▸hf))
 ·exact(qB λq:l=j=>h0 (bV (hl.symm.trans (q▸e)))).trans (R.jk j e)
 ·by_cases hj:l=j
  ·subst hj
   rw [AA (R.len▸(rO hl).1)]at e1;rw [←bV e1,←bV (hl.symm.trans e2)];exact hc g
  ·rw [qB hj]at e1
   exact(R.cells j c' b e1 e2).mono R g.toGk .nil λo=>k b o λq=>hj (R.nodup l j a h0 hl (q▸e2))
end
abbrev LU(α:Type):=(α->Shared->Prop)->(Value->Shared->Prop)->Shared->Prop
structure Md(w:World)where
 W:List Addr
 X:Value->Pt->Pt->Prop
 ok:∀e p p1 p2,bq w W p p1->X e p1 p2->X e p p2
abbrev qN(α β:Type):=Heap->List Addr->β->α->Prop
noncomputable def Ok{α β:Type}(w:World)(md:Md w)(mD:qN α β)(p:Pt)(o:fH β)(Q:α->Shared->Prop)(E:Value->Shared->Prop):Prop:=fH.casesOn (motive:=λ_=>Prop) o
 (λb st'=>∀a s' cU,bq w md.W p ⟨s',cU,st'⟩->mD s'.heap cU b a->Q a s') (λst'=>∀e s' cU,md.X e p ⟨s',cU,st'⟩->E e s') False
structure J{α β:Type}(w:World)(md:Md w)(mD:qN α β)(T:LU α)(m:M β)(p:Pt):Prop where
 aS:∀Q E,Ok w md mD p (m p.st) Q E->T Q E p.s
abbrev wp{α:Type}(w:World)(A:Around)(t:Sem α):LU α:=wpAny (model PW w) A t
section
variable{α β γ δ:Type}
theorem Ok.yb(P:bq w md.W p p1){E:Value->Shared->Prop}:Ok w md R1 p o Q E->Ok w md R1 p1 o Q E:=fH.casesOn o (λ_ _ k a s' cU P'=>k a s' cU (P.trans P')) (λ_ k e s' cU x=>k e s' cU (md.ok _ _ _ _ P x)) id
theorem fH.WJ{st:St}{E:Value->Shared->Prop}(k:Ok w md R2 p (M.bind m g st) Q E)(h:∀b Av,m st=.ok b Av->Ok w md R2 p (g b Av) Q E->∀a s' cU,bq w md.W p ⟨s',cU,Av⟩->R1 s'.heap cU b a->Q1 a s'):Ok w md R1 p (m st) Q1 E:=by
 unfold M.bind at k;revert k h;exact fH.casesOn (m st) (λb Av k h=>h b Av rfl k) (λ_ k _=>k) (λk _=>k)
theorem J.bind{T2:α->LU γ}(h1:J w md R1 T1 m p)(h2:∀a b p1,m p.st=.ok b p1.st->bq w md.W p p1->R1 p1.h p1.pl b a->J w md R2 (T2 a) (g b) p1):
  J w md R2 (λQ E s=>T1 (λa s1=>T2 a Q E s1) E s) (M.bind m g) p:=⟨λQ E k=>h1.aS _ E (fH.WJ k λb Av e k a s' cU P r=>(h2 a b ⟨s',cU,Av⟩ e P r).aS Q E (k.yb P))⟩
theorem J.ret(R:RR w p)(h:R1 p.h p.pl b a):J w md R1 (λQ _ s=>Q a s) (M.pure b) p:=⟨λ_ _ k=>k a p.s p.pl (.refl R) h⟩
theorem J.aJ:J w md R1 T M.fail p:=⟨λ_ _=>False.elim⟩
theorem J.jS(rule:∀Q E,T' Q E p.s->T Q E p.s)(h:J w md R1 T' m p):J w md R1 T m p:=⟨λQ E k=>rule Q E (h.aS Q E k)⟩
theorem J.of(e:m p.st=.ok b st')(h:∀Q E,(∀a s' cU,bq w md.W p ⟨s',cU,st'⟩->R1 s'.heap cU b a->Q a s')->T Q E p.s):J w md R1 T m p:=⟨λQ E k=>h Q E (show Ok w md R1 p (.ok b st') Q E from e▸k)⟩
theorem J.congr(e:m p.st=m' p.st)(h:J w md R1 T m' p):J w md R1 T m p:=⟨λQ E k=>h.aS Q E (e▸k)⟩
theorem J.nV(h:∀b,o=some b->J w md R1 T (M.pure b) p):J w md R1 T (bX o) p:=by
 cases o with
 |none=>exact J.aJ
 |some b=>exact h b rfl
theorem J.C4(h:∀b,o=some b->J w md R2 T (g b) p):J w md R2 T (M.bind (bX o) g) p:=by
 cases o with
 |none=>exact J.aJ
 |some b=>exact h b rfl
theorem J.ite [Decidable c](h1:c->J w md R1 T m p)(h2:¬c->J w md R1 T n p):J w md R1 T (if c then m else n) p:=by
 by_cases h:c
 ·rw [az h];exact h1 h
 ·rw [ay h];exact h2 h
theorem J.jF [Decidable c](h1:c->J w md R1 T m p):J w md R1 T (if c then m else M.fail) p:=J.ite h1 λ_=>J.aJ
theorem J.afj(P:bq w md.W p ⟨s1,pl1,p.st⟩)(h:J w md R1 T m ⟨s1,pl1,p.st⟩):J w md R1 (λQ E _=>T Q E s1) m p:=⟨λQ E k=>h.aS Q E (k.yb P)⟩
theorem J.eK(R:RR w p)(hl:p.pl[l]?=some a)(h:∀c,p.st[l]?=some c->CR w p.h p.pl a c->J w md R1 T (f c) p):J w md R1 T (M.bind (eK l) f) p:=⟨λQ E k=>by
 obtain⟨c,e⟩:∃c,p.st[l]?=some c:=⟨_,qA (R.len▸(rO hl).1)⟩;refine(h c e (R.cells l c a e hl)).aS Q E ?_;unfold M.bind Mine.eK at k;rw [e]at k;exact k⟩
end
noncomputable def jh(w:World)(h:Heap)(pl:List Addr)(a:Addr)(es:List (V×V))(k:V):Prop:=if k.fG=4 then Rc w h pl a es else FE w h pl a es k.fG
theorem FG{a b c:Nat}(e:a=b)(h:b<=c):a<=c:=e▸h
theorem C5:cu<=sizeLine:=by rw [sizeLine_eq];decide
theorem Rf:AM<=sizeLine:=by rw [sizeLine_eq];decide
theorem iH(h:1066<=a):(a==sysModules)=false:=beq_eq_false_iff_ne.mpr λe=>absurd (e▸h) (by decide)
section
def N4(h:Heap)(a:Addr):Prop:=∃o ep,h.get? a=some o/\o.ExactDict/\o.data=.dict #[] ep
theorem FE.ji(x:FE w h pl a [] t):N4 h a:=by
 obtain⟨kvs,⟨o,es,ep,ho,hx,hd,_,hp,_⟩,d⟩:=x;have z:=List.length_eq_zero_iff.mp (hp.length.trans d.len.symm);exact⟨o,ep,ho,hx,(Array.toList_eq_nil_iff.mp z)▸hd⟩
theorem Rc.ji(x:Rc w h pl a []):N4 h a:=by
 obtain⟨xs,⟨o,es,ep,ho,hx,hd,hl,_⟩,d⟩:=x;have z:es.toList=[]:=hl.trans (by rw [List.length_eq_zero_iff.mp d.len.symm];rfl)
 exact⟨o,ep,ho,hx,(Array.toList_eq_nil_iff.mp z)▸hd⟩
theorem N4.yc{K:Type} [DecidableEq K]{knd:KeyKind PW w K}(x:N4 h a):h.DictOf knd a []:=
 let⟨o,ep,ho,hx,hd⟩:=x;⟨o,#[],ep,ho,hx,hd,λ_ he=>absurd he (Array.not_mem_empty _),.nil,Bx⟩
theorem g6.ji(x:g6 w h pl a []):N4 h a:=x.2.elim (λ⟨_,q⟩=>q.ji) Rc.ji
theorem jh.nil(x:N4 h a)(k:V):jh w h pl a [] k:=by
 unfold jh;by_cases e:k.fG=4
 ·rw [az e];obtain⟨o,ep,ho,hx,hd⟩:=x;exact⟨[],⟨o,#[],ep,ho,hx,hd,rfl,λ_=>bg,Bx⟩,.nil⟩
 ·rw [ay e];exact⟨[],x.yc,.nil⟩
structure oh(k:V):Prop where
 key:k.i7=true
 gF:k.gF<=8
theorem kj(hk:gn k es=true):oh k:=⟨(ah hk).1,bx (ah (ah hk).2).1⟩
theorem g6.ZY(c:g6 w h pl a es)(hk:gn k es=true):jh w h pl a es k:=by
 cases es with
 |nil=>exact .nil c.ji k
 |cons p es=>
  have e:=eq_of_beq (ah (ah hk).2).2;unfold jh;rcases c.2 with⟨t,kvs,d,q⟩|⟨xs,d,q⟩
  ·have z:k.fG=t/\k.fG≠4:=by
    cases q with
    |cons r q=>
     obtain⟨_,_,_,_,_,_,_,hp,_⟩:=d;generalize Array.toList _=l at hp;cases hp with
     |cons i _ _=>
      obtain⟨z,i|i⟩:=gp i
      ·obtain⟨i,_,i,_⟩:=i
       exact⟨e.symm.trans z,λq=>absurd (show 2=4 from(au V.fG i).symm.trans (e.trans q)) (by decide)⟩
      ·obtain⟨i,_,i,_⟩:=i
       exact⟨e.symm.trans z,λq=>absurd (show 3=4 from(au V.fG i).symm.trans (e.trans q)) (by decide)⟩
   rw [ay z.2,z.1];exact⟨kvs,d,q⟩
  ·have z:k.fG=4:=by
    cases q with
    |cons r q=>
     obtain⟨_,_,_,_,_,_,_,i,_⟩:=d;obtain⟨xs,_,_,i,_⟩:=(i _ cC).2.nU;exact e.symm.trans (au V.fG i)
   rw [az z];exact⟨xs,d,q⟩
theorem yd(r:VR h pl k u)(hk:k.i7=true)(n:¬k.fG=4):jE k.fG k u=true:=by
 cases KR.of r hk with
 |int=>exact Jo _ _
 |str o=>exact ya _ _ o
 |aC=>exact absurd rfl n
theorem C6(r:VR h pl k u)(hk:oh k)(n:k.fG=4):∃b,u=.ref b/\(xZ w).is h k b:=by
 have q:=KR.of r hk.key;have q0:=q;cases q with
 |int=>exact absurd (show 2=4 from n) (by decide)
 |str o=>exact absurd (show 3=4 from n) (by decide)
 |aC=>exact⟨_,rfl,hk.gF,q0⟩
theorem k9(k v:V)(es:List (V×V)):(cS k v es).length<=es.length+1:=List.rec (aW _) (λp es ih=>by
 show(if p.1=k then(p.1,v)::es else p::cS k v es).length<=_;split
 ·exact gD _
 ·exact nG ih) es
theorem ye(k:V)(es:List (V×V)):(kI k es).length<=es.length:=List.rec (aW _) (λp es ih=>by
 show(if p.1=k then es else p::kI k es).length<=_;split
 ·exact gD _
 ·exact nG ih) es
end
noncomputable def rZ(xs:List (V×Addr×Value))(k:V):List (V×Addr×Value):=xs.filter λx=>decide (x.1≠k)
theorem Jq{α:Type}{f:α->V}{xs:List α}(n:k∉xs.map f):xs.filter (λx=>decide (f x≠k))=xs:=(List.filter_eq_self).mpr λx hx=>dj λq:f x=k=>n (List.mem_map.mpr ⟨x,hx,q⟩)
theorem r6{k:V}:∀{xs:List (V×Addr×Value)}{j:Nat},(xs.map (·.1)).Nodup->xs[j]?=some (k,p)->xs.eraseIdx j=rZ xs k:=λ{xs}=>List.rec (motive:=λxs=>∀{j:Nat},(xs.map (·.1)).Nodup->xs[j]?=some (k,p)->xs.eraseIdx j=rZ xs k) (λ_ e=>nomatch e) (λx xs ih{j}hn hj=>by
 have hn:=List.nodup_cons.mp hn;unfold rZ;cases j with
 |zero=>
  have e:x.1=k:=au (·.1) (bV hj)
  rw [CK (p:=λx:V×Addr×Value=>decide (x.1≠k)) λq=>absurd e (bx q),Jq (e▸hn.1)];rfl
 |succ j=>
  have e:x.1≠k:=λe=>hn.1 (List.mem_map.mpr ⟨_,pX hj,e.symm⟩);rw [I2 (p:=λx:V×Addr×Value=>decide (x.1≠k)) (dj e),List.eraseIdx_cons_succ,ih hn.2 hj];rfl) xs
theorem AO{α β:Type}(f:α->β)(l:List α):∀(j:Nat),(l.eraseIdx j).map f=(l.map f).eraseIdx j:=List.rec (λ_=>rfl) (λa l ih j=>by
 cases j with
 |zero=>rfl
 |succ j=>exact au (f a::·) (ih j)) l
section
variable{E:Value->Shared->Prop}{s:Shared}
theorem C7(hu:(xZ w).room A)(afk:(xZ w).is s.heap k a)(hm:s.heap.DictOfH (xZ w) d xs)
  (afl:atKey xs k=none->Q none {s with toks:=s.toks+(xZ w).draws k})
  (afm:∀p,atKey xs k=some p->∀h',h'.DictOfH (xZ w) d (rZ xs k)->Heap.SameBut d s.heap h'->Q (some ⟨(xZ w).hash k,.ref p.1,p.2⟩) {s with heap:=h',toks:=s.toks+(xZ w).draws k})
  (N5:xs.length<=sizeLine):wpAny (model PW w) A (Builtin.Dict.takeOut d (.ref a)) Q E s:=by
 obtain⟨o,es,ep,ho,hc,hd,he,his,hn⟩:=hm;unfold Builtin.Dict.takeOut
 try with_reducible refine iX ?_
 refine aV ((xZ w).pyHash hu afk (aV (wpAny_dictFind_heap hu afk ho hd he his hn (λN6=>aP (afl (atKey_none_of_get N6))) λj p hj=>?_)));refine aV (wpAny_dictEntries ho hd ?_);rw [entry_at he j,hj];exact aV (wpAny_updateDictKeys (hz:=FG (size_of_entries he) N5) ho hd (aP (afm p (atKey_of_get hn hj) _ ⟨_,_,ep+1,NK _ ho (Obj.isFreed_of_dict (Obj.data_mapDictKeys hd _)),hc.mapDictKeys _,Obj.data_mapDictKeys hd _,by rw [←r6 hn hj,AO,←he,Array.toList_eraseIdxIfInBounds],λx hx=>(xZ w).keeps (his x (List.mem_filter.mp hx).1) ho hd (Fd ..),List.Nodup.sublist (List.Sublist.map _ E8) hn⟩ (Fd ..))))
theorem jh.typeIs(D:jh w s.heap pl a es k):s.TypeIs (.ref a) "dict":=by
 unfold jh at D;split at D
 ·obtain⟨_,d,_⟩:=D;exact d.typeIs
 ·obtain⟨_,d,_⟩:=D;exact d.typeIs
def afn(w:World)(s:Shared)(a:Addr)(key:Value)(o:Option Value)(n:Nat):Prop:=∀(A:Around)(E:Value->Shared->Prop)(Q:Option Value->Shared->Prop),A.units+40<cLine->Q o {s with toks:=s.toks+n}->wpAny (model PW w) A (dictGet a key) Q E s
theorem uu(D:jh w s.heap pl a es k)(r:VR s.heap pl k key)(hk:oh k):∃o n,qe s.heap pl (bJ k es) o/\afn w s a key o n:=by
 unfold jh at D;split at D
 ·rename_i n
  obtain⟨xs,d,p⟩:=D;obtain⟨b,rfl,e⟩:=C6 (w:=w) r hk n;refine⟨_,qL k,p.get k,λA E Q hu h=>wpAny_dictGet_heap hu e d ?_⟩;unfold atKey;rw [Option.map_map];exact h
 ·rename_i n
  obtain⟨kvs,d,p⟩:=D;exact⟨_,1,p.get k,λA E Q _ h=>wpAny_dictGet_of (yd r hk.key n) d.mapOf h⟩
def uv(w:World)(h:Heap)(pl:List Addr)(a:Addr)(h':Heap)(es:List (V×V)):Prop:=Heap.SameBut a h h'/\(Gr [] h pl h' pl->g6 w h' pl a es)
theorem N7(D:jh w s.heap pl a es k)(r:VR s.heap pl k key)(rv:VR s.heap pl v v')(hk:oh k)(hl:es.length<cu):∃n,∀(A:Around)(E:Value->Shared->Prop)(Q:Unit->Shared->Prop),A.units+40<cLine->(∀h',uv w s.heap pl a h' (cS k v es)->Q () {s with heap:=h',toks:=s.toks+n})->wpAny (model PW w) A (dictSet a key v') Q E s:=by
 have hz:=aH (k9 k v es) hl;unfold jh at D;split at D
 ·rename_i n
  obtain⟨xs,d,p⟩:=D;obtain⟨b,rfl,e⟩:=C6 (w:=w) r hk n;have hn:=d;obtain⟨_,_,_,_,_,_,_,_,hn⟩:=hn;exact⟨_,λA E Q hu h=>wpAny_dictSet_heap hu e d (λh' hm' hs=>h h' ⟨hs,λg=>⟨hz,.inr ⟨_,hm',(p.put hn k b rv).mono g.toGk .nil⟩⟩⟩) (FG p.len.symm (aH (fT hl) C5))⟩
 ·rename_i n
  obtain⟨kvs,d,p⟩:=D;have hn:=d;obtain⟨_,_,_,_,_,_,_,_,hn⟩:=hn;exact⟨1,λA E Q hu h=>wpAny_dictSet_pairs (yd r hk.key n) d (λh' hm' hs=>h h' ⟨hs,λg=>⟨hz,.inl ⟨_,_,hm',(p.put hn k rv).mono g.toGk .nil⟩⟩⟩) (FG p.len.symm (aH (fT hl) C5))⟩
theorem qe.FH(r:qe h pl x o)(e:o=none):x=none:=by
 cases x with
 |none=>rfl
 |some v=>obtain⟨u,q,_⟩:=r;exact bL q e
theorem qe.LV(r:qe h pl x o)(e:o=some u):∃v,x=some v/\VR h pl v u:=by
 cases x with
 |none=>exact bL e r
 |some v=>obtain⟨u',q,r⟩:=r;exact⟨v,rfl,bV (q.symm.trans e)▸r⟩
theorem BE(D:jh w s.heap pl a es k)(z:es.length<=cu)(r:VR s.heap pl k key)(hk:oh k):∃n,∀(A:Around)(E:Value->Shared->Prop)(Q:Option DictEntry->Shared->Prop),A.units+40<cLine->(bJ k es=none->Q none {s with toks:=s.toks+n})->(∀v e h',bJ k es=some v->VR s.heap pl v e.val->uv w s.heap pl a h' (kI k es)->Q (some e) {s with heap:=h',toks:=s.toks+n})->wpAny (model PW w) A (Builtin.Dict.takeOut a key) Q E s:=by
 have hz:=aH (ye k es) z;unfold jh at D;split at D
 ·rename_i n
  obtain⟨xs,d,p⟩:=D;obtain⟨b,rfl,e⟩:=C6 (w:=w) r hk n;have hn:=d;obtain⟨_,_,_,_,_,_,_,_,hn⟩:=hn;have g0:=p.get k;refine⟨_,λA E Q hu h1 h2=>C7 hu e d (λq=>h1 (g0.FH ?_)) (λq he h' hm' hs=>?_) (FG p.len.symm (aH z C5))⟩
  ·exact Option.map_eq_none_iff.mpr (Option.map_eq_none_iff.mp q)
  ·obtain⟨x,hx,rfl⟩:=Option.map_eq_some_iff.mp he
   obtain⟨v,e1,e2⟩:=g0.LV (Option.map_eq_some_iff.mpr ⟨x,hx,rfl⟩);exact h2 v _ h' e1 e2 ⟨hs,λg=>⟨hz,.inr ⟨_,hm',(p.Qk k hn).mono g.toGk .nil⟩⟩⟩
 ·rename_i n
  obtain⟨kvs,d,p⟩:=D;have hn:=d;obtain⟨_,_,_,_,_,_,_,_,hn⟩:=hn;have g0:=p.get k;refine⟨1,λA E Q hu h1 h2=>wpAny_takeOut_pairs (yd r hk.key n) d (λq=>h1 (g0.FH q)) (λe _ he h' hm' hs=>?_) (FG p.len.symm (aH z C5))⟩;obtain⟨v,e1,e2⟩:=g0.LV he;exact h2 v e h' e1 e2 ⟨hs,λg=>⟨hz,.inl ⟨_,_,hm',(p.Qk k hn).mono g.toGk .nil⟩⟩⟩
end
section
variable{E:Value->Shared->Prop}{s:Shared}{key v' FI:Value}
theorem LW(h:n+50<cLine):n+1+40<cLine:=di (by rw [nH];exact cG (by decide) n) h
theorem N8(D:jh w s.heap pl a es k)(r:VR s.heap pl k key)(hk:oh k)(hu:A.units+50<cLine)(hv:bJ k es=some v)
  (h:∀v' n,VR s.heap pl v v'->Q v' {s with toks:=s.toks+n}):wpAny (model PW w) A (getItem (.ref a) key) Q E s:=by
 obtain⟨o,n,q,g⟩:=uu D r hk;rw [hv]at q;obtain⟨v',rfl,q⟩:=q;unfold getItem
 try with_reducible refine iX ?_
 refine aV (wpAny_sequenceKey D.typeIs (by decide) (aV (wpAny_callSpecial?_slot D.typeIs slot_dict_getitem (AG slot_dict_getitem D.typeIs entry_dict_getitem ?_ (args_dict_getitem _ _)))))
 show wpAny _ _ (dictGet a key>>=_) _ _ s;exact aV (g _ _ _ (LW hu) (aP ⟨v',rfl,aP (h v' n q)⟩))
theorem afo(D:jh w s.heap pl a es k)(r:VR s.heap pl k key)(hk:oh k)(hu:A.units+50<cLine)(hs:(a==sysModules)=false)
  (h:∀n,Q (bJ k es).isSome {s with toks:=s.toks+n}):wpAny (model PW w) A (contains (.ref a) key) Q E s:=by
 obtain⟨o,n,q,g⟩:=uu D r hk;unfold contains
 try with_reducible refine iX ?_
 refine aV (wpAny_specialOf D.typeIs slot_dict_contains.lookup ?_);rw [ay (by rw [beq_builtin_none];exact eH)]
 refine aV (wpAny_callSpecialUnlessNone?_slot D.typeIs slot_dict_contains (AG slot_dict_contains D.typeIs entry_dict_contains ?_ (args_dict_contains _ _)));show wpAny _ _ (dictGet a key>>=_) _ _ s;refine aV (g _ _ _ (LW hu) ?_);have h:=h n;cases e:bJ k es with
 |none=>
  rw [e]at q h;rw [q];exact aV (wpAny_pendingKey_other hs (aP ⟨_,rfl,wpAny_truthy_bool h⟩))
 |some v=>
  rw [e]at q h;obtain⟨v',rfl,_⟩:=q;exact aP ⟨_,rfl,wpAny_truthy_bool h⟩
theorem N9(D:jh w s.heap pl a es k)(r:VR s.heap pl k key)(rv:VR s.heap pl v v')(hk:oh k)(hu:A.units+50<cLine)(hl:es.length<cu)
  (h:∀h' n,uv w s.heap pl a h' (cS k v es)->Q () {s with heap:=h',toks:=s.toks+n}):wpAny (model PW w) A (setItem (.ref a) key v') Q E s:=by
 obtain⟨n,g⟩:=N7 D r rv hk hl;unfold setItem
 try with_reducible refine iX ?_
 refine aV (wpAny_sequenceKey D.typeIs (by decide) (aV (wpAny_callSpecial?_slot D.typeIs slot_dict_setitem (AG slot_dict_setitem D.typeIs entry_dict_setitem ?_ (args_dict_setitem _ _ _)))))
 refine aV (wpAny_notOrdered_dict D.typeIs ?_);show wpAny _ _ (dictSet a key v'>>=_) _ _ s;exact aV (g _ _ _ (LW hu) λh' c=>aP ⟨.none,rfl,aP (h h' n c)⟩)
theorem Ob(D:jh w s.heap pl a es k)(z:es.length<=cu)(r:VR s.heap pl k key)(hk:oh k)(hu:A.units+50<cLine)(hv:(bJ k es).isSome=true)
  (h:∀h' n,uv w s.heap pl a h' (kI k es)->Q () {s with heap:=h',toks:=s.toks+n}):wpAny (model PW w) A (delItem (.ref a) key) Q E s:=by
 obtain⟨n,g⟩:=BE D z r hk;refine wpAny_delItem_slot D.typeIs (by decide) F.slot_dict_delitem (AG F.slot_dict_delitem D.typeIs F.entry_dict_delitem ?_ (F.args_dict_delitem_2 _ _))
 unfold Builtin.«dict.__delitem__»;refine aV ?_;unfold Builtin.Dict.dictSlotArgs;refine aV (wpAny_notOrdered_dict D.typeIs ?_);refine aP ?_;show wpAny _ _ (Builtin.Dict.takeOut a key>>=_) _ _ s;exact aV (g _ _ _ (LW hu) (λe=>ff (by rw [e]at hv;exact hv)) λv e h' _ _ c=>aV (wpAny_letGo (aP ⟨.none,rfl,h h' n c⟩)))
theorem afp(D:jh w s.heap pl a es k)(r:VR s.heap pl k key)(rd:VR s.heap pl dv FI)(hk:oh k)(hu:A.units+50<cLine)(hs:(a==sysModules)=false)(ha:args=[.ref a,key,FI]\/(args=[.ref a,key]/\FI=.none))
  (h:∀v' n,VR s.heap pl ((bJ k es).getD dv) v'->Q v' {s with toks:=s.toks+n}):wpAny (model PW w) A (call (.builtin "dict.get") args) Q E s:=by
 obtain⟨o,n,q,g⟩:=uu D r hk;rcases ha with rfl|⟨rfl,rfl⟩
 ·refine AG F.slot_dict_get D.typeIs F.entry_dict_get ?_ (F.args_dict_get_3 _ _ _)
  show wpAny _ _ (dictGet a key>>=_) _ _ s;refine aV (g _ _ _ (LW hu) ?_);cases e:bJ k es with
  |none=>
   rw [e]at q h;rw [q];exact aV (wpAny_missed_other hs (aP ⟨_,rfl,h _ n rd⟩))
  |some v=>
   rw [e]at q h;obtain⟨v',rfl,q⟩:=q;exact aP ⟨v',rfl,h _ n q⟩
 ·refine AG F.slot_dict_get D.typeIs F.entry_dict_get ?_ (F.args_dict_get_2 _ _)
  show wpAny _ _ (dictGet a key>>=_) _ _ s;refine aV (g _ _ _ (LW hu) ?_);cases e:bJ k es with
  |none=>
   rw [e]at q h;rw [q];exact aV (wpAny_missed_other hs (aP ⟨_,rfl,h _ n rd⟩))
  |some v=>
   rw [e]at q h;obtain⟨v',rfl,q⟩:=q;exact aP ⟨v',rfl,h _ n q⟩
theorem jh.data(D:jh w s.heap pl a es k):∃o ds ep,s.heap.get? a=some o/\o.data=.dict ds ep/\ds.size=es.length:=by
 unfold jh at D;split at D
 ·obtain⟨_,⟨o,ds,ep,ho,_,hd,he,_⟩,p⟩:=D
  exact⟨o,ds,ep,ho,hd,(size_of_entries he).trans p.len.symm⟩
 ·obtain⟨_,⟨o,ds,ep,ho,_,hd,_,hp,_⟩,p⟩:=D
  exact⟨o,ds,ep,ho,hd,Array.length_toList.symm.trans (hp.length.trans p.len.symm)⟩
theorem Rg(D:jh w s.heap pl a es k)(z:es.length<=cu)(r:VR s.heap pl k key)(hk:oh k)(hu:A.units+50<cLine)(hs:(a==sysModules)=false)
  (hn:bJ k es=none->∀n,Q FI {s with toks:=s.toks+n})
  (hv:∀v v' h' n,bJ k es=some v->VR s.heap pl v v'->uv w s.heap pl a h' (kI k es)->Q v' {s with heap:=h',toks:=s.toks+n}):
  wpAny (model PW w) A (call (.builtin "dict.pop") [.ref a,key,FI]) Q E s:=by
 obtain⟨n,g⟩:=BE D z r hk;refine AG F.slot_dict_pop D.typeIs F.entry_dict_pop ?_ (F.args_dict_pop_3 _ _ _);unfold Builtin.«dict.pop»;refine aV ?_;unfold Builtin.Dict.keyAndDefault;refine aV (wpAny_notOrdered_dict D.typeIs ?_);refine aP ?_;dsimp only;have tail:wpAny (model PW w) A.in1 (do
   let old←Builtin.Dict.takeOut a key
   if old.isNone then Builtin.Dict.missedRemoval a key
   match old,some FI with
   |some e,_=>letGo [e.key] [e.val];ret e.val
   |none,some x=>rule "dict.pop.default";ret x
   |none,none=>rule "dict.pop.keyerror";raiseNew (←newExc (.type "KeyError") [key])) (λgV s'=>∃v,gV=.done (.ret v)/\Q v s') E s:=aV (g _ _ _ (LW hu) (λe=>aV (wpAny_missedRemoval_other hs (aV (wpAny_rule (aP ⟨FI,rfl,hn e n⟩))))) λv e h' hv1 hv2 c=>aV (wpAny_letGo (aP ⟨e.val,rfl,hv v e.val h' n hv1 hv2 c⟩)))
 by_cases hp:(keyPart key).isSome
 ·rw [az hp]
  exact aV (aP tail)
 ·rw [ay hp]
  obtain⟨o,ds,ep,ho,hdd,N5⟩:=D.data;refine aV (wpAny_dictEntries ho hdd (aV (aP ?_)));cases he:ds.isEmpty with
  |false=>exact tail
  |true=>
   refine aV (wpAny_rule (aV (aP (aV (wpAny_missedRemoval_other hs (aV (wpAny_rule (aP ⟨FI,rfl,hn ?_ 0⟩))))))));rw [List.length_eq_zero_iff.mp (N5.symm.trans (Array.isEmpty_iff_size_eq_zero.mp he))];rfl
end
structure nO(T:iL)(w:World):Prop where
 sd:∀a es,T.sd a=some es->(a==sysModules)=false/\∀h pl,fy (HB w.params) h->(∀a∈pl,a=0\/1066<=a)->g6 w h pl a es
noncomputable def Oc(w:World)(h:Heap)(pl:List Addr)(a:Addr)(c:Ct):Prop:=Ct.casesOn (motive:=λ_=>Prop) c (λxs=>∃vs n,qI h pl mz xs (.ref a) a vs n) (rY h pl a) λes=>(a==sysModules)=false/\g6 w h pl a es
section
variable{α β γ δ:Type}
theorem J.look(S:nO T w)(R:RR w p)(r:VR p.h p.pl o u)(h:∀ct a b,u=.ref a->Oc w p.h p.pl a ct->f ct=some b->J w md R2 t (g b) p):J w md R2 t (M.bind (Mine.look T o f) g) p:=by
 have gV:=λct a e c=>J.C4 λb q=>h ct a b e c q;revert r;refine V.casesOn o (λ_=>J.aJ) (λ_ _=>J.aJ) (λ_ _=>J.aJ) (λ_ _=>J.aJ) (λxs r=>?_) (λxs r=>?_) (λ_ _ _=>J.aJ) (λl r=>?_) (λ_ _ _=>J.aJ) (λa r=>?_) (λ_ _=>J.aJ) (λ_ _=>J.aJ) (λ_ _=>J.aJ)
 ·obtain⟨a,vs,n,e⟩:=r.nU
  exact gV (.aC xs) a e.eq ⟨vs,n,rfl,e.get,e.out,e.CY,e.qJ⟩
 ·obtain⟨a,vs,n,e⟩:=r.nU
  exact gV (.lst xs) a e.eq ⟨vs,n,e.get,e.CY,e.qJ⟩
 ·obtain⟨a,d,e,hl,hd⟩:=r.nU
  have cell:∀c,p.st[l]?=some c->CR w p.h p.pl d c->J w md R2 t (M.bind (M.bind (c.on M.fail (λxs=>M.pure (.lst xs)) (λes=>M.pure (.dict es)) λ_=>M.fail) λc=>bX (f c)) g) p:=λc e1=>by
   have low:=R.Jp e1 hl;revert low;refine bw.casesOn c (λxs low c=>?_) (λes low c=>?_) (λ_ _ _=>J.aJ) (λ_ _=>J.aJ)
   ·have low:=low bw.noConfusion
    exact gV (.lst xs) a e (hd.elim (λq=>q▸c) λq=>absurd (q▸low) (by decide))
   ·have low:=low bw.noConfusion
    exact gV (.dict es) a e (hd.elim (λq=>q▸⟨iH low,c⟩) λq=>absurd (q▸low) (by decide))
  refine⟨λQ E k=>(J.eK R hl cell).aS Q E ?_⟩;revert k;show Ok w md R2 p ((((bX p.st[l]? p.st).bind _).bind _).bind g) Q E->Ok w md R2 p ((bX p.st[l]? p.st).bind _) Q E;cases p.st[l]?<;>exact id
 ·have e:=r.nU
  show J w md R2 t (M.bind (M.bind (bX ((T.sd a).map Ct.dict)) λc=>bX (f c)) g) p;cases q:T.sd a with
  |none=>exact J.aJ
  |some es=>
   obtain⟨h1,h2⟩:=S.sd a es q;exact gV (.dict es) a e ⟨h1,h2 _ _ R.base R.low⟩
theorem M.bind_pure:M.bind m M.pure=m:=funext λs=>by
 unfold M.bind;cases m s<;>rfl
theorem J.BF(S:nO T w)(R:RR w p)(r:VR p.h p.pl o u)(h:∀ct a b,u=.ref a->Oc w p.h p.pl a ct->f ct=some b->J w md R2 t (M.pure b) p):J w md R2 t (Mine.look T o f) p:=by
 have:=J.look S R r h;rwa [M.bind_pure]at this
end
section
theorem LZ{x:V}{i:Int}:x.gJ=some i->x=.int i:=V.casesOn x ns (λ_=>ns) (λ_ e=>au V.int (bV e)) (λ_=>ns) (λ_=>ns) (λ_=>ns) (λ_ _=>ns) (λ_=>ns) (λ_ _=>ns) (λ_=>ns) (λ_=>ns) (λ_=>ns) (λ_=>ns)
theorem VR.gJ{x:V}{u:Value}{i:Int}(r:VR h pl x u)(e:x.gJ=some i):∃t,u=.int i t:=(LZ e▸r:VR h pl (.int i) u).nU
theorem bind_some{α β:Type}{o:Option α}{f:α->Option β}{b:β}(e:o.bind f=some b):∃a,o=some a/\f a=some b:=Option.bind_eq_some_iff.mp e
end
theorem abA{xs:List V}{i:Int}{x:V}(h:ZS xs i=some x)(hl:xs.length<=AM):-2^63<=i/\i<2^63/\∃j,seqIndex? i xs.length=some j/\xs[j]?=some x:=by
 have hl:xs.length<=16777216:=hl;unfold ZS at h;unfold seqIndex?;split at h
 ·have:=(rO h).1
  refine⟨by omega,by omega,i.toNat,?_,h⟩
  rw [ay (show¬i<0 by omega),az (dF (dj (by omega)) (dj (by omega)))]
 ·split at h
  ·have:=(rO h).1
   refine⟨by omega,by omega,(xs.length+i).toNat,?_,h⟩
   rw [az (show i<0 by omega),az (dF (dj (by omega)) (dj (by omega))),Int.add_comm]
  ·cases h
section
variable{α β γ δ:Type}
theorem J.aR{t:LU α}{a:α}{b:β}(R:RR w p)(r:R1 p.h p.pl b a)(h:∀Q E,Q a p.s->t Q E p.s):J w md R1 t (M.pure b) p:=⟨λQ E k=>h Q E (k a p.s p.pl (.refl R) r)⟩
theorem J.tk{t:LU α}{a:α}{b:β}{tk:Nat}(R:RR w p)(r:R1 p.h p.pl b a)(h:∀Q E,Q a {p.s with toks:=tk}->t Q E p.s):J w md R1 t (M.pure b) p:=⟨λQ E k=>h Q E (k a _ p.pl (.ZX R tk) r)⟩
theorem Rh{xs:List V}{k:Int}{x:V}(e:natAt xs k=some x):0<=k/\xs[k.toNat]?=some x:=by
 unfold natAt at e;split at e
 ·exact⟨by assumption,e⟩
 ·cases e
theorem Jr{a:Addr}{ct:Ct}{i b:V}{v:Value}(hu:A.units+50<cLine)(R:RR w p)(q:VR p.h p.pl i v):Oc w p.h p.pl a ct->QX i ct=some b->J w md VR (wp w A (getItem (.ref a) v)) (M.pure b) p:=by
  refine Ct.casesOn ct (λxs c e=>?_) (λxs c e=>?_) λes c e=>?_
  ·obtain⟨k,e1,e2⟩:=bind_some e
   obtain⟨t,rfl⟩:=q.gJ e1;obtain⟨vs,n,c⟩:=c;obtain⟨h1,h2,j,h3,h4⟩:=abA e2 c.qJ;obtain⟨y,h5,h6⟩:=c.CY.get h4;exact J.aR R h6 λQ E h=>P.getItem_tuple c.get h1 h2 (by rw [I6,←c.CY.length];exact h3) ((I4 ..).trans h5) h
  ·obtain⟨k,e1,e2⟩:=bind_some e
   obtain⟨t,rfl⟩:=q.gJ e1;obtain⟨h0,e2⟩:=Rh e2;obtain⟨vs,n,ho,rs,hb⟩:=c;obtain⟨y,h5,h6⟩:=rs.get e2;have AP:k.toNat<16777216:=eB (rO e2).1 hb;exact J.aR R h6 λQ E h=>wpAny_getItem_list (IsL.isList ho) h0 (by omega) ((I4 ..).trans h5) h
  ·have e:(if gn i es=true then bJ i es else none)=some b:=e
   split at e
   ·rename_i hk
    exact⟨λQ E kk=>N8 (c.2.ZY hk) q (kj hk) hu e λv' n r=>kk _ _ _ (.ZX R _) r⟩
   ·cases e
abbrev UR:qN Unit Unit:=λ_ _ _ _=>True
theorem J.cell{t:LU α}{o:V}{u:Value}{m:Nat->bw->M β}(R:RR w p)(r:VR p.h p.pl o u)(h:∀l a c,u=.ref a->p.pl[l]?=some a->p.st[l]?=some c->CR w p.h p.pl a c->J w md R1 t (m l c) p)(hj:∀l,m l .bH p.st=.aJ):J w md R1 t (o.Wy M.fail λl=>M.bind (Mine.eK l) (m l)) p:=by
 revert r;refine V.casesOn o (λ_=>J.aJ) (λ_ _=>J.aJ) (λ_ _=>J.aJ) (λ_ _=>J.aJ) (λ_ _=>J.aJ) (λ_ _=>J.aJ) (λ_ _ _=>J.aJ) (λl r=>?_) (λ_ _ _=>J.aJ) (λ_ _=>J.aJ) (λ_ _=>J.aJ) (λ_ _=>J.aJ) (λ_ _=>J.aJ);obtain⟨a,d,e,hl,hd⟩:=r.nU;refine J.eK R hl λc e1 c1=>?_;rcases hd with rfl|rfl
 ·exact h l d c e hl e1 c1
 ·rw [bV (e1.symm.trans (R.jk l hl))]
  exact J.congr (hj l) J.aJ
theorem J.dict{t:LU α}{o:V}{u:Value}{m:Nat->List (V×V)->M β}(R:RR w p)(r:VR p.h p.pl o u)(h:∀l a es,u=.ref a->p.pl[l]?=some a->1066<=a->p.st[l]?=some (.dict es)->g6 w p.h p.pl a es->J w md R1 t (m l es) p):J w md R1 t (o.Wy M.fail λl=>M.bind (Mine.eK l) λc=>c.on M.fail (λ_=>M.fail) (m l) λ_=>M.fail) p:=J.cell R r (λl a c hu hl=>bw.casesOn c (λ_ _ _=>J.aJ) (λes e c=>h l a es hu hl (R.Jp e hl bw.noConfusion) e c) (λ_ _ _=>J.aJ) λ_ _=>J.aJ) λ_=>rfl
theorem J.set{t:LU Unit}{l:Nat}{a:Addr}{es es':List (V×V)}(R:RR w p)(hl:p.pl[l]?=some a)(low:1066<=a)(h:∀Q E,(∀h' n,uv w p.h p.pl a h' es'->Q () {p.s with heap:=h',toks:=p.s.toks+n})->t Q E p.s):J w md UR t (jf l (.dict es')) p:=⟨λQ E k=>h Q E λh' n c=>k () _ p.pl (.kJ R hl low c.1 c.2) ⟨⟩⟩
theorem Js{o i x:V}{u v z:Value}(hu:A.units+50<cLine)(R:RR w p)(r:VR p.h p.pl o u)(q:VR p.h p.pl i v)(rz:VR p.h p.pl x z):J w md UR (wp w A (setItem u v z)) (xS o i x) p:=J.dict R r λl a es e hl low _ c=>J.jF λhk=>by
  subst e;exact J.set (es:=es) R hl low λQ E h=>N9 (c.ZY (ah hk).1) q rz (kj (ah hk).1) hu (bx (ah hk).2) h
theorem Jt{o i:V}{u v:Value}(hu:A.units+50<cLine)(R:RR w p)(r:VR p.h p.pl o u)(q:VR p.h p.pl i v):J w md UR (wp w A (delItem u v)) (Ft o i) p:=J.dict R r λl a es e hl low _ c=>J.jF λhk=>by
  subst e;exact J.set (es:=es) R hl low λQ E h=>Ob (c.ZY (ah hk).1) c.1 q (kj (ah hk).1) hu (ah hk).2 h
noncomputable def BG(op:COp):CmpOp:=COp.casesOn (motive:=λ_=>CmpOp) op .Eq .NotEq .Lt .LtE .Gt .GtE .In .NotIn .IsNot
abbrev BR:qN Value Bool:=λ_ _ b v=>v=.bool b
theorem L3(x:V)(hx:x.plain=true)(xs:List V):V.cZ xs=true->((m7 xs).any λy=>PyData.eqv y (qd x))=jg x xs:=List.rec (λ_=>rfl) (λy ys ih h=>by
 show(PyData.eqv (qd y) (qd x)||(m7 ys).any λy=>PyData.eqv y (qd x))=_;rw [Jm y x (ah h).1 hx,ih (ah h).2];rfl) xs
noncomputable abbrev Qn(n r:Bool):Bool:=cond n (! r) r
noncomputable def afq(n:Bool):CmpOp:=cond n .NotIn .In
noncomputable def Ri(n:Bool):CmpOp:=cond n .NotEq .Eq
theorem Od{n k:Nat}(hu:n+50<cLine)(h:k<=9):n+1+k<cLine:=di (by rw [nH];exact cG (aH (cG h 1) (by decide)) n) hu
theorem afr{n k:Nat}(hu:n+50<cLine)(h:k<=9):n+k<cLine:=di (cG (aH h (by decide)) n) hu
theorem ZZ{x c:V}{u v:Value}(n:Bool)(S:nO T w)(hu:A.units+50<cLine)(R:RR w p)(r:VR p.h p.pl x u)(q:VR p.h p.pl c v):J w md BR (wp w A (compareOp (afq n) u v)) (M.bind (look T c (vz x)) λr=>M.pure (Qn n r)) p:=J.look S R q λct a b e=>by
  subst e;have gF:x.plain=true->decide (x.gF<=fU)=true->∀k,min k (qd x).depth<=9:=λh1 h2 k=>aH (tZ ..) (by rw [xY x h1];exact aH (bx h2) (by decide))
  refine Ct.casesOn (motive:=λct=>Oc w p.h p.pl a ct->vz x ct=some b->J w md BR (wp w A (compareOp (afq n) u (.ref a))) (M.pure (Qn n b)) p) ct (λxs c e=>?_) (λxs c e=>?_) λes c e=>?_
  ·have e:(if(x.plain&&(V.cZ xs&&decide (x.gF<=fU)))=true then some (jg x xs)else none)=some b:=e
   split at e
   ·rename_i hc
    obtain⟨c1,hc⟩:=ah hc;obtain⟨c2,c3⟩:=ah hc;obtain⟨vs,m,c⟩:=c;obtain⟨as,ra,ca⟩:=r.reads c1;obtain⟨bs,rb,cb⟩:=(VR.aC c.get c.out c.CY c.qJ).reads c2;have hd:=Od hu (gF c1 c3 (PyData.depthAll (m7 xs)));rw [←bV e,←L3 x c1 xs c2];exact J.aR (a:=.bool (Qn n _)) R rfl λQ E h=>by
     cases n with
     |false=>exact SeqAt.in_tuple_reads rb ra cb ca hd h
     |true=>exact SeqAt.notIn_tuple_reads rb ra cb ca hd h
   ·cases e
  ·have e:(if(x.plain&&(V.cZ xs&&decide (x.gF<=fU)))=true then some (jg x xs)else none)=some b:=e
   split at e
   ·rename_i hc
    obtain⟨c1,hc⟩:=ah hc;obtain⟨c2,c3⟩:=ah hc;obtain⟨vs,m,ho,rs,hb⟩:=c;obtain⟨as,ra,ca⟩:=r.reads c1;obtain⟨bs,rb,cb⟩:=PR.lst ho (rs.reads c2);have hd:=Od hu (gF c1 c3 (PyData.depthAll (m7 xs)));rw [←bV e,←L3 x c1 xs c2];exact J.aR (a:=.bool (Qn n _)) R rfl λQ E h=>by
     cases n with
     |false=>exact SeqAt.in_list_reads rb ra cb ca hd h
     |true=>exact SeqAt.notIn_list_reads rb ra cb ca hd h
   ·cases e
  ·have e:(if gn x es=true then some (bJ x es).isSome else none)=some b:=e
   split at e
   ·rename_i hk
    rw [←bV e];refine⟨λQ E kk=>?_⟩;have gV:∀m,Q (.bool (Qn n (bJ x es).isSome)) {p.s with toks:=p.s.toks+m}:=λm=>kk _ _ _ (.ZX R _) rfl
    cases n with
    |false=>exact aV (afo (c.2.ZY hk) r (kj hk) hu c.1 λm=>aP (gV m))
    |true=>exact aV (afo (c.2.ZY hk) r (kj hk) hu c.1 λm=>aP (gV m))
   ·cases e
theorem FJ{a b:V}{u v:Value}(n:Bool)(hu:A.units+50<cLine)(R:RR w p)(c1:a.plain=true)(c2:b.plain=true)(c3:min a.gF b.gF<=fU)(r:PR p.h a u)(q:PR p.h b v):J w md BR (wp w A (compareOp (Ri n) u v)) (M.pure (Qn n (decide (a=b)))) p:=by
 obtain⟨as,ra,ca⟩:=r;obtain⟨bs,rb,cb⟩:=q;have hd:A.units+min (qd a).depth (qd b).depth<cLine:=afr hu (by rw [xY a c1,xY b c2];exact aH c3 (by decide))
 rw [←Jm a b c1 c2];exact J.aR R rfl λQ E h=>by
  cases n with
  |false=>exact SeqAt.compareEq_reads ra rb ca cb hd h
  |true=>exact SeqAt.neOverData _ _ _ _ _ _ _ _ _ _ _ _ ra rb ca cb hd h
theorem Z0{a b:V}{u v:Value}(n:Bool)(S:nO T w)(hu:A.units+50<cLine)(R:RR w p)(r:VR p.h p.pl a u)(q:VR p.h p.pl b v):J w md BR (wp w A (compareOp (Ri n) u v)) (M.bind (eqV T a b) λr=>M.pure (Qn n r)) p:=by
 unfold eqV;by_cases hc:(a.plain&&(b.plain&&decide (min a.gF b.gF<=fU)))=true
 ·rw [az hc]
  exact FJ n hu R (ah hc).1 (ah (ah hc).2).1 (bx (ah (ah hc).2).2) (r.reads (ah hc).1) (q.reads (ah (ah hc).2).1)
 ·rw [ay hc]
  refine J.congr (m':=M.bind (look T a some) λc=>M.bind (look T b (eqP c)) λr=>M.pure (Qn n r)) ?_ (J.look S R r λc x c' e cx ec=>J.look S R q λd y b' e' dy=>?_)
  ·unfold look M.bind
   cases vp T a p.st with
   |aJ=>rfl
   |exc _=>rfl
   |ok c st'=>rfl
  ·subst e
   subst e';obtain rfl:=bV ec;revert cx dy;refine Ct.casesOn (motive:=λc=>Oc w p.h p.pl x c->Oc w p.h p.pl y d->eqP c d=some b'->J w md BR (wp w A (compareOp (Ri n) (.ref x) (.ref y))) (M.pure (Qn n b')) p) c (λ_ _ _=>ns) (λxs cx=>?_) λes cx=>?_
   ·refine Ct.casesOn (motive:=λd=>Oc w p.h p.pl y d->eqP (.lst xs) d=some b'->J w md BR (wp w A (compareOp (Ri n) (.ref x) (.ref y))) (M.pure (Qn n b')) p) d (λ_ _=>ns) (λys dy e=>?_) λ_ _=>ns
    have e:(if(V.cZ xs&&(V.cZ ys&&decide (V.abi ys+1<=fU)))=true then some (decide (xs=ys))else none)=some b':=e;split at e
    ·rename_i hc
     rw [←bV e,show decide (xs=ys)=decide (V.lst xs=V.lst ys)from decide_eq_decide.mpr ⟨au V.lst,V.lst.inj⟩];obtain⟨vs,m,ho,rs,hb⟩:=cx;obtain⟨vs',m',C8,rs',WD⟩:=dy;exact FJ n hu R (a:=.lst xs) (b:=.lst ys) (ah hc).1 (ah (ah hc).2).1 (aH (tZ ..) (bx (ah (ah hc).2).2)) (.lst ho (rs.reads (ah hc).1)) (.lst C8 (rs'.reads (ah (ah hc).2).1))
    ·cases e
   ·refine Ct.casesOn (motive:=λd=>Oc w p.h p.pl y d->eqP (.dict es) d=some b'->J w md BR (wp w A (compareOp (Ri n) (.ref x) (.ref y))) (M.pure (Qn n b')) p) d (λ_ _=>ns) (λ_ _=>ns) λfs dy e=>?_
    have e:(if(es.isEmpty&&fs.isEmpty)=true then some true else none)=some b':=e;split at e
    ·rename_i hc
     rw [←bV e];obtain rfl:=qz (ah hc).1;obtain rfl:=qz (ah hc).2;have d1:=(cx.2.ji).yc (knd:=intKind PW w);have d2:=(dy.2.ji).yc (knd:=intKind PW w);have hu':A.units<cLine:=afr (k:=0) hu (by decide)
     exact J.aR (a:=.bool (Qn n true)) R rfl λQ E h=>by
      cases n with
      |false=>exact keq_eq (knd:=intKind PW w) cx.1 dy.1 d1 d2 hu' (λ_=>.nil) h
      |true=>exact keq_ne (knd:=intKind PW w) cx.1 dy.1 d1 d2 hu' (λ_=>.nil) h
    ·cases e
theorem C9{a b:V}{u v:Value}{f:Int->Int->Bool}{op:CmpOp}(R:RR w p)(r:VR p.h p.pl a u)(q:VR p.h p.pl b v)(rule:∀(x y:Int)(t t':Tok)(Q:Value->Shared->Prop)E,Q (.bool (f x y)) p.s->wpAny (model PW w) A (compareOp op (.int x t) (.int y t')) Q E p.s):J w md BR (wp w A (compareOp op u v)) (QY f a b) p:=J.nV λc e=>by
  obtain⟨x,e1,e⟩:=bind_some e;obtain⟨y,e2,rfl⟩:=Option.map_eq_some_iff.mp e;obtain⟨t,rfl⟩:=r.gJ e1;obtain⟨t',rfl⟩:=q.gJ e2;exact J.aR R rfl λQ E h=>rule x y t t' Q E h
theorem Rj{a b:V}{u v:Value}(R:RR w p)(r:VR p.h p.pl a u)(q:VR p.h p.pl b v):J w md BR (wp w A (compareOp .IsNot u v)) (bX (Jg a b)) p:=J.nV λc e=>by
  unfold Jg at e;split at e
  ·rename_i h0
   have hb:v=.none:=by
    revert q h0;exact V.casesOn b (λq _=>q.nU) (λ_ _=>tg rfl) (λ_ _=>tg rfl) (λ_ _=>tg rfl) (λ_ _=>tg rfl) (λ_ _=>tg rfl) (λ_ _ _=>tg rfl) (λ_ _=>tg rfl) (λ_ _ _=>tg rfl) (λ_ _=>tg rfl) (λ_ _=>tg rfl) (λ_ _=>tg rfl) (λ_ _=>tg rfl)
   subst hb;have ha:(a.fG=0->u=.none)/\(a.fG=3->∃s t,u=.str s t):=by
    revert r;exact V.casesOn a (λq=>⟨λ_=>q.nU,tg rfl⟩) (λ_ _=>⟨tg rfl,tg rfl⟩) (λ_ _=>⟨tg rfl,tg rfl⟩) (λ_ q=>⟨tg rfl,λ_=>let⟨_,t,e⟩:=q.nU;⟨_,t,e⟩⟩) (λ_ _=>⟨tg rfl,tg rfl⟩) (λ_ _=>⟨tg rfl,tg rfl⟩) (λ_ _ _=>⟨tg rfl,tg rfl⟩) (λ_ _=>⟨tg rfl,tg rfl⟩) (λ_ _ _=>⟨tg rfl,tg rfl⟩) (λ_ _=>⟨tg rfl,tg rfl⟩) (λ_ _=>⟨tg rfl,tg rfl⟩) (λ_ _=>⟨tg rfl,tg rfl⟩) (λ_ _=>⟨tg rfl,tg rfl⟩)
   split at e
   ·rename_i h1
    obtain rfl:=ha.1 h1;obtain rfl:=bV e;exact J.aR R rfl λQ E h=>aV (aP (aP h))
   ·split at e
    ·rename_i h1
     obtain⟨s,t,rfl⟩:=ha.2 h1;obtain rfl:=bV e;exact J.aR R rfl λQ E h=>aV (aP (aP h))
    ·cases e
  ·cases e
theorem Rk{op:COp}{a b:V}{u v:Value}(S:nO T w)(hu:A.units+50<cLine)(R:RR w p)(r:VR p.h p.pl a u)(q:VR p.h p.pl b v):J w md BR (wp w A (compareOp (BG op) u v)) (aM T op a b) p:=by
 cases op with
 |eq=>exact J.congr (jT M.bind_pure.symm _) (Z0 false S hu R r q)
 |ne=>exact Z0 true S hu R r q
 |eU=>exact J.congr (jT M.bind_pure.symm _) (ZZ false S hu R r q)
 |dz=>exact ZZ true S hu R r q
 |ZT=>exact Rj R r q
 |lt=>exact C9 R r q λ_ _ _ _ _ _ h=>P.lt_int h
 |le=>exact C9 R r q λ_ _ _ _ _ _ h=>P.le_int h
 |gt=>exact C9 R r q λ_ _ _ _ _ _ h=>P.gt_int h
 |ge=>exact C9 R r q λ_ _ _ _ _ _ h=>P.ge_int h
end
noncomputable def r7(op:xT):Operator:=xT.casesOn (motive:=λ_=>Operator) op .Add .Sub .Mod .FloorDiv .BitOr .BitAnd
section
variable{α β γ δ:Type}
theorem dH.wW(r:dH h pl xs vs):vs.toArray.isEmpty=xs.isEmpty:=r.Ql (P:=λxs vs=>vs.toArray.isEmpty=xs.isEmpty) rfl λ_ _ _=>rfl
theorem LB(h:n<cu):n<=AM:=aH (fT h) (by decide)
theorem Ju{x y:List V}(h:x.length+y.length<cu):(x++y).length<=AM:=gH▸LB h
theorem Dc(r:dH h pl x vs)(q:dH h pl y ws)(hl:x.length+y.length<cu):vs.toArray.size+ws.toArray.size<=sizeLine:=by
 rw [I6,I6,←r.length,←q.length];exact aH (LB hl) Rf
theorem dH.r8(r:dH h pl xs vs)(hb:xs.length<=AM):vs.toArray.size<=sizeLine:=by
 rw [I6,←r.length];exact aH hb Rf
theorem wX(R:RR w p)(k:fy p.h h')(n:p.h.get? h'.objs.size=none)(r:dH p.h p.pl xs vs)(hb:xs.length<=AM):VR (h'.push (mz vs 0)) p.pl (.aC xs) (.ref h'.objs.size):=.aC (nF _ rfl) (R.free n) (r.c8 (.iM [] p.pl λb o e=>dI _ _ b o (k b o e))) hb
theorem Dd(R:RR w p)(k:fy p.h h')(n:p.h.get? h'.objs.size=none)(r:dH p.h p.pl xs vs)(hb:xs.length<=AM):VR (h'.push (nN vs 0)) p.pl (.lst xs) (.ref h'.objs.size):=.lst (nF _ rfl) (R.free n) (r.c8 (.iM [] p.pl λb o e=>dI _ _ b o (k b o e))) hb
theorem BH(k:fy h h'):h.get? h'.objs.size=none:=by
 cases q:h.get? h'.objs.size with
 |none=>rfl
 |some o=>exact absurd (ua (k _ _ q)) (kY _)
theorem J.new(R:RR w p)(r:R1 (p.h.push o) p.pl b a)(h:∀Q E,Q a {p.s with heap:=p.h.push o}->t Q E p.s):J w md R1 t (M.pure b) p:=⟨λQ E k=>h Q E (k a _ p.pl (.n9 R o _) r)⟩
theorem bitNot_nonneg(hx:0<=x):¬0<=Builtin.bitNot x:=by unfold Builtin.bitNot;omega
theorem qO(z:Int):Builtin.bitNot (Builtin.bitNot z)=z:=by unfold Builtin.bitNot;omega
theorem Oe{x y:Int}(hx:0<=x)(hy:0<=y):Builtin.bitOr x y=((x.toNat|||y.toNat:Nat):Int):=by
 unfold Builtin.bitOr Builtin.bitAnd;rw [dg (bitNot_nonneg hx),dg (bitNot_nonneg hy)];dsimp only;rw [qO,qO,qO]
theorem Jv{x y:Int}(hx:0<=x)(hy:0<=y):Builtin.bitAnd x y=((x.toNat&&&y.toNat:Nat):Int):=by
 unfold Builtin.bitAnd;rw [dj hx,dj hy]
theorem pn{x y:Int}(h:CU x y=true):0<=x/\0<=y:=⟨bx (ah h).1,bx (ah (ah (ah h).2).2).1⟩
theorem cF{α:Type}{c:Prop} [Decidable c]{a b:α}(e:(if c then some a else none)=some b):c/\a=b:=by
 split at e
 ·exact⟨by assumption,bV e⟩
 ·cases e
theorem WK{op:xT}{x y:Int}{t t':Tok}{i:Int}(R:RR w p)(e:binI op x y=some i):J w md VR (wp w A (binaryOp (r7 op) (.int x t) (.int y t'))) (M.pure (.int i)) p:=by
 have gV:(∀(Q:Value->Shared->Prop)E,Q (.int i p.s.toks) {p.s with toks:=p.s.toks+1}->wpAny (model PW w) A (binaryOp (r7 op) (.int x t) (.int y t')) Q E p.s)->J w md VR (wp w A (binaryOp (r7 op) (.int x t) (.int y t'))) (M.pure (.int i)) p:=J.tk R .int
 revert e gV;refine xT.casesOn (motive:=λop=>binI op x y=some i->((∀(Q:Value->Shared->Prop)E,Q (.int i p.s.toks) {p.s with toks:=p.s.toks+1}->wpAny (model PW w) A (binaryOp (r7 op) (.int x t) (.int y t')) Q E p.s)->J w md VR (wp w A (binaryOp (r7 op) (.int x t) (.int y t'))) (M.pure (.int i)) p)->J w md VR (wp w A (binaryOp (r7 op) (.int x t) (.int y t'))) (M.pure (.int i)) p) op
  (λe f=>f λQ E h=>P.add_int (bV e▸h)) (λe f=>f λQ E h=>P.sub_int (bV e▸h)) (λe f=>?_) (λe f=>?_) (λe f=>?_) λe f=>?_
 ·obtain⟨h0,e⟩:=cF e
  exact f λQ E h=>mod_int' (Int.ne_of_gt h0) (e▸h)
 ·obtain⟨h0,e⟩:=cF e
  have h1:=bx (ah h0).1;have h2:=bx (ah h0).2;exact f λQ E h=>floordiv_int (Int.ne_of_gt h1) (e▸h) (.inl (PyProof.noPylong_small (by omega)))
 ·obtain⟨h0,e⟩:=cF e
  exact f λQ E h=>or_int (by rw [Oe (pn h0).1 (pn h0).2];exact e▸h)
 ·obtain⟨h0,e⟩:=cF e
  exact f λQ E h=>and_int (by rw [Jv (pn h0).1 (pn h0).2];exact e▸h)
theorem De{x:V}(h:x.fG=2):x=.int x.tU:=LZ (show(if x.fG=2 then some x.tU else none)=some x.tU by rw [az h])
theorem WL{x:V}:x.fG=4->x=.aC x.g9:=V.casesOn x (tg rfl) (λ_=>tg rfl) (λ_=>tg rfl) (λ_=>tg rfl) (λ_ _=>rfl) (λ_=>tg rfl) (λ_ _=>tg rfl) (λ_=>tg rfl) (λ_ _=>tg rfl) (λ_=>tg rfl) (λ_=>tg rfl) (λ_=>tg rfl) (λ_=>tg rfl)
theorem WM{x:V}:x.fG=5->x=.lst x.g9:=V.casesOn x (tg rfl) (λ_=>tg rfl) (λ_=>tg rfl) (λ_=>tg rfl) (λ_=>tg rfl) (λ_ _=>rfl) (λ_ _=>tg rfl) (λ_=>tg rfl) (λ_ _=>tg rfl) (λ_=>tg rfl) (λ_=>tg rfl) (λ_=>tg rfl) (λ_=>tg rfl)
theorem VR.aj0{h:Heap}{pl:List Addr}{x:V}{u:Value}(r:VR h pl x u)(e:x.fG=4):∃a vs n,qI h pl mz x.g9 u a vs n:=(WL e▸r:VR h pl (.aC x.g9) u).nU
theorem VR.aj1{h:Heap}{pl:List Addr}{x:V}{u:Value}(r:VR h pl x u)(e:x.fG=5):∃a vs n,qI h pl nN x.g9 u a vs n:=(WM e▸r:VR h pl (.lst x.g9) u).nU
theorem WN{x y:List V}{a b:Addr}{vs ws:List Value}{n m:Nat}{u v:Value}(R:RR w p)(r:qI p.h p.pl mz x u a vs n)(q:qI p.h p.pl mz y v b ws m)(hl:x.length+y.length<cu):J w md VR (wp w A (binaryOp .Add u v)) (M.pure (.aC (x++y))) p:=by
 obtain⟨rfl,e,n1,r1,b1⟩:=r;obtain⟨rfl,e',n2,r2,b2⟩:=q;cases h1:vs.toArray.isEmpty with
 |true=>
  have z:x=[]:=qz (r1.wW▸h1);refine J.aR R (a:=.ref b) (by rw [z];exact .aC e' n2 r2 b2) λQ E h=>concat_meets ⟨_,e,rfl⟩ ⟨_,e',rfl⟩ noFill_tuple_add seq_tuple_add F.slot_tuple_add F.entry_tuple_add (F.args_tuple_add_2 _ _) (AutoSeq1.tuple___add___tuple_tuple_0 _ _ _ _ _ _ h1) ⟨e,e',h⟩
 |false=>
  cases h2:ws.toArray.isEmpty with
  |true=>
   have z:y=[]:=qz (r2.wW▸h2);refine J.aR R (a:=.ref a) (by rw [z,kX];exact .aC e n1 r1 b1) λQ E h=>concat_meets ⟨_,e,rfl⟩ ⟨_,e',rfl⟩ noFill_tuple_add seq_tuple_add F.slot_tuple_add F.entry_tuple_add (F.args_tuple_add_2 _ _) (AutoSeq1.tuple___add___tuple_tuple_1 _ _ _ _ _ _ (by rw [h1];exact eH) h2) ⟨e,e',h⟩
  |false=>
   exact J.new R (o:=mz (vs++ws) 0) (wX R (λ_ _ e=>e) (cJ _) (r1.append r2) (Ju hl)) λQ E h=>P.add_tuple e e' (by rw [h1];exact eH) (by rw [h2];exact eH) (by rw [List.append_toArray];exact h) (Dc r1 r2 hl)
theorem WO{x y:List V}{a b:Addr}{vs ws:List Value}{n m:Nat}{u v:Value}(R:RR w p)(r:qI p.h p.pl nN x u a vs n)(q:qI p.h p.pl nN y v b ws m)(hl:x.length+y.length<cu):J w md VR (wp w A (binaryOp .Add u v)) (M.pure (.lst (x++y))) p:=by
 obtain⟨rfl,e,n1,r1,b1⟩:=r;obtain⟨rfl,e',n2,r2,b2⟩:=q;exact J.new R (o:=nN (vs++ws) 0) (Dd R (λ_ _ e=>e) (cJ _) (r1.append r2) (Ju hl)) λQ E h=>P.add_list e e' (by rw [List.append_toArray];exact h) (Dc r1 r2 hl)
theorem Rl{op:xT}:op.LN=true->r7 op=.Add:=xT.casesOn (motive:=λop=>op.LN=true->r7 op=.Add) op (λ_=>rfl) ff ff ff ff ff
theorem abC{op:xT}{a b:V}{u v:Value}(R:RR w p)(r:VR p.h p.pl a u)(q:VR p.h p.pl b v):J w md VR (wp w A (binaryOp (r7 op) u v)) (d9 op a b) p:=J.nV λc e=>by
 unfold abn at e;split at e
 ·rename_i ha
  obtain⟨y,e1,e⟩:=bind_some e;obtain⟨i,e2,rfl⟩:=Option.map_eq_some_iff.mp e;obtain⟨t,rfl⟩:=(De ha▸r:VR p.h p.pl (.int a.tU) u).nU;obtain⟨t',rfl⟩:=q.gJ e1;exact WK R e2
 ·obtain⟨ho,e⟩:op.LN=true/\a.onC none (λxs=>NW .aC 4 xs b) (λxs=>NW .lst 5 xs b) (λ_=>none) (λ_=>none)=some c:=by
   split at e
   ·exact⟨by assumption,e⟩
   ·cases e
  rw [Rl ho];revert r e;refine V.casesOn (motive_1:=λa=>VR p.h p.pl a u->a.onC none (λxs=>NW .aC 4 xs b) (λxs=>NW .lst 5 xs b) (λ_=>none) (λ_=>none)=some c->J w md VR (wp w A (binaryOp .Add u v)) (M.pure c) p) a (λ_=>ns) (λ_ _=>ns) (λ_ _=>ns) (λ_ _=>ns) (λxs r e=>?_) (λxs r e=>?_) (λ_ _ _=>ns) (λ_ _=>ns) (λ_ _ _=>ns) (λ_ _=>ns) (λ_ _=>ns) (λ_ _=>ns) (λ_ _=>ns)
  ·have e:(if b.fG=4 then(if xs.length+b.g9.length<cu then some (V.aC (xs++b.g9))else none)else none)=some c:=e
   split at e
   ·rename_i hb
    obtain⟨hl,rfl⟩:=cF e;obtain⟨_,_,_,r⟩:=r.nU;obtain⟨_,_,_,q⟩:=q.aj0 hb;exact WN R r q hl
   ·cases e
  ·have e:(if b.fG=5 then(if xs.length+b.g9.length<cu then some (V.lst (xs++b.g9))else none)else none)=some c:=e
   split at e
   ·rename_i hb
    obtain⟨hl,rfl⟩:=cF e;obtain⟨_,_,_,r⟩:=r.nU;obtain⟨_,_,_,q⟩:=q.aj1 hb;exact WO R r q hl
   ·cases e
theorem WQ(R:RR w p)(r:VR p.h p.pl a u)(q:VR p.h p.pl b v):J w md VR (wp w A (inplaceOp (r7 op) u v)) (NY op a b) p:=J.nV λc e=>by
 obtain⟨x,e1,e⟩:=bind_some e;obtain⟨y,e2,e⟩:=bind_some e;obtain⟨i,e3,rfl⟩:=Option.map_eq_some_iff.mp e;obtain⟨t,rfl⟩:=r.gJ e1;obtain⟨t',rfl⟩:=q.gJ e2;revert e3;exact xT.casesOn op (λe=>J.tk R .int λQ E h=>PySem.P.iadd_int (bV e▸h)) (λe=>J.tk R .int λQ E h=>PySem.P.isub_int (bV e▸h)) ns ns ns ns
abbrev Of:qN Bool Bool:=λ_ _ a b=>a=b
theorem Df(r:dH h pl xs vs)(hb:xs.length<=AM):((vs.toArray.size:Nat):Int)<2^63:=by
 rw [I6,←r.length];exact Int.lt_of_le_of_lt (Int.ofNat_le.mpr hb) (by decide)
theorem Og(R:RR w p):Oc w p.h p.pl a ct->CV ct=some b->J w md Of (wp w A (truthy (.ref a))) (M.pure b) p:=Ct.casesOn ct
  (λxs⟨vs,n,c⟩e=>J.tk R ((bV e).symm.trans (au not c.CY.wW).symm) λQ E h=>truthy_tuple ⟨_,c.get,rfl,_,rfl⟩ (Df c.CY c.qJ) h)
  (λxs⟨vs,n,ho,r,hb⟩e=>J.tk R ((bV e).symm.trans (au not r.wW).symm) λQ E h=>wpAny_truthy_list ⟨_,ho,rfl,_,rfl⟩ (Df r hb) h) λ_ _=>ns
theorem yf(S:nO T w)(R:RR w p)(r:VR p.h p.pl x u):J w md Of (wp w A (truthy u)) (gK T x) p:=by
 have look:J w md Of (wp w A (truthy u)) (look T x CV) p:=J.BF S R r λct a b e c q=>e▸Og R c q;revert look r;refine V.casesOn x (λr _=>?_) (λb r _=>?_) (λi r _=>?_) (λ_ _=>id) (λ_ _=>id) (λ_ _=>id) (λ_ _ _=>id) (λ_ _=>id) (λ_ _ _=>id) (λ_ _=>id) (λ_ _=>id) (λ_ _=>id) (λ_ _=>id)
 ·obtain rfl:u=.none:=r.nU
  exact J.aR R rfl λQ E h=>truthy_none h
 ·obtain rfl:u=.bool b:=r.nU
  exact J.aR R (by cases b<;>rfl) λQ E h=>wpAny_truthy_bool h
 ·obtain⟨t,rfl⟩:=r.nU
  have e:decide (i≠0)=(i !=0):=by
   by_cases h:i=0
   ·rw [h];rfl
   ·rw [dj h,bne_iff_ne.mpr h]
  exact J.aR R (e) λQ E h=>P.truthy_int h
end
section
variable{α:Type}
theorem yg(a:α)(l:List α):(Jh le a l).Perm (a::l):=List.rec (.refl _) (λb bs ih=>by
 show(if le a b=true then a::b::bs else b::Jh le a bs).Perm _;split
 ·exact .refl _
 ·exact(ih.cons b).trans (.swap a b bs)) l
theorem jG(l:List α):(j8 le l).Perm l:=List.rec (motive:=λl=>(j8 le l).Perm l) (.refl _) (λa _ ih=>(yg a _).trans (ih.cons a)) l
theorem Jw(FL:∀a b,le a b=true\/le b a=true)(tr:∀a b c,le a b=true->le b c=true->le a c=true)(a:α)(l:List α):l.Pairwise (λa b=>le a b=true)->(Jh le a l).Pairwise (λa b=>le a b=true):=List.rec (λ_=>E7 ..) (λb bs ih h=>by
  show(if le a b=true then a::b::bs else b::Jh le a bs).Pairwise _;have h':=List.pairwise_cons.mp h;by_cases Z1:le a b=true
  ·rw [az Z1]
   exact List.pairwise_cons.mpr ⟨λc hc=>(fY hc).elim (λe=>e▸Z1) λhc=>tr _ _ _ Z1 (h'.1 c hc),h⟩
  ·rw [ay Z1]
   exact List.pairwise_cons.mpr ⟨λc hc=>(fY ((yg a bs).mem_iff.mp hc)).elim (λe=>e▸(FL b a).resolve_right Z1) (h'.1 c),ih h'.2⟩) l
theorem Dg(FL:∀a b,le a b=true\/le b a=true)(tr:∀a b c,le a b=true->le b c=true->le a c=true)(l:List α):(j8 le l).Pairwise (λa b=>le a b=true):=List.rec .nil (λa _ ih=>Jw FL tr a _ ih) l
theorem r9(WR:∀a b,le a b=true->le b a=true->a=b)(FL:∀a b,le a b=true\/le b a=true)(tr:∀a b c,le a b=true->le b c=true->le a c=true){ns ms:List α}(p:ms.Perm ns)(h:ms.Pairwise λa b=>le a b=true):ms=j8 le ns:=List.Perm.eq_of_pairwise (λa b _ _=>WR a b) h (Dg FL tr ns) (p.trans (jG ns).symm)
end
theorem Jx{ns ms:List Int}(p:ms.Perm ns)(h:ms.Pairwise (·<=·)):ms=j8 (λa b=>decide (a<=b)) ns:=r9 (λa b h1 h2=>Int.le_antisymm (bx h1) (bx h2)) (λa b=>(Int.le_total a b).imp dj dj) (λa b c h1 h2=>dj (Int.le_trans (bx h1) (bx h2))) p (h.imp dj)
theorem Jy{ns ms:List Nm}(p:ms.Perm ns)(h:ms.Pairwise (·<=·)):ms=j8 Wz ns:=r9 (λa b h1 h2=>List.le_antisymm (bx h1) (bx h2)) (λa b=>(List.le_total a b).imp dj dj) (λa b c h1 h2=>dj (List.le_trans (bx h1) (bx h2))) p (h.imp dj)
theorem qP{xs:List V}{is:List Int}(h:xV xs=some is):xs=is.map V.int:=by
 obtain⟨h1,rfl⟩:=cF h;rw [nK];exact(List.map_id' xs).symm.trans (CM λv hv=>De (eq_of_beq (pW h1 v hv)))
theorem Dh{x:V}:x.fG=3->x=.str x.Jf:=V.casesOn x (tg rfl) (λ_=>tg rfl) (λ_=>tg rfl) (λ_ _=>rfl) (λ_=>tg rfl) (λ_=>tg rfl) (λ_ _=>tg rfl) (λ_=>tg rfl) (λ_ _=>tg rfl) (λ_=>tg rfl) (λ_=>tg rfl) (λ_=>tg rfl) (λ_=>tg rfl)
theorem yh{xs:List V}{is:List Nm}(h:Ji xs=some is):xs=is.map V.str:=by
 obtain⟨h1,rfl⟩:=cF h;rw [nK];exact(List.map_id' xs).symm.trans (CM λv hv=>Dh (eq_of_beq (pW h1 v hv)))
section
theorem Jz:∀{vs:List Value},dH h pl (is.map V.int) vs->IntsAre vs is:=List.rec (motive:=λis=>∀{vs:List Value},dH h pl (is.map V.int) vs->IntsAre vs is) (λr=>by cases r;exact .nil) (λi is ih vs r=>by
 cases r with
 |cons a r=>
  obtain⟨t,rfl⟩:=a.nU;exact .cons _ _ (ih r)) is
theorem yi{is:List Int}{vs:List Value}(r:IntsAre vs is):dH h pl (is.map V.int) vs:=IntsAre.rec (motive:=λvs is _=>dH h pl (is.map V.int) vs) .nil (λ_ _{_ _}_ ih=>.cons .int ih) r
theorem JA{is:List PySem.Str}{vs:List Value}(r:StrsAre vs is):(∀x∈is,PyData.strOk x=true)->dH h pl ((is.map λx:PySem.Str=>x.cps.toList).map V.str) vs:=StrsAre.rec (motive:=λvs is _=>(∀x∈is,PyData.strOk x=true)->dH h pl ((is.map λx:PySem.Str=>x.cps.toList).map V.str) vs) (λ_=>.nil) (λx t{_ _}_ ih ok=>.cons (VR.str (s:=x.cps.toList) (ok x cC)) (ih λy hy=>ok y (cP _ hy))) r
def Wa(kvs:List (V×Value))(vs:List Value)(t:Nat):Prop:=vs.length=kvs.length/\∀(j:Nat)(v:Value),vs[j]?=some v->∃k x,kvs[j]?=some (k,x)/\jE t k v=true
theorem Wa.tail(a:Wa (k::kvs) (v::vs) t):jE t k.1 v=true/\Wa kvs vs t:=by
 obtain⟨k',x,e,f⟩:=a.2 0 v rfl;exact⟨(bV e:k=(k',x))▸f,kZ a.1,λj v e=>a.2 (j+1) v e⟩
theorem Wa.ints{kvs:List (V×Value)}:∀{vs:List Value}{is:List Int},Wa kvs vs 2->kvs.map (·.1)=is.map V.int->IntsAre vs is:=List.rec (motive:=λkvs=>∀{vs:List Value}{is:List Int},Wa kvs vs 2->kvs.map (·.1)=is.map V.int->IntsAre vs is) (λ{vs is}a e=>by
 rw [List.length_eq_zero_iff.mp a.1,List.map_eq_nil_iff.mp e.symm];exact .nil) (λk kvs ih{vs is}a e=>by
 cases is with
 |nil=>cases e
 |cons i is=>
  cases vs with
  |nil=>exact absurd a.1 (Fc _)
  |cons v vs=>
   have e:=je e;obtain⟨f,a'⟩:=a.tail;have f:jE 2 (.int i) v=true:=e.1▸f;obtain⟨t,rfl⟩:=Value.isInt_shape (show Value.isInt i v=true from(ah f).2);exact .cons _ _ (ih a' e.2)) kvs
theorem Wa.strs{kvs:List (V×Value)}:∀{vs:List Value}{is:List Nm},Wa kvs vs 3->kvs.map (·.1)=is.map V.str->StrsAre vs (is.map toS)/\∀x∈is.map toS,PyData.strOk x=true:=List.rec (motive:=λkvs=>∀{vs:List Value}{is:List Nm},Wa kvs vs 3->kvs.map (·.1)=is.map V.str->StrsAre vs (is.map toS)/\∀x∈is.map toS,PyData.strOk x=true) (λ{vs is}a e=>by
 rw [List.length_eq_zero_iff.mp a.1,List.map_eq_nil_iff.mp e.symm];exact⟨.nil,λ_=>bg⟩) (λk kvs ih{vs is}a e=>by
 cases is with
 |nil=>cases e
 |cons i is=>
  cases vs with
  |nil=>exact absurd a.1 (Fc _)
  |cons v vs=>
   have e:=je e;obtain⟨f,a'⟩:=a.tail;have f:jE 3 (.str i) v=true:=e.1▸f;have f:=ah (ah f).2;obtain⟨t,rfl⟩:=Value.isStrOf_shape f.1;obtain⟨q1,q2⟩:=ih a' e.2;exact⟨.cons _ _ q1,λx hx=>(fY hx).elim (λe=>e▸f.2) (q2 x)⟩) kvs
theorem DP.keys{κ:Type}{f:κ->V}{g:κ->Value}{es:List (V×V)}{ks:List κ}(p:DP h pl f g es ks):es.map (·.1)=ks.map f:=DP.rec (motive:=λes ks _=>es.map (·.1)=ks.map f) rfl (λ{k _ _ _}_ _ ih=>au (f k::·) ih) p
end
theorem FN(l:List PySem.Str):∀p:PySem.Str,risingS p l=true->((p::l).map λx=>x.cps.toList).Pairwise (·<=·):=List.rec (λ_ _=>E7 ..) (λx r ih p h=>by
 have h':=ah h;have hp:p.cps.toList<=x.cps.toList:=λq=>by
  rw [ltCps_eq,dj q]at h';exact ff h'.1
 have ih:=ih x h'.2;exact List.pairwise_cons.mpr ⟨λy hy=>(fY hy).elim (λe=>e▸hp) λhy=>List.le_trans hp ((List.pairwise_cons.mp ih).1 y hy),ih⟩) l
theorem Di{l:List PySem.Str}(h:sortedS l=true):(l.map λx=>x.cps.toList).Pairwise (·<=·):=by
 cases l with
 |nil=>exact .nil
 |cons x r=>exact FN r x h
section
variable{α β γ δ:Type}{E:Value->Shared->Prop}
theorem se{t:Nat}{d:Addr}{kvs:List (V×Value)}{Q:Value->Shared->Prop}(hh:A.handled=none)(lo:(d==sysModules)=false)(hm:s.heap.DictOf (k8 w t) d kvs)(hn:kvs.length<64)
  (h:∀(h':Heap)(tk:Nat)(vs:List Value),fy s.heap h'->Wa kvs vs t->(h'.push (seqObj "list" vs.toArray 0)).get? h'.objs.size=some (seqObj "list" vs.toArray 0)->vs.length<64->wpAny (model PW w) A.in1.in1 (Builtin.«list.sort» ⟨[.ref h'.objs.size],[]⟩) (λgV s'=>∃v,gV=.done (.ret v)/\Q (.ref h'.objs.size) s') E {s with heap:=h'.push (seqObj "list" vs.toArray 0),toks:=tk}):
  wpAny (model PW w) A (call (.builtin "sorted") [.ref d]) Q E s:=by
 obtain⟨ep,hda⟩:=hm.dictAt;have hz:kvs.length<=sizeLine:=aH (fT hn) (by rw [sizeLine_eq];decide)
 refine call_function_entry kind_sorted plain_sorted entry_sorted (args_sorted1 _) ?_;unfold Builtin.«sorted»;refine aV (m:=checkCount "sorted" 1 1 _) (aP ?_);refine aV (kdu_collect (A:=A.in1) (kdl_dict (knd:=k8 w t) (kvs:=kvs) (ep:=ep) lo) hh hda hz λh' tk kT hk afs=>?_);have hl:kT.toList.length=kvs.length:=by rw [Array.length_toList];exact afs.1
 refine aV (wpAny_newList ?_ (by rw [hl];exact hz))
 have ho:(h'.push (seqObj "list" kT.toList.toArray 0)).get? h'.objs.size=some (seqObj "list" kT.toList.toArray 0):=nF _ rfl;have hg:=h h' tk kT.toList hk ⟨hl,λj v e=>afs.2 j v (by rw [←Array.getElem?_toList];exact e)⟩ ho (hl▸hn)
 exact aV (iX (AG slot_list_sort ⟨_,ho,rfl⟩ entry_list_sort (gE hg (λgV s'⟨v,e,x⟩=>⟨v,e,aP ⟨_,rfl,x⟩⟩) λ_ _ e=>e) (args_list_sort _)))
theorem yj{h':Heap}{vs:List Value}{out:Array Value}{xs:List V}(R:RR w p)(k:fy p.h h')(ho:(h'.push (seqObj "list" vs.toArray 0)).get? h'.objs.size=some (seqObj "list" vs.toArray 0))(r:dH p.h p.pl xs out.toList)(hb:xs.length<=AM):
  fy p.h (sortedHeap (h'.push (seqObj "list" vs.toArray 0)) h'.objs.size vs out)/\VR (sortedHeap (h'.push (seqObj "list" vs.toArray 0)) h'.objs.size vs out) p.pl (.lst xs) (.ref h'.objs.size):=by
 obtain⟨e,he⟩:=sortedHeap_at (out:=out) ho;have keep:fy p.h (sortedHeap (h'.push (seqObj "list" vs.toArray 0)) h'.objs.size vs out):=λb o q=>by
  have:=ua (k b o q);rw [sortedHeap_old (t8 this) (by rw [Heap.size_push];exact Nat.lt_succ_of_lt this)]
  exact dI _ _ _ _ (k b o q)
 exact⟨keep,.lst (n:=e) he (R.free (BH k)) (r.c8 (.iM [] p.pl keep)) hb⟩
theorem g6.flat{h:Heap}{pl:List Addr}{a:Addr}{es:List (V×V)}{k:V}(c:g6 w h pl a es)(hk:k.i7=true)(hd:k.gF<=fU)(n:¬k.fG=4)(hes:(es.map (·.1)).all (λv=>v.fG==k.fG)=true):FE w h pl a es k.fG:=by
 have:=c.ZY (k:=k) (dF hk (dF (dj hd) (by
  cases es with
  |nil=>rfl
  |cons x es=>exact(ah hes).1)))
 unfold jh at this;rwa [ay n]at this
theorem Oh{a:Addr}{es:List (V×V)}{b:V}(hh:A.handled=none)(R:RR w p)(c:(a==sysModules)=false/\g6 w p.h p.pl a es)(e:wR (.dict es)=some b):J w md VR (wp w A (call (.builtin "sorted") [.ref a])) (M.pure b) p:=by
 have e:(if es.length<64 then(LO (es.map (·.1))).map V.lst else none)=some b:=e
 split at e
 ·rename_i h64
  obtain⟨ys,e0,rfl⟩:=Option.map_eq_some_iff.mp e;unfold LO at e0;cases e1:xV (es.map (·.1))with
  |some is=>
   rw [e1]at e0;obtain rfl:_=ys:=bV e0;obtain⟨kvs,hm,d⟩:=c.2.flat (k:=.int 0) rfl (by decide) (by decide) (cF e1).1
   refine⟨λQ E k=>se hh c.1 hm (d.len▸h64) λh' tk vs kp kT ho hl=>list_sort_tree ho (kT.ints (d.keys.symm.trans (qP e1))) hl λout ns' a1 a2 a3=>⟨_,rfl,?_⟩⟩;obtain⟨k1,k2⟩:=yj (out:=out) R kp ho (yi (Jx a2 a3▸a1)) (by rw [cT,(jG is).length_eq,←cT (f:=V.int),←qP e1,cT];exact aH (fT h64) (by decide))
   exact k _ _ p.pl (.push R _ _ k1) k2
  |none=>
   rw [e1]at e0;obtain⟨is,e2,rfl⟩:=Option.map_eq_some_iff.mp (show(Ji (es.map (·.1))).map (λss=>(j8 Wz ss).map V.str)=some ys from e0)
   obtain⟨kvs,hm,d⟩:=c.2.flat (k:=.str []) rfl (by decide) (by decide) (cF e2).1
   refine⟨λQ E k=>se hh c.1 hm (d.len▸h64) λh' tk vs kp kT ho hl=>?_⟩;obtain⟨hS,hok⟩:=kT.strs (d.keys.symm.trans (yh e2));refine list_sort_treeK strKind_oneLt ho hS.keysOf (λaob aoc rest e=>keyKind_strs (by rw [←e];exact hS)) hl λst' hp hs=>⟨_,rfl,?_⟩
   obtain⟨ns',a1,a2,a3⟩:=sorted_out_str hS hp hs;have e4:(is.map toS).map (λx:PySem.Str=>x.cps.toList)=is:=List.map_map.trans (List.map_id' is);have e3:ns'.map (λx:PySem.Str=>x.cps.toList)=j8 Wz is:=Jy (e4▸a2.map λx:PySem.Str=>x.cps.toList) (Di a3);obtain⟨k1,k2⟩:=yj (out:=(arrOf st').map (·.2)) R kp ho (e3▸JA a1 λx hx=>hok x (a2.mem_iff.mp hx)) (by rw [cT,(jG is).length_eq,←cT (f:=V.str),←yh e2,cT];exact aH (fT h64) (by decide))
   exact k _ _ p.pl (.push R _ _ k1) k2
 ·cases e
end
theorem WT(l:List Int):∀m,AK m l∈m::l/\∀a∈m::l,AK m l<=a:=List.rec (λm=>⟨cC,λa h=>Int.le_of_eq (dG h).symm⟩) (λb l ih m=>by
 show AK (if b<m then b else m) l∈m::b::l/\∀a∈m::b::l,AK (if b<m then b else m) l<=a;obtain⟨h1,h2⟩:=ih (if b<m then b else m);have hx:=h2 _ cC;have hm:(if b<m then b else m)<=m/\(if b<m then b else m)<=b/\((if b<m then b else m)=b\/(if b<m then b else m)=m):=by
  split
  ·rename_i q;exact⟨Int.le_of_lt q,Int.le_refl _,.inl rfl⟩
  ·rename_i q;exact⟨Int.le_refl _,Int.not_lt.mp q,.inr rfl⟩
 refine⟨(fY h1).elim (λe=>by rw [e];exact hm.2.2.elim (λq=>by rw [q];exact cP _ cC) λq=>by rw [q];exact cC) λh=>cP _ (cP _ h),λa ha=>?_⟩
 rcases fY ha with e|ha
 ·rw [e];exact Int.le_trans hx hm.1
 ·rcases fY ha with e|ha
  ·rw [e];exact Int.le_trans hx hm.2.1
  ·exact h2 a (cP _ ha)) l
theorem Dj(h:IntsAre vs is):∃xs:Array (Int×Tok),vs.toArray=intItems xs/\xs.toList.map (·.1)=is:=by
 suffices h:∃xs:List (Int×Tok),vs=xs.map (λp=>.int p.1 p.2)/\xs.map (·.1)=is by
  obtain⟨xs,rfl,e⟩:=h;exact⟨xs.toArray,(List.map_toArray ..).symm,e⟩
 exact IntsAre.rec ⟨[],rfl,rfl⟩ (λn t{_ _}_⟨xs,e1,e2⟩=>⟨(n,t)::xs,by rw [e1];rfl,by rw [←e2];rfl⟩) h
theorem BI(e:ys.toList.map (·.1)=l)(j:Nat):numAt ys j=(l[j]?).getD 0:=by
 unfold numAt;rw [←e,Fe,Array.getElem?_toList]
section
variable{α β γ δ:Type}
theorem abD(hh:A.handled=none)(R:RR w p)(c:rY p.h p.pl a xs)(e:abq (.lst xs)=some b):J w md VR (wp w A (call (.builtin "min") [.ref a])) (M.pure b) p:=by
 obtain⟨l,e1,e⟩:=bind_some (e);obtain⟨m,e2,rfl⟩:=Option.map_eq_some_iff.mp e;obtain⟨vs,n,ho,r,hb⟩:=c;cases l with
 |nil=>cases e2
 |cons m' rest=>
  obtain rfl:m'=m:=bV e2;have hI:=Jz (qP e1▸r);obtain⟨ys,e3,e4⟩:=Dj hI;have N5:ys.size=rest.length+1:=by rw [←Array.length_toList,←cT,e4];rfl
  obtain⟨m1,m2⟩:=WT rest m';refine⟨λQ E k=>min_intList hh ⟨_,ho,rfl,n,by show Data.seq vs.toArray n=_;rw [e3]⟩ (by rw [N5];exact Nat.succ_pos _) λv h' tk hv hk=>?_⟩
  obtain⟨t,rfl⟩:=intItems_at hv;rw [N5,Nat.add_sub_cancel]at*;obtain⟨h1,h2⟩:=argBest_lt (numAt ys) rest.length;have eq:numAt ys (argBest (λi j=>decide (numAt ys i<numAt ys j)) rest.length)=AK m' rest:=by
   refine Int.le_antisymm ?_ (m2 _ ?_)
   ·obtain⟨j,hj⟩:=List.mem_iff_getElem?.mp m1
    have:=h2 j (E9 (rO hj).1);rw [BI e4 j,hj]at this;exact this
   ·rw [BI e4,qA (Bv h1)]
    exact List.getElem_mem _
  rw [eq];exact k _ _ p.pl (.push R _ _ hk) .int
theorem nP(l:Addr)(items:Array Value)(n:Nat):
  Meets (Builtin.«tuple.__new__» ⟨[.type "tuple",.ref l],[]⟩)
   (λ_ R s=>s.heap.get? l=some {cls:=.type "tuple",dict:=none,data:=.seq items n,slots:=#[]}/\R (.ok (.ret (.ref l))) s):=.of_wp λprog w A R s h=>by
  obtain⟨hp,g,d,tk,os⟩:=s;obtain⟨ht,h⟩:=h;have abE:=sub_tuple_self;have amj:=init_tuple_lookup;have hmh:=madeHere_tuple;have hT:Shared.TypeIs ⟨hp,g,d,tk,os⟩ (.ref l) "tuple":=⟨_,ht,rfl⟩
  wp_walk using Qo ht,wpAny_typeOf hT
  exact⟨_,rfl,h⟩
theorem Rm(R:RR w p):Oc w p.h p.pl a ct->Jj ct=some b->J w md VR (wp w A (call (.type "tuple") [.ref a])) (M.pure b) p:=Ct.casesOn ct
  (λxs c e=>by
   obtain⟨vs,n,c⟩:=c;obtain rfl:_=b:=bV e;exact J.aR R (.aC c.get c.out c.CY c.qJ) λQ E h=>callType_new F.called_tuple (by decide) (F.typeCall_tuple_1 _) (F.newCall_tuple_1 _) (λfE=>F.args_object_init_2 fE _) F.entry_tuple_new (nP a vs.toArray n) ⟨c.get,⟨_,c.get,rfl⟩,h⟩)
  (λxs c e=>by
   obtain⟨vs,n,ho,r,hb⟩:=c;obtain rfl:_=b:=bV e;exact⟨λQ E k=>call_tuple_list ⟨_,ho,rfl,n,rfl⟩ (λh' hk=>k _ _ p.pl (.push R _ _ λb o q=>dI _ _ _ _ (hk b o q)) (wX R hk (BH hk) r hb)) (r.r8 hb)⟩) λ_ _=>ns
theorem abF(R:RR w p):Oc w p.h p.pl a ct->abp ct=some b->J w md VR (wp w A (call (.builtin "len") [.ref a])) (M.pure b) p:=Ct.casesOn ct
  (λxs c e=>by
   obtain⟨vs,n,c⟩:=c;obtain rfl:_=b:=bV e;exact J.tk R (by rw [c.CY.length];exact .int) λQ E h=>PyProof.Rows.len_tuple ⟨_,c.get,rfl,_,rfl⟩ (Df c.CY c.qJ) h)
  (λxs c e=>by
   obtain⟨vs,n,ho,r,hb⟩:=c;obtain rfl:_=b:=bV e;exact J.tk R (by rw [r.length];exact .int) λQ E h=>PyProof.Rows.len_list ⟨_,ho,rfl,_,rfl⟩ (Df r hb) h) λ_ _=>ns
theorem aft(S:nO T w)(hh:A.handled=none)(R:RR w p)(r:VR p.h p.pl x u)(n5:¬n=5):J w md VR (wp w A (call (n8 n) [u])) (look T x (ZU n)) p:=J.BF S R r λct a b e c q=>by
 subst e;unfold n8;have q:(if n=0 then abp ct else if n=1 then wR ct else if n=2 then abq ct else if n=4 then Jj ct else none)=some b:=q;by_cases h0:n=0
 ·rw [az h0]at q⊢;exact abF R c q
 ·rw [ay h0]at q⊢
  by_cases h1:n=1
  ·rw [az h1]at q⊢
   revert c q;exact Ct.casesOn ct (λ_ _=>ns) (λ_ _=>ns) λes c q=>Oh hh R c q
  ·rw [ay h1]at q⊢
   by_cases h2:n=2
   ·rw [az h2]at q⊢
    revert c q;exact Ct.casesOn ct (λ_ _=>ns) (λes c q=>abD hh R c q) λ_ _=>ns
   ·rw [ay h2]at q⊢
    by_cases h4:n=4
    ·rw [az h4]at q⊢;exact Rm R c q
    ·rw [ay h4]at q;cases q
theorem JB(S:nO T w)(hh:A.handled=none)(R:RR w p)(r:dH p.h p.pl xs vs):J w md VR (wp w A (call (n8 n) vs)) (builtin T n xs) p:=by
 cases r with
 |nil=>exact J.aJ
 |@cons x u xs vs rx r=>
  cases r with
  |nil=>
   refine J.ite (λh=>?_) λh=>aft S hh R rx h;subst h;refine J.nV λc e=>?_;obtain⟨lo,e0,e⟩:=bind_some e;obtain rfl:(0:Int)=lo:=bV e0;obtain⟨hi,e1,e⟩:=bind_some e;obtain⟨hn,rfl⟩:=cF e;obtain⟨t,rfl⟩:=rx.gJ e1;exact⟨λQ E k=>call_range_1 (k _ _ p.pl (.n9 R _ _) (.Fp (nF _ rfl) R.iN hn))⟩
  |@cons y v xs vs ry r=>
   refine J.jF λh=>?_;obtain rfl:=bx (ah h).1;obtain rfl:=qz (ah h).2;obtain rfl:vs=[]:=List.length_eq_zero_iff.mp r.length.symm;refine J.nV λc e=>?_;obtain⟨lo,e0,e⟩:=bind_some e;obtain⟨hi,e1,e⟩:=bind_some e;obtain⟨hn,rfl⟩:=cF e;obtain⟨t,rfl⟩:=rx.gJ e0;obtain⟨t',rfl⟩:=ry.gJ e1;exact⟨λQ E k=>call_range_2 (k _ _ p.pl (.n9 R _ _) (.Fp (nF _ rfl) R.iN hn))⟩
end
noncomputable def vD{α:Type}(vs:List α)(a b:Option Int):List α:=(vs.drop (bK vs.length a 0)).take (bK vs.length b vs.length-bK vs.length a 0)
theorem ofNat_min(a b:Nat):((min a b:Nat):Int)=min (a:Int) b:=by
 rcases Nat.le_total a b with h|h
 ·rw [nW h,Int.min_eq_left (Int.ofNat_le.mpr h)]
 ·rw [AF h,Int.min_eq_right (Int.ofNat_le.mpr h)]
theorem yk(v:Int)(n d:Nat):(if v<0 then max (v+n) 0 else min v n)=(bK n (some v) d:Nat):=by
 show _=((if 0<=v then min v.toNat n else(n+v).toNat:Nat):Int);by_cases h:0<=v
 ·rw [ay (Int.not_lt.mpr h),az h,ofNat_min,Int.toNat_of_nonneg h]
 ·rw [az (Int.not_le.mp h),ay h,Int.ofNat_toNat,Int.add_comm]
theorem Dk(v:Int)(n d:Nat):max 0 (min (if v<0 then v+n else v) n)=((bK n (some v) d:Nat):Int):=by
 rw [←yk];by_cases h:v<0
 ·rw [az h,az h,Int.min_eq_left (Int.le_trans (Int.add_le_add_right (Int.le_of_lt h) _) (Int.le_of_eq (Int.zero_add _))),Int.max_comm]
 ·rw [ay h,ay h,Int.max_eq_right (Int.le_min.mpr ⟨Int.not_lt.mp h,AD n⟩)]
theorem abG(a b:Option Int)(n:Nat):Builtin.Slice.sliceAdjust a b 1 n=(((bK n a 0:Nat):Int),((bK n b n:Nat):Int)):=by
 cases a<;>cases b
 ·rfl
 ·exact looks_pair rfl (yk ..)
 ·exact looks_pair (yk ..) rfl
 ·exact looks_pair (yk ..) (yk ..)
theorem Oi(a b:Option Int)(n:Nat):sliceBounds a b none n=(((bK n a 0:Nat):Int),((bK n b n:Nat):Int),1):=by
 cases a<;>cases b
 ·rfl
 ·exact looks_pair rfl (looks_pair (Dk ..) rfl)
 ·exact looks_pair (Dk ..) rfl
 ·exact looks_pair (Dk ..) (looks_pair (Dk ..) rfl)
theorem Rn(lo hi:Nat):(if(lo:Int)<hi then(hi:Int)-lo else 0).toNat=hi-lo:=by
 by_cases h:(lo:Int)<hi
 ·rw [az h];exact Int.toNat_sub ..
 ·rw [ay h];exact(Nat.sub_eq_zero_of_le (Int.ofNat_le.mp (Int.not_lt.mp h))).symm
theorem places_eq(lo hi:Nat):Builtin.Slice.slicePlaces lo hi 1=hi-lo:=by
 show(if(lo:Int)<hi then((hi:Int)-lo-1)/1+1 else 0).toNat=_;rw [Int.ediv_one,Int.sub_add_cancel];exact Rn lo hi
theorem count_eq(lo hi:Nat):(if(lo:Int)<hi then((hi:Int)-lo+1-1)/1 else 0).toNat=hi-lo:=by
 rw [Int.ediv_one,Int.add_sub_cancel];exact Rn lo hi
theorem Ro(lo k:Nat):((lo:Int)+1*(k:Int)).toNat=lo+k:=by rw [Int.one_mul];rfl
theorem AQ(vs:List Value)(a b:Option Int):slicePick vs.toArray a b none=(vD vs a b).toArray:=by
 unfold slicePick;rw [Oi];show((((List.range (if((bK vs.length a 0:Nat):Int)<(bK vs.length b vs.length:Nat)then(((bK vs.length b vs.length:Nat):Int)-(bK vs.length a 0:Nat)+1-1)/1 else 0).toNat).map λ(k:Nat)=>(((bK vs.length a 0:Nat):Int)+1*(k:Int)).toNat)).filterMap (vs.toArray[·]?)).toArray=_
 rw [count_eq];exact au List.toArray ((au (List.filterMap (vs.toArray[·]?)) (CM λk _=>Ro _ k)).trans (pick_run vs.toArray _ _))
theorem JC(vs:List Value)(lo n:Nat):((List.range n).filterMap λ(k:Nat)=>vs.toArray[(((lo:Nat):Int)+(k:Int)*1).toNat]?).toArray=((vs.drop lo).take n).toArray:=by
 have:=pick_run vs.toArray lo n;rw [List.filterMap_map]at this;rw [←this];exact au (λf=>List.toArray (List.filterMap f (List.range n))) (funext λk=>by rw [Int.mul_one];rfl)
theorem dH.afu(r:dH h pl xs vs)(a b:Option Int):dH h pl (cut xs a b) (vD vs a b):=by
 unfold cut vD;rw [List.drop_take,←r.length];exact(r.drop _).take _
theorem uw{α:Type}(xs:List α)(a b:Option Int):(vD xs a b).length<=xs.length:=by
 unfold vD;rw [List.length_take,List.length_drop];exact aH (tZ ..) (qk ..)
section
variable{α β γ δ:Type}{E:Value->Shared->Prop}
theorem yl(p:IsPart v a)(h:Q a s):wpAny (model PW w) A (Builtin.Slice.slicePartIndex v) Q E s:=by
 cases p with
 |none=>exact slicePart_none h
 |int i t=>exact slicePart_int h
theorem qQ(ht:IsTup s.heap t vs.toArray)(hs:s.heap.IsSliceOf sl va vb .none)(pa:IsPart va a)(pb:IsPart vb b)
  (L4:(vD vs a b).length≠vs.length)(N5:vs.length<=sizeLine)
  (h:Q (.ref s.heap.objs.size) {s with heap:=s.heap.push (mz (vD vs a b) 0)}):wpAny (model PW w) A (getItem (.ref t) (.ref sl)) Q E s:=by
 have L5:=aH (uw vs a b) N5;have E4:=hs;obtain⟨os,WU,hcs,hds⟩:=E4;have hTs:s.TypeIs (.ref sl) "slice":=⟨os,WU,hcs⟩;unfold getItem
 try with_reducible refine iX ?_
 first|refine aV (aP ?_)|skip
 refine aV (wpAny_sequenceKey ht.typeIs (by decide) (aV (wpAny_callSpecial?_slot ht.typeIs slot_tuple_getitem (AG slot_tuple_getitem ht.typeIs entry_tuple_getitem ?_ (args_tuple_getitem _ _)))))
 show wpAny _ _ (Builtin.Tuple.tupleItemsOf (.ref t)>>=_) _ _ s;refine aV (tupleItemsOf_ ht (aV (wpAny_typeOf hTs ?_)));rw [az (by decide)]
 refine aV ?_;unfold Builtin.Slice.sliceApplied Builtin.Slice.sliceFields;refine aV (aV (wpAny_field WU hds rfl (aV (wpAny_field WU hds rfl (aV (wpAny_field WU hds rfl (aP ?_)))))));refine aV (slicePart_none ?_);rw [ay (by decide)]
 refine aV (yl pa (aV (yl pb (aV (aP ?_)))));show wpAny _ _ (match Builtin.Slice.sliceAdjust a b 1 ((vs.toArray.size:Nat):Int)with|(lo,hi)=>pure (lo,(1:Int),Builtin.Slice.slicePlaces lo hi 1)) _ _ s
 rw [abG];show wpAny _ _ (pure (((bK vs.length a 0:Nat):Int),(1:Int),Builtin.Slice.slicePlaces ((bK vs.length a 0:Nat):Int) ((bK vs.length b vs.length:Nat):Int) 1)) _ _ s;rw [places_eq];refine aP ?_;have N6:¬((((bK vs.length a 0:Nat):Int)==0&&(1:Int)==1&&(bK vs.length b vs.length-bK vs.length a 0)==vs.toArray.size)=true):=λhh=>L4 (by
  have h1:=nJ (eq_of_beq (ah (ah hh).1).1);have h2:bK vs.length b vs.length-bK vs.length a 0=vs.length:=eq_of_beq (ah hh).2;unfold vD;rw [h2,h1,List.drop_zero,List.take_length])
 show wpAny _ _ (if((((bK vs.length a 0:Nat):Int)==0&&(1:Int)==1&&(bK vs.length b vs.length-bK vs.length a 0)==vs.toArray.size)=true)then _ else _) _ _ s;rw [ay N6,JC];first
  |exact aV (CN (aP ⟨_,rfl,aP h⟩) L5)
  |exact aV (CN (aV (aP (aP ⟨_,rfl,aP h⟩))) L5)
  |exact aV (aV (CN (aP (aP ⟨_,rfl,aP h⟩)) L5))
  |exact aV (aV (CN (aP ⟨_,rfl,aP h⟩) L5))
noncomputable def ym(h:Heap)(pl:List Addr)(o:Option V)(v:Value):Prop:=Option.casesOn (motive:=λ_=>Prop) o (v=.none) λx=>VR h pl x v
theorem L6(r:ym h pl o v)(e:abk o=some a):IsPart v a:=by
 cases o with
 |none=>
  obtain rfl:=bV e;obtain rfl:v=.none:=r;exact .none
 |some x=>
  obtain⟨i,e1,rfl⟩:=Option.map_eq_some_iff.mp (e);obtain⟨t,rfl⟩:=VR.gJ r e1;exact .int _ _
theorem Rp(R:RR w p)(rx:ym p.h p.pl x va)(ry:ym p.h p.pl y vb)(hs:p.h.IsSliceOf sl va vb .none)(ch:Oc w p.h p.pl t ct)(q:ug x y ct=some c):J w md VR (wp w A (getItem (.ref t) (.ref sl))) (M.pure c) p:=by
 obtain⟨a,ea,q⟩:=bind_some q;obtain⟨b,eb,q⟩:=bind_some q;have pa:=L6 rx ea;have pb:=L6 ry eb;revert ch q;refine Ct.casesOn ct (λxs ch q=>?_) (λxs ch q=>?_) λ_ _=>ns
 ·obtain⟨vs,n,ch⟩:=ch
  have q:(if(cut xs a b).length=xs.length then none else some (V.aC (cut xs a b)))=some c:=q;split at q
  ·cases q
  ·rename_i L4
   obtain rfl:=bV q;have hr:=ch.CY.afu a b;rw [hr.length,ch.CY.length]at L4;exact J.new R (wX R (λ_ _ e=>e) (cJ _) hr (hr.length▸aH (uw vs a b) (ch.CY.length▸ch.qJ))) λQ E h=>qQ ⟨_,ch.get,rfl,_,rfl⟩ hs pa pb L4 (ch.CY.r8 ch.qJ) h
 ·obtain⟨vs,n,ho,rs,hb⟩:=ch
  obtain rfl:=bV q;have hr:=rs.afu a b;exact J.new R (Dd R (λ_ _ e=>e) (cJ _) hr (hr.length▸aH (uw vs a b) (rs.length▸hb))) λQ E h=>wpAny_getItem_list_slice (IsL.isList ho) hs pa pb .none (by decide) (by rw [AQ];exact h) (rs.r8 hb)
end
noncomputable def oi(k:Nat)(n:Nm):String:=if k=2 then(if n=vW then"dict.get"else"dict.pop")else if n=j9 then"list.append"else if n=kg then"list.extend"else"list.pop"
section
variable{α β γ δ:Type}
theorem J.list{m:Nat->List V->M β}(R:RR w p)(r:VR p.h p.pl o u)(h:∀l a xs,u=.ref a->p.pl[l]?=some a->1066<=a->p.st[l]?=some (.list xs)->rY p.h p.pl a xs->J w md R1 t (m l xs) p):J w md R1 t (o.Wy M.fail λl=>M.bind (Mine.eK l) λc=>c.on M.fail (m l) (λ_=>M.fail) λ_=>M.fail) p:=J.cell R r (λl a c hu hl=>bw.casesOn c (λxs e c=>h l a xs hu hl (R.Jp e hl bw.noConfusion) e c) (λ_ _ _=>J.aJ) (λ_ _ _=>J.aJ) λ_ _=>J.aJ) λ_=>rfl
theorem ux(R:RR w p)(hl:p.pl[l]?=some a)(jH:1066<=a)(e:p.h.get? a=some (nN vs n))(hf:f vs.toArray=ws.toArray)
  (r:dH p.h p.pl ys ws)(hb:ys.length<=AM):bq w W p ⟨{p.s with heap:=p.h.update a (Obj.mapSeq f),toks:=tk},p.pl,p.st.set l (.list ys)⟩:=by
 refine .kJ R hl jH (Fd ..) λg=>?_;have q:=IsL.update e f;rw [hf]at q;exact⟨ws,_,q,r.c8 g,hb⟩
theorem JD(h:n<=sizeLine):¬(b&&Builtin.List.listTooLong n)=true:=λq=>absurd h (Nat.not_le.mpr (bx (ah q).2))
theorem dH.dropLast(r:dH h pl xs vs):dH h pl xs.dropLast vs.dropLast:=by
 rw [List.dropLast_eq_take,List.dropLast_eq_take,←r.length];exact r.take _
theorem JE(us:List Value)(h:0<us.length):us.toArray.eraseIdxIfInBounds (us.toArray.size-1)=us.dropLast.toArray:=by
 apply Array.toList_inj.mp;rw [Array.toList_eraseIdxIfInBounds];exact List.eraseIdx_length_sub_one
theorem yo(R:RR w p)(hl:p.pl[l]?=some a)(low:1066<=a)(c:rY p.h p.pl a ys)(rv:VR p.h p.pl v v')(hz:ys.length<cu):J w md VR (wp w A (call (.builtin "list.append") [.ref a,v'])) (gg (jf l (.list (ys++[v]))) .none) p:=by
 obtain⟨us,m,ho,ru,hb⟩:=c;exact⟨λQ E k=>call_meets F.slot_list_append ⟨_,ho,rfl⟩ F.entry_list_append (F.args_list_append_2 _ _) (list_append a us.toArray m v' (ru.r8 hb)) ⟨ho,k _ _ p.pl (ux R hl low ho (List.push_toArray ..) (ru.append (.cons rv .nil)) (by rw [gH];exact aH (Nat.succ_le_of_lt hz) (by decide))) .none⟩⟩
theorem JF(R:RR w p)(hl:p.pl[l]?=some a)(low:1066<=a)(c:rY p.h p.pl a ys)(d:rY p.h p.pl b zs)(hz:ys.length+zs.length<cu):J w md VR (wp w A (call (.builtin "list.extend") [.ref a,.ref b])) (gg (jf l (.list (ys++zs))) .none) p:=by
 obtain⟨us,m,ho,ru,hb⟩:=c;obtain⟨ts,m',C8,rt,hb2⟩:=d;have afv:=Dc ru rt hz;exact⟨λQ E k=>call_meets F.slot_list_extend ⟨_,ho,rfl⟩ F.entry_list_extend (F.args_list_extend_2 _ _) (AutoSeq1.list_extend_list_list_0 a us.toArray m b ts.toArray m' (JD afv) (ru.r8 hb) (rP afv)) ⟨ho,C8,k _ _ p.pl (ux R hl low ho (List.append_toArray ..) (ru.append rt) (Ju hz)) .none⟩⟩
theorem WV(R:RR w p)(hl:p.pl[l]?=some a)(low:1066<=a)(c:rY p.h p.pl a ys)(hg:ys.getLast?=some y):J w md VR (wp w A (call (.builtin "list.pop") [.ref a])) (gg (jf l (.list ys.dropLast)) y) p:=by
 obtain⟨us,m,ho,ru,hb⟩:=c;rw [List.getLast?_eq_getElem?]at hg;obtain⟨y',h1,h2⟩:=ru.get hg;have hlen:=ru.length;have key:∀W:List Addr,bq w W p ⟨{p.s with heap:=p.h.update a (Obj.mapSeq λxs=>xs.eraseIdxIfInBounds (us.toArray.size-1))},p.pl,p.st.set l (.list ys.dropLast)⟩:=λW=>ux R hl low ho (JE us (di (fD _) (rO h1).1)) ru.dropLast (aH (List.length_dropLast▸qk ..) hb)
 exact⟨λQ E k=>call_meets F.slot_list_pop ⟨_,ho,rfl⟩ F.entry_list_pop (F.args_list_pop_1 _) (MeetsSeq.list_pop_last a us.toArray m y' ((I4 ..).trans (show us[us.length-1]?=some y' by rw [←hlen];exact h1)) (ru.r8 hb)) ⟨ho,k _ _ p.pl (key _) (h2.c8 (key []).gr)⟩⟩
theorem dH.aR(r:dH h pl (x::xs) vs)(e:xs.isEmpty=true):∃u,vs=[u]/\VR h pl x u:=by
 obtain rfl:=qz e;cases r with
 |cons a r=>cases r;exact⟨_,rfl,a⟩
theorem dH.mF(r:dH h pl (x::xs) vs):∃u us,vs=u::us/\VR h pl x u/\dH h pl xs us:=by
 cases r with
 |cons a r=>exact⟨_,_,rfl,a,r⟩
theorem dH.Dl(r:dH h pl [] vs):vs=[]:=List.length_eq_zero_iff.mp r.length.symm
theorem Dm{s:String}(k:Nat)(hk:¬k=2)(e:(if n=j9 then"list.append"else if n=kg then"list.extend"else"list.pop")=s):oi k n=s:=by
 unfold oi;rw [ay hk];exact e
theorem FO(S:nO T w)(R:RR w p)(hk:¬k=2)(hl:p.pl[l]?=some a)(low:1066<=a)(c:rY p.h p.pl a ys)(r:dH p.h p.pl xs vs):J w md VR (wp w A (call (.builtin (oi k n)) (.ref a::vs))) (Fw T l n xs ys) p:=by
 cases xs with
 |nil=>
  obtain rfl:=r.Dl;refine J.jF λhn=>J.C4 λv hv=>?_;rw [hn,Dm k hk (s:="list.pop") (by decide+kernel)]
  exact WV R hl low c hv
 |cons x xs=>
  refine J.jF λhe=>?_;obtain⟨u,rfl,rx⟩:=r.aR he;refine J.ite (λhn=>J.jF λhz=>?_) λ_=>J.jF λhn=>J.ite (λ_=>J.aJ) λ_=>?_
  ·rw [hn,Dm k hk (s:="list.append") (by decide+kernel)]
   exact yo R hl low c rx hz
  ·rw [hn,Dm k hk (s:="list.extend") (by decide+kernel)]
   refine J.congr (m':=M.bind (look T x some) λc=>c.on (λ_=>M.fail) (λzs=>if ys.length+zs.length<cu then gg (jf l (.list (ys++zs))) .none else M.fail) λ_=>M.fail) ?_ (J.look S R rx λct b cc e d q=>?_)
   ·unfold look M.bind
    cases vp T x p.st<;>rfl
   ·subst e
    obtain rfl:=bV q;revert d;exact Ct.casesOn ct (λ_ _=>J.aJ) (λzs d=>J.jF λhz=>JF R hl low c d hz) λ_ _=>J.aJ
theorem FP(hu:A.units+50<cLine)(R:RR w p)(hl:p.pl[l]?=some a)(low:1066<=a)(hn:¬n=vW)(c:g6 w p.h p.pl a es)(r:dH p.h p.pl xs vs):J w md VR (wp w A (call (.builtin (oi 2 n)) (.ref a::vs))) (Fy l n xs es) p:=by
 cases xs with
 |nil=>exact J.aJ
 |cons k xs=>
  cases xs with
  |nil=>exact J.aJ
  |cons d xs=>
   refine J.jF λhc=>?_;obtain⟨u,us,rfl,rk,r⟩:=r.mF;obtain⟨v,rfl,rd⟩:=r.aR (ah hc).1;have hk:=(ah (ah hc).2).2;rw [show oi 2 n="dict.pop"from ay hn];have D:=c.ZY hk;cases e:bJ k es with
   |none=>exact⟨λQ E kk=>Rg D c.1 rk (kj hk) hu (iH low) (λ_ n=>kk _ _ p.pl (.ZX R _) rd) λx _ _ _ q=>ns (e.symm.trans q)⟩
   |some x=>exact⟨λQ E kk=>Rg D c.1 rk (kj hk) hu (iH low) (λq=>ns (q.symm.trans e)) λy v' h' n q rv t=>by
     obtain rfl:=bV (e.symm.trans q);exact kk _ _ p.pl (.kJ R hl low t.1 t.2) (rv.c8 (bq.kJ (c:=.dict (kI k es)) R hl low t.1 t.2).gr)⟩
theorem Rq(S:nO T w)(hu:A.units+50<cLine)(R:RR w p)(r:VR p.h p.pl o u)(q:dH p.h p.pl xs vs):J w md VR (wp w A (call (.builtin (oi k n)) (u::vs))) (Fz T o n k xs) p:=by
 unfold Fz;refine J.ite (λhk=>?_) λhk=>J.list R r λl a ys e hl low _ c=>e▸FO S R hk hl low c q;subst hk;refine J.ite (λhn=>?_) λhn=>J.dict R r λl a es e hl low _ c=>e▸FP hu R hl low hn c q;rw [show oi 2 n="dict.get"from az hn];refine J.BF S R r λct a b e c g=>?_;subst e;revert c g;refine Ct.casesOn ct (λ_ _=>ns) (λ_ _=>ns) λes c g=>?_;cases xs with
 |nil=>exact ns g
 |cons key xs=>
  obtain⟨ku,us,rfl,rk,q⟩:=q.mF;have g:(if gn key es=true then xs.casesOn (some ((bJ key es).getD .none)) (λd r=>if r.isEmpty then some ((bJ key es).getD d)else none)else none)=some b:=g;split at g
  ·rename_i hk
   have gV:∀{dv:V}{du:Value},VR p.h p.pl dv du->(du=.none/\us=[]\/us=[du])->(bJ key es).getD dv=b->J w md VR (wp w A (call (.builtin "dict.get") (.ref a::ku::us))) (M.pure b) p:=λ{dv du}rd hus e=>⟨λQ E kk=>afp (c.2.ZY hk) rk rd (kj hk) hu c.1 (hus.elim (λq=>.inr ⟨by rw [q.2],q.1⟩) λq=>.inl (by rw [q])) λv' n r=>kk _ _ p.pl (.ZX R _) (e▸r)⟩
   cases xs with
   |nil=>exact gV .none (.inl ⟨rfl,q.Dl⟩) (bV g)
   |cons d xs=>
    obtain⟨he,g⟩:=cF g;obtain⟨du,rfl,rd⟩:=q.aR he;exact gV rd (.inr rfl) g
  ·cases g
end
abbrev aF:=List (PySem.Str×Nat)
def i9(h:Heap)(pl:List Addr)(ρ:aQ)(i:Nat)(o:Option Value):Prop:=∀v,ρ[i]?=some (some v)->∃u,o=some u/\VR h pl v u
def qm(h:Heap)(pl:List Addr)(L c:Addr)(o:Option Value):Prop:=(c∉0::pl/\1066<=c/\c≠L)/\h.IsCell c o
structure FR(h:Heap)(pl:List Addr)(env:PySem.Env)(sl:aF)(ρ:aQ):Prop where
 kind:env.scope.kind=.function
 JG:env.globals=mainGlobals
 blt:env.builtins=builtinsNs
 Z2:env.locals∉0::pl
 JH:1066<=env.locals
 ns:∃m,h.Ns env.locals m/\∀x i,(x,i)∈sl->env.kindOf x=some .local->i9 h pl ρ i (m x)
 cell:∀x i,(x,i)∈sl->env.kindOf x≠some .local->(env.kindOf x=some .cell\/env.kindOf x=some .free)/\∃c o,env.cells.lookup x=some c/\qm h pl env.locals c o/\i9 h pl ρ i o
 apart:∀x y c,env.cells.lookup x=some c->env.cells.lookup y=some c->x=y
 ok:∀p∈env.cells,∃o,qm h pl env.locals p.2 o
section
theorem i9.mono(g:Gk W h pl h' cU)(hW:FD h W)(r:i9 h pl ρ i o):i9 h' cU ρ i o:=λv e=>let⟨u,e,q⟩:=r v e;⟨u,e,q.mono g hW⟩
theorem qm.qM(g:Gk W h pl h' cU)(r:qm h pl L c o)(n:c∉W):qm h' cU L c o:=by
 obtain⟨⟨n1,n2,n3⟩,oc,hoc,hd⟩:=r;obtain⟨oc',aj3,kp⟩:=g.keep _ _ n1 n hoc;exact⟨⟨g.out hoc n1,n2,n3⟩,oc',aj3,kp.data.trans hd⟩
theorem FR.qM(F:FR h pl env sl ρ)(g:Gk W h pl h' cU)(hW:FD h W)(h1:env.locals∉W)(h2:∀p∈env.cells,p.2∉W):FR h' cU env sl ρ:=by
 obtain⟨m,⟨o,es,ep,ho,hd,hr⟩,hv⟩:=F.ns;obtain⟨o',C8,kp⟩:=g.keep _ _ F.Z2 h1 ho;exact⟨F.kind,F.JG,F.blt,g.out ho F.Z2,F.JH,⟨m,⟨o',es,ep,C8,kp.data.trans hd,hr⟩,λx i hx hk=>(hv x i hx hk).mono g hW⟩,λx i hx hk=>let⟨k,c,o,e,r,q⟩:=F.cell x i hx hk;⟨k,c,o,e,r.qM g (h2 (x,c) (qD e)),q.mono g hW⟩,F.apart,λp hp=>let⟨o,r⟩:=F.ok p hp;⟨o,r.qM g (h2 p hp)⟩⟩
theorem FR.mono(F:FR h pl env sl ρ)(g:Gr [] h pl h' cU):FR h' cU env sl ρ:=F.qM g.toGk .nil pY λ_ _=>pY
end
structure Z3(d:Nat)(A:Around)(fs:List PySem.Env):Prop where
 hh:A.handled=none
 depth:A.depth+2*d+4<1000
 units:A.units+20*d+100<9900
 frames:A.frames=some fs
def BJ(h:Heap)(pl:List Addr)(fs:List PySem.Env):Prop:=∀e∈fs,e.scope.kind≠.module/\∃L o,e.frame=some L/\1066<=L/\L∉0::pl/\h.get? L=some o/\ZW o
theorem BJ.mono(F:BJ h pl fs)(g:Gr W h pl h' cU):BJ h' cU fs:=λe he=>by
 obtain⟨k,L,o,h1,h2,h3,h4,h6⟩:=F e he;obtain⟨o',e',q⟩:=g.AN _ _ h3 h4;exact⟨k,L,o',h1,h2,g.toGk.out h4 h3,e',q h6⟩
theorem Z3.LW(a:Z3 d A fs):A.units+50<cLine:=di (pZ (bZ _ _) (by decide)) a.units
structure Glb(w:World)(gl:PySem.Str->Option V):Prop where
 g:∃mg,(HB w.params).Ns mainGlobals mg/\∃mb,(HB w.params).Ns builtinsNs mb/\∀x v,gl x=some v->∃v',((mg x=some v')\/(mg x=none/\mb x=some v'))/\∀h pl,fy (HB w.params) h->(∀a∈pl,a=0\/1066<=a)->VR h pl v v'
section
variable{α β γ δ:Type}
theorem abH(F:FR p.h p.pl env sl ρ)(R:RR w p)(hx:sl.lookup x=some i)(hd:(x==("__debug__":PySem.Str))=false)(hc:(x==("__classdict__":PySem.Str))=false):
  J w md VR (wp w A (eval (.Name x pos) env)) (rd ρ i) p:=J.nV λv e=>by
 have hm:=qD hx;obtain⟨o,e1,e2⟩:=bind_some e;obtain rfl:o=some v:=e2;by_cases hk:env.kindOf x=some .local
 ·obtain⟨m,hn,hv⟩:=F.ns
  obtain⟨v',e',q⟩:=hv x i hm hk v e1;exact J.aR R q λQ E h=>wpAny_Name (wpAny_loadName_local F.kind hk hn e' h) hd
 ·obtain⟨k,c,o,e3,c4,e5⟩:=F.cell x i hm hk
  obtain⟨v',rfl,q⟩:=e5 v e1;exact J.aR R q λQ E h=>k.elim (λk=>wpAny_Name (wpAny_loadName_cell F.kind k e3 c4.2 h) hd) λk=>wpAny_Name (wpAny_loadName_free F.kind k e3 c4.2 h hc) hd
theorem WW(G:Glb w gl)(F:FR p.h p.pl env sl ρ)(R:RR w p)(hk:env.kindOf x=some .globalImplicit)(hx:gl x=some v)(hd:(x==("__debug__":PySem.Str))=false):
  J w md VR (wp w A (eval (.Name x pos) env)) (M.pure v) p:=by
 obtain⟨mg,hg,mb,hb,q⟩:=G.g;obtain⟨v',z,r⟩:=q x v hx;have hg':=hg.keeps R.base;have WD:=hb.keeps R.base;rw [←F.JG]at hg';rw [←F.blt]at WD;exact J.aR R (r _ _ R.base R.low) λQ E h=>Name_function_global F.kind hk (z.elim (λz=>loadGlobal_global hg' z h) λz=>loadGlobal_builtin hg' z.1 WD z.2 h) hd
theorem FQ(R:RR w p)(r:dH p.h p.pl xs vs)(hb:xs.length<=AM):J w md VR (wp w A (newTuple vs)) (M.pure (.aC xs)) p:=J.new R (wX R (λ_ _ e=>e) (cJ _) r hb) λQ E h=>CN h (r.r8 hb)
theorem JI(R:RR w p)(r:dH p.h p.pl xs vs)(hb:xs.length<=AM):J w md VR (wp w A (newList vs)) (M.pure (.lst xs)) p:=J.new R (Dd R (λ_ _ e=>e) (cJ _) r hb) λQ E h=>CN h (r.r8 hb)
theorem sj(R:RR w p)(a:Addr):(p.pl++[a])[p.st.length]?=some a:=by
 rw [←R.len,Az (aW _),CO];rfl
theorem FU(R:RR w p)(r:dH p.h p.pl xs vs)(hb:xs.length<=AM):J w md VR (wp w A (newList vs)) (M.bind (qb (.list xs)) λl=>M.pure (.ref l)) p:=⟨λQ E k=>CN (k _ _ _ (.cell R λg=>⟨vs,0,nF _ rfl,r.c8 g,hb⟩) (.ref (sj R _))) (r.r8 hb)⟩
end
structure CF(K:Frag)(C:Addr)(names:List Nm):Prop where
 hga:findIn K (.ref C) "__getattribute__"=some (some (.builtin "object.__getattribute__"))
 hgt:findIn K (.ref C) "__getattr__"=some none
 tV:findIn K (.ref C) "__setattr__"=some (some (.builtin "object.__setattr__"))
 cls:∃cd,clsIn K C=some cd/\cd.hasDict=true
 plain:plainOver K C=true
 attr:∀n∈names,findIn K (.ref C) (toS n)=some none
theorem AR{h:Heap}(hn:h.Ns a m):∃o,h.get? a=some o/\∀name,lookIn name o=some (m name):=by
 obtain⟨o,es,ep,ho,hd,hk,hm⟩:=hn;refine⟨o,ho,λname=>?_⟩;unfold lookIn;rw [hd];dsimp only;rw [←hm name];unfold nsFind findBy;rw [←Array.find?_toList];cases e:es.toList.find? (·.key.isStr name)with
 |some en=>rfl
 |none=>
  rw [List.any_eq_false.mpr λe he=>by
   obtain⟨n,t,q⟩:=hk e (Array.mem_toList_iff.mp he);unfold DictEntry.refKey;rw [q];exact eH]
  rfl
theorem Rt{name y:PySem.Str}:(name==y)=decide (y=name):=Bool.eq_iff_iff.mpr (beq_iff_eq.trans (eq_comm.trans decide_eq_true_iff.symm))
theorem jI{M:Model}{A:Around}{E:Value->Shared->Prop}{s:Shared}{a:Addr}{m}{name:PySem.Str}{v:Value}{Q:Unit->Shared->Prop}{n:Nat}(hn:s.heap.Ns a m)(hz:s.heap.DictLe a n)
  (h:∀h',h'.Ns a (λx=>if x=name then some v else m x)->Heap.SameBut a s.heap h'->h'.DictLe a (if(m name).isSome then n else n+1)->Q () {s with heap:=h',toks:=s.toks+1}):
  wpAny M A (nsSet a name v) Q E s:=λΓ p _=>by
 obtain⟨o,es,ep,ho,hd,hk,hm⟩:=hn;simp only [nsSet,PySem.strHash,Sem.wp_bind',Sem.wp_cmd_ask,Sem.wp_pure',Sem.wp_cmd_mkText];rw [Sem.wp_loadPart_of M Γ _ p {s with toks:=s.toks+1} _ ho]
 have aj5:es.any (·.refKey)=false:=Array.any_eq_false'.mpr λe he=>by
  obtain⟨n,t,h⟩:=hk e he;unfold DictEntry.refKey;rw [h];exact eH
 simp only [hd,aRefKeyMayBeTheName_eq,aRefKeyMayBeTheNameByArray,aj5,Bool.and_false,Bool.false_eq_true,if_false,Sem.wp_cmd_updatePart];obtain⟨c,d,dt,sl⟩:=o;subst hd;have hs:=hm name;unfold nsFind at hs;rw [findBy_of_findIdx?]at hs;have hz:=hz _ es ep ho rfl;refine⟨by rw [ho];rfl,?_⟩
 cases hi:es.findIdx? (·.key.isStr name)with
 |some i=>
  have put:∀hh kk,Obj.putName name hh kk v ⟨c,d,.dict es ep,sl⟩=(⟨c,d,.dict (es.modify i λe=>{e with val:=v}) ep,sl⟩:Obj):=λhh kk=>by
   rw [Obj.putName_eq];unfold Obj.putNameByArray;dsimp only;rw [hi]
  have get:=λhh kk=>(NK (Obj.putName name hh kk v) ho (by rw [put];rfl)).trans (au some (put hh kk))
  have hn:(m name).isSome=true:=by
   rw [←hs,hi];obtain⟨AP,_⟩:=Array.findIdx?_eq_some_iff_getElem.mp hi;rw [Option.isSome_map,Array.getElem?_eq_getElem AP];rfl
  refine h _ ⟨_,_,ep,get _ _,rfl,hk.modify _ _,λx=>?_⟩ (Fd ..) (λo' es' ep' C8 hd'=>?_)
  ·show nsFind _ x=if x=name then some v else m x
   rw [←hm x];exact findBy_modify (λn v=>v.isStr n) Value.isStr_inj es name x v i hi
  ·rw [az hn]
   obtain rfl:=bV ((get _ _).symm.trans C8);obtain⟨rfl,_⟩:=Data.dict.inj hd';rw [Array.size_modify];exact hz
 |none=>
  have put:∀hh kk,Obj.putName name hh kk v ⟨c,d,.dict es ep,sl⟩=(⟨c,d,.dict (es.push ⟨hh,kk,v⟩) (ep+1),sl⟩:Obj):=λhh kk=>by
   rw [Obj.putName_eq];unfold Obj.putNameByArray;dsimp only;rw [hi]
  have get:=λhh kk=>(NK (Obj.putName name hh kk v) ho (by rw [put];rfl)).trans (au some (put hh kk))
  have hn:m name=none:=by rw [←hs,hi]
  refine h _ ⟨_,_,ep+1,get _ _,rfl,hk.push _ _ _ _,λx=>?_⟩ (Fd ..) (λo' es' ep' C8 hd'=>?_)
  ·show nsFind _ x=if x=name then some v else m x
   rw [←hm x];exact findBy_push (λn v=>v.isStr n) es name x _ _ v (λy=>Rt) hi
  ·rw [hn]
   obtain rfl:=bV ((get _ _).symm.trans C8);obtain⟨rfl,_⟩:=Data.dict.inj hd';rw [Array.size_push];exact nG hz
section
variable{E:Value->Shared->Prop}{s:Shared}{K:Frag}
theorem Dn(hx:s.heap.get? x=some (rU C d))(hn:s.heap.Ns d m):∃od,InstAt s.heap x (rU C d) C (some od)/\∀name,lookIn name od=some (m name):=
 let⟨o,ho,q⟩:=AR hn;⟨o,⟨hx,rfl,rfl,ho⟩,q⟩
theorem JJ(X:K.In s.heap)(c:CF K C names)(hx:s.heap.get? x=some (rU C d))(hn:s.heap.Ns d m)(hm:n∈names)(hv:m (toS n)=some v)(hh:handedIn v=true)
  (h:Q v {s with toks:=s.toks+1}):wpAny (model PW w) A (getAttr (.ref x) (toS n) expr) Q E s:=by
 obtain⟨od,I,q⟩:=Dn hx hn;obtain⟨cd,Z4,hd⟩:=c.cls;refine get_value X I c.hga ?_ hh h;unfold findObj;rw [Z4,Option.bind_some,c.attr n hm,Option.bind_some];unfold PySem.W.ownOf;rw [az hd];dsimp only;rw [q,hv];rfl
theorem JK(X:K.In s.heap)(c:CF K C names)(hx:s.heap.get? x=some (rU C d))(hn:s.heap.Ns d m)(hm:n∈names)(hz:s.heap.DictLe d k)(hk:k<=1000)
  (h:∀h' tk,(h'.Ns d λy=>if y=toS n then some v else m y)->Heap.SameBut d s.heap h'->h'.DictLe d (if(m (toS n)).isSome then k else k+1)->Q () {s with heap:=h',toks:=tk}):wpAny (model PW w) A (setAttr (.ref x) (toS n) v) Q E s:=by
 obtain⟨od,I,q⟩:=Dn hx hn;obtain⟨cd,Z4,hd⟩:=c.cls;refine set_plain X I c.tV (osa_open X I c.plain (by unfold takerIn;rw [c.attr n hm];rfl) λb=>?_)
 dsimp only;refine aV (aP (aV (aV (wpAny_loadPart hx (aV ((looks_clsIn X Z4).at ?_))))));rw [hd];refine aP (aV (aP (aV ?_)));refine jI hn hz λh' Oj hs Wb=>?_;have hn2:=Oj;obtain⟨o,es,ep,ho,hd,_⟩:=hn2;have hb:=aH (Wb o es ep ho hd) (by
  split
  ·exact rP hk
  ·exact nG hk)
 exact aV (wpAny_lookBehind ho (by rw [hd];exact pastItsLine_dict (aH hb (by rw [sizeLine_eq];decide))) (aP (h h' _ Oj hs Wb)))
theorem FW{x:V}:LR x u->handedIn u=true:=V.casesOn x (λe=>e▸rfl) (λ_ e=>e▸rfl) (λ_⟨_,e⟩=>e▸rfl) (λ_⟨_,_,e⟩=>e▸rfl) (λ_=>False.elim) (λ_=>False.elim) (λ_ _=>False.elim) (λ_=>False.elim) (λ_ _=>False.elim) (λ_ e=>e▸rfl) (λ_ e=>e▸rfl) (λ_ e=>e▸rfl) (λn e=>by
 rw [e];unfold n8;split
 ·decide+kernel
 ·split
  ·decide+kernel
  ·split
   ·decide+kernel
   ·split
    ·rfl
    ·split<;>rfl)
theorem Ol{x:V}(r:VR h pl x v):handedIn v=true:=VR.casesOn r FW (λ_ _ _ _=>rfl) (λ_ _ _ _=>rfl) (λ_ _ _ _=>rfl) (λ_=>rfl) (λ_=>rfl) (λ_=>rfl) (λ_ _ _=>rfl)
end
theorem afy{α:Type}(n k:Nm)(v:α)(l:List (Nm×α)):lk k (pt n v l)=if k=n then some v else lk k l:=List.rec rfl (λx r ih=>by
 show lk k (if n=x.1 then(x.1,v)::r else x::pt n v r)=if k=n then some v else if k=x.1 then some x.2 else lk k r;by_cases h:n=x.1
 ·rw [az h,h]
  show(if k=x.1 then some v else lk k r)=_;by_cases hk:k=x.1
  ·rw [az hk,az hk]
  ·rw [ay hk,ay hk,ay hk]
 ·rw [ay h]
  show(if k=x.1 then some x.2 else lk k (pt n v r))=_;by_cases hk:k=x.1
  ·rw [az hk,az hk,ay λe=>h (e.symm.trans hk)]
  ·rw [ay hk,ay hk,ih]) l
theorem Om{α:Type}(n:Nm)(v:α)(l:List (Nm×α)):(pt n v l).length=if(lk n l).isSome then l.length else l.length+1:=List.rec rfl (λx r ih=>by
 show(if n=x.1 then(x.1,v)::r else x::pt n v r).length=if(if n=x.1 then some x.2 else lk n r).isSome then r.length+1 else r.length+1+1;by_cases h:n=x.1
 ·rw [az h,az h];rfl
 ·rw [ay h,ay h,List.length_cons,ih]
  split<;>rfl) l
section
variable{α β γ δ:Type}{K:Frag}
theorem J.attrs{m:Nat->List (Nm×V)->M β}(R:RR w p)(r:VR p.h p.pl o u)(h:∀c l a d cR,o=.fE c l->u=.ref a->c∈IU->p.h.get? a=some (rU c d)->a∉0::p.pl->p.pl[l]?=some d->1066<=d->p.st[l]?=some (.ns cR)->NsR p.h p.pl d cR->J w md R1 t (m l cR) p):J w md R1 t (o.onO M.fail λ_ l=>M.bind (Mine.eK l) λc=>c.on M.fail (λ_=>M.fail) (λ_=>M.fail) (m l)) p:=by
 revert r h;refine V.casesOn o (λ_ _=>J.aJ) (λ_ _ _=>J.aJ) (λ_ _ _=>J.aJ) (λ_ _ _=>J.aJ) (λ_ _ _=>J.aJ) (λ_ _ _=>J.aJ) (λc l r h=>?_) (λ_ _ _=>J.aJ) (λ_ _ _ _=>J.aJ) (λ_ _ _=>J.aJ) (λ_ _ _=>J.aJ) (λ_ _ _=>J.aJ) (λ_ _ _=>J.aJ);obtain⟨a,d,e,hl,hd⟩:=r.nU;refine J.eK R hl λk=>bw.casesOn k (λ_ _ _=>J.aJ) (λ_ _ _=>J.aJ) (λcR e1 c1=>?_) λ_ _=>J.aJ;have low:=R.Jp e1 hl bw.noConfusion;exact hd.elim (λz=>absurd (z▸low) (by decide)) λ⟨q1,q2,q3⟩=>h c l a d cR rfl e q1 q2 q3 hl low e1 c1
theorem yp{n:Nm}(XI:K.In (HB w.params))(hC:∀c∈IU,CF K c names)(R:RR w p)(r:VR p.h p.pl o v)(hn:n∈names):J w md VR (wp w A (getAttr v (toS n) expr)) (vq o n) p:=J.attrs R r λc l a d cR _ e hc ha _ _ _ _⟨m,Aw,q,_⟩=>J.nV λb eb=>by
  subst e;have q:=q n;rw [eb]at q;obtain⟨u,e2,q⟩:=q;exact J.tk R q λQ E h=>JJ (XI.keeps R.base) (hC c hc) ha Aw hn e2 (Ol q) h
theorem yq{n:Nm}(XI:K.In (HB w.params))(hC:∀c∈IU,CF K c names)(R:RR w p)(r:VR p.h p.pl o v)(r':VR p.h p.pl x v')(hn:n∈names):J w md UR (wp w A (setAttr v (toS n) v')) (rR o n x) p:=J.attrs R r λc l a d cR _ e hc ha _ hl low _⟨m,Aw,q,hz⟩=>J.jF λhlen=>by
  subst e;refine⟨λQ E k=>JK (XI.keeps R.base) (hC c hc) ha Aw hn hz (aH (fT hlen) (by decide)) λh' tk Oj hs Wb=>k () _ p.pl (.kJ R hl low hs λg=>⟨_,Oj,λj=>?_,Wb.mono ?_⟩) ⟨⟩⟩
  ·rw [afy]
   by_cases hj:j=n
   ·rw [az hj,az (au toS hj)];exact⟨_,rfl,r'.c8 g⟩
   ·rw [ay hj,ay λe=>hj (wU e)];exact(q j).mono g.toGk .nil
  ·rw [Om]
   have q':=q n;cases e:lk n cR with
   |none=>rw [e]at q';rw [q'];exact aW _
   |some b=>rw [e]at q';obtain⟨u,e2,_⟩:=q';rw [e2];exact aW _
end
structure TrA(h:Heap)(pl:List Addr)(a T:Addr):Prop where
 exc:∃oe vs,h.get? a=some oe/\oe.cls=.ref 80/\oe.data=.fields vs/\vs[1]?=some (.ref T)
 tb:∃oT ts,h.get? T=some oT/\oT.data=.fields ts/\ts[3]?=some .none/\oT.cls≠.type "range"
 ne:T≠a
 afz:1066<=T
 abI:T∉0::pl
 low:1066<=a
 out:a∉0::pl
def iI(h0 h:Heap)(pl:List Addr)(a:Addr):Prop:=∃T,TrA h pl a T/\h0.get? a=none/\h0.get? T=none
theorem Gr.Oo(g:Gr W h1 p1 h2 p2)(g2:Gr W' h2 p2 h3 p3)(hp:a∉0::p3)(h:h2.get? a=none):h1.get? a=none:=by
 cases q:h1.get? a with
 |none=>rfl
 |some o=>
  obtain⟨n1,e1,_⟩:=g2.ext;obtain⟨n2,e2,_⟩:=g.ext;have:a∉0::p1:=λhm=>hp (by rw [e1,e2,←List.cons_append,←List.cons_append];exact nE _ (nE _ hm))
  obtain⟨o',e',_⟩:=g.AN _ _ this q;exact bL e' h
theorem iI.Oq(g:Gr W h1 p1 h2 p2)(g2:Gr W' h2 p2 h3 p3)(t:iI h2 h3 p3 a):iI h1 h3 p3 a:=
 let⟨T,t,q1,q2⟩:=t;⟨T,t,g.Oo g2 t.out q1,g.Oo g2 t.abI q2⟩
def XL(w:World)(W:List Addr)(e:Value)(p p':Pt):Prop:=∃a,e=.ref a/\bq w W p p'/\iI p.h p'.h p'.pl a
def mE(w:World):Md w:=⟨[],XL w [],λ_ _ _ _ P⟨a,h1,h2,h3⟩=>⟨a,h1,P.trans h2,h3.Oq P.gr h2.gr⟩⟩
noncomputable def WY:List Nm:=[NN,xP,QJ,NO,[99,111],Ja,Jc,[100,101,99,108,115],LM,Wo,aa1,Wq,aa2,Wr,[104,105,110,116,115],rM,Jd,Fj,Fi,[108,105,98],QK,QL,vS,aa3,aa4,Ws,aa5,QM,aa6,QN,aa7,aa8,[114,101,116],aa9,aba,[114,111,97,100],ql,uc,CQ,abb,abc,xQ,QO,CP,kQ,[116,111,108,100],QS,xR,AJ,Wu]
noncomputable def FNL:List Nat:=[129,143,157,170,182,190,197,204,211,218,225,232,237,244,251,258,265,272,277,289,308,330,337,344,351,372,377,392,411,453,460,467,474,488,503,515,523,542,549,556,563,570,577,584,591,598,603,608,613,620,625,630,637,644,649,656,670,689,708,720,727,734,741,748,762,769,940,952,957,962,967,972,977,984,991,998,1003,1010,1015,1022,1027,1034,1039,1046,1053,1060,1065]
structure Cx where
 sc:Scope
 sl:aF
 gl:PySem.Str->Option V
noncomputable def Cx.kind(cx:Cx)(x:PySem.Str):Option NameKind:=cx.sc.names.lookup x
noncomputable def dbg:PySem.Str:="__debug__"
noncomputable def cdc:PySem.Str:="__classdict__"
noncomputable def Cx.yr(cx:Cx)(x:PySem.Str)(i:Nat):Bool:=cx.sl.lookup x==some i&&(!(x==dbg)&&!(x==cdc))
noncomputable def Cx.mG(cx:Cx)(x:PySem.Str)(v:V):Bool:=cx.kind x==some .globalImplicit&&(cx.gl x==some v&&!(x==dbg))
structure SF(w:World)(T:iL)(K:Frag)(gl:PySem.Str->Option V):Prop where
 Wc:K.In (HB w.params)
 cf:∀c∈IU,CF K c WY
 JG:Glb w gl
 sd:nO T w
 bA:∀c∈IU,∀n f,T.bA c n=some f->findIn K (.ref c) (toS n)=some (some (.ref f))/\typeIn K (.ref f)=some (.type "function")/\keepIn K (.ref f)=true
 init:∀c i,T.init c=some i->c∈IU/\makesIn K c=true/\i.casesOn (motive:=λ_=>Prop) (findIn K (.ref c) "__init__"=some (some (.builtin "object.__init__"))) λf=>findIn K (.ref c) "__init__"=some (some (.ref f))/\typeIn K (.ref f)=some (.type "function")
 keep:∀a∈FNL,keepIn K (.ref a)=true
 Z5:∀a∈IU,keepIn K (.ref a)=true
structure AS(d:Nat)(A:Around)(fs:List PySem.Env):Prop where
 hh:A.handled=none
 depth:A.depth+2*d+3<1000
 units:A.units+20*d+90<9900
 frames:A.frames=some fs
theorem Z3.c(a:Z3 d A fs):AS d A fs:=⟨a.hh,Nat.lt_of_succ_lt a.depth,di (cG (by decide) _) a.units,a.frames⟩
abbrev cd(w:World)(A:Around)(f:Value)(args:Args):LU Value:=λQ E s=>codeAny (model PW w) A (.call f args) (λr s'=>match r with|.ok (.ret v)=>Q v s'|.ok _=>False|.error e=>E e s') s
def FY(w:World)(d:Nat)(C:Nat->List V->M V):Prop:=∀a xs A p fs vs,AS d A fs->BJ p.h p.pl fs->RR w p->dH p.h p.pl xs vs->J w (mE w) VR (cd w A (.ref a) ⟨vs,[]⟩) (C a xs) p
structure Fx where
 d:Nat
 fs:List PySem.Env
 cx:Cx
def HdF(fs:List PySem.Env)(env:PySem.Env):Prop:=∃e0 jJ,fs=e0::jJ/\e0.frame=env.frame
structure sq(w:World)(fx:Fx)(A:Around)(env:PySem.Env)(ρ:aQ)(p:Pt):Prop where
 vE:Z3 fx.d A fx.fs
 hd:HdF fx.fs env
 sc:env.scope=fx.cx.sc
 F:FR p.h p.pl env fx.cx.sl ρ
 S:BJ p.h p.pl fx.fs
 R:RR w p
def fK(w:World)(fx:Fx)(x:Expr)(m:aQ->M V):Prop:=∀A env ρ p,sq w fx A env ρ p->J w (mE w) VR (wp w A (eval x env)) (m ρ) p
def JL(w:World)(fx:Fx)(x:Expr)(m:aQ->M Bool):Prop:=∀A env ρ p,sq w fx A env ρ p->J w (mE w) Of (wp w A (isTrue x env (eval x env))) (m ρ) p
def Dp(w:World)(fx:Fx)(xs:List Expr)(m:aQ->M (List V)):Prop:=∀pos A env ρ p,sq w fx A env ρ p->J w (mE w) dH (wp w A (spliced (backTo pos (starEach xs env)))) (m ρ) p
section
variable{K:Frag}{p p1:Pt}
theorem sq.step(n:sq w fx A env ρ p)(P:bq w [] p p1):sq w fx A env ρ p1:=⟨n.vE,n.hd,n.sc,n.F.mono P.gr,n.S.mono P.gr,P.rr⟩
theorem sq.kind(n:sq w fx A env ρ p)(x:PySem.Str):env.kindOf x=fx.cx.kind x:=by
 unfold PySem.Env.kindOf Cx.kind;rw [n.sc]
theorem ie(h:(! b)=true):b=false:=by
 cases b
 ·rfl
 ·exact ff h
theorem abJ:fK w fx (.Constant (.int i) k pos) (λ_=>M.pure (.int i)):=λA env ρ p n=>J.tk n.R .int λQ E h=>wpAny_Constant_int h
theorem abK(ok:PyData.strOk (toS s)=true):fK w fx (.Constant (.str (toS s)) k pos) (λ_=>M.pure (.str s)):=λA env ρ p n=>J.tk n.R (.str ok) λQ E h=>Constant_str h
theorem WZ:fK w fx (.Constant .none k pos) (λ_=>M.pure .none):=λA env ρ p n=>J.aR n.R .none λQ E h=>aP h
theorem W2:fK w fx (.Constant (.bool b) k pos) (λ_=>M.pure (.bool b)):=λA env ρ p n=>J.aR n.R .bool λQ E h=>aP h
theorem L7(S:SF w T K gl)(hg:fx.cx.gl=gl)(h:fx.cx.mG x v=true):fK w fx (.Name x pos) (λ_=>M.pure v):=λA env ρ p n=>WW S.JG n.F n.R ((n.kind x).trans (eq_of_beq (ah h).1)) (hg▸eq_of_beq (ah (ah h).2).1) (ie (ah (ah h).2).2)
theorem abL(h:fx.cx.yr x i=true):fK w fx (.Name x pos) (λρ=>rd ρ i):=λA env ρ p n=>abH n.F n.R (eq_of_beq (ah h).1) (ie (ah (ah h).2).1) (ie (ah (ah h).2).2)
theorem L8:Dp w fx [] (λ_=>M.pure []):=λ_ _ _ _ _ n=>J.aR n.R .nil λQ E h=>aP h
noncomputable def mH(x:Expr):Bool:=match x with
 |.Starred _ _=>true
 |_=>false
theorem qn(h:mH x=false):starEach (x::xs) env=(false,eval x env)::starEach xs env:=by
 cases x<;>first|rfl|exact ff h.symm
theorem FZ(hs:mH x=false)(h1:fK w fx x m)(h2:Dp w fx xs ms):Dp w fx (x::xs) (λρ=>M.bind (m ρ) λv=>M.bind (ms ρ) λvs=>M.pure (v::vs)):=λpos A env ρ p n=>by
 rw [qn hs];exact J.jS (λQ E h=>spliced_cons h) (J.bind (h1 A env ρ p n) λa b p1 _ P r=>J.bind (h2 pos A env ρ p1 (n.step P)) λvs xs p2 _ P2 r2=>J.ret P2.rr (.cons (r.c8 P2.gr) r2))
theorem abM(hl:∀ρ st vs st',m ρ st=.ok vs st'->vs.length<=AM)(h:Dp w fx xs m):fK w fx (.Tuple xs k pos) (λρ=>M.bind (m ρ) λvs=>M.pure (.aC vs)):=λA env ρ p n=>J.jS (λQ E h=>Tuple_ h) (J.bind (h pos A env ρ p n) λa b p1 e P r=>FQ P.rr r (hl _ _ _ _ e))
theorem W3(hl:∀ρ st vs st',m ρ st=.ok vs st'->vs.length<=AM)(h:Dp w fx xs m):fK w fx (.List xs pos) (λρ=>M.bind (m ρ) λvs=>M.pure (.lst vs)):=λA env ρ p n=>J.jS (λQ E h=>List_ h) (J.bind (h pos A env ρ p n) λa b p1 e P r=>JI P.rr r (hl _ _ _ _ e))
theorem Ru(hl:∀ρ st vs st',m ρ st=.ok vs st'->vs.length<=AM)(h:Dp w fx xs m):fK w fx (.List xs pos) (λρ=>M.bind (m ρ) λvs=>M.bind (qb (.list vs)) λl=>M.pure (.ref l)):=λA env ρ p n=>J.jS (λQ E h=>List_ h) (J.bind (h pos A env ρ p n) λa b p1 e P r=>FU P.rr r (hl _ _ _ _ e))
theorem abN(h1:fK w fx x m1)(h2:fK w fx y m2):fK w fx (.BinOp x (r7 op) y pos) (λρ=>M.bind (m1 ρ) λa=>M.bind (m2 ρ) λb=>d9 op a b):=λA env ρ p n=>J.jS (λQ E h=>wpAny_BinOp h) (J.bind (h1 A env ρ p n) λa b p1 _ P r=>J.bind (h2 A env ρ p1 (n.step P)) λa2 b2 p2 _ P2 r2=>abC P2.rr (r.c8 P2.gr) r2)
theorem abO(h1:fK w fx x m1):fK w fx (.UnaryOp .USub x pos) (λρ=>M.bind (m1 ρ) λx=>bX (x.gJ.map λi=>.int (-i))):=λA env ρ p n=>J.jS (λQ E h=>wpAny_UnaryOp h) (J.bind (h1 A env ρ p n) λa b p1 _ P r=>J.nV λc e=>by
  obtain⟨i,e2,rfl⟩:=Option.map_eq_some_iff.mp e;obtain⟨t,rfl⟩:=r.gJ e2;exact J.tk P.rr .int λQ E h=>PySem.P.neg_int h)
theorem abP(S:nO T w)(h1:fK w fx x m1):fK w fx (.UnaryOp .Not x pos) (λρ=>M.bind (m1 ρ) λx=>M.bind (gK T x) λb=>M.pure (.bool (! b))):=λA env ρ p n=>J.jS (λQ E h=>wpAny_UnaryOp h) (J.bind (h1 A env ρ p n) λa b p1 _ P r=>J.jS (λQ E h=>not_of h) (J.bind (yf S P.rr r) λc c' p2 _ P2 e=>J.ret P2.rr (by
  obtain rfl:c'=c:=e;exact .bool)))
theorem abQ(S:SF w T K gl)(hm:behindInMarks (BG op) y=false)(h1:fK w fx x m1)(h2:fK w fx y m2):
  fK w fx (.Compare x [BG op] [y] pos) (λρ=>M.bind (m1 ρ) λa=>M.bind (m2 ρ) λb=>M.bind (aM T op a b) λr=>M.pure (.bool r)):=λA env ρ p n=>J.jS (λQ E h=>wpAny_Compare1 h hm) (J.bind (h1 A env ρ p n) λa b p1 _ P r=>J.bind (h2 A env ρ p1 (n.step P)) λa2 b2 p2 _ P2 r2=>J.bind (Rk S.sd n.vE.LW P2.rr (r.c8 P2.gr) r2) λv b3 p3 _ P3 e=>J.ret P3.rr (by
   obtain rfl:v=.bool b3:=e;exact .bool))
theorem abR(S:SF w T K gl)(hm:behindInMarks (BG op) y=false)(h1:fK w fx x m1)(h2:fK w fx y m2):
  JL w fx (.Compare x [BG op] [y] pos) (λρ=>M.bind (m1 ρ) λa=>M.bind (m2 ρ) λb=>aM T op a b):=λA env ρ p n=>J.jS (λQ E h=>wpAny_isTrue_Compare1 h hm) (J.bind (h1 A env ρ p n) λa b p1 _ P r=>J.bind (h2 A env ρ p1 (n.step P)) λa2 b2 p2 _ P2 r2=>M.bind_pure (m:=aM T op b b2)▸J.bind (Rk S.sd n.vE.LW P2.rr (r.c8 P2.gr) r2) λv b3 p3 _ P3 e=>by
   obtain rfl:v=.bool b3:=e;exact J.aR P3.rr rfl λQ E h=>wpAny_truthy_bool h)
theorem J.cond{α β:Type}{R1:qN α β}{T1 T2:LU α}{b:Bool}{m1 m2:M β}(h1:J w md R1 T1 m1 p)(h2:J w md R1 T2 m2 p):J w md R1 (λQ E s=>if b then T1 Q E s else T2 Q E s) (if b then m1 else m2) p:=by
 cases b
 ·exact h2
 ·exact h1
theorem abS(h0:JL w fx t m0)(h1:fK w fx x m1)(h2:fK w fx y m2):fK w fx (.IfExp t x y pos) (λρ=>M.bind (m0 ρ) λc=>if c then m1 ρ else m2 ρ):=λA env ρ p n=>J.jS (λQ E h=>wpAny_IfExp h) (J.bind (h0 A env ρ p n) λa b p1 _ P r=>by
  obtain rfl:b=a:=r;exact J.cond (h1 A env ρ p1 (n.step P)) (h2 A env ρ p1 (n.step P)))
theorem abT(h0:JL w fx t m0)(h1:JL w fx x m1)(h2:JL w fx y m2):JL w fx (.IfExp t x y pos) (λρ=>M.bind (m0 ρ) λc=>if c then m1 ρ else m2 ρ):=λA env ρ p n=>J.jS (λQ E h=>isTrue_IfExp h) (J.bind (h0 A env ρ p n) λa b p1 _ P r=>by
  obtain rfl:b=a:=r;exact J.cond (h1 A env ρ p1 (n.step P)) (h2 A env ρ p1 (n.step P)))
theorem abU(h0:JL w fx x m0):JL w fx (.UnaryOp .Not x pos) (λρ=>M.bind (m0 ρ) λc=>M.pure (! c)):=λA env ρ p n=>J.jS (λQ E h=>isTrue_not h) (J.bind (h0 A env ρ p n) λa b p1 _ P r=>J.ret P.rr (au not r))
theorem Rv(S:nO T w)(h:fK w fx x m)(he:∀env eN,isTrue x env eN=(do let v←eN;standAt x.pos;holding [v] (truthy v))):JL w fx x (λρ=>M.bind (m ρ) (gK T)):=λA env ρ p n=>J.jS (λQ E h=>isTrue_plain h (he _ _)) (J.bind (h A env ρ p n) λa b p1 _ P r=>yf S P.rr r)
noncomputable def sr(x:Expr):Bool:=match x with
 |.Call _ _ _ _=>true
 |_=>false
theorem ja(h:sr o=false):attributeBase o a env t=t:=by
 cases o<;>first|rfl|exact ff h.symm
theorem W4(S:SF w T K gl)(hc:sr x=false)(hn:n∈WY)(h1:fK w fx x m1):fK w fx (.Attribute x (toS n) pos) (λρ=>M.bind (m1 ρ) λo=>vq o n):=λA env ρ p nw=>by
 rw [arm_eval_Attribute,ja hc];exact J.jS (λQ E h=>aV (gE h (λa s1 h=>aV (nX (aV (iX (gE h (λv s' h=>aV (wpAny_letTemporaryGo (aP h))) λ_ _ z=>z))))) λ_ _ z=>z))
  (J.bind (h1 A env ρ p nw) λa b p1 _ P r=>yp S.Wc S.cf P.rr r hn)
theorem Ma:Oc w p.h p.pl a ct->∃Ty id,p.s.TypeIs (.ref a) Ty/\typeLookup (.type Ty) "__getitem__"=pure (some (.builtin id)):=Ct.casesOn ct (λ_⟨_,_,c⟩=>⟨_,_,⟨_,c.get,rfl⟩,slot_tuple_getitem.lookup⟩) (λ_⟨_,_,e,_⟩=>⟨_,_,⟨_,e,rfl⟩,slot_list_getitem.lookup⟩) λes c=>⟨_,_,(c.2.2.elim (λ⟨_,_,d,_⟩=>d.typeIs) λ⟨_,d,_⟩=>d.typeIs),slot_dict_getitem.lookup⟩
noncomputable def Dq(x:Expr):Bool:=match x with
 |.Slice _ _ _ _=>true
 |_=>false
theorem su(h:Dq slice=false):subscripted slice false o i=operate [o,i] (getItem o i):=by
 cases slice<;>first|rfl|exact ff h.symm
theorem abV(S:SF w T K gl)(hs:Dq y=false)(h1:fK w fx x m1)(h2:fK w fx y m2):fK w fx (.Subscript x y pos) (λρ=>M.bind (m1 ρ) λa=>M.bind (m2 ρ) λb=>vt T a b):=λA env ρ p n=>J.jS (λQ E h=>Subscript_ h) (J.bind (h1 A env ρ p n) λa b p1 _ P r=>J.bind (h2 A env ρ p1 (n.step P)) λa2 b2 p2 _ P2 r2=>J.BF S.sd P2.rr (r.c8 P2.gr) λct o c e ch q=>by
  subst e;obtain⟨Ty,id,hT,hl⟩:=Ma ch;exact J.jS (λQ E h=>tail_any hT hl h (su hs)) (Jr n.vE.LW P2.rr r2 ch q))
def OOk(w:World)(fx:Fx)(x:Option Expr)(m:aQ->M (Option V)):Prop:=∀A env ρ p,sq w fx A env ρ p->J w (mE w) ym (wp w A (evalPart x env)) (m ρ) p
theorem W6:OOk w fx none (λ_=>M.pure none):=λA env ρ p n=>J.aR n.R rfl λQ E h=>aP h
theorem W7(h:fK w fx x m):OOk w fx (some x) (λρ=>M.bind (m ρ) λv=>M.pure (some v)):=λA env ρ p n=>J.bind (h A env ρ p n) λa b p1 _ P r=>J.ret P.rr r
theorem ym.mono(g:Gr [] h pl h' cU)(r:ym h pl o v):ym h' cU o v:=by
 cases o with
 |none=>exact r
 |some x=>exact VR.c8 g r
theorem abW(S:SF w T K gl)(h1:fK w fx x m1)(h2:OOk w fx l m2)(h3:OOk w fx u m3):
  fK w fx (.Subscript x (.Slice l u none q) pos) (λρ=>M.bind (m1 ρ) λa=>M.bind (m2 ρ) λb=>M.bind (m3 ρ) λc=>look T a (ug b c)):=λA env ρ p n=>J.jS (λQ E h=>Subscript_ (gE h (λo s1 h=>wpAny_Slice h) λ_ _ z=>z)) (J.bind (h1 A env ρ p n) λa b p1 _ P r=>J.bind (h2 A env ρ p1 (n.step P)) λa2 b2 p2 _ P2 r2=>J.bind (h3 A env ρ p2 ((n.step P).step P2)) λa3 b3 p3 _ P3 r3=>by
  have P4:bq w [] p3 (p3.at (p3.h.push {cls:=.type "slice",data:=.fields #[a2,a3,.none]}) p3.s.toks):=.n9 P3.rr _ _;have h4:J w (mE w) VR (wp w A (subscriptTail x (.Slice l u none q) a (.ref p3.h.objs.size))) (look T b (ug b2 b3)) (p3.at (p3.h.push {cls:=.type "slice",data:=.fields #[a2,a3,.none]}) p3.s.toks):=J.BF S.sd P4.rr (r.c8 (P2.gr.trans (P3.gr.trans P4.gr))) λct o c e ch q=>by
    subst e;obtain⟨Ty,id,hT,hl⟩:=Ma ch;exact J.jS (λQ E h=>tail_any hT hl h rfl) (Rp P4.rr (r2.mono (P3.gr.trans P4.gr)) (r3.mono P4.gr) (Heap.IsSliceOf.new ..) ch q)
  exact⟨λQ E k=>aP (h4.aS Q E (k.yb P4))⟩)
noncomputable def Ot(b:Bool):BoolOp:=cond b .And .Or
def Ou(w:World)(fx:Fx)(b:Bool)(xs:List Expr)(m:aQ->M V):Prop:=∀pos A env ρ p,sq w fx A env ρ p->J w (mE w) VR (wp w A (boolOp pos (Ot b) (evalEach xs env))) (m ρ) p
theorem abX:Ou w fx b [] (λ_=>M.fail):=λ_ _ _ _ _ _=>J.aJ
theorem abY(h:fK w fx x m):Ou w fx b [x] (λρ=>M.bind (m ρ) M.pure):=λ_ A env ρ p n=>J.congr (jT M.bind_pure _) (h A env ρ p n)
theorem W8(S:nO T w)(h1:fK w fx x m)(h2:Ou w fx b (y::xs) ms):
  Ou w fx b (x::y::xs) (λρ=>M.bind (m ρ) λv=>M.bind (gK T v) λt=>if t=b then ms ρ else M.pure v):=λpos A env ρ p n=>by
 refine J.jS (T':=λQ E s=>wpAny (model PW w) A (eval x env) (λa s1=>wpAny (model PW w) A (truthy a) (λt s1=>wpAny (model PW w) A (match Ot b,t with
   |.And,false|.Or,true=>pure a
   |_,_=>boolOp pos (Ot b) (evalEach (y::xs) env)) Q E s1) E s1) E s) (λQ E h=>?_) (J.bind (h1 A env ρ p n) λa a' p1 _ P r=>J.bind (yf S P.rr r) λt t' p2 _ P2 e=>?_)
 ·show wpAny _ _ (do
   let v←eval x env
   standAt pos
   let t←holding [v] (truthy v)
   match Ot b,t with
   |.And,false|.Or,true=>pure v
   |_,_=>boolOp pos (Ot b) (evalEach (y::xs) env)) _ _ _
  exact aV (gE h (λa s1 h=>aV (nX (aV (iX h)))) λ_ _ z=>z)
 ·obtain rfl:t'=t:=e
  cases b<;>cases t'<;>first
   |exact h2 pos A env ρ p2 ((n.step P).step P2)
   |exact J.aR P2.rr (r.c8 P2.gr) λQ E h=>aP h
theorem BK(h:Ou w fx b xs m):fK w fx (.BoolOp (Ot b) xs pos) m:=λA env ρ p n=>by
 rw [arm_eval_BoolOp];exact h pos A env ρ p n
def Rw(w:World)(fx:Fx)(b:Bool)(xs:List Expr)(m:aQ->M Bool):Prop:=∀A env ρ p,sq w fx A env ρ p->J w (mE w) Of (wp w A (allTrue (Ot b) xs env)) (m ρ) p
theorem abZ:Rw w fx b [] (λ_=>M.pure b):=λA env ρ p n=>by
 cases b<;>exact J.aR n.R rfl λQ E h=>aP h
theorem W9(h1:JL w fx x m)(h2:Rw w fx b xs ms):Rw w fx b (x::xs) (λρ=>M.bind (m ρ) λt=>if t=b then ms ρ else M.pure (! b)):=λA env ρ p n=>by
 refine J.jS (T':=λQ E s=>wpAny (model PW w) A (isTrue x env (eval x env)) (λt s1=>wpAny (model PW w) A (match Ot b,t with
   |.And,false=>pure false
   |.Or,true=>pure true
   |_,_=>allTrue (Ot b) xs env) Q E s1) E s) (λQ E h=>?_) (J.bind (h1 A env ρ p n) λt t' p1 _ P e=>?_)
 ·show wpAny _ _ (do
   match Ot b,←isTrue x env (eval x env)with
   |.And,false=>pure false
   |.Or,true=>pure true
   |_,_=>allTrue (Ot b) xs env) _ _ _
  exact aV h
 ·obtain rfl:t'=t:=e
  cases b<;>cases t'<;>first
   |exact h2 A env ρ p1 (n.step P)
   |exact J.aR P.rr rfl λQ E h=>aP h
theorem BL(h:Rw w fx b xs m):JL w fx (.BoolOp (Ot b) xs pos) m:=h
end
noncomputable def Dr(x:Expr):Nat:=Expr.casesOn (motive_1:=λ_=>Nat) x (λ_ _ _=>0) (λ_ _ _=>1) (λ_ _ _ _=>2) (λ_ _ _=>3) (λ_ _ _ _=>4) (λ_ _ _ _=>5) (λ_ _ _=>6) (λ_ _ _=>7) (λ_ _ _ _=>8) (λ_ _ _ _=>9) (λ_ _ _ _ _=>10) (λ_ _ _ _=>11) (λ_ _=>12) (λ_ _=>13) (λ_ _=>14) (λ_ _ _ _=>15) (λ_ _ _ _=>16) (λ_ _ _ _=>17) (λ_ _=>18) (λ_ _ _=>19) (λ_ _ _=>20) (λ_ _ _=>21) (λ_ _=>22) (λ_ _=>23) (λ_ _=>24) (λ_ _ _=>25) (λ_ _ _ _=>26)
noncomputable def lg(x:Expr)(k:BoolOp->List Expr->Pos->Bool):Bool:=by cases x;(case BoolOp=>exact k op values pos);all_goals exact false
theorem lg.ok{P:Expr->Prop}(h:lg x k=true)(f:∀a b c,k a b c=true->P (.BoolOp a b c)):P x:=by revert h;cases x;(case BoolOp=>exact f _ _ _);all_goals exact ff
noncomputable def wY(x:Expr)(k:Expr->Operator->Expr->Pos->Bool):Bool:=by cases x;(case BinOp=>exact k left op right pos);all_goals exact false
theorem wY.ok{P:Expr->Prop}(h:wY x k=true)(f:∀a b c d,k a b c d=true->P (.BinOp a b c d)):P x:=by revert h;cases x;(case BinOp=>exact f _ _ _ _);all_goals exact ff
noncomputable def gq(x:Expr)(k:UnaryOp->Expr->Pos->Bool):Bool:=by cases x;(case UnaryOp=>exact k op operand pos);all_goals exact false
theorem gq.ok{P:Expr->Prop}(h:gq x k=true)(f:∀a b c,k a b c=true->P (.UnaryOp a b c)):P x:=by revert h;cases x;(case UnaryOp=>exact f _ _ _);all_goals exact ff
noncomputable def wZ(x:Expr)(k:Expr->Expr->Expr->Pos->Bool):Bool:=by cases x;(case IfExp=>exact k test body orelse pos);all_goals exact false
theorem wZ.ok{P:Expr->Prop}(h:wZ x k=true)(f:∀a b c d,k a b c d=true->P (.IfExp a b c d)):P x:=by revert h;cases x;(case IfExp=>exact f _ _ _ _);all_goals exact ff
noncomputable def Ds(x:Expr)(k:List (Option Expr)->List Expr->Pos->Bool):Bool:=by cases x;(case Dict=>exact k keys values pos);all_goals exact false
theorem Ds.ok{P:Expr->Prop}(h:Ds x k=true)(f:∀a b c,k a b c=true->P (.Dict a b c)):P x:=by revert h;cases x;(case Dict=>exact f _ _ _);all_goals exact ff
noncomputable def ig(x:Expr)(k:Expr->List Comprehension->Scope->Pos->Bool):Bool:=by cases x;(case ListComp=>exact k elt generators scope pos);all_goals exact false
theorem ig.ok{P:Expr->Prop}(h:ig x k=true)(f:∀a b c d,k a b c d=true->P (.ListComp a b c d)):P x:=by revert h;cases x;(case ListComp=>exact f _ _ _ _);all_goals exact ff
noncomputable def pq(x:Expr)(k:Expr->List CmpOp->List Expr->Pos->Bool):Bool:=by cases x;(case Compare=>exact k left ops comparators pos);all_goals exact false
theorem pq.ok{P:Expr->Prop}(h:pq x k=true)(f:∀a b c d,k a b c d=true->P (.Compare a b c d)):P x:=by revert h;cases x;(case Compare=>exact f _ _ _ _);all_goals exact ff
noncomputable def oj(x:Expr)(k:Expr->List Expr->List Keyword->Pos->Bool):Bool:=by cases x;(case Call=>exact k func args keywords pos);all_goals exact false
theorem oj.ok{P:Expr->Prop}(h:oj x k=true)(f:∀a b c d,k a b c d=true->P (.Call a b c d)):P x:=by revert h;cases x;(case Call=>exact f _ _ _ _);all_goals exact ff
noncomputable def eE(x:Expr)(k:Const->Nat->Pos->Bool):Bool:=by cases x;(case Constant=>exact k value k_1 pos);all_goals exact false
theorem eE.ok{P:Expr->Prop}(h:eE x k=true)(f:∀a b c,k a b c=true->P (.Constant a b c)):P x:=by revert h;cases x;(case Constant=>exact f _ _ _);all_goals exact ff
noncomputable def b5(x:Expr)(k:Expr->PySem.Str->Pos->Bool):Bool:=by cases x;(case Attribute=>exact k value attr pos);all_goals exact false
theorem b5.ok{P:Expr->Prop}(h:b5 x k=true)(f:∀a b c,k a b c=true->P (.Attribute a b c)):P x:=by revert h;cases x;(case Attribute=>exact f _ _ _);all_goals exact ff
noncomputable def dB(x:Expr)(k:Expr->Expr->Pos->Bool):Bool:=by cases x;(case Subscript=>exact k value slice pos);all_goals exact false
theorem dB.ok{P:Expr->Prop}(h:dB x k=true)(f:∀a b c,k a b c=true->P (.Subscript a b c)):P x:=by revert h;cases x;(case Subscript=>exact f _ _ _);all_goals exact ff
noncomputable def f5(x:Expr)(k:PySem.Str->Pos->Bool):Bool:=by cases x;(case Name=>exact k id pos);all_goals exact false
theorem f5.ok{P:Expr->Prop}(h:f5 x k=true)(f:∀a b,k a b=true->P (.Name a b)):P x:=by revert h;cases x;(case Name=>exact f _ _);all_goals exact ff
noncomputable def uy(x:Expr)(k:List Expr->Pos->Bool):Bool:=by cases x;(case List=>exact k elts pos);all_goals exact false
theorem uy.ok{P:Expr->Prop}(h:uy x k=true)(f:∀a b,k a b=true->P (.List a b)):P x:=by revert h;cases x;(case List=>exact f _ _);all_goals exact ff
noncomputable def w7(x:Expr)(k:List Expr->Nat->Pos->Bool):Bool:=by cases x;(case Tuple=>exact k elts k_1 pos);all_goals exact false
theorem w7.ok{P:Expr->Prop}(h:w7 x k=true)(f:∀a b c,k a b c=true->P (.Tuple a b c)):P x:=by revert h;cases x;(case Tuple=>exact f _ _ _);all_goals exact ff
noncomputable def w9(x:Expr)(k:Option Expr->Option Expr->Option Expr->Pos->Bool):Bool:=by cases x;(case Slice=>exact k lower upper step pos);all_goals exact false
theorem w9.ok{P:Expr->Prop}(h:w9 x k=true)(f:∀a b c d,k a b c d=true->P (.Slice a b c d)):P x:=by revert h;cases x;(case Slice=>exact f _ _ _ _);all_goals exact ff
noncomputable def ly(x:Stmt)(k:Option Expr->Pos->Bool):Bool:=by cases x;(case Return=>exact k value pos);all_goals exact false
theorem ly.ok{P:Stmt->Prop}(h:ly x k=true)(f:∀a b,k a b=true->P (.Return a b)):P x:=by revert h;cases x;(case Return=>exact f _ _);all_goals exact ff
noncomputable def sy(x:Stmt)(k:List Expr->Pos->Bool):Bool:=by cases x;(case Delete=>exact k targets pos);all_goals exact false
theorem sy.ok{P:Stmt->Prop}(h:sy x k=true)(f:∀a b,k a b=true->P (.Delete a b)):P x:=by revert h;cases x;(case Delete=>exact f _ _);all_goals exact ff
noncomputable def cN(x:Stmt)(k:List Expr->Expr->Pos->Bool):Bool:=by cases x;(case Assign=>exact k targets value pos);all_goals exact false
theorem cN.ok{P:Stmt->Prop}(h:cN x k=true)(f:∀a b c,k a b c=true->P (.Assign a b c)):P x:=by revert h;cases x;(case Assign=>exact f _ _ _);all_goals exact ff
noncomputable def kB(x:Stmt)(k:Expr->Operator->Expr->Pos->Bool):Bool:=by cases x;(case AugAssign=>exact k target op value pos);all_goals exact false
theorem kB.ok{P:Stmt->Prop}(h:kB x k=true)(f:∀a b c d,k a b c d=true->P (.AugAssign a b c d)):P x:=by revert h;cases x;(case AugAssign=>exact f _ _ _ _);all_goals exact ff
noncomputable def Mb(x:Stmt)(k:Expr->Expr->List Stmt->List Stmt->Pos->Bool):Bool:=by cases x;(case For=>exact k target iter body orelse pos);all_goals exact false
theorem Mb.ok{P:Stmt->Prop}(h:Mb x k=true)(f:∀a b c d e,k a b c d e=true->P (.For a b c d e)):P x:=by revert h;cases x;(case For=>exact f _ _ _ _ _);all_goals exact ff
noncomputable def xd(x:Stmt)(k:Expr->List Stmt->List Stmt->Pos->Bool):Bool:=by cases x;(case While=>exact k test body orelse pos);all_goals exact false
theorem xd.ok{P:Stmt->Prop}(h:xd x k=true)(f:∀a b c d,k a b c d=true->P (.While a b c d)):P x:=by revert h;cases x;(case While=>exact f _ _ _ _);all_goals exact ff
noncomputable def Xa(x:Stmt)(k:Expr->List Stmt->List Stmt->Pos->Bool):Bool:=by cases x;(case If=>exact k test body orelse pos);all_goals exact false
theorem Xa.ok{P:Stmt->Prop}(h:Xa x k=true)(f:∀a b c d,k a b c d=true->P (.If a b c d)):P x:=by revert h;cases x;(case If=>exact f _ _ _ _);all_goals exact ff
noncomputable def xe(x:Stmt)(k:Option Expr->Option Expr->Pos->Bool):Bool:=by cases x;(case Raise=>exact k exc cause pos);all_goals exact false
theorem xe.ok{P:Stmt->Prop}(h:xe x k=true)(f:∀a b c,k a b c=true->P (.Raise a b c)):P x:=by revert h;cases x;(case Raise=>exact f _ _ _);all_goals exact ff
noncomputable def Mc(x:Stmt)(k:List Stmt->List ExceptHandler->List Stmt->List Stmt->Pos->Bool):Bool:=by cases x;(case Try=>exact k body handlers orelse finalbody pos);all_goals exact false
theorem Mc.ok{P:Stmt->Prop}(h:Mc x k=true)(f:∀a b c d e,k a b c d e=true->P (.Try a b c d e)):P x:=by revert h;cases x;(case Try=>exact f _ _ _ _ _);all_goals exact ff
noncomputable def Dt(x:Stmt)(k:Expr->Pos->Bool):Bool:=by cases x;(case Expr=>exact k value pos);all_goals exact false
theorem Dt.ok{P:Stmt->Prop}(h:Dt x k=true)(f:∀a b,k a b=true->P (.Expr a b)):P x:=by revert h;cases x;(case Expr=>exact f _ _);all_goals exact ff
inductive iO(P:E->Expr->Prop):List E->List Expr->Prop
 |nil:iO P [] []
 |cons {e:E} {x:Expr} {es:List E} {xs:List Expr}:mH x=false->P e x->iO P es xs->iO P (e::es) (x::xs)
abbrev sA(w:World)(T:iL)(C:Nat->List V->M V)(fx:Fx)(e:E)(x:Expr):Prop:=fK w fx x (fV T C e)/\JL w fx x (λρ=>BB T C e ρ (fV T C e ρ))
section
theorem iO.len(h:iO P es xs):es.length=xs.length:=iO.rec rfl (λ_ _ _ ih=>au (·+1) ih) h
theorem iO.noStar(h:iO P es xs):xs.all (λx=>!(mH x))=true:=iO.rec rfl (λa _ _ ih=>dF (au not a) ih) h
theorem iO.eOk(h:iO (sA w T C fx) es xs):Dp w fx xs (qc T C es):=iO.rec L8 (λa b _ ih=>FZ a b.1 ih) h
theorem iO.bOk(S:nO T w)(h:iO (sA w T C fx) es xs):Ou w fx b xs (evB T C b es):=iO.rec abX (λ{e x es xs}a p r ih=>by
 cases r with
 |nil=>exact abY p.1
 |cons _ _ _=>exact W8 S p.1 ih) h
theorem iO.aOk(h:iO (sA w T C fx) es xs):Rw w fx b xs (evA T C b es):=iO.rec abZ (λa p _ ih=>W9 p.2 ih) h
inductive Z6(h:Heap)(pl:List Addr):List Nm->List V->List (Value×Value)->Prop
 |nil:Z6 h pl [] [] []
 |cons {k:Nm} {t:Tok} {x:V} {v:Value} {ks:List Nm} {xs:List V} {kvs:List (Value×Value)}:PyData.strOk (toS k)=true->VR h pl x v->Z6 h pl ks xs kvs->Z6 h pl (k::ks) (x::xs) ((.str (toS k) t,v)::kvs)
theorem Z6.Xb{xs:List V}(r:Z6 h pl ks xs kvs):∃kv:List (V×Value),Carries (k8 w 3) kvs kv/\DPF h pl ((ks.map V.str).zip xs) kv/\kv.map (·.1)=ks.map V.str:=Z6.rec ⟨[],bu,.nil,rfl⟩ (λ{k t x v ks xs kvs}ok rv _ ih=>by
  obtain⟨kv,h1,h2,h3⟩:=ih;exact⟨(.str k,v)::kv,⟨ya k t ok,rfl,h1⟩,DP.cons (k:=(V.str k,v)) rv h2,au (V.str k::·) h3⟩) r
abbrev uz:=Nm×Nat×Pos
noncomputable def yt(x:uz):Expr:=.Constant (.str (toS x.1)) x.2.1 x.2.2
noncomputable def prs(l:List uz)(vals:List Expr)(pos:Pos)(env:PySem.Env):List (Sem Value×Sem Value):=(l.map λx=>eval (yt x) env).zip ((evalEach vals env).map λv=>do let x←v;standAt pos;pure x)
theorem JM(l:List uz)(env:PySem.Env)(ys:List (Sem Value)):(evalEachOpt (l.map λx=>some (yt x)) env).zip ys=((l.map λx=>eval (yt x) env).zip ys).map λp=>(some p.1,p.2):=by
 have:evalEachOpt (l.map λx=>some (yt x)) env=(l.map λx=>eval (yt x) env).map some:=List.rec rfl (λx l ih=>au (some (eval (yt x) env)::·) ih) l
 rw [this,List.zip_map_left];rfl
def Me(w:World)(fx:Fx)(l:List uz)(vals:List Expr)(m:aQ->M (List V)):Prop:=∀pos A env ρ p,sq w fx A env ρ p->J w (mE w) (λh pl xs kvs=>Z6 h pl (l.map (·.1)) xs kvs) (wp w A (evalPairs (prs l vals pos env))) (m ρ) p
theorem iO.pOk(h:iO (sA w T C fx) es xs):∀{l:List uz},(∀x∈l,PyData.strOk (toS x.1)=true)->l.length=es.length->Me w fx l xs (qc T C es):=iO.rec (motive:=λes xs _=>∀{l:List uz},(∀x∈l,PyData.strOk (toS x.1)=true)->l.length=es.length->Me w fx l xs (qc T C es))
 (λ{l}_ e _ A env ρ p n=>by rw [List.length_eq_zero_iff.mp e];exact J.aR n.R .nil λQ E h=>aP h)
 (λ{e x es xs}_ b _ ih l ok hl pos A env ρ p n=>by
  cases l with
  |nil=>exact absurd hl (Fc _)
  |cons y l=>
   have P0:bq w [] p (p.at p.h (p.s.toks+1)):=.ZX n.R _;have n0:=n.step P0;have key:=J.bind (R2:=λh pl(xs:List V)kvs=>Z6 h pl ((y::l).map λx:uz=>x.1) xs kvs) (b.1 A env ρ _ n0) λa b p1 _ P r=>J.bind (T2:=λkvs Q _ s2=>Q ((Value.str (toS y.1) p.s.toks,a)::kvs) s2) (ih (λx hx=>ok x (cP _ hx)) (kZ hl) pos A env ρ p1 (n0.step P)) λkvs xs p2 _ P2 r2=>J.ret P2.rr (.cons (ok y cC) (r.c8 P2.gr) r2);refine J.jS (λQ E h=>?_) (J.afj P0 key);show wpAny _ _ (do
    let kv←eval (yt y) env;let vv←holding [kv] (do let z←eval x env;standAt pos;pure z)
    return(kv,vv)::(←holding [kv,vv] (evalPairs (prs l xs pos env)))) _ _ _
   exact aV (Constant_str (aV (iX (aV (gE h (λv s1 h=>aV (nX (aP (aV (iX (gE h (λkvs s2 h=>aP h) λ_ _ z=>z)))))) λ_ _ z=>z)))))) h
theorem F0(R:RR w p):bq w [] p ⟨{p.s with heap:=p.h.push {cls:=.type "dict",data:=.dict #[]},toks:=p.s.toks},p.pl++[p.h.objs.size],p.st++[.dict []]⟩:=.cell R λg=>⟨fD _,.inl ⟨2,[],Heap.DictOf.new _,.nil⟩⟩
theorem Rx:fK w fx (.Dict [] [] pos) (λ_=>M.bind (qb (.dict [])) λl=>M.bind (M.pure []) λxs=>M.bind (eK l) (kh l [] xs)):=λA env ρ p n=>by
 refine⟨λQ E k=>wpAny_Dict_empty ?_⟩;have e:(M.bind (qb (.dict [])) λl=>M.bind (M.pure []) λxs=>M.bind (eK l) (kh l [] xs)) p.st=.ok (.ref p.st.length) (p.st++[.dict []]):=by
  show(bX (p.st++[bw.dict []])[p.st.length]? (p.st++[bw.dict []])).bind (kh p.st.length [] [])=_;rw [Az (aW _),CO];show fH.ok (V.ref p.st.length) ((p.st++[bw.dict []]).set p.st.length (.dict []))=_;rw [LK _ _ (aW _),CO];rfl
 have k:Ok w (mE w) VR p (.ok (.ref p.st.length) (p.st++[.dict []])) Q E:=e▸k;exact k _ _ _ (F0 n.R) (.ref (sj n.R _))
theorem Xc(ok:∀x∈l,PyData.strOk (toS x.1)=true)(h0:l≠[])(h:iO (sA w T C fx) es vals)(hl:l.length=es.length)(hlen:l.length<=15):
  fK w fx (.Dict (l.map λx=>some (yt x)) vals pos) (λρ=>M.bind (qb (.dict [])) λj=>M.bind (qc T C es ρ) λxs=>M.bind (eK j) (kh j (l.map λx=>V.str x.1) xs)):=λA env ρ p n=>by
 have P0:=F0 n.R;have n0:=n.step P0;have hp:∀env,(prs l vals pos env).length=l.length:=λenv=>by
  unfold prs;rw [List.length_zip,cT,cT,List.rec (motive:=λvals=>(evalEach vals env).length=vals.length) rfl (λ_ _ ih=>au (·+1) ih) vals,←h.len,←hl,Nat.min_self]
 have key:=J.bind (R2:=VR) (T2:=λvs Q _ kK=>∃kvs,Carries (k8 w 3) vs kvs/\kK.heap.DictOf (k8 w 3) p.h.objs.size []/\∀h',h'.DictOf (k8 w 3) p.h.objs.size (merged [] kvs)->Heap.SameBut p.h.objs.size kK.heap h'->Q (.ref p.h.objs.size) {kK with heap:=h',toks:=kK.toks+vs.length}) (h.pOk ok hl pos A env ρ _ n0) λkvs xs p1 he P1 r=>by
  have hD:=P1.gr.toGk.at (sj n.R p.h.objs.size);refine J.eK P1.rr hD λc e1=>bw.casesOn (motive:=λc=>p1.st[p.st.length]?=some c->CR w p1.h p1.pl p.h.objs.size c->J w (mE w) VR _ (kh p.st.length (l.map λx=>V.str x.1) xs c) p1) c (λ_ _ _=>J.aJ) (λds e1 c1=>?_) (λ_ _ _=>J.aJ) (λ_ _=>J.aJ) e1;refine J.jF λhc=>?_;have low:=P1.rr.Jp e1 hD bw.noConfusion;obtain⟨kv,q1,q2,q3⟩:=r.Xb;rw [qz (ah hc).1]at c1;have q4:(kv.map (·.1)).Nodup:=by
   rw [q3,nK];exact bx (ah (ah (ah hc).2).2).2
  refine⟨λQ E k=>⟨kv,q1,g6.ji c1|>.yc,λh' hd hs=>?_⟩⟩
  rw [merged_nil_of_nodup kv q4]at hd;have q2:=(nK▸q2:);exact k _ _ p1.pl (.kJ P1.rr hD low hs λg=>⟨by
   rw [List.length_zip,cT];exact aH (AH ..) (aH hlen (by decide)),.inl ⟨3,kv,hd,q2.mono g.toGk .nil⟩⟩) (.ref hD)
 exact⟨λQ E k=>wpAny_Dict_pairs (pairs:=prs l vals pos env) (JM l env _) (λe=>h0 (List.length_eq_zero_iff.mp ((hp env).symm.trans (au List.length e)))) (by rw [hp];exact hlen) (key.aS Q E (Ok.yb P0 k))⟩
end
theorem BN(c:Addr)(vs:List Value):(Code.builtin "type.__call__" ⟨.ref c::vs,[]⟩).weight=1:=by kernel_rfl
theorem Ry(args:Args):(Code.builtin "type.__call__" args).cUnits=1:=by kernel_rfl
theorem Xd(args:Args):(Code.builtin "type.__call__" args).envs=[]:=by kernel_rfl
section
variable{K:Frag}{fx:Fx}
theorem kC(xs:List Expr):xs.all (λx=>!(mH x))=true->(backTo pos (starEach xs env)).all (λt=>! t.1)=true:=List.rec (λ_=>rfl) (λx xs ih h=>by
 rw [qn (ie (ah h).1)];exact ih (ah h).2) xs
theorem yu{l:List (Bool×Sem Value)}(h:l.all (λt=>! t.1)=true):l.any (·.1)=false:=List.any_eq_false.mpr λt ht q=>ff ((ie (pW h t ht)).symm.trans q)
theorem sC{M:Model}{E:Value->Shared->Prop}(hp:BO.all (λt=>! t.1)=true)
  (h:wpAny M A (spliced BO) (λvs s'=>Q ⟨vs,[]⟩ s') E s):wpAny M A (evalArgs f true BO []) Q E s:=by
 cases BO with
 |nil=>
  unfold evalArgs;exact aV (gE h (λvs s' h'=>iX (aV (aP (aV (aP (aP h')))))) λ_ _ x=>x)
 |cons t r=>
  obtain⟨b,x⟩:=t;cases b with
  |true=>exact ff (ah hp).1
  |false=>exact evalArgs_plain h
def Du(w:World)(f:Value)(P:Heap->Prop):Prop:=∀h,P h->∃k,(k=Keeper.frame\/k=Keeper.machine\/k=Keeper.boundFrame)/\Looks (model PW w) h (keeperOf f) k
theorem iP{f:Value}(hp:BO.all (λt=>! t.1)=true)(hk:Du w f P)(hP:∀p1,bq w [] p p1->P p1.h)
  (h1:J w (mE w) dH (wp w A (spliced BO)) ms p)(h2:∀vs xs p1,bq w [] p p1->dH p1.h p1.pl xs vs->J w (mE w) VR (wp w A (call f (first++vs) [])) (m xs) p1):J w (mE w) VR (wp w A (callWith pos f first BO [])) (M.bind ms m) p:=J.jS (λQ E h=>callWith_of (by rw [yu hp];rfl) hk (sC hp h)) (J.bind h1 λvs xs p1 _ P1 r=>⟨λQ E k=>⟨hP p1 P1,(h2 vs xs p1 P1 r).aS Q E k⟩⟩)
theorem sD(h:keepIn K (.ref a)=true):Du w (.ref a) K.In:=λhp X=>keeps_K h hp X
theorem SF.post(S:SF w T K gl)(p1:Pt)(P:bq w [] p p1):K.In p1.h:=S.Wc.keeps P.rr.base
theorem Xe(hn:[0,1,2,4,5].contains n=true):Du w (n8 n) λ_=>True:=λh _=>⟨.machine,.inr (.inl rfl),by
 have hn:=List.contains_iff_mem.mp hn;rcases fY hn with rfl|hn
 ·exact xO rfl
 rcases fY hn with rfl|hn
 ·exact xO rfl
 rcases fY hn with rfl|hn
 ·exact xO rfl
 rcases fY hn with rfl|hn
 ·exact xO rfl
 ·rw [dG hn];exact xO rfl⟩
theorem Dv{id:String}:Du w (.builtin id) λ_=>True:=λ_ _=>⟨.machine,.inr (.inl rfl),xO rfl⟩
theorem J.ofC(h:J w (mE w) VR (cd w A f ⟨vs,[]⟩) m p):J w (mE w) VR (wp w A (call f vs [])) m p:=J.jS (λQ E h=>wpAny_call h) h
theorem AS.tc(a:Z3 d A fs)(c:Addr)(vs:List Value):AS d (A.under (.builtin "type.__call__" ⟨.ref c::vs,[]⟩)) fs:=by
 refine⟨a.hh,?_,?_,?_⟩
 ·show A.depth+(Code.builtin "type.__call__" ⟨.ref c::vs,[]⟩).weight+2*d+3<1000
  rw [BN,qC A.depth,nH];exact a.depth
 ·show A.units+(Code.builtin "type.__call__" ⟨.ref c::vs,[]⟩).cUnits+20*d+90<9900
  rw [Ry,qC A.units,nH];exact di (cG (by decide) _) a.units
 ·show pushEnvs (Code.builtin "type.__call__" ⟨.ref c::vs,[]⟩).envs A.frames=_
  rw [Xd];exact a.frames
theorem yv(h:Heap)(o:Obj):(h.push o).objs.size=h.objs.size+1:=Heap.size_push ..
theorem BP(h:Heap)(o o':Obj)(f:Obj.isFreed o'=false):((h.push o).push o').get? (h.objs.size+1)=some o':=(yv h o)▸nF _ f
abbrev yw(p:Pt)(c:Addr):Pt:=⟨{p.s with heap:=(p.h.push emptyDict).push (instObj c p.h.objs.size),toks:=p.s.toks},p.pl++[p.h.objs.size],p.st++[.ns []]⟩
theorem bq.aj8(hc:c∈IU)(R:RR w p):bq w [] p (yw p c)/\VR (yw p c).h (yw p c).pl (.fE c p.st.length) (.ref (p.h.objs.size+1)):=by
 have g0:(p.h.push emptyDict).get? p.h.objs.size=some emptyDict:=nF _ rfl;have P1:bq w [] p ⟨{p.s with heap:=p.h.push emptyDict,toks:=p.s.toks},p.pl++[p.h.objs.size],p.st++[.ns []]⟩:=.cell R λg=>⟨λ_=>none,⟨_,#[],0,g0,rfl,λe he=>absurd he (Array.not_mem_empty _),λn=>rfl⟩,λn=>rfl,λo es ep ho hd=>by
  obtain rfl:=bV (g0.symm.trans ho);obtain⟨rfl,_⟩:=Data.dict.inj hd;exact aW _⟩
 have P2:bq w [] _ (yw p c):=.n9 P1.rr (instObj c p.h.objs.size) p.s.toks;exact⟨P1.trans P2,.fE hc (BP _ _ _ rfl) (yv p.h emptyDict▸P1.rr.iN) (sj R _)⟩
theorem bS(S:SF w T K gl)(hC:FY w fx.d C)(a:Z3 fx.d A fx.fs)(F:BJ p.h p.pl fx.fs)(R:RR w p)(r:dH p.h p.pl xs vs):J w (mE w) VR (cd w A (.ref c) ⟨vs,[]⟩) (k7 T C (.cls c) xs) p:=by
 show J w (mE w) VR _ ((T.init c).casesOn M.fail λi=>i.casesOn (if xs.isEmpty then M.bind (qb (.ns [])) λl=>M.pure (.fE c l)else M.fail) λi=>M.bind (qb (.ns [])) λl=>M.bind (C i (.fE c l::xs)) (nZ c l)) p;cases hi:T.init c with
 |none=>exact J.aJ
 |some o=>
  obtain⟨hc,hm,hi'⟩:=S.init c o hi;have X:=S.Wc.keeps R.base;have Y:=makes_of (M:=model PW w) X hm;obtain⟨P,rv⟩:=bq.aj8 hc R;cases o with
  |some i=>
   obtain⟨hf,ht⟩:=hi';have h:=hC i (.fE c p.st.length::xs) _ (yw p c) fx.fs (.ref (p.h.objs.size+1)::vs) (AS.tc a c vs) (F.mono P.gr) P.rr (.cons rv (r.c8 P.gr));have h':=J.bind (T2:=λb Q _ s'=>b=.none/\Q (.ref (p.h.objs.size+1)) s') (R2:=VR) (g:=nZ c p.st.length) h λb bv p2 _ P2 rb=>by
    unfold nZ;refine J.jF λht=>?_;have e:b=.none:=by
     revert rb ht;exact V.casesOn bv (λr _=>r.nU) (λ_ _=>tg rfl) (λ_ _=>tg rfl) (λ_ _=>tg rfl) (λ_ _=>tg rfl) (λ_ _=>tg rfl) (λ_ _ _=>tg rfl) (λ_ _=>tg rfl) (λ_ _ _=>tg rfl) (λ_ _=>tg rfl) (λ_ _=>tg rfl) (λ_ _=>tg rfl) (λ_ _=>tg rfl)
    exact⟨λQ E k=>⟨e,k _ _ _ (.refl P2.rr) (rv.c8 P2.gr)⟩⟩
   refine⟨λQ E k=>?_⟩;have key:=h'.aS Q E (Ok.yb P k);obtain⟨⟨hh,g,dd,t,os⟩,pl,st⟩:=p;refine make_core Y (looks_findIn X hf) (λself=>bind_fn X self ht) (.inl rfl) (codeAny_mono key λr s' z=>?_)
   match r,z with
   |.ok (.ret v),⟨e,z⟩=>exact⟨e,z⟩
   |.error e,z=>exact z
  |none=>
   refine J.jF λhe=>?_;obtain rfl:=qz he;obtain rfl:=r.Dl;refine⟨λQ E k=>?_⟩;have k:=k;have key:=k (.ref (p.h.objs.size+1)) (yw p c).s (yw p c).pl P rv;obtain⟨⟨hh,g,dd,t,os⟩,pl,st⟩:=p;have hx:((hh.push emptyDict).push (instObj c hh.objs.size)).get? (hh.objs.size+1)=some (instObj c hh.objs.size):=BP _ _ _ rfl;refine make_core Y (looks_findIn X hi') (λself=>xO (oi_bind self)) (.inr ⟨rfl,rfl⟩) ?_;have t1:Looks (model PW w) ((hh.push emptyDict).push (instObj c hh.objs.size)) (typeOf (.ref (hh.objs.size+1))) (.ref c):=(Looks.ld hx).andThen .now;have t2:Looks (model PW w) ((hh.push emptyDict).push (instObj c hh.objs.size)) (isInstance (.ref (hh.objs.size+1)) (.type "object")) true:=t1.andThen (Y.top.keeps λb o e=>tX _ (tX _ e));refine codeAny_call_builtin oi_plain entry_oi (@check_slot (model PW w) _ _ _ "object.__init__" "object" "__init__" (.ref (hh.objs.size+1)) [] [] _ oi_kind oi_split t2 (oi_args (.ref (hh.objs.size+1))) ?_);rw [oi_run];exact aP ⟨rfl,key⟩
end
theorem Ov:toS j9=("append":PySem.Str):=by decide+kernel
theorem Ow:toS kg=("extend":PySem.Str):=by decide+kernel
theorem Rz:toS nY=("pop":PySem.Str):=by decide+kernel
theorem ab0:toS vW=("get":PySem.Str):=by decide+kernel
noncomputable def Dw(v:V):Bool:=v.onF false FNL.contains IU.contains λn=>[0,1,2,4,5].contains n
theorem JN:Dw v=true->(∃a,v=.fn a/\a∈FNL)\/(∃a,v=.cls a/\a∈IU)\/∃n,v=.bi n/\[0,1,2,4,5].contains n=true:=V.casesOn v ff (λ_=>ff) (λ_=>ff) (λ_=>ff) (λ_=>ff) (λ_=>ff) (λ_ _=>ff) (λ_=>ff) (λ_ _=>ff) (λ_=>ff) (λa h=>.inl ⟨a,rfl,List.contains_iff_mem.mp h⟩) (λa h=>.inr (.inl ⟨a,rfl,List.contains_iff_mem.mp h⟩)) (λn h=>.inr (.inr ⟨n,rfl,h⟩))
theorem m8(h:(Dr y==20)=false):eval (.Call y xs [] pos) env=(do callWith pos (←eval y env) [] (backTo pos (starEach xs env)) []):=by
 cases y<;>first|rfl|exact ff h.symm
section
variable{K:Frag}
theorem Xf(S:SF w T K gl)(hC:FY w fx.d C)(hy:(Dr y==20)=false)(hv:Dw v=true)(hs:xs.all (λx=>!(mH x))=true)
  (h0:fK w fx y (λ_=>M.pure v))(h1:Dp w fx xs ms):fK w fx (.Call y xs [] pos) (λρ=>M.bind (M.pure v) λx=>M.bind (ms ρ) λvs=>k7 T C x vs):=λA env ρ p n=>by
 rw [m8 hy];refine J.jS (λQ E h=>aV h) (J.bind (h0 A env ρ p n) λa b p1 e P r=>?_);obtain rfl:v=b:=by injection e
 have n1:=n.step P;have hp:=kC (pos:=pos) (env:=env) xs hs;rcases JN hv with⟨c,rfl,hc⟩|⟨c,rfl,hc⟩|⟨k,rfl,hk⟩
 ·obtain rfl:a=.ref c:=r.nU
  exact iP hp (sD (S.keep c hc)) S.post (h1 pos A env ρ p1 n1) λvs xs p2 P2 r2=>J.ofC (hC c xs A p2 fx.fs vs n.vE.c (n1.step P2).S P2.rr r2)
 ·obtain rfl:a=.ref c:=r.nU
  exact iP hp (sD (S.Z5 c hc)) S.post (h1 pos A env ρ p1 n1) λvs xs p2 P2 r2=>J.ofC (bS S hC n.vE (n1.step P2).S P2.rr r2)
 ·obtain rfl:a=n8 k:=r.nU
  exact iP hp (Xe hk) (λ_ _=>bu) (h1 pos A env ρ p1 n1) λvs xs p2 P2 r2=>JB S.sd n.vE.hh P2.rr r2
theorem vY{E:Value->Shared->Prop}(RA:(qR.endLine==pos.line)=true)(hs:xs.all (λx=>!(mH x))=true)(hlen:xs.length<25)
  (h:∀pl:Sem Bool,wpAny (model PW w) A (getMethod ov name pl) (λp s1=>wpAny (model PW w) A (callWith pos p.1 p.2 (backTo pos (starEach xs env)) []) Q E s1) E s):
  wpAny (model PW w) A (methodCall o name qR pos env ov (xs.length+([]:List Keyword).length) (backTo pos (starEach xs env)) (backToKw pos (keywordEach [] env))) Q E s:=by
 have afE:methodCallForm (xs.length+([]:List Keyword).length) (backTo pos (starEach xs env)) (backToKw pos (keywordEach [] env))=true:=by
  unfold methodCallForm;rw [kC xs hs];exact dj (xK hlen (by decide))
 have cE:methodCallPos true o env qR pos=pure pos:=by unfold methodCallPos;rw [RA];rfl
 unfold methodCall;rw [afE];refine aV (iX (gE (h _) (λp s1 h1=>?_) λ_ _ z=>z));obtain⟨f,first⟩:=p;exact aV (wpAny_of_eq cE h1)
def Z7(T:iL)(K:Frag)(b:V)(a:Value)(n:Nm):qN (Value×List Value) Nat:=λ_ _ k f=>(f=(.builtin (oi k n),[a])/\∀(C:Nat->List V->M V)xs,gZ T C b n k xs=Fz T b n k xs)\/(f=(.ref k,[a])/\keepIn K (.ref k)=true/\∀(C:Nat->List V->M V)xs,gZ T C b n k xs=C k (b::xs))
theorem xg(S:nO T w)(R:RR w p)(r:VR p.h p.pl o u)(ho:∀(C:Nat->List V->M V)k xs,gZ T C o n k xs=Fz T o n k xs):J w md (Z7 T K o u n) (wp w A (getMethod u (toS n) pl)) (look T o (aeW n)) p:=J.BF S R r λct a b e c q=>by
 subst e;revert c q;refine Ct.casesOn ct (λ_ _=>ns) (λys c q=>?_) λes c q=>?_
 ·obtain⟨vs,m,e,_⟩:=c
  obtain⟨hn,rfl⟩:=cF q;have hd:∀a',Value.ref a=.ref a'->∃ob,p.h.get? a'=some ob/\ob.dict=none:=λa' q=>by injection q with q;subst q;exact⟨_,e,rfl⟩
  refine J.aR R (.inl ⟨rfl,λC=>ho C 1⟩) λQ E h=>?_;have hT:p.s.TypeIs (.ref a) "list":=⟨_,e,rfl⟩;rcases hn with rfl|rfl|rfl
  ·exact Ff hT F.plainAttrs_list (Ov▸F.slot_list_append) F.type_list_append hd h
  ·exact Ff hT F.plainAttrs_list (Ow▸F.slot_list_extend) F.type_list_extend hd h
  ·exact Ff hT F.plainAttrs_list (Rz▸F.slot_list_pop) F.type_list_pop hd h
 ·obtain⟨hn,rfl⟩:=cF q
  obtain⟨o',e,hx⟩:∃o',p.h.get? a=some o'/\o'.ExactDict:=c.2.2.elim (λ⟨_,_,⟨o,_,_,ho,hx,_⟩,_⟩=>⟨o,ho,hx⟩) λ⟨_,⟨o,_,_,ho,hx,_⟩,_⟩=>⟨o,ho,hx⟩;have hd:∀a',Value.ref a=.ref a'->∃ob,p.h.get? a'=some ob/\ob.dict=none:=λa' q=>by injection q with q;subst q;exact⟨_,e,hx.2.1⟩
  refine J.aR R (.inl ⟨rfl,λC=>ho C 2⟩) λQ E h=>?_;have hT:p.s.TypeIs (.ref a) "dict":=⟨_,e,hx.1⟩;rcases hn with rfl|rfl
  ·exact Ff hT F.plainAttrs_dict (ab0▸F.slot_dict_get) F.type_dict_get hd h
  ·exact Ff hT F.plainAttrs_dict (Rz▸F.slot_dict_pop) F.type_dict_pop hd h
theorem ab1(S:SF w T K gl)(R:RR w p)(r:VR p.h p.pl o u):J w md (Z7 T K o u n) (wp w A (getMethod u (toS n) pl)) (CX T o n) p:=by
 revert r;refine V.casesOn o (λ_=>J.aJ) (λ_ _=>J.aJ) (λ_ _=>J.aJ) (λ_ _=>J.aJ) (λ_ r=>xg S.sd R r λ_ _ _=>rfl) (λ_ r=>xg S.sd R r λ_ _ _=>rfl) (λc l r=>?_) (λ_ r=>xg S.sd R r λ_ _ _=>rfl) (λ_ _ _=>J.aJ) (λ_ r=>xg S.sd R r λ_ _ _=>rfl) (λ_ _=>J.aJ) (λ_ _=>J.aJ) (λ_ _=>J.aJ);refine J.attrs (m:=λl a=>bX ((T.bA c n).bind λf=>if(lk n a).isNone then some f else none)) R r λc' l' a d cR eo e hc ha hn hl low e1⟨m,Aw,q,_⟩=>J.nV λk ek=>?_;obtain rfl:c=c':=nJ (au V.tU eo);subst e;obtain⟨f,e2,e3⟩:=bind_some ek;obtain⟨e4,rfl⟩:=cF e3;obtain⟨q1,q2,q3⟩:=S.bA c hc n f e2;have q:=q n;rw [Option.isNone_iff_eq_none.mp e4]at q;have hm:=q;obtain⟨od,I,qq⟩:=Dn ha Aw;have cf:=S.cf c hc;exact J.aR R (.inr ⟨rfl,q3,λ_ _=>rfl⟩) λQ E h=>method_fn (S.Wc.keeps R.base) I cf.hga cf.hgt q1 q2 (by unfold shadowIn;dsimp only;rw [qq,hm];rfl) h
theorem Xg(S:SF w T K gl)(hC:FY w fx.d C)(hc:sr y=false)(RA:(qR.endLine==pos.line)=true)(hs:xs.all (λx=>!(mH x))=true)(hlen:xs.length<25)
  (h1:fK w fx y m1)(h2:Dp w fx xs ms):fK w fx (.Call (.Attribute y (toS n) qR) xs [] pos) (λρ=>M.bind (m1 ρ) λx=>M.bind (CX T x n) λk=>M.bind (ms ρ) λvs=>gZ T C x n k vs):=λA env ρ p nw=>by
 rw [arm_eval_Call,ja hc];have hp:=kC (pos:=pos) (env:=env) xs hs;refine J.jS (λQ E h=>aV h) (J.bind (h1 A env ρ p nw) λa b p1 _ P r=>?_);have n1:=nw.step P;have key:∀pl:Sem Bool,J w (mE w) VR (λQ E s=>wpAny (model PW w) A (getMethod a (toS n) pl) (λp s1=>wpAny (model PW w) A (callWith pos p.1 p.2 (backTo pos (starEach xs env)) []) Q E s1) E s) (M.bind (CX T b n) λk=>M.bind (ms ρ) λvs=>gZ T C b n k vs) p1:=λpl=>J.bind (ab1 S P.rr r) λf k p2 _ P2 hf=>by
   have n2:=n1.step P2;have r2:=r.c8 P2.gr;rcases hf with⟨rfl,q⟩|⟨rfl,q,e⟩
   ·exact iP hp Dv (λ_ _=>bu) (h2 pos A env ρ p2 n2) λvs xs p3 P3 r3=>q C xs▸Rq S.sd nw.vE.LW P3.rr (r2.c8 P3.gr) r3
   ·exact iP hp (sD q) S.post (h2 pos A env ρ p2 n2) λvs xs p3 P3 r3=>e C xs▸J.ofC (hC k (b::xs) A p3 fx.fs (a::vs) nw.vE.c (n2.step P3).S P3.rr (.cons (r2.c8 P3.gr) r3))
 exact⟨λQ E k=>aV (nX (vY RA hs hlen λpl=>(key pl).aS Q E k))⟩
end
def kD(I:Addr)(h h':Heap):Prop:=∀b o,b≠I->h.get? b=some o->h'.get? b=some o
theorem kD.gk(pl:List Addr)(x:kD I h h'):Gk [I] h pl h' pl:=⟨C1 h pl,λb o _ hb e=>⟨o,x b o (λq=>hb (List.mem_singleton.mpr q)) e,.refl o⟩⟩
def vZ(h:Heap)(I:Addr)(n:String)(vs:Array Value):Prop:=∃o,h.get? I=some o/\o.cls=.type n/\o.data=.fields vs
noncomputable def nI(lo hi:Int):Int:=((hi-lo).toNat:Int)
noncomputable def jV(w:World)(h:Heap)(pl:List Addr)(I:Addr)(xs:List V)(i:Nat)(v:V):Prop:=V.casesOn (motive_1:=λ_=>Prop) v
 (xs=[]/\i=0/\∃ax ep,h.IsKeyIter I ax 0 0 ep/\h.DictAt (intKind PW w) ax [] ep) (λ_=>False) (λ_=>False) (λ_=>False)
 (λys=>ys=xs/\∃ax vs n,qI h pl mz xs (.ref ax) ax vs n/\h.IsTupleIter I ax i) (λys=>ys=xs/\∃ax vs n,qI h pl nN xs (.ref ax) ax vs n/\h.IsListIter I ax i) (λ_ _=>False)
 (λl=>∃ax,pl[l]?=some ax/\h.IsListIter I ax i) (λlo hi=>xs=xU lo (hi-lo).toNat/\IsRangeIter h I (lo+i) (nI lo hi-i) 1) (λ_=>False) (λ_=>False) (λ_=>False) λ_=>False
noncomputable def afF(n:String):Bool:=!["enumerate","zip","dict_itemiterator","dict_reverseitemiterator","odict_iterator","itertools.zip_longest","itertools.pairwise"].contains n&&!(n=="range")
theorem jV.fE:jV w h pl I xs i v->∃n vs,vZ h I n vs/\afF n=true:=V.casesOn v (λ⟨_,_,_,_,z,_⟩=>⟨_,_,z,by decide⟩) (λ_=>False.elim) (λ_=>False.elim) (λ_=>False.elim) (λ_⟨_,_,_,_,_,z⟩=>⟨_,_,z,by decide⟩) (λ_⟨_,_,_,_,_,z⟩=>⟨_,_,z,by decide⟩)
  (λ_ _=>False.elim) (λ_⟨_,_,z⟩=>⟨_,_,z,by decide⟩) (λ_ _⟨_,z⟩=>⟨_,_,⟨_,z,rfl,rfl⟩,by decide⟩) (λ_=>False.elim) (λ_=>False.elim) (λ_=>False.elim) (λ_=>False.elim)
theorem vZ.BQ(x:vZ h I n vs)(k:afF n=true):∀o,h.get? I=some o->vX o=true:=λo e=>by
 obtain⟨o',h1,h2,h3⟩:=x;obtain rfl:=bV (h1.symm.trans e);unfold vX;rw [h3];exact bne_iff_ne.mpr (h2▸CZ (ie (ah k).2))
theorem vZ.nd(x:vZ h I n vs):∀o,h.get? I=some o->∀es m,o.data≠.dict es m:=λo e es m d=>by
 obtain⟨o',h1,h2,h3⟩:=x;obtain rfl:=bV (h1.symm.trans e);exact Data.noConfusion (h3.symm.trans d)
theorem vZ.keep(k:∀o,h.get? I=some o->(∀es m,o.data≠.dict es m)->h'.get? I=some o)(x:vZ h I n vs):vZ h' I n vs:=
 let⟨o,h1,h2,h3⟩:=x;⟨o,k o h1 (x.nd o h1),h2,h3⟩
theorem qI.mono(g:Gk W h pl h' cU)(hW:FD h W)(nw:¬vX (f vs n)=true)(nf:∀es m,(f vs n).data≠.dict es m)(x:qI h pl f xs u a vs n):qI h' cU f xs u a vs n:=⟨x.eq,g.dO hW x.out x.get nw nf,g.out x.get x.out,x.CY.mono g hW,x.qJ⟩
theorem jV.qM(hi:i≠0\/fy h h')(hI:I∉0::pl)(RB:I∉W)(g:Gk W h pl h' cU)(hW:FD h W):jV w h pl I xs i v->jV w h' cU I xs i v:=
 have k:=λo e n=>g.same hI RB e n
 V.casesOn v (λ⟨e1,e2,ax,ep,z,m⟩=>hi.elim (λq=>absurd e2 q) λq=>⟨e1,e2,ax,ep,vZ.keep k z,m.keep q⟩) (λ_=>False.elim) (λ_=>False.elim) (λ_=>False.elim)
  (λ_⟨e,ax,vs,n,c,z⟩=>⟨e,ax,vs,n,c.mono g hW rV qK,vZ.keep k z⟩) (λ_⟨e,ax,vs,n,c,z⟩=>⟨e,ax,vs,n,c.mono g hW wV C0,vZ.keep k z⟩)
  (λ_ _=>False.elim) (λ_⟨ax,e,z⟩=>⟨ax,g.at e,vZ.keep k z⟩) (λ_ _⟨e,z⟩=>⟨e,k _ z λ_ _=>Data.noConfusion⟩) (λ_=>False.elim) (λ_=>False.elim) (λ_=>False.elim) (λ_=>False.elim)
section
theorem jV.out(R:RR w p)(x:jV w p.h p.pl I xs i v):I∉0::p.pl:=by
 obtain⟨n,vs,z,k⟩:=x.fE;refine R.out (λo e⟨es,m,d⟩=>z.nd o e es m d) λvs' n' e=>?_;obtain⟨o',h1,h2,h3⟩:=z;obtain rfl:=bV (h1.symm.trans e);exact Data.noConfusion h3
abbrev ItR(w:World)(p:Pt):qN Value (V×List V):=λh pl b a=>a=.ref p.h.objs.size/\jV w h pl p.h.objs.size b.2 0 b.1
theorem yx(lo hi:Int):Builtin.Range.rangeSize lo hi 1=nI lo hi:=by
 unfold Builtin.Range.rangeSize nI;rw [az (show(1:Int)>0 by decide)]
 split<;>omega
theorem JO{lo hi:Int}(h:(vV lo&&vV hi)=true):Builtin.Range.small lo hi 1=true:=by
 obtain⟨h1,h2⟩:=ah h;obtain⟨a1,a2⟩:=ah h1;obtain⟨b1,b2⟩:=ah h2;have a1:=bx a1;have a2:=bx a2;have b1:=bx b1;have b2:=bx b2;have f:∀x:Int,-2^22<x->x<2^22->Builtin.Range.rangeFitsLong x=true:=λx h1 h2=>by
  unfold Builtin.Range.rangeFitsLong;exact dF (dj (by omega)) (dj (by omega))
 unfold Builtin.Range.small;rw [f lo (by omega) (by omega),f hi (by omega) (by omega),az (show(1:Int)>0 by decide),f (hi+(1-1)) (by omega) (by omega),yx]
 unfold nI;rw [f ((hi-lo).toNat:Int) (by omega) (by omega),Bool.or_true]
 rfl
theorem yy(R:RR w p):VR p.h p.pl v u->J w md (ItR w p) (wp w A (pyIter u)) (items v) p:=by
 refine V.casesOn v (λ_=>J.aJ) (λ_ _=>J.aJ) (λ_ _=>J.aJ) (λ_ _=>J.aJ) (λxs r=>?_) (λxs r=>?_) (λ_ _ _=>J.aJ) (λl r=>?_) (λlo hi r=>?_) (λ_ _=>J.aJ) (λ_ _=>J.aJ) (λ_ _=>J.aJ) (λ_ _=>J.aJ)
 ·obtain⟨a,vs,n,c⟩:=r.nU
  obtain rfl:=c.eq;exact J.of rfl λQ E h=>wpAny_pyIter_tuple ⟨_,c.get,rfl,n,rfl⟩ (h _ _ p.pl (.n9 R _ _) ⟨rfl,rfl,a,vs,n,c.mono (Gr.iM [] p.pl (dI _ _)).toGk .nil rV qK,_,nF _ rfl,rfl,rfl⟩)
 ·obtain⟨a,vs,n,c⟩:=r.nU
  obtain rfl:=c.eq;exact J.of rfl λQ E h=>wpAny_pyIter_list ⟨_,c.get,rfl,n,rfl⟩ (h _ _ p.pl (.n9 R _ _) ⟨rfl,rfl,a,vs,n,c.mono (Gr.iM [] p.pl (dI _ _)).toGk .nil wV C0,_,nF _ rfl,rfl,rfl⟩)
 ·refine J.cell R r (λl a c e hl hc=>?_) λ_=>rfl
  subst e;exact bw.casesOn c (λxs _⟨vs,n,ho,rs,hb⟩=>J.of rfl λQ E h=>wpAny_pyIter_list ⟨_,ho,rfl,n,rfl⟩ (h _ _ p.pl (.n9 R _ _) ⟨rfl,a,hl,_,nF _ rfl,rfl,rfl⟩))
   (λes e c=>by
    cases es with
    |cons _ _=>exact J.aJ
    |nil=>
     obtain⟨ep,hd⟩:=(g6.ji c).yc (knd:=intKind PW w)|>.dictAt
     exact J.of rfl λQ E h=>wpAny_pyIter_dict (iH (R.Jp e hl bw.noConfusion)) hd (h _ _ p.pl (.n9 R _ _) ⟨rfl,rfl,rfl,a,ep,⟨_,nF _ rfl,rfl,rfl⟩,hd.push _⟩)) (λ_ _ _=>J.aJ) (λ_ _=>J.aJ) hc
 ·obtain⟨a,t1,t2,t3,c⟩:=r.nU
  obtain rfl:=c.eq;exact J.of rfl λQ E h=>wpAny_pyIter_range c.get (JO c.ok) (h _ _ p.pl (.n9 R _ _) ⟨rfl,rfl,by
   rw [←yx,show lo+((0:Nat):Int)=lo from Int.add_zero _,show Builtin.Range.rangeSize lo hi 1-((0:Nat):Int)=Builtin.Range.rangeSize lo hi 1 from Int.sub_zero _];exact nF _ rfl⟩)
end
theorem stk{α:Type}{a:α}{P:Prop}(h:(fH.aJ:fH α)=.ok a s):P:=absurd (au (λo=>fH.casesOn (motive:=λ_=>Bool) o (λ_ _=>true) (λ_=>true) false) h) eH
section
variable{E:Value->Shared->Prop}{p:Pt}{i:Nat}
theorem RR.om(R:RR w p)(x:kD I p.h h')(hI:I∉0::p.pl)(jH:1066<=I)(hk:∀o,p.h.get? I=some o->vX o=true)(tk:Nat):RR w (p.at h' tk):=⟨λb o e=>x b o (λq=>by
  have:=ua e;rw [absHeap_size]at this;exact absurd this (Nat.not_lt.mpr (q▸jH))) (R.base b o e),R.len,R.nodup,R.low,R.jk,λl c a e1 e2=>(R.cells l c a e1 e2).mono R (x.gk _) (λb hb o e=>hk o (dG hb▸e)) λo e=>x a o (λq=>hI (cP _ (q▸pX e2))) e⟩
theorem kD.same(hs:Heap.SameBut I h h'):kD I h h':=λb o hb e=>(hs.2 b hb).trans e
theorem bq.RD(R:RR w p)(hI:I∉0::p.pl)(jH:1066<=I)(hk:∀o,p.h.get? I=some o->vX o=true/\∃o',h'.get? I=some o'/\FA o o')(hs:Heap.SameBut I p.h h'):bq w [I] p (p.at h' tk):=
 have x:=kD.same hs
 ⟨⟨_,_,rfl⟩,⟨x.gk _,λb o hb e=>by
  by_cases q:b=I
  ·subst q
   exact(hk o e).2
  ·exact⟨o,x b o q e,(rW.refl o).w⟩⟩,R.om x hI jH (λo e=>(hk o e).1) tk⟩
theorem F4(x:jV w p.h p.pl I xs i v)(h:Q () p.s):wp w A (letOwnedTupleGo target (.ref I) u) Q E p.s:=by
 obtain⟨n,vs,⟨o,h1,h2,h3⟩,k⟩:=x.fE;have go:∀es ps,wp w A (letOwnedTupleGo (.List es ps) (.ref I) u) Q E p.s:=λes ps=>by
  cases u<;>first
   |exact aP h
   |(refine aV (wpAny_load h1 ?_)
     rw [h2,h3];dsimp only;rw [ie (ah k).1];exact aP h)
 cases target<;>first
  |exact aP h
  |exact go [] pos
theorem xh(c:qI p.h p.pl f xs (.ref a) a vs n):(xs[i]?=none->vs.toArray[i]?=none)/\∀y,xs[i]?=some y->∃u,vs.toArray[i]?=some u/\VR p.h p.pl y u:=⟨λe=>by
  rw [I4];exact List.getElem?_eq_none_iff.mpr (c.CY.length▸List.getElem?_eq_none_iff.mp e),λy e=>let⟨u,e,r⟩:=c.CY.get e;⟨u,(I4 ..).trans e,r⟩⟩
theorem RE(n:Nat):∀(lo:Int)(i:Nat),(xU lo n)[i]?=if i<n then some (.int (lo+i))else none:=Nat.rec (λ_ i=>(ay (Nat.not_lt_zero i)).symm) (λn ih lo i=>Nat.casesOn i ((az (Nat.zero_lt_succ n)).trans (au (some∘V.int) (Int.add_zero lo))).symm λi=>by
  refine(ih (lo+1) i).trans ?_;by_cases h:i<n
  ·rw [az h,az (Nat.succ_lt_succ h),Int.add_assoc,Int.add_comm 1];rfl
  ·rw [ay h,ay λq=>h (Nat.lt_of_succ_lt_succ q)]) n
structure Nx(w:World)(p:Pt)(I:Addr)(xs:List V)(i:Nat)(v:V)(Q:Option Value->Shared->Prop):Prop where
 item:∀y u h' tk,xs[i]?=some y->VR p.h p.pl y u->jV w h' p.pl I xs (i+1) v->Heap.SameBut I p.h h'->Q (some u) {p.s with heap:=h',toks:=tk}
 gV:∀h',xs[i]?=none->kD I p.h h'->Q none {p.s with heap:=h'}
theorem Mf{Q:Option Value->Shared->Prop}(hh:A.handled=none)(R:RR w p)(hs:dO v xs p.st=.ok () p.st):jV w p.h p.pl I xs i v->Nx w p I xs i v Q->wp w A (pyNext (.ref I)) Q E p.s:=λx N=>by
 have aol:=x.out R;obtain⟨n,us,z,k⟩:=x.fE;have hwk:FD p.h [I]:=λb hb o e=>z.BQ k o (dG hb▸e);have ne:∀{a:Addr}{o:Obj}{ws:Array Value}{m:Nat},p.h.get? a=some o->o.data=.seq ws m->a≠I:=λe d q=>by
  obtain⟨o',h1,h2,h3⟩:=z;obtain rfl:=bV (h1.symm.trans (q▸e));exact Data.noConfusion (h3.symm.trans d)
 clear z k;revert x N hs;refine V.casesOn v (λ_⟨e1,e2,ax,ep,z,m⟩N=>?_) (λ_ _=>False.elim) (λ_ _=>False.elim) (λ_ _=>False.elim) (λys _⟨e,ax,vs,n,c,z⟩N=>?_) (λys _⟨e,ax,vs,n,c,z⟩N=>?_) (λ_ _ _=>False.elim) (λl hs⟨ax,hl,z⟩N=>?_) (λlo hi _⟨e,z⟩N=>?_) (λ_ _=>False.elim) (λ_ _=>False.elim) (λ_ _=>False.elim) (λ_ _=>False.elim)
 ·subst e1 e2
  exact wpAny_pyNext_dict_end hh z m rfl λh' he=>N.gV h' rfl λb o q e=>he b o q e
 ·cases hx:xs[i]? with
  |some y=>
   obtain⟨u,hu,ru⟩:=(xh c).2 y hx;exact wpAny_pyNext_tuple_item z ⟨_,c.get,rfl,n,rfl⟩ hu λh' z' E4=>N.item y u h' _ hx ru ⟨e,ax,vs,n,c.mono ((kD.same E4).gk _) hwk rV qK,z'⟩ E4
  |none=>exact wpAny_pyNext_tuple_end hh z ⟨_,c.get,rfl,n,rfl⟩ ((xh c).1 hx) λh' he=>N.gV h' hx λb o q e=>he b o q e
 ·cases hx:xs[i]? with
  |some y=>
   obtain⟨u,hu,ru⟩:=(xh c).2 y hx;exact wpAny_pyNext_list_item z ⟨_,c.get,rfl,n,rfl⟩ hu λh' z' E4=>N.item y u h' _ hx ru ⟨e,ax,vs,n,c.mono ((kD.same E4).gk _) hwk wV C0,z'⟩ E4
  |none=>exact wpAny_pyNext_list_end hh z ⟨_,c.get,rfl,n,rfl⟩ ((xh c).1 hx) λh' he=>N.gV h' hx λb o q e=>he b o q e
 ·have hs:((bX p.st[l]? p.st).bind λc=>c.on M.fail (λys=>if xs=ys then M.pure ()else M.fail) (λ_=>M.fail) λ_=>M.fail)=.ok () p.st:=hs
  cases e:p.st[l]? with
  |none=>rw [e]at hs;exact stk hs
  |some c=>
   rw [e]at hs;have cr:=R.cells l c ax e hl;revert hs cr;refine bw.casesOn c (λys hs⟨vs,n,ho,rs,hb⟩=>?_) (λ_=>stk) (λ_=>stk) stk;by_cases hxy:xs=ys
   ·subst hxy
    cases hx:xs[i]? with
    |some y=>
     obtain⟨u,hu,ru⟩:=rs.get hx;exact wpAny_pyNext_list_item z ⟨_,ho,rfl,n,rfl⟩ ((I4 ..).trans hu) λh' z' E4=>N.item y u h' _ hx ru ⟨ax,hl,z'⟩ E4
    |none=>exact wpAny_pyNext_list_end hh z ⟨_,ho,rfl,n,rfl⟩ ((I4 ..).trans (List.getElem?_eq_none_iff.mpr (rs.length▸List.getElem?_eq_none_iff.mp hx))) λh' he=>N.gV h' hx λb o q e=>he b o q e
   ·have hs:(if xs=ys then M.pure ()else M.fail:M Unit) p.st=.ok () p.st:=hs
    rw [ay hxy]at hs;exact stk hs
 ·subst e
  have g:=RE (hi-lo).toNat lo i;by_cases AP:i<(hi-lo).toNat
  ·rw [az AP]at g
   exact wpAny_pyNext_range_item z (Int.sub_pos_of_lt (Int.ofNat_lt.mpr AP)) λh' z' E4=>N.item _ _ h' _ g .int ⟨rfl,by
    rw [show lo+((i+1:Nat):Int)=lo+(i:Int)+1 from(Int.add_assoc lo i 1).symm,show nI lo hi-((i+1:Nat):Int)=nI lo hi-(i:Int)-1 from(Int.sub_sub (nI lo hi) i 1).symm];exact z'⟩ E4
  ·rw [ay AP]at g
   exact wpAny_pyNext_range_end hh z (Int.sub_nonpos_of_le (Int.ofNat_le.mpr (Nat.not_lt.mp AP))) λh' he=>N.gV h' g λb o q e=>he b o q e
end
structure iz(sl:aF):Prop where
 fst:∀x i j,(x,i)∈sl->(x,j)∈sl->i=j
 snd:∀x y i,(x,i)∈sl->(y,i)∈sl->x=y
section
theorem i9.put{u:Value}(r:VR h' cU x u):i9 h' cU (wr ρ i x) i (some u):=λv e=>by
 have hl:=(rO e).1;unfold wr at e hl;rw [AA (Fb▸hl)]at e;exact⟨u,rfl,bV (bV e)▸r⟩
theorem i9.om{o:Option Value}(n:i≠j)(r:i9 h' cU ρ j o):i9 h' cU (wr ρ i x) j o:=λv e=>r v ((qB n).symm.trans e)
end
def WrN(env:PySem.Env)(W:List Addr)(x:PySem.Str):Prop:=(env.kindOf x=some .local/\env.locals∈W)\/(env.kindOf x=some .cell/\∀c,env.cells.lookup x=some c->c∈W)
abbrev JP(env:PySem.Env)(sl:aF):qN Unit aQ:=λh pl ρ _=>FR h pl env sl ρ
section
theorem J.post{α β:Type}{R1:qN α β}{T:LU α}{m:M β}{b:β}(R:RR w p)(e:m p.st=.ok b p.st)(h:∀Q E,(∀a h' tk,bq w md.W p (p.at h' tk)->R1 h' p.pl b a->Q a {p.s with heap:=h',toks:=tk})->T Q E p.s):J w md R1 T m p:=J.of e λQ E k=>h Q E λa h' tk P r=>k a _ p.pl P r
theorem Ox{name:PySem.Str}{i:Nat}{x:V}{u:Value}(F:FR p.h p.pl env sl ρ)(R:RR w p)(r:VR p.h p.pl x u)(hx:(name,i)∈sl)(ho:iz sl)(hk:WrN env md.W name):J w md (JP env sl) (wp w A (storeName env name u)) (M.pure (wr ρ i x)) p:=by
 obtain⟨m,hm,hv⟩:=F.ns;have dif:∀{y j},(y,j)∈sl->y≠name->i≠j:=λhy n q=>n (ho.snd _ _ _ hy (q▸hx));rcases hk with⟨hk,hW⟩|⟨hk,hW⟩
 ·refine J.post R rfl λQ E k=>wpAny_storeName_local hk hm (λh' hn hs=>?_) (by rw [F.kind];rfl)
  obtain⟨o,es,ep,We,hd1,_⟩:=id hm;obtain⟨o',es',ep',qS,hd2,_⟩:=id hn;have hw:∀o,p.h.get? env.locals=some o->vX o=true/\∃o',h'.get? env.locals=some o'/\FA o o':=λo2 e=>by
   obtain rfl:=bV (We.symm.trans e);exact⟨by unfold vX;rw [hd1],o',qS,λ_=>⟨_,_,hd2⟩⟩
  have P:=bq.RD (tk:=p.s.toks+1) R F.Z2 F.JH hw hs;have g:Gk [env.locals] p.h p.pl h' p.pl:=P.gr.toGk;have hW0:FD p.h [env.locals]:=λb hb o e=>(hw o (dG hb▸e)).1;have cg:∀{c o},qm p.h p.pl env.locals c o->qm h' p.pl env.locals c o:=λr=>r.qM g λq=>r.1.2.2 (dG q);refine k () h' _ (P.mono λa ha=>dG ha▸hW) ⟨F.kind,F.JG,F.blt,F.Z2,F.JH,⟨_,hn,λy j hy Mg=>?_⟩,λy j hy Mg=>?_,F.apart,λq hq=>let⟨o,r⟩:=F.ok q hq;⟨o,cg r⟩⟩
  ·by_cases e:y=name
   ·subst e
    rw [az rfl,ho.fst _ _ _ hy hx];exact .put (r.mono g hW0)
   ·rw [ay e]
    exact((hv y j hy Mg).mono g hW0).om (dif hy e)
  ·obtain⟨k',c,o,e,cr,q⟩:=F.cell y j hy Mg
   exact⟨k',c,o,e,cg cr,(q.mono g hW0).om (dif hy λe=>Mg (e▸hk))⟩
 ·have hnl:env.kindOf name≠some .local:=λq=>NameKind.noConfusion (bV (hk.symm.trans q))
  obtain⟨_,c,o3,e1,e2,e3⟩:=F.cell name i hx hnl;refine J.post R rfl λQ E k=>wpAny_storeName_cell F.kind hk e1 e2.2 λh' hc hs=>?_;obtain⟨⟨c1,c2,c3⟩,o,We,hd1⟩:=e2;obtain⟨o',qS,hd2⟩:=id hc;have hw:∀o,p.h.get? c=some o->vX o=true/\∃o',h'.get? c=some o'/\FA o o':=λo2 e=>by
   obtain rfl:=bV (We.symm.trans e);exact⟨by unfold vX;rw [hd1],o',qS,λ⟨_,_,q⟩=>Data.noConfusion (hd1.symm.trans q)⟩
  have P:=bq.RD (tk:=p.s.toks) R c1 c2 hw hs;have g:Gk [c] p.h p.pl h' p.pl:=P.gr.toGk;have hW0:FD p.h [c]:=λb hb o e=>(hw o (dG hb▸e)).1;refine k () h' _ (P.mono λa ha=>dG ha▸hW c e1) ⟨F.kind,F.JG,F.blt,F.Z2,F.JH,⟨m,hm.sameBut hs (λq=>c3 q.symm),λy j hy Mg=>((hv y j hy Mg).mono g hW0).om (dif hy λe=>hnl (e▸Mg))⟩,λy j hy Mg=>?_,F.apart,λq hq=>?_⟩
  ·obtain⟨k',c',o4,f1,f2,f3⟩:=F.cell y j hy Mg
   by_cases hyn:y=name
   ·subst hyn
    rw [ho.fst _ _ _ hy hx];exact⟨k',c,some u,e1,⟨⟨c1,c2,c3⟩,hc⟩,.put (r.mono g hW0)⟩
   ·exact⟨k',c',o4,f1,f2.qM g λq=>hyn (F.apart y name c (dG q▸f1) e1),(f3.mono g hW0).om (dif hy hyn)⟩
  ·obtain⟨o,r⟩:=F.ok q hq
   by_cases hpc:q.2=c
   ·exact⟨some u,r.1,hpc▸hc⟩
   ·exact⟨o,r.qM g λq=>hpc (dG q)⟩
theorem yz(F:FR p.h p.pl env sl ρ)(R:RR w p)(r:VR p.h p.pl x u)(hx:(name,i)∈sl)(ho:iz sl)(hk:WrN env md.W name):J w md (JP env sl) (wp w A (bindName env name u)) (M.pure (wr ρ i x)) p:=J.jS (λQ E h=>by
  unfold bindName;exact aV (iX (wpAny_point (aV (gE h (λ_ _ h=>wpAny_point h) λ_ _ z=>z))))) (Ox F R r hx ho hk)
end
def m9(env:PySem.Env):List Addr:=env.locals::env.cells.map (·.2)
abbrev JQ:=(PySem.Str×Nat)×Pos
noncomputable def uA(q:JQ):Expr:=.Name q.1.1 q.2
noncomputable def ixs(l:List JQ):List Nat:=l.map λq=>q.1.2
noncomputable def Dy(l:List JQ):List Expr:=l.map uA
inductive jj:Tg->Expr->aF->Prop
 |aR (q:JQ):jj (.aR q.1.2) (uA q) [q.1]
 |nM (l:List JQ) (k:Nat) (p:Pos):(ixs l).Nodup->jj (.nM (ixs l)) (.Tuple (Dy l) k p) (l.map (·.1))
theorem FR.BQ(F:FR h pl env sl ρ):FD h (m9 env):=λb hb o e=>by
 rcases fY hb with q|q
 ·subst q
  obtain⟨m,⟨o',es,ep,h1,h2,_⟩,_⟩:=F.ns;obtain rfl:=bV (h1.symm.trans e);unfold vX;rw [h2]
 ·obtain⟨p,hp,rfl⟩:=List.mem_map.mp q
  obtain⟨_,_,o',h1,h2⟩:=F.ok p hp;obtain rfl:=bV (h1.symm.trans e);unfold vX;rw [h2]
structure Qp(env:PySem.Env)(sl:aF)(W:List Addr)(tg:aF):Prop where
 so:iz sl
 aE:∀a∈W,a∈m9 env
 ok:∀q∈tg,q∈sl/\WrN env W q.1
section
variable{sl tg:aF}
theorem Dz(l:List JQ):∀{p:Pt}{vs:List V}{us:List Value}{ρ:aQ},Qp env sl md.W (l.map (·.1))->FR p.h p.pl env sl ρ->RR w p->dH p.h p.pl vs us->J w md (JP env sl) (wp w A (assignInOrder ((assignEach (Dy l) env).map (·.2)) us)) (bX (V7 ρ (ixs l) vs)) p:=List.rec (motive:=λl=>∀{p:Pt}{vs:List V}{us:List Value}{ρ:aQ},Qp env sl md.W (l.map (·.1))->FR p.h p.pl env sl ρ->RR w p->dH p.h p.pl vs us->J w md (JP env sl) (wp w A (assignInOrder ((assignEach (Dy l) env).map (·.2)) us)) (bX (V7 ρ (ixs l) vs)) p)
  (λ{p vs us ρ}_ F R r=>by
   cases r with
   |nil=>exact J.aR R F λQ E h=>aP h
   |cons _ _=>exact J.aJ)
  (λq l ih{p vs us ρ}t F R r=>by
   cases r with
   |nil=>exact J.aJ
   |@cons v u vs us rv r=>
    have k:=t.ok q.1 cC;exact J.congr rfl (J.jS (λQ E h=>by
     exact aV (iX (aV (nX h)))) (J.bind (yz F R rv k.1 t.so k.2) λa fJ p1 _ P F1=>ih ⟨t.so,t.aE,λy hy=>t.ok y (cP _ hy)⟩ F1 P.rr (r.mono P.gr.toGk λb hb=>F.BQ b (t.aE b hb))))) l
theorem RG(l:List JQ):(assignEach (Dy l) env).length=(ixs l).length:=List.rec rfl (λ_ _ ih=>au (·+1) ih) l
theorem Oz(l:List JQ):(assignEach (Dy l) env).findIdx? (·.1)=none:=List.rec rfl (λ_ l ih=>by
 show List.findIdx? _ ((false,_)::assignEach (Dy l) env)=none;rw [List.findIdx?_cons,ih];rfl) l
theorem Xh(is:List Nat):∀{vs:List V}{ρ fJ:aQ},V7 ρ is vs=some fJ->is.length=vs.length:=List.rec (motive:=λis=>∀{vs:List V}{ρ fJ:aQ},V7 ρ is vs=some fJ->is.length=vs.length)
 (λ{vs _ _}h=>(au List.length (qz (cF h).1)).symm) (λi is ih{vs ρ fJ}=>List.casesOn vs ns λv vs h=>au (·+1) (ih h)) is
theorem Xi{x:V}:x.Fq=some l->x=.aC l:=V.casesOn x ns (λ_=>ns) (λ_=>ns) (λ_=>ns) (λ_ e=>au V.aC (bV e)) (λ_=>ns) (λ_ _=>ns) (λ_=>ns) (λ_ _=>ns) (λ_=>ns) (λ_=>ns) (λ_=>ns) (λ_=>ns)
theorem iA(h:jj t tx tg):∀{x:V}{u:Value},A.handled=none->Qp env sl md.W tg->FR p.h p.pl env sl ρ->RR w p->VR p.h p.pl x u->J w md (JP env sl) (wp w A (assign tx env u)) (bX (qE ρ t x)) p:=jj.casesOn (motive:=λt tx tg _=>∀{x:V}{u:Value},A.handled=none->Qp env sl md.W tg->FR p.h p.pl env sl ρ->RR w p->VR p.h p.pl x u->J w md (JP env sl) (wp w A (assign tx env u)) (bX (qE ρ t x)) p) h
  (λq{x u}hh t F R r=>J.jS (λQ E h=>aV (nX h)) (yz F R r (t.ok q.1 cC).1 t.so (t.ok q.1 cC).2))
  λl k ps _{x u}hh t F R r=>by
   refine J.nV λfJ e=>?_;obtain⟨vs,e1,e2⟩:=bind_some e;obtain rfl:=Xi e1;obtain⟨a,us,n,c⟩:=r.nU;obtain rfl:=c.eq;have P0:∀h0,Heap.ExtBut p.h.objs.size p.h h0->bq w [] p (p.at h0 p.s.toks):=λh0 hx=>.push R _ _ λb o q=>hx b o (t8 (ua q)) q;have go:∀h0,Heap.ExtBut p.h.objs.size p.h h0->J w md (JP env sl) (wp w A (assignInOrder ((assignEach (Dy l) env).map (·.2)) us)) (M.pure fJ) (p.at h0 p.s.toks):=λh0 hx=>J.congr (by rw [e2];rfl) (Dz l t (F.mono (P0 h0 hx).gr) (P0 h0 hx).rr (c.CY.c8 (P0 h0 hx).gr))
   exact⟨λQ E kk=>wpAny_assign_Tuple hh ⟨_,c.get,rfl,n,rfl⟩ (by rw [RG,Xh _ e2,I6,←c.CY.length]) (Oz l) λh0 hx=>(go h0 hx).aS Q E (Ok.yb (P0 h0 hx).any kk)⟩
end
def OA(h0 h:Heap)(pl:List Addr)(a:Addr):Prop:=(∃oe vs,h.get? a=some oe/\oe.cls=.ref 80/\oe.data=.fields vs/\vs[1]?=some .none)/\(a∉0::pl/\1066<=a)/\h0.get? a=none
def XS(w:World)(W:List Addr)(e:Value)(p p':Pt):Prop:=∃a,e=.ref a/\bq w W p p'/\(iI p.h p'.h p'.pl a\/OA p.h p'.h p'.pl a)
theorem OA.Oq(g:Gr W h1 p1 h2 p2)(g2:Gr W' h2 p2 h3 p3)(t:OA h2 h3 p3 a):OA h1 h3 p3 a:=⟨t.1,t.2.1,g.Oo g2 t.2.1.1 t.2.2⟩
def mS(w:World)(W:List Addr):Md w:=⟨W,XS w W,λ_ _ _ _ P⟨a,h1,h2,h3⟩=>⟨a,h1,P.trans h2,h3.imp (λt=>t.Oq P.gr h2.gr) λt=>t.Oq P.gr h2.gr⟩⟩
section
variable{α β:Type}
theorem J.wk(hW:∀a∈md.W,a∈md'.W)(hX:∀e p1,md.X e p p1->md'.X e p p1)(h:J w md R1 T m p):J w md' R1 T m p:=⟨λQ E k=>h.aS Q E (by
 revert k;exact fH.casesOn (m p.st) (λ_ _ k a s' cU P r=>k a s' cU (P.mono hW) r) (λ_ k e s' cU x=>k e s' cU (hX _ _ x)) id)⟩
theorem XS.up:XL w [] e p p1->XS w W e p p1:=λ⟨a,h1,h2,h3⟩=>⟨a,h1,h2.any,.inl h3⟩
theorem J.up(h:J w (mE w) R1 T m p):J w (mS w W) R1 T m p:=J.wk (λ_=>bg) (λ_ _=>XS.up) h
theorem J.BS{γ δ:Type}{R2:qN γ δ}{T2:α->LU γ}{g:β->M δ}(h1:J w (mE w) R1 T m p)(h2:∀a b p1,m p.st=.ok b p1.st->bq w [] p p1->R1 p1.h p1.pl b a->J w (mS w W) R2 (T2 a) (g b) p1):
  J w (mS w W) R2 (λQ E s=>T (λa s1=>T2 a Q E s1) E s) (M.bind m g) p:=⟨λQ E k=>h1.aS _ E (fH.casesOn (motive:=λo=>o=m p.st->Ok w (mS w W) R2 p (o.bind g) Q E->Ok w (mE w) R1 p o (λa s1=>T2 a Q E s1) E) (m p.st)
 (λb Av e k a s' cU P r=>(h2 a b ⟨s',cU,Av⟩ e.symm P r).aS Q E (k.yb P.any)) (λst' _ k e s' cU x=>k e s' cU (XS.up x)) (λ_ k=>k) rfl k)⟩
noncomputable def mN(w:World)(W:List Addr):Md w:=⟨W,λ_ _ _=>False,λ_ _ _ _ _ x=>x⟩
theorem J.c7(hW:∀a∈md.W,a∈W)(h:J w md R1 T m p):J w (mN w W) R1 T (c7 m) p:=⟨λQ E k=>h.aS Q E (by
 revert k;unfold Mine.c7;exact fH.casesOn (m p.st) (λ_ _ k a s' cU P r=>k a s' cU (P.mono hW) r) (λ_=>False.elim) id)⟩
end
noncomputable def BU(sl:aF)(env:PySem.Env):qN Flow Fl:=λh pl f' f=>Fl.casesOn (motive:=λ_=>Prop) f' (λρ=>f=.next/\FR h pl env sl ρ) λv=>∃u,f=.ret u/\VR h pl v u
abbrev SJ(w:World)(fx:Fx)(md:PySem.Env->Md w)(t:PySem.Env->Sem Flow)(m:aQ->M Fl):Prop:=∀A env ρ p,sq w fx A env ρ p->J w (md env) (BU fx.cx.sl env) (wp w A (t env)) (m ρ) p
def gu(w:World)(fx:Fx)(x:Stmt)(m:aQ->M Fl):Prop:=SJ w fx (λenv=>mS w (m9 env)) (exec x) m
def AU(w:World)(fx:Fx)(xs:List Stmt)(m:aQ->M Fl):Prop:=SJ w fx (λenv=>mS w (m9 env)) (execs xs) m
section
variable{fx:Fx}
theorem sq.kJ(n:sq w fx A env ρ p)(P:bq w W p p1)(F:FR p1.h p1.pl env fx.cx.sl fJ):sq w fx A env fJ p1:=⟨n.vE,n.hd,n.sc,F,n.S.mono P.gr,P.rr⟩
theorem gu.of(h:SJ w fx (λ_=>mE w) (exec x) m):gu w fx x m:=λA env ρ p n=>(h A env ρ p n).up
theorem sq.next(n:sq w fx A env ρ p):J w md (BU fx.cx.sl env) (λQ _ s=>Q Flow.next s) (M.pure (.next ρ)) p:=J.ret n.R ⟨rfl,n.F⟩
theorem ab5:AU w fx [] (λρ=>M.pure (.next ρ)):=λ_ _ _ _ n=>J.jS (λQ E h=>aP h) n.next
theorem J.fl{T2:Flow->LU Flow}(r:BU fx.cx.sl env p1.h p1.pl f' f)(h1:∀fJ,FR p1.h p1.pl env fx.cx.sl fJ->J w md R1 (T2 .next) (k fJ) p1)(h2:∀v u,VR p1.h p1.pl v u->J w md R1 (T2 (.ret u)) (M.pure (.ret v)) p1):J w md R1 (T2 f) (Au k f') p1:=by
 revert r;exact Fl.casesOn f' (λfJ⟨e,F⟩=>e▸h1 fJ F) λv⟨u,e,r⟩=>e▸h2 v u r
theorem Xj(h1:gu w fx x m)(h2:AU w fx xs ms):AU w fx (x::xs) (λρ=>M.bind (m ρ) (Au ms)):=λA env ρ p n=>J.jS (λQ E h=>aV h) (J.bind (T2:=λf=>wp w A (match f with|.next=>execs xs env|f=>pure f)) (h1 A env ρ p n) λf f' p1 _ P r=>J.fl (T2:=λf=>wp w A (match f with|.next=>execs xs env|f=>pure f)) r (λfJ F=>h2 A env fJ p1 (n.kJ P F)) λv u r=>J.aR P.rr ⟨u,rfl,r⟩ λQ E h=>aP h)
noncomputable def kL(x:Expr):Bool:=Nat.ble 8 (Dr x)&&Nat.ble (Dr x) 10
theorem qU:kL x=false->swapsWith x t line env=pure false:=Expr.casesOn x (λ_ _ _ _=>rfl) (λ_ _ _ _=>rfl) (λ_ _ _ _ _=>rfl) (λ_ _ _ _=>rfl) (λ_ _ _ _ _=>rfl) (λ_ _ _ _ _=>rfl) (λ_ _ _ _=>rfl) (λ_ _ _ _=>rfl) (λ_ _ _ _ h=>ff h.symm) (λ_ _ _ _ h=>ff h.symm) (λ_ _ _ _ _ h=>ff h.symm) (λ_ _ _ _ _=>rfl) (λ_ _ _=>rfl) (λ_ _ _=>rfl) (λ_ _ _=>rfl) (λ_ _ _ _ _=>rfl) (λ_ _ _ _ _=>rfl) (λ_ _ _ _ _=>rfl) (λ_ _ _=>rfl) (λ_ _ _ _=>rfl) (λ_ _ _ _=>rfl) (λ_ _ _ _=>rfl) (λ_ _ _=>rfl) (λ_ _ _=>rfl) (λ_ _ _=>rfl) (λ_ _ _ _=>rfl) (λ_ _ _ _ _=>rfl)
theorem ab6(hc:kL e=false)(hi:fx.cx.sc.kind=.function)(h:fK w fx e m):gu w fx (.Expr e pos) (λρ=>M.bind (m ρ) λ_=>M.pure (.next ρ)):=.of λA env ρ p n=>J.jS (λQ E h=>wpAny_Expr_any h (by unfold interactive;rw [n.sc,hi];rfl) (qU hc)) (J.bind (h A env ρ p n) λa b p1 _ P r=>(n.step P).next)
theorem ab7(h:fK w fx e m):gu w fx (.Return (some e) pos) (λρ=>M.bind (m ρ) λv=>M.pure (.ret v)):=.of λA env ρ p n=>J.jS (λQ E h=>wpAny_Return_some h) (J.bind (h A env ρ p n) λa b p1 _ P r=>J.ret P.rr ⟨a,rfl,r⟩)
theorem Xk:gu w fx (.Return none pos) (λ_=>M.pure (.ret .none)):=.of λA env ρ p n=>J.aR n.R ⟨_,rfl,VR.none⟩ λQ E h=>wpAny_Return_none h
theorem ab8{t:Expr}{m0:aQ->M Bool}(h0:JL w fx t m0)(h1:AU w fx a m1)(h2:AU w fx b m2):gu w fx (.If t a b pos) (λρ=>M.bind (m0 ρ) λc=>if c then m1 ρ else m2 ρ):=λA env ρ p n=>J.jS (λQ E h=>wpAny_If h) (J.BS (h0 A env ρ p n) λc c' p1 _ P r=>by
  obtain rfl:c'=c:=r;exact J.cond (h1 A env ρ p1 (n.step P)) (h2 A env ρ p1 (n.step P)))
end
section
variable{K:Frag}{E:Value->Shared->Prop}
theorem JR(hs:swapsWith e (some t) pos.line env=pure false)(hw:swappedStores [t] e env=pure none)(he:(assignEach [t] env).map (·.2)=[assign t env])
  (h:wp w A (eval e env) (λv s1=>wp w A (assign t env v) (λ_=>Q .next) E s1) E s):wp w A (exec (.Assign [t] e pos) env) Q E s:=wpAny_Assign_stores (by rw [he];exact h) hs hw
theorem RH{tg:Tg}(hg:jj tg t ts)(ht:∀env,env.scope=fx.cx.sc->Qp env fx.cx.sl (m9 env) ts)(hc:kL e=false)(hw:∀env,swappedStores [t] e env=pure none)(h:fK w fx e m):
  gu w fx (.Assign [t] e pos) (λρ=>M.bind (m ρ) λv=>wT (qE ρ tg v) λfJ=>M.pure (.next fJ)):=λA env ρ p n=>J.jS (λQ E h=>JR (qU hc) (hw env) (jj.casesOn hg (λ_=>rfl) λ_ _ _ _=>rfl) h) (J.BS (h A env ρ p n) λa b p1 _ P r=>have n1:=n.step P
  J.bind (iA hg n.vE.hh (ht env n.sc) n1.F n1.R r) λ_ fJ p2 _ P2 F=>(n1.kJ P2 F).next)
theorem BV:swapsWith e (some (.Attribute o x q)) line env=pure false:=by cases e<;>rfl
theorem RI:swapsWith e (some (.Subscript o i q)) line env=pure false:=by cases e<;>rfl
theorem Xl(S:SF w T K gl)(hn:nm∈WY)(h:fK w fx e m)(h1:fK w fx o m1):
  gu w fx (.Assign [.Attribute o (toS nm) q] e pos) (λρ=>M.bind (m ρ) λv=>M.bind (m1 ρ) λx=>M.bind (rR x nm v) λ_=>M.pure (.next ρ)):=.of λA env ρ p n=>J.jS (λQ E h=>JR BV rfl rfl (gE h (λv s1 h=>by
  show wpAny _ _ (do
   let ov←holding [v] (eval o env)
   standAt q.atName
   holding [v,ov] (setAttr ov (toS nm) v)
   release [v,ov] []) _ _ _
  exact aV (iX (gE h (λov s2 h=>aV (nX (aV (iX (gE h (λ_ s3 h=>wpAny_release h) λ_ _ z=>z))))) λ_ _ z=>z))) λ_ _ z=>z))
  (J.bind (h A env ρ p n) λa b p1 _ P r=>have n1:=n.step P
  J.bind (h1 A env ρ p1 n1) λa2 b2 p2 _ P2 r2=>J.bind (yq S.Wc S.cf P2.rr r2 (r.c8 P2.gr) hn) λ_ _ p3 _ P3 _=>((n1.step P2).step P3).next)
theorem Xm(h:fK w fx e m)(h1:fK w fx o m1)(h2:fK w fx i m2):
  gu w fx (.Assign [.Subscript o i q] e pos) (λρ=>M.bind (m ρ) λv=>M.bind (m1 ρ) λx=>M.bind (m2 ρ) λy=>M.bind (xS x y v) λ_=>M.pure (.next ρ)):=.of λA env ρ p n=>J.jS (λQ E h=>JR RI rfl rfl (gE h (λv s1 h=>by
  rw [assign_Subscript];exact aV (iX (gE h (λov s2 h=>aV (iX (gE h (λiv s3 h=>aV (nX (aV (iX (gE h (λ_ s4 h=>wpAny_release h) λ_ _ z=>z))))) λ_ _ z=>z))) λ_ _ z=>z))) λ_ _ z=>z))
  (J.bind (h A env ρ p n) λa b p1 _ P r=>have n1:=n.step P
  J.bind (h1 A env ρ p1 n1) λa2 b2 p2 _ P2 r2=>have n2:=n1.step P2
  J.bind (h2 A env ρ p2 n2) λa3 b3 p3 _ P3 r3=>J.bind (Js n.vE.LW P3.rr (r2.c8 P3.gr) r3 (r.c8 (P2.gr.trans P3.gr))) λ_ _ p4 _ P4 _=>((n2.step P3).step P4).next)
theorem ab9(h1:fK w fx o m1)(h2:fK w fx i m2):
  gu w fx (.Delete [.Subscript o i q] pos) (λρ=>M.bind (m1 ρ) λx=>M.bind (m2 ρ) λy=>M.bind (Ft x y) λ_=>M.pure (.next ρ)):=.of λA env ρ p n=>J.jS (λQ E h=>wpAny_Delete (wpAny_deleteEach_cons (by
  show wpAny _ _ (do
   let ov←eval o env;let iv←holding [ov] (eval i env)
   standAt q
   holding [ov,iv] (delItem ov iv)
   release [ov,iv] []) _ _ _
  exact aV (gE h (λov s2 h=>aV (iX (gE h (λiv s3 h=>aV (nX (aV (iX (gE h (λ_ s4 h=>wpAny_release (wpAny_deleteEach_nil h)) λ_ _ z=>z))))) λ_ _ z=>z))) λ_ _ z=>z))))
  (J.bind (h1 A env ρ p n) λa2 b2 p2 _ P2 r2=>have n2:=n.step P2
  J.bind (h2 A env ρ p2 n2) λa3 b3 p3 _ P3 r3=>J.bind (Jt n.vE.LW P3.rr (r2.c8 P3.gr) r3) λ_ _ p4 _ P4 _=>((n2.step P3).step P4).next)
theorem Xn(S:SF w T K gl)(hn:nm∈WY)(h1:fK w fx o m1)(h:fK w fx e m):
  gu w fx (.AugAssign (.Attribute o (toS nm) q) (r7 op) e pos) (λρ=>M.bind (m1 ρ) λx=>M.bind (vq x nm) λa=>M.bind (m ρ) λb=>M.bind (NY op a b) λr=>M.bind (rR x nm r) λ_=>M.pure (.next ρ)):=.of λA env ρ p n=>J.jS (λQ E h=>wpAny_AugAssign_AttributeAny h) (J.bind (h1 A env ρ p n) λa b p1 _ P r=>have n1:=n.step P
  J.bind (yp S.Wc S.cf P.rr r hn) λa2 b2 p2 _ P2 r2=>have n2:=n1.step P2
  J.bind (h A env ρ p2 n2) λa3 b3 p3 _ P3 r3=>J.bind (WQ P3.rr (r2.c8 P3.gr) r3) λa4 b4 p4 _ P4 r4=>J.bind (yq S.Wc S.cf P4.rr (r.c8 (P2.gr.trans (P3.gr.trans P4.gr))) r4 hn) λ_ _ p5 _ P5 _=>(((n2.step P3).step P4).step P5).next)
end
theorem F6{st:St}:dO v xs st=.ok () st\/dO v xs st=.aJ:=by
 refine V.casesOn v (.inl rfl) (λ_=>.inl rfl) (λ_=>.inl rfl) (λ_=>.inl rfl) (λ_=>.inl rfl) (λ_=>.inl rfl) (λ_ _=>.inl rfl) (λl=>?_) (λ_ _=>.inl rfl) (λ_=>.inl rfl) (λ_=>.inl rfl) (λ_=>.inl rfl) (λ_=>.inl rfl);let f:bw->M Unit:=λc=>c.on M.fail (λys=>if xs=ys then M.pure ()else M.fail) (λ_=>M.fail) λ_=>M.fail;show(bX st[l]? st).bind f=.ok () st\/(bX st[l]? st).bind f=.aJ;cases st[l]? with
 |none=>exact .inr rfl
 |some c=>
  refine bw.casesOn c (λys=>?_) (λ_=>.inr rfl) (λ_=>.inr rfl) (.inr rfl);show(if xs=ys then M.pure ()else M.fail:M Unit) st=_\/(if xs=ys then M.pure ()else M.fail:M Unit) st=_;by_cases h:xs=ys
  ·rw [az h];exact .inl rfl
  ·rw [ay h];exact .inr rfl
theorem drop_cons{α:Type}{xs:List α}{y:α}(h:xs[i]?=some y):xs.drop i=y::xs.drop (i+1):=by
 obtain⟨hl,e⟩:=rO h;rw [List.drop_eq_getElem_cons hl,e]
theorem Gr.JS(g:Gr (I::W) h0 p0 h p)(hI:h0.get? I=none)(x:kD I h h'):Gr W h0 p0 h' p:=
 have ne:=λb o e q=>bL e (q▸hI)
 ⟨⟨g.ext,λb o hb hW e=>let⟨o',e',k⟩:=g.keep b o hb (λq=>(fY q).elim (ne b o e) hW) e;⟨o',x b o' (ne b o e) e',k⟩⟩,λb o hb e=>let⟨o',e',k⟩:=g.AN b o hb e;⟨o',x b o' (ne b o e) e',k⟩⟩
theorem bq.JS(P:bq w (I::W) p0 p)(hI:p0.h.get? I=none):bq w W p0 p:=⟨P.same,P.gr.JS hI λ_ _ _ e=>e,P.rr⟩
theorem FR.uB(F:FR h pl env sl ρ)(hI:h.get? I=none):I∉m9 env:=λq=>by
 rcases fY q with q|q
 ·obtain⟨m,⟨o,_,_,ho,_⟩,_⟩:=F.ns
  exact bL ho (q▸hI)
 ·obtain⟨p,hp,rfl⟩:=List.mem_map.mp q
  obtain⟨_,_,o,ho,_⟩:=F.ok p hp;exact bL ho hI
theorem FR.iter(F:FR h pl env sl ρ)(hI:I∉m9 env)(x:kD I h h')(hk:∀o,h.get? I=some o->vX o=true):FR h' pl env sl ρ:=F.qM (x.gk pl) (λb hb o e=>hk o (dG hb▸e)) (λq=>hI (dG q▸cC)) λp hp q=>hI (dG q▸cP _ (List.mem_map.mpr ⟨p,hp,rfl⟩))
theorem jV.BQ(x:jV w h pl I xs i v):∀o,h.get? I=some o->vX o=true:=let⟨_,_,z,k⟩:=x.fE;z.BQ k
theorem jV.step(R:RR w p)(jH:1066<=I)(x:jV w p.h p.pl I xs i v)(x':jV w h' p.pl I xs j v)(hs:Heap.SameBut I p.h h')(tk:Nat):bq w [I] p (p.at h' tk):=bq.RD R (x.out R) jH (λo e=>⟨x.BQ o e,let⟨_,_,⟨o',e',_⟩,_⟩:=x'.fE;let⟨_,_,z,_⟩:=x.fE;⟨o',e',λ⟨es,m,d⟩=>(z.nd o e es m d).elim⟩⟩) hs
structure Z8(w:World)(fx:Fx)(A:Around)(env:PySem.Env)(p0:Pt)(I:Addr)(v:V)(xs:List V)(p:Pt)(ρ:aQ)(i:Nat):Prop where
 now:sq w fx A env ρ p
 post:bq w (I::m9 env) p0 p
 it:jV w p.h p.pl I xs i v
section
variable{E E':Value->Shared->Prop}
theorem acd(hg:jj t tx ts)(ht:∀env,env.scope=fx.cx.sc->Qp env fx.cx.sl (m9 env) ts)(hb:AU w fx body ms)(hI:p0.h.get? I=none)(jH:1066<=I)(RB:I∉m9 env)(F:Z8 w fx A env p0 I v xs p ρ 0)
  (k:Ok w (mS w (m9 env)) (BU fx.cx.sl env) p0 (vA (λx ρ=>wT (qE ρ t x) ms) v xs xs ρ p.st) Q E):codeAny (model PW w) A (.forLoop tx (.ref I) body [] env) (λr s'=>match r with|.ok f=>Q f s'|.error e=>E' e s') p.s:=by
 refine codeAny_forLoop_any (λn s=>∃p ρ i,p.s=s/\n=xs.length-i/\Z8 w fx A env p0 I v xs p ρ i/\Ok w (mS w (m9 env)) (BU fx.cx.sl env) p0 (vA (λx ρ=>wT (qE ρ t x) ms) v xs (xs.drop i) ρ p.st) Q E) ?_ (xs.length-0) ⟨p,ρ,0,rfl,rfl,F,k⟩;clear F k;rintro n s ⟨p,ρ,i,rfl,rfl,F,k⟩;have nw:=F.now;rcases F6 with hs|hs
 ·refine Mf nw.vE.hh nw.R hs F.it ⟨λy u h' tk hy ru Qq Z9=>?_,λh' hy hx=>?_⟩
  ·have P1:=F.it.step nw.R jH Qq Z9 tk
   have n1:=nw.kJ P1 (nw.F.iter RB (.same Z9) F.it.BQ);have r1:=ru.mono P1.gr.toGk λb hb o e=>F.it.BQ o (dG hb▸e);have Jb:J w (mN w (m9 env)) (BU fx.cx.sl env) (λQ E s=>wp w A (assign tx env u) (λ_ s2=>wp w A (execs body env) Q E s2) E s) (Mine.c7 (wT (qE ρ t y) ms)) (p.at h' tk):=J.c7 (λ_ h=>h) (J.bind (iA hg nw.vE.hh (ht env n1.sc) n1.F n1.R r1) λ_ fJ p2 _ P2 F2=>hb A env fJ p2 (n1.kJ P2 F2));rw [drop_cons hy]at k;have k:Ok w (mS w (m9 env)) (BU fx.cx.sl env) p0 ((dO v xs p.st).bind λ_=>M.bind (Mine.c7 (wT (qE ρ t y) ms)) (Au (vA (λx ρ=>wT (qE ρ t x) ms) v xs (xs.drop (i+1))))) Q E:=k;rw [hs]at k;refine F4 (p:=p.at h' tk) Qq (Jb.aS _ _ ?_);refine fH.casesOn (motive:=λo=>Ok w (mS w (m9 env)) (BU fx.cx.sl env) p0 (o.bind (Au (vA (λx ρ=>wT (qE ρ t x) ms) v xs (xs.drop (i+1))))) Q E->Ok w (mN w (m9 env)) (BU fx.cx.sl env) (p.at h' tk) o _ _) (Mine.c7 (wT (qE ρ t y) ms) p.st) (λf Av k f' s' cU P3 r=>?_) (λ_ _ _ _ _=>False.elim) id k;have P:=F.post.trans ((P1.mono λa h=>dG h▸cC).trans (P3.mono λa h=>cP _ h));revert k r;refine Fl.casesOn f (λρ3 k r=>?_) λx k r=>?_
   ·obtain⟨rfl,F3⟩:=r
    exact⟨_,Nat.sub_succ_lt_self _ _ (rO hy).1,⟨s',cU,Av⟩,ρ3,i+1,rfl,rfl,⟨n1.kJ P3 F3,P,Qq.qM (.inl (Bw i)) (Qq.out n1.R) RB P3.gr.toGk n1.F.BQ⟩,k⟩
   ·obtain⟨u',rfl,r⟩:=r
    exact k _ _ _ (P.JS hI) ⟨u',rfl,r⟩
  ·rw [List.drop_eq_nil_of_le (List.getElem?_eq_none_iff.mp hy)]at k
   have k:Ok w (mS w (m9 env)) (BU fx.cx.sl env) p0 ((dO v xs p.st).bind λ_=>M.pure (.next ρ)) Q E:=k
   rw [hs]at k;obtain⟨hh,tk,e0⟩:=F.post.same;exact aP (k .next _ p.pl ⟨⟨h',tk,by rw [e0]⟩,F.post.gr.JS hI hx,(nw.R.om hx (F.it.out nw.R) jH F.it.BQ p.s.toks:RR w (p.at h' p.s.toks))⟩ ⟨rfl,nw.F.iter RB hx F.it.BQ⟩)
 ·refine False.elim (?_)
  revert k;cases xs.drop i with
  |nil=>
   show Ok w (mS w (m9 env)) (BU fx.cx.sl env) p0 ((dO v xs p.st).bind λ_=>M.pure (.next ρ)) Q E->_
   rw [hs];exact id
  |cons y r=>
   show Ok w (mS w (m9 env)) (BU fx.cx.sl env) p0 ((dO v xs p.st).bind λ_=>M.bind (Mine.c7 (wT (qE ρ t y) ms)) (Au (vA (λx ρ=>wT (qE ρ t x) ms) v xs r))) Q E->_;rw [hs];exact id
end
section
noncomputable def nc(x:Expr):Bool:=Nat.beq (Dr x) 7
theorem jl:nc e=false->foldedSetIterable e env x=pure x:=Expr.casesOn e (λ_ _ _ _=>rfl) (λ_ _ _ _=>rfl) (λ_ _ _ _ _=>rfl) (λ_ _ _ _=>rfl) (λ_ _ _ _ _=>rfl) (λ_ _ _ _ _=>rfl) (λ_ _ _ _=>rfl) (λ_ _ _ h=>ff h.symm) (λ_ _ _ _ _=>rfl) (λ_ _ _ _ _=>rfl) (λ_ _ _ _ _ _=>rfl) (λ_ _ _ _ _=>rfl) (λ_ _ _=>rfl) (λ_ _ _=>rfl) (λ_ _ _=>rfl) (λ_ _ _ _ _=>rfl) (λ_ _ _ _ _=>rfl) (λ_ _ _ _ _=>rfl) (λ_ _ _=>rfl) (λ_ _ _ _=>rfl) (λ_ _ _ _=>rfl) (λ_ _ _ _=>rfl) (λ_ _ _=>rfl) (λ_ _ _=>rfl) (λ_ _ _=>rfl) (λ_ _ _ _=>rfl) (λ_ _ _ _ _=>rfl)
theorem J.iter{α β:Type}{R2:qN α β}{T2:Value->LU α}{g:V×List V->M β}(R:RR w p)(r:VR p.h p.pl v u)(h:∀q p1 Q E,bq w [] p p1->jV w p1.h p1.pl p.h.objs.size q.2 0 q.1->Ok w md R2 p (g q p1.st) Q E->T2 (.ref p.h.objs.size) Q E p1.s):
  J w md R2 (λQ E s=>wp w A (pyIter u) (λit s1=>T2 it Q E s1) E s) (M.bind (items v) g) p:=⟨λQ E k=>(yy R r).aS _ E (fH.casesOn (motive:=λo=>Ok w md R2 p (o.bind g) Q E->Ok w (mN w []) (ItR w p) p o (λit s1=>T2 it Q E s1) E) (items v p.st)
 (λq Av k a s' cU P r=>r.1▸h q ⟨s',cU,Av⟩ Q E P r.2 k) (λ_ _ _ _ _=>False.elim) id k)⟩
theorem ace(hg:jj t tx ts)(ht:∀env,env.scope=fx.cx.sc->Qp env fx.cx.sl (m9 env) ts)(DA:nc iter=false)(h:fK w fx iter m)(hb:AU w fx body ms):
  gu w fx (.For tx iter body [] pos) (λρ=>M.bind (m ρ) λv=>M.bind (items v) λp=>vA (λx ρ=>wT (qE ρ t x) ms) p.1 p.2 p.2 ρ):=λA env ρ p n=>J.jS (λQ E h=>wpAny_For h (λx=>jl DA)) (J.BS (h A env ρ p n) λa b p1 _ P r=>have n1:=n.step P
  J.iter n1.R r λq p2 Q E P2 z k=>acd hg ht hb (cJ _) n1.R.qJ (n1.F.uB (cJ _)) ⟨n1.step P2,P2.any,z⟩ k)
end
open Classical in
theorem OB:n7 test body ρ s=.aJ\/∃n,n7 test body ρ s=gO test body n ρ s:=if h:∃n,¬(gO test body n ρ s).mw then .inr ⟨h.choose,dif_pos h⟩else .inl (dif_neg h)
section
theorem RJ(h0:JL w fx t m0)(hb:AU w fx body ms):gu w fx (.While t body [] pos) (λρ=>n7 m0 ms ρ):=λA env ng p0 n0=>⟨λQ E k=>by
 have k:Ok w (mS w (m9 env)) (BU fx.cx.sl env) p0 (n7 m0 ms ng p0.st) Q E:=k;rcases OB with hx|⟨n,hx⟩
 ·rw [hx]at k
  exact k.elim
 ·rw [hx]at k
  refine wpAny_While (codeAny_whileLoop (λn s=>∃p ρ,p.s=s/\sq w fx A env ρ p/\bq w (m9 env) p0 p/\Ok w (mS w (m9 env)) (BU fx.cx.sl env) p0 (gO m0 ms n ρ p.st) Q E) ?_ n ⟨p0,ng,rfl,n0,.refl n0.R,k⟩);rintro n s ⟨p,ρ,rfl,nw,P,k⟩;cases n with
  |zero=>exact k.elim
  |succ n=>
   have k:Ok w (mS w (m9 env)) (BU fx.cx.sl env) p0 ((Mine.c7 (m0 ρ) p.st).bind λb=>if b then M.bind (Mine.c7 (ms ρ)) (Au (gO m0 ms n))else M.pure (.next ρ)) Q E:=k
   refine(J.c7 (λ_ h=>h) (h0 A env ρ p nw)).aS _ _ ?_;refine fH.casesOn (Mine.c7 (m0 ρ) p.st) (λb Av k b' s1 pl1 P1 r=>?_) (λ_ _ _ _ _=>False.elim) id k;obtain rfl:b=b':=r;have n1:=nw.step P1;have P01:=P.trans (P1.any);cases b with
   |false=>exact aP (k .next _ _ P01 ⟨rfl,n1.F⟩)
   |true=>
    have k:=k;refine(J.c7 (λ_ h=>h) (hb A env ρ ⟨s1,pl1,Av⟩ n1)).aS _ _ ?_;refine fH.casesOn (motive:=λo=>Ok w (mS w (m9 env)) (BU fx.cx.sl env) p0 (o.bind (Au (gO m0 ms n))) Q E->Ok w (mN w (m9 env)) (BU fx.cx.sl env) ⟨s1,pl1,Av⟩ o _ _) (Mine.c7 (ms ρ) Av) (λf st2 k f' s2 Qs P2 r=>?_) (λ_ _ _ _ _=>False.elim) id k;have P02:=P01.trans P2;revert k r;refine Fl.casesOn f (λρ3 k r=>?_) λx k r=>?_
    ·obtain⟨rfl,F3⟩:=r
     exact⟨n,Nat.lt_succ_self n,⟨s2,Qs,st2⟩,ρ3,rfl,n1.kJ P2 F3,P02,k⟩
    ·obtain⟨u,rfl,r⟩:=r
     exact k _ _ _ P02 ⟨u,rfl,r⟩⟩
end
theorem OC{M:Model}{E:Value->Shared->Prop}
  (hs:∀p∈scope.names,(p.2==NameKind.cell)=false)
  (h:Q {scope,locals:=s.heap.objs.size,globals:=env.globals,cells:=cl,qual:=env.qual,func:=none,code:=env.code,frame:=env.frame,builtins:=env.builtins}
   {s with heap:=s.heap.push {cls:=.type "dict",data:=.dict #[]}}):
  wpAny M A (newFunctionEnv scope env.globals cl [] env.qual none .none (some env)) Q E s:=by
 refine aV (wpAny_alloc ?_);dsimp only;rw [forIn_yield_id cl λx hx c=>by obtain⟨n,k⟩:=x;dsimp only;rw [ay (Bool.eq_false_iff.mp (hs _ hx))]]
 exact aV (aP (aP h))
structure F7(env:PySem.Env)(sc:Scope)(cl:List (PySem.Str×Addr)):Prop where
 eq:closureFor sc env=pure cl
 all:∀p∈cl,env.cells.lookup p.1=some p.2
 has:∀x a,(x,NameKind.free)∈sc.names->env.cells.lookup x=some a->(x,a)∈cl
theorem Xo(l:List (PySem.Str×NameKind)):∀{cs:List (PySem.Str×Addr)},(∀p∈l,p.2=.free->∃a,env.cells.lookup p.1=some a)->(∀p∈cs,env.cells.lookup p.1=some p.2)->∃cl,(forIn l cs λx r=>match x with|(n,k)=>if(k==.free)=true then do let a←cellOf env n;pure (ForInStep.yield ((n,a)::r))else pure (ForInStep.yield r):Sem _)=pure cl/\(∀p∈cl,env.cells.lookup p.1=some p.2)/\(∀p∈cs,p∈cl)/\∀x a,(x,NameKind.free)∈l->env.cells.lookup x=some a->(x,a)∈cl:=by
 induction l with
 |nil=>exactλ{cs}_ h=>⟨cs,rfl,h,λ_=>id,λ_ _=>bg⟩
 |cons q l ih=>
  intro cs h hcs;rw [List.forIn_cons];by_cases e:q.2=NameKind.free
  ·obtain⟨a,ha⟩:=h q cC e
   obtain⟨cl,h1,h2,h3,h4⟩:=ih (cs:=(q.1,a)::cs) (λp hp=>h p (cP _ hp)) λp hp=>(fY hp).elim (λz=>z▸ha) (hcs p);refine⟨cl,?_,h2,λp hp=>h3 p (cP _ hp),λx b hx hb=>(fY hx).elim (λz=>?_) λz=>h4 x b z hb⟩
   ·obtain⟨n,k⟩:=q
    obtain rfl:k=NameKind.free:=e;show((cellOf env n>>=λa=>pure (ForInStep.yield ((n,a)::cs)):Sem (ForInStep (List (PySem.Str×Addr))))>>=_)=_;unfold cellOf;rw [ha];exact h1
   ·obtain rfl:x=q.1:=au (·.1) z
    rw [bV (hb.symm.trans ha)];exact h3 _ cC
  ·obtain⟨cl,h1,h2,h3,h4⟩:=ih (λp hp=>h p (cP _ hp)) hcs
   refine⟨cl,?_,h2,h3,λx b hx hb=>(fY hx).elim (λz=>absurd (au (·.2) z).symm e) λz=>h4 x b z hb⟩
   obtain⟨n,k⟩:=q;show((if(k==NameKind.free)=true then _ else pure (ForInStep.yield cs):Sem (ForInStep (List (PySem.Str×Addr))))>>=_)=_;rw [beq_false_of_ne e];exact h1
theorem F7.of(h:∀p∈sc.names,p.2=.free->∃a,env.cells.lookup p.1=some a):∃cl,F7 env sc cl:=by
 obtain⟨cl,h1,h2,_,h4⟩:=Xo sc.names h λ_=>bg;refine⟨cl,?_,h2,h4⟩;unfold closureFor;rw [←h1];exact bind_pure _
theorem AV{α β:Type} [BEq α] [LawfulBEq α]{f:α->Option β}{x:α}{a:β}(cs:List (α×β)):(∀p∈cs,f p.1=some p.2)->(x,a)∈cs->cs.lookup x=some a:=by
 induction cs with
 |nil=>exactλ_=>bg
 |cons q r ih=>
  intro h hm;rw [vO];by_cases e:(x==q.1)=true
  ·rw [e]
   exact(h q cC).symm.trans ((eq_of_beq e)▸h _ hm)
  ·rw [Bool.eq_false_iff.mpr e]
   exact(fY hm).elim (λz=>absurd (z▸AE x:(x==q.1)=true) e) λz=>ih (λp hp=>h p (cP _ hp)) z
theorem vF{c:PySem.Str->NameKind->Bool}(l:List (PySem.Str×NameKind)):(l.map λ(n,k)=>if c n k then(n,NameKind.cell)else(n,k)).lookup x=(l.lookup x).map λk=>if c x k then .cell else k:=by
 induction l with
 |nil=>rfl
 |cons q r ih=>
  obtain⟨n,k⟩:=q;have e1:(if c n k then(n,NameKind.cell)else(n,k))=(n,if c n k then .cell else k):=by cases c n k<;>rfl
  rw [List.map_cons,vO];dsimp only;rw [e1,vO];by_cases e:(x==n)=true
  ·rw [e,eq_of_beq e];rfl
  ·rw [Bool.eq_false_iff.mpr e];exact ih
noncomputable def Cx.comp(cx:Cx)(sc:Scope)(tg:aF):Cx:={sc:={sc with names:=sc.names.map λ(n,k)=>if(k==.free&&cx.sc.kind==.function&&cx.kind n==some .cell)then(n,.cell)else(n,k)},sl:=tg++cx.sl.filter λp=>sc.names.lookup p.1==some .free,gl:=cx.gl}
theorem yC{cx:Cx}(tg:aF)(h:env.scope=cx.sc):relabel sc env=(cx.comp sc tg).sc:=by
 unfold relabel Cx.comp Env.kindOf Cx.kind;rw [h]
structure eO(cx:Cx)(sc:Scope)(tg:aF):Prop where
 kind:sc.kind=.function
 names:∀p∈sc.names,p.2=.local\/p.2=.free\/p.2=.globalImplicit
 nodup:(sc.names.map (·.1)).Nodup
 loc:∀p∈tg,sc.names.lookup p.1=some .local
 fst:(tg.map (·.1)).Nodup
 snd:(tg.map (·.2)).Nodup
 apart:∀p∈tg,∀q∈cx.sl,q.2≠p.2
 free:∀p∈sc.names,p.2=.free->(cx.kind p.1=some .cell\/cx.kind p.1=some .free)/\(cx.sl.lookup p.1).isSome=true
theorem pC(is:List Nat):∀{ρ:aQ},(qF ρ is)[i]?=some (some v)->ρ[i]?=some (some v)/\i∉is:=by
 induction is with
 |nil=>exactλh=>⟨h,pY⟩
 |cons j is ih=>
  intro ρ h;obtain⟨h1,h2⟩:=ih h;by_cases e:j=i
  ·subst e
   rw [AA (Fb▸(rO h1).1)]at h1;exact ns (bV h1)
  ·rw [qB e]at h1
   exact⟨h1,λhm=>(fY hm).elim (λhm=>e hm.symm) h2⟩
section
variable{cx:Cx}{env:PySem.Env}{tg:aF}
theorem FR.k0(hs:env.scope=cx.sc)(k:cx.kind x=some .cell\/cx.kind x=some .free):env.kindOf x≠some .local:=λq=>by
 have e:env.kindOf x=cx.kind x:=by unfold Env.kindOf Cx.kind;rw [hs]
 exact k.elim (λk=>NameKind.noConfusion (bV (k.symm.trans (e.symm.trans q)))) λk=>NameKind.noConfusion (bV (k.symm.trans (e.symm.trans q)))
theorem eO.Xp(S:eO cx sc tg)(hs:env.scope=cx.sc)(F:FR h pl env cx.sl ρ):∃cl,F7 env sc cl:=F7.of λp hp e=>by
 obtain⟨k,hl⟩:=S.free p hp e;obtain⟨i,hi⟩:=Option.isSome_iff_exists.mp hl;obtain⟨_,c,o,hc,_⟩:=F.cell p.1 i (qD hi) (FR.k0 hs k);exact⟨c,hc⟩
theorem eO.mem(hx:(x,i)∈(cx.comp sc tg).sl):(x,i)∈tg\/((x,i)∈cx.sl/\sc.names.lookup x=some .free):=(tW hx).imp id λhx=>⟨(List.mem_filter.mp hx).1,eq_of_beq (List.mem_filter.mp hx).2⟩
theorem FR.comp(hs:env.scope=cx.sc)(F:FR h pl env cx.sl ρ)(S:eO cx sc tg)(hc:F7 env sc cl)(hL:L∉0::pl)(hl:1066<=L)(hn:h.Ns L m)(L4:∀p∈env.cells,p.2≠L):FR h pl (compEnvC sc cl L env) (cx.comp sc tg).sl (qF ρ (tg.map (·.2))):=by
 have kd:∀x,(compEnvC sc cl L env).kindOf x=(sc.names.lookup x).map λk=>if(k==.free&&env.scope.kind==.function&&env.kindOf x==some .cell)then .cell else k:=λx=>vF (c:=λn k=>k==.free&&env.scope.kind==.function&&env.kindOf n==some .cell) sc.names;have aaa:∀x,sc.names.lookup x=some .free->(compEnvC sc cl L env).kindOf x=some .cell\/(compEnvC sc cl L env).kindOf x=some .free:=λx e=>by
  rw [kd,e];show some (if _ then NameKind.cell else .free)=_\/some (if _ then NameKind.cell else .free)=_;split
  ·exact .inl rfl
  ·exact .inr rfl
 have qV:∀{i o},i9 h pl ρ i o->i9 h pl (qF ρ (tg.map (·.2))) i o:=λr v e=>r v (pC _ e).1
 have cg:∀{c o},qm h pl env.locals c o->(∃x,env.cells.lookup x=some c)->qm h pl L c o:=λr⟨x,hx⟩=>⟨⟨r.1.1,r.1.2.1,L4 (x,_) (qD hx)⟩,r.2⟩;refine⟨S.kind,F.JG,F.blt,hL,hl,⟨m,hn,λx i hx OD v e=>(eO.mem hx).elim (λhx=>absurd (List.mem_map.mpr ⟨_,hx,rfl⟩) (pC _ e).2) λhx=>?_⟩,λx i hx OD=>(eO.mem hx).elim (λhx=>absurd (by rw [kd,S.loc _ hx];rfl) OD) λhx=>⟨aaa x hx.2,?_⟩,λx y c hx hy=>F.apart x y c (hc.all _ (qD hx)) (hc.all _ (qD hy)),λp hp=>?_⟩
 ·exact(aaa x hx.2).elim (λk=>NameKind.noConfusion (bV (k.symm.trans OD))) λk=>NameKind.noConfusion (bV (k.symm.trans OD))
 ·have hm:=qD hx.2
  obtain⟨_,c,o,e,r,q⟩:=F.cell x i hx.1 (FR.k0 hs (S.free _ hm rfl).1);exact⟨c,o,AV (f:=λy=>env.cells.lookup y) cl hc.all (hc.has x c hm e),cg r ⟨x,e⟩,qV q⟩
 ·have e:=hc.all p hp
  obtain⟨o,r⟩:=F.ok _ (qD e);exact⟨o,cg r ⟨_,e⟩⟩
end
abbrev BW(ng ρ:aQ):Prop:=∀(i:Nat)(v:V),ng[i]?=some (some v)->ρ[i]?=some (some v)
section
variable{p0 p:Pt}{E E':Value->Shared->Prop}{α β:Type}
theorem i9.qV(hl:BW ng ρ)(r:i9 h pl ρ i o):i9 h pl ng i o:=λv e=>r v (hl i v e)
theorem FR.qV(F:FR h pl env sl ρ)(hl:BW ng ρ):FR h pl env sl ng:=⟨F.kind,F.JG,F.blt,F.Z2,F.JH,let⟨m,hm,hv⟩:=F.ns;⟨m,hm,λx i hx hk=>(hv x i hx hk).qV hl⟩,λx i hx hk=>let⟨k,c,o,e,r,q⟩:=F.cell x i hx hk;⟨k,c,o,e,r,q.qV hl⟩,F.apart,F.ok⟩
theorem jV.self:jV w p.h p.pl I xs i v->Q (.ref I) p.s->wp w A (pyIter (.ref I)) Q E p.s:=V.casesOn v (λ⟨_,_,_,_,z,_⟩h=>wpAny_pyIter_keyiter z h) (λ_=>False.elim) (λ_=>False.elim) (λ_=>False.elim) (λ_⟨_,_,_,_,_,z⟩h=>wpAny_pyIter_tupleiter z h) (λ_⟨_,_,_,_,_,z⟩h=>wpAny_pyIter_listiter z h)
  (λ_ _=>False.elim) (λ_⟨_,_,z⟩h=>wpAny_pyIter_listiter z h) (λ_ _⟨_,z⟩h=>wpAny_pyIter_rangeiter z h) (λ_=>False.elim) (λ_=>False.elim) (λ_=>False.elim) (λ_=>False.elim)
abbrev RK(aN:PySem.Env)(sl:aF)(ng:aQ):qN Unit Unit:=λh pl _ _=>FR h pl aN sl ng
abbrev DB(aN:PySem.Env)(sl:aF)(ng:aQ)(l:Nat)(D:Addr):qN Unit Unit:=λh pl _ _=>FR h pl aN sl ng/\pl[l]?=some D
def DC(w:World)(fx:Fx)(A:Around)(aN:PySem.Env)(ng:aQ)(l:Nat)(D:Addr)(body:Sem Unit)(m:aQ->M Unit):Prop:=∀p ρ,sq w fx A aN ρ p->BW ng ρ->p.pl[l]?=some D->J w (mS w [aN.locals]) (RK aN fx.cx.sl ng) (wp w A body) (m ρ) p
structure RL(w:World)(fx:Fx)(A:Around)(aN:PySem.Env)(p0:Pt)(I:Addr)(v:V)(xs:List V)(ng:aQ)(l:Nat)(D:Addr)(p:Pt)(i:Nat):Prop where
 now:sq w fx A aN ng p
 post:bq w [I,aN.locals] p0 p
 it:jV w p.h p.pl I xs i v
 kT:p.pl[l]?=some D
theorem RM{b:β}{st st':St}(h:bX o st=.ok b st'):o=some b:=by
 revert h;cases o with
 |none=>exact stk
 |some a=>exactλh=>au some (au (λo=>fH.casesOn (motive:=λ_=>β) o (λx _=>x) (λ_=>a) a) h)
noncomputable def oq(c:Code)(p:Pos)(I:Addr)(target:Expr)(aN:PySem.Env)(body:Sem Unit):Sem Fin:=do
 standAt p
 match←pyNext (.ref I)with
 |none=>pure (.done .next)
 |some u=>
  letOwnedTupleGo target (.ref I) u
  assign target aN u
  body
  again c
noncomputable abbrev gv(t:Tg)(mb:aQ->M Unit)(ρ:aQ)(x:V):M Unit:=wT (qE ρ t x) mb
theorem BX
  (afH:compTurn (.ListComp elt gens sc ps) k (.ref I) kT aN=oq (.compLoop (.ListComp elt gens sc ps) k (.ref I) kT aN) q I target aN body)
  (hg:jj t target ts)(hts:Qp aN fx.cx.sl [aN.locals] ts)(hw:∀x,qE ng t x=qE ρ t x)(jH:∀x fJ,qE ρ t x=some fJ->BW ng fJ)
  (hb:DC w fx A aN ng l D body mb)(hI:p0.h.get? I=none)(Mh:1066<=I)(RB:I∉m9 aN)(F:RL w fx A aN p0 I v xs ng l D p 0)
  (kk:Ok w (mN w [aN.locals]) (DB aN fx.cx.sl ng l D) p0 (jD (gv t mb ρ) v xs xs p.st) Q E):codeAny (model PW w) A (.compLoop (.ListComp elt gens sc ps) k (.ref I) kT aN) (λr s'=>match r with|.ok _=>Q () s'|.error e=>E' e s') p.s:=by
 refine codeAny_loop rfl (λn s=>∃p i,p.s=s/\n=xs.length-i/\RL w fx A aN p0 I v xs ng l D p i/\Ok w (mN w [aN.locals]) (DB aN fx.cx.sl ng l D) p0 (jD (gv t mb ρ) v xs (xs.drop i) p.st) Q E) ?_ (xs.length-0) ⟨p,0,rfl,rfl,F,kk⟩;clear F kk;rintro n s ⟨p,i,rfl,rfl,F,kk⟩;refine wpAny_noted ?_;rw [afH];have nw:=F.now;rcases F6 with hs|hs
 ·refine aV (nX (aV (Mf nw.vE.hh nw.R hs F.it ⟨λy u h' tk hy ru Qq Z9=>?_,λh' hy hx=>?_⟩)))
  ·have P1:=F.it.step nw.R Mh Qq Z9 tk
   have n1:=nw.kJ P1 (nw.F.iter RB (.same Z9) F.it.BQ);have r1:=ru.mono P1.gr.toGk λb hb o e=>F.it.BQ o (dG hb▸e);have Jb:J w (mN w [aN.locals]) (RK aN fx.cx.sl ng) (λQ E s=>wp w A (assign target aN u) (λ_ s2=>wp w A body Q E s2) E s) (Mine.c7 (gv t mb ρ y)) (p.at h' tk):=J.c7 (λ_ h=>h) (J.congr (m':=wT (qE ng t y) mb) (by unfold gv;rw [hw]) (J.bind (iA hg nw.vE.hh hts n1.F n1.R r1) λ_ fJ p2 e P2 F2=>hb p2 fJ (n1.kJ P2 F2) (jH y fJ ((hw y).symm.trans (RM e))) (P2.gr.at F.kT)))
   rw [drop_cons hy]at kk;have kk:Ok w (mN w [aN.locals]) (DB aN fx.cx.sl ng l D) p0 ((dO v xs p.st).bind λ_=>M.bind (Mine.c7 (gv t mb ρ y)) λ_=>jD (gv t mb ρ) v xs (xs.drop (i+1))) Q E:=kk;rw [hs]at kk;refine aV (F4 (p:=p.at h' tk) Qq (aV (gE (Jb.aS (λ_ s=>wp w A (again (.compLoop (.ListComp elt gens sc ps) k (.ref I) kT aN)) _ _ s) _ ?_) (λ_ s2 h=>aV h) λ_ _ z=>z)));refine fH.casesOn (motive:=λo=>Ok w (mN w [aN.locals]) (DB aN fx.cx.sl ng l D) p0 (o.bind λ_=>jD (gv t mb ρ) v xs (xs.drop (i+1))) Q E->Ok w (mN w [aN.locals]) (RK aN fx.cx.sl ng) (p.at h' tk) o _ _) (Mine.c7 (gv t mb ρ y) p.st) (λf Av kk f' s' cU P3 r=>?_) (λ_ _ _ _ _=>False.elim) id kk;have P:=F.post.trans ((P1.mono λa h=>dG h▸cC).trans (P3.mono λa h=>cP _ h));exact aP ⟨rfl,_,Nat.sub_succ_lt_self _ _ (rO hy).1,⟨s',cU,Av⟩,i+1,rfl,rfl,⟨n1.kJ P3 r,P,Qq.qM (.inl (Bw i)) (Qq.out n1.R) (λq=>RB (dG q▸cC)) P3.gr.toGk λb hb=>n1.F.BQ b (hts.aE b hb),P3.gr.at F.kT⟩,kk⟩
  ·rw [List.drop_eq_nil_of_le (List.getElem?_eq_none_iff.mp hy)]at kk
   have kk:Ok w (mN w [aN.locals]) (DB aN fx.cx.sl ng l D) p0 (dO v xs p.st) Q E:=kk;rw [hs]at kk;obtain⟨hh,tk,e0⟩:=F.post.same;exact aP (kk () _ p.pl ⟨⟨h',tk,by rw [e0]⟩,F.post.gr.JS hI hx,(nw.R.om hx (F.it.out nw.R) Mh F.it.BQ p.s.toks:RR w (p.at h' p.s.toks))⟩ ⟨nw.F.iter RB hx F.it.BQ,F.kT⟩)
 ·refine False.elim (?_)
  revert kk;cases xs.drop i with
  |nil=>
   show Ok w (mN w [aN.locals]) (DB aN fx.cx.sl ng l D) p0 (dO v xs p.st) Q E->_;rw [hs];exact id
  |cons y r=>
   show Ok w (mN w [aN.locals]) (DB aN fx.cx.sl ng l D) p0 ((dO v xs p.st).bind λ_=>M.bind (Mine.c7 (gv t mb ρ y)) λ_=>jD (gv t mb ρ) v xs r) Q E->_;rw [hs];exact id
abbrev xj(xs:List Expr)(env:PySem.Env)(b:Bool):Sem Bool:=forIn xs b λc r=>if r=true then do let ok←isTrue c env (eval c env);pure (ForInStep.yield ok)else pure (ForInStep.yield r)
def OE(w:World)(fx:Fx)(xs:List Expr)(m:aQ->M Bool):Prop:=∀A env ρ p,sq w fx A env ρ p->J w (mE w) Of (wp w A (xj xs env true)) (m ρ) p
theorem RN:OE w fx [] (λ_=>M.pure true):=λA env ρ p n=>J.aR n.R rfl λQ E h=>aP h
theorem F8(xs:List Expr):xj xs env false=pure false:=List.rec rfl (λx xs ih=>by
 show forIn (x::xs) false _=_;rw [List.forIn_cons];exact ih) xs
theorem Xq{xs:List Expr}(h1:JL w fx x m)(h2:OE w fx xs ms):OE w fx (x::xs) (λρ=>M.bind (m ρ) λb=>if b then ms ρ else M.pure false):=λA env ρ p n=>J.jS (λQ E h=>by
  show wp w A (forIn (x::xs) true _) _ _ _;rw [List.forIn_cons,az rfl,bind_assoc];exact aV h) (J.bind (T2:=λt=>wp w A (xj xs env t)) (h1 A env ρ p n) λt t' p1 _ P e=>by
  obtain rfl:t'=t:=e;cases t' with
  |true=>exact h2 A env ρ p1 (n.step P)
  |false=>exact J.aR P.rr rfl λQ E h=>F8 xs▸aP h)
noncomputable abbrev acf(elt:Expr)(env:PySem.Env)(D:Addr):Sem Unit:=do let _←call (.builtin "list.append") [.ref D,←eval elt env]
theorem acg(n:sq w fx A aN ρ p)(jH:BW ng ρ)(hl:p.pl[l]?=some D)(r:VR p.h p.pl b a):J w (mE w) (RK aN fx.cx.sl ng) (λQ E s1=>wp w A (call (.builtin "list.append") [.ref D,a]) (λ_ s=>Q () s) E s1) (M.bind (eK l) (BA l b)) p:=J.eK n.R hl λc e=>bw.casesOn c (λys e c=>J.jF λhz=>⟨λQ E k=>(yo n.R hl (n.R.Jp e hl bw.noConfusion) c r hz).aS _ E λ_ s' cU P _=>k () s' cU P ((n.F.mono P.gr).qV jH)⟩) (λ_ _ _=>J.aJ) (λ_ _ _=>J.aJ) (λ_ _=>J.aJ) e
noncomputable abbrev JT(elt:Expr)(ifs:List Expr)(aN:PySem.Env)(D:Addr):Sem Unit:=do let ok←xj ifs aN true;if ok=true then acf elt aN D else pure ()
theorem vG(hi:OE w fx ifs mi)(he:fK w fx elt me):
  DC w fx A aN ng l D (JT elt ifs aN D) (λρ=>M.bind (mi ρ) λb=>if b then M.bind (me ρ) λy=>M.bind (eK l) (BA l y)else M.pure ()):=λp ρ n jH hl=>J.up (J.jS (λQ E h=>aV (gE h (λok s1 z=>by
  cases ok with
  |false=>exact aP z
  |true=>exact aV (gE z (λa s2 z=>aV (gE z (λ_ s3 z=>aP z) λ_ _ z=>z)) λ_ _ z=>z)) λ_ _ z=>z))
 (J.bind (T2:=λok Q E s1=>if ok=true then wp w A (eval elt aN) (λa s2=>wp w A (call (.builtin "list.append") [.ref D,a]) (λ_ s=>Q () s) E s2) E s1 else Q () s1) (hi A aN ρ p n) λt t' p1 _ P r=>by
  obtain rfl:t'=t:=r;have n1:=n.step P;cases t' with
  |false=>exact J.ret P.rr (n1.F.qV jH)
  |true=>exact J.bind (he A aN ρ p1 n1) λa b p2 _ P2 r2=>acg (n1.step P2) jH (P2.gr.at (P.gr.at hl)) r2))
end
section
variable{pl:List Addr}
theorem ou(h:(pl.set l 0)[k]?=some a):(k=l/\a=0/\k<pl.length)\/(k≠l/\pl[k]?=some a):=by
 by_cases q:l=k
 ·have hk:=Fb▸(rO h).1
  rw [q,AA hk]at h;exact .inl ⟨q.symm,(bV h).symm,hk⟩
 ·rw [qB q]at h
  exact .inr ⟨λz=>q z.symm,h⟩
theorem xm{k:Nat}(e:pl[k]?=some a):(pl.set l 0)[k]?=some a\/(pl.set l 0)[k]?=some 0:=by
 by_cases q:l=k
 ·rw [q];exact .inr (AA (rO e).1)
 ·rw [qB q];exact .inl e
theorem yD(h:a∈pl.set l 0):a∈0::pl:=(List.mem_or_eq_of_mem_set h).elim (cP _) λh=>h▸cC
theorem oz(h:a∉0::pl):a∉0::pl.set l 0:=λq=>h ((fY q).elim (λq=>q▸cC) yD)
theorem VR.zero{x:V}{v:Value}(r:VR h pl x v):VR h (pl.set l 0) x v:=VR.rec (motive_1:=λx v _=>VR h (pl.set l 0) x v) (motive_2:=λxs vs _=>dH h (pl.set l 0) xs vs) .flat (λe n _ b ih=>.aC e (oz n) ih b) (λe n _ b ih=>.lst e (oz n) ih b)
  (λq e n p=>(xm p).elim (λp=>.fE q e (oz n) p) .Q6) (λp=>(xm p).elim .ref .bH) (λp=>.bH ((xm p).elim id id)) (λp=>.Q6 ((xm p).elim id id)) (λe n k=>.Fp e (oz n) k) .nil (λ_ _ a b=>.cons a b) r
theorem dH.zero{xs:List V}{vs:List Value}(r:dH h pl xs vs):dH h (pl.set l 0) xs vs:=r.Ql (P:=λxs vs=>dH h (pl.set l 0) xs vs) .nil λa _ ih=>.cons a.zero ih
theorem DP.zero{κ:Type}{f:κ->V}{g:κ->Value}{es:List (V×V)}{ks:List κ}(p:DP h pl f g es ks):DP h (pl.set l 0) f g es ks:=DP.rec (motive:=λes ks _=>DP h (pl.set l 0) f g es ks) .nil (λr _ ih=>.cons r.zero ih) p
theorem qe.zero{a:Option V}{b:Option Value}:qe h pl a b->qe h (pl.set l 0) a b:=Option.casesOn (motive:=λa=>qe h pl a b->qe h (pl.set l 0) a b) a id λ_⟨u,e,r⟩=>⟨u,e,r.zero⟩
theorem CR.zero{w:World}{a:Addr}{c:bw}:CR w h pl a c->CR w h (pl.set l 0) a c:=bw.casesOn (motive:=λc=>CR w h pl a c->CR w h (pl.set l 0) a c) c (λ_⟨vs,n,e,r,b⟩=>⟨vs,n,e,r.zero,b⟩) (λ_⟨b,x⟩=>⟨b,x.imp (λ⟨t,kvs,o,d⟩=>⟨t,kvs,o,d.zero⟩) λ⟨xs,o,d⟩=>⟨xs,o,d.zero⟩⟩) (λ_⟨m,n,r,z⟩=>⟨m,n,λn=>(r n).zero,z⟩) id
end
section
variable{l:Nat}
noncomputable abbrev Pt.Xr(p:Pt)(l:Nat):Pt:=⟨p.s,p.pl.set l 0,p.st.set l .bH⟩
theorem RR.ach(R:RR w p)(l:Nat):RR w (p.Xr l):=by
 have jk:∀k,k<p.pl.length->k=l->(p.st.set l .bH)[k]?=some bw.bH:=λk z q=>q▸AA (R.len▸q▸z);refine⟨R.base,(Fb ..).trans (R.len.trans (Fb ..).symm),λi j a h0 e1 e2=>?_,λa ha=>(fY (yD ha)).elim .inl (R.low a),λk e=>?_,λk c a e1 e2=>?_⟩
 ·exact(ou e1).elim (λq=>absurd q.2.1 h0) λq1=>(ou e2).elim (λq=>absurd q.2.1 h0) λq2=>R.nodup i j a h0 q1.2 q2.2
 ·exact(ou e).elim (λq=>jk k q.2.2 q.1) λq=>(qB λz=>q.1 z.symm).trans (R.jk k q.2)
 ·refine(ou e2).elim (λq=>?_) λq=>(R.cells k c a ((qB λz=>q.1 z.symm).symm.trans e1) q.2).zero
  rw [←bV ((jk k q.2.2 q.1).symm.trans e1)];exact q.2.1
theorem bq.Xr(P:bq w W p p')(hl:p.pl.length<=l):bq w W p (p'.Xr l):=by
 obtain⟨new,e,hn⟩:=P.gr.ext;refine⟨P.same,⟨⟨⟨new.set (l-p.pl.length) 0,?_,λa ha h0=>(fY (yD ha)).elim (λq=>absurd (q▸cC) h0) λq=>hn a q h0⟩,P.gr.keep⟩,P.gr.AN⟩,P.rr.ach l⟩;show p'.pl.set l 0=_;rw [e,LK _ _ hl]
theorem JU(R:RR w p)(hD:p.pl[l]?=some D)(h0:D≠0)(e:p.st[l]?=some (.list ys)):VR p.h (p.pl.set l 0) (.lst ys) (.ref D):=by
 obtain⟨vs,n,g,r,b⟩:=R.cells l _ D e hD;refine .lst g (λq=>(fY q).elim h0 λq=>?_) r.zero b;obtain⟨k,hk,ek⟩:=List.mem_iff_getElem.mp q;exact(ou ((qA hk).trans (au some ek))).elim (λq=>h0 q.2.1) λq=>q.1 (R.nodup k l D h0 q.2 hD)
noncomputable def RO(step:Nat->V->M Unit)(q:V×List V)(l:Nat):M V:=M.bind (jD (step l) q.1 q.2 q.2) λ_=>M.bind (eK l) (uo l)
noncomputable def Mi(step:Nat->V->M Unit)(b:V):M V:=M.bind (items b) λq=>M.bind (qb (.list [])) (RO step q)
structure OF(p:Pt)(s:Shared)(pl:List Addr)(L:Addr):Prop where
 iN:p.h.get? L=none
 out:L∉0::pl
 low:1066<=L
 ns:∃m,s.heap.Ns L m
noncomputable def JV(w:World)(p:Pt)(R:Value->Addr->Shared->Prop)(o:fH V):Prop:=fH.casesOn (motive:=λ_=>Prop) o (λy st'=>∀D L s' cU,bq w [L] p ⟨s',cU,st'⟩->VR s'.heap cU y (.ref D)->OF p s' cU L->R (.ref D) L s') (λ_=>True) False
theorem JW(hl:p.pl.length<=l)(hD:cU[l]?=some D)(hD0:D≠0)(P:bq w [L] p ⟨s',cU,st'⟩)(z:OF p s' cU L)(k:JV w p R ((bX st'[l]? st').bind (uo l))):R (.ref D) L s':=by
 have lv:=λys=>JU (ys:=ys) P.rr hD hD0;revert k lv;cases st'[l]? with
 |none=>exactλk=>k.elim
 |some c=>exact bw.casesOn c (λys k lv=>k D L s' _ (P.Xr hl) (lv ys rfl) ⟨z.iN,oz z.out,z.low,z.ns⟩) (λ_ k=>k.elim) (λ_ k=>k.elim) λk=>k.elim
end
section
noncomputable abbrev Fx.comp(fx:Fx)(sc:Scope)(tg:aF):Fx:=⟨fx.d,fx.fs,fx.cx.comp sc tg⟩
theorem RP(is:List Nat):∀{ρ:aQ},i∉is->qF (ρ.set i o) is=(qF ρ is).set i o:=by
 induction is with
 |nil=>exactλ_=>rfl
 |cons j is ih=>
  intro ρ h;show qF ((ρ.set i o).set j none) is=_;rw [List.set_comm _ _ λe:i=j=>h (e▸cC)];exact ih λhm=>h (cP _ hm)
theorem Xs(is:List Nat):∀{vs:List V}{ρ:aQ},is.Nodup->V7 (qF ρ is) is vs=V7 ρ is vs:=by
 induction is with
 |nil=>exactλ_=>rfl
 |cons i is ih=>
  intro vs ρ h;obtain⟨h1,h2⟩:=List.nodup_cons.mp h;cases vs with
  |nil=>rfl
  |cons v vs=>
   show V7 ((qF (ρ.set i none) is).set i (some v)) is vs=V7 (ρ.set i (some v)) is vs;rw [RP is h1,List.set_set,←RP is h1];exact ih h2
theorem jj.qF(g:jj t tx ts)(x:V):qE (Mine.qF ρ t.slots) t x=qE ρ t x:=jj.casesOn g (λq=>au some (List.set_set ..)) λl _ _ h=>au x.Fq.bind (funext λ_=>Xs _ h)
theorem jj.slots(g:jj t tx ts):ts.map (·.2)=t.slots:=jj.casesOn g (λ_=>rfl) λl _ _ _=>nK
theorem Xu(is:List Nat):∀{vs:List V}{ρ fJ:aQ},V7 ρ is vs=some fJ->i∉is->fJ[i]?=ρ[i]?:=by
 induction is with
 |nil=>exactλh _=>by rw [←(cF h).2]
 |cons j is ih=>
  intro vs ρ fJ h hi;cases vs with
  |nil=>exact ns h
  |cons v vs=>exact(ih h λhm=>hi (cP _ hm)).trans (qB λe:j=i=>hi (e▸cC))
theorem BY:qE ρ t x=some fJ->BW (qF ρ t.slots) fJ:=Tg.casesOn t (λi h j v e=>by
  obtain⟨h1,h2⟩:=pC _ e;rw [←bV h];exact(qB λe:i=j=>h2 (e▸cC)).trans h1) λis h j v e=>by
  obtain⟨h1,h2⟩:=pC _ e;obtain⟨l,_,h⟩:=bind_some h;exact(Xu is h h2).trans h1
end
theorem uC{α β:Type}{l:List (α×β)}(h:(l.map (·.1)).Nodup){x:α}{i j:β}(hi:(x,i)∈l)(hj:(x,j)∈l):i=j:=by
 induction l with
 |nil=>exact bg hi
 |cons q r ih=>
  have hn:=List.nodup_cons.mp h;have no:∀{k},(x,k)∈r->x≠q.1:=λm e=>hn.1 (List.mem_map.mpr ⟨_,m,e⟩);exact(fY hi).elim (λa=>(fY hj).elim (λb=>au (·.2) (a.trans b.symm)) λb=>absurd (au (·.1) a) (no b)) λa=>(fY hj).elim (λb=>absurd (au (·.1) b) (no a)) λb=>ih hn.2 a b
theorem BZ{α β:Type}{l:List (α×β)}(h:(l.map (·.2)).Nodup){x y:α}{i:β}(hi:(x,i)∈l)(hj:(y,i)∈l):x=y:=uC (l:=l.map λq=>(q.2,q.1)) (by rw [nK];exact h) (List.mem_map.mpr ⟨_,hi,rfl⟩) (List.mem_map.mpr ⟨_,hj,rfl⟩)
theorem sF{α β:Type} [BEq α] [LawfulBEq α](l:List (α×β))(h:(l.map (·.1)).Nodup){x:α}{b:β}(m:(x,b)∈l):l.lookup x=some b:=by
 induction l with
 |nil=>exact bg m
 |cons q r ih=>
  have hn:=List.nodup_cons.mp h;rw [vO];by_cases e:(x==q.1)=true
  ·rw [e]
   exact(fY m).elim (λz=>au some (au (·.2) z).symm) λz=>absurd (List.mem_map.mpr ⟨_,z,eq_of_beq e⟩) hn.1
  ·rw [Bool.eq_false_iff.mpr e]
   exact(fY m).elim (λz=>absurd (z▸AE x:(x==q.1)=true) e) (ih hn.2)
section
variable{w:World}{T:iL}{K:Frag}{fx:Fx}{A:Around}{env aN:PySem.Env}{p:Pt}{v:V}{ρ ρ1:aQ}{E:Value->Shared->Prop}{t:Tg}{tg ts:aF}{tx ix elt:Expr}{ifs:List Expr}{rest:List Comprehension}{sc:Scope}{pos:Pos}{mb:Nat->aQ->M Unit}{body:Addr->PySem.Env->Sem Unit}{cl:List (PySem.Str×Addr)}{L:Addr}
theorem iz.comp{cx:Cx}(ho:iz cx.sl)(S:eO cx sc tg):iz (cx.comp sc tg).sl:=by
 have no:∀{x i},(x,i)∈tg->sc.names.lookup x=some .free->False:=λm e=>NameKind.noConfusion (bV ((S.loc _ m).symm.trans e));exact⟨λx i j hi hj=>(eO.mem hi).elim (λa=>(eO.mem hj).elim (uC S.fst a) λb=>(no a b.2).elim) λa=>(eO.mem hj).elim (λb=>(no b a.2).elim) λb=>ho.fst x i j a.1 b.1,λx y i hi hj=>(eO.mem hi).elim (λa=>(eO.mem hj).elim (BZ S.snd a) λb=>(S.apart (x,i) a (y,i) b.1 rfl).elim) λa=>(eO.mem hj).elim (λb=>(S.apart (y,i) b (x,i) a.1 rfl).elim) λb=>ho.snd x y i a.1 b.1⟩
theorem eO.tgs(S:eO fx.cx sc tg)(ho:iz fx.cx.sl)(abE:∀q∈ts,q∈tg)(hs:aN.scope=(fx.cx.comp sc tg).sc):Qp aN (fx.comp sc tg).cx.sl [aN.locals] ts:=⟨ho.comp S,λa h=>dG h▸cC,λq hq=>⟨nE _ (abE q hq),.inl ⟨by
  unfold Env.kindOf;rw [hs];exact(vF (c:=λn k=>k==.free&&fx.cx.sc.kind==.function&&fx.cx.kind n==some .cell) sc.names).trans (by rw [S.loc _ (abE q hq)];rfl),List.mem_singleton.mpr rfl⟩⟩⟩
noncomputable def Mj(w:World)(A:Around)(env:PySem.Env)(sc:Scope)(cl:List (PySem.Str×Addr))(E:Value->Shared->Prop)(e:Expr)(RC:Value->Addr->Result->Shared->Prop)(a:Value)(s:Shared):Prop:=wp w A (pyIter a) (λit ake=>wp w A (newList []) (λkT akf=>wpAny (model PW w) A (newFunctionEnv sc env.globals cl [] env.qual none .none (some env)) (λaN akg=>codeAny (model PW w) A (.compStart e 0 it kT {aN with scope:=relabel sc env}) (RC kT aN.locals) akg) E akf) E ake) E s
structure B3(w:World)(fx:Fx)(A:Around)(t:Tg)(tg ts:aF)(tx ix elt:Expr)(ifs:List Expr)(rest:List Comprehension)(sc:Scope)(pos:Pos)(mb:Nat->aQ->M Unit)(body:Addr->PySem.Env->Sem Unit):Prop where
 S:eO fx.cx sc tg
 ho:iz fx.cx.sl
 hg:jj t tx ts
 aE:∀q∈ts,q∈tg
 kJ:∀I D aN,compTurn (.ListComp elt (⟨tx,ix,ifs,0⟩::rest) sc pos) 0 (.ref I) (.ref D) aN=oq (.compLoop (.ListComp elt (⟨tx,ix,ifs,0⟩::rest) sc pos) 0 (.ref I) (.ref D) aN) ix.pos I tx aN (body D aN)
 hb:∀ρ D l aN,aN.scope=(fx.cx.comp sc tg).sc->DC w (fx.comp sc tg) A aN (qF ρ (tg.map (·.2))) l D (body D aN) (mb l)
theorem Xv{RC:Value->Addr->Result->Shared->Prop}(c:B3 w fx A t tg ts tx ix elt ifs rest sc pos mb body)(OG:qF ρ (tg.map (·.2))=qF ρ1 t.slots)(P0:bq w [] p p3)(hs:aN.scope=(fx.cx.comp sc tg).sc)(n:sq w (fx.comp sc tg) A aN (qF ρ (tg.map (·.2))) p3)
  (it:jV w p3.h p3.pl I q.2 0 q.1)(hD:p3.pl[l]?=some D)(hl:p.pl.length<=l)(hD0:D≠0)(hI:p.h.get? I=none)(Mh:1066<=I)(RB:I∉m9 aN)(hL:p.h.get? aN.locals=none)(k:JV w p (λkT L s'=>∀f,RC kT L (.ok f) s') (RO (λl=>gv t (mb l) ρ1) q l p3.st)):
  codeAny (model PW w) A (.compStart (.ListComp elt (⟨tx,ix,ifs,0⟩::rest) sc pos) 0 (.ref I) (.ref D) aN) (RC (.ref D) aN.locals) p3.s:=by
 have go:=codeAny_mono (BX (c.kJ I D aN) c.hg (c.S.tgs c.ho c.aE hs) (λx=>OG▸c.hg.qF x) (λx fJ h=>OG▸BY h) (c.hb ρ D l aN hs) hI Mh RB ⟨n,P0.any,it,hD⟩
  (fH.casesOn (motive:=λo=>JV w p (λkT L s'=>∀f,RC kT L (.ok f) s') (o.bind λ_=>M.bind (eK l) (uo l))->Ok w (mN w [aN.locals]) (DB aN (fx.comp sc tg).cx.sl (qF ρ (tg.map (·.2))) l D) p o (λ_ s'=>∀f,RC (.ref D) aN.locals (.ok f) s') λ_ _=>False) (jD (gv t (mb l) ρ1) q.1 q.2 q.2 p3.st)
   (λ_ st3 k _ s' cU P r=>JW hl r.2 hD0 P ⟨hL,r.1.Z2,r.1.JH,let⟨m,hm,_⟩:=r.1.ns;⟨m,hm⟩⟩ k) (λ_ _ _ _ _=>False.elim) id k)) λr s' z=>by
  cases r with
  |ok f=>exact z f
  |error e=>exact z
 exact codeAny_compStart_list go (it.self go)
theorem OH(c:B3 w fx A t tg ts tx ix elt ifs rest sc pos mb body)(OG:qF ρ (tg.map (·.2))=qF ρ1 t.slots)(n:sq w fx A env ρ p)(hc:F7 env sc cl)(r:VR p.h p.pl b a)
  (k:JV w p (λkT L s'=>∀f,RC kT L (.ok f) s') (Mi (λl=>gv t (mb l) ρ1) b p.st)):Mj w A env sc cl E (.ListComp elt (⟨tx,ix,ifs,0⟩::rest) sc pos) RC a p.s:=by
 unfold Mj;refine(yy n.R r).aS _ E (fH.casesOn (motive:=λo=>JV w p (λkT L s'=>∀f,RC kT L (.ok f) s') (o.bind λq=>M.bind (qb (.list [])) (RO (λl=>gv t (mb l) ρ1) q))->Ok w (mN w []) (ItR w p) p o _ E) (items b p.st) (λq Av k it sI plI PI z=>?_) (λ_ _ _ _ _=>False.elim) id k);obtain⟨rfl,z⟩:=z;have nI:=n.step PI;have PD:bq w [] ⟨sI,plI,Av⟩ ⟨{sI with heap:=sI.heap.push (nN [] 0),toks:=sI.toks},plI++[sI.heap.objs.size],Av++[.list []]⟩:=.cell nI.R λg=>⟨[],0,nF _ rfl,.nil,fD _⟩
 have PL:=bq.n9 (W:=[]) PD.rr {cls:=.type "dict",data:=.dict #[]} sI.toks;have nD:=nI.step PD;have nL:=nD.step PL;have hL:=PD.rr.iN;have hLn:=cJ (sI.heap.push (nN [] 0));have FC:=FR.comp n.sc nL.F c.S hc hL PD.rr.qJ (Heap.Ns.new _ _) λq hq e=>let⟨_,_,oc,C8,_⟩:=nD.F.ok q hq;bL C8 (e▸hLn);refine CN (OC (λq hq=>(c.S.names q hq).elim (λh=>h▸rfl) λh=>h.elim (λh=>h▸rfl) λh=>h▸rfl) ?_);refine Xv c OG ((PI.trans PD).trans PL) (yC tg n.sc) ⟨n.vE,n.hd,yC tg n.sc,FC,nL.S,nL.R⟩ (z.qM (.inr λb o e=>dI _ _ _ _ (dI _ _ _ _ e)) (z.out nI.R) pY (PD.trans PL).gr.toGk .nil) (sj nI.R sI.heap.objs.size) ?_ ?_ (cJ _) n.R.qJ (λh=>?_) ((PI.trans PD).gr.Oo PL.gr hL hLn) k
 ·obtain⟨new,e,_⟩:=PI.gr.ext
  rw [←nI.R.len,e,gH];exact bZ ..
 ·exactλe=>absurd (nI.R.qJ) (by rw [e];decide)
 ·obtain⟨_,_,⟨o,e,_⟩,_⟩:=z.fE
  refine(fY h).elim (λq=>?_) λq=>?_
  ·have q:=q
   exact bL (dI _ (nN [] 0) _ _ e) (q▸hLn)
  ·obtain⟨x,hx,q⟩:=List.mem_map.mp q
   obtain⟨_,_,oc,C8,_⟩:=n.F.ok (x.1,x.2) (qD (hc.all x hx));exact bL C8 (q▸cJ _)
end
section
variable{tg ts:aF}
theorem JX{h:Heap}(hn:∃m,h.Ns L m):∀o,h.get? L=some o->vX o=true:=λo e=>by
 obtain⟨m,o',es,ep,e',d',_⟩:=hn;obtain rfl:=bV (e'.symm.trans e);unfold vX;rw [d']
theorem bq.afI(P:bq w (L::W) p p')(z:OF p p'.s p'.pl L)(hs:Heap.SameBut L p'.h h'):bq w W p (p'.at h' p'.s.toks):=⟨let⟨_,t1,e⟩:=P.same;⟨h',t1,by
  show{p'.s with heap:=h',toks:=p'.s.toks}=_
  rw [e]⟩,P.gr.JS z.iN (.same hs),P.rr.om (.same hs) z.out z.low (JX z.ns) _⟩
structure oA(w:World)(fx:Fx)(sc:Scope)(ix e:Expr)(rc:aQ->V->M V):Prop where
 go:∀A env ρ p cl b a RC E,sq w fx A env ρ p->F7 env sc cl->VR p.h p.pl b a->JV w p (λkT L s'=>∀f,RC kT L (.ok f) s') (rc ρ b p.st)->Mj w A env sc cl E e RC a p.s
 kind:sc.kind=.function
 names:∀x∈sc.names,x.2=.local->sc.names.lookup x.1=some .local
 Xp:∀A env ρ p,sq w fx A env ρ p->∃cl,F7 env sc cl
 set:nc ix=false
theorem B3.ok(S:eO fx.cx sc tg){ρf:aQ->aQ}(c:∀A,B3 w fx A t tg ts tx ix elt ifs rest sc pos mb body)(OG:∀ρ,qF ρ (tg.map (·.2))=qF (ρf ρ) t.slots)(DA:nc ix=false):oA w fx sc ix (.ListComp elt (⟨tx,ix,ifs,0⟩::rest) sc pos) (λρ=>Mi λl=>gv t (mb l) (ρf ρ)):=⟨λA env ρ p cl b a RC E n hc r k=>OH (c A) (OG ρ) n hc r k,S.kind,λx hx e=>sF _ S.nodup (e▸hx),λA env ρ p n=>(c A).S.Xp n.sc n.F,DA⟩
theorem Mk(hi:g.is_async=0)(c:oA w fx sc g.iter (.ListComp elt (g::rest) sc pos) rc)(h:fK w fx g.iter m):fK w fx (.ListComp elt (g::rest) sc pos) (λρ=>M.bind (m ρ) (rc ρ)):=λA env ρ p n=>by
 obtain⟨cl,hc⟩:=c.Xp A env ρ p n;obtain⟨tx,ix,ifs,k⟩:=g;obtain rfl:k=0:=hi;rw [eval_ListComp];refine J.jS (λQ E h=>wpAny_comprehension_free rfl (λx=>jl c.set) hc.eq c.kind c.names h) (J.bind (h A env ρ p n) λa b p1 _ P r=>⟨λQ E k=>c.go _ _ _ _ _ _ _ _ _ (n.step P) hc r ?_⟩);refine fH.casesOn (rc ρ b p1.st) (λy st' k D L s' cU P v z f=>?_) (λ_ _=>bu) id k;obtain⟨m,hm⟩:=z.ns;exact⟨m,hm,λh' hs=>k _ _ cU (P.afI z hs) (v.mono ((kD.same hs).gk cU) λb hb o e=>JX z.ns o (dG hb▸e))⟩
end
section
theorem OF.step(z:OF p s' cU L)(P:bq w W ⟨s',cU,st'⟩ p2)(hW:L∉W):OF p p2.s p2.pl L:=by
 obtain⟨m,o,es,ep,e,d,r⟩:=z.ns;obtain⟨o',e',kp⟩:=P.gr.keep L o z.out hW e;exact⟨z.iN,P.gr.toGk.out e z.out,z.low,m,o',es,ep,e',kp.data.trans d,r⟩
theorem FR.afJ(F:FR h pl env sl ρ)(hs:Heap.SameBut L h h')(hL:L∉m9 env)(ns:∃m,h.Ns L m):FR h' pl env sl ρ:=F.iter hL (.same hs) (JX ns)
theorem F9{α β γ:Type}{m:M α}{f:α->M β}{g:β->M γ}(st:St):M.bind (M.bind m f) g st=M.bind m (λa=>M.bind (f a) g) st:=by
 unfold M.bind;cases m st<;>rfl
theorem Xw{g:Comprehension}(hi:g.is_async=0)(c:oA w fx sc g.iter (.ListComp elt (g::rest) sc aci) rc)(h:fK w fx g.iter m)(ht:∀env,env.scope=fx.cx.sc->Qp env fx.cx.sl (m9 env) [q.1]):
  gu w fx (.Assign [uA q] (.ListComp elt (g::rest) sc aci) pos) (λρ=>M.bind (M.bind (m ρ) (rc ρ)) λv=>M.pure (.next (wr ρ q.1.2 v))):=λA env ρ p n=>by
 obtain⟨b,hb⟩:∃b:Bool,swapsWithSole [uA q] (.ListComp elt (g::rest) sc aci) pos.line env=pure b:=⟨_,rfl⟩;cases b with
 |false=>
  exact J.jS (λQ E h=>JR hb rfl rfl h) (J.BS (Mk hi c h A env ρ p n) λa b p1 _ P r=>have n1:=n.step P
   J.congr rfl (J.bind (iA (.aR q) n.vE.hh (ht env n.sc) n1.F n1.R r) λ_ fJ p2 _ P2 F=>(n1.kJ P2 F).next))
 |true=>
  obtain⟨cl,hc⟩:=c.Xp A env ρ p n;obtain⟨tx,ix,ifs,k⟩:=g;obtain rfl:k=0:=hi;refine J.congr (F9 _) (J.jS (λQ E h=>?_) (J.BS (T2:=λa Q E kK=>Mj w A env sc cl E (.ListComp elt (⟨tx,ix,ifs,0⟩::rest) sc aci) (λkT L=>compPost (model PW w) A E (some λv=>assignAll v [assign (uA q) env]) (λ_ s=>Q Flow.next s) kT L) a kK) (h A env ρ p n) λa b p1 _ P r=>⟨λQ E k=>c.go _ _ _ _ _ _ _ _ _ (n.step P) hc r ?_⟩))
  ·rw [exec_Assign_arm,hb]
   refine aV (nX (aV (aP ?_)));rw [az rfl];exact aV (aV (gE (wpAny_comprehension_free rfl (λx=>jl c.set) hc.eq c.kind c.names h) (λ_ _ h=>aP (aP h)) λ_ _ z=>z))
  ·have n1:=n.step P
   refine fH.casesOn (motive:=λo=>Ok w (mS w (m9 env)) (BU fx.cx.sl env) p1 (o.bind λv=>M.pure (.next (wr ρ q.1.2 v))) Q E->JV w p1 (λkT L s'=>∀f,compPost (model PW w) A E (some λv=>assignAll v [assign (uA q) env]) (λ_ s=>Q Flow.next s) kT L (.ok f) s') o) (rc ρ b p1.st) (λy st' k D L s' cU P2 v z f=>?_) (λ_ _=>bu) id k
   have hLW:=n1.F.uB z.iN;have n2:=n1.kJ P2 (n1.F.qM P2.gr.toGk (λb hb o e=>bL e (dG hb▸z.iN)) (λh=>hLW (dG h▸cC)) λq hq h=>hLW (dG h▸cP _ (List.mem_map.mpr ⟨q,hq,rfl⟩)));refine(iA (md:=mS w (m9 env)) (.aR q) n.vE.hh (ht env n.sc) n2.F n2.R v).aS _ E ?_;refineλ_ s3 pl3 P3 F3=>?_;have z3:=z.step P3 hLW;obtain⟨m,hm⟩:=z3.ns;exact⟨m,hm,λh'' hs=>k Flow.next _ pl3 (((P2.mono λa h=>dG h▸cC).trans (P3.mono λa h=>cP _ h)).afI z3 hs) ⟨rfl,F3.afJ hs hLW z3.ns⟩⟩
end
section
variable{tg ts OI:aF}
theorem Ga:compTurn (.ListComp elt [⟨tx,ix,ifs,0⟩] sc pos) 0 (.ref I) (.ref D) aN=oq (.compLoop (.ListComp elt [⟨tx,ix,ifs,0⟩] sc pos) 0 (.ref I) (.ref D) aN) ix.pos I tx aN (JT elt ifs aN D):=by
 rw [compTurn_list];unfold oq;refine xM λ_=>xM λr=>?_;cases r with
 |none=>rfl
 |some u=>
  refine xM λ_=>xM λ_=>?_;refine(xM λok=>?_).trans (bind_assoc ..).symm;cases ok<;>rfl
noncomputable abbrev mbS(mi:aQ->M Bool)(me:aQ->M V)(l:Nat)(ρ:aQ):M Unit:=M.bind (mi ρ) λb=>if b then M.bind (me ρ) λy=>M.bind (eK l) (BA l y)else M.pure ()
theorem Gb(S:eO fx.cx sc tg)(ho:iz fx.cx.sl)(DA:nc ix=false)(ht:jj t tx tg)(hi:OE w (fx.comp sc tg) ifs mi)(he:fK w (fx.comp sc tg) elt me):
  oA w fx sc ix (.ListComp elt [⟨tx,ix,ifs,0⟩] sc pos) (λρ=>Mi λl=>gv t (mbS mi me l) ρ):=B3.ok (ρf:=id) S (λA=>⟨S,ho,ht,λ_ h=>h,λI D aN=>Ga,λρ D l aN _=>vG hi he⟩) (λρ=>by rw [ht.slots];rfl) DA
abbrev e2(elt tx ix ty iy:Expr)(sc:Scope)(pos:Pos):Expr:=.ListComp elt [⟨tx,ix,[],0⟩,⟨ty,iy,[],0⟩] sc pos
noncomputable abbrev aac(elt tx ix ty iy:Expr)(sc:Scope)(pos:Pos)(D:Addr)(aN:PySem.Env):Sem Unit:=do
 let x←eval iy aN
 standAt iy.pos
 let x←foldedSetIterable iy aN x;let it←holding [x] (pyIter x);let _←runOwn (.compStart (e2 elt tx ix ty iy sc pos) 1 it (.ref D) aN) aN
theorem RQ:compTurn (e2 elt tx ix ty iy sc pos) 0 (.ref I) (.ref D) aN=oq (.compLoop (e2 elt tx ix ty iy sc pos) 0 (.ref I) (.ref D) aN) ix.pos I tx aN (aac elt tx ix ty iy sc pos D aN):=by
 show((do
  standAt ix.pos
  match←pyNext (.ref I)with
  |none=>pure (.done .next)
  |some v=>
   letOwnedTupleGo tx (.ref I) v
   assign tx aN v
   let x←eval iy aN
   standAt iy.pos
   let x←foldedSetIterable iy aN x;let _←runOwn (.compStart (e2 elt tx ix ty iy sc pos) 1 (←holding [x] (pyIter x)) (.ref D) aN) aN
   again (.compLoop (e2 elt tx ix ty iy sc pos) 0 (.ref I) (.ref D) aN)):Sem Fin)=_
 unfold oq;refine xM λ_=>xM λr=>?_;cases r with
 |none=>rfl
 |some u=>
  refine xM λ_=>xM λ_=>?_;simp only [bind_assoc,pure_bind]
theorem Gd:compTurn (e2 elt tx ix ty iy sc pos) 1 (.ref I) (.ref D) aN=oq (.compLoop (e2 elt tx ix ty iy sc pos) 1 (.ref I) (.ref D) aN) iy.pos I ty aN (JT elt [] aN D):=by
 show((do
  standAt iy.pos
  match←pyNext (.ref I)with
  |none=>pure (.done .next)
  |some v=>
   letOwnedTupleGo ty (.ref I) v
   assign ty aN v
   (do let _←call (.builtin "list.append") [.ref D,←eval elt aN])
   again (.compLoop (e2 elt tx ix ty iy sc pos) 1 (.ref I) (.ref D) aN)):Sem Fin)=_
 unfold oq;refine xM λ_=>xM λr=>?_;cases r with
 |none=>rfl
 |some u=>rfl
theorem AW
  (h0:codeAny (model PW w) A (.compLoop (e2 elt tx ix ty iy sc pos) 1 it kT aN) R s)
  (h:wpAny (model PW w) A (pyIter it) (λQq s'=>codeAny (model PW w) A (.compLoop (e2 elt tx ix ty iy sc pos) 1 Qq kT aN) R s')
   (notedBy (model PW w) A aN λx s'=>R (.error x) s') s):
  codeAny (model PW w) A (.compStart (e2 elt tx ix ty iy sc pos) 1 it kT aN) R s:=by
 refine codeAny_of_tree ?_;refine wpAny_notedAt ?_;refine aV (wpAny_askSetting (wpAny_ite ?_));split
 ·first
   |exact aV (aP (aP (And.intro rfl h0)))
   |exact aP (And.intro rfl h0)
 ·refine aV (wpAny_rule ?_)
  exact aV (nX (aV (gE h (λQq s' h'=>aP (And.intro rfl h')) λ_ _ x=>x)))
theorem Xx(is:List Nat):∀{ρ:aQ},ρ[i]?=some (some v)->i∉is->(qF ρ is)[i]?=some (some v):=List.rec (motive:=λis=>∀{ρ:aQ},ρ[i]?=some (some v)->i∉is->(qF ρ is)[i]?=some (some v)) (λh _=>h) (λj is ih{ρ}h hi=>ih ((qB λe:j=i=>hi (e▸cC)).trans h) λhm=>hi (cP _ hm)) is
theorem JY:qF ρ (a++b)=qF (qF ρ a) b:=List.foldl_append
theorem RS(DA:nc iy=false)(hg:jj t2 ty OI)(hts:Qp aN fx.cx.sl [aN.locals] OI)(Xy:∀(i:Nat)(v:V),ng[i]?=some (some v)->i∉t2.slots)(h2:fK w fx iy m2)(he:fK w fx elt me):
  DC w fx A aN ng l D (aac elt tx ix ty iy sc pos D aN) (λρ=>M.bind (m2 ρ) λv=>M.bind (items v) λq=>jD (gv t2 (mbS (λ_=>M.pure true) me l) ρ) q.1 q.2 q.2):=λp ρ n jH hl=>J.jS
  (λQ E h=>aV (gE h (λx s1 h=>aV (nX (aV (wpAny_of_eq (jl DA) (aV (iX (gE h (λit s2 h=>aV (wpAny_runOwn (codeAny_mono h λr s' z=>by
   cases r with
   |ok f=>exact aP z
   |error e=>exact z))) λ_ _ z=>z))))))) λ_ _ z=>z))
  (J.BS (h2 A aN ρ p n) λa b p1 _ P r=>have n1:=n.step P
   J.iter (T2:=λit Q E s2=>codeAny (model PW w) A (.compStart (e2 elt tx ix ty iy sc pos) 1 it (.ref D) aN) (λr s'=>match r with|.ok _=>Q () s'|.error e=>cameBackBy (model PW w) A aN E e s') s2) n1.R r λq p2 Q E P2 z k=>by
    have n2:=n1.step P2;have go:codeAny (model PW w) A (.compLoop (e2 elt tx ix ty iy sc pos) 1 (.ref p1.h.objs.size) (.ref D) aN) (λr s'=>match r with|.ok _=>Q () s'|.error e=>cameBackBy (model PW w) A aN E e s') p2.s:=BX Gd hg hts (λx=>hg.qF x) (λx fJ h=>BY h) (vG RN he) (cJ _) n1.R.qJ (n1.F.uB (cJ _)) ⟨n2.kJ (.refl n2.R:bq w [] p2 p2) (n2.F.qV λi v e=>(pC _ e).1),P2.any,z,P2.gr.at (P.gr.at hl)⟩
      (fH.casesOn (motive:=λo=>Ok w (mS w [aN.locals]) (RK aN fx.cx.sl ng) p1 o Q E->Ok w (mN w [aN.locals]) (DB aN fx.cx.sl (qF ρ t2.slots) l D) p1 o Q λ_ _=>False) (jD (gv t2 (mbS (λ_=>M.pure true) me l) ρ) q.1 q.2 q.2 p2.st) (λ_ st3 k u s' cU P' r=>k u s' cU P' (r.1.qV λi v e=>Xx _ (jH i v e) (Xy i v e))) (λ_ _ _ _ _=>False.elim) id k)
    exact AW go (z.self go))
theorem RT(S:eO fx.cx sc (OI++ts))(ho:iz fx.cx.sl)(DA:nc ix=false)(afK:nc iy=false)(ht:jj t tx ts)(ht2:jj t2 ty OI)(h2:fK w (fx.comp sc (OI++ts)) iy m2)(he:fK w (fx.comp sc (OI++ts)) elt me):
  oA w fx sc ix (e2 elt tx ix ty iy sc pos) (λρ=>Mi λl=>gv t (λρ=>M.bind (m2 ρ) λv=>M.bind (items v) λq=>jD (gv t2 (mbS (λ_=>M.pure true) me l) ρ) q.1 q.2 q.2) (qF ρ t2.slots)):=B3.ok S (λA=>⟨S,ho,ht,λ_ h=>kU _ h,λI D aN=>RQ,λρ D l aN hs=>RS afK ht2 (S.tgs ho (λ_ h=>nE _ h) hs) (λi v e hm=>(pC _ e).2 (by
  rw [mh,ht2.slots];exact nE _ hm)) h2 he⟩) (λρ=>by rw [mh,ht2.slots,ht.slots,JY]) DA
end
abbrev yE(x:PySem.Str×Value)(slots:List (PySem.Str×Value)):Sem (ForInStep (List (PySem.Str×Value))):=if(slots.lookup x.1).isNone=true then pure (.yield (slots++[(x.1,x.2)]))else pure (.yield slots)
theorem JZ(a:List (PySem.Str×Value)):(a++b).lookup x=(a.lookup x).or (b.lookup x):=by
 induction a with
 |nil=>rfl
 |cons q r ih=>
  rw [List.cons_append,vO,vO];cases x==q.1
  ·exact ih
  ·rfl
theorem afL(l:List (PySem.Str×Value)):∀{slots:List (PySem.Str×Value)},∃s',forIn l slots yE=pure s'/\∀x,s'.lookup x=(slots.lookup x).or (l.lookup x):=by
 induction l with
 |nil=>exactλ{slots}=>⟨slots,rfl,λx=>(Option.or_none ..).symm⟩
 |cons q l ih=>
  intro slots;rw [List.forIn_cons];cases e:(slots.lookup q.1).isNone with
  |true=>
   obtain⟨s',h1,h2⟩:=ih;refine⟨s',?_,λx=>?_⟩
   ·unfold yE
    rw [e];exact h1
   ·rw [h2,JZ,Option.or_assoc]
    congr 1
    rw [vO,vO];cases x==q.1<;>rfl
  |false=>
   obtain⟨s',h1,h2⟩:=ih;refine⟨s',?_,λx=>?_⟩
   ·unfold yE
    rw [e];exact h1
   ·rw [h2,vO]
    cases e2:x==q.1
    ·rfl
    ·rw [eq_of_beq e2]
     cases e3:slots.lookup q.1
     ·rw [e3]at e;cases e
     ·rfl
theorem yF{ns:List PySem.Str}(hn:ns.Nodup):∀{vs:List Value}{i:Nat}{n:PySem.Str},ns[i]?=some n->(ns.zip vs).lookup n=vs[i]?:=by
 induction ns with
 |nil=>exactλ{_ _ _}h=>ns h
 |cons m ns ih=>
  intro vs i n h;obtain⟨h1,h2⟩:=List.nodup_cons.mp hn;cases vs with
  |nil=>exact List.getElem?_nil.symm
  |cons v vs=>
   rw [List.zip_cons_cons,vO];cases i with
   |zero=>
    obtain rfl:=bV h;rw [AE];rfl
   |succ i=>
    have h:=h;rw [beq_false_of_ne λe:n=m=>h1 (e▸pX h)];exact ih h2 h
theorem acj(ns:List PySem.Str):∀{us:List Value}{f:PySem.Str->Option Value},ns.length=us.length->(∀(i:Nat)(n:PySem.Str),ns[i]?=some n->f n=us[i]?)->ns.filterMap (λn=>(f n).map (n,·))=ns.zip us:=by
 induction ns with
 |nil=>exactλ_ _=>rfl
 |cons n ns ih=>
  intro us f hl hf;cases us with
  |nil=>exact absurd hl (Bw _)
  |cons u us=>
   rw [List.filterMap_cons,hf 0 n rfl];exact au ((n,u)::·) (ih (kZ hl) λi n h=>hf (i+1) n h)
def RU(p:Arguments)(ns:List PySem.Str):Prop:=∃as kd df,p=⟨[],as,none,[],kd,none,df⟩/\as.map (·.arg)=ns
theorem ack{ns:List PySem.Str}(hn:ns.Nodup)(Aw:ns.length=m+dv.length)(hg:vals.length=m+j)(hj:j<=dv.length):
  (ns.take m).filter (λn=>((ns.zip vals).lookup n).isNone)=[]/\∃s',forIn ((ns.drop m).zip dv) (ns.zip vals) yE=pure s'/\ns.filterMap (λn=>(s'.lookup n).map (n,·))=ns.zip (vals++dv.drop j):=by
 refine⟨List.filter_eq_nil_iff.mpr λn hm q=>?_,?_⟩
 ·obtain⟨i,hi⟩:=List.mem_iff_getElem?.mp hm
  have AP:=(rO hi).1;rw [List.length_take]at AP;have AP:=eB AP (AH ..);rw [List.getElem?_take_of_lt AP]at hi;rw [yF hn hi,qA (hg▸eB AP (bZ ..))]at q;exact ff q
 ·obtain⟨s',e1,e2⟩:=afL ((ns.drop m).zip dv)
  refine⟨s',e1,acj ns (by rw [gH,List.length_drop,Aw,hg,nH,I5 hj]) λi n hi=>?_⟩
  rw [e2,yF hn hi];by_cases h:i<vals.length
  ·rw [vM h,qA h];rfl
  ·have h:=Nat.not_lt.mp h
   have hi2:=hg▸h;have hm:(ns.drop m)[i-m]?=some n:=by
    rw [List.getElem?_drop,I5 (aH (bZ ..) hi2)];exact hi
   rw [Az h,List.getElem?_eq_none h,yF (hn.sublist (List.drop_sublist ..)) hm,List.getElem?_drop,hg,Nat.sub_add_eq,I5 (Nat.le_sub_of_add_le' hi2)];rfl
theorem ifn{α:Type}{M:Model}{A:Around}{E:Value->Shared->Prop}{Q:α->Shared->Prop}{s:Shared}{c:Prop} [Decidable c]{a b:Sem α}(h:¬c)(k:wpAny M A b Q E s):wpAny M A (if c then a else b) Q E s:=by
 rw [ay h];exact k
theorem OJ{s:Shared}{fd:FuncData}{as kd df}{vals dv dw:List Value}{os:Option (Array Value)}{r s':List (PySem.Str×Value)}{m:Nat}(hd:∀(M:Model)(A:Around)(E:Value->Shared->Prop)(Q:Option (Array Value)->Shared->Prop),Q os s->wpAny M A (seqItems? fd.defaults) Q E s)(ho:(os.getD #[]).toList=dv)
  (h1:vals.length<=(as.map (·.arg)).length) (hw:dv.drop (dv.length-(as.map (·.arg)).length)=dw) (Aw:(as.map (·.arg)).length-dw.length=m) (hm:((as.map (·.arg)).take m).filter (λn=>(((as.map (·.arg)).zip vals).lookup n).isNone)=[])
  (hl:forIn (((as.map (·.arg)).drop m).zip dw) ((as.map (·.arg)).zip vals) yE=pure s') (hr:(as.map (·.arg)).filterMap (λn=>(s'.lookup n).map (n,·))=r):BindsTo s {fd with params:=⟨[],as,none,[],kd,none,df⟩} ⟨vals,[]⟩ r:=λM A E Q hq=>by
 subst hr hw Aw ho;refine aV (aP (aV (hd _ _ _ _ (ifn (λh=>Nat.not_lt.mpr h1 (bx (ah h).1)) (ifn (λh=>?_) (aV (wpAny_of_eq hl (aP ?_))))))))
 ·have h:(!(List.filter (λn=>(((as.map (·.arg)).zip vals).lookup n).isNone) (List.take ((as.map (·.arg)).length-((os.getD #[]).toList.drop ((os.getD #[]).toList.length-(as.map (·.arg)).length)).length) (as.map (·.arg)))).isEmpty)=true:=h
  rw [hm]at h;exact ff h
 ·show Q (List.filterMap (λn=>(s'.lookup n).map (n,·)) (as.map (·.arg)++[])) s
  rw [kX];exact hq
theorem yG{s:Shared}{fd:FuncData}{ns:List PySem.Str}{vals dv:List Value}{os:Option (Array Value)}(P:RU fd.params ns)(hn:ns.Nodup)(hd:∀(M:Model)(A:Around)(E:Value->Shared->Prop)(Q:Option (Array Value)->Shared->Prop),Q os s->wpAny M A (seqItems? fd.defaults) Q E s)(ho:(os.getD #[]).toList=dv)
  (Aw:ns.length=m+dv.length) (hg:vals.length=m+j) (hj:j<=dv.length):BindsTo s fd ⟨vals,[]⟩ (ns.zip (vals++dv.drop j)):=by
 obtain⟨as,kd,df,e,rfl⟩:=P;obtain⟨hm,s',hl,hr⟩:=ack hn Aw hg hj;have e2:fd={fd with params:=⟨[],as,none,[],kd,none,df⟩}:=by rw [←e]
 rw [e2];exact OJ hd ho (Aw▸hg▸cG hj m) (by rw [Aw,Nat.sub_eq_zero_of_le (fC ..)];rfl) (by rw [Aw,Nat.add_sub_cancel]) hm hl hr
theorem yH(names:List (PySem.Str×NameKind)):∀(n:Nat)(kT:List (PySem.Str×Addr)),(cellsFrom n names kT).map (·.1)=((names.filter (λp=>p.2==.cell)).map (·.1)).reverse++kT.map (·.1):=by
 induction names with
 |nil=>exactλ_ _=>rfl
 |cons q r ih=>
  intro n kT;unfold cellsFrom;rw [List.filter_cons];by_cases h:(q.2==NameKind.cell)=true
  ·rw [az h,az h,ih,List.map_cons,List.map_cons,List.reverse_cons,rQ];rfl
  ·rw [ay h,ay h,ih]
abbrev acm:=PySem.Str->Option Value
theorem laid{K:PySem.Str->Prop} [DecidablePred K]{B:List (PySem.Str×Value)->acm->acm}(h0:∀m,B [] m=m)(h1:∀n v r m,B ((n,v)::r) m=B r (if K n thenλy=>if y=n then some v else m y else m))(hk:K x)(b:List (PySem.Str×Value)):
  ∀m:acm,(x∉b.map (·.1)->B b m x=m x)/\((b.map (·.1)).Nodup->(x,v)∈b->B b m x=some v):=by
 induction b with
 |nil=>exactλm=>⟨λ_=>by rw [h0],λ_=>bg⟩
 |cons q r ih=>
  intro m;obtain⟨n,u⟩:=q;rw [h1];refine⟨λh=>?_,λhn h=>?_⟩
  ·rw [(ih _).1 λhm=>h (cP _ hm)]
   by_cases hK:K n
   ·rw [az hK];exact ay λe:x=n=>h (e▸cC)
   ·rw [ay hK]
  ·have hn:=List.nodup_cons.mp hn
   refine(fY h).elim (λe=>?_) λh=>(ih _).2 hn.2 h;obtain rfl:x=n:=au (·.1) e
   obtain rfl:v=u:=au (·.2) e
   rw [(ih _).1 hn.1,az hk];exact az rfl
theorem OL{k:PySem.Str->Option NameKind}(hk:k x=some .local)(hn:(b.map (·.1)).Nodup)(h:(x,v)∈b):bindL k b m x=some v:=(laid (λ_=>rfl) (λ_ _ _ _=>rfl) hk b m).2 hn h
theorem OM{k:PySem.Str->Option NameKind}(hk:k x≠some .local)(hn:(b.map (·.1)).Nodup)(h:(x,v)∈b):bindC k b m x=some v:=(laid (λ_=>rfl) (λ_ _ _ _=>au (bindC k _) (ite_not ..).symm) hk b m).2 hn h
structure Xz(w:World)(a:Addr)(cx:Cx)(body:List Stmt)(ns:List PySem.Str)(dv:List Value)(fd:FuncData):Prop where
 get:∃o,(HB w.params).get? a=some o/\o.data=.func fd
 code:(HB w.params).CodeRec fd.code fd.qualname
 body:fd.body=.stmts body
 clo:fd.closure=[]
 sc:fd.scope=cx.sc
 JG:fd.globals=mainGlobals
 blt:fd.builtins=builtinsNs
 Qt:RU fd.params ns
 seq:∃os:Option (Array Value),(os.getD #[]).toList=dv/\∀s:Shared,fy (HB w.params) s.heap->∀(M:Model)(A:Around)(E:Value->Shared->Prop)(Q:Option (Array Value)->Shared->Prop),Q os s->wpAny M A (seqItems? fd.defaults) Q E s
structure FnF(w:World)(a:Addr)(f:Fn)(cx:Cx)(body:List Stmt)(ns:List PySem.Str)(dv:List Value):Prop where
 fn:∃fd,Xz w a cx body ns dv fd
 dvr:∀h pl,fy (HB w.params) h->(∀a∈pl,a=0\/1066<=a)->dH h pl f.m6 dv
 acn:ns.length=f.gP
 aco:f.m6.length<=f.gP
 kind:cx.sc.kind=.function
 co:cx.sc.isCoroutine=false
 gen:cx.sc.isGenerator=false
 nd:(cx.sc.names.map (·.1)).Nodup
 nsd:ns.Nodup
 so:iz cx.sl
 Qt:∀(i:Nat)(x:PySem.Str),ns[i]?=some x->(x,i)∈cx.sl
 aD:∀p∈cx.sl,cx.sc.names.lookup p.1=some .local\/cx.sc.names.lookup p.1=some .cell
theorem XA{n i:Nat}{P:Prop}(e:(List.replicate n (none:Option V))[i]?=some (some v)):P:=ns (List.eq_of_mem_replicate (pX e)).symm
theorem acp{ns:List PySem.Str}{i:Nat}(h1:ns[i]?=some x)(h2:vs[i]?=some v):(x,v)∈ns.zip vs:=pX (List.getElem?_zip_eq_some.mpr ⟨h1,h2⟩)
abbrev Laid(p:Pt)(aN:PySem.Env)(bs:List (PySem.Str×Value))(s1:Shared):Prop:=InCallC p.s aN.locals (bindL aN.kindOf bs λ_=>none) aN.cells (bindC aN.kindOf bs λ_=>none) s1
section
variable{ns:List PySem.Str}{p:Pt}
theorem pD(hc:p.h.objs.size<=c):p.h.get? c=none:=by
 cases e:p.h.get? c with
 |none=>rfl
 |some o=>exact absurd (ua e) (Nat.not_lt.mpr hc)
theorem FR.RV(F:FnF w a f cx body ns dv)(D:Xz w a cx body ns dv fd)(R:RR w p)(r:dH s1.heap p.pl args us)(hl:args.length=ns.length)(n:Nat)(x:Laid p (callEnvC fd p.h.objs.size a) (ns.zip us) s1):
  FR s1.heap p.pl (callEnvC fd p.h.objs.size a) cx.sl (args.map some++List.replicate n none):=by
 have hk:∀y,(callEnvC fd p.h.objs.size a).kindOf y=cx.sc.names.lookup y:=λy=>au (λsc:Scope=>sc.names.lookup y) D.sc;have kd:(callEnvC fd p.h.objs.size a).scope.kind=.function:=(au Scope.kind D.sc).trans F.kind;have cn:((callEnvC fd p.h.objs.size a).cells.map (·.1)).Nodup:=by
  show((cellsFrom (p.h.objs.size+1) fd.scope.names []).map (·.1)).Nodup
  rw [yH,D.sc,List.map_nil,kX];exact List.pairwise_reverse.mpr ((F.nd.sublist ((E8).map _)).imp λq e=>q e.symm)
 have cs:∀{y},(callEnvC fd p.h.objs.size a).kindOf y=some .cell->((callEnvC fd p.h.objs.size a).cells.lookup y).isSome=true:=λkc=>cellsFrom_some fd.scope.names (p.h.objs.size+1) [] (.inl kc);have hE:(callEnvC fd p.h.objs.size a).locals=p.h.objs.size:=rfl;have hg:(callEnvC fd p.h.objs.size a).globals=mainGlobals:=D.JG;have hb:(callEnvC fd p.h.objs.size a).builtins=builtinsNs:=D.blt;generalize callEnvC fd p.h.objs.size a=aN at*;have hzn:((ns.zip us).map (·.1)).Nodup:=by
  rw [List.map_fst_zip (cK (hl.symm.trans r.length))];exact F.nsd
 have cr:∀{y c},(y,c)∈aN.cells->qm s1.heap p.pl aN.locals c (bindC aN.kindOf (ns.zip us) (λ_=>none) y):=λ{y c}hm=>have lt:=hE▸x.above y c hm
  ⟨⟨R.free (pD (fT lt)),aH R.qJ (fT lt),hE▸Nat.ne_of_gt lt⟩,x.cell y c (sF _ cn hm)⟩
 have aae:∀{i:Nat}{y:PySem.Str}{o:Option Value},(y,i)∈cx.sl->(∀u,(y,u)∈ns.zip us->o=some u)->i9 s1.heap p.pl (args.map some++List.replicate n none) i o:=λ{i y o}hy ho v e=>by
  by_cases hi:i<args.length
  ·rw [vM (by rw [cT];exact hi),Fe,qA hi]at e
   obtain⟨u,hu,rv⟩:=r.get (qA hi);have Aw:=qA (hl▸hi);exact⟨u,ho u (F.so.snd _ _ _ (F.Qt i _ Aw) hy▸acp Aw hu),bV (bV e)▸rv⟩
  ·rw [Az (by rw [cT];exact Nat.not_lt.mp hi)]at e
   exact XA e
 refine⟨kd,hg,hb,hE▸R.iN,hE▸R.qJ,⟨_,x.toInCall.ns,λy i hy Mg=>aae hy λu hu=>OL Mg hzn hu⟩,λy i hy Mg=>?_,λy z c hy hz=>name_of_addr x.apart (qD hy) (qD hz),λq hq=>⟨_,cr hq⟩⟩;have kc:=(F.aD _ hy).elim (λh=>absurd ((hk y).trans h) Mg) (hk y).trans;obtain⟨c,hc⟩:=Option.isSome_iff_exists.mp (cs kc);exact⟨.inl kc,c,_,hc,cr (qD hc),aae hy λu hu=>OM Mg hzn hu⟩
end
theorem jK(hd:o.data=.fields vs)(hc:o.cls≠.type "range"):vX o=true:=by
 unfold vX;rw [hd];exact bne_iff_ne.mpr hc
abbrev frs(fs:List PySem.Env):List Addr:=fs.filterMap (·.frame)
def Slot(fr X:List Addr)(h h':Heap):Prop:=∀b o,b∉X->h.get? b=some o->∃o',h'.get? b=some o'/\(o'.data=o.data/\o'.cls=o.cls)/\(b∉fr->o'=o)
theorem Slot.trans(a:Slot fr X h1 h2)(b:Slot fr Y h2 h3):Slot fr (X++Y) h1 h3:=λc o hc e=>by
 obtain⟨o1,e1,d1,x1⟩:=a c o (λq=>hc (nE _ q)) e;obtain⟨o2,e2,d2,x2⟩:=b c o1 (λq=>hc (kU _ q)) e1;exact⟨o2,e2,⟨d2.1.trans d1.1,d2.2.trans d1.2⟩,λq=>(x2 q).trans (x1 q)⟩
theorem Slot.of_same(k:∀b,b≠a->h'.get? b=h.get? b):Slot fr [a] h h':=λb o hb e=>⟨o,(k b λq=>hb (q▸cC)).trans e,⟨rfl,rfl⟩,λ_=>rfl⟩
theorem XC(h:1066<=a):(HB P).get? a=none:=by
 cases e:(HB P).get? a with
 |none=>rfl
 |some o=>
  have:=ua e;rw [absHeap_size]at this;exact absurd this (Nat.not_lt.mpr h)
theorem BJ.fun{w:World}(fs:List PySem.Env):BJ h pl fs->h.FunFrames (HB w.params) fs:=List.rec (λ_=>bu) (λenv r ih F=>let⟨k,L,o,h1,h2,h3,h4,es,n,h6⟩:=F env cC;⟨k,⟨L,o,h1,XC h2,h4,λvs q=>Data.noConfusion (h6.symm.trans q)⟩,ih λe he=>F e (cP _ he)⟩) fs
section
variable{E:Value->Shared->Prop}
theorem BJ.mem(F:BJ h pl fs)(hb:b∈frs fs):(1066<=b/\b∉0::pl)/\∃o,h.get? b=some o/\ZW o:=by
 obtain⟨e,he,hf⟩:=List.mem_filterMap.mp hb;obtain⟨_,L,o,h1,h2,h3,h4⟩:=F e he;obtain rfl:=bV (h1.symm.trans hf);exact⟨⟨h2,h3⟩,o,h4⟩
theorem bq.slot(P:bq w W p0 p)(F:BJ p.h p.pl fs)(sl:Slot (frs fs) X p.h h')(hX:∀x∈X,(x∉0::p.pl/\1066<=x)/\p0.h.get? x=none/\∀o,p.h.get? x=some o->vX o=true):bq w W p0 (p.at h' p.s.toks):=by
 have kp:∀b o,b∉X->p.h.get? b=some o->∃o',h'.get? b=some o'/\rW o o':=λb o hb e=>by
  obtain⟨o',e',d,x⟩:=sl b o hb e;refine⟨o',e',d.1,d.2,λhn=>x λhm=>?_⟩;obtain⟨_,o2,e2,es,n,d2⟩:=F.mem hm;obtain rfl:=bV (e.symm.trans e2);exact hn es n d2
 have ex:∀b o,b∉X->b∉frs fs->p.h.get? b=some o->h'.get? b=some o:=λb o hb hf e=>by
  obtain⟨o',e',d,x⟩:=sl b o hb e;rw [e',x hf]
 have old:∀{b o},p0.h.get? b=some o->b∉X:=λe q=>bL e (hX _ q).2.1;have low:=λb o lt e=>ex b o (λq=>absurd (hX b q).1.2 (Nat.not_le.mpr lt)) (λq=>absurd (F.mem q).1.1 (Nat.not_le.mpr lt)) e;refine⟨let⟨_,t1,e⟩:=P.same;⟨h',t1,by
  show{p.s with heap:=h',toks:=p.s.toks}=_
  rw [e]⟩,⟨⟨P.gr.ext,λb o hb hW e=>?_⟩,λb o hb e=>?_⟩,⟨λb o e=>low b o ?_ (P.rr.base b o e),P.rr.len,P.rr.nodup,P.rr.low,P.rr.jk,λl c a e1 e2=>(P.rr.cells l c a e1 e2).mono P.rr (⟨C1 _ _,λb o _ hb e=>kp b o hb e⟩:Gk X p.h p.pl h' p.pl) (λb hb o e=>(hX b hb).2.2 o e) λo eo=>?_⟩⟩
 ·obtain⟨o1,e1,k1⟩:=P.gr.keep b o hb hW e
  obtain⟨o2,e2,k2⟩:=kp b o1 (old e) e1;exact⟨o2,e2,k1.trans k2⟩
 ·obtain⟨o1,e1,k1⟩:=P.gr.AN b o hb e
  obtain⟨o2,e2,k2⟩:=kp b o1 (old e) e1;exact⟨o2,e2,λd=>k2.w (k1 d)⟩
 ·have:=ua e
  rwa [absHeap_size]at this
 ·have hm:=pX e2
  exact(P.rr.low a hm).elim (λz=>low a o (z▸by decide) eo) λ_=>ex a o (λq=>(hX a q).1.1 (cP _ hm)) (λq=>(F.mem q).1.2 (cP _ hm)) eo
theorem DE{Q:Value->Shared->Prop}(Wf:A.frames=some (e0::jJ))(hl:s.heap.FunFrames base (e0::jJ))(h0:e0.frame=env.frame)(hf:env.frame=some L)
  (h:∀h',Heap.SlotsOnly (frs (e0::jJ)) s.heap h'->Q (.ref L) {s with heap:=h'}):wp w A (PySem.frameOf env) Q E s:=by
 unfold PySem.frameOf;refine aV (wpAny_frameEnvs Wf ?_);rw [List.dropWhile_cons_of_neg (by rw [h0,bne_self_eq_false];exact eH)]
 unfold frameObject;refine aV (aV (wpAny_readyFrames_fun hl λiY B4=>aP ?_));rw [h0.trans hf];exact aP (h iY B4)
structure XD(h h':Heap)(a T:Addr):Prop where
 size:h.objs.size<=T
 exc:∃oe vs,h'.get? a=some oe/\oe.cls=.ref 80/\oe.data=.fields vs/\vs[1]?=some (.ref T)
 tb:∃oT ts,h'.get? T=some oT/\oT.data=.fields ts/\ts[3]?=some .none/\oT.cls≠.type "range"
 ne:T≠a
theorem Ge{base:Heap}{s:Shared}{oe:Obj}{vs:Array Value}{head:Value}{b:Bool}(Wf:A.frames=some (e0::jJ))(hl:s.heap.FunFrames base (e0::jJ))(h0:e0.frame=env.frame)(hf:env.frame=some L)
  (he:s.heap.get? a=some oe)(hcl:oe.cls=.ref 80)(hd:oe.data=.fields vs)(N5:1<vs.size)(hen:a∉frs (e0::jJ))(h:∀h' T,Slot (frs (e0::jJ)) [a] s.heap h'->XD s.heap h' a T->Q () {s with heap:=h'}):
  wp w A (do let f←frameOf env;let pl←entryPlaceOf L b;let v←EntryCells.newEntry head f .none (rawInt L) .none pl;setField (.ref a) 1 v) (λ_ s'=>wp w A (setFlight (.ref a) none) Q E s') E s:=by
 refine aV (DE Wf hl h0 hf λiY B4=>aV (wpAny_entryPlaceOf λpl hpl=>?_));unfold EntryCells.newEntry newFields;refine aV (CN ?_ (hpl.sizeOk5 _ _ _ _ _));have e1:iY.get? a=some oe:=(B4.2.1 a hen).trans he;have hTe:iY.objs.size≠a:=Nat.ne_of_gt (ua e1);generalize(if pl.isEmpty then List.replicate 6 Value.none else pl)=tl;have hOs:3<(head::Value.ref L::.none::rawInt L::.none::tl).toArray.size:=by
  rw [I6];exact Nat.succ_lt_succ (Nat.succ_lt_succ (Nat.succ_lt_succ (Nat.zero_lt_succ _)))
 have hOd:({cls:=.type "traceback",dict:=none,data:=.fields (head::Value.ref L::.none::rawInt L::.none::tl).toArray}:Obj).data=.fields (head::Value.ref L::.none::rawInt L::.none::tl).toArray:=rfl;have hOc:({cls:=.type "traceback",dict:=none,data:=.fields (head::Value.ref L::.none::rawInt L::.none::tl).toArray}:Obj).cls=.type "traceback":=rfl;have T2:(iY.push {cls:=.type "traceback",dict:=none,data:=.fields (head::Value.ref L::.none::rawInt L::.none::tl).toArray}).get? iY.objs.size=some _:=nF iY rfl;have e2:(iY.push {cls:=.type "traceback",dict:=none,data:=.fields (head::Value.ref L::.none::rawInt L::.none::tl).toArray}).get? a=some oe:=tX _ e1;have kp:∀c o,iY.get? c=some o->(iY.push {cls:=.type "traceback",dict:=none,data:=.fields (head::Value.ref L::.none::rawInt L::.none::tl).toArray}).get? c=some o:=λc o=>tX _;show wpAny _ _ (setField (.ref a) 1 (.ref iY.objs.size)) _ _ {s with heap:=iY.push {cls:=.type "traceback",dict:=none,data:=.fields (head::Value.ref L::.none::rawInt L::.none::tl).toArray}}
 generalize({cls:=.type "traceback",dict:=none,data:=.fields (head::Value.ref L::.none::rawInt L::.none::tl).toArray}:Obj)=O at*;generalize(head::Value.ref L::.none::rawInt L::.none::tl).toArray=items at*;generalize iY.push O=h2 at*;refine wpAny_setField e2 hd N5 ?_;have d3:=Obj.data_mapFields hd (·.setIfInBounds 1 (Value.ref iY.objs.size))
 have e3:=NK (Obj.mapFields (·.setIfInBounds 1 (Value.ref iY.objs.size))) e2 (Obj.isFreed_of_fields d3)
 have afN:∀c,c≠a->(h2.update a (Obj.mapFields (·.setIfInBounds 1 (Value.ref iY.objs.size)))).get? c=h2.get? c:=λc hc=>NJ _ _ hc.symm
 have T3:=(afN _ hTe).trans T2;generalize h2.update a (Obj.mapFields (·.setIfInBounds 1 (Value.ref iY.objs.size)))=h3 at*
 have x3:(vs.setIfInBounds 1 (Value.ref iY.objs.size))[1]?=some (.ref iY.objs.size):=Array.getElem?_setIfInBounds_self_of_lt N5;unfold setFlight;refine aV (wpAny_field e3 d3 x3 ?_);rw [az (bne_iff_ne.mpr Value.noConfusion:(Value.ref iY.objs.size !=Value.none)=true)];refine wpAny_setField T3 hOd hOs ?_;have d4:=Obj.data_mapFields hOd (·.setIfInBounds 3 Value.none)
 have afO:∀c,c≠iY.objs.size->(h3.update iY.objs.size (Obj.mapFields (·.setIfInBounds 3 Value.none))).get? c=h3.get? c:=λc hc=>NJ _ _ hc.symm
 refine h _ iY.objs.size (λc o hc ec=>?_) ⟨cK B4.1.symm,⟨_,_,(afO a hTe.symm).trans e3,(Obj.cls_mapFields _ _).trans hcl,d3,x3⟩,⟨_,_,NK _ T3 (Obj.isFreed_of_fields d4),d4,Array.getElem?_setIfInBounds_self_of_lt hOs,by
  rw [Obj.cls_mapFields,hOc];exact CZ (by decide)⟩,hTe⟩
 obtain⟨sl,e'⟩:=B4.2.2 c o ec;have hce:c≠a:=λq=>hc (q▸cC);exact⟨{o with slots:=sl},((afO c (t8 (ua e'))).trans (afN c hce)).trans (kp c _ e'),⟨rfl,rfl⟩,λq=>bV (e'.symm.trans ((B4.2.1 c q).trans ec))⟩
end
section
variable{E:Value->Shared->Prop}
theorem BJ.no(F:BJ h pl fs)(e:h.get? a=some o)(d:o.data=.fields vs):a∉frs fs:=λhm=>by
 obtain⟨_,o2,e2,es,n,d2⟩:=F.mem hm;obtain rfl:=bV (e.symm.trans e2);exact Data.noConfusion (d.symm.trans d2)
theorem XD.RW(P:bq w W p0 p)(n:XD p.h h' a T)(ha:a∉0::p.pl/\1066<=a)(hf:p0.h.get? a=none):iI p0.h h' p.pl a:=
 have free:=pD n.size;have out:=P.rr.free free
 ⟨T,⟨n.exc,n.tb,n.ne,aH P.rr.qJ n.size,out,ha.2,ha.1⟩,hf,P.gr.Oo (.refl W p.h p.pl) out free⟩
theorem Ml(P:bq w W p0 p)(Wf:A.frames=some (e0::jJ))(F:BJ p.h p.pl (e0::jJ))(hee:e0.frame=env.frame)(hf:env.frame=some L)(t:iI p0.h p.h p.pl a\/OA p0.h p.h p.pl a)
  (h:∀h',bq w W p0 (p.at h' p.s.toks)->iI p0.h h' p.pl a->Q () {p.s with heap:=h'}):wp w A (noteFrame (.ref a) env) (λ_ s'=>wp w A (setFlight (.ref a) none) Q E s') E p.s:=by
 unfold noteFrame;rw [hf];rcases t with⟨T,t,qa,qT⟩|⟨⟨oe,vs,q1,q2,q3,q4⟩,qo,qa⟩
 ·obtain⟨oe,vs,q1,q2,q3,q4⟩:=t.exc
  obtain⟨oT,ts,r1,r2,r3,r4⟩:=t.tb;refine aV (wpAny_field q1 q3 q4 ?_);rw [az (bne_iff_ne.mpr Value.noConfusion:(Value.ref T !=Value.none)=true)];refine aV (wpAny_field r1 r2 r3 ?_);rw [ay (λq=>Value.noConfusion (eq_of_beq q):¬(Value.none==rawInt L)=true)];refine aV (wpAny_setField r1 r2 (Array.getElem?_eq_some_iff.mp r3).1 ?_);have oth:∀b,b≠T->(p.h.update T (Obj.mapFields (·.setIfInBounds 3 Value.none))).get? b=p.h.get? b:=λb hb=>NJ _ _ hb.symm
  have N5:(p.h.update T (Obj.mapFields (·.setIfInBounds 3 Value.none))).objs.size=p.h.objs.size:=Heap.size_after_update ..
  have F':BJ (p.h.update T (Obj.mapFields (·.setIfInBounds 3 Value.none))) p.pl (e0::jJ):=λe he=>by
   obtain⟨k,L',o,h1,h2,h3,h4,es,n,h6⟩:=F e he;exact⟨k,L',o,h1,h2,h3,(oth L' λq=>by
    obtain rfl:=bV (r1.symm.trans (q▸h4));exact Data.noConfusion (r2.symm.trans h6)).trans h4,es,n,h6⟩
  refine Ge (base:=HB w.params) Wf (BJ.fun _ F') hee hf ((oth a t.ne.symm).trans q1) q2 q3 (Array.getElem?_eq_some_iff.mp q4).1 (F.no q1 q3) λh' T' sl n=>?_;refine h h' (P.slot F ((Slot.of_same oth).trans sl) λx hx=>?_) (XD.RW P ⟨N5▸n.size,n.exc,n.tb,n.ne⟩ ⟨t.out,t.low⟩ qa);refine(tW hx).elim (λhx=>?_) λhx=>?_
  ·obtain rfl:=dG hx
   exact⟨⟨t.abI,t.afz⟩,qT,λo e=>bV (r1.symm.trans e)▸jK r2 r4⟩
  ·obtain rfl:=dG hx
   exact⟨⟨t.out,t.low⟩,qa,λo e=>bV (q1.symm.trans e)▸jK q3 (q2▸Value.noConfusion)⟩
 ·refine aV (wpAny_field q1 q3 q4 ?_)
  rw [ay (show¬(Value.none !=Value.none)=true by decide)]
  refine Ge (base:=HB w.params) Wf (BJ.fun _ F) hee hf q1 q2 q3 (Array.getElem?_eq_some_iff.mp q4).1 (F.no q1 q3) λh' T' sl n=>?_;refine h h' (P.slot F sl λx hx=>?_) (n.RW P qo qa);obtain rfl:=dG hx;exact⟨qo,qa,λo e=>bV (q1.symm.trans e)▸jK q3 (q2▸Value.noConfusion)⟩
theorem RX(P:bq w W p0 p)(Wf:A.frames=some (env::jJ))(F:BJ p.h p.pl (env::jJ))(hf:env.frame=some L)(t:iI p0.h p.h p.pl a\/OA p0.h p.h p.pl a)
  (h:∀h',bq w W p0 (p.at h' p.s.toks)->iI p0.h h' p.pl a->Q () {p.s with heap:=h'}):wp w A (PySem.leaving env (.ref a)) Q E p.s:=aV (Ml P Wf F rfl hf t h)
end
def Mm(w:World):Prop:=(HB w.params).NoLimit
theorem AS.body(a:AS (d+1) A fs):Z3 d (A.deeper env) (env::fs):=⟨a.hh,by
  show A.depth+1+2*d+4<1000;have:=a.depth;omega,by
  show A.units+3+20*d+100<9900;have:=a.units;omega,Around.frames_deeper a.frames⟩
section
variable{ns:List PySem.Str}
theorem Mn(RY:Mm w)(F:FnF w a f cx body ns dv)(D:Xz w a cx body ns dv fd)(RZ:A.depth<recursionLimit)(R:RR w p)(bt:BindsTo p.s fd ⟨vs,[]⟩ (ns.zip us))
  (h:∀s1,Laid p (callEnvC fd p.h.objs.size a) (ns.zip us) s1->wp w (A.deeper (callEnvC fd p.h.objs.size a)) (execs body (callEnvC fd p.h.objs.size a)) (λf s'=>Rr (.ok (.ret (match f with|.ret v=>v|_=>.none))) s')
     (λe s'=>wp w (A.deeper (callEnvC fd p.h.objs.size a)) (PySem.leaving (callEnvC fd p.h.objs.size a) e) (λ_ s''=>Rr (.error e) s'') (λe' s''=>Rr (.error e') s'') s') s1):codeAny (model PW w) A (.call (.ref a) ⟨vs,[]⟩) Rr p.s:=by
 obtain⟨o,ho,afP⟩:=D.get;refine codeAny_call_function RZ (R.base _ _ ho) afP ((au Scope.isCoroutine D.sc).trans F.co) ((au Scope.isGenerator D.sc).trans F.gen) D.body (D.code.keeps R.base) (bt _ _ _ _ ?_);rw [D.clo];refine wpAny_newFunctionEnv_cells ((au Scope.kind D.sc).trans F.kind) (λx hx=>?_) λenv he s' x=>?_
 ·obtain⟨i,hi⟩:=List.mem_iff_getElem?.mp (List.of_mem_zip hx).1
  have z:=au (λsc:Scope=>sc.names.lookup x.1) D.sc;exact(F.aD _ (F.Qt i x.1 hi)).imp z.trans λh=>⟨z.trans h,cellsFrom_some _ _ _ (.inl (z.trans h))⟩
 ·subst he
  exact⟨(Heap.NoLimit.keeps RY R.base).keeps x.toInCall.keep,codeAny_func (h s' x)⟩
theorem J0(F:FnF w a f cx body ns dv)(D:Xz w a cx body ns dv fd)(am:AS (d+1) A fs)(Fs:BJ p.h p.pl fs)(R:RR w p)(ry:∀{h:Heap},Gr [] p.h p.pl h p.pl->fy (HB w.params) h->dH h p.pl ys us)(hl:ys.length=ns.length)(n:Nat)(x:Laid p (callEnvC fd p.h.objs.size a) (ns.zip us) s1):
  bq w [] p ⟨s1,p.pl,p.st⟩/\sq w ⟨d,callEnvC fd p.h.objs.size a::fs,cx⟩ (A.deeper (callEnvC fd p.h.objs.size a)) (callEnvC fd p.h.objs.size a) (ys.map some++List.replicate n none) ⟨s1,p.pl,p.st⟩:=by
 obtain⟨h1,tk,rfl,kp⟩:=x.done;have P1:bq w [] p (p.at h1 tk):=.push R h1 tk kp;have F1:=FR.RV F D R (ry P1.gr P1.rr.base) hl n x;refine⟨P1,am.body,⟨_,_,rfl,rfl⟩,D.sc,F1,λe he=>(fY he).elim (λhe=>?_) λhe=>Fs.mono P1.gr e he,P1.rr⟩;subst he;obtain⟨m,⟨ol,es,ep,hol,hdl,_⟩,_⟩:=F1.ns;exact⟨λq=>ScopeKind.noConfusion (F1.kind.symm.trans q),_,ol,rfl,F1.JH,F1.Z2,hol,es,ep,hdl⟩
theorem sG(x:Laid p (callEnvC fd p.h.objs.size a) (ns.zip us) s1)(hb:b∈m9 (callEnvC fd p.h.objs.size a)):p.h.get? b=none:=pD ((fY hb).elim (λq=>cK q.symm) λq=>by
 obtain⟨y,hy,q⟩:=List.mem_map.mp q;exact q▸fT (x.above y.1 y.2 hy))
theorem afR(RY:Mm w)(F:FnF w a f cx body ns dv)(hf:FT a=some f)(hb:∀fs,AU w ⟨d,fs,cx⟩ body (eZ T (aS T FT d) f.body))(am:AS (d+1) A fs)(Fs:BJ p.h p.pl fs)(R:RR w p)(r:dH p.h p.pl xs vs):
  J w (mE w) VR (cd w A (.ref a) ⟨vs,[]⟩) (aS T FT (d+1) a xs) p:=J.C4 λg hg=>J.jF λhc=>by
 obtain rfl:=bV (hf.symm.trans hg);obtain⟨fd,D⟩:=F.fn;obtain⟨os,WU,hsq⟩:=D.seq;have hd:=(F.dvr p.h p.pl R.base R.low).length;have c1:=bx (ah hc).1;have c2:=bx (ah hc).2;have e1:=(NL (hd▸F.aco)).symm;have c3:=Nat.sub_le_of_le_add (r.length▸hd▸c2);obtain⟨j,hj⟩:=Nat.le.dest c3;have hjd:=Nat.le_of_add_le_add_left (hj▸r.length▸e1▸c1);have bt:=yG D.Qt F.nsd (hsq p.s R.base) WU (F.acn.trans e1) hj.symm hjd;have ej:f.m6.length-(f.gP-xs.length)=j:=by
  rw [hd,r.length,←hj,e1,Nat.add_sub_cancel,Nat.add_sub_add_left,Nat.sub_sub_self hjd]
 have ry:∀{h:Heap},Gr [] p.h p.pl h p.pl->fy (HB w.params) h->dH h p.pl (xs++f.m6.drop j) (vs++dv.drop j):=λg k=>(r.c8 g).append ((F.dvr _ _ k R.low).drop j);have hyl:(xs++f.m6.drop j).length=ns.length:=by
  rw [gH,List.length_drop,F.acn,r.length,←hj,hd,nH,I5 hjd];exact e1.symm
 refine⟨λQ E k=>Mn RY F D (di (aH (bZ ..) (bZ ..)) am.depth) R bt λs1 x=>?_⟩;obtain⟨P1,n1⟩:=J0 F D am Fs R ry hyl (f.slots-f.gP) x;have iN:=λb hb=>sG x (b:=b) hb;have hE:(xs++f.m6.drop j).map some++List.replicate (f.slots-f.gP) none=f.env xs:=by
  unfold Fn.env;rw [ej]
 rw [hE]at n1;have hfm:(callEnvC fd p.h.objs.size a).frame=some p.h.objs.size:=rfl;generalize callEnvC fd p.h.objs.size a=aN at*;have P02:∀{s' cU st'},bq w (m9 aN) ⟨s1,p.pl,p.st⟩ ⟨s',cU,st'⟩->bq w [] p ⟨s',cU,st'⟩:=λP2=>have P:=P1.any.trans P2;⟨P.same,P.gr.drop λb hb=>.inr (iN b hb),P.rr⟩;refine(hb (aN::fs) _ _ _ _ n1).aS _ _ (fH.casesOn (motive:=λo=>Ok w (mE w) VR p (o.bind abr) Q E->Ok w (mS w (m9 aN)) (BU cx.sl aN) ⟨s1,p.pl,p.st⟩ o _ _) (eZ T (aS T FT d) f.body (f.env xs) p.st) (λfl st' k f' s' cU P2 r=>?_) (λst' k e s' cU z=>?_) id k)
 ·revert k r
  refine Fl.casesOn fl (λfJ k r=>?_) λv k r=>?_
  ·obtain⟨rfl,_⟩:=r
   exact k .none s' cU (P02 P2) .none
  ·obtain⟨u,rfl,r⟩:=r
   exact k u s' cU (P02 P2) r
 ·obtain⟨ea,rfl,P2,t⟩:=z
  exact RX (P02 P2) (Around.frames_deeper am.frames) (n1.S.mono P2.gr) hfm (t.imp (λt=>t.Oq P1.gr P2.gr) λt=>t.Oq P1.gr P2.gr) λh' P tr=>k _ _ cU ⟨ea,rfl,P,tr⟩
end
noncomputable def Mp(v:V):Option Const:=V.casesOn (motive_1:=λ_=>Option Const) v (some .none) (λb=>some (.bool b)) (λi=>some (.int i)) (λs=>some (.str (toS s))) (λ_=>none) (λ_=>none) (λ_ _=>none) (λ_=>none) (λ_ _=>none) (λ_=>none) (λ_=>none) (λ_=>none) (λ_=>none)
noncomputable def DF(v:V)(c:Const):Bool:=decide (Mp v=some c)&&(!(v.fG==3)||PyData.strOk (toS v.Jf))
noncomputable def aR{α:Type}(l:List α)(k:α->Bool):Bool:=l.casesOn (motive:=λ_=>Bool) false λx r=>r.casesOn (motive:=λ_=>Bool) (k x) λ_ _=>false
noncomputable def Mq{α:Type}(l:List α)(k:α->α->Bool):Bool:=l.casesOn (motive:=λ_=>Bool) false λx r=>aR r (k x)
theorem aR.ok{α:Type}{l:List α}{k:α->Bool}{P:List α->Prop}(h:aR l k=true)(f:∀x,k x=true->P [x]):P l:=by
 cases l with
 |nil=>exact ff h
 |cons x r=>
  cases r with
  |nil=>exact f x h
  |cons _ _=>exact ff h
theorem Mq.ok{α:Type}{l:List α}{k:α->α->Bool}{P:List α->Prop}(h:Mq l k=true)(f:∀x y,k x y=true->P [x,y]):P l:=by
 cases l with
 |nil=>exact ff h
 |cons x r=>exact aR.ok (P:=λr=>P (x::r)) h (f x)
noncomputable def bM{α:Type}(o:Option α)(k:α->Bool):Bool:=o.casesOn (motive:=λ_=>Bool) false k
theorem bM.ok{α:Type}{o:Option α}{k:α->Bool}(h:bM o k=true):∃a,o=some a/\k a=true:=by
 cases o with
 |none=>exact ff h
 |some a=>exact⟨a,rfl,h⟩
noncomputable def R0(x:Expr):Option (PySem.Str×Pos):=by cases x;(case Name=>exact some (id,pos));all_goals exact none
theorem R0.ok:R0 x=some q->x=.Name q.1 q.2:=by cases x;(case Name=>exactλh=>by cases h;rfl);all_goals exact ns
noncomputable def Fq(x:Expr):Option (List Expr×Nat×Pos):=by cases x;(case Tuple=>exact some (elts,k,pos));all_goals exact none
theorem Fq.ok:Fq x=some q->x=.Tuple q.1 q.2.1 q.2.2:=by cases x;(case Tuple=>exactλh=>by cases h;rfl);all_goals exact ns
noncomputable def tgN(is:List Nat):List Expr->Option (List JQ):=List.rec (motive:=λ_=>List Expr->Option (List JQ)) (λxs=>if xs.isEmpty then some []else none) (λi _ r xs=>xs.casesOn (motive:=λ_=>Option (List JQ)) none λx xs=>(R0 x).bind λq=>(r xs).map λl=>((q.1,i),q.2)::l) is
noncomputable def ON(t:Tg)(x:Expr):Option aF:=Tg.casesOn (motive:=λ_=>Option aF) t (λi=>(R0 x).map λq=>[(q.1,i)]) λis=>(Fq x).bind λq=>if is.Nodup then(tgN is q.1).map (·.map (·.1))else none
theorem tgN.ok(is:List Nat):∀{xs:List Expr}{l:List JQ},tgN is xs=some l->ixs l=is/\Dy l=xs:=List.rec (motive:=λis=>∀{xs:List Expr}{l:List JQ},tgN is xs=some l->ixs l=is/\Dy l=xs) (λ{xs l}h=>by
 obtain⟨h',rfl⟩:=cF h;exact⟨rfl,(qz h').symm⟩) (λi is ih{xs l}h=>by
 cases xs with
 |nil=>exact ns h
 |cons x xs=>
  obtain⟨q,e1,h⟩:=bind_some h;obtain⟨l',e2,rfl⟩:=Option.map_eq_some_iff.mp h;obtain⟨h1,h2⟩:=ih e2;exact⟨au (i::·) h1,by rw [R0.ok e1,←h2];rfl⟩) is
theorem ON.ok:ON t x=some ts->jj t x ts:=Tg.casesOn t (λi h=>by
 obtain⟨q,e,rfl⟩:=Option.map_eq_some_iff.mp h;rw [R0.ok e];exact .aR ((q.1,i),q.2)) λis h=>by
 obtain⟨q,e,h⟩:=bind_some h;rw [Fq.ok e];by_cases hn:is.Nodup
 ·rw [az hn]at h
  obtain⟨l,e2,rfl⟩:=Option.map_eq_some_iff.mp h;obtain⟨rfl,e3⟩:=tgN.ok is e2;rw [←e3];exact .nM l _ _ hn
 ·rw [ay hn]at h;exact ns h
abbrev XE(cx:Cx)(sc:Scope)(tg:aF):Prop:=sc.kind=.function/\(∀p∈sc.names,p.2=.local\/p.2=.free\/p.2=.globalImplicit)/\(sc.names.map (·.1)).Nodup/\(∀p∈tg,sc.names.lookup p.1=some .local)/\(tg.map (·.1)).Nodup/\(tg.map (·.2)).Nodup/\(∀p∈tg,∀q∈cx.sl,q.2≠p.2)/\∀p∈sc.names,p.2=.free->(cx.kind p.1=some .cell\/cx.kind p.1=some .free)/\(cx.sl.lookup p.1).isSome=true
noncomputable def OO(cx:Cx)(sc:Scope)(tg:aF):Bool:=decide (XE cx sc tg)
theorem OO.ok{tg:aF}(h:OO cx sc tg=true):eO cx sc tg:=
 have h:=bx h
 ⟨h.1,h.2.1,h.2.2.1,h.2.2.2.1,h.2.2.2.2.1,h.2.2.2.2.2.1,h.2.2.2.2.2.2.1,h.2.2.2.2.2.2.2⟩
noncomputable def XG(k:V)(x:Option Expr):Option uz:=x.bind λx=>by cases x;(case Constant=>exact if Mp k=some value/\k.fG=3/\PyData.strOk (toS k.Jf)=true then some (k.Jf,k_1,pos)else none);all_goals exact none
theorem XG.ok:XG k x=some q->k=.str q.1/\x=some (yt q)/\PyData.strOk (toS q.1)=true:=by
 cases x with
 |none=>exact ns
 |some x=>
  cases x
  (case Constant=>
   intro h;obtain⟨⟨h1,h2,h3⟩,rfl⟩:=cF h;refine⟨Dh h2,?_,h3⟩;rw [Dh h2]at h1;exact au some (au (λc=>Expr.Constant c k_1 pos) (bV h1).symm))
  all_goals exact ns
noncomputable def Gf(ks:List V):List (Option Expr)->Option (List uz):=List.rec (motive:=λ_=>List (Option Expr)->Option (List uz)) (λxs=>if xs.isEmpty then some []else none) (λk _ r xs=>xs.casesOn (motive:=λ_=>Option (List uz)) none λx xs=>(XG k x).bind λq=>(r xs).map (q::·)) ks
theorem Gf.ok(ks:List V):∀{xs:List (Option Expr)}{l:List uz},Gf ks xs=some l->(ks=l.map λq=>V.str q.1)/\(xs=l.map λq=>some (yt q))/\∀q∈l,PyData.strOk (toS q.1)=true:=List.rec (motive:=λks=>∀{xs:List (Option Expr)}{l:List uz},Gf ks xs=some l->(ks=l.map λq=>V.str q.1)/\(xs=l.map λq=>some (yt q))/\∀q∈l,PyData.strOk (toS q.1)=true) (λ{xs l}h=>by
 obtain⟨h',rfl⟩:=cF h;exact⟨rfl,qz h',λ_=>bg⟩) (λk ks ih{xs l}h=>by
 cases xs with
 |nil=>exact ns h
 |cons x xs=>
  obtain⟨q,e1,h⟩:=bind_some h;obtain⟨l',e2,rfl⟩:=Option.map_eq_some_iff.mp h;obtain⟨h1,h2,h3⟩:=ih e2;obtain⟨k1,k2,k3⟩:=XG.ok e1;exact⟨by rw [k1,h1];rfl,by rw [k2,h2];rfl,λy hy=>(fY hy).elim (λe=>e▸k3) (h3 y)⟩) ks
noncomputable def aaf(b:Bool)(o:BoolOp):Bool:=decide (Ot b=o)
noncomputable def R3(e:E):Option V:=E.casesOn (motive_1:=λ_=>Option V) e some (λ_=>none) (λ_=>none) (λ_=>none) (λ_=>none) (λ_ _=>none) (λ_ _ _=>none) (λ_=>none) (λ_=>none) (λ_=>none) (λ_=>none) (λ_ _ _=>none) (λ_ _ _=>none) (λ_ _=>none) (λ_ _=>none) (λ_ _ _=>none) (λ_ _=>none) (λ_ _ _=>none) (λ_ _ _ _=>none) none (λ_ _ _ _ _=>none)
noncomputable def jW(e:E):Cx->Expr->Bool:=E.rec (motive_1:=λ_=>Cx->Expr->Bool) (motive_2:=λ_=>Cx->List Expr->Bool) (motive_3:=λ_=>Cx->Option Expr->Bool)
 (λv cx x=>eE x (λc _ _=>DF v c)||f5 x λn _=>cx.mG n v)
 (λi cx x=>f5 x λn _=>cx.yr n i)
 (λes ih cx x=>w7 x λxs _ _=>Nat.ble es.length 64&&ih cx xs)
 (λes ih cx x=>uy x λxs _=>Nat.ble es.length 64&&ih cx xs)
 (λes ih cx x=>uy x λxs _=>Nat.ble es.length 64&&ih cx xs)
 (λks vs ih cx x=>Ds x λkeys vals _=>bM (Gf ks keys) λl=>(Nat.beq l.length vs.length&&Nat.ble l.length 15)&&ih cx vals)
 (λop _ _ ia ib cx x=>wY x λl o r _=>decide (r7 op=o)&&(ia cx l&&ib cx r))
 (λ_ ia cx x=>gq x λo y _=>decide (UnaryOp.USub=o)&&ia cx y)
 (λ_ ia cx x=>gq x λo y _=>decide (UnaryOp.Not=o)&&ia cx y)
 (λ_ ih cx x=>lg x λo xs _=>aaf true o&&ih cx xs)
 (λ_ ih cx x=>lg x λo xs _=>aaf false o&&ih cx xs)
 (λop _ _ ia ib cx x=>pq x λl os rs _=>aR os λo=>aR rs λr=>decide (BG op=o)&&(!(behindInMarks o r)&&(ia cx l&&ib cx r)))
 (λ_ _ _ it ia ib cx x=>wZ x λu y z _=>it cx u&&(ia cx y&&ib cx z))
 (λ_ n ih cx x=>b5 x λy a _=>!(sr y)&&(decide (toS n=a)&&(WY.contains n&&ih cx y)))
 (λ_ _ ia ib cx x=>dB x λy z _=>!(Dq z)&&(ia cx y&&ib cx z))
 (λ_ _ _ ia ib ic cx x=>dB x λy s _=>ia cx y&&w9 s λl u q _=>q.isNone&&(ib cx l&&ic cx u))
 (λf _ ih R4 cx x=>oj x λy xs ks _=>bM (R3 f) Dw&&(ks.isEmpty&&(!(Dr y==20)&&(ih cx y&&(R4 cx xs&&Nat.ble xs.length 24)))))
 (λ_ n _ ih R4 cx x=>oj x λf xs ks p=>ks.isEmpty&&(b5 f λy a ap=>!(sr y)&&(decide (toS n=a)&&((ap.endLine==p.line)&&(ih cx y&&(R4 cx xs&&Nat.ble xs.length 24))))))
 (λ_ t _ _ acr acs akr cx x=>ig x λex gs sc _=>aR gs λg=>bM (ON t g.target) λts=>decide (g.is_async=0)&&(!(nc g.iter)&&(acs cx g.iter&&(OO cx sc ts&&(acr (cx.comp sc ts) ex&&akr (cx.comp sc ts) g.ifs)))))
 (λ_ _=>true)
 (λ_ t _ t2 _ acr acs afT cx x=>ig x λex gs sc _=>Mq gs λg h=>bM (ON t g.target) λts=>bM (ON t2 h.target) λOI=>(decide (g.is_async=0)&&(decide (h.is_async=0)&&(g.ifs.isEmpty&&h.ifs.isEmpty)))&&((!(nc g.iter)&&!(nc h.iter))&&(acs cx g.iter&&(OO cx sc (OI++ts)&&(afT (cx.comp sc (OI++ts)) h.iter&&acr (cx.comp sc (OI++ts)) ex)))))
 (λ_ xs=>xs.isEmpty)
 (λ_ _ ih uf cx xs=>xs.casesOn (motive:=λ_=>Bool) false λx r=>!(mH x)&&(ih cx x&&uf cx r))
 (λ_ x=>x.isNone)
 (λ_ ih cx x=>bM x (ih cx)) e
noncomputable def afU(es:List E)(cx:Cx)(xs:List Expr):Bool:=jW (.and es) cx (.BoolOp .And xs default)
noncomputable def aks(o:Option E)(cx:Cx)(x:Option Expr):Bool:=jW (.V8 .jU none o) cx (.Subscript (.List [] default) (.Slice none x none default) default)
section
variable{K:Frag}
theorem iO.is(h:iO (sA w T C fx) es xs):OE w fx xs (evI T C es):=iO.rec RN (λa b _ ih=>Xq b.2 ih) h
noncomputable def fH.val{α:Type}(o:fH α):Option α:=fH.casesOn (motive:=λ_=>Option α) o (λx _=>some x) (λ_=>none) none
theorem okI{α:Type}{a b:α}{s t:St}(h:fH.ok a s=.ok b t):a=b:=bV (au fH.val h)
theorem akt{α:Type}{b:α}{s t:St}{P:Prop}(h:fH.exc s=.ok b t):P:=ns (au fH.val h)
theorem fH.Gg{α:Type}{o:fH α}{g:α->M (List V)}{n:Nat}{vs:List V}{st':St}(h:∀a st vs st',o=.ok a st->g a st=.ok vs st'->vs.length=n):o.bind g=.ok vs st'->vs.length=n:=by
 cases o with
 |ok a st=>exact h a st vs st' rfl
 |exc _=>exact akt
 |aJ=>exact stk
theorem R5{ρ:aQ}(es:List E):∀{st st':St}{vs:List V},qc T C es ρ st=.ok vs st'->vs.length=es.length:=List.rec (motive:=λes=>∀{st st':St}{vs:List V},qc T C es ρ st=.ok vs st'->vs.length=es.length)
 (λ{st st' vs}h=>(au List.length (okI h)).symm) (λe es ih{st st' vs}h=>fH.Gg (g:=λv=>M.bind (qc T C es ρ) λvs=>M.pure (v::vs)) (λa st vs st' _ h=>fH.Gg (g:=λvs=>M.pure (a::vs)) (λus s2 vs st' e1 h=>(au List.length (okI h)).symm.trans (au (·+1) (ih e1))) h) h) es
theorem J1(h:Nat.ble es.length 64=true):∀ρ st vs st',qc T C es ρ st=.ok vs st'->vs.length<=AM:=λρ st vs st' e=>R5 es e▸aH (I3 h) (by decide)
theorem cA(S:nO T w)(h:fK w fx x (fV T C e))(he:∀env eN,isTrue x env eN=(do let v←eN;standAt x.pos;holding [v] (truthy v)))(ht:∀ρ m,BB T C e ρ m=M.bind m (gK T)):sA w T C fx e x:=⟨h,(funext λρ=>ht ρ _:(λρ=>BB T C e ρ (fV T C e ρ))=λρ=>M.bind (fV T C e ρ) (gK T))▸Rv S h he⟩
theorem Gh(h:DF v c=true):fK w fx (.Constant c k pos) (λ_=>M.pure v):=by
 have h1:=bx (ah h).1;have h2:=(ah h).2;revert h1 h2;exact V.casesOn v (λe _=>bV e▸WZ) (λb e _=>bV e▸W2) (λi e _=>bV e▸abJ) (λs e h=>bV e▸abK h) (λ_=>ns) (λ_=>ns) (λ_ _=>ns) (λ_=>ns) (λ_ _=>ns) (λ_=>ns) (λ_=>ns) (λ_=>ns) (λ_=>ns)
theorem R3.ok{e:E}{v:V}:R3 e=some v->e=.br v:=E.casesOn (motive_1:=λe=>R3 e=some v->e=.br v) e (λ_ h=>au E.br (bV h)) (λ_=>ns) (λ_=>ns) (λ_=>ns) (λ_=>ns) (λ_ _=>ns) (λ_ _ _=>ns) (λ_=>ns) (λ_=>ns) (λ_=>ns) (λ_=>ns) (λ_ _ _=>ns) (λ_ _ _=>ns) (λ_ _=>ns) (λ_ _=>ns) (λ_ _ _=>ns) (λ_ _=>ns) (λ_ _ _=>ns) (λ_ _ _ _=>ns) ns (λ_ _ _ _ _=>ns)
abbrev eV(w:World)(T:iL)(C:Nat->List V->M V)(d:Nat)(fs:List PySem.Env)(gl:PySem.Str->Option V)(e:E):Prop:=∀(cx:Cx)(x:Expr),cx.gl=gl->iz cx.sl->jW e cx x=true->sA w T C ⟨d,fs,cx⟩ e x
abbrev ni(w:World)(T:iL)(C:Nat->List V->M V)(d:Nat)(fs:List PySem.Env)(gl:PySem.Str->Option V)(es:List E):Prop:=∀(cx:Cx)(xs:List Expr),cx.gl=gl->iz cx.sl->afU es cx xs=true->iO (sA w T C ⟨d,fs,cx⟩) es xs
abbrev afV(w:World)(T:iL)(C:Nat->List V->M V)(d:Nat)(fs:List PySem.Env)(gl:PySem.Str->Option V)(o:Option E):Prop:=∀(cx:Cx)(x:Option Expr),cx.gl=gl->iz cx.sl->aks o cx x=true->OOk w ⟨d,fs,cx⟩ x (evO T C o)
theorem afW(S:SF w T K gl)(v:V):eV w T C d fs gl (.br v):=λcx x hg ho h=>by
 rcases Bool.or_eq_true_iff.mp h with h|h
 ·exact eE.ok h λc k p h=>cA S.sd (Gh h) (λ_ _=>rfl) λ_ _=>rfl
 ·exact f5.ok h λn p h=>cA S.sd (L7 S hg h) (λ_ _=>rfl) λ_ _=>rfl
theorem afX(S:SF w T K gl)(es:List E)(ih:ni w T C d fs gl es):eV w T C d fs gl (.aC es):=λcx x hg ho h=>w7.ok h λxs k p h=>cA S.sd (abM (J1 (ah h).1) (ih cx xs hg ho (ah h).2).eOk) (λ_ _=>rfl) λ_ _=>rfl
theorem acu(S:SF w T K gl)(ks:List V)(vs:List E)(ih:ni w T C d fs gl vs):eV w T C d fs gl (.dict ks vs):=λcx x hg ho h=>Ds.ok h λkeys vals p h=>by
 obtain⟨l,e,h⟩:=bM.ok h;obtain⟨h1,h3⟩:=ah h;obtain⟨h1,h2⟩:=ah h1;obtain⟨rfl,rfl,ok⟩:=Gf.ok ks e;have hl:=Nat.eq_of_beq_eq_true h1;have a:=ih cx vals hg ho h3;refine cA S.sd ?_ (λ_ _=>rfl) λ_ _=>rfl;cases l with
 |cons q l=>exact Xc ok (List.cons_ne_nil _ _) a hl (I3 h2)
 |nil=>
  cases a with
  |nil=>exact Rx
  |cons _ _ _=>exact absurd hl (Fc _)
theorem afY(S:SF w T K gl)(i:Nat):eV w T C d fs gl (.var i):=λcx x hg ho h=>f5.ok h λn p h=>cA S.sd (abL h) (λ_ _=>rfl) λ_ _=>rfl
theorem acv(S:SF w T K gl)(es:List E)(ih:ni w T C d fs gl es):eV w T C d fs gl (.list es):=λcx x hg ho h=>uy.ok h λxs p h=>cA S.sd (W3 (J1 (ah h).1) (ih cx xs hg ho (ah h).2).eOk) (λ_ _=>rfl) λ_ _=>rfl
theorem XH(S:SF w T K gl)(es:List E)(ih:ni w T C d fs gl es):eV w T C d fs gl (.j7 es):=λcx x hg ho h=>uy.ok h λxs p h=>cA S.sd (Ru (J1 (ah h).1) (ih cx xs hg ho (ah h).2).eOk) (λ_ _=>rfl) λ_ _=>rfl
theorem afZ(S:SF w T K gl)(op:xT)(a b:E)(ia:eV w T C d fs gl a)(ib:eV w T C d fs gl b):eV w T C d fs gl (.d9 op a b):=λcx x hg ho h=>wY.ok h λl o r p h=>by
 obtain rfl:=bx (ah h).1;have h:=ah (ah h).2;exact cA S.sd (abN (ia cx l hg ho h.1).1 (ib cx r hg ho h.2).1) (λ_ _=>rfl) λ_ _=>rfl
theorem af0(S:SF w T K gl)(a:E)(ia:eV w T C d fs gl a):eV w T C d fs gl (.neg a):=λcx x hg ho h=>gq.ok h λo y p h=>by
 obtain rfl:=bx (ah h).1;exact cA S.sd (abO (ia cx y hg ho (ah h).2).1) (λ_ _=>rfl) λ_ _=>rfl
theorem af1(S:SF w T K gl)(a:E)(ia:eV w T C d fs gl a):eV w T C d fs gl (.not a):=λcx x hg ho h=>gq.ok h λo y p h=>by
 obtain rfl:=bx (ah h).1;have a:=ia cx y hg ho (ah h).2;exact⟨abP S.sd a.1,abU a.2⟩
theorem af2(S:SF w T K gl)(es:List E)(ih:ni w T C d fs gl es):eV w T C d fs gl (.and es):=λcx x hg ho h=>lg.ok h λo xs p h=>by
 obtain rfl:=bx (ah h).1;have a:=ih cx xs hg ho (ah h).2;exact⟨BK (a.bOk S.sd),BL a.aOk⟩
theorem aku(S:SF w T K gl)(es:List E)(ih:ni w T C d fs gl es):eV w T C d fs gl (.or es):=λcx x hg ho h=>lg.ok h λo xs p h=>by
 obtain rfl:=bx (ah h).1;have a:=ih cx xs hg ho (ah h).2;exact⟨BK (a.bOk S.sd),BL a.aOk⟩
theorem af3(S:SF w T K gl)(op:COp)(a b:E)(ia:eV w T C d fs gl a)(ib:eV w T C d fs gl b):eV w T C d fs gl (.aM op a b):=λcx x hg ho h=>pq.ok h λl os rs p h=>aR.ok (P:=λos=>sA w T C ⟨d,fs,cx⟩ (.aM op a b) (.Compare l os rs p)) h λo h=>aR.ok (P:=λrs=>sA w T C ⟨d,fs,cx⟩ (.aM op a b) (.Compare l [o] rs p)) h λr h=>by
 obtain rfl:=bx (ah h).1;have h2:=ah (ah h).2;have h3:=ah h2.2;have ra:=ia cx l hg ho h3.1;have rb:=ib cx r hg ho h3.2;exact⟨abQ S (ie h2.1) ra.1 rb.1,abR S (ie h2.1) ra.1 rb.1⟩
theorem af4(S:SF w T K gl)(t a b:E)(it:eV w T C d fs gl t)(ia:eV w T C d fs gl a)(ib:eV w T C d fs gl b):eV w T C d fs gl (.ite t a b):=λcx x hg ho h=>wZ.ok h λu y z p h=>by
 have h2:=ah (ah h).2;have rt:=it cx u hg ho (ah h).1;have ra:=ia cx y hg ho h2.1;have rb:=ib cx z hg ho h2.2;exact⟨abS rt.2 ra.1 rb.1,abT rt.2 ra.2 rb.2⟩
theorem acw(S:SF w T K gl)(o:E)(n:Nm)(ih:eV w T C d fs gl o):eV w T C d fs gl (.attr o n):=λcx x hg ho h=>b5.ok h λy a p h=>by
 have h2:=ah (ah h).2;obtain rfl:=bx h2.1;have h3:=ah h2.2;exact cA S.sd (W4 S (ie (ah h).1) (List.contains_iff_mem.mp h3.1) (ih cx y hg ho h3.2).1) (λ_ _=>rfl) λ_ _=>rfl
theorem af5(S:SF w T K gl)(a b:E)(ia:eV w T C d fs gl a)(ib:eV w T C d fs gl b):eV w T C d fs gl (.aE a b):=λcx x hg ho h=>dB.ok h λy z p h=>have h2:=ah (ah h).2
 cA S.sd (abV S (ie (ah h).1) (ia cx y hg ho h2.1).1 (ib cx z hg ho h2.2).1) (λ_ _=>rfl) λ_ _=>rfl
theorem af6(S:SF w T K gl)(o:E)(l u:Option E)(io:eV w T C d fs gl o)(il:afV w T C d fs gl l)(iu:afV w T C d fs gl u):eV w T C d fs gl (.V8 o l u):=λcx x hg ho h=>dB.ok h λy z p h=>w9.ok (P:=λz=>sA w T C ⟨d,fs,cx⟩ (.V8 o l u) (.Subscript y z p)) (ah h).2 λa b q ps h2=>by
 obtain rfl:=Option.isNone_iff_eq_none.mp (ah h2).1;have h3:=ah (ah h2).2;exact cA S.sd (abW S (io cx y hg ho (ah h).1).1 (il cx a hg ho h3.1) (iu cx b hg ho h3.2)) (λ_ _=>rfl) λ_ _=>rfl
theorem acy(S:SF w T K gl)(hC:FY w d C)(f:E)(args:List E)(ih:eV w T C d fs gl f)(is:ni w T C d fs gl args):eV w T C d fs gl (.call f args):=λcx x hg ho h=>oj.ok h λy xs ks p h=>by
 obtain⟨v,e,hv⟩:=bM.ok (ah h).1;obtain rfl:=R3.ok e;have h2:=ah (ah h).2;obtain rfl:=qz h2.1;have h3:=ah h2.2;have h4:=ah h3.2;have h5:=ah h4.2;have a:=is cx xs hg ho h5.1;exact cA S.sd (Xf S hC (ie h3.1) hv a.noStar (ih cx y hg ho h4.1).1 a.eOk) (λ_ _=>rfl) λ_ _=>rfl
theorem acz(S:SF w T K gl)(hC:FY w d C)(o:E)(n:Nm)(args:List E)(ih:eV w T C d fs gl o)(is:ni w T C d fs gl args):eV w T C d fs gl (.bA o n args):=λcx x hg ho h=>oj.ok h λy xs ks p h=>b5.ok (P:=λy=>sA w T C ⟨d,fs,cx⟩ (.bA o n args) (.Call y xs ks p)) (ah h).2 λy a ap h2=>by
 obtain rfl:=qz (ah h).1;have h3:=ah (ah h2).2;obtain rfl:=bx h3.1;have h4:=ah h3.2;have h5:=ah h4.2;have h6:=ah h5.2;have a:=is cx xs hg ho h6.1;exact cA S.sd (Xg S hC (ie (ah h2).1) h4.1 a.noStar (Bv (I3 h6.2)) (ih cx y hg ho h5.1).1 a.eOk) (λ_ _=>rfl) λ_ _=>rfl
structure af7(w:World)(T:iL)(C:Nat->List V->M V)(fx:Fx)(e:E)(ex:Expr)(g:Comprehension)(rest:List Comprehension)(sc:Scope)(p:Pos)(cD:E)(rc:aQ->V->M V):Prop where
 hi:g.is_async=0
 ok:oA w fx sc g.iter (.ListComp ex (g::rest) sc p) rc
 so:fK w fx g.iter (fV T C cD)
 eq:fV T C e=λρ=>M.bind (fV T C cD ρ) (rc ρ)
abbrev yI(w:World)(T:iL)(C:Nat->List V->M V)(fx:Fx)(e:E)(x:Expr):Prop:=∃ex g rest sc p cD rc,x=.ListComp ex (g::rest) sc p/\af7 w T C fx e ex g rest sc p cD rc
theorem yI.af8(S:SF w T K gl)(h:yI w T C fx e x)(ht:∀ρ m,BB T C e ρ m=M.bind m (gK T)):sA w T C fx e x:=by
 obtain⟨ex,g,rest,sc,p,cD,rc,rfl,c⟩:=h;exact cA S.sd (c.eq▸Mk c.hi c.ok c.so) (λ_ _=>rfl) ht
theorem Gi{g:Comprehension}(h:g.is_async=0):g=⟨g.target,g.iter,g.ifs,0⟩:=by
 obtain⟨a,b,c,k⟩:=g;exact au (Comprehension.mk a b c) h
theorem B5{g:Comprehension}(h:g.is_async=0)(h2:g.ifs.isEmpty=true):g=⟨g.target,g.iter,[],0⟩:=(Gi h).trans (au (λl=>(⟨g.target,g.iter,l,0⟩:Comprehension)) (qz h2))
theorem R6(S:SF w T K gl)(elt:E)(t:Tg)(cD:E)(ifs:List E)(h1:eV w T C d fs gl elt)(h2:eV w T C d fs gl cD)(h3:ni w T C d fs gl ifs)(hg:cx.gl=gl)(ho:iz cx.sl)(h:jW (.comp elt t cD ifs) cx x=true):yI w T C ⟨d,fs,cx⟩ (.comp elt t cD ifs) x:=ig.ok h λex gs sc p h=>aR.ok (P:=λgs=>yI w T C ⟨d,fs,cx⟩ (.comp elt t cD ifs) (.ListComp ex gs sc p)) h λg h=>have⟨ts,e,h⟩:=bM.ok h
 have hi:=bx (ah h).1;have h4:=ah (ah h).2;have h5:=ah h4.2;have h6:=ah h5.2;have h7:=ah h6.2;have cs:=OO.ok h6.1;have C8:=ho.comp cs
 ⟨ex,g,[],sc,p,cD,_,rfl,hi,(au (λy=>oA w ⟨d,fs,cx⟩ sc g.iter (.ListComp ex [y] sc p) _) (Gi hi)).mpr (Gb cs ho (ie h4.1) (ON.ok e) (h3 (cx.comp sc ts) g.ifs hg C8 h7.2).is (h1 (cx.comp sc ts) ex hg C8 h7.1).1),(h2 cx g.iter hg ho h5.1).1,rfl⟩
theorem Mr(S:SF w T K gl)(elt:E)(t:Tg)(cD:E)(t2:Tg)(qG:E)(h1:eV w T C d fs gl elt)(h2:eV w T C d fs gl cD)(h3:eV w T C d fs gl qG)(hg:cx.gl=gl)(ho:iz cx.sl)(h:jW (.By elt t cD t2 qG) cx x=true):yI w T C ⟨d,fs,cx⟩ (.By elt t cD t2 qG) x:=ig.ok h λex gs sc p h=>Mq.ok (P:=λgs=>yI w T C ⟨d,fs,cx⟩ (.By elt t cD t2 qG) (.ListComp ex gs sc p)) h λg g2 h=>have⟨ts,e,h⟩:=bM.ok h
 have⟨OI,e2,h⟩:=bM.ok h;have a1:=ah (ah h).1;have a2:=ah a1.2;have a3:=ah a2.2;have hi:=bx a1.1;have h4:=ah (ah h).2;have b:=ah h4.1;have h5:=ah h4.2;have h6:=ah h5.2;have h7:=ah h6.2;have cs:=OO.ok h6.1;have C8:=ho.comp cs
 ⟨ex,g,[g2],sc,p,cD,_,rfl,hi,(au (λy=>oA w ⟨d,fs,cx⟩ sc g.iter (.ListComp ex y sc p) _) (congr (au (λa b=>[a,b]) (B5 hi a3.1)) (B5 (bx a2.1) a3.2))).mpr (RT cs ho (ie b.1) (ie b.2) (ON.ok e) (ON.ok e2) (h3 (cx.comp sc (OI++ts)) g2.iter hg C8 h7.1).1 (h1 (cx.comp sc (OI++ts)) ex hg C8 h7.2).1),(h2 cx g.iter hg ho h5.1).1,rfl⟩
theorem R7(e:E)(es:List E)(h1:eV w T C d fs gl e)(h2:ni w T C d fs gl es):ni w T C d fs gl (e::es):=λcx xs hg ho h=>by
 cases xs with
 |nil=>exact ff h
 |cons x r=>
  have h:=h;have h2':=ah (ah h).2;exact .cons (ie (ah h).1) (h1 cx x hg ho h2'.1) (h2 cx r hg ho h2'.2)
theorem oE(S:SF w T K gl)(hC:FY w d C)(e:E):eV w T C d fs gl e:=E.rec
 (afW S) (afY S) (afX S) (acv S) (XH S) (acu S) (afZ S) (af0 S) (af1 S) (af2 S) (aku S) (af3 S) (af4 S) (acw S) (af5 S) (af6 S) (acy S hC) (acz S hC)
 (λelt t cD ifs h1 h2 h3 cx x hg ho h=>(R6 S elt t cD ifs h1 h2 h3 hg ho h).af8 S λ_ _=>rfl) (λcx x _ _ _=>⟨λ_ _ _ _ _=>J.aJ,λ_ _ _ _ _=>J.aJ⟩) (λelt t cD t2 qG h1 h2 h3 cx x hg ho h=>(Mr S elt t cD t2 qG h1 h2 h3 hg ho h).af8 S λ_ _=>rfl)
 (λcx xs hg ho h=>(qz h:xs=[])▸.nil) R7 (λcx x hg ho h=>(Option.isNone_iff_eq_none.mp h:x=none)▸W6) (λe ih cx x hg ho h=>by
  obtain⟨y,rfl,h⟩:=bM.ok h;exact W7 (ih cx y hg ho h).1) e
end
noncomputable def XJ(c:Const)(k:PySem.Str->Bool):Bool:=by cases c;(case str=>exact k s);all_goals exact false
theorem XJ.ok{P:Const->Prop}(h:XJ c k=true)(f:∀s,k s=true->P (.str s)):P c:=by revert h;cases c;(case str=>exact f _);all_goals exact ff
noncomputable def OP(c:Const)(k:Int->Bool):Bool:=by cases c;(case int=>exact k i);all_goals exact false
theorem OP.ok{P:Const->Prop}(h:OP c k=true)(f:∀i,k i=true->P (.int i)):P c:=by revert h;cases c;(case int=>exact f _);all_goals exact ff
noncomputable def vH(h:ExceptHandler)(k:Option Expr->Option PySem.Str->List Stmt->Pos->Bool):Bool:=by cases h;exact k type name body pos
theorem vH.ok{P:ExceptHandler->Prop}(e:vH h k=true)(f:∀a b c d,k a b c d=true->P (.ExceptHandler a b c d)):P h:=by cases h;exact f _ _ _ _ e
noncomputable def IV(cx:Cx)(ts:aF):Bool:=decide (∀q∈ts,q∈cx.sl/\(cx.kind q.1=some .local\/cx.kind q.1=some .cell))
theorem IV.ok(h:IV cx ts=true)(ho:iz cx.sl)(hs:env.scope=cx.sc):Qp env cx.sl (m9 env) ts:=
 have h:=bx h;have kd:∀x,env.kindOf x=cx.kind x:=λx=>by unfold Env.kindOf Cx.kind;rw [hs]
 ⟨ho,λ_ h=>h,λq hq=>⟨(h q hq).1,(h q hq).2.imp (λk=>⟨(kd _).trans k,cC⟩) λk=>⟨(kd _).trans k,λc hc=>cP _ (List.mem_map.mpr ⟨_,qD hc,rfl⟩)⟩⟩⟩
noncomputable def XK(e:E):Bool:=E.casesOn (motive_1:=λ_=>Bool) e (λ_=>false) (λ_=>false) (λ_=>false) (λ_=>false) (λ_=>false) (λ_ _=>false) (λ_ _ _=>false) (λ_=>false) (λ_=>false) (λ_=>false) (λ_=>false) (λ_ _ _=>false) (λ_ _ _=>false) (λ_ _=>false) (λ_ _=>false) (λ_ _ _=>false) (λ_ _=>false) (λ_ _ _=>false) (λ_ _ _ _=>true) true (λ_ _ _ _ _=>true)
noncomputable def af9(s:S):Cx->Stmt->Bool:=S.rec (motive_1:=λ_=>Cx->Stmt->Bool) (motive_2:=λ_=>Cx->List Stmt->Bool)
 (λi e cx x=>cN x λts v _=>aR ts λt=>bM (R0 t) λq=>IV cx [(q.1,i)]&&((!(kL v)||XK e)&&jW e cx v))
 (λis e cx x=>cN x λts v _=>aR ts λt=>bM (ON (.nM is) t) λsl=>IV cx sl&&(!(kL v)&&(!(Dr v==25)&&jW e cx v)))
 (λo n e cx x=>cN x λts v _=>aR ts λt=>b5 t λy a _=>decide (toS n=a)&&(WY.contains n&&(jW e cx v&&jW o cx y)))
 (λo i e cx x=>cN x λts v _=>aR ts λt=>dB t λy z _=>jW e cx v&&(jW o cx y&&jW i cx z))
 (λo n op e cx x=>kB x λt p v _=>b5 t λy a _=>decide (toS n=a)&&(WY.contains n&&(decide (r7 op=p)&&(jW o cx y&&jW e cx v))))
 (λe cx x=>Dt x λv _=>!(kL v)&&jW e cx v)
 (λt _ _ ia ib cx x=>Xa x λu y z _=>jW t cx u&&(ia cx y&&ib cx z))
 (λt cD _ ib cx x=>Mb x λtx it y z _=>z.isEmpty&&(bM (ON t tx) λts=>IV cx ts&&(!(nc it)&&(jW cD cx it&&ib cx y))))
 (λt _ ib cx x=>xd x λu y z _=>z.isEmpty&&(jW t cx u&&ib cx y))
 (λe cx x=>ly x λv _=>bM v (jW e cx))
 (λcx x=>xe x λexc cause _=>cause.isNone&&(bM exc λc=>oj c λf xs ks _=>ks.isEmpty&&(f5 f (λn _=>cx.mG n (.cls 80))&&aR xs λa=>eE a λc _ _=>XJ c PyData.strOk)))
 (λ_ _=>true)
 (λcx x=>ly x λv _=>v.isNone)
 (λi e y v cx x=>Mc x λbody hs os fs _=>(os.isEmpty&&fs.isEmpty)&&((aR body λs=>cN s λts ev _=>aR ts λt=>bM (R0 t) λq=>IV cx [(q.1,i)]&&(!(kL ev)&&jW e cx ev))&&
  aR hs λh=>vH h λty nm hb _=>nm.isNone&&((bM ty λhx=>f5 hx λhn _=>cx.mG hn (.cls 80))&&aR hb λs=>cN s λts ex _=>aR ts λt=>bM (R0 t) λq=>IV cx [(q.1,y)]&&gq ex λo z _=>decide (UnaryOp.USub=o)&&eE z λc _ _=>OP c λj=>decide (v=.int (-j)))))
 (λo i cx x=>sy x λts _=>aR ts λt=>dB t λy z _=>jW o cx y&&jW i cx z)
 (λ_ xs=>xs.isEmpty)
 (λ_ _ ih uf cx xs=>xs.casesOn (motive:=λ_=>Bool) false λx r=>ih cx x&&uf cx r) s
noncomputable def aag(ss:List S)(cx:Cx)(xs:List Stmt):Bool:=af9 (.ite .jU [] ss) cx (.If (.List [] default) [] xs default)
structure B6(w:World)(T:iL)(C:Nat->List V->M V)(d:Nat)(gl:PySem.Str->Option V):Prop where
 rS:∀fs cx n p1 t k p2 p3 p,cx.gl=gl->cx.sc.kind=.function->cx.mG n (.cls 80)=true->PyData.strOk t=true->gu w ⟨d,fs,cx⟩ (.Raise (some (.Call (.Name n p1) [.Constant (.str t) k p2] [] p3)) none p) (i8 T C .rS)
 jC:∀fs cx(q:JQ)(ev:Expr)XM pos hn hp(q2:JQ)(j:Int)k zp up qR cE(e:E),cx.gl=gl->cx.sc.kind=.function->iz cx.sl->IV cx [q.1]=true->kL ev=false->fK w ⟨d,fs,cx⟩ ev (fV T C e)->cx.mG hn (.cls 80)=true->IV cx [q2.1]=true->gu w ⟨d,fs,cx⟩ (.Try [.Assign [uA q] ev XM] [.ExceptHandler (some (.Name hn hp)) none [.Assign [uA q2] (.UnaryOp .USub (.Constant (.int j) k zp) up) qR] cE] [] [] pos) (i8 T C (.jC q.1.2 e q2.1.2 (.int (-j))))
section
variable{K:Frag}{cx:Cx}
theorem R8:(Dr v==25)=false->swappedStores [.Tuple es k p] v env=pure none:=Expr.casesOn v (λ_ _ _ _=>rfl) (λ_ _ _ _=>rfl) (λ_ _ _ _ _=>rfl) (λ_ _ _ _=>rfl) (λ_ _ _ _ _=>rfl) (λ_ _ _ _ _=>rfl) (λ_ _ _ _=>rfl) (λ_ _ _ _=>rfl) (λ_ _ _ _ _=>rfl) (λ_ _ _ _ _=>rfl) (λ_ _ _ _ _ _=>rfl) (λ_ _ _ _ _=>rfl) (λ_ _ _=>rfl) (λ_ _ _=>rfl) (λ_ _ _=>rfl) (λ_ _ _ _ _=>rfl) (λ_ _ _ _ _=>rfl) (λ_ _ _ _ _=>rfl) (λ_ _ _=>rfl) (λ_ _ _ _=>rfl) (λ_ _ _ _=>rfl) (λ_ _ _ _=>rfl) (λ_ _ _=>rfl) (λ_ _ _=>rfl) (λ_ _ _=>rfl) (λ_ _ _ h=>ff h.symm) (λ_ _ _ _ _=>rfl)
theorem jj.aC(h:jj (.nM is) t ts)(hv:(Dr v==25)=false):swappedStores [t] v env=pure none:=jj.casesOn (motive:=λtg t ts _=>Tg.casesOn tg (λ_=>True) λ_=>swappedStores [t] v env=pure none) h (λ_=>bu) λ_ _ _ _=>R8 hv
theorem oEs(S:SF w T K gl)(hC:FY w d C)(es:List E):ni w T C d fs gl es:=List.rec (λcx xs hg ho h=>(qz h:xs=[])▸.nil) (λe es ih=>R7 e es (oE S hC e) ih) es
abbrev qf(w:World)(T:iL)(C:Nat->List V->M V)(d:Nat)(fs:List PySem.Env)(cx:Cx)(s:S):Prop:=∀x,af9 s cx x=true->gu w ⟨d,fs,cx⟩ x (i8 T C s)
abbrev vI(w:World)(T:iL)(C:Nat->List V->M V)(d:Nat)(fs:List PySem.Env)(cx:Cx)(ss:List S):Prop:=∀xs,aag ss cx xs=true->AU w ⟨d,fs,cx⟩ xs (eZ T C ss)
theorem J2(i:Nat)(e:R0 t=some q):t=uA ((q.1,i),q.2):=R0.ok e
section
variable(S:SF w T K gl)(hC:FY w d C)(hg:cx.gl=gl)(ho:iz cx.sl)
include S hC hg ho
theorem aga(i:Nat)(e:E):qf w T C d fs cx (.set i e):=λx h=>cN.ok (P:=λx=>gu w ⟨d,fs,cx⟩ x (i8 T C (.set i e))) h λts v p h=>aR.ok (P:=λts=>gu w ⟨d,fs,cx⟩ (.Assign ts v p) (i8 T C (.set i e))) h λt h=>by
 obtain⟨q,e1,h⟩:=bM.ok h;rw [J2 i e1];have h2:=ah (ah h).2;have tg:=λenv hs=>IV.ok (env:=env) (ah h).1 ho hs;by_cases hc:kL v=false
 ·exact RH (.aR ((q.1,i),q.2)) tg hc (λ_=>rfl) (oE S hC e cx v hg ho h2.2).1
 ·have hE:=(Bool.or_eq_true_iff.mp h2.1).elim (λk=>absurd (ie k) hc) id
  have set:yI w T C ⟨d,fs,cx⟩ e v->gu w ⟨d,fs,cx⟩ (.Assign [uA ((q.1,i),q.2)] v p) (i8 T C (.set i e)):=λ⟨ex,g,rest,sc,p2,cD,rc,e2,c⟩=>by
   have z:=Xw (pos:=p) (q:=((q.1,i),q.2)) c.hi c.ok c.so tg;rw [←e2]at z;have z2:gu w ⟨d,fs,cx⟩ (.Assign [uA ((q.1,i),q.2)] v p) λρ=>M.bind ((λρ=>M.bind (fV T C cD ρ) (rc ρ)) ρ) λv=>M.pure (.next (wr ρ i v)):=z
   rw [←c.eq]at z2;exact z2
  have h3:=h2.2;exact E.casesOn e
   (λ_=>ff) (λ_=>ff) (λ_=>ff) (λ_=>ff) (λ_=>ff) (λ_ _=>ff) (λ_ _ _=>ff) (λ_=>ff) (λ_=>ff) (λ_=>ff) (λ_=>ff) (λ_ _ _=>ff) (λ_ _ _=>ff) (λ_ _=>ff) (λ_ _=>ff) (λ_ _ _=>ff) (λ_ _=>ff) (λ_ _ _=>ff)
   (λelt t cD ifs _ h3 set=>set (R6 S elt t cD ifs (oE S hC elt) (oE S hC cD) (oEs S hC ifs) hg ho h3)) (λ_ _ _ _ _ _ _ _=>J.aJ) (λelt t cD t2 qG _ h3 set=>set (Mr S elt t cD t2 qG (oE S hC elt) (oE S hC cD) (oE S hC qG) hg ho h3)) hE h3 set
theorem acA(is:List Nat)(e:E):qf w T C d fs cx (.Fv is e):=λx h=>cN.ok (P:=λx=>gu w ⟨d,fs,cx⟩ x (i8 T C (.Fv is e))) h λts v p h=>aR.ok (P:=λts=>gu w ⟨d,fs,cx⟩ (.Assign ts v p) (i8 T C (.Fv is e))) h λt h=>by
 obtain⟨sl,e1,h⟩:=bM.ok h;have h2:=ah (ah h).2;have h3:=ah h2.2;exact RH (ON.ok e1) (λenv hs=>IV.ok (ah h).1 ho hs) (ie h2.1) (λenv=>(ON.ok e1).aC (ie h3.1)) (oE S hC e cx v hg ho h3.2).1
theorem acB(o:E)(n:Nm)(e:E):qf w T C d fs cx (.bC o n e):=λx h=>cN.ok (P:=λx=>gu w ⟨d,fs,cx⟩ x (i8 T C (.bC o n e))) h λts v p h=>aR.ok (P:=λts=>gu w ⟨d,fs,cx⟩ (.Assign ts v p) (i8 T C (.bC o n e))) h λt h=>b5.ok (P:=λt=>gu w ⟨d,fs,cx⟩ (.Assign [t] v p) (i8 T C (.bC o n e))) h λy a q h=>by
 obtain rfl:=bx (ah h).1;have h2:=ah (ah h).2;have h3:=ah h2.2;exact Xl S (List.contains_iff_mem.mp h2.1) (oE S hC e cx v hg ho h3.1).1 (oE S hC o cx y hg ho h3.2).1
theorem acC(o i e:E):qf w T C d fs cx (.dR o i e):=λx h=>cN.ok (P:=λx=>gu w ⟨d,fs,cx⟩ x (i8 T C (.dR o i e))) h λts v p h=>aR.ok (P:=λts=>gu w ⟨d,fs,cx⟩ (.Assign ts v p) (i8 T C (.dR o i e))) h λt h=>dB.ok (P:=λt=>gu w ⟨d,fs,cx⟩ (.Assign [t] v p) (i8 T C (.dR o i e))) h λy z q h=>have h2:=ah (ah h).2
 Xm (oE S hC e cx v hg ho (ah h).1).1 (oE S hC o cx y hg ho h2.1).1 (oE S hC i cx z hg ho h2.2).1
theorem acD(o:E)(n:Nm)(op:xT)(e:E):qf w T C d fs cx (.uh o n op e):=λx h=>kB.ok (P:=λx=>gu w ⟨d,fs,cx⟩ x (i8 T C (.uh o n op e))) h λt p v q h=>b5.ok (P:=λt=>gu w ⟨d,fs,cx⟩ (.AugAssign t p v q) (i8 T C (.uh o n op e))) h λy a q h=>by
 obtain rfl:=bx (ah h).1;have h2:=ah (ah h).2;have h3:=ah h2.2;obtain rfl:=bx h3.1;have h4:=ah h3.2;exact Xn S (List.contains_iff_mem.mp h2.1) (oE S hC o cx y hg ho h4.1).1 (oE S hC e cx v hg ho h4.2).1
theorem agb(o i:E):qf w T C d fs cx (.Qk o i):=λx h=>sy.ok (P:=λx=>gu w ⟨d,fs,cx⟩ x (i8 T C (.Qk o i))) h λts p h=>aR.ok (P:=λts=>gu w ⟨d,fs,cx⟩ (.Delete ts p) (i8 T C (.Qk o i))) h λt h=>dB.ok (P:=λt=>gu w ⟨d,fs,cx⟩ (.Delete [t] p) (i8 T C (.Qk o i))) h λy z q h=>ab9 (oE S hC o cx y hg ho (ah h).1).1 (oE S hC i cx z hg ho (ah h).2).1
theorem agc(e:E):qf w T C d fs cx (.ret e):=λx h=>ly.ok (P:=λx=>gu w ⟨d,fs,cx⟩ x (i8 T C (.ret e))) h λv p h=>by
 obtain⟨y,rfl,h⟩:=bM.ok h;exact ab7 (oE S hC e cx y hg ho h).1
end
theorem agd(S:SF w T K gl)(hC:FY w d C)(hg:cx.gl=gl)(ho:iz cx.sl)(t:E)(a b:List Mine.S)(ia:vI w T C d fs cx a)(ib:vI w T C d fs cx b):qf w T C d fs cx (.ite t a b):=λx h=>Xa.ok (P:=λx=>gu w ⟨d,fs,cx⟩ x (i8 T C (.ite t a b))) h λu y z p h=>have h2:=ah (ah h).2
 ab8 (oE S hC t cx u hg ho (ah h).1).2 (ia y h2.1) (ib z h2.2)
theorem age(S:SF w T K gl)(hC:FY w d C)(hg:cx.gl=gl)(ho:iz cx.sl)(t:Tg)(cD:E)(b:List Mine.S)(ib:vI w T C d fs cx b):qf w T C d fs cx (.dK t cD b):=λx h=>Mb.ok (P:=λx=>gu w ⟨d,fs,cx⟩ x (i8 T C (.dK t cD b))) h λtx it y z p h=>by
 obtain rfl:=qz (ah h).1;obtain⟨ts,e,h⟩:=bM.ok (ah h).2;have h2:=ah (ah h).2;have h3:=ah h2.2;exact ace (ON.ok e) (λenv hs=>IV.ok (ah h).1 ho hs) (ie h2.1) (oE S hC cD cx it hg ho h3.1).1 (ib y h3.2)
theorem XN(S:SF w T K gl)(hC:FY w d C)(hg:cx.gl=gl)(ho:iz cx.sl)(t:E)(b:List Mine.S)(ib:vI w T C d fs cx b):qf w T C d fs cx (.QZ t b):=λx h=>xd.ok (P:=λx=>gu w ⟨d,fs,cx⟩ x (i8 T C (.QZ t b))) h λu y z p h=>by
 obtain rfl:=qz (ah h).1;have h2:=ah (ah h).2;exact RJ (oE S hC t cx u hg ho h2.1).2 (ib y h2.2)
end
section
variable{K:Frag}
theorem agf(S:SF w T K gl)(hC:FY w d C)(hg:cx.gl=gl)(ho:iz cx.sl)(hk:cx.sc.kind=.function)(e:E):qf w T C d fs cx (.gM e):=λx h=>Dt.ok (P:=λx=>gu w ⟨d,fs,cx⟩ x (i8 T C (.gM e))) h λv p h=>ab6 (ie (ah h).1) hk (oE S hC e cx v hg ho (ah h).2).1
theorem acE:qf w T C d fs cx .um:=λx h=>ly.ok (P:=λx=>gu w ⟨d,fs,cx⟩ x (i8 T C .um)) h λv p h=>by
 obtain rfl:=Option.isNone_iff_eq_none.mp h;exact Xk
theorem acF(hR:B6 w T C d gl)(hg:cx.gl=gl)(hk:cx.sc.kind=.function):qf w T C d fs cx .rS:=λx h=>xe.ok (P:=λx=>gu w ⟨d,fs,cx⟩ x (i8 T C .rS)) h λexc cause p h=>by
 obtain rfl:=Option.isNone_iff_eq_none.mp (ah h).1;obtain⟨c,rfl,h⟩:=bM.ok (ah h).2;exact oj.ok (P:=λc=>gu w ⟨d,fs,cx⟩ (.Raise (some c) none p) (i8 T C .rS)) h λf xs ks p3 h=>by
  obtain rfl:=qz (ah h).1;have h2:=ah (ah h).2;exact f5.ok (P:=λf=>gu w ⟨d,fs,cx⟩ (.Raise (some (.Call f xs [] p3)) none p) (i8 T C .rS)) h2.1 λn p1 hn=>aR.ok (P:=λxs=>gu w ⟨d,fs,cx⟩ (.Raise (some (.Call (.Name n p1) xs [] p3)) none p) (i8 T C .rS)) h2.2 λa ha=>eE.ok (P:=λa=>gu w ⟨d,fs,cx⟩ (.Raise (some (.Call (.Name n p1) [a] [] p3)) none p) (i8 T C .rS)) ha λc k p2 hc=>XJ.ok (P:=λc=>gu w ⟨d,fs,cx⟩ (.Raise (some (.Call (.Name n p1) [.Constant c k p2] [] p3)) none p) (i8 T C .rS)) hc λt ht=>hR.rS fs cx n p1 t k p2 p3 p hg hk hn ht
theorem acG(S:SF w T K gl)(hC:FY w d C)(hR:B6 w T C d gl)(hg:cx.gl=gl)(ho:iz cx.sl)(hk:cx.sc.kind=.function)(i:Nat)(e:E)(y:Nat)(v:V):qf w T C d fs cx (.jC i e y v):=λx h=>Mc.ok (P:=λx=>gu w ⟨d,fs,cx⟩ x (i8 T C (.jC i e y v))) h λbody hs os fb p h=>by
 have h0:=ah (ah h).1;obtain rfl:=qz h0.1;obtain rfl:=qz h0.2;have h1:=ah (ah h).2;refine aR.ok (P:=λbody=>gu w ⟨d,fs,cx⟩ (.Try body hs [] [] p) (i8 T C (.jC i e y v))) h1.1 λs hs1=>cN.ok (P:=λs=>gu w ⟨d,fs,cx⟩ (.Try [s] hs [] [] p) (i8 T C (.jC i e y v))) hs1 λts ev p1 ha=>aR.ok (P:=λts=>gu w ⟨d,fs,cx⟩ (.Try [.Assign ts ev p1] hs [] [] p) (i8 T C (.jC i e y v))) ha λt ha=>?_;obtain⟨q,e1,ha⟩:=bM.ok ha;rw [J2 i e1];have a2:=ah (ah ha).2;refine aR.ok (P:=λhs=>gu w ⟨d,fs,cx⟩ (.Try [.Assign [uA ((q.1,i),q.2)] ev p1] hs [] [] p) (i8 T C (.jC i e y v))) h1.2 λhd hh=>vH.ok (P:=λhd=>gu w ⟨d,fs,cx⟩ (.Try [.Assign [uA ((q.1,i),q.2)] ev p1] [hd] [] [] p) (i8 T C (.jC i e y v))) hh λty nm hb cE hh=>?_;obtain rfl:=Option.isNone_iff_eq_none.mp (ah hh).1;have h2:=ah (ah hh).2;obtain⟨hx,rfl,h3⟩:=bM.ok h2.1;refine f5.ok (P:=λhx=>gu w ⟨d,fs,cx⟩ (.Try [.Assign [uA ((q.1,i),q.2)] ev p1] [.ExceptHandler (some hx) none hb cE] [] [] p) (i8 T C (.jC i e y v))) h3 λhn hp hn1=>aR.ok (P:=λhb=>gu w ⟨d,fs,cx⟩ (.Try [.Assign [uA ((q.1,i),q.2)] ev p1] [.ExceptHandler (some (.Name hn hp)) none hb cE] [] [] p) (i8 T C (.jC i e y v))) h2.2 λs hs2=>cN.ok (P:=λs=>gu w ⟨d,fs,cx⟩ (.Try [.Assign [uA ((q.1,i),q.2)] ev p1] [.ExceptHandler (some (.Name hn hp)) none [s] cE] [] [] p) (i8 T C (.jC i e y v))) hs2 λts ex qR ha2=>aR.ok (P:=λts=>gu w ⟨d,fs,cx⟩ (.Try [.Assign [uA ((q.1,i),q.2)] ev p1] [.ExceptHandler (some (.Name hn hp)) none [.Assign ts ex qR] cE] [] [] p) (i8 T C (.jC i e y v))) ha2 λt2 ha2=>?_;obtain⟨q2,e2,ha2⟩:=bM.ok ha2;rw [J2 y e2];refine gq.ok (P:=λex=>gu w ⟨d,fs,cx⟩ (.Try [.Assign [uA ((q.1,i),q.2)] ev p1] [.ExceptHandler (some (.Name hn hp)) none [.Assign [uA ((q2.1,y),q2.2)] ex qR] cE] [] [] p) (i8 T C (.jC i e y v))) (ah ha2).2 λo z up hu=>?_;obtain rfl:=bx (ah hu).1;refine eE.ok (P:=λz=>gu w ⟨d,fs,cx⟩ (.Try [.Assign [uA ((q.1,i),q.2)] ev p1] [.ExceptHandler (some (.Name hn hp)) none [.Assign [uA ((q2.1,y),q2.2)] (.UnaryOp .USub z up) qR] cE] [] [] p) (i8 T C (.jC i e y v))) (ah hu).2 λc k zp hc=>OP.ok (P:=λc=>gu w ⟨d,fs,cx⟩ (.Try [.Assign [uA ((q.1,i),q.2)] ev p1] [.ExceptHandler (some (.Name hn hp)) none [.Assign [uA ((q2.1,y),q2.2)] (.UnaryOp .USub (.Constant c k zp) up) qR] cE] [] [] p) (i8 T C (.jC i e y v))) hc λj hj=>?_;obtain rfl:=bx hj;exact hR.jC fs cx ((q.1,i),q.2) ev p1 p hn hp ((q2.1,y),q2.2) j k zp up qR cE e hg hk ho (ah ha).1 (ie a2.1) (oE S hC e cx ev hg ho a2.2).1 hn1 (ah ha2).1
theorem R9(s:Mine.S)(ss:List Mine.S)(h1:qf w T C d fs cx s)(h2:vI w T C d fs cx ss):vI w T C d fs cx (s::ss):=λxs h=>by
 cases xs with
 |nil=>exact ff h
 |cons x r=>
  have h:=h;exact Xj (h1 x (ah h).1) (h2 r (ah h).2)
theorem aah:vI w T C d fs cx []:=λxs h=>(qz h:xs=[])▸ab5
theorem oS(S:SF w T K gl)(hC:FY w d C)(hR:B6 w T C d gl)(hg:cx.gl=gl)(ho:iz cx.sl)(hk:cx.sc.kind=.function)(s:Mine.S):qf w T C d fs cx s:=Mine.S.rec
 (aga S hC hg ho) (acA S hC hg ho) (acB S hC hg ho) (acC S hC hg ho) (acD S hC hg ho) (agf S hC hg ho hk) (agd S hC hg ho) (age S hC hg ho) (XN S hC hg ho) (agc S hC hg ho) (acF hR hg hk) (λ_ _ _ _ _ _ _=>J.aJ) acE (acG S hC hR hg ho hk) (agb S hC hg ho) aah R9 s
theorem oSs(S:SF w T K gl)(hC:FY w d C)(hR:B6 w T C d gl)(hg:cx.gl=gl)(ho:iz cx.sl)(hk:cx.sc.kind=.function)(ss:List Mine.S):vI w T C d fs cx ss:=List.rec aah (λs ss ih=>R9 s ss (oS S hC hR hg ho hk s) ih) ss
end
noncomputable abbrev aB:E:=.var 0
noncomputable abbrev aU:E:=.var 1
noncomputable abbrev bP:E:=.var 2
noncomputable abbrev cz:E:=.var 3
noncomputable abbrev c9:E:=.var 4
noncomputable abbrev gh:E:=.var 5
noncomputable abbrev iW:E:=.var 6
noncomputable abbrev qp:E:=.var 7
noncomputable abbrev uD:E:=.var 8
noncomputable abbrev AX:E:=.var 9
noncomputable abbrev sH:E:=.var 10
noncomputable abbrev AY:E:=.var 11
noncomputable abbrev DG:E:=.var 12
noncomputable abbrev akv:E:=.var 13
noncomputable abbrev agh:E:=.var 14
noncomputable abbrev agi:E:=.var 15
noncomputable abbrev XO:E:=.var 16
noncomputable abbrev acH:E:=.var 17
noncomputable abbrev acI:E:=.var 18
noncomputable abbrev akw:E:=.var 19
noncomputable abbrev akx:E:=.var 20
noncomputable abbrev aky:E:=.var 21
noncomputable abbrev akz:E:=.var 22
noncomputable abbrev agj:E:=.var 23
noncomputable abbrev agk:E:=.var 24
noncomputable abbrev akA:E:=.var 25
noncomputable abbrev akB:E:=.var 26
noncomputable abbrev bN:E:=.br (.int 0)
noncomputable abbrev b8:E:=.br (.int 1)
noncomputable abbrev mJ:E:=.br (.int 2)
noncomputable abbrev v7:E:=.br (.int 3)
noncomputable abbrev Ax:E:=.br (.int 4)
noncomputable abbrev Gj:E:=.br (.int 5)
noncomputable abbrev AZ:E:=.br (.int 6)
noncomputable abbrev Qu:E:=.br (.int 7)
noncomputable abbrev XQ:E:=.br (.int 8)
noncomputable abbrev zi9:E:=.br (.int 9)
noncomputable abbrev OQ:E:=.br (.int 10)
noncomputable abbrev XR:E:=.br (.int 11)
noncomputable abbrev XT:E:=.br (.int 12)
noncomputable abbrev DH:E:=.br (.int 13)
noncomputable abbrev v8:E:=.br (.int 14)
noncomputable abbrev Gl:E:=.br (.int 15)
noncomputable abbrev A2:E:=.br (.int 16)
noncomputable abbrev qW:E:=.br (.int 1024)
noncomputable abbrev zf(n:Nat):E:=.br (.fn n)
noncomputable abbrev zt(s:Nm):E:=.br (.str s)
noncomputable abbrev zc(n:Nat)(l:List E):E:=.call (.br (.fn n)) l
noncomputable def uE:Fn:=⟨1,2,[],[.bC aB ql (.j7 []),.bC aB Jd (.dict [] []),.bC aB [100,101,99,108,115] (.list [.br .none]),.bC aB NO (.j7 []),.bC aB Wo (.j7 []),.bC aB Ws (.j7 []),.bC aB aa5 (.dict [] []),.bC aB aa7 (.dict [] []),.bC aB abc bN,.bC aB aa6 bN,.dK (.aR 1) (.br (.aC [.aC [.int 1,.str [97,110,121]],.aC [.int 1,.str abd],.aC [.int 1,.str NP],.aC [.int 1,.str [118,111,105,100]],.aC [.int 1,.str abe],.aC [.int 1,.str [110,117,108,108]],.aC [.int 1,.str abf],.aC [.int 1,.str NQ],.aC [.int 2,.int 0,.int 0],.aC [.int 2,.int 1,.int 0],.aC [.int 1,.str abg],.aC [.int 8,.aC [],.aC [],.aC [],.aC [],.aC [],.int 0],.aC [.int 6,.aC [.int 8,.int 9]],.aC [.int 1,.str [101,114,114,111,114]],.aC [.int 2,.int 0,.int 1],.aC [.int 2,.int 1,.int 1]])) [.gM (.bA aB I8 [aU])]]⟩
noncomputable def v9:Fn:=⟨2,3,[],[.ite (.aM .eU aU (.attr aB Jd)) [.ret (.aE (.attr aB Jd) aU)] [],.set 2 (.call (.br (.bi 0)) [.attr aB ql]),.gM (.bA (.attr aB ql) vQ [aU]),.dR (.attr aB Jd) aU bP,.ret bP]⟩
noncomputable def OR:Fn:=⟨2,2,[],[.ret (.aE (.aE (.attr aB ql) aU) bN)]⟩
noncomputable def yJ:Fn:=⟨1,4,[],[.set 1 (.dict [] []),.dK (.aR 2) aB [.dR aU (.aE bP bN) bP],.ret (.call (.br (.bi 4)) [.comp (.aE aU cz) (.aR 3) (.call (.br (.bi 1)) [aU]) []])]⟩
noncomputable def J3:Fn:=⟨7,7,[.aC [],.aC [],.aC [],.aC [],.int 0],[.ret (.bA aB I8 [.aC [XQ,zc 170 [aU],.call (.br (.bi 4)) [bP],.call (.br (.bi 4)) [cz],c9,gh,iW]])]⟩
noncomputable def Gm:Fn:=⟨4,5,[.int (-1),.int (-1)],[.set 4 (.call (.br (.bi 0)) [.attr aB NO]),.gM (.bA (.attr aB NO) vQ [bP]),.gM (.bA (.attr aB Wo) vQ [cz]),.gM (.bA (.attr aB Ws) vQ [aU]),.ret (.bA aB I8 [.aC [OQ,c9]])]⟩
noncomputable def J4:Fn:=⟨2,3,[],[.ite (.aM .eq aU mJ) [.ret (.aC [])] [],.set 2 (.aE (.attr aB ql) aU),.ite (.aM .eq (.aE bP bN) AZ) [.ret (.aE bP b8)] [],.ret (.aC [aU])]⟩
noncomputable def yK:Fn:=⟨1,2,[],[.set 1 (.aE aB bN),.ite (.or [.aM .eq aU v7,.aM .eq aU (.br (.int 18))]) [.ret AZ] [],.ite (.aM .eq aU Ax) [.ret Qu] [],.ite (.aM .eq aU Gj) [.ret (.ite (.jU) AZ Qu)] [],.ret (.neg b8)]⟩
noncomputable def oB:Fn:=⟨2,3,[],[.set 2 (.aE (.attr aB ql) aU),.ite (.and [.aM .eU (.aE bP bN) (.br (.aC [.int 2,.int 3,.int 4,.int 5,.int 8])),.aM .eq (.aE bP (.neg b8)) b8]) [.ret (.bA (.attr aB Jd) vR [.d9 .add (.V8 bP none (some (.neg b8))) (.aC [bN]),.neg b8])] [],.ret (.neg b8)]⟩
noncomputable def DI:Fn:=⟨1,1,[],[.ite (.and [.or [.aM .eU XQ aB,.aM .eU v8 aB],.or [.aM .eU zi9 aB,.aM .eU Gl aB]]) [.dR aB XQ b8,.dR aB zi9 b8] []]⟩
noncomputable def yL:Fn:=⟨3,3,[],[.ite (.aM .eU (zc 211 [aB,bP]) aU) [.ret (.br (.bool false))] [],.ret (.aM .dz (zc 204 [.aE (.attr aB ql) bP]) aU)]⟩
noncomputable def Sa:Fn:=⟨1,2,[],[.dK (.aR 1) (.aC [bN,DH,b8]) [.ite (.aM .eU aU aB) [.ret aU] []],.ret (.neg b8)]⟩
noncomputable def XU:Fn:=⟨2,8,[],[.set 2 (.dict [] []),.dK (.aR 3) aU [.dK (.aR 4) (zc 197 [aB,cz]) [.dR bP c9 b8]],.set 5 (zc 232 [bP]),.ite (.aM .ge gh bN) [.ret gh] [],.gM (zc 218 [bP]),.set 6 (.comp qp (.aR 7) (.call (.br (.bi 1)) [bP]) [zc 225 [aB,bP,qp]]),.ite (.not iW) [.ret mJ] [],.ite (.aM .eq (.call (.br (.bi 0)) [iW]) b8) [.ret (.aE iW bN)] [],.ite (.aM .gt (.call (.br (.bi 0)) [iW]) (.br (.int 400))) [.jU] [],.ret (.bA aB I8 [.aC [AZ,.call (.br (.bi 4)) [iW]]])]⟩
noncomputable def Gn:Fn:=⟨2,2,[],[.ret (zc 237 [aB,.aC [aU,Ax]])]⟩
noncomputable def DJ:Fn:=⟨2,2,[],[.ret (.aM .eU (.aE (.aE (.attr aB ql) aU) bN) (.br (.aC [.int 2,.int 3,.int 4,.int 5])))]⟩
noncomputable def OS:Fn:=⟨2,2,[],[.ret (.or [.aM .eq aU Ax,.aM .eq aU Gj,zc 251 [aB,aU]])]⟩
noncomputable def J5:Fn:=⟨2,3,[],[.set 2 (.aE (.attr aB ql) aU),.ret (.and [.aM .eU (.aE bP bN) (.br (.aC [.int 2,.int 3,.int 4,.int 5,.int 8])),.aM .eq (.aE bP (.neg b8)) b8])]⟩
noncomputable def A3:Fn:=⟨2,2,[],[.ite (zc 265 [aB,aU]) [.ret (.bA aB I8 [.d9 .add (.V8 (.aE (.attr aB ql) aU) none (some (.neg b8))) (.aC [bN])])] [],.ret aU]⟩
noncomputable def OT:Fn:=⟨2,2,[],[.ite (.aM .eq (zc 157 [aB,aU]) AZ) [.jU] [],.ret (zc 272 [aB,aU])]⟩
noncomputable def J6:Fn:=⟨2,4,[],[.set 2 (.aE (.attr aB ql) aU),.ite (.aM .eq (.aE bP bN) mJ) [.jU] [],.ite (.aM .eq (.aE bP bN) Gj) [.jU] [],.set 3 (zc 204 [bP]),.ret (.ite (.aM .ge cz bN) cz aU)]⟩
noncomputable def Sb:Fn:=⟨2,5,[],[.set 2 (.aE (.attr aB ql) aU),.set 3 (.aE bP bN),.ite (.aM .eq cz b8) [.ret (.bA (.br (.sd 109)) vR [aU,bN])] [],.ite (.aM .eq cz mJ) [.jU] [],.ite (.aM .eU cz (.br (.aC [.int 8,.int 9,.int 11,.int 12,.int 13]))) [.ret Qu] [],.ite (.aM .eq cz AZ) [.jU] [],.ite (.aM .eq cz Qu) [.jU] [],.set 4 (zc 204 [bP]),.ite (.aM .lt c9 bN) [.ret bN] [],.ret (.ite (.aM .eq c9 AZ) b8 mJ)]⟩
noncomputable def J7:Fn:=⟨1,6,[],[.set 1 (.aE aB bN),.ite (.aM .eU aU (.br (.sd 110))) [.Fv [2,3] (.aE (.br (.sd 110)) aU),.ret (.comp c9 (.aR 4) (.V8 aB (some bP) (some cz)) [])] [],.ite (.or [.aM .eq aU AZ,.aM .eq aU Qu]) [.ret (.comp gh (.aR 5) (.aE aB b8) [])] [],.ite (.aM .eq aU XQ) [.jU] [],.ite (.or [.aM .eq aU zi9,.aM .eq aU (.br (.int 19)),.aM .eq aU (.br (.int 18))]) [.jU] [],.ite (.aM .eq aU XT) [.jU] [],.ite (.aM .eq aU DH) [.jU] [],.ret (.list [])]⟩
noncomputable def Gp:Fn:=⟨1,1,[],[.ite (.aM .eq (.aE aB bN) DH) [.jU] [],.ite (.aM .eq (.aE aB bN) A2) [.ret (.aE aB Gj)] [],.ite (.aM .eq (.aE aB bN) (.br (.int 17))) [.jU] [],.ret (.aC [])]⟩
noncomputable def DK:Fn:=⟨2,4,[],[.set 2 (zc 330 [aU]),.dK (.aR 3) (zc 337 [aU]) [.jU,.jU],.ret bP]⟩
noncomputable def OU:Fn:=⟨2,5,[],[.set 2 (.dict [] []),.set 3 (.j7 [aU]),.QZ cz [.set 4 (.bA cz [112,111,112] []),.ite (.and [.aM .ge c9 bN,.aM .dz c9 bP]) [.dR bP c9 b8,.gM (.bA cz [101,120,116,101,110,100] [zc 344 [aB,.aE (.attr aB ql) c9]])] []],.ret (.call (.br (.bi 1)) [bP])]⟩
noncomputable def Gq:Fn:=⟨2,2,[],[.ite (.and [zc 251 [aB,aU],zc 265 [aB,aU]]) [.ret (zc 289 [aB,aU])] [],.ret aU]⟩
noncomputable def wc:Fn:=⟨2,3,[],[.ret (zc 237 [aB,.comp (zc 372 [aB,bP]) (.aR 2) (zc 197 [aB,aU]) []])]⟩
noncomputable def A4:Fn:=⟨3,3,[],[.rS]⟩
noncomputable def yM:Fn:=⟨3,3,[],[.ret bP]⟩
noncomputable def we:Fn:=⟨3,3,[],[.bC aB rM aU,.bC aB QM (.call (.br (.bi 4)) [bP]),.bC aB [99,111] (.dict [] []),.bC aB Ja (.dict [] []),.bC aB Wq (.dict [] []),.bC aB [114,101,116] (.dict [] []),.bC aB aa9 (.dict [] []),.bC aB [116,111,108,100] (.dict [] []),.bC aB QS (.neg b8),.bC aB [104,105,110,116,115] (.dict [] []),.bC aB QO (.dict [] []),.bC aB Wu (.dict [] []),.bC aB QK (.br (.bool false)),.bC aB aa1 (.dict [] []),.bC aB vS (.call (.br (.cls 414)) []),.bC aB aa8 (.neg b8),.bC aB aba (.neg b8),.bC aB uc (.dict [] []),.bC aB AJ (.call (.br (.bi 4)) [bP]),.bC aB xQ (.neg b8),.bC aB xR bN,.bC aB QJ bN,.bC aB Fi bN,.bC aB LM bN,.bC aB xP qW,.bC aB Jc bN,.bC aB CP bN,.bC aB QL (.dict [] []),.bC aB QN (.dict [] []),.bC aB NN (.dict [] []),.bC aB CQ (.dict [] []),.bC aB Fj (.dict [] []),.bC aB Wr (.dict [] []),.bC aB abb bN,.bC aB [114,111,97,100] (.list []),.bC aB aa2 (.dict [] [])]⟩
noncomputable def A5:Fn:=⟨4,4,[],[.gM (zc 556 [aB,aU,bP,cz])]⟩
noncomputable def sJ:Fn:=⟨4,4,[],[.uh aB Fi .add b8,.gM (zc 556 [aB,aU,bP,cz]),.uh aB Fi .aE b8]⟩
noncomputable def wg:Fn:=⟨4,4,[],[.bC aB xR (.d9 .aE b8 (.attr aB xR)),.gM (.bA aB NR [aU,bP,cz]),.bC aB xR (.d9 .aE b8 (.attr aB xR))]⟩
noncomputable def J8:Fn:=⟨2,4,[],[.ite (.aM .dz aU (.attr aB NN)) [.set 2 (.br (.bool false)),.dK (.aR 3) (.bA (.attr aB vS) QT [.attr (.attr aB rM) kQ,aU]) [.ite (.aM .eU cz (.attr aB AJ)) [.set 2 (.br (.bool true))] []],.dR (.attr aB NN) aU bP] [],.ret (.aE (.attr aB NN) aU)]⟩
noncomputable def uF:Fn:=⟨2,2,[],[.ite (.or [.aM .lt aU bN,.aM .lt (.aE (.attr (.attr (.attr aB rM) kQ) NO) aU) bN]) [.ret (.br (.bool false))] [],.jU]⟩
noncomputable def Gs:Fn:=⟨2,5,[],[.set 2 (.comp (.aE (.aE (.attr (.attr (.attr aB rM) kQ) ql) (.aE (.attr aB QO) c9)) b8) (.aR 4) (.attr aB QO) []),.dK (.aR 3) (.ite bP (.bA (.attr aB vS) QT [.attr (.attr aB rM) kQ,aU]) (.aC [])) [.jU],.ret (.br (.bool false))]⟩
noncomputable def Sd:Fn:=⟨4,6,[.int 0],[.ite (.aM .lt aU bN) [.ret (.br (.bool false))] [],.jU,.jU,.jU,.jU,.jU]⟩
noncomputable def dX:Fn:=⟨4,7,[],[.ite (.aM .dz aU (.attr aB QM)) [.um] [],.ite (.aM .lt cz (.attr aB xP)) [.bC aB xP cz] [],.ite (.aM .eU aU (.attr aB Wq)) [.jU] [],.bC aB Wr (.dict [] []),.ite (.d9 .and cz A2) [.jU,.jU] [],.ite (zc 515 [aB,bP]) [.jU] [],.ite (.aM .lt cz (.bA (.attr aB QN) vR [aU,qW])) [.dR (.attr aB QN) aU cz,.gM (.bA (.attr aB QL) [112,111,112] [aU,.br .none])] [],.ite (.aM .gt (.attr aB Fi) bN) [.ite (.not (zc 523 [.attr aB rM,.attr aB QS,aU])) [.dR (.attr aB QL) aU b8] [],.ite (.not (zc 503 [aB,aU])) [.set 2 (zc 377 [.attr (.attr aB rM) kQ,bP])] []] [],.set 4 (.ite (.and [.attr aB xR,.not (.attr aB QJ)]) (.attr aB Ja) (.attr aB [99,111])),.ite (.aM .dz aU c9) [.dR c9 aU (.j7 [])] [],.ite (.and [.attr aB QK,.aM .eq (.attr aB Fi) bN,.aM .dz bP (.comp gh (.nM [5,6]) (.aE c9 aU) [])]) [.jU] [.ite (.not (.attr aB QK)) [.gM (.bA (.attr aB Wu) [112,111,112] [.aC [aU,bP],.br .none])] []],.ite (.aM .dz (.aC [bP,cz]) (.aE c9 aU)) [.gM (.bA (.aE c9 aU) vQ [.aC [bP,cz]])] []]⟩
noncomputable def DL:Fn:=⟨3,4,[],[.ite (.aM .ge (.attr aB xQ) bN) [.gM (zc 542 [aB,.br (.int (-2)),DH,bP])] [],.dK (.aR 3) (.bA (.attr aB vS) QT [.attr (.attr aB rM) kQ,aU]) [.gM (zc 542 [aB,cz,DH,bP])]]⟩
noncomputable def mK:Fn:=⟨4,4,[],[.ite (.or [.aM .lt aU bN,.not (zc 488 [aB,bP])]) [.um] [],.ite (.aM .eq bP (.attr aB xQ)) [.gM (zc 542 [aB,.br (.int (-2)),aU,cz]),.um] [],.uh aB CP .add b8,.ite (.or [.aM .gt (.attr aB Fi) XT,.aM .ge (.attr aB LM) (.br (.int 40)),.aM .gt (.attr aB CP) (.br (.int 20000))]) [.uh aB Jc .add b8,.um] [],.ite (.aM .eq (.attr aB LM) bN) [.bC aB QS (.ite (.aM .eq (.attr aB Fi) bN) bP (.neg b8))] [],.uh aB LM .add b8,.gM (zc 563 [aB,.bA (.attr aB rM) Wv [aU],.bA (.attr aB rM) Wv [bP],cz]),.uh aB LM .aE b8]⟩
noncomputable def yN:Fn:=⟨4,5,[],[.set 4 (.aE (.attr (.attr (.attr aB rM) kQ) ql) bP),.ite (.aM .eq (.aE c9 bN) OQ) [.gM (zc 542 [aB,.aE c9 b8,aU,cz])] [.ite (.aM .eq aU DH) [.gM (zc 549 [aB,bP,cz])] [.ite (.aM .eq (.aE c9 bN) AZ) [.gM (zc 613 [aB,aU,bP,cz])] [.ite (.aM .eU (.aE c9 bN) (.attr aB uc)) [.ite (.aM .eU (.aE c9 bN) (.br (.aC [.int 8,.int 9,.int 12,.int 16,.int 17]))) [.gM (zc 570 [aB,aU,bP,cz])] [.gM (.bA (.aE (.attr aB uc) (.aE c9 bN)) NS [aB,aU,bP,cz])]] []]]]]⟩
noncomputable def mL:Fn:=⟨4,7,[],[.set 4 (.aC [aU,bP,cz,.attr aB xR,.ite (.attr aB QJ) b8 bN]),.ite (.aM .eU c9 (.attr aB CQ)) [.ite (.aM .lt (.aE (.attr aB CQ) c9) (.attr aB xP)) [.bC aB xP (.aE (.attr aB CQ) c9)] [],.um] [],.ite (.and [.aM .eU c9 (.attr aB Fj),.aM .ge (.attr aB Fi) (.aE (.aE (.attr aB Fj) c9) bN)]) [.uh aB Jc .add b8,.ite (.aM .lt (.aE (.aE (.attr aB Fj) c9) b8) (.attr aB xP)) [.bC aB xP (.aE (.aE (.attr aB Fj) c9) b8)] [],.um] [],.dR (.attr aB CQ) c9 (.br (.int (-1))),.set 5 (.attr aB xP),.set 6 (.attr aB Jc),.bC aB xP qW,.gM (.bA (.aE (.attr aB uc) (.aE (.aE (.attr (.attr (.attr aB rM) kQ) ql) bP) bN)) NS [aB,aU,bP,cz]),.dR (.attr aB CQ) c9 (.attr aB xP),.ite (.aM .ne (.attr aB Jc) iW) [.Qk (.attr aB CQ) c9,.dR (.attr aB Fj) c9 (.aC [.attr aB Fi,.attr aB xP])] [],.ite (.aM .lt gh (.attr aB xP)) [.bC aB xP gh] []]⟩
noncomputable def J9:Fn:=⟨2,3,[],[.set 2 (.aE (.attr (.attr (.attr aB rM) kQ) ql) aU),.ret (.or [.aM .eq aU (.attr aB xQ),.and [.aM .eq (.aE bP bN) OQ,.aM .eU (.aE bP b8) (.attr aB QM)]])]⟩
noncomputable def sM:Fn:=⟨3,4,[],[.set 1 (zc 277 [aB,aU]),.ite (.aM .eq aU bP) [.ret (.br (.bool true))] [],.set 3 (zc 157 [aB,aU]),.ite (.aM .eq bP AZ) [.ret (.or [.aM .eq cz v7,.and [.aM .eq cz Gj,.aM .eq (zc 308 [aB,aU]) b8]])] [],.ret (.and [.aM .eq bP Qu,.or [.aM .eq cz Ax,.and [.aM .eq cz Gj,.aM .eq (zc 308 [aB,aU]) mJ]]])]⟩
noncomputable def Gu:Fn:=⟨3,4,[],[.set 3 (.attr (.attr aB rM) kQ),.ite (zc 584 [cz,aU,bP]) [.ret (.br (.bool true))] [],.ite (.or [.aM .ne (zc 308 [cz,aU]) Qu,.aM .ne (zc 308 [cz,bP]) Qu,zc 488 [aB,bP]]) [.ret (.br (.bool false))] [],.jU]⟩
noncomputable def DM:Fn:=⟨3,5,[],[.set 3 (.aE (.attr aB ql) aU),.set 4 (.aE (.attr aB ql) bP),.ite (.aM .ne (.aE cz bN) (.aE c9 bN)) [.ret (.br (.bool false))] [],.ite (.aM .eq (.aE cz bN) zi9) [.jU] [],.ret (.and [.aM .eq (.aE cz bN) XR,.aM .eq (.aE cz mJ) (.aE c9 mJ)])]⟩
noncomputable def oF:Fn:=⟨5,13,[],[.set 5 (.attr (.attr aB rM) kQ),.set 6 (.dict [] []),.set 7 (.dict [] []),.dK (.aR 8) bP [.dK (.aR 9) aU [.set 10 (.ite cz (zc 598 [gh,AX,uD]) (zc 591 [aB,AX,uD])),.ite sH [.gM (.bA aB [103,111] [AX,uD,c9]),.dR iW AX b8,.dR qp uD b8] []]],.ret (.aC [.comp AY (.aR 11) aU [.aM .dz AY iW],.comp DG (.aR 12) bP [.aM .dz DG qp]])]⟩
noncomputable def yO:Fn:=⟨2,3,[],[.ret (.ite (.aM .eq aU mJ) (.list [mJ]) (.comp bP (.aR 2) (zc 197 [aB,aU]) []))]⟩
noncomputable def gc:Fn:=⟨4,8,[],[.set 4 (.attr (.attr aB rM) kQ),.set 5 (zc 608 [c9,aU]),.set 6 (.comp qp (.aR 7) (zc 197 [c9,bP]) []),.Fv [5,6] (zc 603 [aB,gh,iW,.br (.bool false),cz]),.Fv [5,6] (zc 603 [aB,gh,iW,.br (.bool true),cz]),.ite (.not iW) [.jU] [],.ite (.not gh) [.gM (.bA aB [103,111] [aU,zc 237 [c9,iW],.d9 .or cz b8])] [.ite (.aM .eq (.call (.br (.bi 0)) [iW]) b8) [.gM (.bA aB [103,111] [zc 237 [c9,gh],.aE iW bN,cz])] [.gM (zc 625 [aB,gh,iW,cz])]]]⟩
noncomputable def DN:Fn:=⟨4,6,[],[.set 4 (.attr aB xP),.bC aB xP qW,.gM (.bA aB [103,111] [aU,bP,cz]),.set 5 (.attr aB xP),.ite (.aM .lt c9 (.attr aB xP)) [.bC aB xP c9] [],.ret gh]⟩
noncomputable def A6:Fn:=⟨4,13,[],[.set 4 (.dict [] []),.set 5 (.br (.bool false)),.dK (.aR 6) bP [.ite (.not (zc 577 [aB,iW])) [.dK (.aR 7) aU [.set 8 (zc 620 [aB,qp,iW,cz]),.ite (.aM .eq uD cz) [.dR c9 qp b8] [.ite (.aM .eq uD (.br (.int (-1)))) [.jU] []]]] []],.set 9 (.comp AY (.aR 11) bP [zc 577 [aB,AY]]),.set 10 (.comp DG (.aR 12) aU [.aM .dz DG c9]),.ite (.and [.aM .eq (.call (.br (.bi 0)) [AX]) b8,sH,.not gh]) [.gM (.bA aB [103,111] [zc 237 [.attr (.attr aB rM) kQ,sH],.aE AX bN,cz]),.um] [],.ite (.not AX) [.set 9 (zc 630 [aB,bP])] [],.dK (.aR 6) AX [.gM (.bA aB [103,111] [zc 237 [.attr (.attr aB rM) kQ,aU],iW,.d9 .or cz b8])]]⟩
noncomputable def Gv:Fn:=⟨2,7,[],[.set 2 (.list []),.dK (.aR 3) aU [.set 4 (.aE (.attr (.attr (.attr aB rM) kQ) ql) cz),.set 5 (.ite (.aM .eq (.aE c9 bN) Qu) (.comp iW (.aR 6) (.aE c9 b8) [zc 577 [aB,iW]]) (.list [])),.ite (.or [.not gh,.and [bP,.aM .ne (.aE bP bN) (.aE gh bN)]]) [.ret (.list [])] [],.jU],.jU]⟩
noncomputable def DO:Fn:=⟨5,8,[],[.set 5 (.j7 []),.dK (.aR 6) bP [.set 7 (.bA (.attr aB rM) Wv [iW]),.ite (zc 577 [aB,qp]) [.gM (.bA gh vQ [qp])] [.gM (.bA aB [103,111] [aU,qp,cz])]],.ite (.aM .le (.call (.br (.bi 0)) [gh]) c9) [.dK (.aR 7) gh [.gM (.bA aB [103,111] [aU,qp,.d9 .or cz b8])]] []]⟩
noncomputable def wj:Fn:=⟨2,6,[],[.set 2 qW,.dK (.aR 3) (.aC [.attr aB [99,111],.attr aB Ja]) [.dK (.nM [4,5]) (.bA cz vR [aU,.list []]) [.ite (.aM .lt gh bP) [.set 2 gh] []]],.ret bP]⟩
noncomputable def DQ:Fn:=⟨3,5,[],[.ret (.comp cz (.nM [3,4]) (.bA aB vR [aU,.list []]) [.aM .eq c9 bP])]⟩
noncomputable def Se:Fn:=⟨2,5,[],[.set 2 (.attr (.attr aB rM) kQ),.set 3 (.j7 []),.dK (.aR 4) (zc 197 [bP,aU]) [.gM (.bA cz vQ [.ite (zc 251 [bP,c9]) c9 (.bA (.attr aB vS) [115,116,111,114,101] [bP,c9])])],.ret (zc 237 [bP,cz])]⟩
noncomputable def lA:Fn:=⟨5,5,[],[.gM (zc 727 [aU,bP,cz,c9])]⟩
noncomputable def fL:Fn:=⟨5,7,[],[.set 5 (.aE (.attr (.attr (.attr aU rM) kQ) ql) bP),.set 6 (.aE (.attr (.attr (.attr aU rM) kQ) ql) cz),.ite (.aM .eq (.aE gh bN) Gl) [.gM (.bA aU NR [.aE gh b8,.aE iW b8,c9]),.gM (.bA aU NR [.aE gh mJ,.aE iW mJ,c9])] []]⟩
noncomputable def jX:Fn:=⟨5,10,[],[.set 5 (.aE (.attr (.attr (.attr aU rM) kQ) ql) bP),.set 6 (.aE (.attr (.attr (.attr aU rM) kQ) ql) cz),.ite (.aM .eq (.aE gh bN) A2) [.dK (.aR 7) (.call (.br (.bi 5)) [b8,Gj]) [.gM (.bA aU NR [.aE gh qp,.aE iW qp,c9])]] [.set 8 (.ite (.attr aU xR) (.d9 .or c9 XQ) c9),.set 9 (.aC [.aE iW v7,.aE iW Ax]),.ite (.aM .eq (.aE iW v7) (.aE iW b8)) [.gM (.bA aU [103,111] [bP,.aE iW v7,uD]),.set 9 (.aC [.aE iW Ax])] [],.gM (zc 637 [aU,bP,AX,uD,mJ])]]⟩
noncomputable def A7:Fn:=⟨2,6,[],[.ite (.aM .eq aU AZ) [.ret (zc 182 [aB,.list [],.aC [],.aC [],.aC [XR,bN],.aC [],bN])] [],.set 2 (zc 197 [aB,aU]),.set 3 (.j7 []),.dK (.aR 4) bP [.ite (.not (zc 258 [aB,c9])) [.ret (.neg b8)] [],.set 5 (zc 734 [.aE (.attr aB ql) c9]),.ite (.aM .ZT gh (.br .none)) [.gM (.bA cz vQ [.aC [gh,bN,bN,bN]])] []],.ret (.ite bP (zc 182 [aB,cz,.aC [],.aC [],.aC [],.aC [],bN]) (.neg b8))]⟩
noncomputable def sN:Fn:=⟨4,7,[],[.set 4 (.attr (.attr aB rM) kQ),.set 5 (.aE (.aE (.attr c9 ql) bP) b8),.ite (.aM .eq (.aE (.aE (.attr c9 ql) aU) bN) v8) [.gM (.bA aB [116,117,114,110] [.aE (.aE (.attr c9 ql) aU) b8,gh,cz]),.um] [],.set 6 (zc 720 [c9,aU]),.ite (.aM .ge iW bN) [.gM (.bA aB [116,117,114,110] [iW,gh,.d9 .or cz (.br (.int 32))])] []]⟩
noncomputable def A8:Fn:=⟨1,1,[],[.ite (.aM .eq (.aE aB bN) v7) [.ret (.aE aB b8)] [],.ite (.and [.aM .eq (.aE aB bN) Gj,.aM .eq (.jU) (.aE aB v7)]) [.jU] [],.ret (.br .none)]⟩
noncomputable def A9:Fn:=⟨2,2,[],[.ret (.ite (.aM .eq (.aE aU Gj) b8) (zc 244 [aB,.aE aU Ax]) (.aE aU Ax))]⟩
noncomputable def cj:Fn:=⟨4,8,[],[.set 4 (.attr (.attr aB rM) kQ),.set 5 (.call (.br (.cls 477)) [.attr aB rM,.aC [.br (.int (-2))]]),.bC gh uc (.attr aB uc),.bC gh vS (.attr aB vS),.bC gh Fi (.d9 .add (.attr aB Fi) b8),.bC gh LM (.attr aB LM),.bC gh CP (.attr aB CP),.bC gh xQ (.bA c9 I8 [.aC [Gl,cz,.bA c9 I8 [.aC [OQ,.aE bP b8]]]]),.bC gh AJ (.d9 .add (.call (.br (.bi 4)) [.bA (.attr aB vS) QT [c9,cz]]) (.aC [.aE bP b8])),.gM (.bA gh [103,111] [aU,zc 741 [c9,bP],bN]),.bC aB CP (.attr gh CP),.set 6 (zc 644 [gh,.br (.int (-2))]),.set 7 (zc 649 [.attr gh [99,111],.br (.int (-2)),iW]),.ite qp [.ret (zc 656 [gh,zc 237 [c9,qp]])] [],.set 7 (zc 649 [.attr gh Ja,.br (.int (-2)),iW]),.ite (.not qp) [.ret b8] [],.ret (.ite (.aM .eq (.call (.br (.bi 0)) [qp]) b8) (.aE qp bN) (.bA (.attr aB vS) [109,101,101,116] [c9,qp]))]⟩
noncomputable def Gw:Fn:=⟨2,2,[],[.bC aB kQ aU,.bC aB LM bN,.bC aB aa4 (.br (.int 200)),.bC aB aa3 (.br (.int 40)),.bC aB [108,105,98] (.br .none)]⟩
noncomputable def DS:Fn:=⟨2,2,[],[.ret aU]⟩
noncomputable def qX:Fn:=⟨3,4,[],[.ret (.comp (.aE (.aE (.attr aU ql) cz) b8) (.aR 3) (zc 351 [aU,bP]) [.aM .eq (.aE (.aE (.attr aU ql) cz) bN) OQ])]⟩
noncomputable def Ka:Fn:=⟨2,4,[],[.set 2 (.aE aB (zt [97,116])),.dR aB (zt [97,116]) (.d9 .add bP b8),.set 3 (.aE aB (zt NT)),.ret (.d9 .mod (.d9 .add (.aE cz (.d9 .mod bP (.call (.br (.bi 0)) [cz]))) (.d9 .fdiv bP (.call (.br (.bi 0)) [cz]))) aU)]⟩
noncomputable def OV:Fn:=⟨2,6,[],[.dK (.aR 2) (.aC [bN,DH,b8]) [.ite (.aM .eU bP aU) [.ret (.aC [bP])] []],.set 3 (.dict [] []),.dK (.aR 4) aU [.dR cz c9 b8],.ret (.call (.br (.bi 4)) [.comp gh (.aR 5) (.call (.br (.bi 1)) [cz]) [.and [.aM .dz (.bA (.aE aB (zt CS)) vR [gh,.neg b8]) cz,.aM .dz (.bA (.aE aB (zt Fo)) vR [gh,.neg b8]) cz]]])]⟩
noncomputable def Ke:Fn:=⟨2,3,[],[.ret (zc 957 [aB,.comp (.ite (.aM .eU bP (.aE aB (zt Fo))) (.aE (.aE aB (zt CS)) bP) bP) (.aR 2) aU []])]⟩
noncomputable def OW:Fn:=⟨3,6,[],[.set 3 (.d9 .add (.list [aU]) (.comp (zc 237 [.aE aB (zt kQ),gh]) (.aR 5) bP [])),.ite (.aM .eq aU A2) [.set 3 (.d9 .add cz (.list [.aC [],bN]))] [],.set 4 (.bA (.aE aB (zt kQ)) I8 [.call (.br (.bi 4)) [cz]]),.dR (.aE aB (zt ud)) c9 (.aC [aU,bP]),.ret (.aC [c9])]⟩
noncomputable def Gx:Fn:=⟨3,5,[],[.set 3 (.call (.br (.bi 4)) [.comp (.aC [c9,bN,bN,bN]) (.aR 4) aU []]),.ret (.bA (.aE aB (zt kQ)) I8 [.aC [XQ,cz,.aC [],.aC [],.ite bP (.aC [XR,bN]) (.aC []),.aC [],bN]])]⟩
noncomputable def gw:Fn:=⟨1,13,[],[.set 1 (.aE aB (zt kQ)),.dK (.aR 2) (.aC [zt [97],zt [98]]) [.dR aB (zt I9) (.d9 .add (.aE aB (zt I9)) (.list [.bA aU I8 [.aC [v7,bP,bN]],.bA aU I8 [.aC [v7,bP,b8]]]))],.dR aB (zt I9) (.d9 .add (.aE aB (zt I9)) (.list [.bA aU I8 [.aC [Ax,b8,bN]],.bA aU I8 [.aC [Ax,b8,b8]]])),.dK (.aR 3) (.aC [bN,mJ,Ax]) [.dR (.aE aB (zt Fo)) (.aE (.aE aB (zt I9)) (.d9 .add cz b8)) (.aE (.aE aB (zt I9)) cz),.dK (.aR 4) (.V8 (.aE aB (zt I9)) (some cz) (some (.d9 .add cz mJ))) [.dR (.aE aB (zt CS)) c9 (.ite (.aM .eq cz Ax) Qu AZ),.dR (.aE aB (zt NU)) c9 (.aE (.aC [zt [97],zt [],zt [98],zt [],zt []]) cz)]],.dR aB (zt ue) (.comp (.aC [zc 190 [aU,AY,.neg b8,.neg b8]]) (.aR 11) (.aC [zt [84],zt [81],zt [80],zt [71]]) []),.set 5 (.aC [zc 972 [aB,.aC [zt [118]],.br (.bool false)]]),.set 6 (.aE (.aE aB (zt ue)) v7),.dR aB (zt vU) (.d9 .add (.aE aB (zt I9)) (.list [Gj,Ax,AZ,Qu])),.dR aB (zt vU) (.d9 .add (.aE aB (zt vU)) (.list [.aE gh bN,.aE iW bN,.aE (zc 967 [aB,v8,.aC [iW]]) bN,.aE (zc 967 [aB,v8,.aC [gh]]) bN])),.dR aB (zt vU) (.d9 .add (.aE aB (zt vU)) (.list [.aE (zc 967 [aB,Gl,.aC [iW,.aC [.aE (.aE aB (zt I9)) bN]]]) bN])),.set 7 (zc 967 [aB,v8,.aC [.aC [.aE (.aE aB (zt I9)) b8]]]),.dR aB (zt vU) (.d9 .add (.aE aB (zt vU)) (.list [.aE (zc 967 [aB,A2,.aC [iW,.aC [Qu],.aC [.aE (.aE aB (zt I9)) v7],qp]]) bN])),.set 8 (zc 967 [aB,Gl,.aC [.aE (.aE aB (zt ue)) bN,.aE (.aE aB (zt ue)) b8]]),.dR aB (zt Je) (.aE (.aC [.aE (.aE aB (zt ue)) bN,uD]) (zc 952 [aB,mJ])),.dR aB (zt AJ) (.comp (.aE (.aE (.aE aB (zt ue)) DG) bN) (.aR 12) (.ite (.aM .eq (.aE aB (zt Je)) uD) (.aC [bN,b8,mJ]) (.aC [bN,mJ])) []),.dR aB (zt xQ) (zc 967 [aB,Gl,.aC [.aE aB (zt Je),.aE (.aE aB (zt ue)) mJ]]),.set 9 (zc 967 [aB,v8,.aC [.aE aB (zt xQ)]]),.set 10 (zc 967 [aB,Gl,.aC [.aE aB (zt xQ),.aE (.aE aB (zt ue)) mJ]]),.dR aB (zt QU) (.list [.aE aB (zt xQ),AX,sH,uD,.aE (.aE aB (zt ue)) mJ,.aC [],iW,zc 967 [aB,v8,.aC [.aE (.aE aB (zt ue)) mJ]]])]⟩
noncomputable def Kf:Fn:=⟨1,4,[],[.set 1 (.aC []),.dK (.aR 2) (.call (.br (.bi 5)) [.d9 .add b8 (zc 952 [aB,mJ])]) [.set 3 (zc 952 [aB,XQ]),.set 1 (.d9 .add aU (.ite (.aM .eq cz Gj) (.aC [.aE (.aE aB (zt vU)) (.aE (.aC [bN,mJ,Ax,AZ,XQ,zi9]) (zc 952 [aB,AZ]))]) (.aE (.aE aB (zt QU)) cz)))],.ret (zc 957 [aB,aU])]⟩
noncomputable def oG:Fn:=⟨2,5,[],[.set 2 (.aE (.aC [.aE aB (zt xQ),.aE (.aE aB (zt QU)) b8,.aE (.aE aB (zt ue)) v7]) (zc 952 [aB,v7])),.set 3 (.ite (.aM .eq (zc 952 [aB,v7]) bN) bP (zc 984 [aB])),.set 4 (.ite (.and [.aM .ne aU (.aC []),.aM .eq (zc 952 [aB,mJ]) b8]) aU (zc 984 [aB])),.ret (zc 967 [aB,A2,.aC [bP,.aC [AZ],cz,c9]])]⟩
noncomputable def yP:Fn:=⟨1,4,[],[.set 1 (zc 952 [aB,Gj]),.ite (.aM .eq aU bN) [.ret (.aE aB (zt xQ))] [],.set 2 (zc 984 [aB]),.ite (.aM .eq aU mJ) [.set 2 (zc 957 [aB,.d9 .add bP (.aE aB (zt xQ))])] [],.ite (.aM .gt aU mJ) [.set 3 (zc 991 [aB,.aC []]),.ite (.aM .eq aU Ax) [.set 3 (zc 991 [aB,cz])] [],.set 2 (.ite (.aM .eq (zc 952 [aB,mJ]) b8) cz (zc 957 [aB,.d9 .add bP cz]))] [],.ret bP]⟩
noncomputable def Kg:Fn:=⟨1,3,[],[.set 1 (zc 952 [aB,Gj]),.ite (.aM .eq aU Ax) [.ret (.aE (.aC [.aC [bN],.aC [b8],.aC [],.aC [DH]]) (zc 952 [aB,Ax]))] [],.ite (.aM .eq aU v7) [.ret (.aC [.aE (.aE aB (zt vU)) (.d9 .add OQ (zc 952 [aB,AZ]))])] [],.ret (zc 957 [aB,.comp (.aE (.aE aB (zt vU)) (zc 952 [aB,A2])) (.aR 2) (.call (.br (.bi 5)) [.d9 .add b8 aU]) []])]⟩
noncomputable def Gy:Fn:=⟨2,4,[],[.dK (.aR 2) aU [.ite (.aM .eU bP (.aE aB (zt AJ))) [.ret (.br (.bool true))] [],.ite (.aM .eU bP (.aE aB (zt ud))) [.dK (.aR 3) (.aE (.aE (.aE aB (zt ud)) bP) b8) [.ite (zc 1010 [aB,cz]) [.ret (.br (.bool true))] []]] []],.ret (.br (.bool false))]⟩
noncomputable def Gz:Fn:=⟨1,2,[],[.ret (.call (.br (.bi 2)) [.d9 .add (.comp (.aE aU b8) (.aR 1) aB []) (.list [qW])])]⟩
noncomputable def eW:Fn:=⟨7,13,[],[.ite (.not (zc 1010 [aB,bP])) [.ret (.list [])] [],.ite (.aM .eq bP (.aE aB (zt xQ))) [.ret (.list [.aC [aU,cz,c9]])] [],.dR aB (zt CP) (.d9 .add (.aE aB (zt CP)) b8),.ite (.or [.aM .gt gh XT,.aM .ge iW (.br (.int 40)),.aM .gt (.aE aB (zt CP)) (.br (.int 20000)),.and [.aM .eq (.call (.br (.bi 0)) [bP]) b8,.aM .eU (.aE bP bN) (.aE aB (zt AJ))]]) [.ret (.list [])] [],.ite (.aM .eq aU (.aC [DH])) [.ret (.list [.aC [aU,cz,c9]])] [],.ite (.aM .gt (.call (.br (.bi 0)) [bP]) b8) [.ret (zc 1039 [aB,aU,bP,cz,c9,gh,.d9 .add iW b8])] [],.set 7 (.aE (.aE (.aE aB (zt ud)) (.aE bP bN)) bN),.set 8 (.ite (.aM .eq (.call (.br (.bi 0)) [aU]) b8) (.bA (.aE aB (zt ud)) vR [.aE aU bN,.aC [bN,.aC []]]) (.aC [bN,.aC []])),.ite (.and [.aM .eq qp A2,.aM .ne (.aE uD bN) A2]) [.ret (zc 1034 [aB,aU,.aE (.aE (.aE aB (zt ud)) (.aE bP bN)) b8,cz,c9,gh,.d9 .add iW b8])] [],.ite (.and [.aM .eq qp v8,.aM .ne (.aE uD bN) v8]) [.set 9 (zc 1027 [aB,aU]),.ite (.aM .lt AX bN) [.ret (.list [])] [],.ret (zc 1022 [aB,.aC [AX],.aE (.aE (.aE (.aE aB (zt ud)) (.aE bP bN)) b8) bN,.d9 .or cz (.br (.int 32)),.d9 .aE b8 c9,.d9 .add gh b8,.d9 .add iW b8])] [],.set 10 (.list []),.dK (.aR 11) (.call (.br (.bi 5)) [.ite (.aM .eq (.aE uD bN) qp) (.call (.br (.bi 0)) [.aE uD b8]) bN]) [.set 12 (.aE (.aE (.aE (.aE aB (zt ud)) (.aE bP bN)) b8) AY),.set 10 (.d9 .add sH (zc 1022 [aB,.aE (.aE uD b8) AY,DG,cz,.ite (.aM .eq qp v8) (.d9 .aE b8 c9) c9,.d9 .add gh b8,.d9 .add iW b8]))],.ret sH]⟩
noncomputable def GA:Fn:=⟨2,5,[],[.ite (.aM .eq aU (.aC [AZ])) [.ret (zc 972 [aB,.aC [],.br (.bool true)])] [],.ite (.or [.aM .eq aU (.aC []),.aM .ne (.comp bP (.aR 2) aU [.and [.aM .dz bP (.aE aB (zt CS)),.aM .dz bP (.aC [Gj,Ax])]]) (.list [])]) [.ret (.neg b8)] [],.ret (zc 972 [aB,.comp cz (.aR 3) (.aC [zt [97],zt [98]]) [.aM .eU cz (.comp (.bA (.aE aB (zt NU)) vR [c9,zt []]) (.aR 4) aU [])],.br (.bool false)])]⟩
noncomputable def jL:Fn:=⟨7,11,[],[.set 7 (.ite (.aM .eq c9 b8) (.d9 .or cz XQ) cz),.set 8 (.list []),.set 9 (.list [.aE bP mJ,.aE bP v7]),.ite (.aM .eq (.aE bP mJ) (.aE bP bN)) [.set 8 (zc 1022 [aB,aU,.aE bP mJ,qp,c9,gh,iW]),.set 9 (.list [.aE bP v7])] [],.dK (.aR 10) AX [.ite (.aM .ne sH (.aE aB (zt xQ))) [.set 8 (.d9 .add uD (zc 1022 [aB,aU,sH,qp,c9,gh,iW]))] []],.dK (.aR 10) AX [.ite (.aM .eq sH (.aE aB (zt xQ))) [.set 8 (.d9 .add uD (.list [.aC [aU,.d9 .or qp b8,c9]]))] []],.ret uD]⟩
noncomputable def gj:Fn:=⟨7,27,[],[.set 7 (.comp (.aC [XO,.bA (.aE aB (zt Fo)) vR [XO,XO],.bA (.aE aB (zt CS)) vR [XO,.neg b8]]) (.aR 16) aU []),.set 8 (.comp (.aE acH bN) (.aR 17) qp [.and [.aM .dz (.aE acH b8) bP,.aM .dz (.aE acH mJ) bP]]),.set 9 (.comp acI (.aR 18) bP [.and [.aM .dz acI (.comp (.aE akw b8) (.aR 19) qp []),.aM .dz acI (.comp (.aE akx mJ) (.aR 20) qp [])]]),.ite (.and [.aM .eq uD (.list []),.aM .ne aU (.aC [])]) [.ret (zc 1022 [aB,aU,.call (.br (.bi 4)) [AX],.d9 .or cz b8,c9,gh,iW])] [],.ite (.aM .eq (.call (.br (.bi 0)) [AX]) b8) [.ret (zc 1022 [aB,.call (.br (.bi 4)) [uD],.aC [.aE AX bN],cz,c9,gh,iW])] [],.set 10 (.list []),.set 11 (.ite (.aM .ne aU (.aC [])) (.comp (.aC [aky]) (.aR 21) uD []) (.list [.aC []])),.set 12 (.comp akz (.aR 22) AY []),.dK (.aR 13) (.comp (.aC [agj]) (.aR 23) AX [.aM .ne agj (.aE (.aE aB (zt xQ)) bN)]) [.dK (.aR 14) AY [.set 15 (zc 1022 [aB,agh,akv,cz,c9,gh,iW]),.set 10 (.d9 .add sH agi),.ite (.aM .eq (zc 1015 [agi]) cz) [.set 12 (.comp agk (.aR 24) DG [.aM .ne agk agh])] []]],.ite (.and [.aM .eU (.aE (.aE aB (zt xQ)) bN) AX,.aM .ne DG (.list [])]) [.set 10 (.d9 .add sH (.list [.aC [.call (.br (.bi 4)) [.By akB (.aR 25) DG (.aR 26) akA],cz,c9]]))] [.ite (.aM .eU (.aE (.aE aB (zt xQ)) bN) AX) [.set 10 (.d9 .add sH (.list [.aC [.call (.br (.bi 4)) [uD],.d9 .or cz b8,c9]]))] []],.ret sH]⟩
noncomputable def DT:Fn:=⟨2,9,[],[.set 2 (zc 1015 [aU]),.dK (.aR 3) (.aC [bN,b8]) [.set 4 (.j7 []),.dK (.nM [5,6,7]) aU [.set 8 (zc 237 [.aE aB (zt kQ),zc 962 [aB,gh]]),.ite (.and [.aM .eq iW bP,.aM .eq qp cz,.aM .dz uD c9]) [.gM (.bA c9 vQ [uD])] []],.ite (.aM .gt (.call (.br (.bi 0)) [c9]) cz) [.ret (.ite (.aM .eq cz b8) (.neg b8) (zc 237 [.aE aB (zt kQ),c9]))] [],.ite (.aM .ne c9 (.list [])) [.ret (.aE c9 bN)] []],.ret b8]⟩
noncomputable def qY:Fn:=⟨2,4,[],[.set 2 (zc 952 [aB,AZ]),.set 3 (zc 952 [aB,Ax]),.bC aU Fi (.aE (.aC [bN,cz,bN,XT,XR,bN]) bP),.bC aU LM (.aE (.aC [bN,bN,.d9 .add (.br (.int 37)) cz,bN,bN,bN]) bP),.bC aU CP (.ite (.aM .eq bP Gj) (.d9 .aE (.br (.int 20000)) cz) cz),.bC aU xP (.aE (.aC [qW,b8]) (.d9 .mod cz mJ))]⟩
noncomputable def kE:Fn:=⟨2,12,[],[.set 2 (zc 998 [aB]),.set 3 (zc 952 [aB,v7]),.set 4 (zc 1003 [aB]),.gM (zc 1053 [aB,aU]),.set 5 (.aC [.attr aU Fi,.attr aU LM,.attr aU xP]),.dR aB (zt CP) (.attr aU CP),.set 6 (.ite (.aM .eq cz b8) (zc 957 [aB,.d9 .add bP (.aC [Ax])]) bP),.set 7 (zc 1046 [aB,zc 1022 [aB,c9,iW,bN,bN,.d9 .add (.attr aU Fi) b8,.attr aU LM]]),.set 8 (zc 237 [.aE aB (zt kQ),.aE aB (zt Je)]),.set 9 (.bA (.aE aB (zt kQ)) I8 [.aC [v8,uD]]),.set 10 (.aC [.br (.int 17),mJ,AX,.neg b8,zc 237 [.aE aB (zt kQ),bP],cz,bN]),.jC 11 (zc 748 [aU,zc 237 [.aE aB (zt kQ),c9],sH,uD]) 11 (.int (-1)),.ite (.or [.aM .ne AY qp,.aM .ne (.attr aU CP) (.aE aB (zt CP)),.aM .ne (.aC [.attr aU Fi,.attr aU LM,.attr aU xP]) gh]) [.jU] [],.ret (.and [.aM .eq (.attr aU [99,111]) (.dict [] []),.aM .eq (.attr aU Ja) (.dict [] []),.aM .eq (.attr aU xQ) (.neg b8),.aM .eq (.attr aU xR) bN])]⟩
noncomputable def B7:Fn:=⟨1,6,[],[.set 1 (.comp (.d9 .mod gh (.br (.int 1680))) (.aR 5) (.V8 aB none (some (.br (.int 63)))) []),.ite (.aM .eq (.call (.br (.bi 0)) [aU]) bN) [.set 1 (.list [bN,mJ,mJ,bN,Gj,v7,b8,b8,b8,AZ,bN,bN,b8,bN,b8,bN,v7,v7,Ax,bN,bN,bN,Ax,v7,v7,bN]),.set 1 (.d9 .add aU (.list [b8,b8,b8,AZ,bN,b8,bN,mJ,Gj,v7]))] [],.set 2 (.dict [.str NT,.str [97,116],.str kQ,.str I9,.str Fo,.str CS,.str NU,.str ud,.str CP] [aU,bN,.call (.br (.cls 146)) [],.list [],.dict [] [],.dict [] [],.dict [] [],.dict [] [],bN]),.gM (zc 977 [bP]),.set 3 (.call (.br (.cls 477)) [.call (.br (.cls 926)) [.aE bP (zt kQ)],.aC [bN]]),.bC cz vS (.call (.br (.cls 943)) []),.dR (.attr cz uc) v8 (.call (.br (.cls 673)) []),.dR (.attr cz uc) Gl (.call (.br (.cls 692)) []),.dR (.attr cz uc) A2 (.call (.br (.cls 711)) []),.dK (.aR 4) (.call (.br (.bi 5)) [.d9 .add mJ (zc 952 [bP,v7])]) [.ite (.not (zc 1060 [bP,cz])) [.jU] []],.ret (.br (.bool true))]⟩
noncomputable def eF(l:List String):aF:=l.zipIdx.map λx=>(PySem.Str.ofString x.1,x.2)
noncomputable def sO:aF:=eF ["self","row"]
noncomputable def uG:aF:=eF ["self","row","t"]
noncomputable def Kh:aF:=eF ["tab","t"]
noncomputable def wm:aF:=eF ["props","found","prop"]
noncomputable def GB:aF:=eF ["tab","props","calls","ctors","sindex","nindex","fresh"]
noncomputable def DU:aF:=eF ["tab","name","bound","default","pid"]
noncomputable def GC:aF:=eF ["tab","t","row"]
noncomputable def wo:aF:=eF ["row","kind"]
noncomputable def wu:aF:=eF ["tab","t","row"]
noncomputable def Ba:aF:=eF ["got"]
noncomputable def wz:aF:=eF ["tab","got","t"]
noncomputable def OX:aF:=eF ["got","t"]
noncomputable def Sf:aF:=eF ["tab","parts","got","t","part","top","kept"]
noncomputable def DV:aF:=eF ["tab","t"]
noncomputable def Bb:aF:=eF ["tab","t"]
noncomputable def Kl:aF:=eF ["tab","t"]
noncomputable def GD:aF:=eF ["tab","t","row"]
noncomputable def yQ:aF:=eF ["tab","t"]
noncomputable def Km:aF:=eF ["tab","t"]
noncomputable def GF:aF:=eF ["tab","t","row","whole"]
noncomputable def OY:aF:=eF ["tab","t","row","kind","whole"]
noncomputable def GG:aF:=eF ["row","kind","low","high"]
noncomputable def DW:aF:=eF ["row"]
noncomputable def Bc:aF:=eF ["tab","row","out","pid"]
noncomputable def Kn:aF:=eF ["tab","t","seen","waiting","at"]
noncomputable def DX:aF:=eF ["tab","t"]
noncomputable def uH:aF:=eF ["tab","t"]
noncomputable def yR:aF:=eF ["self","tab","kinds"]
noncomputable def wA:aF:=eF ["self","tab","t"]
noncomputable def uI:aF:=eF ["self","host","pids"]
noncomputable def yS:aF:=eF ["self","source","target","priority"]
noncomputable def qZ:aF:=eF ["self","source","target","priority"]
noncomputable def uJ:aF:=eF ["self","source","target","priority"]
noncomputable def GH:aF:=eF ["g","t","found","pid"]
noncomputable def sP:aF:=eF ["g","pid"]
noncomputable def DY:aF:=eF ["g","t","own","pid"]
noncomputable def OZ:aF:=eF ["host","t","pid","deep","row","part"]
noncomputable def uK:aF:=eF ["g","pid","t","priority","rows"]
noncomputable def Bd:aF:=eF ["g","target","priority","pid"]
noncomputable def Be:aF:=eF ["g","source","target","priority"]
noncomputable def wB:aF:=eF ["g","source","target","priority","row"]
noncomputable def Bf:aF:=eF ["g","source","target","priority","key","kept","cuts"]
noncomputable def GJ:aF:=eF ["g","t","row"]
noncomputable def q7:aF:=eF ["tab","s","t","kind"]
noncomputable def DZ:aF:=eF ["g","s","t","tab"]
noncomputable def Bg:aF:=eF ["tab","s","t","a","b"]
noncomputable def wC:aF:=eF ["g","sources","targets","close","priority","tab","used","met","t","s","like"]
noncomputable def wF:aF:=eF ["tab","source"]
noncomputable def yT:aF:=eF ["g","source","target","priority","tab","sources","targets"]
noncomputable def Bh:aF:=eF ["g","source","target","priority","kept","reached"]
noncomputable def yU:aF:=eF ["g","sources","targets","priority","met","circled","t","s","reached","naked","rest"]
noncomputable def D0:aF:=eF ["g","targets","found","t","row","bare"]
noncomputable def Bj:aF:=eF ["g","source","targets","priority","most_naked","naked","one","t"]
noncomputable def uL:aF:=eF ["g","pid","best","rows","t","priority"]
noncomputable def Bk:aF:=eF ["rows","pid","best"]
noncomputable def O0:aF:=eF ["g","t","tab","out","part"]
noncomputable def sQ:aF:=eF ["self","g","source","target","priority"]
noncomputable def jm:aF:=eF ["self","g","source","target","priority","a","b"]
noncomputable def jM:aF:=eF ["self","g","source","target","priority","a","b","place","rank","branches"]
noncomputable def yV:aF:=eF ["tab","source","parts","props","part","text"]
noncomputable def Bl:aF:=eF ["g","source","target","priority","tab","over","kind"]
noncomputable def yW:aF:=eF ["row"]
noncomputable def yX:aF:=eF ["tab","row"]
noncomputable def mO:aF:=eF ["g","kind","row","over","tab","g2","best","found"]
noncomputable def D3:aF:=eF ["self","tab"]
noncomputable def Bm:aF:=eF ["self","t"]
noncomputable def qg:aF:=eF ["self","tab","t"]
noncomputable def GK:aF:=eF ["w","n","at","nums"]
noncomputable def Ko:aF:=eF ["w","parts","top","held","part"]
noncomputable def GL:aF:=eF ["w","kind"]
noncomputable def Kq:aF:=eF ["w","sort","kinds","row","at"]
noncomputable def D4:aF:=eF ["w","names","every","props"]
noncomputable def D5:aF:=eF ["w","tab","text","at","one","thing","far","lone","outer","keys","deep"]
noncomputable def GN:aF:=eF ["w","out","lap","how"]
noncomputable def wG:aF:=eF ["w","knot","check","yes","no"]
noncomputable def wH:aF:=eF ["w","how","out","made"]
noncomputable def GO:aF:=eF ["w","how"]
noncomputable def D6:aF:=eF ["w","t","part","kind"]
noncomputable def D7:aF:=eF ["told"]
noncomputable def GP:aF:=eF ["w","s","t","rank","side","level","deep","sort","mine","named","out","place","aim"]
noncomputable def D8:aF:=eF ["w","s"]
noncomputable def wI:aF:=eF ["w","s","made","rank","side","level","deep","low","out","ways","t"]
noncomputable def GQ:aF:=eF ["w","s","t","rank","side","level","deep","near","rest","left","out","kinds","over","aim","kind","told"]
noncomputable def Bo:aF:=eF ["w","told","least","side","found","kind","rank","way","t"]
noncomputable def GU:aF:=eF ["w","g","how","more"]
noncomputable def D9:aF:=eF ["w","g","template","add","kind","held","aim","want","over","keys","row","got"]
noncomputable def acJ:aF:=eF ["script","nums","w","g","lap"]
noncomputable def GLL:List (PySem.Str×V):=[(toS [70,73,82,83,84,95,82,79,87,83],.aC [.aC [.int 1,.str [97,110,121]],.aC [.int 1,.str abd],.aC [.int 1,.str NP],.aC [.int 1,.str [118,111,105,100]],.aC [.int 1,.str abe],.aC [.int 1,.str [110,117,108,108]],.aC [.int 1,.str abf],.aC [.int 1,.str NQ],.aC [.int 2,.int 0,.int 0],.aC [.int 2,.int 1,.int 0],.aC [.int 1,.str abg],.aC [.int 8,.aC [],.aC [],.aC [],.aC [],.aC [],.int 0],.aC [.int 6,.aC [.int 8,.int 9]],.aC [.int 1,.str [101,114,114,111,114]],.aC [.int 2,.int 0,.int 1],.aC [.int 2,.int 1,.int 1]]),(toS [108,101,110],.bi 0),(toS [116,117,112,108,101],.bi 4),(toS [115,111,114,116,101,100],.bi 1),(toS [89,95,79,66,74],.int 8),(toS [115,111,114,116,101,100,95,112,114,111,112,115],.fn 170),(toS [89,95,80,65,82,65,77],.int 10),(toS [78,69,86,69,82],.int 2),(toS [89,95,85,78,73,79,78],.int 6),(toS [89,95,83,84,82],.int 3),(toS [89,95,84,80,76],.int 18),(toS [83,84,82,73,78,71],.int 6),(toS [89,95,78,85,77],.int 4),(toS [78,85,77,66,69,82],.int 7),(toS [89,95,69,78,85,77],.int 5),(toS [77,65,82,75,69,68,95,82,79,87,83],.aC [.int 2,.int 3,.int 4,.int 5,.int 8]),(toS [70,65,76,83,69,95,84],.int 8),(toS [70,82,69,83,72,95,70],.int 14),(toS [84,82,85,69,95,84],.int 9),(toS [70,82,69,83,72,95,84],.int 15),(toS [114,101,103,117,108,97,114,95,116,119,105,110],.fn 211),(toS [119,104,111,108,101,95,111,102,95,114,111,119],.fn 204),(toS [65,78,89],.int 0),(toS [69,82,82],.int 13),(toS [85,78,75,78,79,87,78],.int 1),(toS [112,97,114,116,115,95,111,102],.fn 197),(toS [116,111,112,95,111,102],.fn 232),(toS [106,111,105,110,95,98,111,111,108,115],.fn 218),(toS [115,116,97,121,115,95,98,101,115,105,100,101],.fn 225),(toS [77,65,88,95,85,78,73,79,78],.int 400),(toS [117,110,105,111,110],.fn 237),(toS [85,78,68,69,70],.int 4),(toS [76,73,84,69,82,65,76,95,82,79,87,83],.aC [.int 2,.int 3,.int 4,.int 5]),(toS [78,85,76,76,84],.int 5),(toS [105,115,95,108,105,116,101,114,97,108],.fn 251),(toS [105,115,95,102,114,101,115,104],.fn 265),(toS [107,105,110,100,95,111,102],.fn 157),(toS [114,101,103,117,108,97,114,95,111,110,101],.fn 272),(toS [89,95,66,79,79,76],.int 2),(toS [89,95,75,69,89],.int 1),(toS [75,69,89,95,70,65,77,73,76,73,69,83],.sd 109),(toS [70,65,77,95,79,84,72,69,82],.int 0),(toS [79,66,74,69,67,84,95,82,79,87,83],.aC [.int 8,.int 9,.int 11,.int 12,.int 13]),(toS [70,65,77,95,79,66,74],.int 7),(toS [89,95,73,78,84,69,82],.int 7),(toS [70,65,77,95,83,84,82],.int 1),(toS [70,65,77,95,78,85,77],.int 2),(toS [75,73,68,95,83,80,65,78,83],.sd 110),(toS [89,95,82,69,70],.int 9),(toS [89,95,65,76,73,65,83],.int 19),(toS [89,95,84,85,80,76,69],.int 12),(toS [89,95,83,73,71],.int 13),(toS [89,95,67,79,78,68],.int 16),(toS [89,95,77,65,80,80,69,68],.int 17),(toS [114,111,119,95,107,105,100,115],.fn 330),(toS [114,111,119,95,98,105,110,100,115],.fn 337),(toS [105,110,110,101,114,95,107,105,100,115],.fn 344),(toS [119,104,111,108,101,95,111,102],.fn 289),(toS [119,105,100,101,110,95,111,110,101],.fn 372),(toS [77,101,101,116,101,114],.cls 414),(toS [80,82,95,77,79,83,84],.int 1024),(toS [105,110,102,101,114,95,102,114,111,109],.fn 556),(toS [80,82,95,82,69,84,85,82,78],.int 16),(toS [104,111,108,100,115,95,111,119,110],.fn 515),(toS [97,116,95,116,111,112],.fn 523),(toS [107,101,101,112,115,95,108,105,116,101,114,97,108,115],.fn 503),(toS [119,105,100,101,110,95,108,105,116,101,114,97,108],.fn 377),(toS [112,117,116,95,99,97,110,100,105,100,97,116,101],.fn 542),(toS [83,76,79,84],.int (-2)),(toS [105,115,95,97,115,107,101,100],.fn 488),(toS [77,79,83,84,95,76,69,86,69,76],.int 12),(toS [77,79,83,84,95,68,69,69,80],.int 40),(toS [77,79,83,84,95,83,84,69,80,83],.int 20000),(toS [105,110,102,101,114,95,116,97,114,103,101,116],.fn 563),(toS [112,117,116,95,115,105,108,101,110,116],.fn 549),(toS [105,110,102,101,114,95,117,110,105,111,110],.fn 613),(toS [79,78,67,69,95,82,79,87,83],.aC [.int 8,.int 9,.int 12,.int 16,.int 17]),(toS [105,110,102,101,114,95,111,110,99,101],.fn 570),(toS [80,82,95,67,73,82,67,76,69],.int (-1)),(toS [114,101,103,117,108,97,114],.fn 277),(toS [102,97,109,105,108,121],.fn 308),(toS [115,97,109,101,95,111,114,95,108,105,116,101,114,97,108],.fn 584),(toS [89,95,65,82,82,65,89],.int 11),(toS [115,97,109,101,95,109,97,107,101,114],.fn 598),(toS [115,97,109,101,95,112,97,114,116],.fn 591),(toS [115,111,117,114,99,101,95,112,97,114,116,115],.fn 608),(toS [116,97,107,101,95,109,97,116,99,104,101,115],.fn 603),(toS [80,82,95,78,65,75,69,68],.int 1),(toS [105,110,102,101,114,95,112,97,114,116,115],.fn 625),(toS [105,115,95,110,97,107,101,100],.fn 577),(toS [114,101,97,99,104,101,100,95,98,121],.fn 620),(toS [109,101,116,95,110,97,107,101,100],.fn 630),(toS [105,110,102,101,114,95,107,101,121,115],.fn 727),(toS [89,95,73,78,68,69,88],.int 15),(toS [114,97,110,103,101],.bi 5),(toS [80,82,95,67,79,78,68],.int 8),(toS [105,110,102,101,114,95,101,97,99,104],.fn 637),(toS [111,98,106,95,116,121,112,101],.fn 182),(toS [69,77,80,84,89],.int 11),(toS [105,115,95,117,110,105,116],.fn 258),(toS [116,101,120,116,95,111,102,95,114,111,119],.fn 734),(toS [89,95,75,69,89,79,70],.int 14),(toS [107,101,121,115,95,111,98,106,101,99,116],.fn 720),(toS [80,82,95,75,69,89,79,70],.int 32),(toS [77,79,68,95,65,68,68],.int 1),(toS [97,100,100,95,117,110,100,101,102],.fn 244),(toS [71,117,101,115,115,105,110,103],.cls 477),(toS [116,101,109,112,108,97,116,101,95,111,102],.fn 741),(toS [80,82,95,80,76,65,73,78],.int 0),(toS [98,101,115,116,95,112,114,105,111,114,105,116,121],.fn 644),(toS [107,101,112,116,95,107,105,110,100,115],.fn 649),(toS [115,116,111,114,101,100],.fn 656),(toS [77,79,83,84,95,82,79,85,78,68,83],.int 200),(toS [77,79,83,84,95,83,72,65,80,69,83],.int 40),(toS [114,101,97,99,104,101,100],.fn 351),(toS [95,108,97,119,95,115,117,109],.fn 957),(toS [110,101,119,95,112,97,114,97,109],.fn 190),(toS [95,108,97,119,95,116,104,105,110,103],.fn 972),(toS [95,108,97,119,95,108,97,121],.fn 967),(toS [95,108,97,119,95,116,97,107,101],.fn 952),(toS [95,108,97,119,95,115,111,109,101],.fn 984),(toS [95,108,97,119,95,98,114,97,110,99,104,101,100],.fn 991),(toS [95,108,97,119,95,110,97,109,101,115],.fn 1010),(toS [109,105,110],.bi 2),(toS [95,108,97,119,95,109,97,110,121],.fn 1039),(toS [95,108,97,119,95,98,114,97,110,99,104,101,115],.fn 1034),(toS [95,108,97,119,95,107,101,121,101,100],.fn 1027),(toS [95,108,97,119,95,104,101,97,114],.fn 1022),(toS [95,108,97,119,95,108,101,97,115,116],.fn 1015),(toS [95,108,97,119,95,119,105,100,101],.fn 962),(toS [95,108,97,119,95,116,101,109,112,108,97,116,101],.fn 998),(toS [95,108,97,119,95,107,105,110,100],.fn 1003),(toS [95,108,97,119,95,114,111,111,109],.fn 1053),(toS [95,108,97,119,95,97,110,115,119,101,114],.fn 1046),(toS [105,110,102,101,114,107,105,110,100,95,115,108,111,116,95,107,105,110,100],.fn 748),(toS [84,121,112,101,84,97,98,108,101],.cls 146),(toS [95,108,97,119,95,119,111,114,108,100],.fn 977),(toS [82,101,102,72,111,115,116],.cls 926),(toS [82,111,119,77,101,101,116,101,114],.cls 943),(toS [75,101,121,115,82,117,108,101],.cls 673),(toS [73,110,102,101,114,107,105,110,100,73,110,100,101,120,82,117,108,101],.cls 692),(toS [73,110,102,101,114,107,105,110,100,67,111,110,100,82,117,108,101],.cls 711),(toS [95,108,97,119,95,114,105,103,104,116],.fn 1060),(toS [72,111,115,116,70,97,117,108,116],.cls 80)]
noncomputable def FTL:List (Nat×Fn×aF):=[(129,uE,sO),(143,v9,uG),(157,OR,Kh),(170,yJ,wm),(182,J3,GB),(190,Gm,DU),(197,J4,GC),(204,yK,wo),(211,oB,wu),(218,DI,Ba),(225,yL,wz),(232,Sa,OX),(237,XU,Sf),(244,Gn,DV),(251,DJ,Bb),(258,OS,Kl),(265,J5,GD),(272,A3,yQ),(277,OT,Km),(289,J6,GF),(308,Sb,OY),(330,J7,GG),(337,Gp,DW),(344,DK,Bc),(351,OU,Kn),(372,Gq,DX),(377,wc,uH),(392,A4,yR),(411,yM,wA),(453,we,uI),(460,A5,yS),(467,sJ,qZ),(474,wg,uJ),(488,J8,GH),(503,uF,sP),(515,Gs,DY),(523,Sd,OZ),(542,dX,uK),(549,DL,Bd),(556,mK,Be),(563,yN,wB),(570,mL,Bf),(577,J9,GJ),(584,sM,q7),(591,Gu,DZ),(598,DM,Bg),(603,oF,wC),(608,yO,wF),(613,gc,yT),(620,DN,Bh),(625,A6,yU),(630,Gv,D0),(637,DO,Bj),(644,wj,uL),(649,DQ,Bk),(656,Se,O0),(670,lA,sQ),(689,fL,jm),(708,jX,jM),(720,A7,yV),(727,sN,Bl),(734,A8,yW),(741,A9,yX),(748,cj,mO),(762,Gw,D3),(769,DS,Bm),(940,qX,qg),(952,Ka,GK),(957,OV,Ko),(962,Ke,GL),(967,OW,Kq),(972,Gx,D4),(977,gw,D5),(984,Kf,GN),(991,oG,wG),(998,yP,wH),(1003,Kg,GO),(1010,Gy,D6),(1015,Gz,D7),(1022,eW,GP),(1027,GA,D8),(1034,jL,wI),(1039,gj,GQ),(1046,DT,Bo),(1053,qY,GU),(1060,kE,D9),(1065,B7,acJ)]
noncomputable def FT:Nat->Option Fn:=λa=>(FTL.lookup a).map (·.1)
noncomputable def Wg:PySem.Str->Option V:=λx=>GLL.lookup x
noncomputable def Ms(d:Data):Option FuncData:=by cases d;(case func=>exact some f);all_goals exact none
theorem Ms.ok:Ms d=some f->d=.func f:=by cases d;(case func=>exactλh=>au Data.func (bV h));all_goals exact ns
noncomputable def O1(d:Data):Option (Array Value×Nat):=by cases d;(case seq=>exact some (items,epoch));all_goals exact none
theorem O1.ok:O1 d=some q->d=.seq q.1 q.2:=by cases d;(case seq=>exactλh=>au (λq:Array Value×Nat=>Data.seq q.1 q.2) (bV h));all_goals exact ns
noncomputable def XW(d:Data):Option (Array Value):=by cases d;(case fields=>exact some vs);all_goals exact none
theorem XW.ok:XW d=some q->d=.fields q:=by cases d;(case fields=>exactλh=>au Data.fields (bV h));all_goals exact ns
noncomputable def B8(d:Data):Option (Array DictEntry×Nat):=by cases d;(case dict=>exact some (entries,epoch));all_goals exact none
theorem B8.ok:B8 d=some q->d=.dict q.1 q.2:=by cases d;(case dict=>exactλh=>au (λq:Array DictEntry×Nat=>Data.dict q.1 q.2) (bV h));all_goals exact ns
noncomputable def Ea(u:Value):Option Addr:=by cases u;(case ref=>exact some a);all_goals exact none
theorem Ea.ok:Ea u=some b->u=.ref b:=by cases u;(case ref=>exactλh=>au Value.ref (bV h));all_goals exact ns
noncomputable def yY(u:Value):Option PySem.Str:=by cases u;(case str=>exact some s);all_goals exact none
theorem yY.ok:yY u=some x->∃t,u=.str x t:=by cases u;(case str=>exactλh=>bV h▸⟨_,rfl⟩);all_goals exact ns
noncomputable def XX(b:FuncBody):Option (List Stmt):=FuncBody.casesOn (motive:=λ_=>Option (List Stmt)) b some λ_=>none
theorem XX.ok:XX b=some l->b=.stmts l:=FuncBody.casesOn b (λ_ h=>au FuncBody.stmts (bV h)) λ_=>ns
noncomputable def GV(h:Heap)(a:Addr):Option (List Value):=(h.get? a).bind λo=>if o.cls=.type "tuple"/\o.dict=none/\o.slots=#[]then(O1 o.data).map λq=>q.1.toList else none
theorem GV.ok(e:GV h a=some vs):∃n,h.get? a=some (mz vs n):=by
 obtain⟨o,e1,e⟩:=bind_some e;by_cases hc:o.cls=.type "tuple"/\o.dict=none/\o.slots=#[]
 ·rw [az hc]at e
  obtain⟨q,e2,rfl⟩:=Option.map_eq_some_iff.mp e;obtain⟨h1,h2,h3⟩:=hc;refine⟨q.2,e1.trans (au some ?_)⟩;obtain⟨c,d,dt,sl⟩:=o;obtain rfl:c=_:=h1;obtain rfl:d=_:=h2;obtain rfl:sl=_:=h3;obtain rfl:dt=_:=O1.ok e2;rfl
 ·rw [ay hc]at e;exact ns e
noncomputable def vOk(h:Heap)(x:V):Value->Bool:=V.rec (motive_1:=λ_=>Value->Bool) (motive_2:=λ_=>List Value->Bool)
 (λu=>decide (u=.none)) (λ_ _=>false) (λi u=>Value.isInt i u) (λs u=>Value.isStrOf (toS s) u&&PyData.strOk (toS s))
 (λxs ih u=>bM (Ea u) λa=>bM (GV h a) λvs=>decide (a≠0)&&(decide (a<1066)&&(decide (xs.length<=64)&&ih vs))) (λ_ _ _=>false) (λ_ _ _=>false) (λ_ _=>false) (λ_ _ _=>false)
 (λa u=>decide (u=.ref a)) (λa u=>decide (u=.ref a)) (λa u=>decide (u=.ref a)) (λn u=>decide (u=n8 n))
 (λvs=>vs.isEmpty) (λ_ _ ih uf vs=>vs.casesOn (motive:=λ_=>Bool) false λv r=>ih v&&uf r) x
noncomputable def agm(h:Heap)(xs:List V)(vs:List Value):Bool:=List.rec (motive:=λ_=>List Value->Bool) (λvs=>vs.isEmpty) (λx _ uf vs=>vs.casesOn (motive:=λ_=>Bool) false λv r=>vOk h x v&&uf r) xs vs
section
abbrev akC(h0 h:Heap)(pl:List Addr)(x:V):Prop:=∀u,vOk h0 x u=true->VR h pl x u
theorem aaj(vs:List Value)(e:vs.isEmpty=true):dH h pl [] vs:=(qz e:vs=[])▸.nil
theorem Kr(hk:fy h0 h)(hl:∀a∈pl,a=0\/1066<=a)(x:V):akC h0 h pl x:=V.rec (motive_2:=λxs=>∀vs,V.rec_1 (motive_1:=λ_=>Value->Bool)
 (λu=>decide (u=.none)) (λ_ _=>false) (λi u=>Value.isInt i u) (λs u=>Value.isStrOf (toS s) u&&PyData.strOk (toS s))
 (λxs ih u=>bM (Ea u) λa=>bM (GV h0 a) λvs=>decide (a≠0)&&(decide (a<1066)&&(decide (xs.length<=64)&&ih vs))) (λ_ _ _=>false) (λ_ _ _=>false) (λ_ _=>false) (λ_ _ _=>false)
 (λa u=>decide (u=.ref a)) (λa u=>decide (u=.ref a)) (λa u=>decide (u=.ref a)) (λn u=>decide (u=n8 n))
 (λvs=>vs.isEmpty) (λ_ _ ih uf vs=>vs.casesOn false λv r=>ih v&&uf r) xs vs=true->dH h pl xs vs)
 (λu e=>.flat (bx e:u=.none)) (λ_ _=>ff) (λi u e=>.flat (Value.isInt_shape e)) (λs u e=>.flat ⟨(ah e).2,Value.isStrOf_shape (ah e).1⟩)
 (λxs ih u e=>by
  obtain⟨a,e1,e⟩:=bM.ok e;obtain⟨vs,e2,e⟩:=bM.ok e;obtain⟨n,e3⟩:=GV.ok e2;have c1:=bx (ah e).1;have c2:=ah (ah e).2;have c3:=ah c2.2;rw [Ea.ok e1];exact .aC (hk _ _ e3) (λhm=>(fY hm).elim c1 λhm=>(hl a hm).elim c1 λq=>Nat.not_lt.mpr q (bx c2.1)) (ih vs c3.2) (aH (bx c3.1) (by decide))) (λ_ _ _=>ff) (λ_ _ _=>ff) (λ_ _=>ff) (λ_ _ _=>ff)
 (λa u e=>.flat (bx e:u=.ref a)) (λa u e=>.flat (bx e:u=.ref a)) (λa u e=>.flat (bx e:u=.ref a)) (λn u e=>.flat (bx e:u=n8 n))
 aaj (λx xs ih uf vs e=>by
  cases vs with
  |nil=>exact ff e
  |cons v r=>exact .cons (ih v (ah e).1) (uf r (ah e).2)) x
theorem XY(hk:fy h0 h)(hl:∀a∈pl,a=0\/1066<=a)(xs:List V):∀vs,agm h0 xs vs=true->dH h pl xs vs:=List.rec aaj (λx xs uf vs e=>by
 cases vs with
 |nil=>exact ff e
 |cons v r=>exact .cons (Kr hk hl x v (ah e).1) (uf r (ah e).2)) xs
end
noncomputable def Mt(h:Heap)(cd:Value)(q:PySem.Str):Bool:=bM (Ea cd) λc=>bM (h.get? c) λo=>bM (XW o.data) λvs=>bM (vs[1]?.bind yY) λs=>decide (s=q)
theorem Mt.ok{h:Heap}{cd:Value}{q:PySem.Str}(e:Mt h cd q=true):h.CodeRec cd q:=by
 obtain⟨c,e1,e⟩:=bM.ok e;obtain⟨o,e2,e⟩:=bM.ok e;obtain⟨vs,e3,e⟩:=bM.ok e;obtain⟨s,e4,e⟩:=bM.ok e;obtain⟨v,e5,e6⟩:=bind_some e4;obtain⟨t,e7⟩:=yY.ok e6;exact⟨c,o,vs,t,Ea.ok e1,e2,XW.ok e3,e5.trans (au some (e7.trans (au (λs=>Value.str s t) (bx e))))⟩
noncomputable def Sg(h:Heap)(v:Value):Option (Option (Array Value)):=if v=.none then some none else(Ea v).bind λT=>(h.get? T).bind λo=>(O1 o.data).map λq=>some q.1
theorem Sg.ok{h:Heap}{v:Value}{os:Option (Array Value)}(e:Sg h v=some os){s:Shared}(hk:fy h s.heap)(M:Model)(A:Around)(E:Value->Shared->Prop)(Q:Option (Array Value)->Shared->Prop)(hq:Q os s):wpAny M A (seqItems? v) Q E s:=by
 unfold Sg at e;by_cases hn:v=.none
 ·rw [az hn]at e
  rw [hn];exact wpAny_of_eq (show seqItems? .none=pure none from rfl) (bV e▸hq)
 ·rw [ay hn]at e
  obtain⟨T,e1,e⟩:=bind_some e;obtain⟨o,e2,e⟩:=bind_some e;obtain⟨q,e3,rfl⟩:=Option.map_eq_some_iff.mp e;rw [Ea.ok e1];exact wpAny_seqItems (hk _ _ e2) (O1.ok e3) hq
abbrev nms(fd:FuncData):List PySem.Str:=fd.params.args.map (·.arg)
structure FnC(fd:FuncData)(f:Fn)(sl:aF):Prop where
 JG:fd.globals=mainGlobals
 blt:fd.builtins=builtinsNs
 nsd:(nms fd).Nodup
 len:(nms fd).length=f.gP
 aco:f.m6.length<=f.gP
 kind:fd.scope.kind=.function
 co:fd.scope.isCoroutine=false
 gen:fd.scope.isGenerator=false
 nd:(fd.scope.names.map (·.1)).Nodup
 fst:(sl.map (·.1)).Nodup
 snd:(sl.map (·.2)).Nodup
 Qt:sl.take f.gP=(nms fd).zipIdx
 aD:∀p∈sl,fd.scope.names.lookup p.1=some .local\/fd.scope.names.lookup p.1=some .cell
instance{fd:FuncData} {f:Fn} {sl:aF}:Decidable (FnC fd f sl):=decidable_of_iff (fd.globals=mainGlobals/\fd.builtins=builtinsNs/\(nms fd).Nodup/\(nms fd).length=f.gP/\f.m6.length<=f.gP/\fd.scope.kind=.function/\fd.scope.isCoroutine=false/\fd.scope.isGenerator=false/\(fd.scope.names.map (·.1)).Nodup/\(sl.map (·.1)).Nodup/\(sl.map (·.2)).Nodup/\sl.take f.gP=(nms fd).zipIdx/\∀p∈sl,fd.scope.names.lookup p.1=some .local\/fd.scope.names.lookup p.1=some .cell) ⟨λ⟨a,b,c,d,e,f,g,h,i,j,k,l,m⟩=>⟨a,b,c,d,e,f,g,h,i,j,k,l,m⟩,λ⟨a,b,c,d,e,f,g,h,i,j,k,l,m⟩=>⟨a,b,c,d,e,f,g,h,i,j,k,l,m⟩⟩
theorem Sh(p:Arguments)(h:(p.posonlyargs.isEmpty&&(p.vararg.isNone&&(p.kwonlyargs.isEmpty&&p.kwarg.isNone)))=true):RU p (p.args.map (·.arg)):=by
 obtain⟨a,b,c,d,e,f,g⟩:=p;have h2:=ah (ah h).2;have h3:=ah h2.2;obtain rfl:a=[]:=qz (ah h).1;obtain rfl:c=none:=Option.isNone_iff_eq_none.mp h2.1;obtain rfl:d=[]:=qz h3.1;obtain rfl:f=none:=Option.isNone_iff_eq_none.mp h3.2;exact⟨b,e,g,rfl,rfl⟩
noncomputable def Ks(g:Cx->List Stmt->Bool)(h:Heap)(a:Nat)(f:Fn)(sl:aF):Bool:=bM (h.get? a) λo=>bM (Ms o.data) λfd=>bM (XX fd.body) λbody=>bM (Sg h fd.defaults) λos=>(fd.closure.isEmpty&&(fd.params.posonlyargs.isEmpty&&(fd.params.vararg.isNone&&(fd.params.kwonlyargs.isEmpty&&fd.params.kwarg.isNone))))&&(Mt h fd.code fd.qualname&&(agm h f.m6 (os.getD #[]).toList&&(decide (FnC fd f sl)&&g ⟨fd.scope,sl,Wg⟩ body)))
noncomputable def aak(h:Heap)(a:Nat)(f:Fn)(sl:aF):Bool:=Ks (aag f.body) h a f sl
theorem FnF.of{w:World}{a:Nat}{f:Fn}{sl:aF}{g:Cx->List Stmt->Bool}(e:Ks g (HB w.params) a f sl=true):∃cx body ns dv,FnF w a f cx body ns dv/\cx.gl=Wg/\g cx body=true:=by
 obtain⟨o,e1,e⟩:=bM.ok e;obtain⟨fd,e2,e⟩:=bM.ok e;obtain⟨body,e3,e⟩:=bM.ok e;obtain⟨os,e4,e⟩:=bM.ok e;have h1:=ah (ah e).1;have h2:=ah (ah e).2;have h3:=ah h2.2;have h4:=ah h3.2;have c:=bx h4.1;exact⟨⟨fd.scope,sl,Wg⟩,body,nms fd,(os.getD #[]).toList,⟨⟨fd,⟨o,e1,Ms.ok e2⟩,Mt.ok h2.1,XX.ok e3,qz h1.1,rfl,c.JG,c.blt,Sh _ h1.2,os,rfl,λs hk M A E Q hq=>Sg.ok e4 hk M A E Q hq⟩,λh pl hk hl=>XY hk hl _ _ h3.1,c.len,c.aco,c.kind,c.co,c.gen,c.nd,c.nsd,⟨λx i j hi hj=>uC c.fst hi hj,λx y i hi hj=>BZ c.snd hi hj⟩,λi x hx=>List.mem_of_mem_take (c.Qt▸List.mem_zipIdx_iff_getElem?.mpr hx),c.aD⟩,rfl,h4.2⟩
theorem xq{α:Type}{l:List α}{f:α->Bool}(n:Nat)(h:(l.take n).all f=true)(k:(l.drop n).all f=true):l.all f=true:=by
 rw [←List.take_append_drop n l,List.all_append,h,k];rfl
noncomputable def Si(P:Params)(e:Nat×Fn×aF):Bool:=aak (HB P) e.1 e.2.1 e.2.2
theorem agn(P:Params):(FTL.take 18).all (Si P)=true:=by kernel_rfl
theorem ago(P:Params):((FTL.drop 18).take 18).all (Si P)=true:=by kernel_rfl
theorem agp(P:Params):(((FTL.drop 18).drop 18).take 18).all (Si P)=true:=by kernel_rfl
theorem agq(P:Params):((((FTL.drop 18).drop 18).drop 18).take 18).all (Si P)=true:=by kernel_rfl
theorem agr(P:Params):((((FTL.drop 18).drop 18).drop 18).drop 18).all (Si P)=true:=by kernel_rfl
theorem acL(P:Params):FTL.all (λe=>aak (HB P) e.1 e.2.1 e.2.2)=true:=xq 18 (agn P) (xq 18 (ago P) (xq 18 (agp P) (xq 18 (agq P) (agr P))))
noncomputable def aal:List (Nat×Nm×Nat):=[(146,I8,143),(414,[109,101,101,116],392),(414,[115,116,111,114,101],411),(943,[109,101,101,116],392),(943,[115,116,111,114,101],411),(943,QT,940),(477,[103,111],460),(477,NR,467),(477,[116,117,114,110],474),(673,NS,670),(692,NS,689),(711,NS,708),(926,Wv,769)]
noncomputable def Sj:List (Nat×Option Nat):=[(146,some 129),(414,none),(943,none),(477,some 453),(673,none),(692,none),(711,none),(926,some 762)]
noncomputable def oH:List (V×V):=[(.int 11,.aC [.int 1,.int 2]),(.int 14,.aC [.int 1,.int 2]),(.int 15,.aC [.int 1,.int 3]),(.int 16,.aC [.int 1,.int 5]),(.int 17,.aC [.int 2,.int 5])]
noncomputable def Eb:List (V×V):=[(.int 3,.int 6),(.int 4,.int 5),(.int 5,.int 4),(.int 6,.int 1),(.int 7,.int 2),(.int 10,.int 7)]
noncomputable def SDS:List (Nat×List (V×V)):=[(109,Eb),(110,oH)]
noncomputable def TT:iL where
 sd:=λa=>SDS.lookup a
 bA:=λc n=>(aal.find? λe=>e.1==c&&e.2.1==n).map (·.2.2)
 init:=λc=>Sj.lookup c
noncomputable def KAS:List Nat:=IU++[80,79,39,38,145,413,434,476,672,691,710,890,925,942,435,891]++FNL
noncomputable def KB(P:Params):Frag:=KAS.filterMap λa=>((HB P).get? a).map (a,·)
theorem XZ{h:Heap}(l:List Nat):Frag.In (l.filterMap λa=>(h.get? a).map (a,·)) h:=List.rec (motive:=λl=>Frag.In (l.filterMap λa=>(h.get? a).map (a,·)) h) (λa o e=>ns e) (λx l ih a o e=>by
 rw [List.filterMap_cons]at e;cases q:h.get? x with
 |none=>rw [q]at e;exact ih a o e
 |some ox=>
  rw [q]at e;have e:List.lookup a ((x,ox)::_)=some o:=e;rw [vO]at e;by_cases h:(a==x)=true
  ·rw [h]at e
   rw [eq_of_beq h,q];exact e
  ·rw [Bool.eq_false_iff.mpr h]at e
   exact ih a o e) l
noncomputable def cfB(K:Frag)(C:Nat):Bool:=decide (findIn K (.ref C) "__getattribute__"=some (some (.builtin "object.__getattribute__")))&&(decide (findIn K (.ref C) "__getattr__"=some none)&&(decide (findIn K (.ref C) "__setattr__"=some (some (.builtin "object.__setattr__")))&&
 (bM (clsIn K C) (·.hasDict)&&(plainOver K C&&WY.all λn=>decide (findIn K (.ref C) (toS n)=some none)))))
theorem cfB.ok{K:Frag}{C:Nat}(h:cfB K C=true):CF K C WY:=
 have h2:=ah (ah h).2;have h3:=ah h2.2;have h4:=ah h3.2;have h5:=ah h4.2
 ⟨bx (ah h).1,bx h2.1,bx h3.1,bM.ok h4.1,h5.1,λn hn=>bx (pW h5.2 n hn)⟩
theorem akE(P:Params):IU.all (cfB (KB P))=true:=by kernel_rfl
noncomputable def mB(K:Frag)(e:Nat×Nm×Nat):Bool:=decide (findIn K (.ref e.1) (toS e.2.1)=some (some (.ref e.2.2)))&&(decide (typeIn K (.ref e.2.2)=some (.type "function"))&&keepIn K (.ref e.2.2))
theorem k_meth(P:Params):aal.all (mB (KB P))=true:=by kernel_rfl
noncomputable def iB(K:Frag)(c:Nat)(i:Option Nat):Bool:=Option.casesOn (motive:=λ_=>Bool) i (decide (findIn K (.ref c) "__init__"=some (some (.builtin "object.__init__")))) λf=>decide (findIn K (.ref c) "__init__"=some (some (.ref f))/\typeIn K (.ref f)=some (.type "function"))
theorem acM(P:Params):Sj.all (λe=>IU.contains e.1&&(makesIn (KB P) e.1&&iB (KB P) e.1 e.2))=true:=by kernel_rfl
theorem acN(P:Params):FNL.all (λa=>keepIn (KB P) (.ref a))=true:=by kernel_rfl
theorem X0(P:Params):IU.all (λa=>keepIn (KB P) (.ref a))=true:=by kernel_rfl
noncomputable def wJ(h:Heap)(a:Addr):Option (Array DictEntry):=(h.get? a).bind λo=>(B8 o.data).bind λq=>if q.1.toList.all (λe=>(yY e.key).isSome)then some q.1 else none
theorem wJ.ok{h:Heap}{a:Addr}{es:Array DictEntry}(e:wJ h a=some es):h.Ns a (nsFind es):=by
 obtain⟨o,e1,e⟩:=bind_some e;obtain⟨q,e2,e⟩:=bind_some e;obtain⟨hk,rfl⟩:=cF e;refine⟨o,q.1,q.2,e1,B8.ok e2,λen he=>?_,λ_=>rfl⟩;obtain⟨x,hx⟩:=Option.isSome_iff_exists.mp (pW hk en (Array.mem_toList_iff.mpr he));obtain⟨t,ht⟩:=yY.ok hx;exact⟨x,t,ht⟩
noncomputable def X3(h:Heap):Bool:=bM (wJ h mainGlobals) λes=>bM (wJ h builtinsNs) λeb=>GLL.all λp=>bM ((nsFind es p.1).or (nsFind eb p.1)) (vOk h p.2)
theorem X3.ok{w:World}(e:X3 (HB w.params)=true):Glb w Wg:=by
 obtain⟨es,e1,e⟩:=bM.ok e;obtain⟨eb,e2,e⟩:=bM.ok e;refine⟨_,wJ.ok e1,_,wJ.ok e2,λx v hx=>?_⟩;obtain⟨u,e3,e4⟩:=bM.ok (pW e _ (qD hx));refine⟨u,?_,λh pl hk hl=>Kr hk hl _ _ e4⟩;have e3:(nsFind es x).or (nsFind eb x)=some u:=e3;revert e3;cases nsFind es x with
 |none=>exactλe=>.inr ⟨rfl,e⟩
 |some y=>exact .inl
theorem ags(P:Params):X3 (HB P)=true:=by kernel_rfl
noncomputable def sdB(h:Heap)(es:List (V×V)):List DictEntry->Bool:=List.rec (motive:=λ_=>List DictEntry->Bool) (λds=>ds.isEmpty) (λq _ r ds=>ds.casesOn (motive:=λ_=>Bool) false λd ds=>decide (jE 2 q.1 d.key=true/\d.hash=hashInt q.1.tU)&&(vOk h q.2 d.val&&r ds)) es
theorem sdB.ok{w:World}{h0 h:Heap}{pl:List Addr}(hk:fy h0 h)(hl:∀a∈pl,a=0\/1066<=a)(es:List (V×V)):∀{ds:List DictEntry},sdB h0 es ds=true->∃kvs:List (V×Value),DPF h pl es kvs/\Pairs (k8 w 2) ds kvs/\(∀e∈ds,∃k,(k8 w 2).is k e.key=true/\e.hash=(k8 w 2).hash k)/\kvs.map (·.1)=es.map (·.1):=List.rec (motive:=λes=>∀{ds:List DictEntry},sdB h0 es ds=true->∃kvs:List (V×Value),DPF h pl es kvs/\Pairs (k8 w 2) ds kvs/\(∀e∈ds,∃k,(k8 w 2).is k e.key=true/\e.hash=(k8 w 2).hash k)/\kvs.map (·.1)=es.map (·.1)) (λ{ds}e=>(qz e:ds=[])▸⟨[],.nil,.nil,λ_=>bg,rfl⟩) (λq r ih{ds}e=>by
 cases ds with
 |nil=>exact ff e
 |cons d ds=>
  obtain⟨h1,h2⟩:=bx (ah e).1;have h3:=ah (ah e).2;obtain⟨kvs,q1,q2,q3,q4⟩:=ih h3.2;obtain⟨dh,dk,dv⟩:=d;have hh:dh=rX w q.1:=h2.trans (au (rX w) (De (gp h1).1)).symm;exact⟨(q.1,dv)::kvs,DP.cons (f:=Prod.fst) (k:=(q.1,dv)) (Kr hk hl q.2 dv h3.1) q1,.cons h1 rfl q2,λen he=>(fY he).elim (λz=>z▸⟨q.1,h1,hh⟩) (q3 en),au (q.1::·) q4⟩) es
noncomputable def agu(h:Heap)(a:Addr)(es:List (V×V)):Bool:=(!(a==sysModules)&&(decide ((es.map (·.1)).Nodup)&&Nat.ble es.length 64))&&bM (h.get? a) λo=>bM (B8 o.data) λq=>decide (o.cls=.type "dict"/\o.dict=none/\o.slots=#[])&&sdB h es q.1.toList
theorem akF(P:Params):SDS.all (λe=>agu (HB P) e.1 e.2)=true:=by kernel_rfl
theorem ri{α β:Type} [BEq α] [LawfulBEq α]{x:α}{b:β}(l:List (α×β)):l.lookup x=some b->(x,b)∈l:=List.rec ns (λq r ih h=>by
 rw [vO]at h;by_cases e:(x==q.1)=true
 ·rw [e]at h
  rw [eq_of_beq e,←bV h];exact cC
 ·rw [Bool.eq_false_iff.mpr e]at h
  exact cP _ (ih h)) l
theorem agv(w:World):nO TT w:=⟨λa es h=>by
 have e:agu (HB w.params) a es=true:=pW (akF w.params) (a,es) (ri SDS h);have h1:=ah (ah e).1;have h2:=ah h1.2;obtain⟨o,e1,e⟩:=bM.ok (ah e).2;obtain⟨q,e2,e⟩:=bM.ok e;have hx:=bx (ah e).1;refine⟨ie h1.1,λh pl hk hl=>⟨aH (I3 h2.2) (by decide),.inl ⟨2,?_⟩⟩⟩
 obtain⟨kvs,q1,q2,q3,q4⟩:=sdB.ok (w:=w) hk hl es (ah e).2;exact⟨kvs,⟨o,q.1,q.2,hk _ _ e1,⟨hx.1,hx.2.1,hx.2.2⟩,B8.ok e2,λen he=>q3 en (Array.mem_toList_iff.mpr he),q2,by
  rw [q4];exact bx h2.1⟩,q1⟩⟩
theorem GW(w:World):SF w TT (KB w.params) Wg where
 Wc:=XZ KAS
 cf:=λc hc=>cfB.ok (pW (akE w.params) c hc)
 JG:=X3.ok (ags w.params)
 sd:=agv w
 bA:=λc hc n f h=>by
  obtain⟨e,q,rfl⟩:=Option.map_eq_some_iff.mp h;have hp:=ah (show(e.1==c&&e.2.1==n)=true from List.find?_some (p:=λe:Nat×Nm×Nat=>e.1==c&&e.2.1==n) q);have h1:=ah (pW (k_meth w.params) e (List.mem_of_find?_eq_some q));have h2:=ah h1.2;obtain rfl:=eq_of_beq hp.1;obtain rfl:=eq_of_beq hp.2;exact⟨bx h1.1,bx h2.1,h2.2⟩
 init:=λc i h=>by
  have h1:=ah (pW (acM w.params) (c,i) (ri Sj h));have h2:=ah h1.2;refine⟨List.contains_iff_mem.mp h1.1,h2.1,?_⟩;have h3:=h2.2;revert h3;cases i<;>exact bx
 keep:=λa ha=>pW (acN w.params) a ha
 Z5:=λa ha=>pW (X0 w.params) a ha
noncomputable def akG(h:Heap):Bool:=bM (wJ h cStatics) λes=>(nsFind es "sys.recursionlimit").isNone
theorem agw(P:Params):akG (HB P)=true:=by kernel_rfl
theorem GY(w:World):Mm w:=by
 obtain⟨es,e1,e⟩:=bM.ok (agw w.params);exact⟨_,wJ.ok e1,Option.isNone_iff_eq_none.mp e⟩
theorem X4(hR:∀d,B6 w TT (aS TT FT d) d Wg)(d:Nat):FY w d (aS TT FT d):=by
 induction d with
 |zero=>exactλ_ _ _ _ _ _ _ _ _ _=>J.aJ
 |succ d ih=>
  intro a xs A p fs vs am Fs R r;cases hf:FT a with
  |none=>exact J.congr (show(bX (FT a) p.st).bind _=_ by rw [hf];rfl) J.aJ
  |some f=>
   obtain⟨⟨f',sl⟩,hl,rfl⟩:=Option.map_eq_some_iff.mp hf;obtain⟨cx,body,ns,dv,F,hg,hc⟩:=FnF.of (pW (acL w.params) (a,f',sl) (ri FTL hl));exact afR (GY w) F hf (λfs=>oSs (GW w) ih (hR d) hg F.so F.kind _ _ hc) am Fs R r
section
open PySem.F (excBase_Exception)
abbrev IW:List Value:=[.ref 39,.type "Exception",.type "BaseException",.type "object"]
abbrev nwX:String:="Exception.__new__"
section
variable{E:Value->Shared->Prop}{g:Array GenState}{os:OsState}
variable{bs:List Value}{aE:List Value}
theorem Bp{M:Model}(hC:h.get? C=some (excClassObj nm q C N bs IW acO sn aE ab col dd k0 k1 k2 k3 k5 nwX))
  (hq:Q () ⟨h,g,d,t,os⟩):wpAny M A (checkBuiltinCall nwX ⟨.ref C::rest,[]⟩) Q E ⟨h,g,d,t,os⟩:=by
 have agx:(Value.ref C::IW).contains (.type "Exception")=true:=by simp
 have amK:=excBase_Exception.noStar;simp only [checkBuiltinCall,excBase_Exception.newKind,excBase_Exception.newSplit,excBase_Exception.newRow];repeat(first|refine I7 hC ?_|(refine wpAny_isSubtype_exc hC ?_;rw [agx])|refine wpAny_staticBase_exc hC ?_|refine wpAny_madeBy_exc hC ?_|simp only [bne_self_eq_false,Bool.false_eq_true,if_false]|wp_step)
 exact hq
theorem X5(hC:h.get? C=some (excClassObj nm q C N bs IW acO sn aE ab col dd k0 k1 k2 k3 k5 nwX))
  (hq:R (.ok (.ret (.ref (h.objs.size+1)))) ⟨(h.push {cls:=.type "tuple",data:=.seq rest.toArray}).push {cls:=.ref C,data:=.fields #[.ref h.objs.size,.none,.none,.none,.bool false,.none]},g,d,t,os⟩)(Mu:rest.length<=sizeLine):
  codeAny (model PW w) A (.builtin nwX ⟨.ref C::rest,[]⟩) R ⟨h,g,d,t,os⟩:=by
 have amL:=excBase_Exception.ends;have hcB:(Value.ref C::IW).contains (.type "Exception")=true:=by simp
 have hcA:(Value.ref C::IW).contains (.type "AttributeError")=false:=by
  rw [LL,LL,excBase_Exception.noAttr];rfl
 have hcN:(Value.ref C::IW).contains (.type "NameError")=false:=by
  rw [LL,LL,excBase_Exception.noName];rfl
 refine codeAny_builtinAt excBase_Exception.entry ?_;unfold Builtin.«BaseException.__new__»;refine PySem.wpAt_bind ?_;refine PySem.wpAt_bind (PySem.wpAt_stack λp below=>PySem.wpAt_of_wpAny ?_)
 wp_walk
 refine PySem.wpAt_of_wpAny ?_;rw [excBase_Exception.owner];repeat(first|with_reducible refine wpAny_madeHere_exc excBase_Exception.canon hC ?_|with_reducible refine I7 hC ?_|(with_reducible refine wpAny_isSubtype_exc hC ?_;first|rw [hcB]|rw [hcA]|rw [hcN])|wp_step)
 rw [Heap.size_push];exact hq
theorem Bq{mN:PySem.Str->Option Value}
  (hC:h.get? C=some (excClassObj nm q C N bs IW acO sn aE ab col dd k0 k1 k2 k3 k5 nwX))(hn:h.Ns N mN)(hi:mN "__init__"=some (.ref fI))
  (hfI:h.get? fI=some oI)(hfc:oI.cls=.type "function")(Mu:rest.length<=sizeLine)
  (hq:wpAny (model PW w) A (call (.ref fI) (.ref (h.objs.size+1)::rest)) (λr s'=>r=.none/\Q (.done (.ret (.ref (h.objs.size+1)))) s') E ⟨(h.push {cls:=.type "tuple",data:=.seq rest.toArray}).push {cls:=.ref C,data:=.fields #[.ref h.objs.size,.none,.none,.none,.bool false,.none]},g,d,t,os⟩):
  wpAny (model PW w) A (Builtin.«type.__call__» ⟨.ref C::rest,[]⟩) Q E ⟨h,g,d,t,os⟩:=by
 repeat(first|with_reducible refine I7 hC ?_|with_reducible refine wpAny_madeBy_exc hC ?_|wp_step)
 refine codeAny_call_builtin_code (Code.quiet_builtin _ excBase_Exception.quiet) (Bp hC ?_);refine X5 hC ?_ Mu;have Sk:=tX {cls:=.ref C,data:=.fields #[.ref h.objs.size,.none,.none,.none,.bool false,.none]}
  (tX {cls:=.type "tuple",data:=.seq rest.toArray} hC)
 have acP:=tX {cls:=.ref C,data:=.fields #[.ref h.objs.size,.none,.none,.none,.bool false,.none]}
  (tX {cls:=.type "tuple",data:=.seq rest.toArray} hfI)
 have agy:((h.push {cls:=.type "tuple",data:=.seq rest.toArray}).push {cls:=.ref C,data:=.fields #[.ref h.objs.size,.none,.none,.none,.bool false,.none]}).Ns N mN:=(hn.push _).push _;have akK:((h.push {cls:=.type "tuple",data:=.seq rest.toArray}).push
   {cls:=.ref C,data:=.fields #[.ref h.objs.size,.none,.none,.none,.bool false,.none]}).get? (h.objs.size+1)=some
   {cls:=.ref C,data:=.fields #[.ref h.objs.size,.none,.none,.none,.bool false,.none]}:=by heap_get
 have hcC:(Value.ref C::IW).contains (.ref C)=true:=by simp
 unfold isInstance;repeat(first|with_reducible refine I7 akK ?_|(with_reducible refine wpAny_isSubtype_exc Sk ?_;rw [hcC])|wp_step)
 rw [typeLookup_eq];refine aV (wpAny_mroOf_exc Sk ?_);rw [lookupAlong_cons];refine aV (wpAny_classOwn_exc Sk agy ?_);rw [hi];refine aP ?_;refine iX (aV ?_);unfold bindSpecial;refine aV (wpAny_typeOf ⟨_,acP,hfc⟩ ?_);rw [az (by decide)]
 refine aP (aV (gE hq (λr s' hr=>?_) λ_ _ x=>x));obtain⟨rfl,hQ⟩:=hr
 wp_walk
 exact hQ
theorem Sl{mN:PySem.Str->Option Value}
  (hC:h.get? C=some (excClassObj nm q C N bs IW acO sn aE ab col dd k0 k1 k2 k3 k5 nwX))(hn:h.Ns N mN)(hi:mN "__init__"=some (.ref fI))
  (hfI:h.get? fI=some oI)(hfc:oI.cls=.type "function")(Mu:rest.length<=sizeLine)
  (hq:wpAny (model PW w) (A.under (.builtin "type.__call__" ⟨.ref C::rest,[]⟩)) (call (.ref fI) (.ref (h.objs.size+1)::rest)) (λr s'=>r=.none/\Q (.ref (h.objs.size+1)) s') E ⟨(h.push {cls:=.type "tuple",data:=.seq rest.toArray}).push {cls:=.ref C,data:=.fields #[.ref h.objs.size,.none,.none,.none,.bool false,.none]},g,d,t,os⟩):
  wpAny (model PW w) A (call (.ref C) rest) Q E ⟨h,g,d,t,os⟩:=by
 have f1:=tc_lookup;have f2:=tc_bind (.ref C);have hT:(⟨h,g,d,t,os⟩:Shared).TypeIs (.ref C) "type":=⟨_,hC,rfl⟩;refine wpAny_call (codeAny_of_tree ?_);repeat(any_goals (first|assumption|with_reducible refine I7 hC ?_|wp_step))
 refine⟨rfl,?_⟩;exact codeAny_call_builtin_at (Code.quiet_builtin _ (by decide+kernel)) entry_typeCall (wpAny_check_type_call_sub hC (Bq hC hn hi hfI hfc Mu hq))
end
section
variable{E:Value->Shared->Prop}{g:Array GenState}{os:OsState}
variable{bs:List Value}{aE:List Value}
end
end
structure XF(K:Frag):Prop where
 sa:findIn K (.ref 80) "__setattr__"=some (some (.builtin "object.__setattr__"))
 cls:∃cd,clsIn K 80=some cd/\cd.mro=.ref 80::IW/\cd.hasDict=true
theorem agz(P:Params):XF (KB P):=by
 have h1:decide (findIn (KB P) (.ref 80) "__setattr__"=some (some (.builtin "object.__setattr__")))=true:=by kernel_rfl
 have h2:(match clsIn (KB P) 80 with|some cd=>decide (cd.mro=.ref 80::IW)&&cd.hasDict|none=>false)=true:=by kernel_rfl
 refine⟨bx h1,?_⟩;cases e:clsIn (KB P) 80 with
 |none=>rw [e]at h2;cases h2
 |some cd=>
  rw [e]at h2;simp only [Bool.and_eq_true,decide_eq_true_eq]at h2;exact⟨cd,rfl,h2⟩
theorem O3(P:Params):findIn (KB P) (.ref 80) (toS NQ)=some none:=by
 have h1:decide (findIn (KB P) (.ref 80) (toS NQ)=some none)=true:=by kernel_rfl
 exact bx h1
theorem Ec(P:Params):findIn (KB P) (.ref 80) (toS [116,101,120,116])=some none:=by
 have h1:decide (findIn (KB P) (.ref 80) (toS [116,101,120,116])=some none)=true:=by kernel_rfl
 exact bx h1
section
variable{w:World}{A:Around}{E:Value->Shared->Prop}{s:Shared}{K:Frag}{x:Addr}
theorem Mv(X:K.In s.heap)(F:XF K)(I:InstAt s.heap x ox 80 od)(ht:findIn K (.ref 80) name=some none)
  (h:wpAny (model PW w) A.in1 (Builtin.ObjectAttr.storeInOwnDict (.ref x) (.ref 80) (.str name tk) name v false)
   (λ(gV:PySem.Fin)s'=>match gV with|.done f=>R (.ok f) s'|.again c'=>c'.quiet=true/\codeAny (model PW w) A c' R s') (λe s'=>R (.error e) s') s):
  codeAny (model PW w) A (.call (.builtin "object.__setattr__") ⟨[.ref x,.str name tk,v],[]⟩) R s:=by
 have SF:=PySem.F.store_object;obtain⟨cd,hc,ho,hhd⟩:=F.cls;have ne:cd.mro.isEmpty=false:=by rw [ho];rfl
 have has:cd.mro.contains (.type "object")=true:=by rw [ho];decide
 have aE:Looks (model PW w) s.heap (isInstance (.ref x) (.type "object")) true:=I.type.andThen (looks_mroIn X (by unfold mroIn;rw [hc,Option.bind_some,ay (by rw [ne];decide),has]))
 refine codeAny_call_builtin SF.slot.plain SF.entry (@check_slot (model PW w) _ _ s "object.__setattr__" "object" "__setattr__" (.ref x) [.str name tk,v] [] _ SF.kind SF.split aE (SF.args (.ref x) (.str name tk) v) ?_);have hm:Looks (model PW w) s.heap (mroOf (.ref 80)) cd.mro:=(looks_clsIn X hc).andThen .now;rw [osa_eq,refuse_eq];refine aV (aV (I.type.here (aV (hm.here ?_))));have pass:refuseLoop (.ref x) "__setattr__" cd.mro=pure ():=by
  rw [ho,refuseLoop_ref,refuseLoop_ref];exact PySem.F.store_Exception.passes _
 rw [pass];refine aP (aV (I.type.here (aV ((looks_findIn X ht).here (aV (aP ?_))))));exact h
theorem GZ(hk:k<=100)(X:K.In s.heap)(F:XF K)(hx:s.heap.get? x=some o)(hc:o.cls=.ref 80)(hd:o.data=.fields vs)
  (D:o.dict=none\/∃dx m,o.dict=some dx/\dx≠x/\s.heap.Ns dx m/\s.heap.DictLe dx k)(Mw:findIn K (.ref 80) name=some none)
  (h:∀h' tk dx m,(∃o',h'.get? x=some o'/\o'.cls=.ref 80/\o'.data=.fields vs/\o'.dict=some dx)->dx≠x->h'.Ns dx m->h'.DictLe dx (k+1)->((s.heap.get? dx=none/\dx=s.heap.objs.size)\/o.dict=some dx)->(∀b ob,b≠x->b≠dx->s.heap.get? b=some ob->h'.get? b=some ob)->Q () {s with heap:=h',toks:=tk}):
  wpAny (model PW w) A (setAttr (.ref x) name v) Q E s:=by
 obtain⟨oc,odi,oda,osl⟩:=o;dsimp only at hc hd D;subst hc hd;obtain⟨cd,Z4,aoC,hhd⟩:=F.cls;have aan:∀{h':Heap}{dx:Addr}{m:PySem.Str->Option Value}{n:Nat},h'.Ns dx m->h'.DictLe dx n->n<=101->∃o es ep,h'.get? dx=some o/\o.data=.dict es ep/\es.size<=1001:=λ{h' dx m n}hn hz hle=>by
  obtain⟨o,es,ep,ho,hd,_⟩:=hn;exact⟨o,es,ep,ho,hd,aH (hz o es ep ho hd) (by omega)⟩
 rcases D with D|⟨dx,m,D,L4,Aw,hle⟩
 ·subst D
  have I:InstAt s.heap x ⟨.ref 80,none,.fields vs,osl⟩ 80 none:=⟨hx,rfl,rfl,bu⟩;refine set_plain X I F.sa (Mv X F I Mw ?_);unfold Builtin.ObjectAttr.storeInOwnDict;refine aV (aP ?_);rw [ay (by decide)]
  refine aV (aV (wpAny_loadPart hx (aV ((looks_clsIn X Z4).at ?_))));rw [hhd];rw [ay (by decide)]
  show wpAny _ _ (if(! true||! typeHasDict (.ref 80))=true then pure none else do
   let d←alloc {cls:=Value.type "dict",data:=Data.dict #[]}
   update x λo=>{cls:=o.cls,dict:=some d,data:=o.data,slots:=o.slots}
   dictMade (.ref 80) x d) _ _ _
  rw [ay (by simp [typeHasDict])]
  refine aV (wpAny_alloc (aV ?_));have hx1:(s.heap.push {cls:=.type "dict",data:=.dict #[]}).get? x=some ⟨.ref 80,none,.fields vs,osl⟩:=tX _ hx;have Qm:=Nat.ne_of_gt (ua hx);refine wpAny_update hx1 ?_;refine aP ?_;dsimp only;have x2:=NK (λo=>{cls:=o.cls,dict:=some s.heap.objs.size,data:=o.data,slots:=o.slots}) hx1 rfl;have d2:((s.heap.push {cls:=.type "dict",data:=.dict #[]}).update x λo=>{cls:=o.cls,dict:=some s.heap.objs.size,data:=o.data,slots:=o.slots}).get? s.heap.objs.size=some {cls:=.type "dict",data:=.dict #[]}:=(NJ _ _ (Ne.symm Qm)).trans (nF _ rfl);have hnd:((s.heap.push {cls:=.type "dict",data:=.dict #[]}).update x λo=>{cls:=o.cls,dict:=some s.heap.objs.size,data:=o.data,slots:=o.slots}).Ns s.heap.objs.size (λ_=>none):=⟨_,#[],0,d2,rfl,λ_ he=>by simp at he,λ_=>rfl⟩
  have akM:((s.heap.push {cls:=.type "dict",data:=.dict #[]}).update x λo=>{cls:=o.cls,dict:=some s.heap.objs.size,data:=o.data,slots:=o.slots}).DictLe s.heap.objs.size 0:=λo es ep ho hd=>by
   rw [d2]at ho;cases ho;cases hd;exact aW _
  unfold Builtin.ObjectAttr.storeInDict Builtin.ObjectAttr.newKeyGuard;refine aV (aP (aV (jI hnd akM λh' Oj hs Wb=>?_)));obtain⟨o3,es3,ep3,Wh,hd3,hb3⟩:=aan Oj Wb (by split<;>omega)
  refine aV (wpAny_lookBehind Wh (by rw [hd3];exact pastItsLine_dict (by rw [sizeLine_eq];omega)) (aP ?_))
  refine h h' _ s.heap.objs.size _ ⟨_,(hs.2 x (Ne.symm Qm)).trans x2,rfl,rfl,rfl⟩ Qm Oj (Wb.mono (by split<;>omega)) (.inl ⟨cJ _,rfl⟩) λb ob hbx hbd hb=>?_
  rw [hs.2 b hbd,NJ _ _ (Ne.symm hbx)];exact tX _ hb
 ·subst D
  obtain⟨od,_,_,hod,_⟩:=id Aw;have I:InstAt s.heap x ⟨.ref 80,some dx,.fields vs,osl⟩ 80 (some od):=⟨hx,rfl,rfl,hod⟩;refine set_plain X I F.sa (Mv X F I Mw ?_);unfold Builtin.ObjectAttr.storeInOwnDict;refine aV (aP ?_);rw [ay (by decide)]
  refine aV (aV (wpAny_loadPart hx (aV ((looks_clsIn X Z4).at ?_))));rw [hhd];rw [ay (by decide)]
  refine aP ?_;dsimp only;unfold Builtin.ObjectAttr.storeInDict Builtin.ObjectAttr.newKeyGuard;refine aV (aP (aV (jI Aw hle λh' Oj hs Wb=>?_)));obtain⟨o3,es3,ep3,Wh,hd3,hb3⟩:=aan Oj Wb (by split<;>omega)
  refine aV (wpAny_lookBehind Wh (by rw [hd3];exact pastItsLine_dict (by rw [sizeLine_eq];omega)) (aP ?_))
  refine h h' _ dx _ ⟨_,(hs.2 x (Ne.symm L4)).trans hx,rfl,rfl,rfl⟩ L4 Oj (Wb.mono (by split<;>omega)) (.inr rfl) λb ob hbx hbd hb=>(hs.2 b hbd).trans hb
end
noncomputable def jn:Nm:=NQ
noncomputable def Mx:Nm:=[116,101,120,116]
noncomputable def agB(cx:Cx)(body:List Stmt):Bool:=Mq body λs1 s2=>cN s1 λts v _=>aR ts λt=>b5 t λy a _=>(f5 y (λn _=>cx.yr n 0)&&(decide (a=toS jn)&&eE v λc _ _=>OP c λ_=>true))&&
 cN s2 λts v _=>aR ts λt=>b5 t λy a _=>f5 y (λn _=>cx.yr n 0)&&(decide (a=toS Mx)&&f5 v λn _=>cx.yr n 1)
noncomputable def sR:Fn:=⟨2,2,[.str []],[]⟩
noncomputable def acQ:aF:=[(toS [115,101,108,102],0),(toS Mx,1)]
theorem Sm(P:Params):Ks agB (HB P) 77 sR acQ=true:=by kernel_rfl
def Ku(h:Heap)(x:Addr)(vs:Array Value):Prop:=∃o,h.get? x=some o/\o.cls=.ref 80/\o.data=.fields vs
theorem Ku.BQ(e:Ku h x vs):∀o,h.get? x=some o->vX o=true:=λo q=>by
 obtain⟨o',e,c,d⟩:=e;obtain rfl:=bV (e.symm.trans q);exact jK d (c▸Value.noConfusion)
section
variable{w:World}{A:Around}{cx:Cx}{E:Value->Shared->Prop}{p:Pt}{env:PySem.Env}{ρ:aQ}
theorem Sn(F:FR p.h p.pl env cx.sl ρ)(hx:cx.yr x i=true)(OG:ρ[i]?=some (some v))(h:∀u,VR p.h p.pl v u->Q u p.s):wp w A (eval (.Name x pos) env) Q E p.s:=by
 have hm:=qD (eq_of_beq (ah hx).1);have hd:=ie (ah (ah hx).2).1;by_cases hk:env.kindOf x=some .local
 ·obtain⟨m,hn,hv⟩:=F.ns
  obtain⟨v',e',q⟩:=hv x i hm hk v OG;exact wpAny_Name (wpAny_loadName_local F.kind hk hn e' (h _ q)) hd
 ·obtain⟨k,c,o,e1,e4,e5⟩:=F.cell x i hm hk
  obtain⟨v',rfl,q⟩:=e5 v OG;exact k.elim (λk=>wpAny_Name (wpAny_loadName_cell F.kind k e1 e4.2 (h _ q)) hd) λk=>wpAny_Name (wpAny_loadName_free F.kind k e1 e4.2 (h _ q) (ie (ah (ah hx).2).2)) hd
theorem yZ(hk:k<=100)
  (FF:FR p.h p.pl env cx.sl ρ)(R:RR w p)(OG:ρ[0]?=some (some (.fn x)))(hy:cx.yr n 0=true)(hv:∀(Q':Value->Shared->Prop),(∀u tk,Q' u {p.s with toks:=tk})->wp w A (eval v env) Q' E p.s)
  (hx:p.h.get? x=some o)(X6:o.cls=.ref 80)(hd:o.data=.fields vs)(D:o.dict=none\/∃dx m,o.dict=some dx/\dx≠x/\p.h.Ns dx m/\p.h.DictLe dx k)(Mw:findIn (KB w.params) (.ref 80) (toS nm)=some none)
  (h:∀h' tk dx m,(∃o',h'.get? x=some o'/\o'.cls=.ref 80/\o'.data=.fields vs/\o'.dict=some dx)->dx≠x->h'.Ns dx m->h'.DictLe dx (k+1)->(p.h.get? dx=none\/o.dict=some dx)->(∀b ob,b≠x->b≠dx->p.h.get? b=some ob->h'.get? b=some ob)->Q .next {p.s with heap:=h',toks:=tk}):
  wp w A (exec (.Assign [.Attribute (.Name n np) (toS nm) ap] v pos) env) Q E p.s:=by
 refine JR BV rfl rfl (hv _ λu tk=>?_);show wpAny _ _ (do
   let ov←holding [u] (eval (.Name n np) env)
   standAt ap.atName
   holding [u,ov] (setAttr ov (toS nm) u)
   release [u,ov] []) _ _ _
 refine aV (iX (Sn (p:=p.at p.h tk) FF hy OG λov r=>?_));obtain rfl:ov=.ref x:=r.nU;exact aV (nX (aV (iX (GZ hk ((GW w).Wc.keeps R.base) (agz w.params) hx X6 hd D Mw λh' tk' dx m h1 h2 h3 h4 h5 h6=>wpAny_release (h h' tk' dx m h1 h2 h3 h4 (h5.imp (λq=>q.1) id) h6)))))
theorem Ku.out(R:RR w p)(e:Ku p.h x vs):x∉0::p.pl:=by
 obtain⟨o,e,c,d⟩:=e;exact R.out (λo' e'⟨es,n,d'⟩=>Data.noConfusion (((au (·.data) (bV (e.symm.trans e'))).symm.trans d).symm.trans d')) λvs' n e'=>Data.noConfusion (d.symm.trans (au (·.data) (bV (e.symm.trans e'))))
theorem Ed(RY:Mm w){x:Addr}{tx:Value}{tn:Nm}{vs:Array Value}{o:Obj}{Q:Value->Shared->Prop}(RZ:A.depth<recursionLimit)(R:RR w p)(htx:VR p.h p.pl (.str tn) tx)(hx:p.h.get? x=some o)(X6:o.cls=.ref 80)(hd:o.data=.fields vs)(hdn:o.dict=none)(hxl:1066<=x)
  (h:∀h' tk,kD x p.h h'->Ku h' x vs->Q .none {p.s with heap:=h',toks:=tk}):wp w A (call (.ref 77) [.ref x,tx]) Q E p.s:=by
 obtain⟨cx,body,ns,dv,F,hg,hp⟩:=FnF.of (Sm w.params);obtain⟨fd,D⟩:=F.fn;obtain⟨os,WU,hsq⟩:=D.seq;have hdl:dv.length=1:=(F.dvr p.h p.pl R.base R.low).length.symm;have hnl:ns.length=2:=F.acn;have r0:dH p.h p.pl [.fn x,.str tn] [.ref x,tx]:=.cons (.flat rfl) (.cons htx .nil);have bt:=yG (s:=p.s) (vals:=[.ref x,tx]) (m:=1) (j:=1) D.Qt F.nsd (hsq p.s R.base) WU (hnl.trans (au (1+·) hdl).symm) rfl (cK hdl.symm)
 rw [List.drop_eq_nil_of_le (cK hdl),kX]at bt;refine wpAny_call (Mn RY F D RZ R bt λs1 L=>?_);obtain⟨h1,IY,rfl,hk1⟩:=L.done;have P1:bq w [] p (p.at h1 IY):=.push R h1 IY hk1;have F1:=FR.RV F D R (r0.c8 P1.gr) hnl.symm (sR.slots-sR.gP) L;have Wf:x∉m9 (callEnvC fd p.h.objs.size 77):=λq=>bL hx (sG L q);have Xy:([V.fn x,V.str tn].map some++List.replicate (sR.slots-sR.gP) none)[0]?=some (some (.fn x)):=rfl;have akQ:([V.fn x,V.str tn].map some++List.replicate (sR.slots-sR.gP) none)[1]?=some (some (.str tn)):=rfl;have hx1:=hk1 _ _ hx;generalize callEnvC fd p.h.objs.size 77=env at*;generalize([V.fn x,V.str tn].map some++List.replicate (sR.slots-sR.gP) none)=ρ at*;refine Mq.ok (P:=λbody=>wp w (A.deeper env) (execs body env) _ _ (p.at h1 IY).s) hp λs1 s2 hp=>cN.ok (P:=λs1=>wp w (A.deeper env) (execs [s1,s2] env) _ _ (p.at h1 IY).s) hp λts v p1 hp=>aR.ok (P:=λts=>wp w (A.deeper env) (execs [.Assign ts v p1,s2] env) _ _ (p.at h1 IY).s) hp λt hp=>b5.ok (P:=λt=>wp w (A.deeper env) (execs [.Assign [t] v p1,s2] env) _ _ (p.at h1 IY).s) hp λy a pa hp=>f5.ok (P:=λy=>wp w (A.deeper env) (execs [.Assign [.Attribute y a pa] v p1,s2] env) _ _ (p.at h1 IY).s) (ah (ah hp).1).1 λn np q1=>?_;have hp1:=ah (ah (ah hp).1).2;obtain rfl:=bx hp1.1;refine eE.ok (P:=λv=>wp w (A.deeper env) (execs [.Assign [.Attribute (.Name n np) (toS jn) pa] v p1,s2] env) _ _ (p.at h1 IY).s) hp1.2 λc ck cp hc=>OP.ok (P:=λc=>wp w (A.deeper env) (execs [.Assign [.Attribute (.Name n np) (toS jn) pa] (.Constant c ck cp) p1,s2] env) _ _ (p.at h1 IY).s) hc λci _=>?_;refine cN.ok (P:=λs2=>wp w (A.deeper env) (execs [.Assign [.Attribute (.Name n np) (toS jn) pa] (.Constant (.int ci) ck cp) p1,s2] env) _ _ (p.at h1 IY).s) (ah hp).2 λts v2 p3 hp=>aR.ok (P:=λts=>wp w (A.deeper env) (execs [.Assign [.Attribute (.Name n np) (toS jn) pa] (.Constant (.int ci) ck cp) p1,.Assign ts v2 p3] env) _ _ (p.at h1 IY).s) hp λt hp=>b5.ok (P:=λt=>wp w (A.deeper env) (execs [.Assign [.Attribute (.Name n np) (toS jn) pa] (.Constant (.int ci) ck cp) p1,.Assign [t] v2 p3] env) _ _ (p.at h1 IY).s) hp λy2 a2 pa2 hp=>f5.ok (P:=λy2=>wp w (A.deeper env) (execs [.Assign [.Attribute (.Name n np) (toS jn) pa] (.Constant (.int ci) ck cp) p1,.Assign [.Attribute y2 a2 pa2] v2 p3] env) _ _ (p.at h1 IY).s) (ah hp).1 λn2 np2 q4=>?_;have BC:=ah (ah hp).2;obtain rfl:=bx BC.1;refine f5.ok (P:=λv2=>wp w (A.deeper env) (execs [.Assign [.Attribute (.Name n np) (toS jn) pa] (.Constant (.int ci) ck cp) p1,.Assign [.Attribute (.Name n2 np2) (toS Mx) pa2] v2 p3] env) _ _ (p.at h1 IY).s) BC.2 λn3 np3 q6=>?_;show wpAny _ _ (do
   match←exec (.Assign [.Attribute (.Name n np) (toS jn) pa] (.Constant (.int ci) ck cp) p1) env with
   |.next=>(do
    match←exec (.Assign [.Attribute (.Name n2 np2) (toS Mx) pa2] (.Name n3 np3) p3) env with
    |.next=>pure .next
    |f=>pure f)
   |f=>pure f) _ _ _
 refine aV (yZ (k:=0) (by decide) F1 P1.rr Xy q1 (λQ' hq=>wpAny_Constant_int (hq _ _)) hx1 X6 hd (.inl hdn) (O3 _) λh2 tk2 dx m2 x2 ne2 n2' l2 f2 k2=>?_)
 have hf2:h1.get? dx=none:=f2.resolve_right λq=>bL q hdn;have O2:kD x h1 h2:=λb ob hb e=>k2 b ob hb (λq=>bL e (q▸hf2)) e;have e1:Ku h1 x vs:=⟨o,hx1,X6,hd⟩;have R2:RR w (p.at h2 tk2):=P1.rr.om O2 (e1.out P1.rr) hxl e1.BQ tk2;have F2:=F1.iter Wf O2 e1.BQ;obtain⟨o2,x21,x22,x23,x24⟩:=x2;refine aV (yZ (p:=p.at h2 tk2) (k:=1) (by decide) F2 R2 Xy q4 (λQ' hq=>Sn (p:=p.at h2 tk2) F2 q6 akQ λu _=>hq u tk2) x21 x22 x23 (.inr ⟨dx,m2,x24,ne2,n2',l2⟩) (Ec _) λh3 tk3 dx3 m3 x3 ne3 n3 l3 f3 k3=>aP ?_)
 obtain⟨o3,x31,x32,x33,_⟩:=x3;refine h h3 tk3 (λb ob hb e=>?_) ⟨o3,x31,x32,x33⟩;have e':=hk1 b ob e;exact k3 b ob hb (λq=>f3.elim (λf3=>bL (O2 b ob hb e') (q▸f3)) λf3=>bL e' (by
  rw [q,←bV (x24.symm.trans f3)];exact hf2)) (O2 b ob hb e')
end
noncomputable def X7(d:Data):Option ClassData:=by cases d;(case cls=>exact some c);all_goals exact none
theorem X7.ok:X7 d=some q->d=.cls q:=by cases d;(case cls=>exactλh=>au Data.cls (bV h));all_goals exact ns
noncomputable def agC(h:Heap):Bool:=bM (h.get? 80) λo=>bM (X7 o.data) λcd=>decide (o.cls=.type "type"/\cd.mro=.ref 80::IW/\cd.ns=79/\cd.hasDict=true/\cd.hasDel=false)&&decide (o.slots.size=6/\o.slots[4]?=some (some (.builtin nwX)))
theorem mF{α:Type}{l:List α}{n:Nat}(h:l.length=n+1):∃a r,l=a::r/\r.length=n:=by
 cases l with
 |nil=>exact absurd h (Fc n)
 |cons a r=>exact⟨a,r,rfl,kZ h⟩
theorem acR{o p:Obj}(h1:o.cls=p.cls)(h2:o.dict=p.dict)(h3:o.data=p.data)(h4:o.slots=p.slots):o=p:=by
 cases o;cases p;cases h1;cases h2;cases h3;cases h4;rfl
theorem agD{c:ClassData}(h:c.mro=.ref 80::IW/\c.ns=79/\c.hasDict=true/\c.hasDel=false):c={c with mro:=.ref 80::IW,ns:=79,hasDict:=true,hasDel:=false}:=by
 rw [←h.1,←h.2.1,←h.2.2.1,←h.2.2.2]
theorem six{α:Type}{l:List α}{x:α}(h:l.length=6)(e:l[4]?=some x):∃a b c d f,l=[a,b,c,d,x,f]:=by
 obtain⟨a,l1,rfl,t1⟩:=mF (show l.length=5+1 from h);obtain⟨b,l2,rfl,t2⟩:=mF t1;obtain⟨c,l3,rfl,t3⟩:=mF t2;obtain⟨d,l4,rfl,t4⟩:=mF t3;obtain⟨y,l5,rfl,t5⟩:=mF t4;obtain⟨f,l6,rfl,t6⟩:=mF t5;exact⟨a,b,c,d,f,by rw [List.length_eq_zero_iff.mp t6,show y=x from bV e]⟩
theorem Ef{h:Heap}(e:agC h=true):∃nm q bs sn aE ab col dd k0 k1 k2 k3 k5,h.get? 80=some (excClassObj nm q 80 79 bs IW true sn aE ab col dd k0 k1 k2 k3 k5 nwX):=by
 obtain⟨o,e1,e⟩:=bM.ok e;obtain⟨cd,e2,e⟩:=bM.ok e;have c:=bx (ah e).1;have s:=bx (ah e).2;obtain⟨k0,k1,k2,k3,k5,e6⟩:=six (l:=o.slots.toList) s.1 ((Array.getElem?_toList ..).trans s.2);exact⟨cd.name,cd.qualname,cd.bases,_,_,_,_,o.dict,k0,k1,k2,k3,k5,e1.trans (au some (acR c.1 rfl ((X7.ok e2).trans (au Data.cls (agD c.2))) (Array.toList_inj.mp e6)))⟩
theorem k_exc(P:Params):agC (HB P)=true:=by kernel_rfl
theorem So(P:Params):keepIn (KB P) (.ref 80)=true:=by kernel_rfl
theorem akS(P:Params):bM (wJ (HB P) 79) (λes=>decide (nsFind es "__init__"=some (.ref 77)))=true:=by kernel_rfl
theorem akT(P:Params):bM ((HB P).get? 77) (λo=>decide (o.cls=.type "function"))=true:=by kernel_rfl
section
variable{w:World}{A:Around}{E:Value->Shared->Prop}{env:PySem.Env}
theorem Kv(hh:A.handled=none)
  (h:wpAny (model PW w) A x (λv kK=>∃e oe vs,v=.ref e/\(∀b o,(HB w.params).get? b=some o->kK.heap.get? b=some o)/\kK.heap.get? e=some oe/\oe.cls=.ref 80/\oe.data=.fields vs/\vs[1]?=some .none/\E (.ref e) kK) E s):
  wpAny (model PW w) A (raiseStmt env (some x) none) Q E s:=by
 have hcB:(Value.ref 80::IW).contains (.type "BaseException")=true:=by decide
 unfold raiseStmt;refine aV (gE h (λv kK iY=>?_) λ_ _ x=>x);obtain⟨e,oe,vs,rfl,hb,he,hc,hd,hv1,hE⟩:=iY;obtain⟨nm,q,bs,sn,aE,ab,col,dd,k0,k1,k2,k3,k5,hC⟩:=Ef (k_exc w.params);have hC:=hb _ _ hC;obtain⟨hp,g,d,tk,os⟩:=kK;obtain⟨oc,od,odt,osl⟩:=oe;dsimp only at hc hd;subst hc hd;repeat(first|with_reducible refine I7 he ?_|with_reducible refine I7 hC ?_|(with_reducible refine wpAny_isSubtype_exc hC ?_;rw [hcB])|wp_step)
 rw [hv1];refine aP ?_;rw [ay (by decide)]
 exact aP (wpAny_raiseNew_none hh hE)
theorem X8(hg:cx.gl=Wg)(hr1:cx.mG n (.cls 80)=true)(My:PyData.strOk t=true):gu w ⟨d,fs,cx⟩ (.Raise (some (.Call (.Name n p1) [.Constant (.str t) k p2] [] p3)) none ps) (i8 T C .rS):=λA env ρ p n0=>⟨λQ E kk=>by
 rw [arm_exec_Raise];refine aV (nX ?_);refine Kv n0.vE.hh (aV ?_);rw [m8 rfl];refine aV ((L7 (GW w) hg hr1 A env ρ p n0).aS _ _ λf s1 pl1 P1 r1=>?_);obtain rfl:f=.ref 80:=r1.nU;have n1:=n0.step P1;have akU:DF (.str t.cps.toList) (.str t)=true:=dF (dj rfl) My;have hp:=kC (pos:=p3) (env:=env) [.Constant (.str t) k p2] rfl;refine callWith_of (by rw [yu hp];rfl) (sD (So w.params)) (sC hp ((FZ rfl (Gh akU) L8 p3 A env ρ _ n1).aS _ _ λvs s2 Qs P2 r2=>?_))
 have n2:=n1.step P2;refine⟨(GW w).Wc.keeps n2.R.base,?_⟩;obtain⟨nm,q,bs,sn,aE,ab,col,dd,k0,k1,k2,k3,k5,hC⟩:=Ef (k_exc w.params);have hC:=n2.R.base _ _ hC;obtain⟨aoU,h79,e79⟩:=bM.ok (akS w.params);have Aw:=(wJ.ok h79).keeps n2.R.base;obtain⟨o77,h77,e77⟩:=bM.ok (akT w.params);have akV:=n2.R.base _ _ h77;obtain⟨tv,rfl,rv⟩:=r2.aR rfl;have P12:=P1.trans P2;have aap:=pD (p:=⟨s2,Qs,p.st⟩) (gD _);have hxp:=n2.R.free aap;have Sp:=rP n2.R.qJ;have P3:bq w [] ⟨s2,Qs,p.st⟩ ⟨{s2 with heap:=(s2.heap.push {cls:=.type "tuple",data:=.seq [tv].toArray}).push {cls:=.ref 80,data:=.fields #[.ref s2.heap.objs.size,.none,.none,.none,.bool false,.none]},toks:=s2.toks},Qs,p.st⟩:=.push n2.R _ _ λb o e=>tX _ (tX _ e)
 have hx:((s2.heap.push {cls:=.type "tuple",data:=.seq [tv].toArray}).push {cls:=.ref 80,data:=.fields #[.ref s2.heap.objs.size,.none,.none,.none,.bool false,.none]}).get? (s2.heap.objs.size+1)=some {cls:=.ref 80,data:=.fields #[.ref s2.heap.objs.size,.none,.none,.none,.bool false,.none]}:=by
  rw [←Heap.size_push ..];exact nF _ rfl
 have P03:=P12.trans P3;have Qm:=P12.gr.Oo (.refl [] s2.heap Qs) hxp aap;have rv3:=rv.c8 P3.gr;obtain⟨hh2,g2,d2,t2,os2⟩:=s2;refine Sl hC Aw (bx e79) akV (bx e77) (by show 1<=sizeLine;rw [sizeLine_eq];decide) (Ed (GY w) ?_ P3.rr rv3 hx rfl rfl rfl Sp λh' tk hO xo=>?_)
 ·show A.depth+(Code.builtin "type.__call__" ⟨.ref 80::[tv],[]⟩).weight<recursionLimit
  rw [BN];exact di (cG (fC 1 3) A.depth) (di (dQ (bZ A.depth (2*d)) 4) n0.vE.depth)
 ·refine⟨rfl,aV (nX (aP ?_))⟩
  have e0:Ku ((hh2.push {cls:=.type "tuple",data:=.seq [tv].toArray}).push {cls:=.ref 80,data:=.fields #[.ref hh2.objs.size,.none,.none,.none,.bool false,.none]}) (hh2.objs.size+1) #[.ref hh2.objs.size,.none,.none,.none,.bool false,.none]:=⟨_,hx,rfl,rfl⟩;have P5:bq w [] p ⟨⟨h',g2,d2,tk,os2⟩,Qs,p.st⟩:=⟨let⟨_,_,c⟩:=P12.same;⟨h',tk,au (λs:Shared=>{s with heap:=h',toks:=tk}) c⟩,(P03.gr.mono λ_=>bg).JS Qm hO,P3.rr.om hO hxp Sp e0.BQ tk⟩
  obtain⟨o',x1,x2,x3⟩:=xo;exact⟨_,o',_,rfl,P5.rr.base,x1,x2,x3,rfl,kk _ _ Qs ⟨_,rfl,P5.any,.inr ⟨⟨o',_,x1,x2,x3,rfl⟩,⟨hxp,Sp⟩,Qm⟩⟩⟩⟩
end
section
variable{cx:Cx}
theorem Yb{E:Value->Shared->Prop}(hg:cx.gl=Wg)(hs:env.scope=cx.sc)(F:FR p.h p.pl env cx.sl ρ)(R:RR w p)(hx:cx.mG x (.cls c)=true)
  (h:Q (.ref c) p.s):wp w A (eval (.Name x pos) env) Q E p.s:=by
 have h2:=ah (ah hx).2;obtain⟨mg,hg',mb,WD,q⟩:=(GW w).JG.g;obtain⟨v',z,r⟩:=q x (.cls c) (hg▸eq_of_beq h2.1);obtain rfl:v'=.ref c:=(r p.h p.pl R.base R.low).nU;have hgg:=hg'.keeps R.base;have hbb:=WD.keeps R.base;rw [←F.JG]at hgg;rw [←F.blt]at hbb;have hk:env.kindOf x=some .globalImplicit:=by unfold PySem.Env.kindOf;rw [hs];exact eq_of_beq (ah hx).1
 exact Name_function_global F.kind hk (z.elim (λz=>loadGlobal_global hgg z h) λz=>loadGlobal_builtin hgg z.1 hbb z.2 h) (ie h2.2)
theorem Yc(hg:cx.gl=Wg)(ho:iz cx.sl)(hb:IV cx [q.1]=true)(hc:kL ev=false)(h:fK w ⟨d,fs,cx⟩ ev (fV T C e))(hh:cx.mG hn (.cls 80)=true)(hb2:IV cx [q2.1]=true):
  gu w ⟨d,fs,cx⟩ (.Try [.Assign [uA q] ev XM] [.ExceptHandler (some (.Name hn hp)) none [.Assign [uA q2] (.UnaryOp .USub (.Constant (.int j) k zp) up) qR] cE] [] [] pos) (i8 T C (.jC q.1.2 e q2.1.2 (.int (-j)))):=λA env ρ p nw=>⟨λQ E kk=>by
 refine wpAny_Try_except ?_;show wpAny _ _ (do
  match←exec (.Assign [uA q] ev XM) env with
  |.next=>pure .next
  |f=>pure f) _ _ _
 refine aV (JR (qU hc) rfl rfl ((h A env ρ p nw).aS _ _ (fH.casesOn (motive:=λo=>Ok w (mS w (m9 env)) (BU cx.sl env) p (fH.casesOn (motive:=λ_=>fH Fl) o (λr s'=>.ok (.next (wr ρ q.1.2 r)) s') (λs'=>.ok (.next (wr ρ q2.1.2 (.int (-j)))) s') .aJ) Q E->Ok w (mE w) VR p o _ _) (fV T C e ρ p.st) (λr st' kx a s1 pl1 P1 r1=>?_) (λst' kx ex s' cU z=>?_) id kk)))
 ·have n1:=nw.step P1
  exact(iA (.aR q) nw.vE.hh (IV.ok hb ho nw.sc) n1.F n1.R r1).aS _ _ λ_ s2 Qs P2 F2=>aP (aP (kx .next s2 Qs (P1.any.trans P2) ⟨rfl,F2⟩))
 ·obtain⟨a,rfl,P,t⟩:=z
  obtain⟨e0,jJ,hfs,hfe⟩:=nw.hd;obtain rfl:fs=e0::jJ:=hfs;have F':=nw.S.mono P.gr;obtain⟨_,L,_,hL,_⟩:=F' e0 cC;refine Ml P nw.vE.frames F' hfe (hfe▸hL) (.inl t) λh'' P2 tr=>?_;have n2:=nw.step P2;obtain⟨TT',tr,qa,qT⟩:=tr;obtain⟨oe,vs,q1,q2',q3,q4⟩:=tr.exc;obtain⟨oT,ts,q8,q9,q10,q15⟩:=tr.tb;obtain⟨nm,qq,bs,sn,aE,ab,col,dd,k0,k1,k2,k3,k5,hC⟩:=Ef (k_exc w.params);have hC:=P2.rr.base _ _ hC;obtain⟨hh0,g0,d0,t0,os0⟩:=s';refine wpAny_handleBy_cons (codeAny_handlers_test (Yb hg nw.sc n2.F n2.R hh (wpAny_excMatches_sub_self hC q1 q2' (by decide) (codeAny_handlers_suite ?_)))) (by intro q;cases q)
  refine wpAny_setFlight_none q1 q3 q4 q8 q9 (Array.getElem?_eq_some_iff.mp q10).1 ?_;have P3:bq w [] p ⟨⟨h''.update TT' (Obj.mapFields (·.setIfInBounds 3 .none)),g0,d0,t0,os0⟩,cU,st'⟩:=P2.slot (λ_ h=>bg h) (Slot.of_same λb hb=>NJ _ _ hb.symm) λx hx=>by
    obtain rfl:=dG hx;exact⟨⟨tr.abI,tr.afz⟩,qT,λo e=>bV (q8.symm.trans e)▸jK q9 q15⟩
  have n4:=(nw.step P3).step (bq.ZX P3.rr (t0+1+1));show wpAny _ _ (do
   match←exec (.Assign [uA q2] (.UnaryOp .USub (.Constant (.int j) k zp) up) qR) env with
   |.next=>pure .next
   |f=>pure f) _ _ _
  refine aV (JR rfl rfl rfl (wpAny_UnaryOp (wpAny_Constant_int (PySem.P.neg_int ?_))));have tg:=(IV.ok hb2 ho nw.sc).ok q2.1 cC;exact aV (nX ((yz n4.F n4.R VR.int tg.1 ho tg.2).aS _ _ λ_ s2 Qs P5 F5=>aP (kx .next s2 Qs ((P3.trans (bq.ZX P3.rr (t0+1+1))).any.trans P5) ⟨rfl,F5⟩)))⟩
theorem Sq:B6 w T C d Wg:=⟨λfs cx n p1 t k p2 p3 p hg _ hn ht=>X8 hg hn ht,λfs cx q ev XM pos hn hp q2 j k zp up qR cE e hg _ ho hb hc h hh hb2=>Yc hg ho hb hc h hh hb2⟩
theorem acS(w:World)(d:Nat):FY w d (aS TT FT d):=X4 (λ_=>Sq) d
end
end Mine
end
set_option tactic.hygienic true
section
open PySem PySem.W PyProof.Rows
namespace Mine
theorem rd1:readsOut PySem.Challenge.rw_xw0135_01.row.prog PySem.Challenge.rw_xw0135_01.row.prog.main.body ("vars":PySem.Str)=false:=by decide+kernel
theorem rd2:readsOut PySem.Challenge.rw_xw0135_01.row.prog PySem.Challenge.rw_xw0135_01.row.prog.main.body ("dir":PySem.Str)=false:=by decide+kernel
theorem rd3:readsOut PySem.Challenge.rw_xw0135_01.row.prog PySem.Challenge.rw_xw0135_01.row.prog.main.body ("locals":PySem.Str)=false:=by decide+kernel
theorem agE:(["vars","dir","locals"]:List PySem.Str).filter (readsOut PySem.Challenge.rw_xw0135_01.row.prog PySem.Challenge.rw_xw0135_01.row.prog.main.body)=[]:=by
 rw [CK (by rw [rd1];exact eH),CK (by rw [rd2];exact eH),CK (by rw [rd3];exact eH),List.filter_nil]
theorem agF:PySem.Challenge.rw_xw0135_01.wellSaid=true:=by
 unfold OpenLaw.wellSaid;repeat' (first|(with_reducible refine look_both ?_ ?_)|unfold OpenRow.wellSaid|unfold OpenRow.partSaid|unfold looksOpen)
 all_goals first|(rw [agE];decide+kernel)|decide+kernel
theorem agG(hc:WalkX QW xX (λ_ _=>True) (λs=>(s.heap,s.toks)) (λw=>((rT w default).heap,1841)) PySem.Challenge.rw_xw0135_01.row.toRowW
  ((defOf QW ("law":PySem.Str)).get (by rfl)).1 ((defOf QW ("law":PySem.Str)).get (by rfl)).2 (λf vs=>PySem.call f vs)):PySem.Challenge.rw_xw0135_01.Holds:=by
 refine holds_law agF λapb=>?_;refine holds_openX (q:=QW) (loose:=xX) (Xt:=λ_=>true) (XP:=λ_ _=>True) (Yf:=λs=>(s.heap,s.toks)) (Ya:=λw=>((rT w default).heap,1841)) (N:=20000) afg (λ_ _=>bu) (λ_ _ _ _ _=>bu) (by rfl) (by rfl) (by rfl) (λs e=>recFacts_nil rfl) (by rfl) (by first|assumption|decide+kernel) (by decide+kernel) ⟨rfl,rfl,rfl,rfl,rfl,by decide+kernel⟩ ?hw ?hc
 case hw=>w_witness2
 case hc=>exact hc
end Mine
end
section
open PySem PySem.W PyProof.Rows PySem.Calls
namespace Mine
theorem agH(P:Params):bM (wJ (HB P) mainGlobals) (λes=>decide (nsFind es (PySem.Str.ofString "law")=some (.ref 1065)))=true:=by kernel_rfl
theorem acT{w:World}(k:fy (HB w.params) h)(hn:h.Ns mainGlobals mg)(hm:mg (PySem.Str.ofString "law")=some (.ref fa)):fa=1065:=by
 obtain⟨es,h1,e⟩:=bM.ok (agH w.params);have e:=bx e;obtain⟨o,es1,ep1,o1,o2,_,o4⟩:=wJ.ok h1;obtain⟨o',es2,ep2,e1,e2,_,e4⟩:=hn;obtain rfl:=bV ((k _ _ o1).symm.trans e1);obtain⟨rfl,_⟩:=Data.dict.inj (o2.symm.trans e2);exact Value.ref.inj (bV (hm.symm.trans ((e4 _).symm.trans ((o4 _).trans e))))
theorem Ss{ns:List Int}(hi:IntsAre vs ns):dH h pl (ns.map V.int) vs:=yi hi
theorem G0:∀(xs:List Int)(s:Shared)(r:List Value×Shared),layAllW R cl P ord (ofPys (xs.map PyData.int)) s=some r->r.2.heap=s.heap
 |[],s,r,h=>by
  have h:some ([],s)=some r:=h;cases h;rfl
 |x::xs,s,r,h=>by
  simp only [List.map_cons,ofPys,ofPy,layAllW,layW]at h;cases e:layAllW R cl P ord (ofPys (xs.map PyData.int)) {s with toks:=s.toks+1}with
  |none=>rw [e]at h;cases h
  |some q=>
   rw [e]at h;cases h;have:=G0 xs {s with toks:=s.toks+1} q e
   exact this
theorem apc(law:∀xs:List Int,xs.length<=63->∃st',aS TT FT 300 1065 [.lst (xs.map V.int)] []=.ok (.bool true) st'):PySem.Challenge.rw_xw0135_01.Holds:=by
 refine agG ?_;intro w Kw kK mg mb G Y fa o pm cd doc dV kV ho hd Z4 hD hmg hg args vals as hL qH ak0 hrd hwl hlo;have keeps:=hL.keeps;have agI:=hL.laid;have WU:=hL.os;clear hL;have hT:=G.T.g;clear ho hd Z4 hD G
 wrow_args qH ak0 hrd hwl hlo
 rename_i xs _ _ _ _ _ _ _ a us _ hl _ _ _ hi _ hlen _;have aaq:xs.length<=63:=by omega
 have Su:Kw.heap=HB w.params:=au Prod.fst Y;have hb:=λb o e=>keeps b o (Su▸e);have hfa:=acT hb hT hmg;subst hfa;obtain⟨ord,_,hly⟩:=agI;have hly:=hly;simp only [ofPy,layAllW,layW]at hly;have agJ:a=Kw.heap.objs.size/\∃vs:List Value,kK.heap=Kw.heap.push {cls:=.type "list",data:=.seq vs.toArray}:=by
  cases e1:layAllW Challenge.rw_xw0135_01.row.records (classAt Kw.heap) w.params ord (ofPys (xs.map PyData.int)) Kw with
  |none=>rw [e1]at hly;simp at hly
  |some r=>
   rw [e1]at hly;simp only [Option.some.injEq,Prod.mk.injEq,List.cons.injEq,Value.ref.injEq,and_true]at hly;obtain⟨h1,h2⟩:=hly;have:=G0 xs Kw r e1;exact⟨by rw [←h1,this],r.1,by rw [←h2,←this]⟩
 obtain⟨ha,vs,hs1⟩:=agJ;have hga:kK.heap.get? a=some {cls:=.type "list",data:=.seq vs.toArray}:=by rw [ha,hs1];exact nF _ rfl
 have hvu:vs=us:=by
  obtain⟨o',e1,_,n,e2⟩:=hl;rw [hga]at e1;cases e1;have e2:=e2;injection e2 with e3
  exact au Array.toList e3
 subst hvu;have hR:RR w ⟨kK,[],[]⟩:=⟨hb,rfl,λi j a _ e=>ns e,λa h=>bg h,λl e=>ns e,λl c a e=>ns e⟩;have agK:Kw.heap.objs.size=1066:=by rw [Su];exact absHeap_size ..
 have L4:a≠0:=by rw [ha,agK];decide
 have hv:VR kK.heap [] (.lst (xs.map V.int)) (.ref a):=.lst hga (λh=>L4 (dG h)) (Ss hi) (by rw [cT];exact aH aaq (by decide))
 obtain⟨st',ak1⟩:=law xs aaq;have vE:AS 300 callerA []:=⟨rfl,by show 1+claimMargin+2*300+3<1000;decide,by show 4+20*300+90<9900;decide,rfl⟩
 have hJ:=acS w 300 1065 [.lst (xs.map V.int)] callerA ⟨kK,[],[]⟩ [] [.ref a] vE (λ_ h=>bg h) hR (.cons hv .nil);refine wpAny_call (hJ.aS _ _ ?_);rw [ak1];intro v s' cU P rv;obtain rfl:v=.bool true:=rv.nU;obtain⟨h1,tk,e⟩:=P.same;have e:s'={kK with heap:=h1,toks:=tk}:=e
 have kp:fy kK.heap s'.heap:=λb o eb=>by
  rw [hs1]at eb;rcases Heap.get?_push_cases eb with⟨q1,q2⟩|q
  ·subst q2
   have hb0:b∉0::([]:List Addr):=λh=>absurd (dG h) (by rw [q1,agK];decide)
   have eb':kK.heap.get? b=some {cls:=.type "list",data:=.seq vs.toArray}:=by rw [hs1];exact eb
   exact P.gr.toGk.same hb0 pY eb' (λ_ _ q=>by cases q)
  ·exact P.rr.base b o (Su▸q)
 refine GoodW.toG ⟨.inl ⟨.bool true,.bool true,[],rfl,λ_=>rfl,.bool true,?_,λ_=>⟨Bx,λ_ h=>nomatch h⟩⟩,kp,by rw [e],by rw [e];exact hg⟩
 simp [RowW.claim,WTm.holds,WTm.value,OpenLaw.row,Challenge.rw_xw0135_01];exact⟨by decide+kernel,by decide+kernel⟩
end Mine
end
set_option tactic.hygienic false
section
open PySem PySem.W
namespace Mine
structure WP{α:Type}(m:M α)(s:St)(Q:α->St->Prop):Prop where
 out:∃a s',m s=.ok a s'/\Q a s'
section
variable{α β:Type}{Q Q':α->St->Prop}
theorem WP.mono(h:WP m s Q)(k:∀a s',Q a s'->Q' a s'):WP m s Q':=let⟨a,s',e,q⟩:=h.out;⟨a,s',e,k a s' q⟩
theorem WP.of(e:m s=.ok a s')(h:Q a s'):WP m s Q:=⟨a,s',e,h⟩
theorem WP.ret(h:Q a s):WP (M.pure a) s Q:=⟨a,s,rfl,h⟩
theorem WP.bind(h:WP m s λa s'=>WP (f a) s' R):WP (M.bind m f) s R:=let⟨a,s',e,h⟩:=h.out;let⟨b,s2,e2,q⟩:=h.out;⟨b,s2,(au (λo=>fH.bind o f) e).trans e2,q⟩
theorem WP.aX(h:WP m s Q)(k:∀a s',Q a s'->WP (f a) s' R):WP (M.bind m f) s R:=.bind (h.mono k)
theorem WP.c7(h:WP m s Q):WP (c7 m) s Q:=let⟨a,s',e,q⟩:=h.out;⟨a,s',au (λo=>fH.casesOn (motive:=λ_=>fH α) o .ok (λ_=>.aJ) .aJ) e,q⟩
theorem WP.nV(e:o=some a)(h:Q a s):WP (bX o) s Q:=e▸.of rfl h
theorem WP.ite [Decidable c](h1:c->WP m s Q)(h2:¬c->WP n s Q):WP (if c then m else n) s Q:=by
 by_cases h:c
 ·rw [az h];exact h1 h
 ·rw [ay h];exact h2 h
end
abbrev PT(α:Type):=(α->St->Prop)->St->Prop
section
variable(T:iL)(C:Nat->List V->M V)
noncomputable def Br{α:Type}(o:Option α)(Q:α->Prop):Prop:=Option.casesOn (motive:=λ_=>Prop) o False Q
noncomputable def jb(v:V)(xs:List V)(s:St):Prop:=v.Wy True λl=>s[l]?=some (.list xs)
noncomputable def flQ(k:aQ->(Fl->St->Prop)->St->Prop)(Q:Fl->St->Prop)(f:Fl)(s:St):Prop:=Fl.casesOn (motive:=λ_=>Prop) f (λρ=>k ρ Q s) λv=>Q (.ret v) s
noncomputable def Mz(step:V->aQ->PT Fl)(v:V)(xs:List V)(r:List V):aQ->PT Fl:=List.rec (λρ Q s=>jb v xs s/\Q (.next ρ) s) (λx _ k ρ Q s=>jb v xs s/\step x ρ (flQ k Q) s) r
noncomputable def jN(step:V->PT Unit)(v:V)(xs:List V)(r:List V):PT Unit:=List.rec (λQ s=>jb v xs s/\Q () s) (λx _ k Q s=>jb v xs s/\step x (λ_ s'=>k Q s') s) r
def oJ(l:Nat)(y:V):PT Unit:=λQ s=>∃ys,s[l]?=some (.list ys)/\ys.length<cu/\Q () (s.set l (.list (ys++[y])))
def pG(l:Nat):PT V:=λQ s'=>∃ys,s'[l]?=some (.list ys)/\Q (.lst ys) (s'.set l .bH)
mutual
noncomputable def pE:E->aQ->PT V
 |.br v,_=>λQ=>Q v
 |.var i,ρ=>λQ s=>Br (ρ[i]?.bind id) λv=>Q v s
 |.aC es,ρ=>λQ=>pEs es ρ λvs=>Q (.aC vs)
 |.list es,ρ=>λQ=>pEs es ρ λvs=>Q (.lst vs)
 |.j7 es,ρ=>λQ=>pEs es ρ λvs s=>Q (.ref s.length) (s++[.list vs])
 |.dict ks vs,ρ=>λQ s=>pEs vs ρ (λxs s'=>WP (M.bind (eK s.length) (kh s.length ks xs)) s' Q) (s++[.dict []])
 |.d9 op a b,ρ=>λQ=>pE a ρ λx=>pE b ρ λy s=>WP (d9 op x y) s Q
 |.neg a,ρ=>λQ=>pE a ρ λx s=>Br x.gJ λi=>Q (.int (-i)) s
 |.not a,ρ=>λQ=>pE a ρ λx s=>WP (gK T x) s λb=>Q (.bool (! b))
 |.and es,ρ=>pB true es ρ
 |.or es,ρ=>pB false es ρ
 |.aM op a b,ρ=>λQ=>pE a ρ λx=>pE b ρ λy s=>WP (aM T op x y) s λr=>Q (.bool r)
 |.ite t a b,ρ=>λQ=>pT t ρ (pE t ρ) λc s=>if c then pE a ρ Q s else pE b ρ Q s
 |.attr o n,ρ=>λQ=>pE o ρ λx s=>WP (vq x n) s Q
 |.aE o i,ρ=>λQ=>pE o ρ λx=>pE i ρ λy s=>WP (vt T x y) s Q
 |.V8 o lo hi,ρ=>λQ=>pE o ρ λx=>pO lo ρ λa=>pO hi ρ λb s=>WP (look T x (ug a b)) s Q
 |.call f args,ρ=>λQ=>pE f ρ λx=>pEs args ρ λvs s=>WP (k7 T C x vs) s Q
 |.bA o n args,ρ=>λQ=>pE o ρ λx s=>WP (CX T x n) s λk=>pEs args ρ λvs s=>WP (gZ T C x n k vs) s Q
 |.comp elt t cD ifs,ρ=>λQ=>pE cD ρ λv s=>WP (items v) s λp s=>jN (λx Q s1=>Br (qE ρ t x) λfJ=>pI ifs fJ (λb s2=>if b then pE elt fJ (λy=>oJ s.length y Q) s2 else Q () s2) s1) p.1 p.2 p.2 (λ_=>pG s.length Q) (s++[.list []])
 |.jU,_=>λ_ _=>False
 |.By elt t cD t2 qG,ρ=>λQ=>pE cD ρ λv s=>WP (items v) s λp s=>jN (λx Q s1=>Br (qE (qF ρ t2.slots) t x) λfJ=>pE qG fJ (λv2 s2=>WP (items v2) s2 λp2=>jN (λx2 Q s3=>Br (qE fJ t2 x2) λQ0=>pE elt Q0 (λy=>oJ s.length y Q) s3) p2.1 p2.2 p2.2 Q) s1) p.1 p.2 p.2 (λ_=>pG s.length Q) (s++[.list []])
noncomputable def pEs:List E->aQ->PT (List V)
 |[],_=>λQ=>Q []
 |e::es,ρ=>λQ=>pE e ρ λv=>pEs es ρ λvs=>Q (v::vs)
noncomputable def pO:Option E->aQ->PT (Option V)
 |none,_=>λQ=>Q none
 |some e,ρ=>λQ=>pE e ρ λv=>Q (some v)
noncomputable def pB:Bool->List E->aQ->PT V
 |_,[],_=>λ_ _=>False
 |b,e::es,ρ=>λQ=>pE e ρ λv s=>if es.isEmpty then Q v s else WP (gK T v) s λt s=>if t=b then pB b es ρ Q s else Q v s
noncomputable def pI:List E->aQ->PT Bool
 |[],_=>λQ=>Q true
 |e::es,ρ=>λQ=>pT e ρ (pE e ρ) λb s=>if b then pI es ρ Q s else Q false s
noncomputable def pT:E->aQ->PT V->PT Bool
 |.not a,ρ,_=>λQ=>pT a ρ (pE a ρ) λb=>Q (! b)
 |.and es,ρ,_=>pA true es ρ
 |.or es,ρ,_=>pA false es ρ
 |.aM op a b,ρ,_=>λQ=>pE a ρ λx=>pE b ρ λy s=>WP (aM T op x y) s Q
 |.ite t a b,ρ,_=>λQ=>pT t ρ (pE t ρ) λc s=>if c then pT a ρ (pE a ρ) Q s else pT b ρ (pE b ρ) Q s
 |_,_,w=>λQ=>w λv s=>WP (gK T v) s Q
noncomputable def pA:Bool->List E->aQ->PT Bool
 |b,[],_=>λQ=>Q b
 |b,e::es,ρ=>λQ=>pT e ρ (pE e ρ) λt s=>if t=b then pA b es ρ Q s else Q (! b) s
end
mutual
noncomputable def pS:S->aQ->PT Fl
 |.set x e,ρ=>λQ=>pE T C e ρ λv=>Q (.next (wr ρ x v))
 |.Fv xs e,ρ=>λQ=>pE T C e ρ λv s=>Br (qE ρ (.nM xs) v) λfJ=>Q (.next fJ) s
 |.bC o n e,ρ=>λQ=>pE T C e ρ λv=>pE T C o ρ λx s=>WP (rR x n v) s λ_=>Q (.next ρ)
 |.dR o i e,ρ=>λQ=>pE T C e ρ λv=>pE T C o ρ λx=>pE T C i ρ λy s=>WP (xS x y v) s λ_=>Q (.next ρ)
 |.uh o n op e,ρ=>λQ=>pE T C o ρ λx s=>WP (vq x n) s λa=>pE T C e ρ λb s=>WP (NY op a b) s λr s=>WP (rR x n r) s λ_=>Q (.next ρ)
 |.gM e,ρ=>λQ=>pE T C e ρ λ_=>Q (.next ρ)
 |.ite t a b,ρ=>λQ=>pT T C t ρ (pE T C t ρ) λc s=>if c then iJ a ρ Q s else iJ b ρ Q s
 |.dK t cD body,ρ=>λQ=>pE T C cD ρ λv s=>WP (items v) s λp=>Mz (λx ρ Q s=>Br (qE ρ t x) λfJ=>iJ body fJ Q s) p.1 p.2 p.2 ρ Q
 |.QZ t body,ρ=>λQ s=>WP (n7 (λρ=>BB T C t ρ (fV T C t ρ)) (eZ T C body) ρ) s Q
 |.ret e,ρ=>λQ=>pE T C e ρ λv=>Q (.ret v)
 |.rS,_=>λ_ _=>False
 |.jU,_=>λ_ _=>False
 |.um,_=>λQ=>Q (.ret .none)
 |.jC x e y v,ρ=>λQ s=>WP (i8 T C (.jC x e y v) ρ) s Q
 |.Qk o i,ρ=>λQ=>pE T C o ρ λx=>pE T C i ρ λy s=>WP (Ft x y) s λ_=>Q (.next ρ)
noncomputable def iJ:List S->aQ->PT Fl
 |[],ρ=>λQ=>Q (.next ρ)
 |s::r,ρ=>λQ=>pS s ρ (flQ (iJ r) Q)
end
end
section
variable{α:Type}
abbrev E5(P:PT α)(m:M α):Prop:=∀Q s,P Q s->WP m s Q
theorem WP.C4{β:Type}{o:Option β}{f:β->M α}{P:β->Prop}{Q:α->St->Prop}{s:St}(k:∀b,P b->WP (f b) s Q):Br o P->WP (M.bind (bX o) f) s Q:=by
 cases o with
 |none=>exact False.elim
 |some b=>exactλh=>.bind (.of rfl (k b h))
theorem WP.ak2{o:Option α}{Q:α->St->Prop}{s:St}:Mine.Br o (λv=>Q v s)->WP (bX o) s Q:=by
 cases o with
 |none=>exact False.elim
 |some b=>exactλh=>.of rfl h
theorem WP.iff{m n:M α}{b:Bool}{A B:Prop}{Q:α->St->Prop}{s:St}(h1:A->WP m s Q)(h2:B->WP n s Q)(h:if b then A else B):WP (if b then m else n) s Q:=by
 cases b with
 |true=>exact h1 h
 |false=>exact h2 h
theorem WP.ifp{m n:M α}{c:Prop} [Decidable c]{A B:Prop}{Q:α->St->Prop}{s:St}(h1:A->WP m s Q)(h2:B->WP n s Q)(h:if c then A else B):WP (if c then m else n) s Q:=by
 by_cases hc:c
 ·rw [az hc]at h⊢;exact h1 h
 ·rw [ay hc]at h⊢;exact h2 h
theorem Eg(e:s[l]?=some c)(h:WP (f c) s Q):WP (M.bind (eK l) f) s Q:=.bind (.of (show bX s[l]? s=.ok c s by rw [e];rfl) h)
theorem sU:jb v xs s->dO v xs s=.ok () s:=V.casesOn v (λ_=>rfl) (λ_ _=>rfl) (λ_ _=>rfl) (λ_ _=>rfl) (λ_ _=>rfl) (λ_ _=>rfl) (λ_ _ _=>rfl) (λl h=>by
 have h:=h;show(bX s[l]? s).bind _=_;rw [h];exact jT (az rfl) s) (λ_ _ _=>rfl) (λ_ _=>rfl) (λ_ _=>rfl) (λ_ _=>rfl) (λ_ _=>rfl)
theorem Ky(hk:∀ρ,E5 (k ρ) (m ρ)):flQ k Q f s->WP (Au m f) s Q:=Fl.casesOn f (λρ h=>hk ρ Q s h) λ_ h=>.ret h
theorem Sv{step:V->aQ->M Fl}(h:∀x ρ,E5 (G1 x ρ) (step x ρ))(r:List V):∀ρ,E5 (Mz G1 v xs r ρ) (vA step v xs r ρ):=List.rec
 (λρ Q s hh=>.bind (.of (sU hh.1) (.ret hh.2))) (λx r ih ρ Q s hh=>.bind (.of (sU hh.1) (.aX (.c7 (h x ρ _ s hh.2)) λf s' q=>Ky ih q))) r
theorem uM{G1:V->PT Unit}{step:V->M Unit}(h:∀x,E5 (G1 x) (step x)){v:V}{xs:List V}(r:List V):E5 (jN G1 v xs r) (jD step v xs r):=List.rec (motive:=λr=>E5 (jN G1 v xs r) (jD step v xs r))
 (λQ s hh=>.of (sU hh.1) hh.2) (λx r ih Q s hh=>.bind (.of (sU hh.1) (.aX (.c7 (h x _ s hh.2)) λ_ s' q=>ih Q s' q))) r
theorem G2{l:Nat}{y:V}:E5 (oJ l y) (M.bind (eK l) (BA l y)):=λQ s⟨ys,h1,h2,h3⟩=>Eg h1 (show WP (if ys.length<cu then jf l (.list (ys++[y]))else M.fail) s Q from(az h2).symm▸.of rfl h3)
theorem y9{l:Nat}:E5 (pG l) (M.bind (eK l) (uo l)):=λQ s⟨ys,h1,h2⟩=>Eg h1 (show WP (gg (jf l .bH) (.lst ys)) s Q from .of rfl h2)
structure SE(T:iL)(C:Nat->List V->M V)(x:E):Prop where
 e:∀ρ,E5 (pE T C x ρ) (fV T C x ρ)
 t:∀ρ,E5 (pT T C x ρ (pE T C x ρ)) (BB T C x ρ (fV T C x ρ))
structure SEs(T:iL)(C:Nat->List V->M V)(es:List E):Prop where
 e:∀ρ,E5 (pEs T C es ρ) (qc T C es ρ)
 b:∀b ρ,E5 (pB T C b es ρ) (evB T C b es ρ)
 i:∀ρ,E5 (pI T C es ρ) (evI T C es ρ)
 a:∀b ρ,E5 (pA T C b es ρ) (evA T C b es ρ)
abbrev SO(T:iL)(C:Nat->List V->M V)(o:Option E):Prop:=∀ρ,E5 (pO T C o ρ) (evO T C o ρ)
theorem SE.plain{e:E}(h:∀ρ,E5 (pE T C e ρ) (fV T C e ρ))(h1:∀ρ w,pT T C e ρ w=λQ=>w λv s=>WP (gK T v) s Q)(h2:∀ρ w,BB T C e ρ w=M.bind w (gK T)):SE T C e:=⟨h,λρ Q s k=>by
 rw [h1]at k;rw [h2];exact .bind (h ρ _ s k)⟩
theorem sE(e:E):SE T C e:=E.rec (motive_1:=SE T C) (motive_2:=SEs T C) (motive_3:=SO T C)
 (λv=>.plain (λρ Q s h=>.ret h) (λ_ _=>rfl) λ_ _=>rfl)
 (λi=>.plain (λρ Q s h=>WP.ak2 h) (λ_ _=>rfl) λ_ _=>rfl)
 (λes ih=>.plain (λρ Q s h=>.aX (ih.e ρ _ s h) λ_ _ q=>.ret q) (λ_ _=>rfl) λ_ _=>rfl)
 (λes ih=>.plain (λρ Q s h=>.aX (ih.e ρ _ s h) λ_ _ q=>.ret q) (λ_ _=>rfl) λ_ _=>rfl)
 (λes ih=>.plain (λρ Q s h=>.aX (ih.e ρ _ s h) λ_ _ q=>.of rfl q) (λ_ _=>rfl) λ_ _=>rfl)
 (λks vs ih=>.plain (λρ Q s h=>.bind (.of rfl (.bind (ih.e ρ _ _ h)))) (λ_ _=>rfl) λ_ _=>rfl)
 (λop a b ia ib=>.plain (λρ Q s h=>.aX (ia.e ρ _ s h) λx s' q=>.bind (ib.e ρ _ s' q)) (λ_ _=>rfl) λ_ _=>rfl)
 (λa ia=>.plain (λρ Q s h=>.aX (ia.e ρ _ s h) λx s' q=>by
  revert q;cases h:x.gJ with
  |none=>exact False.elim
  |some i=>exactλq=>.of rfl q) (λ_ _=>rfl) λ_ _=>rfl)
 (λa ia=>⟨λρ Q s h=>.aX (ia.e ρ _ s h) λx s' q=>.aX q λ_ _ q=>.ret q,λρ Q s h=>.aX (ia.t ρ _ s h) λ_ _ q=>.ret q⟩)
 (λes ih=>⟨ih.b true,ih.a true⟩) (λes ih=>⟨ih.b false,ih.a false⟩)
 (λop a b ia ib=>⟨λρ Q s h=>.aX (ia.e ρ _ s h) λx s' q=>.aX (ib.e ρ _ s' q) λ_ _ q=>.aX q λ_ _ q=>.ret q,λρ Q s h=>.aX (ia.e ρ _ s h) λx s' q=>.bind (ib.e ρ _ s' q)⟩)
 (λt a b it ia ib=>⟨λρ Q s h=>.aX (it.t ρ _ s h) λc s' q=>.iff (ia.e ρ Q s') (ib.e ρ Q s') q,λρ Q s h=>.aX (it.t ρ _ s h) λc s' q=>.iff (ia.t ρ Q s') (ib.t ρ Q s') q⟩)
 (λo n io=>.plain (λρ Q s h=>.bind (io.e ρ _ s h)) (λ_ _=>rfl) λ_ _=>rfl)
 (λa b ia ib=>.plain (λρ Q s h=>.aX (ia.e ρ _ s h) λx s' q=>.bind (ib.e ρ _ s' q)) (λ_ _=>rfl) λ_ _=>rfl)
 (λo l u io il iu=>.plain (λρ Q s h=>.aX (io.e ρ _ s h) λx s' q=>.aX (il ρ _ s' q) λy s' q=>.bind (iu ρ _ s' q)) (λ_ _=>rfl) λ_ _=>rfl)
 (λf args hf ha=>.plain (λρ Q s h=>.aX (hf.e ρ _ s h) λx s' q=>.bind (ha.e ρ _ s' q)) (λ_ _=>rfl) λ_ _=>rfl)
 (λo n args ho ha=>.plain (λρ Q s h=>.aX (ho.e ρ _ s h) λx s' q=>.aX q λk s' q=>.bind (ha.e ρ _ s' q)) (λ_ _=>rfl) λ_ _=>rfl)
 (λelt t cD ifs he hs hi=>.plain (λρ Q s h=>.aX (hs.e ρ _ s h) λv s' q=>.aX q λp s' q=>.bind (.of rfl (.aX (uM (λx Q s1 q=>WP.C4 (λfJ q=>.aX (hi.i fJ _ s1 q) λb s2 q=>.iff (λq=>.aX (he.e fJ _ s2 q) λy s3 q=>G2 Q s3 q) (λq=>.ret q) q) q) p.2 _ _ q) λ_ s' q=>y9 Q s' q))) (λ_ _=>rfl) λ_ _=>rfl)
 ⟨λ_ _ _=>False.elim,λ_ _ _=>False.elim⟩
 (λelt t cD t2 qG he hs h2=>.plain (λρ Q s h=>.aX (hs.e ρ _ s h) λv s' q=>.aX q λp s' q=>.bind (.of rfl (.aX (uM (λx Q s1 q=>WP.C4 (λfJ q=>.aX (h2.e fJ _ s1 q) λv2 s2 q=>.aX q λp2 s2 q=>uM (λx2 Q s3 q=>WP.C4 (λQ0 q=>.aX (he.e Q0 _ s3 q) λy s4 q=>G2 Q s4 q) q) p2.2 Q s2 q) q) p.2 _ _ q) λ_ s' q=>y9 Q s' q))) (λ_ _=>rfl) λ_ _=>rfl)
 ⟨λρ Q s h=>.ret h,λ_ _ _ _=>False.elim,λρ Q s h=>.ret h,λb ρ Q s h=>.ret h⟩
 (λe es he hs=>⟨λρ Q s h=>.aX (he.e ρ _ s h) λv s' q=>.aX (hs.e ρ _ s' q) λ_ _ q=>.ret q,λb ρ Q s h=>.aX (he.e ρ _ s h) λv s' q=>.iff (λq=>.ret q) (λq=>.aX q λt s' q=>.ifp (hs.b b ρ Q s') (λq=>.ret q) q) q,λρ Q s h=>.aX (he.t ρ _ s h) λb s' q=>.iff (hs.i ρ Q s') (λq=>.ret q) q,λb ρ Q s h=>.aX (he.t ρ _ s h) λt s' q=>.ifp (hs.a b ρ Q s') (λq=>.ret q) q⟩)
 (λρ Q s h=>.ret h) (λe he ρ Q s h=>.aX (he.e ρ _ s h) λ_ _ q=>.ret q) e
end
section
abbrev SS(T:iL)(C:Nat->List V->M V)(x:S):Prop:=∀ρ,E5 (pS T C x ρ) (i8 T C x ρ)
abbrev SSs(T:iL)(C:Nat->List V->M V)(x:List S):Prop:=∀ρ,E5 (iJ T C x ρ) (eZ T C x ρ)
theorem sS(x:S):SS T C x:=Mine.S.rec (motive_2:=SSs T C)
 (λi e ρ Q s h=>.aX ((sE e).e ρ _ s h) λv s' q=>.ret q)
 (λis e ρ Q s h=>.aX ((sE e).e ρ _ s h) λv s' q=>WP.C4 (λfJ q=>.ret q) q)
 (λo n e ρ Q s h=>.aX ((sE e).e ρ _ s h) λv s' q=>.aX ((sE o).e ρ _ s' q) λx s' q=>.aX q λ_ _ q=>.ret q)
 (λo i e ρ Q s h=>.aX ((sE e).e ρ _ s h) λv s' q=>.aX ((sE o).e ρ _ s' q) λx s' q=>.aX ((sE i).e ρ _ s' q) λy s' q=>.aX q λ_ _ q=>.ret q)
 (λo n op e ρ Q s h=>.aX ((sE o).e ρ _ s h) λx s' q=>.aX q λa s' q=>.aX ((sE e).e ρ _ s' q) λb s' q=>.aX q λr s' q=>.aX q λ_ _ q=>.ret q)
 (λe ρ Q s h=>.aX ((sE e).e ρ _ s h) λv s' q=>.ret q)
 (λt a b ia ib ρ Q s h=>.aX ((sE t).t ρ _ s h) λc s' q=>.iff (ia ρ Q s') (ib ρ Q s') q)
 (λt cD body ib ρ Q s h=>.aX ((sE cD).e ρ _ s h) λv s' q=>.aX q λp s' q=>Sv (λx ρ Q s q=>WP.C4 (λfJ q=>ib fJ Q s q) q) p.2 ρ Q s' q)
 (λt body _ ρ Q s h=>h)
 (λe ρ Q s h=>.aX ((sE e).e ρ _ s h) λv s' q=>.ret q)
 (λ_ _ _=>False.elim) (λ_ _ _=>False.elim) (λρ Q s h=>.ret h) (λx e y v ρ Q s h=>h)
 (λo i ρ Q s h=>.aX ((sE o).e ρ _ s h) λx s' q=>.aX ((sE i).e ρ _ s' q) λy s' q=>.aX q λ_ _ q=>.ret q)
 (λρ Q s h=>.ret h) (λx r ih uf ρ Q s h=>.aX (ih ρ _ s h) λf s' q=>Ky uf q) x
theorem sSs(l:List S):SSs T C l:=List.rec (λρ Q s h=>.ret h) (λx r uf ρ Q s h=>.aX (sS x ρ _ s h) λf s' q=>Ky uf q) l
noncomputable def dY(Q:V->St->Prop)(f:Fl)(s:St):Prop:=Fl.casesOn (motive:=λ_=>Prop) f (λ_=>Q .none s) λv=>Q v s
theorem acV(hf:FT a=some f)(ha:f.Q2 args=true)(h:iJ T (aS T FT d) f.body (f.env args) (dY Q) s):WP (aS T FT (d+1) a args) s Q:=WP.bind (WP.nV hf (WP.ite (λ_=>.aX (sSs f.body (f.env args) _ s h) λr s'=>Fl.casesOn r (λ_ q=>.ret q) λv q=>.ret q) λn=>absurd ha n))
theorem aA(hd:1<=d)(hf:FT a=some f)(ha:f.Q2 args=true)(h:iJ T (aS T FT (d-1)) f.body (f.env args) (dY Q) s):WP (aS T FT d a args) s Q:=(NL hd:d-1+1=d)▸acV hf ha h
end
end Mine
end
namespace Mine.F
abbrev At(s:St)(l:Nat)(c:bw):Prop:=s[l]?=some c
structure aY(X:Nat->Prop)(s s':St):Prop where
 le:s.length<=s'.length
 keep:∀l,l<s.length->¬X l->s'[l]?=s[l]?
theorem At.lt(h:At s l c):l<s.length:=(rO h).1
section
theorem aY.refl(s:St):aY X s s:=⟨aW _,λ_ _ _=>rfl⟩
theorem aY.at(h:aY X s s')(x:¬X l)(a:At s l c):At s' l c:=(h.keep l a.lt x).trans a
theorem aY.trans(h:aY X s s1)(k:aY X s1 s2):aY X s s2:=⟨aH h.le k.le,λl hl x=>(k.keep l (eB hl h.le) x).trans (h.keep l hl x)⟩
theorem aY.uN(h:aY X s s1)(k:∀l,X l->Y l):aY Y s s1:=⟨h.le,λl hl y=>h.keep l hl λx=>y (k l x)⟩
theorem aY.new(h:aY X s s1)(c:bw):aY X s (s1++[c]):=⟨gH▸aH h.le (bZ _ _),λl hl x=>(vM (eB hl h.le)).trans (h.keep l hl x)⟩
theorem aY.set(h:aY X s s1)(x:X l\/s.length<=l)(c:bw):aY X s (s1.set l c):=⟨aH h.le (cK (Fb ..).symm),λk hk y=>(qB λe:l=k=>x.elim (λx=>y (e▸x)) λx=>Nat.not_lt.mpr x (e▸hk)).trans (h.keep k hk y)⟩
theorem bS:At (s++[c]) s.length c:=(Az (aW _)).trans (by rw [CO];rfl)
theorem At.new(h:At s l c):At (s++[d]) l c:=(vM h.lt).trans h
theorem At.bF(h:At s l c)(n:k≠l):At (s.set k d) l c:=(qB n).trans h
theorem At.dS(h:At s l c):At (s.set l d) l d:=AA h.lt
end
section
variable{α β:Type}
theorem fj(h:At s l c)(k:WP (f c) s Q):WP (M.bind (eK l) f) s Q:=Eg h k
theorem xr{f:Ct->Option α}{b:α}{Q:α->St->Prop}(e:f (.aC xs)=some b)(k:Q b s):WP (look T (.aC xs) f) s Q:=.bind (.of rfl (.nV e k))
theorem jo{f:Ct->Option α}{b:α}{Q:α->St->Prop}(e:f (.lst xs)=some b)(k:Q b s):WP (look T (.lst xs) f) s Q:=.bind (.of rfl (.nV e k))
theorem pH(h:At s l (.list xs))(e:f (.lst xs)=some b)(k:Q b s):WP (look T (.ref l) f) s Q:=.bind (fj h (.of rfl (.nV e k)))
theorem pJ{f:Ct->Option α}{b:α}{Q:α->St->Prop}(h:At s l (.dict es))(e:f (.dict es)=some b)(k:Q b s):WP (look T (.ref l) f) s Q:=.bind (fj h (.of rfl (.nV e k)))
theorem xu{f:Ct->Option α}{b:α}{Q:α->St->Prop}(h:T.sd a=some es)(e:f (.dict es)=some b)(k:Q b s):WP (look T (.sd a) f) s Q:=.bind (.nV (au (Option.map Ct.dict) h) (.nV e k))
theorem o_attr(h:At s l (.ns cR))(e:lk m cR=some v)(k:Q v s):WP (vq (.fE c l) m) s Q:=fj h (.nV e k)
theorem cV(h:At s l (.ns cR))(e:cR.length<100)(k:Q () (s.set l (.ns (pt m v cR)))):WP (rR (.fE c l) m v) s Q:=fj h (show WP (if cR.length<100 then jf l (.ns (pt m v cR))else M.fail) s Q from(az e).symm▸.of rfl k)
theorem aI{i:Int}(e:ZS xs i=some v)(k:Q v s):WP (vt T (.aC xs) (.int i)) s Q:=xr e k
theorem gy{i:Nat}(e:xs[i]?=some v):natAt xs (i:Int)=some v:=(az (AD i)).trans e
theorem lB{i:Nat}(e:xs[i]?=some v)(k:Q v s):WP (vt T (.lst xs) (.int i)) s Q:=jo (gy e) k
theorem dP{i:Nat}(h:At s l (.list xs))(e:xs[i]?=some v)(k:Q v s):WP (vt T (.ref l) (.int i)) s Q:=pH h (gy e) k
theorem aZ(h:At s l (.dict es))(hk:gn i es=true)(e:bJ i es=some v)(k:Q v s):WP (vt T (.ref l) i) s Q:=pJ h ((az hk).trans e) k
theorem agL(h:T.sd a=some es)(hk:gn i es=true)(e:bJ i es=some v)(k:Q v s):WP (vt T (.sd a) i) s Q:=xu h ((az hk).trans e) k
theorem fM(h:At s l (.dict es))(hk:gn i es=true)(hl:es.length<cu)(k:Q () (s.set l (.dict (cS i v es)))):WP (xS (.ref l) i v) s Q:=fj h (show WP (if(gn i es&&decide (es.length<cu))=true then jf l (.dict (cS i v es))else M.fail) s Q from(az (dF hk (dj hl))).symm▸.of rfl k)
theorem G3{a b:V}(h:(a.plain&&(b.plain&&decide (min a.gF b.gF<=fU)))=true)(k:Q (decide (a=b)) s):WP (aM T .eq a b) s Q:=show WP (if(a.plain&&(b.plain&&decide (min a.gF b.gF<=fU)))=true then M.pure (decide (a=b))else _) s Q from(az h).symm▸.ret k
theorem fz{a b:Int}(h:a=b)(k:Q true s):WP (aM T .eq (.int a) (.int b)) s Q:=G3 rfl ((dj (au V.int h)).symm▸k)
theorem bz{a b:Int}(h:a≠b)(k:Q false s):WP (aM T .eq (.int a) (.int b)) s Q:=G3 rfl ((dg λe=>h (V.int.inj e)).symm▸k)
theorem sV{a b:Int}{Q:Bool->St->Prop}(k1:a=b->Q true s)(k2:a≠b->Q false s):WP (aM T .eq (.int a) (.int b)) s Q:=(c6 (a=b)).elim (λh=>fz h (k1 h)) λh=>bz h (k2 h)
theorem lC{b:Bool}{α:Type}{x:α}(h:b=true):(if b=true then some x else none)=some x:=az h
theorem nj{Q:Bool->St->Prop}(h:At s l (.dict es))(hk:gn i es=true)(k:Q (bJ i es).isSome s):WP (aM T .eU i (.ref l)) s Q:=pJ (f:=vz i) h (lC hk) k
theorem Sw{Q:Bool->St->Prop}(h:T.sd a=some es)(hk:gn i es=true)(k:Q (bJ i es).isSome s):WP (aM T .eU i (.sd a)) s Q:=xu (f:=vz i) h (lC hk) k
theorem qs{Q:Bool->St->Prop}(hk:(i.plain&&(V.cZ xs&&decide (i.gF<=fU)))=true)(k:Q (jg i xs) s):WP (aM T .eU i (.aC xs)) s Q:=xr (f:=vz i) (lC hk) k
theorem Sy{Q:Bool->St->Prop}(hk:(i.plain&&(V.cZ xs&&decide (i.gF<=fU)))=true)(k:Q (jg i xs) s):WP (aM T .eU i (.lst xs)) s Q:=jo (f:=vz i) (lC hk) k
theorem oK(h:At s l (.dict es))(hk:gn i es=true)(k:Q (!(bJ i es).isSome) s):WP (aM T .dz i (.ref l)) s Q:=.bind (nj h hk (.ret k))
theorem Kz(hk:(i.plain&&(V.cZ xs&&decide (i.gF<=fU)))=true)(k:Q (! jg i xs) s):WP (aM T .dz i (.aC xs)) s Q:=.bind (qs hk (.ret k))
theorem Eh(h:At s l (.list xs))(k:Q (.int xs.length) s):WP (k7 T C (.bi 0) [.ref l]) s Q:=pH h rfl k
theorem bT(h:At s l (.ns cR))(e:T.bA c m=some n)(z:(lk m cR).isNone=true)(k:Q n s):WP (CX T (.fE c l) m) s Q:=fj h (.nV (show(T.bA c m).bind (λf=>if(lk m cR).isNone then some f else none)=some n by rw [e];exact az z) k)
theorem oM(h:At s l (.list xs))(e:m=j9\/m=kg\/m=nY)(k:Q 1 s):WP (CX T (.ref l) m) s Q:=pH h (az e) k
theorem iZ(h:At s l (.dict es))(e:m=vW\/m=nY)(k:Q 2 s):WP (CX T (.ref l) m) s Q:=pJ h (az e) k
theorem lD(h:At s l (.list xs))(hl:xs.length<cu)(k:Q .none (s.set l (.list (xs++[v])))):WP (gZ T C (.ref l) j9 1 [v]) s Q:=fj h (show WP (if xs.length<cu then gg (jf l (.list (xs++[v]))) .none else M.fail) s Q from(az hl).symm▸.bind (.of rfl (.ret k)))
theorem Sz(h:At s l (.dict es))(hk:gn i es=true)(k:Q ((bJ i es).getD d) s):WP (gZ T C (.ref l) vW 2 [i,d]) s Q:=pJ h (az hk) k
end
noncomputable abbrev agM:Nm:=ql
noncomputable abbrev agN:Nm:=Jd
abbrev jv:V:=.fE 146 2
noncomputable def G4:List (Nm×V):=[(agM,.ref 3),(agN,.ref 4),([100,101,99,108,115],.lst [.none]),(NO,.ref 5),(Wo,.ref 6),(Ws,.ref 7),(aa5,.ref 8),(aa7,.ref 9),(abc,.int 0),(aa6,.int 0)]
noncomputable def MB(n:Nat)(tb:List V):List (V×V):=tb.rec (motive:=λ_=>Nat->List (V×V)) (λ_=>[]) (λr _ f n=>(r,.int n)::f (n+1)) n
noncomputable def pos(k:V)(tb:List V):Option Nat:=tb.rec none λr _ p=>if r=k then some 0 else p.map (·+1)
section
theorem KA(h:r=k):pos k (r::rs)=some 0:=az h
theorem KD(h:¬r=k):pos k (r::rs)=(pos k rs).map (·+1):=ay h
theorem sW{P:List V->Option Nat->Prop}(h0:P [] none)(h1:∀rs,P (k::rs) (some 0))(h2:∀r rs o,r≠k->P rs o->P (r::rs) (o.map (·+1)))(tb:List V):P tb (pos k tb):=tb.rec h0 λr rs ih=>(c6 (r=k)).elim (λh=>(KA h).symm▸h▸h1 rs) λh=>(KD h).symm▸h2 r rs _ h ih
theorem agO(n i:Nat):n+1+i=n+(i+1):=qC n 1 i
theorem SA(k:V)(tb:List V):∀n,bJ k (MB n tb)=(pos k tb).map λi=>V.int ((n+i:Nat):Int):=sW (P:=λtb o=>∀n,bJ k (MB n tb)=o.map λi=>V.int ((n+i:Nat):Int)) (λ_=>rfl) (λ_ _=>az rfl)
  (λr rs o h ih n=>(ay h).trans ((ih (n+1)).trans (o.rec rfl λi=>au (λz:Nat=>some (V.int z)) (agO n i)))) tb
theorem za(k:V)(tb:List V):bJ k (MB 0 tb)=(pos k tb).map λi=>V.int (i:Nat):=(SA k tb 0).trans (au (λf:Nat->V=>(pos k tb).map f) (funext λi=>au (λz:Nat=>V.int z) (p8 i)))
theorem Yd(tb:List V):∀n,(MB n tb).length=tb.length:=tb.rec (λ_=>rfl) λ_ _ ih n=>au (·+1) (ih (n+1))
theorem SD(k:V)(tb:List V):∀n,pos k tb=none->cS k (.int ((n+tb.length:Nat):Int)) (MB n tb)=MB n (tb++[k]):=sW (P:=λtb o=>∀n,o=none->cS k (.int ((n+tb.length:Nat):Int)) (MB n tb)=MB n (tb++[k])) (λ_ _=>rfl) (λ_ _=>λe=>ns e.symm)
  (λr rs o h ih n e=>(ay h).trans (au ((r,V.int n)::·) ((agO n rs.length).symm▸ih (n+1) (o.casesOn (λ_=>rfl) (λ_ e=>ns e.symm) e)))) tb
structure O4(r:V):Prop where
 key:r.i7=true
 fG:r.fG=4
 gF:r.gF<=fU
structure f9(s:St)(tb:List V):Prop where
 ns:At s 2 (.ns G4)
 fN:At s 3 (.list tb)
 ix:At s 4 (.dict (MB 0 tb))
 all:∀r∈tb,O4 r
theorem f9.gn(h:f9 s tb)(hr:O4 r):gn r (MB 0 tb)=true:=dF hr.key (dF (dj hr.gF) (List.casesOn tb (λ_=>rfl) (λa as h=>beq_iff_eq.mpr ((h a cC).fG.trans hr.fG.symm)) h.all))
theorem f9.ext(h:f9 s tb)(e:aY X s s')(x:¬X 2/\¬X 3/\¬X 4):f9 s' tb:=⟨e.at x.1 h.ns,e.at x.2.1 h.fN,e.at x.2.2 h.ix,h.all⟩
abbrev NX:Nat->Prop:=λ_=>False
abbrev TX:Nat->Prop:=λl=>l=3\/l=4
noncomputable def putN(tb:List V)(r:V):Nat:=(pos r tb).getD tb.length
noncomputable def f6(tb:List V)(r:V):List V:=if(pos r tb).isSome then tb else tb++[r]
theorem zb(hd:1<=d)(h:f9 s tb)(hr:O4 r)(hl:tb.length<cu)
  (k:∀s',aY TX s s'->f9 s' (f6 tb r)->Q (.int (putN tb r)) s'):WP (aS TT FT d 143 [jv,r]) s Q:=by
 refine aA hd rfl rfl ?_;refine o_attr h.ns rfl (nj h.ix (h.gn hr) ?_);have g:=za r tb;rw [g];unfold putN f6 at k;generalize e:pos r tb=o at g k;cases o with
 |some i=>
  exact o_attr h.ns rfl (aZ h.ix (h.gn hr) g (k s (aY.refl s) h))
 |none=>
  refine o_attr h.ns rfl (Eh h.fN (o_attr h.ns rfl (oM h.fN (.inl rfl) (lD h.fN hl ?_))));have n1:=h.ns.bF (k:=3) (d:=.list (tb++[r])) (by decide)
  have n2:=h.ix.bF (k:=3) (d:=.list (tb++[r])) (by decide)
  refine o_attr n1 rfl (fM n2 (h.gn hr) ((Yd tb 0).symm▸hl) ?_);exact k _ (((aY.refl s).set (.inl (.inl rfl)) _).set (.inl (.inr rfl)) _) ⟨n1.bF (by decide),h.fN.dS.bF (by decide),(p8 tb.length▸SD r tb 0 e)▸n2.dS,λx hx=>(tW hx).elim (h.all x) λhx=>dG hx▸hr⟩
end
noncomputable abbrev vN(n:Nat):V:=.int (n:Nat)
noncomputable def bI(ps:List Nat):List V:=ps.map vN
noncomputable def kM(ps:List Nat):V:=.aC [.int 6,.aC (bI ps)]
noncomputable def uO(n:Nm):V:=.aC [.int 1,.str n]
noncomputable def MC(a f:Nat):V:=.aC [.int 2,vN a,vN f]
noncomputable def yY(s:Nm)(f:Nat):V:=.aC [.int 3,.str s,vN f]
noncomputable def agP(f:Nat):V:=.aC [.int 4,.int 1,vN f]
noncomputable def g7(n:Nm):V:=.aC [.str n,.int 0,.int 0,.int 0]
noncomputable def iC(ns:List Nm)(e:Bool):V:=.aC [.int 8,.aC (ns.map g7),.aC [],.aC [],.aC (if e then [.int 11,.int 0]else []),.aC [],.int 0]
noncomputable def G5(i:Nat):V:=.aC [.int 10,vN i]
noncomputable def iD(a:Nat):V:=.aC [.int 14,vN a]
noncomputable def SG(a b:Nat):V:=.aC [.int 15,vN a,vN b]
noncomputable def SH(a b c d:Nat):V:=.aC [.int 16,vN a,vN b,vN c,vN d,.aC [],.int 0]
abbrev nA:Nm:=[97]
abbrev nB:Nm:=[98]
noncomputable def gW(v:Bool):Nat:=if v then 32 else 22
noncomputable def base(v:Bool):List V:=[
 uO [97,110,121],uO abd,uO NP,uO [118,111,105,100],uO abe,uO [110,117,108,108],uO abf,uO NQ,MC 0 0,MC 1 0,uO abg,iC [] false,kM [8,9],uO [101,114,114,111,114],MC 0 1,MC 1 1,yY nA 0,yY nA 1,yY nB 0,yY nB 1,agP 0,agP 1,G5 0,G5 1,G5 2,G5 3,iC [[118]] false,iD 25,iD 26,SG 25 16,iD 17,SH 25 7 19 30,SG 22 23,SG (gW v) 24,iD 33,SG 33 24,iD 24]
noncomputable def uP{α:Type}(p:Nat)(l:List (Nat×α)):Option α:=l.rec none λx _ r=>if x.1=p then some x.2 else r
theorem O5{α:Type}{l:List (Nat×α)}:(∀x∈l,x.1≠p)->uP p l=none:=l.rec (λ_=>rfl) λx r ih h=>(ay (h x cC)).trans (ih λy m=>h y (cP _ m))
abbrev aau:List (Nat×Nat):=[(17,16),(19,18),(21,20)]
abbrev SI:List (Nat×Nat):=[(16,6),(17,6),(18,6),(19,6),(20,7),(21,7)]
noncomputable def dJ(p:Nat):Option Nat:=uP p aau
noncomputable def bf(p:Nat):Option Nat:=uP p SI
noncomputable def kN(p:Nat):Nat:=(dJ p).getD p
noncomputable def qh(p:Nat):Nat:=if(dJ p).isSome then(bf p).getD p else p
theorem G6{l:List (Nat×Nat)}(h:21<p)(k:∀x∈l,x.1<=21):uP p l=none:=O5 λx m=>t8 (di (k x m) h)
theorem B9{p:Nat}(h:21<p):dJ p=none:=G6 h (by decide)
theorem rj{p:Nat}(h:21<p):bf p=none:=G6 h (by decide)
abbrev wK:List Nat:=[1,2,3,4,6,8,10,14,15,16]
abbrev SM(p:Nat):Prop:=p<=7\/p=10\/p=13
abbrev Boo(p:Nat):Prop:=p=8\/p=9\/p=14\/p=15
noncomputable def nk(p:Nat):Bool:=decide (22<=p)&&decide (p<=25)
abbrev rm(p:Nat):Prop:=bf p=none/\dJ p=none
noncomputable abbrev zd(c:Nat)(x:V):V:=.aC [vN c,x,.int 0]
structure Ye(tb:List V)(p c:Nat)(rest:List V)(x:V):Prop where
 eN:bf p=some (c+3)
 row:O4 (zd c x)
 agR:rest=[x,.int 0]/\dJ p=none\/rest=[x,.int 1]/\∃q,dJ p=some q/\pos (zd c x) tb=some q
structure ze(tb:List V)(p c:Nat)(rest:List V):Prop where
 tags:c∈wK
 low:c=1->SM p
 bool:c=2->Boo p
 lit:c=3\/c=4->∃x,Ye tb p c rest x
 fE:c=8->∃ns e,V.aC (vN c::rest)=iC ns e
 pl:c≠3->c≠4->rm p
 Qt:c=10->nk p=true/\rest=[vN (p-22)]
 nl:c=16->∀x,rest[3]?=some (vN x)->x<p
def SN(tb:List V)(p:Nat)(r:V):Prop:=∃c rest,r=.aC (vN c::rest)/\ze tb p c rest
inductive KG(p:Nat):V->Prop
 |G7 (ps:List Nat):KG p (kM ps)
 |fE (ns:List Nm) (e:Bool):KG p (iC ns e)
 |agS (a:Nat):a<p->KG p (iD a)
 |cond (a b c d:Nat) (h1:a<p) (h2:b<p) (h3:c<p) (h4:d<p):KG p (SH a b c d)
theorem Yg(hp:21<p)(t:c∈wK)(n:¬(c=1\/c=2\/c=3\/c=4\/c=10))(o:c=8->∃ns e,V.aC (vN c::rest)=iC ns e)(l:c=16->∀x,rest[3]?=some (vN x)->x<p):SN tb p (.aC (vN c::rest)):=⟨c,rest,rfl,t,λe=>absurd (.inl e) n,λe=>absurd (.inr (.inl e)) n,λe=>absurd (.inr (.inr (e.imp id .inl))) n,o,λ_ _=>⟨rj hp,B9 hp⟩,λe=>absurd (.inr (.inr (.inr (.inr e)))) n,l⟩
theorem KG.cls(h:KG p r)(hp:21<p):SN tb p r:=by
 cases h
 ·exact Yg hp (by decide) (by decide) (λe=>tg rfl e) λe=>tg rfl e
 ·exact Yg hp (by decide) (by decide) (λ_=>⟨ns,e,rfl⟩) λe=>tg rfl e
 ·exact Yg hp (by decide) (by decide) (λe=>tg rfl e) λe=>tg rfl e
 ·exact Yg hp (by decide) (by decide) (λe=>tg rfl e) λ_ x e=>nJ (V.int.inj (bV e))▸h4
section
theorem Ei(ext:List V):pos k tb=some i->pos k (tb++ext)=some i:=sW (λ_=>ns) (λrs i e=>(KA rfl).trans e) (λr rs o h ih i=>Option.casesOn (motive:=λo=>(∀i,o=some i->pos k (rs++ext)=some i)->o.map (·+1)=some i->pos k (r::(rs++ext))=some i) o (λ_=>ns) (λj ih e=>(KD h).trans ((au (Option.map (·+1)) (ih j rfl)).trans e)) ih) tb i
theorem xw:pos k tb=some i->tb[i]?=some k:=sW (λ_=>ns) (λrs i e=>bV e▸rfl) (λr rs o h ih i=>Option.casesOn (motive:=λo=>(∀i,o=some i->rs[i]?=some k)->o.map (·+1)=some i->(r::rs)[i]?=some k) o (λ_=>ns) (λj ih e=>bV e▸ih j rfl) ih) tb i
end
noncomputable abbrev x0(r:V):V:=r.g9.tail.headD .none
noncomputable abbrev c0(r:V):Nat:=(r.g9.headD .none).tU.toNat
structure ak3(v:Bool)(p:Nat)(r:V):Prop where
 eq:r=.aC (vN (c0 r)::r.g9.tail)
 tags:c0 r∈wK
 low:c0 r=1->SM p
 bool:c0 r=2->Boo p
 lit:c0 r=3\/c0 r=4->bf p=some (c0 r+3)/\((zd (c0 r) (x0 r)).i7=true/\(zd (c0 r) (x0 r)).gF<=fU)/\(r.g9.tail=[x0 r,.int 0]/\dJ p=none\/r.g9.tail=[x0 r,.int 1]/\(dJ p).isSome=true/\pos (zd (c0 r) (x0 r)) (base v)=dJ p)
 fE:c0 r=8->r=iC [] false\/r=iC [[118]] false
 pl:c0 r≠3->c0 r≠4->rm p
 Qt:c0 r=10->nk p=true/\r.g9.tail=[vN (p-22)]
 nl:c0 r=16->r.g9.tail[3]?.all (λx=>decide (x.tU<(p:Int)))=true
noncomputable def agT(v:Bool)(p:Nat)(r:V):Decidable (ak3 v p r):=decidable_of_iff (r=.aC (vN (c0 r)::r.g9.tail)/\c0 r∈wK/\(c0 r=1->SM p)/\(c0 r=2->Boo p)/\(c0 r=3\/c0 r=4->bf p=some (c0 r+3)/\((zd (c0 r) (x0 r)).i7=true/\(zd (c0 r) (x0 r)).gF<=fU)/\(r.g9.tail=[x0 r,.int 0]/\dJ p=none\/r.g9.tail=[x0 r,.int 1]/\(dJ p).isSome=true/\pos (zd (c0 r) (x0 r)) (base v)=dJ p))/\(c0 r=8->r=iC [] false\/r=iC [[118]] false)/\(c0 r≠3->c0 r≠4->rm p)/\(c0 r=10->nk p=true/\r.g9.tail=[vN (p-22)])/\(c0 r=16->r.g9.tail[3]?.all (λx=>decide (x.tU<(p:Int)))=true))
 ⟨λh=>⟨h.1,h.2.1,h.2.2.1,h.2.2.2.1,h.2.2.2.2.1,h.2.2.2.2.2.1,h.2.2.2.2.2.2.1,h.2.2.2.2.2.2.2.1,h.2.2.2.2.2.2.2.2⟩,λh=>⟨h.1,h.2,h.3,h.4,h.5,h.6,h.7,h.8,h.9⟩⟩
theorem SP(v:Bool):((base v).zipIdx.all λx=>(agT v x.2 x.1).decide)=true:=v.rec (by decide+kernel) (by decide+kernel)
theorem SQ(v:Bool)(ext:List V)(p:Nat)(r:V)(e:(base v)[p]?=some r):SN (base v++ext) p r:=
 have d:=@bx _ (agT v p r) (pW (SP v) (r,p) (List.mem_zipIdx_iff_getElem?.mpr e))
 ⟨c0 r,r.g9.tail,d.eq,d.tags,d.low,d.bool,λh=>⟨x0 r,(d.lit h).1,⟨(d.lit h).2.1.1,rfl,(d.lit h).2.1.2⟩,(d.lit h).2.2.imp id λh=>⟨h.1,(Option.isSome_iff_exists.mp h.2.1).imp λq e=>⟨e,Ei ext (h.2.2.trans e)⟩⟩⟩,λh=>d.eq▸(d.fE h).elim (λe=>⟨_,_,e⟩) λe=>⟨_,_,e⟩,d.pl,d.Qt,λc x e=>Int.ofNat_lt.mp (bx (show(some (vN x)).all (λx:V=>decide (x.tU<(p:Int)))=true from e▸d.nl c))⟩
section
variable{α:Type}
noncomputable def gR(v:V)(xs:List V)(s:St):Prop:=v.onC False (λys=>ys=xs) (λys=>ys=xs) (λl=>At s l (.list xs)) λ_=>False
theorem gR.Ql{P:V->Prop}(t:P (.aC xs))(l:P (.lst xs))(r:∀l,At s l (.list xs)->P (.ref l)):gR v xs s->P v:=V.casesOn v False.elim (λ_=>False.elim) (λ_=>False.elim) (λ_=>False.elim) (λ_ e=>e▸t) (λ_ e=>e▸l) (λ_ _=>False.elim) r (λ_ _=>False.elim) (λ_=>False.elim) (λ_=>False.elim) (λ_=>False.elim) λ_=>False.elim
theorem gR.wp(h:gR v xs s){Q:V×List V->St->Prop}:Q (v,xs) s->WP (items v) s Q:=h.Ql (P:=λv=>Q (v,xs) s->WP (items v) s Q) .ret .ret λl h k=>fj h (.ret k)
theorem gR.dO(h:gR v xs s):jb v xs s:=h.Ql (P:=λv=>jb v xs s) bu bu λ_ h=>h
theorem gR.ext(h:gR v xs s)(e:aY NX s s'):gR v xs s':=h.Ql (P:=λv=>gR v xs s') rfl rfl λ_ h=>e.at id h
end
noncomputable def U(tb:List V)(ps:List Nat):Nat:=ps.casesOn (motive:=λ_=>Nat) 2 λp r=>r.casesOn (motive:=λ_=>Nat) p λq r=>putN tb (kM (p::q::r))
section
variable{p:Nat}
def O6(tb:List V)(p:Nat):Prop:=∃k rest,tb[p]?=some (.aC (.int k::rest))/\k≠6
structure G8(tb:List V)(p:Nat):Prop where
 no:p≠2
 row:O6 tb p
structure Kd(tb:List V)(ps:List Nat):Prop where
 dc:∀p∈ps,G8 tb p
 has:2<=ps.length->(pos (kM ps) tb).isSome=true
structure bW(tb:List V):Prop where
 cls:∀p r,tb[p]?=some r->SN tb p r
 Yh:∀p r,tb[p]?=some r->pos r tb=some p
 first:∃v ext,tb=base v++ext
theorem G9(e:(base v)[p]?=some r):(base v++ext)[p]?=some r:=(vM (rO e).1).trans e
theorem bW.get(h:bW tb)(e:∀v,(base v)[p]?=some r):tb[p]?=some r:=h.first.elim λv⟨ext,q⟩=>q▸G9 (e v)
theorem bW.KI(h:bW tb):tb[2]?=some (uO NP):=h.get λ_=>rfl
theorem lE(e:pos r tb=some i):putN tb r=i:=au (λo:Option Nat=>o.getD tb.length) e
theorem bW.G7(h:bW tb)(k:(pos (kM ps) tb).isSome=true):tb[putN tb (kM ps)]?=some (kM ps)/\putN tb (kM ps)≠2:=(Option.isSome_iff_exists.mp k).elim λi e=>(lE e).symm▸⟨xw e,λx=>tg rfl (au (λr:Option V=>c0 (r.getD .none)) (h.KI.symm.trans (x▸xw e)))⟩
theorem lF(hd:1<=d)(h:f9 s tb)(g:bW tb)(hk:Kd tb ps)(k:Q (.aC (bI ps)) s):WP (aS TT FT d 197 [jv,vN (U tb ps)]) s Q:=by
 refine aA hd rfl rfl ?_
 match ps,hk,k with
 |[],hk,k=>exact fz rfl k
 |[p],hk,k=>
  obtain⟨no,c,rest,e,hc⟩:=hk.dc p (QF p);exact bz (λx=>no (nJ x)) (o_attr h.ns rfl (dP h.fN e (aI rfl (bz hc k))))
 |p::q::r,hk,k=>
  have e:=g.G7 (hk.has (fC 2 _));exact bz (λx=>e.2 (nJ x)) (o_attr h.ns rfl (dP h.fN e.1 (aI rfl (fz rfl (aI rfl k)))))
end
section
theorem acW(h:T.sd a=some es)(e:m=vW\/m=nY)(k:Q 2 s):WP (CX T (.sd a) m) s Q:=xu h (az e) k
theorem acX(h:T.sd a=some es)(hk:gn i es=true)(k:Q ((bJ i es).getD d) s):WP (gZ T C (.sd a) vW 2 [i,d]) s Q:=xu h (az hk) k
theorem zg(e:decide (a≥b)=b')(k:Q b' s):WP (aM T .ge (.int a) (.int b)) s Q:=.of rfl (show Q (decide (a≥b)) s from e▸k)
theorem SR(e:decide (a>b)=b')(k:Q b' s):WP (aM T .gt (.int a) (.int b)) s Q:=.of rfl (show Q (decide (a>b)) s from e▸k)
theorem qt(e:decide (a<b)=b')(k:Q b' s):WP (aM T .lt (.int a) (.int b)) s Q:=.of rfl (show Q (decide (a<b)) s from e▸k)
theorem aL(k:Q b s):WP (gK T (.bool b)) s Q:=b.casesOn (.of rfl) (.of rfl) k
end
theorem sX{α:Type}{Q:α->St->Prop}{v w:α}(e:v=w)(k:Q w s):Q v s:=e▸k
theorem SV{Q:V->St->Prop}(e:w=v)(k:Q (.int w) s):Q (.int v) s:=e▸k
theorem Ca{a b:Nat}(h:a≠b):(a:Int)≠(b:Int):=λe=>h (nJ e)
theorem Ej(n:Nat):decide ((n:Int)≥0)=true:=dj (AD n)
theorem xy(n:Nat):decide ((n:Int)<0)=false:=dg (Int.not_lt.mpr (AD n))
noncomputable def oI(o:Option Nat):Int:=(o.map λw=>(w:Int)).getD (-1)
noncomputable abbrev Ek(p:Nat):Int:=oI (bf p)
noncomputable abbrev aav(p:Nat):Int:=oI (dJ p)
abbrev iK(p:Nat):Prop:=¬Boo p
theorem mP(h:c∈wK)(k:n∉wK):c≠n:=λe=>k (e▸h)
abbrev zh:List V:=[.int 2,.int 3,.int 4,.int 5,.int 8]
theorem zj(h:c=3\/c=4):jg (vN c) zh=true:=h.elim (λh=>h▸rfl) λh=>h▸rfl
theorem O7:∀c∈wK,c≠2->¬(c=3\/c=4)->c≠8->jg (vN c) zh=false:=by decide+kernel
section
theorem ze.ne2(h:ze tb p c rest)(nb:iK p):c≠2:=λe=>nb (h.bool e)
theorem ze.MD(h:ze tb p c rest)(k:¬(c=3\/c=4)):rm p:=h.pl (λe=>k (.inl e)) λe=>k (.inr e)
theorem ze.fc{P:Prop}(h:ze tb p c rest)(nb:iK p)(no:jg (vN c) zh=false->dJ p=none->P)
  (old:jg (vN c) zh=true->ZS (vN c::rest) (-1)=some (.int 0)->dJ p=none->P)
  (iN:∀x q,rest=[x,.int 1]->jg (vN c) zh=true->dJ p=some q->O4 (zd c x)->pos (zd c x) tb=some q->P):P:=(c6 (c=3\/c=4)).elim (λe=>(h.lit e).elim λx l=>l.agR.elim (λa=>old (zj e) (a.1▸rfl) a.2) λa=>a.2.elim λq b=>iN x q a.1 (zj e) b.1 l.row b.2)
  λe=>(c6 (c=8)).elim (λe8=>(h.fE e8).elim λns⟨b,q⟩=>old (e8▸rfl) ((au (λv:V=>ZS v.g9 (-1)) q).trans rfl) (h.MD e).2) λe8=>no (O7 c h.tags (h.ne2 nb) e e8) (h.MD e).2
theorem mQ(hd:1<=d)(h:SN tb p r)(k:Q (.int (Ek p)) s):WP (aS TT FT d 204 [r]) s Q:=by
 obtain⟨c,rest,e,h⟩:=h;rw [e];refine aA hd rfl rfl (aI rfl (sV (λe=>?_) λn3=>bz (Ca (mP h.tags (by decide))) (sV (λe=>?_) λn4=>bz (Ca (mP h.tags (by decide))) ?_)))
 ·exact(h.lit (.inl (nJ e))).elim λx l=>SV ((au oI l.eN).trans (au (λc=>oI (some (c+3))) (nJ e))) k
 ·exact(h.lit (.inr (nJ e))).elim λx l=>SV ((au oI l.eN).trans (au (λc=>oI (some (c+3))) (nJ e))) k
 ·exact SV (au oI (h.pl (λe=>n3 (au Int.ofNat e)) λe=>n4 (au Int.ofNat e)).1) k
theorem Yi(hd:1<=d)(h:f9 s tb)(e:tb[p]?=some r)(f:SN tb p r)(nb:iK p)(k:Q (.int (aav p)) s):WP (aS TT FT d 211 [jv,vN p]) s Q:=by
 obtain⟨c,rest,er,f⟩:=f;refine aA hd (f:=oB) rfl rfl (o_attr h.ns rfl (dP h.fN (e.trans (au some er)) (aI rfl (qs rfl ?_))));refine f.fc nb (λm t=>?_) (λm l t=>?_) λx q a m t rr hq=>?_
 ·rw [m]
  exact SV (au oI t) k
 ·rw [m]
  exact aI l (bz (by decide) (SV (au oI t) k))
 ·rw [m,a]
  exact aI rfl (fz rfl (o_attr h.ns rfl (iZ h.ix (.inl rfl) (.of rfl (.of rfl (Sz h.ix (h.gn rr) (sX (Q:=Q) (au (λo:Option V=>o.getD (.int (-1))) ((za (zd c x) tb).trans (au (Option.map λi:Nat=>V.int i) hq))) (SV (au oI t) k))))))))
end
abbrev acY:List V:=[.int 2,.int 3,.int 4,.int 5]
theorem Yj:∀c∈wK,c≠2->¬(c=3\/c=4)->jg (vN c) acY=false:=by decide+kernel
theorem SW(h:c=3\/c=4):jg (vN c) acY=true:=h.elim (λh=>h▸rfl) λh=>h▸rfl
section
theorem ze.ak4(h:ze tb p c rest)(nb:iK p):jg (vN c) acY=(bf p).isSome:=(c6 (c=3\/c=4)).elim (λe=>(h.lit e).elim λx l=>(SW e).trans (au Option.isSome l.eN).symm) λe=>(Yj c h.tags (h.ne2 nb) e).trans (au Option.isSome (h.MD e).1).symm
theorem rq(h:dJ p=some q):∃w,bf p=some w/\iK p/\bf q=some w/\q≠2:=by
 have k:∀p<22,∀q,dJ p=some q->∃w,bf p=some w/\iK p/\bf q=some w/\q≠2:=by
  have:∀p<22,((dJ p).all λq=>(bf p).any λw=>decide (iK p/\bf q=some w/\q≠2))=true:=by decide+kernel
  intro p hp q e;have h:=this p hp;rw [e]at h;cases w:bf p with
  |none=>rw [w]at h;exact ff h
  |some w'=>rw [w]at h;exact⟨w',rfl,bx h⟩
 exact(AI p 22).elim (λhp=>k p hp q h) λhp=>ns ((B9 hp).symm.trans h)
structure Wi(tb:List V)(p:Nat)(r:V):Prop where
 cR:tb[p]?=some r
 cls:SN tb p r
 nb:iK p
theorem bW.Qv(g:bW tb)(e:tb[p]?=some r)(nb:iK p):Wi tb p r:=⟨e,g.cls p r e,nb⟩
def Yk(p:Nat)(r:V):Prop:=p=10\/∃ns e,r=iC ns e
theorem rA(h:V.aC (a::as)=.aC (b::bs)):a=b:=(je (V.aC.inj h)).1
noncomputable def agU(p:Nat):Int:=((bJ (vN p) Eb).getD (.int 0)).tU
theorem Yl:∀p<14,SM p->(bJ (vN p) Eb).getD (.int 0)=.int (agU p)/\(agU p=7->p=10):=by decide+kernel
theorem acZ(h:SM p):p<14:=h.elim (λh=>di h (by decide)) λh=>h.elim (λh=>h▸by decide) λh=>h▸by decide
theorem Ym:∀c∈wK,c≠8->jg (vN c) [.int 8,.int 9,.int 11,.int 12,.int 13]=false:=by decide+kernel
theorem El(hd:1<=d)(h:f9 s tb)(hr:O4 r)(e:pos r tb=some i)(k:Q (vN i) s):WP (aS TT FT d 143 [jv,r]) s Q:=by
 have g:=(za r tb).trans (au (Option.map λi:Nat=>V.int i) e);refine aA hd rfl rfl (o_attr h.ns rfl (nj h.ix (h.gn hr) ?_));rw [g];exact o_attr h.ns rfl (aZ h.ix (h.gn hr) g k)
theorem ME(hd:1<=d)(h:f9 s tb)(e:tb[p]?=some (.aC (k::rest)))(q:Q k s):WP (aS TT FT d 157 [jv,vN p]) s Q:=aA hd rfl rfl (o_attr h.ns rfl (dP h.fN e (aI rfl q)))
section
variable(h:f9 s tb)(o:Wi tb p r)
include h o
theorem rB(hd:1<=d)(k:Q (.bool (bf p).isSome) s):WP (aS TT FT d 251 [jv,vN p]) s Q:=by
 obtain⟨e,⟨c,rest,er,f⟩,nb⟩:=o;exact aA hd rfl rfl (o_attr h.ns rfl (dP h.fN (e.trans (au some er)) (aI rfl (qs rfl (sX (Q:=Q) (au V.bool (f.ak4 nb)) k)))))
theorem zk(hd:1<=d)(k:Q (.bool (dJ p).isSome) s):WP (aS TT FT d 265 [jv,vN p]) s Q:=by
 obtain⟨e,⟨c,rest,er,f⟩,nb⟩:=o;refine aA hd rfl rfl (o_attr h.ns rfl (dP h.fN (e.trans (au some er)) (aI rfl (qs rfl ?_))));refine f.fc nb (λm t=>?_) (λm l t=>?_) λx q a m t rr hq=>?_
 ·rw [m]
  exact .ret (sX (au (λo:Option Nat=>V.bool o.isSome) t).symm k)
 ·rw [m]
  exact .ret (aI l (bz (by decide) (sX (au (λo:Option Nat=>V.bool o.isSome) t).symm k)))
 ·rw [m,a]
  exact .ret (aI rfl (fz rfl (sX (au (λo:Option Nat=>V.bool o.isSome) t).symm k)))
theorem SY(hw:bf p=some w)(hd:2<=d)(k:Q (vN w) s):WP (aS TT FT d 289 [jv,vN p]) s Q:=by
 obtain⟨e,cl,nb⟩:=o;have cl2:=cl;obtain⟨c,rest,er,f⟩:=cl2;refine aA (l8 hd) rfl rfl (o_attr h.ns rfl (dP h.fN e ?_));rw [er]at cl⊢;refine aI rfl (bz (Ca (f.ne2 nb)) (aI rfl (bz (Ca (mP f.tags (by decide))) (mQ (lZ hd) cl ?_))))
 exact SV (Q:=λv s=>flQ _ _ (.next (wr _ 3 v)) s) (au oI hw).symm (zg (Ej w) k)
theorem Yn(hd:2<=d)(k:Q (vN (kN p)) s):WP (aS TT FT d 272 [jv,vN p]) s Q:=by
 have d1:=lZ hd;refine aA (l8 hd) rfl rfl (zk h o d1 (aL ?_));have e:=o.cR;obtain⟨c,rest,er,f⟩:=o.cls;have m:∀{q:Option Nat},dJ p=q->Q (vN (q.getD p)) s:=λe=>e▸k;refine f.fc o.nb (λ_ t=>?_) (λ_ l t=>?_) λx q a _ t rr hq=>?_
 ·rw [t];exact m t
 ·rw [t];exact m t
 ·rw [t]
  rw [a]at er;exact bT h.ns rfl rfl (o_attr h.ns rfl (dP h.fN (e.trans (au some er)) (.of rfl (.of rfl (El d1 h rr hq (m t))))))
end
theorem O6.ne6(o:O6 tb p)(e:tb[p]?=some (.aC (vN c::rest))):c≠6:=o.elim λk⟨_,q,n⟩ec=>n ((V.int.inj (rA (bV (q.symm.trans e)))).trans (au Int.ofNat ec))
section
variable(h:f9 s tb)(o:Wi tb p r)
include h o
theorem KJ(n:O6 tb p)(hd:3<=d)(k:Q (vN (kN p)) s):WP (aS TT FT d 277 [jv,vN p]) s Q:=by
 have o2:=o;obtain⟨e,⟨c,rest,er,f⟩,nb⟩:=o2;rw [er]at e;have d2:=lZ hd;exact aA (aH (by decide) hd) rfl rfl (ME (l8 d2) h e (bz (Ca (n.ne6 e)) (Yn h o d2 k)))
theorem O8(hd:3<=d)(k:Q (vN (qh p)) s):WP (aS TT FT d 372 [jv,vN p]) s Q:=by
 have d2:=lZ hd;have d1:=l8 d2;refine aA (aH (by decide) hd) rfl rfl (rB h o d1 (aL ?_))
 unfold qh at k;cases t:dJ p with
 |some q=>
  obtain⟨w,hw,_⟩:=rq t;rw [t,hw]at k;rw [hw];refine zk h o d1 (aL ?_);rw [t];exact SY h o hw d2 k
 |none=>
  rw [t]at k;cases hw:bf p with
  |none=>exact k
  |some w=>
   refine zk h o d1 (aL ?_);rw [t];exact k
theorem Cb(n:O6 tb p)(hd:2<=d)(k:∀f:Int,(f=7->Yk p r)->Q (.int f) s):WP (aS TT FT d 308 [jv,vN p]) s Q:=by
 have d1:=lZ hd;have cl:=o.cls;obtain⟨e,⟨c,rest,er,f⟩,nb⟩:=o;rw [er]at e cl;refine aA (l8 hd) rfl rfl (o_attr h.ns rfl (dP h.fN e (aI rfl (sV (λx=>?_) λn1=>?_))))
 ·have hp:=f.low (nJ x)
  have fk:=Yl p (acZ hp) hp;exact acW rfl (.inl rfl) (acX rfl rfl (sX (Q:=Q) fk.1 (k _ λe=>.inl (fk.2 e))))
 ·refine bz (Ca (f.ne2 nb)) (qs rfl ?_)
  by_cases e8:c=8
  ·rw [show jg (vN c) [.int 8,.int 9,.int 11,.int 12,.int 13]=true from e8▸rfl]
   exact k 7 λ_=>.inr (er▸f.fE e8)
  ·rw [Ym c f.tags e8]
   refine bz (Ca (n.ne6 e)) (bz (Ca (mP f.tags (by decide))) (mQ d1 cl ?_))
   cases hw:bf p with
   |none=>exact qt (au (λo:Option Nat=>decide (oI o<0)) hw) (k 0 λe=>nomatch e)
   |some w=>exact qt ((au (λo:Option Nat=>decide (oI o<0)) hw).trans (xy w)) (sV (λ_=>k 1 λe=>nomatch e) λ_=>k 2 λe=>nomatch e)
theorem Yo(hd:2<=d)(k:Q (.bool (decide (p=4\/p=5)||(bf p).isSome)) s):WP (aS TT FT d 258 [jv,vN p]) s Q:=by
 have m:∀{b:Bool},decide (p=4\/p=5)=b->Q (.bool (b||(bf p).isSome)) s:=λe=>e▸k;refine aA (l8 hd) rfl rfl (sV (λx=>aL (m (dj (.inl (nJ x))))) λn4=>aL (sV (λx=>aL (m (dj (.inr (nJ x))))) λn5=>aL (rB h o (lZ hd) ?_)));exact m (dg λx=>x.elim (λx=>n4 (au Int.ofNat x)) λx=>n5 (au Int.ofNat x))
end
end
noncomputable def jY(ks:List Nat):List (V×V):=ks.map λk=>(vN k,.int 1)
noncomputable def inI(i:Int)(ks:List Nat):Bool:=ks.any λk=>decide ((k:Int)=i)
theorem KL:vN a=V.int i↔(a:Int)=i:=⟨V.int.inj,au V.int⟩
theorem eX(h:vN a=vN b):a=b:=nJ (V.int.inj h)
theorem jO(i:Int)(ks:List Nat):(bJ (.int i) (jY ks)).isSome=inI i ks:=ks.rec rfl λk ks ih=>by
 show(if vN k=V.int i then some (V.int 1)else bJ (.int i) (jY ks)).isSome=(decide ((k:Int)=i)||inI i ks);by_cases e:(k:Int)=i
 ·rw [az (KL.mpr e),dj e];rfl
 ·rw [ay (λx=>e (KL.mp x)),dg e,ih];rfl
theorem xA(p:Nat)(ks:List Nat):inI (p:Int) ks=decide (p∈ks):=Bool.eq_iff_iff.mpr ⟨λh=>dj ((List.any_eq_true.mp h).elim λx h=>nJ (bx h.2)▸h.1),λh=>List.any_eq_true.mpr ⟨p,bx h,dj rfl⟩⟩
theorem Yp(ks:List Nat):inI (-1) ks=false:=List.any_eq_false.mpr λx _ h=>Int.noConfusion (bx h)
theorem jq(i:Int)(ks:List Nat):gn (.int i) (jY ks)=true:=ks.casesOn rfl λ_ _=>rfl
noncomputable def fO(ks:List Nat)(k:Nat):List Nat:=if k∈ks then ks else ks++[k]
theorem Hf(k:Nat)(ks:List Nat):cS (vN k) (.int 1) (jY ks)=jY (fO ks k):=ks.rec rfl λx ks ih=>by
 show(if vN x=vN k then(vN x,V.int 1)::jY ks else(vN x,V.int 1)::cS (vN k) (.int 1) (jY ks))=_;unfold fO at ih⊢;by_cases e:x=k
 ·rw [az (au vN e),az (e▸cC)];rfl
 ·rw [ay λy=>e (eX y),ih]
  by_cases h:k∈ks
  ·rw [az h,az (cP _ h)];rfl
  ·rw [ay h,ay λy=>(fY y).elim (λz=>e z.symm) h];rfl
theorem Em(ks:List Nat):(jY ks).length=ks.length:=cT ..
noncomputable def eS(l:List Nat):List Nat:=l.foldl fO []
noncomputable def En(o:Option Nat)(ks:List Nat):Bool:=o.any λw=>decide (w∈ks)
noncomputable def fP(ks:List Nat)(p:Nat):Bool:=! En (dJ p) ks&&! En (bf p) ks
noncomputable def lG(ks:List Nat):List Nat:=j8 (λa b=>decide (a<=b)) ks
noncomputable def nQ(ks:List Nat):Option Nat:=if 0∈ks then some 0 else if 13∈ks then some 13 else if 1∈ks then some 1 else none
noncomputable def fF(l:List Nat):List Nat:=(nQ (eS l)).elim ((lG (eS l)).filter (fP (eS l))) λt=>[t]
theorem Hg(o:Option Nat)(ks:List Nat):inI (oI o) ks=En o ks:=o.casesOn (Yp ks) λw=>xA w ks
section
theorem Cc(hl:At s l (.dict (jY ks)))(k1:p∈ks->Q true s)(k2:p∉ks->Q false s):WP (aM T .eU (.int p) (.ref l)) s Q:=nj hl (jq _ _) (by
  rw [jO,xA];by_cases h:p∈ks
  ·rw [dj h];exact k1 h
  ·rw [dg h];exact k2 h)
variable(hl:At s l (.dict (jY ks)))
include hl
theorem ac0(hd:1<=d)(k:Q (.int (oI (nQ ks))) s):WP (aS TT FT d 232 [.ref l]) s Q:=by
 unfold nQ at k;refine aA hd rfl rfl (.ret ⟨bu,Cc hl (λh=>?_) λh0=>⟨bu,Cc hl (λh=>?_) λh1=>⟨bu,Cc hl (λh=>?_) λh2=>⟨bu,?_⟩⟩⟩⟩)
 ·exact SV (au oI (az h)) k
 ·exact SV (au oI ((ay h0).trans (az h))) k
 ·exact SV (au oI ((ay h0).trans ((ay h1).trans (az h)))) k
 ·exact SV (au oI ((ay h0).trans ((ay h1).trans (ay h2)))) k
theorem Yq(hd:1<=d)(n:8∉ks/\14∉ks)(k:Q .none s):WP (aS TT FT d 218 [.ref l]) s Q:=aA hd rfl rfl (Cc hl (λh=>absurd h n.1) λ_=>Cc hl (λh=>absurd h n.2) λ_=>k)
theorem S7(hd:2<=d)(h:f9 s tb)(o:Wi tb p r)(k:Q (.bool (fP ks p)) s):WP (aS TT FT d 225 [jv,.ref l,vN p]) s Q:=by
 have d1:=lZ hd;have m:∀{b:Bool},En (dJ p) ks=b->Q (.bool (! b&&! En (bf p) ks)) s:=λe=>e▸k;refine aA (l8 hd) rfl rfl (Yi d1 h o.cR o.cls o.nb (nj hl (jq _ _) ?_));rw [jO,Hg];cases e:En (dJ p) ks with
 |true=>exact m e
 |false=>exact o_attr h.ns rfl (dP h.fN o.cR (mQ d1 o.cls (oK hl (jq _ _) (sX (Q:=Q) (au (λb=>V.bool ! b) ((jO _ ks).trans (Hg _ ks))) (m e)))))
end
theorem MF(ks:List Nat):bI ks=(ks.map Int.ofNat).map V.int:=(nK ..).symm
theorem zm(l:List Int):xV (l.map V.int)=some l:=(az (List.all_eq_true.mpr λv h=>(List.mem_map.mp h).elim λi h=>h.2▸rfl)).trans (au some ((nK ..).trans (List.map_id l)))
theorem Yr{α β:Type}(f:α->β){le:α->α->Bool}{le':β->β->Bool}(h:∀a b,le' (f a) (f b)=le a b)(a:α)(ks:List α):Jh le' (f a) (ks.map f)=(Jh le a ks).map f:=ks.rec rfl λb bs ih=>(au (λr=>if le' (f a) (f b)=true then f a::f b::bs.map f else f b::r) ih).trans ((au (λc:Bool=>if c=true then f a::f b::bs.map f else f b::(Jh le a bs).map f) (h a b)).trans (apply_ite (List.map f) (le a b=true) (a::b::bs) (b::Jh le a bs)).symm)
theorem O9(ks:List Nat):j8 (λa b:Int=>decide (a<=b)) (ks.map Int.ofNat)=(lG ks).map Int.ofNat:=ks.rec rfl λa as ih=>(au (Jh (λa b:Int=>decide (a<=b)) (Int.ofNat a)) ih).trans (Yr (le:=λa b=>decide (a<=b)) (le':=λa b:Int=>decide (a<=b)) Int.ofNat (λa b=>decide_eq_decide.mpr Int.ofNat_le) a _)
theorem zo(h:At s l (.dict (jY ks)))(hn:ks.length<64)(k:Q (.lst (bI (lG ks))) s):WP (k7 TT C (.bi 1) [.ref l]) s Q:=by
 refine pJ h ((az (di (cK (Em ks)) hn)).trans ?_) k;have e:(jY ks).map (·.1)=(ks.map Int.ofNat).map V.int:=(nK ..).trans (MF ks)
 unfold LO;rw [e,zm,MF,←O9];rfl
theorem iQ(s:St)(c d:bw):(s++[c]).set s.length d=s++[d]:=(LK _ _ (aW _)).trans (by rw [CO];rfl)
section
variable{α β:Type}
theorem MG{ys:List V}{y:V}{Q:Unit->St->Prop}(h:ys.length<cu)(k:Q () (s0++[.list (ys++[y])])):oJ s0.length y Q (s0++[.list ys]):=⟨ys,bS,h,atS (iQ ..) k⟩
where atS {Q:Unit->St->Prop} {s s':St} (e:s=s') (k:Q () s'):Q () s:=e▸k
theorem MH{a b n:Nat}(h:a+(b+1)<=n):a<n:=eB (xJ (Nat.succ_pos b)) h
theorem Eo{α:Type}{ys:List α}{y:α}{r n:Nat}(h:ys.length+(r+1)<=n):(ys++[y]).length+r<=n:=aH (cK ((au (·+r) gH).trans ((nH ..).trans (au (ys.length+·) (vP 1 r))))) h
theorem Pa{step:V->PT Unit}{Q:Unit->St->Prop}(g:α->V)(keep:α->Bool)(out:α->V)(hs:∀ys,jb v xs (s0++[.list ys]))(r:List α):
  (∀x∈r,∀ys(K:Unit->St->Prop),(keep x=true->oJ s0.length (out x) K (s0++[.list ys]))->(keep x=false->K () (s0++[.list ys]))->step (g x) K (s0++[.list ys]))->∀ys:List V,ys.length+r.length<=cu->Q () (s0++[.list (ys++(r.filter keep).map out)])->jN step v xs (r.map g) Q (s0++[.list ys]):=r.rec (λ_ ys _ h=>⟨hs _,kX ys▸h⟩) λx r ih hk ys hl h=>⟨hs _,hk x cC ys _
  (λe=>MG (MH hl) (ih (λx hx=>hk x (cP _ hx)) _ (Eo hl) (by rw [rQ];rw [I2 e]at h;exact h)))
  λe=>ih (λx hx=>hk x (cP _ hx)) _ (fT hl) (by rw [CK (e▸eH)]at h;exact h)⟩
theorem lH(g:α->V)(keep:α->Bool)(out:α->V)(hs:∀ys,jb v xs (s0++[.list ys])){r:List α}(hl:r.length<=cu)
  (hk:∀x∈r,∀ys(K:Unit->St->Prop),(keep x=true->oJ s0.length (out x) K (s0++[.list ys]))->(keep x=false->K () (s0++[.list ys]))->step (g x) K (s0++[.list ys]))
  (h:Q (.lst ((r.filter keep).map out)) (s0++[.bH])):jN step v xs (r.map g) (λ_=>pG s0.length Q) (s0++[.list []]):=Pa g keep out hs r hk [] (aH (cK (p8 _)) hl) ⟨_,bS,(iQ s0 ..).symm▸h⟩
theorem jc(g:α->V)(out:α->V)(hs:∀ys,jb v xs (s0++[.list ys])){r:List α}(hl:r.length<=cu)
  (hk:∀x∈r,∀ys(K:Unit->St->Prop),oJ s0.length (out x) K (s0++[.list ys])->step (g x) K (s0++[.list ys]))
  (h:Q (.lst (r.map out)) (s0++[.bH])):jN step v xs (r.map g) (λ_=>pG s0.length Q) (s0++[.list []]):=lH g (λ_=>true) out hs hl (λx hx ys K k _=>hk x hx ys K (k rfl)) (by rw [List.filter_eq_self.mpr λ_ _=>rfl];exact h)
theorem pK(g:α->V)(st:β->St)(I:List α->β->Prop)(hs:∀a,jb v xs (st a))
  (fu:∀x r a(K:Unit->St->Prop),I (x::r) a->(∀a',I r a'->K () (st a'))->step (g x) K (st a))(S8:∀a,I [] a->Q () (st a))(r:List α):∀a,I r a->jN step v xs (r.map g) Q (st a):=r.rec (λa h=>⟨hs a,S8 a h⟩) λx r ih a h=>⟨hs a,fu x r a _ h ih⟩
theorem bD(g:α->V)(env:β->aQ)(st:β->St)(I:List α->β->Prop)(hs:∀a,jb v xs (st a))
  (fu:∀x r a(K:Fl->St->Prop),I (x::r) a->(∀a',I r a'->K (.next (env a')) (st a'))->(∀u s',Q (.ret u) s'->K (.ret u) s')->step (g x) (env a) K (st a))
  (S8:∀a,I [] a->Q (.next (env a)) (st a))(r:List α):∀a,I r a->Mz step v xs (r.map g) (env a) Q (st a):=r.rec (λa h=>⟨hs a,S8 a h⟩) λx r ih a h=>⟨hs a,fu x r a _ h ih λ_ _ q=>q⟩
end
theorem zq(h:xs.length+ys.length<cu)(k:Q (.lst (xs++ys)) s):WP (d9 .add (.lst xs) (.lst ys)) s Q:=.nV (az h) k
theorem S9(h:xs.length+ys.length<cu)(k:Q (.aC (xs++ys)) s):WP (d9 .add (.aC xs) (.aC ys)) s Q:=.nV (az h) k
theorem oN{α:Type}(f:α->Nat)(l:List α):l.map (λp=>vN (f p))=bI (l.map f):=(nK (g:=vN)).symm
theorem f9.new(h:f9 s tb)(c:bw):f9 (s++[c]) tb:=h.ext ((aY.refl (X:=NX) s).new c) ⟨id,id,id⟩
section
theorem xB(h:k∈ks):fO ks k=ks:=az h
theorem jP(h:k∉ks):fO ks k=ks++[k]:=ay h
theorem sY:x∈fO ks k↔x∈ks\/x=k:=by
 by_cases h:k∈ks
 ·rw [xB h];exact⟨.inl,λh2=>h2.elim id λe=>e▸h⟩
 ·rw [jP h];exact List.mem_append.trans (j6 kH List.mem_singleton)
theorem Pb(l:List Nat):∀ks,x∈l.foldl fO ks↔x∈ks\/x∈l:=l.rec (λks=>(or_iff_left pY).symm) λa l ih ks=>(ih _).trans ((j6 sY kH).trans (or_assoc.trans (j6 kH List.mem_cons.symm)))
theorem gz:x∈eS l↔x∈l:=(Pb l []).trans (or_iff_right pY)
theorem Tc(ks:List Nat)(k:Nat):ks.length<=(fO ks k).length:=(c6 (k∈ks)).elim (λh=>cK (au List.length (xB h).symm)) λh=>aH (bZ _ 1) (cK ((au List.length (jP h)).trans gH).symm)
theorem uQ(l:List Nat):∀ks:List Nat,ks.length<=(l.foldl fO ks).length:=l.rec (λ_=>aW _) λa l ih ks=>aH (Tc ks a) (ih _)
end
section
variable{α:Type}
theorem uR(le:α->α->Bool)(l:List α):(j8 le l).length=l.length:=(jG l).length_eq
theorem jw:x∈j8 le l↔x∈l:=(jG l).mem_iff
end
noncomputable def aO(tb:List V)(ps:List Nat):List V:=if 2<=ps.length then f6 tb (kM ps)else tb
theorem Hh(ps:List Nat):V.mj (bI ps)=true:=ps.rec rfl λ_ _ ih=>ih
theorem MI(ps:List Nat):(V.aC (bI ps)).gF=1:=ps.rec rfl λ_ ps ih=>(au (·+1) (Nat.zero_max _)).trans ih
theorem Ys(ps:List Nat):O4 (kM ps):=⟨show(true&&(V.mj (bI ps)&&true))=true from dF rfl (dF (Hh ps) rfl),rfl,aH (cK (au (λn=>max 0 (max n 0)+1) (MI ps))) (by decide)⟩
section
theorem Hi:pos r tb=none->pos r (tb++[r])=some tb.length:=sW (P:=λtb o=>o=none->pos r (tb++[r])=some tb.length) (λ_=>KA rfl) (λ_ e=>ns e.symm) (λa as o h ih e=>(KD h).trans (au (Option.map (·+1)) (ih (Option.map_eq_none_iff.mp e)))) tb
theorem Cd(e:pos r tb=some i):f6 tb r=tb:=az (au Option.isSome e)
theorem Ce(e:pos r tb=none):f6 tb r=tb++[r]:=ay (au Option.isSome e▸eH)
theorem Pc(e:pos r tb=none):putN tb r=tb.length:=au (λo:Option Nat=>o.getD tb.length) e
theorem oO(tb:List V)(r:V):pos r (f6 tb r)=some (putN tb r):=by
 cases e:pos r tb with
 |some i=>rw [Cd e,lE e];exact e
 |none=>rw [Ce e,Pc e];exact Hi e
theorem pL(tb:List V)(r:V):putN (f6 tb r) r=putN tb r:=lE (oO tb r)
end
theorem fW(k:Q (.ref s.length) (s++[.dict []])):WP (M.bind (eK s.length) (kh s.length [] [])) (s++[.dict []]) Q:=fj bS (.of (au (fH.ok _) (iQ s _ _)) k)
theorem Hj(hl:ks.length<cu)(k:Q () (s++[.dict (jY (fO ks p))])):WP (xS (.ref s.length) (vN p) (.int 1)) (s++[.dict (jY ks)]) Q:=fM bS (jq _ _) (Em ks▸hl) (by rw [Hf,iQ];exact k)
structure L2 where
 ks:List Nat
 x:Option V
 y:Option V
theorem fX(h:n<64):n<cu:=xK h (by decide)
theorem agV(h:2<=ps.length):U tb ps=putN tb (kM ps):=List.casesOn ps (λh=>absurd h (by decide)) (λp r=>List.casesOn r (λh=>absurd h (Nat.not_succ_le_self 1)) λ_ _ _=>rfl) h
theorem uS(h:2<=ps.length):aO tb ps=f6 tb (kM ps):=az h
theorem Pd(h:¬2<=ps.length):aO tb ps=tb:=ay h
theorem lI(h:nQ (eS l)=none):fF l=(lG (eS l)).filter (fP (eS l)):=au (λo:Option Nat=>o.elim _ λt=>[t]) h
theorem lJ(h:nQ (eS l)=some t):fF l=[t]:=au (λo:Option Nat=>o.elim _ λt=>[t]) h
theorem sZ(MJ:List (List Nat))(hd:3<=d)(h:f9 s tb)(g:bW tb)(hx:gR v (bI (MJ.map (U tb))) s)
  (hk:∀ps∈MJ,Kd tb ps)(hp:∀p∈MJ.flatten,∃r,Wi tb p r)(small:(eS MJ.flatten).length<64)(hl:tb.length<cu)
  (k:∀s',aY TX s s'->f9 s' (aO tb (fF MJ.flatten))->Q (vN (U (aO tb (fF MJ.flatten)) (fF MJ.flatten))) s'):WP (aS TT FT d 237 [jv,v]) s Q:=by
 have d2:=lZ hd;have d1:=l8 d2;have e0:∀c,aY NX s (s++[c]):=(aY.refl s).new;have h1:=h.new;have exs:bI (MJ.map (U tb))=MJ.map λps=>vN (U tb ps):=nK ..;rw [exs]at hx;refine aA (aH (by decide) hd) rfl rfl (fW ((hx.ext (e0 _)).wp ?_))
 refine bD (λps=>vN (U tb ps)) (λa:L2=>[some jv,some v,some (.ref s.length),a.x,a.y,none,none,none]) (λa=>s++[.dict (jY a.ks)]) (λr a=>r.flatten.foldl fO a.ks=eS MJ.flatten/\∀ps∈r,Kd tb ps) (λa=>(hx.ext (e0 _)).dO) ?_ ?_ MJ ⟨[],none,none⟩ ⟨rfl,hk⟩
 ·intro ps r a K hr kn _
  refine lF d1 (h1 _) g (hr.2 ps cC) (.ret ?_);refine bD vN (λa:L2=>[some jv,some v,some (.ref s.length),a.x,a.y,none,none,none]) (λa=>s++[.dict (jY a.ks)]) (λr2 a=>r.flatten.foldl fO (r2.foldl fO a.ks)=eS MJ.flatten) ?_ ?_ ?_ ps ⟨a.ks,some (vN (U tb ps)),a.y⟩ ?_
  ·exactλa=>bu
  ·intro p r2 b K2 hf IZ _
   refine Hj (fX (di ?_ small)) (IZ ⟨fO b.ks p,b.x,some (vN p)⟩ hf);exact hf▸aH (uQ (p::r2) _) (uQ r.flatten _)
  ·exactλb hf=>kn b ⟨hf,λq hq=>hr.2 q (cP _ hq)⟩
  ·exact List.foldl_append.symm.trans hr.1
 ·intro a ⟨hf,_⟩
  have hf:a.ks=eS MJ.flatten:=hf;have ho:=λp m=>hp p (gz.mp (hf▸m));refine ac0 bS d1 ?_;have k2:∀z s',fF MJ.flatten=z->aY TX s s'->f9 s' (aO tb z)->Q (vN (U (aO tb z) z)) s':=λz s' e=>e▸k s';cases ht:nQ a.ks with
  |some t=>exact zg (Ej t) (k2 [t] _ (lJ (hf▸ht)) ((e0 _).uN λ_ x=>x.elim) (h1 _))
  |none=>
   refine zg rfl (Yq bS d1 ⟨λx=>(ho 8 x).elim λ_ o=>o.nb (.inl rfl),λx=>(ho 14 x).elim λ_ o=>o.nb (.inr (.inr (.inl rfl)))⟩ (zo bS (hf▸small) (.ret ?_)));have sl:(lG a.ks).length<64:=uR _ a.ks▸hf▸small;refine lH vN (fP a.ks) vN ?_ (fT (fX sl)) (λp m ys K k1 k2=>?_) ?_
   ·exactλ_=>bu
   ·obtain⟨r,o⟩:=ho p (jw.mp m)
    refine S7 bS.new d2 ((h1 _).new _) o (aL ?_);cases hs:fP a.ks p with
    |true=>exact k1 hs
    |false=>exact k2 hs
   ·have e2:aY NX s (s++[.dict (jY a.ks)]++[.bH]):=(e0 _).new _
    have h2:f9 (s++[.dict (jY a.ks)]++[.bH]) tb:=(h1 _).new _;have k3:=λs'=>k2 _ s' ((lI (hf▸ht)).trans (au (λks=>(lG ks).filter (fP ks)) hf.symm));have zl:((lG a.ks).filter (fP a.ks)).length<64:=di (tY ..) sl;generalize(lG a.ks).filter (fP a.ks)=z at k3 zl
    match z,k3,zl with
    |[],k,_=>exact .of rfl (k _ (e2.uN λ_ x=>x.elim) h2)
    |[p],k,_=>exact .of rfl (.of rfl (fz rfl (lB rfl (k _ (e2.uN λ_ x=>x.elim) h2))))
    |p::q::z,k,zl=>
     have len:(bI (p::q::z)).length=z.length+2:=cT ..;refine .of rfl (.of rfl (bz (Ca (len▸Nat.succ_succ_ne_one _)) (.of rfl (SR (dg ?_) (bT h2.ns rfl rfl (.of rfl (zb d1 h2 (Ys (p::q::z)) hl λs' e' t'=>?_)))))))
     ·exact Int.not_lt.mpr (Int.ofNat_le.mpr (aH (cK len) (aH (fT zl) (by decide))))
     ·have k:=k s' ((e2.uN λ_ x=>x.elim).trans e')
      rw [uS (fC 2 _),agV (fC 2 _),pL]at k;exact k t'
def eT(tb cL:List V):Prop:=∃e,cL=tb++e
section
variable{p i:Nat}
theorem eT.refl(tb:List V):eT tb tb:=⟨[],(kX _).symm⟩
theorem eT.trans(h:eT a b)(k:eT b c):eT a c:=h.elim λe q=>k.elim λf z=>⟨e++f,(z.trans (au (·++f) q)).trans (rQ ..)⟩
theorem eT.get(h:eT a b)(e:a[p]?=some r):b[p]?=some r:=h.elim λx q=>q▸(vM (rO e).1).trans e
theorem eT.pos(h:eT a b)(e:pos r a=some i):pos r b=some i:=h.elim λx q=>q▸Ei x e
theorem rC{P:List V->Prop}(h1:∀i,Mine.F.pos r tb=some i->P tb)(h2:Mine.F.pos r tb=none->P (tb++[r])):P (f6 tb r):=by
 cases e:Mine.F.pos r tb with
 |some i=>exact(Cd e).symm▸h1 i e
 |none=>exact(Ce e).symm▸h2 e
theorem mR{P:List V->Prop}(h1:P tb)(h2:P (f6 tb (kM ps))):P (aO tb ps):=(c6 (2<=ps.length)).elim (λh=>(uS h).symm▸h2) λh=>(Pd h).symm▸h1
theorem lK(tb:List V)(r:V):eT tb (f6 tb r):=rC (λ_ _=>.refl _) λ_=>⟨[r],rfl⟩
theorem bQ(tb:List V)(ps:List Nat):eT tb (aO tb ps):=mR (.refl _) (lK _ _)
theorem s8(tb:List V)(r:V):(f6 tb r).length<=tb.length+1:=rC (P:=λt=>t.length<=tb.length+1) (λ_ _=>bZ _ _) λ_=>cK gH
theorem cQ(tb:List V)(ps:List Nat):(aO tb ps).length<=tb.length+1:=mR (P:=λt=>t.length<=tb.length+1) (bZ _ _) (s8 _ _)
theorem zu(h:eT a b)(e:(Mine.F.pos r a).isSome=true):putN b r=putN a r:=(Option.isSome_iff_exists.mp e).elim λi e=>(lE (h.pos e)).trans (lE e).symm
theorem G8.pre(h:eT a b)(k:G8 a p):G8 b p:=⟨k.no,k.row.elim λc⟨rest,e,n⟩=>⟨c,rest,h.get e,n⟩⟩
theorem Kd.pre(h:eT a b)(k:Kd a ps):Kd b ps:=⟨λp hp=>(k.dc p hp).pre h,λl=>(Option.isSome_iff_exists.mp (k.has l)).elim λi e=>au Option.isSome (h.pos e)⟩
theorem g8(h:eT a b)(k:Kd a ps):U b ps=U a ps:=List.casesOn ps (λ_=>rfl) (λp r=>List.casesOn r (λ_=>rfl) λq r k=>zu h (k.has (fC 2 _))) k
theorem Ye.pre{c:Nat}(h:eT a b)(k:Ye a p c rest x):Ye b p c rest x:=⟨k.eN,k.row,k.agR.imp id λk=>⟨k.1,k.2.imp λq k=>⟨k.1,h.pos k.2⟩⟩⟩
theorem SN.pre(h:eT a b)(k:SN a p r):SN b p r:=k.imp λc k=>k.imp λrest k=>⟨k.1,k.2.tags,k.2.low,k.2.bool,λe=>(k.2.lit e).imp λx l=>l.pre h,k.2.fE,k.2.pl,k.2.Qt,k.2.nl⟩
theorem Wi.pre(h:eT a b)(k:Wi a p r):Wi b p r:=⟨h.get k.cR,k.cls.pre h,k.nb⟩
theorem Td(v:Bool):(base v).length=37:=rfl
theorem bW.len(g:bW tb):37<=tb.length:=g.first.elim λv⟨e,q⟩=>q▸gH▸bZ _ _
theorem Hl{P:Nat->V->Prop}(h1:∀p r,tb[p]?=some r->P p r)(h2:P tb.length r)(p:Nat)(q:V)(e:(tb++[r])[p]?=some q):P p q:=(AI p tb.length).elim (λhp=>h1 p q ((vM hp).symm.trans e)) λhp=>have BC:=(rO e).1
  have ep:=Fg hp (E9 (eB BC (cK gH)));have eq:r=q:=bV ((show(tb++[r])[tb.length]?=some r by rw [Az (aW _),CO];rfl).symm.trans (ep▸e))
  ep▸eq▸h2
theorem bW.f6(g:bW tb)(x:KG tb.length r):bW (f6 tb r):=rC (P:=bW) (λ_ _=>g) λe=>have pr:=⟨[r],rfl⟩
 ⟨Hl (λp q h=>(g.cls p q h).pre pr) (x.cls (eB (by decide) g.len)),Hl (λp q h=>Ei _ (g.Yh p q h)) (Hi e),g.first.imp λv h=>h.elim λex q=>⟨ex++[r],(au (·++[r]) q).trans (rQ ..)⟩⟩
theorem bW.aO(g:bW tb)(ps:List Nat):bW (aO tb ps):=mR g (g.f6 (.G7 ps))
theorem Kd.aO(h:∀p∈ps,G8 tb p):Kd (aO tb ps) ps:=⟨λp hp=>(h p hp).pre (bQ _ _),λl=>au Option.isSome ((au (Mine.F.pos (kM ps)) (uS l)).trans (oO tb (kM ps)))⟩
theorem Ho(h:nQ l=some t):t∈l:=by
 unfold nQ at h;obtain⟨h0,e⟩|⟨h0,h⟩:=Te h
 ·exact bV e▸h0
 obtain⟨h0,e⟩|⟨h0,h⟩:=Te h
 ·exact bV e▸h0
 exact(cF h).2▸(cF h).1
where Te {α:Type} {c:Prop} [Decidable c] {a b x:α} (h:(if c then a else b)=x):c/\a=x\/¬c/\b=x:=(c6 c).elim (λk=>.inl ⟨k,(az k).symm.trans h⟩) λk=>.inr ⟨k,(ay k).symm.trans h⟩
theorem dZ(h:p∈fF l):p∈l:=by
 cases e:nQ (eS l)with
 |some t=>exact dG (lJ e▸h)▸gz.mp (Ho e)
 |none=>exact gz.mp (jw.mp (List.mem_filter.mp (lI e▸h)).1)
theorem Kd.nil(tb:List V):Kd tb []:=⟨λ_=>bg,λx=>absurd x (by decide)⟩
theorem Kd.aR(h:G8 tb p):Kd tb [p]:=⟨λq hq=>(dG hq)▸h,λx=>absurd x (Nat.not_succ_le_self 1)⟩
end
abbrev ai:=List Nat
abbrev aT:=List (Nat×Nat×List ai)
abbrev bR:=List (ai×Nat×Nat)
structure Cx where
 v:Bool
 md:aT
 F:List V
noncomputable abbrev aK(mk:aT)(p:Nat):Option (Nat×List ai):=uP p mk
noncomputable def cI(v:Bool):List Nat:=if v then [22,23,24]else [22,24]
noncomputable def cB(v:Bool)(mk:aT)(n:Nat):ai->Bool:=n.rec (λ_=>false) λ_ f t=>t.any λp=>decide (p∈cI v)||(aK mk p).any λe=>e.2.any f
abbrev HT:Nat:=6
noncomputable def Cx.names(c:Cx)(t:ai):Bool:=cB c.v c.md HT t
abbrev Cf:=ai->ai->Nat->Nat->Nat->Nat->bR×Nat
noncomputable def bE(af:bR):Nat:=af.foldr (λx m=>min x.2.1 m) 1024
noncomputable def qi(kT:bR)(r:bR×Nat):bR×Nat:=(kT++r.1,r.2)
noncomputable def d7(t:ai)(p:Nat):Bool:=! decide (kN p∈t)&&! En (bf p) t
noncomputable def c5(s:ai)(q:Nat):Bool:=!(s.any λp=>decide (kN p=q))&&!(s.any λp=>decide (bf p=some q))
noncomputable def tu(t:ai):Option Nat:=t.casesOn (motive:=λ_=>Option Nat) none λp r=>r.casesOn (motive:=λ_=>Option Nat) (some p) λ_ _=>none
noncomputable def zv(b:Prop) [Decidable b](kind:ai)(l:List ai):List ai:=if b then l.filter (λk=>decide (k≠kind))else l
noncomputable def zw(rec:Cf)(aa aj ao:Nat)(aim:Nat)(x:bR×List ai×Nat)(kind:ai):bR×List ai×Nat:=(x.1++(rec kind [aim] aa aj ao x.2.2).1,zv (bE (rec kind [aim] aa aj ao x.2.2).1=aa) kind x.2.1,(rec kind [aim] aa aj ao x.2.2).2)
noncomputable def Hp(rec:Cf)(aa aj ao:Nat)(aD:List ai)(x:bR×List ai×Nat)(aim:Nat):bR×List ai×Nat:=aD.foldl (zw rec aa aj ao aim) x
noncomputable def tC(rest left:ai)(aa aj:Nat)(x:bR×List ai×Nat):bR×Nat:=(x.1++(if 33∈left then(if x.2.1≠[]then [(x.2.1.flatten,aa,aj)]else [(rest,aa|||1,aj)])else []),x.2.2)
noncomputable def uT(s rest:ai):List ai:=if s≠[]then rest.map (λp=>[p])else [[]]
noncomputable def Tf(rec:Cf)(s rest left:ai)(aa aj ao st:Nat):bR×Nat:=tC rest left aa aj ((left.filter (λq=>decide (q≠33))).foldl (Hp rec aa aj ao (uT s rest)) ([],uT s rest,st))
noncomputable def tD(rec:Cf)(s t:ai)(aa aj ao st:Nat):bR×Nat:=if s.filter (d7 t)=[]/\s≠[]then rec s (t.filter (c5 s)) (aa|||1) aj ao st
 else if(t.filter (c5 s)).length=1 then rec (s.filter (d7 t)) (t.filter (c5 s)) aa aj ao st
 else Tf rec s (s.filter (d7 t)) (t.filter (c5 s)) aa aj ao st
noncomputable def Pe(aa aj:Nat):Nat:=if aj=1 then aa|||8 else aa
noncomputable def MK(aD:List ai):List ai:=if aD.getD 2 []=aD.getD 0 []then [aD.getD 3 []]else [aD.getD 2 [],aD.getD 3 []]
noncomputable def jr(rec:Cf)(s:ai)(aD:List ai)(aa aj ao st:Nat):bR×Nat:=(MK aD).foldl (λx t=>if t=[33]then(x.1++[(s,Pe aa aj|||1,aj)],x.2)else x)
  ((MK aD).foldl (λx t=>if t≠[33]then qi x.1 (rec s t (Pe aa aj) aj ao x.2)else x) (if aD.getD 2 []=aD.getD 0 []then rec s (aD.getD 2 []) (Pe aa aj) aj ao st else([],st)))
abbrev ML:List (Nat×Nm):=[(16,nA),(17,nA),(18,nB),(19,nB),(20,[]),(21,[])]
noncomputable def iR(p:Nat):Nm:=(uP p ML).getD []
noncomputable def jd(p:Nat):Bool:=!(!(bf p).isSome&&! decide (p∈[5,4]))
noncomputable def Yt(s:ai):List Nm:=[nA,nB].filter λn=>s.any λp=>decide (iR p=n)
noncomputable def tE(s:ai):Option V:=if s=[6]then some (iC [] true)else if s=[]\/s.all jd=false then none else some (iC (Yt s) false)
noncomputable def fQ(F:List V)(s:ai):Option Nat:=(tE s).map (putN F)
noncomputable def xC(rec:Cf)(Th:Nat)(aa aj ao:Nat)(l:List (ai×ai))(x:bR×Nat):bR×Nat:=l.foldl (λx a=>qi x.1 (rec a.1 a.2 aa (if Th=14 then 1-aj else aj) (ao+1) x.2)) x
noncomputable def kF(md:aT)(o:Option Nat):Nat×List ai:=(o.bind (aK md)).getD (0,[])
noncomputable def zx(c:Cx)(rec:Cf)(s:ai)(e m:Nat×List ai)(aa aj ao st:Nat):bR×Nat:=if e.1=16/\m.1≠16 then jr rec s e.2 aa aj ao st
 else if e.1=14/\m.1≠14 then(fQ c.F s).elim ([],st) λo=>rec [o] (e.2.getD 0 []) (aa|||32) (1-aj) (ao+1) st
 else if m.1=e.1 then xC rec e.1 aa aj ao (m.2.zip e.2) ([],st)else([],st)
noncomputable def Cg(c:Cx)(rec:Cf)(s t:ai)(aa aj ao st:Nat):bR×Nat:=(tu t).elim (tD rec s t aa aj ao st) λp=>zx c rec s (kF c.md (some p)) (kF c.md (tu s)) aa aj ao st
noncomputable def qu(l:List Nat)(k:ai):Bool:=(tu k).any λp=>decide (p∈l)
noncomputable def tF(c:Cx)(n:Nat)(rec:Cf)(s t:ai)(aa aj ao st:Nat):bR×Nat:=if c.names t=false then([],st)
 else if t=[33]then([(s,aa,aj)],st)
 else if 12<ao\/n=0\/20000<st+1\/qu (cI c.v) t=true then([],st+1)
 else if s=[13]then([(s,aa,aj)],st+1)
 else Cg c rec s t aa aj ao (st+1)
noncomputable def eG(c:Cx)(n:Nat):Cf:=n.rec (tF c 0 λ_ _ _ _ _ st=>([],st)) λn r=>tF c (n+1) r
abbrev Wj:Nm:=[97,116]
noncomputable abbrev KN:Nm:=CP
noncomputable def dN{α:Type}(f:α->V)(l:List (Nat×α)):List (V×V):=l.map λx=>(vN x.1,f x.2)
theorem uU{α:Type}(f:α->V)(p:Nat)(l:List (Nat×α)):bJ (vN p) (dN f l)=(uP p l).map f:=l.rec rfl λx r ih=>by
 show(if vN x.1=vN p then some (f x.2)else bJ (vN p) (dN f r))=(if x.1=p then some x.2 else uP p r).map f;by_cases h:x.1=p
 ·rw [az h,az (au vN h)];rfl
 ·rw [ay h,ay λe=>h (eX e)];exact ih
noncomputable def aq(k:ai):V:=.aC (bI k)
noncomputable def fB(e:Nat×List ai):V:=.aC [vN e.1,.aC (e.2.map aq)]
noncomputable abbrev zy:List (V×V):=dN vN aau
noncomputable abbrev uV:List (V×V):=dN vN SI
noncomputable abbrev Hq:List (V×V):=dN V.str ML
noncomputable abbrev KP(mk:aT):List (V×V):=dN fB mk
abbrev Hr:List Nat:=[16,17,18,19,20,21,5,4,6,7,26,25,27,28,29,31]
abbrev Ci:List ai:=[[33],[34],[35],[32],[24],[],[25],[36]]
noncomputable def wD(v:Bool)(nums:List Int)(cR aG:Nat):List (V×V):=[
 (.str NT,.lst (nums.map V.int)),(.str Wj,vN cR),(.str kQ,jv),(.str I9,.lst (bI [16,17,18,19,20,21])),(.str Fo,.ref 10),(.str CS,.ref 11),(.str NU,.ref 12),(.str ud,.ref 13),(.str KN,vN aG),(.str ue,.lst ([[22],[23],[24],[25]].map aq)),(.str vU,.lst (bI Hr)),(.str Je,aq [gW v]),(.str AJ,.lst (bI (cI v))),(.str xQ,aq [33]),(.str QU,.lst (Ci.map aq))]
structure Wd(v:Bool)(nums:List Int)(cR aG:Nat)(mk:aT)(s:St):Prop where
 w:At s 1 (.dict (wD v nums cR aG))
 zz:At s 10 (.dict zy)
 eN:At s 11 (.dict uV)
 Hs:At s 12 (.dict Hq)
 mT:At s 13 (.dict (KP mk))
section
variable{mk:aT}
theorem Wd.ext(h:Wd v nums a b mk s)(e:aY X s s')(x:¬X 1/\¬X 10/\¬X 11/\¬X 12/\¬X 13):Wd v nums a b mk s':=⟨e.at x.1 h.w,e.at x.2.1 h.zz,e.at x.2.2.1 h.eN,e.at x.2.2.2.1 h.Hs,e.at x.2.2.2.2 h.mT⟩
theorem Wd.new(h:Wd v nums a b mk s)(c:bw):Wd v nums a b mk (s++[c]):=h.ext ((aY.refl (X:=NX) s).new c) ⟨id,id,id,id,id⟩
end
theorem pM{α:Type}{f:α->V}(h:∀p,(f p).plain=true)(s:List α):V.cZ (s.map f)=true:=s.rec rfl λp _ ih=>dF (h p) ih
theorem iE(l:List Nat):V.cZ (bI l)=true:=pM (λ_=>rfl) l
theorem lM{α:Type}(f:α->V)(x:V)(l:List α):jg x (l.map f)=l.any λp=>decide (f p=x):=l.rec rfl λq _ ih=>au (decide (f q=x)||·) ih
theorem Yu(p:Nat)(l:List Nat):(l.any λq=>decide (q=p))=decide (p∈l):=Bool.eq_iff_iff.mpr ⟨λh=>dj ((List.any_eq_true.mp h).elim λx h=>bx h.2▸h.1),λh=>List.any_eq_true.mpr ⟨p,bx h,dj rfl⟩⟩
theorem tG(p:Nat)(l:List Nat):jg (vN p) (bI l)=decide (p∈l):=(lM ..).trans ((au l.any (funext λq=>decide_eq_decide.mpr ⟨eX,au vN⟩)).trans (Yu p l))
theorem jx{x:V}(h:x.plain=true)(k:V.cZ xs=true)(d:x.gF<=fU):(x.plain&&(V.cZ xs&&decide (x.gF<=fU)))=true:=dF h (dF k (dj d))
theorem zA(p:Nat)(l:List Nat):((vN p).plain&&(V.cZ (bI l)&&decide ((vN p).gF<=fU)))=true:=jx rfl (iE l) (fD _)
def Ht(v:V)(xs:List V):Prop:=v=.aC xs\/v=.lst xs
section
variable{Q:Bool->St->Prop}
theorem Hu(e:c=b)(k:Q b s):Q c s:=e▸k
theorem aaw(k:Q (decide (p∈l)) s):WP (aM T .eU (vN p) (.aC (bI l))) s Q:=qs (zA p l) (Hu (tG p l) k)
theorem KQ(k:Q (decide (p∈l)) s):WP (aM T .eU (vN p) (.lst (bI l))) s Q:=Sy (zA p l) (Hu (tG p l) k)
theorem Ti(k:Q (! decide (p∈l)) s):WP (aM T .dz (vN p) (.aC (bI l))) s Q:=.bind (aaw (.ret k))
theorem Ht.items(h:Ht v xs):gR v xs s:=h.elim (λh=>h▸rfl) λh=>h▸rfl
theorem tH(h:Ht v (bI l))(k1:p∈l->Q true s)(k2:p∉l->Q false s):WP (aM T .eU (vN p) v) s Q:=
 have k:=(c6 (p∈l)).elim (λh=>Hu (dj h) (k1 h)) λh=>Hu (dg h) (k2 h)
 h.elim (λh=>h▸aaw k) λh=>h▸KQ k
end
section
theorem rD(h:At s l (.dict es))(hk:gn i es=true)(e:(bJ i es).getD d=r)(k:Q r s):WP (gZ T C (.ref l) vW 2 [i,d]) s Q:=Sz h hk (sX e k)
theorem MM(o:Option Nat):(o.map vN).getD (.int (-1))=.int (oI o):=o.casesOn rfl λ_=>rfl
theorem Cj(p:Nat):bJ (vN p) zy=(dJ p).map vN:=uU ..
theorem zB(p:Nat):bJ (vN p) uV=(bf p).map vN:=uU ..
theorem pN(p:Nat)(mk:aT):bJ (vN p) (KP mk)=(aK mk p).map fB:=uU ..
theorem Pf(p:Nat):(bJ (vN p) zy).getD (.int (-1))=.int (aav p):=(au (λo:Option V=>o.getD (.int (-1))) (uU ..)).trans (MM _)
theorem zC(p:Nat):(bJ (vN p) uV).getD (.int (-1))=.int (Ek p):=(au (λo:Option V=>o.getD (.int (-1))) (uU ..)).trans (MM _)
theorem Pg(p:Nat):(bJ (vN p) Hq).getD (.str [])=.str (iR p):=(au (λo:Option V=>o.getD (.str [])) (uU V.str p ML)).trans (Option.casesOn (motive:=λo=>(o.map V.str).getD (.str [])=.str (o.getD [])) (uP p ML) rfl λ_=>rfl)
end
theorem zD(h:∀x,x∈a↔x∈b):nQ a=nQ b:=by
 unfold nQ;simp only [h]
section
variable{α:Type}
theorem Tj(g:α->V)(keep:α->Bool)(out:α->V)(hs:∀s',aY NX s0 s'->jb v xs s')(r:List α):
  (∀x∈r,∀s'(K:Unit->St->Prop),aY NX s0 s'->(keep x=true->∀s2,aY NX s' s2->oJ s0.length (out x) K s2)->(keep x=false->∀s2,aY NX s' s2->K () s2)->step (g x) K s')->∀ys s',ys.length+r.length<=cu->aY NX s0 s'->At s' s0.length (.list ys)->(∀s2,aY NX s0 s2->At s2 s0.length (.list (ys++(r.filter keep).map out))->Q () s2)->jN step v xs (r.map g) Q s':=r.rec (λ_ ys s' _ e a h=>⟨hs _ e,h s' e ((kX ys).symm▸a)⟩) λx r ih hk ys s' hl e a h=>⟨hs _ e,hk x cC s' _ e
  (λc s2 e2=>⟨ys,e2.at id a,MH hl,ih (λx hx=>hk x (cP _ hx)) _ _ (Eo hl) ((e.trans e2).set (.inr (aW _)) _) (e2.at id a).dS (by rw [rQ];rw [I2 c]at h;exact h)⟩)
  λc s2 e2=>ih (λx hx=>hk x (cP _ hx)) _ _ (fT hl) (e.trans e2) (e2.at id a) (by rw [CK (c▸eH)]at h;exact h)⟩
theorem Hv(g:α->V)(keep:α->Bool)(out:α->V)(hs:∀s',aY NX s0 s'->jb v xs s'){r:List α}(hl:r.length<=cu)
  (hk:∀x∈r,∀s'(K:Unit->St->Prop),aY NX s0 s'->(keep x=true->∀s2,aY NX s' s2->oJ s0.length (out x) K s2)->(keep x=false->∀s2,aY NX s' s2->K () s2)->step (g x) K s')
  (h:∀s2,aY NX s0 s2->Q (.lst ((r.filter keep).map out)) s2):jN step v xs (r.map g) (λ_=>pG s0.length Q) (s0++[.list []]):=Tj g keep out hs r hk [] _ (aH (cK (p8 _)) hl) ((aY.refl _).new _) bS λs2 e a=>⟨_,a,h _ (e.set (.inr (aW _)) _)⟩
end
theorem Hw(h:aq a=aq b):a=b:=(List.map_inj_right λ_ _=>eX).mp (V.aC.inj h)
theorem rE(a:ai):(aq a).plain=true:=iE a
theorem Yv(a:ai):min (aq a).gF n<=fU:=aH (AH ..) (aH (cK (MI a)) (by decide))
section
theorem Tn(k:Q (decide (a=b)) s):WP (aM T .eq (aq a) (aq b)) s Q:=G3 (dF (rE a) (dF (rE b) (dj (Yv a)))) (Hu (decide_eq_decide.mpr ⟨Hw,au aq⟩) k)
theorem ac1:min (V.lst xs).gF (V.lst []).gF<=fU:=aH (tZ ..) (by decide)
theorem aax(h:V.cZ xs=true)(k:Q (decide (xs=[])) s):WP (aM T .eq (.lst xs) (.lst [])) s Q:=G3 (dF h (dF rfl (dj ac1))) (Hu (decide_eq_decide.mpr ⟨V.lst.inj,au V.lst⟩) k)
theorem To(k:Q (decide (a=[])) s):WP (aM T .eq (.lst (bI a)) (.lst [])) s Q:=aax (iE a) (Hu (decide_eq_decide.mpr List.map_eq_nil_iff) k)
theorem ac2(k:Q (! decide (a=[])) s):WP (aM T .ne (.lst (bI a)) (.lst [])) s Q:=.bind (To (.ret k))
end
section
variable(h:Wd v nums a b mk s)
include h
theorem zE(hd:1<=d)(hx:Ht x (bI l))(small:(eS l).length<64)(k:∀s',aY NX s s'->Q (aq (fF l)) s'):WP (aS TT FT d 957 [.ref 1,x]) s Q:=by
 have kt:∀{t},(if 0∈l then some 0 else if 13∈l then some 13 else if 1∈l then some 1 else none)=some t->Q (aq [t]) s:=λe=>lJ ((zD λ_=>gz).trans e)▸k s (aY.refl s);refine aA hd rfl rfl (.ret ⟨bu,tH hx (λh=>kt (az h)) λh0=>⟨bu,tH hx (λh=>kt ((ay h0).trans (az h))) λh1=>⟨bu,tH hx (λh=>kt ((ay h0).trans ((ay h1).trans (az h)))) λh2=>⟨bu,fW (hx.items.wp ?_)⟩⟩⟩⟩);have tn:=(zD λ_=>gz).trans ((ay h0).trans ((ay h1).trans (ay h2)));refine bD vN (λa:L2=>[some (.ref 1),some x,some (vN 1),some (.ref s.length),a.y,none]) (λa=>s++[.dict (jY a.ks)]) (λr a=>r.foldl fO a.ks=eS l) (λa=>hx.items.dO) ?_ ?_ l ⟨[],none,none⟩ rfl
 ·exactλp r a K hf kn _=>Hj (fX (di (hf▸uQ (p::r) _) small)) (kn ⟨fO a.ks p,none,some (vN p)⟩ hf)
 ·intro a hf
  have hf:a.ks=eS l:=hf;have sl:(lG a.ks).length<64:=uR _ a.ks▸hf▸small;refine zo bS (hf▸small) (.ret (lH vN (fP a.ks) vN ?_ (fT (fX sl)) (λp m ys K k1 k2=>?_) ?_))
  ·exactλ_=>bu
  ·have h2:=(h.new (.dict (jY a.ks))).new (.list ys)
   have hg:At (s++[.dict (jY a.ks)]++[.list ys]) s.length (.dict (jY a.ks)):=bS.new;have m1:∀{b c},En (bf p) a.ks=b->En (dJ p) a.ks=c->fP a.ks p=(! c&&! b):=λe f=>by unfold fP;rw [e,f]
   refine aZ h2.w rfl rfl (iZ h2.eN (.inl rfl) (rD h2.eN rfl (zC p) (oK hg (jq _ _) ?_)));rw [jO,Hg];cases e:En (bf p) a.ks with
   |true=>exact k2 ((m1 e rfl).trans (Bool.and_false _))
   |false=>
    refine aZ h2.w rfl rfl (iZ h2.zz (.inl rfl) (rD h2.zz rfl (Pf p) (oK hg (jq _ _) ?_)));rw [jO,Hg];cases e2:En (dJ p) a.ks with
    |true=>exact k2 (m1 e e2)
    |false=>exact k1 (m1 e e2)
  ·exact .of rfl (sX (Q:=Q) (au aq ((au (λks=>(lG ks).filter (fP ks)) hf).trans (lI tn).symm)) (k _ (((aY.refl s).new _).new _)))
theorem Yw(hd:2<=d)(hl:l.length<=cu)(small:(eS (l.map qh)).length<64)(k:∀s',aY NX s s'->Q (aq (fF (l.map qh))) s'):WP (aS TT FT d 962 [.ref 1,aq l]) s Q:=by
 refine aA (l8 hd) rfl rfl (.ret (jc vN (λp=>vN (qh p)) ?_ hl (λp m ys K k1=>?_) ?_))
 ·exactλ_=>bu
 ·have h2:=h.new (.list ys)
  refine aZ h2.w rfl rfl (nj h2.zz rfl ?_);rw [Cj];unfold qh at k1;cases t:dJ p with
  |none=>rw [t]at k1;exact k1
  |some q=>
   obtain⟨w,hw,_⟩:=rq t;rw [t,hw]at k1;exact aZ h2.w rfl rfl (aZ h2.eN rfl ((zB p).trans (au (Option.map vN) hw)) k1)
 ·exact zE (h.new _) (lZ hd) (.inr (au V.lst (oN qh l))) small λs' e=>k s' (((aY.refl s).new _).trans e)
end
noncomputable def cW(x:ai×Nat×Nat):V:=.aC [aq x.1,vN x.2.1,vN x.2.2]
theorem KS(as:List Nat):∀m:Nat,AK (m:Int) (as.map Int.ofNat++[1024])=((min m (as.foldr min 1024):Nat):Int):=as.rec (λm=>min1 1024 m) λa as ih m=>(au (λz=>AK z (as.map Int.ofNat++[1024])) (min1 a m)).trans ((ih (min m a)).trans (au (λn:Nat=>(n:Int)) (Nat.min_assoc ..)))
where min1 (a m:Nat):(if(a:Int)<(m:Int)then(a:Int)else m)=((min m a:Nat):Int):=(AI a m).elim (λh=>(az (Int.ofNat_lt.mpr h)).trans (au _ (AF (fT h)).symm)) λh=>(ay (Int.not_lt.mpr (Int.ofNat_le.mpr h))).trans (au _ (nW h).symm)
theorem Hx(hd:1<=d)(hl:af.length+1<cu)(k:∀s',aY NX s s'->Q (vN (bE af)) s'):WP (aS TT FT d 1015 [.lst (af.map cW)]) s Q:=by
 refine aA hd rfl rfl (.ret (jc cW (λx=>vN x.2.1) ?_ (l8 (fT hl)) (λx m ys K k1=>aI rfl k1) ?_))
 ·exactλ_=>bu
 ·have el:=cT (λx:ai×Nat×Nat=>vN x.2.1)▸hl
  refine zq el ?_;refine jo (T:=TT) ?_ (k _ ((aY.refl s).new _));have e1:af.map (λx=>vN x.2.1)++[.int 1024]=((af.map λx:ai×Nat×Nat=>Int.ofNat x.2.1)++[1024]).map V.int:=by rw [mh,nK];rfl
  refine(au (λxs=>ZU 2 (.lst xs)) e1).trans ((au (λo:Option (List Int)=>o.bind λl=>l.head?.map λm=>V.int (AK m l.tail)) (zm _)).trans ?_);cases af with
  |nil=>rfl
  |cons x r=>
   refine au (λz=>some (V.int z)) ?_;have e2:(r.map λx=>Int.ofNat x.2.1)=(r.map λx=>x.2.1).map Int.ofNat:=(nK ..).symm;exact(au (λl=>AK (x.2.1:Nat) (l++[1024])) e2).trans ((KS _ _).trans (au (λn:Nat=>((min x.2.1 n:Nat):Int)) List.foldr_map))
noncomputable def MN(mk:aT)(n:Nat):ai->Prop:=n.rec (λ_=>False) λ_ f t=>∀p∈t,∀e,aK mk p=some e->∀k∈e.2,f k
theorem oQ(p:Nat)(mk:aT):gn (vN p) (KP mk)=true:=List.casesOn mk rfl λ_ _=>rfl
structure X2 where
 x:Option V
 y:Option V
theorem Tp(h:Wd v nums a b mk s)(n:Nat):∀(d:Nat)(t:ai)(Q:V->St->Prop),n<=d->MN mk n t->Q (.bool (cB v mk n t)) s->WP (aS TT FT d 1010 [.ref 1,aq t]) s Q:=by
 induction n with
 |zero=>exactλ_ _ _ _ ht _=>ht.elim
 |succ n ih=>
  intro d t Q hd ht k;refine aA (aH (fC 1 n) hd) rfl rfl (.ret ?_);refine bD vN (λa:X2=>[some (.ref 1),some (aq t),a.x,a.y]) (λ_=>s) (λr _=>(∀p∈r,p∈t)/\Q (.bool (r.any λp=>decide (p∈cI v)||(aK mk p).any λe:Nat×List ai=>e.2.any (cB v mk n))) s) ?_ ?_ ?_ t ⟨none,none⟩ ⟨λ_=>id,k⟩
  ·exactλ_=>bu
  ·intro p r a K ⟨hr,hq⟩ kn kr
   have hr':=λq m=>hr q (cP _ m);rw [List.any_cons]at hq;refine aZ h.w rfl rfl (KQ ?_);by_cases hw:p∈cI v
   ·rw [dj hw]at hq⊢
    exact kr _ _ hq
   ·rw [dg hw,Bool.false_or]at hq
    rw [dg hw];refine aZ h.w rfl rfl (nj h.mT (oQ _ _) ?_);rw [pN];cases e:aK mk p with
    |none=>
     rw [e]at hq;exact kn ⟨some (vN p),a.y⟩ ⟨hr',hq⟩
    |some e'=>
     rw [e]at hq;refine aZ h.w rfl rfl (aZ h.mT (oQ _ _) ((pN p mk).trans (au (Option.map fB) e)) (aI rfl (.ret ?_)));have hk:=ht p (hr p cC) e' e;refine bD aq (λa:X2=>[some (.ref 1),some (aq t),a.x,a.y]) (λ_=>s) (λr2 _=>(∀p∈r2,p∈e'.2)/\Q (.bool ((r2.any (cB v mk n))||r.any λp=>decide (p∈cI v)||(aK mk p).any λe:Nat×List ai=>e.2.any (cB v mk n))) s) ?_ ?_ ?_ e'.2 ⟨some (vN p),a.y⟩ ⟨λ_=>id,hq⟩
     ·exactλ_=>bu
     ·intro u r2 b K2 ⟨My,hq2⟩ IZ kr2
      refine ih (d-1) u _ (lZ hd) (hk u (My u cC)) (aL ?_);rw [List.any_cons]at hq2;cases hn:cB v mk n u with
      |true=>rw [hn]at hq2;exact kr2 _ _ (kr _ _ hq2)
      |false=>rw [hn]at hq2;exact IZ ⟨b.x,some (aq u)⟩ ⟨λq m=>My q (cP _ m),hq2⟩
     ·exactλb hq2=>kn b ⟨hr',hq2.2⟩
  ·exactλa hq=>hq.2
theorem MO(ns:List Nm)(e:Bool):O4 (iC ns e):=by
 have h1:V.mj (ns.map g7)=true:=ns.rec rfl λ_ _ ih=>ih;have h2:(V.aC (ns.map g7)).gF<=2:=ns.rec (by decide) λn ns ih=>nG (Nat.max_le.mpr ⟨aW _,QG ih⟩)
 have h3:V.mj (if e then [V.int 11,V.int 0]else [])=true:=by cases e<;>rfl
 have h4:(V.aC (if e then [V.int 11,V.int 0]else [])).gF<=2:=by cases e<;>decide
 refine⟨show(true&&(V.mj (ns.map g7)&&(true&&(true&&(V.mj (if e then [V.int 11,V.int 0]else [])&&_)))))=true from dF rfl (dF h1 (dF rfl (dF rfl (dF h3 rfl)))),rfl,?_⟩;have m:∀{a b:Nat},a<=2->b<=2->max a b<=2:=λh k=>Nat.max_le.mpr ⟨h,k⟩;exact nG (aH (m (by decide) (m h2 (m (by decide) (m (by decide) (m h4 (by decide)))))) (by decide))
abbrev HX:Nat->Prop:=λl=>l=1\/l=3\/l=4
section
variable{v:Bool}{nums:List Int}{a b:Nat}{mk:aT}{s s':St}{tb:List V}
theorem Wd.tx(h:Wd v nums a b mk s)(e:aY TX s s'):Wd v nums a b mk s':=h.ext e ⟨by decide,by decide,by decide,by decide,by decide⟩
theorem Wd.nx(h:Wd v nums a b mk s)(e:aY NX s s'):Wd v nums a b mk s':=h.ext e ⟨id,id,id,id,id⟩
theorem f9.nx(h:f9 s tb)(e:aY NX s s'):f9 s' tb:=h.ext e ⟨id,id,id⟩
theorem aY.tx(e:aY NX s s'):aY TX s s':=e.uN λ_ x=>x.elim
theorem aY.hx(e:aY TX s s'):aY HX s s':=e.uN λ_ x=>.inr x
end
noncomputable def cM(tb:List V)(s:ai):List V:=(tE s).elim tb (f6 tb)
theorem nt(b:Bool):¬b=true↔(! b)=true:=by cases b<;>decide
theorem vJ(s:ai):(s.filter λp=>!(bf p).isSome&&! decide (p∈[5,4]))=[]↔s.all jd=true:=List.filter_eq_nil_iff.trans ⟨λh=>List.all_eq_true.mpr λx m=>(nt _).mp (h x m),λh x m=>(nt _).mpr (pW h x m)⟩
section
variable{d:Nat}{s:St}{v:Bool}{nums:List Int}{a b:Nat}{mk:aT}{tb:List V}{Q:V->St->Prop}(h:Wd v nums a b mk s)(ht:f9 s tb)(hl:tb.length<cu)
include h ht hl
theorem Hy{ns:List Nm}(hd:2<=d)(hx:Ht x (ns.map V.str))(hn:ns.length<=cu)
  (k:∀s',aY TX s s'->f9 s' (f6 tb (iC ns e))->Q (vN (putN tb (iC ns e))) s'):WP (aS TT FT d 972 [.ref 1,x,.bool e]) s Q:=by
 have d1:=lZ hd;refine aA (l8 hd) rfl rfl (hx.items.wp (jc V.str g7 ?_ hn (λn _ ys K k1=>k1) (.of rfl (aZ (h.new .bH).w rfl rfl (bT (ht.new .bH).ns rfl rfl (aL ?_))))))
 ·exactλ_=>hx.items.dO
 ·have gV:=zb d1 (ht.new .bH) (MO ns e) hl λs' e' t'=>k s' ((((aY.refl s).new _).tx).trans e') t'
  cases e with
  |true=>exact gV
  |false=>exact gV
theorem Tq(hd:3<=d)(hs:ps.length<64)(k:∀s',aY TX s s'->f9 s' (cM tb ps)->Q (.int (oI (fQ (cM tb ps) ps))) s'):WP (aS TT FT d 1027 [.ref 1,aq ps]) s Q:=by
 have d2:=lZ hd;have kn:∀s',tE ps=none->aY NX s s'->Q (.int (-1)) s':=λs' e x=>by
  unfold cM fQ at k;rw [e]at k;exact k s' x.tx (ht.nx x)
 have ks:∀r s',tE ps=some r->aY TX s s'->f9 s' (f6 tb r)->Q (vN (putN tb r)) s':=λr s' e x t=>by
  unfold cM fQ at k;rw [e]at k;exact pL tb r▸k s' x t
 unfold tE at kn ks;refine aA (aH (by decide) hd) rfl rfl (Tn (b:=[6]) ?_)
 by_cases h6:ps=[6]
 ·rw [dj h6]
  exact Hy h ht hl d2 (.inl rfl) (fD _) λs'=>ks _ s' (az h6)
 rw [dg h6];refine Tn (b:=[]) ?_;by_cases h0:ps=[]
 ·rw [dj h0]
  exact kn s ((ay h6).trans (az (.inl h0))) (aY.refl s)
 rw [dg h0];refine .ret (lH vN (λp=>!(bf p).isSome&&! decide (p∈[5,4])) vN ?_ (fT (fX hs)) (λp m ys K k1 k2=>?_) ?_)
 ·exactλ_=>bu
 ·have h2:=h.new (.list ys)
  refine aZ h2.w rfl rfl (oK h2.eN rfl ?_);rw [zB,Option.isSome_map];cases e:(bf p).isSome with
  |true=>rw [e]at k2;exact k2 rfl
  |false=>
   rw [e]at k1 k2;refine Ti (l:=[5,4]) ?_;cases e2:decide (p∈[5,4])with
   |true=>rw [e2]at k2;exact k2 rfl
   |false=>rw [e2]at k1;exact k1 rfl
 ·have e1:aY NX s (s++[.bH]):=(aY.refl s).new _
  refine ac2 ?_;cases hu:ps.all jd with
  |false=>
   rw [dg λx=>eH (hu.symm.trans ((vJ ps).mp x))];exact kn _ ((ay h6).trans (az (.inr hu))) e1
  |true=>
   rw [dj ((vJ ps).mpr hu)];have h1:=h.new .bH;refine .ret (Hv V.str (λn=>ps.any λp=>decide (iR p=n)) V.str ?_ (r:=[nA,nB]) (by decide) (λn hn s' K e2 k1 k2=>.ret (jc vN (λp=>.str (iR p)) ?_ (fT (fX hs)) (λp _ zs K2 k3=>?_) ?_)) λs2 e2=>?_)
   ·exactλ_ _=>bu
   ·exactλ_=>bu
   ·have h3:=(h1.nx e2).new (.list zs)
    exact aZ h3.w rfl rfl (iZ h3.Hs (.inl rfl) (rD h3.Hs rfl (Pg p) k3))
   ·refine Sy (jx rfl (pM (λ_=>rfl) ps) (fD _)) ?_
    rw [lM,funext λp=>decide_eq_decide.mpr ⟨V.str.inj,au V.str⟩];cases hb:ps.any λp=>decide (iR p=n)with
    |true=>exact k1 hb _ ((aY.refl _).new _)
    |false=>exact k2 hb _ ((aY.refl _).new _)
   ·have e3:=e1.trans e2
    exact Hy (h.nx e3) (ht.nx e3) hl d2 (.inr rfl) (aH (tY ..) (by decide)) λs' e'=>ks _ s' ((ay h6).trans (ay λx=>x.elim h0 λy=>eH (y.symm.trans hu))) (e3.tx.trans e')
end
section
theorem qv(k1:b<a->Q true s)(k2:a<=b->Q false s):WP (aM T .gt (vN a) (vN b)) s Q:=(AI b a).elim (λh=>SR (dj (Int.ofNat_lt.mpr h)) (k1 h)) λh=>SR (dg (Int.not_lt.mpr (Int.ofNat_le.mpr h))) (k2 h)
theorem MP(k1:b<=a->Q true s)(k2:a<b->Q false s):WP (aM T .ge (vN a) (vN b)) s Q:=(AI a b).elim (λh=>zg (dg (Int.not_le.mpr (Int.ofNat_lt.mpr h))) (k2 h)) λh=>zg (dj (Int.ofNat_le.mpr h)) (k1 h)
theorem bG(k1:a=b->Q true s)(k2:a≠b->Q false s):WP (aM T .eq (vN a) (vN b)) s Q:=sV (λe=>k1 (nJ e)) λn=>k2 λe=>n (au Int.ofNat e)
theorem MQ(k1:a=b->Q false s)(k2:a≠b->Q true s):WP (aM T .ne (vN a) (vN b)) s Q:=.bind (bG (λh=>.ret (k1 h)) λh=>.ret (k2 h))
theorem Hz{a b:ai}(k1:a=b->Q true s)(k2:a≠b->Q false s):WP (aM T .eq (aq a) (aq b)) s Q:=Tn ((c6 (a=b)).elim (λh=>Hu (dj h) (k1 h)) λh=>Hu (dg h) (k2 h))
theorem HA{a b:ai}(k1:a=b->Q false s)(k2:a≠b->Q true s):WP (aM T .ne (aq a) (aq b)) s Q:=.bind (Hz (λh=>.ret (k1 h)) λh=>.ret (k2 h))
end
section
variable{a b c:Nat}
theorem ac4(h:a<2^20):(a:Int)<2^20:=by omega
theorem zF(ha:a<2^20)(hb:b<2^20):CU (a:Int) (b:Int)=true:=dF (dj (AD a)) (dF (dj (ac4 ha)) (dF (dj (AD b)) (dj (ac4 hb))))
theorem Yx(ha:a<2^20)(hb:b<2^20):binI .or (a:Int) (b:Int)=some ((a|||b:Nat):Int):=by
 unfold binI;dsimp only;rw [az (zF ha hb)];rfl
theorem oR(op:xT)(x y:Int):abn op (.int x) (.int y)=(binI op x y).map V.int:=rfl
theorem Bs(ha:a<2^20)(hb:b<2^20)(k:Q (vN (a|||b)) s):WP (d9 .or (vN a) (vN b)) s Q:=.nV ((oR ..).trans (au (Option.map V.int) (Yx ha hb))) k
theorem fm(h:a+b=c)(k:Q (vN c) s):WP (d9 .add (vN a) (vN b)) s Q:=.nV (au (λn:Nat=>some (vN n)) h) k
theorem zG(h:c+b=a)(k:Q (vN c) s):WP (d9 .aE (vN a) (vN b)) s Q:=.nV (au (λn:Int=>some (V.int n)) (h▸Int.add_sub_cancel c b)) k
end
abbrev wL:List Nat:=[0,1,13,4,5,6,7,16,17,18,19,20,21,25,26,27,28,29,30,31]
noncomputable def THL:List V:=[iC [] true,iC [] false,iC [nA] false,iC [nB] false,iC [nA,nB] false]
def KU(tb:List V)(mk:aT)(p:Nat):Prop:=p∈wL\/∃r,r∈THL/\tb[p]?=some r/\aK mk p=none
structure jQ(tb:List V)(mk:aT)(k:ai):Prop where
 len:k.length<=3
 cD:∀p∈k,KU tb mk p
def MkR(tb:List V)(mk:aT):Prop:=∀p e,aK mk p=some e->∃k rest,tb[p]?=some (.aC (vN k::rest))/\k≠8
section
variable{mk:aT}(h:eT a b)
include h
theorem KU.pre(k:KU a mk p):KU b mk p:=k.imp id λk=>k.imp λr k=>⟨k.1,h.get k.2.1,k.2.2⟩
theorem jQ.pre(x:jQ a mk k):jQ b mk k:=⟨x.1,λp hp=>(x.2 p hp).pre h⟩
theorem MkR.pre(k:MkR a mk):MkR b mk:=λp e he=>(k p e he).imp λ_ k=>k.imp λ_ k=>⟨h.get k.1,k.2⟩
end
abbrev gA:List (Nat×Nat):=[(14,1),(15,2),(16,4)]
structure Ph(mk:aT):Prop where
 ok:∀p e,aK mk p=some e->(e.1,e.2.length)∈gA/\∀k∈e.2,k.length<=2/\MN mk 5 k
 cD:∀p e,aK mk p=some e->p∈wL->∀k∈e.2,∀q∈k,q∈wL
theorem MN.up(n:Nat):∀t:ai,MN mk n t->MN mk (n+1) t:=n.rec (λ_ h=>h.elim) λ_ ih _ h p hp e he k hk=>ih k (h p hp e he k hk)
structure Qw(mk:aT)(t:ai):Prop where
 len:t.length<=4
 ht:MN mk HT t
theorem Qw.aE{mk:aT}(h:Qw mk t)(hs:u.Sublist t):Qw mk u:=⟨aH hs.length_le h.len,λp hp=>h.ht p (hs.subset hp)⟩
abbrev C2(st:Nat):Nat:=min st 20000
structure W0 where
 v:Bool
 nums:List Int
 cR:Nat
 md:aT
 C:Nat
structure Sx where
 st:Nat
 tb:List V
 σ:St
structure KW(c:W0)(S:Sx):Prop where
 wd:Wd c.v c.nums c.cR S.st c.md S.σ
 eY:f9 S.σ S.tb
 bd:S.tb.length<=c.C+C2 S.st
 mkr:MkR S.tb c.md
structure Arg(c:W0)(tb:List V)(s t:ai)(aa aj:Nat):Prop where
 cD:jQ tb c.md s
 tgt:Qw c.md t
 aa:aa<64
 aj:aj<=1
structure HP(c:W0)(a:Nat)(f:List V->bR×Nat)(S:Sx)(af:bR)(S':Sx):Prop where
 ext:aY HX S.σ S'.σ
 ok:KW c S'
 pre:eT S.tb S'.tb
 Ep:bW S.tb->bW S'.tb
 le:C2 S.st<=C2 S'.st
 len:af.length+14*C2 S.st<=14*C2 S'.st+a
 cD:∀x∈af,jQ S'.tb c.md x.1
 val:∀F,eT S'.tb F->f F=(af,S'.st)
noncomputable abbrev i6(c:W0)(n:Nat)(F:List V):Cf:=eG ⟨c.v,c.md,F⟩ n
noncomputable abbrev Yy(s t:ai)(aa aj ao n:Nat):List V:=[.ref 1,aq s,aq t,vN aa,vN aj,vN ao,vN (40-n)]
def tK(c:W0)(n:Nat):Prop:=∀(d:Nat)(s t:ai)(aa aj ao:Nat)(S:Sx)(Q:V->St->Prop),2*n+10<=d->KW c S->Arg c S.tb s t aa aj->(∀af S',HP c 1 (λF=>i6 c n F s t aa aj ao S.st) S af S'->Q (.lst (af.map cW)) S'.σ)->WP (aS TT FT d 1022 (Yy s t aa aj ao n)) S.σ Q
theorem xD(ha:a<64)(hb:b<64):a|||b<64:=Nat.or_lt_two_pow (n:=6) ha hb
theorem gS(h:a<64):a<2^20:=xK h (by decide)
theorem Yz(h:l+14*C2 st<=14*C2 st'+a)(ha:a<=100):l+100<cu:=di (dQ (aH (bZ l _) (aH h (pZ (kW 14 (tZ _ _)) ha))) 100) (by decide)
theorem HC{x y a b p q r:Nat}(h:x+p<=q+a)(k:y+q<=r+b):x+y+p<=r+(a+b):=by omega
theorem rF{a b:bR}(h:a.length+b.length<cu)(k:Q (.lst ((a++b).map cW)) s):WP (d9 .add (.lst (a.map cW)) (.lst (b.map cW))) s Q:=zq ((congr (au HAdd.hAdd (cT cW)) (cT cW)).symm▸h) (sX (au V.lst List.map_append.symm) k)
section
variable{S S1 S2:Sx}
theorem KW.nx(h:KW c S)(e:aY NX S.σ σ):KW c ⟨S.st,S.tb,σ⟩:=⟨h.wd.nx e,h.eY.nx e,h.bd,h.mkr⟩
theorem HP.refl(h:KW c S):HP c 0 (λ_=>([],S.st)) S [] S:=⟨.refl _,h,.refl _,id,aW _,cK (p8 _),λ_=>bg,λ_ _=>rfl⟩
theorem HP.and(h:HP c a f S t1 S1)(k:HP c a2 g S1 t2 S2){f':List V->bR×Nat}(v:∀F,eT S2.tb F->f F=(t1,S1.st)->g F=(t2,S2.st)->f' F=(t1++t2,S2.st)):HP c (a+a2) f' S (t1++t2) S2:=⟨h.ext.trans k.ext,k.ok,h.pre.trans k.pre,λg=>k.Ep (h.Ep g),aH h.le k.le,gH▸HC h.len k.len,λx m=>(tW m).elim (λy=>(h.cD x y).pre k.pre) (k.cD x),λF p=>v F p (h.val F (k.pre.trans p)) (k.val F p)⟩
theorem HP.conv(h:HP c a f S t1 S1)(ha:a<=a2)(v:∀F,eT S1.tb F->f F=(t1,S1.st)->g F=(t1,S1.st)):HP c a2 g S t1 S1:=⟨h.ext,h.ok,h.pre,h.Ep,h.le,aH h.len (cG ha _),h.cD,λF p=>v F p (h.val F p)⟩
theorem HP.post(h:HP c a f S t1 S1)(e:aY NX S1.σ σ):HP c a f S t1 ⟨S1.st,S1.tb,σ⟩:=⟨h.ext.trans e.tx.hx,h.ok.nx e,h.pre,h.Ep,h.le,h.len,h.cD,h.val⟩
theorem HP.nx(e:aY NX σ S.σ)(h:HP c a f S t1 S1):HP c a f ⟨S.st,S.tb,σ⟩ t1 S1:=⟨e.tx.hx.trans h.ext,h.ok,h.pre,h.Ep,h.le,h.len,h.cD,h.val⟩
theorem HP.qi(h:HP c a f S t1 S1)(hx:jQ S1.tb c.md x.1)(v:∀F,eT S1.tb F->f F=(t1,S1.st)->f' F=(t1++[x],S1.st)):HP c (a+1) f' S (t1++[x]) S1:=⟨h.ext,h.ok,h.pre,h.Ep,h.le,gH▸HC h.len (cK (vP 1 _)),λy m=>(tW m).elim (h.cD y) λm=>dG m▸hx,λF p=>v F p (h.val F p)⟩
theorem HP.lt(h:HP c a f S t1 S1)(ha:a<=100):t1.length+100<cu:=Yz h.len ha
end
structure LH where
 af:bR
 S:Sx
 n:Nat
 ov:List ai
 x:Option V
 y:Option V
structure lN{α ρ:Type}(c:W0)(S:Sx)(w k:Nat)(pk:LH->ρ)(step:List V->ρ->α->ρ)(T:List V->ρ->Prop)(r:List α)(a:LH):Prop where
 hp:HP c a.n (λ_=>(a.af,a.S.st)) S a.af a.S
 wM:a.n+w*r.length<=k
 val:∀F,eT a.S.tb F->T F (r.foldl (step F) (pk a))
section
variable{α ρ:Type}{c:W0}{S:Sx}{w k:Nat}{pk:LH->ρ}{step:List V->ρ->α->ρ}{T:List V->ρ->Prop}{r:List α}{a:LH}{x:α}
theorem oU(h:n+w*(l+1)<=k)(hm:m<=w):n+m+w*l<=k:=aH (cK (nH ..)) (aH (cG (vP (w*l) m▸cG hm (w*l)) n) h)
theorem lN.gW(i:lN c S w k pk step T (x::r) a)(a':LH)(hp:HP c a'.n (λ_=>(a'.af,a'.S.st)) S a'.af a'.S)(hn:a'.n<=a.n+w)(v:∀F,eT a'.S.tb F->T F (r.foldl (step F) (pk a'))):lN c S w k pk step T r a':=⟨hp,aH (dQ hn _) (oU i.wM (aW w)),v⟩
theorem lN.next(i:lN c S w k pk step T (x::r) a)(a':LH)(BC:HP c m f a.S bY a'.S)(v:∀F,eT a'.S.tb F->f F=(bY,a'.S.st)->step F (pk a) x=pk a')(hm:m<=w)(hn:a'.n=a.n+m)(ht:a'.af=a.af++bY):lN c S w k pk step T r a':=⟨hn▸ht▸i.hp.and BC λ_ _ _ _=>rfl,hn▸oU i.wM hm,λF p=>v F p (BC.val F p)▸i.val F (BC.pre.trans p)⟩
theorem lN.skip(i:lN c S w k pk step T (x::r) a)(a':LH)(v:∀F,step F (pk a) x=pk a')(hn:a'.n=a.n)(ht:a'.af=a.af)(hS:a'.S=a.S):lN c S w k pk step T r a':=⟨hn▸ht▸hS▸i.hp,hn▸aH (cG (bZ _ w) _) i.wM,λF p=>v F▸i.val F (hS▸p)⟩
theorem lN.qi(i:lN c S w k pk step T (x::r) a)(a':LH)(hy:jQ a.S.tb c.md y.1)(v:∀F,step F (pk a) x=pk a')(hw:1<=w)(hn:a'.n=a.n+1)(ht:a'.af=a.af++[y])(hS:a'.S=a.S):lN c S w k pk step T r a':=⟨hn▸ht▸hS▸i.hp.qi hy λ_ _ _=>rfl,hn▸oU i.wM hw,λF p=>v F▸i.val F (hS▸p)⟩
theorem lN.lt(i:lN c S w k pk step T l a)(hk:k<=100):a.af.length+100<cu:=i.hp.lt (aH (bZ ..) (aH i.wM hk))
theorem lN.gV{α:Type}{step:List V->bR×Nat->α->bR×Nat}(i:lN c S w k (λa=>(a.af,a.S.st)) step (λF y=>G F=y) [] a):HP c k G S a.af a.S:=i.hp.conv i.wM λF p _=>i.val F p
end
theorem zH(h:a+b+100<cu):a+b<cu:=di (bZ _ 100) h
noncomputable def KX(rec:Cf)(s:ai)(low aj ao:Nat)(x:bR×Nat)(t:ai):bR×Nat:=if t≠[33]then qi x.1 (rec s t low aj ao x.2)else x
noncomputable def vK(s:ai)(low aj:Nat)(x:bR×Nat)(t:ai):bR×Nat:=if t=[33]then(x.1++[(s,low|||1,aj)],x.2)else x
noncomputable abbrev pk2(a:LH):bR×Nat:=(a.af,a.S.st)
section
variable{rec:Cf}{s cX str yes no:ai}{aa aj ao st low:Nat}(el:Pe aa aj=low)
include el
theorem zI(e:yes=cX)(h:rec s yes low aj ao st=x):jr rec s [cX,str,yes,no] aa aj ao st=[no].foldl (vK s low aj) ([no].foldl (KX rec s low aj ao) x):=by
 have q:([cX,str,yes,no]:List ai).getD 2 []=([cX,str,yes,no]:List ai).getD 0 []:=e;unfold jr MK;rw [az q,az q,el,←h];rfl
theorem Ck(e:yes≠cX):jr rec s [cX,str,yes,no] aa aj ao st=[yes,no].foldl (vK s low aj) ([yes,no].foldl (KX rec s low aj ao) ([],st)):=by
 have q:¬([cX,str,yes,no]:List ai).getD 2 []=([cX,str,yes,no]:List ai).getD 0 []:=e;unfold jr MK;rw [ay q,ay q,el];rfl
end
section
variable{c:W0}{n d:Nat}(H:tK c n){s:ai}{aa aj ao:Nat}{S:Sx}{Q:V->St->Prop}
include H
theorem MR{ways:List ai}(hd:2*n+10<=d)(ks:jQ S.tb c.md s)(hl:low<64)(hs:aj<=1)(hw:ways.length<=2)(hz:∀t∈ways,Qw c.md t)
  (hp:HP c 1 (λ_=>(af,S1.st)) S af S1)(hv:∀F,eT S1.tb F->G F=ways.foldl (vK s low aj) (ways.foldl (KX (i6 c n F) s low aj ao) (af,S1.st)))
  (k:∀af S',HP c 5 G S af S'->Q (.lst (af.map cW)) S'.σ):
  iJ TT (aS TT FT d) (jL.body.drop 4) [some (.ref 1),some (aq s),some v2,some (vN aa),some (vN aj),some (vN ao),some (vN (40-n)),some (vN low),some (.lst (af.map cW)),some (.lst (ways.map aq)),x] (dY Q) S1.σ:=by
 refine .of rfl ?_;refine bD aq (λa:LH=>[some (.ref 1),some (aq s),some v2,some (vN aa),some (vN aj),some (vN ao),some (vN (40-n)),some (vN low),some (.lst (a.af.map cW)),some (.lst (ways.map aq)),a.x]) (λa=>a.S.σ)
  (λr a=>lN c S 1 3 pk2 (λF=>KX (i6 c n F) s low aj ao) (λF y=>ways.foldl (KX (i6 c n F) s low aj ao) (af,S1.st)=y) r a/\(∀F,eT a.S.tb F->eT S1.tb F)/\∀t∈r,Qw c.md t) ?_ ?_ ?_ ways ⟨af,S1,1,[],x,none⟩ ⟨⟨hp,cG (aH (cK (Nat.one_mul _)) hw) 1,λ_ _=>rfl⟩,λ_=>id,hz⟩
 ·exactλ_=>bu
 ·intro t r a K ⟨i,hpr,hr⟩ kn _
  have hr':=λt m=>hr t (cP _ m);refine aZ i.hp.ok.wd.w rfl rfl (HA (λjy=>?_) λjy=>?_)
  ·exact kn ⟨a.af,a.S,a.n,[],some (aq t),none⟩ ⟨i.skip _ (λF=>ay λx=>x jy) rfl rfl rfl,hpr,hr'⟩
  ·refine H _ _ _ _ _ _ a.S _ hd i.hp.ok ⟨ks.pre i.hp.pre,hr t cC,hl,hs⟩ λbY S2 BC=>?_
   have i2:=i.next ⟨a.af++bY,S2,a.n+1,[],some (aq t),none⟩ BC (λF p e=>(az jy).trans (au (qi a.af) e)) (aW 1) rfl rfl
   exact rF (zH (gH▸i2.lt (by decide))) (kn _ ⟨i2,λF p=>hpr F (BC.pre.trans p),hr'⟩)
 ·intro a ⟨i,hpr,_⟩
  refine .of rfl ?_;refine bD aq (λa:LH=>[some (.ref 1),some (aq s),some v2,some (vN aa),some (vN aj),some (vN ao),some (vN (40-n)),some (vN low),some (.lst (a.af.map cW)),some (.lst (ways.map aq)),a.x]) (λa=>a.S.σ)
   (lN c S 1 5 pk2 (λ_=>vK s low aj) λF y=>G F=y) ?_ ?_ ?_ ways a ⟨i.hp,pZ i.wM (aH (cK (Nat.one_mul _)) hw),λF p=>(hv F (hpr F p)).trans (au (ways.foldl (vK s low aj)) (i.val F p))⟩
  ·exactλ_=>bu
  ·intro t r a K i kn _
   refine aZ i.hp.ok.wd.w rfl rfl (Hz (λjy=>?_) λjy=>?_)
   ·refine Bs (gS hl) (by decide) (rF (b:=[(s,low|||1,aj)]) (di (cG (show 1<=100 by decide) _) (i.lt (by decide))) ?_)
    exact kn ⟨a.af++[(s,low|||1,aj)],a.S,a.n+1,[],some (aq t),none⟩ (i.qi _ (ks.pre i.hp.pre) (λF=>az jy) (aW 1) rfl rfl rfl)
   ·exact kn ⟨a.af,a.S,a.n,[],some (aq t),none⟩ (i.skip _ (λF=>ay jy) rfl rfl rfl)
  ·exactλa i=>k a.af a.S i.gV
theorem HD{cX str yes no:ai}(hd:2*n+11<=d)(h:KW c S)(ks:jQ S.tb c.md s)(hy:Qw c.md yes)(hn:Qw c.md no)(hr:aa<64)(hs:aj<=1)
  (k:∀af S',HP c 5 (λF=>jr (i6 c n F) s [cX,str,yes,no] aa aj ao S.st) S af S'->Q (.lst (af.map cW)) S'.σ):
  WP (aS TT FT d 1034 [.ref 1,aq s,.aC [aq cX,aq str,aq yes,aq no],vN aa,vN aj,vN ao,vN (40-n)]) S.σ Q:=by
 have d1:=lZ hd;refine aA (aH (fC 1 _) hd) rfl rfl ?_;have rest:∀low,low<64->Pe aa aj=low->iJ TT (aS TT FT (d-1)) (jL.body.drop 1) [some (.ref 1),some (aq s),some (.aC [aq cX,aq str,aq yes,aq no]),some (vN aa),some (vN aj),some (vN ao),some (vN (40-n)),some (vN low),none,none,none] (dY Q) S.σ:=by
  intro low hl el;refine aI rfl (aI rfl (aI rfl (aI rfl (Hz (λe=>?_) λe=>?_))))
  ·refine aI rfl (H _ _ _ _ _ _ S _ d1 h ⟨ks,hy,hl,hs⟩ λaf S1 hp=>aI rfl ?_)
   refine MR H d1 ks hl hs (ways:=[no]) (gD 1) (λt m=>dG m▸hn) (hp.conv (aW _) λ_ _ _=>rfl) (λF p=>zI el e (hp.val F p)) k
  ·refine MR H d1 ks hl hs (ways:=[yes,no]) (aW 2) (λt m=>(fY m).elim (λe=>e▸hy) λm=>dG m▸hn) ((HP.refl h).conv (fD _) λ_ _ _=>rfl) (λF p=>Ck el e) k
 exact bG (λh1=>Bs (gS hr) (by decide) (rest _ (xD hr (by decide)) (az h1))) λh1=>rest _ hr (ay h1)
end
section
theorem Tr(i:Int)(l:List Nat):jg (.int i) (bI l)=inI i l:=(lM ..).trans (au l.any (funext λq=>decide_eq_decide.mpr KL))
theorem ac6(k:Q (! En o l) s):WP (aM T .dz (.int (oI o)) (.aC (bI l))) s Q:=Kz (jx rfl (iE l) (fD _)) (Hu (au (!·) ((Tr ..).trans (Hg ..))) k)
theorem Tt(hk:(x.plain&&(V.cZ xs&&decide (x.gF<=fU)))=true)(k:Q (! jg x xs) s):WP (aM T .dz x (.lst xs)) s Q:=.bind (Sy hk (.ret k))
theorem ac7(k1:a=[]->Q false s)(k2:a≠[]->Q true s):WP (aM T .ne (.lst (a.map aq)) (.lst [])) s Q:=.bind (aax (pM rE a) (.ret ((c6 (a=[])).elim (λh=>Hu (au (!·) (dj (au (List.map aq) h))) (k1 h)) λh=>Hu (au (!·) (dg λe=>h (List.map_eq_nil_iff.mp e))) (k2 h))))
theorem uW{Q:V->St->Prop}(k:Q (vN l.length) s):WP (k7 TT C (.bi 0) [.lst (bI l)]) s Q:=jo (T:=TT) (f:=ZU 0) (au (λn:Nat=>some (vN n)) (cT ..)) k
theorem KY{Q:V->St->Prop}(k:Q (vN l.length) s):WP (k7 TT C (.bi 0) [aq l]) s Q:=xr (T:=TT) (f:=ZU 0) (au (λn:Nat=>some (vN n)) (cT ..)) k
theorem KZ(k1:p∈l->Q true s)(k2:p∉l->Q false s):WP (aM T .eU (vN p) (.lst (bI l))) s Q:=tH (.inr rfl) k1 k2
end
noncomputable def HE(p:Nat):V:=.aC [vN p,vN (kN p),.int (Ek p)]
theorem Tu(o:Option Nat)(p:Nat):(o.map vN).getD (vN p)=vN (o.getD p):=o.casesOn rfl λ_=>rfl
theorem Pj(p:Nat):(bJ (vN p) zy).getD (vN p)=vN (kN p):=(au (λo:Option V=>o.getD (vN p)) (Cj p)).trans (Tu ..)
theorem ac8(o:Option Nat)(q:Nat):V.int (oI o)=vN q↔o=some q:=o.casesOn ⟨λe=>Int.noConfusion (V.int.inj e),λe=>ns e⟩ λw=>⟨λe=>au some (eX e),λe=>au vN (bV e)⟩
structure MA where
 s:ai
 t:ai
 aa:Nat
 aj:Nat
 ao:Nat
 n:Nat
 aD:List ai
noncomputable abbrev MA.rest(A:MA):ai:=A.s.filter (d7 A.t)
noncomputable abbrev MA.left(A:MA):ai:=A.t.filter (c5 A.s)
noncomputable def mE0(A:MA):aQ:=[some (.ref 1),some (aq A.s),some (aq A.t),some (vN A.aa),some (vN A.aj),some (vN A.ao),some (vN (40-A.n)),some (.lst (A.s.map HE)),some (.lst (bI A.rest)),some (.lst (bI A.left))]
noncomputable def mE(A:MA)(a:LH):aQ:=mE0 A++[some (.lst (a.af.map cW)),some (.lst (A.aD.map aq)),some (.lst (a.ov.map aq)),a.x,a.y,none,none,none,none,none,none,none,none,none,none,none,none]
noncomputable def mE'(A:MA)(a:LH)(z:Option V):aQ:=(mE A a).set 15 z
theorem HF(ov:List ai):(∀w∈ov,w.length<=1)->ov.flatten.length<=ov.length:=ov.rec (λ_=>aW _) λw ov ih h=>aH (cK gH) (aH (pZ (h w cC) (ih λx m=>h x (cP _ m))) (cK (vP 1 _)))
section
variable{S:Sx}
theorem HG:4<=cu:=by decide
theorem YA(h:KW c S)(hs:A.s.length<=3)(ht:A.t.length<=4)
  (k:∀σ,aY NX S.σ σ->iJ TT C (gj.body.drop 3) (mE0 A++List.replicate 17 none) (dY Q) σ):iJ TT C gj.body (gj.env (Yy A.s A.t A.aa A.aj A.ao A.n)) (dY Q) S.σ:=by
 have E4:=aH hs (aH (by decide) HG)
 refine .ret (jc vN HE ?_ E4 (λp _ ys K k1=>?_) ?_)
 ·exactλ_=>bu
 ·have h2:=h.wd.new (.list ys)
  exact aZ h2.w rfl rfl (iZ h2.zz (.inl rfl) (rD h2.zz rfl (Pj p) (aZ h2.w rfl rfl (iZ h2.eN (.inl rfl) (rD h2.eN rfl (zC p) k1)))))
 refine .ret (lH HE (d7 A.t) vN ?_ E4 (λp _ ys K k1 k2=>?_) ?_)
 ·exactλ_=>bu
 ·unfold d7 at k1 k2
  refine aI rfl (Ti ?_);cases e:decide (kN p∈A.t)with
  |true=>rw [e]at k2;exact k2 rfl
  |false=>
   rw [e]at k1 k2;refine aI rfl (ac6 ?_);cases e2:En (bf p) A.t with
   |true=>rw [e2]at k2;exact k2 rfl
   |false=>rw [e2]at k1;exact aI rfl (k1 rfl)
 have e2:aY NX S.σ (S.σ++[.bH]++[.bH]):=((aY.refl _).new _).new _;generalize S.σ++[.bH]++[.bH]=wN at e2;refine .ret (Hv vN (c5 A.s) vN ?_ (aH ht HG) (λq _ s' K e k1 k2=>?_) λs2 e=>k _ (e2.trans e))
 ·exactλ_ _=>bu
 refine .ret (jc HE (λp=>vN (kN p)) ?_ E4 (λp _ ys K k1=>aI rfl k1) ?_)
 ·exactλ_=>bu
 ·unfold c5 at k1 k2
  refine Tt (jx rfl (pM (λ_=>rfl) A.s) (fD _)) ?_;rw [lM,funext λp=>decide_eq_decide.mpr ⟨eX,au vN⟩];cases e:A.s.any λp=>decide (kN p=q)with
  |true=>rw [e]at k2;exact k2 rfl _ ((aY.refl _).new _)
  |false=>
   rw [e]at k1 k2;refine .ret (jc HE (λp=>.int (Ek p)) ?_ E4 (λp _ ys K k1=>aI rfl k1) ?_)
   ·exactλ_=>bu
   ·refine Tt (jx rfl (pM (λ_=>rfl) A.s) (fD _)) ?_
    rw [lM,funext λp=>decide_eq_decide.mpr (ac8 _ _)];cases e2:A.s.any λp=>decide (bf p=some q)with
    |true=>rw [e2]at k2;exact k2 rfl _ (((aY.refl _).new _).new _)
    |false=>rw [e2]at k1;exact k1 rfl _ (((aY.refl _).new _).new _)
end
section
variable(H:tK c n){S:Sx}
structure xE(A:MA):Prop where
 len:A.aD.length<=3
 aR:∀u∈A.aD,u.length<=1
 aE:∀u∈A.aD,∀p∈u,p∈A.s
theorem kinds_ok(hl:rest.length<=3)(hs:∀p∈rest,p∈s)(e:A.aD=uT s rest)(es:A.s=s):xE A:=by
 subst es;by_cases h:A.s≠[]
 ·have e:=e.trans (az h)
  exact⟨aH (cK ((au List.length e).trans (cT ..))) hl,λu m=>(List.mem_map.mp (e▸m)).elim λp x=>cK (au List.length x.2.symm),λu m p hp=>(List.mem_map.mp (e▸m)).elim λq x=>have e2:u=[q]:=x.2.symm;dG (e2▸hp)▸hs q x.1⟩
 ·have e:=e.trans (ay h)
  exact⟨e▸rP (gD 1),λu m=>dG (e▸m)▸fD 1,λu m p hp=>bg (dG (e▸m)▸hp)⟩
theorem YB [Decidable p](h:p):zv p kind l=l.filter λk=>decide (k≠kind):=az h
theorem YC [Decidable p](h:¬p):zv p kind l=l:=ay h
abbrev pk3(a:LH):bR×List ai×Nat:=(a.af,a.ov,a.S.st)
abbrev YD(c:W0)(n:Nat)(A:MA)(S:Sx)(w k:Nat){α:Type}(step:Cf->bR×List ai×Nat->α->bR×List ai×Nat)(T:List V->bR×List ai×Nat->Prop)(r:List α)(a:LH):Prop:=lN c S w k pk3 (λF=>step (i6 c n F)) T r a/\a.ov.Sublist A.aD
include H
theorem YE(hd:2*n+10<=d)(hk:xE A)(hu:u∈A.aD)(ha:Arg c a.S.tb u [q] A.aa A.aj)(ak7:k<=100)(en:A.n=n)(ex:a.x=some (aq [q]))
  (i:YD c n A S 1 k (λrec=>zw rec A.aa A.aj A.ao q) T (u::r) a)(kn:∀a',a'.x=a.x->YD c n A S 1 k (λrec=>zw rec A.aa A.aj A.ao q) T r a'->∀z,K (.next (mE' A a' z)) a'.S.σ):
  iJ TT (aS TT FT d) [.set 15 (.call (.br (.fn 1022)) [.var 0,.var 14,.var 13,.var 3,.var 4,.var 5,.var 6]),.set 10 (.d9 .add (.var 10) (.var 15)),.ite (.aM .eq (.call (.br (.fn 1015)) [.var 15]) (.var 3)) [.set 12 (.comp (.var 24) (.aR 24) (.var 12) [.aM .ne (.var 24) (.var 14)])] []]
   (mE' A ⟨a.af,a.S,a.n,a.ov,a.x,some (aq u)⟩ z) K a.S.σ:=by
 subst en;obtain⟨i,MS⟩:=i;unfold mE' mE mE0;rw [ex];refine H _ _ _ _ _ _ a.S _ hd i.hp.ok ha λbY S2 BC=>?_;have i2:=λσ e ov'(eo:zv (bE bY=A.aa) u a.ov=ov')=>i.next ⟨a.af++bY,⟨S2.st,S2.tb,σ⟩,a.n+1,ov',some (aq [q]),some (aq u)⟩ (BC.post e) (λF p e=>by
  unfold zw;dsimp only;rw [e,eo]) (aW 1) rfl rfl
 refine rF (zH (gH▸(i2 S2.σ (.refl _) _ rfl).lt ak7)) (Hx (aH (fC 1 _) hd) (di (cG (show 1<=100 by decide) _) (BC.lt (by decide))) λσ8 e8=>bG (λe=>?_) λe=>?_)
 ·refine .ret (lH aq (λw=>decide (w≠u)) aq ?_ (aH MS.length_le (aH hk.len (by decide))) (λw _ ys K3 k1 k2=>HA (λh=>k2 (dg λx=>x h)) λh=>k1 (dj h)) ?_)
  ·exactλ_=>bu
  ·exact kn ⟨a.af++bY,_,a.n+1,_,some (aq [q]),some (aq u)⟩ ex.symm ⟨i2 _ (e8.new _) _ (YB e),List.filter_sublist.trans MS⟩ (some (.lst (bY.map cW)))
 ·exact kn ⟨a.af++bY,_,a.n+1,_,some (aq [q]),some (aq u)⟩ ex.symm ⟨i2 _ e8 _ (YC e),MS⟩ (some (.lst (bY.map cW)))
end
section
variable{c:W0}{n d:Nat}{S:Sx}{Q:V->St->Prop}{A:MA}
theorem Tv(h:33∈left)(o:ov≠[]):tC rest left aa aj (af,ov,st)=(af++[(ov.flatten,aa,aj)],st):=au (λl=>(af++l,st)) ((az h).trans (az o))
theorem Tz(h:33∈left)(o:ov=[]):tC rest left aa aj (af,ov,st)=(af++[(rest,aa|||1,aj)],st):=au (λl=>(af++l,st)) ((az h).trans (ay λx=>x o))
theorem TA(h:33∉left):tC rest left aa aj (af,ov,st)=(af,st):=(au (λl=>(af++l,st)) (ay h)).trans (au (·,st) (kX af))
theorem TF(l:List Nat)(p:Nat):bI l++[vN p]=bI (l++[p]):=(mh (l₂:=[p])).symm
theorem TG(hk:xE A)(ks:jQ S.tb c.md A.s)(hr:A.aa<64)(hp:HP c 12 (λ_=>(a.af,a.S.st)) S a.af a.S)(MS:a.ov.Sublist A.aD)(hv:∀F,eT a.S.tb F->G F=tC A.rest A.left A.aa A.aj (pk3 a))
  (k:∀af S',HP c 14 G S af S'->Q (.lst (af.map cW)) S'.σ):iJ TT (aS TT FT d) (gj.body.drop 9) (mE' A a z) (dY Q) a.S.σ:=by
 have gV:∀(x:ai×Nat×Nat)σ,aY NX a.S.σ σ->x.1.length<=3->(∀p∈x.1,p∈A.s)->tC A.rest A.left A.aa A.aj (pk3 a)=(a.af++[x],a.S.st)->Q (.lst ((a.af++[x]).map cW)) σ:=λx σ e hl hx ex=>k _ _ (((hp.qi ⟨hl,λp m=>(ks.cD p (hx p m)).pre hp.pre⟩ λF p _=>(hv F p).trans ex).conv (gD 13) λ_ _ e=>e).post e)
 have lt:=di (cG (show 1<=100 by decide) _) (hp.lt (by decide))
 have h8:=hp.ok.wd;refine aZ h8.w rfl rfl (aI rfl (KZ (λjy=>ac7 (λho=>?_) λho=>?_) λjy=>?_))
 ·refine aZ h8.w rfl rfl (aI rfl (KZ (λ_=>?_) λx=>absurd jy x))
  exact .of rfl (Bs (gS hr) (by decide) (rF lt (gV _ _ (.refl _) (aH (tY ..) ks.len) (λp m=>(List.mem_filter.mp m).1) (Tz jy ho))))
 ·have hfl:=aH (HF a.ov λw m=>hk.aR w (MS.subset m)) (aH MS.length_le hk.len)
  have dl:∀{dn r:ai},dn++r=a.ov.flatten->(bI dn).length+r.length<=3:=λe=>aH (cK ((au (·+_) (cT ..)).trans (List.length_append.symm.trans (au List.length e)))) hfl
  refine .ret (pK aq (λdn:ai=>a.S.σ++[.list (bI dn)]) (λr dn=>dn++r.flatten=a.ov.flatten) ?_ (λw r dn K hd kn=>?_) ?_ a.ov [] rfl)
  ·exactλ_=>bu
  ·refine .ret ?_
   refine pK vN (λdn:ai=>a.S.σ++[.list (bI dn)]) (λr2 dn=>dn++(r2++r.flatten)=a.ov.flatten) ?_ (λp r2 dn K hd kn=>?_) (λdn hd=>kn dn hd) w dn hd
   ·exactλ_=>bu
   ·exact MG (di (aH (bZ ..) (dl hd)) (by decide)) (TF dn p▸kn (dn++[p]) ((rQ ..).trans hd))
  ·intro dn hd
   have hd:=(kX dn).symm.trans hd;refine⟨_,bS,?_⟩;rw [iQ,hd];exact .of rfl (rF lt (gV _ _ ((aY.refl _).new _) hfl (λp m=>(List.mem_flatten.mp m).elim λw hw=>hk.aE w (MS.subset hw.1) p hw.2) (Tv jy ho)))
 ·exact aZ h8.w rfl rfl (aI rfl (KZ (λx=>absurd x jy) λ_=>k _ _ (hp.conv (by decide) λF p _=>(hv F p).trans (TA jy))))
variable(H:tK c n)
include H
theorem TH(hd:2*n+10<=d)(en:A.n=n)(h:KW c S)(hk:xE A)(ks:jQ S.tb c.md A.s)(ht:Qw c.md A.t)(hr:A.aa<64)(hs:A.aj<=1)
  (hv:∀F,G F=tC A.rest A.left A.aa A.aj ((A.left.filter λq=>decide (q≠33)).foldl (Hp (i6 c n F) A.aa A.aj A.ao A.aD) ([],A.aD,S.st)))
  (k:∀af S',HP c 14 G S af S'->Q (.lst (af.map cW)) S'.σ):iJ TT (aS TT FT d) (gj.body.drop 7) (mE0 A++([some (.lst []),some (.lst (A.aD.map aq))]++List.replicate 15 none)) (dY Q) S.σ:=by
 have al:(A.left.filter λq=>decide (q≠33)).length<=4:=aH (tY ..) (aH (tY ..) ht.len);have ll:A.left.length<=cu:=aH (aH (tY ..) ht.len) HG;refine .ret (jc aq aq ?_ (aH hk.len (by decide)) (λ_ _ ys K k1=>k1) ?_)
 ·exactλ_=>bu
 refine .ret (lH vN (λq=>decide (q≠33)) (λq=>aq [q]) ?_ ll (λq _ ys K k1 k2=>?_) ?_)
 ·exactλ_=>bu
 ·exact aZ ((h.wd.new _).new (.list ys)).w rfl rfl (aI rfl (MQ (λe=>k2 (dg λx=>x e)) λe=>k1 (dj e)))
 have e2:aY NX S.σ (S.σ++[.bH]++[.bH]):=((aY.refl _).new _).new _;generalize S.σ++[.bH]++[.bH]=wN at e2;refine .ret (bD (λq=>aq [q]) (λb:LH×Option V=>mE' A b.1 b.2) (λb=>b.1.S.σ) (λr b=>YD c n A S 3 12 (λrec=>Hp rec A.aa A.aj A.ao A.aD) (λF y=>G F=tC A.rest A.left A.aa A.aj y) r b.1/\∀q∈r,q∈A.t) ?_ (λq r b K i kn _=>?_) (λb i=>?_) _ (⟨[],⟨S.st,S.tb,wN⟩,0,A.aD,none,none⟩,none)
  ⟨⟨⟨((HP.refl h).post e2).conv (aW 0) λ_ _ _=>rfl,aH (cK (p8 _)) (kW 3 al),λF _=>hv F⟩,.refl _⟩,λq m=>(List.mem_filter.mp (List.mem_filter.mp m).1).1⟩)
 ·exactλ_=>bu
 ·obtain⟨⟨i,MS⟩,My⟩:=i
  have hqt:=My q cC;refine .ret (bD aq (λb:LH×Option V=>mE' A b.1 b.2) (λb=>b.1.S.σ) (λr2 b2=>b2.1.x=some (aq [q])/\(∀u∈r2,u∈A.aD)/\YD c n A S 1 (b.1.n+3) (λrec=>zw rec A.aa A.aj A.ao q) (λF y=>G F=tC A.rest A.left A.aa A.aj (r.foldl (Hp (i6 c n F) A.aa A.aj A.ao A.aD) y)) r2 b2.1) ?_ (λu r2 b2 K2 i2 IZ _=>?_) (λb2 i2=>?_) A.aD (⟨b.1.af,b.1.S,b.1.n,b.1.ov,some (aq [q]),b.1.y⟩,b.2)
   ⟨rfl,λ_=>id,⟨i.hp,cG (aH (cK (Nat.one_mul _)) hk.len) _,i.val⟩,MS⟩)
  ·exactλ_=>bu
  ·have n12:b.1.n+3<=100:=aH (aH (cG (fC 3 (3*r.length)) _) i.wM) (by decide)
   have hu:=i2.2.1 u cC;refine YE H hd hk hu ⟨⟨aH (hk.aR u hu) (by decide),λp m=>(ks.cD p (hk.aE u hu p m)).pre i2.2.2.1.hp.pre⟩,ht.aE (List.singleton_sublist.mpr hqt),hr,hs⟩ n12 en i2.1 i2.2.2 λa' ex i3 z=>IZ (a',z) ⟨ex.trans i2.1,λw m=>i2.2.1 w (cP _ m),i3⟩
  ·exact kn b2 ⟨⟨i.gW _ i2.2.2.1.hp (aH (bZ ..) i2.2.2.1.wM) i2.2.2.1.val,i2.2.2.2⟩,λw m=>My w (cP _ m)⟩
 ·exact TG hk ks hr (i.1.1.hp.conv i.1.1.wM λ_ _ _=>rfl) i.1.2 i.1.1.val k
end
section
variable{c:W0}{n d:Nat}(H:tK c n){S:Sx}{Q:V->St->Prop}{s t:ai}{aa aj ao:Nat}
include H
theorem YF(hd:2*n+11<=d)(h:KW c S)(a:Arg c S.tb s t aa aj)
  (k:∀af S',HP c 14 (λF=>tD (i6 c n F) s t aa aj ao S.st) S af S'->Q (.lst (af.map cW)) S'.σ):WP (aS TT FT d 1039 (Yy s t aa aj ao n)) S.σ Q:=by
 have d1:=lZ hd;refine aA (aH (fC 1 _) hd) rfl rfl (YA (A:=⟨s,t,aa,aj,ao,n,[]⟩) h a.cD.len a.tgt.len λσ e=>?_);have h1:=h.nx e;have rs:s.filter (d7 t)⊆s:=λp m=>(List.mem_filter.mp m).1;have rk:jQ S.tb c.md (s.filter (d7 t)):=⟨aH (tY ..) a.cD.len,λp m=>a.cD.cD p (rs m)⟩;have lz:Qw c.md (t.filter (c5 s)):=a.tgt.aE E8;have rest:¬(s.filter (d7 t)=[]/\s≠[])->iJ TT (aS TT FT (d-1)) (gj.body.drop 4) (mE0 ⟨s,t,aa,aj,ao,n,[]⟩++List.replicate 17 none) (dY Q) σ:=λL4=>by
  refine uW (bG (λhl1=>?_) λhl1=>?_)
  ·obtain⟨q,hq⟩:=List.length_eq_one_iff.mp hl1
   have lq:=hq;unfold mE0;rw [lq];exact .of rfl (lB rfl (H _ _ [q] _ _ _ ⟨S.st,S.tb,σ⟩ _ d1 h1 ⟨rk,hq▸lz,a.aa,a.aj⟩ λaf S' hp=>k af S' ((HP.nx e hp).conv (by decide) λF _ e2=>(ay L4).trans ((az hl1).trans ((au (λl=>i6 c n F (s.filter (d7 t)) l aa aj ao S.st) hq).trans e2)))))
  ·have HH:=λaD σ5 e5 ek=>TH (A:=⟨s,t,aa,aj,ao,n,aD⟩) (S:=⟨S.st,S.tb,σ5⟩) H d1 rfl (h.nx e5) (kinds_ok rk.len (λp m=>rs m) ek rfl) a.cD a.tgt a.aa a.aj (λF=>(ay L4).trans ((ay hl1).trans (ek▸rfl))) λaf S' hp=>k af S' (HP.nx (S:=⟨S.st,S.tb,σ5⟩) e5 hp)
   refine HA (b:=[]) (λSu=>HH [[]] σ e (ay λx=>x Su).symm) λSu=>.ret (jc vN (λp=>aq [p]) ?_ (aH rk.len (by decide)) (λ_ _ ys K k1=>k1) ?_)
   ·exactλ_=>bu
   ·have em:(s.filter (d7 t)).map (λp=>aq [p])=((s.filter (d7 t)).map λp=>[p]).map aq:=(nK (g:=aq)).symm
    have r3:=HH _ _ (e.new .bH) (az Su).symm;rw [←em]at r3;exact r3
 refine To ?_;by_cases hr0:s.filter (d7 t)=[]
 ·rw [dj hr0]
  refine HA (λSu=>rest λx=>x.2 Su) λSu=>.of rfl (Bs (gS a.aa) (by decide) (H _ _ (t.filter (c5 s)) _ _ _ ⟨S.st,S.tb,σ⟩ _ d1 h1 ⟨a.cD,lz,xD a.aa (by decide),a.aj⟩ λaf S' hp=>k af S' ((HP.nx e hp).conv (by decide) λF _ e2=>(az ⟨hr0,Su⟩).trans e2)))
 ·rw [dg hr0]
  exact rest λx=>hr0 x.1
end
section
theorem iS{P:Option V->List V->Prop}(h1:tE s=none->P none tb)(h2:∀r,tE s=some r->P (some r) (f6 tb r)):P (tE s) (cM tb s):=by
 unfold cM;cases e:tE s with
 |none=>exact h1 e
 |some r=>exact h2 r e
theorem zJ(tb:List V)(s:ai):eT tb (cM tb s):=iS (P:=λ_ t=>eT tb t) (λ_=>.refl _) λ_ _=>lK _ _
theorem zK(tb:List V)(s:ai):(cM tb s).length<=tb.length+1:=iS (P:=λ_ t=>t.length<=tb.length+1) (λ_=>gD _) λ_ _=>s8 _ _
theorem rG(h:eT (cM tb s) F):fQ F s=fQ (cM tb s) s:=iS (P:=λo t=>eT t F->o.map (putN F)=o.map (putN t)) (λ_ _=>rfl) (λr _ h=>au some (zu h (au Option.isSome (oO tb r)))) h
theorem YG(s:ai):iC (Yt s) false∈THL:=by
 unfold Yt;generalize(λn=>s.any λp=>decide (iR p=n))=f;rw [List.filter_cons,List.filter_cons,List.filter_nil];cases f nA<;>cases f nB<;>decide+kernel
theorem HJ(e:tE s=some r):r∈THL/\∃ns b,r=iC ns b:=by
 unfold tE at e;by_cases h6:s=[6]
 ·rw [az h6]at e;exact bV e▸⟨by decide+kernel,_,_,rfl⟩
 ·rw [ay h6]at e
  by_cases h0:s=[]\/s.all jd=false
  ·rw [az h0]at e;exact ns e
  ·rw [ay h0]at e;exact bV e▸⟨YG s,_,_,rfl⟩
theorem bW.cM(g:bW tb)(s:ai):bW (cM tb s):=iS (P:=λ_ t=>bW t) (λ_=>g) λr e=>(HJ e).2.elim λns⟨b,q⟩=>g.f6 (q▸.fE ns b)
theorem ag0:∀r∈THL,c0 r=8:=by decide+kernel
theorem Cm(hmr:MkR tb mk):fQ (cM tb s) s=some o->KU (cM tb s) mk o:=iS (P:=λk t=>k.map (putN t)=some o->KU t mk o) (λ_=>ns) λr e eo=>by
  have eo:=(pL tb r).symm.trans (bV eo);have e1:=eo▸xw (oO tb r);have hr:=(HJ e).1;refine .inr ⟨r,hr,e1,?_⟩;cases q:aK mk o with
  |none=>rfl
  |some x=>exact(hmr.pre (lK tb r) o x q).elim λk⟨rest,e2,hk⟩=>absurd ((au c0 (bV (e2.symm.trans e1))).trans (ag0 r hr)) hk
end
theorem HK(h:cB v mk HT [p]=true)(hw:p∉cI v):∃e,aK mk p=some e:=by
 have h:((decide (p∈cI v)||(aK mk p).any λe:Nat×List ai=>e.2.any (cB v mk 5))||false)=true:=h;rw [xN,dg hw]at h;cases e:aK mk p with
 |none=>rw [e]at h;exact ff h
 |some x=>exact⟨x,rfl⟩
theorem TJ{n:Nat}(h:n<2^20):vV (n:Int)=true:=dF (dj (by omega)) (dj (ac4 h))
theorem ac9:vV 0=true:=by decide+kernel
theorem K4(x y:Int):CW (.int x) (.int y)=if(vV x&&vV y)=true then some (.Fp x y)else none:=rfl
theorem YH(v:V):k7 TT C (.bi 5) [v]=bX (CW (.int 0) v):=rfl
theorem tL(h:n<2^20)(k:Q (.Fp 0 n) s):WP (k7 TT C (.bi 5) [vN n]) s Q:=by
 rw [YH];exact .nV ((K4 0 n).trans (az (dF ac9 (TJ h)))) k
theorem Wd.aG{mk:aT}(h:Wd v nums a b mk s):Wd v nums a x mk (s.set 1 (.dict (wD v nums a x))):=⟨h.w.dS,h.zz.bF (by decide),h.eN.bF (by decide),h.Hs.bF (by decide),h.mT.bF (by decide)⟩
theorem YI{α:Type}(l:List α):∀i:Nat,(l.zipIdx i).map (λx=>vN x.2)=xU i l.length:=l.rec (λ_=>rfl) λx l ih i=>au (vN i::·) (ih (i+1))
theorem TL{α β:Type}(f:β->α->β)(l:List α)(b:β):l.zipIdx.foldl (λx y=>f x y.1) b=l.foldl f b:=(List.foldl_map).symm.trans (au (List.foldl f b) (List.zipIdx_map_fst 0 l))
section
theorem Pk(h:(kF mk (tu s)).1≠0):∃q,s=[q]/\aK mk q=some (kF mk (tu s)):=by
 match s,h with
 |[],h=>exact absurd rfl h
 |_::_::_,h=>exact absurd rfl h
 |[q],h=>
  refine⟨q,rfl,?_⟩;show aK mk q=some ((aK mk q).getD (0,[]));have h:((aK mk q).getD (0,[])).1≠0:=h;cases e:aK mk q with
  |none=>rw [e]at h;exact absurd rfl h
  |some x=>rfl
theorem TM(q:Nat)(mk:aT):(bJ (vN q) (KP mk)).getD (.aC [.int 0,.aC []])=fB (kF mk (some q)):=(au (λo:Option V=>o.getD (.aC [.int 0,.aC []])) (pN q mk)).trans (Option.casesOn (motive:=λo=>(o.map fB).getD (.aC [.int 0,.aC []])=fB (o.getD (0,[]))) (aK mk q) rfl λ_=>rfl)
theorem TN(hm:Ph mk)(hq:KU tb mk q)(e:aK mk q=some m)(hk:k∈m.2):jQ tb mk k:=⟨rP ((hm.ok q m e).2 k hk).1,λp hp=>.inl (hm.cD q m e (hq.elim id λ⟨r,x⟩=>ns (x.2.2.symm.trans e)) k hk p hp)⟩
theorem TP:∀x∈gA,∀y∈gA,x.1=y.1->x.2=y.2:=by decide
theorem Er:∀x∈gA,x.2<=4/\x.1≠0/\(x.1=16->x.2=4)/\(x.1=14->x.2=1):=by decide
end
theorem MT(h:¬20000<st+1):C2 (st+1)=C2 st+1:=(nW (Nat.not_lt.mp h)).trans (au (·+1) (nW (l8 (Nat.not_lt.mp h))).symm)
theorem HL(st:Nat):C2 st<=C2 (st+1):=Nat.le_min.mpr ⟨rP (AH ..),tZ ..⟩
noncomputable def hE(s t:ai)(aa aj ao n:Nat)(x7 x8 x9 x10 x11 x12:Option V):aQ:=[some (.ref 1),some (aq s),some (aq t),some (vN aa),some (vN aj),some (vN ao),some (vN (40-n)),x7,x8,x9,x10,x11,x12]
theorem HM(h:n+1<=40):40-(n+1)+1=40-n:=(Nat.succ_sub h).symm.trans (Nat.succ_sub_succ 40 n)
theorem zL(h:aj<=1):1-aj+aj=1:=NL h
noncomputable def aaB(Th aj:Nat):Nat:=if Th=14 then 1-aj else aj
noncomputable def ada(rec:Cf)(Th aa aj ao:Nat)(x:bR×Nat)(y:(ai×ai)×Nat):bR×Nat:=qi x.1 (rec y.1.1 y.1.2 aa (aaB Th aj) (ao+1) x.2)
theorem zM{us:List ai}(h:us[i]?=some u):ZS (us.map aq) (i:Nat)=some (aq u):=(az (AD i)).trans ((Fe ..).trans (au (Option.map aq) h))
section
variable(H:tK c n){S:Sx}
include H
theorem Pn(hm:Ph c.md)(hd:2*n+10<=d)(hn:n+1<=40)(h:KW c S)(he:aK c.md p=some e)(hme:m.1=e.1->m.2.length=e.2.length/\∀k∈m.2,jQ S.tb c.md k)(hr:aa<64)(hs:aj<=1)
  (hv:∀F,G F=if m.1=e.1 then xC (i6 c n F) e.1 aa aj ao (m.2.zip e.2) ([],S.st)else([],S.st))
  (k:∀af S',HP c 14 G S af S'->Q (.lst (af.map cW)) S'.σ):iJ TT (aS TT FT d) (eW.body.drop 10) (hE s [p] aa aj ao (n+1) (some (vN e.1)) (some (fB m)) none none none none) (dY Q) S.σ:=by
 have hgp:=(pN ..).trans (au (Option.map fB) he);have YJ:=Er _ (hm.ok p e he).1;have Mq:∀L:List (ai×ai),L.length<=4->(∀(i:Nat)(x:ai×ai),L[i]?=some x->e.2[i]?=some x.2/\m.2[i]?=some x.1/\jQ S.tb c.md x.1)->(∀F,G F=xC (i6 c n F) e.1 aa aj ao L ([],S.st))->iJ TT (aS TT FT d) [.dK (.aR 11) (.br (.Fp 0 L.length)) [.set 12 (.aE (.aE (.aE (.aE (.var 0) (.br (.str ud))) (.aE (.var 2) (.br (.int 0)))) (.br (.int 1))) (.var 11)),.set 10 (.d9 .add (.var 10) (.call (.br (.fn 1022)) [.var 0,.aE (.aE (.var 8) (.br (.int 1))) (.var 11),.var 12,.var 3,.ite (.aM .eq (.var 7) (.br (.int 14))) (.d9 .aE (.br (.int 1)) (.var 4)) (.var 4),.d9 .add (.var 5) (.br (.int 1)),.d9 .add (.var 6) (.br (.int 1))]))],.ret (.var 10)] (hE s [p] aa aj ao (n+1) (some (vN e.1)) (some (fB m)) none (some (.lst [])) none none) (dY Q) S.σ:=by
  intro L hl hL hv;refine .of (a:=(V.Fp 0 L.length,xU ((0:Nat):Int) L.length)) rfl ?_;rw [←YI L 0];refine bD (λx:(ai×ai)×Nat=>vN x.2) (λa:LH=>hE s [p] aa aj ao (n+1) (some (vN e.1)) (some (fB m)) none (some (.lst (a.af.map cW))) a.x a.y) (λa=>a.S.σ) (λr a=>lN c S 1 14 pk2 (λF=>ada (i6 c n F) e.1 aa aj ao) (λF y=>G F=y) r a/\∀x∈r,x∈L.zipIdx) ?_ (λx r a K i kn _=>?_) (λa i=>k a.af a.S i.1.gV) L.zipIdx ⟨[],S,0,[],none,none⟩
   ⟨⟨(HP.refl h).conv (aW 0) λ_ _ _=>rfl,aH (cK ((p8 _).trans ((Nat.one_mul _).trans List.length_zipIdx))) (aH hl (by decide)),λF _=>(hv F).trans (TL _ L _).symm⟩,λ_=>id⟩
  ·exactλ_=>bu
  ·obtain⟨i,My⟩:=i
   have hx:=hL x.2 x.1 (List.mem_zipIdx_iff_getElem?.mp (My x cC));have hz:Qw c.md x.1.2:=have q:=(hm.ok p e he).2 _ (pX hx.1);⟨aH q.1 (by decide),MN.up 5 _ q.2⟩
   have w1:=i.hp.ok.wd;refine aZ w1.w rfl rfl (aI rfl (aZ w1.mT (oQ _ _) hgp (aI rfl (aI (zM hx.1) (aI rfl (aI (zM hx.2.1) ?_))))));have gV:∀sd Q',sd<=1->aaB e.1 aj=sd->(∀bY S2,a.af.length+bY.length<cu->K (.next (hE s [p] aa aj ao (n+1) (some (vN e.1)) (some (fB m)) none (some (.lst ((a.af++bY).map cW))) (some (vN x.2)) (some (aq x.1.2)))) S2->Q' (.lst (bY.map cW)) S2)->WP (aS TT FT d 1022 (Yy x.1.1 x.1.2 aa sd (ao+1) n)) a.S.σ Q':=λsd Q' hsd es kq=>H _ _ _ _ _ _ a.S _ hd i.hp.ok ⟨hx.2.2.pre i.hp.pre,hz,hr,hsd⟩ λbY S2 BC=>have i2:=i.next ⟨a.af++bY,S2,a.n+1,[],some (vN x.2),some (aq x.1.2)⟩ BC (λF p e2=>(au (λsd=>qi a.af (i6 c n F x.1.1 x.1.2 aa sd (ao+1) a.S.st)) es).trans (au (qi a.af) e2)) (aW 1) rfl rfl
     kq bY S2.σ (zH (gH▸i2.lt (by decide))) (kn _ ⟨i2,λy m=>My y (cP _ m)⟩)
   refine bG (λK5=>?_) λK5=>?_
   ·exact zG (zL hs) (fm rfl (fm (HM hn) (gV _ _ (qk ..) (az K5) λ_ _ l q=>rF l q)))
   ·exact fm rfl (fm (HM hn) (gV _ _ hs (ay K5) λ_ _ l q=>rF l q))
 refine aI rfl (bG (λYK=>?_) λYK=>?_)
 ·have q:=hme YK
  refine aI rfl (.of (au (λn:Nat=>fH.ok (vN n) _) (cT ..)) (tL (di (aH (cK q.1) YJ.1) (by decide)) ?_))
  have zl:=List.length_zip.trans (nW (cK q.1));have t:=Mq (m.2.zip e.2) (aH (cK (zl.trans q.1)) YJ.1) (λi x hx=>have z:=List.getElem?_zip_eq_some.mp hx;⟨z.2,z.1,q.2 _ (pX z.1)⟩) λF=>(hv F).trans (az YK);rw [zl]at t;exact t
 ·exact tL (by decide) (Mq [] (fD _) (λi x hx=>ns hx) λF=>(hv F).trans (ay YK))
end
theorem ag1{α:Type}{l:List α}(h:l.length=4):∃a b x y,l=[a,b,x,y]:=by
 obtain⟨a,l,rfl⟩:=QI h;obtain⟨b,l,rfl⟩:=QI (kZ h);obtain⟨x,l,rfl⟩:=QI (kZ (kZ h));obtain⟨y,rfl⟩:=List.length_eq_one_iff.mp (kZ (kZ (kZ h)));exact⟨a,b,x,y,rfl⟩
section
variable{c:W0}{n d:Nat}(H:tK c n){S:Sx}{Q:V->St->Prop}{s:ai}{aa aj ao:Nat}
include H
theorem adb{p:Nat}{e m:Nat×List ai}(hm:Ph c.md)(hd:2*n+11<=d)(hn:n+1<=40)(h:KW c S)(hb:S.tb.length+1<=c.C+C2 S.st)(hC:c.C+20001<cu)(ks:jQ S.tb c.md s)(hr:aa<64)(hs:aj<=1)(he:aK c.md p=some e)(em:kF c.md (tu s)=m)
  (k:∀af S',HP c 14 (λF=>zx ⟨c.v,c.md,F⟩ (i6 c n F) s e m aa aj ao S.st) S af S'->Q (.lst (af.map cW)) S'.σ):iJ TT (aS TT FT d) (eW.body.drop 8) (hE s [p] aa aj ao (n+1) (some (vN e.1)) (some (fB m)) none none none none) (dY Q) S.σ:=by
 have d1:2*n+10<=d:=l8 hd;have hgp:bJ (vN p) (KP c.md)=some (fB e):=(pN ..).trans (au (Option.map fB) he);have hk:=(hm.ok p e he).2;have YJ:=Er _ (hm.ok p e he).1;have sz:∀u∈e.2,Qw c.md u:=λu hu=>⟨aH (hk u hu).1 (by decide),MN.up 5 _ (hk u hu).2⟩
 have low:S.tb.length<cu:=di (aH (gD _) (aH hb (cG (tZ _ _) _))) (Nat.lt_of_succ_lt hC);have hme:m.1=e.1->m.2.length=e.2.length/\∀k∈m.2,jQ S.tb c.md k:=λeq=>by
  obtain⟨q,es,mq⟩:=Pk (mk:=c.md) (s:=s) λz=>YJ.2.1 (eq.symm.trans ((au Prod.fst em).symm.trans z));rw [em]at mq;exact⟨TP _ (hm.ok q m mq).1 _ (hm.ok p e he).1 eq,λk hk=>TN hm (ks.cD q (es▸QF q)) mq hk⟩
 have HH:¬(e.1=16/\m.1≠16)->¬(e.1=14/\m.1≠14)->iJ TT (aS TT FT d) (eW.body.drop 10) (hE s [p] aa aj ao (n+1) (some (vN e.1)) (some (fB m)) none none none none) (dY Q) S.σ:=λn16 n14=>Pn H hm d1 hn h he hme hr hs (λF=>(ay n16).trans (ay n14)) k;have Cn:¬(e.1=16/\m.1≠16)->iJ TT (aS TT FT d) (eW.body.drop 9) (hE s [p] aa aj ao (n+1) (some (vN e.1)) (some (fB m)) none none none none) (dY Q) S.σ:=λn16=>by
  refine bG (b:=14) (λK5=>aI rfl (MQ (b:=14) (λm14=>HH n16 λx=>x.2 m14) λm14=>?_)) λK5=>HH n16 λx=>K5 x.1;obtain⟨u,hu⟩:=List.length_eq_one_iff.mp (YJ.2.2.2 K5);have hb1:∀F,zx ⟨c.v,c.md,F⟩ (i6 c n F) s e m aa aj ao S.st=(fQ F s).elim ([],S.st) λo=>i6 c n F [o] u (aa|||32) (1-aj) (ao+1) S.st:=λF=>(ay n16).trans ((az ⟨K5,m14⟩).trans (au (λl:List ai=>(fQ F s).elim ([],S.st) λo=>i6 c n F [o] (l.getD 0 []) (aa|||32) (1-aj) (ao+1) S.st) hu))
  refine Tq h.wd h.eY low (aH (by decide) (aH (fC 11 (2*n)) hd)) (di ks.len (by decide)) λgU e1 t1=>?_
  have w1:=h.wd.tx e1;have pk:=zJ S.tb s;have Qv:KW c ⟨S.st,cM S.tb s,gU⟩:=⟨w1,t1,aH (zK S.tb s) hb,h.mkr.pre pk⟩;cases hk:fQ (cM S.tb s) s with
  |none=>exact qt (b':=true) rfl (k [] ⟨S.st,cM S.tb s,gU⟩ ⟨e1.hx,Qv,pk,λg=>g.cM s,aW _,aH (cK (p8 _)) (bZ _ _),λ_=>bg,λF pF=>(hb1 F).trans (au (λo:Option Nat=>o.elim ([],S.st) λo=>i6 c n F [o] u (aa|||32) (1-aj) (ao+1) S.st) ((rG pF).trans hk))⟩)
  |some o=>
   refine qt (xy o) (aZ w1.w rfl rfl (aI rfl (aZ w1.mT (oQ _ _) hgp (aI rfl (aI (v:=aq u) (zM (i:=0) (au (λl:List ai=>l[0]?) hu)) (Bs (b:=32) (gS hr) (by decide) (zG (a:=1) (zL hs) (fm (b:=1) rfl (fm (b:=1) (HM hn) ?_)))))))))
   refine H _ [o] u _ _ _ ⟨S.st,cM S.tb s,gU⟩ _ d1 Qv ⟨⟨show 1<=3 by decide,λq m=>dG m▸Cm h.mkr hk⟩,sz u (hu▸QF u),xD hr (by decide),qk ..⟩ λaf S' hp=>k af S' ?_
   exact⟨e1.hx.trans hp.ext,hp.ok,pk.trans hp.pre,λg=>hp.Ep (g.cM s),hp.le,aH hp.len (cG (by decide) _),hp.cD,λF pF=>(hb1 F).trans ((au (λo:Option Nat=>o.elim ([],S.st) λo=>i6 c n F [o] u (aa|||32) (1-aj) (ao+1) S.st) ((rG (hp.pre.trans pF)).trans hk)).trans (hp.val F pF))⟩
 refine bG (b:=16) (λQx=>aI rfl (MQ (b:=16) (λm16=>Cn λx=>x.2 m16) λm16=>?_)) λQx=>Cn λx=>Qx x.1;obtain⟨cX,str,yes,no,hu⟩:∃a b x y,e.2=[a,b,x,y]:=ag1 (YJ.2.2.1 Qx);have e4:V.aC (e.2.map aq)=.aC [aq cX,aq str,aq yes,aq no]:=au (λl:List ai=>V.aC (l.map aq)) hu;refine aZ h.wd.w rfl rfl (aI rfl (aZ h.wd.mT (oQ _ _) hgp (aI (au some e4) (fm (b:=1) (HM hn) ?_))));exact HD H hd h ks (sz yes (hu▸pX (i:=2) rfl)) (sz no (hu▸pX (i:=3) rfl)) hr hs λaf S' hp=>k af S' (hp.conv (by decide) λF _ e'=>(az ⟨Qx,m16⟩).trans (hu▸e'))
end
section
variable{c:W0}
theorem MU(hm:Ph c.md)(hC:c.C+20001<cu){n:Nat}(hn:n<=40){R:List V->Cf}(H:∀m,n=m+1->tK c m/\∀F,R F=i6 c m F)(hv:∀F,i6 c n F=tF ⟨c.v,c.md,F⟩ n (R F)):tK c n:=by
 intro d s t aa aj ao S Q hd h a k;have d1:2*n+9<=d-1:=lZ hd;have kx:∀af S',(∀F,tF ⟨c.v,c.md,F⟩ n (R F) s t aa aj ao S.st=(af,S'.st))->aY HX S.σ S'.σ->KW c S'->S'.tb=S.tb->C2 S.st<=C2 S'.st->af.length<=1->(∀x∈af,x.1=s)->Q (.lst (af.map cW)) S'.σ:=λaf S' e x o et le hl hs=>k af S' ⟨x,o,et▸.refl _,λg=>et▸g,le,aH (pZ hl (kW 14 le)) (cK (vP ..)),λy m=>hs y m▸et▸a.cD,λF _=>(jT (jT (jT (jT (jT (jT (hv F) s) t) aa) aj) ao) S.st).trans (e F)⟩;refine aA (aH (fC 1 _) hd) (f:=eW) rfl rfl (Tp h.wd HT (d-1) t _ (aH (Nat.le_add_left_of_le (by decide)) d1) a.tgt.ht (aL ?_))
 cases Qy:cB c.v c.md HT t with
 |false=>exact kx [] S (λF=>az Qy) (.refl _) h rfl (aW _) (fD 1) λ_=>bg
 |true=>
 have n1:¬cB c.v c.md HT t=false:=Qy▸Bool.noConfusion;refine aZ h.wd.w rfl rfl (Hz (b:=[33]) (λjy=>?_) λjy=>?_)
 ·exact kx [(s,aa,aj)] S (λF=>(ay n1).trans (az jy)) (.refl _) h rfl (aW _) (aW 1) λx m=>au Prod.fst (dG m)
 refine aZ h.wd.w rfl rfl (fm (b:=1) rfl (fM h.wd.w rfl (show 15<cu by decide) ?_))
 have w1:Wd c.v c.nums c.cR (S.st+1) c.md (S.σ.set 1 (.dict (wD c.v c.nums c.cR (S.st+1)))):=h.wd.aG;have e1:aY HX S.σ (S.σ.set 1 (.dict (wD c.v c.nums c.cR (S.st+1)))):=(aY.refl _).set (.inl (.inl rfl)) _;have t1:f9 (S.σ.set 1 (.dict (wD c.v c.nums c.cR (S.st+1)))) S.tb:=h.eY.ext (X:=λl=>l=1) ((aY.refl (X:=λl=>l=1) S.σ).set (l:=1) (.inl rfl) _) ⟨by decide,by decide,by decide⟩
 show iJ TT (aS TT FT (d-1)) (eW.body.drop 3) (hE s t aa aj ao n none none none none none none) (dY Q) (S.σ.set 1 (.dict (wD c.v c.nums c.cR (S.st+1))));generalize S.σ.set 1 (.dict (wD c.v c.nums c.cR (S.st+1)))=gU at w1 e1 t1;have Qv:KW c ⟨S.st+1,S.tb,gU⟩:=⟨w1,t1,aH h.bd (cG (HL _) _),h.mkr⟩;have YL:(12<ao\/n=0\/20000<S.st+1\/qu (cI c.v) t=true)->Q (.lst []) gU:=λhc=>kx [] ⟨S.st+1,S.tb,gU⟩ (λF=>(ay n1).trans ((ay jy).trans (az hc))) e1 Qv rfl (HL _) (fD 1) λ_=>bg;refine qv (b:=12) (λTQ=>YL (.inl TQ)) λTQ=>MP (b:=40) (λh40=>YL (.inr (.inl (ade hn h40)))) λh40=>aZ w1.w rfl rfl (qv (a:=S.st+1) (b:=20000) (λhc3=>YL (.inr (.inr (.inl hc3)))) λhc3=>?_);have hn0:n≠0:=λe=>kY 40 (di (cK (au (40-·) e).symm) h40)
 have rest:qu (cI c.v) t=false->iJ TT (aS TT FT (d-1)) (eW.body.drop 4) (hE s t aa aj ao n none none none none none none) (dY Q) gU:=by
  intro hw;have ag5:¬(12<ao\/n=0\/20000<S.st+1\/qu (cI c.v) t=true):=λx=>x.elim (Nat.not_lt.mpr TQ) λx=>x.elim hn0 λx=>x.elim (Nat.not_lt.mpr hc3) λx=>eH (hw.symm.trans x);refine Hz (b:=[13]) (λMV=>?_) λMV=>?_
  ·exact kx [(s,aa,aj)] ⟨S.st+1,S.tb,gU⟩ (λF=>(ay n1).trans ((ay jy).trans ((ay ag5).trans (az MV)))) e1 Qv rfl (HL _) (aW 1) λx m=>au Prod.fst (dG m)
  obtain⟨m,rfl⟩:=Wn hn0;have YM:=MT (Nat.not_lt.mpr hc3);have d3:2*m+11<=d-1:=d1;have kb:∀af S',HP c 14 (λF=>Cg ⟨c.v,c.md,F⟩ (i6 c m F) s t aa aj ao (S.st+1)) ⟨S.st+1,S.tb,gU⟩ af S'->Q (.lst (af.map cW)) S'.σ:=λaf S' hp=>k af S' ⟨e1.trans hp.ext,hp.ok,hp.pre,hp.Ep,aH (HL _) hp.le,adg hp.len YM,hp.cD,λF p=>(jT (jT (jT (jT (jT (jT (hv F) s) t) aa) aj) ao) S.st).trans ((ay n1).trans ((ay jy).trans ((ay ag5).trans ((ay MV).trans ((H m rfl).2 F▸hp.val F p)))))⟩;refine KY (qv (b:=1) (λht1=>?_) λht1=>?_)
  ·refine fm (b:=1) (HM hn) (YF (S:=⟨S.st+1,S.tb,gU⟩) (H m rfl).1 d3 Qv a λaf S' hp=>kb af S' (hp.conv (aW _) λF _ e=>?_))
   match t,ht1,e with
   |_::_::_,_,e=>exact e
  ·match t,Qy,ht1,kb,hw,n1 with
   |[],Qy,_,_,_,n1=>exact absurd rfl n1
   |_::_::_,_,x,_,_,_=>exact absurd (QG x) (Nat.not_succ_le_zero _)
   |[p],Qy,_,kb,hw,_=>
    obtain⟨e,he⟩:=HK Qy (of_decide_eq_false hw);have hgp:bJ (vN p) (KP c.md)=some (fB e):=(pN ..).trans (au (Option.map fB) he);have gV:∀x,kF c.md (tu s)=x->iJ TT (aS TT FT (d-1)) (eW.body.drop 8) (hE s [p] aa aj ao (m+1) (some (vN e.1)) (some (fB x)) none none none none) (dY Q) gU:=λx ex=>adb (S:=⟨S.st+1,S.tb,gU⟩) (H m rfl).1 hm d3 hn Qv (aH (dQ h.bd 1) (cK (au (c.C+·) YM.symm))) hC a.cD a.aa a.aj he ex λaf S' hp=>kb af S' (hp.conv (aW _) λF _ e2=>(congr (au (λy z=>zx ⟨c.v,c.md,F⟩ (i6 c m F) s y z aa aj ao (S.st+1)) (au (λo:Option (Nat×List ai)=>o.getD (0,[])) he)) ex).trans e2)
    refine aZ w1.w rfl rfl (aI rfl (aZ w1.mT (oQ _ _) hgp (aI rfl (KY (bG (b:=1) (λh1=>?_) λh1=>?_)))))
    ·obtain⟨q,rfl⟩:=List.length_eq_one_iff.mp h1
     exact aZ w1.w rfl rfl (iZ w1.mT (.inl rfl) (aI rfl (rD w1.mT (oQ _ _) (TM q c.md) (gV _ rfl))))
    ·refine gV (0,[]) ?_
     match s,h1 with
     |[],_=>rfl
     |_::_::_,_=>rfl
     |[_],x=>exact absurd rfl x
 refine KY (bG (b:=1) (λht1=>?_) λht1=>?_)
 ·obtain⟨p,rfl⟩:=List.length_eq_one_iff.mp ht1
  refine aI rfl (aZ w1.w rfl rfl (KQ ?_));cases hpw:decide (p∈cI c.v)with
  |true=>exact YL (.inr (.inr (.inr hpw)))
  |false=>exact rest hpw
 ·refine rest ?_
  match t,ht1 with
  |[],_=>rfl
  |_::_::_,_=>rfl
  |[_],x=>exact absurd rfl x
where
 ade {n:Nat} (h:n<=40) (k:40<=40-n):n=0:=by omega
 adg {l a b x:Nat} (h:l+14*b<=x+14) (e:b=a+1):l+14*a<=x+1:=by omega
theorem YN(hm:Ph c.md)(hC:c.C+20001<cu)(n:Nat):n<=40->tK c n:=n.rec (λh=>MU hm hC h (λm e=>absurd e (Bw m).symm) λ_=>rfl)
  λn ih h=>MU hm hC h (λm e=>kZ e▸⟨ih (l8 h),λ_=>rfl⟩) λ_=>rfl
end
abbrev SLt(l:List Nat):Prop:=l.Pairwise (·<·)
abbrev leN:Nat->Nat->Bool:=λa b=>decide (a<=b)
section
theorem TR(h:a<=b):Jh leN a (b::bs)=a::b::bs:=az (dj h)
theorem adj(h:¬a<=b):Jh leN a (b::bs)=b::Jh leN a bs:=ay λe=>h (bx e)
theorem adk(a:Nat)(l:List Nat):SLt l->a∉l->SLt (Jh leN a l):=l.rec (λ_ _=>E7 _ _) λb bs ih hs ha=>by
 have h1:=List.pairwise_cons.mp hs;by_cases h:a<=b
 ·have Z1:=Nat.lt_of_le_of_ne h λe=>ha (e▸cC)
  exact TR h▸List.pairwise_cons.mpr ⟨λx hx=>(fY hx).elim (λe=>e▸Z1) λhx=>xK Z1 (h1.1 x hx),hs⟩
 ·exact adj h▸List.pairwise_cons.mpr ⟨λx hx=>(fY ((yg a bs).mem_iff.mp hx)).elim (λe=>e▸Nat.lt_of_not_le h) (h1.1 x),ih h1.2 λq=>ha (cP _ q)⟩
theorem YO(l:List Nat):l.Nodup->SLt (lG l):=l.rec (λ_=>List.Pairwise.nil) λa as ih h=>have h:=List.nodup_cons.mp h;adk a _ (ih h.2) λq=>h.1 (jw.mp q)
theorem YQ(l:List Nat):SLt l->lG l=l:=l.rec (λ_=>rfl) λa as ih h=>have h:=List.pairwise_cons.mp h
 (au (Jh leN a) (ih h.2)).trans (List.casesOn as (λ_=>rfl) (λb bs h=>TR (fT (h b cC))) h.1)
theorem zN(h:ks.Nodup)(k:Nat):(fO ks k).Nodup:=(c6 (k∈ks)).elim (λe=>(xB e).symm▸h) λe=>(jP e).symm▸List.nodup_append.mpr ⟨h,List.nodup_cons.mpr ⟨pY,Bx⟩,λa ha b hb q=>e (dG hb▸q▸ha)⟩
theorem HN(l:List Nat):∀ks:List Nat,ks.Nodup->(l.foldl fO ks).Nodup:=l.rec (λ_ h=>h) λa l ih _ h=>ih _ (zN h a)
theorem TS(l:List Nat):∀ks:List Nat,(ks++l).Nodup->l.foldl fO ks=ks++l:=l.rec (λks _=>(kX ks).symm) λa l ih ks h=>have e:=(rQ ks [a] l).symm
 (au (l.foldl fO) (jP λq=>(List.nodup_append.mp h).2.2 a q a cC rfl)).trans ((ih _ (e▸h)).trans e.symm)
theorem SLt.nodup(h:SLt l):l.Nodup:=List.Pairwise.imp (λh=>t8 h) h
theorem TU(h:l.Nodup):eS l=l:=TS l [] h
theorem oV(l:List Nat):(eS l).Nodup:=HN l [] Bx
end
structure Canon(l:ai):Prop where
 lt:SLt l
 top:nQ l=none\/l.length<=1
 st:∀p∈l,fP l p=true
section
theorem HO:nQ l=none↔0∉l/\13∉l/\1∉l:=⟨λh=>have q:=n h;have q1:=n q.2;⟨q.1,q1.1,(n q1.2).1⟩,λh=>(ay h.1).trans ((ay h.2.1).trans (ay h.2.2))⟩
where n {c:Prop} [Decidable c] {x:Nat} {o:Option Nat} (e:(if c then some x else o)=none):¬c/\o=none:=(c6 c).elim (λq=>ns ((az q).symm.trans e).symm) λq=>⟨q,(ay q).symm.trans e⟩
theorem MW(h:∀p∈a,p∈b)(hb:nQ b=none):nQ a=none:=have q:=HO.mp hb;HO.mpr ⟨λx=>q.1 (h _ x),λx=>q.2.1 (h _ x),λx=>q.2.2 (h _ x)⟩
theorem MX(h:∀p∈a,p∈b):En o b=false->En o a=false:=Option.casesOn o (λ_=>rfl) λw e=>dg λq=>of_decide_eq_false e (h w q)
theorem uX:fP b p=true↔En (dJ p) b=false/\En (bf p) b=false:=Bool.and_eq_true_iff.trans (and_congr (Bool.not_eq_true' _▸kH) (Bool.not_eq_true' _▸kH))
theorem Co(h:∀p∈a,p∈b)(e:fP b p=true):fP a p=true:=have q:=uX.mp e;uX.mpr ⟨MX h q.1,MX h q.2⟩
theorem MY{l:List (Nat×Nat)}(k:∀x∈l,x.1≠x.2):uP p l≠some p:=List.rec (λ_ e=>ns e) (λx r ih k=>(c6 (x.1=p)).elim (λh e=>k x cC (h.trans (bV ((az h).symm.trans e)).symm)) λh e=>ih (λy m=>k y (cP _ m)) ((ay h).symm.trans e)) l k
theorem MZ:o≠some p->En o [p]=false:=Option.casesOn o (λ_=>rfl) λw n=>dg λx=>n (au some (dG x))
theorem Canon.aR(p:Nat):Canon [p]:=⟨E7 _ _,.inr (aW _),λq hq=>dG hq▸uX.mpr ⟨MZ (MY (by decide)),MZ (MY (by decide))⟩⟩
theorem Canon.nil:Canon []:=⟨.nil,.inl rfl,λ_=>bg⟩
theorem Canon.aE(h:Canon b)(s:List.Sublist a b):Canon a:=⟨h.lt.sublist s,h.top.imp (MW λ_ q=>s.subset q) (aH s.length_le),λp hp=>Co (λ_ q=>s.subset q) (h.st p (s.subset hp))⟩
theorem canon_sum(l:List Nat):Canon (fF l):=by
 cases e:nQ (eS l)with
 |some t=>exact lJ e▸.aR t
 |none=>
  have aE:∀p∈(lG (eS l)).filter (fP (eS l)),p∈eS l:=λp hp=>jw.mp (List.mem_filter.mp hp).1;exact lI e▸⟨(YO _ (oV l)).sublist E8,.inl (MW aE e),λp hp=>Co aE (List.mem_filter.mp hp).2⟩
theorem jz(h:Canon l):fF l=l:=by
 have d:=TU h.lt.nodup;cases e:nQ (eS l)with
 |some t=>
  have m:=d▸Ho e;have l1:=h.top.elim (λq=>ns (q.symm.trans (d▸e))) id;have l2:=Fg l1 (List.length_pos_of_mem m);exact(lJ e).trans ((List.length_eq_one_iff.mp l2).elim λx q=>q.symm▸au (λx=>[x]) (dG (q▸m)))
 |none=>exact(lI e).trans (d.symm▸(YQ l h.lt).symm▸List.filter_eq_self.mpr h.st)
end
noncomputable def xF(v:Bool):aT:=[(27,14,[[25]]),(28,14,[[26]]),(29,15,[[25],[16]]),(30,14,[[17]]),(31,16,[[25],[7],[19],[30]]),(32,15,[[22],[23]]),(33,15,[[gW v],[24]]),(34,14,[[33]]),(35,15,[[33],[24]]),(36,14,[[24]])]
abbrev B0:List Nat:=[4,5,6,7,16,18,20,22,23,24,25,32,33,34,35,36]
structure K6(k:ai):Prop where
 len:k.length<=2
 b0:∀p∈k,p∈B0
abbrev Es:List ai:=[[33],[34],[25]]
structure M0(e:Nat×List ai)(cX yes no:ai):Prop where
 eq:e=(16,[cX,[6],yes,no])
 cX:cX∈Es
 yes:K6 yes
def Po(e:Nat×List ai):Prop:=∃cX yes no,M0 e cX yes no/\K6 no
def NoS(mk:aT)(p:Nat)(no:ai):Prop:=K6 no\/∃q e',no=[q]/\37<=q/\q<p/\aK mk q=some e'/\Po e'
structure Qz(v:Bool)(mk:aT):Prop where
 low:∀p,p<37->aK mk p=aK (xF v) p
 high:∀p e,37<=p->aK mk p=some e->∃cX yes no,M0 e cX yes no/\NoS mk p no
 Ay:∀p e,aK mk p=some e->∀k∈e.2,Canon k
theorem TV(mk:aT):aK mk p=some e->(p,e)∈mk:=mk.rec (λh=>ns h) λx r ih h=>(c6 (x.1=p)).elim (λg=>(show x=(p,e)from Prod.ext g (bV ((az g).symm.trans h)))▸cC) λg=>cP _ (ih ((ay g).symm.trans h))
theorem lO{α:Type}{o:Option α}{f:α->Bool}{x:α}(e:o.all f=true)(h:o=some x):f x=true:=(au (λo:Option α=>o.all f) h).symm.trans e
noncomputable def htB(mk:aT)(n:Nat):ai->Bool:=n.rec (λ_=>false) λ_ f t=>t.all λp=>decide (p<37)&&(aK mk p).all λe=>e.2.all f
section
variable{mk:aT}
theorem TY(h:∀p,p<37->aK mk p=aK (xF v) p)(n:Nat):∀t:ai,htB (xF v) n t=true->MN mk n t:=n.rec (λ_ e=>ff e) λn ih t e p hp x hx k hk=>have e:=ah (pW e p hp)
 ih k (pW (lO (f:=λe:Nat×List ai=>e.2.all (htB (xF v) n)) e.2 ((h p (bx e.1)).symm.trans hx)) k hk)
theorem ag8:∀v,(B0.all λp=>htB (xF v) 4 [p])=true:=by decide+kernel
theorem aaC(h:Qz v mk)(ht:∀p∈t,p∈B0):MN mk 4 t:=λp hp=>TY h.low 4 [p] (pW (ag8 v) p (ht p hp)) p (QF p)
theorem uY:∀c∈Es,c.length<=2/\∀p∈c,p∈B0:=by decide
theorem zO(h:M0 e cX yes no)(hk:k∈e.2):K6 k\/k=no:=by
 have hk:=(au Prod.snd h.eq)▸hk;have c:=uY cX h.cX;exact(fY hk).elim (λe=>.inl (e▸⟨c.1,c.2⟩)) λhk=>(fY hk).elim (λe=>.inl (e▸⟨by decide,by decide⟩)) λhk=>(fY hk).elim (λe=>.inl (e▸h.yes)) λhk=>.inr (dG hk)
theorem YR(h:Qz v mk)(f:Po e):∀k∈e.2,MN mk 4 k:=λk hk=>f.elim λcX⟨yes,no,c,hn⟩=>aaC h ((zO c hk).elim (λi=>i.b0) λe=>e▸hn.b0)
theorem zP(h:Qz v mk)(hp:37<=p)(he:aK mk p=some e)(hk:k∈e.2):K6 k\/∃q e',k=[q]/\37<=q/\q<p/\aK mk q=some e'/\Po e':=(h.high p e hp he).elim λcX⟨yes,no,c,hn⟩=>(zO c hk).elim .inl λe=>e▸hn
theorem YS(h:Qz v mk)(hp:37<=p)(he:aK mk p=some e)(k:ai)(hk:k∈e.2):k.length<=2/\MN mk 5 k:=(zP h hp he hk).elim (λi=>⟨i.len,.up 4 _ (aaC h i.b0)⟩) λ⟨q,e',ek,_,_,he',f⟩=>ek▸⟨gD 1,λq' hq' x hx=>bV ((dG hq'▸he').symm.trans hx)▸YR h f⟩
theorem YT:∀v,((xF v).all λx=>decide ((x.2.1,x.2.2.length)∈gA)&&(x.2.2.all (λk=>decide (k.length<=2)&&htB (xF v) 5 k)&&(! decide (x.1∈wL)||x.2.2.all λk=>k.all λq=>decide (q∈wL))))=true:=by decide+kernel
theorem Qz.uZ(h:Qz v mk):Ph mk:=by
 have kp:=λp e(hp:p<37)(he:aK mk p=some e)=>have a:=ah (pW (YT v) _ (TV (xF v) ((h.low p hp).symm.trans he)));(⟨a.1,ah a.2⟩:_/\_);refine⟨λp e he=>(AI p 37).elim (λhp=>?_) λhp=>⟨?_,YS h hp he⟩,λp e he hp=>?_⟩
 ·have q:=kp p e hp he
  exact⟨bx q.1,λk hk=>have z:=ah (pW q.2.1 k hk);⟨bx z.1,TY h.low 5 k z.2⟩⟩
 ·exact(h.high p e hp he).elim λcX⟨yes,no,c,hn⟩=>c.eq▸(show(16,4)∈gA by decide)
 ·have hl:∀p∈wL,p<37:=by decide
  have q:=(kp p e (hl p hp) he).2.2;rw [dj hp]at q;exactλk hk q' hq'=>bx (pW (pW q k hk) q' hq')
end
structure Tg(mk:aT)(t:ai):Prop where
 len:t.length<=4
 dc:∀p∈t,p∈B0\/37<=p/\∃e,aK mk p=some e
theorem K6.tg{mk:aT}(h:K6 k):Tg mk k:=⟨aH h.1 (by decide),λp hp=>.inl (h.2 p hp)⟩
section
theorem Cp{α β:Type}{o:fH α}{f g:α->M β}(n:¬(o.bind f).mw)(h:∀a s,¬(f a s).mw->g a s=f a s):o.bind g=o.bind f:=fH.casesOn o (λa s=>h a s) (λ_ _=>rfl) (λ_=>rfl) n
theorem Cq(k n:Nat):∀ρ s,¬(gO test body n ρ s).mw->gO test body (k+n) ρ s=gO test body n ρ s:=n.rec (λ_ _ h=>(h bu).elim) λn ih ρ s h=>Cp h λb s1=>b.casesOn (motive:=λb=>¬fH.mw ((if b=true then M.bind (c7 (body ρ)) (Au (gO test body n))else M.pure (.next ρ)) s1)->(if b=true then M.bind (c7 (body ρ)) (Au (gO test body (k+n)))else M.pure (.next ρ)) s1=(if b=true then M.bind (c7 (body ρ)) (Au (gO test body n))else M.pure (.next ρ)) s1) (λ_=>rfl) λh=>Cp h λf s2=>Fl.casesOn (motive:=λf=>¬(Au (gO test body n) f s2).mw->Au (gO test body (k+n)) f s2=Au (gO test body n) f s2) f (λfJ=>ih fJ s2) λ_ _=>rfl
def zQ(test:aQ->M Bool)(body:aQ->M Fl)(ρ:aQ)(s:St)(Q:Fl->St->Prop):Prop:=∃n,WP (gO test body n ρ) s Q
theorem TZ(h:zQ test body ρ s Q):WP (n7 test body ρ) s Q:=by
 obtain⟨n,⟨r,s',e,q⟩⟩:=h;have hn:¬(gO test body n ρ s).mw:=e▸id;have ex:∃n,¬(gO test body n ρ s).mw:=⟨n,hn⟩;refine⟨r,s',?_,q⟩;unfold n7;rw [dif_pos ex,←e,←Cq n _ ρ s ex.choose_spec,vP];exact Cq _ n ρ s hn
theorem T4(h:pT T C t ρ (pE T C t ρ) (λb s1=>b=false/\Q (.next ρ) s1) s):zQ (λρ=>BB T C t ρ (fV T C t ρ)) (λρ=>eZ T C bd ρ) ρ s Q:=⟨1,.bind (.c7 (((sE t).t ρ _ s h).mono λb s1 q=>(q.1▸.ret q.2)))⟩
theorem Pp(h:pT T C t ρ (pE T C t ρ) (λb s1=>b=true/\iJ T C bd ρ (λf s2=>∃fJ,f=.next fJ/\zQ (λρ=>BB T C t ρ (fV T C t ρ)) (λρ=>eZ T C bd ρ) fJ s2 Q) s1) s):zQ (λρ=>BB T C t ρ (fV T C t ρ)) (λρ=>eZ T C bd ρ) ρ s Q:=by
 obtain⟨b,s1,e1,eb,h1⟩:=((sE t).t ρ _ s h).out;obtain⟨f,s2,e2,fJ,ef,n,h2⟩:=(sSs bd ρ _ s1 h1).out;exact⟨n+1,.bind (.c7 (.of e1 (.ite (λ_=>.bind (.c7 (.of e2 (ef▸h2)))) λk=>absurd eb k)))⟩
end
noncomputable def Pq(v:V):Nat:=v.tU.toNat
noncomputable def iT(r:V):List Nat:=if c0 r=6 then(x0 r).g9.map Pq else(r.g9.tail.take ((uP (c0 r) gA).getD 0)).map Pq
inductive wO:Nat->List V->List Nat->Prop
 |G7 (ps:List Nat):wO 6 [.aC (bI ps)] ps
 |adl (c:Nat) (rest:List V):c∈[1,3,4,10]->wO c rest []
 |adm (c:Nat) (ks:List Nat) (tl:List V):(c,ks.length)∈gA->(c=16->tl=[.aC [],.int 0])->wO c (bI ks++tl) ks
theorem zR(ps:List Nat):(bI ps).map Pq=ps:=ps.rec rfl λp ps ih=>au (p::·) ih
theorem T5:∀x∈gA,uP x.1 gA=some x.2/\x.1≠6:=by decide+kernel
theorem T6:∀c∈[1,3,4,10],uP c gA=none/\c≠6:=by decide+kernel
theorem HQ(ks:List Nat)(tl:List V):(bI ks++tl).take ks.length=bI ks:=(au (λn=>(bI ks++tl).take n) (cT ..).symm).trans List.take_left
theorem wO.zS(h:wO c rest ks):iT (.aC (vN c::rest))=ks:=by
 cases h
 ·exact zR ks
 ·have q:=T6 c a
  exact(ay q.2).trans (au (λo:Option Nat=>(rest.take (o.getD 0)).map Pq) q.1)
 ·have q:=T5 _ a
  exact(ay q.2).trans ((au (λo:Option Nat=>((bI ks++tl).take (o.getD 0)).map Pq) q.1).trans ((au (List.map Pq) (HQ ks tl)).trans (zR ks)))
theorem HR(ps:List Nat):iT (kM ps)=ps:=zR ps
theorem dk(h:b<=d)(e:Nat.ble (a+1) b=true):a<=d-1:=Nat.le_sub_of_add_le (aH (I3 e) h)
theorem dl(h:b<=d)(e:Nat.ble a b=true):a<=d:=aH (I3 e) h
section
theorem Pr:∀x∈gA,bJ (vN x.1) oH=some (.aC [.int 1,vN (x.2+1)])/\gn (vN x.1) oH=true:=by decide+kernel
theorem YU:∀c∈[6,1,3,4,10],bJ (vN c) oH=none/\gn (vN c) oH=true:=by decide+kernel
theorem Cr(n i d:Nat):bK n (some (i:Int)) d=min i n:=show(if 0<=(i:Int)then min (i:Int).toNat n else((n:Int)+i).toNat)=_ from az (AD i)
theorem T7(x:V)(ks:List Nat)(tl:List V):cut (x::(bI ks++tl)) (some 1) (some ((ks.length+1:Nat):Int))=bI ks:=by
 have h1:bK (x::(bI ks++tl)).length (some ((ks.length+1:Nat):Int)) (x::(bI ks++tl)).length=ks.length+1:=(Cr ..).trans (nW (nG (aH (cK (cT ..).symm) (aH (bZ _ tl.length) (cK List.length_append.symm)))));have h2:bK (x::(bI ks++tl)).length (some 1) 0=1:=(Cr _ 1 0).trans (nW (nG (fD _)));unfold cut;rw [h1,h2];exact HQ ks tl
theorem K7(hd:1<=d)(h:wO c rest ks)(hl:ks.length<=64)(k:∀s',aY NX s s'->Q (.lst (bI ks)) s'):WP (aS TT FT d 330 [.aC (vN c::rest)]) s Q:=by
 have hl':=aH hl (show 64<=cu by decide)
 refine aA hd rfl rfl (aI rfl ?_);cases h
 ·refine Sw rfl rfl (fz rfl (aI rfl (.ret (jc vN vN ?_ hl' (λ_ _ ys K k1=>k1) (k _ ((aY.refl s).new _))))))
  exactλ_=>bu
 ·have q:=YU c (cP _ a)
  have n:∀n:Nat,n∉[1,3,4,10]->(c:Int)≠n:=λn h=>Ca λe=>h (e▸a);refine Sw rfl q.2 ?_;rw [q.1];exact bz (n 6 (by decide)) (bz (n 7 (by decide)) (bz (n 8 (by decide)) (bz (n 9 (by decide)) (bz (n 19 (by decide)) (bz (n 18 (by decide)) (bz (n 12 (by decide)) (bz (n 13 (by decide)) (k s (aY.refl s)))))))))
 ·have q:=Pr _ a
  refine Sw rfl q.2 ?_;rw [q.1];have e:=T7 (vN c) ks tl;refine agL rfl q.2 q.1 (xr (f:=ug (some (.int 1)) (some (vN (ks.length+1)))) (b:=.aC (bI ks)) ?_ (.ret (jc vN vN ?_ hl' (λ_ _ ys K k1=>k1) (k _ ((aY.refl s).new _)))))
  ·show(if(cut (vN c::(bI ks++tl)) (some 1) (some ((ks.length+1:Nat):Int))).length=(vN c::(bI ks++tl)).length then none else some (V.aC (cut (vN c::(bI ks++tl)) (some 1) (some ((ks.length+1:Nat):Int)))))=_
   rw [e];exact ay (t8 (Bv (aH (bZ _ tl.length) (cK List.length_append.symm))))
  ·exactλ_=>bu
theorem T8(hd:1<=d)(h:wO c rest ks)(k:Q (.aC []) s):WP (aS TT FT d 337 [.aC (vN c::rest)]) s Q:=by
 have n:c≠13/\c≠17/\(c=16->ZS (vN c::rest) 5=some (.aC [])):=by
  cases h
  ·exact⟨by decide,by decide,λe=>tg rfl e⟩
  ·exact⟨λe=>absurd (e▸a) (by decide),λe=>absurd (e▸a) (by decide),λe=>absurd (e▸a) (by decide)⟩
  ·refine⟨λe=>absurd (e▸a) (M1 (by decide)),λe=>absurd (e▸a) (M1 (by decide)),λe=>?_⟩
   have l4:=(Er _ a).2.2.1 e;obtain⟨x,y,z,w,hk⟩:=ag1 l4;rw [hk,a_1 e];rfl
 refine aA hd rfl rfl (aI rfl (bz (Ca n.1) (aI rfl (sV (λe=>aI (n.2.2 (nJ e)) k) λ_=>aI rfl (bz (Ca n.2.1) k)))))
where M1 {c n:Nat} (h:∀x∈gA,x.1≠c):(c,n)∉gA:=λm=>h _ m rfl
theorem T9(hd:2<=d)(h:wO c rest ks)(hl:ks.length<=64)(k:∀s',aY NX s s'->Q (.lst (bI ks)) s'):WP (aS TT FT d 344 [jv,.aC (vN c::rest)]) s Q:=aA (dl hd rfl) rfl rfl (K7 (dk hd rfl) h hl λs' e=>T8 (dk hd rfl) h (.ret ⟨bu,k s' e⟩))
end
section
variable{T:iL}{C:Nat->List V->M V}{s:St}
theorem HS(h:At s l (.list xs))(k:Q (! xs.isEmpty) s):WP (gK T (.ref l)) s Q:=pH h rfl k
theorem aha(h:At s l (.list (xs++[v])))(k:Q v (s.set l (.list xs))):WP (gZ T C (.ref l) nY 1 []) s Q:=fj h (.bind (.nV List.getLast?_concat (.bind (.of rfl (.ret (by rw [List.dropLast_concat];exact k))))))
theorem Ua(h:At s l (.list xs))(hl:xs.length+ys.length<cu)(k:Q .none (s.set l (.list (xs++ys)))):WP (gZ T C (.ref l) kg 1 [.lst ys]) s Q:=fj h (show WP (if xs.length+ys.length<cu then gg (jf l (.list (xs++ys))) .none else M.fail) s Q from(az hl).symm▸.bind (.of rfl (.ret k)))
theorem Et(h:At s l (.dict (jY ks)))(hl:ks.length<cu)(k:Q () (s.set l (.dict (jY (fO ks p))))):WP (xS (.ref l) (vN p) (.int 1)) s Q:=fM h (jq _ _) (Em ks▸hl) (by rw [Hf];exact k)
end
theorem gf{α:Type}(l:List α)(x:α):(l++[x]).length=l.length+1:=gH
theorem jA(a:List Nat):∀b:List Nat,a.Nodup->(∀x∈a,x∈b)->a.length<=b.length:=a.rec (λ_ _ _=>fD _) λx xs ih b hn hs=>have hn:=List.nodup_cons.mp hn
  have hx:=hs x cC
  Nat.succ_le_of_lt (Nat.lt_of_le_pred (List.length_pos_of_mem hx) (aH (ih (b.erase x) hn.2 λy hy=>(List.mem_erase_of_ne λe:y=x=>hn.1 (e▸hy)).mpr (hs y (cP _ hy))) (cK (List.length_erase_of_mem hx))))
inductive d8(tb:List V):Nat->Nat->Prop
 |refl (p:Nat):d8 tb p p
 |step {p q r:Nat} {x:V}:tb[p]?=some x->q∈iT x->d8 tb q r->d8 tb p r
theorem d8.trans(h:d8 tb p q)(k:d8 tb q r):d8 tb p r:=by
 induction h with
 |refl p=>exact k
 |step a b _ ih=>exact .step a b (ih k)
theorem d8.ahb(h:d8 tb p q)(e:tb[q]?=some x)(hr:r∈iT x):d8 tb p r:=h.trans (.step e hr (.refl _))
structure K8(tb:List V)(p c:Nat)(rest:List V)(ks:List Nat):Prop where
 cR:tb[p]?=some (.aC (vN c::rest))
 row:wO c rest ks
 len:ks.length<=8
def oW(tb:List V)(S:List Nat):Prop:=∀p∈S,∃c rest ks,K8 tb p c rest ks/\∀q∈ks,q∈S
structure Clo(tb:List V)(S:List Nat):Prop where
 row:oW tb S
 len:S.length<64
structure Eu(tb:List V)(S:List Nat)(t:Nat)(bO r:List Nat):Prop where
 nd:bO.Nodup
 ok:∀q,q∈bO\/q∈r->q∈S/\d8 tb t q
 zS:∀p∈bO,∀x,tb[p]?=some x->∀q∈iT x,q∈bO\/q∈r
 has:t∈bO\/t∈r
 len:r.length<=8*bO.length+1
section
variable{tb:List V}{S:List Nat}{t x:Nat}{bO r:List Nat}
theorem Eu.done(h:Eu tb S t bO [])(q:Nat):q∈bO↔d8 tb t q:=by
 refine⟨λm=>(h.ok q (.inl m)).2,λr=>?_⟩;have go:∀p,d8 tb p q->p∈bO->q∈bO:=by
  intro p r;induction r with
  |refl p=>exact id
  |step e hq _ ih=>exactλhp=>ih ‹_› ((h.zS _ hp _ e _ hq).resolve_right pY)
 exact go t r (h.has.resolve_right pY)
theorem Eu.skip(h:Eu tb S t bO (x::r))(hx:x∈bO):Eu tb S t bO r:=
 have out:=λq m=>m.elim .inl λm=>(fY m).elim (λe=>.inl (e▸hx)) .inr
 ⟨h.nd,λq m=>h.ok q (m.imp id (cP _)),λp hp y e q hq=>out q (h.zS p hp y e q hq),out t h.has,l8 h.len⟩
theorem Eu.add(h:Eu tb S t bO (x::r))(hx:x∉bO)(e:tb[x]?=some y)(hk:(iT y).length<=8)(hs:∀q∈iT y,q∈S):Eu tb S t (bO++[x]) ((iT y).reverse++r):=by
 have hxr:=h.ok x (.inr cC);have in1:∀{q},q∈iT y->q∈(iT y).reverse++r:=λm=>nE _ (List.mem_reverse.mpr m);have out:∀q,q∈bO\/q∈x::r->q∈bO++[x]\/q∈(iT y).reverse++r:=λq m=>m.elim (λm=>.inl (nE _ m)) λm=>(fY m).elim (λe=>.inl (kU _ (List.mem_singleton.mpr e))) λm=>.inr (kU _ m);refine⟨jP hx▸zN h.nd x,λq m=>?_,λp hp z ez q hq=>?_,out t h.has,?_⟩
 ·exact m.elim (λm=>(tW m).elim (λm=>h.ok q (.inl m)) λm=>dG m▸hxr) λm=>(tW m).elim (λm=>have m:=List.mem_reverse.mp m;⟨hs q m,hxr.2.ahb e m⟩) λm=>h.ok q (.inr (cP _ m))
 ·exact(tW hp).elim (λhp=>out q (h.zS p hp z ez q hq)) λhp=>.inr (in1 (bV (e.symm.trans (dG hp▸ez))▸hq))
 ·rw [gH,gH,List.length_reverse]
  exact aH (pZ hk (l8 h.len)) (cK (vP 8 _|>.trans (qC ..)))
theorem M3(a b:List Nat):bI a++bI b=bI (a++b):=(mh).symm
def aaD(d:Nat)(s:St)(t:Nat)(Q:V->St->Prop)(σ:St)(x4:Option V):Prop:=zQ (λρ=>BB TT (aS TT FT (d-1)) (.var 3) ρ (fV TT (aS TT FT (d-1)) (.var 3) ρ)) (λρ=>eZ TT (aS TT FT (d-1)) [.set 4 (.bA (.var 3) nY []),.ite (.and [.aM .ge (.var 4) (.br (.int 0)),.aM .dz (.var 4) (.var 2)]) [.dR (.var 2) (.var 4) (.br (.int 1)),.gM (.bA (.var 3) kg [.call (.br (.fn 344)) [.var 0,.aE (.attr (.var 0) agM) (.var 4)]])] []] ρ)
    [some jv,some (vN t),some (.ref s.length),some (.ref (s.length+1)),x4] σ (flQ (iJ TT (aS TT FT (d-1)) [.ret (.call (.br (.bi 1)) [.var 2])]) (dY Q))
abbrev adn(tb:List V)(S:List Nat)(d:Nat)(s:St)(t:Nat)(Q:V->St->Prop)(n:Nat):Prop:=∀(bO r:List Nat)(σ:St)(x4:Option V),S.length<=bO.length+n->Eu tb S t bO r->aY NX s σ->At σ s.length (.dict (jY bO))->At σ (s.length+1) (.list (bI r.reverse))->aaD d s t Q σ x4
theorem K9(hd:3<=d)(h:f9 s tb)(c:Clo tb S)(ht:t∈S)
  (k:∀s' ps,aY NX s s'->(∀q,q∈ps↔d8 tb t q)->(∀q∈ps,q∈S)->ps.length<64->Q (.lst (bI ps)) s'):WP (aS TT FT d 351 [jv,vN t]) s Q:=by
 refine aA (dl hd rfl) rfl rfl (fW (TZ ?_));have step:∀n,(∀m,n=m+1->adn tb S d s t Q m)->adn tb S d s t Q n:=by
  have ne:s.length+1≠s.length:=Nat.succ_ne_self _;have l2:s.length<=s.length+1:=gD _;intro n ihn bO r;induction r generalizing bO with
  |nil=>
   intro σ x4 hm iv e a1 a2;refine T4 (HS a2 ⟨rfl,?_⟩);have hl:=di (jA _ _ iv.nd λq m=>(iv.ok q (.inl m)).1) c.len;exact zo a1 hl (k _ _ e (λq=>jw.trans (iv.done q)) (λq hq=>(iv.ok q (.inl (jw.mp hq))).1) (uR _ bO▸hl))
  |cons x r ihr=>
   intro σ x4 hm iv e a1 a2;rw [List.reverse_cons,←M3]at a2;have a1':=a1.bF (d:=.list (bI r.reverse)) ne;have a2':=a2.dS (d:=.list (bI r.reverse));have e':=e.set (.inr l2) (.list (bI r.reverse));refine Pp (HS a2 ⟨by cases bI r.reverse<;>rfl,oM a2 (.inr (.inr rfl)) (aha a2 (zg (Ej x) (oK a1' (jq _ _) ?_)))⟩)
   rw [jO,xA];by_cases hx:x∈bO
   ·rw [dj hx]
    exact⟨_,rfl,ihr bO _ _ hm (iv.skip hx) e' a1' a2'⟩
   rw [dg hx];obtain⟨cc,rest,ks,row,hk⟩:=c.row x (iv.ok x (.inr cC)).1;have iv':=row.row.zS▸iv.add hx row.cR (row.row.zS.symm▸row.len) (row.row.zS.symm▸hk);have hsl:=jA _ _ iv'.nd λq m=>(iv'.ok q (.inl m)).1;have ahd:=di (aH (cK (gf bO x).symm) hsl) c.len;refine Et a1' (fX (Nat.lt_of_succ_lt ahd)) ?_;rw [jP hx];have alc:=a1'.dS (d:=.dict (jY (bO++[x])));have ado:=a2'.bF (d:=.dict (jY (bO++[x]))) ne.symm;have e'':=e'.set (.inr (aW _)) (.dict (jY (bO++[x])));have h2:=h.nx e'';refine oM ado (.inr (.inl rfl)) (o_attr h2.ns rfl (dP h2.fN row.cR (T9 (dk hd rfl) row.row (aH row.len (by decide)) λwN e2=>Ua (e2.at id ado) ?_ ⟨_,rfl,?_⟩)))
   ·refine di (pZ (b:=8*64) ?_ (aH (cK (cT ..)) row.len)) (by decide)
    exact aH (cK ((cT ..).trans List.length_reverse)) (aH (QG iv.len) (kW 8 (fT (Nat.lt_of_succ_lt ahd))))
   ·have eb:=(M3 ..).trans (au bI (List.reverse_append.trans (au (r.reverse++·) (List.reverse_reverse ks))).symm)
    have a3:=((e2.at id ado).dS).trans (au (λl=>some (bw.list l)) eb);obtain⟨m,rfl⟩:∃m,n=m+1:=Wn λe=>Nat.not_succ_le_self _ (aH (aH (cK (gf bO x).symm) hsl) (aH hm (cK (au (bO.length+·) e))))
    exact ihn m rfl _ _ _ _ (aH hm (cK ((nH ..).symm.trans ((qC ..).trans (au (·+m) (gf bO x).symm))))) iv' ((e''.trans e2).set (.inr l2) _) ((e2.at id alc).bF ne) a3
 have ald:∀n,adn tb S d s t Q n:=λn=>n.rec (step 0 λm e=>absurd e (Bw m).symm) λn ih=>step (n+1) λm e=>kZ e▸ih;have L:=ald S.length [] [t] _ none (fC _ _) ⟨Bx,λq m=>m.elim bg λm=>by rw [dG m];exact⟨ht,.refl t⟩,λp=>bg,.inr (QF t),aW _⟩ (((aY.refl s).new _).new _) bS.new (gf s (bw.dict [])▸bS)
 unfold aaD at L;rw [←gf s (bw.dict [])]at L;exact L
end
noncomputable def lP(ps:List Nat):List Nat:=(ps.filter nk).map (·-22)
theorem Ub:∀v,∀c<4,(base v)[22+c]?=some (G5 c):=by decide+kernel
theorem Pu:nk p=true↔22<=p/\p<=25:=Bool.and_eq_true_iff.trans (and_congr decide_eq_true_iff decide_eq_true_iff)
theorem La(h:nk p=true):22+(p-22)=p/\p-22<4:=have q:=Pu.mp h;⟨I5 q.1,Nat.sub_lt_left_of_lt_add q.1 (Bv q.2)⟩
section
variable{tb:List V}(g:bW tb)
include g
theorem M4(e:tb[p]?=some (.aC (vN c::rest))):(c=10->nk p=true/\rest=[vN (p-22)])/\(c≠10->nk p=false):=by
 refine⟨λhc=>?_,λhc=>Bool.eq_false_iff.mpr λhp=>?_⟩
 ·obtain⟨c',am6,er,cl⟩:=g.cls p _ e
  have q:=je (V.aC.inj er);exact q.2▸cl.Qt ((eX q.1).symm.trans hc)
 ·have q:=La hp
  exact hc (eX (rA (bV (e.symm.trans (g.get λv=>(au (λn:Nat=>(base v)[n]?) q.1.symm).trans (Ub v (p-22) q.2))))))
theorem u0{S:List Nat}(hd:4<=d)(h:f9 s tb)(c:Clo tb S)(ht:t∈S)
  (k:∀s' ps,aY NX s s'->(∀q,q∈ps↔d8 tb t q)->ps.length<64->Q (.lst (bI (lP ps))) s'):WP (aS TT FT d 940 [m,jv,vN t]) s Q:=by
 refine aA (dl hd rfl) rfl rfl (K9 (dk hd rfl) h c ht λs1 ps e1 QA hS hl=>.ret (lH vN nk (λp=>vN (p-22)) ?_ (fT (fX hl)) (λp hp ys K k1 k2=>?_) ?_))
 ·exactλ_=>bu
 ·obtain⟨cc,rest,ks,row,_⟩:=c.row p (hS p hp)
  have pr:=M4 g row.cR;have h2:=(h.nx e1).new (.list ys);refine o_attr h2.ns rfl (dP h2.fN row.cR (aI rfl (bG (λe=>?_) λe=>k2 (pr.2 e))));have q:=pr.1 e;refine o_attr h2.ns rfl (dP h2.fN row.cR (aI ?_ (k1 q.1)));rw [q.2];rfl
 ·exact(oN (·-22) _)▸k _ ps (e1.new .bH) QA hl
end
noncomputable def oX(e:Nat×List ai):List V:=if e.1=16 then [.aC [],.int 0]else []
noncomputable def qj(tb:List V)(e:Nat×List ai):V:=.aC (vN e.1::(bI (e.2.map (U tb))++oX e))
structure MkT(tb:List V)(mk:aT):Prop where
 row:∀p e,aK mk p=some e->tb[p]?=some (qj tb e)
 kd:∀p e,aK mk p=some e->∀k∈e.2,Kd tb k
theorem MkT.pre{mk:aT}(h:eT a b)(m:MkT a mk):MkT b mk:=⟨λp e he=>h.get ((m.row p e he).trans (au (λl=>some (V.aC (vN e.1::(bI l++oX e)))) (CM λk hk=>(g8 h (m.kd p e he k hk)).symm))),λp e he k hk=>(m.kd p e he k hk).pre h⟩
theorem row_shape(h:(e.1,e.2.length)∈gA):wO e.1 (bI (e.2.map (U tb))++oX e) (e.2.map (U tb)):=.adm _ _ _ ((cT (f:=U tb)).symm▸h) λc=>az c
theorem Uc:∀x∈gA,x.1≠8:=by decide
theorem MkT.mkR{mk:aT}(m:MkT tb mk)(h:Qz v mk):MkR tb mk:=λp e he=>⟨e.1,_,m.row p e he,Uc _ (h.uZ.ok p e he).1⟩
section
variable{tb:List V}{X Y S:List Nat}
theorem oW.app(h:oW tb (X++S))(k:oW tb (Y++S)):oW tb ((X++Y)++S):=by
 have i1:X++S⊆(X++Y)++S:=λq m=>(tW m).elim (λm=>nE _ (nE _ m)) (kU _);have i2:Y++S⊆(X++Y)++S:=λq m=>(tW m).elim (λm=>nE _ (kU _ m)) (kU _);have j1:=λp m=>(h p m).imp λc x=>x.imp λrest x=>x.imp λks x=>And.intro x.1 λq m=>i1 (x.2 q m);have j2:=λp m=>(k p m).imp λc x=>x.imp λrest x=>x.imp λks x=>And.intro x.1 λq m=>i2 (x.2 q m);exactλp hp=>(tW hp).elim (λm=>(tW m).elim (λm=>j1 p (nE _ m)) λm=>j2 p (nE _ m)) λm=>j1 p (kU _ m)
theorem oW.cons(h:oW tb S)(r:K8 tb p c rest ks)(q:∀x∈ks,x∈S):oW tb (p::S):=λx hx=>(fY hx).elim (λe=>by rw [e];exact⟨c,rest,ks,r,λy hy=>cP _ (q y hy)⟩) λhx=>(h x hx).imp λc x=>x.imp λrest x=>x.imp λks x=>⟨x.1,λq m=>cP _ (x.2 q m)⟩
end
abbrev S0:List Nat:=2::B0
noncomputable def Ud(v:Bool)(p:Nat):Bool:=(base v)[p]?.any λr=>decide (c0 r∈[1,3,4,10])&&decide (r=.aC (vN (c0 r)::r.g9.tail))
theorem Ue(hb:eT (base v) tb)(h:Ud v p=true):∃c rest,K8 tb p c rest []:=by
 unfold Ud at h;cases e:(base v)[p]? with
 |none=>rw [e]at h;exact ff h
 |some r=>
  rw [e]at h;have q:=ah h;exact⟨c0 r,r.g9.tail,hb.get (e.trans (au some (bx q.2))),.adl _ _ (bx q.1),fD _⟩
theorem adp:∀v,(S0.all λp=>decide (p<37)&&(((aK (xF v) p).isSome||Ud v p)&&(aK (xF v) p).all λe=>decide (e.2.length<=2)&&e.2.all λk=>B0.any λx=>decide (k=[x])))=true:=by decide+kernel
section
variable{v:Bool}{mk:aT}{tb:List V}(hs:Qz v mk)(hb:eT (base v) tb)(m:MkT tb mk)
include hs hb m
omit m in
theorem Ew(hp:p∈S0):(aK mk p=none->∃c rest,K8 tb p c rest [])/\∀e,aK mk p=some e->e.2.length<=2/\∀k∈e.2,∃x,x∈B0/\k=[x]:=by
 have kp:=ah (pW (adp v) p hp);have lo:=hs.low p (bx kp.1);have kp:=ah kp.2;refine⟨λe=>Ue hb ?_,λe he=>?_⟩
 ·have q:=kp.1
  rw [au Option.isSome (lo.symm.trans e)]at q;exact q
 ·have q:=ah (lO (f:=λe:Nat×List ai=>decide (e.2.length<=2)&&e.2.all λk=>B0.any λx=>decide (k=[x])) kp.2 (lo.symm.trans he))
  exact⟨bx q.1,λk hk=>(List.any_eq_true.mp (pW q.2 k hk)).imp λx h=>⟨h.1,bx h.2⟩⟩
theorem zT(he:aK mk p=some e)(hl:e.2.length<=8):K8 tb p e.1 (bI (e.2.map (U tb))++oX e) (e.2.map (U tb)):=⟨m.row p e he,row_shape (hs.uZ.ok p e he).1,aH (cK (cT ..)) hl⟩
theorem Lb:oW tb S0:=λp hp=>by
 have q:=Ew hs hb hp;cases e:aK mk p with
 |none=>exact(q.1 e).imp λc x=>x.imp λrest r=>⟨[],r,λ_=>bg⟩
 |some x=>
  have h:=q.2 x e;exact⟨_,_,_,zT hs hb m e (aH h.1 (by decide)),λy hy=>(List.mem_map.mp hy).elim λk hk=>(h.2 k hk.1).elim λz hz=>hk.2▸hz.2▸cP _ hz.1⟩
omit hs hb m in
theorem mU{P:ai->Nat->Prop}(h0:P [] 2)(h1:∀p,P [p] p)(h2:∀k,2<=k.length->P k (putN tb (kM k)))(k:ai):P k (U tb k):=List.casesOn k h0 λp r=>List.casesOn r (h1 p) λq r=>h2 _ (fC 2 _)
omit hs hb m in
theorem oW.kind{S:List Nat}(h:oW tb S)(h2:2∈S)(g:bW tb):Kd tb k->k.length<=8->(∀p∈k,p∈S)->oW tb (U tb k::S):=
 have dup:=λx hx=>(h x hx).elim λc y=>y.elim λrest y=>y.elim λks y=>h.cons y.1 y.2
 mU (P:=λk u=>Kd tb k->k.length<=8->(∀p∈k,p∈S)->oW tb (u::S)) (λ_ _ _=>dup 2 h2) (λp _ _ hp=>dup p (hp p cC)) (λk l hk hl hp=>h.cons ⟨(g.G7 (hk.has l)).1,.G7 _,hl⟩ hp) k
theorem zU(g:bW tb)(he:aK mk p=some e)(c:M0 e cX yes no)(hX:oW tb (X++S0))(hn:no.length<=2)(N6:∀q∈no,q∈X++S0):oW tb ((p::U tb no::U tb yes::X)++S0):=by
 have e2:=au Prod.snd c.eq;have Mq:∀Y:List Nat,2∈Y++S0:=λY=>kU _ cC;have kd:=λk(hk:k∈[cX,[6],yes,no])=>m.kd p _ he k (e2▸hk);have b0:∀{z},z∈B0->z∈X++S0:=λhz=>kU _ (cP _ hz);have c1:=hX.kind (Mq X) g (kd yes (pX (i:=2) rfl)) (aH c.yes.1 (by decide)) λq hq=>b0 (c.yes.2 q hq)
 have c2:=c1.kind (cP _ (Mq X)) g (kd no (pX (i:=3) rfl)) (aH hn (by decide)) λq hq=>cP _ (N6 q hq)
 have in0:∀{z},z∈B0->z∈U tb no::U tb yes::(X++S0):=λhz=>cP _ (cP _ (b0 hz));refine c2.cons (zT hs hb m he (e2▸(show 4<=8 by decide))) λx hx=>?_
 have hx:x∈[U tb cX,6,U tb yes,U tb no]:=(au (λl:List ai=>x∈l.map (U tb)) e2).mp hx;refine(fY hx).elim (λq=>?_) λhx=>(fY hx).elim (λq=>q▸in0 (by decide)) λhx=>(fY hx).elim (λq=>q▸cP _ cC) λhx=>dG hx▸cC
 have aR:∀c∈Es,c=[c.headD 0]/\c.headD 0∈B0:=by decide
 have o:=aR cX c.cX;exact q▸o.1▸in0 o.2
theorem Ug(g:bW tb)(hp:37<=p)(he:aK mk p=some e):∃X:List Nat,X.length<=6/\p∈X/\oW tb (X++S0):=by
 have c0:=Lb hs hb m;have b0:∀{X no},K6 no->∀q∈no,q∈X++S0:=λi q hq=>kU _ (cP _ (i.2 q hq));obtain⟨cX,yes,no,c,hn⟩:=hs.high p e hp he;rcases hn with hn|⟨q,e',en,_,_,he',apz,ale,no',c',Oj⟩
 ·exact⟨[p,U tb no,U tb yes],show 3<=6 by decide,cC,zU hs hb m g he c c0 hn.1 (b0 hn)⟩
 ·exact⟨[p,U tb no,U tb yes,q,U tb no',U tb ale],aW 6,cC,zU hs hb m g he c (zU hs hb m g he' c' c0 Oj.1 (b0 Oj)) (en▸gD 1) λx hx=>dG (en▸hx:x∈[q])▸nE _ cC⟩
theorem Uh(g:bW tb)(t:ai):(∀p∈t,p∈B0\/37<=p/\∃e,aK mk p=some e)->∃X:List Nat,X.length<=6*t.length/\(∀p∈t,p∈X++S0)/\oW tb (X++S0):=t.rec (λ_=>⟨[],fD _,λ_=>bg,Lb hs hb m⟩) λp t ih h=>by
  obtain⟨X,hl,hX,c⟩:=ih λq hq=>h q (cP _ hq);refine(h p cC).elim (λhp=>⟨X,aH hl (kW 6 (gD _)),λq hq=>(fY hq).elim (λe=>e▸kU _ (cP _ hp)) (hX q),c⟩) λ⟨hp,e,he⟩=>?_;obtain⟨Y,hl2,hY,c2⟩:=Ug hs hb m g hp he;exact⟨Y++X,aH (cK (List.length_append.trans (vP ..))) (pZ hl hl2),λq hq=>(fY hq).elim (λe=>e▸nE _ (nE _ hY)) λhq=>(tW (hX q hq)).elim (λm=>nE _ (kU _ m)) (kU _),c2.app c⟩
theorem adq(g:bW tb)(ht:Tg mk t)(hk:Kd tb t):∃S,Clo tb S/\U tb t∈S:=by
 obtain⟨X,hl,hX,c⟩:=Uh hs hb m g t ht.2;exact⟨_,⟨c.kind (kU _ cC) g hk (aH ht.1 (by decide)) hX,di (nG (aH (cK gH) (dQ (aH hl (kW 6 ht.1)) 17))) (by decide)⟩,cC⟩
end
section
variable{v:Bool}{mk:aT}{tb:List V}
theorem M5(g:bW tb):∀t,Kd tb t->p∈t->d8 tb (U tb t) p:=mU (P:=λt u=>Kd tb t->p∈t->d8 tb u p) (λ_=>bg) (λq _ hp=>dG hp▸.refl _) λk l hk hp=>.step (g.G7 (hk.has l)).1 ((HR k).symm▸hp) (.refl p)
theorem Pw:∀v,((cI v).all λq=>decide ((base v)[q]?=some (G5 (q-22)))&&nk q)=true:=by decide+kernel
theorem u5(hq:q∈cI v):(base v)[q]?=some (G5 (q-22))/\nk q=true:=have k:=ah (pW (Pw v) q hq);⟨bx k.1,k.2⟩
variable(hs:Qz v mk)(hb:eT (base v) tb)(m:MkT tb mk)
include hs hb m
omit m in
theorem Lc(hp:p∈B0\/37<=p/\∃e,aK mk p=some e)(he:aK mk p=some e)(k:ai)(hk:k∈e.2):Tg mk k/\k.length<=2:=hp.elim (λhp=>((Ew hs hb (cP _ hp)).2 e he).2 k hk|>.elim λx h=>h.2▸⟨⟨show 1<=4 by decide,λq hq=>.inl (dG hq▸h.1)⟩,gD 1⟩)
  λhp=>(zP hs hp.1 he hk).elim (λi=>⟨i.tg,i.1⟩) λ⟨q,e',ek,hq,_,he',_⟩=>ek▸⟨⟨show 1<=4 by decide,λz hz=>.inr (dG hz▸⟨hq,_,he'⟩)⟩,gD 1⟩
omit m in
theorem YV(hp:p∈B0\/37<=p/\∃e,aK mk p=some e)(he:aK mk p=none):∃c rest,K8 tb p c rest []:=hp.elim (λhp=>(Ew hs hb (cP _ hp)).1 he) λhp=>hp.2.elim λe h=>ns (he.symm.trans h)
theorem HU(g:bW tb)(n:Nat):∀t:ai,Tg mk t->Kd tb t->cB v mk n t=true->∃q,q∈cI v/\d8 tb (U tb t) q:=n.rec (λ_ _ _ h=>ff h) λn ih t ht hk h=>by
 obtain⟨p,hp,h⟩:=List.any_eq_true.mp h;refine(Bool.or_eq_true_iff.mp h).elim (λh=>⟨p,bx h,M5 g t hk hp⟩) λh=>?_;cases e:aK mk p with
 |none=>rw [e]at h;exact ff h
 |some x=>
  rw [e]at h;obtain⟨k,OD,h⟩:=List.any_eq_true.mp h;obtain⟨q,hq,r⟩:=ih k (Lc hs hb (ht.2 p hp) e k OD).1 (m.kd p x e k OD) h;exact⟨q,hq,((M5 g t hk hp).ahb (m.row p x e) ((row_shape (hs.uZ.ok p x e).1).zS▸List.mem_map.mpr ⟨k,OD,rfl⟩)).trans r⟩
omit hs hb m in
theorem d8.out(r:d8 tb p q):p=q\/∃z x,tb[p]?=some x/\z∈iT x/\d8 tb z q:=d8.casesOn r (λ_=>.inl rfl) λa b c=>.inr ⟨_,_,a,b,c⟩
theorem HV(g:bW tb)(hq:q∈cI v)(n:Nat):∀t:ai,MN mk n t->Tg mk t->Kd tb t->d8 tb (U tb t) q->cB v mk n t=true:=n.rec (λ_ h=>h.elim) λn ih t hh ht hk r=>by
 have hi:=hb.get (u5 hq).1;have nq:∀r,tb[q]?=some r->c0 r=10:=λr e=>bV (hi.symm.trans e)▸rfl;have dc:=mU (P:=λt u=>Kd tb t->d8 tb u q->∃p∈t,d8 tb p q)
  (λ_ r=>r.out.elim (λe=>tg rfl (nq (uO NP) (e▸g.KI))) λ⟨z,x,e,h,_⟩=>bg (bV (g.KI.symm.trans e)▸h:z∈iT (uO NP)))
  (λp _ r=>⟨p,cC,r⟩) (λk l hk r=>have eu:=(g.G7 (hk.has l)).1;r.out.elim (λe=>tg rfl (nq (kM k) (e▸eu))) λ⟨z,x,e,h,r⟩=>⟨z,HR k▸bV (eu.symm.trans e)▸h,r⟩) t hk r
 obtain⟨p,hp,r⟩:=dc;refine List.any_eq_true.mpr ⟨p,hp,Bool.or_eq_true_iff.mpr (r.out.elim (λe=>.inl (dj (e▸hq))) λ⟨z,x,ex,hz,r⟩=>.inr ?_)⟩;cases em:aK mk p with
 |none=>
  obtain⟨c,rest,row⟩:=YV hs hb (ht.2 p hp) em;exact bg (row.row.zS▸bV (row.cR.symm.trans ex)▸hz)
 |some y=>
  have hz:=(row_shape (hs.uZ.ok p y em).1).zS▸bV ((m.row p y em).symm.trans ex)▸hz;obtain⟨k,OD,ek⟩:=List.mem_map.mp hz;exact List.any_eq_true.mpr ⟨k,OD,ih k (hh p hp y em k OD) (Lc hs hb (ht.2 p hp) em k OD).1 (m.kd p y em k OD) (ek▸r)⟩
omit hb m in
theorem aaF(ht:Tg mk t):MN mk HT t:=λp hp e he k hk=>((hs.uZ.ok p e he).2 k hk).2
noncomputable def tM(v:Bool):List Nat:=if v then [0,1,2]else [0,2]
omit hs hb m in
theorem Cs:∀v,∀c<4,((22+c)∈cI v↔c∈tM v):=by decide+kernel
omit hs hb m in
theorem Cu(v:Bool):q∈cI v↔nk q=true/\q-22∈tM v:=⟨λh=>have hp:=(u5 h).2;have k:=La hp;⟨hp,(Cs v _ k.2).mp (k.1.symm▸h)⟩,λh=>have k:=La h.1;k.1▸(Cs v _ k.2).mpr h.2⟩
theorem Px(g:bW tb)(ht:Tg mk t)(hk:Kd tb t){ps wl:List Nat}(hw:∀i,i∈wl↔i∈tM v)(QA:∀q,q∈ps↔d8 tb (U tb t) q):
  ((lP ps).any λi=>decide (i∈wl))=cB v mk HT t:=by
 refine Bool.eq_iff_iff.mpr ⟨λh=>?_,λh=>?_⟩
 ·obtain⟨i,hi,h⟩:=List.any_eq_true.mp h
  obtain⟨q,hq,e⟩:=List.mem_map.mp hi;have hq:=List.mem_filter.mp hq;exact HV hs hb m g ((Cu v).mpr ⟨hq.2,(hw _).mp (e▸bx h)⟩) HT t (aaF hs ht) ht hk ((QA q).mp hq.1)
 ·obtain⟨q,hq,r⟩:=HU hs hb m g HT t ht hk h
  have k:=(Cu v).mp hq;exact List.any_eq_true.mpr ⟨q-22,List.mem_map.mpr ⟨q,List.mem_filter.mpr ⟨(QA q).mpr r,k.1⟩,rfl⟩,dj ((hw _).mpr k.2)⟩
omit hs hb m in
theorem nv(g:bW tb)(s t:ai):Kd tb s->Kd tb t->U tb s=U tb t->s=t:=by
 have no2:∀{k:ai},2<=k.length->Kd tb k->putN tb (kM k)≠2:=λl hk=>(g.G7 (hk.has l)).2;have no1:∀{k:ai}{p:Nat},2<=k.length->Kd tb k->G8 tb p->putN tb (kM k)≠p:=λ{k p}l hk hp e=>hp.row.elim λc⟨rest,er,hc⟩=>hc (V.int.inj (rA (bV ((e▸(g.G7 (hk.has l)).1).symm.trans er)))).symm;exact mU (P:=λs u=>Kd tb s->Kd tb t->u=U tb t->s=t)
  (λ_=>mU (P:=λt w=>Kd tb t->2=w->[]=t) (λ_ _=>rfl) (λp h e=>absurd e.symm (h.dc p cC).no) (λk l h e=>absurd e.symm (no2 l h)) t)
  (λp hs=>mU (P:=λt w=>Kd tb t->p=w->[p]=t) (λ_ e=>absurd e (hs.dc p cC).no) (λq _ e=>au (λx=>[x]) e) (λk l h e=>absurd e.symm (no1 l h (hs.dc p cC))) t)
  (λk l hs=>mU (P:=λt w=>Kd tb t->putN tb (kM k)=w->k=t) (λ_ e=>absurd e (no2 l hs)) (λq h e=>absurd e (no1 l hs (h.dc q cC))) (λk' l' h e=>Hw (je (je (V.aC.inj (bV ((e▸(g.G7 (hs.has l)).1).symm.trans (g.G7 (h.has l')).1)))).2).1) t) s
end
noncomputable abbrev Ui:Nm:=rM
noncomputable abbrev Uj:Nm:=QM
noncomputable abbrev aCO:Nm:=[99,111]
noncomputable abbrev Ex:Nm:=Ja
noncomputable abbrev Ld:Nm:=Wq
noncomputable abbrev ads:Nm:=[114,101,116]
noncomputable abbrev Uk:Nm:=aa9
noncomputable abbrev Ul:Nm:=[116,111,108,100]
noncomputable abbrev YW:Nm:=QS
noncomputable abbrev Le:Nm:=[104,105,110,116,115]
noncomputable abbrev Ey:Nm:=QO
noncomputable abbrev zV:Nm:=Wu
noncomputable abbrev zW:Nm:=QK
noncomputable abbrev Ez:Nm:=aa1
noncomputable abbrev EA:Nm:=vS
noncomputable abbrev EB:Nm:=aa8
noncomputable abbrev zX:Nm:=aba
noncomputable abbrev Lf:Nm:=uc
noncomputable abbrev Lg:Nm:=AJ
noncomputable abbrev Um:Nm:=xQ
noncomputable abbrev tN:Nm:=xR
noncomputable abbrev Un:Nm:=QJ
noncomputable abbrev oY:Nm:=Fi
noncomputable abbrev tO:Nm:=LM
noncomputable abbrev qw:Nm:=xP
noncomputable abbrev HW:Nm:=Jc
noncomputable abbrev kO:Nm:=CP
noncomputable abbrev adt:Nm:=QL
noncomputable abbrev Lh:Nm:=QN
noncomputable abbrev Li:Nm:=NN
noncomputable abbrev Uo:Nm:=CQ
noncomputable abbrev Up:Nm:=Fj
noncomputable abbrev EC:Nm:=Wr
noncomputable abbrev u6:Nm:=abb
noncomputable abbrev Uq:Nm:=[114,111,97,100]
noncomputable abbrev ED:Nm:=aa2
noncomputable abbrev alg:Nm:=kQ
structure Ad where
 γ:Nat
 h:Nat
 m:Nat
 r:Nat
 r1:Nat
 r2:Nat
 r3:Nat
 wl:List Nat
structure GR where
 aj:Nat
 ao:Nat
 dU:Nat
 cO:Nat
 mV:Nat
 aG:Nat
 I1:V
 co:Bool->Option Nat
 ls:Bool->List (Nat×Nat)
 low:List (V×V)
 cY:List (V×V)
 asked:List (V×V)
 bO:List (V×V)
 f7:List (V×V)
noncomputable def GR.HY(g:GR)(x:Nat):GR:=⟨x,g.ao,g.dU,g.cO,g.mV,g.aG,g.I1,g.co,g.ls,g.low,g.cY,g.asked,g.bO,g.f7⟩
noncomputable def GR.zY(g:GR)(x:Nat):GR:=⟨g.aj,x,g.dU,g.cO,g.mV,g.aG,g.I1,g.co,g.ls,g.low,g.cY,g.asked,g.bO,g.f7⟩
noncomputable def GR.Ur(g:GR)(x:Nat):GR:=⟨g.aj,g.ao,x,g.cO,g.mV,g.aG,g.I1,g.co,g.ls,g.low,g.cY,g.asked,g.bO,g.f7⟩
noncomputable def GR.oZ(g:GR)(x:Nat):GR:=⟨g.aj,g.ao,g.dU,x,g.mV,g.aG,g.I1,g.co,g.ls,g.low,g.cY,g.asked,g.bO,g.f7⟩
noncomputable def GR.ahe(g:GR)(x:Nat):GR:=⟨g.aj,g.ao,g.dU,g.cO,x,g.aG,g.I1,g.co,g.ls,g.low,g.cY,g.asked,g.bO,g.f7⟩
noncomputable def GR.u7(g:GR)(x:Nat):GR:=⟨g.aj,g.ao,g.dU,g.cO,g.mV,x,g.I1,g.co,g.ls,g.low,g.cY,g.asked,g.bO,g.f7⟩
noncomputable def GR.Py(g:GR)(x:V):GR:=⟨g.aj,g.ao,g.dU,g.cO,g.mV,g.aG,x,g.co,g.ls,g.low,g.cY,g.asked,g.bO,g.f7⟩
noncomputable def GR.adu(g:GR)(x:List (V×V)):GR:=⟨g.aj,g.ao,g.dU,g.cO,g.mV,g.aG,g.I1,g.co,g.ls,x,g.cY,g.asked,g.bO,g.f7⟩
noncomputable def GR.EE(g:GR)(x:List (V×V)):GR:=⟨g.aj,g.ao,g.dU,g.cO,g.mV,g.aG,g.I1,g.co,g.ls,g.low,x,g.asked,g.bO,g.f7⟩
noncomputable def GR.dW(g:GR)(x:List (V×V)):GR:=⟨g.aj,g.ao,g.dU,g.cO,g.mV,g.aG,g.I1,g.co,g.ls,g.low,g.cY,x,g.bO,g.f7⟩
noncomputable def GR.zZ(g:GR)(x:List (V×V)):GR:=⟨g.aj,g.ao,g.dU,g.cO,g.mV,g.aG,g.I1,g.co,g.ls,g.low,g.cY,g.asked,x,g.f7⟩
noncomputable def GR.ahf(g:GR)(x:List (V×V)):GR:=⟨g.aj,g.ao,g.dU,g.cO,g.mV,g.aG,g.I1,g.co,g.ls,g.low,g.cY,g.asked,g.bO,x⟩
noncomputable def gX{α:Type}(f:Bool->α)(b:Bool)(x:α):Bool->α:=λc=>if c=b then x else f c
noncomputable def GR.wCo(g:GR)(b:Bool)(o:Option Nat)(l:List (Nat×Nat)):GR:=⟨g.aj,g.ao,g.dU,g.cO,g.mV,g.aG,g.I1,gX g.co b o,gX g.ls b l,g.low,g.cY,g.asked,g.bO,g.f7⟩
noncomputable def GR.wLs(g:GR)(b:Bool)(l:List (Nat×Nat)):GR:=⟨g.aj,g.ao,g.dU,g.cO,g.mV,g.aG,g.I1,g.co,gX g.ls b l,g.low,g.cY,g.asked,g.bO,g.f7⟩
noncomputable def E6(a:Ad)(g:GR):List (Nm×V):=[
 (Ui,.fE 926 a.h),(Uj,.aC [.int (-2)]),(aCO,.ref (a.γ+1)),(Ex,.ref (a.γ+2)),(Ld,.ref (a.γ+3)),(ads,.ref (a.γ+4)),(Uk,.ref (a.γ+5)),(Ul,.ref (a.γ+6)),(YW,.int (-1)),(Le,.ref (a.γ+7)),(Ey,.ref (a.γ+8)),(zV,.ref (a.γ+9)),(zW,.bool false),(Ez,.ref (a.γ+10)),(EA,.fE 943 a.m),(EB,.int (-1)),(zX,.int (-1)),(Lf,.ref a.r),(Lg,.aC (bI a.wl)),(Um,vN 33),(tN,vN g.aj),(Un,.int 0),(oY,vN g.ao),(tO,vN g.dU),(qw,vN g.cO),(HW,vN g.mV),(kO,vN g.aG),(adt,.ref (a.γ+13)),(Lh,.ref (a.γ+14)),(Li,.ref (a.γ+15)),(Uo,.ref (a.γ+16)),(Up,.ref (a.γ+17)),(EC,g.I1),(u6,.int 0),(Uq,.lst []),(ED,.ref (a.γ+19))]
noncomputable def Us(o:Option Nat):List (V×V):=o.elim [] λx=>[(.int (-2),.ref x)]
noncomputable def EF(a:Ad)(g:GR):List bw:=[.ns (E6 a g),.dict (Us (g.co false)),.dict (Us (g.co true)),.dict [],.dict [],.dict [],.dict [],.dict [],.dict [],.dict [],.dict [],.ns [],.dict [],.dict g.low,.dict g.cY,.dict g.asked,.dict g.bO,.dict g.f7,.dict [],.dict []]
noncomputable def fR(x:Nat×Nat):V:=.aC [vN x.1,vN x.2]
noncomputable def Ut:List (Nm×V):=[(alg,jv),(tO,.int 0),(aa4,.int 200),(aa3,.int 40),([108,105,98],.none)]
noncomputable def Uu(a:Ad):List (V×V):=[(.int 14,.fE 673 a.r1),(.int 15,.fE 692 a.r2),(.int 16,.fE 711 a.r3)]
structure HZ(a:Ad)(σ:St):Prop where
 h:At σ a.h (.ns Ut)
 m:At σ a.m (.ns [])
 r:At σ a.r (.dict (Uu a))
 r1:At σ a.r1 (.ns [])
 r2:At σ a.r2 (.ns [])
 r3:At σ a.r3 (.ns [])
structure Pz(a:Ad)(l:Nat):Prop where
 lt:l<a.γ
 n3:l≠3
 n4:l≠4
structure ahg(a:Ad):Prop where
 h:Pz a a.h
 m:Pz a a.m
 r:Pz a a.r
 r1:Pz a a.r1
 r2:Pz a a.r2
 r3:Pz a a.r3
 g:14<=a.γ
def Uv(a:Ad)(σ:St)(c:Option Nat)(l:List (Nat×Nat)):Prop:=c.elim (l=[]) λx=>At σ x (.list (l.map fR))/\a.γ+19<x
structure GS(a:Ad)(g:GR)(tb:List V)(σ:St):Prop where
 u9:∀k c,(EF a g)[k]?=some c->At σ (a.γ+k) c
 l:∀b,Uv a σ (g.co b) (g.ls b)
 c12:∀x b c,g.co b=some x->g.co c=some x->b=c
 st:HZ a σ
 ok:ahg a
 eY:f9 σ tb
def vc(a:Ad)(g:GR)(l:Nat):Prop:=a.γ+19<l/\∀b,g.co b≠some l
def Kp(a:Ad)(g:GR)(l:Nat):Prop:=Pz a l\/vc a g l
structure GX(a:Ad)(g:GR)(σ:St)(g':GR)(dM:St):Prop where
 le:σ.length<=dM.length
 keep:∀l,l<σ.length->Kp a g l->dM[l]?=σ[l]?/\Kp a g' l
section
theorem GX.refl:GX a g σ g σ:=⟨aW _,λ_ _ k=>⟨rfl,k⟩⟩
theorem GX.trans(h:GX a g σ g' dM)(k:GX a g' dM g2 s2):GX a g σ g2 s2:=⟨aH h.le k.le,λl hl p=>have h1:=h.keep l hl p;have h2:=k.keep l (eB hl h.le) h1.2;⟨h2.1.trans h1.1,h2.2⟩⟩
theorem GX.at(h:GX a g σ g' dM)(x:At σ l c)(p:Kp a g l):At dM l c:=(h.keep l x.lt p).1.trans x
theorem Pz.no(h:Pz a l)(p:vc a g l):False:=kY _ (xK h.lt (di (bZ _ 19) p.1))
theorem GX.adv(x:GX a g σ g' dM)(e:At σ l c)(p:vc a g l):vc a g' l:=(x.keep l e.lt (.inr p)).2.resolve_left λq=>q.no p
theorem Uv.ext{l:List (Nat×Nat)}(e:aY X σ dM):Uv a σ o l->(∀x,o=some x->¬X x)->Uv a dM o l:=Option.casesOn o (λh _=>h) λx h n=>⟨e.at (n x rfl) h.1,h.2⟩
theorem HZ.ext(h:HZ a σ)(o:ahg a)(e:aY X σ dM)(n:∀l,Pz a l->¬X l):HZ a dM:=⟨e.at (n _ o.h) h.h,e.at (n _ o.m) h.m,e.at (n _ o.r) h.r,e.at (n _ o.r1) h.r1,e.at (n _ o.r2) h.r2,e.at (n _ o.r3) h.r3⟩
end
theorem lo3(h:14<=γ)(k:γ<=l):l≠3:=λe=>absurd (aH h (e▸k)) (by decide)
theorem lo4(h:14<=γ)(k:γ<=l):l≠4:=λe=>absurd (aH h (e▸k)) (by decide)
theorem lo2(h:14<=γ)(k:γ<=l):l≠2:=λe=>absurd (aH h (e▸k)) (by decide)
theorem z0(hk:k<20)(p:γ+19<x):x≠γ+k:=λq=>kY _ (di (cG (E9 hk) _) (q▸p))
section
variable(h:GS a g tb σ)
include h
theorem GS.lt:a.γ+19<σ.length:=(h.u9 19 _ rfl).lt
theorem GS.ns:At σ a.γ (.ns (E6 a g)):=h.u9 0 _ rfl
theorem GS.la(e:g.co b=some x):At σ x (.list ((g.ls b).map fR))/\a.γ+19<x:=(show Uv a σ (some x) (g.ls b)from e▸h.l b)
theorem GS.clt(e:g.co b=some x):a.γ+19<x/\x<σ.length:=⟨(h.la e).2,(h.la e).1.lt⟩
theorem GS.ext(e:aY X σ dM)(n:∀l,X l->l=3\/l=4\/vc a g l)(t:f9 dM cL):GS a g cL dM:=by
 have up:=λl k x=>(n l x).elim (λq=>absurd q (lo3 h.ok.g k)) λq=>q.resolve_left (lo4 h.ok.g k);refine⟨λk c e'=>e.at (λx=>?_) (h.u9 k c e'),λb=>(h.l b).ext e λx ex q=>?_,h.c12,h.st.ext h.ok e λl hl q=>?_,h.ok,t⟩
 ·exact kY _ (eB (up _ (bZ _ _) x).1 (cG (E9 (rO e').1) _))
 ·exact(up x (aH (bZ _ 19) (fT (h.clt ex).1)) q).2 b ex
 ·exact(n l q).elim hl.n3 λq=>q.elim hl.n4 λq=>hl.no q
theorem GS.nx(e:aY NX σ dM):GS a g tb dM:=h.ext e (λ_ x=>x.elim) (h.eY.nx e)
theorem GS.tx(e:aY TX σ dM)(t:f9 dM cL):GS a g cL dM:=h.ext e (λ_ x=>x.imp id .inl) t
theorem GX.tP(e:aY NX σ dM):GX a g σ g dM:=⟨e.le,λl hl p=>⟨e.keep l hl id,p⟩⟩
theorem GX.Uw(e:aY TX σ dM):GX a g σ g dM:=⟨e.le,λl hl p=>⟨e.keep l hl (p.elim (λp q=>q.elim p.n3 p.n4) λp q=>have k:=aH (bZ _ 19) (fT p.1);q.elim (lo3 h.ok.g k) (lo4 h.ok.g k)),p⟩⟩
theorem GS.M6(k:Nat)(c:bw)(n:Nat)(hk:k<20)(e:EF a g'=(EF a g).set k c)(hl:∀b,Uv a (σ.set (a.γ+k) c) (g'.co b) (g'.ls b))(h12:∀x b c,g'.co b=some x->g'.co c=some x->b=c)(hp:∀l,l<n->vc a g l->vc a g' l):
  GS a g' tb (σ.set (a.γ+k) c)/\∀l,l<n->l<σ.length->Kp a g l->(σ.set (a.γ+k) c)[l]?=σ[l]?/\Kp a g' l:=by
 have AP:=di (cG (E9 hk) _) h.lt;have ge:a.γ<=a.γ+k:=bZ _ _;have lo:∀l,Pz a l->l≠a.γ+k:=λl p q=>kY _ (eB p.lt (q▸ge));have ex:=(aY.refl (X:=λl=>l=a.γ+k) σ).set (.inl rfl) c;refine⟨⟨λi d ei=>?_,hl,h12,h.st.ext h.ok ex lo,h.ok,h.eY.ext ex ⟨(lo2 h.ok.g ge).symm,(lo3 h.ok.g ge).symm,(lo4 h.ok.g ge).symm⟩⟩,λl hn hl p=>⟨ex.keep l hl (p.elim (lo l) λp=>z0 hk p.1),p.imp id (hp l hn)⟩⟩;rw [e]at ei;by_cases q:k=i
 ·subst q
  exact(AA AP).trans ((AA (hk)).symm.trans ei)
 ·exact(h.u9 i d ((qB q).symm.trans ei)).bF λz=>q (Nat.add_left_cancel z)
theorem GS.mW(k:Nat)(c:bw)(hk:k<20)(e:EF a g'=(EF a g).set k c)(e1:g'.co=g.co)(e2:g'.ls=g.ls):GS a g' tb (σ.set (a.γ+k) c)/\GX a g σ g' (σ.set (a.γ+k) c):=
 have ex:aY (λl=>l=a.γ+k) σ (σ.set (a.γ+k) c):=(aY.refl (X:=λl=>l=a.γ+k) σ).set (l:=a.γ+k) (.inl rfl) c;have r:=h.M6 k c σ.length hk e (λb=>e1▸e2▸(h.l b).ext ex λx ex=>z0 hk (h.clt ex).1) (e1▸h.c12) λl _ p=>⟨p.1,e1▸p.2⟩
 ⟨r.1,ex.le,λl hl=>r.2 l hl hl⟩
theorem GS.nsSet(e:pt n x (E6 a g)=E6 a g')(e2:EF a g'=(EF a g).set 0 (.ns (E6 a g')))(e1:g'.co=g.co)(e3:g'.ls=g.ls):GS a g' tb (σ.set a.γ (.ns (pt n x (E6 a g))))/\GX a g σ g' (σ.set a.γ (.ns (pt n x (E6 a g)))):=e▸h.mW 0 (.ns (E6 a g')) (by decide) e2 e1 e3
theorem GS.EG(hx:σ.length<=x):vc a g x:=⟨eB h.lt hx,λb e=>kY _ (eB (h.clt e).2 hx)⟩
theorem GS.loc{l:Nat}(c:bw)(p:vc a g l):GS a g tb (σ.set l c):=
 have ex:=(aY.refl (X:=λx=>x=l) σ).set (.inl rfl) c;have ge:=aH (bZ _ 19) (fT p.1)
 h.ext ex (λx hx=>.inr (.inr (hx▸p))) (h.eY.ext ex ⟨(lo2 h.ok.g ge).symm,(lo3 h.ok.g ge).symm,(lo4 h.ok.g ge).symm⟩)
end
noncomputable abbrev G(a:Ad):V:=.fE 477 a.γ
theorem gm(a:Ad)(g:GR):(E6 a g).length<100:=bx rfl
section
theorem tQ{P:List (V×V)->List (V×V)->Prop}(h0:P [] [(k,v)])(h1:∀u r,P ((k,u)::r) ((k,v)::r))(h2:∀x r r',x.1≠k->P r r'->P (x::r) (x::r'))(es:List (V×V)):P es (cS k v es):=es.rec h0 λx r ih=>(c6 (x.1=k)).elim (λh=>by
  have e:cS k v (x::r)=(x.1,v)::r:=az h;rw [e,h];exact(show x=(k,x.2)from Prod.ext h rfl)▸h1 x.2 r) λh=>(show cS k v (x::r)=x::cS k v r from ay h)▸h2 x r _ h ih
theorem mX(k v:V)(es:List (V×V)):bJ k (cS k v es)=some v:=tQ (P:=λ_ l=>bJ k l=some v) (az rfl) (λ_ _=>az rfl) (λ_ _ _ h ih=>(ay h).trans ih) es
theorem EH(v:V)(n:k≠j)(es:List (V×V)):bJ j (cS k v es)=bJ j es:=tQ (P:=λa b=>bJ j b=bJ j a) (ay n) (λ_ _=>(ay n).trans (ay n).symm) (λx r r' _ ih=>au (λo=>if x.1=j then some x.2 else o) ih) es
theorem k9(k v:V)(es:List (V×V)):(cS k v es).length<=es.length+1:=tQ (P:=λa b=>b.length<=a.length+1) (aW _) (λ_ _=>gD _) (λ_ _ _ _ ih=>nG ih) es
theorem H6{e:V×V}:e∈cS k v es->e∈es\/e=(k,v):=tQ (P:=λa b=>e∈b->e∈a\/e=(k,v)) (λh=>.inr (dG h)) (λ_ _ h=>(fY h).elim .inr λh=>.inl (cP _ h)) (λx r r' _ ih h=>(fY h).elim (λh=>.inl (h▸cC)) λh=>(ih h).imp (cP _) id) es
theorem M7(h:∀e∈es,e.1.fG=k.fG)(hk:k.i7=true)(hd:k.gF<=fU):gn k es=true:=dF hk (dF (dj hd) (List.casesOn es (λ_=>rfl) (λe r h=>beq_iff_eq.mpr (h e cC)) h))
end
structure Wt(v:Bool)(mk:aT)(tb:List V):Prop where
 g:bW tb
 b:eT (base v) tb
 s:Qz v mk
 m:MkT tb mk
section
variable{mk:aT}
theorem Wt.pre(w:Wt v mk tb)(p:eT tb cL)(g:bW cL):Wt v mk cL:=⟨g,w.b.trans p,w.s,w.m.pre p⟩
theorem Wt.clo(w:Wt v mk tb)(ht:Tg mk t)(hk:Kd tb t):∃S,Clo tb S/\U tb t∈S:=adq w.s w.b w.m w.g ht hk
structure iU(v:Bool)(mk:aT)(tb:List V)(es:List (V×V)):Prop where
 ki:∀e∈es,e.1.fG=2
 ok:∀p x,bJ (vN p) es=some x->∃t,Kd tb t/\U tb t=p/\x=.bool (cB v mk HT t)
theorem iU.pre(h:iU v mk tb es)(p:eT tb cL):iU v mk cL es:=⟨h.ki,λq x e=>(h.ok q x e).imp λt k=>⟨k.1.pre p,(g8 p k.1).trans k.2.1,k.2.2⟩⟩
theorem iU.gn(h:iU v mk tb es)(i:Int):Mine.gn (.int i) es=true:=M7 h.ki rfl (fD _)
theorem iU.put(h:iU v mk tb es)(hk:Kd tb t):iU v mk tb (cS (vN (U tb t)) (.bool (cB v mk HT t)) es):=⟨λe he=>(H6 he).elim (h.ki e) λq=>q▸rfl,λp x e=>(c6 (U tb t=p)).elim (λq=>⟨t,hk,q,(bV ((mX ..).symm.trans (q▸e))).symm⟩) λq=>h.ok p x ((EH _ (λz=>q (eX z)) es).symm.trans e)⟩
structure AB where
 b:Bool
 x:Option V
theorem H7(hd:6<=d)(h:GS a g tb σ)(w:Wt v mk tb)(i:iU v mk tb g.asked)(hw:∀i,i∈a.wl↔i∈tM v)(ht:Tg mk t)(hk:Kd tb t)(hl:g.asked.length<cu)
  (k:∀es dM,es.length<=g.asked.length+1->iU v mk tb es->GS a (g.dW es) tb dM->GX a g σ (g.dW es) dM->Q (.bool (cB v mk HT t)) dM):WP (aS TT FT d 488 [G a,vN (U tb t)]) σ Q:=by
 have b15:=h.u9 15 _ rfl;refine aA (dl hd rfl) rfl rfl (o_attr h.ns rfl (oK b15 (i.gn _) ?_));cases e:bJ (vN (U tb t)) g.asked with
 |some x=>
  obtain⟨t',hk',hu,ex⟩:=i.ok _ x e;exact o_attr h.ns rfl (aZ b15 (i.gn _) e (ex▸nv w.g t' t hk' hk hu▸k g.asked σ (gD _) i h .refl))
 |none=>
  obtain⟨S,c,hS⟩:=w.clo ht hk;refine o_attr h.ns rfl (bT h.st.m rfl rfl (o_attr h.ns rfl (o_attr h.st.h rfl (u0 w.g (dk hd rfl) h.eY c hS λgU ps e1 QA apD=>.ret ?_))));have av:=Px w.s w.b w.m w.g ht hk hw QA;have h1:=h.nx e1;refine bD vN (λx:AB=>[some (G a),some (vN (U tb t)),some (.bool x.b),x.x]) (λ_=>gU) (λr x=>(x.b||r.any λi=>decide (i∈a.wl))=cB v mk HT t) ?_ (λx r y K hb kn _=>o_attr h1.ns rfl (tH (.inl rfl) (λhx=>kn ⟨true,some (vN x)⟩ ?_) λhx=>kn ⟨y.b,some (vN x)⟩ ?_)) (λy hb=>?_) (lP ps) ⟨false,none⟩ av
  ·exactλ_=>bu
  ·rw [List.any_cons,dj hx,Bool.true_or,Bool.or_true]at hb;exact hb
  ·rw [List.any_cons,dg hx,Bool.false_or]at hb;exact hb
  ·have hb:=(xN _).symm.trans hb
   rw [hb];have h2:=h1.mW (g':=g.dW (cS (vN (U tb t)) (.bool (cB v mk HT t)) g.asked)) 15 _ (by decide) rfl rfl rfl
   exact o_attr h1.ns rfl (fM (h1.u9 15 _ rfl) (i.gn _) hl (o_attr h2.1.ns rfl (aZ (h2.1.u9 15 _ rfl) ((i.put hk).gn _) (mX _ _ _) (k _ _ (k9 _ _ _) (i.put hk) h2.1 ((GX.tP h e1).trans h2.2)))))
end
structure P1(tb:List V)(p:Nat):Prop where
 ok:∃r,Wi tb p r
 dc:G8 tb p
structure Lj(tb:List V)(p:Nat):Prop where
 it:P1 tb p
 wid:P1 tb (qh p)
 reg:P1 tb (kN p)
theorem P1.pre(h:eT a b)(k:P1 a p):P1 b p:=⟨k.ok.elim λr o=>⟨r,o.pre h⟩,k.dc.pre h⟩
noncomputable def z8(v:Bool)(p:Nat):Bool:=decide (p≠2/\iK p)&&(base v)[p]?.any λr=>decide (c0 r≠6)&&decide (r=.aC (vN (c0 r)::r.g9.tail))
section
theorem pP(g:bW tb)(b:eT (base v) tb)(h:z8 v p=true):P1 tb p:=by
 have h:=ah h;have h1:=bx h.1;cases e:(base v)[p]? with
 |none=>rw [e]at h;exact ff h.2
 |some r=>
  rw [e]at h;have q:=ah h.2;exact⟨⟨r,g.Qv (b.get e) h1.2⟩,h1.1,(c0 r:Nat),r.g9.tail,b.get (e.trans (au some (bx q.2))),Ca (bx q.1)⟩
theorem z9{ns:List Nm}(h:SN tb p (iC ns e)):rm p:=h.elim λc⟨rest,q,cl⟩=>have e8:=(eX (rA q)).symm;cl.pl (λx=>tg rfl (e8.symm.trans x)) λx=>tg rfl (e8.symm.trans x)
theorem xG(h:r∈THL):∃ns e,r=iC ns e:=by
 have k:∀r∈THL,r=iC (((x0 r).g9.map λp=>(p.g9.headD .none).Jf)) (!((r.g9.getD 4 .none).g9.isEmpty)):=by decide+kernel
 exact⟨_,_,k r h⟩
theorem YX:∀v,(wL.all λp=>z8 v p&&(z8 v (qh p)&&z8 v (kN p)))=true:=by decide+kernel
theorem Ux(h:rm p):qh p=p:=ay (au Option.isSome h.2▸eH)
theorem Uy(h:rm p):kN p=p:=au (λo:Option Nat=>o.getD p) h.2
theorem YY:∀v,∀p∈[2,8,9,14,15],(base v)[p]?.any (λr=>decide (c0 r=8))=false:=by decide+kernel
theorem YZ(h:Boo p):p∈[2,8,9,14,15]:=h.elim (λe=>e.symm▸(by decide)) λh=>h.elim (λe=>e.symm▸(by decide)) λh=>h.elim (λe=>e.symm▸(by decide)) λe=>e.symm▸(by decide)
theorem lQ(w:Wt v mk tb)(h:KU tb mk p):Lj tb p:=by
 refine h.elim (λh=>have q:=ah (pW (YX v) p h);have q2:=ah q.2;⟨pP w.g w.b q.1,pP w.g w.b q2.1,pP w.g w.b q2.2⟩) λ⟨r,hr,e,_⟩=>?_;obtain⟨ns,b,er⟩:=xG hr;have no:p∉[2,8,9,14,15]:=λm=>by
  have q:=YY v p m;have l:=(by decide:∀p∈[2,8,9,14,15],p<37) p m
  have e2:=w.b.get (qA l);rw [qA l,bV (e2.symm.trans e),er]at q;exact Bool.noConfusion q
 have o:=w.g.Qv e λq=>no (YZ q);have p1:P1 tb p:=⟨⟨_,o⟩,λq=>no (q.symm▸(by decide)),8,_,e.trans (au some er),by decide⟩
 have pl:=z9 (er▸o.cls);exact⟨p1,(Ux pl).symm▸p1,(Uy pl).symm▸p1⟩
end
noncomputable def cH(s:ai):ai:=fF (s.map qh)
theorem gC(l:List Nat):(eS l).length<=l.length:=jA _ _ (oV l) λ_ h=>gz.mp h
theorem Aa(l:List Nat):(l.map λp=>[p]).flatten=l:=l.rec rfl λp _ ih=>au (p::·) ih
section
theorem lR(hd:3<=d)(h:f9 σ tb)(g:bW tb)(hx:gR x (bI l) σ)(hp:∀p∈l,P1 tb p)(hl:l.length<64)(hz:tb.length<cu)
  (k:∀s',aY TX σ s'->f9 s' (aO tb (fF l))->Q (vN (U (aO tb (fF l)) (fF l))) s'):WP (aS TT FT d 237 [jv,x]) σ Q:=by
 have e1:=Aa l;have e2:(l.map λp=>[p]).map (U tb)=l:=(nK ..).trans (List.map_id l);exact sZ (l.map λp=>[p]) hd h g (e2.symm▸hx) (λps QA=>(List.mem_map.mp QA).elim λp q=>q.2▸.aR (hp p q.1).dc) (λp m=>(hp p (e1▸m)).ok) (e1.symm▸di (gC l) hl) hz (e1.symm▸k)
theorem Ab(hp:∀p∈l,P1 tb p):Kd (aO tb (fF l)) (fF l):=.aO λp h=>(hp p (dZ h)).dc
theorem Uz(hd:5<=d)(h:f9 σ tb)(g:bW tb)(hk:Kd tb s)(hs:∀p∈s,Lj tb p)(hl:s.length<64)(hz:tb.length<cu)
  (k:∀s',aY TX σ s'->f9 s' (aO tb (cH s))->Q (vN (U (aO tb (cH s)) (cH s))) s'):WP (aS TT FT d 377 [jv,vN (U tb s)]) σ Q:=by
 refine aA (dl hd rfl) rfl rfl (lF (dk hd rfl) h g hk (.ret (jc vN (λp=>vN (qh p)) ?_ (fT (fX hl)) (λp hp ys K k1=>(hs p hp).it.ok.elim λr o=>O8 (h.new _) o (dk hd rfl) k1) ?_)))
 ·exactλ_=>bu
 ·exact lR (dk hd rfl) (h.new _) g (oN qh s) (λp hp=>(List.mem_map.mp hp).elim λq z=>z.2▸(hs q z.1).wid) (di (cK (cT ..)) hl) hz λs' e t=>k s' (((aY.refl σ).new _).tx.trans e) t
end
section
variable{α:Type}{f:Bool->α}{b c:Bool}{x:α}
theorem mY(f:Bool->α)(b:Bool)(x:α):gX f b x b=x:=az rfl
theorem pQ(h:c≠b):gX f b x c=f c:=ay h
theorem M8(f:Bool->α)(b:Bool):gX f b (f b)=f:=funext λc=>(c6 (c=b)).elim (λh=>h▸mY ..) pQ
end
noncomputable def bk(b:Bool):Nat:=if b then 2 else 1
noncomputable def o5(l:List (Nat×Nat))(x:Nat×Nat):List (Nat×Nat):=if x∈l then l else l++[x]
section
variable{a:Ad}{g:GR}{tb:List V}{σ:St}(h:GS a g tb σ)
include h
theorem GS.ahj(b:Bool)(e:g.co b=none):
  GS a (g.wCo b (some σ.length) []) tb ((σ++[bw.list []]).set (a.γ+bk b) (.dict (Us (some σ.length))))/\GX a g σ (g.wCo b (some σ.length) []) ((σ++[bw.list []]).set (a.γ+bk b) (.dict (Us (some σ.length)))):=by
 have hb:bk b<20:=by cases b<;>decide
 have e1:aY NX σ (σ++[bw.list []]):=(aY.refl σ).new _;have h1:=h.nx e1;have eb:EF a (g.wCo b (some σ.length) [])=(EF a g).set (bk b) (.dict (Us (some σ.length))):=by cases b<;>rfl
 have ex:aY (λl=>l=a.γ+bk b) (σ++[bw.list []]) ((σ++[bw.list []]).set (a.γ+bk b) (.dict (Us (some σ.length)))):=(aY.refl (X:=λl=>l=a.γ+bk b) _).set (.inl rfl) _;have cs:∀{x b'},gX g.co b (some σ.length) b'=some x->b'=b/\x=σ.length\/g.co b'=some x:=λ{x b'}q=>(c6 (b'=b)).elim (λz=>.inl ⟨z,bV (q.symm.trans (z▸mY ..))⟩) λz=>.inr ((pQ z).symm.trans q);have r:=h1.M6 (bk b) _ σ.length hb eb (λb'=>?_) (λx b1 b2 q1 q2=>?_) λl hl p=>⟨p.1,λb' q=>(cs q).elim (λz=>kY _ (z.2▸hl)) (p.2 b')⟩
 ·exact⟨r.1,aH e1.le ex.le,λl hl p=>have z:=r.2 l hl (eB hl e1.le) p;⟨z.1.trans (e1.keep l hl id),z.2⟩⟩
 ·by_cases q:b'=b
  ·subst q
   show Uv a _ (gX g.co b' (some σ.length) b') (gX g.ls b' [] b');rw [mY,mY];exact⟨bS.bF (z0 hb h.lt).symm,h.lt⟩
  ·show Uv a _ (gX g.co b (some σ.length) b') (gX g.ls b [] b')
   rw [pQ q,pQ q];exact(h1.l b').ext ex λx ex=>z0 hb (h1.clt ex).1
 ·have no:∀{b' x},g.co b'=some x->x≠σ.length:=λq z=>kY _ (z▸(h.clt q).2)
  exact(cs q1).elim (λz1=>(cs q2).elim (λz2=>z1.1.trans z2.1.symm) λy2=>absurd z1.2 (no y2)) λy1=>(cs q2).elim (λz2=>absurd z2.2 (no y1)) (h.c12 x b1 b2 y1)
theorem GS.append(b:Bool)(e:g.co b=some x)(y:Nat×Nat):
  GS a (g.wLs b (g.ls b++[y])) tb (σ.set x (.list ((g.ls b).map fR++[fR y])))/\GX a g σ (g.wLs b (g.ls b++[y])) (σ.set x (.list ((g.ls b).map fR++[fR y]))):=by
 have hx:=h.clt e;have ge:=aH (bZ _ 19) (fT hx.1);have ex:aY (λl=>l=x) σ (σ.set x (.list ((g.ls b).map fR++[fR y]))):=(aY.refl (X:=λl=>l=x) σ).set (.inl rfl) _;have lo:∀l,Pz a l->l≠x:=λl p q=>kY _ (eB p.lt (q▸ge));refine⟨⟨λi d ei=>(h.u9 i d ei).bF (z0 (rO ei).1 hx.1),λb'=>?_,h.c12,h.st.ext h.ok ex lo,h.ok,h.eY.ext ex ⟨(lo2 h.ok.g ge).symm,(lo3 h.ok.g ge).symm,(lo4 h.ok.g ge).symm⟩⟩,ex.le,λl hl p=>⟨ex.keep l hl (p.elim (lo l) λp q=>p.2 b (q▸e)),p⟩⟩;by_cases q:b'=b
 ·subst q
  show Uv a _ (g.co b') (gX g.ls b' (g.ls b'++[y]) b');rw [mY,e];exact⟨mh▸AA hx.2,hx.1⟩
 ·show Uv a _ (g.co b') (gX g.ls b (g.ls b++[y]) b')
  rw [pQ q];exact(h.l b').ext ex λz ez w=>q (h.c12 z b' b ez (w▸e))
end
theorem PA:fR x=fR y↔x=y:=⟨λq=>have q:=je (V.aC.inj q);Prod.ext (eX q.1) (eX (je q.2).1),au fR⟩
section
variable{T:iL}{C:Nat->List V->M V}{s:St}{n l x:Nat}{i v d:V}{es:List (V×V)}
theorem adx{l:List (Nat×Nat)}(h:At s x (.list (l.map fR)))(k1:y∈l->Q false s)(k2:y∉l->Q true s):WP (aM T .dz (fR y) (.ref x)) s Q:=by
 have e:jg (fR y) (l.map fR)=true↔y∈l:=(lM fR (fR y) l).symm▸List.any_eq_true.trans ⟨λh=>h.elim λz h=>PA.mp (bx h.2)▸h.1,λh=>⟨y,h,dj rfl⟩⟩;refine .bind (pH h (lC (jx rfl (pM (λ_=>rfl) l) (show 1<=fU by decide))) (.ret ?_))
 by_cases m:y∈l
 ·rw [e.mpr m];exact k1 m
 ·rw [Bool.eq_false_iff.mpr λz=>m (e.mp z)];exact k2 m
theorem H8(h:At s l (.dict es))(hk:gn i es=true)(k:WP ((bJ i es).casesOn (motive:=λ_=>M V) (M.pure d) λv=>gg (jf l (.dict (kI i es))) v) s Q):WP (gZ T C (.ref l) nY 2 [i,d]) s Q:=fj h (show WP (if(true&&(decide (nY=nY)&&gn i es))=true then((bJ i es).casesOn (M.pure d) λv=>gg (jf l (.dict (kI i es))) v)else M.fail) s Q from(az (dF rfl (dF (dj (rfl:nY=nY)) hk))).symm▸k)
theorem M9(h:At s l (.dict []))(hi:i.i7=true)(hd:i.gF<=fU)(k:Q d s):WP (gZ T C (.ref l) nY 2 [i,d]) s Q:=H8 h (dF hi (dF (dj hd) rfl)) (.ret k)
theorem ady(h:At s l (.dict es))(hk:gn i es=true)(e:bJ i es=some v)(k:Q v (s.set l (.dict (kI i es)))):WP (gZ T C (.ref l) nY 2 [i,d]) s Q:=H8 h hk (e.symm▸.bind (.of rfl (.ret k)))
theorem o6(k1:n≠0->Q true s)(k2:n=0->Q false s):WP (gK T (vN n)) s Q:=.of rfl ((c6 (n=0)).elim (λh=>Hu (dg λx=>x (au Int.ofNat h)) (k2 h)) λh=>Hu (dj λx=>h (nJ x)) (k1 h))
end
structure Ac(g g':GR):Prop where
 aj:g'.aj=g.aj
 ao:g'.ao=g.ao
 dU:g'.dU=g.dU
 mV:g'.mV=g.mV
 aG:g'.aG=g.aG
 asked:g'.asked=g.asked
 bO:g'.bO=g.bO
 f7:g'.f7=g.f7
theorem Ac.trans(a:Ac g1 g2)(b:Ac g2 g3):Ac g1 g3:=⟨b.1.trans a.1,b.2.trans a.2,b.3.trans a.3,b.4.trans a.4,b.5.trans a.5,b.6.trans a.6,b.7.trans a.7,b.8.trans a.8⟩
noncomputable def sb(g:GR):Bool:=decide (g.aj≠0)
structure aaG(g g':GR):Prop where
 cO:g'.cO=g.cO
 low:g'.low=g.low
 cY:g'.cY=g.cY
section
variable{a:Ad}{g:GR}{tb:List V}{σ:St}{d:Nat}{Q:V->St->Prop}
theorem UA(h:GS a g tb σ)(hl:(g.ls (sb g)).length<cu)
  (k:∀g' dM,GS a g' tb dM->GX a g σ g' dM->Ac g g'->aaG g g'->g'.ls=gX g.ls (sb g) (o5 (g.ls (sb g)) (p,aa))->Q .none dM):
  iJ TT C (dX.body.drop 8) [some (G a),some (.int (-2)),some (vN p),some (vN aa),x4,x5,x6] (dY Q) σ:=by
 have row:∀{g1:GR}{gU:St}(b:Bool),GS a g1 tb gU->At gU (a.γ+bk b) (.dict (Us (g1.co b))):=λb h=>by
  cases b
  ·exact h.u9 1 _ rfl
  ·exact h.u9 2 _ rfl
 have rest:∀g1 gU x,GS a g1 tb gU->GX a g σ g1 gU->Ac g g1->aaG g g1->g1.ls=g.ls->g1.co (sb g)=some x->iJ TT C (dX.body.drop 10) [some (G a),some (.int (-2)),some (vN p),some (vN aa),some (.ref (a.γ+bk (sb g))),x5,x6] (dY Q) gU:=by
  intro g1 gU x h1 x1 sm sm2 UB ex;have rx:=ex▸row (sb g) h1;have lx:=(h1.la ex).1;rw [UB]at lx;have b9:=h1.u9 9 _ rfl;refine o_attr h1.ns rfl (aL (o_attr h1.ns rfl (aL (o_attr h1.ns rfl (iZ b9 (.inr rfl) (M9 b9 rfl (show 1<=fU by decide) (aZ rx rfl rfl (adx (y:=(p,aa)) lx (λhm=>?_) λhm=>?_))))))))
  ·exact k g1 gU h1 x1 sm sm2 (UB.trans ((M8 ..).symm.trans (au (gX g.ls (sb g)) (az hm).symm)))
  ·have h2:=h1.append (sb g) ex (p,aa)
   rw [UB]at h2;exact aZ rx rfl rfl (oM lx (.inl rfl) (lD lx ((cT fR).symm▸hl) (k _ _ h2.1 (x1.trans h2.2) ⟨sm.1,sm.2,sm.3,sm.4,sm.5,sm.6,sm.7,sm.8⟩ ⟨sm2.1,sm2.2,sm2.3⟩ ((au (λl=>gX l (sb g) (g.ls (sb g)++[(p,aa)])) UB).trans (au (gX g.ls (sb g)) (ay hm).symm)))))
 have mid:iJ TT C (dX.body.drop 9) [some (G a),some (.int (-2)),some (vN p),some (vN aa),some (.ref (a.γ+bk (sb g))),x5,x6] (dY Q) σ:=by
  have rw0:=row (sb g) h;have ok:=λc=>Option.casesOn (motive:=λc=>gn (.int (-2)) (Us c)=true) c rfl λ_=>rfl;refine oK rw0 (ok _) ?_;cases e:g.co (sb g)with
  |some x=>exact rest g σ x h .refl ⟨rfl,rfl,rfl,rfl,rfl,rfl,rfl,rfl⟩ ⟨rfl,rfl,rfl⟩ rfl e
  |none=>
   rw [e]at rw0;have l0:=(e▸h.l (sb g));have h1:=h.ahj (sb g) e;exact fM rw0.new (ok none) (show 0<cu by decide) (rest _ _ σ.length h1.1 h1.2 ⟨rfl,rfl,rfl,rfl,rfl,rfl,rfl,rfl⟩ ⟨rfl,rfl,rfl⟩ ((au (gX g.ls (sb g)) l0.symm).trans (M8 ..)) (mY ..))
 unfold sb at mid;refine o_attr h.ns rfl (o6 (λhs=>?_) λhs=>?_)
 ·rw [dj hs]at mid
  exact o_attr h.ns rfl (o6 (λx=>absurd rfl x) λ_=>o_attr h.ns rfl mid)
 ·rw [dg λx=>x hs]at mid
  exact o_attr h.ns rfl mid
end
section
variable{T:iL}{s:St}{a b:Nat}{Q:Bool->St->Prop}
theorem H9(k1:a<b->Q true s)(k2:b<=a->Q false s):WP (aM T .lt (vN a) (vN b)) s Q:=(AI a b).elim (λh=>qt (dj (Int.ofNat_lt.mpr h)) (k1 h)) λh=>qt (dg (Int.not_lt.mpr (Int.ofNat_le.mpr h))) (k2 h)
theorem ahk(k1:a<=b->Q true s)(k2:b<a->Q false s):WP (aM T .le (vN a) (vN b)) s Q:=(AI b a).elim (λh=>.of rfl (Hu (dg (Int.not_le.mpr (Int.ofNat_lt.mpr h))) (k2 h))) λh=>.of rfl (Hu (dj (Int.ofNat_le.mpr h)) (k1 h))
end
theorem UC{a b:Nat}(ha:a<2^20)(hb:b<2^20):binI .and (a:Int) (b:Int)=some ((a&&&b:Nat):Int):=by
 unfold binI;dsimp only;rw [az (zF ha hb)];rfl
theorem ahl(ha:a<2^20)(hb:b<2^20)(e:a&&&b=c)(k:Q (vN c) s):WP (d9 .and (vN a) (vN b)) s Q:=.nV ((oR ..).trans (au (Option.map V.int) ((UC ha hb).trans (au (λn:Nat=>some (n:Int)) e)))) k
noncomputable def Wk(o:Option Nat):List (V×V):=o.elim [] λr=>[(.int (-2),vN r)]
def RkS(l:List (V×V)):Prop:=∃c:Option Nat,l=Wk c
def LwS(l:List (V×V)):Prop:=l=[]\/l=[(.int (-2),.int 1)]
structure jt(r:Nat):Prop where
 lt:r<64
 no:r&&&16=0
theorem jt.or(h:jt r)(hc:jt c):jt (r|||c):=⟨xD h.1 hc.1,by rw [Nat.and_or_distrib_right,h.2,hc.2];rfl⟩
theorem UD(c:Option Nat):gn (.int (-2)) (Wk c)=true/\(bJ (.int (-2)) (Wk c)).getD (.int 1024)=vN (c.getD 1024)/\(Wk c).length<cu/\∀v,cS (.int (-2)) v (Wk c)=[(.int (-2),v)]:=Option.casesOn c ⟨rfl,rfl,show 0<cu by decide,λ_=>rfl⟩ λr=>⟨rfl,rfl,show 1<cu by decide,λ_=>rfl⟩
theorem UE(h:LwS l):gn (.int (-2)) l=true/\l.length<cu/\cS (.int (-2)) (.int 1) l=[(.int (-2),.int 1)]:=h.elim (λe=>by rw [e];exact⟨rfl,(by decide),rfl⟩) λe=>by rw [e];exact⟨rfl,(by decide),rfl⟩
section
variable{a:Ad}{g:GR}{tb:List V}{σ:St}{d:Nat}{Q:V->St->Prop}
theorem adz(hd:1<=d)(h:GS a g tb σ)(k:∀dM,aY NX σ dM->Q (.bool false) dM):WP (aS TT FT d 515 [G a,x]) σ Q:=aA hd rfl rfl (o_attr h.ns rfl (fj (h.u9 8 _ rfl) (.of rfl ⟨bu,[],bS,.of rfl (.of rfl ⟨bu,k _ ((aY.refl σ).new .bH|>λe=>(iQ σ (.list []) .bH).symm▸e)⟩)⟩)))
theorem UG(hd:1<=d)(k:Q (.bool false) σ):WP (aS TT FT d 523 [x,.int (-1),y]) σ Q:=aA hd rfl rfl (qt rfl k)
theorem UH(hd:1<=d)(k:Q (.bool false) σ):WP (aS TT FT d 503 [x,.int (-2)]) σ Q:=aA hd rfl rfl (qt rfl k)
noncomputable abbrev ahm(a:Ad)(u aa:Nat):aQ:=[some (G a),some (.int (-2)),some (vN u),some (vN aa),none,none,none]
theorem Na(hd:7<=d)(h:GS a g tb σ)(hg:bW tb)(hk:Kd tb s)(hs:∀p∈s,Lj tb p)(h3:s.length<64)(hr:jt aa)(hlv:1<=g.ao)(rs:RkS g.cY)(ls:LwS g.low)(hz:tb.length<cu)(hl:(g.ls (sb g)).length<cu)
  (k:∀g' dM,GS a g' (aO tb (cH s)) dM->GX a g σ g' dM->Ac g g'->g'.cO=min g.cO aa->RkS g'.cY->LwS g'.low->g'.ls=gX g.ls (sb g) (o5 (g.ls (sb g)) (U (aO tb (cH s)) (cH s),aa))->Q .none dM):
  WP (aS TT FT d 542 [G a,.int (-2),vN (U tb s),vN aa]) σ Q:=by
 have UI:∀g1 gU,GS a g1 tb gU->GX a g σ g1 gU->Ac g g1->g1.cO=min g.cO aa->g1.ls=g.ls->RkS g1.cY->LwS g1.low->iJ TT (aS TT FT (d-1)) (dX.body.drop 7) (ahm a (U tb s) aa) (dY Q) gU:=by
  intro g1 gU h1 x1 sm hb UB r1 l1;have lw:=UE l1;have h2:=h1.mW (g':=g1.adu (cS (.int (-2)) (.int 1) g1.low)) 13 _ (by decide) rfl rfl rfl
  have Z9:sb g1=sb g:=au (λn=>decide (n≠0)) sm.aj;refine o_attr h1.ns rfl (qv (λ_=>?_) λz=>absurd (sm.ao▸hlv) (Nat.not_lt.mpr z));refine o_attr h1.ns rfl (o_attr h1.ns rfl (UG (dk hd rfl) (aL (o_attr h1.ns rfl (fM (h1.u9 13 _ rfl) lw.1 lw.2.1 (UH (dk hd rfl) (aL (o_attr h2.1.ns rfl (o_attr h2.1.st.h rfl (Uz (dk hd rfl) h2.1.eY hg hk hs h3 hz λσ3 e3 t3=>?_))))))))));refine UA (h2.1.tx e3 t3) (Z9.symm▸UB▸hl:(g1.ls (sb g1)).length<cu) λg' dM h4 x4 sm4 e4 el4=>k g' dM h4 (x1.trans (h2.2.trans ((GX.Uw h2.1 e3).trans x4))) (sm.trans ⟨sm4.1,sm4.2,sm4.3,sm4.4,sm4.5,sm4.6,sm4.7,sm4.8⟩) (e4.1.trans hb) (e4.3.symm▸r1) (.inr (e4.2.trans lw.2.2)) ?_;have el4:g'.ls=gX g1.ls (sb g1) (o5 (g1.ls (sb g1)) (U (aO tb (cH s)) (cH s),aa)):=el4;rw [Z9,UB]at el4;exact el4
 have Cn:∀g0 gU,GS a g0 tb gU->GX a g σ g0 gU->Ac g g0->g0.cO=min g.cO aa->g0.ls=g.ls->g0.cY=g.cY->g0.low=g.low->iJ TT (aS TT FT (d-1)) (dX.body.drop 2) (ahm a (U tb s) aa) (dY Q) gU:=by
  intro g0 gU h1 x1 sm hb UB er el;have e1:aY NX gU (gU++[bw.dict []]):=(aY.refl gU).new _;have h2:=h1.nx e1;have h3:=h2.nsSet (g':=g0.Py (.ref gU.length)) (n:=EC) rfl rfl rfl rfl;refine o_attr h1.ns rfl (nj (h1.u9 3 _ rfl) rfl (fW (cV h2.ns (gm _ _) (ahl (gS hr.1) (by decide) hr.2 (o6 (λz=>absurd rfl z) λ_=>adz (dk hd rfl) h3.1 λσ4 e4=>aL ?_)))))
  have h4:=h3.1.nx e4;have x4:=x1.trans ((GX.tP h1 e1).trans (h3.2.trans (GX.tP h3.1 e4)));obtain⟨c,hc⟩:=rs;have rf:=UD c;have b14:=hc▸er▸h4.u9 14 _ rfl;refine o_attr h4.ns rfl (iZ b14 (.inl rfl) (rD b14 rf.1 rf.2.1 (H9 (λAP=>?_) λAP=>?_)))
  ·have h5:=h4.mW (g':=(g0.Py (.ref gU.length)).EE (cS (.int (-2)) (vN aa) (Wk c))) 14 _ (by decide) rfl rfl rfl
   have b13:=el▸h5.1.u9 13 _ rfl;have rk':RkS (cS (.int (-2)) (vN aa) (Wk c)):=⟨some aa,rf.2.2.2 _⟩;refine o_attr h4.ns rfl (fM b14 rf.1 rf.2.2.1 (o_attr h5.1.ns rfl (iZ b13 (.inr rfl) (ls.elim (λq=>?_) λq=>?_))))
   ·exact M9 (q▸b13) rfl (fD _) (UI ((g0.Py (.ref gU.length)).EE (cS (.int (-2)) (vN aa) (Wk c))) _ h5.1 (x4.trans h5.2) ⟨sm.1,sm.2,sm.3,sm.4,sm.5,sm.6,sm.7,sm.8⟩ hb UB rk' (.inl (el.trans q)))
   ·have h6:=h5.1.mW (g':=((g0.Py (.ref gU.length)).EE (cS (.int (-2)) (vN aa) (Wk c))).adu []) 13 _ (by decide) rfl rfl rfl
    exact ady (es:=[(.int (-2),.int 1)]) (q▸b13) rfl rfl (UI (((g0.Py (.ref gU.length)).EE (cS (.int (-2)) (vN aa) (Wk c))).adu []) _ h6.1 (x4.trans (h5.2.trans h6.2)) ⟨sm.1,sm.2,sm.3,sm.4,sm.5,sm.6,sm.7,sm.8⟩ hb UB rk' (.inl rfl))
  ·exact UI (g0.Py (.ref gU.length)) _ h4 x4 ⟨sm.1,sm.2,sm.3,sm.4,sm.5,sm.6,sm.7,sm.8⟩ hb UB ⟨c,er.trans hc⟩ (el▸ls)
 refine aA (dl hd rfl) rfl rfl (o_attr h.ns rfl (Kz rfl (o_attr h.ns rfl (H9 (λAP=>?_) λAP=>?_))))
 ·have h1:=h.nsSet (g':=g.oZ aa) (n:=qw) rfl rfl rfl rfl
  exact cV h.ns (gm _ _) (Cn _ _ h1.1 h1.2 ⟨rfl,rfl,rfl,rfl,rfl,rfl,rfl,rfl⟩ (AF (fT AP)).symm rfl rfl rfl)
 ·exact Cn g σ h .refl ⟨rfl,rfl,rfl,rfl,rfl,rfl,rfl,rfl⟩ (nW AP).symm rfl rfl rfl
theorem Cv(hd:1<=d)(h:GS a g tb σ)(k:Q .none σ):WP (aS TT FT d 542 [G a,vN i,x,y]) σ Q:=by
 refine aA hd rfl rfl (o_attr h.ns rfl (Kz rfl ?_));rw [show jg (vN i) [.int (-2)]=false from(xN (decide (V.int (-2)=vN i))).trans (dg λq=>Int.noConfusion (V.int.inj q))];exact k
end
structure Q1(tb:List V)(p:Nat):Prop where
 ok:∃r,Wi tb p r
 nu:O6 tb p
structure Ia(tb:List V)(p:Nat):Prop where
 it:Q1 tb p
 reg:Q1 tb (kN p)
noncomputable def dD(s t:Nat):Bool:=decide (kN s=t)||decide (bf s=some t)
structure TgF(tb:List V)(p:Nat):Prop where
 it:P1 tb p
 row:∃c rest ks,K8 tb p c rest ks
 no:p≠10
section
theorem P1.q1(h:P1 tb p):Q1 tb p:=⟨h.ok,h.dc.row⟩
theorem Ib(g:bW tb):Q1 tb 2:=⟨⟨_,g.Qv g.KI (by decide)⟩,1,_,g.KI,by decide⟩
theorem Lj.q(h:Lj tb p):Ia tb p:=⟨h.it.q1,h.reg.q1⟩
theorem Lk(g:bW tb):Ia tb 2:=⟨Ib g,Ib g⟩
theorem Y0:∀v,(B0.all λp=>z8 v p&&decide (p≠10))=true:=by decide+kernel
theorem adB:∀x∈gA,x.1≠6:=by decide
theorem pR(hp:37<=p)(h:n<37):p≠n:=Nat.ne_of_gt (eB h hp)
theorem vd(w:Wt v mk tb)(h:p∈B0\/37<=p/\∃e,aK mk p=some e):TgF tb p:=h.elim (λh=>have k1:=ah (pW (Y0 v) p h);⟨pP w.g w.b k1.1,(Lb w.s w.b w.m p (cP _ h)).imp λc q=>q.imp λrest q=>q.imp λks q=>q.1,bx k1.2⟩)
  λ⟨hp,e,he⟩=>have so:=(w.s.uZ.ok p e he).1
   have r:=zT w.s w.b w.m he (aH (Er _ so).1 (by decide))
   ⟨⟨⟨_,w.g.Qv r.cR λq=>q.elim (pR hp (by decide)) λq=>q.elim (pR hp (by decide)) λq=>q.elim (pR hp (by decide)) (pR hp (by decide))⟩,pR hp (by decide),_,_,r.cR,Ca (adB _ so)⟩,⟨_,_,_,r⟩,pR hp (by decide)⟩
end
theorem Ic(k1:a≠b->Q true s)(k2:a=b->Q false s):WP (aM T .ne (.int a) (.int b)) s Q:=.bind (sV (λe=>.ret (k2 e)) λe=>.ret (k1 e))
section
theorem Ie(hd:1<=d)(h:GS a g tb σ)(gd:bW tb)(e:tb[p]?=some (.aC (vN c::rest)))(k:Q (.bool (decide (p=33))) σ):WP (aS TT FT d 577 [G a,vN p]) σ Q:=by
 refine aA hd rfl rfl (o_attr h.ns rfl (o_attr h.st.h rfl (o_attr h.eY.ns rfl (dP h.eY.fN e (o_attr h.ns rfl (bG (λjy=>?_) λjy=>?_))))))
 ·exact aL (sX (au V.bool (dj jy).symm) k)
 ·have k:=sX (au V.bool (dg jy).symm) k
  refine aL (aI rfl (bG (λe10=>aL ?_) λ_=>aL k));refine aI (v:=vN (p-22)) (((M4 gd e).1 e10).2.symm▸rfl) (o_attr h.ns rfl (qs rfl ?_));exact sX (au V.bool ((xN (decide (V.int (-2)=vN (p-22)))).trans (dg λq=>Int.noConfusion (V.int.inj q)))) k
theorem PB(s:Nat):bf (kN s)=bf s:=by
 unfold kN;cases e:dJ s with
 |none=>rfl
 |some q=>exact(rq e).elim λw h=>h.2.2.1.trans h.1.symm
theorem ze.eN(f:ze tb p c rest)(t:Nat):bf p=some t↔(c=3\/c=4)/\t=c+3:=(c6 (c=3\/c=4)).elim (λh=>(f.lit h).elim λx l=>⟨λe=>⟨h,bV (e.symm.trans l.eN)⟩,λe=>l.eN.trans (au some e.2.symm)⟩) λh=>⟨λe=>ns ((f.MD h).1.symm.trans e),λe=>absurd e.1 h⟩
theorem Ll(hd:4<=d)(h:f9 σ tb)(hs:Ia tb s)(k:Q (.bool (dD s t)) σ):WP (aS TT FT d 584 [jv,vN s,vN t]) σ Q:=by
 obtain⟨r,o⟩:=hs.it.ok;obtain⟨r',o'⟩:=hs.reg.ok;obtain⟨c,rest,er,f⟩:=o'.cls;refine aA (dl hd rfl) rfl rfl (KJ h o hs.it.nu (dk hd rfl) (bG (λe1=>?_) λe1=>?_))
 ·exact sX (au (λb=>V.bool (b||decide (bf s=some t))) (dj e1).symm) k
 have k:=sX (au (λb=>V.bool (b||decide (bf s=some t))) (dg e1).symm) k;have wh:∀{b:Bool},((c=3\/c=4)/\t=c+3↔b=true)->Q (.bool b) σ:=λq=>(Bool.eq_iff_iff.mpr (decide_eq_true_iff.trans ((PB s▸f.eN t).trans q)))▸k;have n5:=Ca (mP f.tags (show 5∉wK by decide))
 refine ME (dk hd rfl) h (o'.cR.trans (au some er)) (bG (λe6=>bG (λc3=>aL (wh ⟨λ_=>rfl,λ_=>⟨.inl c3,e6.trans (au (·+3) c3).symm⟩⟩)) λc3=>aL (bz n5 (aL (wh ⟨λq=>?_,Bool.noConfusion⟩)))) λe6=>bG (λe7=>aL (bG (λc4=>aL (wh ⟨λ_=>rfl,λ_=>⟨.inr c4,e7.trans (au (·+3) c4).symm⟩⟩)) λc4=>aL (bz n5 (aL (wh ⟨λq=>?_,Bool.noConfusion⟩))))) λe7=>aL (wh ⟨λq=>?_,Bool.noConfusion⟩))
 ·exact absurd (kZ (kZ (kZ (q.2.symm.trans e6)))) c3
 ·exact absurd (kZ (kZ (kZ (q.2.symm.trans e7)))) c4
 ·exact q.1.elim (λc3=>absurd (q.2.trans (au (·+3) c3)) e6) λc4=>absurd (q.2.trans (au (·+3) c4)) e7
theorem Nb(r:wO c rest ks):c≠8:=by
 cases r with
 |G7=>decide
 |adl _ _ m=>exactλe=>absurd (e▸m) (by decide)
 |adm _ _ _ m _=>exactλe=>Uc _ m e
theorem Ig(hd:5<=d)(h:GS a g tb σ)(hs:Ia tb s)(ht:TgF tb t)(k:Q (.bool (dD s t)) σ):WP (aS TT FT d 591 [G a,vN s,vN t]) σ Q:=by
 refine aA (dl hd rfl) rfl rfl (o_attr h.ns rfl (o_attr h.st.h rfl (Ll (dk hd rfl) h.eY hs (aL ?_))));cases hl:dD s t with
 |true=>rw [hl]at k;exact k
 |false=>
  rw [hl]at k;obtain⟨r,o⟩:=hs.it.ok;obtain⟨r2,o2⟩:=ht.it.ok;obtain⟨c,rest,ks,row⟩:=ht.row;refine Cb h.eY o hs.it.nu (dk hd rfl) λf1 _=>Ic (λ_=>k) λ_=>Cb h.eY o2 ht.it.dc.row (dk hd rfl) λf2 q=>Ic (λ_=>k) λe7=>?_;refine(q e7).elim (λq=>absurd q ht.no) λ⟨ns,b,er⟩=>absurd (eX (rA (bV (row.cR.symm.trans (o2.cR.trans (au some er)))))) (Nb row.row)
theorem EJ(hd:1<=d)(h:f9 σ tb)(hs:Ia tb s)(ht:TgF tb t)(k:Q (.bool false) σ):WP (aS TT FT d 598 [jv,vN s,vN t]) σ Q:=by
 obtain⟨r,o⟩:=hs.it.ok;obtain⟨r2,o2⟩:=ht.it.ok;obtain⟨c,rest,er,f⟩:=o.cls;obtain⟨c2,Cn,er2,f2⟩:=o2.cls;exact aA hd rfl rfl (o_attr h.ns rfl (dP h.fN (o.cR.trans (au some er)) (o_attr h.ns rfl (dP h.fN (o2.cR.trans (au some er2)) (aI rfl (aI rfl (Ic (λ_=>k) λ_=>aI rfl (bz (Ca (mP f.tags (show 9∉wK by decide))) (aI rfl (bz (Ca (mP f.tags (show 11∉wK by decide))) (aL k)))))))))))
end
theorem GX.loc(x:GX a g σ g' dM)(c:bw)(hl:σ.length<=l):GX a g σ g' (dM.set l c):=⟨aH x.le (cK (Fb ..).symm),λi hi p=>⟨(qB λe:l=i=>kY _ (eB hi (e▸hl))).trans (x.keep i hi p).1,(x.keep i hi p).2⟩⟩
noncomputable def tkP(t:Nat)(c:List Nat×List Nat)(x:Nat):List Nat×List Nat:=if dD x t=true then(fO c.1 x,fO c.2 t)else c
noncomputable def Ih(S T:List Nat)(c:List Nat×List Nat):List Nat×List Nat:=T.foldl (λc t=>S.foldl (tkP t) c) c
section
variable{S T:List Nat}{t x y:Nat}
theorem UJ(h:dD x t=true):tkP t c x=(fO c.1 x,fO c.2 t):=az h
theorem aaM(h:dD x t=false):tkP t c x=c:=ay (h▸eH)
theorem IY(S:List Nat):∀c,(x∈(S.foldl (tkP t) c).1↔x∈c.1\/x∈S/\dD x t=true)/\(y∈(S.foldl (tkP t) c).2↔y∈c.2\/y=t/\∃z∈S,dD z t=true):=by
 induction S with
 |nil=>exactλc=>⟨⟨.inl,λh=>h.elim id λh=>bg h.1⟩,⟨.inl,λh=>h.elim id λh=>h.2.elim λz h=>bg h.1⟩⟩
 |cons s S ih=>
  intro c;have i:=ih (tkP t c s);cases h:dD s t with
  |true=>
   rw [List.foldl_cons,i.1,i.2,UJ h,sY,sY];exact⟨⟨λq=>q.elim (λq=>q.imp id λq=>⟨List.mem_cons.mpr (.inl q),(au (λz=>dD z t) q).trans h⟩) λq=>.inr ⟨cP _ q.1,q.2⟩,λq=>q.elim (λq=>.inl (.inl q)) λq=>(fY q.1).elim (λe=>.inl (.inr e)) λm=>.inr ⟨m,q.2⟩⟩,⟨λq=>q.elim (λq=>q.imp id λq=>⟨q,s,cC,h⟩) λq=>.inr ⟨q.1,q.2.imp λz q=>⟨cP _ q.1,q.2⟩⟩,λq=>.inl (q.imp id λq=>q.1)⟩⟩
  |false=>
   rw [List.foldl_cons,i.1,i.2,aaM h];have out:∀{z},z∈s::S->dD z t=true->z∈S:=λm e=>(fY m).resolve_left λq=>eH (h.symm.trans (q▸e));exact⟨j6 kH ⟨λq=>⟨cP _ q.1,q.2⟩,λq=>⟨out q.1 q.2,q.2⟩⟩,j6 kH (and_congr kH ⟨λq=>q.imp λz q=>⟨cP _ q.1,q.2⟩,λq=>q.imp λz q=>⟨out q.1 q.2,q.2⟩⟩)⟩
theorem tk2(S T:List Nat):∀c,(x∈(Ih S T c).1↔x∈c.1\/x∈S/\∃t∈T,dD x t=true)/\(y∈(Ih S T c).2↔y∈c.2\/y∈T/\∃z∈S,dD z y=true):=by
 induction T with
 |nil=>exactλc=>⟨⟨.inl,λh=>h.elim id λh=>h.2.elim λz h=>bg h.1⟩,⟨.inl,λh=>h.elim id λh=>bg h.1⟩⟩
 |cons t T ih=>
  intro c;have i:=ih (S.foldl (tkP t) c);have j:=IY (t:=t) (x:=x) (y:=y) S c;refine⟨i.1.trans ((j6 j.1 kH).trans (or_assoc.trans (j6 kH ⟨λq=>q.elim (λq=>⟨q.1,t,cC,q.2⟩) λq=>⟨q.1,q.2.imp λz q=>⟨cP _ q.1,q.2⟩⟩,λq=>q.2.elim λz h=>(fY h.1).elim (λe=>.inl ⟨q.1,e▸h.2⟩) λm=>.inr ⟨q.1,z,m,h.2⟩⟩))),i.2.trans ((j6 j.2 kH).trans (or_assoc.trans (j6 kH ⟨λq=>q.elim (λq=>⟨q.1▸cC,q.1.symm▸q.2⟩) λq=>⟨cP _ q.1,q.2⟩,λq=>(fY q.1).elim (λe=>.inl ⟨e,e▸q.2⟩) λm=>.inr ⟨m,q.2⟩⟩)))⟩
theorem alo(hx:x∈S):decide (x∈(Ih S T ([],[])).1)=T.any (dD x):=Bool.eq_iff_iff.mpr (decide_eq_true_iff.trans ((tk2 (y:=0) S T ([],[])).1.trans ((or_iff_right pY).trans ((and_iff_right hx).trans List.any_eq_true.symm))))
theorem alp(hy:y∈T):decide (y∈(Ih S T ([],[])).2)=S.any λs=>dD s y:=Bool.eq_iff_iff.mpr (decide_eq_true_iff.trans ((tk2 (x:=0) S T ([],[])).2.trans ((or_iff_right pY).trans ((and_iff_right hy).trans List.any_eq_true.symm))))
end
theorem EK(l:List Nat)(y:Nat):(fO l y).length<=l.length+1:=(c6 (y∈l)).elim (λh=>(xB h).symm▸gD _) λh=>(jP h).symm▸cK (gf l y)
section
variable{v:Bool}{mk:aT}{a:Ad}{g:GR}{tb:List V}{σ:St}{d:Nat}{Q:V->St->Prop}
theorem Lm(hd:7<=d)(h:GS a g tb σ)(w:Wt v mk tb)(i:iU v mk tb g.asked)(hw:∀i,i∈a.wl↔i∈tM v)(ht:Tg mk t)(hk:Kd tb t)(hl:g.asked.length<cu)(hn:cB v mk HT t=false)
  (k:∀es dM,es.length<=g.asked.length+1->iU v mk tb es->GS a (g.dW es) tb dM->GX a g σ (g.dW es) dM->Q .none dM):WP (aS TT FT d 556 [G a,vN x,vN (U tb t),r]) σ Q:=aA (dl hd rfl) rfl rfl (qt (xy x) (H7 (dk hd rfl) h w i hw ht hk hl λes dM h1 h2 h3 h4=>aL (by rw [hn];exact k es dM h1 h2 h3 h4)))
theorem Ae(hd:1<=d)(k:WP (aS TT FT (d-1) 556 [G a,x,y,z]) σ λ_ s=>Q .none s):WP (aS TT FT d 460 [G a,x,y,z]) σ Q:=aA hd rfl rfl k
structure TkS where
 es:List (V×V)
 ks:List Nat
 ms:List Nat
 n:Nat
 σ:St
 x:Option V
 y:Option V
 z:Option V
structure TkI(v:Bool)(mk:aT)(a:Ad)(g:GR)(tb:List V)(σ:St)(s:TkS):Prop where
 gs:GS a (g.dW s.es) tb s.σ
 gx:GX a g σ (g.dW s.es) s.σ
 ask:iU v mk tb s.es
 ks:At s.σ σ.length (.dict (jY s.ks))
 ms:At s.σ (σ.length+1) (.dict (jY s.ms))
 le:s.es.length<=g.asked.length+s.n
 lk:s.ks.length<=s.n
 lm:s.ms.length<=s.n
noncomputable def Ln(a:Ad)(S T:List Nat)(close:Bool)(aa:V)(L1 L2:Nat)(s:TkS):aQ:=[some (G a),some (.lst (bI S)),some (.lst (bI T)),some (.bool close),some aa,some jv,some (.ref L1),some (.ref L2),s.x,s.y,s.z,none,none]
theorem Nc{S T ks ms:List Nat}{L1 L2:Nat}(hS:S.length<=4)(hT:T.length<=4)(f1 f2:Nat->Bool)(b1:At s.σ L1 (.dict (jY ks)))(b2:At s.σ L2 (.dict (jY ms)))(h1:∀x∈S,decide (x∈ks)=f1 x)(h2:∀y∈T,decide (y∈ms)=f2 y)
  (k:∀dM,aY NX s.σ dM->Q (.aC [.lst (bI (S.filter λx=>! f1 x)),.lst (bI (T.filter λx=>! f2 x))]) dM):iJ TT C (oF.body.drop 4) (Ln a S T close aa L1 L2 s) (dY Q) s.σ:=by
 have aR:∀{σ:St}{l:Nat}{ks:List Nat}{f:Nat->Bool}{x:Nat}{ys:List V}{K:Unit->St->Prop}(b:At σ l (.dict (jY ks)))(e:decide (x∈ks)=f x),((! f x)=true->oJ σ.length (vN x) K (σ++[.list ys]))->((! f x)=false->K () (σ++[.list ys]))->WP (aM TT .dz (vN x) (.ref l)) (σ++[.list ys]) λb s'=>if b=true then oJ σ.length (vN x) K s' else K () s':=λ{σ l ks f x ys K}b e k1 k2=>oK b.new (jq _ _) (by
  rw [jO,xA,e];cases q:f x with
  |true=>exact k2 (by rw [q];rfl)
  |false=>exact k1 (by rw [q];rfl))
 refine .ret (lH vN (λx=>! f1 x) vN ?_ (aH hS HG) (λx hx ys K k1 k2=>aR b1 (h1 x hx) k1 k2) (.ret (lH vN (λx=>! f2 x) vN ?_ (aH hT HG) (λx hx ys K k1 k2=>aR (b2.new) (h2 x hx) k1 k2) (k _ (((aY.refl _).new _).new _)))))
 ·exactλ_=>bu
 ·exactλ_=>bu
theorem Y3{S T:List Nat}(hd:9<=d)(h:GS a g tb σ)(w:Wt v mk tb)(i:iU v mk tb g.asked)(hw:∀i,i∈a.wl↔i∈tM v)(hS:∀s∈S,Ia tb s)(hT:∀t∈T,t∈B0\/37<=t/\∃e,aK mk t=some e)
  (N6:∀s∈S,∀t∈T,dD s t=true->cB v mk HT [t]=false)(Q3:S.length<=3)(hT4:T.length<=4)(ha:g.asked.length+12<cu)
  (k:∀es dM,es.length<=g.asked.length+12->iU v mk tb es->GS a (g.dW es) tb dM->GX a g σ (g.dW es) dM->Q (.aC [.lst (bI (S.filter λs=>! T.any (dD s))),.lst (bI (T.filter λt=>! S.any λs=>dD s t))]) dM):
  WP (aS TT FT d 603 [G a,.lst (bI S),.lst (bI T),.bool false,aa]) σ Q:=by
 have e2:aY NX σ (σ++[bw.dict []]++[bw.dict []]):=((aY.refl σ).new _).new _;have p6:=h.EG (aW σ.length);have p7:=h.EG (gD σ.length);have ne:σ.length+1≠σ.length:=Nat.succ_ne_self _;have i0:TkI v mk a g tb σ ⟨g.asked,[],[],0,σ++[bw.dict []]++[bw.dict []],none,none,none⟩:=⟨h.nx e2,.tP h e2,i,bS.new,gf σ (bw.dict [])▸bS,aW _,aW _,aW _⟩;have l12:∀{m},m<=12->m<cu:=λh=>di h (by decide)
 refine aA (dl hd rfl) rfl rfl (o_attr h.ns rfl (o_attr h.st.h rfl (fW (fW ?_))));rw [gf σ (bw.dict [])];refine .ret (bD vN (Ln a S T false aa σ.length (σ.length+1)) TkS.σ (λr s=>TkI v mk a g tb σ s/\s.n+3*r.length<=12/\(∀t∈r,t∈T)/\Ih S r (s.ks,s.ms)=Ih S T ([],[])) ?_ ?_ ?_ T ⟨g.asked,[],[],0,_,none,none,none⟩ ⟨i0,aH (cK (p8 _)) (kW 3 hT4),λ_=>id,rfl⟩)
 ·exactλ_=>bu
 ·intro t r s K j kn _
  have tgt:=hT t (j.2.2.1 t cC);have tgf:=vd w tgt;refine .ret (bD vN (Ln a S T false aa σ.length (σ.length+1)) TkS.σ (λr2 s2=>TkI v mk a g tb σ s2/\s2.n+1*r2.length<=s.n+3/\(∀x∈r2,x∈S)/\s2.x=some (vN t)/\Ih S r (r2.foldl (tkP t) (s2.ks,s2.ms))=Ih S T ([],[])) ?_ ?_ ?_ S ⟨s.es,s.ks,s.ms,s.n,s.σ,some (vN t),s.y,s.z⟩ ⟨⟨j.1.1,j.1.2,j.1.3,j.1.4,j.1.5,j.1.6,j.1.7,j.1.8⟩,cG (aH (cK (Nat.one_mul _)) Q3) _,λ_=>id,rfl,j.2.2.2⟩)
  ·exactλ_=>bu
  ·intro x r2 u K2 ⟨q,hn,hr,hx,hv⟩ IZ _
   have n12:=aH (bZ _ _) (aH hn (aH (cG (fC 3 (3*r.length)) _) j.2.1));have hxS:=hr x cC;have hr':=λy m=>hr y (cP _ m);unfold Ln;rw [hx];refine aL (Ig (dk hd rfl) q.gs (hS x hxS) tgf (aL ?_));cases hl:dD x t with
   |false=>exact IZ ⟨u.es,u.ks,u.ms,u.n,u.σ,some (vN t),some (vN x),some (.bool false)⟩ ⟨⟨q.1,q.2,q.3,q.4,q.5,q.6,q.7,q.8⟩,oU hn (fD 1),hr',rfl,aaM (c:=(u.ks,u.ms)) hl▸hv⟩
   |true=>
    refine bT q.gs.ns rfl rfl (Ae (dk hd rfl) (Lm (t:=[t]) (dk (dk hd rfl:8<=d-1) rfl) q.gs w q.ask hw ⟨show 1<=4 by decide,λp hp=>dG hp▸tgt⟩ (.aR tgf.it.dc) (di q.le (di (cG n12 _) ha)) (N6 x hxS t (j.2.2.1 t cC) hl) λes' s2 d1 d2 d3 d4=>?_))
    have b6:=d4.at q.ks (.inr p6);have b7:=(d4.at q.ms (.inr p7)).bF (d:=.dict (jY (fO u.ks x))) ne.symm;refine Et b6 (l12 (aH q.lk n12)) (Et b7 (l12 (aH q.lm n12)) ?_);have c1:=oU hn (aW 1);exact IZ ⟨es',fO u.ks x,fO u.ms t,u.n+1,_,some (vN t),some (vN x),some (.bool true)⟩ ⟨⟨(d3.loc _ p6).loc _ p7,((q.gx.trans d4).loc _ (aW _)).loc _ (gD _),d2,b6.dS.bF ne,b7.dS,aH d1 (nG q.le),aH (EK ..) (nG q.lk),aH (EK ..) (nG q.lm)⟩,c1,hr',rfl,UJ (c:=(u.ks,u.ms)) hl▸hv⟩
  ·exactλu⟨q,hn,_,_,hv⟩=>kn u ⟨q,aH (dQ hn _) (aH (cK (nH ..)) (vP 3 (3*r.length)▸j.2.1)),λy m=>j.2.2.1 y (cP _ m),hv⟩
 ·intro s ⟨q,hn,_,hv⟩
  have hv:=hv;refine Nc (rP Q3) hT4 (λx=>T.any (dD x)) (λy=>S.any λs=>dD s y) q.ks q.ms (λx hx=>(au (λc:List Nat×List Nat=>decide (x∈c.1)) hv).trans (alo hx)) (λy hy=>(au (λc:List Nat×List Nat=>decide (y∈c.2)) hv).trans (alp hy)) λdM e3=>k s.es dM (aH q.le (cG hn _)) q.ask (q.gs.nx e3) (q.gx.trans (.tP q.gs e3))
theorem UK{S T:List Nat}(hd:2<=d)(h:GS a g tb σ)(hS:∀s∈S,Ia tb s)(hT:∀t∈T,TgF tb t)(Q3:S.length<=3)(hT4:T.length<=4)
  (k:∀dM,aY NX σ dM->Q (.aC [.lst (bI S),.lst (bI T)]) dM):WP (aS TT FT d 603 [G a,.lst (bI S),.lst (bI T),.bool true,aa]) σ Q:=by
 have e2:aY NX σ (σ++[bw.dict []]++[bw.dict []]):=((aY.refl σ).new _).new _;have h2:=h.eY.nx e2;have a6:At (σ++[bw.dict []]++[bw.dict []]) σ.length (.dict (jY [])):=bS.new;have a7:At (σ++[bw.dict []]++[bw.dict []]) (σ++[bw.dict []]).length (.dict (jY [])):=bS;refine aA (dl hd rfl) rfl rfl (o_attr h.ns rfl (o_attr h.st.h rfl (fW (fW ?_))));generalize(σ++[bw.dict []]).length=L at a7;generalize σ++[bw.dict []]++[bw.dict []]=wN at e2 h2 a6 a7;refine .ret (bD vN (Ln a S T true aa σ.length L) TkS.σ (λr s=>s.σ=wN/\∀t∈r,t∈T) ?_ (λt r s K j kn _=>?_) (λs j=>?_) T ⟨[],[],[],0,wN,none,none,none⟩ ⟨rfl,λ_=>id⟩)
 ·exactλ_=>bu
 ·refine .ret (bD vN (Ln a S T true aa σ.length L) TkS.σ (λr2 u=>u.σ=wN/\u.x=some (vN t)/\∀x∈r2,x∈S) ?_ (λx r2 u K2 j2 IZ _=>?_) (λu j2=>?_) S ⟨[],[],[],0,s.σ,some (vN t),s.y,s.z⟩ ⟨j.1,rfl,λ_=>id⟩)
  ·exactλ_=>bu
  ·unfold Ln
   rw [j2.2.1];exact aL (EJ (dk hd rfl) (j2.1▸h2) (hS x (j2.2.2 x cC)) (hT t (j.2 t cC)) (aL (IZ ⟨[],[],[],0,u.σ,some (vN t),some (vN x),some (.bool false)⟩ ⟨j2.1,rfl,λy q=>j2.2.2 y (cP _ q)⟩)))
  ·exact kn u ⟨j2.1,λy q=>j.2 y (cP _ q)⟩
 ·have k:=Nc (a:=a) (C:=aS TT FT (d-1)) (close:=true) (aa:=aa) (rP Q3) hT4 (λ_=>false) (λ_=>false) (j.1▸a6) (j.1▸a7) (λ_ _=>rfl) (λ_ _=>rfl) λdM e=>by
   have f:∀l:List Nat,l.filter (λ_=>true)=l:=λl=>List.filter_eq_self.mpr λ_ _=>rfl;show Q (.aC [.lst (bI (S.filter λ_=>true)),.lst (bI (T.filter λ_=>true))]) dM;rw [f,f];exact k dM (e2.trans (j.1▸e))
  exact k
end
section
variable{v:Bool}{mk:aT}{a:Ad}{g:GR}{tb:List V}{σ:St}{d:Nat}{Q:V->St->Prop}
noncomputable def o7(s:ai):List Nat:=if s=[]then [2]else s
theorem U_2(g:bW tb)(hk:Kd tb s):U tb s=2↔s=[]:=⟨λe=>nv g s [] hk (.nil tb) e,λe=>e▸rfl⟩
theorem Ii(hd:2<=d)(h:f9 σ tb)(g:bW tb)(hk:Kd tb s)(h3:s.length<=64)(k:∀dM,aY NX σ dM->Q (.lst (bI (o7 s))) dM):WP (aS TT FT d 608 [jv,vN (U tb s)]) σ Q:=by
 refine aA (dl hd rfl) rfl rfl (bG (λe=>?_) λe=>?_)
 ·exact sX (au (λl=>V.lst (bI l)) (show [2]=o7 s from(az ((U_2 g hk).mp e)).symm)) (k σ (aY.refl σ))
 ·refine lF (dk hd rfl) h g hk (.ret (jc vN vN ?_ (aH h3 (by decide)) (λ_ _ ys K k1=>k1) ?_))
  ·exactλ_=>bu
  ·exact sX (Q:=Q) (au (λl=>V.lst (bI l)) ((ay λz=>e ((U_2 g hk).mpr z)).symm)) (k _ ((aY.refl σ).new _))
theorem Lo:cH [13]=[13]:=by decide+kernel
theorem PC(hd:8<=d)(h:GS a g tb σ)(w:Wt v mk tb)(ht:Tg mk t)(hk:Kd tb t)(hr:jt aa)(hlv:1<=g.ao)(rs:RkS g.cY)(ls:LwS g.low)(hz:tb.length<cu)(hl:(g.ls (sb g)).length<cu)
  (k:∀g' dM,GS a g' tb dM->GX a g σ g' dM->Ac g g'->g'.cO=min g.cO aa->RkS g'.cY->LwS g'.low->g'.ls=gX g.ls (sb g) (o5 (g.ls (sb g)) (13,aa))->Q .none dM):
  WP (aS TT FT d 549 [G a,vN (U tb t),vN aa]) σ Q:=by
 have f13:Lj tb 13:=lQ w (.inl (by decide))
 refine aA (dl hd rfl) rfl rfl (o_attr h.ns rfl (MP (λ_=>Na (dk hd rfl) h w.g (.aR f13.it.dc) (λp hp=>dG hp▸f13) (by decide) hr hlv rs ls hz hl ?_) λz=>absurd z (by decide)))
 rw [Lo];intro g' dM h1 x1 sm hb r1 l1 el;have h1:=h1;obtain⟨S,c,hS⟩:=w.clo ht hk;refine o_attr h1.ns rfl (bT h1.st.m rfl rfl (o_attr h1.ns rfl (o_attr h1.st.h rfl (u0 w.g (dk hd rfl) h1.eY c hS λwN ps e2 _ _=>.ret ?_))));have h2:=h1.nx e2;refine bD vN (λx3:Option V=>[some (G a),some (vN (U tb t)),some (vN aa),x3]) (λ_=>wN) (λ_ _=>True) ?_ (λx r x3 K _ kn _=>Cv (dk hd rfl) h2 (kn (some (vN x)) bu)) (λx3 _=>k g' _ h2 (x1.trans (.tP h1 e2)) sm hb r1 l1 el) (lP ps) none bu;exactλ_=>bu
end
noncomputable def fd(ws:List Nm):List (V×V):=ws.map λw=>(V.str w,g7 w)
noncomputable def addW(ws:List Nm)(w:Nm):List Nm:=if w∈ws then ws else ws++[w]
abbrev Y4:List Nm:=[nA,nB]
noncomputable def EL(W:List Nm):List Nm:=Y4.filter λn=>decide (n∈W)
abbrev W5:List (List Nm):=[[],[nA],[nB],[nA,nB],[nB,nA]]
theorem adD:∀ws∈W5,∀w∈Y4,addW ws w∈W5/\cS (.str w) (g7 w) (fd ws)=fd (addW ws w)/\gn (.str w) (fd ws)=true/\(fd ws).length<=2:=by decide+kernel
theorem adE:∀ws∈W5,wR (.dict (fd ws))=some (.lst ((EL ws).map V.str))/\∀x∈EL ws,bJ (.str x) (fd ws)=some (g7 x)/\gn (.str x) (fd ws)=true:=by decide+kernel
theorem UL:x∈addW ws w↔x∈ws\/x=w:=by
 unfold addW;by_cases h:w∈ws
 ·rw [az h];exact⟨.inl,λq=>q.elim id λe=>e▸h⟩
 ·rw [ay h];exact List.mem_append.trans (j6 kH List.mem_singleton)
theorem PE(W:List Nm):∀ws,x∈W.foldl addW ws↔x∈ws\/x∈W:=W.rec (λws=>(or_iff_left pY).symm) λw W ih ws=>(ih _).trans ((j6 UL kH).trans (or_assoc.trans (j6 kH List.mem_cons.symm)))
theorem PF(W:List Nm):EL (W.foldl addW [])=EL W:=au Y4.filter (funext λn=>decide_eq_decide.mpr ((PE W []).trans (or_iff_right pY)))
structure WS where
 ws:List Nm
 x:Option V
 y:Option V
section
variable{v:Bool}{mk:aT}{a:Ad}{g:GR}{tb:List V}{σ:St}{d:Nat}{Q:V->St->Prop}
theorem UM(hd:1<=d)(hp:gR pv (W.map g7) σ)(hW:∀w∈W,w∈Y4)(k:∀dM,aY NX σ dM->Q (.aC ((EL W).map g7)) dM):WP (aS TT FT d 170 [pv]) σ Q:=by
 have e0:∀c,aY NX σ (σ++[c]):=(aY.refl σ).new;refine aA hd rfl rfl (fW ((hp.ext (e0 _)).wp (bD g7 (λa:WS=>[some pv,some (.ref σ.length),a.x,none]) (λa=>σ++[.dict (fd a.ws)]) (λr a=>a.ws∈W5/\(∀w∈r,w∈Y4)/\r.foldl addW a.ws=W.foldl addW []) (λa=>(hp.ext (e0 _)).dO) (λw r a K i kn _=>?_) (λa i=>?_) W ⟨[],none,none⟩ ⟨by decide,hW,rfl⟩)))
 ·have f:=adD a.ws i.1 w (i.2.1 w cC)
  refine aI rfl (fM bS f.2.2.1 (di f.2.2.2 (by decide)) ?_)
  rw [iQ];exact(au (λl=>K (.next [some pv,some (.ref σ.length),some (g7 w),none]) (σ++[.dict l])) f.2.1).mpr (kn ⟨addW a.ws w,some (g7 w),none⟩ ⟨f.1,λx m=>i.2.1 x (cP _ m),i.2.2⟩)
 ·have f:=adE a.ws i.1
  have en:=(au EL i.2.2).trans (PF W);refine pJ bS f.1 (.ret (jc V.str g7 ?_ (aH (tY ..) (by decide)) (λx hx ys K k1=>aZ bS.new (f.2 x hx).2 (f.2 x hx).1 k1) (.of rfl (en▸k _ ((e0 _).new _)))))
  exactλ_=>bu
theorem Af(hd:2<=d)(h:f9 σ tb)(hz:tb.length<cu)(hp:gR pv (W.map g7) σ)(hW:∀w∈W,w∈Y4)
  (k:∀s',aY TX σ s'->f9 s' (f6 tb (iC (EL W) e))->Q (vN (putN tb (iC (EL W) e))) s'):WP (aS TT FT d 182 [jv,pv,.aC [],.aC [],.aC (if e then [.int 11,.int 0]else []),.aC [],.int 0]) σ Q:=aA (dl hd rfl) rfl rfl (bT h.ns rfl rfl (UM (dk hd rfl) hp hW λs1 e1=>.of rfl (.of rfl (zb (dk hd rfl) (h.nx e1) (MO _ e) hz λs' e' t'=>k s' (e1.tx.trans e') t'))))
noncomputable def Nd(p:Nat):V:=if iR p=[]then .none else .str (iR p)
abbrev units:List Nat:=[4,5,16,17,18,19,20,21]
theorem Y5:∀p<22,jd p=true->p∈units:=by decide+kernel
theorem Ij(h:jd p=true):p∈units:=(AI p 22).elim (λl=>Y5 p l h) λl=>by
 unfold jd at h;rw [rj l,dg (λm=>absurd (aH l ((by decide:∀p∈[5,4],p<=5) p m)) (by decide))]at h
 exact ff h
theorem UN:∀v,∀p∈units,(base v)[p]?.any (λr=>decide (r=.aC (vN (c0 r)::r.g9.tail))&&(decide (c0 r=3/\r.g9.tail[0]?=some (Nd p))||decide (c0 r≠3/\c0 r≠5/\Nd p=.none)))=true:=by decide+kernel
theorem Ec(hd:1<=d)(g:bW tb)(hp:p∈units):∃r,tb[p]?=some r/\∀(σ:St)(Q:V->St->Prop),Q (Nd p) σ->WP (aS TT FT d 734 [r]) σ Q:=by
 obtain⟨v,ext,et⟩:=g.first;have h:=UN v p hp;cases e:(base v)[p]? with
 |none=>rw [e]at h;exact ff h
 |some r=>
  rw [e]at h;have h:=ah h;have er:=bx h.1;refine⟨r,et▸G9 e,λσ Q k=>?_⟩;rw [er];exact(Bool.or_eq_true_iff.mp h.2).elim (λq=>have q:=bx q;aA hd rfl rfl (aI rfl (fz (au Int.ofNat q.1) (aI q.2 k))))
   λq=>have q:=bx q;aA hd rfl rfl (aI rfl (bz (Ca q.1) (aI rfl (bz (Ca q.2.1) (sX q.2.2.symm k)))))
noncomputable def wordOf(p:Nat):List Nm:=if iR p=[]then []else [iR p]
noncomputable def rH(s:ai):List Nm:=s.flatMap wordOf
theorem Y6:∀p∈units,∀w∈wordOf p,w∈Y4:=by decide+kernel
theorem UO(hs:s.all jd=true):∀w∈rH s,w∈Y4:=λw hw=>(List.mem_flatMap.mp hw).elim λp h=>Y6 p (Ij (pW hs p h.1)) w h.2
theorem PG(s:ai):(rH s).length<=s.length:=s.rec (aW _) λp s ih=>aH (cK gH) (aH (pZ (UP p) ih) (cK (vP ..)))
where UP (p:Nat):(wordOf p).length<=1:=(c6 (iR p=[])).elim (λh=>aH (cK (au List.length (az h))) (fD 1)) λh=>cK (au List.length (ay h))
theorem Lp(hn:n≠[]):n∈wordOf p↔iR p=n:=by
 unfold wordOf;by_cases h:iR p=[]
 ·rw [az h];exact⟨bg,λe=>absurd (e.symm.trans h) hn⟩
 ·rw [ay h];exact List.mem_singleton.trans eq_comm
theorem PJ(s:ai):EL (rH s)=Yt s:=List.filter_congr λn hn=>Bool.eq_iff_iff.mpr (decide_eq_true_iff.trans (List.mem_flatMap.trans ((exists_congr λp=>and_congr kH ((Lp ((by decide:∀n∈Y4,n≠[]) n hn)).trans decide_eq_true_iff.symm)).trans List.any_eq_true.symm)))
theorem unit_eq(p:Nat):(decide (p=4\/p=5)||(bf p).isSome)=jd p:=by
 unfold jd;rw [Bool.not_and,Bool.not_not,Bool.not_not,Bool.or_comm];exact au ((bf p).isSome||·) (decide_eq_decide.mpr ((or_comm.trans (j6 kH List.mem_singleton.symm)).trans List.mem_cons.symm))
theorem Lq(hd:5<=d)(h:f9 σ tb)(g:bW tb)(hk:Kd tb s)(hs:∀p∈s,Lj tb p)(h3:s.length<=64)(hz:tb.length<cu)
  (k:∀s',aY TX σ s'->f9 s' (cM tb s)->Q (.int (oI (fQ (cM tb s) s))) s'):WP (aS TT FT d 720 [jv,vN (U tb s)]) σ Q:=by
 have k6:Kd tb [6]:=.aR ⟨by decide,1,_,g.get λ_=>rfl,by decide⟩
 have kn:∀s',tE s=none->aY NX σ s'->Q (.int (-1)) s':=λs' e x=>by
  unfold cM fQ at k;rw [e]at k;exact k s' x.tx (h.nx x)
 have ks:∀r s',tE s=some r->aY TX σ s'->f9 s' (f6 tb r)->Q (vN (putN tb r)) s':=λr s' e x t=>by
  unfold cM fQ at k;rw [e]at k;exact pL tb r▸k s' x t
 unfold tE at kn ks;have e0:∀c,aY NX σ (σ++[c]):=(aY.refl σ).new;refine aA (dl hd rfl) rfl rfl (bG (λh6=>?_) λh6=>?_)
 ·exact Af (e:=true) (W:=[]) (dk hd rfl) h hz rfl (λ_=>bg) λs'=>ks _ s' (az (nv g s [6] hk k6 h6))
 have h6:s≠[6]:=λe=>h6 (e▸rfl);refine lF (dk hd rfl) h g hk (.ret (bD vN (λa:WS=>[some jv,some (vN (U tb s)),some (.aC (bI s)),some (.ref σ.length),a.x,a.y]) (λa=>σ++[.list (a.ws.map g7)]) (λr a=>a.ws++rH r=rH s/\(∀p∈r,p∈s)/\r.all jd=s.all jd) ?_ (λp r a K i IZ kr=>?_) (λa i=>?_) s ⟨[],none,none⟩ ⟨rfl,λ_=>id,rfl⟩))
 ·exactλ_=>bu
 ·have hp:=i.2.1 p cC
  obtain⟨rr,o⟩:=(hs p hp).it.ok;have h1:=h.nx (e0 (.list (a.ws.map g7)));refine Yo h1 o (dk hd rfl) (aL ?_);rw [unit_eq];cases hup:jd p with
  |false=>exact kr (.int (-1)) _ (kn _ ((ay h6).trans (az (.inr (Bool.eq_false_iff.mpr λq=>eH (hup.symm.trans (pW q p hp)))))) (e0 _))
  |true=>
   obtain⟨r',e',tx⟩:=Ec (dk hd rfl) g (Ij hup);have ir:(∀q∈r,q∈s)/\r.all jd=s.all jd:=⟨λq m=>i.2.1 q (cP _ m),(au (·&&r.all jd) hup).symm.trans i.2.2⟩
   refine o_attr h1.ns rfl (dP h1.fN e' (tx _ _ ?_));have iw:a.ws++(wordOf p++rH r)=rH s:=i.1;unfold wordOf at iw;unfold Nd;by_cases q:iR p=[]
   ·rw [az q]at iw⊢
    exact .of rfl (IZ ⟨a.ws,some (vN p),some .none⟩ ⟨iw,ir⟩)
   ·rw [ay q]at iw⊢
    refine .of rfl (oM bS (.inl rfl) (lD bS ?_ ?_))
    ·exact di (aH (cK (cT ..)) (aH (aH (bZ _ _) (cK (List.length_append.symm.trans (au List.length iw)))) (aH (PG s) h3))) (by decide)
    ·rw [iQ]
     exact(au (λl=>K (.next [some jv,some (vN (U tb s)),some (.aC (bI s)),some (.ref σ.length),some (vN p),some (.str (iR p))]) (σ++[.list l])) List.map_append.symm).mpr (IZ ⟨a.ws++[iR p],some (vN p),some (.str (iR p))⟩ ⟨(rQ ..).trans iw,ir⟩)
 ·have iw:=(kX _).symm.trans i.1
  have ia:=i.2.2.symm;have h1:=h.nx (e0 (.list (a.ws.map g7)));refine .of rfl ?_;by_cases h0:s=[]
  ·rw [show(bI s).isEmpty=true from h0▸rfl]
   exact kn _ ((ay h6).trans (az (.inl h0))) (e0 _)
  ·rw [List.casesOn (motive:=λs=>s≠[]->(bI s).isEmpty=false) s (λx=>absurd rfl x) (λ_ _ _=>rfl) h0]
   refine Af (e:=false) (dk hd rfl) h1 hz bS (iw▸UO ia) λs' e'=>?_;rw [iw,PJ];exact ks _ s' ((ay h6).trans (ay λx=>x.elim h0 λy=>eH (y.symm.trans ia))) ((e0 _).tx.trans e')
end
noncomputable def ju(x y r sd:Nat):V:=.aC [vN x,vN y,vN r,vN sd,.int 0]
abbrev mD:=Nat->Nat->Prop
structure I0 where
 v:Bool
 md:aT
 a:Ad
structure IS where
 g:GR
 tb:List V
 σ:St
def mZ(K:mD)(es:List (V×V)):Prop:=∀e∈es,∃x y r sd:Nat,e.1=ju x y r sd/\K x y
theorem mZ.mono(h:mZ K es)(k:∀x y,K x y->K' x y):mZ K' es:=λe m=>(h e m).imp λ_ q=>q.imp λ_ q=>q.imp λ_ q=>q.imp λ_ q=>⟨q.1,k _ _ q.2⟩
structure GI(c:I0)(K:mD)(tb:List V)(g:GR):Prop where
 ask:iU c.v c.md tb g.asked
 rk:RkS g.cY
 lw:LwS g.low
 sn:mZ K g.bO
 lt:mZ K g.f7
 sd:g.aj<=1
 lv:1<=g.ao
 wl:∀i,i∈c.a.wl↔i∈tM c.v
noncomputable def wt(g:GR):Nat:=g.asked.length+(g.bO.length+(g.f7.length+((g.ls false).length+(g.ls true).length)))
noncomputable def lS(tb:List V)(af:bR)(ls:Bool->List (Nat×Nat)):Bool->List (Nat×Nat):=af.foldl (λl x=>gX l (decide (x.2.2≠0)) (o5 (l (decide (x.2.2≠0))) (U tb (cH x.1),x.2.1))) ls
theorem Ik(p:eT a b)(af:bR):∀ls,(∀x∈af,Kd a (cH x.1))->lS b af ls=lS a af ls:=af.rec (λ_ _=>rfl) λx r ih ls h=>(au (λu=>lS b r (gX ls (decide (x.2.2≠0)) (o5 (ls (decide (x.2.2≠0))) (u,x.2.1)))) (g8 p (h x cC))).trans (ih _ λy q=>h y (cP _ q))
theorem UQ(tb:List V)(t1 t2:bR)(ls:Bool->List (Nat×Nat)):lS tb (t1++t2) ls=lS tb t2 (lS tb t1 ls):=List.foldl_append
theorem tR(af:bR):bE af<=1024:=af.rec (aW _) λ_ _ ih=>aH (tZ _ _) ih
theorem PK(t1 t2:bR):bE (t1++t2)=min (bE t1) (bE t2):=t1.rec (AF (tR t2)).symm λx r ih=>(au (min x.2.1) ih).trans (Nat.min_assoc ..).symm
structure Cw(c:I0)(K:mD)(S:IS):Prop where
 gs:GS c.a S.g S.tb S.σ
 gi:GI c K S.tb S.g
 w:Wt c.v c.md S.tb
 bt:S.g.cO<=1024
structure Y7(g g':GR):Prop where
 aj:g'.aj=g.aj
 ao:g'.ao=g.ao
 dU:g'.dU=g.dU
structure IP(c:I0)(K:mD)(m:Nat)(f:List V->bR×Nat)(S:IS)(af:bR)(S':IS):Prop where
 ok:Cw c K S'
 gx:GX c.a S.g S.σ S'.g S'.σ
 pre:eT S.tb S'.tb
 lv:Y7 S.g S'.g
 cO:S'.g.cO=min S.g.cO (bE af)
 ls:S'.g.ls=lS S'.tb af S.g.ls
 QB:∀x∈af,Kd S'.tb (cH x.1)
 qx:∀x∈af,x.2.2<=1
 size:S'.tb.length+60*C2 S.g.aG<=S.tb.length+60*C2 S'.g.aG+m
 wt:Mine.F.wt S'.g+150*C2 S.g.aG<=Mine.F.wt S.g+150*C2 S'.g.aG+2*m
 val:∀F,eT S'.tb F->f F=(af,S'.g.aG)
theorem adF{x y z p q r a b:Nat}(h:y+p<=x+q+a)(k:z+q<=y+r+b):z+p<=x+r+(a+b):=by omega
structure gY(x:Nat)(g:GR)(tb:List V):Prop where
 tb:tb.length+1200100+x<=cu+60*C2 g.aG
 wt:Mine.F.wt g+3000100+2*x<=cu+150*C2 g.aG
theorem ahn{t A x L q t' q' m x':Nat}(h:t+A+x<=L+q)(k:t'+q<=t+q'+m)(e:x'+m<=x):t'+A+x'<=L+q':=by omega
theorem aho(h:t+(a*20000+100)+b<=L+a*s)(k:s<=20000):t+100<=L:=by
 have:=kW a k;omega
section
variable{S S1 S2:IS}{tb cL:List V}
theorem gY.qV(b:gY x g tb)(h:x'<=x):gY x' g tb:=⟨aH (cG h _) b.1,aH (cG (kW 2 h) _) b.2⟩
theorem gY.step(b:gY x S.g S.tb)(h:IP c K m f S af S1)(e:x'+m<=x):gY x' S1.g S1.tb:=⟨ahn b.1 h.size e,ahn b.2 h.wt (Nat.mul_add 2 x' m▸kW 2 e)⟩
theorem gY.tbl(b:gY x g tb):tb.length+100<=cu:=aho (a:=60) b.1 (tZ _ _)
theorem gY.tlt(b:gY x g tb):tb.length<cu:=eB (xJ (by decide)) b.tbl
theorem gY.wtl(b:gY x g tb):Mine.F.wt g+100<=cu:=aho (a:=150) b.2 (tZ _ _)
theorem GI.mono(h:GI c K tb g)(k:∀x y,K x y->K' x y):GI c K' tb g:=⟨h.1,h.2,h.3,h.4.mono k,h.5.mono k,h.6,h.7,h.8⟩
theorem GI.pre(h:GI c K tb g)(p:eT tb cL):GI c K cL g:=⟨h.1.pre p,h.2,h.3,h.4,h.5,h.6,h.7,h.8⟩
theorem Cw.mono(h:Cw c K S)(k:∀x y,K x y->K' x y):Cw c K' S:=⟨h.1,h.2.mono k,h.3,h.4⟩
theorem Y7.refl(g:GR):Y7 g g:=⟨rfl,rfl,rfl⟩
theorem Y7.trans(h:Y7 g1 g2)(k:Y7 g2 g3):Y7 g1 g3:=⟨k.1.trans h.1,k.2.trans h.2,k.3.trans h.3⟩
theorem IP.refl(h:Cw c K S):IP c K 0 (λ_=>([],S.g.aG)) S [] S:=⟨h,.refl,.refl _,.refl _,(nW h.bt).symm,rfl,λ_=>bg,λ_=>bg,aW _,aW _,λ_ _=>rfl⟩
theorem IP.and(h:IP c K m f S t1 S1)(k:IP c K2 m2 f2 S1 t2 S2){f':List V->bR×Nat}(v:∀F,eT S2.tb F->f F=(t1,S1.g.aG)->f2 F=(t2,S2.g.aG)->f' F=(t1++t2,S2.g.aG)):IP c K2 (m+m2) f' S (t1++t2) S2:=⟨k.ok,h.gx.trans k.gx,h.pre.trans k.pre,h.lv.trans k.lv,k.cO.trans ((au (min · _) h.cO).trans ((Nat.min_assoc ..).trans (au (min S.g.cO) (PK t1 t2).symm))),k.ls.trans ((au (lS S2.tb t2) (h.ls.trans (Ik k.pre t1 _ h.QB).symm)).trans (UQ ..).symm),λx m=>(tW m).elim (λq=>(h.QB x q).pre k.pre) (k.QB x),λx m=>(tW m).elim (h.qx x) (k.qx x),adF h.size k.size,Nat.mul_add 2 m m2▸adF h.wt k.wt,λF p=>v F p (h.val F (k.pre.trans p)) (k.val F p)⟩
theorem IP.conv(h:IP c K m f S af S1)(hm:m<=m2)(v:∀F,eT S1.tb F->f F=(af,S1.g.aG)->f2 F=(af,S1.g.aG)):IP c K m2 f2 S af S1:=⟨h.1,h.2,h.3,h.4,h.5,h.6,h.7,h.8,aH h.9 (cG hm _),aH h.10 (cG (kW 2 hm) _),λF p=>v F p (h.val F p)⟩
theorem IP.gT(h:IP c K m f S af S1)(k:∀x y,K x y->K' x y):IP c K' m f S af S1:=⟨h.1.mono k,h.2,h.3,h.4,h.5,h.6,h.7,h.8,h.9,h.10,h.11⟩
theorem IP.nx(h:IP c K m f S af S1)(e:aY NX S1.σ σ):IP c K m f S af ⟨S1.g,S1.tb,σ⟩:=⟨⟨h.1.1.nx e,h.1.2,h.1.3,h.1.4⟩,h.2.trans (.tP h.1.1 e),h.3,h.4,h.5,h.6,h.7,h.8,h.9,h.10,h.11⟩
theorem IP.loc(h:IP c K m f S af S1)(x:bw)(p:vc c.a S1.g l)(hl:S.σ.length<=l):IP c K m f S af ⟨S1.g,S1.tb,S1.σ.set l x⟩:=⟨⟨h.1.1.loc x p,h.1.2,h.1.3,h.1.4⟩,h.2.loc x hl,h.3,h.4,h.5,h.6,h.7,h.8,h.9,h.10,h.11⟩
theorem IP.tx(h:IP c K m f S af S1)(e:aY TX S1.σ σ)(t:f9 σ cL)(p:eT S1.tb cL)(gd:bW cL)(l:cL.length<=S1.tb.length+1):IP c K (m+1) f S af ⟨S1.g,cL,σ⟩:=⟨⟨h.1.1.tx e t,h.1.2.pre p,h.1.3.pre p gd,h.1.4⟩,h.2.trans (.Uw h.1.1 e),h.3.trans p,h.4,h.5,h.6.trans (Ik p af _ h.7).symm,λx q=>(h.7 x q).pre p,h.8,adF h.9 (aH (dQ l _) (cK (qC ..))),aH h.10 (cG (kW 2 (gD m)) _),λF q=>h.11 F (p.trans q)⟩
structure Tw(g g0:GR):Prop where
 asked:g0.asked=g.asked
 bO:g0.bO=g.bO
 f7:g0.f7=g.f7
 low:g0.low=g.low
 cY:g0.cY=g.cY
 ls:g0.ls=g.ls
 aG:g0.aG=g.aG
theorem Tw.wt(h:Tw g g'):Mine.F.wt g'=Mine.F.wt g:=by unfold Mine.F.wt;rw [h.asked,h.bO,h.f7,h.ls]
theorem Tw.gi(h:Tw g g')(i:GI c K tb g)(sd:g'.aj<=1)(lv:1<=g'.ao):GI c K tb g':=⟨h.asked▸i.ask,h.cY▸i.rk,h.low▸i.lw,h.bO▸i.sn,h.f7▸i.lt,sd,lv,i.wl⟩
theorem IP.Nf(h:IP c K m f ⟨g0,S.tb,σ0⟩ af S1)(i:Cw c K' S)(x0:GX c.a S.g S.σ g0 σ0)(gs:GS c.a g2 S1.tb wN)(x1:GX c.a S1.g S1.σ g2 wN)(e0:Tw S.g g0)(e1:Tw S1.g g2)(lv:Y7 S.g g2)(hb:g2.cO=min S.g.cO (bE af)):IP c K m f S af ⟨g2,S1.tb,wN⟩:=by
 have es:=e0.aG;have es2:=e1.aG;refine⟨⟨gs,e1.gi h.ok.gi (lv.aj▸i.gi.sd) (lv.ao▸i.gi.lv),h.ok.w,hb▸aH (AH _ _) i.bt⟩,x0.trans (h.gx.trans x1),h.pre,lv,hb,e1.ls.trans (h.ls.trans (au (lS S1.tb af) e0.ls)),h.QB,h.qx,?_,?_,λF p=>(h.val F p).trans (au (af,·) es2.symm)⟩
 ·exact es▸es2▸h.size
 ·have q:=h.wt
  rw [e0.wt,es,←e1.wt,←es2]at q;exact q
end
def bU(mk:aT)(p:Nat):Prop:=37<=p/\∃e,aK mk p=some e
def ve(mk:aT)(p y:Nat):Prop:=bU mk y/\y<p/\∃cX yes e,aK mk p=some e/\e.2=[cX,[6],yes,[y]]
def Bt(mk:aT)(p x0 x y:Nat):Prop:=(x=x0\/x0=31/\x=30)/\(y=p\/ve mk p y)
def EM(mk:aT)(t:ai):Prop:=∃p∈t,bU mk p
def Vis(mk:aT)(t:ai)(x0 x y:Nat):Prop:=(∃p,t=[p]/\bU mk p/\Bt mk p x0 x y)\/(t.length≠1/\EM mk t)
def KV(mk:aT)(t:ai)(x0:Nat)(K:mD):mD:=λx y=>K x y\/Vis mk t x0 x y
structure Il(mk:aT)(K:mD)(s t:ai):Prop where
 no:∀x y,¬K x y
 n30:30∉s
 aR:∀p∈t,∀q∈t,bU mk p->bU mk q->p=q
structure lT(mk:aT)(K:mD)(s t:ai)(x0:Nat):Prop where
 aR:∀p,t=[p]->bU mk p->∀x y,Bt mk p x0 x y->¬K x y
 nM:t.length≠1->EM mk t->Il mk K s t
theorem ahr:∀p∈B0,p<37:=by decide
section
variable{mk:aT}{K:mD}{s t:ai}{x0 x1 x y p q:Nat}{tb cL:List V}
theorem jB(h:p∈B0)(q:bU mk p):False:=kY _ (eB (ahr p h) q.1)
theorem m5(h:∀p∈t,p∈B0)(c:EM mk t):False:=c.elim λp c=>jB (h p c.1) c.2
theorem lT.ny(h:∀p∈t,p∈B0):lT mk K s t x0:=⟨λp e c=>(jB (h p (e▸cC)) c).elim,λ_ c=>(m5 h c).elim⟩
theorem Vis.has(h:Vis mk t x0 x y):EM mk t:=h.elim (λh=>h.elim λp h=>⟨p,h.1▸cC,h.2.1⟩) λh=>h.2
theorem rI(h:∀p∈t,p∈B0)(q:KV mk t x0 K x y):K x y:=q.resolve_right λv=>m5 h v.has
theorem US(h:Bt mk p x0 x y)(k:Bt mk q x1 x y)(n0:x0≠30)(n1:x1≠30):x0=x1:=h.1.elim (λe=>k.1.elim (λe'=>e.symm.trans e') λe'=>absurd (e.symm.trans e'.2) n0) λe=>k.1.elim (λe'=>absurd (e'.symm.trans e.2) n1) λe'=>e.1.trans e'.1.symm
end
structure SK(tb:List V)(mk:aT)(s:ai):Prop where
 len:s.length<=3
 Ay:Canon s
 cD:∀p∈s,KU tb mk p
 kd:Kd tb s
structure TK(tb:List V)(mk:aT)(t:ai):Prop where
 tg:Tg mk t
 Ay:Canon t
 kd:Kd tb t
structure Pin(c:I0)(K:mD)(n:Nat)(s t:ai)(aa:Nat)(S:IS):Prop where
 ok:Cw c K S
 sk:SK S.tb c.md s
 tk:TK S.tb c.md t
 rk:jt aa
 dp:S.g.dU+n=40
 fr:lT c.md K s t (U S.tb s)
 bn:gY 0 S.g S.tb
noncomputable def hf(c:I0)(n:Nat)(s t:ai)(aa:Nat)(S:IS):List V->bR×Nat:=λF=>eG ⟨c.v,c.md,F⟩ n s t aa S.g.aj S.g.ao S.g.aG
def jZ(c:I0)(n:Nat):Prop:=∀(d:Nat)(s t:ai)(aa:Nat)(K:mD)(S:IS)(Q:V->St->Prop),6*n+14<=d->Pin c K n s t aa S->(∀af S',IP c (KV c.md t (U S.tb s) K) 2 (hf c n s t aa S) S af S'->Q .none S'.σ)->WP (aS TT FT d 556 [G c.a,vN (U S.tb s),vN (U S.tb t),vN aa]) S.σ Q
theorem SK.pre{mk:aT}(h:SK a mk s)(p:eT a b):SK b mk s:=⟨h.1,h.2,λq m=>(h.3 q m).pre p,h.4.pre p⟩
theorem TK.pre{mk:aT}(h:TK a mk t)(p:eT a b):TK b mk t:=⟨h.1,h.2,h.3.pre p⟩
theorem Lr(h:Qz v mk):cB v mk HT [33]=true:=by
 have e1:aK mk 33=some (15,[[gW v],[24]]):=(h.low 33 (by decide)).trans (v.rec rfl rfl)
 have e2:∀n,cB v mk (n+1) [24]=true:=λn=>v.rec rfl rfl;show((decide (33∈cI v)||(aK mk 33).any λe=>e.2.any (cB v mk 5))||false)=true;rw [e1];exact(xN _).trans (Bool.or_eq_true_iff.mpr (.inr (Bool.or_eq_true_iff.mpr (.inr (Bool.or_eq_true_iff.mpr (.inl (e2 4)))))))
theorem Cy(h:Qz v mk)(F:List V)(n:Nat)(s:ai)(aa aj ao st:Nat):eG ⟨v,mk,F⟩ n s [33] aa aj ao st=([(s,aa,aj)],st):=
 have key:∀n rec,tF ⟨v,mk,F⟩ n rec s [33] aa aj ao st=([(s,aa,aj)],st):=λn rec=>(ay (λq=>eH (q.symm.trans (Lr h)))).trans (az rfl)
 n.rec (key _ _) λ_ _=>key _ _
section
variable{c:I0}{K:mD}{n d aa:Nat}{s t:ai}{S:IS}{Q:V->St->Prop}(H:jZ c n)
include H
theorem UT(hd:6*n+16<=d)(p:Pin c K n s t aa S)(k:∀af S',IP c (KV c.md t (U S.tb s) K) 2 (hf c n s t aa S) S af S'->Q (vN (bE af)) S'.σ):WP (aS TT FT d 620 [G c.a,vN (U S.tb s),vN (U S.tb t),vN aa]) S.σ Q:=by
 have h:=p.ok.gs;have h0:=h.nsSet (g':=S.g.oZ 1024) (n:=qw) rfl rfl rfl rfl;have tw:Tw S.g (S.g.oZ 1024):=⟨rfl,rfl,rfl,rfl,rfl,rfl,rfl⟩;have i:=p.ok;refine aA (aH (fC 1 _) hd) rfl rfl (o_attr h.ns rfl (cV h.ns (gm _ _) (bT h0.1.ns rfl rfl (Ae (aH (fC 1 _) (lZ hd)) ?_))));refine H _ s t aa K ⟨S.g.oZ 1024,S.tb,_⟩ _ (lZ (lZ hd)) ⟨⟨h0.1,tw.gi i.gi i.gi.sd i.gi.lv,i.w,aW _⟩,p.sk,p.tk,p.rk,p.dp,p.fr,⟨p.bn.1,p.bn.2⟩⟩ λaf S1 ip=>?_;have eb:=ip.cO.trans (AF (tR af));have h1:=ip.ok.gs;refine o_attr h1.ns rfl (o_attr h1.ns rfl (H9 (λl=>?_) λl=>?_))
 ·have h2:=h1.nsSet (g':=S1.g.oZ S.g.cO) (n:=qw) rfl rfl rfl rfl
  exact cV h1.ns (gm _ _) (sX (Q:=Q) (au vN eb) (k af ⟨S1.g.oZ S.g.cO,S1.tb,_⟩ (ip.Nf i h0.2 h2.1 h2.2 tw ⟨rfl,rfl,rfl,rfl,rfl,rfl,rfl⟩ ⟨ip.lv.1,ip.lv.2,ip.lv.3⟩ (nW (fT (eb▸l))).symm)))
 ·exact sX (au vN eb) (k af S1 (ip.Nf i h0.2 h1 .refl tw ⟨rfl,rfl,rfl,rfl,rfl,rfl,rfl⟩ ⟨ip.lv.1,ip.lv.2,ip.lv.3⟩ (eb.trans (AF (eb▸l)).symm)))
end
noncomputable def uk(k:ai):Nat:=k.casesOn 2 λp _=>p
theorem EN{P:ai->Prop}(h0:P [])(h1:∀p,P [p])(k:ai)(h:k.length<=1):P k:=List.casesOn k (λ_=>h0) (λp r=>List.casesOn r (λ_=>h1 p) λ_ _ h=>absurd (QG h) (Nat.not_succ_le_zero _)) h
theorem PM(tb:List V)(k:ai)(h:k.length<=1):U tb k=uk k:=EN (P:=λk=>U tb k=uk k) rfl (λ_=>rfl) k h
structure iF(tb:List V)(mk:aT)(aD:List ai)(rest:ai):Prop where
 len:aD.length<=3
 aR:∀k∈aD,k.length<=1
 sk:∀k∈aD,SK tb mk k
 nd:aD.Nodup
 flat:aD.flatten=rest
theorem iF.pre{mk:aT}(h:iF x mk aD rest)(p:eT x y):iF y mk aD rest:=⟨h.len,h.aR,λk m=>(h.sk k m).pre p,h.nd,h.flat⟩
theorem UU(g:bW tb)(h:iF tb mk aD rest)(hk:k∈aD)(hj:j∈aD)(e:uk k=uk j):k=j:=nv g k j (h.sk k hk).kd (h.sk j hj).kd ((PM tb k (h.aR k hk)).trans (e.trans (PM tb j (h.aR j hj)).symm))
theorem dm(h:k+b<=d)(e:Nat.ble a b=true):a<=d:=dl (aH (fC _ _) h) e
theorem EO(h:k+b<=d)(e:Nat.ble (a+1) b=true):a<=d-1:=dk (aH (fC _ _) h) e
theorem dn(h:k+b<=d)(e:Nat.ble (a+1) b=true):k+a<=d-1:=lZ (aH (cG (I3 e) k) h)
structure LI where
 af:bR
 S:IS
 n:Nat
 K:mD
 ks:List Nat
 x:Option V
 y:Option V
 z:Option V
structure tS{α ρ:Type}(c:I0)(S:IS)(w k:Nat)(pk:LI->ρ)(step:List V->ρ->α->ρ)(T:List V->ρ->Prop)(r:List α)(a:LI):Prop where
 ip:IP c a.K a.n (λ_=>(a.af,a.S.g.aG)) S a.af a.S
 wM:a.n+w*r.length<=k
 val:∀F,eT a.S.tb F->T F (r.foldl (step F) (pk a))
section
variable{α ρ:Type}{S S1:IS}
theorem tS.next(i:tS c S w k pk step T (x::r) a)(a':LI)(lU:IP c a'.K m f a.S bY a'.S)(v:∀F,eT a'.S.tb F->f F=(bY,a'.S.g.aG)->step F (pk a) x=pk a')(hm:m<=w)(hn:a'.n=a.n+m)(ht:a'.af=a.af++bY):tS c S w k pk step T r a':=⟨hn▸ht▸i.ip.and lU λ_ _ _ _=>rfl,hn▸oU i.wM hm,λF p=>v F p (lU.val F p)▸i.val F (lU.pre.trans p)⟩
theorem tS.skip(i:tS c S w k pk step T (x::r) a)(a':LI)(v:∀F,step F (pk a) x=pk a')(ip:IP c a'.K a'.n (λ_=>(a'.af,a'.S.g.aG)) S a'.af a'.S)(hn:a'.n=a.n)(hp:eT a.S.tb a'.S.tb):tS c S w k pk step T r a':=⟨ip,hn▸aH (cG (bZ _ w) _) i.wM,λF p=>v F▸i.val F (hp.trans p)⟩
theorem IP.pin(h:IP c K m f S af S1)(sk:SK S.tb c.md s)(tk:TK S.tb c.md t)(r:jt aa)(dp:S.g.dU+n=40){x:Nat}(b:gY x S.g S.tb)(hm:m<=x)(fr:lT c.md K s t (U S1.tb s)):Pin c K n s t aa S1:=⟨h.ok,sk.pre h.pre,tk.pre h.pre,r,h.lv.dU▸dp,fr,b.step h (aH (cK (p8 m)) hm)⟩
theorem IP.hf(h:IP c K m f S af S1)(F:List V):Mine.F.hf c n s t aa S1 F=eG ⟨c.v,c.md,F⟩ n s t aa S.g.aj S.g.ao S1.g.aG:=h.lv.aj▸h.lv.ao▸rfl
end
def qy(md:aT)(K:mD)(t:Nat)(us:List ai):Prop:=bU md t->∀u∈us,∀x y,Bt md t (uk u) x y->¬K x y
section
variable{t q x0:Nat}
theorem xH(h:Vis md [t] x0 x y):bU md t/\Bt md t x0 x y:=h.elim (λh=>h.elim λp h=>(je h.1).1▸h.2) λh=>absurd rfl h.1
theorem qy.free(h:qy md K t (u::us)):lT md K u [t] (uk u):=⟨λp e cp x y vs k=>have e:=(je e).1;h (e▸cp) u cC x y (e▸vs) k,λne=>absurd rfl ne⟩
theorem aaO(kp:iF tb md aD rest)(n:30∉rest)(hz:z∈aD):uk z≠30:=λe=>n (kp.flat▸List.mem_flatten.mpr ⟨z,hz,EN (P:=λz=>uk z=30->30∈z) (λe=>absurd e (by decide)) (λp e=>List.mem_singleton.mpr e.symm) z (kp.aR z hz) e⟩)
theorem qy.inn(g:bW tb)(kp:iF tb md aD rest)(n30:bU md t->30∉rest)(aE:∀z∈u::us,z∈aD)(nd:u∉us)(h:qy md K t (u::us)):qy md (KV md [t] (uk u) K) t us:=λct z m x y vs k=>k.elim (h ct z (cP _ m) x y vs) λv=>nd (UU g kp (aE z (cP _ m)) (aE u cC) (US vs (xH v).2 (aaO kp (n30 ct) (aE z (cP _ m))) (aaO kp (n30 ct) (aE u cC)))▸m)
theorem qy.out(h:qy md K q us)(n:bU md t->bU md q->False):qy md (KV md [t] x0 K) q us:=λcq z m x y vs k=>k.elim (h cq z m x y vs) λv=>n (xH v).1 cq
noncomputable def lV(aD:List ai)(ks:List Nat):List ai:=aD.filter λu=>! decide (uk u∈ks)
theorem UW(g:bW tb)(kp:iF tb md aD rest)(hu:u∈aD)(ks:List Nat):lV aD (fO ks (uk u))=(lV aD ks).filter λz=>decide (z≠u):=(List.filter_congr λz hz=>Bool.eq_iff_iff.mpr (by
  have e:uk z=uk u↔z=u:=⟨UU g kp hz hu,au uk⟩;rw [Bool.and_eq_true_iff,Bool.not_eq_true',Bool.not_eq_true',decide_eq_false_iff_not,decide_eq_false_iff_not,decide_eq_true_iff,sY,not_or,e];exact and_comm)).trans List.filter_filter.symm
end
theorem UX(h:List.Sublist us ks):List.Sublist us.flatten ks.flatten:=by
 induction h with
 |slnil=>exact .slnil
 |cons x _ ih=>exact ih.trans (List.sublist_append_right x _)
 |cons_cons x _ ih=>exact(List.Sublist.refl x).append ih
theorem adG(l:ai):l.Nodup->l.filter (λp=>decide (p=33))=if 33∈l then [33]else []:=l.rec (λ_=>rfl) λp r ih h=>by
 have nd:=List.nodup_cons.mp h;by_cases q:p=33
 ·rw [q]at nd⊢
  exact(I2 (p:=λp=>decide (p=33)) (dj rfl)).trans ((au (33::·) ((ih nd.2).trans (ay nd.1))).trans (az cC).symm)
 ·rw [CK (dg q▸eH),ih nd.2]
  exact(c6 (33∈r)).elim (λz=>(az z).trans (az (cP _ z)).symm) λz=>(ay z).trans (ay λm=>(fY m).elim (λe=>q e.symm) z).symm
noncomputable def kV(us:List ai):List V:=us.map λu=>vN (uk u)
theorem iF.aE(h:iF tb md aD rest)(s:List.Sublist us aD):iF tb md us us.flatten:=⟨aH s.length_le h.len,λk m=>h.aR k (s.subset m),λk m=>h.sk k (s.subset m),h.nd.sublist s,rfl⟩
section
variable{c:I0}{S S1:IS}
theorem Cz(hd:3<=d)(h:f9 σ tb)(w:Wt c.v c.md tb)(hk:iF tb c.md aD rest)(hc:Canon rest)(hz:tb.length<cu)
  (k:∀s',aY TX σ s'->f9 s' (aO tb rest)->SK (aO tb rest) c.md rest->Q (vN (U (aO tb rest) rest)) s'):WP (aS TT FT d 237 [jv,.lst (kV aD)]) σ Q:=by
 have flat:=hk.flat;have UY:=λp q=>(List.mem_flatten.mp (flat.symm▸q)).elim λu z=>(hk.sk u z.1).cD p z.2;have aht:=flat▸aH (HF aD hk.aR) hk.len;have ids:=(CM λu q=>au vN (PM tb u (hk.aR u q)).symm).trans (oN (U tb) aD);refine sZ aD hd h w.g ids (λu q=>(hk.sk u q).kd) (λp q=>(lQ w (UY p (flat▸q))).it.ok) (di (gC _) (flat.symm▸di aht (by decide))) hz ?_
 rw [flat,jz hc];exactλs' e t=>k s' e t ⟨aht,hc,λp q=>(UY p q).pre (bQ tb rest),.aO λp q=>(lQ w (UY p q)).it.dc⟩
theorem k33(w:Wt v md tb):TK tb md [33]:=⟨⟨by decide,λp m=>.inl (dG m▸by decide)⟩,.aR 33,.aR (vd w (.inl (by decide))).it.dc⟩
theorem b33:∀p∈([33]:ai),p∈B0:=by decide
structure UZ(c:I0)(K:mD)(n:Nat)(aD:List ai)(rest left:ai)(aa:Nat)(S:IS):Prop where
 ok:Cw c K S
 kp:iF S.tb c.md aD rest
 cr:Canon rest
 ht:∀t∈left,t∈B0\/bU c.md t
 cl:Canon left
 l4:left.length<=4
 rk:jt aa
 dp:S.g.dU+n=40
 fr:EM c.md left->Il c.md K rest left
 bn:gY 30 S.g S.tb
 ne:left≠[]
theorem Ng(H:jZ c n)(hd:6*n+16<=d)(p:UZ c K n aD rest left aa S){Z:St->Prop}(ip:IP c K1 m f S af S1)(hm:m<=24)(hus:List.Sublist us aD)(hfl:us.flatten=kind)(hr:jt rk)
  (k:∀S3,IP c K1 (m+1+2) (λ_=>(af++[(kind,rk,S.g.aj)],S1.g.aG)) S (af++[(kind,rk,S.g.aj)]) S3->eT S1.tb S3.tb->S3.g.aG=S1.g.aG->Z S3.σ):
  WP (aS TT FT d 237 [jv,.lst (kV us)]) S1.σ λx s3=>WP (aS TT FT d 460 [G c.a,x,vN 33,vN rk]) s3 λ_ s=>Z s:=by
 have w1:=ip.ok.w;have ku:=hfl▸(p.kp.pre ip.pre).aE hus;refine Cz (dm hd rfl) ip.ok.gs.eY w1 ku (hfl▸p.cr.aE (p.kp.flat▸UX hus)) (p.bn.step ip (cG hm 6)).tlt λs3 e3 t3 sk=>?_;have gd:=w1.g.aO kind;have Wl:=ip.tx e3 t3 (bQ S1.tb kind) gd (cQ S1.tb kind);refine Ae (dm hd rfl) (H _ kind [33] rk K1 ⟨S1.g,aO S1.tb kind,s3⟩ _ (dn hd rfl) ⟨Wl.ok,sk,k33 Wl.ok.w,hr,ip.lv.dU▸p.dp,.ny b33,p.bn.step Wl (aH (cK (p8 _)) (aH (dQ hm 1) (by decide)))⟩ λank S4 ip4=>?_)
 have v4:=(ip4.val S4.tb (.refl _)).symm.trans (Cy w1.s ..);have e1:=(au Prod.fst v4).trans (au (λz=>[(kind,rk,z)]) ip.lv.aj);have e2:S4.g.aG=S1.g.aG:=au Prod.snd v4;exact k S4 (e1▸(Wl.and ip4 λ_ _ _ _=>e2▸rfl).gT λ_ _=>rI b33) ((bQ S1.tb kind).trans ip4.pre) e2
end
theorem adH:∀x∈gA,x.1≠7:=by decide
theorem Y8(r:wO c rest ks):c≠7:=by
 cases r with
 |G7=>decide
 |adl _ _ m=>exactλe=>absurd (e▸m) (by decide)
 |adm _ _ _ m _=>exactλe=>adH _ m e
section
variable{c:I0}{d n:Nat}{K:mD}{S:IS}{Q:V->St->Prop}{t:Nat}
theorem U0(hd:1<=d)(ok:Cw c K S)(h:t∈B0\/bU c.md t)(k:Q (.bool (decide (t=33))) S.σ):WP (aS TT FT d 577 [G c.a,vN t]) S.σ Q:=(vd ok.w h).row.elim λ_ q=>q.elim λ_ q=>q.elim λ_ r=>Ie hd ok.gs ok.w.g r.cR k
theorem EP(hd:1<=d)(ok:Cw c K S)(h:t∈B0\/bU c.md t)(k:Q (.lst []) S.σ):WP (aS TT FT d 630 [G c.a,.lst (bI (t::r))]) S.σ Q:=(vd ok.w h).row.elim λc' q=>q.elim λ_ q=>q.elim λ_ r=>aA hd rfl rfl (.ret ⟨bu,o_attr ok.gs.ns rfl (o_attr ok.gs.st.h rfl (o_attr ok.gs.eY.ns rfl (dP ok.gs.eY.fN r.cR (aI rfl (bz (Ca (Y8 r.row)) (.ret k))))))⟩)
theorem PN(e:l=t::r)(hd:1<=d)(ok:Cw c K S)(h:t∈B0\/bU c.md t)(k:Q (.lst []) S.σ):WP (aS TT FT d 630 [G c.a,.lst (bI l)]) S.σ Q:=e▸EP hd ok h k
theorem adI{Q:Bool->St->Prop}(hl:At s l (.dict (jY ks)))(k1:p∈ks->Q false s)(k2:p∉ks->Q true s):WP (aM T .dz (.int p) (.ref l)) s Q:=.bind (Cc hl (λm=>.ret (k1 m)) λm=>.ret (k2 m))
end
noncomputable abbrev pkI(aD:List ai)(a:LI):bR×List ai×Nat:=(a.af,lV aD a.ks,a.S.g.aG)
noncomputable def stP(c:I0)(n aa:Nat)(S:IS)(t:Nat)(F:List V):bR×List ai×Nat->ai->bR×List ai×Nat:=zw (eG ⟨c.v,c.md,F⟩ n) aa S.g.aj S.g.ao t
noncomputable def stO(c:I0)(n aa:Nat)(S:IS)(aD:List ai)(F:List V)(x:bR×List ai×Nat)(t:Nat):bR×List ai×Nat:=if decide (t≠33)=true then aD.foldl (stP c n aa S t F) x else x
noncomputable def ER(c:I0)(n:Nat)(aD:List ai)(rest left:ai)(aa:Nat)(S:IS)(F:List V):bR×Nat:=tC rest left aa S.g.aj ((left.filter λq=>decide (q≠33)).foldl (Hp (eG ⟨c.v,c.md,F⟩ n) aa S.g.aj S.g.ao aD) ([],aD,S.g.aG))
noncomputable def KH(c:I0)(left:ai)(K:mD):mD:=λx y=>K x y\/EM c.md left
structure PI(c:I0)(K0:mD)(left:ai)(aD:List ai)(L t:Nat)(us:List ai)(r:List Nat)(a:LI):Prop where
 lp:vc c.a a.S.g L
 cR:At a.S.σ L (.dict (jY a.ks))
 le:a.ks.length<=a.n
 kk:∀x y,a.K x y->KH c left K0 x y
 f1:qy c.md a.K t us
 f2:∀q∈r,qy c.md a.K q aD
 aE:∀u∈us,u∈aD
 nd:us.Nodup
 Ls:∀q∈r,q∈left
 nd2:r.Nodup
noncomputable def adJ(c:I0)(aD:List ai)(left:ai)(aa L:Nat)(a:LI):aQ:=[some (G c.a),some (.lst (kV aD)),some (.lst (bI left)),some (vN aa),some (.ref L),some (.bool false),a.x,a.y,a.z,none,none,none,none]
section
variable{c:I0}{d n:Nat}{aD:List ai}{rest left:ai}{aa:Nat}{K K0:mD}{S:IS}{a:LI}{L t:Nat}{us:List ai}{r:List Nat}{u:ai}{T:List V->bR×List ai×Nat->Prop}
theorem PI.skip(j:PI c K0 left aD L 0 [] (t::r) a)(x:Option V):PI c K0 left aD L 0 [] r ⟨a.af,a.S,a.n,a.K,a.ks,x,a.y,a.z⟩:=⟨j.lp,j.cR,j.le,j.kk,j.f1,λq m=>j.f2 q (cP _ m),j.aE,j.nd,λq m=>j.Ls q (cP _ m),(List.nodup_cons.mp j.nd2).2⟩
theorem PI.enter(j:PI c K0 left aD L 0 [] (t::r) a)(nd:aD.Nodup)(x:Option V):PI c K0 left aD L t aD r ⟨a.af,a.S,a.n,a.K,a.ks,x,a.y,a.z⟩:=⟨j.lp,j.cR,j.le,j.kk,j.f2 t cC,λq m=>j.f2 q (cP _ m),λ_=>id,nd,λq m=>j.Ls q (cP _ m),(List.nodup_cons.mp j.nd2).2⟩
theorem PI.ahu(j:PI c K0 left aD L t [] r a):PI c K0 left aD L 0 [] r a:=⟨j.lp,j.cR,j.le,j.kk,λ_ _=>bg,j.f2,j.aE,j.nd,j.Ls,j.nd2⟩
theorem PI.next(p:UZ c K0 n aD rest left aa S)(g:bW S.tb)(ht:t∈left)(htr:t∉r)(j:PI c K0 left aD L t (u::us) r a)(lU:IP c (KV c.md [t] (uk u) a.K) m f a.S bY S2)(z:Option V):
  PI c K0 left aD L t us r ⟨a.af++bY,S2,a.n+m,KV c.md [t] (uk u) a.K,a.ks,a.x,some (vN (uk u)),z⟩:=
 have hc:=λm h=>⟨_,m,h⟩;have nd:=List.nodup_cons.mp j.nd
 ⟨lU.gx.adv j.cR j.lp,lU.gx.at j.cR (.inr j.lp),aH j.le (bZ _ _),λx y k=>k.elim (j.kk x y) λv=>.inr (hc ht (xH v).1),j.f1.inn g p.kp (λct=>(p.fr (hc ht ct)).n30) j.aE nd.1,λq m=>(j.f2 q m).out λct cq=>htr ((p.fr (hc ht ct)).aR t ht q (j.Ls q m) ct cq▸m),λz m=>j.aE z (cP _ m),nd.2,j.Ls,j.nd2⟩
theorem PI.jY(j:PI c K0 left aD L t us r a)(k:Nat)(hn:a.ks.length+1<=a.n):PI c K0 left aD L t us r ⟨a.af,⟨a.S.g,a.S.tb,a.S.σ.set L (.dict (jY (fO a.ks k)))⟩,a.n,a.K,fO a.ks k,a.x,a.y,a.z⟩:=⟨j.lp,j.cR.dS,aH (EK a.ks k) hn,j.kk,j.f1,j.f2,j.aE,j.nd,j.Ls,j.nd2⟩
end
theorem U1{S:IS}(H:jZ c n)(hd:6*n+16<=d)(hu:u.length<=1)(p:Pin c K n u t aa S)(k:∀af S',IP c (KV c.md t (uk u) K) 2 (hf c n u t aa S) S af S'->Q (vN (bE af)) S'.σ):WP (aS TT FT d 620 [G c.a,vN (uk u),vN (U S.tb t),vN aa]) S.σ Q:=PM S.tb u hu▸UT H hd p (PM S.tb u hu▸k)
theorem PO{S:IS}(H:jZ c n)(hd:6*n+17<=d)(p:UZ c K n aD rest left aa S)
  (k:∀af S',IP c (KH c left K) 30 (ER c n aD rest left aa S) S af S'->Q .none S'.σ):WP (aS TT FT d 625 [G c.a,.lst (kV aD),.lst (bI left),vN aa]) S.σ Q:=by
 have g0:=p.ok.w.g;have ip0:=(IP.refl p.ok).nx ((aY.refl S.σ).new (.dict []));have ov0:lV aD []=aD:=List.filter_eq_self.mpr λ_ _=>rfl;refine aA (dm hd rfl) rfl rfl (fW (.ret (bD vN (adJ c aD left aa S.σ.length) (λa=>a.S.σ)
  (λr a=>tS c S 6 24 (pkI aD) (stO c n aa S aD) (λF y=>ER c n aD rest left aa S F=tC rest left aa S.g.aj y) r a/\PI c K left aD S.σ.length 0 [] r a) ?_ (λt r a Kc ij kn _=>?_) (λa ij=>?_) left ⟨[],⟨S.g,S.tb,S.σ++[.dict []]⟩,0,K,[],none,none,none⟩
  ⟨⟨ip0,aH (cK (p8 _)) (kW 6 p.l4),λF _=>au (tC rest left aa S.g.aj) ((List.foldl_filter).trans (au (λz=>left.foldl (stO c n aa S aD F) ([],z,S.g.aG)) ov0.symm))⟩,⟨p.ok.gs.EG (aW _),bS,aW _,λ_ _=>.inl,λ_ _=>bg,λq m cq _ _ x y _=>(p.fr ⟨q,m,cq⟩).no x y,λ_=>bg,.nil,λ_=>id,p.cl.lt.nodup⟩⟩)))
 ·exactλ_=>bu
 ·obtain⟨i,j⟩:=ij
  have htl:=j.Ls t cC;have htr:=(List.nodup_cons.mp j.nd2).1;refine U0 (EO hd rfl) i.ip.ok (p.ht t htl) (aL ?_);by_cases jy:t=33
  ·rw [dj jy]
   exact kn ⟨a.af,a.S,a.n,a.K,a.ks,some (vN t),a.y,a.z⟩ ⟨i.skip _ (λF=>ay (Bool.eq_false_iff.mp (dg λq=>q jy))) i.ip rfl (.refl _),j.skip _⟩
  rw [dg jy];have n6:=oU i.wM (aW 6);refine .ret (bD (λu=>vN (uk u)) (adJ c aD left aa S.σ.length) (λa=>a.S.σ)
   (λus b=>tS c S 2 (a.n+6) (pkI aD) (stP c n aa S t) (λF y=>ER c n aD rest left aa S F=tC rest left aa S.g.aj (r.foldl (stO c n aa S aD F) y)) us b/\PI c K left aD S.σ.length t us r b/\b.x=some (vN t)) ?_ (λu us b Kd ij2 IZ _=>?_) (λb ij2=>?_) aD ⟨a.af,a.S,a.n,a.K,a.ks,some (vN t),a.y,a.z⟩
   ⟨⟨i.ip,cG (kW 2 p.kp.len) _,λF q=>(au (λz=>ER c n aD rest left aa S F=tC rest left aa S.g.aj (r.foldl (stO c n aa S aD F) z)) (az (dj jy))).mp (i.val F q)⟩,j.enter p.kp.nd _,rfl⟩)
  ·exactλ_=>bu
  ·obtain⟨i2,j2,ex⟩:=ij2
   have hu:=j2.aE u cC;have u1:=p.kp.aR u hu;have gb:=i2.ip.ok.w.g;have bn:=aH (aH (bZ _ _) (oU i2.wM (aW 2))) (aH (bZ _ _) n6);have pin:=i2.ip.pin (t:=[t]) (p.kp.sk u hu) ⟨⟨(by decide:1<=4),λq m=>dG m▸p.ht t htl⟩,.aR t,.aR (vd p.ok.w (p.ht t htl)).it.dc⟩ p.rk p.dp p.bn (aH (bZ _ 2) (aH bn (by decide))) (PM b.S.tb u u1▸j2.f1.free)
   unfold adJ;rw [ex];refine U1 H (dn hd rfl) u1 pin λbY S2 lU=>?_;have j3:=j2.next p g0 htl htr lU (some (vN (bE bY)))
   have ev:∀F,hf c n u [t] aa b.S F=(bY,S2.g.aG)->∀ks,lV aD ks=zv (bE bY=aa) u (lV aD b.ks)->stP c n aa S t F (pkI aD b) u=(b.af++bY,lV aD ks,S2.g.aG):=λF e ks ek=>by
    have e:=(i2.ip.hf F).symm.trans e;unfold stP zw;exact e▸ek▸rfl
   refine bG (λe1=>?_) λe1=>?_
   ·refine Et j3.cR (di j2.le (di (aH (bZ _ 2) bn) (by decide))) ?_
    have j4:=j3.jY (uk u) (pZ j2.le (gD 1));have i4:=i2.next ⟨b.af++bY,S2,b.n+2,KV c.md [t] (uk u) b.K,fO b.ks (uk u),b.x,some (vN (uk u)),some (vN (bE bY))⟩ lU (λF q e=>ev F e _ ((UW g0 p.kp hu b.ks).trans (az e1).symm)) (aW 2) rfl rfl
    exact ex▸IZ ⟨b.af++bY,⟨S2.g,S2.tb,_⟩,b.n+2,KV c.md [t] (uk u) b.K,fO b.ks (uk u),b.x,some (vN (uk u)),some (vN (bE bY))⟩ ⟨⟨i4.ip.loc (.dict (jY (fO b.ks (uk u)))) j3.lp (aW _),i4.wM,i4.val⟩,j4,ex⟩
   ·refine bz (λq=>nomatch q) ?_
    exact ex▸IZ _ ⟨i2.next _ lU (λF q e=>ev F e _ (ay e1).symm) (aW 2) rfl rfl,j3,ex⟩
  ·exact kn b ⟨⟨ij2.1.ip,aH (dQ ij2.1.wM _) n6,ij2.1.val⟩,ij2.2.1.ahu⟩
 ·obtain⟨i,j⟩:=ij
  have n24:=i.wM;have ipK:=i.ip.gT j.kk;have hv:=i.val;have e2:aY NX a.S.σ (a.S.σ++[.bH]++[.bH]):=((aY.refl _).new _).new _;have lU:=i.ip.nx e2;have done:∀{m:Nat}{bY:bR}{S3:IS},m<=30->IP c a.K m (λ_=>(a.af++bY,a.S.g.aG)) S (a.af++bY) S3->eT a.S.tb S3.tb->S3.g.aG=a.S.g.aG->(if 33∈left then(if lV aD a.ks≠[]then [((lV aD a.ks).flatten,aa,S.g.aj)]else [(rest,aa|||1,S.g.aj)])else [])=bY->Q .none S3.σ:=λhm Wl p3 e3 et=>k _ _ ((Wl.gT j.kk).conv hm λF q _=>(hv F (p3.trans q)).trans (Prod.ext (au (a.af++·) et) e3.symm))
  refine .ret (lH vN (λq=>decide (q=33)) vN ?_ (aH p.l4 (by decide)) (λq m ys K k1 k2=>U0 (EO hd rfl) (i.ip.nx ((aY.refl _).new (.list ys))).ok (p.ht q m) (aL ?_)) ?_)
  ·exactλ_=>bu
  ·exact(c6 (q=33)).elim (λe=>(dj e).symm▸k1 (dj e)) λe=>(dg e).symm▸k2 (dg e)
  rw [adG left p.cl.lt.nodup];refine .ret (lH (λu=>vN (uk u)) (λu=>! decide (uk u∈a.ks)) (λu=>vN (uk u)) ?_ (aH p.kp.len (by decide)) (λu m ys K k1 k2=>adI (j.cR.new.new) (λm=>k2 (au not (dj m))) λm=>k1 (au not (dg m))) ?_)
  ·exactλ_=>bu
  by_cases jy:33∈left
  ·rw [az jy]at done⊢
   refine uW (bG (λ_=>.of (a:=!(kV (lV aD a.ks)).isEmpty) rfl ?_) λz=>absurd rfl z);by_cases MS:lV aD a.ks=[]
   ·rw [ay λz=>z MS]at done
    rw [show(kV (lV aD a.ks)).isEmpty=true from MS▸rfl];refine .ret (.ret ⟨bu,bT lU.ok.gs.ns rfl rfl (o_attr lU.ok.gs.ns rfl (o_attr lU.ok.gs.st.h rfl ?_))⟩);exact WP.mono (Ng H (dn hd rfl) p lU n24 (List.Sublist.refl aD) p.kp.flat (p.rk.or ⟨by decide,by decide⟩) λS3 Wl p3 e3=>done (aH (dQ n24 3) (by decide)) Wl p3 e3 rfl) λx s3 q=>Bs (gS p.rk.1) (by decide) (q.mono λ_ _ z=>⟨bu,z⟩)
   ·rw [az MS]at done
    rw [show(kV (lV aD a.ks)).isEmpty=false from Bool.eq_false_iff.mpr λz=>MS (List.map_eq_nil_iff.mp (qz z))];refine aL (bT lU.ok.gs.ns rfl rfl (o_attr lU.ok.gs.ns rfl (o_attr lU.ok.gs.st.h rfl ?_)));exact WP.mono (Ng H (dn hd rfl) p lU n24 E8 rfl p.rk λS3 Wl p3 e3=>done (aH (dQ n24 3) (by decide)) Wl p3 e3 rfl) λx s3 q=>lB rfl q
  ·rw [ay jy]at done⊢
   refine uW (bG (λz=>absurd z (by decide)) λ_=>.of rfl ?_)
   obtain⟨t0,r0,e0⟩:=List.exists_cons_of_ne_nil p.ne;exact PN e0 (EO hd rfl) lU.ok (p.ht t0 (e0▸cC)) (.ret ⟨bu,done (aH n24 (by decide)) ((kX a.af).symm▸lU) (.refl _) rfl rfl⟩)
theorem PS(v:Bool)(mk:aT)(t:ai):cB v mk HT t=t.any λp=>cB v mk HT [p]:=au t.any (funext λp=>(xN _).symm)
theorem PU:∀v,∀t∈B0,t∈wL->(decide (t<37/\t∉cI v)&&(aK (xF v) t).isNone)=true:=by decide+kernel
theorem ahx:∀t∈wL,t<37:=by decide
theorem adK:∀p∈wL,kN p∈wL:=by decide+kernel
theorem U3:∀p<22,(bf p).all (λt=>decide (t∈wL))=true:=by decide+kernel
theorem Nh(f g:Nat->Bool)(l:List Nat):(l.any λx=>f x||g x)=(l.any f||l.any g):=l.rec rfl λx l ih=>by
 show((f x||g x)||l.any λx=>f x||g x)=((f x||l.any f)||(g x||l.any g));rw [ih,Bool.or_assoc,Bool.or_assoc,Bool.or_left_comm (g x)]
theorem U4(t:ai)(p:Nat):t.any (dD p)=(decide (kN p∈t)||En (bf p) t):=(Nh (λq=>decide (kN p=q)) (λq=>decide (bf p=some q)) t).trans (congr (au or (Bool.eq_iff_iff.mpr (List.any_eq_true.trans (Iff.trans ⟨λ⟨q,hq,e⟩=>bx e▸hq,λh=>⟨_,h,dj rfl⟩⟩ decide_eq_true_iff.symm))))
  (Option.rec (t.rec rfl λx t ih=>ih) (λw=>Bool.eq_iff_iff.mpr (List.any_eq_true.trans (Iff.trans ⟨λ⟨q,hq,e⟩=>bV (bx e)▸hq,λh=>⟨w,h,dj rfl⟩⟩ decide_eq_true_iff.symm))) (bf p)))
theorem rest_eq(t:ai)(p:Nat):(! t.any (dD p))=d7 t p:=(au not (U4 t p)).trans (Bool.not_or ..)
theorem Ni(s:ai)(q:Nat):(! s.any λp=>dD p q)=c5 s q:=(au not (Nh (λp=>decide (kN p=q)) (λp=>decide (bf p=some q)) s)).trans (Bool.not_or ..)
section
theorem Ag(w:Wt v mk tb)(ht:t∈B0\/bU mk t)(hS:t∈wL):cB v mk HT [t]=false:=by
 have tB:=ht.resolve_right λq=>Nat.not_lt.mpr q.1 (ahx t hS);have k:=ah (PU v t tB hS);have k1:=bx k.1;have k5:=(w.s.low t k1.1).trans (Option.isNone_iff_eq_none.mp k.2);show((decide (t∈cI v)||(aK mk t).any λe=>e.2.any (cB v mk 5))||false)=false;rw [k5,dg k1.2];rfl
theorem no2(ht:t∈B0\/bU mk t):t≠2:=λe=>ht.elim (λq=>absurd (e▸q) (by decide)) λq=>absurd (e▸q.1) (by decide)
theorem tT(w:Wt v mk tb)(hp:p=2\/KU tb mk p)(ht:t∈B0\/bU mk t)(h:dD p t=true):cB v mk HT [t]=false:=(Bool.or_eq_true_iff.mp h).elim (λh=>have h:=bx h
  hp.elim (λe=>absurd (h.symm.trans (au kN e)) (no2 ht)) λhp=>hp.elim (λhp=>Ag w ht (h▸adK p hp)) λ⟨r,hr,e,_⟩=>(xG hr).elim λns q=>q.elim λb er=>by
   have er2:=Uy (z9 (er▸w.g.cls p _ e));obtain⟨c,rest,ks,r1⟩:=(vd w ht).row;exact absurd (eX (rA (bV (r1.cR.symm.trans (h▸er2.symm▸e.trans (au some er)))))) (Nb r1.row))
  λh=>have h:=bx h
   have l:=Nat.lt_of_not_le λl=>nomatch(rj l).symm.trans h
   Ag w ht (bx (lO (f:=λt=>decide (t∈wL)) (U3 p l) h))
noncomputable abbrev kP(s t:ai):List ai:=uT s (s.filter (d7 t))
theorem aaP{t:ai}(h2:2∉t)(hx:x∈t):dD 2 x=false:=Bool.or_eq_false_iff.mpr ⟨dg λe:2=x=>h2 (e▸hx),dg λe:none=some x=>nomatch e⟩
theorem U5{t:ai}(h2:2∉t):bI ((o7 s).filter λp=>! t.any (dD p))=kV (kP s t):=by
 unfold o7 kP uT;by_cases h:s=[]
 ·rw [az h,ay λq=>q h]
  have e:=List.any_eq_false.mpr λx hx=>Bool.eq_false_iff.mp (aaP h2 hx);exact au bI (I2 (au not e))
 ·rw [ay h,az h,List.filter_congr λp _=>rest_eq t p]
  exact(nK (g:=λu:ai=>vN (uk u)) (f:=λp=>[p])).symm
theorem Y9{t:ai}(h2:2∉t):(t.filter λq=>!(o7 s).any λp=>dD p q)=t.filter (c5 s):=List.filter_congr λx hx=>by
 unfold o7;by_cases h:s=[]
 ·rw [az h,h]
  exact au not ((xN _).trans (aaP h2 hx))
 ·rw [ay h]
  exact Ni s x
theorem Za{t:ai}(w:Wt v mk tb)(hs:SK tb mk s):iF tb mk (kP s t) (s.filter (d7 t)):=by
 unfold kP uT;by_cases h:s=[]
 ·rw [ay λq=>q h,h]
  exact⟨by decide,λk m=>dG m▸fD 1,λk m=>dG m▸⟨fD 3,.nil,λ_=>bg,.nil tb⟩,List.nodup_cons.mpr ⟨pY,.nil⟩,rfl⟩
 ·rw [az h]
  have nd:=(hs.Ay.aE (E8 (p:=d7 t))).lt.nodup;exact⟨aH (cK (cT ..)) (aH (tY ..) hs.len),λk m=>(List.mem_map.mp m).elim λp q=>q.2▸aW 1,λk m=>(List.mem_map.mp m).elim λp q=>have sp:=hs.cD p (List.mem_filter.mp q.1).1;q.2▸⟨(by decide:1<=3),.aR p,λq m=>dG m▸sp,.aR (lQ w sp).it.dc⟩,List.Pairwise.map (λp=>[p]) (λx y q e=>q (je e).1) nd,Aa _⟩
end
section
variable{mk:aT}{x0 x1 x y:Nat}
theorem EM.aE(h:EM mk l)(hl:∀p∈l,p∈t):EM mk t:=h.imp λp z=>⟨hl p z.1,z.2⟩
theorem Il.aE(z:Il mk K s t)(hl:∀p∈l,p∈t)(hs:∀p∈s',p∈s):Il mk K s' l:=⟨z.no,λq=>z.n30 (hs 30 q),λp hp q hq=>z.aR p (hl p hp) q (hl q hq)⟩
theorem lT.aE(f:lT mk K s t x0)(h1:t.length≠1)(hl:∀p∈l,p∈t)(hs:∀p∈s',p∈s):lT mk K s' l x1:=⟨λp e c x y _=>(f.nM h1 ⟨p,hl p (e▸cC),c⟩).no x y,λ_ h=>(f.nM h1 (h.aE hl)).aE hl hs⟩
theorem U6(h1:t.length≠1)(hl:∀p∈l,p∈t)(q:KV mk l x1 K x y):KV mk t x0 K x y:=q.imp id λv=>.inr ⟨h1,v.has.aE hl⟩
end
section
variable{rec:Cf}{s t:ai}{aa aj ao st:Nat}
theorem ahy(h:s.filter (d7 t)=[]/\s≠[]):tD rec s t aa aj ao st=rec s (t.filter (c5 s)) (aa|||1) aj ao st:=az h
theorem ahz(h:¬(s.filter (d7 t)=[]/\s≠[]))(h1:(t.filter (c5 s)).length=1):tD rec s t aa aj ao st=rec (s.filter (d7 t)) (t.filter (c5 s)) aa aj ao st:=(ay h).trans (az h1)
theorem ahA(h:¬(s.filter (d7 t)=[]/\s≠[]))(h1:(t.filter (c5 s)).length≠1):tD rec s t aa aj ao st=Tf rec s (s.filter (d7 t)) (t.filter (c5 s)) aa aj ao st:=(ay h).trans (ay h1)
end
theorem U7(h:l≠[]):(!(kV l).isEmpty)=true:=au not (Bool.eq_false_iff.mpr λz=>h (List.map_eq_nil_iff.mp (qz z)))
theorem CA(h:l≠[]):(!(bI l).isEmpty)=true:=au not (Bool.eq_false_iff.mpr λz=>h (List.map_eq_nil_iff.mp (qz z)))
theorem Lu(e:kP s t=[]):s.filter (d7 t)=[]/\s≠[]:=(c6 (s=[])).elim (λh=>absurd ((ay λq=>q h:kP s t=[[]]).symm.trans e) (List.cons_ne_nil _ _)) λh=>⟨List.map_eq_nil_iff.mp ((az h:kP s t=(s.filter (d7 t)).map λp=>[p]).symm.trans e),h⟩
theorem Lv(q:s.filter (d7 t)=[]/\s≠[]):kP s t=[]:=(az q.2).trans (au (List.map λp=>[p]) q.1)
theorem ahB(h:s=[]):o7 s=[2]:=az h
theorem ahC(h:s≠[]):o7 s=s:=ay h
theorem U8(h:es.length<=g.asked.length+m):wt (g.dW es)<=wt g+m:=aH (dQ h _) (cK (qC ..))
theorem Im(g:GR):g.asked.length<=wt g:=bZ _ _
section
variable{c:I0}{d n aa:Nat}{s t:ai}{K:mD}{S:IS}{Q:V->St->Prop}
theorem IP.ask(m:Nat)(ok:Cw c K S)(h:es.length<=S.g.asked.length+2*m)(a:iU c.v c.md S.tb es)(g:GS c.a (S.g.dW es) S.tb dM)(x:GX c.a S.g S.σ (S.g.dW es) dM):IP c K m (λ_=>([],S.g.aG)) S [] ⟨S.g.dW es,S.tb,dM⟩:=⟨⟨g,⟨a,ok.gi.rk,ok.gi.lw,ok.gi.sn,ok.gi.lt,ok.gi.sd,ok.gi.lv,ok.gi.wl⟩,ok.w,ok.bt⟩,x,.refl _,⟨rfl,rfl,rfl⟩,(nW ok.bt).symm,rfl,λ_=>bg,λ_=>bg,bZ _ m,aH (dQ (U8 h) _) (cK (qC ..)),λ_ _=>rfl⟩
theorem PV(H:jZ c n)(hd:6*n+18<=d)(ok:Cw c K S)(hs:SK S.tb c.md s)(ht:TK S.tb c.md t)(hr:jt aa)(dp:S.g.dU+n=40)(fr:lT c.md K s t (U S.tb s))(bn:gY 40 S.g S.tb)(h1:t.length≠1)(Qy:cB c.v c.md HT t=true)
  (k:∀af S',IP c (KV c.md t (U S.tb s) K) 40 (λF=>tD (eG ⟨c.v,c.md,F⟩ n) s t aa S.g.aj S.g.ao S.g.aG) S af S'->Q .none S'.σ):WP (aS TT FT d 613 [G c.a,vN (U S.tb s),vN (U S.tb t),vN aa]) S.σ Q:=by
 have h:=ok.gs;have w:=ok.w;have h4:=ht.tg.1;have h2:2∉t:=λq=>(ht.kd.dc 2 q).no rfl;have hS:∀x∈o7 s,x=2\/KU S.tb c.md x:=λx m=>(c6 (s=[])).elim (λq=>.inl (dG (ahB q▸m))) λq=>.inr (hs.cD x (ahC q▸m));have Q3:(o7 s).length<=3:=(c6 (s=[])).elim (λq=>aH (cK (au List.length (ahB q))) (by decide)) λq=>aH (cK (au List.length (ahC q))) hs.len
 have hSQ:∀x∈o7 s,Ia S.tb x:=λx m=>(hS x m).elim (λq=>q▸Lk w.g) λq=>(lQ w q).q;refine aA (dm hd rfl) (f:=gc) rfl rfl (o_attr h.ns rfl (o_attr h.st.h rfl ?_));refine Ii (EO hd rfl) h.eY w.g hs.kd (aH hs.len (by decide)) λs1 e1=>?_
 refine lF (EO hd rfl) (h.eY.nx e1) w.g ht.kd (.ret ?_);refine jc vN vN ?_ (aH h4 (by decide)) (λ_ _ ys K k1=>k1) ?_
 ·exactλ_=>bu
 have h3:=h.nx (e1.new .bH);show iJ TT (aS TT FT (d-1)) (gc.body.drop 3) [some (G c.a),some (vN (U S.tb s)),some (vN (U S.tb t)),some (vN aa),some jv,some (.lst (bI (o7 s))),some (.lst (bI t)),none] (dY Q) (s1++[.bH]);refine Y3 (S:=o7 s) (T:=t) (EO hd rfl) h3 w ok.gi.ask ok.gi.wl hSQ ht.tg.2 (λx hx y hy=>tT w (hS x hx) (ht.tg.2 y hy)) Q3 h4 (eB (CL (by decide:12<100) _) (aH (dQ (Im S.g) _) bn.wtl)) λes s3 q1 q2 q3 q4=>?_
 have ipA:=IP.ask 6 ok q1 q2 q3 ((GX.tP h (e1.new .bH)).trans q4);have kp:=Za (t:=t) w hs;have Zb:∀p∈t.filter (c5 s),p∈t:=λp q=>(List.mem_filter.mp q).1;have hRs:∀p∈s.filter (d7 t),p∈s:=λp q=>(List.mem_filter.mp q).1;have ahE:Canon (s.filter (d7 t)):=hs.Ay.aE E8;have adL:Canon (t.filter (c5 s)):=ht.Ay.aE E8;have hl4:(t.filter (c5 s)).length<=4:=aH (tY ..) h4;have lne:t.filter (c5 s)≠[]:=λq=>(List.any_eq_true.mp ((PS ..).symm.trans Qy)).elim λp hp=>have nl:c5 s p=false:=Bool.eq_false_iff.mpr λz=>bg (q▸List.mem_filter.mpr ⟨hp.1,z⟩)
  (List.any_eq_true.mp ((Bool.not_eq_false' ..).mp ((Ni s p).trans nl))).elim λx hx=>Bool.noConfusion ((tT w (.inr (hs.cD x hx.1)) (ht.tg.2 p hp.1) hx.2).symm.trans hp.2)
 show iJ TT (aS TT FT (d-1)) (gc.body.drop 4) [some (G c.a),some (vN (U S.tb s)),some (vN (U S.tb t)),some (vN aa),some jv,some (.lst (bI ((o7 s).filter λp=>! t.any (dD p)))),some (.lst (bI (t.filter λq=>!(o7 s).any λp=>dD p q))),none] (dY Q) s3;refine UK (EO hd rfl) q3 (λx hx=>hSQ x (List.mem_filter.mp hx).1) (λx hx=>vd w (ht.tg.2 x (List.mem_filter.mp hx).1)) (aH (tY ..) Q3) (aH (tY ..) h4) λs4 e4=>?_;have ipB:=ipA.nx e4;have hB:=ipB.ok.gs;have bB:=bn.step ipB (x':=34) (aW 40);have bt:=bB.tlt;show iJ TT (aS TT FT (d-1)) (gc.body.drop 5) [some (G c.a),some (vN (U S.tb s)),some (vN (U S.tb t)),some (vN aa),some jv,some (.lst (bI ((o7 s).filter λp=>! t.any (dD p)))),some (.lst (bI (t.filter λq=>!(o7 s).any λp=>dD p q))),none] (dY Q) s4;rw [U5 h2,Y9 h2];refine .of (a:=!(bI (t.filter (c5 s))).isEmpty) rfl ?_;rw [CA lne];refine .of (a:=!(kV (kP s t)).isEmpty) rfl ?_;have call:∀{s' l:ai}{r:Nat}{σ5:St}{tb5:List V}{d':Nat},IP c K 7 (λ_=>([],S.g.aG)) S [] ⟨S.g.dW es,tb5,σ5⟩->SK tb5 c.md s'->(∀p∈s',p∈s)->TK tb5 c.md l->(∀p∈l,p∈t)->jt r->6*n+15<=d'->(∀rec,tD rec s t aa S.g.aj S.g.ao S.g.aG=rec s' l r S.g.aj S.g.ao S.g.aG)->WP (aS TT FT d' 460 [G c.a,vN (U tb5 s'),vN (U tb5 l),vN r]) σ5 λ_ s=>Q .none s:=λip5 sk E4 tk hl r5 d5 ev=>Ae (dm d5 rfl) (H _ _ _ _ K ⟨_,_,_⟩ _ (dn d5 rfl) ⟨ip5.ok,sk,tk,r5,dp,fr.aE h1 hl E4,bn.step ip5 (by decide)⟩ λaf S6 ip6=>k af S6 (((ip5.and ip6 (f':=λF=>tD (eG ⟨c.v,c.md,F⟩ n) s t aa S.g.aj S.g.ao S.g.aG) λF _ _ e=>(ev _).trans e).conv (by decide) λ_ _ e=>e).gT λx y=>U6 h1 hl))
 by_cases TQ:s.filter (d7 t)=[]/\s≠[]
 ·rw [show(!(kV (kP s t)).isEmpty)=false from au (λl=>!(kV l).isEmpty) (Lv TQ)]
  refine bT hB.ns (n:=460) rfl rfl ?_;refine(lR (l:=t.filter (c5 s)) (EO hd rfl) hB.eY w.g rfl (λp hp=>(vd w (ht.tg.2 p (Zb p hp))).it) (di hl4 (by decide)) bt ?_)
  have kd5:=Ab (tb:=S.tb) (l:=t.filter (c5 s)) λp hp=>(vd w (ht.tg.2 p (Zb p hp))).it;rw [jz adL]at kd5⊢;have pu:=bQ S.tb (t.filter (c5 s));refineλs5 e5 t5=>Bs (b:=1) (gS hr.1) (by decide) ?_
  rw [←g8 pu hs.kd];exact(call (ipB.tx e5 t5 pu (w.g.aO _) (cQ ..)) (hs.pre pu) (λ_=>id) ⟨⟨hl4,λp hp=>ht.tg.2 p (Zb p hp)⟩,adL,kd5⟩ Zb (hr.or ⟨by decide,by decide⟩) (dn hd rfl) λ_=>ahy TQ)
 rw [U7 λq=>TQ (Lu q)];refine uW (bG (b:=1) (λYM=>?_) λYM=>?_)
 ·obtain⟨q,hq⟩:=List.length_eq_one_iff.mp YM
  refine bT hB.ns (n:=460) rfl rfl (Cz (EO hd rfl) hB.eY w kp ahE bt λs5 e5 t5 sk5=>?_);have pu:=bQ S.tb (s.filter (d7 t));have ip5:=ipB.tx e5 t5 pu (w.g.aO _) (cQ ..);have hqt:q∈t:=Zb q (hq▸cC);refine lB (i:=0) (v:=vN q) (hq▸rfl) (call (l:=[q]) ip5 sk5 hRs ⟨⟨(by decide:1<=4),λp m=>dG m▸ht.tg.2 q hqt⟩,.aR q,.aR (vd ip5.ok.w (ht.tg.2 q hqt)).it.dc⟩ (λp m=>dG m▸hqt) hr (dn hd rfl) λ_=>(ahz TQ YM).trans (hq▸rfl))
 ·exact PO H (dn hd rfl) ⟨ipB.ok,kp,ahE,λp hp=>ht.tg.2 p (Zb p hp),adL,hl4,hr,dp,λz=>(fr.nM h1 (z.aE Zb)).aE Zb hRs,bB.qV (by decide),lne⟩ λaf S6 ip6=>k af S6 (((ipB.and ip6 (f':=λF=>tD (eG ⟨c.v,c.md,F⟩ n) s t aa S.g.aj S.g.ao S.g.aG) λF _ _ e=>(ahA TQ YM).trans e).conv (by decide) λ_ _ e=>e).gT λx y q=>q.imp id λz=>.inr ⟨h1,z.aE Zb⟩)
end
theorem ES(h:x+y=z)(k:Q (vN z) s):WP (NY .add (vN x) (vN y)) s Q:=.ret (show Q (vN (x+y)) s from h.symm▸k)
theorem U9(h:z+y=x)(k:Q (vN z) s):WP (NY .aE (vN x) (vN y)) s Q:=.ret ((show(x:Int)-(y:Int)=z from h▸Int.add_sub_cancel z y)▸k)
section
variable{c:I0}{d n aa:Nat}{s t:ai}{K:mD}{S:IS}{Q:V->St->Prop}(H:jZ c n)
include H
theorem CB(hd:6*n+15<=d)(p:Pin c K n s t aa S)(k:∀af S',IP c (KV c.md t (U S.tb s) K) 2 (λF=>eG ⟨c.v,c.md,F⟩ n s t aa S.g.aj (S.g.ao+1) S.g.aG) S af S'->Q .none S'.σ):WP (aS TT FT d 467 [G c.a,vN (U S.tb s),vN (U S.tb t),vN aa]) S.σ Q:=by
 have h:=p.ok.gs;have h0:=h.nsSet (g':=S.g.zY (S.g.ao+1)) (n:=oY) rfl rfl rfl rfl;have tw:Tw S.g (S.g.zY (S.g.ao+1)):=⟨rfl,rfl,rfl,rfl,rfl,rfl,rfl⟩;refine aA (dm hd rfl) rfl rfl (o_attr h.ns rfl (ES rfl (cV h.ns (gm _ _) ?_)));refine H _ s t aa K ⟨S.g.zY (S.g.ao+1),S.tb,_⟩ _ (dn hd rfl) ⟨⟨h0.1,tw.gi p.ok.gi p.ok.gi.sd (fC 1 _),p.ok.w,p.ok.bt⟩,p.sk,p.tk,p.rk,p.dp,p.fr,⟨p.bn.1,p.bn.2⟩⟩ λaf S1 ip=>?_;have h1:=ip.ok.gs;have h2:=h1.nsSet (g':=S1.g.zY S.g.ao) (n:=oY) rfl rfl rfl rfl;exact o_attr h1.ns rfl (U9 ip.lv.ao.symm (cV h1.ns (gm _ _) (k af ⟨S1.g.zY S.g.ao,S1.tb,_⟩ (ip.Nf p.ok h0.2 h2.1 h2.2 tw ⟨rfl,rfl,rfl,rfl,rfl,rfl,rfl⟩ ⟨ip.lv.1,rfl,ip.lv.3⟩ ip.cO))))
theorem Nj(hd:6*n+16<=d)(p:Pin c K n s t aa S)(k:∀af S',IP c (KV c.md t (U S.tb s) K) 2 (λF=>eG ⟨c.v,c.md,F⟩ n s t aa (1-S.g.aj) (S.g.ao+1) S.g.aG) S af S'->Q .none S'.σ):WP (aS TT FT d 474 [G c.a,vN (U S.tb s),vN (U S.tb t),vN aa]) S.σ Q:=by
 have h:=p.ok.gs;have sd:=p.ok.gi.sd;have h0:=h.nsSet (g':=S.g.HY (1-S.g.aj)) (n:=tN) rfl rfl rfl rfl;have tw:Tw S.g (S.g.HY (1-S.g.aj)):=⟨rfl,rfl,rfl,rfl,rfl,rfl,rfl⟩;refine aA (dm hd rfl) rfl rfl (o_attr h.ns rfl (zG (zL sd) (cV h.ns (gm _ _) (bT h0.1.ns rfl rfl ?_))));refine CB H (S:=⟨S.g.HY (1-S.g.aj),S.tb,_⟩) (dn hd rfl) ⟨⟨h0.1,tw.gi p.ok.gi (qk 1 _) p.ok.gi.lv,p.ok.w,p.ok.bt⟩,p.sk,p.tk,p.rk,p.dp,p.fr,⟨p.bn.1,p.bn.2⟩⟩ λaf S1 ip=>?_;have h1:=ip.ok.gs;have h2:=h1.nsSet (g':=S1.g.HY S.g.aj) (n:=tN) rfl rfl rfl rfl;exact o_attr h1.ns rfl (zG (ip.lv.aj.symm▸I5 sd) (cV h1.ns (gm _ _) (k af ⟨S1.g.HY S.g.aj,S1.tb,_⟩ (ip.Nf p.ok h0.2 h2.1 h2.2 tw ⟨rfl,rfl,rfl,rfl,rfl,rfl,rfl⟩ ⟨rfl,ip.lv.2,ip.lv.3⟩ ip.cO))))
end
section
variable{v:Bool}{mk:aT}{tb:List V}{p q:Nat}{e:Nat×List ai}{s:ai}
theorem Va(hq:KU tb mk q)(he:aK mk q=some e):q∈wL:=hq.resolve_right λh=>h.elim λ_ h=>nomatch h.2.2.symm.trans he
theorem Lw(w:Wt v mk tb)(hq:KU tb mk q)(he:aK mk q=some e)(k:ai)(hk:k∈e.2):SK tb mk k:=⟨aH ((w.s.uZ.ok q e he).2 k hk).1 (by decide),w.s.Ay q e he k hk,λp hp=>.inl (w.s.uZ.cD q e he (Va hq he) k hk p hp),w.m.kd q e he k hk⟩
theorem Lx(w:Wt v mk tb)(hp:p∈B0\/bU mk p)(he:aK mk p=some e)(k:ai)(hk:k∈e.2):TK tb mk k:=⟨(Lc w.s w.b hp he k hk).1,w.s.Ay p e he k hk,w.m.kd p e he k hk⟩
theorem Vb{P:ai->Prop}(h0:P [])(h1:∀q,P [q])(h2:∀x y z,P (x::y::z))(s:ai):P s:=List.casesOn s h0 λx r=>List.casesOn r (h1 x) (h2 x)
structure Wm(tb:List V)(mk:aT)(s:ai)(c:Nat)(rest:List V)(q:Nat)(e:Nat×List ai):Prop where
 Vc:s=[q]
 get:aK mk q=some e
 Zc:e.1=c
 row:rest=bI (e.2.map (U tb))++oX e
structure SrN(mk:aT)(s:ai)(c:Nat):Prop where
 aly:c∉[14,15,16]
 Vd:kF mk (tu s)=(0,[])
theorem adM:∀v,∀q∈wL,(decide (q<37)&&((aK (xF v) q).isSome||(base v)[q]?.any λr=>decide (r=.aC (vN (c0 r)::r.g9.tail))&&decide (c0 r∉[14,15,16])))=true:=by decide+kernel
theorem adN(w:Wt v mk tb)(hs:SK tb mk s):∃(c:Nat)(rest:List V),tb[U tb s]?=some (.aC (vN c::rest))/\((∃q e,Wm tb mk s c rest q e)\/SrN mk s c):=Vb (P:=λs=>SK tb mk s->∃(c:Nat)(rest:List V),tb[U tb s]?=some (.aC (vN c::rest))/\((∃q e,Wm tb mk s c rest q e)\/SrN mk s c))
  (λ_=>⟨1,_,w.g.KI,.inr ⟨by decide,rfl⟩⟩)
  (λq hs=>by
   have hq:=hs.cD q cC;cases e:aK mk q with
   |some x=>exact⟨x.1,_,w.m.row q x e,.inl ⟨q,x,rfl,e,rfl,rfl⟩⟩
   |none=>
    have mn:=au (λo:Option (Nat×List ai)=>o.getD (0,[])) e;refine hq.elim (λhq=>?_) λ⟨r,hr,e2,_⟩=>(xG hr).elim λns h=>h.elim λb er=>⟨8,_,e2.trans (au some er),.inr ⟨by decide,mn⟩⟩
    have k:=ah (adM v q hq);have k2:=(Bool.or_eq_true_iff.mp k.2).resolve_left λz=>eH ((au Option.isSome ((w.s.low q (bx k.1)).symm.trans e)).symm.trans z);cases eb:(base v)[q]? with
    |none=>rw [eb]at k2;exact ff k2
    |some r=>
     rw [eb]at k2;have k3:=ah k2;exact⟨c0 r,_,(w.b.get eb).trans (au some (bx k3.1)),.inr ⟨bx k3.2,mn⟩⟩)
  (λx y z hs=>⟨6,_,(w.g.G7 (hs.kd.has (fC 2 _))).1,.inr ⟨by decide,rfl⟩⟩) s hs
end
theorem Ah(hd:1<=d)(k:Q y σ):WP (aS TT FT d 769 [x,y]) σ Q:=aA hd rfl rfl k
section
variable{mk:aT}{x0:Nat}
theorem lT.WR(f:lT mk K s t x0)(h:∀x y,K' x y->K x y):lT mk K' s t x0:=⟨λp e c x y v k=>f.aR p e c x y v (h x y k),λn c=>have z:=f.nM n c;⟨λx y k=>z.no x y (h x y k),z.n30,z.aR⟩⟩
end
section
variable{S0 S:IS}(H:jZ c n)
include H
theorem Nk(hd:6*n+15<=d)(ip:IP c K m f S0 t0 S)(sk:SK S0.tb c.md s)(tk:TK S0.tb c.md t)(r:jt aa)(dp:S0.g.dU+n=40)(bn:gY x S0.g S0.tb)(hm:m<=x)(fr:lT c.md K s t (U S0.tb s))
  (k:∀af S',IP c (KV c.md t (U S0.tb s) K) 2 (λF=>eG ⟨c.v,c.md,F⟩ n s t aa S0.g.aj S0.g.ao S.g.aG) S af S'->Q .none S'.σ):WP (aS TT FT d 460 [G c.a,vN (U S0.tb s),vN (U S0.tb t),vN aa]) S.σ Q:=by
 rw [←g8 ip.pre sk.kd]at fr k⊢;rw [←g8 ip.pre tk.kd];exact Ae (dm hd rfl) (H _ s t aa K S _ (dn hd rfl) (ip.pin sk tk r dp bn hm fr) λaf S' lU=>k af S' (lU.conv (aW 2) λF _ e=>(ip.hf F).symm.trans e))
theorem Zd(hd:6*n+15<=d)(ip:IP c K m f S0 t0 S)(sk:SK S0.tb c.md s)(tk:TK S0.tb c.md t)(r:jt aa)(dp:S0.g.dU+n=40)(bn:gY x S0.g S0.tb)(hm:m<=x)(fr:lT c.md K s t (U S0.tb s))
  (k:∀af S',IP c (KV c.md t (U S0.tb s) K) 2 (λF=>eG ⟨c.v,c.md,F⟩ n s t aa S0.g.aj (S0.g.ao+1) S.g.aG) S af S'->Q .none S'.σ):WP (aS TT FT d 467 [G c.a,vN (U S0.tb s),vN (U S0.tb t),vN aa]) S.σ Q:=by
 rw [←g8 ip.pre sk.kd]at fr k⊢;rw [←g8 ip.pre tk.kd];exact CB H hd (ip.pin sk tk r dp bn hm fr) λaf S' lU=>k af S' (lU.conv (aW 2) λF _ e=>(congr (au (λz l=>eG ⟨c.v,c.md,F⟩ n s t aa z (l+1) S.g.aG) ip.lv.aj.symm) ip.lv.ao.symm).trans e)
theorem Ze(hd:6*n+15<=d)(ip:IP c K m f S0 t0 S)(sk:SK S0.tb c.md s)(r:jt aa)(dp:S0.g.dU+n=40)(bn:gY x S0.g S0.tb)(hm:m<=x)
  (k:∀S',IP c K 2 (λ_=>([(s,aa,S0.g.aj)],S.g.aG)) S [(s,aa,S0.g.aj)] S'->S'.g.aG=S.g.aG->Q .none S'.σ):WP (aS TT FT d 460 [G c.a,vN (U S0.tb s),vN 33,vN aa]) S.σ Q:=by
 have kd:=k33 ip.ok.w;rw [←g8 ip.pre sk.kd];exact Ae (dm hd rfl) (H _ s [33] aa K S _ (dn hd rfl) ⟨ip.ok,sk.pre ip.pre,kd,r,ip.lv.dU▸dp,.ny b33,bn.step ip (aH (cK (p8 m)) hm)⟩ λaf S' lU=>by
  have v:=(lU.val S'.tb (.refl _)).symm.trans (Cy ip.ok.w.s ..);have e1:af=[(s,aa,S0.g.aj)]:=(au Prod.fst v).trans (au (λz=>[(s,aa,z)]) ip.lv.aj);have e2:S'.g.aG=S.g.aG:=au Prod.snd v;rw [e1]at lU;exact k S' ((lU.conv (aW 2) λ_ _ _=>e2▸rfl).gT λ_ _=>rI b33) e2)
end
noncomputable def Io(s:ai)(low aj:Nat)(x:bR×Nat)(_:Nat):bR×Nat:=(x.1++[(s,low|||1,aj)],x.2)
noncomputable def Bu(ways:List ai):List Nat:=ways.flatMap λu=>if u=[33]then [33]else []
theorem PX(s:ai)(low aj:Nat)(ways:List ai):∀x:bR×Nat,ways.foldl (vK s low aj) x=(Bu ways).foldl (Io s low aj) x:=ways.rec (λ_=>rfl) λu r ih x=>by
 refine(ih _).trans ?_;unfold Bu;rw [List.flatMap_cons,List.foldl_append];refine au ((r.flatMap λu=>if u=[33]then [33]else []).foldl (Io s low aj)) ?_;exact(c6 (u=[33])).elim (λh=>(az h).trans (au (List.foldl (Io s low aj) x) (az h:(if u=[33]then [33]else [])=[33])).symm) λh=>(ay h).trans (au (List.foldl (Io s low aj) x) (ay h:(if u=[33]then [33]else [])=([]:List Nat))).symm
theorem vf(u:ai)(r:List ai):Bu (u::r)=(if u=[33]then [33]else [])++Bu r:=List.flatMap_cons
theorem Ip(ways:List ai):(Bu ways).length<=ways.length:=ways.rec (aW _) λu r ih=>by
 rw [vf,gH];exact aH (pZ ((c6 (u=[33])).elim (λh=>(az h:(if u=[33]then [33]else [])=[33]).symm▸aW 1) λh=>(ay h:(if u=[33]then [33]else [])=([]:List Nat)).symm▸fD 1) ih) (cK (vP 1 _))
theorem Ve(ways:List ai):∀z∈Bu ways,z=33:=λz m=>(List.mem_flatMap.mp m).elim λu h=>(c6 (u=[33])).elim (λe=>dG ((az e:(if u=[33]then [33]else [])=[33])▸h.2)) λe=>bg ((ay e:(if u=[33]then [33]else [])=([]:List Nat))▸h.2)
theorem Vf{α β:Type}(g:α->V)(env:β->aQ)(st:β->St)(I:List α->β->Prop)(hs:∀r a,I r a->jb v xs (st a))
  (fu:∀x r a(K:Fl->St->Prop),I (x::r) a->(∀a',I r a'->K (.next (env a')) (st a'))->(∀u s',Q (.ret u) s'->K (.ret u) s')->step (g x) (env a) K (st a))
  (S8:∀a,I [] a->Q (.next (env a)) (st a))(r:List α):∀a,I r a->Mz step v xs (r.map g) (env a) Q (st a):=r.rec (λa h=>⟨hs _ a h,S8 a h⟩) λx r ih a h=>⟨hs _ a h,fu x r a _ h ih λ_ _ q=>q⟩
noncomputable abbrev pkT(a:LI):bR×Nat:=(a.af,a.S.g.aG)
structure EI(c:I0)(KO:mD)(s:ai)(x0 L:Nat)(ways r:List ai)(a:LI):Prop where
 lp:vc c.a a.S.g L
 cR:At a.S.σ L (.list (bI a.ks))
 ks:a.ks++Bu r=Bu ways
 kk:∀x y,a.K x y->KO x y
 fr:∀u∈r,lT c.md a.K s u x0
 pw:r.Pairwise λu _=>∀p∈u,p∈B0
 aE:∀u∈r,u∈ways
structure EW(c:I0)(K KO:mD)(s:ai)(S0:IS)(ways:List ai):Prop where
 sk:SK S0.tb c.md s
 tk:∀u∈ways,TK S0.tb c.md u
 len:ways.length<=2
 fr:∀u∈ways,lT c.md K s u (U S0.tb s)
 pw:ways.Pairwise λu _=>∀p∈u,p∈B0
 k0:∀x y,K x y->KO x y
 k1:∀u∈ways,∀x y,Vis c.md u (U S0.tb s) x y->KO x y
section
variable{S0 S:IS}{f tg:List V->bR×Nat}{L x0:Nat}
theorem EI.call(j:EI c KO s x0 L ways (u::r) a)(jy:u≠[33])(hk:∀x y,Vis c.md u x0 x y->KO x y)(lU:IP c (KV c.md u x0 a.K) m f a.S bY S2)(z:Option V):EI c KO s x0 L ways r ⟨a.af++bY,S2,a.n+m,KV c.md u x0 a.K,a.ks,z,z,none⟩:=
 have pw:=List.pairwise_cons.mp j.pw
 ⟨lU.gx.adv j.cR j.lp,lU.gx.at j.cR (.inr j.lp),(au (a.ks++·) ((au (·++Bu r) (ay jy:(if u=[33]then [33]else [])=([]:List Nat)))).symm).trans ((au (a.ks++·) (vf u r).symm).trans j.ks),λx y k=>k.elim (j.kk x y) (hk x y),λw m=>(j.fr w (cP _ m)).WR λx y=>rI (pw.1 w m),pw.2,λw m=>j.aE w (cP _ m)⟩
theorem EI.add(j:EI c KO s x0 L ways (u::r) a)(jy:u=[33])(z:Option V):EI c KO s x0 L ways r ⟨a.af,⟨a.S.g,a.S.tb,a.S.σ.set L (.list (bI a.ks++[vN 33]))⟩,a.n,a.K,a.ks++[33],z,z,none⟩:=
 have pw:=List.pairwise_cons.mp j.pw
 ⟨j.lp,(mh (l₂:=[33]))▸j.cR.dS,(rQ ..).trans ((au (a.ks++·) ((au (·++Bu r) (az jy:(if u=[33]then [33]else [])=[33]))).symm).trans ((au (a.ks++·) (vf u r).symm).trans j.ks)),j.kk,λw m=>j.fr w (cP _ m),pw.2,λw m=>j.aE w (cP _ m)⟩
theorem adO(hd:1<=d)(ip:IP c K m f S0 t0 S)(tk:TK S0.tb c.md u)(k:Q (.bool (decide (u=[33]))) S.σ):WP (aS TT FT d 577 [G c.a,vN (U S0.tb u)]) S.σ Q:=by
 have t1:=tk.pre ip.pre;rw [←g8 ip.pre tk.kd];have e:decide (U S.tb u=33)=decide (u=[33]):=decide_eq_decide.mpr ⟨λe=>nv ip.ok.w.g u [33] t1.kd (k33 ip.ok.w).kd e,λe=>e▸rfl⟩;exact(ip.ok.w.clo t1.tg t1.kd).elim λX q=>(q.1.row _ q.2).elim λc' q=>q.elim λrest q=>q.elim λks q=>Ie hd ip.ok.gs ip.ok.w.g q.1.cR (e▸k)
noncomputable def ahG(c:I0)(s:ai)(ways:List ai)(aa L:Nat)(S0:IS)(a:LI):aQ:=[some (G c.a),some (vN (U S0.tb s)),some (.aC (ways.map λu=>vN (U S0.tb u))),some (vN aa),some (.int 2),some (.ref L),a.x,a.y]
theorem Nl(H:jZ c n)(hd:6*n+16<=d)(ip0:IP c K m f S0 t0 S)(e:EW c K KO s S0 ways)(hr:jt aa)(dp:S0.g.dU+n=40)(bn:gY x S0.g S0.tb)(hm:m+8<=x)
  (hv:∀F,eT S.tb F->tg F=ways.foldl (vK s aa S0.g.aj) (ways.foldl (KX (eG ⟨c.v,c.md,F⟩ n) s aa S0.g.aj S0.g.ao) (t0,S.g.aG)))
  (k:∀af S',IP c KO (m+8) tg S0 af S'->Q .none S'.σ):WP (aS TT FT d 637 [G c.a,vN (U S0.tb s),.aC (ways.map λu=>vN (U S0.tb u)),vN aa,.int 2]) S.σ Q:=by
 have Vg:=ip0.nx ((aY.refl S.σ).new (.list []));have le0:=ip0.gx.le;have up:∀{k:Nat},k<=m+8->k<=x:=λh=>aH h hm;refine aA (dm hd rfl) rfl rfl (.ret (bD (λu=>vN (U S0.tb u)) (ahG c s ways aa S.σ.length S0) (λa=>a.S.σ)
  (λr a=>tS c S0 2 (m+4) pkT (λF=>KX (eG ⟨c.v,c.md,F⟩ n) s aa S0.g.aj S0.g.ao) (λF y=>tg F=ways.foldl (vK s aa S0.g.aj) y) r a/\EI c KO s (U S0.tb s) S.σ.length ways r a) ?_ (λu r a Kc ij kn _=>?_) (λa ij=>?_) ways ⟨t0,⟨S.g,S.tb,S.σ++[.list []]⟩,m,K,[],none,none,none⟩
  ⟨⟨Vg.conv (aW m) λ_ _ _=>rfl,cG (kW 2 e.len) m,hv⟩,⟨ip0.ok.gs.EG (aW _),bS,rfl,e.k0,e.fr,e.pw,λ_=>id⟩⟩))
 ·exactλ_=>bu
 ·obtain⟨i,j⟩:=ij
  have hu:=j.aE u cC;have gs:=i.ip.ok.gs;refine o_attr gs.ns rfl (bT gs.st.h rfl rfl (Ah (EO hd rfl) (adO (EO hd rfl) i.ip (e.tk u hu) (aL ?_))));by_cases jy:u=[33]
  ·rw [dj jy]
   have j2:=j.add jy (some (vN (U S0.tb u)));refine oM j.cR (.inl rfl) (lD j.cR (di (aH (cK (cT ..)) (aH (bZ _ _) (aH (cK (List.length_append.symm.trans (au List.length j.ks))) (aH (Ip ways) e.len)))) (by decide)) ?_)
   rw [au (λu=>vN (U S0.tb u)) jy]at j2⊢;exact kn ⟨a.af,⟨a.S.g,a.S.tb,a.S.σ.set S.σ.length (.list (bI a.ks++[vN 33]))⟩,a.n,a.K,a.ks++[33],some (vN 33),some (vN 33),none⟩ ⟨i.skip _ (λF=>ay λz=>z jy) (i.ip.loc _ j.lp le0) rfl (.refl _),j2⟩
  ·rw [dg jy]
   have b1:=aH (bZ a.n _) i.wM;refine bT gs.ns rfl rfl (Nk H (dn hd rfl) i.ip e.sk (e.tk u hu) hr dp bn (up (aH b1 (cG (by decide) m))) (j.fr u cC) λbY S2 lU=>?_)
   exact kn _ ⟨i.next ⟨a.af++bY,S2,a.n+2,KV c.md u (U S0.tb s) a.K,a.ks,some (vN (U S0.tb u)),some (vN (U S0.tb u)),none⟩ lU (λF p e=>(az jy).trans (au (qi a.af) e)) (aW 2) rfl rfl,j.call jy (e.k1 u hu) lU _⟩
 ·obtain⟨i,j⟩:=ij
  have hks:=(kX _).symm.trans j.ks;have l2:=hks▸aH (Ip ways) e.len;have ipK:=i.ip.gT j.kk;refine Eh j.cR (ahk (λ_=>?_) λz=>absurd (aH (cK (cT ..)) l2) (Nat.not_le_of_lt z));refine fj j.cR (.ret (Vf vN (ahG c s ways aa S.σ.length S0) (λa=>a.S.σ)
   (λr b=>tS c S0 2 (m+8) pkT (λ_=>Io s aa S0.g.aj) (λF y=>tg F=y) r b/\(b.K=KO/\∀z∈r,z=33)/\vc c.a b.S.g S.σ.length/\At b.S.σ S.σ.length (.list (bI a.ks))) (λ_ b i=>show jb (.ref S.σ.length) (bI a.ks) b.S.σ from i.2.2.2) (λz r b Kc ij kn _=>?_) (λb ij=>?_) a.ks ⟨a.af,a.S,a.n,KO,[],a.x,a.y,none⟩
   ⟨⟨ipK,aH (pZ i.wM (kW 2 l2)) (aW _),λF p=>(i.val F p).trans (hks▸PX s aa S0.g.aj ways _)⟩,⟨rfl,hks▸Ve ways⟩,j.lp,j.cR⟩))
  ·obtain⟨i,⟨ek,hz⟩,lp,ak⟩:=ij
   refine bT i.ip.ok.gs.ns rfl rfl (Bs (gS hr.1) (by decide) ?_)
   rw [hz z cC];refine Ze H (dn hd rfl) i.ip e.sk (hr.or ⟨by decide,by decide⟩) dp bn (up (aH (bZ _ _) i.wM)) λS2 lU es=>?_
   exact kn ⟨b.af++[(s,aa|||1,S0.g.aj)],S2,b.n+2,KO,[],b.x,some (vN 33),none⟩ ⟨i.next _ (ek▸lU) (λF p q=>Prod.ext rfl es.symm) (aW 2) rfl rfl,⟨rfl,λz m=>hz z (cP _ m)⟩,lU.gx.adv ak lp,lU.gx.at ak (.inr lp)⟩
  ·obtain⟨i,ek,_⟩:=ij
   exact k b.af b.S (ek.1▸i.ip.conv i.wM λF p _=>i.val F p)
end
section
variable{mk:aT}
theorem lW(he:aK c.md p=some e):Cg c rec s [p] aa aj ao st=zx c rec s e (kF c.md (tu s)) aa aj ao st:=au (λo:Option (Nat×List ai)=>zx c rec s (o.getD (0,[])) (kF c.md (tu s)) aa aj ao st) he
theorem rJ(h:m.1=e.1):zx c rec s e m aa aj ao st=xC rec e.1 aa aj ao (m.2.zip e.2) ([],st):=(ay λq=>q.2 (h.trans q.1)).trans ((ay λq=>q.2 (h.trans q.1)).trans (az h))
theorem Ly(h:e.1=16)(n:m.1≠16):zx c rec s e m aa aj ao st=jr rec s e.2 aa aj ao st:=az ⟨h,n⟩
theorem Wm.Vd(h:Wm tb mk s ck rest q e):kF mk (tu s)=e:=h.Vc▸au (λo:Option (Nat×List ai)=>o.getD (0,[])) h.get
theorem Vh(h:(∃q e,Wm tb mk s ck rest q e)\/SrN mk s ck)(hk:k≠0)(hc:ck≠k):(kF mk (tu s)).1≠k:=h.elim (λh=>h.elim λq h=>h.elim λe h=>h.Vd▸h.Zc.symm▸hc) λh=>h.Vd▸hk.symm
theorem Vi(h:(∃q e,Wm tb mk s ck rest q e)\/SrN mk s ck)(hk:ck∈[14,15,16]):∃q e,Wm tb mk s ck rest q e:=h.resolve_right λh=>h.aly hk
end
noncomputable def stL(c:I0)(n aa:Nat)(S:IS)(F:List V)(x:bR×Nat)(z:ai×ai):bR×Nat:=qi x.1 (eG ⟨c.v,c.md,F⟩ n z.1 z.2 aa S.g.aj (S.g.ao+1) x.2)
structure PL(c:I0)(KO:mD)(S:IS)(r:List (ai×ai))(K:mD):Prop where
 kk:∀x y,K x y->KO x y
 fr:∀z∈r,lT c.md K z.1 z.2 (U S.tb z.1)
 pw:r.Pairwise λz _=>∀p∈z.2,p∈B0
 sk:∀z∈r,SK S.tb c.md z.1
 tk:∀z∈r,TK S.tb c.md z.2
 ko:∀z∈r,∀x y,Vis c.md z.2 (U S.tb z.1) x y->KO x y
theorem PL.next{S:IS}(j:PL c KO S (z::r) K):PL c KO S r (KV c.md z.2 (U S.tb z.1) K):=
 have pw:=List.pairwise_cons.mp j.pw
 ⟨λx y k=>k.elim (j.kk x y) (j.ko z cC x y),λw m=>(j.fr w (cP _ m)).WR λx y=>rI (pw.1 w m),pw.2,λw m=>j.sk w (cP _ m),λw m=>j.tk w (cP _ m),λw m=>j.ko w (cP _ m)⟩
theorem Ai{S:IS}(H:jZ c n)(hd:6*n+15<=d)(hr:jt aa)(dp:S.g.dU+n=40)(bn:gY x S.g S.tb)(hx:k<=x)(i:tS c S 2 k pkT (stL c n aa S) T (z::r) a)(j:PL c KO S (z::r) a.K)(u v:Option V)
  (kn:∀t' S' n' K',tS c S 2 k pkT (stL c n aa S) T r ⟨t',S',n',K',[],u,v,none⟩->PL c KO S r K'->Q .none S'.σ):WP (aS TT FT d 467 [G c.a,vN (U S.tb z.1),vN (U S.tb z.2),vN aa]) a.S.σ Q:=Zd H hd i.ip (j.sk z cC) (j.tk z cC) hr dp bn (aH (aH (bZ _ _) i.wM) hx) (j.fr z cC) λbY S2 lU=>kn _ _ _ _ (i.next ⟨a.af++bY,S2,a.n+2,KV c.md z.2 (U S.tb z.1) a.K,[],u,v,none⟩ lU (λF p e=>au (qi a.af) e) (aW 2) rfl rfl) j.next
section
variable{p q y x0 X:Nat}
theorem s31:∀v,∀q∈wL,(decide (q<37)&&(aK (xF v) q).all λe=>! decide (e.1=16)||decide (q=31/\e=(16,[[25],[7],[19],[30]])))=true:=by decide+kernel
theorem ahI(w:Wt v mk tb)(hq:KU tb mk q)(he:aK mk q=some e)(Qx:e.1=16):q=31/\e=(16,[[25],[7],[19],[30]]):=
 have k:=ah (s31 v q (Va hq he))
 bx ((Bool.or_eq_true_iff.mp (lO (f:=λe=>! decide (e.1=16)||decide (q=31/\e=(16,[[25],[7],[19],[30]]))) k.2 ((w.s.low q (bx k.1)).symm.trans he))).resolve_left λz=>eH ((au not (dj Qx)).symm.trans z))
theorem Lz(he:aK mk q=some e)(f:Po e)(h:ve mk q y):False:=f.elim λ_ f=>f.elim λ_ f=>f.elim λ_ f=>h.2.2.elim λ_ h2=>h2.elim λ_ h2=>h2.elim λ_ h2=>by
  have e1:=bV (he.symm.trans h2.1);rw [←e1,f.1.eq]at h2;exact jB (f.2.2 y ((je (je (je (je h2.2).2).2).2).1▸cC)) h.1
theorem Iq{P:Prop}(he:aK mk p=some (16,[cX,[6],yes,no]))(N6:NoS mk p no)(h1:(∀p∈no,p∈B0)->P)(h2:∀q,no=[q]->ve mk p q->(∀y,¬ve mk q y)->P):P:=N6.elim (λh=>h1 h.2) λh=>h.elim λq h=>h.elim λe' h=>h2 q h.1 ⟨⟨h.2.1,e',h.2.2.2.1⟩,h.2.2.1,cX,yes,_,he,h.1▸rfl⟩ λy=>Lz h.2.2.2.1 h.2.2.2.2
theorem ahJ(hx:x0=X\/(X=31/\x0=30))(h:x=x0\/x0=31/\x=30):x=X\/(X=31/\x=30):=hx.elim (λe=>e▸h) λe=>h.elim (λz=>.inr ⟨e.1,z.trans e.2⟩) λz=>absurd (e.2.symm.trans z.1) (by decide)
theorem Vj(he:aK mk p=some (16,[cX,[6],yes,no]))(N6:NoS mk p no)(hx:x0=X\/(X=31/\x0=30))(x y:Nat)(vs:Vis mk no x0 x y):Bt mk p X x y:=Iq he N6 (λh=>(m5 h vs.has).elim) λq en iq nf=>have v2:=(xH (en▸vs)).2;⟨ahJ hx v2.1,.inr (v2.2.resolve_right (nf y)▸iq)⟩
theorem Nn(he:aK mk p=some (16,[cX,[6],yes,no]))(N6:NoS mk p no)(hK:∀y,ve mk p y->∀x,(x=X\/(X=31/\x=30))->¬K x y)(hx:x0=X\/(X=31/\x0=30)):lT mk K s' no x0:=Iq he N6 .ny λq en iq nf=>⟨λp' e1 cp x y vs=>have eq:q=p':=(je (en.symm.trans e1)).1;hK y ((vs.2.resolve_right (eq▸nf y))▸eq▸iq) x (ahJ hx vs.1),λne=>absurd (au List.length en) ne⟩
end
noncomputable def Vk:List Mine.S:=[.set 9 (.aC [.aE (.var 6) (.br (.int 3)),.aE (.var 6) (.br (.int 4))]),.ite (.aM .eq (.aE (.var 6) (.br (.int 3))) (.aE (.var 6) (.br (.int 1)))) [.gM (.bA (.var 1) [103,111] [.var 2,.aE (.var 6) (.br (.int 3)),.var 8]),.set 9 (.aC [.aE (.var 6) (.br (.int 4))])] [],.gM (.call (.br (.fn 637)) [.var 1,.var 2,.var 9,.var 8,.br (.int 2)])]
section
variable{c:I0}{d n aa p:Nat}{s cX yes no:ai}{K:mD}{S:IS}{Q:V->St->Prop}
structure LA(c:I0)(K:mD)(n:Nat)(s cX yes no:ai)(p aa:Nat)(S:IS):Prop where
 ok:Cw c K S
 sk:SK S.tb c.md s
 get:aK c.md p=some (16,[cX,[6],yes,no])
 nos:NoS c.md p no
 tk:∀k∈[cX,[6],yes,no],TK S.tb c.md k
 adP:∀q∈cX,q∈B0
 Ir:∀q∈yes,q∈B0
 rk:jt aa
 dp:S.g.dU+n=40
 bn:gY 12 S.g S.tb
 fr:∀y,ve c.md p y->∀x,(x=U S.tb s\/(U S.tb s=31/\x=30))->¬K x y
noncomputable def KC(c:I0)(p X:Nat)(K:mD):mD:=λx y=>K x y\/Bt c.md p X x y
noncomputable def kG(c:I0)(n:Nat)(s:ai)(p aa:Nat)(S:IS):List V->bR×Nat:=λF=>Cg ⟨c.v,c.md,F⟩ (eG ⟨c.v,c.md,F⟩ n) s [p] aa S.g.aj S.g.ao S.g.aG
theorem CC(H:jZ c n)(hd:6*n+16<=d)(p0:LA c K n s cX yes no p aa S)(jH:jt low)(el:Pe aa S.g.aj=low)(hb:∀F,kG c n s p aa S F=jr (eG ⟨c.v,c.md,F⟩ n) s [cX,[6],yes,no] aa S.g.aj S.g.ao S.g.aG)
  (k:∀af S',IP c (KC c p (U S.tb s) K) 12 (kG c n s p aa S) S af S'->Q .none S'.σ):
  iJ TT (aS TT FT d) Vk [x,some (G c.a),some (vN (U S.tb s)),some (vN p),some (vN aa),v5,some (.aC (vN 16::vN (U S.tb cX)::vN 6::vN (U S.tb yes)::vN (U S.tb no)::tl)),none,some (vN low),none] (dY Q) S.σ:=by
 have hx0:U S.tb s=U S.tb s\/(U S.tb s=31/\U S.tb s=30):=.inl rfl;have t3:=p0.tk yes (.tail _ (.tail _ (.head _)));have t4:=p0.tk no (.tail _ (.tail _ (.tail _ (.head _))));have fno:∀s',lT c.md K s' no (U S.tb s):=λs'=>Nn p0.get p0.nos p0.fr hx0;have vno:=Vj p0.get p0.nos hx0;refine aI rfl (aI rfl (aI rfl (aI rfl (bG (λhyc=>?_) λhyc=>?_))))
 ·have eyc:=nv p0.ok.w.g yes cX t3.kd (p0.tk cX (.head _)).kd hyc
  refine bT p0.ok.gs.ns rfl rfl (aI rfl (Nk H (l8 hd) (IP.refl p0.ok) p0.sk t3 jH p0.dp p0.bn (fD _) (.ny p0.Ir) λt1 S1 Vg=>aI rfl ?_));exact Nl H hd (Vg.gT λ_ _=>rI p0.Ir) ⟨p0.sk,λu m=>dG m▸t4,gD 1,λu m=>dG m▸fno s,E7 _ _,λ_ _=>.inl,λu m x y z=>.inr (vno x y (dG m▸z))⟩ jH p0.dp p0.bn (by decide) (λF q=>(hb F).trans (zI el eyc (Vg.val F q))) λaf S' ip=>k af S' (ip.conv (by decide) λ_ _ e=>e)
 ·exact Nl H hd (IP.refl p0.ok) ⟨p0.sk,λu m=>(fY m).elim (λe=>e▸t3) λm=>dG m▸t4,aW 2,λu m=>(fY m).elim (λe=>e▸.ny p0.Ir) λm=>dG m▸fno s,List.pairwise_cons.mpr ⟨λ_ _=>p0.Ir,E7 _ _⟩,λ_ _=>.inl,λu m x y z=>(fY m).elim (λe=>(m5 p0.Ir (e▸z).has).elim) λm=>.inr (vno x y (dG m▸z))⟩ jH p0.dp p0.bn (by decide) (λF q=>(hb F).trans (Ck el λe=>hyc (au (U S.tb) e))) λaf S' ip=>k af S' (ip.conv (by decide) λ_ _ e=>e)
noncomputable abbrev L31(cX yes no:ai):List (Nat×ai×ai):=[(1,[25],cX),(2,[7],[6]),(3,[19],yes),(4,[30],no)]
theorem Iu{α:Type}{P:α->Prop}{a b c d:α}(h1:P a)(h2:P b)(h3:P c)(h4:P d):∀z∈[a,b,c,d],P z:=List.forall_mem_cons.mpr ⟨h1,List.forall_mem_cons.mpr ⟨h2,List.forall_mem_cons.mpr ⟨h3,List.forall_mem_singleton.mpr h4⟩⟩⟩
noncomputable def adQ:List Mine.S:=[.dK (.aR 7) (.call (.br (.bi 5)) [.br (.int 1),.br (.int 5)]) [.gM (.bA (.var 1) NR [.aE (.var 5) (.var 7),.aE (.var 6) (.var 7),.var 4])]]
noncomputable abbrev Np:List V:=[vN 16,vN 25,vN 7,vN 19,vN 30,.aC [],.int 0]
theorem Zf(h:Wm tb mk s ck rest q e)(k:q=31/\e=(16,[[25],[7],[19],[30]])):s=[31]/\rest=Np.tail:=⟨h.Vc.trans (au (λq=>[q]) k.1),h.row.trans (au (λe:Nat×List ai=>bI (e.2.map (U tb))++oX e) k.2)⟩
theorem Zg(H:jZ c n)(hd:6*n+16<=d)(p0:LA c K n [31] cX yes no p aa S)(k:∀af S',IP c (KC c p 31 K) 12 (kG c n [31] p aa S) S af S'->Q .none S'.σ):
  iJ TT (aS TT FT d) adQ [x,some (G c.a),some (vN 31),some (vN p),some (vN aa),some (.aC Np),some (.aC (vN 16::vN (U S.tb cX)::vN 6::vN (U S.tb yes)::vN (U S.tb no)::tl)),none,none,none] (dY Q) S.σ:=by
 have w:=p0.ok.w;have x30:(30:Nat)=U S.tb [31]\/(U S.tb [31]=31/\(30:Nat)=30):=.inr ⟨rfl,rfl⟩;have sk:=Lw w (p0.sk.cD 31 cC) (w.s.low 31 (by decide)|>.trans (by cases c.v<;>rfl:aK (xF c.v) 31=some (16,[[25],[7],[19],[30]])))
 have m31:=au (λo:Option (Nat×List ai)=>o.getD (0,[])) (w.s.low 31 (by decide)|>.trans (by cases c.v<;>rfl:aK (xF c.v) 31=some (16,[[25],[7],[19],[30]])))
 have hv:∀F,kG c n [31] p aa S F=((L31 cX yes no).map Prod.snd).foldl (stL c n aa S F) ([],S.g.aG):=λF=>(lW p0.get).trans ((au (λm=>zx _ _ _ _ m _ _ _ _) m31).trans (rJ (e:=(16,[cX,[6],yes,no])) rfl));refine .of rfl (.of rfl ?_);refine bD (λz:Nat×ai×ai=>vN z.1) (λa:LI=>[x,some (G c.a),some (vN 31),some (vN p),some (vN aa),some (.aC Np),some (.aC (vN 16::vN (U S.tb cX)::vN 6::vN (U S.tb yes)::vN (U S.tb no)::tl)),a.x,none,none]) (λa=>a.S.σ)
  (λr a=>tS c S 2 8 pkT (stL c n aa S) (λF y=>kG c n [31] p aa S F=y) (r.map Prod.snd) a/\PL c (KC c p 31 K) S (r.map Prod.snd) a.K/\∀z∈r,Np[z.1]?=some (vN (U S.tb z.2.1))/\(vN 16::vN (U S.tb cX)::vN 6::vN (U S.tb yes)::vN (U S.tb no)::tl)[z.1]?=some (vN (U S.tb z.2.2)))
  ?_ (λz r a Kc ij kn _=>?_) (λa ij=>k a.af a.S ((ij.1.ip.gT ij.2.1.kk).conv (aH ij.1.wM (by decide)) λF q _=>ij.1.val F q)) (L31 cX yes no) ⟨[],S,0,K,[],none,none,none⟩ ⟨⟨IP.refl p0.ok,aW 8,λF _=>hv F⟩,⟨λ_ _=>.inl,?_,?_,?_,?_,?_⟩,?_⟩
 ·exactλ_=>bu
 ·have rw:=ij.2.2 z cC
  exact bT ij.1.ip.ok.gs.ns rfl rfl (aI rw.1 (aI rw.2 (Ai H (l8 hd) p0.rk p0.dp p0.bn (by decide) ij.1 ij.2.1 (some (vN z.1)) none λt' S' n' K' i' j'=>kn ⟨t',S',n',K',[],some (vN z.1),none,none⟩ ⟨i',j',λz m=>ij.2.2 z (cP _ m)⟩)))
 ·exact Iu (.ny p0.adP) (.ny (by decide)) (.ny p0.Ir) (Nn p0.get p0.nos p0.fr x30)
 ·exact List.pairwise_cons.mpr ⟨λ_ _=>p0.adP,List.pairwise_cons.mpr ⟨λ_ _=>(by decide),List.pairwise_cons.mpr ⟨λ_ _=>p0.Ir,E7 _ _⟩⟩⟩
 ·exact Iu (sk _ (.head _)) (sk _ (.tail _ (.head _))) (sk _ (.tail _ (.tail _ (.head _)))) (sk _ (.tail _ (.tail _ (.tail _ (.head _)))))
 ·exact Iu (p0.tk _ (.head _)) (p0.tk _ (.tail _ (.head _))) (p0.tk _ (.tail _ (.tail _ (.head _)))) (p0.tk _ (.tail _ (.tail _ (.tail _ (.head _)))))
 ·exact Iu (λx y v=>(m5 p0.adP v.has).elim) (λx y v=>(m5 (by decide) v.has).elim) (λx y v=>(m5 p0.Ir v.has).elim) λx y v=>.inr (Vj p0.get p0.nos x30 x y v)
 ·exact Iu ⟨rfl,rfl⟩ ⟨rfl,rfl⟩ ⟨rfl,rfl⟩ ⟨rfl,rfl⟩
theorem Zh(H:jZ c n)(hd:6*n+17<=d)(p0:LA c K n s cX yes no p aa S)
  (k:∀af S',IP c (KC c p (U S.tb s) K) 12 (kG c n s p aa S) S af S'->Q .none S'.σ):WP (aS TT FT d 708 [x,G c.a,vN (U S.tb s),vN p,vN aa]) S.σ Q:=by
 have w:=p0.ok.w;have h:=p0.ok.gs;have er:=w.m.row p _ p0.get;obtain⟨ck,rest,es,Iv⟩:=adN w p0.sk;refine aA (dm hd rfl) rfl rfl (o_attr h.ns rfl (o_attr h.st.h rfl (o_attr h.eY.ns rfl (dP h.eY.fN es (o_attr h.ns rfl (o_attr h.st.h rfl (o_attr h.eY.ns rfl (dP h.eY.fN er (aI rfl (bG (λQx=>?_) λQx=>?_))))))))))
 ·obtain⟨q,e,m⟩:=Vi Iv (.tail _ (.tail _ (List.mem_singleton.mpr Qx)))
  obtain⟨e1,e2⟩:=Zf m (ahI w (p0.sk.cD q (m.Vc▸cC)) m.get (m.Zc.trans Qx));subst e1 e2 Qx;exact Zg H (dn hd rfl) p0 k
 ·have m16:=Vh Iv (by decide) Qx
  have hb:∀F,kG c n s p aa S F=jr (eG ⟨c.v,c.md,F⟩ n) s [cX,[6],yes,no] aa S.g.aj S.g.ao S.g.aG:=λF=>(lW p0.get).trans (Ly rfl m16);have sd:=p0.ok.gi.sd;refine o_attr h.ns rfl (o6 (λh1=>?_) λh1=>?_)
  ·exact Bs (gS p0.rk.1) (by decide) (CC H (dn hd rfl) p0 (p0.rk.or ⟨by decide,by decide⟩) (az (Fg sd (Nat.pos_of_ne_zero h1))) hb k)
  ·exact CC H (dn hd rfl) p0 p0.rk (ay λe=>absurd (e.symm.trans h1) (by decide)) hb k
end
theorem Iw{v:Bool}{mk:aT}{tb:List V}{p:Nat}{e:Nat×List ai}(w:Wt v mk tb)(hp:p∈B0)(he:aK mk p=some e)(k:ai)(hk:k∈e.2):∀q∈k,q∈B0:=λq hq=>(((Ew w.s w.b (cP _ hp)).2 e he).2 k hk).elim λx h=>(dG (h.2▸hq)).symm▸h.1
theorem ahK{α:Type}(l:List α)(h:l.length=2):∃a b,l=[a,b]:=List.casesOn l (λh=>nomatch h) (λa r h=>(List.length_eq_one_iff.mp (kZ h)).elim λb e=>⟨a,b,au (a::·) e⟩) h
theorem Vl:∀x∈gA,(x.1=15->x.2=2)/\(x.1=14->x.2=1):=by decide
section
variable{c:I0}{S:IS}
theorem ahL{P:Prop}(w:Wt c.v c.md S.tb)(hs:SK S.tb c.md s)(h:∃q e,Wm S.tb c.md s ck rest q e)(h15:ck=15)(k:∀a1 a2,kF c.md (tu s)=(15,[a1,a2])->SK S.tb c.md a1->SK S.tb c.md a2->rest=[vN (U S.tb a1),vN (U S.tb a2)]->P):P:=h.elim λq h=>h.elim λe m=>have e15:=m.Zc.trans h15
  have sk:=Lw w (hs.cD q (m.Vc▸cC)) m.get
  (ahK _ ((Vl _ (w.s.uZ.ok q e m.get).1).1 e15)).elim λa1 h=>h.elim λa2 el=>have ee:=Prod.ext e15 el
   k a1 a2 (m.Vd.trans ee) (sk a1 (el▸.head _)) (sk a2 (el▸.tail _ (.head _))) (m.row.trans (au (λe:Nat×List ai=>bI (e.2.map (U S.tb))++oX e) ee))
theorem ahM{P:Prop}(w:Wt c.v c.md S.tb)(hs:SK S.tb c.md s)(h:∃q e,Wm S.tb c.md s ck rest q e)(K5:ck=14)(k:∀a1,kF c.md (tu s)=(14,[a1])->SK S.tb c.md a1->rest=[vN (U S.tb a1)]->P):P:=h.elim λq h=>h.elim λe m=>have e14:=m.Zc.trans K5
  have sk:=Lw w (hs.cD q (m.Vc▸cC)) m.get
  (List.length_eq_one_iff.mp ((Vl _ (w.s.uZ.ok q e m.get).1).2 e14)).elim λa1 el=>have ee:=Prod.ext e14 el
   k a1 (m.Vd.trans ee) (sk a1 (el▸.head _)) (m.row.trans (au (λe:Nat×List ai=>bI (e.2.map (U S.tb))++oX e) ee))
structure LC(c:I0)(K:mD)(n:Nat)(s:ai)(p aa:Nat)(S:IS):Prop where
 ok:Cw c K S
 sk:SK S.tb c.md s
 b0:p∈B0
 rk:jt aa
 dp:S.g.dU+n=40
 bn:gY 12 S.g S.tb
theorem Vm{x:V}(H:jZ c n)(hd:6*n+16<=d)(p0:LC c K n s p aa S)(he:aK c.md p=some (15,[k1,k2]))
  (k:∀af S',IP c K 12 (kG c n s p aa S) S af S'->Q .none S'.σ):WP (aS TT FT d 689 [x,G c.a,vN (U S.tb s),vN p,vN aa]) S.σ Q:=by
 have w:=p0.ok.w;have h:=p0.ok.gs;have tk:=Lx w (.inl p0.b0) he;have bk:=Iw w p0.b0 he;have er:S.tb[p]?=some (.aC [vN 15,vN (U S.tb k1),vN (U S.tb k2)]):=w.m.row p _ he;obtain⟨ck,rest,es,Iv⟩:=adN w p0.sk;refine aA (dm hd rfl) (f:=fL) rfl rfl (o_attr h.ns rfl (o_attr h.st.h rfl (o_attr h.eY.ns rfl (dP h.eY.fN es (o_attr h.ns rfl (o_attr h.st.h rfl (o_attr h.eY.ns rfl (dP h.eY.fN er (aI rfl (bG (b:=15) (λh15=>?_) λh15=>?_))))))))))
 ·refine ahL w p0.sk (Vi Iv (.tail _ (.head _)|>λm=>h15.symm▸m)) h15 λa1 a2 m s1 s2 er2=>?_
  rw [er2];have i0:tS c S 2 4 pkT (stL c n aa S) (λF y=>kG c n s p aa S F=y) [(a1,k1),(a2,k2)] ⟨[],S,0,K,[],none,none,none⟩:=⟨IP.refl p0.ok,aW 4,λF _=>(lW he).trans ((au (λm=>zx _ _ _ _ m _ _ _ _) m).trans (rJ (e:=(15,[k1,k2])) (m:=(15,[a1,a2])) rfl))⟩;have j0:PL c K S [(a1,k1),(a2,k2)] K:=⟨λ_ _=>id,List.forall_mem_cons.mpr ⟨.ny (bk k1 (.head _)),List.forall_mem_singleton.mpr (.ny (bk k2 (.tail _ (.head _))))⟩,List.pairwise_cons.mpr ⟨λ_ _=>bk k1 (.head _),E7 _ _⟩,List.forall_mem_cons.mpr ⟨s1,List.forall_mem_singleton.mpr s2⟩,List.forall_mem_cons.mpr ⟨tk k1 (.head _),List.forall_mem_singleton.mpr (tk k2 (.tail _ (.head _)))⟩,List.forall_mem_cons.mpr ⟨λx y v=>(m5 (bk k1 (.head _)) v.has).elim,List.forall_mem_singleton.mpr λx y v=>(m5 (bk k2 (.tail _ (.head _))) v.has).elim⟩⟩;refine bT h.ns (n:=467) rfl rfl (aI rfl (aI rfl (Ai H (dn hd rfl) p0.rk p0.dp p0.bn (by decide) i0 j0 none none λt1 S1 n1 K1 i1 j1=>?_)))
  exact bT i1.ip.ok.gs.ns (n:=467) rfl rfl (aI rfl (aI rfl (Ai H (dn hd rfl) p0.rk p0.dp p0.bn (by decide) i1 j1 none none λt2 S2 n2 K2 i2 j2=>k t2 S2 ((i2.ip.gT j2.kk).conv (aH i2.wM (by decide)) λF q _=>i2.val F q))))
 ·have m15:=Vh Iv (k:=15) (by decide) h15
  exact k [] S ((IP.refl p0.ok).conv (fD _) λF _ _=>(lW he).trans ((ay λq=>absurd q.1 (by decide:¬(15=16))).trans ((ay λq=>absurd q.1 (by decide:¬(15=14))).trans (ay m15))))
theorem Zi{x:V}(H:jZ c n)(hd:6*n+18<=d)(p0:LC c K n s p aa S)(he:aK c.md p=some (14,[k1]))
  (k:∀af S',IP c K 12 (kG c n s p aa S) S af S'->Q .none S'.σ):WP (aS TT FT d 670 [x,G c.a,vN (U S.tb s),vN p,vN aa]) S.σ Q:=by
 have w:=p0.ok.w;have h:=p0.ok.gs;have t1:=Lx w (.inl p0.b0) he k1 (.head _);have b1:=Iw w p0.b0 he k1 (.head _);have er:S.tb[p]?=some (.aC [vN 14,vN (U S.tb k1)]):=w.m.row p _ he;obtain⟨ck,rest,es,Iv⟩:=adN w p0.sk;have d2:6*n+16<=d-1-1:=dn (dn hd rfl:6*n+17<=d-1) rfl;refine aA (dm hd rfl) (f:=lA) rfl rfl (aA (EO hd rfl) (f:=sN) rfl rfl (o_attr h.ns rfl (o_attr h.st.h rfl (o_attr h.eY.ns rfl (dP h.eY.fN er (aI rfl (o_attr h.eY.ns rfl (dP h.eY.fN es (aI rfl (bG (b:=14) (λK5=>?_) λK5=>?_))))))))))
 ·refine ahM w p0.sk (Vi Iv (K5.symm▸.head _)) K5 λa1 m s1 er2=>?_
  rw [er2]at es;exact bT h.ns (n:=474) rfl rfl (o_attr h.eY.ns rfl (dP h.eY.fN es (aI rfl (Nj H d2 ⟨p0.ok,s1,t1,p0.rk,p0.dp,.ny b1,p0.bn.qV (fD _)⟩ λaf S' ip=>k af S' ((ip.gT λ_ _=>rI b1).conv (by decide) λF _ e=>(lW he).trans ((au (λm=>zx _ _ _ _ m _ _ _ _) m).trans ((rJ (e:=(14,[k1])) (m:=(14,[a1])) rfl).trans (au (qi []) e))))))))
 ·have m14:=Vh Iv (k:=14) (by decide) K5
  have hv:∀F,kG c n s p aa S F=(fQ F s).elim ([],S.g.aG) λo=>eG ⟨c.v,c.md,F⟩ n [o] k1 (aa|||32) (1-S.g.aj) (S.g.ao+1) S.g.aG:=λF=>(lW he).trans ((ay λq=>absurd q.1 (by decide:¬(14=16))).trans (az ⟨rfl,m14⟩))
  refine Lq (dm d2 rfl) h.eY w.g p0.sk.kd (λq hq=>lQ w (p0.sk.cD q hq)) (aH p0.sk.len (by decide)) p0.bn.tlt λs1 e1 tt1=>?_
  have pu:=zJ S.tb s;have Vg:=(IP.refl p0.ok).tx e1 tt1 pu (w.g.cM s) (zK S.tb s);have kp:∀F,eT (cM S.tb s) F->fQ F s=fQ (cM S.tb s) s:=λF q=>rG q;cases hk:fQ (cM S.tb s) s with
  |none=>exact zg (b':=false) rfl (k [] _ (Vg.conv (by decide) λF q _=>(hv F).trans (au (λo:Option Nat=>o.elim ([],S.g.aG) λo=>eG ⟨c.v,c.md,F⟩ n [o] k1 (aa|||32) (1-S.g.aj) (S.g.ao+1) S.g.aG) ((kp F q).trans hk))))
  |some o=>
   have so:=Cm (w.m.mkR w.s) hk;refine MP (a:=o) (b:=0) (λ_=>?_) λz=>absurd z (Nat.not_lt_zero _);refine bT Vg.ok.gs.ns (n:=474) rfl rfl (Bs (b:=32) (gS p0.rk.1) (by decide) ?_)
   rw [←g8 pu t1.kd];exact Nj (s:=[o]) H d2 ⟨Vg.ok,⟨(by decide:1<=3),.aR o,λq m=>dG m▸so,.aR (lQ Vg.ok.w so).it.dc⟩,t1.pre pu,p0.rk.or ⟨by decide,by decide⟩,p0.dp,.ny b1,p0.bn.step Vg (by decide)⟩ λaf S' ip=>k af S' (((Vg.and ip (f':=kG c n s p aa S) λF q _ e=>(hv F).trans ((au (λo:Option Nat=>o.elim ([],S.g.aG) λo=>eG ⟨c.v,c.md,F⟩ n [o] k1 (aa|||32) (1-S.g.aj) (S.g.ao+1) S.g.aG) ((kp F (ip.pre.trans q)).trans hk)).trans e)).gT λ_ _=>rI b1).conv (by decide) λ_ _ e=>e)
end
section
theorem Zj(es:List (V×V)):(∀e∈es,e.1≠k)->bJ k es=none:=es.rec (λ_=>rfl) λx r ih h=>(ay (h x cC)).trans (ih λe m=>h e (cP _ m))
theorem Iz{P:List (V×V)->List (V×V)->Prop}(h0:P [] [])(h1:∀x r,P (x::r) r)(h2:∀x r r',P r r'->P (x::r) (x::r'))(es:List (V×V)):P es (kI k es):=es.rec h0 λx r ih=>(c6 (x.1=k)).elim (λh=>(au (P (x::r)) (az h)).mpr (h1 x r)) λh=>(au (P (x::r)) (ay h)).mpr (h2 x r _ ih)
theorem Vn{e:V×V}:e∈kI k es->e∈es:=Iz (P:=λa b=>e∈b->e∈a) id (λ_ _=>cP _) (λx r r' ih h=>(fY h).elim (λh=>h▸cC) λh=>cP _ (ih h)) es
theorem ye(k:V)(es:List (V×V)):(kI k es).length<=es.length:=Iz (P:=λa b=>b.length<=a.length) (aW _) (λ_ _=>gD _) (λ_ _ _=>nG) es
theorem adR(h:At s l (.dict es))(hk:gn i es=true)(e:bJ i es=some v)(k:Q () (s.set l (.dict (kI i es)))):WP (Ft (.ref l) i) s Q:=fj h (show WP (if(gn i es&&(bJ i es).isSome)=true then jf l (.dict (kI i es))else M.fail) s Q from(az (dF hk (au Option.isSome e))).symm▸.of rfl k)
end
theorem Vo(h:ju x y r s=ju x' y' r' s'):x=x'/\y=y':=have h1:=je (V.aC.inj h);⟨eX h1.1,eX (je h1.2).1⟩
section
theorem mZ.gn(h:mZ K es)(x y r sd:Nat):Mine.gn (ju x y r sd) es=true:=M7 (λe m=>(h e m).elim λ_ q=>q.elim λ_ q=>q.elim λ_ q=>q.elim λ_ q=>(au V.fG q.1).trans rfl) rfl (by decide:1<=8)
theorem mZ.no(h:mZ K es)(n:¬K x y)(r sd:Nat):bJ (ju x y r sd) es=none:=Zj es λe m q=>(h e m).elim λ_ z=>z.elim λ_ z=>z.elim λ_ z=>z.elim λ_ z=>have j:=Vo (z.1.symm.trans q);n (j.1▸j.2▸z.2)
theorem mZ.put(h:mZ K es)(hk:∀x y,K x y->K' x y)(k:K' x y)(z:V):mZ K' (cS (ju x y r sd) z es):=λe m=>(H6 m).elim (h.mono hk e) λq=>q▸⟨x,y,r,sd,rfl,k⟩
theorem mZ.Qk(h:mZ K es)(k:V):mZ K (kI k es):=λe m=>h e (Vn m)
end
structure Tk(g g':GR):Prop where
 asked:g'.asked=g.asked
 low:g'.low=g.low
 cY:g'.cY=g.cY
 ls:g'.ls=g.ls
 aG:g'.aG=g.aG
 lv:Y7 g g'
theorem Zk{a s l r s' l' k:Nat}(h:s'+l'<=s+l+k):a+(s'+(l'+r))<=a+(s+(l+r))+k:=by omega
theorem alz(h:a3+p<=a2+q+2*m)(w0:a2<=a+1)(w1:a5<=a3+2):a5+p<=a+q+2*(m+3):=by omega
theorem Tk.wt(e:Tk g g')(h:g'.bO.length+g'.f7.length<=g.bO.length+g.f7.length+k):Mine.F.wt g'<=Mine.F.wt g+k:=by
 unfold Mine.F.wt;rw [e.asked,e.ls];exact Zk h
theorem Nq(g:GR):g.bO.length<=wt g:=aH (bZ _ _) (fC _ _)
theorem Zl(g:GR):g.f7.length<=wt g:=aH (bZ _ _) (aH (fC _ _) (fC _ _))
section
variable{S S3:IS}
theorem IP.keys(h:IP c K1 m f ⟨g2,S.tb,wN⟩ af S3)(i:Cw c K0 S)(x0:GX c.a S.g S.σ g2 wN)(gs:GS c.a g5 S3.tb σ5)(x1:GX c.a S3.g S3.σ g5 σ5)(e0:Tk S.g g2)(e1:Tk S3.g g5)(sn:mZ K' g5.bO)(lt:mZ K' g5.f7)(w0:Mine.F.wt g2<=Mine.F.wt S.g+1)(w1:Mine.F.wt g5<=Mine.F.wt S3.g+2)(hb:g5.cO=min S.g.cO (bE af)):IP c K' (m+3) f S af ⟨g5,S3.tb,σ5⟩:=by
 have j:=h.ok.gi;have es:=e0.aG;have lv:=e0.lv.trans (h.lv.trans e1.lv);refine⟨⟨gs,⟨e1.asked▸j.ask,e1.cY▸j.rk,e1.low▸j.lw,sn,lt,lv.aj▸i.gi.sd,lv.ao▸i.gi.lv,j.wl⟩,h.ok.w,hb▸aH (AH _ _) i.bt⟩,x0.trans (h.gx.trans x1),h.pre,lv,hb,e1.ls.trans (h.ls.trans (au (lS S3.tb af) e0.ls)),h.QB,h.qx,?_,?_,λF p=>(h.val F p).trans (au (af,·) e1.aG.symm)⟩
 ·exact aH (e1.aG.symm▸es▸h.size) (cG (bZ m 3) _)
 ·exact alz (e1.aG.symm▸es▸h.wt) w0 w1
end
theorem Vp(h:At s l (.dict es))(hk:gn i es=true)(e:bJ i es=none)(k:Q false s):WP (aM T .eU i (.ref l)) s Q:=nj h hk (e.symm▸k)
theorem Nr(a b:Nat):a+1+b<=a+b+2:=rP (cK (qC ..))
theorem ahN(h:a'<=a+1)(k:b'<=b+1):a'+b'<=a+b+2:=aH (pZ h k) (cK (Nat.add_add_add_comm a 1 b 1))
theorem alA(h:a+A+2*x<=L)(w:a2<=a+1)(e:x'+1<=x):a2+A+2*x'<=L:=by omega
section
variable{c:I0}{d n aa p:Nat}{s:ai}{K K' K1:mD}{S S3:IS}{Q:V->St->Prop}{g2 g4:GR}{wN σ4:St}{af:bR}{m:Nat}{f:List V->bR×Nat}
theorem IA(ip:IP c K1 m f ⟨g2,S.tb,wN⟩ af S3)(i:Cw c K S)(x0:GX c.a S.g S.σ g2 wN)(e0:Tk S.g g2)(w0:wt g2<=wt S.g+1)(h4:GS c.a g4 S3.tb σ4)(xx:GX c.a S3.g S3.σ g4 σ4)(e4:Tk S3.g g4)(b4:g4.cO=bE af)(s4:mZ K' g4.bO)(l4:mZ K' g4.f7)(w4:wt g4<=wt S3.g+2)
  (k:∀S',IP c K' (m+3) f S af S'->Q .none S'.σ):iJ TT (aS TT FT d) (mL.body.drop 10) [some (G c.a),x1,x2,x3,x4,some (vN S.g.cO),x6] (dY Q) σ4:=by
 refine o_attr h4.ns rfl (H9 (λlt=>?_) λle=>?_)
 ·have h5:=h4.nsSet (g':=g4.oZ S.g.cO) (n:=qw) rfl rfl rfl rfl
  exact cV h4.ns (gm _ _) (k ⟨g4.oZ S.g.cO,S3.tb,_⟩ (ip.keys i x0 h5.1 (xx.trans h5.2) e0 ⟨e4.1,e4.2,e4.3,e4.4,e4.5,⟨e4.6.1,e4.6.2,e4.6.3⟩⟩ s4 l4 w0 w4 (nW (fT (b4▸lt))).symm))
 ·exact k ⟨g4,S3.tb,σ4⟩ (ip.keys i x0 h4 xx e0 e4 s4 l4 w0 w4 (b4.trans (AF (b4▸le)).symm))
noncomputable def ahO(K:mD)(X p:Nat):mD:=λx y=>K x y\/x=X/\y=p
theorem Zm(H:jZ c n)(hd:6*n+18<=d)(ok:Cw c K S)(hs:SK S.tb c.md s)(hp:bU c.md p)(hr:jt aa)(dp:S.g.dU+n=40)(bn:gY 15 S.g S.tb)(fr:∀x y,Bt c.md p (U S.tb s) x y->¬K x y)
  (k:∀af S',IP c (KC c p (U S.tb s) K) 15 (kG c n s p aa S) S af S'->Q .none S'.σ):WP (aS TT FT d 570 [G c.a,vN (U S.tb s),vN p,vN aa]) S.σ Q:=by
 have h:=ok.gs;have w:=ok.w;have i:=ok.gi;have IB:Bt c.md p (U S.tb s) (U S.tb s) p:=⟨.inl rfl,.inl rfl⟩;obtain⟨e,he⟩:=hp.2;obtain⟨cX,yes,no,cs,nos⟩:=w.s.high p e hp.1 he;have he:aK c.md p=some (16,[cX,[6],yes,no]):=he.trans (au some cs.eq);have er:S.tb[p]?=some (.aC (vN 16::vN (U S.tb cX)::vN 6::vN (U S.tb yes)::vN (U S.tb no)::[.aC [],.int 0])):=w.m.row p _ he;have lim:wt S.g+100<=cu:=bn.wtl;have hkk:∀x y,KC c p (U S.tb s) (ahO K (U S.tb s) p) x y->KC c p (U S.tb s) K x y:=λx y q=>q.elim (λq=>Or.elim q .inl λz=>.inr (z.1.symm▸z.2.symm▸IB)) .inr;have h1:=h.mW (g':=S.g.zZ (cS (ju (U S.tb s) p aa S.g.aj) (.int (-1)) S.g.bO)) 16 _ (by decide) rfl rfl rfl
 have h2:=h1.1.nsSet (g':=(S.g.zZ (cS (ju (U S.tb s) p aa S.g.aj) (.int (-1)) S.g.bO)).oZ 1024) (n:=qw) (x:=vN 1024) rfl rfl rfl rfl;have e0:Tk S.g ((S.g.zZ (cS (ju (U S.tb s) p aa S.g.aj) (.int (-1)) S.g.bO)).oZ 1024):=⟨rfl,rfl,rfl,rfl,rfl,⟨rfl,rfl,rfl⟩⟩;have w0:=e0.wt (k:=1) (aH (dQ (k9 (ju (U S.tb s) p aa S.g.aj) (.int (-1)) S.g.bO) S.g.f7.length) (cK (qC ..)));have bd:gY 12 ((S.g.zZ (cS (ju (U S.tb s) p aa S.g.aj) (.int (-1)) S.g.bO)).oZ 1024) S.tb:=⟨(bn.qV (by decide)).1,alA bn.2 w0 (by decide)⟩
 refine aA (dm hd rfl) (f:=mL) rfl rfl (o_attr h.ns rfl (o_attr h.ns rfl (o6 (n:=0) (λz=>absurd rfl z) λ_=>o_attr h.ns rfl ?_)));refine Vp (i:=ju (U S.tb s) p aa S.g.aj) (h.u9 16 _ rfl) (i.sn.gn ..) (i.sn.no (fr _ _ IB) ..) (o_attr h.ns rfl (Vp (i:=ju (U S.tb s) p aa S.g.aj) (h.u9 17 _ rfl) (i.lt.gn ..) (i.lt.no (fr _ _ IB) ..) ?_));refine o_attr h.ns rfl (fM (i:=ju (U S.tb s) p aa S.g.aj) (h.u9 16 _ rfl) (i.sn.gn ..) (eB (di (Nq S.g) (xJ (by decide))) lim) (o_attr h1.1.ns rfl (o_attr h1.1.ns rfl (cV h1.1.ns (gm _ _) ?_))))
 refine o_attr h2.1.ns rfl (o_attr h2.1.ns rfl (o_attr h2.1.st.h rfl (o_attr h2.1.eY.ns rfl (dP h2.1.eY.fN er (aI rfl (aZ h2.1.st.r rfl rfl (bT (n:=708) h2.1.st.r3 rfl rfl ?_)))))));refine Zh (K:=ahO K (U S.tb s) p) (S:=⟨_,S.tb,_⟩) H (dn hd rfl) ⟨⟨h2.1,⟨i.ask,i.rk,i.lw,i.sn.put (λ_ _=>.inl) (.inr ⟨rfl,rfl⟩) _,i.lt.mono λ_ _=>.inl,i.sd,i.lv,i.wl⟩,w,aW 1024⟩,hs,he,nos,Lx w (.inr hp) he,(uY cX cs.cX).2,cs.yes.2,hr,dp,bd,λy iy x hx q=>q.elim (fr x y ⟨hx,.inr iy⟩) λz=>absurd (z.2▸iy.2.1) (kY _)⟩ λaf S3 ip=>?_;have eb:S3.g.cO=bE af:=ip.cO.trans (AF (tR af));have h3:=ip.ok.gs;have l3:wt S3.g+100<=cu:=(gY.step (x:=12) (x':=0) (S:=⟨_,S.tb,_⟩) bd ip (aW 12)).wtl;have sn3:=λz=>ip.ok.gi.sn.put (z:=z) (x:=U S.tb s) (y:=p) (r:=aa) (sd:=S.g.aj) hkk (.inr IB);have lt3:=ip.ok.gi.lt.mono hkk;have h4:=h3.mW (g':=S3.g.zZ (cS (ju (U S.tb s) p aa S.g.aj) (vN S3.g.cO) S3.g.bO)) 16 _ (by decide) rfl rfl rfl
 have l4:=k9 (ju (U S.tb s) p aa S.g.aj) (vN S3.g.cO) S3.g.bO;refine o_attr h3.ns rfl (o_attr h3.ns rfl (fM (i:=ju (U S.tb s) p aa S.g.aj) (h3.u9 16 _ rfl) (ip.ok.gi.sn.gn ..) (eB (di (Nq S3.g) (xJ (by decide))) l3) (o_attr h4.1.ns rfl (MQ (λhc=>?_) λhc=>?_))))
 ·exact IA ip ok (h1.2.trans h2.2) e0 w0 h4.1 h4.2 ⟨rfl,rfl,rfl,rfl,rfl,⟨rfl,rfl,rfl⟩⟩ eb (sn3 _) lt3 (Tk.wt (g:=S3.g) ⟨rfl,rfl,rfl,rfl,rfl,⟨rfl,rfl,rfl⟩⟩ (aH (dQ l4 _) (Nr _ _))) λS'=>k af S'
 ·have h5:=h4.1.mW (g':=S3.g.zZ (kI (ju (U S.tb s) p aa S.g.aj) (cS (ju (U S.tb s) p aa S.g.aj) (vN S3.g.cO) S3.g.bO))) 16 _ (by decide) rfl rfl rfl
  have h6:=h5.1.mW (g':=(S3.g.zZ (kI (ju (U S.tb s) p aa S.g.aj) (cS (ju (U S.tb s) p aa S.g.aj) (vN S3.g.cO) S3.g.bO))).ahf (cS (ju (U S.tb s) p aa S.g.aj) (.aC [vN S3.g.ao,vN S3.g.cO]) S3.g.f7)) 17 _ (by decide) rfl rfl rfl
  refine o_attr h4.1.ns rfl (adR (i:=ju (U S.tb s) p aa S.g.aj) (h4.1.u9 16 _ rfl) ((sn3 _).gn ..) (mX _ _ _) (o_attr h5.1.ns rfl (o_attr h5.1.ns rfl (o_attr h5.1.ns rfl (fM (i:=ju (U S.tb s) p aa S.g.aj) (h5.1.u9 17 _ rfl) (ip.ok.gi.lt.gn ..) (eB (di (Zl S3.g) (xJ (by decide))) l3) ?_)))))
  exact IA ip ok (h1.2.trans h2.2) e0 w0 h6.1 (h4.2.trans (h5.2.trans h6.2)) ⟨rfl,rfl,rfl,rfl,rfl,⟨rfl,rfl,rfl⟩⟩ eb ((sn3 _).Qk _) (ip.ok.gi.lt.put hkk (.inr IB) _) (Tk.wt (g:=S3.g) ⟨rfl,rfl,rfl,rfl,rfl,⟨rfl,rfl,rfl⟩⟩ (ahN (aH (ye _ _) l4) (k9 _ _ _))) λS'=>k af S'
end
noncomputable def adS(c:Cx)(rec:Cf)(s t:ai)(aa aj ao st:Nat):bR×Nat:=if qu (cI c.v) t=true then([],st)else if s=[13]then([(s,aa,aj)],st)else Cg c rec s t aa aj ao st
theorem Vq(l:List (Nat×Nat))(x:Nat×Nat):(o5 l x).length<=l.length+1:=(c6 (x∈l)).elim (λh=>aH (cK (au List.length (az h:o5 l x=l))) (gD _)) λh=>cK ((au List.length (ay h:o5 l x=l++[x])).trans (gf l x))
theorem Vr(b:Bool){l:List (Nat×Nat)}:l.length<=(f b).length+1->(gX f b l false).length+(gX f b l true).length<=(f false).length+(f true).length+1:=b.rec (λh=>aH (dQ h _) (cK (qC ..))) λh=>cG h _
theorem jt.le(h:jt r):r<=1024:=fT (xK h.1 (by decide))
theorem aaS(g:GR):(g.ls false).length+(g.ls true).length<=wt g:=aH (fC _ _) (aH (fC _ _) (fC _ _))
theorem Vs:∀x∈gA,x=(14,1)\/x=(15,2)\/x=(16,4):=by decide
theorem Vt(h:a+100<=cu):a<cu:=eB (xJ (by decide)) h
section
variable{c:I0}{S:IS}
theorem IP.put(ok:Cw c K S)(pu:eT S.tb cL)(gd:bW cL)(gs:GS c.a g' cL dM)(gx:GX c.a S.g S.σ g' dM)(sm:Ac S.g g')(hb:g'.cO=min S.g.cO aa)(hr:aa<=1024)(r1:RkS g'.cY)(l1:LwS g'.low)(el:g'.ls=gX S.g.ls (sb S.g) (o5 (S.g.ls (sb S.g)) (U cL (cH s),aa)))(kd:Kd cL (cH s))(hl:cL.length<=S.tb.length+1):
  IP c K 1 (λ_=>([(s,aa,S.g.aj)],S.g.aG)) S [(s,aa,S.g.aj)] ⟨g',cL,dM⟩:=by
 have i:=ok.gi;refine⟨⟨gs,⟨sm.asked▸i.ask.pre pu,r1,l1,sm.bO▸i.sn,sm.f7▸i.lt,sm.aj▸i.sd,sm.ao▸i.lv,i.wl⟩,ok.w.pre pu gd,hb▸aH (AH _ _) ok.bt⟩,gx,pu,⟨sm.aj,sm.ao,sm.dU⟩,hb.trans (au (min S.g.cO) (nW hr).symm),el,λx m=>dG m▸kd,λx m=>dG m▸i.sd,?_,?_,λF _=>au ([(s,aa,S.g.aj)],·) sm.aG.symm⟩
 ·exact sm.aG.symm▸aH (dQ hl _) (cK (qC ..))
 ·have w:Mine.F.wt g'<=Mine.F.wt S.g+1:=by
   unfold Mine.F.wt;rw [sm.asked,sm.bO,sm.f7,el];exact cG (cG (cG (Vr _ (Vq ..)) _) _) _
  exact sm.aG.symm▸aH (dQ w _) (Nr _ _)
theorem lsb(bn:gY x S.g S.tb):(S.g.ls (sb S.g)).length<cu:=Vt (aH (dQ (aH (Bool.rec (motive:=λb=>(S.g.ls b).length<=(S.g.ls false).length+(S.g.ls true).length) (bZ _ _) (fC _ _) (sb S.g)) (aaS S.g)) _) bn.wtl)
structure CD(c:I0)(K:mD)(n:Nat)(s t:ai)(aa:Nat)(S:IS):Prop where
 ok:Cw c K S
 sk:SK S.tb c.md s
 tk:TK S.tb c.md t
 rk:jt aa
 dp:S.g.dU+n=40
 fr:lT c.md K s t (U S.tb s)
 bn:gY 40 S.g S.tb
 nm:cB c.v c.md HT t=true
noncomputable def Vu(c:I0)(n:Nat)(s t:ai)(aa:Nat)(S:IS):List V->bR×Nat:=λF=>adS ⟨c.v,c.md,F⟩ (eG ⟨c.v,c.md,F⟩ n) s t aa S.g.aj S.g.ao S.g.aG
theorem u13(w:Wt c.v c.md S.tb)(hs:SK S.tb c.md s):U S.tb s=13↔s=[13]:=⟨λe=>nv w.g s [13] hs.kd (.aR (lQ w (.inl (by decide))).it.dc) e,λe=>e▸rfl⟩
theorem Nt(hd:8<=d)(p0:CD c K n s t aa S)(hw:¬qu (cI c.v) t=true)(MV:s=[13])(k:∀af S',IP c K 40 (Vu c n s t aa S) S af S'->Q .none S'.σ):WP (aS TT FT d 549 [G c.a,vN (U S.tb t),vN aa]) S.σ Q:=
 have i:=p0.ok.gi;have w:=p0.ok.w
 PC hd p0.ok.gs w p0.tk.tg p0.tk.kd p0.rk i.lv i.rk i.lw p0.bn.tlt (lsb p0.bn) λg' dM h1 x1 sm hb r1 l1 el=>k _ ⟨g',S.tb,dM⟩ ((IP.put (s:=[13]) p0.ok (.refl _) w.g h1 x1 sm hb p0.rk.le r1 l1 (Lo.symm▸el) (Lo.symm▸.aR (lQ w (.inl (by decide))).it.dc) (gD _)).conv (by decide) λF _ _=>(ay hw).trans ((az MV).trans (MV▸sm.aG.symm▸rfl)))
noncomputable def ahP:List Mine.S:=[.ite (.aM .eU (.aE (.var 4) (.br (.int 0))) (.attr (.var 0) uc)) [.ite (.aM .eU (.aE (.var 4) (.br (.int 0))) (.br (.aC [.int 8,.int 9,.int 12,.int 16,.int 17]))) [.gM (.call (.br (.fn 570)) [.var 0,.var 1,.var 2,.var 3])] [.gM (.bA (.aE (.attr (.var 0) uc) (.aE (.var 4) (.br (.int 0)))) NS [.var 0,.var 1,.var 2,.var 3])]] []]
theorem ahQ(w:Wt v mk tb)(h:p∈B0\/bU mk p)(he:aK mk p=some e)(n:e.1≠16):p∈B0:=h.resolve_right λq=>(w.s.high p e q.1 he).elim λ_ z=>z.elim λ_ z=>z.elim λ_ z=>n (au Prod.fst z.1.eq)
theorem ahR:∀v,∀p∈B0,(decide (p<37)&&(aK (xF v) p).all λe=>! decide (e.1=16))=true:=by decide+kernel
theorem Zn(w:Wt v mk tb)(h:p∈B0\/bU mk p)(he:aK mk p=some e)(n:e.1=16):bU mk p:=h.resolve_left λq=>have k:=ah (ahR v p q)
 eH ((au not (dj n)).symm.trans (lO (f:=λe:Nat×List ai=>! decide (e.1=16)) k.2 ((w.s.low p (bx k.1)).symm.trans he)))
theorem Vv(H:jZ c n)(hd:6*n+18<=d)(p0:CD c K n s [p] aa S)(he:aK c.md p=some e)(k:∀af S',IP c (KV c.md [p] (U S.tb s) K) 15 (kG c n s p aa S) S af S'->Q .none S'.σ):
  iJ TT (aS TT FT d) ahP [some (G c.a),some (vN (U S.tb s)),some (vN p),some (vN aa),some (qj S.tb e)] (dY Q) S.σ:=by
 have h:=p0.ok.gs;have w:=p0.ok.w;have hpt:=p0.tk.tg.2 p cC;have r0:p∈B0->LC c K n s p aa S:=λb=>⟨p0.ok,p0.sk,b,p0.rk,p0.dp,p0.bn.qV (by decide)⟩
 have sc:=Vs _ (w.s.uZ.ok p e he).1;obtain⟨ce,l⟩:=e;have b0:=ahQ w hpt he;refine aI rfl (o_attr h.ns rfl ?_);refine sc.elim (λq=>?_) λsc=>sc.elim (λq=>?_) λq=>?_
 ·obtain rfl:ce=14:=au Prod.fst q
  obtain⟨k1,rfl⟩:=List.length_eq_one_iff.mp (au Prod.snd q);exact nj h.st.r rfl (aI rfl (qs rfl (o_attr h.ns rfl (aI rfl (aZ h.st.r rfl rfl (bT h.st.r1 rfl rfl (Zi H hd (r0 (b0 (show(14:Nat)≠16 by decide))) he λaf S' ip=>k af S' ((ip.gT λ_ _=>.inl).conv (by decide) λ_ _ e=>e))))))))
 ·obtain rfl:ce=15:=au Prod.fst q
  obtain⟨k1,k2,rfl⟩:=ahK _ (au Prod.snd q);exact nj h.st.r rfl (aI rfl (qs rfl (o_attr h.ns rfl (aI rfl (aZ h.st.r rfl rfl (bT h.st.r2 rfl rfl (Vm H (aH (cG (by decide) _) hd) (r0 (b0 (show(15:Nat)≠16 by decide))) he λaf S' ip=>k af S' ((ip.gT λ_ _=>.inl).conv (by decide) λ_ _ e=>e))))))))
 ·obtain rfl:ce=16:=au Prod.fst q
  have hc:=Zn w hpt he rfl;exact nj h.st.r rfl (aI rfl (qs rfl (Zm H hd p0.ok p0.sk hc p0.rk p0.dp (p0.bn.qV (by decide)) (p0.fr.aR p rfl hc) λaf S' ip=>k af S' (ip.gT λx y q=>q.imp id λz=>.inl ⟨p,rfl,hc,z⟩))))
end
theorem IC(h:¬qu (cI c.v) t=true)(h2:s≠[13]):adS c rec s t aa aj ao st=Cg c rec s t aa aj ao st:=(ay h).trans (ay h2)
section
variable{S:IS}
theorem Zo(H:jZ c n)(hd:6*n+19<=d)(p0:CD c K n s [p] aa S)(k:∀af S',IP c (KV c.md [p] (U S.tb s) K) 40 (Vu c n s [p] aa S) S af S'->Q .none S'.σ):WP (aS TT FT d 563 [G c.a,vN (U S.tb s),vN p,vN aa]) S.σ Q:=by
 have h:=p0.ok.gs;have w:=p0.ok.w;by_cases hw:p∈cI c.v
 ·exact aA (dm hd rfl) rfl rfl (o_attr h.ns rfl (o_attr h.st.h rfl (o_attr h.eY.ns rfl (dP h.eY.fN (w.b.get (u5 hw).1) (aI rfl (fz rfl (aI rfl (Cv (EO hd rfl) h (k [] S (((IP.refl p0.ok).conv (fD _) λF _ _=>az (dj hw)).gT λ_ _=>.inl))))))))))
 ·have ow:¬qu (cI c.v) [p]=true:=λq=>hw (bx q)
  obtain⟨e,he⟩:=HK p0.nm hw;have sc:=Vs _ (w.s.uZ.ok p e he).1;have ne:e.1≠10/\e.1≠6:=sc.elim (λq=>(au Prod.fst q:e.1=14)▸(by decide)) λq=>q.elim (λq=>(au Prod.fst q:e.1=15)▸(by decide)) λq=>(au Prod.fst q:e.1=16)▸(by decide)
  refine aA (dm hd rfl) rfl rfl (o_attr h.ns rfl (o_attr h.st.h rfl (o_attr h.eY.ns rfl (dP h.eY.fN (w.m.row p e he) (aI rfl (bG (λq=>absurd q ne.1) λ_=>bG (λMV=>?_) λMV=>aI rfl (bG (λq=>absurd q ne.2) λ_=>?_)))))))
  ·exact Nt (EO hd rfl) p0 ow ((u13 w p0.sk).mp MV) λaf S' ip=>k af S' (ip.gT λ_ _=>.inl)
  ·exact Vv H (dn hd rfl) p0 he λaf S' ip=>k af S' (ip.conv (by decide) λF _ e=>(IC ow λq=>MV ((u13 w p0.sk).mpr q)).trans e)
theorem PY(H:jZ c n)(hd:6*n+19<=d)(p0:CD c K n s (x::y::z) aa S)(k:∀af S',IP c (KV c.md (x::y::z) (U S.tb s) K) 40 (Vu c n s (x::y::z) aa S) S af S'->Q .none S'.σ):WP (aS TT FT d 563 [G c.a,vN (U S.tb s),vN (U S.tb (x::y::z)),vN aa]) S.σ Q:=by
 have h:=p0.ok.gs;have w:=p0.ok.w;have er:=(w.g.G7 (p0.tk.kd.has (fC 2 _))).1;refine aA (dm hd rfl) rfl rfl (o_attr h.ns rfl (o_attr h.st.h rfl (o_attr h.eY.ns rfl (dP h.eY.fN er (aI rfl (bz (by decide) (bG (λMV=>?_) λMV=>aI rfl (fz rfl ?_))))))))
 ·exact Nt (EO hd rfl) p0 eH ((u13 w p0.sk).mp MV) λaf S' ip=>k af S' (ip.gT λ_ _=>.inl)
 ·exact PV H (dn hd rfl) p0.ok p0.sk p0.tk p0.rk p0.dp p0.fr p0.bn (λq=>nomatch q) p0.nm λaf S' ip=>k af S' (ip.conv (aW _) λF _ e=>(IC (show¬qu (cI c.v) (x::y::z)=true from eH) λq=>MV ((u13 w p0.sk).mpr q)).trans e)
theorem PZ(H:jZ c n)(hd:6*n+19<=d)(p0:CD c K n s t aa S)(k:∀af S',IP c (KV c.md t (U S.tb s) K) 40 (Vu c n s t aa S) S af S'->Q .none S'.σ):WP (aS TT FT d 563 [G c.a,vN (U S.tb s),vN (U S.tb t),vN aa]) S.σ Q:=Vb (P:=λt=>CD c K n s t aa S->(∀af S',IP c (KV c.md t (U S.tb s) K) 40 (Vu c n s t aa S) S af S'->Q .none S'.σ)->WP (aS TT FT d 563 [G c.a,vN (U S.tb s),vN (U S.tb t),vN aa]) S.σ Q)
  (λp0 _=>ff p0.nm) (λ_=>Zo H hd) (λ_ _ _=>PY H hd) t p0 k
end
noncomputable def ahS(c:Cx)(n:Nat):Cf:=Nat.casesOn (motive:=λ_=>Cf) n (λ_ _ _ _ _ st=>([],st)) (eG c)
theorem P6(c:Cx)(n:Nat):eG c n=tF c n (ahS c n):=n.casesOn rfl λ_=>rfl
theorem Vw(h0:¬c.names t=false)(h1:t≠[33])(h2:¬12<ao)(h3:n≠0)(h4:¬20000<st+1):tF c n rec s t aa aj ao st=adS c rec s t aa aj ao (st+1):=(ay h0).trans ((ay h1).trans ((c6 (qu (cI c.v) t=true)).elim (λo=>(az (.inr (.inr (.inr o)))).trans (az o).symm) λo=>(ay λq=>q.elim h2 λq=>q.elim h3 λq=>q.elim h4 o).trans (ay o).symm))
theorem Vx(h0:¬c.names t=false)(h1:t≠[33])(h:12<ao\/n=0\/20000<st+1):tF c n rec s t aa aj ao st=([],st+1):=(ay h0).trans ((ay h1).trans (az (h.imp id λq=>q.imp id .inl)))
theorem ahT(h:t'+a*c'<=t+q+m)(e:c'=c+1)(k:m<=a+m'):t'+a*c<=t+q+m':=by
 rw [e,Nat.mul_add]at h;omega
theorem ahU(h:t+A+y<=L+a*c)(e:c'=c+1)(k:t'<=t+z)(j:z+x<=a+y):t'+A+x<=L+a*c':=by
 rw [e,Nat.mul_add];omega
section
variable{c:I0}{n:Nat}
theorem ID(apS:n<=40)(H:∀m,n=m+1->jZ c m):jZ c n:=by
 intro d s t aa K S Q hd p k;have h:=p.ok.gs;have w:=p.ok.w;have i:=p.ok.gi;have cm:=HL S.g.aG;have hv:∀F,hf c n s t aa S F=tF ⟨c.v,c.md,F⟩ n (ahS ⟨c.v,c.md,F⟩ n) s t aa S.g.aj S.g.ao S.g.aG:=λF=>jT (jT (jT (jT (jT (jT (P6 ⟨c.v,c.md,F⟩ n) s) t) aa) S.g.aj) S.g.ao) S.g.aG;have kx:∀af S',IP c K 2 (hf c n s t aa S) S af S'->Q .none S'.σ:=λaf S' ip=>k af S' (ip.gT λ_ _=>.inl);refine aA (dm hd rfl) (f:=mK) rfl rfl (qt (xy _) (H7 (EO hd rfl) h w i.ask i.wl p.tk.tg p.tk.kd (Vt (aH (dQ (Im S.g) _) p.bn.wtl)) λes gU q1 q2 q3 q4=>aL ?_));have ipA:=IP.ask 1 p.ok (rP q1) q2 q3 q4;cases Qy:cB c.v c.md HT t with
 |false=>exact kx [] _ (ipA.conv (by decide) λF _ _=>(hv F).trans (az Qy))
 |true=>
 have n1:∀F,¬Cx.names ⟨c.v,c.md,F⟩ t=false:=λF x=>eH (x.symm.trans Qy);refine o_attr q3.ns rfl (bG (b:=33) (λjy=>?_) λjy=>?_)
 ·have e33:t=[33]:=nv w.g t [33] p.tk.kd (k33 w).kd jy
  have sf:=λq m=>lQ w (p.sk.cD q m);refine Na (EO hd rfl) q3 w.g p.sk.kd sf (di p.sk.len (by decide)) p.rk i.lv i.rk i.lw p.bn.tlt (lsb p.bn) λg' dM h1 x1 sm hb r1 l1 el=>?_
  have ip:=IP.put (s:=s) ipA.ok (bQ S.tb (cH s)) (w.g.aO _) h1 x1 sm hb p.rk.le r1 l1 el (Ab λq m=>(List.mem_map.mp m).elim λz y=>y.2▸(sf z y.1).wid) (cQ ..);exact kx _ _ ((ipA.and ip (f':=hf c n s t aa S) λF _ _ e=>(hv F).trans ((ay (n1 F)).trans ((az e33).trans e))).conv (by decide) λ_ _ e=>e)
 have e33:t≠[33]:=λe=>jy (e▸rfl);have h2:=q3.nsSet (g':=(S.g.dW es).u7 (S.g.aG+1)) (n:=kO) (x:=vN (S.g.aG+1)) rfl rfl rfl rfl;have x2:=q4.trans h2.2;have wa:wt (S.g.dW es)<=wt S.g+1:=U8 q1;refine o_attr q3.ns rfl (ES (y:=1) rfl (cV q3.ns (gm _ _) ?_));have cut:(12<S.g.ao\/n=0\/20000<S.g.aG+1)->iJ TT (aS TT FT (d-1)) [.uh (.var 0) HW .add (.br (.int 1)),.um] [some (G c.a),some (vN (U S.tb s)),some (vN (U S.tb t)),some (vN aa)] (dY Q) (gU.set c.a.γ (.ns (pt kO (vN (S.g.aG+1)) (E6 c.a (S.g.dW es))))):=λhc=>by
  have h4:=h2.1.nsSet (g':=((S.g.dW es).u7 (S.g.aG+1)).ahe (S.g.mV+1)) (n:=HW) (x:=vN (S.g.mV+1)) rfl rfl rfl rfl;exact o_attr h2.1.ns rfl (ES (y:=1) rfl (cV h2.1.ns (gm _ _) (kx [] ⟨_,S.tb,_⟩ ⟨⟨h4.1,⟨q2,i.rk,i.lw,i.sn,i.lt,i.sd,i.lv,i.wl⟩,w,p.ok.bt⟩,x2.trans h4.2,.refl _,⟨rfl,rfl,rfl⟩,(nW p.ok.bt).symm,rfl,λ_=>bg,λ_=>bg,aH (cG (kW 60 cm) _) (bZ _ _),aH (pZ wa (kW 150 cm)) (aH (Nr _ _) (cG (by decide) _)),λF _=>(hv F).trans (Vx (n1 F) e33 hc)⟩)))
 refine o_attr h2.1.ns rfl (qv (b:=12) (λhc=>cut (.inl hc)) λTQ=>o_attr h2.1.ns rfl (MP (b:=40) (λhc=>cut (.inr (.inl (Nat.le_zero.mp (Nat.le_of_add_le_add_left (a:=40) (p.dp▸dQ hc n)))))) λYM=>o_attr h2.1.ns rfl (qv (a:=S.g.aG+1) (b:=20000) (λhc=>cut (.inr (.inr hc))) λhc3=>?_)));have hc:=MT (Nat.not_lt.mpr hc3);obtain⟨m,rfl⟩:=Wn (n:=n) λz=>absurd (z▸p.dp:S.g.dU+0=40) (t8 YM);have rest:∀σ3,GS c.a ((S.g.dW es).u7 (S.g.aG+1)) S.tb σ3->GX c.a S.g S.σ ((S.g.dW es).u7 (S.g.aG+1)) σ3->iJ TT (aS TT FT (d-1)) (mK.body.drop 5) [some (G c.a),some (vN (U S.tb s)),some (vN (U S.tb t)),some (vN aa)] (dY Q) σ3:=λσ3 h3 x3=>by
  have h4:=h3.nsSet (g':=((S.g.dW es).u7 (S.g.aG+1)).Ur (S.g.dU+1)) (n:=tO) (x:=vN (S.g.dU+1)) rfl rfl rfl rfl;refine o_attr h3.ns rfl (ES (y:=1) rfl (cV h3.ns (gm _ _) (o_attr h4.1.ns rfl (bT (n:=769) h4.1.st.h rfl rfl (Ah (EO hd rfl) (o_attr h4.1.ns rfl (bT (n:=769) h4.1.st.h rfl rfl (Ah (EO hd rfl) ?_))))))));refine PZ (S:=⟨_,S.tb,_⟩) (H m rfl) (dn (k:=6*m) (b:=20) hd rfl) ⟨⟨h4.1,⟨q2,i.rk,i.lw,i.sn,i.lt,i.sd,i.lv,i.wl⟩,w,p.ok.bt⟩,p.sk,p.tk,p.rk,(nH ..).trans ((au (S.g.dU+·) (vP 1 m)).trans p.dp),p.fr,⟨ahU p.bn.1 hc (bZ _ 0) (by decide),ahU p.bn.2 hc wa (by decide)⟩,Qy⟩ λaf S5 ip=>?_
  have h5:=ip.ok.gs.nsSet (g':=S5.g.Ur S.g.dU) (n:=tO) (x:=vN S.g.dU) rfl rfl rfl rfl;have j:=ip.ok.gi;exact o_attr ip.ok.gs.ns rfl (U9 (y:=1) ip.lv.dU.symm (cV ip.ok.gs.ns (gm _ _) (k af ⟨S5.g.Ur S.g.dU,S5.tb,_⟩ ⟨⟨h5.1,⟨j.ask,j.rk,j.lw,j.sn,j.lt,j.sd,j.lv,j.wl⟩,ip.ok.w,ip.ok.bt⟩,x3.trans (h4.2.trans (ip.gx.trans h5.2)),ip.pre,⟨ip.lv.1,ip.lv.2,rfl⟩,ip.cO,ip.ls,ip.QB,ip.qx,ahT ip.size hc (by decide),aH (ahT (m':=2) (aH ip.wt (dQ (dQ wa _) _)) hc (by decide)) (dQ (Nr _ _) 2),λF q=>(hv F).trans ((Vw (n1 F) e33 (Nat.not_lt.mpr TQ) (Bw m) (Nat.not_lt.mpr hc3)).trans (ip.val F q))⟩)))
 have h3:=h2.1.nsSet (g':=(S.g.dW es).u7 (S.g.aG+1)) (n:=YW) (x:=.int (-1)) rfl rfl rfl rfl;exact o_attr h2.1.ns rfl (bG (b:=0) (λ_=>o_attr h2.1.ns rfl (bG (b:=0) (λz=>absurd (z▸i.lv:1<=0) (by decide)) λ_=>cV h2.1.ns (gm _ _) (rest _ h3.1 (x2.trans h3.2)))) λ_=>rest _ h2.1 x2)
theorem adT(n:Nat):n<=40->jZ c n:=n.rec (λh=>ID h λm e=>nomatch e) λn ih h=>ID h λm e=>kZ e▸ih (l8 h)
end
abbrev LX:Nat->Prop:=λl=>l=1\/l=3\/l=4\/l=13
structure CE(nums:List Int):Prop where
 ne:nums≠[]
 len:nums.length<64
 pos:∀x∈nums,0<=x
theorem LD(hn:0<n)(k:Q (vN (x%n)) s):WP (d9 .mod (vN x) (vN n)) s Q:=.nV ((oR ..).trans (au (Option.map V.int) ((az (Int.ofNat_lt.mpr hn)).trans (au some ((Int.fmod_eq_emod_of_nonneg _ (AD n)).trans (Int.natCast_emod x n).symm))))) k
theorem adU(hn:0<n)(h2:n<2^20)(k:Q (vN (x/n)) s):WP (d9 .fdiv (vN x) (vN n)) s Q:=.nV ((oR ..).trans (au (Option.map V.int) ((az (dF (dj (Int.ofNat_lt.mpr hn)) (dj (Int.ofNat_lt.mpr h2)))).trans (au some (Int.fdiv_eq_ediv_of_nonneg _ (AD n)))))) k
noncomputable abbrev aaT:Nm:=NT
theorem IE(hd:1<=d)(h:At s 1 (.dict es))(hk:gn (.str Wj) es=true)(hl:es.length<cu)(ea:bJ (.str Wj) es=some (vN a))(en:bJ (.str aaT) (cS (.str Wj) (vN (a+1)) es)=some (.lst (nums.map V.int)))(hk2:gn (.str aaT) (cS (.str Wj) (vN (a+1)) es)=true)(ok:CE nums)(hn:0<n)
  (k:∀r,r<n->Q (vN r) (s.set 1 (.dict (cS (.str Wj) (vN (a+1)) es)))):WP (aS TT FT d 952 [.ref 1,vN n]) s Q:=by
 have h2:=h.dS (d:=.dict (cS (.str Wj) (vN (a+1)) es));have hlen:=List.length_pos_iff.mpr ok.ne;have hi:a%nums.length<nums.length:=Nat.mod_lt _ hlen;have e:=Int.toNat_of_nonneg (ok.pos _ (List.getElem_mem hi));have em:=(Fe ..).trans (au (Option.map V.int) ((qA hi).trans (au some e.symm)));have el:∀{Q:V->St->Prop}{s:St},Q (vN nums.length) s->WP (k7 TT (aS TT FT (d-1)) (.bi 0) [.lst (nums.map V.int)]) s Q:=λ{Q s}k=>jo (T:=TT) (f:=ZU 0) (au (λn:Nat=>some (vN n)) (cT ..)) k;exact aA hd rfl rfl (aZ h hk ea (fm rfl (fM h hk hl (aZ h2 hk2 en (el (LD hlen (lB em (el (adU hlen (xK ok.len (by decide)) (fm rfl (LD hn (k _ (Nat.mod_lt _ hn)))))))))))))
structure L0 where
 v:Bool
 nums:List Int
 st:Nat
structure LS(c:L0)(mk:aT)(tb:List V)(a:Nat)(s:St):Prop where
 wd:Wd c.v c.nums a c.st mk s
 eY:f9 s tb
 wt:Wt c.v mk tb
 ok:CE c.nums
section
variable{d:Nat}{c:L0}{mk:aT}{tb cL:List V}{a n:Nat}{s s':St}{Q:V->St->Prop}
theorem LS.nR(h:LS c mk tb a s)(hd:1<=d)(hn:0<n)(k:∀r s',r<n->aY LX s s'->LS c mk tb (a+1) s'->Q (vN r) s'):WP (aS TT FT d 952 [.ref 1,vN n]) s Q:=IE hd h.wd.w rfl (by decide:15<cu) rfl rfl rfl h.ok hn λr hr=>k r _ hr ((aY.refl s).set (.inl (.inl rfl)) _) ⟨⟨h.wd.w.dS,h.wd.zz.bF (by decide),h.wd.eN.bF (by decide),h.wd.Hs.bF (by decide),h.wd.mT.bF (by decide)⟩,h.eY.ext ((aY.refl s).set (.inl rfl) _) ⟨by decide,by decide,by decide⟩,h.wt,h.ok⟩
theorem LS.nx(h:LS c mk tb a s)(e:aY NX s s'):LS c mk tb a s':=⟨h.wd.nx e,h.eY.nx e,h.wt,h.ok⟩
theorem LS.tx(h:LS c mk tb a s)(e:aY TX s s')(t:f9 s' cL)(p:eT tb cL)(g:bW cL):LS c mk cL a s':=⟨h.wd.tx e,t,h.wt.pre p g,h.ok⟩
theorem aY.lx(e:aY NX s s'):aY LX s s':=e.uN λ_ x=>x.elim
theorem aY.tlx(e:aY TX s s'):aY LX s s':=e.uN λ_ x=>x.elim (λx=>.inr (.inl x)) λx=>.inr (.inr (.inl x))
theorem vg(l:List Nat):(fF l).length<=l.length:=jA _ _ (canon_sum l).lt.nodup λ_ h=>dZ h
abbrev Aj:List Nat:=[16,18,20,5,6,7,33,34,35,32,24,25,36]
theorem Vy:∀p∈Aj,p∈B0:=by decide
noncomputable abbrev IX:List V:=[.int 0,.int 2,.int 4,.int 6,.int 8,.int 9]
noncomputable abbrev ixJ(i:Nat):Nat:=[0,2,4,6,8,9].getD i 0
noncomputable abbrev ixP(i:Nat):Nat:=[16,18,20,5,6,7].getD i 0
theorem Zp:∀i<6,IX[i]?=some (vN (ixJ i))/\(bI Hr)[ixJ i]?=some (vN (ixP i))/\ixP i∈Aj:=by decide+kernel
theorem Zq:∀i<8,i≠5->(Ci.map aq)[i]?=some (aq (Ci.getD i []))/\(Ci.getD i []).length<=1/\∀p∈Ci.getD i [],p∈Aj:=by decide+kernel
theorem ahW:∀r<2,xU ((0:Nat):Int) (1+r)=(List.range (1+r)).map vN/\(List.range (1+r)).length<=2:=by decide+kernel
structure SmS where
 out:ai
 a:Nat
 σ:St
 x:Option V
 y:Option V
theorem ET(h:u.length+w.length<cu)(k:Q (aq (u++w)) s):WP (d9 .add (aq u) (aq w)) s Q:=S9 (di (cK (congr (au HAdd.hAdd (cT ..)) (cT ..))) h) (sX (au V.aC List.map_append.symm) k)
theorem Zr(hd:2<=d)(h:LS c mk tb a s)(k:∀l a' s',K6 l->Canon l->aY LX s s'->LS c mk tb a' s'->Q (aq l) s'):WP (aS TT FT d 984 [.ref 1]) s Q:=by
 refine aA (dl hd rfl) rfl rfl (h.nR (dk hd rfl) (by decide) λr s1 hr e1 h1=>fm rfl (tL (xK (CL hr 1) (by decide)) (.of (a:=(V.Fp 0 (1+r:Nat),xU ((0:Nat):Int) (1+r))) rfl ?_)))
 rw [(ahW r hr).1];refine bD vN (λb:SmS=>[some (.ref 1),some (aq b.out),b.x,b.y]) (λb=>b.σ) (λrr b=>(b.out.length+rr.length<=2/\∀p∈b.out,p∈Aj)/\aY LX s b.σ/\LS c mk tb b.a b.σ) ?_ (λx rr b K i kn _=>?_) (λb i=>?_) (List.range (1+r)) ⟨[],_,s1,none,none⟩ ⟨⟨aH (cK (p8 _)) (ahW r hr).2,λ_=>bg⟩,e1,h1⟩
 ·exactλ_=>bu
 ·refine i.2.2.nR (dk hd rfl) (by decide) λhow s2 Zs e2 h2=>?_
  have gV:∀{u a2 s3},u.length<=1->(∀p∈u,p∈Aj)->aY LX s s3->LS c mk tb a2 s3->WP (d9 .add (aq b.out) (aq u)) s3 λv s=>flQ (iJ TT (aS TT FT (d-1)) []) K (.next [some (.ref 1),some v,some (vN x),some (vN how)]) s:=λ{u a2 s3}hu ha e3 h3=>have l:=aH (dQ (aH (cK gH) (cG hu _)) _) (aH (cK (qC ..)) i.1.1)
   ET (di (aH (cK List.length_append.symm) (aH (bZ _ _) l)) (by decide)) (kn ⟨b.out++u,a2,s3,some (vN x),some (vN how)⟩ ⟨⟨l,λp q=>(tW q).elim (i.1.2 p) (ha p)⟩,e3,h3⟩)
  refine bG (λh5=>?_) λh5=>?_
  ·exact aZ h2.wd.w rfl rfl (h2.nR (dk hd rfl) (by decide) λj s3 hj e3 h3=>have p:=Zp j hj;aI (gy p.1) (lB p.2.1 (gV (u:=[ixP j]) (aW 1) (λq m=>dG m▸p.2.2) (i.2.1.trans (e2.trans e3)) h3)))
  ·have p:=Zq how Zs h5
   exact aZ h2.wd.w rfl rfl (lB p.1 (gV p.2.1 p.2.2 (i.2.1.trans e2) h2))
 ·exact zE i.2.2.wd (dk hd rfl) (.inl rfl) (di (gC b.out) (di i.1.1 (by decide))) λs2 e2=>k _ b.a s2 ⟨aH (vg _) i.1.1,λp hp=>Vy p (i.1.2 p (dZ hp))⟩ (canon_sum _) (i.2.1.trans e2.lx) (i.2.2.nx e2)
end
noncomputable def nC(q:Nat)(e:Nat×List ai):aT->aT:=List.rec [(q,e)] λx r ih=>if x.1=q then(x.1,e)::r else x::ih
section
variable{q p:Nat}{e:Nat×List ai}
theorem vh{P:aT->aT->Prop}(h0:P [] [(q,e)])(h1:∀x r,P ((q,x)::r) ((q,e)::r))(h2:∀x r r',x.1≠q->P r r'->P (x::r) (x::r'))(l:aT):P l (nC q e l):=l.rec h0 λx r ih=>(c6 (x.1=q)).elim (λh=>(au (P (x::r)) ((az h:nC q e (x::r)=(x.1,e)::r).trans (au (λz=>(z,e)::r) h))).mpr ((show x=(q,x.2)from Prod.ext h rfl)▸h1 x.2 r)) λh=>(au (P (x::r)) (ay h:nC q e (x::r)=x::nC q e r)).mpr (h2 x r _ h ih)
theorem Zt(l:aT):KP (nC q e l)=cS (vN q) (fB e) (KP l):=vh (P:=λa b=>KP b=cS (vN q) (fB e) (KP a)) rfl (λx r=>(az rfl:cS (vN q) (fB e) (KP ((q,x)::r))=_).symm) (λx r r' n ih=>(au ((vN x.1,fB x.2)::·) ih).trans (ay λz=>n (eX z):cS (vN q) (fB e) (KP (x::r))=_).symm) l
theorem lX(l:aT):aK (nC q e l) p=if q=p then some e else aK l p:=vh (P:=λa b=>aK b p=if q=p then some e else aK a p) rfl (λx r=>(c6 (q=p)).elim (λh=>(az h:aK ((q,e)::r) p=some e).trans (az h).symm) λh=>(ay h:aK ((q,e)::r) p=aK r p).trans ((ay h:aK ((q,x)::r) p=aK r p).symm.trans (ay h).symm))
  (λx r r' n ih=>(c6 (x.1=p)).elim (λh=>(az h:aK (x::r') p=some x.2).trans ((az h:aK (x::r) p=some x.2).symm.trans (ay λz=>n (h.trans z.symm)).symm)) λh=>(ay h:aK (x::r') p=aK r' p).trans (ih.trans (au (λo=>if q=p then some e else o) (ay h:aK (x::r) p=aK r p).symm))) l
theorem P7(l:aT):(nC q e l).length<=l.length+1:=vh (P:=λa b=>b.length<=a.length+1) (aW _) (λ_ _=>gD _) (λ_ _ _ _=>nG) l
end
theorem alE(g:bW tb)(u:ai)(h:Kd tb u):U tb u<tb.length:=Vb (P:=λu=>Kd tb u->U tb u<tb.length) (λ_=>(rO g.KI).1) (λp h=>(h.dc p cC).row.elim λ_ q=>q.elim λ_ q=>(rO q.1).1) (λx y z h=>(rO (g.G7 (h.has (fC 2 _))).1).1) u h
theorem row_cond(a b c d:Nat):O4 (SH a b c d):=⟨rfl,rfl,(by decide:2<=8)⟩
def Zu(mk rK:aT):Prop:=∀p e,aK mk p=some e->aK rK p=some e
theorem Zu.refl(mk:aT):Zu mk mk:=λ_ _ h=>h
theorem Zu.trans(h:Zu a b)(k:Zu b c):Zu a c:=λp e q=>k p e (h p e q)
abbrev eC(cX yes no:ai):Nat×List ai:=(16,[cX,[6],yes,no])
abbrev NoB(mk:aT)(no:ai):Prop:=K6 no\/∃q e,no=[q]/\37<=q/\aK mk q=some e/\Po e
structure Nu(mk:aT)(cX yes no:ai):Prop where
 hc:cX∈Es
 hy:K6 yes
 hyc:Canon yes
 hnc:Canon no
 hn:NoB mk no
theorem Zv:∀c∈Es,c.length=1:=by decide
theorem EU(c:ai)(h:c∈Es):Canon c:=(List.length_eq_one_iff.mp (Zv c h)).elim λx e=>e▸.aR x
theorem adV:∀v,∀p<37,(base v)[p]?.all (λr=>! decide (c0 r=16/\r.g9[2]?=some (.int 6)))=true:=by decide+kernel
section
variable{v:Bool}{mk:aT}{tb:List V}{cX yes no:ai}{p cR:Nat}{e:Nat×List ai}
theorem Zw(h:V.aC (vN x.1::(bI l++oX x))=V.aC (vN x.1::(bI m++oX x))):l=m:=(List.map_inj_right λ_ _=>eX).mp (List.append_cancel_right (je (V.aC.inj h)).2)
theorem EV(h:aK (nC cR (eC cX yes no) mk) p=some e):p=cR/\e=eC cX yes no\/aK mk p=some e:=(c6 (cR=p)).elim (λq=>.inl ⟨q.symm,(bV ((az q).symm.trans ((lX mk).symm.trans h))).symm⟩) λq=>.inr ((ay q).symm.trans ((lX mk).symm.trans h))
theorem adW(w:Wt v mk tb)(i:Nu mk cX yes no)(ik:∀k∈[cX,[6],yes,no],Kd tb k):
  Wt v (nC (putN tb (qj tb (eC cX yes no))) (eC cX yes no) mk) (f6 tb (qj tb (eC cX yes no)))/\37<=putN tb (qj tb (eC cX yes no))/\Zu mk (nC (putN tb (qj tb (eC cX yes no))) (eC cX yes no) mk):=by
 have lt:=λk m=>alE w.g k (ik k m);have gd:bW (f6 tb (qj tb (eC cX yes no))):=w.g.f6 (.cond _ _ _ _ (lt _ (.head _)) (lt _ (.tail _ (.head _))) (lt _ (.tail _ (.tail _ (.head _)))) (lt _ (.tail _ (.tail _ (.tail _ (.head _))))));have pu:=lK tb (qj tb (eC cX yes no));have ea:(f6 tb (qj tb (eC cX yes no)))[putN tb (qj tb (eC cX yes no))]?=some (qj tb (eC cX yes no)):=xw (oO _ _);generalize hat:putN tb (qj tb (eC cX yes no))=cR at ea⊢;generalize htb:f6 tb (qj tb (eC cX yes no))=cL at gd pu ea⊢;have h37:=Nat.le_of_not_lt λl=>by
  have e1:=(w.b.trans pu).get (qA l);have k:=adV v cR l;rw [qA l,←e1,ea]at k;exact Bool.noConfusion k
 have nl:U tb no<cR:=(gd.cls _ _ ea).elim λc q=>q.elim λrest q=>q.2.nl (eX (rA q.1)).symm _ ((je (V.aC.inj q.1)).2▸rfl);have old:∀e,aK mk cR=some e->e=eC cX yes no:=λe he=>by
  obtain⟨c1,c2,c3,cs,_⟩:=w.s.high cR e h37 he;have r1:=bV ((pu.get (w.m.row cR e he)).symm.trans ea);have kd:=w.m.kd cR e he;rw [cs.eq]at r1 kd⊢;have u:=Zw r1;have u1:=je u;have u3:=je (je u1.2).2;rw [nv w.g c1 cX (kd _ (.head _)) (ik _ (.head _)) u1.1,nv w.g c2 yes (kd _ (.tail _ (.tail _ (.head _)))) (ik _ (.tail _ (.tail _ (.head _)))) u3.1,nv w.g c3 no (kd _ (.tail _ (.tail _ (.tail _ (.head _))))) (ik _ (.tail _ (.tail _ (.tail _ (.head _))))) (je u3.2).1]
 have mx:=λp e he=>(lX mk).trans ((c6 (cR=p)).elim (λq=>(az q).trans (au some (old e (q▸he)).symm)) λq=>(ay q).trans he);refine⟨⟨gd,w.b.trans pu,⟨λp hp=>(lX mk).trans ((ay (show¬cR=p fromλq=>Nat.not_lt.mpr h37 (q▸hp))).trans (w.s.low p hp)),λp e hp he=>(EV he).elim (λq=>?_) λhe=>?_,λp e he=>(EV he).elim (λq k hk=>Iu (EU _ i.hc) (.aR 6) i.hyc i.hnc k ((au (λx:Nat×List ai=>k∈x.2) q.2).mp hk)) (w.s.Ay p e)⟩,⟨λp e he=>(EV he).elim (λq=>?_) ((w.m.pre pu).row p e),λp e he k hk=>(EV he).elim (λq=>(ik k ((au (λx:Nat×List ai=>k∈x.2) q.2).mp hk)).pre pu) λhe=>(w.m.kd p e he k hk).pre pu⟩⟩,h37,mx⟩
 ·exact⟨cX,yes,no,⟨q.2,i.hc,i.hy⟩,i.hn.elim .inl λh=>.inr (h.elim λz h=>h.elim λe' h=>⟨z,e',h.1,h.2.1,q.1▸(show U tb [z]<cR from h.1▸nl),mx _ _ h.2.2.1,h.2.2.2⟩)⟩
 ·exact(w.s.high p e hp he).imp λ_ h=>h.imp λ_ h=>h.imp λ_ h=>⟨h.1,h.2.elim .inl λh=>.inr (h.elim λz h=>h.elim λe' h=>⟨z,e',h.1,h.2.1,h.2.2.1,mx _ _ h.2.2.2.1,h.2.2.2.2⟩)⟩
 ·rw [q.1,q.2,ea]
  exact au (λl=>some (V.aC (vN 16::(bI l++oX (eC cX yes no))))) (CM λk hk=>(g8 pu (ik k hk)).symm)
end
section
variable{d:Nat}{c:L0}{mk:aT}{tb:List V}{a:Nat}{s:St}{Q:V->St->Prop}{cX yes no:ai}
theorem LS.loc(h:LS c mk tb a s)(hl:14<=l)(x:bw):LS c mk tb a (s.set l x):=
 have ex:=(aY.refl (X:=λz=>z=l) s).set (.inl rfl) x;have n:∀k,k<14->¬k=l:=λk h e=>Nat.not_lt.mpr hl (e▸h)
 ⟨h.wd.ext ex ⟨n 1 (by decide),n 10 (by decide),n 11 (by decide),n 12 (by decide),n 13 (by decide)⟩,h.eY.ext ex ⟨n 2 (by decide),n 3 (by decide),n 4 (by decide)⟩,h.wt,h.ok⟩
structure LY where
 done:List ai
 tb:List V
 σ:St
structure LYI(c:L0)(mk:aT)(a:Nat)(s:St)(tb:List V)(all r:List ai)(b:LY):Prop where
 ls:LS c mk b.tb a b.σ
 cR:At b.σ s.length (.list (bI (b.done.map (U b.tb))))
 all:b.done++r=all
 ext:aY LX s b.σ
 kd:∀z∈b.done,Kd b.tb z
 pre:eT tb b.tb
 len:b.tb.length+r.length<=tb.length+4
structure UIn(mk:aT)(u:ai):Prop where
 dc:∀p∈u,p∈B0\/bU mk p
 Ay:Canon u
 len:u.length<=2
theorem Nu.us(i:Nu mk cX yes no):∀u∈[cX,[6],yes,no],UIn mk u:=Iu ⟨λp m=>.inl ((uY cX i.hc).2 p m),EU _ i.hc,(uY cX i.hc).1⟩ ⟨λp m=>.inl ((by decide:∀p∈[6],p∈B0) p m),.aR 6,gD 1⟩ ⟨λp m=>.inl (i.hy.2 p m),i.hyc,i.hy.1⟩
 ⟨i.hn.elim (λh p m=>.inl (h.2 p m)) λh p m=>h.elim λq h=>h.elim λe h=>.inr (dG (h.1▸m)▸⟨h.2.1,e,h.2.2.1⟩),i.hnc,i.hn.elim (λh=>h.1) λh=>h.elim λq h=>h.elim λe h=>h.1▸gD 1⟩
theorem LYI.next{all r:List ai}(j:LYI c mk a s tb all (u::r) b)(hl:14<=s.length)(e2:aY TX b.σ s2)(t2:f9 s2 Vz)(pu:eT b.tb Vz)(g:bW Vz)(l2:Vz.length<=b.tb.length+1)(kd:Kd Vz u):At s2 s.length (.list (bI (b.done.map (U b.tb))))/\LYI c mk a s tb all r ⟨b.done++[u],Vz,s2.set s.length (.list (bI (b.done.map (U b.tb))++[vN (U Vz u)]))⟩:=by
 have a2:=e2.at (λq=>q.elim (λq=>absurd (q▸hl) (by decide)) λq=>absurd (q▸hl) (by decide)) j.cR
 have e:bI (b.done.map (U b.tb))++[vN (U Vz u)]=bI ((b.done++[u]).map (U Vz)):=by
  unfold bI;rw [mh,mh,CM λz hz=>(g8 pu (j.kd z hz)).symm];rfl
 exact⟨a2,(j.ls.tx e2 t2 pu g).loc hl _,e▸a2.dS,(rQ ..).trans j.all,(j.ext.trans e2.tlx).set (.inr (aW _)) _,λz m=>(tW m).elim (λm=>(j.kd z m).pre pu) λm=>dG m▸kd,j.pre.trans pu,aH (dQ l2 _) (aH (cK (qC ..)) j.len)⟩
theorem adX(hd:4<=d)(h:LS c mk tb a s)(i:Nu mk cX yes no)(hz:tb.length+10<=cu)(hml:mk.length<cu)
  (k:∀p cL s',aY LX s s'->LS c (nC p (eC cX yes no) mk) cL a s'->eT tb cL->cL.length<=tb.length+5->37<=p->Zu mk (nC p (eC cX yes no) mk)->Q (aq [p]) s'):
  WP (aS TT FT d 967 [.ref 1,.int 16,.aC [aq cX,aq [6],aq yes,aq no]]) s Q:=by
 have hl:=h.wd.mT.lt;refine aA (dl hd rfl) rfl rfl (.ret ?_);refine pK aq LY.σ (LYI c mk a s tb [cX,[6],yes,no]) ?_ (λu r b K j kn=>?_) (λb j=>?_) [cX,[6],yes,no] ⟨[],tb,s++[.list []]⟩ ⟨h.nx ((aY.refl s).new _),bS,rfl,((aY.refl s).new _).lx,λ_=>bg,.refl _,aW _⟩
 ·exactλ_=>bu
 ·have ui:=i.us u (j.all▸kU _ cC)
  have p1:=λp m=>(vd j.ls.wt (ui.dc p m)).it;have bl:=eB (di (aH (bZ _ _) j.len) (CL (by decide) _)) hz
  refine aZ j.ls.wd.w rfl rfl (lR (dk hd rfl) j.ls.eY j.ls.wt.g rfl p1 (di ui.len (by decide)) bl ?_)
  have kd:=Ab p1;rw [jz ui.Ay]at kd⊢;intro s2 e2 t2;have n:=j.next hl e2 t2 (bQ b.tb u) (j.ls.wt.g.aO u) (cQ ..) kd
  exact⟨_,n.1,di (aH (cK ((cT ..).trans (cT ..))) (aH (bZ _ _) (cK (List.length_append.symm.trans (au List.length j.all))))) (by decide:4<cu),kn _ n.2⟩
 ·refine⟨_,j.cR,?_⟩
  have ed:=(kX _).symm.trans j.all;have kd:=ed▸j.kd;have h5:=j.ls.loc hl .bH;have e5:aY LX s (b.σ.set s.length .bH):=j.ext.set (.inr (aW _)) _;have lay:=adW h5.wt i kd;rw [ed];refine zq (by decide:5<cu) (fz rfl (zq (by decide:7<cu) (aZ h5.wd.w rfl rfl (bT h5.eY.ns rfl rfl (.of rfl ?_)))))
  refine zb (dk hd rfl) h5.eY (row_cond _ _ _ _) (eB (di j.len (CL (by decide) _)) hz) λσ6 e6 t6=>?_
  have w6:=h5.wd.tx e6;refine aZ w6.w rfl rfl (fM w6.mT (oQ _ _) (di (cK (cT ..)) hml) (k _ (f6 b.tb (qj b.tb (eC cX yes no))) _ ((e5.trans e6.tlx).set (.inl (.inr (.inr (.inr rfl)))) _) ⟨⟨w6.w.bF (by decide),w6.zz.bF (by decide),w6.eN.bF (by decide),w6.Hs.bF (by decide),Zt mk▸w6.mT.dS⟩,?_,lay.1,h.ok⟩ (j.pre.trans (lK _ _)) (aH (s8 ..) (dQ j.len 1)) lay.2.1 lay.2.2))
  exact t6.ext ((aY.refl σ6).set (.inl rfl) _) ⟨by decide,by decide,by decide⟩
end
structure VA(mk:aT)(t:ai):Prop where
 len:t.length<=3
 Ay:Canon t
 dc:∀p∈t,p∈B0\/bU mk p
 aR:∀p∈t,∀q∈t,bU mk p->bU mk q->p=q
structure DR(c:L0)(mk:aT)(tb:List V)(s:St)(m n:Nat)(rK:aT)(cL:List V)(a':Nat)(s':St):Prop where
 ext:aY LX s s'
 ls:LS c rK cL a' s'
 pre:eT tb cL
 len:cL.length<=tb.length+m
 mx:Zu mk rK
 ml:rK.length<=mk.length+n
section
variable{d:Nat}{c:L0}{mk rK mk2:aT}{tb cL Vz:List V}{a a' a2 m n m2 n2:Nat}{s s' s2:St}{Q:V->St->Prop}{t:ai}
theorem DR.refl(h:LS c mk tb a s):DR c mk tb s 0 0 mk tb a s:=⟨.refl _,h,.refl _,aW _,.refl _,aW _⟩
theorem DR.step(h:DR c mk tb s m n rK cL a' s')(e:aY LX s' s2)(l:LS c rK cL a2 s2):DR c mk tb s m n rK cL a2 s2:=⟨h.ext.trans e,l,h.pre,h.len,h.mx,h.ml⟩
theorem DR.trans(h:DR c mk tb s m n rK cL a' s')(k:DR c rK cL s' m2 n2 mk2 Vz a2 s2):DR c mk tb s (m+m2) (n+n2) mk2 Vz a2 s2:=⟨h.ext.trans k.ext,k.ls,h.pre.trans k.pre,aH k.len (aH (dQ h.len m2) (cK (nH ..))),h.mx.trans k.mx,aH k.ml (aH (dQ h.ml n2) (cK (nH ..)))⟩
theorem DR.uN(h:DR c mk tb s m n rK cL a' s')(hm:m<=m2)(hn:n<=n2):DR c mk tb s m2 n2 rK cL a' s':=⟨h.ext,h.ls,h.pre,aH h.len (cG hm _),h.mx,aH h.ml (cG hn _)⟩
theorem DR.nR(h:DR c mk tb s m n rK cL a' s')(hd:1<=d)(hw:0<w)(k:∀r s2,r<w->DR c mk tb s m n rK cL (a'+1) s2->Q (vN r) s2):WP (aS TT FT d 952 [.ref 1,vN w]) s' Q:=h.ls.nR hd hw λr s2 hr e l=>k r s2 hr (h.step e l)
theorem DR.some(h:DR c mk tb s m n rK cL a' s')(hd:2<=d)(k:∀l a2 s2,K6 l->Canon l->DR c mk tb s m n rK cL a2 s2->Q (aq l) s2):WP (aS TT FT d 984 [.ref 1]) s' Q:=Zr hd h.ls λl a2 s2 i j e l'=>k l a2 s2 i j (h.step e l')
theorem DR.sum(h:DR c mk tb s m n rK cL a' s')(hd:1<=d)(hl:l.length<=3)(k:∀s2,(fF l).length<=3->DR c mk tb s m n rK cL a' s2->Q (aq (fF l)) s2):WP (aS TT FT d 957 [.ref 1,aq l]) s' Q:=zE h.ls.wd hd (.inl rfl) (di (gC l) (di hl (by decide))) λs2 e=>k s2 (aH (vg l) hl) (h.step e.lx (h.ls.nx e))
noncomputable abbrev P8(r:Nat):ai:=Es.getD r []
theorem VB:∀r<3,[aq [33],aq [34],aq [25]][r]?=some (aq (P8 r))/\P8 r∈Es:=by decide+kernel
theorem Zx(c:ai)(h:c∈Es):K6 c:=⟨(uY c h).1,(uY c h).2⟩
abbrev ahX(mk:aT)(LF:ai):Prop:=∃q e,LF=[q]/\37<=q/\aK mk q=some e/\Po e
theorem vL(hd:5<=d)(h:LS c mk tb a s)(hk:LF=[]\/ahX mk LF)(hz:tb.length+10<=cu)(hml:mk.length<cu)
  (k:∀p rK cL a' s',DR c mk tb s 5 1 rK cL a' s'->bU rK p->(LF=[]->ahX rK [p])->Q (aq [p]) s'):WP (aS TT FT d 991 [.ref 1,aq LF]) s Q:=by
 refine aA (dl hd rfl) rfl rfl (aZ h.wd.w rfl rfl (aZ h.wd.w rfl rfl (lB rfl (aZ h.wd.w rfl rfl (lB rfl ((DR.refl h).nR (dk hd rfl) (by decide) λr s1 hr h1=>?_))))))
 have hc:=(VB r hr).2;refine aI (gy (VB r hr).1) ?_;have rest:∀{yes a2 s2},K6 yes->Canon yes->DR c mk tb s 0 0 mk tb a2 s2->iJ TT (aS TT FT (d-1)) (oG.body.drop 2) [some (.ref 1),some (aq LF),some (aq (P8 r)),some (aq yes),none] (dY Q) s2:=λ{yes a2 s2}hy hyc h2=>by
  have gV:∀{no a3 s3},Canon no->NoB mk no->(LF=[]->K6 no)->DR c mk tb s 0 0 mk tb a3 s3->WP (aS TT FT (d-1) 967 [.ref 1,.int 16,.aC [aq (P8 r),aq [6],aq yes,aq no]]) s3 Q:=λ{no a3 s3}hnc hn hkn h3=>adX (dk hd rfl) h3.ls ⟨hc,hy,hyc,hnc,hn⟩ hz hml λp cL s4 e4 h4 pre hl h37 mx=>have eg:=(lX mk).trans (az rfl)
    k p _ cL a3 s4 ⟨h3.ext.trans e4,h4,pre,hl,mx,P7 mk⟩ ⟨h37,_,eg⟩ λq=>⟨p,_,rfl,h37,eg,⟨P8 r,yes,no,⟨rfl,hc,hy⟩,hkn q⟩⟩
  have Nv:∀{a3 s3},DR c mk tb s 0 0 mk tb a3 s3->WP (aS TT FT (d-1) 984 [.ref 1]) s3 λx s4=>WP (aS TT FT (d-1) 967 [.ref 1,.int 16,.aC [aq (P8 r),aq [6],aq yes,x]]) s4 Q:=λh3=>h3.some (dk hd rfl) λl a4 s4 hl hlc h4=>gV hlc (.inl hl) (λ_=>hl) h4;refine HA (b:=[]) (λ_=>Nv h2) λne=>h2.nR (dk hd rfl) (by decide) λr2 s3 My h3=>bG (λ_=>?_) λ_=>Nv h3
  have kn:=hk.resolve_left ne;obtain⟨q,e,eq,h37,he,hf⟩:=kn;exact gV (eq▸.aR q) (.inr ⟨q,e,eq,h37,he,hf⟩) (λz=>absurd z ne) h3
 exact h1.nR (dk hd rfl) (by decide) λr2 s2 My h2=>bG (λ_=>rest (Zx _ hc) (EU _ hc) h2) λ_=>h2.some (dk hd rfl) λl a3 s3 hl hlc h3=>rest hl hlc h3
end
structure SkS(s:ai):Prop where
 len:s.length<=3
 Ay:Canon s
 dc:∀p∈s,p∈wL/\p≠30
noncomputable def ahZ:List Mine.S:=[.set 2 (.ite (.aM .eq (.call (.br (.fn 952)) [.var 0,.br (.int 2)]) (.br (.int 1))) (.var 3) (.call (.br (.fn 957)) [.var 0,.d9 .add (.var 2) (.var 3)]))]
theorem Zy(l:ai)(h:l.length<=1):Canon l:=EN .nil .aR l h
noncomputable abbrev kdN(r:Nat):ai:=[[0],[1],[],[13]].getD r []
theorem ah0:∀r<4,[aq [0],aq [1],aq [],aq [13]][r]?=some (aq (kdN r))/\(kdN r).length<=1/\∀p∈kdN r,p∈wL/\p≠30:=by decide+kernel
noncomputable abbrev poN(r:Nat):Nat:=Hr.getD r 0
theorem VC:∀i<16,(bI Hr)[i]?=some (vN (poN i))/\poN i∈wL/\poN i≠30:=by decide+kernel
theorem ah1:∀r<3,xU ((0:Nat):Int) (1+r)=(List.range (1+r)).map vN/\(List.range (1+r)).length<=3:=by decide+kernel
theorem lY(h:l.length<=n):(l++[x]).length<=n+1:=aH (cK gH) (dQ h 1)
theorem adY(h3:t.length<=3)(hc:Canon t)(h:∀p∈t,p∈B0):VA mk t:=⟨h3,hc,λp hp=>.inl (h p hp),λp hp _ _ c=>(jB (h p hp) c).elim⟩
theorem aaX(h3:t.length<=3)(hc:Canon t)(hp:bU mk p)(h:∀q∈t,q∈B0\/q=p):VA mk t:=⟨h3,hc,λq m=>(h q m).elim .inl λe=>.inr (e.symm▸hp),λx hx y hy cx cy=>((h x hx).resolve_left λz=>jB z cx).trans ((h y hy).resolve_left λz=>jB z cy).symm⟩
structure KdS where
 ys:ai
 a:Nat
 σ:St
section
variable{d:Nat}{c:L0}{mk:aT}{tb:List V}{a:Nat}{s:St}{Q:V->St->Prop}
theorem IF(hd:6<=d)(h:LS c mk tb a s)(hz:tb.length+20<=cu)(hml:mk.length+2<cu)
  (k:∀t rK cL a' s',DR c mk tb s 10 2 rK cL a' s'->VA rK t->Q (aq t) s'):WP (aS TT FT d 998 [.ref 1]) s Q:=by
 have z10:tb.length+10<=cu:=aH (cG (by decide) _) hz
 have k0:∀{t a' s'},DR c mk tb s 0 0 mk tb a' s'->t.length<=3->Canon t->(∀p∈t,p∈B0)->Q (aq t) s':=λr h3 hc hb=>k _ _ _ _ _ (r.uN (fD _) (fD _)) (adY h3 hc hb);refine aA (dl hd rfl) rfl rfl ((DR.refl h).nR (dk hd rfl) (by decide) λhow s1 Zs h1=>bG (λ_=>aZ h1.ls.wd.w rfl rfl (k0 h1 (by decide) (.aR 33) b33)) λ_=>h1.some (dk hd rfl) λout a2 s2 ho hoc h2=>bG (λe2=>?_) λ_=>qv (λg=>?_) λ_=>k0 h2 (rP ho.1) hoc ho.2)
 ·refine aZ h2.ls.wd.w rfl rfl (ET (di (dQ ho.1 1) (by decide)) (h2.sum (dk hd rfl) (lY ho.1) λs3 l3 h3=>qv (λg=>absurd (e2▸g) (kY _)) λ_=>k0 h3 l3 (canon_sum _) λp m=>(tW (dZ m)).elim (ho.2 p) (b33 p)))
 ·have tail:∀{p mk3 LG a3 s3},DR c mk tb s 10 2 mk3 LG a3 s3->bU mk3 p->iJ TT (aS TT FT (d-1)) ahZ [some (.ref 1),some (vN how),some (aq out),some (aq [p])] (flQ (iJ TT (aS TT FT (d-1)) [.ret (.var 2)]) (dY Q)) s3:=λ{p mk3 LG a3 s3}h3 hp=>h3.nR (dk hd rfl) (by decide) λr s4 hr h4=>bG (λ_=>k [p] _ _ _ _ h4 (aaX (by decide:1<=3) (.aR p) hp λq m=>.inr (dG m))) λ_=>ET (di (dQ ho.1 1) (by decide)) (h4.sum (dk hd rfl) (lY ho.1) λs5 l5 h5=>k _ _ _ _ _ h5 (aaX l5 (canon_sum _) hp λq m=>(tW (dZ m)).imp (ho.2 q) dG))
  refine vL (dk hd rfl) h2.ls (.inl rfl) z10 (di (bZ _ 2) hml) λp mk3 LG a3 s3 h3 hp kn=>?_;have h03:=h2.trans h3;exact bG (λ_=>vL (dk hd rfl) h3.ls (.inr (kn rfl)) (aH (dQ h3.len 10) (aH (cK (nH ..)) (aH (cG (by decide) _) hz))) (di h3.ml (di (cG (by decide) _) hml)) λp2 mk4 tb4 a4 s4 h4 BC _=>tail ((h03.trans h4).uN (by decide) (by decide)) BC) λ_=>tail (h03.uN (by decide) (by decide)) hp
theorem VD(hd:2<=d)(h:LS c mk tb a s)(k:∀t a' s',DR c mk tb s 0 0 mk tb a' s'->SkS t->Q (aq t) s'):WP (aS TT FT d 1003 [.ref 1]) s Q:=by
 refine aA (dl hd rfl) rfl rfl ((DR.refl h).nR (dk hd rfl) (by decide) λhow s1 Zs h1=>bG (λ_=>h1.nR (dk hd rfl) (by decide) λr s2 hr h2=>?_) λq4=>bG (λ_=>aZ h1.ls.wd.w rfl rfl (h1.nR (dk hd rfl) (by decide) λr s2 hr h2=>fm rfl ?_)) λq3=>?_)
 ·have p:=ah0 r hr
  exact aI (gy p.1) (k _ _ s2 h2 ⟨aH p.2.1 (by decide),Zy _ p.2.1,p.2.2⟩)
 ·have p:=VC (10+r) (CL hr 10)
  exact lB p.1 (k [poN (10+r)] _ s2 h2 ⟨(by decide:1<=3),.aR _,λq m=>dG m▸p.2⟩)
 ·have h3:=Nat.lt_of_le_of_ne (E9 (Nat.lt_of_le_of_ne (E9 Zs) q4)) q3
  have g1:=h1.ls.wd.mT.lt;refine fm rfl (tL (xK (CL h3 1) (by decide)) (.of (a:=(V.Fp 0 (1+how:Nat),xU ((0:Nat):Int) (1+how))) rfl ?_))
  rw [(ah1 how h3).1];refine pK vN KdS.σ (λr b=>At b.σ s1.length (.list (bI b.ys))/\(b.ys.length+r.length<=3/\∀p∈b.ys,p∈wL/\p≠30)/\DR c mk tb s 0 0 mk tb b.a b.σ) ?_ (λx r b K i kn=>?_) (λb i=>?_) (List.range (1+how)) ⟨[],_,s1++[.list []]⟩ ⟨bS,⟨aH (cK (p8 _)) (ah1 how h3).2,λ_=>bg⟩,h1.step ((aY.refl s1).new _).lx (h1.ls.nx ((aY.refl s1).new _))⟩
  ·exactλ_=>bu
  ·refine aZ i.2.2.ls.wd.w rfl rfl (i.2.2.ls.nR (dk hd rfl) (by decide) λj s2 hj e2 l2=>?_)
   have p:=VC j hj;have a2:=e2.at (λq=>q.elim (λq=>absurd (q▸g1) (by decide)) λq=>q.elim (λq=>absurd (q▸g1) (by decide)) λq=>q.elim (λq=>absurd (q▸g1) (by decide)) λq=>absurd (q▸g1) (by decide)) i.1
   have l3:(b.ys++[poN j]).length+r.length<=3:=Eo i.2.1.1;have e:=(mh (f:=vN) (l₁:=b.ys) (l₂:=[poN j])).symm;exact lB p.1 ⟨_,a2,di (aH (cK (cT ..)) (aH (bZ _ _) i.2.1.1)) (by decide),kn ⟨b.ys++[poN j],_,s2.set s1.length (.list (bI b.ys++[vN (poN j)]))⟩ ⟨e▸a2.dS,⟨l3,λq m=>(tW m).elim (i.2.1.2 q) λm=>dG m▸p.2⟩,(i.2.2.ext.trans e2).set (.inr h1.ext.le) _,l2.loc g1 _,.refl _,aW _,.refl _,aW _⟩⟩
  ·have l5:=i.2.2.ls.loc g1 .bH
   exact⟨_,i.1,zE l5.wd (dk hd rfl) (.inr rfl) (di (gC _) (di i.2.1.1 (by decide))) λs3 e3=>k _ b.a s3 ⟨(i.2.2.ext.set (.inr h1.ext.le) _).trans e3.lx,l5.nx e3,.refl _,aW _,.refl _,aW _⟩ ⟨aH (vg _) i.2.1.1,canon_sum _,λp m=>i.2.1.2 p (dZ m)⟩⟩
end
noncomputable def IG(l:List ai)(k:ai):List ai:=if k∈l then l else l++[k]
noncomputable def wQ(m sd:Nat)(l:List ai)(x:ai×Nat×Nat):List ai:=if x.2.1=m/\x.2.2=sd then IG l (cH x.1)else l
noncomputable def iV(m sd:Nat)(af:bR)(l:List ai):List ai:=af.foldl (wQ m sd) l
noncomputable def vj(tb:List V)(l:List ai):V:=l.casesOn (motive:=λ_=>V) (vN 1) λk r=>r.casesOn (motive:=λ_=>V) (vN (U tb k)) λ_ _=>.int (-1)
noncomputable def Ak(tb:List V)(a0 a1:List ai):V:=if a0≠[]then vN (U tb (fF a0.flatten))else vj tb a1
abbrev Few(tb:List V)(p:Nat):Prop:=p∈wL\/∃r∈THL,p=putN tb r/\(pos r tb).isSome=true
structure P9(tb:List V)(k:ai):Prop where
 kd:Kd tb k
 p1:∀p∈k,P1 tb p
 Ay:Canon k
 few:∀p∈k,Few tb p
theorem adZ:∀p∈wL,qh p∈wL:=by decide+kernel
section
theorem P9.pre(h:P9 a k)(p:eT a b):P9 b k:=⟨h.kd.pre p,λq hq=>(h.p1 q hq).pre p,h.Ay,λq hq=>(h.few q hq).imp id λh=>h.imp λr h=>⟨h.1,h.2.1.trans (zu p h.2.2).symm,(Option.isSome_iff_exists.mp h.2.2).elim λi e=>au Option.isSome (p.pos e)⟩⟩
theorem VE(w:Wt v mk tb)(h:∀p∈k,KU tb mk p)(kd:Kd tb (cH k)):P9 tb (cH k):=⟨kd,λp hp=>(List.mem_map.mp (dZ hp)).elim λq z=>z.2▸(lQ w (h q z.1)).wid,canon_sum _,λp hp=>(List.mem_map.mp (dZ hp)).elim λq z=>z.2▸(h q z.1).elim (λhs=>.inl (adZ q hs)) λ⟨r,hr,e,_⟩=>(xG hr).elim λns y=>y.elim λb er=>have up:=w.g.Yh q _ e
  (Ux (z9 (er▸w.g.cls q _ e))).symm▸.inr ⟨r,hr,(lE up).symm,au Option.isSome up⟩⟩
theorem Ny(h:∀p∈l,Few tb p):(eS l).length<64:=di (jA _ (wL++THL.map (putN tb)) (oV l) λp hp=>(h p (gz.mp hp)).elim (λq=>nE _ q) λq=>q.elim λr q=>kU _ (List.mem_map.mpr ⟨r,q.1,q.2.1.symm⟩)) (by decide:25<64)
theorem VF(g:bW tb){l:List ai}(hk:Kd tb k)(hl:∀x∈l,Kd tb x):U tb k∈l.map (U tb)↔k∈l:=⟨λh=>(List.mem_map.mp h).elim λx z=>nv g x k (hl x z.1) hk z.2▸z.1,λh=>List.mem_map.mpr ⟨k,h,rfl⟩⟩
theorem vm{ks:List ai}(hd:3<=d)(h:f9 σ tb)(g:bW tb)(hx:gR x (bI (ks.map (U tb))) σ)(hk:∀k∈ks,P9 tb k)(hz:tb.length<cu)
  (k:∀s',aY TX σ s'->f9 s' (aO tb (fF ks.flatten))->Kd (aO tb (fF ks.flatten)) (fF ks.flatten)->Q (vN (U (aO tb (fF ks.flatten)) (fF ks.flatten))) s'):WP (aS TT FT d 237 [jv,x]) σ Q:=
 have fl:∀p∈ks.flatten,P1 tb p/\Few tb p:=λp hp=>(List.mem_flatten.mp hp).elim λu z=>⟨(hk u z.1).p1 p z.2,(hk u z.1).few p z.2⟩
 sZ ks hd h g hx (λu hu=>(hk u hu).kd) (λp hp=>(fl p hp).1.ok) (Ny λp hp=>(fl p hp).2) hz λs' e t=>k s' e t (.aO λp hp=>(fl p (dZ hp)).1.dc)
end
section
theorem Zz(h:At s l (.list (bI xs)))(k1:p∈xs->Q false s)(k2:p∉xs->Q true s):WP (aM T .dz (vN p) (.ref l)) s Q:=.bind (pH h (lC (dF rfl (dF (iE xs) rfl))) (.ret ((c6 (p∈xs)).elim (λm=>((tG p xs).trans (dj m)).symm▸k1 m) λm=>((tG p xs).trans (dg m)).symm▸k2 m)))
theorem VG(h:At s l (.list (bI xs)))(k1:xs=[]->Q false s)(k2:xs≠[]->Q true s):WP (aM T .ne (.ref l) (.lst [])) s Q:=by
 have e:eqP (.lst (bI xs)) (.lst [])=some (decide (bI xs=[])):=az (dF (iE xs) rfl);have q:Q (! decide (bI xs=[])) s:=(c6 (xs=[])).elim (λz=>(dj (au bI z:bI xs=[])).symm▸k1 z) λz=>(dg λy=>z (List.map_eq_nil_iff.mp y)).symm▸k2 z;exact .bind (.bind (fj h (.of rfl (.bind (.of rfl (.nV e (.ret q)))))))
end
noncomputable def ah2:List Mine.S:=[.ite (.aM .gt (.call (.br (.bi 0)) [.var 4]) (.var 3)) [.ret (.ite (.aM .eq (.var 3) (.br (.int 1))) (.neg (.br (.int 1))) (.call (.br (.fn 237)) [.aE (.var 0) (.br (.str kQ)),.var 4]))] [],.ite (.aM .ne (.var 4) (.list [])) [.ret (.aE (.var 4) (.br (.int 0)))] []]
noncomputable def alJ:List Mine.S:=.set 4 (.j7 [])::.dK (.nM [5,6,7]) (.var 1) [.set 8 (.call (.br (.fn 237)) [.aE (.var 0) (.br (.str kQ)),.call (.br (.fn 962)) [.var 0,.var 5]]),.ite (.and [.aM .eq (.var 6) (.var 2),.aM .eq (.var 7) (.var 3),.aM .dz (.var 8) (.var 4)]) [.gM (.bA (.var 4) vQ [.var 8])] []]::ah2
structure AnS where
 ks:List ai
 tb:List V
 σ:St
 x5:Option V
 x6:Option V
 x7:Option V
 x8:Option V
structure AnI(c:L0)(mk:aT)(a:Nat)(s:St)(CG:List V)(m sd:Nat)(af:bR)(L:Nat)(r:bR)(b:AnS):Prop where
 ls:LS c mk b.tb a b.σ
 pre:eT CG b.tb
 len:b.tb.length+r.length<=CG.length+af.length
 ext:aY LX s b.σ
 ans:iV m sd r b.ks=iV m sd af []
 wk:∀k∈b.ks,P9 b.tb k
 cR:At b.σ L (.list (bI (b.ks.map (U b.tb))))
 kl:b.ks.length+r.length<=af.length
 cD:∀x∈r,jQ CG mk x.1
section
variable{mk:aT}
theorem Od(h:p+(q+1)<=n):p+1+q<=n:=aH (cK (qC ..)) h
structure AnU(c:L0)(mk:aT)(a:Nat)(s:St)(CG:List V)(L:Nat)(w:ai)(b:AnS)(s4:St):Prop where
 ls:LS c mk (aO b.tb w) a s4
 ext:aY LX s s4
 wk:∀k∈b.ks,P9 (aO b.tb w) k
 cR:At s4 L (.list (bI (b.ks.map (U (aO b.tb w)))))
 wx:P9 (aO b.tb w) w
theorem AnI.skip(j:AnI c mk a s CG m sd af L (x::r) b)(u:AnU c mk a s CG L (cH x.1) b s4)(e:wQ m sd b.ks x=b.ks):AnI c mk a s CG m sd af L r ⟨b.ks,aO b.tb (cH x.1),s4,y5,y6,y7,y8⟩:=⟨u.ls,j.pre.trans (bQ ..),aH (dQ (cQ ..) _) (Od j.len),u.ext,(au (iV m sd r) e).symm.trans j.ans,u.wk,u.cR,aH (cG (gD _) _) j.kl,λz q=>j.cD z (cP _ q)⟩
theorem AnI.add(j:AnI c mk a s CG m sd af L (x::r) b)(u:AnU c mk a s CG L (cH x.1) b s4)(hL:14<=L)(sL:s.length<=L)(e:wQ m sd b.ks x=b.ks++[cH x.1]):
  AnI c mk a s CG m sd af L r ⟨b.ks++[cH x.1],aO b.tb (cH x.1),s4.set L (.list (bI (b.ks.map (U (aO b.tb (cH x.1))))++[vN (U (aO b.tb (cH x.1)) (cH x.1))])),y5,y6,y7,y8⟩:=
 have el:bI (b.ks.map (U (aO b.tb (cH x.1))))++[vN (U (aO b.tb (cH x.1)) (cH x.1))]=bI ((b.ks++[cH x.1]).map (U (aO b.tb (cH x.1)))):=by
  unfold bI;rw [mh,mh];rfl
 ⟨u.ls.loc hL _,j.pre.trans (bQ ..),aH (dQ (cQ ..) _) (Od j.len),u.ext.set (.inr sL) _,(au (iV m sd r) e).symm.trans j.ans,λk q=>(tW q).elim (u.wk k) λq=>dG q▸u.wx,el▸u.cR.dS,(gf b.ks (cH x.1)).symm▸Od j.kl,λz q=>j.cD z (cP _ q)⟩
theorem Nz{y3:Option V}{K:Fl->St->Prop}(hd:4<=d)(h1:LS c mk CG a gU)(hs:∀x∈af,jQ CG mk x.1)(hz:CG.length+af.length+3<=cu)(ex1:aY LX s gU)
  (kk:∀b L,AnI c mk a s CG m sd af L [] b->14<=L->iJ TT (aS TT FT d) ah2 [some (.ref 1),some (.lst (af.map cW)),some (vN m),some (vN sd),some (.ref L),b.x5,b.x6,b.x7,b.x8] K b.σ):
  iJ TT (aS TT FT d) alJ [some (.ref 1),some (.lst (af.map cW)),some (vN m),some (vN sd),y3,y5,y6,y7,y8] K gU:=by
 have hL:14<=gU.length:=h1.wd.mT.lt;refine .ret (bD cW (λb:AnS=>[some (.ref 1),some (.lst (af.map cW)),some (vN m),some (vN sd),some (.ref gU.length),b.x5,b.x6,b.x7,b.x8]) (λb=>b.σ) (AnI c mk a s CG m sd af gU.length) ?_ (λx r b K2 j kn _=>?_) (λb j=>kk b gU.length j hL) af ⟨[],CG,gU++[.list []],y5,y6,y7,y8⟩
  ⟨h1.nx ((aY.refl gU).new _),.refl _,aW _,ex1.trans ((aY.refl (X:=NX) gU).new _).lx,rfl,λ_=>bg,bS,cK (p8 _),hs⟩)
 ·exactλ_=>bu
 ·have ks:=(j.cD x cC).pre j.pre
  have sm:∀p∈x.1.map qh,P1 b.tb p:=λp hp=>(List.mem_map.mp hp).elim λq z=>z.2▸(lQ j.ls.wt (ks.cD q z.1)).wid;have l3:(x.1.map qh).length<=3:=aH (cK (cT ..)) ks.len;have bl:b.tb.length<cu:=di (aH (bZ _ _) j.len) (eB (xJ (by decide)) hz)
  refine aZ j.ls.wd.w rfl rfl (Yw j.ls.wd (l:=x.1) (dl hd rfl) (aH ks.len (by decide)) (di (gC _) (di l3 (by decide))) λs3 e3=>?_)
  have h3:=j.ls.nx e3;have p1:∀p∈cH x.1,P1 b.tb p:=λp hp=>sm p (dZ hp);refine lR (l:=cH x.1) (dl hd rfl) h3.eY h3.wt.g rfl p1 (di (vg _) (di l3 (by decide))) bl ?_
  have kd:=Ab p1;rw [jz (show Canon (cH x.1)from canon_sum _)]at kd⊢;intro s4 e4 t4;have pu:=bQ b.tb (cH x.1);have h4:=h3.tx e4 t4 pu (h3.wt.g.aO _);have a4:=e4.at (λq=>q.elim (λq=>absurd (q▸hL) (by decide)) λq=>absurd (q▸hL) (by decide)) (e3.at id j.cR)
  have u:AnU c mk a s CG gU.length (cH x.1) b s4:=⟨h4,j.ext.trans (e3.lx.trans e4.tlx),λk m=>(j.wk k m).pre pu,(CM λk hk=>(g8 pu (j.wk k hk).kd).symm:b.ks.map (U b.tb)=b.ks.map (U (aO b.tb (cH x.1))))▸a4,VE h4.wt (λp hp=>(ks.cD p hp).pre pu) kd⟩;have skip:wQ m sd b.ks x=b.ks->K2 (.next [some (.ref 1),some (.lst (af.map cW)),some (vN m),some (vN sd),some (.ref gU.length),some (aq x.1),some (vN x.2.1),some (vN x.2.2),some (vN (U (aO b.tb (cH x.1)) (cH x.1)))]) s4:=λe=>kn ⟨b.ks,_,s4,some (aq x.1),some (vN x.2.1),some (vN x.2.2),some (vN (U (aO b.tb (cH x.1)) (cH x.1)))⟩ (j.skip u e)
  show iJ TT (aS TT FT d) [.ite (.and [.aM .eq (.var 6) (.var 2),.aM .eq (.var 7) (.var 3),.aM .dz (.var 8) (.var 4)]) [.gM (.bA (.var 4) vQ [.var 8])] []] [some (.ref 1),some (.lst (af.map cW)),some (vN m),some (vN sd),some (.ref gU.length),some (aq x.1),some (vN x.2.1),some (vN x.2.2),some (vN (U (aO b.tb (cH x.1)) (cH x.1)))] K2 s4;refine bG (λq1=>bG (λq2=>Zz u.cR (λq3=>?_) λq3=>?_) λq2=>skip (ay λz=>q2 z.2)) λq1=>skip (ay λz=>q1 z.1)
  ·exact skip ((az ⟨q1,q2⟩).trans (az ((VF h4.wt.g kd λk hk=>(u.wk k hk).kd).mp q3)))
  ·have e:wQ m sd b.ks x=b.ks++[cH x.1]:=(az ⟨q1,q2⟩).trans (ay λz=>q3 ((VF h4.wt.g kd λk hk=>(u.wk k hk).kd).mpr z))
   refine oM u.cR (.inl rfl) (lD u.cR (di (aH (cK ((cT ..).trans (cT ..))) (aH (bZ _ _) j.kl)) (di (fC _ _) (eB (xJ (by decide)) hz))) ?_)
   exact kn ⟨b.ks++[cH x.1],_,_,some (aq x.1),some (vN x.2.1),some (vN x.2.2),some (vN (U (aO b.tb (cH x.1)) (cH x.1)))⟩ (j.add u hL ex1.le e)
end
theorem VH{α:Type}{P:List α->Prop}(h0:P [])(h1:∀q,P [q])(h2:∀x y z,P (x::y::z))(s:List α):P s:=List.casesOn s h0 λx r=>List.casesOn r (h1 x) (h2 x)
theorem VI(p:eT tb F)(ks:List ai):(∀k∈ks,Kd tb k)->vj F ks=vj tb ks:=VH (P:=λks=>(∀k∈ks,Kd tb k)->vj F ks=vj tb ks) (λ_=>rfl) (λx h=>au vN (g8 p (h x cC))) (λ_ _ _ _=>rfl) ks
theorem VJ(tb:List V)(ks:List ai):1<ks.length->vj tb ks=.int (-1):=VH (P:=λks=>1<ks.length->vj tb ks=.int (-1)) (λh=>absurd h (by decide)) (λ_ h=>absurd h (kY 1)) (λ_ _ _ _=>rfl) ks
theorem hz1(h:t+2*n+5<=L):t+n+n+5<=L:=aH (cK (au (·+5) ((nH ..).trans (au (t+·) (Nat.two_mul n).symm)))) h
theorem hz2:t+n+n=t+2*n:=(nH ..).trans (au (t+·) (Nat.two_mul n).symm)
section
variable{d:Nat}{c:L0}{mk:aT}{tb:List V}{a:Nat}{s:St}{Q:V->St->Prop}{af:bR}
theorem Qa(hd:5<=d)(h:LS c mk tb a s)(hs:∀x∈af,jQ tb mk x.1)(hz:tb.length+2*af.length+5<=cu)
  (k:∀cL s',aY LX s s'->LS c mk cL a s'->eT tb cL->cL.length<=tb.length+2*af.length+1->(∀F,eT cL F->Ak F (iV (bE af) 0 af []) (iV (bE af) 1 af [])=Ak cL (iV (bE af) 0 af []) (iV (bE af) 1 af []))->Q (Ak cL (iV (bE af) 0 af []) (iV (bE af) 1 af [])) s'):
  WP (aS TT FT d 1046 [.ref 1,.lst (af.map cW)]) s Q:=by
 have z2:=hz1 hz;have z1:tb.length+af.length+3<=cu:=aH (pZ (bZ _ _) (by decide)) z2
 have zt:=eB (eB (CL (by decide:1<3) _) (dQ (fC _ _) 3)) z1
 have d4:4<=d-1:=dk hd rfl;refine aA (dl hd rfl) rfl rfl (Hx (dk hd rfl) zt λs1 e1=>.ret ⟨bu,?_⟩);have h1:=h.nx e1;refine Nz d4 h1 hs z1 e1.lx λb L j hL=>?_;have bl:=j.len;have el:∀{tb:List V}{ks:List ai},(bI (ks.map (U tb))).length=ks.length:=(cT ..).trans (cT ..);have e0:=j.ans;refine Eh j.cR (qv (λhg=>?_) λhg=>?_)
 ·have ne:=List.length_pos_iff.mp (el▸hg)
  refine bz (by decide) (aZ j.ls.wd.w rfl rfl (vm (dk hd rfl) j.ls.eY j.ls.wt.g j.cR j.wk (di bl (eB (xJ (by decide)) z1)) λs3 e3 t3 kd3=>?_))
  have ev:∀F,Ak F (iV (bE af) 0 af []) (iV (bE af) 1 af [])=vN (U F (fF b.ks.flatten)):=λF=>e0▸az ne;exact sX (Q:=Q) (ev _).symm (k _ s3 (j.ext.trans e3.tlx) (j.ls.tx e3 t3 (bQ _ _) (j.ls.wt.g.aO _)) (j.pre.trans (bQ _ _)) (aH (cQ ..) (dQ (aH bl (aH (bZ _ _) (cK hz2))) 1)) λF p=>(ev F).trans ((au vN (g8 p kd3)).trans (ev _).symm))
 ·have n0:=List.length_eq_zero_iff.mp (Nat.le_zero.mp (el▸hg))
  refine VG j.cR (λ_=>⟨bu,?_⟩) λne=>absurd (List.map_eq_nil_iff.mpr n0) ne;refine Nz d4 j.ls (λx m=>(hs x m).pre j.pre) (aH (pZ (dQ bl _) (by decide)) z2) j.ext λb2 L2 j2 hL2=>?_
  have ev:∀F,Ak F (iV (bE af) 0 af []) (iV (bE af) 1 af [])=vj F b2.ks:=λF=>e0▸(ay λz=>z n0).trans (au (vj F) (j2.ans).symm);have gV:=ev b2.tb▸k b2.tb b2.σ j2.ext j2.ls (j.pre.trans j2.pre) (rP (aH (j2.len) (aH (dQ bl _) (cK hz2)))) λF p=>(ev F).trans ((VI p b2.ks λk m=>(j2.wk k m).kd).trans (ev _).symm);refine Eh j2.cR (qv (λhg=>?_) λhg=>?_)
  ·exact fz rfl (sX (VJ b2.tb b2.ks (el▸hg)).symm gV)
  ·refine VG j2.cR (λe=>⟨bu,sX (Q:=Q) (au (vj b2.tb) (List.map_eq_nil_iff.mp e)).symm gV⟩) λne=>?_
   obtain⟨x,ex⟩:=List.length_eq_one_iff.mp (Fg (el▸hg) (List.length_pos_iff.mpr λz=>ne (List.map_eq_nil_iff.mpr z)));exact dP j2.cR (au (λl:List ai=>(bI (l.map (U b2.tb)))[0]?) ex) (sX (Q:=Q) (au (vj b2.tb) ex).symm gV)
end
theorem at0:At (σ++(c::ds)) σ.length c:=(Az (aW _)).trans (by rw [CO];rfl)
theorem VK:(σ++(c::ds)).set σ.length e=σ++(e::ds):=(LK _ _ (aW _)).trans (by rw [CO];rfl)
theorem aaZ{c e f:bw}:(σ++(c::ds)++[f]).set σ.length e=σ++(e::(ds++[f])):=(au (λs:St=>s.set σ.length e) (rQ σ (c::ds) [f])).trans VK
theorem atk(h:X[k]?=some c):At (σ++X) (σ.length+k) c:=(Az (bZ _ _)).trans ((au (X[·]?) (Nat.add_sub_cancel_left ..)).trans h)
theorem pU(σ X:St):aY NX σ (σ++X):=⟨aH (bZ _ _) (cK List.length_append.symm),λl hl _=>vM hl⟩
theorem atU{Q:Fl->St->Prop}(e:s=s')(k:Q f s'):Q f s:=e▸k
theorem ah4(e:l1=l2)(f:d1=d2):σ++(bw.ns l1::d1)=σ++(bw.ns l2::d2):=by rw [e,f]
noncomputable abbrev r0(σ:St)(h p:V):aQ:=[some (.fE 477 σ.length),some h,some p]
section
theorem fS{e:E}(hl:l.length<100)(he:∀Q s,Q v s->pE TT C e (r0 σ h p) Q s)(el:pt n v l=l')(k:Q (.next (r0 σ h p)) (σ++(.ns l'::ds))):pS TT C (.bC (.var 0) n e) (r0 σ h p) Q (σ++(.ns l::ds)):=he _ _ (cV at0 hl (atU (VK.trans (au (λl=>σ++(.ns l::ds)) el)) k))
theorem fq(hl:l.length<100)(el:pt n (.ref (σ.length+(ds.length+1))) l=l')(ed:ds++[.dict []]=ds')(k:Q (.next (r0 σ h p)) (σ++(.ns l'::ds'))):pS TT C (.bC (.var 0) n (.dict [] [])) (r0 σ h p) Q (σ++(.ns l::ds)):=fW (cV at0.new hl (atU (Q:=Q) (aaZ.trans (ah4 ((au (λk=>pt n (.ref k) l) gH).trans el) ed)) k))
theorem ZA(hl:l.length<100)(el:pt n (.fE 414 (σ.length+(ds.length+1))) l=l')(ed:ds++[.ns []]=ds')(k:Q (.next (r0 σ h p)) (σ++(.ns l'::ds'))):pS TT C (.bC (.var 0) n (.call (.br (.cls 414)) [])) (r0 σ h p) Q (σ++(.ns l::ds)):=.of (a:=.fE 414 (σ++(bw.ns l::ds)).length) rfl (cV at0.new hl (atU (aaZ.trans (ah4 ((au (λk=>pt n (.fE 414 k) l) gH).trans el) ed)) k))
end
noncomputable def iNs(γ:Nat)(h p:V):List (Nm×V):=[(Ui,h),(Uj,p),(aCO,.ref (γ+1)),(Ex,.ref (γ+2)),(Ld,.ref (γ+3)),(ads,.ref (γ+4)),(Uk,.ref (γ+5)),(Ul,.ref (γ+6)),(YW,.int (-1)),(Le,.ref (γ+7)),(Ey,.ref (γ+8)),(zV,.ref (γ+9)),(zW,.bool false),(Ez,.ref (γ+10)),(EA,.fE 414 (γ+11)),(EB,.int (-1)),(zX,.int (-1)),(Lf,.ref (γ+12)),(Lg,p),(Um,.int (-1)),(tN,.int 0),(Un,.int 0),(oY,.int 0),(tO,.int 0),(qw,.int 1024),(HW,.int 0),(kO,.int 0),(adt,.ref (γ+13)),(Lh,.ref (γ+14)),(Li,.ref (γ+15)),(Uo,.ref (γ+16)),(Up,.ref (γ+17)),(EC,.ref (γ+18)),(u6,.int 0),(Uq,.lst []),(ED,.ref (γ+19))]
noncomputable def iDs:List bw:=[.dict [],.dict [],.dict [],.dict [],.dict [],.dict [],.dict [],.dict [],.dict [],.dict [],.ns [],.dict [],.dict [],.dict [],.dict [],.dict [],.dict [],.dict [],.dict []]
theorem Ed(hd:1<=d)(k:Q .none (σ++(.ns (iNs σ.length h (.aC ps))::iDs))):WP (aS TT FT d 453 [.fE 477 σ.length,h,.aC ps]) (σ++[.ns []]) Q:=by
 refine aA hd rfl rfl ?_;refine fS (bx rfl) (λ_ _ q=>q) rfl ?_;refine fS (bx rfl) (λ_ _ q=>WP.ret q) rfl ?_;refine fq (bx rfl) rfl rfl ?_;refine fq (bx rfl) rfl rfl ?_;refine fq (bx rfl) rfl rfl ?_;refine fq (bx rfl) rfl rfl ?_;refine fq (bx rfl) rfl rfl ?_;refine fq (bx rfl) rfl rfl ?_;refine fS (bx rfl) (λ_ _ q=>q) rfl ?_;refine fq (bx rfl) rfl rfl ?_;refine fq (bx rfl) rfl rfl ?_;refine fq (bx rfl) rfl rfl ?_;refine fS (bx rfl) (λ_ _ q=>q) rfl ?_;refine fq (bx rfl) rfl rfl ?_;refine ZA (bx rfl) rfl rfl ?_;refine fS (bx rfl) (λ_ _ q=>q) rfl ?_;refine fS (bx rfl) (λ_ _ q=>q) rfl ?_;refine fq (bx rfl) rfl rfl ?_;refine fS (bx rfl) (λ_ _ q=>WP.ret q) rfl ?_;refine fS (bx rfl) (λ_ _ q=>q) rfl ?_;refine fS (bx rfl) (λ_ _ q=>q) rfl ?_;refine fS (bx rfl) (λ_ _ q=>q) rfl ?_;refine fS (bx rfl) (λ_ _ q=>q) rfl ?_;refine fS (bx rfl) (λ_ _ q=>q) rfl ?_;refine fS (bx rfl) (λ_ _ q=>q) rfl ?_;refine fS (bx rfl) (λ_ _ q=>q) rfl ?_;refine fS (bx rfl) (λ_ _ q=>q) rfl ?_;refine fq (bx rfl) rfl rfl ?_;refine fq (bx rfl) rfl rfl ?_;refine fq (bx rfl) rfl rfl ?_;refine fq (bx rfl) rfl rfl ?_;refine fq (bx rfl) rfl rfl ?_;refine fq (bx rfl) rfl rfl ?_;refine fS (bx rfl) (λ_ _ q=>q) rfl ?_;refine fS (bx rfl) (λ_ _ q=>q) rfl ?_;refine fq (bx rfl) rfl rfl ?_;exact k
theorem ZC(hd:1<=d)(k:Q (.fE 477 σ.length) (σ++(.ns (iNs σ.length h (.aC ps))::iDs))):WP (k7 TT (aS TT FT d) (.cls 477) [h,.aC ps]) σ Q:=by
 show WP (M.bind (qb (.ns [])) λl=>M.bind (aS TT FT d 453 (.fE 477 l::[h,.aC ps])) (nZ 477 l)) σ Q;exact .bind (.of rfl (.bind (Ed hd (.ret k))))
noncomputable def nS(l:List (Nat×Nat))(m:Nat):Nat:=l.foldl (λm x=>min m x.2) m
theorem VL(l:List (Nat×Nat)):∀m k,nS l (min m k)=min (nS l m) k:=l.rec (λ_ _=>rfl) λx r ih m k=>(au (nS r) (Nat.min_right_comm m k x.2)).trans (ih _ _)
theorem ZD(l:List (Nat×Nat)):∀m,nS l m<=m:=l.rec (λ_=>aW _) λx r ih m=>aH (ih _) (AH _ _)
theorem VM(l:List (Nat×Nat)):∀m,∀x∈l,nS l m<=x.2:=l.rec (λ_ _=>bg) λy r ih m x h=>(fY h).elim (λe=>e▸aH (ZD r _) (tZ _ _)) (ih _ x)
theorem EX(h:x∈l):o5 l x=l:=az h
theorem Al(h:x∉l):o5 l x=l++[x]:=ay h
theorem II(l:List (Nat×Nat))(x:Nat×Nat)(m:Nat):nS (o5 l x) m=min (nS l m) x.2:=(c6 (x∈l)).elim (λh=>(au (nS · m) (EX h)).trans (nW (VM l m x h)).symm) λh=>(au (nS · m) (Al h)).trans List.foldl_append
noncomputable def Am(ls:Bool->List (Nat×Nat)):Nat:=nS (ls true) (nS (ls false) 1024)
theorem IJ(ls:Bool->List (Nat×Nat))(b:Bool)(x:Nat×Nat):Am (gX ls b (o5 (ls b) x))=min (Am ls) x.2:=b.rec ((au (nS (ls true)) (II (ls false) x 1024)).trans (VL ..)) (II (ls true) x _)
theorem Qc(tb:List V)(af:bR):∀ls:Bool->List (Nat×Nat),Am ls<=1024->Am (lS tb af ls)=min (Am ls) (bE af):=af.rec (λls h=>(nW h).symm) λx r ih ls h=>(ih _ (aH (cK (IJ ..)) (aH (AH _ _) h))).trans ((au (min · (bE r)) (IJ ls _ (U tb (cH x.1),x.2.1))).trans (Nat.min_assoc ..))
noncomputable def fZ(m:Nat)(l:List (Nat×Nat)):List Nat:=(l.filter λx=>decide (x.2=m)).map Prod.fst
section
theorem VN(h:r=m):fZ m (l++[(u,r)])=fZ m l++[u]:=by
 unfold fZ;rw [List.filter_append,mh,I2 (a:=(u,r)) (dj h)];rfl
theorem VO(h:r≠m):fZ m (l++[(u,r)])=fZ m l:=by
 unfold fZ;rw [List.filter_append,mh,CK (a:=(u,r)) λz=>h (bx z)];exact kX _
theorem IK:u∈fZ m l↔(u,m)∈l:=⟨λh=>(List.mem_map.mp h).elim λx z=>have f:=List.mem_filter.mp z.1;(Prod.ext z.2 (bx f.2):x=(u,m))▸f.1,λh=>List.mem_map.mpr ⟨(u,m),List.mem_filter.mpr ⟨h,dj rfl⟩,rfl⟩⟩
theorem VP(h:r=m):fZ m (o5 l (u,r))=if u∈fZ m l then fZ m l else fZ m l++[u]:=(c6 ((u,r)∈l)).elim (λq=>(au (fZ m) (EX q)).trans (az (IK.mpr (h▸q))).symm) λq=>(au (fZ m) (Al q)).trans ((VN h).trans (ay λz=>q (h▸IK.mp z)).symm)
theorem ZE(h:r≠m):fZ m (o5 l (u,r))=fZ m l:=(c6 ((u,r)∈l)).elim (λq=>au (fZ m) (EX q)) λq=>(au (fZ m) (Al q)).trans (VO h)
end
theorem IL(h:x∈IG l k):x∈l\/x=k:=(c6 (k∈l)).elim (λq=>.inl ((az q:IG l k=l)▸h)) λq=>(tW ((ay q:IG l k=l++[k])▸h)).imp id dG
section
theorem ZF(kx:Kd tb (cH x.1))(hl:∀k∈l,Kd tb k):∀k∈wQ m sd l x,Kd tb k:=λk h=>(c6 (x.2.1=m/\x.2.2=sd)).elim (λc=>(IL ((az c:wQ m sd l x=IG l (cH x.1))▸h)).elim (hl k) λe=>e▸kx) λc=>hl k ((ay c:wQ m sd l x=l)▸h)
theorem Qd(g:bW tb)(hb:decide (x.2.2≠0)=b↔x.2.2=sd)(kx:Kd tb (cH x.1))(hl:∀k∈l,Kd tb k)(h:fZ m (ls b)=l.map (U tb)):fZ m (gX ls (decide (x.2.2≠0)) (o5 (ls (decide (x.2.2≠0))) (U tb (cH x.1),x.2.1)) b)=(wQ m sd l x).map (U tb):=by
 unfold wQ;by_cases c:x.2.2=sd
 ·rw [hb.mpr c,mY]
  by_cases q:x.2.1=m
  ·rw [VP q,h]
   have e:(if x.2.1=m/\x.2.2=sd then IG l (cH x.1)else l)=IG l (cH x.1):=az (And.intro q c);have mu:=VF g kx hl;exact(c6 (cH x.1∈l)).elim (λz=>(az (mu.mpr z)).trans (au (List.map (U tb)) (e.trans (az z))).symm) λz=>(ay λy=>z (mu.mp y)).trans ((mh).symm.trans (au (List.map (U tb)) (e.trans (ay z))).symm)
  ·rw [ZE q,ay λz=>q z.1];exact h
 ·rw [pQ λe=>c (hb.mp e.symm),ay λz=>c z.2];exact h
theorem CH(g:bW tb)(hb:∀n,n<=1->(decide (n≠0)=b↔n=sd))(af:bR):∀(ls:Bool->List (Nat×Nat))(l:List ai),(∀x∈af,Kd tb (cH x.1))->(∀x∈af,x.2.2<=1)->(∀k∈l,Kd tb k)->fZ m (ls b)=l.map (U tb)->fZ m (lS tb af ls b)=(iV m sd af l).map (U tb)/\∀k∈iV m sd af l,Kd tb k:=af.rec (λ_ _ _ _ hl h=>⟨h,hl⟩) λx r ih ls l hk hs hl h=>have kx:=hk x cC
  ih _ _ (λy q=>hk y (cP _ q)) (λy q=>hs y (cP _ q)) (ZF kx hl) (Qd g (hb _ (hs x cC)) kx hl h)
end
noncomputable def coW(o:Option Nat):V:=o.elim (.lst []) .ref
theorem Qe(o:Option Nat)(h:Uv a σ o l):gR (coW o) (l.map fR) σ:=Option.casesOn o (λh=>(au (List.map fR) h).symm) (λx h=>h.1) h
theorem VQ(o:Option Nat):gn (.int (-2)) (Us o)=true/\(bJ (.int (-2)) (Us o)).getD (.lst [])=coW o:=o.rec ⟨rfl,rfl⟩ λ_=>⟨rfl,rfl⟩
noncomputable abbrev gB(b:Bool):Nat:=if b then 2 else 1
structure BeS where
 m:Nat
 x:Option V
 y:Option V
noncomputable def ah5:List Mine.S:=[.dK (.nM [4,5]) (.bA (.var 3) vW [.var 1,.list []]) [.ite (.aM .lt (.var 5) (.var 2)) [.set 2 (.var 5)] []]]
section
theorem GS.items(h:GS a g tb σ)(b:Bool):gR (coW (g.co b)) ((g.ls b).map fR) σ:=Qe (g.co b) (h.l b)
theorem GS.dct(h:GS a g tb σ)(b:Bool):At σ (a.γ+gB b) (.dict (Us (g.co b))):=b.rec (h.u9 1 _ rfl) (h.u9 2 _ rfl)
theorem VS(h:GS a g tb σ)(b:Bool)(k:Q (coW (g.co b)) σ):WP (gZ TT C (.ref (a.γ+gB b)) vW 2 [.int (-2),.lst []]) σ Q:=Sz (h.dct b) (VQ (g.co b)).1 (sX (VQ (g.co b)).2 k)
theorem NB(h:GS a g tb σ)(b:Bool)(y4 y5:Option V)(K:Fl->St->Prop)(kk:∀z4 z5,K (.next [some (G a),some (.int (-2)),some (vN (nS (g.ls b) m)),some (.ref (a.γ+gB b)),z4,z5]) σ):
  iJ TT C ah5 [some (G a),some (.int (-2)),some (vN m),some (.ref (a.γ+gB b)),y4,y5] K σ:=by
 refine iZ (h.dct b) (.inl rfl) (VS h b ((h.items b).wp (bD fR (λs:BeS=>[some (G a),some (.int (-2)),some (vN s.m),some (.ref (a.γ+gB b)),s.x,s.y]) (λ_=>σ) (λr s=>nS r s.m=nS (g.ls b) m) (λ_=>(h.items b).dO) (λx r s K2 e kn _=>?_) (λs e=>?_) (g.ls b) ⟨m,y4,y5⟩ rfl)))
 ·refine H9 (λq=>?_) λq=>?_
  ·exact kn ⟨x.2,some (vN x.1),some (vN x.2)⟩ ((au (nS r) (AF (fT q)).symm).trans e)
  ·exact kn ⟨s.m,some (vN x.1),some (vN x.2)⟩ ((au (nS r) (nW q).symm).trans e)
 ·exact(show s.m=nS (g.ls b) m from e)▸kk s.x s.y
theorem ZG(hd:1<=d)(h:GS a g tb σ)(k:Q (vN (Am g.ls)) σ):WP (aS TT FT d 644 [G a,.int (-2)]) σ Q:=aA hd rfl rfl (o_attr h.ns rfl (o_attr h.ns rfl (.ret ⟨bu,NB h false _ _ _ λz4 z5=>⟨bu,NB h true _ _ _ λw4 w5=>⟨bu,k⟩⟩⟩)))
theorem NC(b:Bool)(hd:1<=d)(h:GS a g tb σ)(hl:(g.ls b).length<=cu)(k:∀s',aY NX σ s'->Q (.lst (bI (fZ m (g.ls b)))) s'):WP (aS TT FT d 649 [.ref (a.γ+gB b),.int (-2),vN m]) σ Q:=aA hd rfl rfl (iZ (h.dct b) (.inl rfl) (VS h b ((h.items b).wp (lH fR (λx=>decide (x.2=m)) (λx=>vN x.1) (λys=>((h.items b).ext ((aY.refl σ).new _)).dO) hl
  (λx hx ys K k1 k2=>bG (λq=>k1 (dj q)) λq=>k2 (dg q)) (sX (Q:=Q) (au V.lst (oN Prod.fst _)) (k _ ((aY.refl σ).new _)))))))
end
def WX{α:Type}(m:M α)(s:St)(Q:α->St->Prop)(R:St->Prop):Prop:=(∃a s',m s=.ok a s'/\Q a s')\/∃s',m s=.exc s'/\R s'
section
variable{α β:Type}{f:α->M β}
theorem WX.of_wp(h:WP m s Q):WX m s Q R:=.inl h.out
theorem WX.exc(e:m s=.exc s')(r:R s'):WX m s Q R:=.inr ⟨s',e,r⟩
theorem WX.eq(e:m s=m' s')(h:WX m' s' Q R):WX m s Q R:=h.imp (λq=>q.imp λa q=>q.imp λs2 q=>⟨e.trans q.1,q.2⟩) λq=>q.imp λs2 q=>⟨e.trans q.1,q.2⟩
theorem WX.ND(h:WX m s (λa s'=>WX (f a) s' P R) R):WX (M.bind m f) s P R:=h.elim (λh=>h.elim λa h=>h.elim λs1 h=>.eq (au (λo:fH α=>o.bind f) h.1) h.2) λh=>h.elim λs1 h=>.inr ⟨s1,au (λo:fH α=>o.bind f) h.1,h.2⟩
theorem WX.bind(h:WP m s λa s'=>WX (f a) s' P R):WX (M.bind m f) s P R:=.ND (.of_wp h)
end
theorem IM(b a:List Mine.S):∀(ρ:aQ)(s:St),eZ T C (a++b) ρ s=M.bind (eZ T C a ρ) (Au (eZ T C b)) s:=a.rec (λ_ _=>rfl) λx a ih ρ s=>fH.casesOn (motive:=λo=>o.bind (Au (eZ T C (a++b)))=(o.bind (Au (eZ T C a))).bind (Au (eZ T C b))) (i8 T C x ρ s) (λf s1=>Fl.casesOn f (λρ1=>ih ρ1 s1) λ_=>rfl) (λ_=>rfl) rfl
noncomputable def bxQ(T:iL)(C:Nat->List V->M V)(b2:List Mine.S)(Q:V->St->Prop)(R:St->Prop)(fl:Fl)(s:St):Prop:=Fl.casesOn (motive:=λ_=>Prop) fl (λρ=>WX (eZ T C b2 ρ) s (dY Q) R) λv=>Q v s
theorem ad1(fl:Fl)(s:St)(h:dY Q fl s):WX (abr fl) s Q R:=.of_wp (Fl.casesOn fl (λ_ q=>.ret q) (λ_ q=>.ret q) h)
theorem ad2(hd:1<=d)(hf:FT a=some f)(eb:f.body=b1++b2)(ha:f.Q2 args=true)
  (h:iJ T (aS T FT (d-1)) b1 (f.env args) (bxQ T (aS T FT (d-1)) b2 Q R) s):WX (aS T FT d a args) s Q R:=(NL hd:d-1+1=d)▸.bind (.nV hf ((az ha).symm▸.ND (eb▸.eq (IM b2 b1 (f.env args) s)
  (.bind (.mono (sSs b1 (f.env args) _ s h) λfl s'=>Fl.casesOn fl (λρ q=>q.imp (λq=>q.imp λr q=>q.imp λs2 q=>⟨q.1,ad1 r s2 q.2⟩) id) λv q=>.of_wp (.ret (.of_wp (.ret q))))))))
noncomputable def wS(v:Bool):List Nat:=if v then [32,22,23]else [22]
theorem ad3:∀v,gW v∈wS v/\(∀p∈wS v,((base v)[p]?.any λr=>decide (∀q∈iT r,q∈wS v))=true)/\((base v)[gW v]?.any λr=>decide (∀q∈wS v,q=gW v\/q∈iT r))=true:=by decide+kernel
theorem ad4:∀v,lP (wS v)++[2]=tM v:=by decide+kernel
theorem An{α:Type}{o:Option α}{f:α->Bool}(h:o.any f=true):∃x,o=some x/\f x=true:=Option.casesOn (motive:=λo=>o.any f=true->∃x,o=some x/\f x=true) o ff (λx h=>⟨x,rfl,h⟩) h
theorem d8.alO{tb:List V}{S:List Nat}(c:∀p∈S,∃r,tb[p]?=some r/\∀q∈iT r,q∈S){p q:Nat}(r:d8 tb p q):p∈S->q∈S:=by
 induction r with
 |refl=>exact id
 |step e hq _ ih=>exactλhp=>ih ((c _ hp).elim λr z=>z.2 _ (bV (e.symm.trans z.1)▸hq))
theorem LJ{a b:List Nat}(h:∀q,q∈a↔q∈b)(i:Nat):i∈lP a↔i∈lP b:=List.mem_map.trans ((exists_congr λq=>and_congr (List.mem_filter.trans ((and_congr (h q) kH).trans List.mem_filter.symm)) kH).trans List.mem_map.symm)
theorem ah6{v:Bool}{mk:aT}{tb:List V}(w:Wt v mk tb){ps:List Nat}(QA:∀q,q∈ps↔d8 tb (gW v) q)(i:Nat):i∈lP ps++[2]↔i∈tM v:=by
 have f:=ad3 v;have mem:∀q,q∈ps↔q∈wS v:=λq=>(QA q).trans ⟨λr=>r.alO (λp hp=>(An (f.2.1 p hp)).elim λr z=>⟨r,w.b.get z.1,bx z.2⟩) f.1,λm=>(An f.2.2).elim λr z=>(bx z.2 q m).elim (λe=>e▸.refl _) λk=>.step (w.b.get z.1) k (.refl _)⟩;exact List.mem_append.trans ((j6 (LJ mem i) kH).trans (List.mem_append.symm.trans (ad4 v▸kH)))
theorem P9.aR(h:P9 tb k)(hp:p∈k):P9 tb [p]:=⟨.aR (h.kd.dc p hp),λq m=>dG m▸h.p1 p hp,.aR p,λq m=>dG m▸h.few p hp⟩
structure StS where
 D:ai
 σ:St
 x:Option V
section
variable{v:Bool}{mk:aT}{a:Ad}{g:GR}{tb:List V}{σ:St}{d:Nat}{Q:V->St->Prop}
theorem Qf(hd:5<=d)(h:GS a g tb σ)(w:Wt v mk tb)(hK:∀p∈K,P9 tb [p])(kd:Kd tb K)(Ay:Canon K)(hl:K.length<=64)(hz:tb.length<cu)
  (k:∀cL s',f9 s' cL->eT tb cL->bW cL->cL.length<=tb.length+1->GX a g σ g s'->Kd cL K->Q (vN (U cL K)) s'):WP (aS TT FT d 656 [G a,vN (U tb K)]) σ Q:=by
 refine aA (dl hd rfl) rfl rfl (o_attr h.ns rfl (o_attr h.st.h rfl (lF (dk hd rfl) (h.eY.new _) w.g kd (.ret (bD vN (λb:StS=>[some (G a),some (vN (U tb K)),some jv,some (.ref σ.length),b.x]) (λb=>b.σ) (λr b=>b.D++r=K/\aY NX σ b.σ/\At b.σ σ.length (.list (bI b.D))) ?_ (λp r b K2 i kn _=>?_) (λb i=>?_) K ⟨[],σ++[.list []],none⟩ ⟨rfl,(aY.refl σ).new _,bS⟩)))))
 ·exactλ_=>bu
 ·have h1:=h.nx i.2.1
  obtain⟨r_,o⟩:=((hK p (i.1▸kU _ cC)).p1 p cC).ok;have app:WP (gZ TT (aS TT FT (d-1)) (.ref σ.length) j9 1 [vN p]) b.σ λ_ s2=>K2 (.next [some (G a),some (vN (U tb K)),some jv,some (.ref σ.length),some (vN p)]) s2:=by
   refine lD i.2.2 (di (aH (cK (cT ..)) (aH (aH (bZ _ _) (cK (List.length_append.symm.trans (au List.length i.1)))) hl)) (by decide)) ?_
   have e:=(mh (f:=vN) (l₁:=b.D) (l₂:=[p])).symm;exact kn ⟨b.D++[p],b.σ.set σ.length (.list (bI b.D++[vN p])),some (vN p)⟩ ⟨(rQ ..).trans i.1,i.2.1.set (.inr (aW _)) _,e▸i.2.2.dS⟩
  refine oM i.2.2 (.inl rfl) (rB h1.eY o (dk hd rfl) (aL ?_));cases hw:(bf p).isSome with
  |true=>exact app
  |false=>exact o_attr h1.ns rfl (bT h1.st.m rfl rfl (aA (dk hd rfl) rfl rfl app))
 ·have eD:=(kX _).symm.trans i.1
  have h1:=h.nx i.2.1;have e2:=au bI (((nK).trans (show K.map (λp=>U tb [p])=K from List.map_id K)).trans eD.symm);refine vm (dk hd rfl) h1.eY w.g (e2▸i.2.2) (λx m=>(List.mem_map.mp m).elim λp z=>z.2▸hK p z.1) hz ?_;rw [Aa,jz Ay];exactλs3 e3 t3 kd3=>k _ s3 t3 (bQ _ _) (w.g.aO _) (cQ _ _) ((GX.tP h i.2.1).trans (GX.Uw h1 e3)) kd3
end
structure Oa where
 γ:Nat
 h:Nat
 m:Nat
 r1:Nat
 r2:Nat
 r3:Nat
noncomputable def NF(o:Oa)(lv dp be st:Nat):List (Nm×V):=[(Ui,.fE 926 o.h),(Uj,.aC [.int 0]),(aCO,.ref (o.γ+1)),(Ex,.ref (o.γ+2)),(Ld,.ref (o.γ+3)),(ads,.ref (o.γ+4)),(Uk,.ref (o.γ+5)),(Ul,.ref (o.γ+6)),(YW,.int (-1)),(Le,.ref (o.γ+7)),(Ey,.ref (o.γ+8)),(zV,.ref (o.γ+9)),(zW,.bool false),(Ez,.ref (o.γ+10)),(EA,.fE 943 o.m),(EB,.int (-1)),(zX,.int (-1)),(Lf,.ref (o.γ+12)),(Lg,.aC [.int 0]),(Um,.int (-1)),(tN,.int 0),(Un,.int 0),(oY,vN lv),(tO,vN dp),(qw,vN be),(HW,.int 0),(kO,vN st),(adt,.ref (o.γ+13)),(Lh,.ref (o.γ+14)),(Li,.ref (o.γ+15)),(Uo,.ref (o.γ+16)),(Up,.ref (o.γ+17)),(EC,.ref (o.γ+18)),(u6,.int 0),(Uq,.lst []),(ED,.ref (o.γ+19))]
noncomputable def IQ(o:Oa)(γ:Nat)(wl:List Nat):Ad:=⟨γ,o.h,o.m,o.γ+12,o.r1,o.r2,o.r3,wl⟩
structure alP(o:Oa):Prop where
 g:14<=o.γ
 h:14<=o.h
 m:14<=o.m
 r1:14<=o.r1
 r2:14<=o.r2
 r3:14<=o.r3
structure ONe(o:Oa):Prop where
 h:o.γ≠o.h
 m:o.γ≠o.m
 r1:o.γ≠o.r1
 r2:o.γ≠o.r2
 r3:o.γ≠o.r3
structure OLt(o:Oa)(γ:Nat):Prop where
 g:o.γ+12<γ
 h:o.h<γ
 m:o.m<γ
 r1:o.r1<γ
 r2:o.r2<γ
 r3:o.r3<γ
structure e9(o:Oa)(lv dp be st:Nat)(σ:St):Prop where
 ns:At σ o.γ (.ns (NF o lv dp be st))
 co:At σ (o.γ+1) (.dict [])
 Ao:At σ (o.γ+2) (.dict [])
 st:HZ (IQ o 0 []) σ
 qJ:alP o
 nh:ONe o
section
variable{lv dp be st:Nat}
theorem e9.keep(h:e9 o lv dp be st σ)(k:∀l c,14<=l->At σ l c->At dM l c):e9 o lv dp be st dM:=
 have b:=h.qJ
 ⟨k _ _ b.g h.ns,k _ _ (rP b.g) h.co,k _ _ (QH b.g) h.Ao,⟨k _ _ b.h h.st.h,k _ _ b.m h.st.m,k _ _ (QH b.g) h.st.r,k _ _ b.r1 h.st.r1,k _ _ b.r2 h.st.r2,k _ _ b.r3 h.st.r3⟩,b,h.nh⟩
theorem ah7(hl:14<=l)(q:LX l):False:=q.elim (λq=>absurd (q▸hl) (by decide)) λq=>q.elim (λq=>absurd (q▸hl) (by decide)) λq=>q.elim (λq=>absurd (q▸hl) (by decide)) λq=>absurd (q▸hl) (by decide)
theorem e9.lx(h:e9 o lv dp be st σ)(e:aY LX σ dM):e9 o lv dp be st dM:=h.keep λl c hl a=>e.at (ah7 hl) a
theorem e9.nx(h:e9 o lv dp be st σ)(e:aY NX σ dM):e9 o lv dp be st dM:=h.lx e.lx
theorem e9.tx(h:e9 o lv dp be st σ)(e:aY TX σ dM):e9 o lv dp be st dM:=h.lx e.tlx
theorem Aq(h:0<k):a≠a+k:=t8 (xJ h)
theorem e9.set(h:e9 o lv dp be st σ)(e:pt n x (NF o lv dp be st)=NF o lv' rL EY st'):e9 o lv' rL EY st' (σ.set o.γ (.ns (pt n x (NF o lv dp be st)))):=
 have n:=h.nh
 ⟨e▸h.ns.dS,h.co.bF (Aq (by decide)),h.Ao.bF (Aq (by decide)),⟨h.st.h.bF n.h,h.st.m.bF n.m,h.st.r.bF (Aq (by decide)),h.st.r1.bF n.r1,h.st.r2.bF n.r2,h.st.r3.bF n.r3⟩,h.qJ,n⟩
theorem pV:(NF o lv dp be st).length<100:=bx rfl
theorem e9.gx(h:e9 o lv dp be st s)(c:OLt o γ)(x:GX (IQ o γ wl) g s g' s'):e9 o lv dp be st s':=
 have b:=h.qJ;have k:∀l c,14<=l->l<γ->At s l c->At s' l c:=λl c h1 h2 q=>x.at q (.inl ⟨h2,λe=>absurd (e▸h1) (by decide),λe=>absurd (e▸h1) (by decide)⟩)
 have lt:∀{j},j<=12->o.γ+j<γ:=λh=>di (cG h _) c.g
 ⟨k _ _ b.g (lt (fD _)) h.ns,k _ _ (rP b.g) (lt (by decide)) h.co,k _ _ (QH b.g) (lt (by decide)) h.Ao,⟨k _ _ b.h c.h h.st.h,k _ _ b.m c.m h.st.m,k _ _ (QH b.g) c.g h.st.r,k _ _ b.r1 c.r1 h.st.r1,k _ _ b.r2 c.r2 h.st.r2,k _ _ b.r3 c.r3 h.st.r3⟩,b,h.nh⟩
theorem LS.keep{mk:aT}(h:LS c mk tb a s)(k:∀l x,l<14->l≠3->l≠4->At s l x->At s' l x)(t:f9 s' cL)(p:eT tb cL)(gd:bW cL):LS c mk cL a s':=⟨⟨k _ _ (by decide) (by decide) (by decide) h.wd.w,k _ _ (by decide) (by decide) (by decide) h.wd.zz,k _ _ (by decide) (by decide) (by decide) h.wd.eN,k _ _ (by decide) (by decide) (by decide) h.wd.Hs,k _ _ (by decide) (by decide) (by decide) h.wd.mT⟩,t,h.wt.pre p gd,h.ok⟩
theorem LS.gx{mk:aT}(h:LS c mk tb a s)(QC:14<=γ)(x:GX (IQ o γ wl) g s g' s')(t:f9 s' cL)(p:eT tb cL)(gd:bW cL):LS c mk cL a s':=h.keep (λl c h1 h2 h3 q=>x.at q (.inl ⟨eB h1 QC,h2,h3⟩)) t p gd
end
theorem CI(OG:ρ[i]?=some (some (.fE 477 σ.length)))(hl:l.length<100)(he:∀Q:V->St->Prop,Q v (σ++(.ns l::ds))->pE TT C e ρ Q (σ++(.ns l::ds)))(el:pt n v l=l')(k:Q (.next ρ) (σ++(.ns l'::ds))):pS TT C (.bC (.var i) n e) ρ Q (σ++(.ns l::ds)):=by
 refine he _ ?_;show Br (ρ[i]?.bind id) _;rw [OG];exact cV at0 hl (atU (VK.trans (au (λl=>σ++(.ns l::ds)) el)) k)
theorem ad5(k:Q (.aC xs) s):WP (k7 TT C (.bi 4) [.lst xs]) s Q:=jo (T:=TT) (f:=ZU 4) rfl k
theorem ZH(i:Nat):O4 (G5 i):=⟨rfl,rfl,(by decide:1<=8)⟩
theorem ZI(a b:Nat):O4 (SG a b):=⟨rfl,rfl,(by decide:1<=8)⟩
noncomputable def Ar(st lv dp:Nat)(I1:V):GR:=⟨0,lv,dp,1024,0,st,I1,λ_=>none,λ_=>[],[],[],[],[],[]⟩
theorem ad6(ho:e9 o lv dp be st s)(ht:f9 s tb)(QC:14<=γ)(c:OLt o γ)
  (u9:∀k c,(bw.ns (E6 (IQ o γ wl) (Ar st' lv' rL (.ref (γ+18))))::iDs)[k]?=some c->At s (γ+k) c):GS (IQ o γ wl) (Ar st' lv' rL (.ref (γ+18))) tb s:=
 have b:=ho.qJ;have lw:∀l,14<=l->l<γ->Pz (IQ o γ wl) l:=λl h q=>⟨q,λe=>absurd (e▸h) (by decide),λe=>absurd (e▸h) (by decide)⟩
 ⟨u9,λb=>rfl,λx b c e=>(nomatch e),⟨ho.st.h,ho.st.m,ho.st.r,ho.st.r1,ho.st.r2,ho.st.r3⟩,⟨lw _ b.h c.h,lw _ b.m c.m,lw _ (QH b.g) c.g,lw _ b.r1 c.r1,lw _ b.r2 c.r2,lw _ b.r3 c.r3,QC⟩,ht⟩
noncomputable def EZ(kk tp ad:Nat):V:=.aC [.int 17,.int 2,vN kk,.int (-1),vN tp,vN ad,.int 0]
noncomputable def j5(gG:ai)(ad:Nat):ai:=if ad=1 then fF (gG++[4])else gG
section
variable{P:ai->Prop}
theorem vn(h1:ad=1->P (fF (gG++[4])))(h2:ad≠1->P gG):P (j5 gG ad):=(c6 (ad=1)).elim (λh=>(au P (az h:j5 gG ad=_)).mpr (h1 h)) λh=>(au P (ay h:j5 gG ad=_)).mpr (h2 h)
theorem ZJ(h:p∈fF (gG++[4])):p∈gG\/p=4:=(tW (dZ h)).imp id dG
theorem ad7(ht:VA mk gG):Kd tb (j5 gG ad)->TK tb mk (j5 gG ad):=vn (P:=λt=>Kd tb t->TK tb mk t) (λ_ kd=>⟨⟨aH (vg _) (lY ht.len),λp hp=>(ZJ hp).elim (ht.dc p) λe=>.inl (e▸by decide)⟩,canon_sum _,kd⟩) λ_ kd=>⟨⟨aH ht.len (by decide),ht.dc⟩,ht.Ay,kd⟩
theorem ZK(ht:VA mk gG):∀p∈j5 gG ad,∀q∈j5 gG ad,bU mk p->bU mk q->p=q:=vn (P:=λt=>∀p∈t,∀q∈t,bU mk p->bU mk q->p=q) (λ_ p hp q hq c1 c2=>ht.aR p ((ZJ hp).resolve_right λe=>absurd (e▸c1.1) (by decide)) q ((ZJ hq).resolve_right λe=>absurd (e▸c2.1) (by decide)) c1 c2) λ_=>ht.aR
end
theorem VT(af:bR):∀l:List ai,k∈iV m sd af l->k∈l\/∃x∈af,k=cH x.1:=af.rec (λ_ h=>.inl h) λx r ih l h=>(ih _ h).elim (λq=>(c6 (x.2.1=m/\x.2.2=sd)).elim (λc=>(IL ((az c:wQ m sd l x=IG l (cH x.1))▸q)).imp id λe=>⟨x,cC,e⟩) λc=>.inl ((ay c:wQ m sd l x=l)▸q)) λq=>.inr (q.imp λy z=>⟨cP _ z.1,z.2⟩)
theorem o8(b:Bool)(e:(! xs.isEmpty)=b)(k:Q b s):WP (gK T (.lst xs)) s Q:=jo (T:=T) (f:=CV) rfl (e.symm▸k)
theorem ad8(h:l≠[]):(!(bI (l.map f)).isEmpty)=true:=CA λe=>h (List.map_eq_nil_iff.mp e)
structure ANe(a:Ad)(x:Nat):Prop where
 h:a.h≠x
 m:a.m≠x
 r:a.r≠x
 r1:a.r1≠x
 r2:a.r2≠x
 r3:a.r3≠x
theorem GS.low(h:GS a g tb σ)(e:aY (λl=>l=x) σ dM)(h1:x<a.γ)(h2:14<=x)(n:ANe a x):GS a g tb dM:=⟨λk c q=>e.at (λz=>kY _ (eB h1 (z▸bZ _ _))) (h.u9 k c q),λb=>(h.l b).ext e λy q z=>kY _ (xK h1 (di (bZ _ 19) (z▸(h.clt q).1))),h.c12,⟨e.at n.h h.st.h,e.at n.m h.st.m,e.at n.r h.st.r,e.at n.r1 h.st.r1,e.at n.r2 h.st.r2,e.at n.r3 h.st.r3⟩,h.ok,h.eY.ext e ⟨λz=>absurd (z▸h2) (by decide),λz=>absurd (z▸h2) (by decide),λz=>absurd (z▸h2) (by decide)⟩⟩
theorem As(hd:5<=d)(ht:f9 s tb)(w:Wt v mk tb)(tm:VA mk gG)(kd:Kd tb gG)(hz:tb.length<cu)
  (k:∀cL s',aY TX s s'->f9 s' cL->eT tb cL->bW cL->cL.length<=tb.length+1->Kd cL (j5 gG ad)->Q (vN (U cL (j5 gG ad))) s'):WP (aS TT FT d 741 [jv,EZ kk (U tb gG) ad]) s Q:=by
 refine aA (dl hd rfl) rfl rfl (aI rfl (bG (λq=>?_) λq=>?_))
 ·have dc:∀p∈gG++[4],P1 tb p:=λp hp=>(vd w ((tW hp).elim (tm.dc p) λq=>.inl (dG q▸by decide))).it
  have ef:[gG,[4]].flatten=gG++[4]:=by rw [List.flatten_cons,List.flatten_singleton]
  refine aI rfl (aA (dk hd rfl) rfl rfl (sZ [gG,[4]] (dk (dk hd rfl:4<=d-1) rfl) ht w.g rfl (λu hu=>(fY hu).elim (λe=>e▸kd) λhu=>dG hu▸.aR (dc 4 (kU _ cC)).dc) (λp hp=>(dc p (ef▸hp)).ok) (ef▸di (gC _) (di (lY tm.len) (by decide))) hz ?_))
  rw [ef,show fF (gG++[4])=j5 gG ad from(az q).symm];exactλs1 e1 t1=>k _ s1 e1 t1 (bQ _ _) (w.g.aO _) (cQ _ _) (.aO λp hp=>(dc p (dZ ((az q:j5 gG ad=fF (gG++[4]))▸hp))).dc)
 ·have e:j5 gG ad=gG:=ay q
  exact aI rfl (e▸k tb s (.refl _) ht (.refl _) w.g (gD _) (e.symm▸kd))
section
variable{c:L0}{mk:aT}{ax d:Nat}{Q:V->St->Prop}
theorem ah8:∀n,n<=1->(decide (n≠0)=false↔n=0):=by decide
theorem ah9:∀n,n<=1->(decide (n≠0)=true↔n=1):=by decide
theorem ad9(hC:1<=C)(h:xs.length=3):aS TT FT C 392 xs σ=.exc σ:=by
 obtain⟨n,rfl⟩:=Wn (Nat.ne_of_gt hC)
 match xs,h with
 |[_,_,_],_=>rfl
theorem aea(hd:10<=d)(h:LS c mk tb ax s)(ho:e9 o lv dp be st s)(gs:GS (IQ o γ wl) g tb s)(h2:OLt o γ)
  (hls:g.ls=lS tb af λ_=>[])(QB:∀x∈af,Kd tb (cH x.1))(qx:∀x∈af,x.2.2<=1)(cD:∀x∈af,jQ tb mk x.1)(hln:∀b,(g.ls b).length<=cu)(hz:tb.length+10<cu)
  (k:∀cL s',LS c mk cL ax s'->e9 o lv dp be st s'->eT tb cL->cL.length<=tb.length+2->Q (Ak cL (iV (bE af) 0 af []) (iV (bE af) 1 af [])) s'):
  iJ TT (aS TT FT d) ((cj.body.take 16).drop 11) [some (.fE 477 o.γ),some x1,some x2,some x3,some jv,some (.fE 477 γ),z6,z7] (bxQ TT (aS TT FT d) (cj.body.drop 16) Q λs'=>Q (.int (-1)) s') s:=by
 have QC:=gs.ok.g;have eb:=(au Am hls).trans ((Qc tb af (λ_=>[]) (aW _)).trans (AF (tR af)));have k0:=CH h.wt.g (m:=bE af) ah8 af (λ_=>[]) [] QB qx (λ_=>bg) rfl;have k1:=CH h.wt.g (m:=bE af) ah9 af (λ_=>[]) [] QB qx (λ_=>bg) rfl;rw [←hls]at k0 k1;have wk:∀sd,∀u∈iV (bE af) sd af [],P9 tb u:=λsd u hu=>(VT af _ hu).elim bg λq=>q.elim λx z=>z.2▸VE h.wt (cD x z.1).cD (QB x z.1);refine ZG (dl hd rfl) gs ?_;rw [eb];refine o_attr gs.ns rfl (NC false (dl hd rfl) gs (hln false) λs1 e1=>?_);have gs1:=gs.nx e1;have We:=ho.nx e1;have h1:=h.nx e1;rw [k0.1];have w0:=wk 0;revert k;generalize iV (bE af) 0 af []=A0 at k0 w0⊢;generalize iV (bE af) 1 af []=A1 at k1⊢;intro k;by_cases hA:A0=[]
 ·rw [hA]
  refine o8 false rfl (o_attr gs1.ns rfl (NC true (dl hd rfl) gs1 (hln true) λs2 e2=>?_));have qS:=We.nx e2;have k:=sX (ay λz=>z hA:Ak tb A0 A1=vj tb A1).symm (k tb s2 (h1.nx e2) qS (.refl _) (bZ _ _));rw [k1.1];clear k0 k1 wk w0 QB qx cD hln;rcases A1 with _|⟨x,_|⟨y,z⟩⟩
  ·exact o8 false rfl k
  ·exact o8 true rfl (.of_wp (sSs _ _ _ _ (uW (bG (λ_=>lB rfl k) λz=>absurd rfl z))))
  ·refine o8 true rfl (.ND (.ND (.bind ((sE _).t _ _ _ (uW (bG (λe=>(nomatch e)) λ_=>?_))))))
   exact .bind ((sE _).e _ _ _ (o_attr qS.ns rfl (.bind (bT qS.st.m rfl rfl (.bind (.of rfl (.exc (ad9 (dl hd rfl) rfl) k)))))))
 ·refine o8 true (ad8 hA) (vm (dl hd rfl) gs1.eY h.wt.g rfl w0 (di (bZ _ 10) hz) λs2 e2 t2 kd2=>?_)
  have gs2:=gs1.tx e2 t2;have pu:=bQ tb (fF A0.flatten);have hl2:=h1.tx e2 t2 pu (h.wt.g.aO _);have qS:=We.tx e2;have lu:=cQ tb (fF A0.flatten);have fl:∀{P:Nat->Prop},(∀u∈A0,∀p∈u,P p)->∀p∈fF A0.flatten,P p:=λf p hp=>(List.mem_flatten.mp (dZ hp)).elim λu z=>f u z.1 p z.2;refine Qf (dl hd rfl) gs2 hl2.wt (fl λu hu p hp=>((w0 u hu).pre pu).aR hp) kd2 (canon_sum _) (aH (jA _ _ (canon_sum _).lt.nodup λp hp=>gz.mpr (dZ hp)) (fT (Ny λp hp=>(List.mem_flatten.mp hp).elim λu z=>(w0 u z.1).few p z.2))) (di (aH lu (cG (by decide) _)) hz) λLG s3 t3 p3 g3 l3 x3 kd3=>?_
  exact sX (Q:=Q) (az hA:Ak LG A0 A1=vN (U LG (fF A0.flatten))).symm (k LG s3 (hl2.gx QC x3 t3 p3 g3) (qS.gx h2 x3) (pu.trans p3) (aH l3 (dQ lu 1)))
end
theorem ZL(h:At s l (.ns a))(e:a.length<100)(el:pt n v a=l')(k:Q () (s.set l (.ns l'))):WP (rR (.fE c l) n v) s Q:=cV h e (el▸k)
theorem aia:∀v,((base v)[33]?.any λr=>decide (gW v∈iT r))=true:=by decide+kernel
theorem VU(w:Wt v mk tb):∃S,Clo tb S/\gW v∈S:=(w.clo (k33 w).tg (k33 w).kd).elim λX q=>⟨X,q.1,(q.1.row _ q.2).elim λc z=>z.elim λrest z=>z.elim λks z=>z.2 (gW v) ((An (aia v)).elim λr y=>z.1.row.zS▸bV ((w.b.get y.1).symm.trans z.1.cR)▸bx y.2)⟩
theorem ZM{v:Bool}{mk:aT}{tb:List V}(h:tb.length+1300000<=cu):tb.length<cu:=eB (xJ (Nat.succ_pos _)) h
theorem aib(h:t5+p<=t1+q+2)(l:t1<=t+1)(e:t'<=t5+2):t'+p<=t+q+10:=by omega
theorem aic(h:t5+p<=t1+60*q+2)(k:q<=20000)(l:t1<=t+1)(z:t+1300000<=L):t5+10<L:=by omega
theorem aid(h:w+p<=a+150*q+2*2)(e:a=0)(k:q<=20000):w<=3000004:=by omega
theorem aie(e:a=0)(h:A<=L):a+A+2*0<=L+x:=by omega
theorem aif(l:t1<=t+1)(h:1+A<=B)(z:t+B<=L):t1+A+0<=L+x:=by omega
theorem VV(st lv dp:Nat)(f:V):wt (Ar st lv dp f)=0:=rfl
theorem aih:3000100<=cu:=by decide
section
variable{c:L0}{mk:aT}{ax d:Nat}{Q:V->St->Prop}
theorem VW{o:Oa}{lv dp be st kk ad:Nat}{s gG:ai}{af:bR}{st':Nat}{σ:St}{tb:List V}(hd:270<=d)(h:LS c mk tb ax σ)(ho:e9 o lv dp be st σ)(hs:SkS s)(hks:Kd tb s)(tm:VA mk gG)(hkt:Kd tb gG)(QD:dp<=40)
  (hv:∀F,eT tb F->eG ⟨c.v,mk,F⟩ (40-dp) s (j5 gG ad) 0 0 (lv+1) st=(af,st'))(cD:∀x∈af,jQ tb mk x.1)(hz:tb.length+1300000<=cu)
  (k:∀cL s',LS c mk cL ax s'->e9 o lv dp be st' s'->eT tb cL->cL.length+60*C2 st<=tb.length+60*C2 st'+10->Q (Ak cL (iV (bE af) 0 af []) (iV (bE af) 1 af [])) s'):
  WX (aS TT FT d 748 [.fE 477 o.γ,vN (U tb s),EZ kk (U tb gG) ad,vN (gW c.v)]) σ Q λs'=>Q (.int (-1)) s':=by
 have h2:OLt o σ.length:=⟨ho.st.r.lt,ho.st.h.lt,ho.st.m.lt,ho.st.r1.lt,ho.st.r2.lt,ho.st.r3.lt⟩;have QC:14<=σ.length:=h.wd.mT.lt;have hoX:∀X,e9 o lv dp be st (σ++X):=λX=>ho.nx (pU σ X);have tbX:∀X,f9 (σ++X) tb:=λX=>h.eY.nx (pU σ X);have d1:200<=d-1:=dk hd rfl;refine ad2 (f:=cj) (b1:=cj.body.take 16) (b2:=cj.body.drop 16) (dl hd rfl) rfl rfl rfl ?_;refine o_attr ho.ns rfl (o_attr ho.st.h rfl (o_attr ho.ns rfl (ZC (d:=d-1) (dl d1 rfl) ?_)));refine CI rfl (bx rfl) (λQ q=>o_attr (hoX _).ns rfl q) rfl ?_;refine CI rfl (bx rfl) (λQ q=>o_attr (hoX _).ns rfl q) rfl ?_;refine CI (v:=vN (lv+1)) rfl (bx rfl) (λQ q=>o_attr (hoX _).ns rfl (fm (b:=1) rfl q)) rfl ?_;refine CI rfl (bx rfl) (λQ q=>o_attr (hoX _).ns rfl q) rfl ?_;refine CI rfl (bx rfl) (λQ q=>o_attr (hoX _).ns rfl q) rfl ?_;refine CI (v:=vN 33) rfl (bx rfl) (λQ q=>bT (tbX _).ns rfl rfl (bT (tbX _).ns rfl rfl (aI rfl (El (i:=24) (dl d1 rfl) (tbX _) (ZH 2) (h.wt.g.Yh 24 _ (h.wt.b.get rfl)) (El (i:=33) (dl d1 rfl) (tbX _) (ZI (gW c.v) 24) (h.wt.g.Yh 33 _ (h.wt.b.get rfl)) q))))) rfl ?_;obtain⟨SX,cl,mem⟩:=VU h.wt;refine o_attr (hoX _).ns rfl (bT (n:=940) (hoX _).st.m rfl rfl (u0 (t:=gW c.v) h.wt.g (dl d1 rfl) (tbX _) cl mem λwN ps e2 QA hpl=>ad5 (aI rfl (S9 (xs:=bI (lP ps)) (ys:=[vN 2]) ?_ ?_))))
 ·exact di (dQ (aH (cK (cT ..)) (aH (cK (cT ..)) (aH (tY ..) (fT hpl)))) 1) (by decide:64+1<cu)
 rw [show bI (lP ps)++[vN 2]=bI (lP ps++[2])from(mh (f:=vN) (l₁:=lP ps) (l₂:=[2])).symm];have wl:=ah6 h.wt QA;generalize lP ps++[2]=W at wl⊢;have e02:=(pU σ _).trans e2;have qS:=ho.nx e02;have hs2:=h.nx e02;have an:=e2.at id (at0 (σ:=σ));refine ZL (l':=E6 (IQ o σ.length W) (Ar st (lv+1) dp (.ref (σ.length+18)))) an (bx rfl) rfl ?_;have e23:aY (λl=>l=σ.length) wN (wN.set σ.length (.ns (E6 (IQ o σ.length W) (Ar st (lv+1) dp (.ref (σ.length+18)))))):=(aY.refl (X:=λl=>l=σ.length) wN).set (.inl rfl) _;have gsl:∀k c,((bw.ns (E6 (IQ o σ.length W) (Ar st (lv+1) dp (.ref (σ.length+18))))::iDs)[k]?=some c)->At (wN.set σ.length (.ns (E6 (IQ o σ.length W) (Ar st (lv+1) dp (.ref (σ.length+18)))))) (σ.length+k) c:=λk c=>Nat.casesOn (motive:=λk=>(bw.ns (E6 (IQ o σ.length W) (Ar st (lv+1) dp (.ref (σ.length+18))))::iDs)[k]?=some c->At (wN.set σ.length (.ns (E6 (IQ o σ.length W) (Ar st (lv+1) dp (.ref (σ.length+18)))))) (σ.length+k) c) k (λq=>bV q▸an.dS) λk q=>(e2.at id (atk (k:=k+1) q)).bF (Aq (Nat.succ_pos k));generalize wN.set σ.length (.ns (E6 (IQ o σ.length W) (Ar st (lv+1) dp (.ref (σ.length+18)))))=σ3 at e23 gsl⊢;have lt:∀l x,l<σ.length->At wN l x->At σ3 l x:=λl x q y=>e23.at (t8 q) y;have hs3:=hs2.keep (λl x q _ _=>lt l x (eB q QC)) (hs2.eY.ext e23 ⟨t8 (eB (by decide) QC),t8 (eB (by decide) QC),t8 (eB (by decide) QC)⟩) (.refl _) h.wt.g
 have lo:∀{j},j<=12->o.γ+j<σ.length:=λh=>di (cG h _) h2.g;have Wh:e9 o lv dp be st σ3:=⟨lt _ _ (lo (fD _)) qS.ns,lt _ _ (lo (by decide)) qS.co,lt _ _ (lo (by decide)) qS.Ao,⟨lt _ _ h2.h qS.st.h,lt _ _ h2.m qS.st.m,lt _ _ h2.g qS.st.r,lt _ _ h2.r1 qS.st.r1,lt _ _ h2.r2 qS.st.r2,lt _ _ h2.r3 qS.st.r3⟩,ho.qJ,ho.nh⟩
 have gs3:=ad6 (wl:=W) (st':=st) (lv':=lv+1) (rL:=dp) Wh hs3.eY QC h2 gsl;refine bT (n:=460) gs3.ns rfl rfl (As (dl d1 rfl) hs3.eY hs3.wt tm hkt (ZM (v:=c.v) (mk:=mk) hz) λCG σ4 e4 t4 p4 g4 l4 kd4=>?_);have YJ:=hs3.tx e4 t4 p4 g4;have QE:=Wh.tx e4;have gs4:=gs3.tx e4 t4;refine Ae (a:=IQ o σ.length W) (dl d1 rfl) ?_;rw [←g8 p4 hks];refine adT (c:=⟨c.v,mk,IQ o σ.length W⟩) (40-dp) (qk ..) _ s (j5 gG ad) 0 (λ_ _=>False) ⟨Ar st (lv+1) dp (.ref (σ.length+18)),CG,σ4⟩ _ (aH (dQ (kW 6 (qk 40 dp)) 14) (dk (dk hd rfl:260<=d-1) rfl)) ⟨⟨gs4,⟨⟨λ_=>bg,λp x q=>(nomatch q)⟩,⟨none,rfl⟩,.inl rfl,λ_=>bg,λ_=>bg,fD _,fC 1 _,wl⟩,YJ.wt,aW 1024⟩,⟨hs.len,hs.Ay,λp m=>.inl (hs.dc p m).1,hks.pre p4⟩,ad7 tm kd4,⟨by decide,by decide⟩,I5 QD,⟨λ_ _ _ _ _ _=>id,λ_ _=>⟨λ_ _=>id,λq=>(hs.dc 30 q).2 rfl,ZK tm⟩⟩,⟨aif l4 (by decide) hz,aie (VV ..) aih⟩⟩ λbY S5 ip=>?_
 have p05:=p4.trans ip.pre;have ev:(af,st')=(bY,S5.g.aG):=(hv S5.tb p05).symm.trans (ip.val S5.tb (.refl _));have es:S5.g.aG=st':=(au Prod.snd ev).symm;rw [show bY=af from(au Prod.fst ev).symm]at ip;have c2:C2 S5.g.aG<=20000:=tZ _ _;have gs5:=ip.ok.gs;have ho5:=QE.gx h2 ip.gx;have hs5:=YJ.gx (o:=o) QC ip.gx gs5.eY ip.pre ip.ok.w.g;refine o_attr gs5.ns rfl (cV ho5.ns pV ?_);have ho6:=ho5.set (lv':=lv) (rL:=dp) (EY:=be) (st':=S5.g.aG) (n:=kO) (x:=vN S5.g.aG) rfl;have e56:aY (λl=>l=o.γ) S5.σ (S5.σ.set o.γ (.ns (pt kO (vN S5.g.aG) (NF o lv dp be st)))):=(aY.refl (X:=λl=>l=o.γ) S5.σ).set (.inl rfl) _;have n:=ho.nh;have gs6:=gs5.low e56 (lo (fD 12)) ho.qJ.g ⟨n.h.symm,n.m.symm,(Aq (by decide)).symm,n.r1.symm,n.r2.symm,n.r3.symm⟩
 have hs6:=hs5.keep (λl x q _ _ y=>e56.at (t8 (eB q ho.qJ.g)) y) gs6.eY (.refl _) ip.ok.w.g;refine aea (d:=d-1) (γ:=σ.length) (wl:=W) (g:=S5.g) (dl d1 rfl) hs6 ho6 gs6 h2 ip.ls ip.QB ip.qx (λx m=>(cD x m).pre p05) (λb=>?_) (aic ip.size c2 l4 hz) λcL s' h' o' p' l'=>k cL s' h' (es▸o') (p05.trans p') (es▸aib ip.size l4 l');exact aH (Bool.rec (motive:=λb=>(S5.g.ls b).length<=(S5.g.ls false).length+(S5.g.ls true).length) (bZ _ _) (fC _ _) b) (aH (aaS S5.g) (aH (aid ip.wt (VV ..) c2) (aH (by decide:3000004<=3000100) aih)))
end
noncomputable abbrev aij(ρ:aQ)(x y:Nat)(w:V)(o:fH V):fH Fl:=fH.casesOn (motive:=λ_=>fH Fl) o (λr s'=>.ok (.next (wr ρ x r)) s') (λs'=>.ok (.next (wr ρ y w)) s') .aJ
theorem aec(h:WX (fV TT C e ρ) s (λr s'=>Q (.next (wr ρ x r)) s') (λs'=>Q (.next (wr ρ y w)) s')):pS TT C (.jC x e y w) ρ Q s:=h.elim (λh=>h.elim λa h=>h.elim λs' h=>WP.of (au (aij ρ x y w) h.1) h.2) λh=>h.elim λs' h=>WP.of (au (aij ρ x y w) h.1) h.2
theorem aed(l:List Nat)(i:Nat)(h:i<l.length):∃n,(bI l)[i]?=some (vN n)/\n∈l:=⟨l[i],(Fe ..).trans (au (Option.map vN) (qA h)),List.getElem_mem h⟩
theorem aik{P:Nat->Prop}(ha:P a)(hb:P b)(hc:P c)(hd:P d)(he:P e)(hf:P f):∀n∈[a,b,c,d,e,f],P n:=List.forall_mem_cons.mpr ⟨ha,List.forall_mem_cons.mpr ⟨hb,Iu hc hd he hf⟩⟩
section
variable{c:L0}{mk:aT}{ax d:Nat}{Q:V->St->Prop}{o:Oa}{lv dp be st:Nat}{s:St}{tb:List V}
theorem LS.E0(h:LS c mk tb ax s)(ho:e9 o lv dp be st s)(x:bw):LS c mk tb ax (s.set o.γ x):=h.loc ho.qJ.g x
theorem ZN(hd:2<=d)(h:LS c mk tb ax s)(ho:e9 o lv dp be st s)
  (k:∀a' lv' rL EY st' s',lv'<=12->rL<=40->st'<=20000->LS c mk tb a' s'->e9 o lv' rL EY st' s'->Q .none s'):WP (aS TT FT d 1053 [.ref 1,.fE 477 o.γ]) s Q:=by
 refine aA (dl hd rfl) (f:=qY) rfl rfl (h.nR (n:=6) (dk hd rfl) (by decide) λr1 s1 hr1 e1 h1=>h1.nR (n:=4) (dk hd rfl) (by decide) λr2 s2 My e2 h2=>?_)
 have qS:=(ho.lx e1).lx e2;have r3:r2<=3:=E9 My;obtain⟨lv',elv,mlv⟩:=aed [0,r2,0,12,11,0] r1 hr1;obtain⟨rL,edp,mdp⟩:=aed [0,0,37+r2,0,0,0] r1 hr1;have hlv:lv'<=12:=aik (P:=λn=>n<=12) (by decide) (aH r3 (by decide)) (by decide) (by decide) (by decide) (by decide) lv' mlv
 have QD:rL<=40:=aik (P:=λn=>n<=40) (by decide) (by decide) (cG r3 37) (by decide) (by decide) (by decide) rL mdp
 have Wh:=qS.set (lv':=lv') (rL:=dp) (EY:=be) (st':=st) (n:=oY) (x:=vN lv') rfl;have h3:=h2.E0 qS (.ns (pt oY (vN lv') (NF o lv dp be st)));have QE:=Wh.set (lv':=lv') (rL:=rL) (EY:=be) (st':=st) (n:=tO) (x:=vN rL) rfl;have h4:=h3.E0 Wh (.ns (pt tO (vN rL) (NF o lv' dp be st)));refine aI (gy elv) (cV qS.ns pV (fm (a:=37) rfl (aI (gy edp) (cV Wh.ns pV ?_))));have rest:∀st',st'<=20000->iJ TT (aS TT FT (d-1)) (qY.body.drop 5) [some (.ref 1),some (.fE 477 o.γ),some (vN r1),some (vN r2)] (dY Q) (((s2.set o.γ (.ns (pt oY (vN lv') (NF o lv dp be st)))).set o.γ (.ns (pt tO (vN rL) (NF o lv' dp be st)))).set o.γ (.ns (pt kO (vN st') (NF o lv' rL be st)))):=λst' hst=>by
  have ho5:=QE.set (lv':=lv') (rL:=rL) (EY:=be) (st':=st') (n:=kO) (x:=vN st') rfl;have h5:=h4.E0 QE (.ns (pt kO (vN st') (NF o lv' rL be st)));obtain⟨EY,ebe,_⟩:=aed [1024,1] (r2%2) (Nat.mod_lt _ (by decide))
  have ho6:=ho5.set (lv':=lv') (rL:=rL) (EY:=EY) (st':=st') (n:=qw) (x:=vN EY) rfl;exact LD (n:=2) (by decide) (aI (gy ebe) (cV ho5.ns pV (k _ lv' rL EY st' _ hlv QD hst (h5.E0 ho5 (.ns (pt qw (vN EY) (NF o lv' rL be st')))) ho6)))
 exact bG (b:=5) (λ_=>zG (a:=20000) (c:=20000-r2) (NL (aH r3 (by decide))) (cV QE.ns pV (rest (20000-r2) (qk ..)))) λ_=>cV QE.ns pV (rest r2 (aH r3 (by decide)))
end
theorem Qg(a:Nat):O4 (iD a):=⟨rfl,rfl,(by decide:1<=8)⟩
theorem VX(tb:List V)(A0 A1:List ai):∃i,Ak tb A0 A1=.int i:=(c6 (A0≠[])).elim (λh=>⟨_,az h⟩) λh=>(VH (P:=λl=>∃i,vj tb l=.int i) ⟨1,rfl⟩ (λx=>⟨_,rfl⟩) (λ_ _ _=>⟨-1,rfl⟩) A1).imp λi e=>(ay h).trans e
theorem ail(h:(a.plain&&(b.plain&&decide (min a.gF b.gF<=fU)))=true)(k:Q (! decide (a=b)) s):WP (aM T .ne a b) s Q:=.bind (G3 h (.ret k))
theorem VY(h:At s l (.dict []))(h2:At s m (.dict []))(k:Q true s):WP (aM T .eq (.ref l) (.ref m)) s Q:=show WP (M.bind (vp T (.ref l)) λc=>M.bind (vp T (.ref m)) λd=>bX (eqP c d)) s Q from .bind (fj h (.of rfl (.bind (fj h2 (.of rfl (.nV rfl k))))))
theorem ain(z:t+1900000<=L+10):t+20001<L:=by omega
theorem aio(z:t+1900000<=L+10)(b:t2<=t+c)(hc:c<=20000)(l:n+x<=14*c+1):t2+2*n+5<=L:=by omega
theorem aip(z:t+1900000<=L+10)(b:t2<=t+c)(hc:c<=20000)(l:n+x<=14*c+1)(l3:t3<=t2+2*n+1):t3+1300010<=L:=by omega
theorem aiq(b:t2<=t+c)(hc:c<=20000)(l:n+x<=14*c+1)(l3:t3<=t2+2*n+1)(l6:t6<=t3+3)(l9:t9+60*y<=t6+60*c+10):t9<=t+1789990:=by omega
theorem NG(z:t+1300010<=L)(h:j<=t+i)(hi:i<=10):j<L:=by omega
theorem air(z:t+1300010<=L)(h:j<=t+3):j+1300000<=L:=by omega
theorem up1(h:j<=t+i)(l:k<=j+1):k<=t+(i+1):=aH l (nG h)
theorem NH:∀v,z8 v (gW v)=true/\gW v<37:=by decide+kernel
theorem ais(h:∃i,y=.int i)(e:x=y)(k:Q false s):WP (aM T .ne x y) s Q:=h.elim λi q=>(e.trans q).symm▸q.symm▸Ic (λz=>absurd rfl z) λ_=>k
theorem VZ(ht:VA mk gG):Tg mk (j5 gG ad):=vn (λ_=>⟨aH (vg _) (lY ht.len),λp hp=>(ZJ hp).elim (ht.dc p) λe=>.inl (e▸by decide)⟩) λ_=>⟨aH ht.len (by decide),ht.dc⟩
section
variable{v:Bool}{nums:List Int}{a d:Nat}{mk:aT}{Q:V->St->Prop}{o:Oa}{lv dp be st:Nat}{s:St}{tb:List V}{gG cD:ai}{ad:Nat}
theorem ZO(hC:90<=C)(h:LS ⟨v,nums,st⟩ mk tb a s)(QD:dp<=40)(sk:SkS cD)(tm:VA mk gG)(hz:tb.length+20001<cu)
  (k:∀af S',HP ⟨v,nums,a,mk,tb.length⟩ 1 (λF=>i6 ⟨v,nums,a,mk,tb.length⟩ (40-dp) F cD (j5 gG ad) 0 0 lv st) ⟨st,tb,s⟩ af S'->Q (.lst (af.map cW)) S'.σ):
  WP (aS TT FT C 1022 [.ref 1,aq cD,aq (j5 gG ad),.int 0,.int 0,vN lv,vN dp]) s Q:=Eq.subst (motive:=λn:Nat=>WP (aS TT FT C 1022 [.ref 1,aq cD,aq (j5 gG ad),.int 0,.int 0,vN lv,vN n]) s Q) (Nat.sub_sub_self QD)
  (YN h.wt.s.uZ hz (40-dp) (qk ..) C cD (j5 gG ad) 0 0 lv ⟨st,tb,s⟩ Q (aH (dQ (kW 2 (qk ..)) 10) hC) ⟨h.wd,h.eY,bZ ..,h.wt.m.mkR h.wt.s⟩
   ⟨⟨sk.len,λp hp=>.inl (sk.dc p hp).1⟩,⟨(VZ tm).1,aaF h.wt.s (VZ tm)⟩,by decide,fD 1⟩ k)
end
theorem ait(h:(x.plain&&(y.plain&&decide (min x.gF y.gF<=fU)))=true)(e:x=y)(k:Q false s):WP (aM T .ne x y) s Q:=ail h (Hu (au not (dj e)) k)
theorem vo(Ay:Canon l)(hd:3<=d)(h:f9 σ tb)(g:bW tb)(hx:gR x (bI l) σ)(hp:∀p∈l,P1 tb p)(hl:l.length<64)(hz:tb.length<cu)
  (k:∀s',aY TX σ s'->f9 s' (aO tb l)->Kd (aO tb l) l->Q (vN (U (aO tb l) l)) s'):WP (aS TT FT d 237 [jv,x]) σ Q:=lR hd h g hx hp hl hz (Eq.subst (motive:=λm=>Kd (aO tb m) m->∀s',aY TX σ s'->f9 s' (aO tb m)->Q (vN (U (aO tb m) m)) s') (jz Ay).symm (λkd s' e t=>k s' e t kd) (Ab hp))
section
variable{v:Bool}{nums:List Int}{a:Nat}{mk:aT}{Q:V->St->Prop}{o:Oa}{lv dp be st:Nat}{s:St}{C:Nat}
theorem ZP{jY aee:V}(hw:∃i,aee=.int i)(e:jY=aee)(h:LS ⟨v,nums,st⟩ mk tb a s)(ho:e9 o lv dp be st s)
  (k:∀s',LS ⟨v,nums,st⟩ mk tb a s'->e9 o lv dp be st s'->Q (.bool true) s'):
  iJ TT (aS TT FT C) (kE.body.drop 12) [some (.ref 1),some (.fE 477 o.γ),x2,x3,x4,some (.aC [vN lv,vN dp,vN be]),x6,some aee,x8,x9,x10,some jY] (dY Q) s:=
 have e1:=(aY.refl s).new (.dict []);have We:=ho.nx e1;have e2:=(aY.refl _).new (.dict []);have qS:=We.nx e2
 ais hw e (o_attr ho.ns rfl (aZ h.wd.w rfl rfl (Ic (λe=>absurd rfl e) λ_=>o_attr ho.ns rfl (o_attr ho.ns rfl (o_attr ho.ns rfl (ait rfl rfl
  (o_attr ho.ns rfl (fW (VY ho.co.new bS (aL (o_attr We.ns rfl (fW (VY We.Ao.new bS (aL (o_attr qS.ns rfl (fz rfl (aL (o_attr qS.ns rfl (fz rfl (k _ ((h.nx e1).nx e2) qS))))))))))))))))))))
end
theorem ZQ(e:U tb gG=n)(hd:270<=d)(h:LS c mk tb ax σ)(ho:e9 o lv dp be st σ)(hs:SkS s)(hks:Kd tb s)(tm:VA mk gG)(hkt:Kd tb gG)(QD:dp<=40)
  (hv:∀F,eT tb F->eG ⟨c.v,mk,F⟩ (40-dp) s (j5 gG ad) 0 0 (lv+1) st=(af,st'))(cD:∀x∈af,jQ tb mk x.1)(hz:tb.length+1300000<=cu)
  (k:∀cL s',LS c mk cL ax s'->e9 o lv dp be st' s'->eT tb cL->cL.length+60*C2 st<=tb.length+60*C2 st'+10->Q (Ak cL (iV (bE af) 0 af []) (iV (bE af) 1 af [])) s'):
  WX (aS TT FT d 748 [.fE 477 o.γ,vN (U tb s),EZ kk n ad,vN (gW c.v)]) σ Q λs'=>Q (.int (-1)) s':=e▸VW hd h ho hs hks tm hkt QD hv cD hz k
section
variable{v:Bool}{nums:List Int}{a d:Nat}{mk:aT}{Q:V->St->Prop}{o:Oa}{lv dp be st:Nat}{s:St}{tb:List V}{gG cD:ai}{ad:Nat}{C:Nat}
theorem V0(hC:289<=C)(h:LS ⟨v,nums,st⟩ mk tb a s)(ho:e9 o lv dp be st s)(QD:dp<=40)(tm:VA mk gG)(sk:SkS cD)(hz:tb.length+1900000<=cu+10)
  (k:∀sw' cL s',LS ⟨v,nums,sw'⟩ mk cL a s'->e9 o lv dp be sw' s'->cL.length<=tb.length+1789990->Q (.bool true) s'):
  iJ TT (aS TT FT C) (kE.body.drop 7) [some (.ref 1),some (.fE 477 o.γ),some (aq gG),some (vN ad),some (aq cD),some (.aC [vN lv,vN dp,vN be]),some (aq (j5 gG ad)),none,none,none,none,none] (dY Q) s:=by
 refine o_attr ho.ns rfl (fm rfl (o_attr ho.ns rfl (ZO (dl hC rfl) h QD sk tm (ain hz) λaf S2 hp=>?_)));have h2:LS ⟨v,nums,S2.st⟩ mk S2.tb a S2.σ:=⟨hp.ok.wd,hp.ok.eY,h.wt.pre hp.pre (hp.Ep h.wt.g),h.ok⟩;have qS:=ho.lx (hp.ext.uN λl q=>q.elim .inl λq=>.inr (q.elim .inl λq=>.inr (.inl q)));have c2:C2 S2.st<=20000:=tZ _ _;have bd:=hp.ok.bd;refine Qa (dl hC rfl) h2 hp.cD (aio hz bd c2 hp.len) λLG s3 e3 h3 p3 l3 alX=>?_;have z3:=aip hz bd c2 hp.len l3;refine aZ h3.wd.w rfl rfl (aZ h3.wd.w rfl rfl (vo (.aR _) (dl hC rfl) h3.eY h3.wt.g rfl (λp hp=>dG hp▸pP h3.wt.g h3.wt.b (NH v).1) (by decide:1<64) (NG (i:=0) z3 (aW _) (by decide)) λs4 e4(t4:f9 s4 LG)_=>?_))
 have h4:=h3.tx e4 t4 (.refl _) h3.wt.g;refine aZ h4.wd.w rfl rfl (bT h4.eY.ns rfl rfl (zb (dl hC rfl) h4.eY (Qg _) (NG (i:=0) z3 (aW _) (by decide)) λs5 e5 t5=>?_))
 have p5:=lK LG (iD (gW v));have h5:=h4.tx e5 t5 p5 (h4.wt.g.f6 (.agS _ (eB (NH v).2 h4.wt.g.len)));have l5:=up1 (i:=0) (aW _) (s8 LG (iD (gW v)));refine aZ h5.wd.w rfl rfl (vo tm.Ay (dl hC rfl) h5.eY h5.wt.g rfl (λp hp=>(vd h5.wt (tm.dc p hp)).it) (di tm.len (by decide)) (NG z3 l5 (by decide)) λs6 e6 t6 kd6=>?_)
 have p6:=bQ (f6 LG (iD (gW v))) gG;have h6:=h5.tx e6 t6 p6 (h5.wt.g.aO _);have l6:=up1 l5 (cQ (f6 LG (iD (gW v))) gG);refine aec (WX.bind (.ret (WX.bind (.bind (.of rfl (.bind (.bind ((sE _).e _ _ _ (aZ h6.wd.w rfl rfl (vo sk.Ay (dl hC rfl) h6.eY h6.wt.g rfl (λp hp=>(lQ h6.wt (.inl (sk.dc p hp).1)).it) (di sk.len (by decide)) (NG z3 l6 (by decide)) λs7 e7 t7 kd7=>.of rfl (.ret ?_)))))))))))
 have p7:=bQ (aO (f6 LG (iD (gW v))) gG) cD;have p37:=(p5.trans p6).trans p7;have pp:=p3.trans p37;have l7:=up1 l6 (cQ (aO (f6 LG (iD (gW v))) gG) cD);have h7:=h6.tx e7 t7 p7 (h6.wt.g.aO _);exact ZQ (g8 p7 kd6) (dl hC rfl) h7 (((((qS.lx e3).tx e4).tx e5).tx e6).tx e7) sk kd7 tm (kd6.pre p7) QD (λF pF=>hp.val F (pp.trans pF)) (λx hx=>(hp.cD x hx).pre pp) (air z3 l7) λtb9 s9 h9 ho9 p9 l9=>ZP (VX ..) (alX tb9 (p37.trans p9)) h9 ho9 λs' h' o'=>k _ _ s' h' o' (aiq bd c2 hp.len l3 l7 l9)
end
theorem aiu(l:t1<=t+10)(h:t9<=t1+1789990):t9<=t+1790000:=by omega
theorem aiv(z:t+1900000<=L)(l:t1<=t+10):t1+1900000<=L+10:=by omega
theorem aiw(z:t+1900000<=L):t+20<=L:=by omega
theorem aeg(h:gG.length<=3):(eS (gG++[4])).length<64:=di (gC _) (di (lY h) (by decide))
section
variable{mk:aT}
theorem LS.aG(h:LS ⟨v,nums,sw⟩ mk tb a s)(n:Nat):LS ⟨v,nums,n⟩ mk tb a (s.set 1 (.dict (wD v nums a n))):=⟨⟨h.wd.w.dS,h.wd.zz.bF (by decide),h.wd.eN.bF (by decide),h.wd.Hs.bF (by decide),h.wd.mT.bF (by decide)⟩,⟨h.eY.ns.bF (by decide),h.eY.fN.bF (by decide),h.eY.ix.bF (by decide),h.eY.all⟩,h.wt,h.ok⟩
theorem aeh(hd:290<=d)(h:LS ⟨v,nums,sw⟩ mk tb a s)(ho:e9 o lv dp be st s)(hz:tb.length+1900000<=cu)(hml:mk.length+10<cu)
  (k:∀a' sw' rK cL s' lv' rL EY st',LS ⟨v,nums,sw'⟩ rK cL a' s'->e9 o lv' rL EY st' s'->cL.length<=tb.length+1790000->rK.length<=mk.length+2->Q (.bool true) s'):WP (aS TT FT d 1060 [.ref 1,.fE 477 o.γ]) s Q:=by
 refine aA (dl hd rfl) rfl rfl (IF (dk hd rfl) h (aiw hz) (di (cG (by decide) _) hml) λgG mk1 CG a1 s1 r1 tm=>r1.ls.nR (dk hd rfl) (by decide) λad s2 had e2 h2=>VD (dk hd rfl) h2 λcD a3 s3 r3 sk=>ZN (dk hd rfl) r3.ls (((ho.lx r1.ext).lx e2).lx r3.ext) λa4 lv' rL EY st' s4 hlv QD hst h4 QE=>?_)
 refine o_attr QE.ns rfl (o_attr QE.ns rfl (o_attr QE.ns rfl (o_attr QE.ns rfl (fM h4.wd.w rfl (by decide:15<cu) ?_))))
 have h5:=h4.aG st';have ho5:=QE.lx ((aY.refl s4).set (.inl (.inl rfl)) (.dict (wD v nums a4 st')));have rest:∀u s6,u=j5 gG ad->aY NX (s4.set 1 (.dict (wD v nums a4 st'))) s6->iJ TT (aS TT FT (d-1)) (kE.body.drop 7) [some (.ref 1),some (.fE 477 o.γ),some (aq gG),some (vN ad),some (aq cD),some (.aC [vN lv',vN rL,vN EY]),some (aq u),none,none,none,none,none] (dY Q) s6:=λu s6 e e6=>e▸V0 (dk hd rfl) (h5.nx e6) (ho5.nx e6) QD tm sk (aiv hz r1.len) λsw' cL s' h' o' l'=>k _ _ _ _ _ _ _ _ _ h' o' (aiu r1.len l') r1.ml;exact bG (λq=>ET (w:=[4]) (di (dQ tm.len 1) (by decide)) (zE h5.wd (dk hd rfl) (.inl rfl) (aeg tm.len) λs6 e6=>rest _ _ (az q).symm e6)) λq=>rest _ _ (ay q).symm (.refl _)
end
noncomputable def w0(L:V):List (V×V):=[(.str NT,L),(.str Wj,.int 0),(.str kQ,jv),(.str I9,.lst []),(.str Fo,.ref 10),(.str CS,.ref 11),(.str NU,.ref 12),(.str ud,.ref 13),(.str KN,.int 0)]
noncomputable def aei(L:V):St:=[.bH,.dict (w0 L),.ns G4,.list ((base false).take 16),.dict (MB 0 ((base false).take 16)),.list [],.list [],.list [],.dict [],.dict [],.dict [],.dict [],.dict [],.dict []]
noncomputable def w1(L:V)(a:Nat):List (V×V):=[(.str NT,L),(.str Wj,vN a),(.str kQ,jv),(.str I9,.lst (bI [16,17,18,19,20,21])),(.str Fo,.ref 10),(.str CS,.ref 11),(.str NU,.ref 12),(.str ud,.ref 13),(.str KN,.int 0),(.str ue,.lst ([[22],[23],[24],[25]].map aq)),(.str vU,.lst (bI Hr))]
noncomputable def aej:St:=[.list [.int (-1),.int (-1),.int (-1),.int (-1)],.list [.int (-1),.int (-1),.int (-1),.int (-1)],.list [.str [84],.str [81],.str [80],.str [71]],.dict [],.dict []]
noncomputable def o9(p:Nat):bw:=.dict [(vN p,.int 1)]
noncomputable def V1:St:=[.bH,.bH,.bH,o9 25,.bH,.bH,o9 26,.bH,.bH,o9 25,.bH,o9 16,.bH,.bH,o9 17,.bH,.bH,o9 25,.bH,o9 7,.bH,o9 19,.bH,o9 30,.bH,.bH,o9 22,.bH,o9 23,.bH]
noncomputable def aek(L:V)(a:Nat):St:=[.bH,.dict (w1 L a),.ns G4,.list ((base false).take 33),.dict (MB 0 ((base false).take 33))]++aej++[.dict zy,.dict uV,.dict Hq,.dict (KP ((xF false).take 6))]++V1
noncomputable def r1:aQ:=[some (.ref 1),some jv,some (.str [98]),some (.int 4),some (.int 21),some (aq [26]),some (aq [25]),some (aq [30]),some (aq [32]),none,none,none,none]
theorem aix(X L:V):eZ TT (aS TT FT 299) ((B7.body.drop 2).take 1) [some X,some L,none,none,none,none] [.bH]=.ok (.next [some X,some L,some (.ref 1),none,none,none]) (aei L):=by kernel_rfl
theorem aiy(L:V):eZ TT (aS TT FT 298) (gw.body.take 13) (some (.ref 1)::List.replicate 12 none) (aei L)=.ok (.next r1) (aek L 0):=by kernel_rfl
noncomputable def w3(v:Bool)(L:V)(a:Nat):List (V×V):=w1 L a++[(.str Je,aq [gW v]),(.str AJ,.lst (bI (cI v))),(.str xQ,aq [33]),(.str QU,.lst (Ci.map aq))]
noncomputable def ael(v:Bool)(L:V)(a:Nat):St:=[.bH,.dict (w1 L a++[(.str Je,aq [gW v])]),.ns G4,.list ((base false).take 33),.dict (MB 0 ((base false).take 33))]++aej++[.dict zy,.dict uV,.dict Hq,.dict (KP ((xF false).take 6))]++V1
noncomputable def aiz(v:Bool):St:=[.bH,.bH,o9 (gW v),.bH,o9 24,.bH,.bH,o9 33,.bH,.bH,o9 33,.bH,o9 24,.bH,.bH,o9 24,.bH]
noncomputable def Qh(v:Bool)(L:V)(a:Nat):St:=[.bH,.dict (w3 v L a),.ns G4,.list (base v),.dict (MB 0 (base v))]++aej++[.dict zy,.dict uV,.dict Hq,.dict (KP (xF v))]++V1++aiz v
noncomputable def r3:aQ:=[some (.ref 1),some jv,some (.str [98]),some (.int 4),some (.int 21),some (aq [26]),some (aq [25]),some (aq [30]),some (aq [32]),some (aq [34]),some (aq [35]),none,none]
theorem aem(L:V)(a:Nat):eZ TT (aS TT FT 298) (gw.body.drop 14) r1 (ael false L a)=.ok (.next r3) (Qh false L a):=by kernel_rfl
theorem aen(L:V)(a:Nat):eZ TT (aS TT FT 298) (gw.body.drop 14) r1 (ael true L a)=.ok (.next r3) (Qh true L a):=by kernel_rfl
theorem V2:∀v,((List.range 37).all λp=>(base v)[p]?.all λr=>(r.i7&&decide (r.fG=4))&&(decide (r.gF<=fU)&&decide (pos r (base v)=some p)))=true:=by decide+kernel
theorem NI(e:(base v)[p]?=some r):O4 r/\pos r (base v)=some p:=
 have h:=ah (lO (f:=λr=>(r.i7&&decide (r.fG=4))&&(decide (r.gF<=fU)&&decide (pos r (base v)=some p))) (pW (V2 v) p (List.mem_range.mpr (eB (rO e).1 (cK (Td v))))) e);have h1:=ah h.1;have h2:=ah h.2
 ⟨⟨h1.1,bx h1.2,bx h2.1⟩,bx h2.2⟩
theorem CJ(v:Bool):bW (base v):=⟨λp r e=>(kX (base v))▸SQ v [] p r e,λp r e=>(NI e).2,⟨v,[],(kX _).symm⟩⟩
theorem aeo:∀v,((xF v).all λx=>(decide (x.1<37)&&decide ((base v)[x.1]?=some (qj (base v) x.2)))&&x.2.2.all λk=>decide (k.length=1)&&k.all (z8 v))=true:=by decide+kernel
theorem E1(v:Bool)(p:Nat)(e:Nat×List ai)(he:aK (xF v) p=some e):(p<37/\(base v)[p]?=some (qj (base v) e))/\∀k∈e.2,Canon k/\Kd (base v) k:=
 have h:=ah (pW (aeo v) (p,e) (TV _ he));have h1:=ah h.1
 ⟨⟨bx h1.1,bx h1.2⟩,λk hk=>have q:=ah (pW h.2 k hk)
  (List.length_eq_one_iff.mp (bx q.1)).elim λx ex=>⟨ex▸.aR x,⟨λy hy=>(pP (CJ v) (.refl _) (pW q.2 y hy)).dc,λl=>absurd (eB l (cK (bx q.1))) (kY 1)⟩⟩⟩
theorem ZR(v:Bool):Wt v (xF v) (base v):=⟨CJ v,.refl _,⟨λ_ _=>rfl,λp e h he=>absurd (di h (E1 v p e he).1.1) (kY 37),λp e he k hk=>((E1 v p e he).2 k hk).1⟩,⟨λp e he=>(E1 v p e he).1.2,λp e he k hk=>((E1 v p e he).2 k hk).2⟩⟩
theorem V3(ok:CE nums):LS ⟨v,nums,0⟩ (xF v) (base v) 1 (Qh v (.lst (nums.map V.int)) 1):=⟨⟨rfl,rfl,rfl,rfl,rfl⟩,⟨rfl,rfl,rfl,λr m=>(List.mem_iff_getElem?.mp m).elim λp e=>(NI e).1⟩,ZR v,ok⟩
theorem V4(hd:1<=d)(e:FT a=some f)(ha:f.Q2 args=true)
  (h:WP (eZ TT (aS TT FT (d-1)) f.body (f.env args)) s (dY Q)):WP (aS TT FT d a args) s Q:=(NL hd:d-1+1=d)▸WP.bind (WP.nV e (WP.ite (λ_=>.aX h λr s'=>Fl.casesOn r (λ_ q=>.ret q) λv q=>.ret q) λn=>absurd ha n))
section
variable{C:Nat->List V->M V}{a b:List Mine.S}{ρ:aQ}{s:St}{K:Fl->St->Prop}
noncomputable def aiA(C:Nat->List V->M V)(b:List Mine.S)(K:Fl->St->Prop)(fl:Fl)(s':St):Prop:=Fl.casesOn (motive:=λ_=>Prop) fl (λρ=>WP (eZ TT C b ρ) s' K) λv=>K (.ret v) s'
theorem E2(h:WP (eZ TT C a ρ) s (aiA C b K)):WP (eZ TT C (a++b) ρ) s K:=
 have h2:WP (M.bind (eZ TT C a ρ) (Au (eZ TT C b))) s K:=.aX h λfl s'=>Fl.casesOn fl (λ_ q=>q) λ_ q=>.ret q
 h2.out.elim λr q=>q.elim λs2 q=>.of ((IM b a ρ s).trans q.1) q.2
theorem V5(e:eZ TT C a ρ s=.ok (.next fJ) s')(h:WP (eZ TT C b fJ) s' K):WP (eZ TT C (a++b) ρ) s K:=E2 (.of e h)
end
theorem Mq{P:Nat->Prop}(h0:P 0)(h1:P 1)(r:Nat):r<2->P r:=Nat.casesOn r (λ_=>h0) λr=>Nat.casesOn r (λ_=>h1) λr h=>absurd h (Nat.not_lt.mpr (fC 2 r))
theorem V6(ok:CE nums)(k:∀v,Q .none (Qh v (.lst (nums.map V.int)) 1)):WP (aS TT FT 299 977 [.ref 1]) (aei (.lst (nums.map V.int))) Q:=by
 have gV:∀v,WP (eZ TT (aS TT FT 298) (gw.body.drop 14) r1) (ael v (.lst (nums.map V.int)) 1) (dY Q):=λv=>v.casesOn (.of (aem _ 1) (k false)) (.of (aen _ 1) (k true));have h1:At (aek (.lst (nums.map V.int)) 0) 1 (.dict (w1 (.lst (nums.map V.int)) 0)):=rfl;have h2:=h1.dS (d:=.dict (cS (.str Wj) (vN (0+1)) (w1 (.lst (nums.map V.int)) 0)));refine V4 (by decide) rfl rfl (V5 (aiy _) (E2 (a:=(gw.body.drop 13).take 1) (sSs _ _ _ _ ?_)))
 refine aZ h1 rfl rfl (lB rfl ?_);show WP (aS TT FT 298 952 [.ref 1,vN 2]) (aek (.lst (nums.map V.int)) 0) _;refine(IE (by decide) h1 rfl (by decide:11<cu) rfl rfl rfl ok (by decide) (Mq ?_ ?_))
 ·exact aI rfl (fM h2 rfl (by decide:11<cu) (gV false))
 ·exact aI rfl (fM h2 rfl (by decide:11<cu) (gV true))
noncomputable def oa:Oa:=⟨62,61,82,83,84,85⟩
noncomputable def aep(v:Bool)(L:V):St:=Qh v L 1++[.ns Ut]++(.ns (NF oa 0 0 1024 0)::(iDs.take 11++[.dict (Uu (IQ oa 0 []))]++iDs.drop 12))++[.ns [],.ns [],.ns [],.ns []]
theorem aiB(v:Bool)(X L:V):eZ TT (aS TT FT 299) ((B7.body.drop 4).take 5) [some X,some L,some (.ref 1),none,none,none] (Qh v L 1)=.ok (.next [some X,some L,some (.ref 1),some (.fE 477 62),none,none]) (aep v L):=v.casesOn (by kernel_rfl) (by kernel_rfl)
theorem Qi(L:V):∀v,e9 oa 0 0 1024 0 (aep v L):=λv=>v.casesOn ⟨rfl,rfl,rfl,⟨rfl,rfl,rfl,rfl,rfl,rfl⟩,⟨by decide,by decide,by decide,by decide,by decide,by decide⟩,⟨by decide,by decide,by decide,by decide,by decide⟩⟩ ⟨rfl,rfl,rfl,⟨rfl,rfl,rfl,rfl,rfl,rfl⟩,⟨by decide,by decide,by decide,by decide,by decide,by decide⟩,⟨by decide,by decide,by decide,by decide,by decide⟩⟩
theorem Qj(ok:CE nums):LS ⟨v,nums,0⟩ (xF v) (base v) 1 (aep v (.lst (nums.map V.int))):=(V3 ok).nx (((pU _ _).trans (pU _ _)).trans (pU _ _))
theorem aeq(hn:0<n)(k:Q (.int (Int.fmod x n)) s):WP (d9 .mod (.int x) (.int n)) s Q:=.nV ((oR ..).trans (au (Option.map V.int) (az hn))) k
theorem alY(hL:7270037<=L)(e:n=c+1)(h:a+1790000*n<=7160037):a+1900000<=L:=by omega
theorem alZ(hL:7270037<=L)(h:a+2*n<=18):a+10<L:=by omega
theorem aiC:7270037<=cu:=by decide
theorem aiD(e:n=c+1)(h:a+1790000*n<=7160037)(l:b<=a+1790000):b+1790000*c<=7160037:=by omega
theorem aiE(e:n=c+1)(h:a+2*n<=18)(l:b<=a+2):b+2*c<=18:=by omega
theorem aiF:∀r<3,xU ((0:Nat):Int) (2+r)=(List.range (2+r)).map vN/\(37+1790000*(List.range (2+r)).length<=7160037/\10+2*(List.range (2+r)).length<=18):=by decide+kernel
structure al0 where
 a:Nat
 sw:Nat
 md:aT
 tb:List V
 lv:Nat
 dp:Nat
 be:Nat
 st:Nat
 σ:St
 x:Option V
theorem IT(ok:CE nums):WP (eZ TT (aS TT FT 299) (B7.body.drop 2) [some X,some (.lst (nums.map V.int)),none,none,none,none]) [.bH] (dY λr _=>r=.bool true):=by
 refine V5 (aix _ _) (E2 (a:=(B7.body.drop 3).take 1) (sSs _ _ _ _ (V6 ok λv=>?_)));refine V5 (aiB v _ _) (sSs _ _ _ _ ?_);refine(Qj ok).nR (d:=299) (by decide) (by decide) λr s1 hr e1 h1=>?_
 refine fm rfl (tL (xK (CL hr 2) (by decide)) ?_)
 refine(WP.of (a:=(V.Fp 0 (2+r:Nat),xU ((0:Nat):Int) (2+r))) rfl ?_);rw [(aiF r hr).1];refine bD vN (λb:al0=>[some X,some (.lst (nums.map V.int)),some (.ref 1),some (.fE 477 62),b.x,none]) (λb=>b.σ) (λq b=>LS ⟨v,nums,b.sw⟩ b.md b.tb b.a b.σ/\e9 oa b.lv b.dp b.be b.st b.σ/\b.tb.length+1790000*q.length<=7160037/\b.md.length+2*q.length<=18) ?_ (λx q b K i kn _=>?_) (λ_ _=>rfl) (List.range (2+r))
  ⟨_,_,_,_,_,_,_,_,s1,none⟩ ⟨h1,(Qi _ v).lx e1,(aiF r hr).2⟩
 ·exactλ_=>bu
 exact aeh (by decide:290<=299) i.1 i.2.1 (alY aiC rfl i.2.2.1) (alZ aiC i.2.2.2) λa' sw' rK cL s2 lv' rL EY st' h2 qS l2 m2=>aL (kn ⟨a',sw',rK,cL,lv',rL,EY,st',s2,_⟩ ⟨h2,qS,aiD rfl i.2.2.1 l2,aiE rfl i.2.2.2 m2⟩)
noncomputable def aiG:List Int:=[0,2,2,0,5,3,1,1,1,6,0,0,1,0,1,0,3,3,4,0,0,0,4,3,3,0,1,1,1,6,0,1,0,2,5,3]
theorem aiH(h:l.length<=63):cut l none (some 63)=l:=List.take_of_length_le (Nat.le_min.mpr ⟨h,aW _⟩)
theorem aer{xs:List Int}(hx:xs.length<=63):WP (aS TT FT 300 1065 [.lst (xs.map V.int)]) [] λr _=>r=.bool true:=by
 refine V4 (by decide) rfl rfl (E2 (a:=B7.body.take 2) (sSs _ _ _ _ ?_))
 refine jo (au (λl=>some (V.lst l)) (aiH (aH (cK (cT ..)) hx))) (.of rfl ?_);refine jc V.int (λx=>V.int (Int.fmod x 1680)) ?_ (aH hx (by decide)) (λx _ ys K kk=>aeq (by decide) kk) ?_
 ·exactλ_=>bu
 have em:(xs.map λx=>V.int (Int.fmod x 1680))=(xs.map λx=>Int.fmod x 1680).map V.int:=(nK).symm;refine jo (T:=TT) (f:=ZU 0) (au (λn:Nat=>some (vN n)) (cT ..)) (bG (λh0=>?_) λh0=>?_)
 ·exact zq (by decide) (IT (nums:=aiG) ⟨by decide,by decide,by decide⟩)
 ·rw [em]
  exact IT ⟨λe=>h0 (au List.length (List.map_eq_nil_iff.mp e)),Bv (aH (cK (cT ..)) hx),λx hx=>(List.mem_map.mp hx).elim λy q=>q.2▸Int.fmod_nonneg_of_pos y (by decide)⟩
theorem aeT(xs:List Int)(hx:xs.length<=63):∃st',aS TT FT 300 1065 [.lst (xs.map V.int)] []=.ok (.bool true) st':=(aer hx).out.elim λr q=>q.elim λs' q=>⟨s',q.1.trans (au (λr=>fH.ok r s') q.2)⟩
end Mine.F
theorem PySem.Challenge.cw_xw0135_01_holds : PySem.Challenge.rw_xw0135_01.Holds :=
 Mine.apc Mine.F.aeT
