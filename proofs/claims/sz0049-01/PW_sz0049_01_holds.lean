import PyProof.Rows.All
import Wide.All
import OpenK.AllK
import Wide.FinOn
import PyProof.InstStoreFacts
import Lean
import PySem.Challenge.RW_sz0049_01
set_option genSizeOf false
set_option Elab.async false
set_option linter.all false
set_option maxRecDepth 100000
set_option tactic.hygienic false
set_option bootstrap.genMatcherCode false
noncomputable section
set_option genInjectivity false
namespace Mine.Internal
open PySem (Str)
theorem aab:type_of% @congrArg:=@congrArg
theorem aac:type_of% @List.mem_cons_of_mem:=@List.mem_cons_of_mem
theorem aad:type_of% @List.mem_cons_self:=@List.mem_cons_self
theorem aae:type_of% @if_pos:=@if_pos
theorem aaf:type_of% @if_neg:=@if_neg
theorem aag:type_of% @List.length_append:=@List.length_append
theorem aah:type_of% @Option.some.inj:=@Option.some.inj
theorem aai:type_of% @Nat.lt_of_lt_of_le:=@Nat.lt_of_lt_of_le
theorem aaj:type_of% @Nat.le_trans:=@Nat.le_trans
theorem aak:type_of% @Nat.lt_of_le_of_lt:=@Nat.lt_of_le_of_lt
theorem aal:type_of% @PySem.wpAny_bind:=@PySem.wpAny_bind
theorem aam:type_of% @beq_iff_eq:=@beq_iff_eq
theorem aan:type_of% @List.length_map:=@List.length_map
theorem aao:type_of% @List.getElem?_eq_getElem:=@List.getElem?_eq_getElem
theorem aap:type_of% @Option.bind_eq_some_iff:=@Option.bind_eq_some_iff
theorem aaq:type_of% @decide_eq_true:=@decide_eq_true
theorem aar:type_of% @List.mem_singleton:=@List.mem_singleton
theorem aas:type_of% @Option.map_eq_some_iff:=@Option.map_eq_some_iff
theorem aat:type_of% @Nat.le_refl:=@Nat.le_refl
theorem aau:type_of% @List.mem_cons:=@List.mem_cons
theorem aav:type_of% @List.getElem?_eq_some_iff:=@List.getElem?_eq_some_iff
theorem aaw:type_of% @Nat.lt_succ_of_lt:=@Nat.lt_succ_of_lt
theorem aax:type_of% @Nat.le_of_lt_succ:=@Nat.le_of_lt_succ
theorem aay:type_of% @Nat.le_of_lt:=@Nat.le_of_lt
theorem aaz:type_of% @Nat.le_of_ble_eq_true:=@Nat.le_of_ble_eq_true
theorem aaA:type_of% @decide_eq_false:=@decide_eq_false
theorem aaB:type_of% @Bool.and_eq_true:=@Bool.and_eq_true
theorem aaC:type_of% @Bool.and_eq_true_iff:=@Bool.and_eq_true_iff
theorem aaD:type_of% @Nat.le_of_eq:=@Nat.le_of_eq
theorem aaE:type_of% @Nat.add_le_add_left:=@Nat.add_le_add_left
theorem aaF:type_of% @Nat.le_add_right:=@Nat.le_add_right
theorem aaG:type_of% @List.mem_map:=@List.mem_map
theorem aaH:type_of% @PySem.wpAny_pure:=@PySem.wpAny_pure
theorem aaI:type_of% @List.length_cons:=@List.length_cons
theorem aaJ:type_of% @List.getElem?_append_left:=@List.getElem?_append_left
theorem aaK:type_of% @of_decide_eq_true:=@of_decide_eq_true
theorem aaL:type_of% @Nat.lt_succ_of_le:=@Nat.lt_succ_of_le
theorem aaM:type_of% @List.mem_append:=@List.mem_append
theorem aaN:type_of% @Nat.lt_succ_self:=@Nat.lt_succ_self
theorem aaO:type_of% @List.getElem?_append_right:=@List.getElem?_append_right
theorem aaP:type_of% @List.map_append:=@List.map_append
theorem aaQ:type_of% @Int.natCast_nonneg:=@Int.natCast_nonneg
theorem aaR:type_of% @Nat.ne_of_lt:=@Nat.ne_of_lt
theorem aaS:type_of% @decide_eq_true_eq:=@decide_eq_true_eq
theorem aaT:type_of% @List.size_toArray:=@List.size_toArray
theorem aaU:type_of% @List.nodup_cons:=@List.nodup_cons
theorem aaV:type_of% @Nat.zero_le:=@Nat.zero_le
theorem aaW:type_of% @Nat.lt_irrefl:=@Nat.lt_irrefl
theorem aaX:type_of% @List.filter_cons:=@List.filter_cons
theorem aaY:type_of% @List.mem_filter:=@List.mem_filter
theorem aaZ:type_of% @Bool.or_eq_true_iff:=@Bool.or_eq_true_iff
theorem aa0:type_of% @List.all_eq_true:=@List.all_eq_true
section
variable{a b c d m n:Nat}
theorem cP(h:a<=b) (e:b.ble c=true):a<=c:=aaj h (aaz e)
theorem nI(k:Nat) (h:a<=b) (e:(b+k).ble c=true):a+k<=c:=aaj (Nat.add_le_add_right h k) (aaz e)
theorem iu(h:a<=b) (g:b<=c) (e:c.ble d=true):a<=d:=aaj h (cP g e)
theorem uD(k:Nat) (h:a<=b) (e:k.ble m=true):a+k<=b+m:=Nat.add_le_add h (aaz e)
theorem V9(h:a+b<=c) (e:c.ble d=true):a<=d:=cP (Nat.le_of_add_right_le h) e
theorem nJ(h:a+b<c) (e:c.ble d=true):a<d:=cP (aak (aaF a b) h) e
theorem P0(h:a+b<c):a<c:=aak (aaF a b) h
theorem P1(h:a+(b+1)<=c):a+1+b<=c:=Nat.succ_add_eq_add_succ a b▸h
theorem Ct(h:a+(b+1)<c):a+1+b<c:=Nat.succ_add_eq_add_succ a b▸h
theorem uc(h:a+(b+1)=c):a+1+b=c:=Nat.succ_add_eq_add_succ a b▸h
theorem pF(h:(a:Int)=(b:Int)):a=b:=Int.ofNat.inj h
theorem sG(h:¬a=b):¬(a:Int)=(b:Int):=λe=>h (Int.ofNat.inj e)
theorem O3(h:¬(a:Int)=(b:Int)):¬a=b:=λe=>h (aab Int.ofNat e)
theorem Kh(h:a=b):(a:Int)=(b:Int):=aab Int.ofNat h
theorem zB(h:b<=a) (e:c.blt b=true):¬a=c:=λz=>absurd (aai (aaz e) h) (z▸aaW _)
theorem P2(h:a<=b+1) (g:¬a=b+1):a<=b:=aax (Nat.lt_of_le_of_ne h g)
theorem zC(h:a=b) (g:b<=c):a<=c:=h▸g
theorem O4(h:a=b) (g:c<=b):c<=a:=h▸g
theorem P4(h:a<=c) (g:b<=d) (e:(c+d).ble n=true):a+b<=n:=cP (Nat.add_le_add h g) e
theorem n_3(h:a<=m+c) (g:m<=b+1):a<=b+(c+1):=aaj h (by rw[Nat.add_comm c 1,<- Nat.add_assoc];exact Nat.add_le_add_right g c)
theorem n_4(h:a<=c) (g:b<=d) (e:d.ble n=true):a+b<=c+n:=Nat.add_le_add h (cP g e)
theorem Cu(h:a<=b) (e:b.ble c=true):(a:Int)<=(c:Int):=Int.ofNat_le.mpr (cP h e)
theorem n_1(h:¬a=0):a-1+1=a:=Nat.succ_pred_eq_of_ne_zero h
theorem n_5(k:Nat) (h:k<=a):a=k+(a-k):=(Nat.add_sub_of_le h).symm
theorem n_6(k:Nat) (h:k<=a):a=a-k+k:=(Nat.sub_add_cancel h).symm
theorem n_7(k:Nat) (h:a=k+b):a-k=b:=h▸Nat.add_sub_cancel_left k b
theorem n_8(k:Nat) (h:a<b) (g:b<=c) (e:(k+c).ble d=true):k+a<d:=cP (Nat.add_lt_add_left (aai h g) k) e
theorem Ua(h:b=a+(n+1)):a<b:=h▸Nat.lt_add_of_pos_right (Nat.succ_pos n)
theorem P5(h:a+c=b):a<=b:=h▸aaF a c
theorem O5(h:a<=c+1) (g:c+(b+1)<d):a+b<d:=aak (aaj (Nat.add_le_add_right h b) (P1 (aat _))) g
theorem Jw(h:c=a) (g:c<b):a<b:=h▸g
theorem V_(h:¬c=b):¬a+b=a+c:=λe=>h (Nat.add_left_cancel e).symm
theorem n_0(h:a<=m*c) (g:c<=d) (e:(m*d).ble n=true):a<=n:=cP (aaj h (Nat.mul_le_mul_left m g)) e
theorem i_0{a b c:Int}(h:a<=b) (e:decide (b<=c)=true):a<=c:=Int.le_trans h (aaK e)
theorem i_1(h:0<a):0<(a:Int):=Int.ofNat_lt.mpr h
theorem i_4(h:(a:Int)=(b:Int)) (e:b.beq c=false):¬(a:Int)=(c:Int):=λz=>Nat.ne_of_beq_eq_false e (Int.ofNat.inj (h.symm.trans z))
theorem Ki(h:a<b) (g:c+b<=d):c+a<d:=aai (Nat.add_lt_add_left h c) g
theorem n_9(h:a=b+m) (g:b<=c) (e:(c+m).ble d=true):a<=d:=h▸cP (Nat.add_le_add_right g m) e
theorem V'(h:a<b):b≠0:=λe=>Nat.not_lt_zero a (e▸h)
theorem n_f(h:a<b) (g:b<a+1) {P:Prop}:P:=absurd (aai h (aax g)) (aaW _)
theorem O6(h:a<b+2*c) (g:c<=2):a<b+4:=aai h (aaE (Nat.mul_le_mul_left 2 g) b)
theorem i_6{a b c:Int}(h:b<=a) (e:decide (c<=b)=true):c<=a:=Int.le_trans (aaK e) h
theorem P6(k:Nat) (h:a<4) (e:(10+k).blt 14=true):1+3*a+k<14:=aak (Nat.add_le_add_right (aaE (Nat.mul_le_mul_left 3 (aax h)) 1) k) (aaz e)
theorem Ub(h:c+4*(b+1)<d) (g:a<=c+4):a+4*b<d:=aak (aaj (Nat.add_le_add_right g _) (aaD (Nat.add_right_comm c 4 _))) h
theorem Uc:a+2+b-2-a=b:=by rw[Nat.sub_sub,Nat.add_comm 2 a,Nat.add_sub_cancel_left]
theorem Wa:∀ a,a<7->a=0∨a=1∨a=2∨a=3∨a=4∨a=5∨a=6:=by decide
theorem Kj:∀ a,a<3->a=0∨a=1∨a=2:=by decide
theorem Ue(h:a+40<c):a+20<c:=aak (aaE (by decide:20<=40) a) h
theorem i_7:((a+1:Nat):Int)-1=a:=Int.add_sub_cancel (a:Int) 1
end
section
variable{α β γ:Sort _}{C a b c d e f g m:Prop}{p q r s t w:α->Prop}{P Q R S:α->β->Prop}{I J K L M:α->β->γ->Prop}
theorem cJ(h:a/\b) (k:a->b->C):C:=k h.1 h.2
theorem gJ(h:(∃ u,p u)) (k:∀ u,p u->C):C:=h.elim λu h1=>k u h1
theorem jx(h:a/\b/\c) (k:a->b->c->C):C:=k h.1 h.2.1 h.2.2
theorem az(h:(∃ u,p u/\q u)) (k:∀ u,p u->q u->C):C:=h.elim λu h1=>k u h1.1 h1.2
theorem jy(h:a/\b/\c/\d) (k:a->b->c->d->C):C:=k h.1 h.2.1 h.2.2.1 h.2.2.2
theorem Kk(h:a/\b/\(∃ u,p u)) (k:a->b->∀ u,p u->C):C:=h.2.2.elim λu h1=>k h.1 h.2.1 u h1
theorem Cv(h:a/\(∃ u,p u/\q u)) (k:a->∀ u,p u->q u->C):C:=h.2.elim λu h1=>k h.1 u h1.1 h1.2
theorem cR(h:(∃ u,p u/\q u/\r u)) (k:∀ u,p u->q u->r u->C):C:=h.elim λu h1=>k u h1.1 h1.2.1 h1.2.2
theorem Kl(h:(∃ u,(∃ v,P u v/\Q u v))) (k:∀ u,∀ v,P u v->Q u v->C):C:=h.elim λu h1=>h1.elim λv h2=>k u v h2.1 h2.2
theorem lW(h:a/\b/\c/\d/\e) (k:a->b->c->d->e->C):C:=k h.1 h.2.1 h.2.2.1 h.2.2.2.1 h.2.2.2.2
theorem pG(h:a/\(∃ u,p u/\q u/\r u)) (k:a->∀ u,p u->q u->r u->C):C:=h.2.elim λu h1=>k h.1 u h1.1 h1.2.1 h1.2.2
theorem uE(h:a/\(∃ u,(∃ v,P u v/\Q u v))) (k:a->∀ u,∀ v,P u v->Q u v->C):C:=h.2.elim λu h1=>h1.elim λv h2=>k h.1 u v h2.1 h2.2
theorem cT(h:(∃ u,p u/\q u/\r u/\s u)) (k:∀ u,p u->q u->r u->s u->C):C:=h.elim λu h1=>k u h1.1 h1.2.1 h1.2.2.1 h1.2.2.2
theorem Ee(h:(∃ u,p u/\(∃ v,P u v/\Q u v))) (k:∀ u,p u->∀ v,P u v->Q u v->C):C:=h.elim λu h1=>h1.2.elim λv h2=>k u h1.1 v h2.1 h2.2
theorem lX(h:(∃ u,(∃ v,(∃ w,I u v w/\J u v w)))) (k:∀ u,∀ v,∀ w,I u v w->J u v w->C):C:=h.elim λu h1=>h1.elim λv h2=>h2.elim λw h3=>k u v w h3.1 h3.2
theorem q_(h:(∃ u,p u/\q u/\r u/\s u/\t u)) (k:∀ u,p u->q u->r u->s u->t u->C):C:=h.elim λu h1=>k u h1.1 h1.2.1 h1.2.2.1 h1.2.2.2.1 h1.2.2.2.2
theorem zD(h:(∃ u,(∃ v,P u v/\Q u v/\R u v/\S u v))) (k:∀ u,∀ v,P u v->Q u v->R u v->S u v->C):C:=h.elim λu h1=>h1.elim λv h2=>k u v h2.1 h2.2.1 h2.2.2.1 h2.2.2.2
theorem rh(h:(∃ u,(∃ v,(∃ w,I u v w/\J u v w/\K u v w)))) (k:∀ u,∀ v,∀ w,I u v w->J u v w->K u v w->C):C:=h.elim λu h1=>h1.elim λv h2=>h2.elim λw h3=>k u v w h3.1 h3.2.1 h3.2.2
theorem eQ(h:a/\b/\c/\d/\e/\f/\g) (k:a->b->c->d->e->f->g->C):C:=k h.1 h.2.1 h.2.2.1 h.2.2.2.1 h.2.2.2.2.1 h.2.2.2.2.2.1 h.2.2.2.2.2.2
theorem gY(h:(∃ u,p u/\q u/\r u/\s u/\t u/\w u)) (k:∀ u,p u->q u->r u->s u->t u->w u->C):C:=h.elim λu h1=>k u h1.1 h1.2.1 h1.2.2.1 h1.2.2.2.1 h1.2.2.2.2.1 h1.2.2.2.2.2
theorem nN(h:(∃ u,(∃ v,(∃ w,I u v w/\J u v w/\K u v w/\L u v w)))) (k:∀ u,∀ v,∀ w,I u v w->J u v w->K u v w->L u v w->C):C:=h.elim λu h1=>h1.elim λv h2=>h2.elim λw h3=>k u v w h3.1 h3.2.1 h3.2.2.1 h3.2.2.2
theorem fZ(h:a/\b/\c/\d/\e/\f/\g/\m) (k:a->b->c->d->e->f->g->m->C):C:=k h.1 h.2.1 h.2.2.1 h.2.2.2.1 h.2.2.2.2.1 h.2.2.2.2.2.1 h.2.2.2.2.2.2.1 h.2.2.2.2.2.2.2
theorem Jx(h:(∃ u,(∃ v,(∃ w,I u v w/\J u v w/\K u v w/\L u v w/\M u v w)))) (k:∀ u,∀ v,∀ w,I u v w->J u v w->K u v w->L u v w->M u v w->C):C:=h.elim λu h1=>h1.elim λv h2=>h2.elim λw h3=>k u v w h3.1 h3.2.1 h3.2.2.1 h3.2.2.2.1 h3.2.2.2.2
end
set_option genInjectivity true in
inductive Ad where
 |inst (c i:Nat)
 |fld (a:Ad) (k:Nat)
 |item (a:Ad) (i:Nat)
 |aq (i:Nat)
 deriving DecidableEq
noncomputable def Ad.dp:Ad->Nat
 |.fld a _=>a.dp+1
 |.item a _=>a.dp+1
 |_=>0
theorem Ad.fld_ne{a:Ad}{k:Nat}:a≠.fld a k:=λe=>aaR (aaN a.dp) (aab Ad.dp e)
theorem Ad.lY{a:Ad}{k:Nat}:a≠.item a k:=λe=>aaR (aaN a.dp) (aab Ad.dp e)
set_option genInjectivity true in
inductive V where
 |none
 |bool (b:Bool)
 |int (i:Int)
 |str (s:Str)
 |tup (xs:List V)
 |lst (xs:List V)
 |ref (a:Ad)
 |tab (n:Nat)
set_option genInjectivity true in
inductive aP where
 |inst (c:Nat) (fs:List (Nat×V))
 |list (xs:List V)
 |dict (es:List (V×V))
structure MH where
 get:Ad->Option aP
 cnt:Nat->Nat
 aq:Nat
noncomputable def MH.set(h:MH) (a:Ad) (o:aP):MH:={ h with get:=λb=>if b=a then some o else h.get b }
noncomputable def MH.new(h:MH) (c:Nat):MH:={ (h.set (.inst c (h.cnt c)) (.inst c [])) with cnt:=λd=>if d=c then h.cnt c+1 else h.cnt d }
set_option genInjectivity true in
inductive MV where
 |val (v:V)
 |bH (xs:List V)
abbrev En:=List (Option MV)
structure St where
 env:List (Option MV)
 h:MH
inductive Op where
 |add | sub | mul | div | mod | band | bor
 deriving DecidableEq
inductive Cm where
 |eq | ne | lt | le | gt | ge | is | iM | mem | gK
set_option genCtorIdx false in
mutual
inductive ME where
 |lit (v:V)
 |var (i:Nat)
 |d_ (v:V)
 |attr (e:ME) (k:Nat)
 |item (e i:ME)
 |ri (e:ME) (lo hi:dM)
 |rev (e:ME)
 |bin (op:Op) (l r:ME)
 |neg (e:ME)
 |inv (e:ME)
 |nt (e:ME)
 |cx (es:dM)
 |eZ (es:dM)
 |cmp (op:Cm) (l r:ME)
 |ite (t:MT) (a b:ME)
 |lst (es:dM)
 |a9 (es:dM)
 |dW (es:rj)
 |comp (elt:ME) (iter:ME) (ifs:gZ) (cU:List Nat)
 |call (f:Nat) (es:dM)
 |new (c:Nat) (es:dM)
 |bU (e:ME) (k:Nat) (es:dM)
 |len (e:ME)
 |toStr (e:ME)
 |eR (e:ME)
 |anyOf (e:ME)
 |g_ (e k d:ME)
inductive dM where
 |nil
 |cons (e:ME) (es:dM)
inductive MT where
 |val (e:ME)
 |cmp (op:Cm) (l r:ME)
 |nt (t:MT)
 |cx (ts:gZ)
 |eZ (ts:gZ)
 |ite (t a b:MT)
inductive gZ where
 |nil
 |cons (t:MT) (ts:gZ)
inductive rj where
 |nil
 |val (k:Str) (e:ME) (es:rj)
 |bV (k:Str) (es:rj)
 |newD (k:Str) (es:rj)
end
set_option genCtorIdx false in
mutual
inductive MS where
 |asg (i:Nat) (e:ME)
 |fw (i:Nat) (es:dM)
 |ft (i:Nat) (f:Nat) (es:dM)
 |bq (e:ME) (k:Nat) (v:ME)
 |bp (e:ME) (k:Nat) (es:dM)
 |cV (e:ME) (k:Nat)
 |dX (e i v:ME)
 |pH (b:Nat) (i v:ME)
 |pI (is:List Nat) (e:ME)
 |aug (i:Nat) (op:Op) (e:ME)
 |app (e v:ME)
 |lZ (e:ME)
 |gL (i:Nat) (v:ME)
 |ext (e v:ME)
 |ex (e:ME)
 |aT (t:MT) (a b:aA)
 |eK (t:MT) (b:aA)
 |cI (is:List Nat) (it:ME) (b:aA)
 |forR (i:Nat) (args:dM) (b:aA)
 |ret (e:ME)
 |raise (es:dM)
 |iN (a b:aA)
 |cont
 |kX
 |stuck
inductive aA where
 |nil
 |cons (s:MS) (ss:aA)
end
set_option genInjectivity true in
inductive aB where
 |ret (v:V) (h:MH)
 |exc (h:MH)
set_option genInjectivity true in
inductive Fl where
 |next | cont
 |ret (v:V)
 |exc
structure Fn where
 np:Nat
 nl:Nat
 body:aA
structure Prog where
 fn:Nat->Option Fn
 bU:Nat->Nat->Option Nat
 init:Nat->Option Nat
 tab:Nat->List (Int×Int)
 fld:Nat->Nat->Bool
noncomputable def truthy:V->Option Bool
 |.none=>some false
 |.bool b=>some b
 |.int i=>some (i != 0)
 |.tup xs=>some (!xs.isEmpty)
 |.lst xs=>some (!xs.isEmpty)
 |_=>none
mutual
noncomputable def aC:V->V->Bool
 |.none,y=>(match y with | .none=>true | _=>false)
 |.bool a,y=>(match y with | .bool b=>a==b | _=>false)
 |.int a,y=>(match y with | .int b=>a==b | _=>false)
 |.str a,y=>(match y with | .str b=>decide (a=b) | _=>false)
 |.tup a,y=>(match y with | .tup b=>bX a b | _=>false)
 |.lst a,y=>(match y with | .lst b=>bX a b | _=>false)
 |.ref a,y=>(match y with | .ref b=>decide (a=b) | _=>false)
 |.tab a,y=>(match y with | .tab b=>a==b | _=>false)
noncomputable def bX:List V->List V->Bool
 |[],y=>y.isEmpty
 |x::xs,y=>(match y with | []=>false | y::ys=>aC x y&&bX xs ys)
end
mutual
noncomputable def nK:Nat->V->Bool
 |n,v=>(match v with
  |.int _=>true
  |.tup xs=>(match n with | 0=>false | n+1=>jz n xs)
  |.lst xs=>(match n with | 0=>false | n+1=>jz n xs)
  |_=>false)
noncomputable def jz:Nat->List V->Bool
 |_,[]=>true
 |n,x::xs=>nK n x&&jz n xs
end
def pl(v:V):Bool:=nK 8 v
def Ug(xs:List V):Bool:=jz 8 xs
def Km(a b:V):Option Bool:=if pl a=true/\pl b=true then some (aC a b) else none
def O7(a b:V):Option Bool:=match a with
 |.str s=>(match b with | .str t=>some (decide (s=t)) | _=>none)
 |a=>Km a b
def iy(x:V) (ys:List V):Option Bool:=if pl x=true/\Ug ys=true then some (ys.any λy=>aC y x) else none
noncomputable def kk:V->Nat
 |.int _=>0
 |.str _=>1
 |.tup _=>2
 |_=>3
def aF(k:V) (es:List (V×V)):Option (Option V) :=
 if es.all (λp=>kk p.1==kk k) then some ((es.find? λp=>aC p.1 k).map (·.2)) else none
noncomputable def cz(k v:V):List (V×V)->List (V×V)
 |[]=>[(k,v)]
 |(y,u)::es=>if aC y k=true then (y,v)::es else (y,u)::cz k v es
noncomputable def br(k:Nat):List (Nat×V)->Option V
 |[]=>none
 |(j,v)::fs=>if j=k then some v else br k fs
noncomputable def dY(k:Nat) (v:V):List (Nat×V)->List (Nat×V)
 |[]=>[(k,v)]
 |(j,u)::fs=>if j=k then (j,v)::fs else (j,u)::dY k v fs
noncomputable def dm(xs:List V) (i:Int):Option V :=
 if 0<=i then xs[i.toNat]? else if -(xs.length:Int)<=i then xs[(i+xs.length).toNat]? else none
noncomputable def jA:V->Option Bool
 |.bool b=>some b
 |_=>none
mutual
noncomputable def hb:Nat->V->Bool
 |n,v=>(match v with
  |.int _=>true
  |.tup xs=>(match n with | 0=>false | n+1=>P7 n xs)
  |_=>false)
noncomputable def P7:Nat->List V->Bool
 |_,[]=>true
 |n,x::xs=>hb n x&&P7 n xs
end
def eL:V->Bool
 |.str _=>true
 |v=>hb 6 v
noncomputable def nO(f:Int->Option V) (a:V):Option V:=match a with | .int i=>f i | _=>none
def ops(f:Int->Int->Option V) (a b:V):Option V:=nO (λi=>nO (f i) b) a
def Kn(a b:V):Option V:=match a with
 |.int i=>nO (λj=>some (.int (i+j))) b
 |.str x=>(match b with | .str y=>if x.length+y.length<=1000 then some (.str (x++y)) else none | _=>none)
 |.tup x=>(match b with | .tup y=>if x.length+y.length<=1000 then some (.tup (x++y)) else none | _=>none)
 |.lst x=>(match b with | .lst y=>if x.length+y.length<=1000 then some (.lst (x++y)) else none | _=>none)
 |_=>none
noncomputable def rep(n:Int) (xs:List V) (f:List V->V):Option V:=match xs with
 |[]=>none
 |x::xs=>(match xs with | []=>if 0<=n/\n<=1000 then some (f (List.replicate n.toNat x)) else none | _=>none)
def Ko(a b:V):Option V:=match a with
 |.int i=>nO (λj=>if 0<=i/\i<1000/\0<=j/\j<1000 then some (.int (i*j)) else none) b
 |.tup xs=>nO (λn=>rep n xs .tup) b
 |.lst xs=>nO (λn=>rep n xs .lst) b
 |_=>none
def binop(op:Op) (a b:V):Option V:=match op with
 |.add=>Kn a b
 |.sub=>ops (λi j=>some (.int (i-j))) a b
 |.mul=>Ko a b
 |.div=>ops (λi j=>if 0<j/\0<=i/\i.toNat.blt 1000000000000=true then some (.int (i.fdiv j)) else none) a b
 |.mod=>ops (λi j=>if 0<j then some (.int (i.fmod j)) else none) a b
 |.band=>ops (λi j=>some (.int (PySem.Builtin.bitAnd i j))) a b
 |.bor=>ops (λi j=>some (.int (PySem.Builtin.bitOr i j))) a b
noncomputable def zE(f:Int->Option Bool) (a:V):Option Bool:=match a with | .int i=>f i | _=>none
def uF(f:Int->Int->Bool) (a b:V):Option Bool:=zE (λi=>zE (λj=>some (f i j)) b) a
noncomputable def P8(a b:V):Option Bool:=match b with
 |.none=>(match a with | .none=>some true | .ref _=>some false | .tup _=>some false | _=>none)
 |_=>none
def zF(x:V) (o:Option aP):Option Bool:=match o with
 |some (.list ys)=>iy x ys
 |some (.dict es)=>if eL x then (aF x es).map (·.isSome) else none
 |_=>none
def Ef(h:MH) (x b:V):Option Bool:=match b with
 |.tup ys=>iy x ys
 |.lst ys=>iy x ys
 |.ref a=>zF x (h.get a)
 |_=>none
def zG(P:Prog) (h:MH) (x b:V):Option Bool:=match b with
 |.tab n=>zE (λi=>some ((P.tab n).any λp=>p.1==i)) x
 |b=>Ef h x b
def a8(P:Prog) (h:MH) (op:Cm) (a b:V):Option Bool:=match op with
 |.eq=>O7 a b
 |.ne=>(O7 a b).map (!·)
 |.lt=>uF (λi j=>decide (i<j)) a b
 |.le=>uF (λi j=>decide (i<=j)) a b
 |.gt=>uF (λi j=>decide (j<i)) a b
 |.ge=>uF (λi j=>decide (j<=i)) a b
 |.is=>P8 a b
 |.iM=>(P8 a b).map (!·)
 |.mem=>zG P h a b
 |.gK=>(Ef h a b).map (!·)
def Kq(k:V) (es:List (V×V)):Option V:=if eL k then (aF k es).join else none
def rl(k:V) (o:Option aP):Option V:=match o with
 |some (.list xs)=>nO (dm xs) k
 |some (.dict es)=>Kq k es
 |_=>none
def getItem(P:Prog) (h:MH) (o k:V):Option V:=match o with
 |.tup xs=>nO (dm xs) k
 |.lst xs=>nO (dm xs) k
 |.tab n=>nO (λi=>((P.tab n).find? λp=>p.1==i).map (λp=>.int p.2)) k
 |.ref a=>rl k (h.get a)
 |_=>none
noncomputable def l8(o:Option aP):Option (List V):=match o with
 |some (.list xs)=>some xs
 |_=>none
def bW(h:MH):V->Option (List V)
 |.tup xs=>some xs
 |.lst xs=>some xs
 |.ref a=>l8 (h.get a)
 |_=>none
def lenOf(h:MH) (v:V):Option Nat:=(bW h v).map (·.length)
def uG(xs:List V) (o:Option aP):Bool:=match o with
 |some (.list ys)=>bX xs ys
 |_=>false
def same(h:MH) (v:V) (xs:List V):Bool:=match v with
 |.ref a=>uG xs (h.get a)
 |_=>true
noncomputable def cut(xs:List V) (lo hi:Option Int):Option V:=match lo with
 |none=>(match hi with | none=>none | some b=>if 0<=b then some (.lst (xs.take b.toNat)) else none)
 |some a=>(match hi with
  |none=>if 0<=a then some (.lst (xs.drop a.toNat)) else none
  |some b=>if 0<=a/\a<=b/\b<=xs.length then some (.lst ((xs.drop a.toNat).take (b.toNat-a.toNat))) else none)
def slice(h:MH) (v:V) (lo hi:Option Int):Option V:=match v with
 |.tup _=>none
 |v=>(bW h v).bind λxs=>cut xs lo hi
noncomputable def jB(l:List V):Option (Option Int):=match l with
 |[]=>some none
 |x::l=>(match x with | .int i=>(match l with | []=>some (some i) | _=>none) | _=>none)
noncomputable def setEnv(env:List (Option MV)) (i:Nat) (v:MV):List (Option MV):=env.set i (some v)
noncomputable def unpack:List Nat->List V->List (Option MV)->Option (List (Option MV))
 |[],xs,env=>if xs.isEmpty then some env else none
 |i::is,xs,env=>(match xs with | x::xs=>unpack is xs (setEnv env i (.val x)) | []=>none)
def jb(is:List Nat) (x:V) (env:List (Option MV)):Option (List (Option MV)):=match x with
 |.tup xs=>unpack is xs env
 |.lst xs=>unpack is xs env
 |_=>none
def bindAll(is:List Nat) (x:V) (env:List (Option MV)):Option (List (Option MV)):=match is with
 |i::js=>(match js with | []=>some (setEnv env i (.val x)) | _=>jb is x env)
 |[]=>jb is x env
noncomputable def nP(o:Option (Option MV)):Option (List V):=match o with
 |some (some (.bH xs))=>some xs
 |_=>none
def Uh(env:List (Option MV)) (i:Nat):Bool:=(nP env[i]?).isSome
noncomputable def valOf(o:Option (Option MV)):Option V:=match o with
 |some (some (.val v))=>some v
 |_=>none
noncomputable def eC(env:List (Option MV)):List Nat->Option (List (Option MV))
 |[]=>some []
 |i::is=>(match valOf env[i]? with
  |some v=>(match eC env is with | some r=>some (some (.val v)::r) | none=>none)
  |none=>none)
theorem kput_1{k v y u:V}{es:List (V×V)}:cz k v ((y,u)::es)=if aC y k=true then (y,v)::es else (y,u)::cz k v es:=rfl
theorem fput_1{k j:Nat}{v u:V}{es:List (Nat×V)}:dY k v ((j,u)::es)=if j=k then (j,v)::es else (j,u)::dY k v es:=rfl
theorem fget_1{k j:Nat}{v:V}{es:List (Nat×V)}:br k ((j,v)::es)=if j=k then some v else br k es:=rfl
theorem P9{a:List V}:kk (.tup a)=2:=rfl
theorem jC{a b:Int}:aC (.int a) (.int b)=(a==b):=rfl
theorem Kr{a b:Str}:aC (.str a) (.str b)=decide (a=b):=rfl
theorem Eg{a b:List V}:aC (.tup a) (.tup b)=bX a b:=rfl
theorem uH{x y:V}{a b:List V}:bX (x::a) (y::b)=(aC x y&&bX a b):=rfl
theorem zH:bX [] []=true:=rfl
theorem P_{a:Int}:kk (.int a)=0:=rfl
noncomputable def Jy(k:St->Option (Fl×St)) (p:Fl×St):Option (Fl×St):=match p.1 with
 |.next=>k p.2
 |.cont=>k p.2
 |.ret _=>some p
 |.exc=>some p
noncomputable def forL(f:V->St->Option (Fl×St)) (chk:MH->Bool):List V->St->Option (Fl×St)
 |[],st=>if chk st.h=true then some (.next,st) else none
 |x::xs,st=>if chk st.h=true then (f x st).bind (Jy (forL f chk xs)) else none
noncomputable def O8(a:St->Option (Fl×St)) (q:Bool×St):Option (Fl×St):=match q.1 with
 |true=>a q.2
 |false=>some (.next,q.2)
noncomputable def bY(t:St->Option (Bool×St)) (f:St->Option (Fl×St)):Nat->St->Option (Fl×St)
 |0,_=>none
 |n+1,st=>(t st).bind (O8 λst=>(f st).bind (Jy (bY t f n)))
noncomputable def bO(f:V->MH->Option (Option V×MH)) (chk:MH->Bool):List V->MH->Option (List V×MH)
 |[],h=>if chk h=true then some ([],h) else none
 |x::xs,h=>if chk h=true then (f x h).bind λp=>(bO f chk xs p.2).map λq=>(p.1.toList++q.1,q.2) else none
noncomputable def bC(a:Int) (step:Int):Nat->List V
 |0=>[]
 |n+1=>.int a::bC (a+step) step n
theorem uI{a c:Int}{n:Nat}:bC a c (n+1)=.int a::bC (a+c) c n:=rfl
def Ks(v:V):Option (List V):=match v with
 |.int n=>if -1000<=n/\n<=1000 then some (bC 0 1 n.toNat) else none
 |_=>none
def Kt(u v w:V):Option (List V):=match u with
 |.int a=>(match v with
  |.int b=>(match w with
   |.int c=>if c= -1/\ -1000<=a/\a<=1000/\ -1000<=b/\b<=1000 then some (bC a (-1) (a-b).toNat) else none
   |_=>none)
  |_=>none)
 |_=>none
def e9(l:List V):Option (List V):=match l with
 |[]=>none
 |u::l=>(match l with
  |[]=>Ks u
  |v::l=>(match l with
   |[]=>none
   |w::l=>if l.isEmpty then Kt u v w else none))
noncomputable def jD(P:Prog) (k:Nat) (o:Option aP):Option Nat:=match o with
 |some (.inst c _)=>P.bU c k
 |_=>none
def eM(P:Prog) (h:MH) (o:V) (k:Nat):Option Nat:=match o with
 |.ref a=>jD P k (h.get a)
 |_=>none
noncomputable def Eh(o:Option aP):Bool:=match o with
 |some (.list _)=>true
 |_=>false
def Cw(h:MH) (o:V):Bool:=match o with
 |.ref a=>Eh (h.get a)
 |_=>false
noncomputable def Ei(o:Option aP):Bool:=match o with
 |some (.dict _)=>true
 |_=>false
def Cy(h:MH) (o:V):Bool:=match o with
 |.tab _=>true
 |.ref a=>Ei (h.get a)
 |_=>false
def jE(k:Nat) (o:Option aP):Option V:=match o with
 |some (.inst _ fs)=>br k fs
 |_=>none
def getAttr(h:MH) (o:V) (k:Nat):Option V:=match o with
 |.ref a=>jE k (h.get a)
 |_=>none
noncomputable def gB(h:MH) (o:V) (f:Ad->aP->Option MH):Option MH:=match o with
 |.ref a=>(h.get a).bind (f a)
 |_=>none
noncomputable def l9(o:aP) (f:Nat->List (Nat×V)->Option MH):Option MH:=match o with
 |.inst c fs=>f c fs
 |_=>none
noncomputable def l_(o:aP) (f:List V->Option MH):Option MH:=match o with
 |.list xs=>f xs
 |_=>none
def setAttr(P:Prog) (h:MH) (o:V) (k:Nat) (v:V):Option MH:=gB h o λa o=>l9 o λc fs=>if P.fld c k=true/\fs.length<500 then some (h.set a (.inst c (dY k v fs))) else none
def nQ(P:Prog) (h:MH) (o:V) (k:Nat) (vs:List V):Option MH:=gB h o λa o=>l9 o λc fs=>if br k fs=none/\P.fld c k=true/\fs.length<500/\vs.length<=1000 then some ((h.set (.fld a k) (.list vs)).set a (.inst c (dY k (.ref (.fld a k)) fs))) else none
def nR(P:Prog) (h:MH) (o:V) (k:Nat):Option MH:=gB h o λa o=>l9 o λc fs=>if br k fs=none/\P.fld c k=true/\fs.length<500 then some ((h.set (.fld a k) (.dict [])).set a (.inst c (dY k (.ref (.fld a k)) fs))) else none
def appendAt(h:MH) (o v:V):Option MH:=gB h o λa o=>l_ o λxs=>if xs.length<1000 then some (h.set a (.list (xs++[v]))) else none
def ma(h:MH) (o:V):Option MH:=gB h o λa o=>l_ o λxs=>if xs.length<1000 then some ((h.set a (.list (xs++[.ref (.item a xs.length)]))).set (.item a xs.length) (.list [])) else none
def Cz(h:MH) (o v:V):Option MH:=match v with
 |.lst ys=>gB h o λa o=>l_ o λxs=>if xs.length+ys.length<=1000/\0<ys.length then some (h.set a (.list (xs++ys))) else none
 |_=>none
def CA(h:MH) (a:Ad) (k v:V) (o:aP):Option MH:=match o with
 |.list xs=>(match k with | .int n=>if 0<=n/\n<xs.length then some (h.set a (.list (xs.set n.toNat v))) else none | _=>none)
 |.dict es=>if es.length<1000/\eL k=true then (aF k es).map λO=>h.set a (.dict (cz k v es)) else none
 |_=>none
def setItem(h:MH) (o k v:V):Option MH:=gB h o λa o=>CA h a k v o
noncomputable def dq(a:Ad) (i:Nat):List (Str×Option (Option V))->MH->List (V×V)×MH
 |[],h=>([],h)
 |(k,some (some v))::r,h=>match dq a (i+1) r h with
  |(es,h)=>((.str k,v)::es,h)
 |(k,some none)::r,h=>match dq a (i+1) r (h.set (.fld a i) (.list [])) with
  |(es,h)=>((.str k,.ref (.fld a i))::es,h)
 |(k,none)::r,h=>match dq a (i+1) r (h.set (.fld a i) (.dict [])) with
  |(es,h)=>((.str k,.ref (.fld a i))::es,h)
noncomputable def strKeys:List (Str×Option (Option V))->Bool
 |[]=>true
 |(k,_)::r=> !(r.any λp=>decide (p.1=k))&&strKeys r
def Ej(h:MH) (kvs:List (Str×Option (Option V))):Option MH:=if kvs.length<=15/\strKeys kvs=true then (match dq (.aq h.aq) 0 kvs (({ h with aq:=h.aq+1 }:MH).set (.aq h.aq) (.dict [])) with
   |(es,h')=>some (h'.set (.aq h.aq) (.dict es))) else none
noncomputable def Ek(o:V):Option V:=match o with | .lst xs=>some (.lst xs.reverse) | _=>none
noncomputable def Ku(o:V):Option V:=match o with | .int i=>if 0<=i/\i<1000 then some (.str (Str.ofString (toString i))) else none | _=>none
def zI(o:V):Option V:=match o with | .lst xs=>(xs.mapM jA).map λbs=>.bool (bs.any id) | _=>none
def O9(x y:V) (o:Option aP):Option V:=match o with
 |some (.dict es)=>if eL x then (aF x es).map λr=>r.getD y else none
 |_=>none
def kY(P:Prog) (h:MH) (o x y:V):Option V:=match o with
 |.tab n=>nO (λi=>some ((((P.tab n).find? λp=>p.1==i).map (λp=>V.int p.2)).getD y)) x
 |.ref a=>O9 x y (h.get a)
 |_=>none
noncomputable def setB(xs:List V) (k v:V):Option V:=match k with | .int n=>if 0<=n/\n<xs.length then some (.lst (xs.set n.toNat v)) else none | _=>none
def pJ(op:Op) (a b:V):Option V:=match a with | .int i=>(match b with | .int j=>binop op (.int i) (.int j) | _=>none) | _=>none
set_option genCtorIdx false in
inductive T where
 |ret (fl:Fl) (E:En)
 |get (f:MH->Option V) (k:V->T)
 |tst (f:MH->Option Bool) (k:Bool->T)
 |act (f:MH->Option (V×MH)) (k:V->T)
 |call (f:Nat) (vs:List V) (k:V->T) (x:T)
 |loop (f:V->En->T) (chk:MH->Bool) (xs:List V) (E:En) (k:Fl->En->T)
 |whl (t b:En->T) (E:En) (k:Fl->En->T)
 |comp (f:V->T) (chk:MH->Bool) (xs:List V) (k:V->T)
 |stuck
noncomputable def Kv(l:V) (f:List V->T):T:=match l with | .lst xs=>f xs | _=>.stuck
noncomputable def CB(l:V) (f:List V->T):T:=match l with | .tup xs=>f xs | _=>.stuck
noncomputable def zJ(o:Option (List (Option MV))) (f:En->T):T:=match o with | some E=>f E | none=>.stuck
noncomputable def El(o:Option Nat) (f:Nat->T):T:=match o with | some n=>f n | none=>.stuck
def rd(E:En) (i:Nat) (K:V->En->T):T:=match E[i]? with
 |some (some (.val v))=>K v E
 |some (some (.bH xs))=>K (.lst xs) (setEnv E i (.val (.lst xs)))
 |_=>.stuck
noncomputable def pick(q:Bool) (a b:T):T:=match q with | true=>a | false=>b
noncomputable def sq(K:Fl->En->T) (n:En->T) (fl:Fl) (E:En):T:=match fl with | .next=>n E | fl=>K fl E
noncomputable def Em(K:Fl->En->T) (n:En->T) (fl:Fl) (E:En):T:=match fl with | .exc=>n E | fl=>K fl E
section
variable(P:Prog)
mutual
noncomputable def tE:ME->En->(V->En->T)->T
 |.lit v,E,K=>K v E
 |.var i,E,K=>rd E i K
 |.d_ v,E,K=>K v E
 |.attr e k,E,K=>tE e E λo E=>.get (λh=>getAttr h o k) λv=>K v E
 |.item e i,E,K=>tE e E λo E=>tE i E λx E=>.get (λh=>getItem P h o x) λv=>K v E
 |.ri e lo hi,E,K=>tE e E λo E=>jF lo E λl E=>jF hi E λu E=>.get (λh=>(jB l).bind λl=>(jB u).bind λu=>slice h o l u) λv=>K v E
 |.rev e,E,K=>tE e E λo E=>.get (λO=>Ek o) λv=>K v E
 |.bin op l r,E,K=>tE l E λa E=>tE r E λb E=>.get (λO=>binop op a b) λv=>K v E
 |.neg e,E,K=>tE e E λo E=>.get (λO=>nO (λi=>some (.int (-i))) o) λv=>K v E
 |.inv e,E,K=>tE e E λo E=>.get (λO=>nO (λi=>some (.int (-i-1))) o) λv=>K v E
 |.nt e,E,K=>tE e E λo E=>.tst (λO=>truthy o) λb=>K (.bool (!b)) E
 |.cx es,E,K=>tB true es E K
 |.eZ es,E,K=>tB false es E K
 |.cmp op l r,E,K=>tE l E λa E=>tE r E λb E=>.tst (λh=>a8 P h op a b) λb=>K (.bool b) E
 |.ite t a b,E,K=>tT t E λq E=>pick q (tE a E K) (tE b E K)
 |.lst es,E,K=>jF es E λvs E=>K (.lst vs) E
 |.a9 es,E,K=>jF es E λvs E=>K (.tup vs) E
 |.dW es,E,K=>Eo es E λkvs E=>.act (λh=>(Ej h kvs).map λh'=>(.ref (.aq h.aq),h')) λv=>K v E
 |.comp elt it ifs cU,E,K=>zJ (eC E cU) λcs=>tE it E λo E=>.get (λh=>(bW h o).map V.tup) λl=>CB l λxs =>
   .comp (λx=>sH true ifs (some (.val x)::cs) λq E=>pick q (tE elt E λv E=>.ret (.ret v) E) (.ret .next E)) (λh=>same h o xs) xs λv=>K v E
 |.call f es,E,K=>jF es E λvs E=>.call f vs (λv=>K v E) .stuck
 |.new c es,E,K=>jF es E λvs E=>El (P.init c) λf=>.act (λh=>some (.ref (.inst c (h.cnt c)),h.new c)) λo=>.call f (o::vs) (λr=>match r with | .none=>K o E | _=>.stuck) .stuck
 |.bU e k es,E,K=>tE e E λo E=>.get (λh=>(eM P h o k).map V.tab) λm=>jF es E λvs E=>(match m with | .tab f=>.call f (o::vs) (λv=>K v E) .stuck | _=>.stuck)
 |.len e,E,K=>tE e E λo E=>.get (λh=>(lenOf h o).map λn:Nat=>V.int n) λv=>K v E
 |.toStr e,E,K=>tE e E λo E=>.get (λO=>Ku o) λv=>K v E
 |.eR e,E,K=>tE e E λo E=>.get (λh=>(bW h o).map V.tup) λv=>K v E
 |.anyOf e,E,K=>tE e E λo E=>.get (λO=>zI o) λv=>K v E
 |.g_ e k d,E,K=>tE e E λo E=>.get (λh=>if Cy h o then some .none else none) λO=>tE k E λx E=>tE d E λy E=>.get (λh=>kY P h o x y) λv=>K v E
noncomputable def jF:dM->En->(List V->En->T)->T
 |.nil,E,K=>K [] E
 |.cons e es,E,K=>tE e E λv E=>jF es E λvs E=>K (v::vs) E
noncomputable def tB(iO:Bool):dM->En->(V->En->T)->T
 |.nil,_,_=>.stuck
 |.cons e es,E,K=>tE e E λv E=>Kw iO v es E K
noncomputable def Kw(iO:Bool):V->dM->En->(V->En->T)->T
 |v,.nil,E,K=>K v E
 |v,.cons e es,E,K=>.tst (λO=>truthy v) λb=>pick (b==iO) (tE e E λv E=>Kw iO v es E K) (K v E)
noncomputable def tT:MT->En->(Bool->En->T)->T
 |.cmp op l r,E,K=>tE l E λa E=>tE r E λb E=>.tst (λh=>a8 P h op a b) λb=>K b E
 |.val e,E,K=>tE e E λv E=>.tst (λO=>truthy v) λb=>K b E
 |.nt t,E,K=>tT t E λb E=>K (!b) E
 |.cx ts,E,K=>sH true ts E K
 |.eZ ts,E,K=>sH false ts E K
 |.ite t a b,E,K=>tT t E λq E=>pick q (tT a E K) (tT b E K)
noncomputable def sH(iO:Bool):gZ->En->(Bool->En->T)->T
 |.nil,E,K=>K iO E
 |.cons t ts,E,K=>tT t E λb E=>pick (b==iO) (sH iO ts E K) (K b E)
noncomputable def Eo:rj->En->(List (Str×Option (Option V))->En->T)->T
 |.nil,E,K=>K [] E
 |.val k e es,E,K=>tE e E λv E=>Eo es E λvs E=>K ((k,some (some v))::vs) E
 |.bV k es,E,K=>Eo es E λvs E=>K ((k,some none)::vs) E
 |.newD k es,E,K=>Eo es E λvs E=>K ((k,none)::vs) E
end
noncomputable def hv(h:MH):V×MH:=(.none,h)
def fx(f:MH->Option MH) (k:T):T:=.act (λh=>(f h).map hv) λO=>k
mutual
noncomputable def tS:MS->En->(Fl->En->T)->T
 |.asg i e,E,K=>tE P e E λv E=>K .next (setEnv E i (.val v))
 |.fw i es,E,K=>jF P es E λvs E=>K .next (setEnv E i (.bH vs))
 |.ft i f es,E,K=>jF P es E λvs E=>.call f vs (λv=>K .next (setEnv E i (.val v))) (K .exc E)
 |.bq e k v,E,K=>tE P v E λv E=>tE P e E λo E=>fx (λh=>setAttr P h o k v) (K .next E)
 |.bp e k es,E,K=>jF P es E λvs E=>tE P e E λo E=>fx (λh=>nQ P h o k vs) (K .next E)
 |.cV e k,E,K=>tE P e E λo E=>fx (λh=>nR P h o k) (K .next E)
 |.dX e i v,E,K=>tE P v E λv E=>tE P e E λo E=>tE P i E λx E=>fx (λh=>setItem h o x v) (K .next E)
 |.pH b i v,E,K=>tE P v E λv E=>pick (Uh E b) (tE P i E λx E=>.get (λO=>(nP E[b]?).bind λxs=>setB xs x v) λl=>Kv l λys=>K .next (setEnv E b (.bH ys))) .stuck
 |.pI is e,E,K=>tE P e E λv E=>zJ (jb is v E) λE=>K .next E
 |.aug i op e,E,K=>rd E i λa E=>tE P e E λb E=>.get (λO=>pJ op a b) λv=>K .next (setEnv E i (.val v))
 |.app e v,E,K=>tE P e E λo E=>.get (λh=>if Cw h o then some .none else none) λO=>tE P v E λv E=>fx (λh=>appendAt h o v) (K .next E)
 |.lZ e,E,K=>tE P e E λo E=>fx (λh=>ma h o) (K .next E)
 |.gL i v,E,K=>pick (Uh E i) (tE P v E λv E=>.get (λO=>(nP E[i]?).bind λxs=>if xs.length<1000 then some (.lst (xs++[v])) else none) λl=>Kv l λys=>K .next (setEnv E i (.bH ys))) .stuck
 |.ext e v,E,K=>tE P e E λo E=>.get (λh=>if Cw h o then some .none else none) λO=>tE P v E λv E=>fx (λh=>Cz h o v) (K .next E)
 |.ex e,E,K=>tE P e E λO E=>K .next E
 |.aT t a b,E,K=>tT P t E λq E=>pick q (tSs a E K) (tSs b E K)
 |.eK t b,E,K=>.whl (λE=>tT P t E λq E=>.ret (.ret (.bool q)) E) (λE=>tSs b E λfl E=>.ret fl E) E K
 |.cI is it b,E,K=>tE P it E λo E=>.get (λh=>(bW h o).map V.tup) λl=>CB l λxs=>.loop (λx E=>zJ (bindAll is x E) λE=>tSs b E λfl E=>.ret fl E) (λh=>same h o xs) xs E K
 |.forR i args b,E,K=>jF P args E λvs E=>.get (λO=>(e9 vs).map V.tup) λl=>CB l λxs=>.loop (λx E=>tSs b (setEnv E i (.val x)) λfl E=>.ret fl E) (λO=>true) xs E K
 |.ret e,E,K=>tE P e E λv E=>K (.ret v) E
 |.raise es,E,K=>jF P es E λO E=>K .exc E
 |.iN a b,E,K=>tSs a E (Em K λE=>tSs b E K)
 |.cont,E,K=>K .cont E
 |.kX,E,K=>K .next E
 |.stuck,_,_=>.stuck
noncomputable def tSs:aA->En->(Fl->En->T)->T
 |.nil,E,K=>K .next E
 |.cons s ss,E,K=>tS s E (sq K λE=>tSs ss E K)
end
section
variable(c:Nat->List V->MH->Option aB)
noncomputable def sI(r:Option (Fl×St)):Option (Bool×St):=match r with
 |some (.ret (.bool b),st)=>some (b,st)
 |_=>none
noncomputable def zq(r:Option (Fl×St)):Option (Option V×MH):=match r with
 |some (.ret v,st)=>some (some v,st.h)
 |some (.next,st)=>some (none,st.h)
 |_=>none
noncomputable def CC(r:Option aB) (f:V->MH->Option (Fl×St)) (g:MH->Option (Fl×St)):Option (Fl×St):=match r with
 |some (.ret v h)=>f v h
 |some (.exc h)=>g h
 |none=>none
noncomputable def run:T->MH->Option (Fl×St)
 |.ret fl E,h=>some (fl,⟨E,h⟩)
 |.get f k,h=>(f h).bind λv=>run (k v) h
 |.tst f k,h=>(f h).bind λv=>run (k v) h
 |.act f k,h=>(f h).bind λp=>run (k p.1) p.2
 |.call f vs k x,h=>CC (c f vs h) (λv h=>run (k v) h) (λh=>run x h)
 |.loop f chk xs E k,h=>(forL (λx st=>run (f x st.env) st.h) chk xs ⟨E,h⟩).bind λp=>run (k p.1 p.2.env) p.2.h
 |.whl t b E k,h=>(bY (λst=>sI (run (t st.env) st.h)) (λst=>run (b st.env) st.h) 64 ⟨E,h⟩).bind λp=>run (k p.1 p.2.env) p.2.h
 |.comp f chk xs k,h=>(bO (λx h=>zq (run (f x) h)) chk xs h).bind λp=>run (k (.lst p.1)) p.2
 |.stuck,_=>none
def bG(s:MS) (st:St):Option (Fl×St):=run c (tS P s st.env λfl E=>.ret fl E) st.h
def aw(ss:aA) (st:St):Option (Fl×St):=run c (tSs P ss st.env λfl E=>.ret fl E) st.h
def nS(t:MT) (st:St):Option (Bool×St):=sI (run c (tT P t st.env λq E=>.ret (.ret (.bool q)) E) st.h)
noncomputable def O_(r:Option (Fl×St)):Option aB:=match r with
 |some (.next,st)=>some (.ret .none st.h)
 |some (.ret v,st)=>some (.ret v st.h)
 |some (.exc,st)=>some (.exc st.h)
 |_=>none
def dt(fn:Fn) (vs:List V) (h:MH):Option aB :=
 if vs.length=fn.np then O_ (aw P c fn.body ⟨vs.map (λv=>some (.val v))++List.replicate (fn.nl-fn.np) none,h⟩) else none
end
end
noncomputable def aa(P:Prog):Nat->Nat->List V->MH->Option aB
 |0,_,_,_=>none
 |n+1,f,vs,h=>match P.fn f with
  |some fn=>dt P (aa P n) fn vs h
  |none=>none
end Mine.Internal
namespace Mine.Internal
open PySem (Str)
noncomputable def T.bind:T->(Fl->En->T)->T
 |.ret fl E,J=>J fl E
 |.get f k,J=>.get f λv=>(k v).bind J
 |.tst f k,J=>.tst f λv=>(k v).bind J
 |.act f k,J=>.act f λv=>(k v).bind J
 |.call f vs k x,J=>.call f vs (λv=>(k v).bind J) (x.bind J)
 |.loop f chk xs E k,J=>.loop f chk xs E λfl E=>(k fl E).bind J
 |.whl t b E k,J=>.whl t b E λfl E=>(k fl E).bind J
 |.comp f chk xs k,J=>.comp f chk xs λv=>(k v).bind J
 |.stuck,_=>.stuck
theorem dU{α β γ:Type}{o:Option α}{f f':α->Option β}{g:β->Option γ}{k:α->Option γ}(e:∀ a,k a=(f a).bind g) (ef:∀ a,f a=f' a):o.bind k=(o.bind f').bind g:=by
 cases o with
 |none=>rfl
 |some a=>exact(e a).trans (aab (Option.bind · g) (ef a))
theorem run_bind{c:Nat->List V->MH->Option aB}{J:Fl->En->T}:∀ (t:T) (h:MH),run c (t.bind J) h=(run c t h).bind λp=>run c (J p.1 p.2.env) p.2.h
 |.ret _ _,_=>rfl
 |.get _ k,h=>dU (λv=>run_bind (k v) h) λO=>rfl
 |.tst _ k,h=>dU (λv=>run_bind (k v) h) λO=>rfl
 |.act _ k,h=>dU (λp=>run_bind (k p.1) p.2) λO=>rfl
 |.call f vs k x,h=>by
  show CC (c f vs h) (λv h=>run c ((k v).bind J) h) (λh=>run c (x.bind J) h)=(CC (c f vs h) (λv h=>run c (k v) h) (λh=>run c x h)).bind _
  cases c f vs h with
  |none=>rfl
  |some r=>cases r with
   |ret v h=>exact run_bind (k v) h
   |exc h=>exact run_bind x h
 |.loop _ _ _ _ k,h=>dU (λp=>run_bind (k p.1 p.2.env) p.2.h) λO=>rfl
 |.whl _ _ _ k,h=>dU (λp=>run_bind (k p.1 p.2.env) p.2.h) λO=>rfl
 |.comp _ _ _ k,h=>dU (λp=>run_bind (k (.lst p.1)) p.2) λO=>rfl
 |.stuck,_=>rfl
section
variable{P:Prog}{J:Fl->En->T}
theorem dz{q:Bool}{a b a' b':T}(ha:a.bind J=a') (hb:b.bind J=b'):(pick q a b).bind J=pick q a' b':=by cases q;exact hb;exact ha
theorem nT{v:V}{f g:List V->T}(e:∀ b,(f b).bind J=g b):(Kv v f).bind J=Kv v g:=by cases v<;>first | rfl | exact e _
theorem jG{v:V}{f g:List V->T}(e:∀ b,(f b).bind J=g b):(CB v f).bind J=CB v g:=by cases v<;>first | rfl | exact e _
theorem nU{v:Option En}{f g:En->T}(e:∀ b,(f b).bind J=g b):(zJ v f).bind J=zJ v g:=by cases v;rfl;exact e _
theorem uJ{v:Option Nat}{f g:Nat->T}(e:∀ b,(f b).bind J=g b):(El v f).bind J=El v g:=by cases v;rfl;exact e _
theorem rm{E:En}{i:Nat}{f g:V->En->T}(e:∀ v E,(f v E).bind J=g v E):(rd E i f).bind J=rd E i g:=by
 unfold rd;cases E[i]? with
 |none=>rfl
 |some o=>cases o with
  |none=>rfl
  |some m=>cases m;exact e _ _;exact e _ _
theorem get_bind{f:MH->Option V}{k k':V->T}(e:∀ v,(k v).bind J=k' v):(T.get f k).bind J=.get f k':=aab (T.get f) (funext e)
theorem fM{f:MH->Option Bool}{k k':Bool->T}(e:∀ v,(k v).bind J=k' v):(T.tst f k).bind J=.tst f k':=aab (T.tst f) (funext e)
theorem jH{f:MH->Option (V×MH)}{k k':V->T}(e:∀ v,(k v).bind J=k' v):(T.act f k).bind J=.act f k':=aab (T.act f) (funext e)
mutual
theorem natE:∀ (e:ME) {E:En}{K K':V->En->T},(∀ v E,(K v E).bind J=K' v E)->(tE P e E K).bind J=tE P e E K'
 |.lit _,_,_,_,q=>q _ _
 |.var _,_,_,_,q=>rm q
 |.d_ _,_,_,_,q=>q _ _
 |.attr e _,_,_,_,q=>natE e λO O=>get_bind λO=>q _ _
 |.item e i,_,_,_,q=>natE e λO O=>natE i λO O=>get_bind λO=>q _ _
 |.ri e l u,_,_,_,q=>natE e λO O=>eS l λO O=>eS u λO O=>get_bind λO=>q _ _
 |.rev e,_,_,_,q=>natE e λO O=>get_bind λO=>q _ _
 |.bin _ l r,_,_,_,q=>natE l λO O=>natE r λO O=>get_bind λO=>q _ _
 |.neg e,_,_,_,q=>natE e λO O=>get_bind λO=>q _ _
 |.inv e,_,_,_,q=>natE e λO O=>get_bind λO=>q _ _
 |.nt e,_,_,_,q=>natE e λO O=>fM λO=>q _ _
 |.cx es,_,_,_,q=>Kx true es q
 |.eZ es,_,_,_,q=>Kx false es q
 |.cmp _ l r,_,_,_,q=>natE l λO O=>natE r λO O=>fM λO=>q _ _
 |.ite t a b,_,_,_,q=>pK t λO O=>dz (natE a q) (natE b q)
 |.lst es,_,_,_,q=>eS es λO O=>q _ _
 |.a9 es,_,_,_,q=>eS es λO O=>q _ _
 |.dW es,_,_,_,q=>rq es λO O=>jH λO=>q _ _
 |.comp _ it _ _,_,_,_,q=>nU λO=>natE it λO O=>get_bind λO=>jG λO=>aab (T.comp _ _ _) (funext λO=>q _ _)
 |.call f es,_,_,_,q=>eS es λO O=>congrFun (aab (T.call _ _) (funext λO=>q _ _)) _
 |.new c es,_,_,_,q=>eS es λO O=>uJ λO=>jH λo=>congrFun (aab (T.call _ _) (funext λr=>by cases r<;>first | rfl | exact q _ _)) _
 |.bU e k es,_,_,_,q=>natE e λO O=>get_bind λm=>eS es λO O=>by
  cases m<;>first | rfl | exact congrFun (aab (T.call _ _) (funext λO=>q _ _)) _
 |.len e,_,_,_,q=>natE e λO O=>get_bind λO=>q _ _
 |.toStr e,_,_,_,q=>natE e λO O=>get_bind λO=>q _ _
 |.eR e,_,_,_,q=>natE e λO O=>get_bind λO=>q _ _
 |.anyOf e,_,_,_,q=>natE e λO O=>get_bind λO=>q _ _
 |.g_ e k d,_,_,_,q=>natE e λO O=>get_bind λO=>natE k λO O=>natE d λO O=>get_bind λO=>q _ _
theorem eS:∀ (e:dM) {E:En}{K K':List V->En->T},(∀ v E,(K v E).bind J=K' v E)->(jF P e E K).bind J=jF P e E K'
 |.nil,_,_,_,q=>q _ _
 |.cons e es,_,_,_,q=>natE e λO O=>eS es λO O=>q _ _
theorem Kx(m:Bool):∀ (e:dM) {E:En}{K K':V->En->T},(∀ v E,(K v E).bind J=K' v E)->(tB P m e E K).bind J=tB P m e E K'
 |.nil,_,_,_,_=>rfl
 |.cons e es,_,_,_,q=>natE e λO O=>CD m _ es q
theorem CD(m:Bool):∀ (v:V) (e:dM) {E:En}{K K':V->En->T},(∀ v E,(K v E).bind J=K' v E)->(Kw P m v e E K).bind J=Kw P m v e E K'
 |_,.nil,_,_,_,q=>q _ _
 |_,.cons e es,_,_,_,q=>fM λO=>dz (natE e λO O=>CD m _ es q) (q _ _)
theorem pK:∀ (e:MT) {E:En}{K K':Bool->En->T},(∀ v E,(K v E).bind J=K' v E)->(tT P e E K).bind J=tT P e E K'
 |.cmp _ l r,_,_,_,q=>natE l λO O=>natE r λO O=>fM λO=>q _ _
 |.val e,_,_,_,q=>natE e λO O=>fM λO=>q _ _
 |.nt t,_,_,_,q=>pK t λO O=>q _ _
 |.cx ts,_,_,_,q=>uK true ts q
 |.eZ ts,_,_,_,q=>uK false ts q
 |.ite t a b,_,_,_,q=>pK t λO O=>dz (pK a q) (pK b q)
theorem uK(m:Bool):∀ (e:gZ) {E:En}{K K':Bool->En->T},(∀ v E,(K v E).bind J=K' v E)->(sH P m e E K).bind J=sH P m e E K'
 |.nil,_,_,_,q=>q _ _
 |.cons t ts,_,_,_,q=>pK t λO O=>dz (uK m ts q) (q _ _)
theorem rq:∀ (e:rj) {E:En}{K K':List (Str×Option (Option V))->En->T},(∀ v E,(K v E).bind J=K' v E)->(Eo P e E K).bind J=Eo P e E K'
 |.nil,_,_,_,q=>q _ _
 |.val _ e es,_,_,_,q=>natE e λO O=>rq es λO O=>q _ _
 |.bV _ es,_,_,_,q=>rq es λO O=>q _ _
 |.newD _ es,_,_,_,q=>rq es λO O=>q _ _
end
theorem dA{f:MH->Option MH}{k k':T}(e:k.bind J=k'):(fx f k).bind J=fx f k':=jH λO=>e
mutual
theorem Ky:∀ (s:MS) {E:En}{K K':Fl->En->T},(∀ v E,(K v E).bind J=K' v E)->(tS P s E K).bind J=tS P s E K'
 |.asg _ e,_,_,_,q=>natE e λO O=>q _ _
 |.fw _ es,_,_,_,q=>eS es λO O=>q _ _
 |.ft _ _ es,_,_,_,q=>eS es λO O=>congr (aab (T.call _ _) (funext λO=>q _ _)) (q _ _)
 |.bq e _ v,_,_,_,q=>natE v λO O=>natE e λO O=>dA (q _ _)
 |.bp e _ es,_,_,_,q=>eS es λO O=>natE e λO O=>dA (q _ _)
 |.cV e _,_,_,_,q=>natE e λO O=>dA (q _ _)
 |.dX e i v,_,_,_,q=>natE v λO O=>natE e λO O=>natE i λO O=>dA (q _ _)
 |.pH _ i v,_,_,_,q=>natE v λO O=>dz (natE i λO O=>get_bind λO=>nT λO=>q _ _) rfl
 |.pI _ e,_,_,_,q=>natE e λO O=>nU λO=>q _ _
 |.aug i o e,E,K,K',q=>rm (f:=λa E=>tE P e E λb E=>.get (λO=>pJ o a b) λv=>K .next (setEnv E i (.val v))) (g:=λa E=>tE P e E λb E=>.get (λO=>pJ o a b) λv=>K' .next (setEnv E i (.val v))) λO O=>natE e λO O=>get_bind λO=>q _ _
 |.app e v,_,_,_,q=>natE e λO O=>get_bind λO=>natE v λO O=>dA (q _ _)
 |.lZ e,_,_,_,q=>natE e λO O=>dA (q _ _)
 |.gL _ v,_,_,_,q=>dz (natE v λO O=>get_bind λO=>nT λO=>q _ _) rfl
 |.ext e v,_,_,_,q=>natE e λO O=>get_bind λO=>natE v λO O=>dA (q _ _)
 |.ex e,_,_,_,q=>natE e λO O=>q _ _
 |.aT t a b,_,_,_,q=>pK t λO O=>dz (kZ a q) (kZ b q)
 |.eK _ _,_,_,_,q=>aab (T.whl _ _ _) (funext λO=>funext λO=>q _ _)
 |.cI _ it _,_,_,_,q=>natE it λO O=>get_bind λO=>jG λO=>aab (T.loop _ _ _ _) (funext λO=>funext λO=>q _ _)
 |.forR _ es _,_,_,_,q=>eS es λO O=>get_bind λO=>jG λO=>aab (T.loop _ _ _ _) (funext λO=>funext λO=>q _ _)
 |.ret e,_,_,_,q=>natE e λO O=>q _ _
 |.raise es,_,_,_,q=>eS es λO O=>q _ _
 |.iN a b,_,_,_,q=>kZ a λfl E=>by cases fl<;>first | exact q _ _ | exact kZ b q
 |.cont,_,_,_,q=>q _ _
 |.kX,_,_,_,q=>q _ _
 |.stuck,_,_,_,_=>rfl
theorem kZ:∀ (s:aA) {E:En}{K K':Fl->En->T},(∀ v E,(K v E).bind J=K' v E)->(tSs P s E K).bind J=tSs P s E K'
 |.nil,_,_,_,q=>q _ _
 |.cons s ss,_,_,_,q=>Ky s λfl E=>by cases fl<;>first | exact q _ _ | exact kZ ss q
end
end
end Mine.Internal
set_option genInjectivity false
namespace Mine.Internal
open PySem PySem.W PySem.Calls PyProof.Rows
section
set_option genInjectivity true in
inductive Ow where
 |main (a:Ad)
 |dW (a:Ad)
 |ey
 |fy
 |it
 |bH (L:Addr) (i:Nat)
def Ow.lo(u:Ow):Prop:=match u with
 |.main _=>False
 |.dW _=>False
 |.ey=>False
 |_=>True
def Ow.hi(u:Ow):Prop:=match u with
 |.main _=>True
 |.dW _=>True
 |.ey=>True
 |_=>False
def Ow.ex(L:Addr) (u:Ow):Prop:=match u with
 |.main _=>False
 |.dW _=>False
 |.bH k _=>k≠L
 |_=>True
def Ow.e0(u:Ow):Prop:=match u with
 |.main _=>False
 |.dW _=>False
 |_=>True
def Ow.en(u:Ow):Prop:=match u with
 |.main _=>False
 |.dW _=>False
 |.it=>False
 |_=>True
structure Nm where
 cA:Nat->Addr
 fA:Nat->Addr
 an:Nat->Str
 tA:Nat->Addr
structure Gh where
 σ:Ad->Option Addr
 g:Addr->Ow
 news:List (Addr×Obj)
noncomputable abbrev dN(vs:List Value):Obj:={ cls:=.type "tuple",data:=.seq vs.toArray }
noncomputable abbrev ax(vs:List Value) (n:Nat):Obj:={ cls:=.type "list",data:=.seq vs.toArray n }
def Kz(vs:List Value) (_:Nat):Obj:=dN vs
inductive Sq(G:Gh) (f:List Value->Nat->Obj) (R:List Value->Prop):Value->Prop where
 |mk {a:Addr}{vs:List Value}{n:Nat}(m:(a,f vs n)∈G.news) (z:G.g a=.ey) (l:vs.length<=4000) (r:R vs):Sq G f R (.ref a)
inductive Cn(A:Value->Prop) (B:List Value->Prop):List Value->Prop where
 |mk {v:Value}{vs:List Value}(a:A v) (b:B vs):Cn A B (v::vs)
theorem ff(h:false=true) {C:Prop}:C:=Bool.noConfusion h
theorem nn{α:Type}{x:α}(h:Option.none=some x) {C:Prop}:C:=Option.noConfusion rfl (heq_of_eq h)
mutual
noncomputable def VR(N:Nm) (G:Gh):V->Value->Prop
 |.none,v=>v=.none
 |.bool b,v=>v=.bool b
 |.int i,v=>∃ t,v=.int i t
 |.str s,v=>∃ t,v=.str s t
 |.tup xs,v=>Sq G Kz (bM N G xs) v
 |.lst xs,v=>Sq G ax (bM N G xs) v
 |.ref a,v=>∃ r,v=.ref r/\G.σ a=some r
 |.tab n,v=>v=.ref (N.tA n)/\n<3
noncomputable def bM(N:Nm) (G:Gh):List V->List Value->Prop
 |[],vs=>vs=[]
 |x::xs,vs=>Cn (VR N G x) (bM N G xs) vs
end
structure Kp(S:Ow->Prop) (G G':Gh):Prop where
 σ:∀ a r,G.σ a=some r->G'.σ a=some r
 keep:∀ p∈G.news,S (G.g p.1)->p∈G'.news/\G'.g p.1=G.g p.1
abbrev Ext(L:Addr):=Kp (Ow.ex L)
abbrev bK:=Kp (·=.ey)
abbrev Ep:=Kp Ow.hi
section
variable{S R:Ow->Prop}{G G' Ui:Gh}{L:Addr}
theorem Kp.refl:Kp S G G:=⟨λO O h=>h,λO h O=>⟨h,rfl⟩⟩
theorem Kp.trans(x:Kp S G G') (y:Kp S G' Ui):Kp S G Ui :=
 ⟨λa r h=>y.σ a r (x.σ a r h),λp hp hc=>(y.keep p (x.keep p hp hc).1 ((x.keep p hp hc).2▸hc)).imp id λe=>e.trans (x.keep p hp hc).2⟩
theorem Kp.weak(x:Kp S G G') (k:∀ u,R u->S u):Kp R G G':=⟨x.σ,λp hp hc=>x.keep p hp (k _ hc)⟩
theorem Kp.v(x:Kp S G G') (k:S .ey):bK G G':=x.weak λO e=>e▸k
end
section
variable{N:Nm}{G G':Gh}
theorem Sq.aI(x:bK G G') {f:List Value->Nat->Obj}{R R':List Value->Prop}{u:Value}(k:∀ vs,R vs->R' vs) (h:Sq G f R u):Sq G' f R' u :=
 h.rec λm f l r=>⟨(x.keep _ m f).1,(x.keep _ m f).2.trans f,l,k _ r⟩
theorem VR.aI(x:bK G G') {v:V}{u:Value}(h:VR N G v u):VR N G' v u :=
 V.rec (motive_1:=λv=>∀ u,VR N G v u->VR N G' v u) (motive_2:=λxs=>∀ us,bM N G xs us->bM N G' xs us)
  (λO h=>h) (λO O h=>h) (λO O h=>h) (λO O h=>h) (λO ih O h=>Sq.aI x ih h) (λO ih O h=>Sq.aI x ih h)
  (λa O h=>h.imp λr h=>⟨h.1,x.σ a r h.2⟩) (λO O h=>h) (λO h=>h) (λO O ih Wb O h=>h.rec λa b=>⟨ih _ a,Wb _ b⟩) v u h
theorem bM.aI(x:bK G G'):∀ {xs:List V}{us:List Value},bM N G xs us->bM N G' xs us
 |[],_,h=>h
 |_::_,_,h=>h.rec λa b=>⟨a.aI x,b.aI x⟩
theorem VR.ext{L:Addr}(x:Ext L G G') {v:V}{u:Value}(h:VR N G v u):VR N G' v u:=h.aI (x.v trivial)
theorem bM.ext{L:Addr}(x:Ext L G G') {v:List V}{u:List Value}(h:bM N G v u):bM N G' v u:=h.aI (x.v trivial)
theorem bM.ind{C:List V->List Value->Prop}(h0:C [] []) (h1:∀ x v xs vs,VR N G x v->bM N G xs vs->C xs vs->C (x::xs) (v::vs)):∀ {xs:List V}{vs:List Value},bM N G xs vs->C xs vs
 |[],_,h=>(show _=[] from h)▸h0
 |_::_,_,h=>h.rec λa b=>h1 _ _ _ _ a b (b.ind h0 h1)
theorem bM.length{xs:List V}{vs:List Value}(h:bM N G xs vs):xs.length=vs.length:=h.ind (C:=λxs vs=>xs.length=vs.length) rfl λO O O O O O e=>aab (·+1) e
theorem bM.get{xs:List V}{vs:List Value}(h:bM N G xs vs):∀ {i:Nat}{x:V},xs[i]? =some x->∃ v,vs[i]? =some v/\VR N G x v :=
 h.ind (C:=λxs vs=>∀ {i:Nat}{x:V},xs[i]? =some x->∃ v,vs[i]? =some v/\VR N G x v) (λe=>nomatch e) λO v O O a O ih i O e=>match i,e with
  |0,e=>⟨v,rfl,aah e▸a⟩
  |_+1,e=>ih e
theorem bM.append{xs ys:List V}{vs us:List Value}(h:bM N G xs vs) (k:bM N G ys us):bM N G (xs++ys) (vs++us):=h.ind (C:=λxs vs=>bM N G (xs++ys) (vs++us)) k λO O O O a O b=>⟨a,b⟩
theorem bM.take{xs:List V}{vs:List Value}(n:Nat) (h:bM N G xs vs):bM N G (xs.take n) (vs.take n) :=
 h.ind (C:=λxs vs=>∀ n,bM N G (xs.take n) (vs.take n)) (λn=>by rw[List.take_nil,List.take_nil];rfl) (λO O O O a O ih n=>match n with
  |0=>rfl
  |n+1=>⟨a,ih n⟩) n
theorem bM.drop{xs:List V}{vs:List Value}(n:Nat) (h:bM N G xs vs):bM N G (xs.drop n) (vs.drop n) :=
 h.ind (C:=λxs vs=>∀ n,bM N G (xs.drop n) (vs.drop n)) (λn=>by rw[List.drop_nil,List.drop_nil];rfl) (λO O O O a b ih n=>match n with
  |0=>⟨a,b⟩
  |n+1=>ih n) n
theorem bM.set{xs:List V}{vs:List Value}(n:Nat) {x:V}{v:Value}(h:bM N G xs vs) (k:VR N G x v):bM N G (xs.set n x) (vs.set n v) :=
 h.ind (C:=λxs vs=>∀ n,bM N G (xs.set n x) (vs.set n v)) (λn=>rfl) (λO O O O a b ih n=>match n with
  |0=>⟨k,b⟩
  |n+1=>⟨a,ih n⟩) n
theorem bM.one{x:V}{v:Value}(h:VR N G x v):bM N G [x] [v]:=⟨h,rfl⟩
theorem bM.reverse{xs:List V}{vs:List Value}(h:bM N G xs vs):bM N G xs.reverse vs.reverse :=
 h.ind (C:=λxs vs=>bM N G xs.reverse vs.reverse) rfl λO O O O a O ih=>by rw[List.reverse_cons,List.reverse_cons];exact ih.append (.one a)
theorem bM.rep{x:V}{v:Value}(h:VR N G x v):∀ n,bM N G (List.replicate n x) (List.replicate n v)
 |0=>rfl
 |n+1=>⟨h,bM.rep h n⟩
class inductive FR (N:Nm) (G:Gh):List (Nat×V)->List DictEntry->Prop where
 |nil:FR N G [] []
 |cons {p:Nat×V}{fs:List (Nat×V)}{e:DictEntry}{es:List DictEntry}{t:Tok}(k:e.key=.str (N.an p.1) t) (v:VR N G p.2 e.val) (r:FR N G fs es):FR N G (p::fs) (e::es)
theorem FR.aI(x:bK G G') {fs:List (Nat×V)}{es:List DictEntry}(h:FR N G fs es):FR N G' fs es:=h.rec .nil λk v O r=>.cons k (v.aI x) r
end
mutual
noncomputable def ud:V->WData
 |.none=>.none
 |.bool b=>.bool b
 |.int i=>.int i
 |.str s=>.str s
 |.tup xs=>.tuple (uL xs)
 |.lst xs=>.list (uL xs)
 |.ref _=>.none
 |.tab _=>.none
noncomputable def uL:List V->List WData
 |[]=>[]
 |x::xs=>ud x::uL xs
end
mutual
noncomputable def pf:V->PyData
 |.none=>.none
 |.bool b=>.bool b
 |.int i=>.int i
 |.str s=>.str s
 |.tup xs=>.tuple (kH xs)
 |.lst xs=>.list (kH xs)
 |.ref _=>.none
 |.tab _=>.none
noncomputable def kH:List V->List PyData
 |[]=>[]
 |x::xs=>pf x::kH xs
end
class inductive DR (w:World) (N:Nm) (G:Gh):List (V×V)->List DictEntry->Prop where
 |nil:DR w N G [] []
 |cons {p:V×V}{fs:List (V×V)}{e:DictEntry}{es:List DictEntry}(h:e.hash=hashW w.params (ud p.1)) (q:eL p.1=true) (k:VR N G p.1 e.key) (v:VR N G p.2 e.val) (r:DR w N G fs es):DR w N G (p::fs) (e::es)
theorem DR.aI{w:World}{N:Nm}{G G':Gh}(x:bK G G') {fs:List (V×V)}{es:List DictEntry}(h:DR w N G fs es):DR w N G' fs es:=h.rec .nil λa q k v O r=>.cons a q (k.aI x) (v.aI x) r
inductive MO(w:World) (N:Nm) (P:Prog) (G:Gh) (a:Ad) (r:Addr):aP->Prop where
 |inst {c:Nat}{fs:List (Nat×V)}{dx:Addr}{es:List DictEntry}{n:Nat}(m:(r,instObj (N.cA c) dx)∈G.news) (g:G.g r=.main a) (md:(dx,dictOf es n)∈G.news) (gd:G.g dx=.dW a) (f:FR N G fs es) (k:∀ p∈fs,P.fld c p.1=true) (l:fs.length<=500):MO w N P G a r (.inst c fs)
 |list {xs:List V}{vs:List Value}{n:Nat}(m:(r,ax vs n)∈G.news) (g:G.g r=.main a) (f:bM N G xs vs) (l:xs.length<=4000):MO w N P G a r (.list xs)
 |dict {kvs:List (V×V)}{es:List DictEntry}{n:Nat}(m:(r,dictOf es n)∈G.news) (g:G.g r=.main a) (f:DR w N G kvs es) (l:kvs.length<=4000) (nd:(kvs.map (·.1)).Nodup):MO w N P G a r (.dict kvs)
def jI(h:MH):Ad->Prop
 |.inst c i=>h.cnt c<=i
 |.aq i=>h.aq<=i
 |_=>False
def CE(h:MH):Ad->Prop
 |.fld b k=>(∃ c fs v,h.get b=some (.inst c fs)/\br k fs=some v)∨∃ es,h.get b=some (.dict es)
 |.item b i=>∃ xs,h.get b=some (.list xs)/\i<xs.length
 |_=>True
def fu:aP->aP->Prop
 |.inst c fs,o=>∃ KA,o=.inst c KA/\∀ k v,br k fs=some v->∃ v',br k KA=some v'
 |.list xs,o=>∃ KC,o=.list KC/\xs.length<=KC.length
 |.dict _,o=>∃ es',o=.dict es'
theorem fu.refl:∀ o,fu o o
 |.inst _ fs=>⟨fs,rfl,λO v h=>⟨v,h⟩⟩
 |.list xs=>⟨xs,rfl,aat _⟩
 |.dict es=>⟨es,rfl⟩
theorem CE.grow{h h':MH}(g:∀ b o,h.get b=some o->∃ o',h'.get b=some o'/\fu o o'):∀ {a:Ad},CE h a->CE h' a
 |.fld b k,p=>p.imp (λ⟨c,fs,v,e⟩=>(g b _ e.1).elim λO q=>q.2.elim λKA z=>(z.2 k v e.2).elim λv' f'=>⟨c,KA,v',z.1▸q.1,f'⟩) λ⟨es,e⟩=>(g b _ e).elim λO q=>q.2.elim λes' z=>⟨es',z▸q.1⟩
 |.item b i,⟨xs,e⟩=>(g b _ e.1).elim λO q=>q.2.elim λKC z=>⟨KC,z.1▸q.1,aai e.2 z.2⟩
 |.inst _ _,_=>trivial
 |.aq _,_=>trivial
structure SR(w:World) (N:Nm) (P:Prog) (G:Gh) (h:MH):Prop where
 nodup:(G.news.map (·.1)).Nodup
 obj:∀ a mo,h.get a=some mo->∃ r,G.σ a=some r/\MO w N P G a r mo
 Qa:∀ a r,G.σ a=some r->∃ mo,h.get a=some mo
 Jz:∀ a,jI h a->h.get a=none
 par:∀ a mo,h.get a=some mo->CE h a
 low:∀ a∈G.news.map (·.1),1<a
noncomputable def Gh.add(G:Gh) (a:Addr) (o:Obj) (w:Ow):Gh:=⟨G.σ,λb=>if b=a then w else G.g b,(a,o)::G.news⟩
noncomputable def Gh.upd(G:Gh) (d:Addr) (o:Obj):Gh:=⟨G.σ,G.g,G.news.map λp=>if p.1=d then (d,o) else p⟩
noncomputable def Gh.own(G:Gh) (a:Addr) (w:Ow):Gh:=⟨G.σ,λb=>if b=a then w else G.g b,G.news⟩
noncomputable def Gh.bind(G:Gh) (a:Ad) (r:Addr):Gh:=⟨λb=>if b=a then some r else G.σ b,G.g,G.news⟩
noncomputable def Gh.drop(G:Gh) (a:Addr):Gh:=⟨G.σ,G.g,G.news.filter λp=>p.1≠a⟩
theorem dD{l:List (Addr×Obj)}{a:Addr}{o:Obj}(h:(a,o)∈l):a∈l.map (·.1):=aaG.mpr ⟨_,h,rfl⟩
theorem uM{l:List (Addr×Obj)}{a:Addr}(hf:a∉l.map (·.1)):∀ p∈l,p.1≠a:=λp hp e=>hf (e▸dD (o:=p.2) hp)
theorem dR{d:Addr}{o o':Obj}:∀ {l:List (Addr×Obj)},(l.map (·.1)).Nodup->(d,o)∈l->Upd d o o' l (l.map λp=>if p.1=d then (d,o') else p)
 |p::l,hn,h=>by
  rw[List.map_cons,aaU]at hn;rcases aau.mp h with e | h
  ·clear h;subst e;have nL:=uM hn.1;have e:l.map (λp=>if p.1=d then (d,o') else p)=l:=(List.map_congr_left λq hq=>aaf (nL q hq)).trans (List.map_id l)
   rw[List.map_cons,e,aae rfl];exact .head nL
  ·have nL:p.1≠d:=λe=>hn.1 (aaG.mpr ⟨_,h,e.symm⟩)
   rw[List.map_cons,aaf nL];exact .tail nL (dR hn.2 h)
theorem fN(d:Addr) (o:Obj) (l:List (Addr×Obj)):(l.map λp=>if p.1=d then (d,o) else p).map (·.1)=l.map (·.1):=by
 rw[List.map_map];refine List.map_congr_left λp O=>?_
 show(if p.1=d then (d,o) else p).1=p.1
 by_cases h:p.1=d
 ·rw[aae h];exact h.symm
 ·rw[aaf h]
theorem aR{d:Addr}{o:Obj}{l:List (Addr×Obj)}{p:Addr×Obj}(h:p∈l) (hn:p.1≠d):p∈l.map λp=>if p.1=d then (d,o) else p :=
 aaG.mpr ⟨p,h,aaf hn⟩
theorem aD{d:Addr}{o o':Obj}{l:List (Addr×Obj)}(h:(d,o)∈l):(d,o')∈l.map λp=>if p.1=d then (d,o') else p :=
 aaG.mpr ⟨_,h,aae rfl⟩
theorem News.fresh_ne{h₀ h:Heap}{L:Addr}{news:List (Addr×Obj)}(N:News h₀ L h news):h.objs.size∉news.map (·.1):=λm=>by
 refine az (aaG.mp m) λp hp e=>?_
 exact absurd (Heap.lt_size (N p hp).1) (e▸aaW _)
section
variable{w:World}{N:Nm}{P:Prog}{G G':Gh}{h h':MH}{a:Ad}{r d:Addr}{mo o o':aP}{ob:Obj}{u:Ow}
theorem MO.keeps(x:bK G G') (k:∀ p∈G.news,(G.g p.1=.main a∨G.g p.1=.dW a)->p∈G'.news/\G'.g p.1=G.g p.1) (h:MO w N P G a r mo):MO w N P G' a r mo :=
 h.rec (λm g md gd f kk l=>.inst (k _ m (.inl g)).1 ((k _ m (.inl g)).2.trans g) (k _ md (.inr gd)).1 ((k _ md (.inr gd)).2.trans gd) (f.aI x) kk l)
  (λm g f l=>.list (k _ m (.inl g)).1 ((k _ m (.inl g)).2.trans g) (f.aI x) l) (λm g f l nd=>.dict (k _ m (.inl g)).1 ((k _ m (.inl g)).2.trans g) (f.aI x) l nd)
theorem SR.at(S:SR w N P G h) (e:G.σ a=some r) (ho:h.get a=some mo):MO w N P G a r mo:=(S.obj a _ ho).elim λ_ ⟨e',m⟩=>aah (e'.symm.trans e)▸m
theorem SR.jJ(S:SR w N P G h) (k9:h.get a=none):G.σ a=none:=by
 cases q:G.σ a with
 |none=>rfl
 |some r=>exact(S.Qa a r q).elim λO e=>nomatch k9.symm.trans e
theorem SR.chg(S:SR w N P G h) (D:Ad->Prop) (hn:(G'.news.map (·.1)).Nodup) (hl:∀ a∈G'.news.map (·.1),1<a) (v:bK G G')
  (s:∀ b,¬ D b->h'.get b=h.get b/\G'.σ b=G.σ b) (k:∀ b,¬ D b->∀ p∈G.news,(G.g p.1=.main b∨G.g p.1=.dW b)->p∈G'.news/\G'.g p.1=G.g p.1)
  (d:∀ b,D b->∃ o r,h'.get b=some o/\G'.σ b=some r/\MO w N P G' b r o/\(∀ dZ,h.get b=some dZ->fu dZ o)/\(h.get b=none->CE h' b)/\¬ jI h' b) (f:∀ b,jI h' b->jI h b):SR w N P G' h' where
 nodup:=hn
 low:=hl
 obj:=λb mo e=>(Classical.em (D b)).elim (λq=>(d b q).elim λo ⟨r,e',a,m,_⟩=>⟨r,a,aah (e'.symm.trans e)▸m⟩) λq=>(S.obj b mo ((s b q).1.symm.trans e)).elim λr ⟨a,m⟩=>⟨r,(s b q).2.trans a,m.keeps v (k b q)⟩
 Qa:=λb r e=>(Classical.em (D b)).elim (λq=>(d b q).elim λo ⟨_,e',_⟩=>⟨o,e'⟩) λq=>(S.Qa b r ((s b q).2.symm.trans e)).elim λmo m=>⟨mo,(s b q).1.trans m⟩
 Jz:=λb q=>(s b λz=>(d b z).elim λ_ ⟨_,_,_,_,_,_,nf⟩=>nf q).1.trans (S.Jz b (f b q))
 par:=λb mo e=>by
  have g:∀ b o,h.get b=some o->∃ o',h'.get b=some o'/\fu o o':=λb o e=>(Classical.em (D b)).elim (λq=>(d b q).elim λo' ⟨_,e',_,_,g,_⟩=>⟨o',e',g o e⟩) λq=>⟨o,(s b q).1.trans e,.refl o⟩
  cases q:h.get b with
  |some o=>exact(S.par b o q).grow g
  |none=>exact(Classical.em (D b)).elim (λz=>(d b z).elim λo' ⟨_,_,_,_,_,p,_⟩=>p q) λz=>nomatch q.symm.trans ((s b z).1.symm.trans e)
theorem Kp.k(x:Ep G G') (b:Ad):∀ p∈G.news,(G.g p.1=.main b∨G.g p.1=.dW b)->p∈G'.news/\G'.g p.1=G.g p.1:=λp hp hc=>x.keep p hp (hc.elim (λq=>q▸trivial) λq=>q▸trivial)
theorem SR.grow(S:SR w N P G h) (x:Ep G G') (hn:(G'.news.map (·.1)).Nodup) (hl:∀ a∈G'.news.map (·.1),1<a) (ph:∀ b,G'.σ b=G.σ b):SR w N P G' h :=
 S.chg (λO=>False) hn hl (x.v trivial) (λb O=>⟨rfl,ph b⟩) (λb O=>x.k b) (λO q=>q.elim) λO q=>q
theorem Gh.Er(hf:d∉G.news.map (·.1)) {p:Addr×Obj}(hp:p∈G.news):p∈(G.add d ob u).news/\(G.add d ob u).g p.1=G.g p.1:=⟨aac _ hp,aaf (uM hf p hp)⟩
theorem Gh.bL{T:Ow->Prop}(hf:d∉G.news.map (·.1)):Kp T G (G.add d ob u):=⟨λO O h=>h,λO hp O=>Gh.Er hf hp⟩
theorem SR.add(S:SR w N P G h) (hf:d∉G.news.map (·.1)) (hl:1<d):SR w N P (G.add d ob u) h :=
 S.grow (Gh.bL hf) (aaU.mpr ⟨hf,S.nodup⟩) (λb hb=>(aau.mp hb).elim (λe=>e▸hl) (S.low b)) λO=>rfl
theorem Gh.jK:(G.add d ob u).g d=u:=aae rfl
theorem Gh.e_:(d,ob)∈(G.add d ob u).news:=aad
theorem Ow.uN{u v:Ow}(h:u.lo) (k:v.hi):v≠u:=λe=>by subst e;cases v<;>first | exact h | exact k
theorem SR.upd(S:SR w N P G h) (hd:(G.g d).lo):SR w N P (G.upd d ob) h :=
 S.grow ⟨λO O h=>h,λp hp hc=>⟨aR hp λe=>Ow.uN hd hc (aab G.g e),rfl⟩⟩ ((fN _ _ _).symm▸S.nodup) (λa ha=>S.low a (fN d ob G.news▸ha)) λO=>rfl
theorem SR.own(S:SR w N P G h) (hd:(G.g d).lo):SR w N P (G.own d u) h :=
 S.grow ⟨λO O h=>h,λp hp hc=>⟨hp,aaf λe=>Ow.uN hd hc (aab G.g e)⟩⟩ S.nodup S.low λO=>rfl
theorem MH.eU:(h.set a o).get a=some o:=aae rfl
theorem MH.gM{b:Ad}(hn:b≠a):(h.set a o).get b=h.get b:=aaf hn
theorem jI.set{b:Ad}:jI (h.set a o) b->jI h b:=match b with
 |.inst _ _=>id
 |.aq _=>id
 |.fld _ _=>id
 |.item _ _=>id
theorem SR.set(S:SR w N P G h) (ho:h.get a=some o) (hr:G.σ a=some r) (g:fu o o') (hn:(G'.news.map (·.1)).Nodup) (hl:∀ a∈G'.news.map (·.1),1<a) (ph:G'.σ=G.σ) (hv:bK G G')
  (hk:∀ p∈G.news,G.g p.1≠.main a->G.g p.1≠.dW a->p∈G'.news/\G'.g p.1=G.g p.1) (hm:MO w N P G' a r o'):SR w N P G' (h.set a o') :=
 S.chg (·=a) hn hl hv (λb q=>⟨MH.gM q,congrFun ph b⟩) (λb q p hp hc=>hk p hp (λe=>hc.elim (λz=>q (Ow.main.inj (z.symm.trans e))) λz=>nomatch z.symm.trans e) λe=>hc.elim (λz=>nomatch z.symm.trans e) λz=>q (Ow.dW.inj (z.symm.trans e)))
  (λb q=>by clear hk;subst q;exact⟨o',r,MH.eU,(congrFun ph b).trans hr,hm,λdZ e=>aah (ho.symm.trans e)▸g,λe=>(nomatch e.symm.trans ho),λq=>(nomatch (S.Jz b (jI.set q)).symm.trans ho)⟩) λb=>jI.set
theorem SR.new(S:SR w N P G h) (k9:h.get a=none) (nV:∀ b,h'.get b=if b=a then some o else h.get b) (hn:(G'.news.map (·.1)).Nodup) (hl:∀ a∈G'.news.map (·.1),1<a) (ph:∀ b,G'.σ b=if b=a then some r else G.σ b) (x:Ep G G')
  (hm:MO w N P G' a r o) (nf:¬ jI h' a) (f:∀ b,jI h' b->jI h b) (hp:CE h' a):SR w N P G' h' :=
 S.chg (·=a) hn hl (x.v trivial) (λb q=>⟨(nV b).trans (aaf q),(ph b).trans (aaf q)⟩) (λb O=>x.k b)
  (λb q=>by subst q;exact⟨o,r,(nV b).trans (aae rfl),(ph b).trans (aae rfl),hm,λO e=>(nomatch k9.symm.trans e),λO=>hp,nf⟩) f
end
end
section
theorem fb(a:V):aC a a=true :=
 V.rec (motive_1:=λa=>aC a a=true) (motive_2:=λa=>bX a a=true) rfl (λO=>beq_self_eq_true _) (λO=>beq_self_eq_true _) (λO=>aaq rfl) (λO h=>h) (λO h=>h) (λO=>aaq rfl) (λO=>beq_self_eq_true _) rfl (λO O h1 h2=>aaC.mpr ⟨h1,h2⟩) a
theorem fO{a:V}:∀ {b:V},aC a b=true->a=b :=
 V.rec (motive_1:=λa=>∀ {b:V},aC a b=true->a=b) (motive_2:=λa=>∀ {b:List V},bX a b=true->a=b)
  (λ{b} h=>by cases b<;>first | rfl | exact ff h) (λx {b} h=>by cases b<;>first | exact aab _ (aam.mp h) | exact ff h) (λx {b} h=>by cases b<;>first | exact aab _ (aam.mp h) | exact ff h)
  (λx {b} h=>by cases b<;>first | exact aab _ (aaK h) | exact ff h) (λx ih {b} h=>by cases b<;>first | exact aab _ (ih h) | exact ff h) (λx ih {b} h=>by cases b<;>first | exact aab _ (ih h) | exact ff h)
  (λx {b} h=>by cases b<;>first | exact aab _ (aaK h) | exact ff h) (λx {b} h=>by cases b<;>first | exact aab _ (aam.mp h) | exact ff h)
  (λ{b} h=>(List.isEmpty_iff.mp h).symm) (λx xs h1 h2 {b} h=>by
   cases b with
   |nil=>exact ff h
   |cons y ys =>
    have h:=aaC.mp h;rw[h1 h.1,h2 h.2]) a
theorem sJ{a:List V}{b:List V}(h:bX a b=true):a=b:=V.tup.inj (fO (a:=.tup a) (b:=.tup b) h)
noncomputable instance:DecidableEq V:=λa b=>if h:aC a b=true then .isTrue (fO h) else .isFalse λe=>h (e▸fb a)
theorem f_(a b:V):aC a b=decide (a=b):=by
 by_cases h:a=b
 ·subst h;rw[fb,aaq rfl]
 ·rw[aaA h];exact Bool.eq_false_iff.mpr λq=>h (fO q)
section
variable{C:Nat->V->Prop}{D:Nat->List V->Prop}
theorem mf(hi:∀ n i,C n (.int i)) (ht:∀ n xs,D n xs->C (n+1) (.tup xs)) (hl:∀ n xs,D n xs->C (n+1) (.lst xs)) (h0:∀ n,D n []) (h1:∀ n x xs,C n x->D n xs->D n (x::xs)) (n:Nat) (v:V):nK n v=true->C n v :=
 V.rec (motive_1:=λv=>∀ n,nK n v=true->C n v) (motive_2:=λxs=>∀ n,jz n xs=true->D n xs)
  (λO h=>ff h) (λO O h=>ff h) (λi n O=>hi n i) (λO O h=>ff h) (λxs ih n h=>match n with | 0=>ff h | n+1=>ht n xs (ih n h)) (λxs ih n h=>match n with | 0=>ff h | n+1=>hl n xs (ih n h)) (λO O h=>ff h) (λO O h=>ff h)
  (λn O=>h0 n) (λx xs a b n h=>h1 n x xs (a n (aaC.mp h).1) (b n (aaC.mp h).2)) v n
end
section
variable{N:Nm}{G:Gh}{h₀ hp:Heap}{L:Addr}
theorem VR.reads(Nw:News h₀ L hp G.news) {n:Nat}{v:V}{u:Value}(h:nK n v=true) (r:VR N G v u):∃ as,Reads hp u (pf v) as :=
 mf (C:=λO v=>∀ u,VR N G v u->∃ as,Reads hp u (pf v) as) (D:=λO v=>∀ u,bM N G v u->∃ as,ReadsAll hp u (kH v) as)
  (λO i u r=>r.elim λt e=>e▸⟨_,.int i t⟩)
  (λO xs ih u r=>r.rec λm O O r=>(ih _ r).elim λas ra=>⟨_,.tuple (Nw _ m).1 rfl rfl ra⟩)
  (λO xs ih u r=>r.rec λm O O r=>(ih _ r).elim λas ra=>⟨_,.list (Nw _ m).1 rfl rfl ra⟩)
  (λO u r=>(show u=[] from r)▸⟨_,.nil⟩) (λO x xs h1 h2 u r=>r.rec λa b=>(h1 _ a).elim λas ra=>(h2 _ b).elim λbs rb=>⟨_,.cons ra rb⟩) n v h u r
end
theorem eN{n:Nat}{v:V}(h:nK n v=true):(pf v).canLay0=true :=
 mf (C:=λO v=>(pf v).canLay0=true) (D:=λO xs=>PyData.canLayAll0 (kH xs)=true) (λO O=>rfl) (λO O h=>h) (λO O h=>h) (λO=>rfl) (λO O O h1 h2=>aaC.mpr ⟨h1,h2⟩) n v h
theorem jL{n k:Nat}{a b:V}(h:nK n a=true) (h':nK k b=true):PyData.eqv (pf a) (pf b)=aC a b :=
 mf (C:=λO a=>∀ k b,nK k b=true->PyData.eqv (pf a) (pf b)=aC a b) (D:=λO a=>∀ k b,jz k b=true->PyData.eqvAll (kH a) (kH b)=bX a b)
  (λO O k b h=>by cases b<;>first | rfl | exact ff h)
  (λO O ih k b h=>by
   cases b with
   |tup ys=>cases k with
    |zero=>exact ff h
    |succ k=>exact ih _ _ h
   |_=>first | rfl | exact ff h)
  (λO O ih k b h=>by
   cases b with
   |lst ys=>cases k with
    |zero=>exact ff h
    |succ k=>exact ih _ _ h
   |_=>first | rfl | exact ff h)
  (λO k b h=>by cases b<;>rfl)
  (λO x xs h1 h2 k b h=>by
   cases b with
   |nil=>rfl
   |cons y ys =>
    have h:=aaC.mp h;show(PyData.eqv _ _&&PyData.eqvAll _ _)=(aC _ _&&bX _ _);rw[h1 k y h.1,h2 k ys h.2]) n a h k b h'
theorem Es{n:Nat}{v:V}(h:nK n v=true):(pf v).depth<=n :=
 mf (C:=λn v=>(pf v).depth<=n) (D:=λn xs=>PyData.depthAll (kH xs)<=n) (λO O=>aaV _) (λO O h=>Nat.succ_le_succ h) (λO O h=>Nat.succ_le_succ h) (λO=>aaV _) (λO O O h1 h2=>Nat.max_le.mpr ⟨h1,h2⟩) n v h
theorem ji{u n:Nat}{a b:V}(h:nK n a=true) (hn:n<=20) (hu:u+20<9900):u+min (pf a).depth (pf b).depth<cLine :=
 aak (aaE (aaj (Nat.min_le_left _ _) (aaj (Es h) hn)) u) hu
theorem uP{hp:Heap}{n k:Nat}{a b:V}{u:Value}{as bs:List Addr}(h:nK n a=true) (h':nK k b=true) (r:Reads hp u (pf a) as) (r':Reads hp u (pf b) bs):a=b :=
 fO ((jL h h').symm.trans ((SeqAt.Reads.unique _ _ _ _ _ (eN h) r r')▸SeqAt.eqv_refl _ (eN h)))
theorem mh{C:Nat->V->Prop}{D:Nat->List V->Prop}(hi:∀ n i,C n (.int i)) (ht:∀ n xs,D n xs->C (n+1) (.tup xs)) (h0:∀ n,D n []) (h1:∀ n x xs,C n x->D n xs->D n (x::xs)) (n:Nat) (v:V):hb n v=true->C n v :=
 V.rec (motive_1:=λv=>∀ n,hb n v=true->C n v) (motive_2:=λxs=>∀ n,P7 n xs=true->D n xs)
  (λO h=>ff h) (λO O h=>ff h) (λi n O=>hi n i) (λO O h=>ff h) (λxs ih n h=>match n with | 0=>ff h | n+1=>ht n xs (ih n h)) (λO O O h=>ff h) (λO O h=>ff h) (λO O h=>ff h)
  (λn O=>h0 n) (λx xs a b n h=>h1 n x xs (a n (aaC.mp h).1) (b n (aaC.mp h).2)) v n
theorem iP{n:Nat}{v:V}:hb n v=true->nK n v=true :=
 mh (C:=λn v=>nK n v=true) (D:=λn v=>jz n v=true) (λO O=>rfl) (λO O h=>h) (λO=>rfl) (λO O O a b=>aaC.mpr ⟨a,b⟩) n v
mutual
noncomputable def JA:V->Nat
 |.tup xs=>sL xs+1
 |_=>1
noncomputable def sL:List V->Nat
 |[]=>0
 |x::xs=>JA x+sL xs
end
def HR(h:Heap) (k:V) (u:Value):Prop:=∃ as,Reads h u (pf k) as
inductive TO(h:Heap) (R:List Value->Prop):Value->Prop where
 |mk {a:Addr}{o:Obj}{vs:Array Value}{n:Nat}(g:h.get? a=some o) (c:o.cls=.type "tuple") (d:o.data=.seq vs n) (r:R vs.toList):TO h R (.ref a)
noncomputable def ue(h:Heap):List V->List Value->Prop
 |[],vs=>vs=[]
 |x::xs,vs=>Cn (HR h x) (ue h xs) vs
theorem ue.of{h:Heap}:∀ {xs:List V}{vs:List Value}{as:List Addr},ReadsAll h vs (kH xs) as->ue h xs vs
 |[],_,_,r=>by cases r;rfl
 |_::_,_,_,r=>by cases r with | cons a b=>exact⟨⟨_,a⟩,ue.of b⟩
theorem ue.to{h:Heap}:∀ {xs:List V}{vs:List Value},ue h xs vs->∃ as,ReadsAll h vs (kH xs) as
 |[],_,r=>(show _=[] from r)▸⟨_,.nil⟩
 |_::_,_,r=>r.rec λa b=>a.elim λO a=>(ue.to b).elim λO b=>⟨_,.cons a b⟩
theorem HR.tup{h:Heap}{xs:List V}{u:Value}(r:HR h (.tup xs) u):TO h (ue h xs) u:=by
 refine gJ r λas r=>?_
 cases r with | tuple g c d r=>exact⟨g,c,d,.of r⟩
theorem HR.int{h:Heap}{i:Int}{u:Value}(r:HR h (.int i) u):∃ t,u=.int i t:=by
 refine gJ r λas r=>?_
 cases r with | int i t=>exact⟨t,rfl⟩
theorem HR.keeps{h h':Heap}(k:∀ a o vs n,h.get? a=some o->o.data=.seq vs n->h'.get? a=some o) {n:Nat}{x:V}(hx:hb n x=true) {v:Value}(r:HR h x v):HR h' x v :=
 mh (C:=λO x=>∀ v,HR h x v->HR h' x v) (D:=λO x=>∀ v,ue h x v->ue h' x v) (λO O O r=>r.int.elim λt e=>e▸⟨_,.int _ t⟩) (λO O ih O r=>r.tup.rec λg c d r=>(ih _ r).to.elim λO r=>⟨_,.tuple (k _ _ _ _ g d) c d r⟩)
  (λO O r=>r) (λO O O i1 i2 O r=>r.rec λa b=>⟨i1 _ a,i2 _ b⟩) n x hx v r
section
variable{prog:Program}{w:World}
theorem jc{hs:List Int}{ds:Nat}{o:Obj}{vs:Array Value}{n:Nat}{a:Addr}{A:Around}{s:Shared}{E:Value->Shared->Prop}{Q:Int->Shared->Prop}(hu:A.units<9900) (ho:s.heap.get? a=some o) (hc:o.cls=.type "tuple") (hd:o.data=.seq vs n)
  (loop:∀ (E:Value->Shared->Prop) (b:Array Int) (Q:Array Int->Shared->Prop),(∀ b',b'.toList=b.toList++hs->Q b' { s with toks:=s.toks+ds }) ->
   wpAny (model prog w) A.in1 (forIn vs.toList b λx r=>do let h <- pyHash x;pure PUnit.unit;pure (ForInStep.yield (r.push h))) Q E s)
  (h:Q (reduceHash (Builtin.Tuple.tupleHashOf hs)) { s with toks:=s.toks+(ds+1) }):wpAny (model prog w) A (pyHash (.ref a)) Q E s:=by
 have hT:s.TypeIs (.ref a) "tuple" := ⟨_,ho,hc⟩;refine pyHash_slot (T := "tuple") hT F.slot_tuple_hash F.entry_tuple_hash (F.args_tuple_hash_1 _) (beq_builtin_none _) (.inr hu) ?_;show wpAny _ _ (Builtin.Tuple.tupleItemsOf (.ref a) >>= _) _ _ s;refine aal (wpAny_tupleItemsOf ho hd (aal ?_));rw[<- Array.forIn_toList];refine loop _ _ _ λb hb=>?_
 show wpAny _ _ (retInt (Builtin.Tuple.tupleHashOf b.toList)) _ _ _;rw[hb];exact aal (wpAny_mkInt (aaH ⟨_,_,rfl,h⟩))
theorem lg{n:Nat}{k:V}(hk:hb n k=true) {v:Value}{A:Around}{s:Shared}{E:Value->Shared->Prop}{Q:Int->Shared->Prop}(r:HR s.heap k v) (hu:A.units+n<9900) (hq:Q (hashW w.params (ud k)) { s with toks:=s.toks+JA k }):wpAny (model prog w) A (pyHash v) Q E s :=
 mh (C:=λn k=>∀ {v:Value}{A:Around}{s:Shared}{E:Value->Shared->Prop}{Q:Int->Shared->Prop},HR s.heap k v->A.units+n<9900->Q (hashW w.params (ud k)) { s with toks:=s.toks+JA k }->wpAny (model prog w) A (pyHash v) Q E s)
  (D:=λn xs=>∀ {vs:List Value}{A:Around}{s:Shared}{E:Value->Shared->Prop}{b:Array Int}{Q:Array Int->Shared->Prop},ue s.heap xs vs->A.units+n<9900->(∀ b',b'.toList=b.toList++hashesW w.params (uL xs)->Q b' { s with toks:=s.toks+sL xs }) ->
   wpAny (model prog w) A (forIn vs b λx r=>do let h <- pyHash x;pure PUnit.unit;pure (ForInStep.yield (r.push h))) Q E s)
  (λn i v A s E Q r hu h=>by obtain⟨t,rfl⟩:=r.int;exact wpAny_pyHash_int (hashW_int w.params i▸h))
  (λn xs ih v A s E Q r hu h=>by
   cases r.tup with | mk g c d r' =>
   exact jc (hs:=hashesW w.params (uL xs)) (ds:=sL xs) (aak (aaF _ _) hu) g c d (λE b Q hQ=>ih (A:=A.in1) r' (by rw[Around.in1_units,Nat.add_right_comm];exact hu) hQ) h)
  (λn vs A s E b Q r hu h=>by cases(show _=[] from r);exact aaH (h b (List.append_nil _).symm))
  (λn x xs i1 i2 vs A s E b Q r hu h=>by
   cases r with | mk a r =>
   rw[List.forIn_cons];refine aal (aal (i1 a hu (aal (aaH (aaH ?_)))));refine i2 (s:={ s with toks:=s.toks+JA x }) r hu λb' Qb=>?_
   have:=h b' (by rw[Qb,Array.toList_push,List.append_assoc];rfl)
   rwa[show sL (x::xs)=JA x+sL xs from rfl,<- Nat.add_assoc]at this) n k hk r hu hq
theorem uQ{n j:Nat}{k:V}(hk:hb n k=true) (hj:n<=j) {v:Value}{A:Around}{s:Shared}{E:Value->Shared->Prop}{Q:Bool->Shared->Prop}(r:HR s.heap k v) (hq:Q true s):wpAny (model prog w) A (eqIsQuiet j v) Q E s :=
 mh (C:=λn k=>∀ {j:Nat}{v:Value}{Q:Bool->Shared->Prop},n<=j->HR s.heap k v->Q true s->wpAny (model prog w) A (eqIsQuiet j v) Q E s)
  (D:=λn xs=>∀ {j:Nat},n<=j->∀ {vs:List Value},ue s.heap xs vs->∀ v∈vs,∀ {Q:Bool->Shared->Prop},Q true s->wpAny (model prog w) A (eqIsQuiet j v) Q E s)
  (λn i j v Q hj r hQ=>by obtain⟨t,rfl⟩:=r.int;rw[eqIsQuiet_byValue _ rfl];exact aaH hQ)
  (λn xs ih j v Q hj r hQ=>by
   cases j with
   |zero=>exact absurd hj (Nat.not_succ_le_zero _)
   |succ j =>
   cases r.tup with | @mk a o vs m g c d r' =>
   have hT:s.TypeIs (.ref a) "tuple" := ⟨_,g,c⟩;unfold eqIsQuiet;refine aal (wpAny_specialOf hT F.slot_tuple_eq.lookup ?_);dsimp only;refine aal (wpAny_isInstance hT isSubtype_tuple_tuple ?_);refine aal (wpAny_seqItems g d (aal ?_));rw[<- Array.forIn_toList];refine wpAny_forIn_list _ (λrest r s'=>r.1=none/\s'=s/\∀ v∈rest,∀ {Q:Bool->Shared->Prop},Q true s->wpAny (model prog w) A (eqIsQuiet j v) Q E s) _ (λv rest r s' h=>?_) (λr s' h=>?_) _ _ ⟨rfl,rfl,ih (Nat.le_of_succ_le_succ hj) r'⟩
   ·clear ih;obtain⟨h1,rfl,h2⟩:=h;exact aal (h2 v aad (aaH ⟨rfl,rfl,λv hv=>h2 v (aac _ hv)⟩))
   ·clear ih;obtain⟨r1,r2⟩:=r;obtain⟨h1,rfl,-⟩:=h;cases(show r1=none from h1)
    exact aaH hQ)
  (λn j hj vs r v hv=>by cases(show _=[] from r);cases hv)
  (λn x xs i1 i2 j hj vs r v hv Q hQ=>by
   cases r with | mk a r =>
   rcases aau.mp hv with rfl | hv
   ·exact i1 hj a hQ
   ·exact i2 hj r v hv hQ) n k hk hj r hq
noncomputable def tk(prog:Program) (w:World):HeapKind prog w V where
 is:=λh k a=>hb 6 k=true/\HR h k (.ref a)
 hash:=λk=>hashW w.params (ud k)
 draws:=JA
 room:=λA=>A.units+20<9900
 inj:=λhx hy=>hx.2.elim λO r=>hy.2.elim λO r'=>uP (iP hx.1) (iP hy.1) r r'
 keeps:=λ{h h' k a d o es ep} x ho hd hs=>⟨x.1,x.2.keeps (λa' o' vs n g q=>(hs.2 a' (by
  rintro rfl
  rw[g]at ho;cases ho;rw[q]at hd;cases hd)).trans g) x.1⟩
 pyHash:=λhu hk h=>lg hk.1 hk.2 (aak (aaE (by decide:6<=20) _) hu) h
 eqBool:=λ{A E s x y a b Q} hu hx hy h=>hx.2.elim λO ra=>hy.2.elim λO rb =>
  SeqAt.eqBoolOverData prog w A E s _ _ _ _ _ _ Q ra rb (eN (iP hx.1)) (eN (iP hy.1)) (ji (iP hx.1) (by decide) hu) (by rw[jL (iP hx.1) (iP hy.1),f_];exact h)
 quiet:=λhk h=>uQ hk.1 (by decide) hk.2 h
theorem Et{N:Nm}{G:Gh}{h₀:Heap}{L:Addr}{A:Around}{s:Shared}(Nw:News h₀ L s.heap G.news) (hu:A.units+20<9900) {a b:V}{u v:Value}(ha:VR N G a u) (hb:VR N G b v) {n k:Nat}(h1:nK n a=true) (h2:nK k b=true) (hn:n<=20):SeqAt.EqAt A s u v (aC a b):=λprog w E Q hQ =>
 (ha.reads Nw h1).elim λO ra=>(hb.reads Nw h2).elim λO rb=>SeqAt.eqBoolOverData prog w A E s u v _ _ _ _ Q ra rb (eN h1) (eN h2) (ji h1 hn hu) (by rw[jL h1 h2];exact hQ)
end
end
structure Tb where
 ry:List (Str×Nat)
 CF:List (Str×Nat)
 Eu:List (Str×Int)
 Ew:List (Str×Nat)
 cf:Nat
structure Cx where
 A:Around
 A₀:Around
 h₀:Heap
 L:Addr
 kI:Env
 outer:List Env
 ak:Env
 bk:Nat
 nm:List Str
structure b_ where
 prog:Program
 w:World
 P:Prog
 N:Nm
 B:Tb
 K:Frag
 p:Program
 loose:List Str
 dS:ExcName->Option Value
 mg:Str->Option Value
 mb:Str->Option Value
 base:Heap
 lf:Addr
structure CG(K:Frag) (C:Addr) (x:Str):Prop where
 pg:plainGet K C x=true
 hd:hasDictIn K C=true
 fi:findIn K (.ref C) x=some none
 sa:findIn K (.ref C) "__setattr__" = some (some (.builtin "object.__setattr__"))
 po:plainOver K C=true
 tk:takerIn K C x=some none
structure KD(K:Frag) (C f:Addr) (x:Str):Prop where
 pg:plainGet K C x=true
 fi:findIn K (.ref C) x=some (some (.ref f))
 fn:isFn K (.ref f)=true
 kp:keepIn K (.ref f)=true
structure CH(K:Frag) (C f:Addr):Prop where
 Wc:makesIn K C=true
 fi:findIn K (.ref C) "__init__" = some (some (.ref f))
 fn:isFn K (.ref f)=true
structure rz(K:Frag) (x:Str) (v:Value):Prop where
 ns:nsIn K mainGlobals x=some (some v)
 kp:keepIn K v=true
structure iQ(K:Frag) (x:Str) (v:Value):Prop where
 ns:nsIn K mainGlobals x=some none
 bt:bootBuiltins x=some v
 nn:x ≠ "__name__"
inductive TE(kv:Int×Int) (e:DictEntry):Prop where
 |mk {t t':Tok}(k:e.key=.int kv.1 t) (v:e.val=.int kv.2 t') (h:e.hash=hashInt kv.1):TE kv e
class inductive Ey:List (Int×Int)->List DictEntry->Prop where
 |nil:Ey [] []
 |cons {kv:Int×Int}{D:List (Int×Int)}{e:DictEntry}{es:List DictEntry}(a:TE kv e) (b:Ey D es):Ey (kv::D) (e::es)
inductive Tab(P:Prog) (h:Heap) (n:Nat) (a:Addr):Prop where
 |mk {o:Obj}{es:List DictEntry}{nx:Nat}(l:1<a) (g:h.get? a=some o) (c:o.cls=.type "dict") (d:o.data=.dict es.toArray nx) (t:Ey (P.tab n) es) (i:o.dict=none):Tab P h n a
structure Base(Z:b_):Prop where
 fld:∀ c k,Z.P.fld c k=true->CG Z.K (Z.N.cA c) (Z.N.an k)
 inj:∀ c j k,Z.P.fld c j=true->Z.P.fld c k=true->Z.N.an j=Z.N.an k->j=k
 bU:∀ c k f,Z.P.bU c k=some f->KD Z.K (Z.N.cA c) (Z.N.fA f) (Z.N.an k)
 KG:∀ c k f j,Z.P.bU c k=some f->Z.P.fld c j=true->Z.N.an j≠Z.N.an k
 init:∀ c f,Z.P.init c=some f->CH Z.K (Z.N.cA c) (Z.N.fA f)
 Uj:∀ c k f,Z.P.bU c k=some f->f≠Z.B.cf
 Uk:∀ c f,Z.P.init c=some f->f≠Z.B.cf
 ry:∀ x f,(x,f)∈Z.B.ry->rz Z.K x (.ref (Z.N.fA f))
 CF:∀ x c,(x,c)∈Z.B.CF->rz Z.K x (.ref (Z.N.cA c))
 Eu:∀ x i,(x,i)∈Z.B.Eu->∃ t,nsIn Z.K mainGlobals x=some (some (.int i t))
 Ew:∀ x n,(x,n)∈Z.B.Ew->nsIn Z.K mainGlobals x=some (some (.ref (Z.N.tA n)))
 tb:∀ n,n<3->Tab Z.P Z.base n (Z.N.tA n)
 KH:iQ Z.K "len" (.builtin "len")
 KI:iQ Z.K "str" (.type "str")
 KJ:iQ Z.K "tuple" (.type "tuple")
 KL:iQ Z.K "any" (.builtin "any")
 KN:iQ Z.K "range" (.type "range")
 xb:Z.K.In Z.base
 Ul:Top Z.p Z.loose Z.dS Z.mg Z.mb Z.base
 lf:rz Z.K "LoadFault" (.ref Z.lf)
 Um:ktsIn Z.K Z.lf "BaseException" = true
structure fB(Z:b_) (n:Nat) (c:Cx):Prop where
 below:Below c.A₀ Z.base c.outer c.h₀
 X:Z.K.In c.h₀
 T:Top Z.p Z.loose Z.dS Z.mg Z.mb c.h₀
 frames:c.A.frames=some (c.kI::c.outer)
 frame:c.kI.frame=some c.L
 kind:c.kI.scope.kind=.function
 handled:c.A.handled=none
 depth:c.A.depth+4*n<=900
 units:c.A.units+40*n+400<=9900
 cg:c.ak.globals=mainGlobals
 ck:c.ak.scope.kind=.function
 cb:c.ak.builtins=builtinsNs
 nm:c.nm.Nodup
inductive KO(c:Cx):Prop where
 |mk {cn:Str}{cs:Scope}{a:Addr}{cd:Value}(o:c.outer=[]) (e:c.kI=envOf cn cs c.L a cd) (k:cs.kind=.function):KO c
structure Fm where
 kd:List (Str×NameKind)
 nm:List Str
 top:Bool
 bot:Bool
 x:Bool
structure Ez(c:Cx) (F:Fm):Prop where
 kd:∀ x,F.kd.lookup x=some .globalImplicit->c.ak.kindOf x=some .globalImplicit
 cf:∀ x,(F.kd.lookup x=some .cell∨F.kd.lookup x=some .free)->(c.ak.kindOf x=some .cell∨c.ak.kindOf x=some .free)
 nm:c.nm=F.nm
 top:F.top=true->c.ak.locals=c.L
 bot:F.bot=true->KO c
 lo:F.top=true->∀ x,F.kd.lookup x=some .local->c.ak.kindOf x=some .local
inductive dG(c:Cx) (G:Gh) (m:Str->Option Value) (x:Str) (u:Value):Prop where
 |loc (k:c.ak.kindOf x=some .local) (l:c.ak.locals=c.L) (e:m x=some u):dG c G m x u
 |dW {o:Obj}{es:Array DictEntry}{ep:Nat}(k:c.ak.kindOf x=some .local) (n:(c.ak.locals,o)∈G.news) (g:G.g c.ak.locals=.fy) (d:o.data=.dict es ep) (s:StrKeys es) (f:nsFind es x=some u):dG c G m x u
 |cell {q:Addr}{o:Obj}(k:c.ak.kindOf x=some .cell∨c.ak.kindOf x=some .free) (l:c.ak.cells.lookup x=some q) (n:(q,o)∈G.news) (g:G.g q=.fy) (d:o.data=.cell (some u)):dG c G m x u
inductive pL(N:Nm) (c:Cx) (G:Gh) (m:Str->Option Value) (i:Nat) (x:Str):MV->Prop where
 |val {v:V}{u:Value}(r:VR N G v u) (a:dG c G m x u):pL N c G m i x (.val v)
 |bH {xs:List V}{r:Addr}{vs:List Value}{n:Nat}(n':(r,ax vs n)∈G.news) (g:G.g r=.bH c.bk i) (f:bM N G xs vs) (l:xs.length<=4000) (a:dG c G m x (.ref r)):pL N c G m i x (.bH xs)
structure hH(N:Nm) (c:Cx) (G:Gh) (m:Str->Option Value) (env:En):Prop where
 len:env.length=c.nm.length
 mv:∀ (i:Nat) (w:MV) (x:Str),env[i]? =some (some w)->c.nm[i]? =some x->pL N c G m i x w
structure cj(Z:b_) (c:Cx) (G:Gh) (m:Str->Option Value) (env:En) (h:MH) (hp:Heap):Prop where
 sr:SR Z.w Z.N Z.P G h
 env:hH Z.N c G m env
 fr:Fr c.h₀ c.L hp m
 nw:News c.h₀ c.L hp G.news
section
variable{N:Nm}{c:Cx}{G G':Gh}{S:Ow->Prop}{m m':Str->Option Value}{x:Str}{u:Value}{i:Nat}{env:En}{w:MV}
theorem Kp.at(k:Kp S G G') {a:Addr}{o:Obj}{u:Ow}(n:(a,o)∈G.news) (g:G.g a=u) (s:S u):(a,o)∈G'.news/\G'.g a=u:=(k.keep _ n (g.symm▸s)).imp id λe=>e.trans g
theorem dG.kp(k:Kp S G G') (hs:S .fy) (h:dG c G m x u):dG c G' m x u :=
 h.rec (λa b d=>.loc a b d) (λa n g d s f=>.dW a (k.at n g hs).1 (k.at n g hs).2 d s f) (λa l n g d=>.cell a l (k.at n g hs).1 (k.at n g hs).2 d)
theorem pL.kp(k:Kp S G G') (h1:S .fy) (h2:S .ey) (h3:S (.bH c.bk i)) (h:pL N c G m i x w):pL N c G' m i x w :=
 h.rec (λr a=>.val (r.aI (k.v h2)) (a.kp k h1)) (λn g f l a=>.bH (k.at n g h3).1 (k.at n g h3).2 (f.aI (k.v h2)) l (a.kp k h1))
theorem hH.kp(k:Kp Ow.en G G') (h:hH N c G m env):hH N c G' m env:=⟨h.len,λi w x e e'=>(h.mv i w x e e').kp k trivial trivial trivial⟩
theorem hH.set(hn:c.nm.Nodup) (h:hH N c G m env) (hx:c.nm[i]? =some x) (r:pL N c G' m' i x w) (k:∀ j y w,j≠i->y≠x->pL N c G m j y w->pL N c G' m' j y w):hH N c G' m' (setEnv env i w) where
 len:=(List.length_set ..).trans h.len
 mv:=λj v y e e'=>by
  by_cases hj:i=j
  ·subst hj;rw[setEnv,List.getElem?_set_self (h.len▸(aav.mp hx).1)]at e;cases e;cases hx.symm.trans e';exact r
  ·rw[setEnv,List.getElem?_set_ne hj]at e;exact k j y v (Ne.symm hj) (λq=>hj ((List.getElem?_inj (aav.mp hx).1 hn).mp (hx.trans (q▸e').symm))) (h.mv j v y e e')
theorem dG.store{y:Str}{v:Value}(n:y≠x) (h:dG c G m y u):dG c G (λz=>if z=x then some v else m z) y u :=
 h.rec (λa b d=>.loc a b ((aaf n).trans d)) (λa n g d s f=>.dW a n g d s f) (λa l n g d=>.cell a l n g d)
theorem pL.store{y:Str}{v:Value}(n:y≠x) (h:pL N c G m i y w):pL N c G (λz=>if z=x then some v else m z) i y w :=
 h.rec (λr a=>.val r (a.store n)) (λn' g f l a=>.bH n' g f l (a.store n))
end
structure Pn(k:Addr) where
 P:Gh->Prop
 st:∀ G G',Ext k G G'->P G->P G'
noncomputable def Pn.nil{k:Addr}:Pn k:=⟨λO=>True,λO O O h=>h⟩
noncomputable def Pn.v(N:Nm) {k:Addr}(v:V) (u:Value) (L:Pn k):Pn k:=⟨λG=>VR N G v u/\L.P G,λG G' x h=>⟨h.1.ext x,L.st G G' x h.2⟩⟩
noncomputable def Pn.vs(N:Nm) {k:Addr}(v:List V) (u:List Value) (L:Pn k):Pn k:=⟨λG=>bM N G v u/\L.P G,λG G' x h=>⟨h.1.ext x,L.st G G' x h.2⟩⟩
structure EC(Z:b_) (n:Nat) (F:Fm) where
 c:Cx
 a_:Gh
 fm:(Str->Option Value)->Prop
 sh:Shared
 r:Fl×St
 b:Base Z
 ok:fB Z n c
 dE:Ez c F
section
variable{Z:b_}{n:Nat}{F:Fm}
noncomputable abbrev EC.s(X:EC Z n F) (hp:Heap) (tk:Nat):Shared:={ X.sh with heap:=hp,toks:=tk }
def EC.R(X:EC Z n F) (t:T) (h:MH):Prop:=run (aa Z.P n) t h=some X.r
abbrev EC.wp(X:EC Z n F) {α:Type}(x:Sem α) (Q:α->Shared->Prop) (E:Value->Shared->Prop) (s:Shared):Prop:=wpAny (model Z.prog Z.w) X.c.A x Q E s
inductive EC.At(X:EC Z n F) (env:En) (L:Pn X.c.bk) (R:MH->Prop):Shared->Prop where
 |mk {G:Gh}{hp:Heap}{tk:Nat}{h:MH}{m:Str->Option Value}(x:Ext X.c.bk X.a_ G) (f:X.fm m) (S:cj Z X.c G m env h hp) (l:L.P G) (r:R h):X.At env L R (X.s hp tk)
section
variable{r:Fl×St}{h:MH}{c:Nat->List V->MH->Option aB}
theorem eA{f:MH->Option V}{k:V->T}(e:run c (.get f k) h=some r):∃ v,f h=some v/\run c (k v) h=some r:=aap.mp e
theorem KP{f:MH->Option Bool}{k:Bool->T}(e:run c (.tst f k) h=some r):∃ v,f h=some v/\run c (k v) h=some r:=aap.mp e
theorem EA{f:MH->Option (V×MH)}{k:V->T}(e:run c (.act f k) h=some r):∃ p,f h=some p/\run c (k p.1) p.2=some r:=aap.mp e
theorem iR{f:MH->Option MH}{k:T}(e:run c (fx f k) h=some r):∃ h',f h=some h'/\run c k h'=some r :=
 (EA e).elim λ_ ⟨a,b⟩=>(aas.mp a).elim λh' ⟨d,e⟩=>⟨h',d,by subst e;exact b⟩
theorem EB{o:Option En}{f:En->T}(e:run c (zJ o f) h=some r):∃ E,o=some E/\run c (f E) h=some r:=by
 cases o with
 |none=>exact nn e
 |some E=>exact⟨E,rfl,e⟩
theorem Qc{o:Option Nat}{f:Nat->T}(e:run c (El o f) h=some r):∃ E,o=some E/\run c (f E) h=some r:=by
 cases o with
 |none=>exact nn e
 |some E=>exact⟨E,rfl,e⟩
end
section
variable{X:EC Z n F}{env:En}{L:Pn X.c.bk}{R:MH->Prop}{G G':Gh}{hp cE:Heap}{h h':MH}{m:Str->Option Value}{s:Shared}{tk:Nat}{c:Cx}
theorem fB.hu(ok:fB Z n c):c.A.units+40<9900:=by have:=ok.units;exact aai (aai (Nat.add_lt_add_left (by decide:40<400) _) (Nat.add_le_add_right (aaF _ _) 400)) this
theorem Tab.keeps{k:Nat}{a:Addr}(t:Tab Z.P hp k a) (q:∀ b o,hp.get? b=some o->cE.get? b=some o):Tab Z.P cE k a:=t.rec λl g c d t i=>⟨l,q _ _ g,c,d,t,i⟩
theorem EC.tabs(X:EC Z n F) (F:Fr X.c.h₀ X.c.L hp m) {k:Nat}(hk:k<3):Tab Z.P hp k (Z.N.tA k):=(X.b.tb k hk).keeps λb o e=>F.keep b o (X.ok.below.stays b o e)
theorem fB.zK(ok:fB Z n c) (F:Fr c.h₀ c.L hp m):Z.K.In hp:=ok.X.keeps F.keep
theorem fB.big(ok:fB Z n c) (F:Fr c.h₀ c.L hp m):1<hp.objs.size:=by
 obtain⟨mc,h,-⟩:=ok.T.nodigits;refine lX h λO O O ho O=>?_
 exact Nat.lt_trans (by decide) (Heap.lt_size (F.keep cStatics _ ho))
theorem cj.fresh(S:cj Z c G m env h hp):hp.objs.size∉G.news.map (·.1):=News.fresh_ne S.nw
theorem cj.to(S:cj Z c G m env h hp) (sr:SR Z.w Z.N Z.P G' h') (k:Kp Ow.en G G') (F':Fr c.h₀ c.L cE m) (N':News c.h₀ c.L cE G'.news):cj Z c G' m env h' cE:=⟨sr,S.env.kp k,F',N'⟩
theorem cj.heap(S:cj Z c G m env h hp) (F':Fr c.h₀ c.L cE m) (N':News c.h₀ c.L cE G.news):cj Z c G m env h cE:=⟨S.sr,S.env,F',N'⟩
theorem cj.keeps(S:cj Z c G m env h hp) (k:∀ b o,hp.get? b=some o->cE.get? b=some o):cj Z c G m env h cE :=
 S.heap (S.fr.keeps k) λp q=>⟨k _ _ (S.nw p q).1,(S.nw p q).2⟩
theorem cj.add(ok:fB Z n c) (S:cj Z c G m env h hp) {o:Obj}{u:Ow}(F':Fr c.h₀ c.L cE m) (N':News c.h₀ c.L cE ((hp.objs.size,o)::G.news)):cj Z c (G.add hp.objs.size o u) m env h cE :=
 S.to (S.sr.add S.fresh (ok.big S.fr)) (Gh.bL S.fresh) F' N'
theorem At.tup(x:Ext X.c.bk X.a_ G) (f:X.fm m) (S:cj Z X.c G m env h hp) (l:L.P G) (r:R h) {xs:List V}{vs:List Value}(v:bM Z.N G xs vs) (k:xs.length<=4000) (F':Fr X.c.h₀ X.c.L cE m) (N':News X.c.h₀ X.c.L cE ((hp.objs.size,dN vs)::G.news)) :
  X.At env (.v Z.N (.tup xs) (.ref hp.objs.size) L) R (X.s cE tk) :=
 have e:Kp (Ow.ex X.c.bk) G (G.add hp.objs.size (dN vs) .ey):=Gh.bL S.fresh
 ⟨x.trans e,f,S.add X.ok F' N',⟨.mk (n:=0) Gh.e_ Gh.jK (v.length▸k) (v.ext e),L.st _ _ e l⟩,r⟩
theorem At.lst(x:Ext X.c.bk X.a_ G) (f:X.fm m) (S:cj Z X.c G m env h hp) (l:L.P G) (r:R h) {xs:List V}{vs:List Value}{j:Nat}(v:bM Z.N G xs vs) (k:xs.length<=4000) (F':Fr X.c.h₀ X.c.L cE m) (N':News X.c.h₀ X.c.L cE ((hp.objs.size,ax vs j)::G.news)) :
  X.At env (.v Z.N (.lst xs) (.ref hp.objs.size) L) R (X.s cE tk) :=
 have e:Kp (Ow.ex X.c.bk) G (G.add hp.objs.size (ax vs j) .ey):=Gh.bL S.fresh
 ⟨x.trans e,f,S.add X.ok F' N',⟨.mk Gh.e_ Gh.jK (v.length▸k) (v.ext e),L.st _ _ e l⟩,r⟩
theorem At.drop{v:V}{u:Value}(a:X.At env (.v Z.N v u L) R s):X.At env L R s:=a.rec λx f S l r=>⟨x,f,S,l.2,r⟩
theorem At.imp{L':Pn X.c.bk}{R':MH->Prop}(a:X.At env L R s) (k:∀ G h,L.P G->R h->L'.P G/\R' h):X.At env L' R' s:=a.rec λx f S l r=>⟨x,f,S,(k _ _ l r).1,(k _ _ l r).2⟩
end
end
theorem iz{name:Str}{e:DictEntry}{es:List DictEntry}{k:Str}{t:Tok}(hk:e.key=.str k t):getL name (e::es)=if k=name then some (some e.val) else getL name es:=by
 unfold getL;rw[List.find?_cons,show e.key.isStr name=(k==name) by rw[hk];rfl,List.any_cons,show e.refKey=false by unfold DictEntry.refKey;rw[hk]]
 by_cases h:k=name
 ·rw[aae h,aam.mpr h]
 ·rw[aaf h,beq_false_of_ne h];rfl
section
variable{Z:b_}{G:Gh}{fs:List (Nat×V)}{es:List DictEntry}{c k:Nat}{v:V}{u:Value}{t:Tok}{j:Int}{name:Str}
theorem FR.none(h:FR Z.N G fs es):(∀ q∈fs,Z.N.an q.1≠name)->getL name es=some none :=
 h.rec (λO=>rfl) λq O O ih hf=>(iz q).trans ((aaf (hf _ aad)).trans (ih λq hq=>hf q (aac _ hq)))
theorem FR.isSome(h:FR Z.N G fs es):(getL name es).isSome=true :=
 h.rec rfl λq O O ih=>by
  rw[iz q];split
  ·rfl
  ·exact ih
theorem FR.length{N:Nm}(h:FR N G fs es):fs.length=es.length:=h.rec rfl λO O O ih=>aab (·+1) ih
theorem uR:∀ {fs:List (Nat×V)},br k fs=some v->∃ q∈fs,q.1=k:=by
 intro fs;induction fs with
 |nil =>
  intro e;exact nn e
 |cons x_ fs ih =>
  intro e;obtain⟨i,x⟩:=x_;rw[fget_1]at e;split at e
  ·rename_i q;exact⟨_,aad,q⟩
  ·exact(ih e).imp λq h=>⟨aac _ h.1,h.2⟩
theorem FR.get(b:Base Z) (hk:Z.P.fld c k=true) (h:FR Z.N G fs es):(∀ q∈fs,Z.P.fld c q.1=true)->br k fs=some v->∃ u,getL (Z.N.an k) es=some (some u)/\VR Z.N G v u :=
 h.rec (λO e=>nn e) λ{p fs e es t} q w O ih hf e'=>by
  have e':(if p.1=k then some p.2 else br k fs)=some v:=e'
  rw[iz q];by_cases hj:p.1=k
  ·rw[aae hj]at e';clear ih;cases e';exact⟨e.val,aae (aab _ hj),w⟩
  ·rw[aaf hj]at e';rw[aaf λx=>hj (b.inj c _ k (hf _ aad) hk x)]
   exact ih (λq hq=>hf q (aac _ hq)) e'
theorem FR.put(b:Base Z) (hk:Z.P.fld c k=true) (hv:VR Z.N G v u) (h:FR Z.N G fs es):(∀ q∈fs,Z.P.fld c q.1=true)->FR Z.N G (dY k v fs) (putL (Z.N.an k) j (.str (Z.N.an k) t) u es) :=
 h.rec (λO=>.cons rfl hv .nil) λ{p fs e es t} q w r ih hf=>by
  unfold putL;rw[show e.key.isStr (Z.N.an k)=(Z.N.an p.1==Z.N.an k) by rw[q];rfl]
  show FR Z.N G (if p.1=k then (p.1,v)::fs else p::dY k v fs) _
  by_cases hj:p.1=k
  ·rw[aae hj,aae (aam.mpr (aab _ hj))];exact .cons q hv r
  ·rw[aaf hj,aaf λx=>hj (b.inj c _ k (hf _ aad) hk (aam.mp x))]
   exact .cons q w (ih λq hq=>hf q (aac _ hq))
theorem eD(k:Nat) (v:V):∀ fs:List (Nat×V),(dY k v fs).length<=fs.length+1:=by
 intro fs;induction fs with
 |nil =>
  exact aat _
 |cons x_ fs ih =>
  obtain⟨j,u⟩:=x_;rw[fput_1];split
  ·exact Nat.le_succ _
  ·exact Nat.succ_le_succ (ih)
theorem lh{Q:Nat->Prop}(hk:Q k):∀ {fs:List (Nat×V)},(∀ q∈fs,Q q.1)->∀ q∈dY k v fs,Q q.1:=by
 intro fs;induction fs with
 |nil =>
  intro _ q hq;exact aar.mp hq▸hk
 |cons x_ fs ih =>
  intro hf q hq;obtain⟨j,u⟩:=x_;rw[fput_1]at hq;split at hq
  ·rename_i e;exact(aau.mp hq).elim (λh=>h▸e▸hk) λh=>hf _ (aac _ h)
  ·exact(aau.mp hq).elim (λh=>h▸hf _ aad) λh=>ih (λq hq=>hf q (aac _ hq)) q h
theorem nW{j:Nat}:∀ {fs:List (Nat×V)},(j=k∨∃ u,br j fs=some u)->∃ u,br j (dY k v fs)=some u:=by
 intro fs;induction fs with
 |nil =>
  intro h;exact⟨v,h.elim (λe=>aae e.symm) λ⟨_,e⟩=>nn e⟩
 |cons x_ fs ih =>
  intro h;obtain⟨i,x⟩:=x_;have h:j=k∨∃ u,(if i=j then some x else br j fs)=some u:=h
  show ∃ u,br j (if i=k then (i,v)::fs else (i,x)::dY k v fs)=some u
  by_cases hj:i=j
  ·split
   ·exact⟨v,aae hj⟩
   ·exact⟨x,aae hj⟩
  ·rw[aaf hj]at h;by_cases hi:i=k
   ·rw[aae hi];exact h.elim (λe=>absurd (hi.trans e.symm) hj) λ⟨u,e⟩=>⟨u,(aaf hj).trans e⟩
   ·rw[aaf hi];exact(ih h).imp λu e=>(aaf hj).trans e
theorem fu.put{u:Nat}:fu (.inst c fs) (.inst c (dY k v fs)):=⟨_,rfl,λO w h=>nW (.inr ⟨w,h⟩)⟩
end
theorem mi{N:Nm}{G:Gh}{v:V}{u:Value}(h:VR N G v u):handedIn u=true:=by
 cases v with
 |none=>rw[show u=.none from h];rfl
 |bool b=>rw[show u=.bool b from h];rfl
 |int i=>exact h.elim λt e=>e▸rfl
 |str s=>exact h.elim λt e=>e▸rfl
 |tup xs=>exact h.rec λO O O O=>rfl
 |lst xs=>exact h.rec λO O O O=>rfl
 |ref a=>exact h.elim λt e=>e.1▸rfl
 |tab n=>rw[show u=.ref _ from h.1];rfl
inductive Un(Z:b_) (G:Gh) (h:MH) (a:Ad) (r:Addr) (c:Nat) (fs:List (Nat×V)):Prop where
 |mk {dx:Addr}{es:List DictEntry}{n:Nat}(e:h.get a=some (.inst c fs)) (s:G.σ a=some r) (m:(r,instObj (Z.N.cA c) dx)∈G.news) (g:G.g r=.main a) (md:(dx,dictOf es n)∈G.news) (gd:G.g dx=.dW a) (f:FR Z.N G fs es) (k:∀ p∈fs,Z.P.fld c p.1=true) (l:fs.length<=500):Un Z G h a r c fs
inductive Uo(Z:b_) (G:Gh) (h:MH) (a:Ad) (r:Addr) (xs:List V):Prop where
 |mk {vs:List Value}{n:Nat}(e:h.get a=some (.list xs)) (s:G.σ a=some r) (m:(r,ax vs n)∈G.news) (g:G.g r=.main a) (f:bM Z.N G xs vs) (l:xs.length<=4000):Uo Z G h a r xs
inductive Up(Z:b_) (G:Gh) (h:MH) (a:Ad) (r:Addr) (kvs:List (V×V)):Prop where
 |mk {es:List DictEntry}{n:Nat}(e:h.get a=some (.dict kvs)) (s:G.σ a=some r) (m:(r,dictOf es n)∈G.news) (g:G.g r=.main a) (f:DR Z.w Z.N G kvs es) (l:kvs.length<=4000) (nd:(kvs.map (·.1)).Nodup):Up Z G h a r kvs
section
variable{Z:b_}{G:Gh}{h:MH}{a:Ad}{r:Addr}
theorem SR.inst(S:SR Z.w Z.N Z.P G h) {c:Nat}{fs:List (Nat×V)}(s:G.σ a=some r) (e:h.get a=some (.inst c fs)):Un Z G h a r c fs:=by
 cases S.at s e with | inst m g md gd f k l=>exact⟨e,s,m,g,md,gd,f,k,l⟩
theorem SR.list(S:SR Z.w Z.N Z.P G h) {xs:List V}(s:G.σ a=some r) (e:h.get a=some (.list xs)):Uo Z G h a r xs:=by
 cases S.at s e with | list m g f l=>exact⟨e,s,m,g,f,l⟩
theorem SR.dict(S:SR Z.w Z.N Z.P G h) {kvs:List (V×V)}(s:G.σ a=some r) (e:h.get a=some (.dict kvs)):Up Z G h a r kvs:=by
 cases S.at s e with | dict m g f l nd=>exact⟨e,s,m,g,f,l,nd⟩
end
theorem iA{o:aP}{f:Nat->List (Nat×V)->Option MH}{h':MH}(e:l9 o f=some h'):∃ c fs,o=.inst c fs/\f c fs=some h':=by
 cases o with
 |inst c fs=>exact⟨c,fs,rfl,e⟩
 |_=>exact nn e
theorem gc{o:aP}{f:List V->Option MH}{h':MH}(e:l_ o f=some h'):∃ xs,o=.list xs/\f xs=some h':=by
 cases o with
 |list xs=>exact⟨xs,rfl,e⟩
 |_=>exact nn e
theorem eE{N:Nm}{G:Gh}{h h':MH}{o:V}{u:Value}{f:Ad->aP->Option MH}(v:VR N G o u) (e:gB h o f=some h'):∃ a r mo,o=.ref a/\u=.ref r/\G.σ a=some r/\h.get a=some mo/\f a mo=some h':=by
 cases o with
 |ref a=>exact v.elim λr q=>(aap.mp e).elim λmo p=>⟨a,r,mo,rfl,q.1,q.2,p.1,p.2⟩
 |_=>exact nn e
theorem gd{α:Type}{p:Prop} [Decidable p] {x:Option α}{y:α}(e:(if p then x else none)=some y):p/\x=some y:=by
 by_cases h:p
 ·exact⟨h,(aae h).symm.trans e⟩
 ·exact nn ((aaf h).symm.trans e)
section
variable{Z:b_}{n:Nat}{F:Fm}{X:EC Z n F}{env:En}{L:Pn X.c.bk}{R:MH->Prop}{s:Shared}{E:Value->Shared->Prop}{o v:V}{ov u:Value}{k:Nat}
theorem pM{h:MH}{o v:V}{k:Nat}(e:Mine.Internal.getAttr h o k=some v):∃ a c fs,o=.ref a/\h.get a=some (.inst c fs)/\br k fs=some v:=by
 cases o with
 |ref a =>
  cases g:h.get a with
  |none=>exact nn ((aab (jE k) g).symm.trans e)
  |some mo =>
   have e:jE k (some mo)=some v:=(aab (jE k) g).symm.trans e;cases mo with
   |inst c fs=>exact⟨a,c,fs,rfl,g,e⟩
   |_=>exact nn e
 |_=>exact nn e
theorem At.attr{K:V->T}{b:Bool}{Q:Value->Shared->Prop}(a:X.At env (.v Z.N o ov L) (X.R (.get (λh=>Mine.Internal.getAttr h o k) K)) s) (q:∀ v u s,X.At env (.v Z.N v u L) (X.R (K v)) s->Q u s):X.wp (PySem.getAttr ov (Z.N.an k) b) Q E s:=by
 refine a.rec λx f S l r=>?_
 clear a;refine az (eA r) λv e r'=>?_
 clear r;obtain⟨a,c,fs,rfl,g,e⟩:=pM e;obtain⟨⟨jM,rfl,hr⟩,l⟩:=l;cases S.sr.inst hr g with | mk _ _ m _ md _ fr kk _ =>
 obtain⟨q',hq,rfl⟩:=uR e;have hk:=kk q' hq;have fo:=X.b.fld _ _ hk;refine az (fr.get X.b hk kk e) λu hu hv=>?_
 exact get_own S.fr X.ok.X (W.InstAt.of_news S.nw m md) fo.pg fo.hd fo.fi rfl hu (mi hv) (q _ _ _ ⟨x,f,S,⟨hv,l⟩,r'⟩)
theorem Ow.KQ{L:Addr}:∀ {u:Ow},Ow.ex L u->Ow.e0 u
 |.main _,h=>h
 |.dW _,h=>h
 |.ey,_=>trivial
 |.fy,_=>trivial
 |.it,_=>trivial
 |.bH _ _,_=>trivial
theorem Kp.ex{G G':Gh}{L:Addr}(x:Kp Ow.e0 G G'):Ext L G G':=x.weak λO=>Ow.KQ
theorem Ow.ll:∀ {u:Ow},Ow.en u->Ow.e0 u
 |.main _,h=>h
 |.dW _,h=>h
 |.ey,_=>trivial
 |.fy,_=>trivial
 |.it,h=>h.elim
 |.bH _ _,_=>trivial
theorem Gh.fc{G:Gh}{d:Addr}{ob:Obj}{T:Ow->Prop}(hd:¬ T (G.g d)):Kp T G (G.upd d ob):=⟨λO O h=>h,λp hp hc=>⟨aR hp λe=>hd (e▸hc),rfl⟩⟩
theorem Gh.rA{G:Gh}{d:Addr}{ob:Obj}(l:∀ a∈G.news.map (·.1),1<a):∀ a∈(G.upd d ob).news.map (·.1),1<a:=λa ha=>l a (fN d ob G.news▸ha)
theorem cj.mut{c:Cx}{G:Gh}{m:Str->Option Value}{h:MH}{hp cE:Heap}{a:Ad}{r d:Addr}{o o':aP}{ob:Obj}(S:cj Z c G m env h hp) (e:h.get a=some o) (s:G.σ a=some r) (g:fu o o') (hd:G.g d=.main a∨G.g d=.dW a) (hm:bK G (G.upd d ob)->MO Z.w Z.N Z.P (G.upd d ob) a r o')
  (F':Fr c.h₀ c.L cE m) (N':News c.h₀ c.L cE (G.upd d ob).news):Kp Ow.e0 G (G.upd d ob)/\cj Z c (G.upd d ob) m env (h.set a o') cE:=by
 have e0:Kp Ow.e0 G (G.upd d ob):=Gh.fc λq=>hd.elim (λz=>by rw[z]at q;exact q) λz=>by rw[z]at q;exact q
 have vm:=e0.v trivial;exact⟨e0,S.to (S.sr.set e s g ((fN _ _ _).symm▸S.sr.nodup) (Gh.rA S.sr.low) rfl vm (λp hp h1 h2=>⟨aR hp λz=>hd.elim (λy=>h1 (z▸y)) λy=>h2 (z▸y),rfl⟩) (hm vm)) (e0.weak λO=>Ow.ll) F' N'⟩
theorem At.setAttr{K:T}{Q:Unit->Shared->Prop}(a:X.At env (.v Z.N o ov (.v Z.N v u L)) (X.R (fx (λh=>Mine.Internal.setAttr Z.P h o k v) K)) s) (q:∀ s,X.At env L (X.R K) s->Q () s):X.wp (PySem.setAttr ov (Z.N.an k) u) Q E s:=by
 refine a.rec λx f S l r=>?_
 clear a;refine az (iR r) λh' e r=>?_
 obtain⟨a,jM,mo,rfl,rfl,hr,hg,e⟩:=eE l.1 e;obtain⟨c,fs,rfl,e⟩:=iA e;refine cJ (gd e) λhk e=>?_
 cases e;cases S.sr.inst hr hg with | mk _ _ m g md CJ fr kk _ =>
 have fo:=X.b.fld _ _ hk.1;refine set_dict S.fr X.ok.X S.nw (W.InstAt.of_news S.nw m md) rfl fo.sa fo.po fo.tk fo.hd fr.isSome (es':=_) (n':=_) rfl (dR S.sr.nodup md) ?_ λh' F' N'=>?_
 ·exact(fr.put X.b hk.1 l.2.1 kk).length▸aaj (eD _ _ _) (aaj hk.2 (by decide))
 ·have hd:jM≠_:=λz=>nomatch (z▸g).symm.trans CJ
  refine cJ (S.mut hg hr (.put (u:=0)) (.inr CJ) (λvm=>.inst (aR m hd) g (aD md) CJ (((fr.put X.b hk.1 l.2.1 kk)).aI vm) (lh (Q:=λj=>Z.P.fld c j=true) hk.1 kk) (aaj (eD _ _ _) hk.2)) F' N') λe0 S'=>?_
  exact q _ ⟨x.trans e0.ex,f,S',L.st _ _ e0.ex l.2.2,r⟩
end
inductive OV(N:Nm) (G:Gh):Option V->Option Value->Prop where
 |some {v:V}{u:Value}(r:VR N G v u):OV N G (.some v) (.some u)
 |none:OV N G .none .none
theorem OV.isSome{N:Nm}{G:Gh}{r:Option V}{o:Option Value}(h:OV N G r o):o.isSome=r.isSome:=h.rec (λO=>rfl) rfl
theorem mj{k:V}:∀ {es:List (V×V)},k∉es.map (·.1)->es.findIdx? (λp=>aC p.1 k)=none:=by
 intro es;induction es with
 |nil =>
  intro _;exact rfl
 |cons x_ es ih =>
  intro h;obtain⟨y,v⟩:=x_;rw[List.findIdx?_cons,f_,aaA (p:=y=k) λe=>h (e▸aad),ih λq=>h (aac _ q)];rfl
theorem hJ{k:V}:∀ {es:List (V×V)}{i:Nat},(es.map (·.1)).Nodup->(es.map (·.1))[i]? =some k->es.findIdx? (λp=>aC p.1 k)=some i
 |[],_,_,e=>nn e
 |(y,v)::es,0,_,e=>by
  rw[List.findIdx?_cons,show y=k from aah e,fb];rfl
 |(y,v)::es,i+1,n,e=>by
  have n:(y::es.map (·.1)).Nodup:=n;rw[aaU]at n;rw[List.findIdx?_cons,f_,aaA (p:=y=k) λq=>n.1 (q▸List.mem_of_getElem? (show(es.map (·.1))[i]? =some k from e)),hJ n.2 e];rfl
section
variable{prog:Program}{w:World}{N:Nm}{A:Around}{E:Value->Shared->Prop}{s:Shared}{G:Gh}{h₀ hp:Heap}{L:Addr}{kvs:List (V×V)}{es:List DictEntry}{k v:V}{u x:Value}
theorem DR.length(D:DR w N G kvs es):kvs.length=es.length:=D.rec rfl λO O O O O ih=>aab (·+1) ih
theorem DR.get(D:DR w N G kvs es):∀ {i:Nat}{p:V×V},kvs[i]? =some p->∃ e,es[i]? =some e/\VR N G p.2 e.val :=
 D.rec (motive:=λkvs es O=>∀ {i:Nat}{p:V×V},kvs[i]? =some p->∃ e,es[i]? =some e/\VR N G p.2 e.val) (λe=>nn e) λ{O O e O} O O O b O ih i O q=>match i,q with
  |0,q=>⟨e,rfl,aah q▸b⟩
  |_+1,q=>ih q
theorem DR.append{us:List (V×V)}{fs:List DictEntry}(D:DR w N G kvs es) (D':DR w N G us fs):DR w N G (kvs++us) (es++fs):=D.rec D' λh q a b O ih=>.cons h q a b ih
theorem DR.modify(hv:VR N G v u) (D:DR w N G kvs es):∀ i,DR w N G (kvs.modify i λp=>(p.1,v)) (es.modify i λe=>{ e with val:=u }) :=
 D.rec (λi=>match i with
  |0=>.nil
  |_+1=>.nil) λh q a b r ih i=>match i with
  |0=>.cons h q a hv r
  |_+1=>.cons h q a b (ih _)
theorem DR.mem(D:DR w N G kvs es):∀ e∈es,∃ y∈kvs.map (·.1),VR N G y e.key/\e.hash=hashW w.params (ud y) :=
 D.rec (λO h=>nomatch h) λh q a b r ih e he=>(aau.mp he).elim (λz=>⟨_,aad,z▸a,z▸h⟩) λz=>(ih e z).imp λO h=>⟨aac _ h.1,h.2⟩
theorem DR.idx{f:DictEntry->Bool}(D:DR w N G kvs es):(∀ y∈kvs.map (·.1),∀ e:DictEntry,VR N G y e.key->f e=aC y k)->es.findIdx? f=kvs.findIdx? λp=>aC p.1 k :=
 D.rec (λO=>rfl) λh q a b r ih H=>by rw[List.findIdx?_cons,List.findIdx?_cons,H _ aad _ a,ih λy hy=>H y (aac _ hy)]
theorem VR.hr(Nw:News h₀ L hp G.news) {n:Nat}(h:hb n k=true) (r:VR N G k u):HR hp k u:=r.reads Nw (iP h)
theorem VR.ED{xs:List V}(r:VR N G (.tup xs) u):∃ a,u=.ref a:=r.rec λ{a} O O O O O O=>⟨a,rfl⟩
theorem DR.Qd(Nw:News h₀ L hp G.news) (D:DR w N G kvs es):(∀ y∈kvs.map (·.1),∃ ys,y=.tup ys) ->
  ∃ xs:List (V×Addr×Value),es=xs.map (entryOfKey (tk prog w))/\xs.map (·.1)=kvs.map (·.1)/\∀ x∈xs,(tk prog w).is hp x.1 x.2.1 :=
 D.rec (λO=>⟨[],rfl,rfl,λO h=>(nomatch h)⟩) λ{p fs e es} h q a b r ih H=>by
  refine cR (ih λy hy=>H y (aac _ hy)) λxs i1 i2 i3=>?_
  refine gJ (H _ aad) λys hy=>?_
  have hy:p.1=.tup ys:=hy;have zL:hb 6 p.1=true:=by rw[hy]at q⊢;exact q
  refine gJ ((hy▸a:VR N G (.tup ys) e.key).ED) λc hc=>?_
  refine⟨(p.1,c,e.val)::xs,?_,aab (p.1::·) i2,λx hx=>(aau.mp hx).elim (λz=>z▸⟨zL,hc▸a.hr Nw zL⟩) (i3 x)⟩
  rw[List.map_cons,<- i1];obtain⟨eh,ek,ev⟩:=e;cases hc;cases h;rfl
inductive Qe(k:V):Prop where
 |int (i:Int) (e:k=.int i)
 |str (x:Str) (e:k=.str x)
 |tup (xs:List V) (e:k=.tup xs) (h:hb 6 k=true)
theorem uS(h:eL k=true):Qe k:=by
 cases k with
 |int i=>exact .int i rfl
 |str x=>exact .str x rfl
 |tup xs=>exact .tup xs rfl h
 |_=>exact ff h
theorem EE{y:V}(h:kk y=0):∃ j,y=.int j:=by
 cases y<;>first | exact⟨_,rfl⟩ | cases h
theorem EF{y:V}(h:kk y=1):∃ j,y=.str j:=by
 cases y<;>first | exact⟨_,rfl⟩ | cases h
theorem EG{y:V}(h:kk y=2):∃ j,y=.tup j:=by
 cases y<;>first | exact⟨_,rfl⟩ | cases h
theorem KR{x:V}(h:(kvs.all λp=>kk p.1==kk x)=true):∀ y∈kvs.map (·.1),kk y=kk x:=λy hy=>(aaG.mp hy).elim λp q=>q.2▸aam.mp (aa0.mp h p q.1)
theorem jN(Nw:News h₀ L s.heap G.news) (hu:A.units+20<9900) {d:Addr}{n:Nat}{o:Obj}(ho:s.heap.get? d=some o) (hd:o.data=.dict es.toArray n) (D:DR w N G kvs es) (hn:kk k=2->(kvs.map (·.1)).Nodup)
  (hk:eL k=true) (ku:VR N G k u) (zM:(kvs.all λp=>kk p.1==kk k)=true) {Q:Option Nat->Shared->Prop}(hQ:Q (kvs.findIdx? λp=>aC p.1 k) s) :
  wpAny (model prog w) A (dictFind d u (hashW w.params (ud k))) Q E s:=by
 have zM:=KR zM;cases uS hk with
 |int i e =>
  clear hn;subst e;obtain⟨t,rfl⟩:=ku;have kd:∀ y∈kvs.map (·.1),∃ j,y=.int j:=λy hy=>EE (zM y hy)
  rw[show hashW w.params (ud (.int i))=(PySem.intKind prog w).hash i from hashW_int _ _]
  refine wpAny_dictFind_of (knd:=intKind prog w) (k:=i) (aam.mpr rfl) ho hd (λe he=>?_) ?_
  ·refine cR (D.mem e (List.mem_toArray.mp he)) λy hy a b=>?_
   obtain⟨j,rfl⟩:=kd y hy;refine gJ a λt a=>?_
   exact⟨j,by rw[a];exact aam.mpr rfl,b.trans (hashW_int _ _)⟩
  ·rw[List.findIdx?_toArray,D.idx (k:=.int i) λy hy e a=>?_]
   ·exact hQ
   ·obtain⟨j,rfl⟩:=kd y hy;refine gJ a λt a=>?_
    rw[a];rfl
 |str z e =>
  clear hn;subst e;obtain⟨t,rfl⟩:=ku;have kd:∀ y∈kvs.map (·.1),∃ j,y=.str j:=λy hy=>EF (zM y hy)
  rw[show hashW w.params (ud (.str z))=(PySem.strKind prog w).hash z from rfl]
  refine wpAny_dictFind_of (knd:=strKind prog w) (k:=z) (aaq rfl) ho hd (λe he=>?_) ?_
  ·refine cR (D.mem e (List.mem_toArray.mp he)) λy hy a b=>?_
   obtain⟨j,rfl⟩:=kd y hy;refine gJ a λt a=>?_
   exact⟨j,by rw[a];exact aaq rfl,b⟩
  ·rw[List.findIdx?_toArray,D.idx (k:=.str z) λy hy e a=>?_]
   ·exact hQ
   ·obtain⟨j,rfl⟩:=kd y hy;refine gJ a λt a=>?_
    rw[a];rfl
 |tup ys e zL =>
  obtain⟨q,rfl⟩:=(e▸ku:VR N G (.tup ys) u).ED;refine cR (D.Qd (prog:=prog) Nw λy hy=>EG ((zM y hy).trans (aab kk e))) λxs i1 i2 i3=>?_
  refine wpAny_dictFind_heap (knd:=tk prog w) (k:=k) hu ⟨zL,ku.hr Nw zL⟩ ho hd (List.toList_toArray.trans i1) i3 (i2▸hn (aab kk e)) (λWe=>?_) λj p hj=>?_
  ·rw[mj λhm=>?_]at hQ
   ·exact hQ
   ·refine az (aaG.mp (i2▸hm)) λx hx e=>?_
    refine gJ (List.mem_iff_getElem?.mp hx) λj hj=>?_
    exact We j x.2 (by rw[hj,<- e])
  ·have h:(xs.map (·.1))[j]? =some k:=by rw[List.getElem?_map,hj];rfl
   rw[hJ (hn (aab kk e)) (i2▸h)]at hQ;exact hQ
theorem nX(Nw:News h₀ L s.heap G.news) (hu:A.units+20<9900) (hk:eL k=true) (ku:VR N G k u) {Q:Int->Shared->Prop}(hQ:∀ tk,Q (hashW w.params (ud k)) { s with toks:=tk }) :
  wpAny (model prog w) A (pyHash u) Q E s:=by
 cases uS hk with
 |int i e=>subst e;obtain⟨t,rfl⟩:=ku;exact wpAny_pyHash_int (hashW_int w.params i▸hQ _)
 |str x e=>subst e;obtain⟨t,rfl⟩:=ku;exact wpAny_pyHash_str (hQ _)
 |tup xs e h=>exact lg h (ku.hr Nw h) (aak (aaE (by decide:6<=20) _) hu) (hQ _)
theorem uT:∀ {es:List (V×V)},(es.find? λp=>aC p.1 k).map (·.2)=(es.findIdx? λp=>aC p.1 k).bind λi=>es[i]?.map (·.2):=by
 intro es;induction es with
 |nil =>
  exact rfl
 |cons p es ih =>
  rw[List.find?_cons,List.findIdx?_cons];cases aC p.1 k with
  |true=>rfl
  |false =>
   show(es.find? _).map _=((es.findIdx? _).map _).bind _;rw[ih];cases es.findIdx? λp=>aC p.1 k<;>rfl
theorem lr{r:Option V}(h:aF k kvs=some r):(kvs.all λp=>kk p.1==kk k)=true/\r=(kvs.findIdx? λp=>aC p.1 k).bind λi=>kvs[i]?.map (·.2) :=
 (gd h).imp id λe=>(aah e).symm.trans uT
def EH(prog:Program) (w:World) (A:Around) (s:Shared) (d:Addr) (u:Value) (R:Option Value->Prop):Prop :=
 ∀ (E:Value->Shared->Prop) (Q:Option Value->Shared->Prop),(∀ ov tk,R ov->Q ov { s with toks:=tk })->wpAny (model prog w) A (dictGet d u) Q E s
theorem uU(Nw:News h₀ L s.heap G.news) (hu:A.units+20<9900) {d:Addr}{n:Nat}{o:Obj}(ho:s.heap.get? d=some o) (hd:o.data=.dict es.toArray n) (D:DR w N G kvs es) (hn:kk k=2->(kvs.map (·.1)).Nodup)
  {r:Option V}(hk:eL k=true) (ku:VR N G k u) (e:aF k kvs=some r):EH prog w A s d u (OV N G r):=λE Q hQ=>by
 obtain⟨zM,rfl⟩:=lr e;unfold dictGet
 try with_reducible refine wpAny_holding ?_
 refine aal (nX Nw hu hk ku λtk=>aal (jN (s:={ s with toks:=tk }) Nw hu ho hd D hn hk ku zM ?_))
 cases q:kvs.findIdx? (λp=>aC p.1 k) with
 |none=>exact aaH (hQ none tk (q▸.none))
 |some i =>
  refine aal (wpAny_dictEntries (s:={ s with toks:=tk }) ho hd ?_)
  have hi:i<kvs.length:=(List.findIdx?_eq_some_iff_getElem.mp q).1;obtain⟨e',h1,h2⟩:=D.get (aao hi);rw[List.getElem?_toArray,h1];refine aaH (hQ (some e'.val) tk ?_);rw[q,Option.bind_some,aao hi];exact .some h2
theorem uV:∀ {es:List (V×V)},cz k v es=match es.findIdx? (λp=>aC p.1 k) with | some i=>es.modify i (λp=>(p.1,v)) | none=>es++[(k,v)]:=by
 intro es;induction es with
 |nil =>
  exact rfl
 |cons x_ es ih =>
  obtain⟨y,u⟩:=x_;rw[List.findIdx?_cons];show(if aC y k=true then (y,v)::es else (y,u)::cz k v es)=_
  cases q:aC y k with
  |true=>rfl
  |false =>
   rw[ih];cases es.findIdx? λp=>aC p.1 k<;>rfl
theorem sM:∀ {es:List (V×V)},(es.map (·.1)).Nodup->((cz k v es).map (·.1)).Nodup/\∀ x∈(cz k v es).map (·.1),x=k∨x∈es.map (·.1):=by
 intro es;induction es with
 |nil =>
  intro _;exact⟨aaU.mpr ⟨List.not_mem_nil,.nil⟩,λx h=>.inl (aar.mp h)⟩
 |cons x_ es ih =>
  intro h;obtain⟨y,u⟩:=x_;have h:(y::es.map (·.1)).Nodup:=h;rw[kput_1];split
  ·exact⟨h,λx hx=>.inr hx⟩
  ·rename_i q;rw[aaU]at h;refine cJ (ih h.2) λa b=>?_
   exact⟨aaU.mpr ⟨λhm=>(b y hm).elim (λe=>q (e▸fb y)) h.1,a⟩,λx hx=>(aau.mp hx).elim (λe=>.inr (e▸aad)) λhx=>(b x hx).imp id (aac _)⟩
theorem nY:∀ {es:List (V×V)},(cz k v es).length<=es.length+1:=by
 intro es;induction es with
 |nil =>
  exact aat _
 |cons x_ es ih =>
  obtain⟨y,u⟩:=x_;rw[kput_1];split
  ·exact Nat.le_succ _
  ·exact Nat.succ_le_succ ih
theorem news_set{m:Str->Option Value}(F:Fr h₀ L hp m) (Nw:News h₀ L hp G.news) (pN:(G.news.map (·.1)).Nodup) {d:Addr}{o o':Obj}{f:Obj->Obj}(hd:(d,o)∈G.news) (hf:f o=o') (hk:o'.isFreed=false):Fr h₀ L (hp.update d f) m/\News h₀ L (hp.update d f) (G.upd d o').news:=by
 refine zD ((dR (o:=o) (o':=o') pN hd).split) λpre post e1 e2 a b=>?_
 rw[e1]at Nw;refine cJ (news_upd F Nw a b hf hk) λU1 U2=>?_
 exact⟨U1,by show News _ _ _ (G.news.map _);rw[e2];exact U2⟩
theorem ly{m:Str->Option Value}(F:Fr h₀ L s.heap m) (Nw:News h₀ L s.heap G.news) (pN:(G.news.map (·.1)).Nodup) (hu:A.units+20<9900) {d:Addr}{n:Nat}(hd:(d,dictOf es n)∈G.news) (D:DR w N G kvs es) (hn:(kvs.map (·.1)).Nodup) (hlen:kvs.length<=4000)
  {r:Option V}(hk:eL k=true) (ku:VR N G k u) (vx:VR N G v x) (e:aF k kvs=some r) {Q:Unit->Shared->Prop}
  (hQ:∀ es' n' h' tk,DR w N G (cz k v kvs) es'->Fr h₀ L h' m->News h₀ L h' (G.upd d (dictOf es' n')).news->Q () { s with heap:=h',toks:=tk }) :
  wpAny (model prog w) A (dictSet d u x) Q E s:=by
 obtain⟨zM,-⟩:=lr e;have ho:=(Nw _ hd).1;unfold dictSet
 try with_reducible refine wpAny_holding ?_
 refine aal (nX Nw hu hk ku λtk=>?_)
 unfold dictSetHashed
 try with_reducible refine wpAny_holding ?_
 refine aal (jN (s:={ s with toks:=tk }) Nw hu ho rfl D (λO=>hn) hk ku zM ?_)
 have kp:=uV (k:=k) (v:=v) (es:=kvs);cases q:kvs.findIdx? (λp=>aC p.1 k) with
 |none =>
  rw[q]at kp;refine cJ (news_set (o':=dictOf (es++[⟨hashW w.params (ud k),u,x⟩]) (n+1)) (f:=Obj.mapDictKeys (·.push ⟨hashW w.params (ud k),u,x⟩)) F Nw pN hd (aab (λa=>({ cls:=.type "dict",data:=.dict a (n+1) }:Obj)) (List.push_toArray ..)) rfl) λU1 U2=>?_
  exact aal (wpAny_rule (wpAny_updateDictKeys (s:={ s with toks:=tk }) ho rfl (hQ _ _ _ tk (kp▸D.append (.cons rfl hk ku vx .nil)) U1 U2) (by rw[aaT,sizeLine_eq,<- D.length];exact aaj hlen (by decide)) (by simp)))
 |some i =>
  rw[q]at kp;refine cJ (news_set (o':=dictOf (es.modify i λe=>{ e with val:=x }) n) (f:=Obj.mapDict (·.modify i λe=>{ e with val:=x })) F Nw pN hd (aab (λa=>({ cls:=.type "dict",data:=.dict a n }:Obj)) List.modify_toArray) rfl) λU1 U2=>?_
  exact aal (wpAny_rule (aal (wpAny_updateDict (s:={ s with toks:=tk }) ho rfl (wpAny_point (hQ _ _ _ tk (kp▸D.modify vx i) U1 U2)) (by simp))))
end
theorem aJ{hp:Heap}{a:Addr}{vs:List Value}{k:Nat}(h:hp.get? a=some (ax vs k)):hp.IsList a vs.toArray:=⟨_,h,rfl,k,rfl⟩
theorem eF{hp:Heap}{a:Addr}{vs:List Value}(h:hp.get? a=some (dN vs)):hp.IsTuple a vs.toArray:=⟨_,h,rfl,0,rfl⟩
theorem cB{hp:Heap}{a:Addr}{vs:List Value}(h:hp.get? a=some (dN vs)):IsTup hp a vs.toArray:=⟨_,h,rfl,0,rfl⟩
noncomputable def JB:V->Bool
 |.tup _=>true
 |_=>false
inductive zN(N:Nm) (G:Gh) (hp:Heap) (xs:List V):V->Value->Prop where
 |tup {a:Addr}{vs:List Value}(g:hp.get? a=some (dN vs)) (r:bM N G xs vs) (l:vs.length<=4000):zN N G hp xs (.tup xs) (.ref a)
 |lst {o:V}{a:Addr}{vs:List Value}{k:Nat}(t:JB o=false) (g:hp.get? a=some (ax vs k)) (r:bM N G xs vs) (l:vs.length<=4000):zN N G hp xs o (.ref a)
theorem zO{o:Option aP}{xs:List V}(e:l8 o=some xs):o=some (.list xs):=by
 cases o with
 |none=>exact nn e
 |some o=>cases o with
  |list ys=>exact aab _ (aab _ (aah e))
  |_=>exact nn e
inductive zP(prog:Program) (w:World) (A:Around) (s:Shared) (N:Nm) (G:Gh) (kv:Value) (r:Option V):Value->Prop where
 |mk {d:Addr}{o:Obj}(g:s.heap.get? d=some o) (c:o.cls=.type "dict") (i:o.dict=none) (m:(d==sysModules)=false) (q:EH prog w A s d kv (OV N G r)):zP prog w A s N G kv r (.ref d)
theorem rB{a:Addr}(h:1<a):(a==sysModules)=false:=beq_false_of_ne (Nat.ne_of_gt h)
section
variable{Z:b_}{n:Nat}{F:Fm}{X:EC Z n F}{c:Cx}{env:En}{L:Pn X.c.bk}{R:MH->Prop}{s:Shared}{E:Value->Shared->Prop}{o v:V}{ov u:Value}{k:Nat}{G:Gh}{m:Str->Option Value}{h:MH}{hp:Heap}{xs:List V}{A:Around}{tk:Nat}
theorem VR.jb{N:Nm}{xs:List V}{u:Value}(r:VR N G (.tup xs) u):Sq G Kz (bM N G xs) u:=r
theorem VR.pO{N:Nm}{xs:List V}{u:Value}(r:VR N G (.lst xs) u):Sq G ax (bM N G xs) u:=r
theorem cj.seq(S:cj Z c G m env h hp) (r:VR Z.N G o ov) (e:bW h o=some xs):zN Z.N G hp xs o ov:=by
 cases o with
 |tup ys=>cases e;exact r.jb.rec λm O l r=>.tup (S.nw _ m).1 r l
 |lst ys=>cases e;exact r.pO.rec λm O l r=>.lst rfl (S.nw _ m).1 r l
 |ref a=>exact r.elim λjM ⟨e',hr⟩=>e'▸(S.sr.list hr (zO e)).rec λO O m O f l=>.lst rfl (S.nw _ m).1 f (f.length▸l)
 |_=>exact nn e
theorem cj.lk(S:cj Z c G m env h hp) (hu:A.units+20<9900) {a:Ad}{r:Addr}{es:List (V×V)}{q:Option V}(hr:G.σ a=some r) (e:h.get a=some (.dict es)) (hk:eL v=true) (ku:VR Z.N G v u) (ek:aF v es=some q):zP Z.prog Z.w A { s with heap:=hp,toks:=tk } Z.N G u q (.ref r) :=
 (S.sr.dict hr e).rec λ{es n} O O m g f l nd=>.mk (S.nw _ m).1 rfl rfl (rB (S.sr.low _ (dD m))) (uU S.nw hu (S.nw _ m).1 rfl f (λO=>nd) hk ku ek)
theorem Ey.dr{w:World}{N:Nm}{D:List (Int×Int)}{es:List DictEntry}(t:Ey D es):DR w N G (D.map λp=>(.int p.1,.int p.2)) es :=
 t.rec .nil λa O ih=>a.rec λk v h=>.cons (h.trans (hashW_int _ _).symm) rfl ⟨_,k⟩ ⟨_,v⟩ ih
theorem uW{i:Int}{D:List (Int×Int)}:aF (.int i) (D.map λp=>(V.int p.1,V.int p.2))=some ((D.find? λp=>p.1==i).map λp=>.int p.2):=by
 unfold aF;rw[aae (aa0.mpr λp hp=>(aaG.mp hp).elim λq e=>e.2▸rfl),List.find?_map,Option.map_map]
 rfl
theorem EC.Qf(X:EC Z n F) (S:cj Z X.c G m env h hp) (hu:A.units+20<9900) {i:Int}{t:Tok}(hk:k<3):zP Z.prog Z.w A { s with heap:=hp,toks:=tk } Z.N G (.int i t) (((Z.P.tab k).find? λp=>p.1==i).map λp=>.int p.2) (.ref (Z.N.tA k)) :=
 (X.tabs S.fr hk).rec λl g c d t' i'=>.mk g c i' (rB l) (uU (k:=.int i) S.nw hu g d t'.dr (λq=>(nomatch q)) rfl ⟨t,rfl⟩ uW)
section
variable{prog:Program}{w:World}{N:Nm}{kv:Value}{r:Option V}
theorem iS(l:zP prog w A.in1 s N G kv r ov) {Q:Bool->Shared->Prop}(hQ:∀ tk,Q r.isSome { s with toks:=tk }):wpAny (model prog w) A (contains ov kv) Q E s:=by
 cases l with | @mk d o g c i m q =>
 have ht:s.TypeIs (.ref d) "dict" := ⟨o,g,c⟩;unfold contains
 try with_reducible refine wpAny_holding ?_
 refine aal (wpAny_specialOf ht F.slot_dict_contains.lookup ?_);show wpAny _ _ (if (some (Value.builtin "dict.__contains__")==some Value.none)=true then _ else _) _ E s
 rw[aaf (by rw[beq_builtin_none];exact Bool.false_ne_true)]
 refine aal (wpAny_callSpecialUnlessNone?_slot (name:=Str.ofString "__contains__") ht F.slot_dict_contains
  (wpAny_call_entry F.slot_dict_contains ht F.entry_dict_contains ?_ (F.args_dict_contains_2 _ _)))
 show wpAny _ _ (dictGet d kv >>= _) _ _ s;refine aal (q _ _ λov tk hR=>?_)
 have h:=hQ tk;rw[<- hR.isSome]at h;cases ov with
 |some p =>
  show wpAny _ _ (ret (.bool true)) _ _ _;exact aaH ⟨_,rfl,wpAny_truthy_bool h⟩
 |none =>
  show wpAny _ _ (Builtin.Dict.pendingKey? d kv >>= _) _ _ _;exact aal (wpAny_pendingKey_other m (aaH ⟨_,rfl,wpAny_truthy_bool h⟩))
theorem pP{x:V}(l:zP prog w A.in1 s N G kv (some x) ov) {Q:Value->Shared->Prop}(hQ:∀ v tk,VR N G x v->Q v { s with toks:=tk }):s.TypeIs ov "dict" /\ wpAny (model prog w) A (PySem.getItem ov kv) Q E s:=by
 cases l with | @mk d o g c i m q =>
 have ht:s.TypeIs (.ref d) "dict" := ⟨o,g,c⟩;refine⟨ht,?_⟩;unfold PySem.getItem
 try with_reducible refine wpAny_holding ?_
 refine aal (wpAny_sequenceKey ht (by decide) ?_)
 refine aal (wpAny_callSpecial?_slot (name:=Str.ofString "__getitem__") ht F.slot_dict_getitem
  (wpAny_call_entry F.slot_dict_getitem ht F.entry_dict_getitem ?_ (F.args_dict_getitem_2 _ _)))
 show wpAny _ _ (dictGet d kv >>= _) _ _ s;refine aal (q _ _ λov tk hR=>?_)
 cases hR with | some rv=>exact aaH ⟨_,rfl,aaH (hQ _ tk rv)⟩
theorem ml{d:Addr}{u x:Value}{Q:Unit->Shared->Prop}(ht:s.TypeIs (.ref d) "dict")
  (hg:∀ (E:Value->Shared->Prop) (Q':Unit->Shared->Prop),(∀ s',Q () s'->Q' () s')->wpAny (model prog w) A.in1 (dictSet d u x) Q' E s):wpAny (model prog w) A (PySem.setItem (.ref d) u x) Q E s:=by
 unfold PySem.setItem
 try with_reducible refine wpAny_holding ?_
 refine aal (wpAny_sequenceKey ht (by decide) ?_)
 refine aal (wpAny_callSpecial?_slot (name:=Str.ofString "__setitem__") ht F.slot_dict_setitem
  (wpAny_call_entry F.slot_dict_setitem ht F.entry_dict_setitem ?_ (F.args_dict_setitem_3 _ _ _)))
 show wpAny _ _ (Builtin.Dict.notOrdered "__setitem__" ⟨[.ref d,u,x],[]⟩ >>= _) _ _ s;refine aal (wpAny_notOrdered_dict ht ?_);show wpAny _ _ (dictSet d u x >>= _) _ _ s;exact aal (hg _ _ λs' h=>aaH ⟨.none,rfl,aaH h⟩)
theorem sN{d:Addr}{u dflt:Value}{R:Option Value->Prop}(hd:(d==sysModules)=false) :
  MeetsIn prog w (Builtin.«dict.get» ⟨[.ref d,u,dflt],[]⟩) (λA R s=>∃ Rv:Option Value->Prop,EH prog w A.in1 s d u Rv/\∀ ov tk,Rv ov->R (.ok (.ret (ov.getD dflt))) { s with toks:=tk }) :=
 .of_wp λA R s ⟨Rv,hg,h⟩=>by
  show wpAny _ _ (dictGet d u >>= _) _ _ s;refine aal (hg _ _ λov tk hR=>?_)
  cases ov with
  |some v=>exact aaH ⟨v,rfl,h _ tk hR⟩
  |none =>
   show wpAny _ _ (Builtin.Dict.missed d u >>= _) _ _ _;exact aal (wpAny_missed_other hd (aaH ⟨dflt,rfl,h _ tk hR⟩))
theorem EI{d:Addr}{dflt:Value}(l:zP prog w A.in1 s N G kv r (.ref d)) {Q:Value->Shared->Prop}(hQ:∀ ov tk,OV N G r ov->Q (ov.getD dflt) { s with toks:=tk }):wpAny (model prog w) A (call (.builtin "dict.get") [.ref d,kv,dflt]) Q E s:=by
 cases l with | mk g c i m q=>exact call_meetsIn F.slot_dict_get ⟨_,g,c⟩ F.entry_dict_get (F.args_dict_get_3 _ _ _) (sN (R:=OV N G r) m) ⟨_,q,hQ⟩
end
theorem toArray_empty{xs:List V}{vs:List Value}{N:Nm}(r:bM N G xs vs):vs.toArray.isEmpty=xs.isEmpty:=r.ind (C:=λxs vs=>vs.toArray.isEmpty=xs.isEmpty) rfl λO O O O O O O=>rfl
theorem fits{vs:List Value}(l:vs.length<=4000):(vs.toArray.size:Int)<2^63:=by rw[aaT];lia
theorem pQ(S:cj Z c G m env h hp) (r:VR Z.N G v u) {b:Bool}(e:truthy v=some b) {Q:Bool->Shared->Prop}(hQ:∀ tk,Q b { s with heap:=hp,toks:=tk }):wpAny (model Z.prog Z.w) A (PySem.truthy u) Q E { s with heap:=hp,toks:=tk }:=by
 cases v with
 |none=>cases e;rw[show u=.none from r];exact truthy_none (hQ _)
 |bool x=>cases e;rw[show u=.bool b from r];exact wpAny_truthy_bool (hQ _)
 |int i=>cases e;obtain⟨t,rfl⟩:=r;exact PySem.P.truthy_int (hQ _)
 |tup xs =>
  cases e;exact r.jb.rec λm O l r=>truthy_tuple (s:={ s with heap:=hp,toks:=tk }) (cB (S.nw _ m).1) (fits l) (by rw[toArray_empty r];exact hQ _)
 |lst xs =>
  cases e;exact r.pO.rec λm O l r=>wpAny_truthy_list (s:={ s with heap:=hp,toks:=tk }) (aJ (S.nw _ m).1) (fits l) (by rw[toArray_empty r];exact hQ _)
 |_=>exact nn e
theorem At.truthy{K:Bool->T}{Q:Bool->Shared->Prop}(a:X.At env (.v Z.N v u L) (X.R (.tst (λO=>Mine.Internal.truthy v) K)) s) (q:∀ b s,X.At env (.v Z.N v u L) (X.R (K b)) s->Q b s):X.wp (PySem.truthy u) Q E s :=
 a.rec λx f S l r=>(KP r).elim λ_ ⟨e,r⟩=>pQ S l.1 e λtk=>q _ _ ⟨x,f,S,l,r⟩
theorem Around.pR{A:Around}(hu:A.units+40<9900):A.in1.units+20<9900:=by show A.units+1+20<9900;exact aak (aaE (by decide:21<=40) _) hu
theorem EC.hu(X:EC Z n F):X.c.A.in1.units+20<9900:=Around.pR X.ok.hu
end
noncomputable def zr:Cm->CmpOp
 |.eq=>.Eq | .ne=>.NotEq | .lt=>.Lt | .le=>.LtE | .gt=>.Gt | .ge=>.GtE | .is=>.Is | .iM=>.IsNot | .mem=>.In | .gK=>.NotIn
noncomputable def JC:Op->Operator
 |.add=>.Add | .sub=>.Sub | .mul=>.Mult | .div=>.FloorDiv | .mod=>.Mod | .band=>.BitAnd | .bor=>.BitOr
section
variable{N:Nm}{G:Gh}{a b:V}{u v:Value}
theorem d5{f:Int->Option V}{r:V}(k:VR N G a u) (e:nO f a=some r):∃ i t,a=.int i/\u=.int i t/\f i=some r:=by
 cases a with
 |int i=>exact k.elim λt q=>⟨i,t,rfl,q,e⟩
 |_=>exact nn e
theorem mm{f:Int->Option Bool}{r:Bool}(k:VR N G a u) (e:zE f a=some r):∃ i t,a=.int i/\u=.int i t/\f i=some r:=by
 cases a with
 |int i=>exact k.elim λt q=>⟨i,t,rfl,q,e⟩
 |_=>exact nn e
theorem jj{f:Int->Int->Bool}{r:Bool}(k:VR N G a u) (k':VR N G b v) (e:uF f a b=some r):∃ i j t t',u=.int i t/\v=.int j t'/\f i j=r :=
 (mm k e).elim λi ⟨t,_,q,e⟩=>(mm k' e).elim λj ⟨t',_,q',e⟩=>⟨i,j,t,t',q,q',aah e⟩
theorem EJ{f:Int->Int->Option V}{r:V}(k:VR N G a u) (k':VR N G b v) (e:ops f a b=some r):∃ i j t t',u=.int i t/\v=.int j t'/\f i j=some r :=
 (d5 k e).elim λi ⟨t,_,q,e⟩=>(d5 k' e).elim λj ⟨t',_,q',e⟩=>⟨i,j,t,t',q,q',e⟩
inductive O'(N:Nm) (G:Gh) (a b:V) (u v:Value) (r:Bool):Prop where
 |str {x y:Str}{t t':Tok}(e:u=.str x t) (e':v=.str y t') (h:(x==y)=r):O' N G a b u v r
 |pl (h:pl a=true) (h':pl b=true) (e:aC a b=r):O' N G a b u v r
theorem uX{r:Bool}(k:VR N G a u) (k':VR N G b v) (e:O7 a b=some r):O' N G a b u v r:=by
 have d:∀ {a b},Km a b=some r->O' N G a b u v r:=λe=>.pl (gd e).1.1 (gd e).1.2 (aah (gd e).2)
 cases a with
 |str x=>cases b with
  |str y=>exact k.elim λt q=>k'.elim λt' q'=>.str q q' (aah e)
  |_=>exact nn e
 |_=>exact d e
inductive Qg(u:Value) (v:Value) (r:Bool):Prop where
 |n (e:u=.none) (e':v=.none) (h:r=true):Qg u v r
 |r {a:Addr}(e:u=.ref a) (e':v=.none) (h:r=false):Qg u v r
theorem uY{r:Bool}(k:VR N G a u) (k':VR N G b v) (e:P8 a b=some r):Qg u v r:=by
 cases b with
 |none=>cases a with
  |none=>cases e;exact .n k k' rfl
  |ref a=>cases e;exact k.elim λr q=>.r q.1 k' rfl
  |tup xs=>cases e;exact(VR.ED k).elim λr q=>.r q k' rfl
  |_=>exact nn e
 |_=>exact nn e
end
open Classical in
noncomputable def zQ(hp:Heap) (x:V) (v:Value):Bool:=decide (HR hp x v)
theorem rC{N:Nm}{G:Gh}{h₀:Heap}{L:Addr}{A:Around}{s:Shared}(Nw:News h₀ L s.heap G.news) (hu:A.units+20<9900) {x:V}{u:Value}(rx:VR N G x u) (hx:nK 8 x=true) {ys:List V}{vs:List Value}(rs:bM N G ys vs):jz 8 ys=true ->
  (∀ y∈vs,SeqAt.EqAt A s y u (zQ s.heap x y))/\vs.any (zQ s.heap x)=ys.any λy=>aC y x :=
 rs.ind (C:=λys vs=>jz 8 ys=true->(∀ y∈vs,SeqAt.EqAt A s y u (zQ s.heap x y))/\vs.any (zQ s.heap x)=ys.any λy=>aC y x) (λO=>⟨λO h=>(nomatch h),rfl⟩) λy v ys vs r rs ih hp=>by
  have hp:=aaC.mp hp;refine cJ (ih hp.2) λi1 i2=>?_
  have e:zQ s.heap x v=aC y x:=by
   rw[f_];refine decide_eq_decide.mpr ⟨λq=>q.elim λO q=>(r.reads Nw hp.1).elim λO q'=>uP hp.1 hx q' q,λq=>q▸r.reads Nw hp.1⟩
  refine⟨λz hz=>(aau.mp hz).elim (λq=>?_) (i1 z),by rw[List.any_cons,List.any_cons,e,i2]⟩
  subst q;rw[e];exact Et Nw hu r rx hp.1 hx (by decide)
inductive InK(Z:b_) (G:Gh) (A:Around) (s:Shared) (x:V) (u v:Value) (r:Bool):Prop where
 |sq {ys:List V}{o:V}(q:zN Z.N G s.heap ys o v) (e:iy x ys=some r):InK Z G A s x u v r
 |dc {q:Option V}(l:zP Z.prog Z.w A s Z.N G u q v) (e:q.isSome=r):InK Z G A s x u v r
section
variable{Z:b_}{n:Nat}{F:Fm}{X:EC Z n F}{env:En}{L:Pn X.c.bk}{s:Shared}{E:Value->Shared->Prop}{a b:V}{u v:Value}{G:Gh}{m:Str->Option Value}{h:MH}{hp:Heap}{tk:Nat}
theorem EC.mem(X:EC Z n F) (S:cj Z X.c G m env h hp) (ha:VR Z.N G a u) (hb:VR Z.N G b v) {r:Bool}(e:Ef h a b=some r):InK Z G X.c.A.in1 { s with heap:=hp,toks:=tk } a u v r:=by
 cases b with
 |tup ys=>exact .sq (S.seq hb rfl) e
 |lst ys=>exact .sq (S.seq hb rfl) e
 |ref d =>
  have e:zF a (h.get d)=some r:=e;cases q:h.get d with
  |none=>rw[q]at e;exact nn e
  |some o =>
   rw[q]at e;cases o with
   |inst _ _=>exact nn e
   |list ys=>exact .sq (S.seq hb (aab l8 q)) e
   |dict es =>
    refine cJ (gd e) λhk e=>?_
    refine az (aas.mp e) λr' e1 e2=>?_
    exact hb.elim λO hb=>.dc (hb.1▸S.lk X.hu hb.2 q hk ha e1) e2
 |_=>exact nn e
theorem EC.zG(X:EC Z n F) (S:cj Z X.c G m env h hp) (ha:VR Z.N G a u) (hb:VR Z.N G b v) {r:Bool}(e:Mine.Internal.zG Z.P h a b=some r):InK Z G X.c.A.in1 { s with heap:=hp,toks:=tk } a u v r:=by
 cases b with
 |tab k =>
  obtain⟨i,t,rfl,rfl,e⟩:=mm ha e;refine .dc (hb.1▸X.Qf S X.hu hb.2) ?_;rw[Option.isSome_map];exact(Bool.eq_iff_iff.mpr (List.find?_isSome.trans List.any_eq_true.symm)).trans (aah e)
 |_=>exact X.mem S ha hb e
theorem InK.ok{A:Around}{x:V}{r:Bool}(k:InK Z G A.in1 { s with heap:=hp,toks:=tk } x u v r) {h₀:Heap}{L:Addr}(Nw:News h₀ L hp G.news) (hu:A.units+40<9900) (rx:VR Z.N G x u) {Q:Value->Shared->Prop} :
  ((∀ tk,Q (.bool r) { s with heap:=hp,toks:=tk })->wpAny (model Z.prog Z.w) A (compareOp .In u v) Q E { s with heap:=hp,toks:=tk })/\((∀ tk,Q (.bool (!r)) { s with heap:=hp,toks:=tk })->wpAny (model Z.prog Z.w) A (compareOp .NotIn u v) Q E { s with heap:=hp,toks:=tk }) :=
 k.rec (λq e=>by
  refine cJ (gd e) λhc e=>?_
  clear k;cases e;cases q with
  |tup g rs l =>
   refine cJ (rC (s:={ s with heap:=hp,toks:=tk }) Nw (Around.pR hu) rx hc.1 rs hc.2) λi1 i2=>?_
   exact⟨λhQ=>SeqAt.in_tupleAt (zQ hp x) (eF g) (λy hy=>i1 y (List.mem_toArray.mp hy)) (by rw[List.any_toArray,i2];exact hQ _),λhQ=>SeqAt.notIn_tupleAt (zQ hp x) (eF g) (λy hy=>i1 y (List.mem_toArray.mp hy)) (by rw[List.any_toArray,i2];exact hQ _)⟩
  |lst t g rs l =>
   refine cJ (rC (s:={ s with heap:=hp,toks:=tk }) Nw (Around.pR hu) rx hc.1 rs hc.2) λi1 i2=>?_
   exact⟨λhQ=>SeqAt.in_listAt (zQ hp x) (aJ g) (λy hy=>i1 y (List.mem_toArray.mp hy)) (by rw[List.any_toArray,i2];exact hQ _),λhQ=>SeqAt.notIn_listAt (zQ hp x) (aJ g) (λy hy=>i1 y (List.mem_toArray.mp hy)) (by rw[List.any_toArray,i2];exact hQ _)⟩)
  λl e=>⟨λhQ=>by
   show wpAny _ _ (do return .bool (<- contains v u)) Q E _;exact aal (iS l λtk=>aaH (e▸hQ tk)),λhQ=>by
   show wpAny _ _ (do return .bool (!(<- contains v u))) Q E _;exact aal (iS l λtk=>aaH (e▸hQ tk))⟩
theorem EC.cmp(X:EC Z n F) (S:cj Z X.c G m env h hp) (ha:VR Z.N G a u) (hb:VR Z.N G b v) {op:Cm}{r:Bool}(e:a8 Z.P h op a b=some r) {Q:Value->Shared->Prop}(hQ:∀ tk,Q (.bool r) { s with heap:=hp,toks:=tk }):X.wp (compareOp (zr op) u v) Q E { s with heap:=hp,toks:=tk }:=by
 have hu:X.c.A.units+20<9900:=by have:=X.ok.hu;exact Ue this
 cases op with
 |eq =>
  cases uX ha hb e with
  |str q q' h=>subst q q';exact eq_str (h▸hQ _)
  |pl h h' e'=>exact(ha.reads S.nw h).elim λO ra=>(hb.reads S.nw h').elim λO rb=>SeqAt.compareEq_reads ra rb (eN h) (eN h') (ji h (by decide) hu) (by rw[jL h h',e'];exact hQ _)
 |ne =>
  obtain⟨q,e',rfl⟩:=aas.mp e;cases uX ha hb e' with
  |str q q' h=>subst q q';exact PySem.P.ne_str (by rw[bne,toList_beq,h];exact hQ _)
  |pl h h' e2=>exact(ha.reads S.nw h).elim λO ra=>(hb.reads S.nw h').elim λO rb=>SeqAt.compareNe_reads ra rb (eN h) (eN h') (ji h (by decide) hu) (by rw[jL h h',e2];exact hQ _)
 |lt=>obtain⟨i,j,t,t',rfl,rfl,rfl⟩:=jj ha hb e;exact lt_int (hQ _)
 |le=>obtain⟨i,j,t,t',rfl,rfl,rfl⟩:=jj ha hb e;exact le_int (hQ _)
 |gt=>obtain⟨i,j,t,t',rfl,rfl,rfl⟩:=jj ha hb e;exact gt_int (hQ _)
 |ge=>obtain⟨i,j,t,t',rfl,rfl,rfl⟩:=jj ha hb e;exact ge_int (hQ _)
 |is =>
  cases uY ha hb e with
  |n q q' h=>subst q q';exact is_none_none (h▸hQ _)
  |r q q' h=>subst q q';exact is_none_ne (λe=>nomatch e) (h▸hQ _)
 |iM =>
  obtain⟨q,e',rfl⟩:=aas.mp e;cases uY ha hb e' with
  |n q q' h=>subst q q';rw[h]at hQ;exact isnot_none_none (hQ _)
  |r q q' h=>subst q q';rw[h]at hQ;exact isnot_none_ne (λe=>nomatch e) (hQ _)
 |mem=>exact((X.zG S ha hb e).ok S.nw X.ok.hu ha).1 hQ
 |gK =>
  obtain⟨q,e',rfl⟩:=aas.mp e;exact((X.mem S ha hb e').ok S.nw X.ok.hu ha).2 hQ
theorem At.cmp{K:Bool->T}{op:Cm}{Q:Value->Shared->Prop}(p:X.At env (.v Z.N b v (.v Z.N a u L)) (X.R (.tst (λh=>a8 Z.P h op a b) K)) s) (q:∀ b s,X.At env L (X.R (K b)) s->Q (.bool b) s):X.wp (compareOp (zr op) u v) Q E s :=
 p.rec λx f S l r=>(KP r).elim λ_ ⟨e,r⟩=>X.cmp S l.2.1 l.1 e λtk=>q _ _ ⟨x,f,S,l.2.2,r⟩
end
inductive EK(N:Nm) (G:Gh) (vs:List Value) (i:Int) (x:V):Prop where
 |pos {v:Value}(h0:0<=i) (hi:i<4000) (j:seqIndex? i vs.toArray.size=some i.toNat) (h:vs.toArray[i.toNat]? =some v) (r:VR N G x v):EK N G vs i x
 |neg {v:Value}(h0:i<0) (hi: -(vs.toArray.size:Int)<=i) (hl: -4000<=i) (j:seqIndex? i vs.toArray.size=some (i+vs.toArray.size).toNat) (h:vs.toArray[(i+vs.toArray.size).toNat]? =some v) (r:VR N G x v):EK N G vs i x
theorem CK{N:Nm}{G:Gh}{xs:List V}{vs:List Value}{i:Int}{x:V}(r:bM N G xs vs) (l:vs.length<=4000) (e:dm xs i=some x):EK N G vs i x:=by
 have el:=r.length;unfold dm at e;split at e
 ·rename_i h0;refine az (r.get e) λv h1 h2=>?_
  have iw:=(aav.mp h1).1;exact .pos h0 (Int.lt_of_le_of_lt (Int.self_le_toNat _) (Int.ofNat_lt.mpr (aai iw l))) (by unfold seqIndex?;dsimp only;rw[aaf (Int.not_lt.mpr h0),aae (by simp;exact⟨h0,(Int.toNat_lt h0).mp iw⟩)]) (List.getElem?_toArray.trans h1) h2
 ·rename_i h0;refine cJ (gd e) λh1 e=>?_
  rw[el]at h1 e;refine az (r.get e) λv h2 h3=>?_
  exact .neg (Int.not_le.mp h0) (by rw[aaT];exact h1) (Int.le_trans (Int.neg_le_neg (Int.ofNat_le.mpr l)) h1) (by unfold seqIndex?;dsimp only;rw[aae (Int.not_le.mp h0),aae (by simp;lia)]) (by rw[aaT];exact List.getElem?_toArray.trans h2) h3
inductive zR(Z:b_) (G:Gh) (A:Around) (s:Shared) (ov kv:Value) (x:V):Prop where
 |sq {ys:List V}{o:V}{i:Int}{t:Tok}(q:zN Z.N G s.heap ys o ov) (k:kv=.int i t) (e:dm ys i=some x):zR Z G A s ov kv x
 |dc (l:zP Z.prog Z.w A s Z.N G kv (some x) ov):zR Z G A s ov kv x
noncomputable def ni(k:Nat) (e:PySem.Expr):Bool:=e.ctorIdx != k
structure Wf(e:PySem.Expr):Prop where
 item:ni 26 e=true->∀ o i,subscripted e false o i=operate [o,i] (PySem.getItem o i)
 star:ni 22 e=true->∀ rest env,starEach (e::rest) env=(false,eval e env)::starEach rest env
 fold:ni 7 e=true->∀ env v,foldedSetIterable e env v=pure v
 swap:(ni 8 e&&ni 9 e&&ni 10 e)=true->∀ t l env,swapsWith e t l env=pure false
 tup:ni 25 e=true->∀ ts k p env,swappedStores [.Tuple ts k p] e env=pure none
 test:(ni 0 e&&ni 3 e&&ni 5 e&&ni 15 e)=true->∀ env whole,PySem.isTrue e env whole=(do
  let v <- whole
  standAt e.pos
  holding [v] (PySem.truthy v))
theorem kJ(e:PySem.Expr):Wf e:=by
 cases e<;>exact⟨by first | exact λO O O=>rfl | exact λh=>ff h,by first | exact λO O O=>rfl | exact λh=>ff h,by first | exact λO O O=>rfl | exact λh=>ff h,by first | exact λO O O O=>rfl | exact λh=>ff h,by first | exact λO O O O O=>rfl | exact λh=>ff h,by first | exact λO O O=>rfl | exact λh=>ff h⟩
section
variable{Z:b_}{n:Nat}{F:Fm}{X:EC Z n F}{env:En}{L:Pn X.c.bk}{s:Shared}{E:Value->Shared->Prop}{a b o k x:V}{u v ov kv:Value}{G:Gh}{m:Str->Option Value}{h:MH}{hp:Heap}{tk:Nat}
theorem EC.zq(X:EC Z n F) (S:cj Z X.c G m env h hp) (ho:VR Z.N G o ov) (hk:VR Z.N G k kv) (e:Mine.Internal.getItem Z.P h o k=some x):zR Z G X.c.A.in1 { s with heap:=hp,toks:=tk } ov kv x:=by
 have sq:∀ {ys:List V},bW h o=some ys->nO (dm ys) k=some x->zR Z G X.c.A.in1 { s with heap:=hp,toks:=tk } ov kv x:=λq e=>(d5 hk e).elim λi ⟨t,_,q',e⟩=>.sq (S.seq ho q) q' e
 cases o with
 |tup ys=>exact sq rfl e
 |lst ys=>exact sq rfl e
 |ref d =>
  have e:rl k (h.get d)=some x:=e;cases q:h.get d with
  |none=>rw[q]at e;exact nn e
  |some o =>
   rw[q]at e;cases o with
   |inst _ _=>exact nn e
   |list ys=>exact sq (aab l8 q) e
   |dict es =>
    refine cJ (gd e) λKS e=>?_
    have e1:aF k es=some (some x):=by
     cases q:aF k es with
     |none=>rw[q]at e;exact nn e
     |some r=>rw[q]at e;exact aab _ e
    exact ho.elim λO hb=>.dc (hb.1▸S.lk X.hu hb.2 q KS hk e1)
 |tab j =>
  clear sq;obtain⟨i,t,rfl,rfl,e⟩:=d5 hk e;exact .dc (EL ho (by rw[<- e];exact X.Qf S X.hu ho.2))
 |_=>exact nn e
where EL {j:Nat}{P:Value->Prop}(h:VR Z.N G (.tab j) ov) (p:P (.ref (Z.N.tA j))):P ov:=h.1▸p
theorem hK{prog:Program}{w:World}{A:Around}{value slice:PySem.Expr}{o i:Value}{T id:String}{Q:Value->Shared->Prop}(gN:ni 26 slice=true) (hT:s.TypeIs o T) (KU:typeLookup (Value.type T) (Str.ofString "__getitem__")=pure (some (Value.builtin id)))
  (h:wpAny (model prog w) A (PySem.getItem o i) Q E s):wpAny (model prog w) A (subscriptTail value slice o i) Q E s:=tail_any (ops:=[o,i]) hT KU h ((kJ slice).item gN o i)
theorem At.item{K:V->T}{value slice:PySem.Expr}{Q:Value->Shared->Prop}(gN:ni 26 slice=true) (p:X.At env (.v Z.N k kv (.v Z.N o ov L)) (X.R (.get (λh=>Mine.Internal.getItem Z.P h o k) K)) s) (q:∀ v u s,X.At env (.v Z.N v u L) (X.R (K v)) s->Q u s):X.wp (subscriptTail value slice ov kv) Q E s:=by
 refine p.rec λ{G hp tk h m} x f S l r=>?_
 clear p;refine az (eA r) λv e r=>?_
 have fin:∀ {u tk},VR Z.N G v u->Q u (X.s hp tk):=λru=>q _ _ _ ⟨x,f,S,⟨ru,l.2.2⟩,r⟩
 cases X.zq (s:=X.sh) (tk:=tk) S l.2.1 l.1 e with
 |sq sq k e =>
  clear l;subst k;cases sq with
  |tup g rs l'=>cases CK rs l' e with
   |pos h0 hi j h r=>exact hK gN ⟨_,g,rfl⟩ PySem.F.slot_tuple_getitem.lookup (getItem_tuple (cB g) (by lia) (by lia) j h (fin r))
   |neg h0 _ hl j h r=>exact hK gN ⟨_,g,rfl⟩ PySem.F.slot_tuple_getitem.lookup (getItem_tuple (cB g) (by lia) (by lia) j h (fin r))
  |lst t g rs l'=>cases CK rs l' e with
   |pos h0 hi j h r=>exact hK gN ⟨_,g,rfl⟩ PySem.F.slot_list_getitem.lookup (wpAny_getItem_list (aJ g) h0 (by lia) h (fin r))
   |neg h0 hi hl j h r=>exact hK gN ⟨_,g,rfl⟩ PySem.F.slot_list_getitem.lookup (wpAny_getItem_list_neg (aJ g) h0 hi (by lia) h (fin r))
 |dc lk=>exact(pP lk λv tk r=>fin r).elim λt w=>hK gN t PySem.F.slot_dict_getitem.lookup w
inductive Qh(hp:Heap) (ov:Value):Prop where
 |mk {D:Addr}{ob:Obj}(e:ov=.ref D) (g:hp.get? D=some ob) (c:ob.cls=.type "dict") (i:ob.dict=none):Qh hp ov
theorem zS{o:Option aP}(e:Ei o=true):∃ es,o=some (.dict es):=by
 cases o with
 |none=>exact ff e
 |some o=>cases o with
  |dict xs=>exact⟨xs,rfl⟩
  |_=>exact ff e
theorem EC.Cy(X:EC Z n F) (S:cj Z X.c G m env h hp) (ho:VR Z.N G o ov) (e:Cy h o=true):Qh hp ov:=by
 cases o with
 |tab j=>exact(X.tabs S.fr ho.2).rec λl g c d t i=>⟨ho.1,g,c,i⟩
 |ref a=>exact(zS (o:=h.get a) e).elim λes q=>ho.elim λO hr=>(S.sr.dict hr.2 q).rec λO O m O O O O=>⟨hr.1,(S.nw _ m).1,rfl,rfl⟩
 |_=>exact ff e
theorem At.Cy{K:T}(p:X.At env (.v Z.N o ov L) (X.R (.get (λh=>if Mine.Internal.Cy h o then some .none else none) λO=>K)) s):Qh s.heap ov/\X.At env (.v Z.N o ov L) (X.R K) s :=
 p.rec λx f S l r=>(eA r).elim λO h=>⟨X.Cy S l.1 (gd h.1).1,x,f,S,l,h.2⟩
inductive Uq(Z:b_) (G:Gh) (A:Around) (s:Shared) (ov kv:Value) (y v:V):Prop where
 |mk {r:Option V}(l:zP Z.prog Z.w A s Z.N G kv r ov) (e:r.getD y=v):Uq Z G A s ov kv y v
theorem EC.Wg(X:EC Z n F) (S:cj Z X.c G m env h hp) {y v:V}(ro:VR Z.N G o ov) (rk:VR Z.N G k kv) (e:kY Z.P h o k y=some v):Uq Z G X.c.A.in1 { s with heap:=hp,toks:=tk } ov kv y v:=by
 cases o with
 |tab j =>
  obtain⟨i,t,-,hu,e⟩:=d5 rk e;exact hu▸ro.1▸.mk (X.Qf S X.hu ro.2) (aah e)
 |ref a =>
  have e:O9 k y (h.get a)=some v:=e;cases q:h.get a with
  |none=>rw[q]at e;exact nn e
  |some o =>
   rw[q]at e;cases o with
   |dict es =>
    refine cJ (gd e) λhk e=>?_
    refine az (aas.mp e) λr' e1 e2=>?_
    exact ro.elim λO hb=>.mk (hb.1▸S.lk X.hu hb.2 q hk rk e1) e2
   |_=>exact nn e
 |_=>exact nn e
theorem At.g_{D:Addr}{K:V->T}{y:V}{yv:Value}{Q:Value->Shared->Prop}(p:X.At env (.v Z.N y yv (.v Z.N k kv (.v Z.N o (.ref D) L))) (X.R (.get (λh=>kY Z.P h o k y) K)) s) (q:∀ v u s,X.At env (.v Z.N v u L) (X.R (K v)) s->Q u s):X.wp (call (.builtin "dict.get") [.ref D,kv,yv]) Q E s:=by
 refine p.rec λ{G hp tk h m} x f S l r=>?_
 clear p;refine az (eA r) λv e r=>?_
 cases X.Wg (s:=X.sh) (tk:=tk) S l.2.2.1 l.2.1 e with | mk lk e' =>
 exact EI lk λov tk h=>q v _ _ ⟨x,f,S,⟨e'▸h.rec (λrv=>rv) l.1,l.2.2.2⟩,r⟩
theorem jd{N:Nm}{i:Int}{t:Tok}{v:V}(e:some (V.int i)=some v):VR N G v (.int i t):=aah e▸⟨t,rfl⟩
theorem At.neg{K:V->T}{Q:Value->Shared->Prop}(p:X.At env (.v Z.N o ov L) (X.R (.get (λO=>nO (λi=>some (.int (-i))) o) K)) s) (q:∀ v u s,X.At env (.v Z.N v u L) (X.R (K v)) s->Q u s):X.wp (unaryOp .USub ov) Q E s:=by
 refine p.rec λ{G hp tk h m} x f S l r=>?_
 clear p;refine az (eA r) λv e r=>?_
 obtain⟨i,t,-,hu,e⟩:=d5 l.1 e;rw[hu];exact PyProof.Rows.neg_int (q v _ _ ⟨x,f,S,⟨jd e,l.2⟩,r⟩)
theorem At.inv{K:V->T}{Q:Value->Shared->Prop}(p:X.At env (.v Z.N o ov L) (X.R (.get (λO=>nO (λi=>some (.int (-i-1))) o) K)) s) (q:∀ v u s,X.At env (.v Z.N v u L) (X.R (K v)) s->Q u s):X.wp (unaryOp .Invert ov) Q E s:=by
 refine p.rec λ{G hp tk h m} x f S l r=>?_
 clear p;refine az (eA r) λv e r=>?_
 obtain⟨i,t,-,hu,e⟩:=d5 l.1 e;rw[hu];exact invert_int (q v _ _ ⟨x,f,S,⟨jd (i:= -i-1) e,l.2⟩,r⟩)
theorem At.len{K:V->T}{Q:Value->Shared->Prop}(p:X.At env (.v Z.N o ov L) (X.R (.get (λh=>(lenOf h o).map λn:Nat=>V.int n) K)) s) (q:∀ v u s,X.At env (.v Z.N v u L) (X.R (K v)) s->Q u s):X.wp (call (.builtin "len") [ov]) Q E s:=by
 refine p.rec λ{G hp tk h m} x f S l r=>?_
 clear p;refine az (eA r) λv e r=>?_
 refine az (aas.mp e) λj e1 e3=>?_
 refine az (aas.mp e1) λxs e2 e4=>?_
 have fin:∀ {vs:List Value}{t tk},bM Z.N G xs vs->Q (.int vs.toArray.size t) (X.s hp tk):=λrs=>q v _ _ ⟨x,f,S,⟨by rw[aaT,<- rs.length,e4];exact jd (aab _ e3),l.2⟩,r⟩
 clear e;cases S.seq l.1 e2 with
 |tup g rs l'=>exact len_tuple (cB g) (fits l') (fin rs)
 |lst t g rs l'=>exact len_list (aJ g) (fits l') (fin rs)
theorem At.eR{K:V->T}{Q:Value->Shared->Prop}(p:X.At env (.v Z.N o ov L) (X.R (.get (λh=>(bW h o).map V.tup) K)) s) (q:∀ v u s,X.At env (.v Z.N v u L) (X.R (K v)) s->Q u s):X.wp (call (.type "tuple") [ov]) Q E s:=by
 refine p.rec λ{G hp tk h m} x f S l r=>?_
 clear p;refine az (eA r) λv e r=>?_
 refine az (aas.mp e) λxs e2 e3=>?_
 subst e3;have l1:=l.1;clear e;cases S.seq l.1 e2 with
 |tup g rs l'=>exact call_tuple_same (eF g) (q _ _ _ ⟨x,f,S,⟨l1,l.2⟩,r⟩)
 |lst t g rs l' =>
  refine call_tuple_list (aJ g) (λh' hk=>?_) (by rw[aaT];exact aaj l' (by decide))
  have S':=S.keeps hk;exact q _ _ _ (At.tup x f S' l.2 r rs (rs.length▸l') (S'.fr.push _) (News.push S'.fr S'.nw _))
theorem At.str{K:V->T}{Q:Value->Shared->Prop}(p:X.At env (.v Z.N o ov L) (X.R (.get (λO=>Ku o) K)) s) (q:∀ v u s,X.At env (.v Z.N v u L) (X.R (K v)) s->Q u s):X.wp (call (.type "str") [ov]) Q E s:=by
 refine p.rec λ{G hp tk h m} x f S l r=>?_
 clear p;refine az (eA r) λv e r=>?_
 cases o with
 |int i =>
  obtain⟨⟨h0,h1⟩,e⟩:=gd e;cases e;obtain⟨⟨t,rfl⟩,l⟩:=l;refine PySem.P.str_of_int ?_ (q (.str _) _ _ ⟨x,f,S,⟨⟨_,rfl⟩,l⟩,r⟩);by_cases h:i=0
  ·clear r;subst h;decide
  ·have:i.natAbs.log2<10:=by rw[Nat.log2_lt (by lia)];lia
   exact cP this rfl
 |_=>exact nn e
theorem zT{N:Nm}{xs:List V}{vs:List Value}(r:bM N G xs vs):∀ {bs:List Bool},xs.mapM jA=some bs->LSm.BoolsAre vs bs :=
 r.ind (C:=λxs vs=>∀ {bs:List Bool},xs.mapM jA=some bs->LSm.BoolsAre vs bs) (λe=>by rw[List.mapM_nil]at e;cases e;exact .nil) λx v xs vs a O ih bs e=>by
  rw[List.mapM_cons]at e;cases x with
  |bool q =>
   refine az (aap.mp e) λb0 h0 e=>?_
   refine az (aap.mp e) λbs' h1 h2=>?_
   clear e;cases h0;clear e;cases h2;rw[show v=.bool q from a]
   exact .cons q (ih h1)
  |_=>exact nn e
theorem At.any{K:V->T}{Q:Value->Shared->Prop}(p:X.At env (.v Z.N o ov L) (X.R (.get (λO=>zI o) K)) s) (q:∀ v u s,X.At env (.v Z.N v u L) (X.R (K v)) s->Q u s):X.wp (call (.builtin "any") [ov]) Q E s:=by
 refine p.rec λ{G hp tk h m} x f S l r=>?_
 clear p;refine az (eA r) λv e r=>?_
 cases o with
 |lst xs =>
  obtain⟨bs,e2,rfl⟩:=aas.mp e;cases S.seq l.1 rfl with | lst t g rs l'=>exact LSm.any_bools S.fr S.nw X.ok.handled (aJ g) (zT rs e2) λh' tk F' N'=>q (.bool _) _ _ ⟨x,f,S.heap F' N',⟨rfl,l.2⟩,r⟩
 |_=>exact nn e
end
theorem iC:fillsNumberSlot (.type "tuple") "mul" = pure false :=
 PySem.fillsNumberSlot_seq (id := "tuple.__mul__") (r:=some (.builtin "tuple.__rmul__")) F.slot_tuple_mul.lookup (by decide +kernel) F.slot_tuple_rmul.lookup (by decide +kernel)
theorem mn:seqRepeat? (.type "tuple")=pure (some (.builtin "tuple.__mul__")):=by
 unfold seqRepeat?;rw[PySem.seqSlot_of (T := "tuple") (name := "__mul__") (id := "tuple.__mul__") F.slot_tuple_mul.lookup (by decide +kernel),PySem.seqSlot_of (T := "tuple") (name := "__rmul__") (id := "tuple.__rmul__") F.slot_tuple_rmul.lookup (by decide +kernel)]
 rfl
theorem fe(a:Int) (t:Tok) (l:Addr) (items:Array Value) (n:Nat) :
  Meets (Builtin.«int.__rmul__» ⟨[.int a t,.ref l],[]⟩) (λO R s=>s.heap.get? l=some { cls:=.type "tuple",dict:=none,data:=.seq items n,slots:=#[] }/\R (.ok (.ret Value.notImplemented)) s) :=
 .of_wp λprog w A R s h=>by obtain⟨hp,g,d,tk,os⟩:=s;obtain⟨hl,h⟩:=h;wp_walk;exact⟨_,rfl,h⟩
theorem mq(v:Value) (n:Nat):(List.foldl (λx1 x2=>x1++x2) #[] (List.replicate n #[v]))=(List.replicate n v).toArray:=by
 have:∀ n (a:Array Value),(List.foldl (λx1 x2=>x1++x2) a (List.replicate n #[v]))=a++(List.replicate n v).toArray:=by
  intro n;induction n with
  |zero=>exact λa=>(Array.append_empty).symm
  |succ n ih=>intro a;rw[List.replicate_succ,List.foldl_cons,ih,List.replicate_succ,Array.append_assoc];exact aab (a++·) (List.toArray_cons v _).symm
 exact(this n #[]).trans Array.empty_append
theorem kK(l:Addr) (v:Value) (x:Int) (u:Tok) (h0:0<=x) (hl:x<=1000) :
  Meets (Builtin.«tuple.__mul__» ⟨[.ref l,.int x u],[]⟩) (λO R s=>s.heap.get? l=some (dN [v])/\(x=1->R (.ok (.ret (.ref l))) s)/\R (.ok (.ret (.ref s.heap.objs.size))) { s with heap:=s.heap.push (dN (List.replicate x.toNat v)) }) :=
 .of_wp λprog w A R s h=>by
  obtain⟨hp,g,d,tk,os⟩:=s;refine jx h λhl h1 h2=>?_
  have h6:(List.foldl (λx1 x2=>x1++x2) #[] (List.replicate x.toNat #[v])).size<=sizeLine:=by rw[mq];simp[sizeLine_eq];exact i_0 (by assumption) rfl
  wp_walk
  refine wpAny_ite_false (by simp;exact⟨i_6 h0 rfl,Int.lt_of_le_of_lt (by assumption) (by decide)⟩) ?_;wp_walk
  by_cases e:x=1
  ·refine wpAny_ite_true (by rw[e];rfl) ?_;wp_walk
   exact⟨_,rfl,h1 e⟩
  refine wpAny_ite_false (by simp[e]) ?_;wp_walk
  by_cases e0:x=0
  ·refine wpAny_ite_true (by rw[e0];rfl) ?_;wp_walk
   clear h6 h1 h;subst e0;exact⟨_,rfl,h2⟩
  refine wpAny_ite_false (by simp;exact Int.lt_iff_le_and_ne.mpr ⟨h0,Ne.symm e0⟩) ?_;wp_walk
  refine wpAny_ite_false (by simp;exact i_0 (by assumption) rfl) ?_;wp_walk
  refine wpAny_ite_false (by simp[Builtin.Tuple.tupleTooMany,sizeLine_eq];exact i_0 (by assumption) rfl) ?_;wp_walk
  exact⟨_,rfl,by rw[mq];exact h2⟩
theorem sO{a b:Int}(h0:0<=a) (h1:a.toNat.blt 1000000000000=true):Builtin.divisionGoesByPylong a b=false:=by
 have h1:a<1000000000000:=by have:=Nat.blt_eq.mp h1;exact Int.lt_of_le_of_lt (Int.self_le_toNat _) (Int.ofNat_lt.mpr this)
 unfold Builtin.divisionGoesByPylong;have:(if (a==0)=true then 0 else a.natAbs.log2/30+1)<=2:=by
  split
  ·exact aaV _
  ·rename_i h;have:a.natAbs.log2<40:=(Nat.log2_lt (by rw[aam]at h;lia)).mpr (by lia)
   exact Nat.div_lt_of_lt_mul (cP this rfl)
 simp only[Bool.and_eq_false_imp,aaS,decide_eq_false_iff_not];intro _;exact Nat.not_lt_of_le (cP this rfl)
theorem sP{prog:Program}{w:World}{A:Around}{E:Value->Shared->Prop}{s:Shared}{l:Addr}{v:Value}{x:Int}{u:Tok}{Q:Value->Shared->Prop}(hl:s.heap.get? l=some (dN [v])) (h1:0<=x) (h2:x<=1000)
  (Wh:x=1->Q (.ref l) s) (hQ:Q (.ref s.heap.objs.size) { s with heap:=s.heap.push (dN (List.replicate x.toNat v)) }) :
  wpAny (model prog w) A (binaryOp .Mult (.ref l) (.int x u)) Q E s :=
 wpAny_binaryOp_repeat_ref (T := "tuple") (U := "int") (by decide) ⟨_,hl,rfl⟩ (λs'=>typeIs_int s' x u) iC F.fills_int_mul F.slot_int_rmul mn F.slot_int_index.lookup
  (call_meets F.slot_int_rmul (typeIs_int s x u) F.entry_int_rmul (F.args_int_rmul_2 _ _) (fe x u l _ 0)
   ⟨hl,rfl,⟨_,hl,rfl⟩,call_meets F.slot_tuple_mul ⟨_,hl,rfl⟩ F.entry_tuple_mul (F.args_tuple_mul_2 _ _) (kK l v x u h1 h2) ⟨hl,Wh,hQ⟩⟩)
inductive zU(N:Nm) (G:Gh) (xs:List V) (vs:List Value) (n:Int) (f:List V->V) (r:V):Prop where
 |mk {v:Value}{x:V}(ex:xs=[x]) (e:vs=[v]) (q:bM N G (List.replicate n.toNat x) (List.replicate n.toNat v)) (h0:0<=n) (h1:n<=1000) (e':f (List.replicate n.toNat x)=r):zU N G xs vs n f r
theorem CL{N:Nm}{G:Gh}{xs:List V}{vs:List Value}{n:Int}{f:List V->V}{r:V}(q:bM N G xs vs) (e:rep n xs f=some r):zU N G xs vs n f r:=by
 cases xs with
 |nil=>exact nn e
 |cons x xs=>cases xs with
  |nil =>
   refine cJ (gd e) λh e=>?_
   exact q.rec λa b=>.mk rfl (aab _ b) (.rep a _) h.1 h.2 (aah e)
  |cons _ _=>exact nn e
inductive uZ(N:Nm) (G:Gh) (hp:Heap) (a b r:V) (u v:Value):Prop where
 |int {i j:Int}{t t':Tok}(e:u=.int i t) (e':v=.int j t') (h:r=.int (i+j)):uZ N G hp a b r u v
 |str {i j:Str}{t t':Tok}(e:u=.str i t) (e':v=.str j t') (l:i.length+j.length<=1000) (h:r=.str (i++j)):uZ N G hp a b r u v
 |tup {xs ys:List V}{d d':Addr}{vs ws:List Value}(ea:a=.tup xs) (eb:b=.tup ys) (e:u=.ref d) (e':v=.ref d') (g:IsTup hp d vs.toArray) (g':IsTup hp d' ws.toArray) (q:bM N G xs vs) (q':bM N G ys ws) (l:xs.length+ys.length<=1000) (h:r=.tup (xs++ys)):uZ N G hp a b r u v
 |lst {xs ys:List V}{d d':Addr}{vs ws:List Value}(e:u=.ref d) (e':v=.ref d') (g:hp.IsList d vs.toArray) (g':hp.IsList d' ws.toArray) (q:bM N G xs vs) (q':bM N G ys ws) (l:xs.length+ys.length<=1000) (h:r=.lst (xs++ys)):uZ N G hp a b r u v
inductive zV(N:Nm) (G:Gh) (hp:Heap) (a r:V) (u v:Value):Prop where
 |int {i j:Int}{t t':Tok}(e:u=.int i t) (e':v=.int j t') (l:0<=i/\i<1000/\0<=j/\j<1000) (h:r=.int (i*j)):zV N G hp a r u v
 |tup {xs:List V}{d:Addr}{vs:List Value}{j:Int}{t:Tok}(ea:a=.tup xs) (e:u=.ref d) (e':v=.int j t) (g:hp.get? d=some (dN vs)) (q:bM N G xs vs) (k:zU N G xs vs j .tup r):zV N G hp a r u v
 |lst {xs:List V}{d:Addr}{vs:List Value}{k:Nat}{j:Int}{t:Tok}(e:u=.ref d) (e':v=.int j t) (g:hp.get? d=some (ax vs k)) (k:zU N G xs vs j .lst r):zV N G hp a r u v
section
variable{Z:b_}{n:Nat}{F:Fm}{X:EC Z n F}{env:En}{L:Pn X.c.bk}{s:Shared}{E:Value->Shared->Prop}{a b o k x r:V}{u v ov kv:Value}{G:Gh}{m:Str->Option Value}{h:MH}{hp:Heap}{tk:Nat}{c:Cx}
theorem cj.Qi(S:cj Z c G m env h hp) (ra:VR Z.N G a u) (rb:VR Z.N G b v) (e:Kn a b=some r):uZ Z.N G hp a b r u v:=by
 cases a with
 |int i=>exact(d5 rb e).elim λj ⟨t,_,q,e⟩=>ra.elim λt q'=>.int q' q (aah e).symm
 |str x=>cases b with
  |str y=>exact ra.elim λO q=>rb.elim λO q'=>.str q q' (gd e).1 (aah (gd e).2).symm
  |_=>exact nn e
 |tup xs=>cases b with
  |tup ys=>exact ra.jb.rec λm O O q=>rb.jb.rec λm' O O q'=>.tup rfl rfl rfl rfl (cB (S.nw _ m).1) (cB (S.nw _ m').1) q q' (gd e).1 (aah (gd e).2).symm
  |_=>exact nn e
 |lst xs=>cases b with
  |lst ys=>exact ra.pO.rec λm O O q=>rb.pO.rec λm' O O q'=>.lst rfl rfl (aJ (S.nw _ m).1) (aJ (S.nw _ m').1) q q' (gd e).1 (aah (gd e).2).symm
  |_=>exact nn e
 |_=>exact nn e
theorem cj.Qj(S:cj Z c G m env h hp) (ra:VR Z.N G a u) (rb:VR Z.N G b v) (e:Ko a b=some r):zV Z.N G hp a r u v:=by
 cases a with
 |int i=>exact(d5 rb e).elim λj ⟨t,_,q,e⟩=>ra.elim λt q'=>.int q' q (gd e).1 (aah (gd e).2).symm
 |tup xs=>exact(d5 rb e).elim λj ⟨t,_,q,e⟩=>ra.jb.rec λm O O q'=>.tup rfl rfl q (S.nw _ m).1 q' (CL q' e)
 |lst xs=>exact(d5 rb e).elim λj ⟨t,_,q,e⟩=>ra.pO.rec λm O O q'=>.lst rfl q (S.nw _ m).1 (CL q' e)
 |_=>exact nn e
theorem At.bin{op:Op}{K:V->T}{Q:Value->Shared->Prop}(p:X.At env (.v Z.N b v (.v Z.N a u L)) (X.R (.get (λO=>binop op a b) K)) s) (q:∀ v u s,X.At env (.v Z.N v u L) (X.R (K v)) s->Q u s):X.wp (binaryOp (JC op) u v) Q E s:=by
 refine p.rec λ{G hp tk h m} x f S l r=>?_
 clear p;refine az (eA r) λw e r=>?_
 refine jx l λrb ra l=>?_
 have fin:∀ {u tk},VR Z.N G w u->Q u (X.s hp tk):=λru=>q _ _ _ ⟨x,f,S,⟨ru,l⟩,r⟩
 have KW:∀ {f:Int->Int->Option V}{C:Prop},ops f a b=some w->(∀ i j t t',u=.int i t->v=.int j t'->f i j=some w->C)->C:=λe k=>(EJ ra rb e).elim λi ⟨j,t,t',q,q',e⟩=>k i j t t' q q' e
 have tup:∀ {xs vs cE tk},w=.tup xs->bM Z.N G xs vs->xs.length<=4000->Fr X.c.h₀ X.c.L cE m->News X.c.h₀ X.c.L cE ((hp.objs.size,dN vs)::G.news)->Q (.ref hp.objs.size) (X.s cE tk):=λe rs k F' N'=>q w _ _ (e.symm▸At.tup (R:=X.R (K w)) x f S l r rs k F' N')
 have lst:∀ {xs vs j cE tk},w=.lst xs->bM Z.N G xs vs->xs.length<=4000->Fr X.c.h₀ X.c.L cE m->News X.c.h₀ X.c.L cE ((hp.objs.size,ax vs j)::G.news)->Q (.ref hp.objs.size) (X.s cE tk):=λe rs k F' N'=>q w _ _ (e.symm▸At.lst (R:=X.R (K w)) x f S l r rs k F' N')
 cases op with
 |add=>cases S.Qi ra rb e with
  |int e e' h=>rw[e,e'];exact add_int (fin (jd (aab _ h.symm)))
  |str e e' k h=>rw[e,e'];exact add_str (λt tk=>fin (h▸⟨_,rfl⟩)) (aaj k (by decide))
  |tup ea eb e e' g g' r1 r2 k h =>
   have e1:=r1.length;have e2:=r2.length;rw[e,e'];refine add_tuples S.fr S.nw g g' (λz=>?_) (λO z=>?_) (λO O h' F' N'=>tup h (r1.append r2) (by rw[aag];exact aaj k (by decide)) F' N') (by rw[<- e1,<- e2];exact aaj k (by decide))
   ·rw[z]at e1;exact fin (by rw[h,List.eq_nil_of_length_eq_zero e1,List.nil_append,<- eb,<- e'];exact rb)
   ·rw[z]at e2;exact fin (by rw[h,List.eq_nil_of_length_eq_zero e2,List.append_nil,<- ea,<- e];exact ra)
  |lst e e' g g' r1 r2 k h =>
   rw[e,e'];exact add_lists S.fr S.nw g g' (λh' F' N'=>lst (j:=0) h (r1.append r2) (by rw[aag];exact aaj k (by decide)) F' N') (by rw[<- r1.length,<- r2.length];exact aaj k (by decide))
 |sub=>exact KW e λi j t t' e e' h=>by rw[e,e'];exact PyProof.Rows.sub_int (fin (jd h))
 |mul=>cases S.Qj ra rb e with
  |int e e' k h=>rw[e,e'];exact PyProof.Rows.mul_int (fin (jd (aab _ h.symm))) (.of_left (intBits_le_64 (by lia) (by lia)))
  |tup ea e e' g r1 k=>cases k with | mk ex ev rs h0 h1 h =>
   rw[ev]at g;rw[e,e'];exact sP g h0 h1 (λz=>fin (by
    rw[ea,ex]at ra;rw[<- h,<- e,z];exact ra)) (tup h.symm rs (by rw[List.length_replicate];exact Int.toNat_le.mpr (i_0 h1 rfl)) (S.fr.push _) (News.push S.fr S.nw _))
  |@lst _ _ _ _ j _ e e' g k=>cases k with | @mk y _ ex ev rs h0 h1 h =>
   rw[ev]at g;rw[e,e'];refine mul_list S.fr S.nw g (by lia) (by lia) (by simp;exact i_0 h1 rfl) λh' F' N'=>lst (j:=0) h.symm rs (by rw[List.length_replicate];exact Int.toNat_le.mpr (i_0 h1 rfl)) F' ?_
   rw[show(if (#[y]:Array Value).isEmpty=true then 0 else j.toNat)=j.toNat from rfl,mq]at N'
   exact N'
 |div=>exact KW e λi j t t' e e' h=>by rw[e,e'];exact PyProof.Rows.floordiv_int (by have:=(gd h).1;lia) (fin (jd (gd h).2)) (.inl (sO (gd h).1.2.1 (gd h).1.2.2))
 |mod=>exact KW e λi j t t' e e' h=>by rw[e,e'];exact PyProof.Rows.mod_int' (by have:=(gd h).1;exact Int.ne_of_gt this) (fin (jd (gd h).2))
 |band=>exact KW e λi j t t' e e' h=>by rw[e,e'];exact and_int (fin (jd h))
 |bor=>exact KW e λi j t t' e e' h=>by rw[e,e'];exact or_int (fin (jd h))
end
theorem nZ{a:Ad}{k v:V}{o:aP}{h h':MH}(e:CA h a k v o=some h'):(∃ xs n,o=.list xs/\k=.int n/\(0<=n/\n<xs.length)/\h'=h.set a (.list (xs.set n.toNat v)))∨∃ es q,o=.dict es/\(es.length<1000/\eL k=true)/\aF k es=some q/\h'=h.set a (.dict (cz k v es)):=by
 cases o with
 |inst _ _=>exact nn e
 |list xs=>cases k with
  |int n=>exact .inl ⟨xs,n,rfl,rfl,(gd e).1,(aah (gd e).2).symm⟩
  |_=>exact nn e
 |dict es=>exact .inr ((aas.mp (gd e).2).elim λq h=>⟨es,q,rfl,(gd e).1,h.1,h.2.symm⟩)
theorem zW{o:Option aP}(e:Eh o=true):∃ xs,o=some (.list xs):=by
 cases o with
 |none=>exact ff e
 |some o=>cases o with
  |list xs=>exact⟨xs,rfl⟩
  |_=>exact ff e
section
variable{Z:b_}{n:Nat}{F:Fm}{X:EC Z n F}{env:En}{L:Pn X.c.bk}{s:Shared}{E:Value->Shared->Prop}{a b o k v x r:V}{u ov kv:Value}{G:Gh}{m:Str->Option Value}{h:MH}{hp:Heap}{tk:Nat}{c:Cx}{K:T}
theorem At.u0(x:Ext X.c.bk X.a_ G) (f:X.fm m) (S:cj Z X.c G m env h hp) (l:L.P G) {R:MH->Prop}{a:Ad}{r:Addr}{o o':aP}{ob:Obj}(r':R (h.set a o')) (e:h.get a=some o) (s:G.σ a=some r) (g:fu o o') (hd:G.g r=.main a) (hm:bK G (G.upd r ob)->MO Z.w Z.N Z.P (G.upd r ob) a r o') {cE:Heap}
  (F':Fr X.c.h₀ X.c.L cE m) (N':News X.c.h₀ X.c.L cE (G.upd r ob).news):X.At env L R (X.s cE tk) :=
 (S.mut e s g (.inl hd) hm F' N').elim λe0 S'=>⟨x.trans e0.ex,f,S',L.st _ _ e0.ex l,r'⟩
theorem At.app{Q:Value->Shared->Prop}(p:X.At env (.v Z.N v u (.v Z.N o ov L)) (X.R (fx (λh=>appendAt h o v) K)) s) (q:∀ s,X.At env L (X.R K) s->Q .none s):X.wp (call (.builtin "list.append") [ov,u]) Q E s:=by
 refine p.rec λ{G hp tk h m} x f S l r=>?_
 clear p;refine az (iR r) λh' e r2=>?_
 obtain⟨a,jM,mo,-,hu,hr,hg,e⟩:=eE l.2.1 e;obtain⟨xs,rfl,e⟩:=gc e;refine cJ (gd e) λhl e=>?_
 cases S.sr.list hr hg with | @mk vs j _ _ m' g rs _ =>
 rw[hu];refine append_K (its:=vs.toArray) (n:=j) S.fr S.nw (dR S.sr.nodup m') (λh' F' N'=>?_) (by rw[aaT,<- rs.length];exact aaj (aay hl) (by decide))
 rw[show W.listOf (vs.toArray.push u) (j+1)=ax (vs++[u]) (j+1) from by rw[W.listOf,List.push_toArray]]at N'
 exact q _ (At.u0 x f S l.2.2 (aah e▸r2) hg hr ⟨_,rfl,by rw[aag];exact aaF _ _⟩ g (λvm=>.list (aD m') g ((rs.append (.one l.1)).aI vm) (by rw[aag];exact aaj (Nat.succ_le_of_lt hl) (by decide))) F' N')
theorem At.ext{Q:Value->Shared->Prop}(p:X.At env (.v Z.N v u (.v Z.N o ov L)) (X.R (fx (λh=>Cz h o v) K)) s) (q:∀ s,X.At env L (X.R K) s->Q .none s):X.wp (call (.builtin "list.extend") [ov,u]) Q E s:=by
 refine p.rec λ{G hp tk h m} x f S l r=>?_
 clear p;refine az (iR r) λh' e r2=>?_
 clear r;cases v with
 |lst ys =>
  obtain⟨a,jM,mo,-,hu,hr,hg,e⟩:=eE l.2.1 e;obtain⟨xs,rfl,e⟩:=gc e;refine cJ (gd e) λhl e=>?_
  cases S.sr.list hr hg with | @mk vs j _ _ m' g rs _ =>
  cases l.1.pO with | @mk b us k2 m2 _ _ KY =>
  have e1:=rs.length;have e2:=KY.length;rw[hu];refine kl_extend (its:=vs.toArray) (its2:=us.toArray) (n:=j) (n2:=k2) (l:=vs++us) S.fr S.nw m2 rfl (by show us.length≠0;exact e2▸V' hl.2) (dR S.sr.nodup m') (by simp only[Builtin.List.listTooLong,sizeLine_eq,aaT];simp;intros;exact P4 (zC e1.symm l_1) l_2 rfl) (by rw[sizeLine_eq];simp;exact zC (Eq.symm e1) (cP l_1 rfl)) (by rw[sizeLine_eq];simp;exact P4 (zC e1.symm l_1) l_2 rfl) λh' F' N'=>?_
  exact q _ (At.u0 x f S l.2.2 (aah e▸r2) hg hr ⟨_,rfl,by rw[aag];exact aaF _ _⟩ g (λvm=>.list (aD m') g ((rs.append KY).aI vm) (by rw[aag];exact cP (And.left hl) rfl)) F' N')
 |_=>exact nn e
theorem At.setItem{Q:Unit->Shared->Prop}(p:X.At env (.v Z.N k kv (.v Z.N o ov (.v Z.N v u L))) (X.R (fx (λh=>Mine.Internal.setItem h o k v) K)) s) (q:∀ s,X.At env L (X.R K) s->Q () s):X.wp (PySem.setItem ov kv u) Q E s:=by
 refine p.rec λ{G hp tk h m} x f S l r=>?_
 clear p;refine az (iR r) λh' e r2=>?_
 clear r;obtain⟨a,jM,mo,-,hu,hr,hg,e⟩:=eE l.2.1 e;rw[hu];rcases nZ e with⟨xs,i,rfl,rfl,hi,e⟩ | ⟨es,q',rfl,hk,ek,e⟩
 ·obtain⟨⟨t,rfl⟩,l⟩:=l;cases S.sr.list hr hg with | @mk vs j _ _ m' g rs l' =>
  have e1:=rs.length;refine ki_setAt (items:=vs.toArray) (n:=j) (S.nw _ m').1 hi.1 (by lia) (by rw[aaT];exact e1▸hi.2) ?_
  refine cJ (news_set (o':=ax (vs.set i.toNat u) j) (f:=Obj.mapSeq λx=>x.setIfInBounds i.toNat u) S.fr S.nw S.sr.nodup m' (by simp[Obj.mapSeq,ax]) rfl) λU1 U2=>?_
  exact q _ (At.u0 x f S l.2.2 (e▸r2) hg hr ⟨_,rfl,aaD (List.length_set ..).symm⟩ g (λvm=>.list (aD m') g ((rs.set i.toNat l.2.1).aI vm) (by rw[List.length_set];exact l')) U1 U2)
 ·cases S.sr.dict hr hg with | @mk Wi j _ _ m' g rs l' nd =>
  refine ml ⟨_,(S.nw _ m').1,rfl⟩ λE Q' Wj=>ly S.fr S.nw S.sr.nodup X.hu m' rs nd l' hk.2 l.1 l.2.2.1 ek λes' n' h' tk D' F' N'=>Wj _ (q _ ?_)
  exact At.u0 x f S l.2.2.2 (e▸r2) hg hr ⟨_,rfl⟩ g (λvm=>.dict (aD m') g (D'.aI vm) (aaj nY (aaj hk.1 (by decide:1000<=4000))) (sM nd).1) F' N'
theorem zX(e:Mine.Internal.Cw h o=true):∃ xs,bW h o=some xs/\JB o=false:=by
 cases o with
 |ref a=>exact(zW (o:=h.get a) e).elim λxs e=>⟨xs,aab l8 e,rfl⟩
 |_=>exact ff e
theorem zN.list{N:Nm}{xs:List V}(q:zN N G hp xs o ov) (e:JB o=false):∃ r vs j,ov=.ref r/\hp.get? r=some (ax vs j)/\bM N G xs vs/\vs.length<=4000:=by
 cases q with
 |tup=>exact ff e.symm
 |lst _ g r l=>exact⟨_,_,_,rfl,g,r,l⟩
theorem At.Cw(p:X.At env (.v Z.N o ov L) (X.R (.get (λh=>if Mine.Internal.Cw h o then some .none else none) λO=>K)) s):∃ r vs j,ov=.ref r/\s.heap.get? r=some (ax vs j)/\X.At env (.v Z.N o ov L) (X.R K) s :=
 p.rec λx f S l r=>(eA r).elim λv ⟨e,r⟩=>(zX (gd e).1).elim λxs ⟨q,t⟩=>((S.seq l.1 q).list t).imp λO h=>h.imp λO h=>h.imp λO h=>⟨h.1,h.2.1,⟨x,f,S,l,r⟩⟩
end
inductive zY{k:Addr}(a_:Gh) (d:Addr) (o:Obj) (L:Pn k) (G:Gh):Prop where
 |mk {G₁:Gh}(m:(d,o)∈G.news) (g:G.g d=.it) (n:∀ a∈G₁.news.map (·.1),a<d) (x:Ext k a_ G₁) (y:Ext k G₁ G) (l:L.P G₁):zY a_ d o L G
noncomputable def Pn.it{k:Addr}(a_:Gh) (d:Addr) (o:Obj) (L:Pn k):Pn k:=⟨zY a_ d o L,λG G' x h=>h.rec λm g n x' y l=>⟨(x.at m g trivial).1,(x.at m g trivial).2,n,x',y.trans x,l⟩⟩
def Gh.adopt(G:Gh) (d:Addr) (a:Ad):Gh:=(G.own d (.main a)).bind a d
section
variable{w:World}{N:Nm}{P:Prog}{G G':Gh}{h h':MH}{a b:Ad}{r d:Addr}{o o' o2:aP}{T:Ow->Prop}
theorem Gh.cW{x:Addr}(hn:x≠d):(G.adopt d a).g x=G.g x:=aaf hn
theorem Gh.fP(ph:G.σ a=none) (hd:¬ T (G.g d)):Kp T G (G.adopt d a) :=
 ⟨λb r h=>(aaf λe=>by rw[e,ph]at h;exact nn h).trans h,λp hp hc=>⟨hp,aaf λ(e:p.1=d)=>hd (e▸hc)⟩⟩
theorem SR.child(S:SR w N P G h) (ho:h.get a=some o) (hr:G.σ a=some r) (g:fu o o') (hb:h.get b=none) (Qk:∀ h,¬ jI h b) (hg:∀ e,h'.get e=if e=a then some o' else if e=b then some o2 else h.get e) (hf:∀ e,jI h' e->jI h e)
  (hn:(G'.news.map (·.1)).Nodup) (hl:∀ a∈G'.news.map (·.1),1<a) (ph:∀ e,G'.σ e=if e=b then some d else G.σ e) (hv:bK G G') (hk:∀ p∈G.news,G.g p.1≠.it->G.g p.1≠.main a->G.g p.1≠.dW a->p∈G'.news/\G'.g p.1=G.g p.1)
  (hm:MO w N P G' a r o') (uf:MO w N P G' b d o2) (hp:CE h' b):SR w N P G' h' :=
 have Us:a≠b:=λe=>by rw[e,hb]at ho;exact nn ho
 S.chg (λe=>e=a∨e=b) hn hl hv (λe q=>⟨(hg e).trans ((aaf λz=>q (.inl z)).trans (aaf λz=>q (.inr z))),(ph e).trans (aaf λz=>q (.inr z))⟩)
  (λe q p hp hc=>hk p hp (λz=>hc.elim (λy=>nomatch z.symm.trans y) λy=>nomatch z.symm.trans y) (λz=>hc.elim (λy=>q (.inl (Ow.main.inj (y.symm.trans z)))) λy=>nomatch z.symm.trans y) λz=>hc.elim (λy=>nomatch z.symm.trans y) λy=>q (.inl (Ow.dW.inj (y.symm.trans z))))
  (λe q=>q.elim (λz=>by clear hk;subst z;exact⟨o',r,(hg _).trans (aae rfl),(ph _).trans ((aaf Us).trans hr),hm,λdZ e=>aah (ho.symm.trans e)▸g,λe=>(nomatch e.symm.trans ho),λq=>(nomatch (S.Jz _ (hf _ q)).symm.trans ho)⟩)
   λz=>by subst z;exact⟨o2,d,(hg _).trans ((aaf Us.symm).trans (aae rfl)),(ph _).trans (aae rfl),uf,λdZ e=>(nomatch e.symm.trans hb),λO=>hp,Qk _⟩) hf
theorem MO.sQ{z:Addr}{ob:Obj}(hz:G.g z=.main a∨G.g z=.dW a) (hb:b≠a) (m:MO w N P G b d o2):MO w N P (G.upd z ob) b d o2 :=
 m.keeps (Gh.fc λq=>hz.elim (λy=>nomatch y.symm.trans q) λy=>nomatch y.symm.trans q) λp hp hc=>⟨aR hp λe=>by
  rw[e]at hc;rcases hz with y | y<;>rcases hc with q | q<;>rw[y]at q
  ·exact hb (Ow.main.inj q).symm
  ·exact nomatch q
  ·exact nomatch q
  ·exact hb (Ow.dW.inj q).symm,rfl⟩
end
section
variable{Z:b_}{n:Nat}{F:Fm}{X:EC Z n F}{env:En}{L:Pn X.c.bk}{s:Shared}{E:Value->Shared->Prop}{o:V}{ov:Value}{G:Gh}{m:Str->Option Value}{h h':MH}{hp cE:Heap}{a b:Ad}{tk k:Nat}{K:T}{r d:Addr}{c:Cx}{R:MH->Prop}
theorem Ow.KZ:¬ Ow.en .it:=id
theorem zZ{x y:Addr}{u v:Ow}(g:G.g x=u) (g':G.g y=v) (n:u≠v):x≠y:=λe=>n (g.symm.trans (e▸g'))
theorem Kp.but{S:Ow->Prop}{G G' G₁:Gh}{d:Addr}(y:Kp S G₁ G) (n:d∉G₁.news.map (·.1)) (σ:∀ a r,G.σ a=some r->G'.σ a=some r) (k:∀ p∈G.news,p.1≠d->S (G.g p.1)->p∈G'.news/\G'.g p.1=G.g p.1):Kp S G₁ G' :=
 ⟨λa r h=>σ a r (y.σ a r h),λp hp hc=>(y.keep p hp hc).elim λu v=>(k p u (λe=>n (e▸dD (o:=p.2) hp)) (by rw[v];exact hc)).imp id λe=>e.trans v⟩
theorem At.child{mo mo' o2:aP}{ob jk:Obj}{z:Addr}(f:X.fm m) (S:cj Z X.c G m env h hp) (l:zY X.a_ d ob L G) (r':R h') (ho:h.get a=some mo) (hr:G.σ a=some r) (g:fu mo mo') (hb:h.get b=none) (Qk:∀ h,¬ jI h b) (Wk:b≠a)
  (hg:∀ e,h'.get e=if e=a then some mo' else if e=b then some o2 else h.get e) (hf:∀ e,jI h' e->jI h e) (hz:G.g z=.main a∨G.g z=.dW a) (hm:bK G ((G.adopt d b).upd z jk)->VR Z.N ((G.adopt d b).upd z jk) (.ref b) (.ref d)->(∀ x,x≠d->(G.adopt d b).g x=G.g x)->MO Z.w Z.N Z.P ((G.adopt d b).upd z jk) a r mo') (uf:(d,ob)∈(G.adopt d b).news->(G.adopt d b).g d=.main b->bK G (G.adopt d b)->MO Z.w Z.N Z.P (G.adopt d b) b d o2) (JD:CE h' b)
  (F':Fr X.c.h₀ X.c.L cE m) (N':News X.c.h₀ X.c.L cE (G.upd z jk).news):X.At env L R (X.s cE tk):=by
 cases l with | mk l1 l2 l3 l4 l5 l6 =>
 have ph:=S.sr.jJ hb;have zd:z≠d:=λe=>by rw[e,l2]at hz;rcases hz with y | y<;>exact nomatch y
 have jO:(G.adopt d b).g z=.main a∨(G.adopt d b).g z=.dW a:=by rw[Gh.cW zd];exact hz
 have kp:∀ {T:Ow->Prop},¬ T .it->¬ T (G.g z)->Kp T G ((G.adopt d b).upd z jk):=λt1 t2=>Kp.trans (Gh.fP ph (l2▸t1)) (Gh.fc (by rw[Gh.cW zd];exact t2))
 have nz:∀ {T:Ow->Prop},¬ T (.main a)->¬ T (.dW a)->¬ T (G.g z):=λh1 h2=>by rcases hz with y | y<;>rw[y]<;>assumption
 have vm:bK G ((G.adopt d b).upd z jk):=kp (λe=>nomatch e) (nz (T:=(·=.ey)) (λe=>nomatch e) λe=>nomatch e)
 have Wl:bK G (G.adopt d b):=Gh.fP ph (by rw[l2];exact λe=>nomatch e)
 have xx:Ext X.c.bk _ ((G.adopt d b).upd z jk):=l5.but (λh=>aaW _ (l3 d h)) vm.σ λp hp hd hc=>⟨aR hp λe=>nz (T:=Ow.ex X.c.bk) id id (e▸hc),Gh.cW hd⟩
 have rb:VR Z.N ((G.adopt d b).upd z jk) (.ref b) (.ref d):=⟨d,rfl,aae rfl⟩;exact⟨l4.trans xx,f,S.to (S.sr.child ho hr g hb Qk hg hf ((fN _ _ _).symm▸S.sr.nodup) (Gh.rA S.sr.low) (λO=>rfl) vm (λp hp h1 h2 h3=>⟨aR hp λe=>hz.elim (λy=>h2 (e▸y)) λy=>h3 (e▸y),Gh.cW λe=>h1 (e▸l2)⟩) (hm vm rb λO=>Gh.cW) ((uf l1 (aae rfl) Wl).sQ jO Wk) JD) (kp Ow.KZ (nz (T:=Ow.en) id id)) F' N',L.st _ _ xx l6,r'⟩
theorem cj.lt(S:cj Z c G m env h hp):∀ a∈G.news.map (·.1),a<hp.objs.size:=λa ha=>(aaG.mp ha).elim λp q=>q.2▸Heap.lt_size (S.nw p q.1).1
theorem At.own{ob:Obj}(x:Ext X.c.bk X.a_ G) (f:X.fm m) (S:cj Z X.c G m env h hp) (l:L.P G) (r:R h) (F':Fr X.c.h₀ X.c.L cE m) (N':News X.c.h₀ X.c.L cE ((hp.objs.size,ob)::G.news)):X.At env (.it X.a_ hp.objs.size ob L) R (X.s cE tk) :=
 ⟨x.trans (Gh.bL S.fresh),f,S.add X.ok F' N',⟨Gh.e_,Gh.jK,S.lt,x,Gh.bL S.fresh,l⟩,r⟩
theorem At.z_{c k:Nat}{fs:List (Nat×V)}(S:SR Z.w Z.N Z.P G h) (e:h.get a=some (.inst c fs)) (n:br k fs=none):h.get (.fld a k)=none:=by
 cases q:h.get (.fld a k) with
 |none=>rfl
 |some mo=>exact(S.par _ _ q).elim (λ⟨c',KA,v,h1,h2⟩=>by rw[e]at h1;cases h1;exact nn (n.symm.trans h2)) λ⟨es,h1⟩=>nomatch e.symm.trans h1
theorem At.n5{cl:Nat}{fs:List (Nat×V)}{ob:Obj}{o2:aP}{Q:Unit->Shared->Prop}(f:X.fm m) (S:cj Z X.c G m env h hp) (l:zY X.a_ d ob L G) (hr:G.σ a=some r) (e:h.get a=some (.inst cl fs)) (hn:br k fs=none) (hk:Z.P.fld cl k=true) (hlen:fs.length<500)
  (uf:(d,ob)∈(G.adopt d (.fld a k)).news->(G.adopt d (.fld a k)).g d=.main (.fld a k)->bK G (G.adopt d (.fld a k))->MO Z.w Z.N Z.P (G.adopt d (.fld a k)) (.fld a k) d o2)
  (r':R ((h.set (.fld a k) o2).set a (.inst cl (dY k (.ref (.fld a k)) fs)))) (q:∀ s,X.At env L R s->Q () s):X.wp (PySem.setAttr (.ref r) (Z.N.an k) (.ref d)) Q E (X.s hp tk):=by
 cases S.sr.inst hr e with | @mk dx es j _ _ m' g md CJ fr kk _ =>
 have fo:=X.b.fld _ _ hk;have b0:=At.z_ S.sr e hn;have ld:G.g d=.it:=l.rec λO g O O O O=>g
 have fl:=((fr.aI (Gh.fP (d:=d) (S.sr.jJ b0) (by rw[ld];exact λe=>nomatch e))).put (v:=.ref (.fld a k)) (u:=.ref d) (j:=PyData.keyHash Z.w.params (Z.N.an k)) (t:=(X.s hp tk).toks+1) X.b hk ⟨d,rfl,aae rfl⟩ kk).length
 refine set_dict S.fr X.ok.X S.nw (W.InstAt.of_news S.nw m' md) rfl fo.sa fo.po fo.tk fo.hd fr.isSome (es':=_) (n':=_) rfl (dR S.sr.nodup md) (fl▸aaj (eD _ _ _) (aaj hlen (by decide))) λh' F' N'=>?_
 exact q _ (At.child f S l r' e hr (.put (u:=0)) b0 (λO q=>q) (Ne.symm Ad.fld_ne) (λO=>rfl) (λO q=>jI.set (jI.set q)) (.inr CJ) (λvm rb nd=>.inst (aR m' (zZ g CJ λe=>nomatch e)) ((nd _ (zZ g ld λe=>nomatch e)).trans g) (aD md) ((nd _ (zZ CJ ld λe=>nomatch e)).trans CJ) ((fr.aI vm).put X.b hk rb kk) (lh (Q:=λj=>Z.P.fld cl j=true) hk kk) (aaj (eD _ _ _) hlen)) uf
  ((nW (k:=k) (v:=.ref (.fld a k)) (.inl rfl)).elim λv q=>.inl ⟨cl,_,v,MH.eU,q⟩) F' N')
end
inductive CM(N:Nm) (G:Gh):List V->Value->Prop where
 |no:CM N G [] .none
 |one {v:V}{u:Value}(r:VR N G v u):CM N G [v] u
theorem CM.ext{N:Nm}{G G':Gh}{k:Addr}{vs:List V}{u:Value}(x:Ext k G G') (h:CM N G vs u):CM N G' vs u:=h.rec .no λr=>.one (r.ext x)
noncomputable def Pn.pt{k:Addr}(N:Nm) (v:List V) (u:Value) (L:Pn k):Pn k:=⟨λG=>CM N G v u/\L.P G,λG G' x h=>⟨h.1.ext x,L.st G G' x h.2⟩⟩
theorem CM.is{N:Nm}{G:Gh}{vs:List V}{u:Value}{o:Option Int}(h:CM N G vs u) (e:jB vs=some o):IsPart u o:=by
 cases h with
 |no=>cases e;exact .none
 |@one v _ r=>cases v with
  |int i=>cases e;exact r.elim λt e=>e▸.int i t
  |_=>exact nn e
inductive K3(N:Nm) (G:Gh) (vs:List Value) (lo hi:Option Int):V->Prop where
 |mk {ys:List V}{us:List Value}(e:slicePick vs.toArray lo hi none=us.toArray) (r:bM N G ys us) (l:us.length<=vs.length):K3 N G vs lo hi (.lst ys)
theorem K4{N:Nm}{G:Gh}{xs:List V}{vs:List Value}{lo hi:Option Int}{r:V}(q:bM N G xs vs) (e:cut xs lo hi=some r):K3 N G vs lo hi r:=by
 cases lo with
 |none=>cases hi with
  |none=>exact nn e
  |some b =>
   refine cJ (gd e) λh e=>?_
   cases e;have:=slicePick_upto' vs.toArray b.toNat;rw[Int.toNat_of_nonneg h]at this;exact .mk (this.trans (by simp)) (q.take _) (List.length_take_le' _ _)
 |some a=>cases hi with
  |none =>
   refine cJ (gd e) λh e=>?_
   cases e;have:=slicePick_from' vs.toArray a.toNat;rw[Int.toNat_of_nonneg h]at this;exact .mk (this.trans (by simp)) (q.drop _) (by rw[List.length_drop];exact Nat.sub_le _ _)
  |some b =>
   refine cJ (gd e) λh e=>?_
   cases e;have el:=q.length;have:=slicePick_run vs.toArray a.toNat b.toNat (by rw[aaT];exact el▸Int.toNat_le.mpr h.2.2) (Int.toNat_le_toNat h.2.1)
   rw[Int.toNat_of_nonneg h.1,Int.toNat_of_nonneg (Int.le_trans h.1 h.2.1)]at this;exact .mk (this.trans (by simp)) ((q.drop _).take _) (aaj (List.length_take_le' _ _) (by rw[List.length_drop];exact Nat.sub_le _ _))
theorem u_{h:MH}{o r:V}{lo hi:Option Int}(e:slice h o lo hi=some r):JB o=false/\∃ xs,bW h o=some xs/\cut xs lo hi=some r:=by
 cases o with
 |tup _=>exact nn e
 |_=>exact⟨rfl,aap.mp e⟩
theorem Aa{o v:V}(e:Ek o=some v):∃ xs,o=.lst xs/\.lst xs.reverse=v:=by
 cases o with
 |lst xs=>exact⟨xs,rfl,aah e⟩
 |_=>exact nn e
section
variable{Z:b_}{n:Nat}{F:Fm}{X:EC Z n F}{env:En}{L:Pn X.c.bk}{s:Shared}{E:Value->Shared->Prop}{o:V}{ov:Value}{G:Gh}{m:Str->Option Value}{h h':MH}{hp cE:Heap}{a b:Ad}{tk k:Nat}{r d:Addr}{c:Cx}{R:MH->Prop}
theorem At.ri{K:V->T}{l u:List V}{lv uv:Value}{Q:Value->Shared->Prop}{value:PySem.Expr}{e1 e2:Option PySem.Expr}{pos:Pos}(p:X.At env (.pt Z.N u uv (.pt Z.N l lv (.v Z.N o ov L))) (X.R (.get (λh=>(jB l).bind λl=>(jB u).bind λu=>slice h o l u) K)) s) (q:∀ v u s,X.At env (.v Z.N v u L) (X.R (K v)) s->Q u s) :
  X.wp (subscriptTail value (.Slice e1 e2 none pos) ov (.ref s.heap.objs.size)) Q E { s with heap:=s.heap.push { cls:=.type "slice",data:=.fields #[lv,uv,.none] } }:=by
 refine p.rec λ{G hp tk h m} x f S l r=>?_
 clear p;refine az (eA r) λv e r=>?_
 refine az (aap.mp e) λlo e1 e=>?_
 refine az (aap.mp e) λhi e2 e=>?_
 refine Cv (u_ e) λt xs e3 e=>?_
 have S':=S.keeps λb o e=>Heap.get?_push_of_some { cls:=.type "slice",data:=.fields #[lv,uv,.none] } e
 obtain⟨a,vs,j,rfl,g,rs,l'⟩:=(S'.seq l.2.2.1 e3).list t;cases K4 rs e with | mk ep KY l2 =>
 refine tail_any (ops:=[_,_]) ⟨_,g,rfl⟩ PySem.F.slot_list_getitem.lookup (wpAny_getItem_list_slice (aJ g) (Heap.IsSliceOf.new ..) (l.2.1.is e1) (l.1.is e2) .none (λe=>nomatch e) ?_ (by rw[aaT];exact aaj l' (by decide))) rfl
 rw[ep];exact q _ _ _ (At.lst (j:=0) x f S' l.2.2.2 r KY (KY.length▸aaj l2 l') (S'.fr.push _) (News.push S'.fr S'.nw _))
theorem At.rev{K:V->T}{Q:Value->Shared->Prop}{y:Str}{yp p1 p2 p3:Pos}{j:Nat}(p:X.At env (.v Z.N o ov L) (X.R (.get (λO=>Ek o) K)) s) (q:∀ v u s,X.At env (.v Z.N v u L) (X.R (K v)) s->Q u s) :
  X.wp (eval (.Slice none none (some (.UnaryOp .USub (.Constant (.int 1) j p1) p2)) p3) X.c.ak) (λi s=>X.wp (subscriptTail (.Name y yp) (.Slice none none (some (.UnaryOp .USub (.Constant (.int 1) j p1) p2)) p3) ov i) Q E s) E s:=by
 refine p.rec λ{G hp tk h m} x f S l r=>?_
 clear p;refine az (eA r) λv e r=>?_
 refine wpAny_Slice (wpAny_evalPart_none (wpAny_evalPart_none (wpAny_evalPart_some (UnaryOp_ (PySem.wpAny_Constant_int (PyProof.Rows.neg_int ?_))))))
 ·refine az (Aa e) λxs ho hv=>?_
  have l0:Sq G ax (bM Z.N G xs) ov:=VR.pO (ho▸l.1);refine l0.rec λ{a vs k'} m1 g1 l1 rs=>?_
  clear l0;refine krv_lit (zs:=vs.reverse) (ops:=[_,_]) S.fr S.nw (aJ (S.nw _ m1).1) (.int _ _) (by simp) (λD h' F' N' iw=>?_) rfl (λO=>rfl) (by rw[aaT];exact aaj l1 (by decide))
  have hD:D∉G.news.map (·.1):=λhm=>(aaG.mp hm).elim λq h=>absurd (iw q h.1) (h.2▸aaW _)
  have ex:Kp (Ow.ex X.c.bk) G (G.add D (ax vs.reverse 0) .ey):=Gh.bL hD;exact q v _ _ ⟨x.trans ex,f,S.to (S.sr.add hD (Nat.lt_trans (S.sr.low a (dD m1)) (iw _ m1))) (Gh.bL hD) F' N',⟨hv▸Sq.mk Gh.e_ Gh.jK (by rw[List.length_reverse];exact l1) (rs.reverse.ext ex),L.st _ _ ex l.2⟩,r⟩
theorem At.nQ{vs:List V}{us:List Value}{K:T}{Q:Unit->Shared->Prop}(p:X.At env (.v Z.N o ov (.it X.a_ d (ax us 0) (.vs Z.N vs us L))) (X.R (fx (λh=>Mine.Internal.nQ Z.P h o k vs) K)) s) (q:∀ s,X.At env L (X.R K) s->Q () s):X.wp (PySem.setAttr ov (Z.N.an k) (.ref d)) Q E s:=by
 refine p.rec λ{G hp tk h m} x f S l r=>?_
 clear p;refine az (iR r) λh' e r=>?_
 obtain⟨a,jM,mo,-,hu,hr,hg,e⟩:=eE l.1 e;obtain⟨c,fs,rfl,e⟩:=iA e;obtain⟨⟨hn,hk,hl,hv⟩,e⟩:=gd e;rw[hu];exact At.n5 (o2:=.list vs) (R:=X.R K) f S l.2 hr hg hn hk hl (λm g vm=>.list m g (l.2.rec λO O O O y l=>(l.1.ext y).aI vm) (aaj hv (by decide))) (aah e▸r) λs a=>q s (At.imp a λO O l r=>⟨l.2,r⟩)
theorem At.nR{K:T}{Q:Unit->Shared->Prop}(p:X.At env (.v Z.N o ov (.it X.a_ d (dictOf [] 0) L)) (X.R (fx (λh=>Mine.Internal.nR Z.P h o k) K)) s) (q:∀ s,X.At env L (X.R K) s->Q () s):X.wp (PySem.setAttr ov (Z.N.an k) (.ref d)) Q E s:=by
 refine p.rec λ{G hp tk h m} x f S l r=>?_
 clear p;refine az (iR r) λh' e r=>?_
 obtain⟨a,jM,mo,-,hu,hr,hg,e⟩:=eE l.1 e;obtain⟨c,fs,rfl,e⟩:=iA e;obtain⟨⟨hn,hk,hl⟩,e⟩:=gd e;rw[hu];exact At.n5 (o2:=.dict []) (R:=X.R K) f S l.2 hr hg hn hk hl (λm g vm=>.dict m g .nil (aaV _) .nil) (aah e▸r) q
theorem At.K5{K:T}(p:X.At env (.v Z.N o ov L) (X.R (fx (λh=>ma h o) K)) s):∃ r vs j,ov=.ref r/\s.heap.get? r=some (ax vs j) :=
 p.rec λ{G hp tk h m} x f S l r=>by
  refine az (iR r) λh' e r=>?_
  obtain⟨a,jM,mo,-,hu,hr,hg,e⟩:=eE l.1 e;obtain⟨xs,rfl,e⟩:=gc e;cases S.sr.list hr hg with | mk _ _ m' _ _ _=>exact⟨_,_,_,hu,(S.nw _ m').1⟩
theorem At.lZ{K:T}{Q:Value->Shared->Prop}(p:X.At env (.it X.a_ d (ax [] 0) (.v Z.N o ov L)) (X.R (fx (λh=>ma h o) K)) s) (q:∀ s,X.At env L (X.R K) s->Q .none s):X.wp (call (.builtin "list.append") [ov,.ref d]) Q E s:=by
 refine p.rec λ{G hp tk h m} x f S l r=>?_
 clear p;refine az (iR r) λh' e r=>?_
 obtain⟨a,jM,mo,-,hu,hr,hg,e⟩:=eE (l.rec λO O O O y l=>l.1.ext y:VR Z.N G o ov) e
 obtain⟨xs,rfl,e⟩:=gc e;refine cJ (gd e) λhl e=>?_
 cases S.sr.list hr hg with | @mk vs j _ _ m' g rs _ =>
 have ld:G.g d=.it:=l.rec λO g O O O O=>g
 rw[hu];refine append_K (its:=vs.toArray) (n:=j) S.fr S.nw (dR S.sr.nodup m') (λh' F' N'=>?_) (by rw[aaT,<- rs.length];exact aaj (aay hl) (by decide))
 rw[show W.listOf (vs.toArray.push (.ref d)) (j+1)=ax (vs++[.ref d]) (j+1) from by rw[W.listOf,List.push_toArray]]at N'
 have b0:h.get (.item a xs.length)=none:=by
  cases q:h.get (.item a xs.length) with
  |none=>rfl
  |some mo =>
   refine az (S.sr.par _ _ q) λys z1 z2=>?_
   rw[hg]at z1;cases z1;exact absurd z2 (aaW _)
 refine q _ (At.imp (At.child f S l (R:=X.R K) (aah e▸r) hg hr (mo':=.list (xs++[.ref (.item a xs.length)])) (o2:=.list []) ⟨_,rfl,by rw[aag];exact aaF _ _⟩ b0 (λO q=>q) (Ne.symm Ad.lY) (λe=>?_) (λO q=>jI.set (jI.set q)) (.inl g)
  (λvm rb nd=>.list (aD m') ((nd _ (zZ g ld λe=>nomatch e)).trans g) ((rs.aI vm).append (.one rb)) (by rw[aag];exact aaj (Nat.succ_le_of_lt hl) (by decide))) (λm g vm=>.list m g rfl (aaV _)) ⟨_,(MH.gM Ad.lY).trans MH.eU,by rw[aag];exact aaN _⟩ F' N') λO O l r=>⟨l.2,r⟩)
 show(if e=.item a xs.length then _ else if e=a then _ else _)=_
 by_cases h1:e=a
 ·rw[aae h1,aae h1,aaf (h1▸Ad.lY)]
 ·rw[aaf h1,aaf h1]
end
noncomputable def ba(x:Str):Bool:= !(x==("__debug__" : Str))&& !(x==("__classdict__" : Str))
def Fm.glob(F:Fm) (x:Str):Bool:=F.kd.lookup x==some .globalImplicit&&ba x
theorem bD{x:Str}(h:ba x=true):(x==("__debug__" : Str))=false/\(x==("__classdict__" : Str))=false :=
 (aaC.mp h).imp (Bool.not_eq_true' _).mp (Bool.not_eq_true' _).mp
theorem ae{a b:Bool}(h:(a&&b)=true):a=true/\b=true:=aaC.mp h
section
variable{Z:b_}{n:Nat}{F:Fm}{X:EC Z n F}{env:En}{L:Pn X.c.bk}{s:Shared}{E:Value->Shared->Prop}{o:V}{ov:Value}{G:Gh}{m:Str->Option Value}{h h':MH}{hp cE:Heap}{a b:Ad}{tk k i:Nat}{r d:Addr}{c:Cx}{R:MH->Prop}{y:Str}{pos:Pos}{M:Model}
theorem Wm{c:Nat->List V->MH->Option aB}{E:En}{i:Nat}{K:V->En->T}{h:MH}{r:Fl×St}(e:run c (rd E i K) h=some r):(∃ v,E[i]? =some (some (.val v))/\run c (K v E) h=some r)∨∃ xs,E[i]? =some (some (.bH xs))/\run c (K (.lst xs) (setEnv E i (.val (.lst xs)))) h=some r:=by
 revert e;unfold rd;cases E[i]? with
 |none=>exact λe=>nn e
 |some o=>cases o with
  |none=>exact λe=>nn e
  |some w=>cases w with
   |val v=>exact λe=>.inl ⟨_,rfl,e⟩
   |bH v=>exact λe=>.inr ⟨_,rfl,e⟩
theorem Gh.pS{G:Gh}{d:Addr}{u v:Ow}(g:G.g d=u):Kp (·≠u) G (G.own d v):=⟨λO O h=>h,λp hp hc=>⟨hp,aaf λ(e:p.1=d)=>hc (e▸g)⟩⟩
inductive Uu(X:EC Z n F) (L:Pn X.c.bk) (K:V->En->T) (y:Str):Shared->Prop where
 |mk {v:V}{u:Value}{dH:En}{G:Gh}{hp:Heap}{tk:Nat}{h:MH}{m:Str->Option Value}(a:dG X.c G m y u) (p:X.At dH (.v Z.N v u L) (X.R (K v dH)) (X.s hp tk)) (S:cj Z X.c G m dH h hp):Uu X L K y (X.s hp tk)
theorem At.read{K:V->En->T}(hx:X.c.nm[i]? =some y) (p:X.At env L (X.R (rd env i K)) s):Uu X L K y s :=
 p.rec λ{G hp tk h m} x f S l r=>by
  rcases Wm r with⟨v,e,r⟩ | ⟨xs,e,r⟩
  ·cases S.env.mv i _ y e hx with | val rv a=>exact⟨a,⟨x,f,S,⟨rv,l⟩,r⟩,S⟩
  ·cases S.env.mv i _ y e hx with | @bH _ ro vs j n' g rs l' a =>
   have k:Kp (·≠.bH X.c.bk i) G (G.own ro .ey):=Gh.pS g;have ex:Ext X.c.bk G (G.own ro .ey):=k.weak λu h e=>by rw[e]at h;exact h rfl
   have a':=a.kp k (λe=>nomatch e)
   have rv:VR Z.N (G.own ro .ey) (.lst xs) (.ref ro):=.mk n' (aae rfl) (rs.length▸l') (rs.ext ex);have S':cj Z X.c (G.own ro .ey) m (setEnv env i (.val (.lst xs))) h hp:=⟨S.sr.own (by rw[g];trivial),S.env.set X.ok.nm hx (.val rv a') λj y w hj O q=>q.kp k (λe=>nomatch e) (λe=>nomatch e) λe=>hj (Ow.bH.inj e).2,S.fr,S.nw⟩
   exact⟨a',⟨x.trans ex,f,S',⟨rv,L.st _ _ ex l⟩,r⟩,S'⟩
theorem gf{u:Value}(ok:fB Z n c) (S:cj Z c G m env h hp) (a:dG c G m y u) (hd:ba y=true) {A:Around}{Q:Value->Shared->Prop}(hQ:Q u { s with heap:=hp,toks:=tk }):wpAny M A (loadName c.ak y) Q E { s with heap:=hp,toks:=tk }:=by
 cases a with
 |loc k l e=>exact wpAny_loadName_local ok.ck k (l▸S.fr.ns) e hQ
 |@dW o es ep k n' g d s f=>exact wpAny_loadName_local (m:=nsFind es) ok.ck k ⟨o,es,ep,(S.nw _ n').1,d,s,λO=>rfl⟩ f hQ
 |@cell q o k l n' g d =>
  have hc:hp.IsCell q (some u):=⟨o,(S.nw _ n').1,d⟩;exact k.elim (λk=>wpAny_loadName_cell ok.ck k l hc hQ) λk=>wpAny_loadName_free ok.ck k l hc hQ (bD hd).2
theorem At.var{K:V->En->T}{Q:Value->Shared->Prop}(hx:F.nm[i]? =some y) (hd:ba y=true) (p:X.At env L (X.R (rd env i K)) s) (q:∀ v u env s,X.At env (.v Z.N v u L) (X.R (K v env)) s->Q u s):X.wp (eval (.Name y pos) X.c.ak) Q E s:=by
 refine(At.read (X.dE.nm▸hx) p).rec λa p S=>?_
 exact PySem.wpAny_Name (gf X.ok S a hd (q _ _ _ _ p)) (bD hd).1
theorem EC.d_(X:EC Z n F) (S:Fr X.c.h₀ X.c.L hp m) {v:Value}(h:F.glob y=true) (hn:nsIn Z.K mainGlobals y=some (some v)) {Q:Value->Shared->Prop}(hQ:Q v { s with heap:=hp,toks:=tk }):wpAny M X.c.A (eval (.Name y pos) X.c.ak) Q E { s with heap:=hp,toks:=tk } :=
 nameG_K S X.ok.X (topRead_of X.ok.T) hn hQ X.ok.cg X.ok.ck (X.dE.kd y (aam.mp (ae h).1)) (bD (ae h).2).1
theorem EC.blt(X:EC Z n F) (S:Fr X.c.h₀ X.c.L hp m) {v:Value}(h:F.glob y=true) (hb:iQ Z.K y v) {Q:Value->Shared->Prop}(hQ:Q v { s with heap:=hp,toks:=tk }):wpAny M X.c.A (eval (.Name y pos) X.c.ak) Q E { s with heap:=hp,toks:=tk } :=
 have T:=topRead_of X.ok.T
 Name_function_global X.ok.ck (X.dE.kd y (aam.mp (ae h).1)) (loadGlobal_builtin (mg:=Z.mg) (mb:=Z.mb) (by rw[X.ok.cg];exact T.g.keeps S.keep) (mg_none_of X.ok.X T.g hb.ns) (by rw[X.ok.cb];exact T.b.keeps S.keep) ((T.builtins y hb.nn).trans hb.bt) hQ) (bD (ae h).2).1
theorem At.d_{v:Value}(p:X.At env L R s) (h:F.glob y=true) (hn:nsIn Z.K mainGlobals y=some (some v)) {Q:Value->Shared->Prop}(hQ:Q v s):wpAny M X.c.A (eval (.Name y pos) X.c.ak) Q E s:=by
 cases p with | mk x f S l r=>exact X.d_ S.fr h hn hQ
theorem At.blt{v:Value}(p:X.At env L R s) (h:F.glob y=true) (hn:iQ Z.K y v) {Q:Value->Shared->Prop}(hQ:Q v s):wpAny M X.c.A (eval (.Name y pos) X.c.ak) Q E s:=by
 cases p with | mk x f S l r=>exact X.blt S.fr h hn hQ
theorem At.push{v:V}{u:Value}(p:X.At env L R s) (r:∀ G,VR Z.N G v u):X.At env (.v Z.N v u L) R s:=At.imp p λG O l q=>⟨⟨r G,l⟩,q⟩
theorem At.tok{sS:Nat}(p:X.At env L R s):X.At env L R { s with toks:=sS }:=p.rec λx f S l r=>⟨x,f,S,l,r⟩
end
structure Vw where
 ks:List PySem.Expr
 nm:Str
 k:Nat
 sc:Scope
 dk:List (Option PySem.Expr)
noncomputable def vw:PySem.Expr->Vw
 |.BoolOp _ vs _=>⟨vs,default,0,default,[]⟩
 |.BinOp a _ b _=>⟨[a,b],default,0,default,[]⟩
 |.UnaryOp _ a _=>⟨[a],default,0,default,[]⟩
 |.IfExp t a b _=>⟨[t,a,b],default,0,default,[]⟩
 |.Dict ks vs _=>⟨vs,default,0,default,ks⟩
 |.ListComp e gs sc _=>⟨e::gs.flatMap λg=>g.target::g.iter::g.ifs,default,0,sc,[]⟩
 |.Compare a _ bs _=>⟨a::bs,default,0,default,[]⟩
 |.Call f as _ _=>⟨f::as,default,0,default,[]⟩
 |.Constant _ k _=>⟨[],default,k,default,[]⟩
 |.Attribute o _ _=>⟨[o],default,0,default,[]⟩
 |.Subscript a b _=>⟨[a,b],default,0,default,[]⟩
 |.Name x _=>⟨[],x,0,default,[]⟩
 |.List es _=>⟨es,default,0,default,[]⟩
 |.Tuple es k _=>⟨es,default,k,default,[]⟩
 |.Slice l u s _=>⟨[l.getD default,u.getD default,s.getD default],default,0,default,[]⟩
 |_=>⟨[],default,0,default,[]⟩
noncomputable def hd(as:List PySem.Expr):PySem.Expr:=as.head?.getD default
noncomputable def ah(a:PySem.Expr) (i:Nat):PySem.Expr:=hd ((vw a).ks.drop i)
def gF(o:PySem.Expr):Prop:=∀ attr env whole,attributeBase o attr env whole=whole
theorem sT{o:PySem.Expr}{attr:Str}{pos:Pos}{env:Env}(h:gF o):eval (.Attribute o attr pos) env=(do
  let ov <- eval o env
  standAt pos.atName
  let r <- holding [ov] (PySem.getAttr ov attr true)
  letTemporaryGo o ov r
  pure r):=aab (λx:Sem Value=>x >>= λov=>standAt pos.atName >>= λO=>holding [ov] (PySem.getAttr ov attr true) >>= λr=>letTemporaryGo o ov r >>= λO=>pure r) (h attr env (eval o env))
noncomputable def bo:Bool->PySem.BoolOp
 |true=>.And
 |false=>.Or
noncomputable def cst:V->Const
 |.bool b=>.bool b
 |.int i=>.int i
 |.str s=>.str s
 |_=>.none
noncomputable def CN:V->Bool
 |.none=>true
 |.bool _=>true
 |.int _=>true
 |.str _=>true
 |_=>false
noncomputable def CO(B:Tb) (x:Str):V->Bool
 |.int i=>B.Eu.contains (x,i)
 |.tab n=>B.Ew.contains (x,n)&&decide (n<3)
 |_=>false
section
variable(Z:b_) (n:Nat) (F:Fm)
def n6{Z:b_}{n:Nat}{F:Fm}(X:EC Z n F) (me:ME) (e:PySem.Expr):Prop:=∀ (K:V->En->T) (env:En) (L:Pn X.c.bk) (s:Shared) (E Q:Value->Shared->Prop),X.At env L (X.R (tE Z.P me env K)) s->(∀ v u env s,X.At env (.v Z.N v u L) (X.R (K v env)) s->Q u s)->X.wp (eval e X.c.ak) Q E s
def ay(me:ME) (e:PySem.Expr):Prop:=∀ X:EC Z n F,n6 X me e
structure du(k:Nat) (me:dM) (es:List PySem.Expr):Prop where
 len:es.length=k
 nil:es=[]->me=.nil
 star:∀ y∈es,ni 22 y=true
 snd:∀ (X:EC Z n F) (K:List V->En->T) (env:En) (L:Pn X.c.bk) (s:Shared) (pos:Pos) (E:Value->Shared->Prop) (Q:List Value->Shared->Prop),X.At env L (X.R (jF Z.P me env K)) s->(∀ vs us env s,vs.length=k->X.At env (.vs Z.N vs us L) (X.R (K vs env)) s->Q us s)->X.wp (spliced (backTo pos (starEach es X.c.ak))) Q E s
def fQ(me:MT) (e:PySem.Expr):Prop:=∀ (X:EC Z n F) (K:Bool->En->T) (env:En) (L:Pn X.c.bk) (s:Shared) (E:Value->Shared->Prop) (Q:Bool->Shared->Prop),X.At env L (X.R (tT Z.P me env K)) s->(∀ b env s,X.At env L (X.R (K b env)) s->Q b s)->X.wp (PySem.isTrue e X.c.ak (eval e X.c.ak)) Q E s
def lA(o:Bool) (me:gZ) (es:List PySem.Expr):Prop:=∀ (X:EC Z n F) (K:Bool->En->T) (env:En) (L:Pn X.c.bk) (s:Shared) (E:Value->Shared->Prop) (Q:Bool->Shared->Prop),X.At env L (X.R (sH Z.P o me env K)) s->(∀ b env s,X.At env L (X.R (K b env)) s->Q b s)->X.wp (allTrue (bo o) es X.c.ak) Q E s
def Ab(o:Bool) (me:dM) (es:List PySem.Expr):Prop:=∀ (e:ME) (y:PySem.Expr),ay Z n F e y->∀ (X:EC Z n F) (K:V->En->T) (env:En) (L:Pn X.c.bk) (s:Shared) (pos:Pos) (E Q:Value->Shared->Prop),X.At env L (X.R (tE Z.P e env λv E=>Kw Z.P o v me E K)) s->(∀ v u env s,X.At env (.v Z.N v u L) (X.R (K v env)) s->Q u s)->X.wp (eval (.BoolOp (bo o) (y::es) pos) X.c.ak) Q E s
end
section
variable{Z:b_}{n:Nat}{F:Fm}{e l r e':ME}{es:dM}{t t' t2:MT}{ts:gZ}{o y z a b:PySem.Expr}{ys:List PySem.Expr}{pos:Pos}{k j i:Nat}{x:Str}
theorem EM{v:V}(h:CN v=true):ay Z n F (.lit v) (.Constant (cst v) j pos):=λX K env L s E Q a q=>by
 cases v with
 |none=>exact Constant_none (q _ _ _ _ (At.push (v:=.none) a λO=>rfl))
 |bool b=>exact lit_bool _ λv tk h=>q (.bool b) _ _ _ (At.push (At.tok a) λG=>by cases h s.heap;rfl)
 |int i=>exact PySem.wpAny_Constant_int (q (.int i) _ _ _ (At.push (At.tok a) λO=>⟨_,rfl⟩))
 |str x=>exact wpAny_Constant_str (q (.str x) _ _ _ (At.push (At.tok a) λO=>⟨_,rfl⟩))
 |_=>exact ff h
theorem vb(h:(F.nm[i]? ==some x&&ba x)=true):ay Z n F (.var i) (.Name x pos):=λX K env L s E Q a q=>At.var (aam.mp (ae h).1) (ae h).2 a q
theorem EN{v:V}(h:(F.glob x&&CO Z.B x v)=true):ay Z n F (.d_ v) (.Name x pos):=λX K env L s E Q a q=>by
 refine cJ (ae h) λh1 h2=>?_
 clear h;cases v with
 |int i=>exact(X.b.Eu x i (List.contains_iff_mem.mp h2)).elim λt ht=>At.d_ a h1 ht (q (.int i) _ _ _ (At.push a λO=>⟨t,rfl⟩))
 |tab i=>exact At.d_ a h1 (X.b.Ew x i (List.contains_iff_mem.mp (ae h2).1)) (q (.tab i) _ _ _ (At.push a λO=>⟨rfl,aaK (ae h2).2⟩))
 |_=>exact ff h2
theorem Ac(hs:gF o) (h:ay Z n F e o):ay Z n F (.attr e k) (.Attribute o (Z.N.an k) pos) :=
 λX K env L s E Q a q=>Attribute_any_ (h X _ env L s E _ a λv u env s a=>At.attr a λv u s a=>q v u env s a) (sT hs)
theorem Ae(hy:ni 26 y=true) (h1:ay Z n F e o) (h2:ay Z n F e' y):ay Z n F (.item e e') (.Subscript o y pos) :=
 λX K env L s E Q a q=>Subscript_ (h1 X _ env L s E _ a λv u env s a=>h2 X _ env _ s E _ a λv u env s a=>At.item hy a λv u s a=>q v u env s a)
theorem EO{op:Op}(h1:ay Z n F l a) (h2:ay Z n F r b):ay Z n F (.bin op l r) (.BinOp a (JC op) b pos) :=
 λX K env L s E Q a q=>wpAny_BinOp (h1 X _ env L s E _ a λv u env s a=>h2 X _ env _ s E _ a λv u env s a=>At.bin a λv u s a=>q v u env s a)
theorem EP{op:Cm}(hb:behindInMarks (zr op) b=false) (h1:ay Z n F l a) (h2:ay Z n F r b):ay Z n F (.cmp op l r) (.Compare a [zr op] [b] pos) :=
 λX K env L s E Q a q=>wpAny_Compare1 (h1 X _ env L s E _ a λv u env s a=>h2 X _ env _ s E _ a λv u env s a=>At.cmp a λb s a=>q (.bool b) _ env s (At.push a λO=>rfl)) hb
theorem ER(h:ay Z n F e o):ay Z n F (.neg e) (.UnaryOp .USub o pos) :=
 λX K env L s E Q a q=>UnaryOp_ (h X _ env L s E _ a λv u env s a=>At.neg a λv u s a=>q v u env s a)
theorem ES(h:ay Z n F e o):ay Z n F (.inv e) (.UnaryOp .Invert o pos) :=
 λX K env L s E Q a q=>UnaryOp_ (h X _ env L s E _ a λv u env s a=>At.inv a λv u s a=>q v u env s a)
theorem K6(h:ay Z n F e o):ay Z n F (.nt e) (.UnaryOp .Not o pos) :=
 λX K env L s E Q a q=>UnaryOp_ (h X _ env L s E _ a λv u env s a=>not_of (At.truthy a λb s a=>q (.bool (!b)) _ env s (At.push (At.drop a) λO=>rfl)))
theorem ET(h1:fQ Z n F t o) (h2:ay Z n F l a) (h3:ay Z n F r b):ay Z n F (.ite t l r) (.IfExp o a b pos) :=
 λX K env L s E Q a q=>IfExp_ (h1 X _ env L s E _ a λb env s a=>match b,a with
  |true,a=>h2 X K env L s E Q a q
  |false,a=>h3 X K env L s E Q a q)
theorem EU(hk:decide (k<=1000)=true) (h:du Z n F k es ys):ay Z n F (.lst es) (.List ys pos):=λX K env L s E Q a q=>List_ (h.snd X _ env L s pos E _ a λvs us env s hl a=>by
 cases a with | mk x f S l r=>exact newList_N S.fr S.nw (λh' F' N'=>q (.lst vs) _ _ _ (At.lst (j:=0) x f S l.2 r l.1 (hl▸aaj (aaK hk) (by decide)) F' N')) (l.1.length▸hl▸aaj (aaK hk) (by decide)))
theorem EV(hk:decide (k<=1000)=true) (h:du Z n F k es ys):ay Z n F (.a9 es) (.Tuple ys j pos):=λX K env L s E Q a q=>Tuple_ (h.snd X _ env L s pos E _ a λvs us env s hl a=>by
 cases a with | mk x f S l r=>exact newTuple_N S.fr S.nw (λh' F' N'=>q (.tup vs) _ _ _ (At.tup x f S l.2 r l.1 (hl▸aaj (aaK hk) (by decide)) F' N')) (l.1.length▸hl▸aaj (aaK hk) (by decide)))
theorem Af:du Z n F 0 .nil []:=⟨rfl,λO=>rfl,λO h=>(nomatch h),λX K env L s pos E Q a q=>spliced_nil (q [] [] env s rfl (At.imp a λO O l r=>⟨⟨rfl,l⟩,r⟩))⟩
theorem vc(hs:ni 22 y=true) (h1:ay Z n F e y) (h2:du Z n F k es ys):du Z n F (k+1) (.cons e es) (y::ys) :=
 ⟨aab (·+1) h2.len,λh=>(nomatch h),λz hz=>(aau.mp hz).elim (λe=>e▸hs) (h2.star z),λX K env L s pos E Q a q=>args_cons (h1 X _ env L s E _ a λv u env s a=>h2.snd X _ env _ s pos E _ a λvs us env s hl a=>q (v::vs) (u::us) env s (aab (·+1) hl) (At.imp a λO O l r=>⟨⟨⟨l.2.1,l.1⟩,l.2.2⟩,r⟩)) ((kJ y).star hs _ _)⟩
theorem EW{o:Bool}:Ab Z n F o .nil []:=λe y h X K env L s pos E Q a q=>BoolOp_one (h X K env L s E Q a q)
theorem Ag{o:Bool}(h1:ay Z n F e y) (h2:Ab Z n F o es ys):Ab Z n F o (.cons e es) (y::ys):=λe' y' h X K env L s pos E Q a q=>by
 have g:=λenv s a=>h2 e y h1 X K env L s pos E Q a q
 clear h2;cases o with
 |true=>exact BoolOp_and (h X _ env L s E _ a λv u env s a=>At.truthy a λb s a=>match b,a with
  |true,a=>g env s (At.drop a)
  |false,a=>q v u env s a)
 |false=>exact BoolOp_or (h X _ env L s E _ a λv u env s a=>At.truthy a λb s a=>match b,a with
  |true,a=>q v u env s a
  |false,a=>g env s (At.drop a))
theorem EX(hp:(ni 0 y&&ni 3 y&&ni 5 y&&ni 15 y)=true) (h:ay Z n F e y):fQ Z n F (.val e) y :=
 λX K env L s E Q a q=>isTrue_plain (h X _ env L s E _ a λv u env s a=>At.truthy a λb s a=>q b env s (At.drop a)) ((kJ y).test hp _ _)
theorem EY{op:Cm}(hb:behindInMarks (zr op) b=false) (h1:ay Z n F l a) (h2:ay Z n F r b):fQ Z n F (.cmp op l r) (.Compare a [zr op] [b] pos) :=
 λX K env L s E Q a q=>wpAny_isTrue_Compare1 (h1 X _ env L s E _ a λv u env s a=>h2 X _ env _ s E _ a λv u env s a=>At.cmp a λb s a=>wpAny_truthy_bool (q b env s a)) hb
theorem K7(h:fQ Z n F t y):fQ Z n F (.nt t) (.UnaryOp .Not y pos):=λX K env L s E Q a q=>isTrue_not (h X _ env L s E _ a λb env s a=>q (!b) env s a)
theorem EZ(h:lA Z n F true ts ys):fQ Z n F (.cx ts) (.BoolOp .And ys pos):=λX K env L s E Q a q=>wpAny_isTrue_BoolOp (h X K env L s E Q a q)
theorem K8(h:lA Z n F false ts ys):fQ Z n F (.eZ ts) (.BoolOp .Or ys pos):=λX K env L s E Q a q=>wpAny_isTrue_BoolOp (h X K env L s E Q a q)
theorem E8(h1:fQ Z n F t o) (h2:fQ Z n F t' a) (h3:fQ Z n F t2 b):fQ Z n F (.ite t t' t2) (.IfExp o a b pos) :=
 λX K env L s E Q a q=>isTrue_IfExp (h1 X _ env L s E _ a λb env s a=>match b,a with
  |true,a=>h2 X K env L s E Q a q
  |false,a=>h3 X K env L s E Q a q)
theorem Ah{o:Bool}:lA Z n F o .nil []:=λX K env L s E Q a q=>match o,a with
 |true,a=>wpAny_allTrue_And_nil (q true env s a)
 |false,a=>wpAny_allTrue_Or_nil (q false env s a)
theorem ve{o:Bool}(h1:fQ Z n F t y) (h2:lA Z n F o ts ys):lA Z n F o (.cons t ts) (y::ys):=λX K env L s E Q a q=>by
 have g:=λenv s a=>h2 X K env L s E Q a q
 clear h2;cases o with
 |true=>exact wpAny_allTrue_And_cons (h1 X _ env L s E _ a λb env s a=>match b,a with
  |true,a=>g env s a
  |false,a=>q false env s a)
 |false=>exact wpAny_allTrue_Or_cons (h1 X _ env L s E _ a λb env s a=>match b,a with
  |true,a=>q true env s a
  |false,a=>g env s a)
end
structure gh(base G:Heap) (l:List Env) (e:Addr) (cls:Value) (news:List (Addr×Obj)) (h B:Heap) (a0:Value):Prop where
 st:base.StaysIn B
 keep:∀ b o,G.get? b=some o->b∉l.filterMap (·.frame)->B.get? b=some o
 nw:∀ q∈news,B.get? q.1=some q.2/\G.get? q.1=none/\base.get? q.1=none
 fl:Heap.FlyingW B l e cls a0 h
structure MadeX(h h':Heap) (e:Addr) (cls:Value) (ob:Obj) (a0:Value):Prop where
 keeps:∀ b o,h.get? b=some o->h'.get? b=some o
 new:h.get? e=none
 get:h'.get? e=some ob
 cls:ob.cls=cls
 data:ob.data=.fields #[a0,.none,.none,.none,.bool false,.none]
section
variable{Z:b_}{n:Nat}{F:Fm}
inductive EC.Fl(X:EC Z n F) (env:En) (L:Pn X.c.bk) (R:MH->Prop) (e:Addr):Shared->Prop where
 |mk {G:Gh}{hp n7 B:Heap}{tk:Nat}{h:MH}{m:Str->Option Value}{a0:Value}(x:Ext X.c.bk X.a_ G) (f:X.fm m) (sr:SR Z.w Z.N Z.P G h) (en:hH Z.N X.c G m env) (fr:Fr X.c.h₀ X.c.L n7 m) (rx:gh Z.base n7 (X.c.kI::X.c.outer) e (.ref Z.lf) G.news hp B a0) (up:n7.UpToSlots hp) (l:L.P G) (r:R h):X.Fl env L R e (X.s hp tk)
inductive EC.Ex(X:EC Z n F) (env:En) (L:Pn X.c.bk) (R:MH->Prop) (e:Addr):Shared->Prop where
 |fl {s:Shared}(h:X.Fl env L R e s):X.Ex env L R e s
 |md {G:Gh}{hp hm:Heap}{tk:Nat}{h:MH}{m:Str->Option Value}{ob:Obj}{a0:Value}(x:Ext X.c.bk X.a_ G) (f:X.fm m) (S:cj Z X.c G m env h hm) (mx:MadeX hm hp e (.ref Z.lf) ob a0) (l:L.P G) (r:R h):X.Ex env L R e (X.s hp tk)
inductive JE(A₀:Around):Around->Prop where
 |same:JE A₀ A₀
 |made {C:Addr}{rest:List Value}:JE A₀ (A₀.under (.builtin "type.__call__" ⟨.ref C::rest,[]⟩))
def bS(Z:b_) (n:Nat):Prop:=∀ (F:Fm) (X:EC Z n F) (f:Nat) (vs:List V) (us:List Value) (K:V->T) (xt:T) (env:En) (L:Pn X.c.bk) (s:Shared) (A:Around) (R:Result->Shared->Prop),JE X.c.A A->(f=Z.B.cf->KO X.c)->X.At env (.vs Z.N vs us L) (X.R (.call f vs K xt)) s ->
 (∀ v u s,X.At env (.v Z.N v u L) (X.R (K v)) s->R (.ok (.ret u)) s)->(∀ e s,X.Fl env L (X.R xt) e s->R (.error (.ref e)) s)->codeAny (model Z.prog Z.w) A (.call (.ref (Z.N.fA f)) ⟨us,[]⟩) R s
section
variable{X:EC Z n F}{env:En}{L:Pn X.c.bk}{s:Shared}{E:Value->Shared->Prop}{o:V}{ov:Value}{G:Gh}{m:Str->Option Value}{h h':MH}{hp cE:Heap}{tk k f:Nat}{pos p:Pos}{ys:List PySem.Expr}{es:dM}{y:Str}{e:ME}{a b:PySem.Expr}{vs:List V}{us:List Value}
theorem n8(cs:bS Z n) {K:V->T}{Q:Value->Shared->Prop}(ug:f=Z.B.cf->KO X.c) (p:X.At env (.vs Z.N vs us L) (X.R (.call f vs K .stuck)) s) (q:∀ v u s,X.At env (.v Z.N v u L) (X.R (K v)) s->Q u s):X.wp (call (.ref (Z.N.fA f)) us) Q E s :=
 wpAny_call (cs F X f vs us K .stuck env L s X.c.A _ .same ug p q λe s h=>h.rec λO O O O O O O O r=>nn r)
theorem n9(hs:∀ y∈ys,ni 22 y=true) (env:Env):((backTo pos (starEach ys env)).any λx=>x.1)=false:=by
 induction ys with
 |nil=>rfl
 |cons z l ih =>
  rw[(kJ z).star (hs z aad)];exact ih λy hy=>hs y (aac _ hy)
theorem At.args{K:List V->En->T}{fv:Value}{first:List Value}{Q:Value->Shared->Prop}(h:du Z n F k es ys) (hk:keepIn Z.K fv=true) (p:X.At env L (X.R (jF Z.P es env K)) s)
  (hc:∀ vs us env s,vs.length=k->X.At env (.vs Z.N vs us L) (X.R (K vs env)) s->X.wp (call fv (first++us)) Q E s):X.wp (callWith pos fv first (backTo pos (starEach ys X.c.ak)) []) Q E s:=by
 have zK:∀ {env L R s},X.At env L R s->Z.K.In s.heap:=λp=>p.rec λO O S O O=>X.ok.zK S.fr
 cases ys with
 |nil =>
  cases h.nil rfl;exact callWith_K0 (zK p) hk (hc [] [] env s h.len (At.imp p λO O l r=>⟨⟨rfl,l⟩,r⟩))
 |cons y ys=>exact callWith_K X.ok.X hk (h.snd X K env L s pos E _ p λvs us env s hl p=>⟨zK p,hc vs us env s hl p⟩) ((kJ y).star (h.star y aad) _ _) (n9 (λz hz=>h.star z (aac _ hz)) _)
theorem Ai(cs:bS Z n) (hy:F.glob y=true) (hf:Z.B.ry.contains (y,f)=true) (hb:(f != Z.B.cf||F.bot)=true) (h:du Z n F k es ys):ay Z n F (.call f es) (.Call (.Name y p) ys [] pos) :=
 λX K env L s E Q a q=>have g:=X.b.ry y f (List.contains_iff_mem.mp hf)
  Call_ (At.d_ a hy g.ns (At.args h g.kp a λvs us env s O a=>n8 cs (λe=>(aaZ.mp hb).elim (λh=>absurd e (bne_iff_ne.mp h)) X.dE.bot) a λv u s a=>q v u env s a))
theorem Aj{v:Value}{Q:Value->Shared->Prop}(hs:ni 22 a=true) (hy:F.glob y=true) (hb:iQ Z.K y v) (hv:(∃ id,v=.builtin id)∨∃ T,v=.type T) {R:MH->Prop}(p':X.At env L R s)
  (h:X.wp (eval a X.c.ak) (λu eV=>X.wp (call v [u]) Q E eV) E s):X.wp (eval (.Call (.Name y p) [a] [] pos) X.c.ak) Q E s:=by
 refine Call_ (At.blt p' hy hb ?_);rw[(kJ a).star hs];have h':X.wp (spliced ((false,eval a X.c.ak)::backTo pos [])) (λvs s'=>X.wp (call v ([]++vs)) Q E s') E s:=spliced_cons (wpAny_mono h (λu eV h=>spliced_nil h) λO O e=>e)
 clear h;rcases hv with⟨id,rfl⟩ | ⟨T,rfl⟩
 ·exact callWith_builtin rfl (evalArgs_plain h')
 ·exact PyProof.Rows.callWith_type rfl (evalArgs_plain h')
theorem E9(hs:ni 22 a=true) (hy:F.glob "len" = true) (h:ay Z n F e a):ay Z n F (.len e) (.Call (.Name "len" p) [a] [] pos) :=
 λX K env L s E Q p q=>Aj hs hy X.b.KH (.inl ⟨_,rfl⟩) p (h X _ env L s E _ p λv u env s p=>At.len p λv u s p=>q v u env s p)
theorem E_(hs:ni 22 a=true) (hy:F.glob "str" = true) (h:ay Z n F e a):ay Z n F (.toStr e) (.Call (.Name "str" p) [a] [] pos) :=
 λX K env L s E Q p q=>Aj hs hy X.b.KI (.inr ⟨_,rfl⟩) p (h X _ env L s E _ p λv u env s p=>At.str p λv u s p=>q v u env s p)
theorem vf(hs:ni 22 a=true) (hy:F.glob "tuple" = true) (h:ay Z n F e a):ay Z n F (.eR e) (.Call (.Name "tuple" p) [a] [] pos) :=
 λX K env L s E Q p q=>Aj hs hy X.b.KJ (.inr ⟨_,rfl⟩) p (h X _ env L s E _ p λv u env s p=>At.eR p λv u s p=>q v u env s p)
theorem Fb(hs:ni 22 a=true) (hy:F.glob "any" = true) (h:ay Z n F e a):ay Z n F (.anyOf e) (.Call (.Name "any" p) [a] [] pos) :=
 λX K env L s E Q p q=>Aj hs hy X.b.KL (.inl ⟨_,rfl⟩) p (h X _ env L s E _ p λv u env s p=>At.any p λv u s p=>q v u env s p)
end
end
theorem Fd:typeOf (.builtin "dict.get")=pure (.type "method_descriptor"):=by kernel_rfl
theorem iD{o:PySem.Expr}{a:Str}{ap pos:Pos}{ys:List PySem.Expr}{env:Env}(ho:gF o) (hn:∀ y∈ys,ni 22 y=true) (hl:ys.length<30) (hp:(ap.endLine==pos.line)=true) :
  eval (.Call (.Attribute o a ap) ys [] pos) env=(do
   let ov <- eval o env
   standAt ap.atName
   let (f,first) <- holding [ov] (getMethod ov a (do return (<- importBound o env).getD true))
   callWith pos f first (backTo pos (starEach ys env)) []):=by
 have Ak:(backTo pos (starEach ys env)).all (λx=> !x.1)=true:=by
  clear hl;induction ys with
  |nil=>rfl
  |cons y ys ih =>
   rw[(kJ y).star (hn y aad)];exact ih λy hy=>hn y (aac _ hy)
 have hf:methodCallForm (ys.length+0) (backTo pos (starEach ys env)) (backToKw pos (keywordEach [] env))=true:=by
  unfold methodCallForm;rw[Ak];exact aaq hl
 show(do
  let ov <- attributeBase o a env (eval o env)
  standAt ap.atName
  methodCall o a ap pos env ov (ys.length+0) (backTo pos (starEach ys env)) (backToKw pos (keywordEach [] env)))=_
 rw[ho];unfold methodCall;rw[hf];unfold methodCallPos calleeOf;rw[hp];rfl
theorem Al{P:Prog}{h:MH}{o:V}{k f:Nat}(e:eM P h o k=some f):∃ a cl fs,o=.ref a/\h.get a=some (.inst cl fs)/\P.bU cl k=some f:=by
 cases o with
 |ref a =>
  cases g:h.get a with
  |none=>exact nn ((aab (jD P k) g).symm.trans e)
  |some mo =>
   have e:jD P k (some mo)=some f:=(aab (jD P k) g).symm.trans e;cases mo with
   |inst c fs=>exact⟨a,c,fs,rfl,g,e⟩
   |_=>exact nn e
 |_=>exact nn e
section
variable{Z:b_}{n:Nat}{F:Fm}{X:EC Z n F}{env:En}{L:Pn X.c.bk}{s:Shared}{E:Value->Shared->Prop}{o:V}{ov:Value}{G:Gh}{m:Str->Option Value}{h h':MH}{hp cE:Heap}{tk k j f:Nat}{pos p ap:Pos}{ys:List PySem.Expr}{es lo hi:dM}{y:Str}{e e' d:ME}{a b z:PySem.Expr}{vs:List V}{us:List Value}
inductive Uv(X:EC Z n F) (L:Pn X.c.bk) (env:En) (ov:Value) (o:V) (k:Nat) (K:V->T) (E:Value->Shared->Prop) (s:Shared):Prop where
 |mk {f:Nat}(kp:keepIn Z.K (.ref (Z.N.fA f))=true) (nb:f≠Z.B.cf) (p:X.At env (.v Z.N o ov L) (X.R (K (.tab f))) s) (q:∀ (pl:Sem Bool) (Q:Value×List Value->Shared->Prop),Q (.ref (Z.N.fA f),[ov]) s->X.wp (getMethod ov (Z.N.an k) pl) Q E s):Uv X L env ov o k K E s
theorem At.bU{K:V->T}(p:X.At env (.v Z.N o ov L) (X.R (.get (λh=>(eM Z.P h o k).map V.tab) K)) s):Uv X L env ov o k K E s:=by
 refine p.rec λ{G hp tk h m} x f S l r=>?_
 clear p;refine az (eA r) λv e r=>?_
 refine az (aas.mp e) λfn e hv=>?_
 refine rh (Al e) λa cl fs ho hg hm=>?_
 obtain⟨jM,hu,hr⟩:VR Z.N G (.ref a) ov:=ho▸l.1;cases S.sr.inst hr hg with | mk _ _ m' _ md _ fr kk _ =>
 have fo:=X.b.bU cl k fn hm;exact .mk fo.kp (X.b.Uj cl k fn hm) ⟨x,f,S,l,hv▸r⟩ λpl Q hQ=>by
  rw[hu]at hQ⊢;exact method_inst S.fr X.ok.X (W.InstAt.of_news S.nw m' md) fo.pg fo.fi fo.fn (fr.none λq hq=>X.b.KG cl k fn q.1 hm (kk q hq)) hQ
theorem Am(cs:bS Z n) (ho:gF a) (hl:decide (j<30)=true) (hp:(ap.endLine==pos.line)=true) (h0:ay Z n F e a) (h:du Z n F j es ys):ay Z n F (.bU e k es) (.Call (.Attribute a (Z.N.an k) ap) ys [] pos) :=
 λX K env L s E Q p q=>MethodCall_ (pl:=_) (h0 X _ env L s E _ p λv u env s p=>(At.bU p).rec λ{f} kp nb p qm=>qm _ _ (At.args (first:=[u]) h kp p λvs us env s O p=>n8 cs (λe=>absurd e nb) (At.imp (L':=.vs Z.N (v::vs) (u::us) L) p λO O l r=>⟨⟨⟨l.2.1,l.1⟩,l.2.2⟩,r⟩) λv u s p=>q v u env s p)) (iD ho h.star (h.len▸aaK hl) hp)
theorem An(ho:gF a) (hp:(ap.endLine==pos.line)=true) (hb:ni 22 b=true) (hz:ni 22 z=true) (h0:ay Z n F e a) (h1:ay Z n F e' b) (h2:ay Z n F d z):ay Z n F (.g_ e e' d) (.Call (.Attribute a "get" ap) [b,z] [] pos) :=
 λX K env L s E Q p q=>by
 refine MethodCall_ (pl:=_) (h0 X _ env L s E _ p λo u env s p=>?_) (iD ho (λy hy=>(aau.mp hy).elim (λe=>e▸hb) λhy=>aar.mp hy▸hz) (by decide:2<30) hp)
 obtain⟨⟨hu,hg,hc,hi⟩,p⟩:=At.Cy p;subst hu;refine getMethod_builtin ⟨_,hg,hc⟩ PySem.F.plainAttrs_dict PySem.F.slot_dict_get Fd (λa e=>Value.ref.inj e▸⟨_,hg,hi⟩) ?_
 rw[(kJ b).star hb,(kJ z).star hz];exact callWith_builtin rfl (evalArgs_plain (spliced_cons (h1 X _ env _ s E _ p λv u env s p=>spliced_cons (h2 X _ env _ s E _ p λv u env s p=>spliced_nil (At.g_ p λv u s p=>q v u env s p)))))
noncomputable def one:dM->Bool
 |.nil=>true
 |.cons _ es=>match es with
  |.nil=>true
  |.cons _ _=>false
def pT(Z:b_) (n:Nat) (F:Fm) (me:dM) (e:Option PySem.Expr):Prop:=∀ (X:EC Z n F) (K:List V->En->T) (env:En) (L:Pn X.c.bk) (s:Shared) (E Q:Value->Shared->Prop),X.At env L (X.R (jF Z.P me env K)) s->(∀ vs u env s,X.At env (.pt Z.N vs u L) (X.R (K vs env)) s->Q u s)->X.wp (evalPart e X.c.ak) Q E s
theorem vg:pT Z n F .nil none:=λX K env L s E Q p q=>wpAny_evalPart_none (q [] _ env s (At.imp p λO O l r=>⟨⟨.no,l⟩,r⟩))
theorem vh(h:ay Z n F e a):pT Z n F (.cons e .nil) (some a):=λX K env L s E Q p q=>wpAny_evalPart_some (h X _ env L s E _ p λv u env s p=>q [v] u env s (At.imp p λO O l r=>⟨⟨.one l.1,l.2⟩,r⟩))
theorem Fe{l u:Option PySem.Expr}(h:ay Z n F e a) (h1:pT Z n F lo l) (h2:pT Z n F hi u):ay Z n F (.ri e lo hi) (.Subscript a (.Slice l u none p) pos) :=
 λX K env L s E Q p q=>Subscript_ (h X _ env L s E _ p λv u env s p=>wpAny_Slice (h1 X _ env _ s E _ p λv u env s p=>h2 X _ env _ s E _ p λv u env s p=>wpAny_evalPart_none (At.ri p λv u s p=>q v u env s p)))
theorem Ff{p1 p2 p3:Pos}{y:Str}(h:ay Z n F e (.Name y p)):ay Z n F (.rev e) (.Subscript (.Name y p) (.Slice none none (some (.UnaryOp .USub (.Constant (.int 1) j p1) p2)) p3) pos) :=
 λX K env L s E Q p q=>Subscript_ (h X _ env L s E _ p λv u env s p=>At.rev p λv u s p=>q v u env s p)
theorem Ao{prog:Program}{w:World}{A:Around}{K:Frag}{C fI:Addr}{R:Result->Shared->Prop}{s:Shared}{rest:List Value}{kw:List (Str×Value)}(X:K.In s.heap) (hm:makesIn K C=true)
  (hi:findIn K (.ref C) "__init__" = some (some (.ref fI))) (hf:typeIn K (.ref fI)=some (.type "function"))
  (h:codeAny (model prog w) (A.under (.builtin "type.__call__" ⟨.ref C::rest,kw⟩)) (.call (.ref fI) ⟨.ref (s.heap.objs.size+1)::rest,kw⟩) (InitBack (s.heap.objs.size+1) R)
   { s with heap:=(s.heap.push (dictOf [] 0)).push (instObj C s.heap.objs.size) }) :
  codeAny (model prog w) A (.call (.ref C) ⟨rest,kw⟩) R s :=
 make_core (makes_of X hm) (looks_findIn X hi) (λself=>bind_fn X self hf) (.inl rfl) h
theorem At.new{cl:Nat}{K:V->T}(p:X.At env L (X.R (.act (λh=>some (.ref (.inst cl (h.cnt cl)),h.new cl)) K)) s):∃ o,X.At env (.v Z.N o (.ref (s.heap.objs.size+1)) L) (X.R (K o)) { s with heap:=(s.heap.push (dictOf [] 0)).push (instObj (Z.N.cA cl) s.heap.objs.size) } :=
 p.rec λ{G hp tk h m} x f S l r=>by
  refine az (EA r) λq e r=>?_
  cases e;have f1:hp.objs.size∉G.news.map (·.1):=S.fresh;have F1:=S.fr.push (dictOf [] 0);have N1:=News.push S.fr S.nw (dictOf [] 0);have f2:=News.fresh_ne N1;have N2:=News.push F1 N1 (instObj (Z.N.cA cl) hp.objs.size);rw[Heap.size_push]at f2 N2;have k9:h.get (.inst cl (h.cnt cl))=none:=S.sr.Jz _ (aat _);have kp:∀ {T:Ow->Prop},Kp T G (((G.add hp.objs.size (dictOf [] 0) (.dW (.inst cl (h.cnt cl)))).add (hp.objs.size+1) (instObj (Z.N.cA cl) hp.objs.size) (.main (.inst cl (h.cnt cl)))).bind (.inst cl (h.cnt cl)) (hp.objs.size+1)):=λ{T} =>
   have k:=Kp.trans (Gh.bL (T:=T) (ob:=dictOf [] 0) (u:=.dW (.inst cl (h.cnt cl))) f1) (Gh.bL (ob:=instObj (Z.N.cA cl) hp.objs.size) (u:=.main (.inst cl (h.cnt cl))) f2)
   ⟨λb r e=>(aaf λz=>by rw[z,S.sr.jJ k9]at e;exact nn e).trans e,k.keep⟩
  have nd:((((hp.objs.size+1,instObj (Z.N.cA cl) hp.objs.size)::(hp.objs.size,dictOf [] 0)::G.news):List (Addr×Obj)).map (·.1)).Nodup:=aaU.mpr ⟨f2,aaU.mpr ⟨f1,S.sr.nodup⟩⟩;have big:=X.ok.big S.fr;have ne:hp.objs.size≠hp.objs.size+1:=aaR (aaN _);refine⟨.ref (.inst cl (h.cnt cl)),x.trans kp,f,⟨S.sr.new k9 (λb=>?_) nd (λb hb=>?_) (λb=>rfl) kp (.inst aad (aae rfl) (aac _ aad) ((aaf ne).trans (aae rfl)) .nil (λp hp=>(nomatch hp)) (aaV _)) ?_ (λb q=>?_) trivial,S.env.kp kp,F1.push _,N2⟩,⟨⟨_,rfl,aae rfl⟩,L.st _ _ kp l⟩,r⟩
  ·show(if b=_ then _ else _)=_
   rfl
  ·exact(aau.mp hb).elim (λe=>e▸aaw big) λhb=>(aau.mp hb).elim (λe=>e▸big) (S.sr.low b)
  ·intro q;have q:(if cl=cl then h.cnt cl+1 else h.cnt cl)<=h.cnt cl:=q
   rw[aae rfl]at q;exact absurd q (Nat.not_succ_le_self _)
  ·cases b with
   |inst c' i =>
    have q:(if c'=cl then h.cnt cl+1 else h.cnt c')<=i:=q
    show h.cnt c'<=i;by_cases e:c'=cl
    ·rw[aae e]at q;exact e▸Nat.le_of_succ_le q
    ·rw[aaf e]at q;exact q
   |_=>exact q
theorem At.El{o:Option Nat}{f:Nat->T}(p:X.At env L (X.R (El o f)) s):∃ k,o=some k/\X.At env L (X.R (f k)) s:=p.rec λx f S l r=>(Qc r).imp λO h=>⟨h.1,x,f,S,l,h.2⟩
theorem Fg(cs:bS Z n) {cl:Nat}(hy:F.glob y=true) (hf:Z.B.CF.contains (y,cl)=true) (h:du Z n F k es ys):ay Z n F (.new cl es) (.Call (.Name y p) ys [] pos) :=
 λX K env L s E Q a q=>by
 have g:=X.b.CF y cl (List.contains_iff_mem.mp hf);refine Call_ (At.d_ a hy g.ns (At.args h g.kp a λvs us env s O a=>?_))
 refine az (At.El a) λf hi a=>?_
 have io:=X.b.init cl f hi;have zK:Z.K.In s.heap:=a.rec λO O S O O=>X.ok.zK S.fr
 refine wpAny_call (Ao zK io.Wc io.fi (aam.mp io.fn) ?_);refine gJ (At.new a) λo a=>?_
 refine cs F X f (o::vs) (_::us) _ .stuck env (.v Z.N o (.ref (s.heap.objs.size+1)) L) _ _ _ .made (λe=>absurd e (X.b.Uk cl f hi)) (At.imp a λG O l r=>⟨⟨⟨l.1,l.2.1⟩,l.1,l.2.2⟩,r⟩) (λv u s a=>?_) λe s h=>h.rec λO O O O O O O O r=>nn r
 cases v with
 |none =>
  have hu:u=.none:=a.rec λO O O l O=>l.1
  exact⟨hu,q o _ env s (At.drop a)⟩
 |_=>exact a.rec λO O O O r=>nn r
end
abbrev KV:=Str×Option (Option V)
def Ap:Option (Option V)->Option (Obj×aP)
 |none=>some (dictOf [] 0,.dict [])
 |some none=>some (ax [] 0,.list [])
 |some (some _)=>none
class inductive rE (N:Nm) (G:Gh):List KV->List (Value×Value)->List Addr->Prop where
 |nil:rE N G [] [] []
 |val {k:Str}{t:Tok}{v:V}{u:Value}{kvs:List KV}{ps:List (Value×Value)}{ls:List Addr}(r:VR N G v u) (f:rE N G kvs ps ls):rE N G ((k,some (some v))::kvs) ((.str k t,u)::ps) ls
 |own {k:Str}{t:Tok}{o:Option (Option V)}{ob:Obj}{mo:aP}{l:Addr}{kvs:List KV}{ps:List (Value×Value)}{ls:List Addr}(e:Ap o=some (ob,mo)) (m:(l,ob)∈G.news) (g:G.g l=.it) (n:l∉ls) (f:rE N G kvs ps ls):rE N G ((k,o)::kvs) ((.str k t,.ref l)::ps) (l::ls)
inductive Uw{k:Addr}(N:Nm) (a_:Gh) (kvs:List KV) (ps:List (Value×Value)) (L:Pn k) (G:Gh):Prop where
 |mk {G₁:Gh}{ls:List Addr}(f:rE N G kvs ps ls) (n:∀ l∈ls,∀ a∈G₁.news.map (·.1),a<l) (x:Ext k a_ G₁) (y:Ext k G₁ G) (l:L.P G₁):Uw N a_ kvs ps L G
class inductive CR (N:Nm) (G:Gh):List (V×V)->List (Value×Value)->Prop where
 |nil:CR N G [] []
 |cons {x:Str}{t:Tok}{v:V}{u:Value}{es:List (V×V)}{ps:List (Value×Value)}(r:VR N G v u) (f:CR N G es ps):CR N G ((.str x,v)::es) ((.str x t,u)::ps)
section
variable{N:Nm}{G G':Gh}{kvs:List KV}{ps:List (Value×Value)}{ls:List Addr}{es:List (V×V)}{S:Ow->Prop}
theorem rE.kp(v:bK G G') (k:∀ p∈G.news,G.g p.1=.it->p.1∈ls->p∈G'.news/\G'.g p.1=G.g p.1) (f:rE N G kvs ps ls):rE N G' kvs ps ls :=
 rE.rec (motive:=λkvs ps ls O=>(∀ p∈G.news,G.g p.1=.it->p.1∈ls->p∈G'.news/\G'.g p.1=G.g p.1)->rE N G' kvs ps ls) (λO=>.nil) (λr O ih k=>.val (r.aI v) (ih k))
  (λe m g n O ih k=>.own e (k _ m g aad).1 ((k _ m g aad).2.trans g) n (ih λp hp hg hl=>k p hp hg (aac _ hl))) f k
theorem rE.it(f:rE N G kvs ps ls):∀ l∈ls,G.g l=.it:=f.rec (λO h=>nomatch h) (λO O ih=>ih) λO O g O O ih l hl=>(aau.mp hl).elim (λe=>e▸g) (ih l)
theorem CR.aI(x:bK G G') (f:CR N G es ps):CR N G' es ps:=f.rec .nil λr O ih=>.cons (r.aI x) ih
noncomputable def Pn.fs{k:Addr}(N:Nm) (a_:Gh) (kvs:List KV) (ps:List (Value×Value)) (L:Pn k):Pn k:=⟨Uw N a_ kvs ps L,λG G' x h=>h.rec λf n x' y l=>⟨f.kp (x.v trivial) λp hp hg O=>x.keep p hp (by rw[hg];trivial),n,x',y.trans x,l⟩⟩
noncomputable def Pn.pr{k:Addr}(N:Nm) (es:List (V×V)) (ps:List (Value×Value)) (L:Pn k):Pn k:=⟨λG=>CR N G es ps/\L.P G,λG G' x h=>⟨h.1.aI (x.v trivial),L.st G G' x h.2⟩⟩
end
theorem jP{k v:V}:∀ {es:List (V×V)},k∉es.map (·.1)->cz k v es=es++[(k,v)]:=by
 intro es;induction es with
 |nil =>
  intro _;exact rfl
 |cons x_ es ih =>
  intro h;obtain⟨y,u⟩:=x_;have h:k∉y::es.map (·.1):=h;show(if aC y k=true then _ else _)=_
  rw[aaf λ(e:aC y k=true)=>h (fO e▸aad),ih λq=>h (aac _ q)];rfl
theorem sU{x:Str}{es:List (V×V)}(hs:∀ p∈es,kk p.1=1):∃ r,aF (.str x) es=some r:=⟨_,aae (aa0.mpr λp hp=>aam.mpr (hs p hp))⟩
theorem MH.ext_get{h:MH}{g:Ad->Option aP}(e:∀ b,g b=h.get b):(⟨g,h.cnt,h.aq⟩:MH)=h:=aab (λf=>MH.mk f h.cnt h.aq) (funext e)
theorem MH.set_set(h:MH) (a:Ad) (o o':aP):(h.set a o).set a o'=h.set a o':=MH.ext_get (h:=h.set a o') λb=>by
 show(if b=a then _ else (if b=a then _ else _))=(if b=a then _ else _)
 by_cases e:b=a
 ·rw[aae e,aae e]
 ·rw[aaf e,aaf e,aaf e]
theorem MH.set_same{h:MH}{a:Ad}{o:aP}(e:h.get a=some o):h.set a o=h:=MH.ext_get λb=>by
 show(if b=a then _ else _)=_
 by_cases q:b=a
 ·rw[aae q,q,e]
 ·exact aaf q
theorem kL:∀ {kvs:List KV},strKeys kvs=true->(kvs.map λp=>V.str p.1).Nodup:=by
 intro r;induction r with
 |nil =>
  intro _;exact List.nodup_nil
 |cons x_ r ih =>
  intro h;obtain⟨k,x⟩:=x_;have h:=ae h;refine aaU.mpr ⟨λhm=>?_,ih h.2⟩
  refine az (aaG.mp hm) λq hq e=>?_
  exact absurd (List.any_eq_true.mpr ⟨q,hq,aaq (V.str.inj e)⟩) (by rw[Bool.not_eq_true']  at h;rw[h.1];exact λe=>nomatch e)
theorem jQ(a:Ad) (i:Nat) (k:Str) (o:Option (Option V)) (r:List KV) (h:MH):dq a i ((k,o)::r) h=(match o with
  |some (some v)=>((.str k,v)::(dq a (i+1) r h).1,(dq a (i+1) r h).2)
  |some none=>((.str k,.ref (.fld a i))::(dq a (i+1) r (h.set (.fld a i) (.list []))).1,(dq a (i+1) r (h.set (.fld a i) (.list []))).2)
  |none=>((.str k,.ref (.fld a i))::(dq a (i+1) r (h.set (.fld a i) (.dict []))).1,(dq a (i+1) r (h.set (.fld a i) (.dict []))).2)):=by
 cases o with
 |none=>rfl
 |some o=>cases o<;>rfl
theorem sV{a:Ad}{i:Nat}{k:Str}{o:Option (Option V)}{r:List KV}{h:MH}{ob:Obj}{mo:aP}(e:Ap o=some (ob,mo)):dq a i ((k,o)::r) h=((.str k,.ref (.fld a i))::(dq a (i+1) r (h.set (.fld a i) mo)).1,(dq a (i+1) r (h.set (.fld a i) mo)).2):=by
 cases o with
 |none=>cases e;rfl
 |some o=>cases o with
  |none=>cases e;rfl
  |some _=>exact nn e
section
variable{Z:b_}{c:Cx}{m:Str->Option Value}{env:En}{hp:Heap}{a:Ad}
theorem Aq{G:Gh}{o:Option (Option V)}{ob:Obj}{mo:aP}{b:Ad}{l:Addr}(e:Ap o=some (ob,mo)) (m:(l,ob)∈G.news) (g:G.g l=.main b):MO Z.w Z.N Z.P G b l mo:=by
 cases o with
 |none=>cases e;exact .dict m g .nil (aaV _) .nil
 |some o=>cases o with
  |none=>cases e;exact .list m g rfl (aaV _)
  |some _=>exact nn e
inductive K9(Z:b_) (c:Cx) (m:Str->Option Value) (env:En) (hp:Heap) (a:Ad) (G:Gh) (ps:List (Value×Value)) (ls:List Addr) (h:MH) (es:List (V×V)) (h':MH):Prop where
 |mk {G':Gh}(S:cj Z c G' m env h' hp) (p:CR Z.N G' es ps) (σ:∀ a r,G.σ a=some r->G'.σ a=some r) (k:∀ p∈G.news,p.1∉ls->p∈G'.news/\G'.g p.1=G.g p.1) (g:h'.get a=h.get a):K9 Z c m env hp a G ps ls h es h'
theorem Ar:∀ {kvs:List KV}{i:Nat}{h:MH}{G:Gh}{ps:List (Value×Value)}{ls:List Addr}{es:List (V×V)},cj Z c G m env h hp->h.get a=some (.dict es)->(∀ j,i<=j->h.get (.fld a j)=none)->rE Z.N G kvs ps ls->K9 Z c m env hp a G ps ls h (dq a i kvs h).1 (dq a i kvs h).2:=by
 intro kvs;induction kvs with
 |nil =>
  intro _ _ _ _ _ _ S _ _ f;cases f;exact⟨S,.nil,λO O h=>h,λO h O=>⟨h,rfl⟩,rfl⟩
 |cons x_ kvs ih =>
  intro i h G ps ls es S hd hf f;obtain⟨k,o⟩:=x_;cases f with
  |val r f =>
   cases ih (i:=i+1) S hd (λj hj=>hf j (Nat.le_of_succ_le hj)) f with | mk S' p σ k' g =>
   rw[jQ];exact⟨S',.cons (r.aI ⟨σ,λp hp hc=>k' p hp λhl=>nomatch (f.it _ hl).symm.trans hc⟩) p,σ,k',g⟩
  |@own _ t _ ob mo l _ ps ls e m' g n f =>
   have b0:=hf i (aat _);have kp:∀ {T:Ow->Prop},¬ T .it->Kp T G (G.adopt l (.fld a i)):=λt=>Gh.fP (S.sr.jJ b0) (g▸t)
   have Fh:cj Z c (G.adopt l (.fld a i)) m env (h.set (.fld a i) mo) hp:=S.to (S.sr.new b0 (λO=>rfl) S.sr.nodup S.sr.low (λO=>rfl) (kp id) (Aq e m' (aae rfl)) id (λO=>jI.set) (.inr ⟨es,(MH.gM Ad.fld_ne).trans hd⟩)) (kp id) S.fr S.nw
   cases ih (i:=i+1) Fh ((MH.gM Ad.fld_ne).trans hd) (λj hj=>(MH.gM λq=>by cases q;exact aaW _ hj).trans (hf j (Nat.le_of_succ_le hj))) (f.kp (kp λe=>nomatch e) λp hp O hl=>⟨hp,Gh.cW λe=>n (e▸hl)⟩) with | mk S' p σ k' g' =>
   rw[sV e];exact⟨S',.cons ⟨l,rfl,σ _ _ (aae rfl)⟩ p,λb r q=>σ b r ((kp (T:=(·=.ey)) λe=>nomatch e).σ b r q),λp hp hl=>(k' p hp λh=>hl (aac _ h)).imp id λq=>q.trans (Gh.cW λe=>hl (e▸aad)),g'.trans (MH.gM Ad.fld_ne)⟩
theorem vj:∀ {kvs:List KV}{i:Nat}{h:MH},(dq a i kvs h).1.map (·.1)=kvs.map λp=>V.str p.1:=by
 intro r;induction r with
 |nil =>
  intro _ _;exact rfl
 |cons x_ r ih =>
  intro i h;obtain⟨k,o⟩:=x_;rw[jQ];cases o with
  |none=>exact aab (V.str k::·) ih
  |some o=>cases o<;>exact aab (V.str k::·) ih
end
section
variable{Z:b_}{n:Nat}{F:Fm}{X:EC Z n F}{env:En}{L:Pn X.c.bk}{E:Value->Shared->Prop}{a:Ad}{r D:Addr}{h:MH}{kvs:List KV}{pos:Pos}
theorem stores{R:MH->Prop}{Q:PUnit->Shared->Prop}:∀ {es:List (V×V)}{ps:List (Value×Value)}{done:List (V×V)}{s:Shared},X.At env (.pr Z.N es ps (.v Z.N (.ref a) (.ref r) L)) (λh=>h.get a=some (.dict done)/\R (h.set a (.dict (done++es)))) s->((done++es).map (·.1)).Nodup->(∀ p∈done,kk p.1=1)->done.length+es.length<500 ->
  (∀ s,X.At env L R s->Q ⟨⟩ s)->X.wp (storeAll r ps) Q E s:=by
 intro es;induction es with
 |nil =>
  intro ps done s p hn hs hl q;refine p.rec λx f S l y=>?_
  clear p;cases l.1;exact aaH (q _ ⟨x,f,S,l.2.2,by have y2:=y.2;rw[List.append_nil,MH.set_same y.1]at y2;exact y2⟩)
 |cons e es ih =>
  intro ps done s p hn hs hl q;refine p.rec λ{G hp tk h m} x f S l z=>?_
  clear p;obtain⟨l0,⟨_,er,hr⟩,l⟩:=l;cases er;cases l0 with | @cons y t v u _ ps ru pr =>
  cases S.sr.dict hr z.1 with | @mk Wi j _ _ m' g rs l' nd =>
  refine gJ (sU (x:=y) hs) λr' ek=>?_
  have Ql:V.str y∉done.map (·.1):=λhm=>by
   rw[aaP,List.nodup_append]at hn;exact hn.2.2 _ hm _ aad rfl
  have K_:(done++[(V.str y,v)]).length+es.length<500:=by rw[aag];simp only[aaI,List.length_nil]at hl⊢;exact Ct hl
  unfold storeAll;rw[List.forIn_cons,bind_assoc];have hu:X.c.A.units+20<9900:=by have:=X.ok.hu;exact Ue this
  refine aal (ly (k:=.str y) S.fr S.nw S.sr.nodup hu m' rs nd l' rfl ⟨t,rfl⟩ ru ek λes' n' h' tk D' F' N'=>?_)
  rw[jP Ql]at D';exact aal<|aaH<|ih (done:=done++[(V.str y,v)]) (At.u0 (L:=.pr Z.N es ps (.v Z.N (.ref a) (.ref r) L)) x f S ⟨pr,⟨_,rfl,hr⟩,l⟩ ⟨MH.eU,by rw[MH.set_set,List.append_assoc];exact z.2⟩ z.1 hr ⟨_,rfl⟩ g (λvm=>.dict (aD m') g (D'.aI vm) (aaj (aaF _ _) (aaj (aay K_) (by decide))) (by rw[List.append_cons,aaP]at hn;exact(List.nodup_append.mp hn).1)) F' N') (by rw[<- List.append_cons];exact hn) (λp hp=>(aaM.mp hp).elim (hs p) λhp=>aar.mp hp▸rfl) K_ q
structure gG(Z:b_) (n:Nat) (F:Fm) (k:Nat) (me:rj) (ks:List (Option PySem.Expr)) (vs:List PySem.Expr):Prop where
 kl:ks.length=k
 vl:vs.length=k
 all:ks.all (·.isSome)=true
 nil:ks=[]->me=.nil
 snd:∀ (X:EC Z n F) (K:List KV->En->T) (env:En) (L:Pn X.c.bk) (s:Shared) (pos:Pos) (E:Value->Shared->Prop) (Q:List (Value×Value)->Shared->Prop),X.At env L (X.R (Eo Z.P me env K)) s->(∀ kvs ps env s,kvs.length=k->X.At env (.fs Z.N X.a_ kvs ps L) (X.R (K kvs env)) s->Q ps s)->X.wp (evalPairs (pairTrees ks vs X.c.ak pos)) Q E s
theorem As:gG Z n F 0 .nil [] []:=⟨rfl,rfl,rfl,λO=>rfl,λX K env L s pos E Q p q=>pairTrees_nil_walk (q [] [] env s rfl (p.rec λx f S l r=>⟨x,f,S,⟨.nil,λO h=>(nomatch h),x,.refl,l⟩,r⟩))⟩
variable{e:ME}{es:rj}{y:PySem.Expr}{ks:List (Option PySem.Expr)}{vs:List PySem.Expr}{k:Nat}{x:Str}{kk:Nat}{kp lp:Pos}
theorem Au(h1:ay Z n F e y) (h2:gG Z n F k es ks vs):gG Z n F (k+1) (.val x e es) (some (.Constant (.str x) kk kp)::ks) (y::vs) :=
 ⟨aab (·+1) h2.kl,aab (·+1) h2.vl,h2.all,λh=>(nomatch h),λX K env L s pos E Q p q=>pairTrees_cons_walk (wpAny_Constant_str (h1 X _ env L _ E _ (At.tok p) λv u env s p=>h2.snd X _ env _ s pos E _ p λkvs ps env s hl p=>q _ _ env s (aab (·+1) hl) (At.imp p λG h l r=>⟨l.rec λf n x y l=>⟨.val (l.1.ext y) f,n,x,y,l.2⟩,r⟩)))⟩
theorem vk{o:Option (Option V)}{ob:Obj}{mo:aP}{t:Tok}{d:Addr}{ps:List (Value×Value)}{R:MH->Prop}{s:Shared}(e:Ap o=some (ob,mo)) (p:X.At env (.fs Z.N X.a_ kvs ps (.it X.a_ d ob L)) R s):X.At env (.fs Z.N X.a_ ((x,o)::kvs) ((.str x t,.ref d)::ps) L) R s :=
 At.imp p λG h l r=>⟨l.rec λf n O y l=>l.rec λm g n' x' y' l=>⟨.own e (y.at m g trivial).1 (y.at m g trivial).2 (λhd=>aaW _ (n _ hd _ (dD m))) f,λa ha=>(aau.mp ha).elim (λe=>e▸n') λha b hb=>Nat.lt_trans (n' b hb) (n a ha _ (dD m)),x',y'.trans y,l⟩,r⟩
theorem vn(h2:gG Z n F k es ks vs):gG Z n F (k+1) (.bV x es) (some (.Constant (.str x) kk kp)::ks) (.List [] lp::vs) :=
 ⟨aab (·+1) h2.kl,aab (·+1) h2.vl,h2.all,λh=>(nomatch h),λX K env L s pos E Q p q=>pairTrees_cons_walk (wpAny_Constant_str (List_ (spliced_nil (by
  cases p with | mk x f S l r =>
  exact newList_N S.fr S.nw (λh' F' N'=>h2.snd X _ env _ _ pos E _ (At.own (ob:=ax [] 0) x f S l r F' N') λkvs ps env s hl p=>q _ _ env s (aab (·+1) hl) (vk (mo:=.list []) rfl p)) (aaV _)))))⟩
theorem vo(h2:gG Z n F k es ks vs):gG Z n F (k+1) (.newD x es) (some (.Constant (.str x) kk kp)::ks) (.Dict [] [] lp::vs) :=
 ⟨aab (·+1) h2.kl,aab (·+1) h2.vl,h2.all,λh=>(nomatch h),λX K env L s pos E Q p q=>pairTrees_cons_walk (wpAny_Constant_str (wpAny_Dict_empty (by
  cases p with | mk x f S l r =>
  exact h2.snd X _ env _ _ pos E _ (At.own (ob:=dictOf [] 0) x f S l r (S.fr.push _) (News.push S.fr S.nw _)) λkvs ps env s hl p=>q _ _ env s (aab (·+1) hl) (vk (mo:=.dict []) rfl p))))⟩
inductive La(X:EC Z n F) (L:Pn X.c.bk) (env:En) (D:Addr) (ps:List (Value×Value)) (K:V->T) (s:Shared):Prop where
 |mk {a:Ad}{es:List (V×V)}(p:X.At env (.pr Z.N es ps (.v Z.N (.ref a) (.ref D) (.v Z.N (.ref a) (.ref D) L))) (λh=>h.get a=some (.dict [])/\X.R (K (.ref a)) (h.set a (.dict ([]++es)))) s) (n:(es.map (·.1)).Nodup) (l:es.length<=15):La X L env D ps K s
theorem At.Lb{ps:List (Value×Value)}{s:Shared}{K:V->T}(p:X.At env (.fs Z.N X.a_ kvs ps (.it X.a_ D (dictOf [] 0) L)) (X.R (.act (λh=>(Ej h kvs).map λh'=>(.ref (.aq h.aq),h')) K)) s):La X L env D ps K s:=by
 refine p.rec λ{G hp tk h m} x f S l r=>?_
 clear p;refine az (EA r) λw e r=>?_
 refine az (aas.mp e) λh' e2 hw=>?_
 refine cJ (gd e2) λhk e3=>?_
 clear e;cases l with | @mk G₁ ls ff nn xx yy l =>
 cases l with | @mk sW m' g n' x' y' l =>
 have gD:=(yy.at m' g trivial).2;have mD:=(yy.at m' g trivial).1;have nD:D∉ls:=λhd=>aaW _ (nn _ hd _ (dD m'))
 have b0:h.get (.aq h.aq)=none:=S.sr.Jz _ (aat _);have kp:∀ {T:Ow->Prop},¬ T .it->Kp T G (G.adopt D (.aq h.aq)):=λt=>Gh.fP (S.sr.jJ b0) (gD▸t)
 have Fh:cj Z X.c (G.adopt D (.aq h.aq)) m env (({ h with aq:=h.aq+1 }:MH).set (.aq h.aq) (.dict [])) hp:=S.to (S.sr.new b0 (λO=>rfl) S.sr.nodup S.sr.low (λO=>rfl) (kp id) (.dict mD (aae rfl) .nil (aaV _) .nil) (λ(q:h.aq+1<=h.aq)=>aaW _ q) (λb q=>match b,q with
  |.inst _ _,q=>q
  |.aq _,q=>Nat.le_of_succ_le q) trivial) (kp id) S.fr S.nw
 have fl:∀ j,0<=j->(({ h with aq:=h.aq+1 }:MH).set (.aq h.aq) (.dict [])).get (.fld (.aq h.aq) j)=none:=λj O=>by
  refine(MH.gM (b:=.fld (.aq h.aq) j) (a:=.aq h.aq) λe=>nomatch e).trans ?_
  show h.get _=none;cases q:h.get (.fld (.aq h.aq) j) with
  |none=>rfl
  |some mo=>exact(S.sr.par _ _ q).elim (λ⟨_,_,_,h1,_⟩=>nomatch b0.symm.trans h1) λ⟨_,h1⟩=>nomatch b0.symm.trans h1
 cases Ar Fh MH.eU fl (ff.kp (kp λe=>nomatch e) λp hp O hl=>⟨hp,Gh.cW λe=>nD (e▸hl)⟩) with | @mk G' S' pr σ k' ge =>
 have ek:=vj (kvs:=kvs) (a:=.aq h.aq) (i:=0) (h:=({ h with aq:=h.aq+1 }:MH).set (.aq h.aq) (.dict []))
 have lD:D<D+1:=aaN _;have xE:Ext X.c.bk sW G':=⟨λb r q=>σ b r ((kp (T:=(·=.ey)) λe=>nomatch e).σ b r ((y'.trans yy).σ b r q)),λp hp hc =>
  have u:=(y'.trans yy).keep p hp hc;have lt:=n' p.1 (dD (o:=p.2) hp)
  (k' p u.1 λhl=>aaW _ (Nat.lt_trans lt (nn _ hl _ (dD m')))).imp id λe=>e.trans ((Gh.cW (aaR lt)).trans u.2)⟩
 have el:(dq (.aq h.aq) 0 kvs (({ h with aq:=h.aq+1 }:MH).set (.aq h.aq) (.dict []))).1.length=kvs.length:=by have:=aab List.length ek;rw[aan,aan]at this;exact this
 cases hw;exact⟨⟨x'.trans xE,f,S',⟨pr,⟨D,rfl,σ _ _ (aae rfl)⟩,⟨D,rfl,σ _ _ (aae rfl)⟩,L.st _ _ xE l⟩,⟨ge.trans MH.eU,aah e3▸r⟩⟩,by rw[ek];exact kL hk.2,el▸hk.1⟩
theorem Fi{vs:List PySem.Expr}(h:gG Z n F (k+1) es ks vs) (hk:decide (k<15)=true):ay Z n F (.dW es) (.Dict ks vs pos):=λX K env L s E Q p q=>by
 refine p.rec λ{G hp tk h' m} x f S l r=>?_
 clear p;exact wpAny_Dict_any h.all (h.kl.trans h.vl.symm) (λe=>nomatch h.kl.symm.trans (aab List.length e)) (h.kl▸aaK hk) (h.snd X _ env _ _ pos E _ (At.own (ob:=dictOf [] 0) x f S l r (S.fr.push _) (News.push S.fr S.nw _)) λkvs ps env s O p=>(At.Lb p).rec λp n l=>stores p n (λp hp=>(nomatch hp)) (aak (aaE l 0) (by decide)) λs a=>q _ _ env s a)
theorem Av:ay Z n F (.dW .nil) (.Dict [] [] pos):=λX K env L s E Q p q=>by
 refine p.rec λ{G hp tk h' m} x f S l r=>?_
 clear p;exact wpAny_Dict_empty ((At.Lb (kvs:=[]) (ps:=[]) (At.imp (At.own (ob:=dictOf [] 0) (tk:=tk) x f S l r (S.fr.push _) (News.push S.fr S.nw _)) λG h l r=>⟨⟨.nil,λO h=>(nomatch h),l.rec λO O O x y O=>x.trans y,.refl,l⟩,r⟩)).rec λp O O=>q _ _ env _ (At.imp p λG h l r=>⟨l.2.2,by clear O p;cases l.1;have r2:=r.2;rw[List.append_nil,MH.set_same r.1]at r2;exact r2⟩))
end
def Fj(o:V):String:=if JB o=true then "tuple_iterator" else "list_iterator"
structure Pa(o:V) (l:Addr) (i:Nat) (ob:Obj):Prop where
 c:ob.cls=.type (Fj o)
 d:ob.data=.fields #[.ref l,.int i 0]
inductive CS(N:Nm) (G:Gh) (I:Addr) (o:V) (l:Addr) (i:Nat):Prop where
 |mk {ob:Obj}(m:(I,ob)∈G.news) (g:G.g I=.it) (b:Pa o l i ob) (v:VR N G o (.ref l)):CS N G I o l i
theorem CS.kp{N:Nm}{G G':Gh}{I l:Addr}{o:V}{i:Nat}(v:bK G G') (k:∀ ob,(I,ob)∈G.news->G.g I=.it->(I,ob)∈G'.news/\G'.g I=.it) (h:CS N G I o l i):CS N G' I o l i:=h.rec λm g b r=>⟨(k _ m g).1,(k _ m g).2,b,r.aI v⟩
def Gh.rF{G:Gh}{d:Addr}{T:Ow->Prop}(hd:¬ T (G.g d)):Kp T G (G.drop d):=⟨λO O h=>h,λp hp hc=>⟨aaY.mpr ⟨hp,aaq λe=>hd (e▸hc)⟩,rfl⟩⟩
theorem n_{h h':MH}{o:V}{xs:List V}(e:bW h o=some xs) (hs:same h' o xs=true):bW h' o=some xs:=by
 cases o with
 |ref a =>
  have hs:uG xs (h'.get a)=true:=hs;show l8 (h'.get a)=_;cases q:h'.get a with
  |none=>rw[q]at hs;exact ff hs
  |some mo =>
   rw[q]at hs;cases mo with
   |list ys=>exact aab some (sJ hs).symm
   |_=>exact ff hs
 |_=>exact e
section
variable{Z:b_}{n:Nat}{F:Fm}{X:EC Z n F}{c:Cx}{env:En}{L:Pn X.c.bk}{E:Value->Shared->Prop}{G:Gh}{m:Str->Option Value}{h:MH}{hp cE:Heap}{I l d:Addr}{o:V}{ov:Value}{xs:List V}{i tk:Nat}{s:Shared}{R:MH->Prop}
theorem Gh.jl{S:Ow->Prop}{G₁:Gh}{ob:Obj}(y:Kp S G₁ G) (n:d∉G₁.news.map (·.1)):Kp S G₁ (G.upd d ob):=y.but n (λO O h=>h) λp hp hd O=>⟨aR hp hd,rfl⟩
theorem Gh.fR{S:Ow->Prop}{G₁:Gh}(y:Kp S G₁ G) (n:d∉G₁.news.map (·.1)):Kp S G₁ (G.drop d):=y.but n (λO O h=>h) λp hp hd O=>⟨aaY.mpr ⟨hp,aaq hd⟩,rfl⟩
theorem Gh.rG{S:Ow->Prop}{G₁:Gh}{u:Ow}(y:Kp S G₁ G) (n:d∉G₁.news.map (·.1)):Kp S G₁ (G.own d u):=y.but n (λO O h=>h) λp hp hd O=>⟨hp,aaf hd⟩
theorem cj.CT{ob jk:Obj}(S:cj Z c G m env h hp) (lo:(G.g I).lo) (en:¬ Ow.en (G.g I)) (m':(I,ob)∈G.news) (hs:Heap.SameBut I hp cE) (hg:cE.get? I=some jk):cj Z c (G.upd I jk) m env h cE :=
 S.to (S.sr.upd lo) (Gh.fc en) (S.fr.update S.nw m' hs) (S.nw.update m' hs hg)
theorem cj.pU{ob:Obj}(S:cj Z c G m env h hp) (lo:(G.g I).lo) (en:¬ Ow.en (G.g I)) (m':(I,ob)∈G.news) (hs:Heap.ExtBut I hp cE):cj Z c (G.drop I) m env h cE:=by
 have hI:=S.nw _ m';refine S.to (S.sr.grow (Gh.rF λq=>Ow.uN lo q rfl) ((List.Sublist.map _ List.filter_sublist).nodup S.sr.nodup) (λa ha=>?_) λO=>rfl) (Gh.rF en) ?_ λq hq=>?_
 ·refine az (aaG.mp ha) λq hq e=>?_
  exact S.sr.low a (aaG.mpr ⟨q,(aaY.mp hq).1,e⟩)
 ·refine lX S.fr.ns λo es ep ho r=>?_
  exact⟨⟨o,es,ep,hs _ _ (Ne.symm hI.2.1) ho,r⟩,λb x e=>hs _ _ (λz=>by rw[z,hI.2.2]at e;cases e) (S.fr.keep b x e),S.fr.above⟩
 ·have q2:=aaY.mp hq;exact⟨hs _ _ (aaK q2.2) (S.nw q q2.1).1,(S.nw q q2.1).2⟩
theorem jR(S:cj Z c G m env h hp) (r:VR Z.N G o ov) (e:bW h o=some xs) {A:Around}{Q:Value->Shared->Prop}
  (hQ:∀ l,ov=.ref l->Q (.ref hp.objs.size) { s with heap:=hp.push { cls:=.type (Fj o),data:=.fields #[.ref l,.int 0 0] },toks:=tk }):wpAny (model Z.prog Z.w) A (pyIter ov) Q E { s with heap:=hp,toks:=tk }:=by
 cases S.seq r e with
 |tup g _ _=>exact wpAny_pyIter_tuple (eF g) (hQ _ rfl)
 |lst t g _ _ =>
  refine wpAny_pyIter_list (aJ g) ?_;have q:=hQ _ rfl;rw[Fj,t]at q;exact q
theorem At.next{L' L'':Pn X.c.bk}{Q:Option Value->Shared->Prop}(p:X.At env L R s) (hI:I∉X.a_.news.map (·.1)) (k:∀ G,L.P G->CS Z.N G I o l i) (hs:∀ h,R h->bW h o=some xs)
  (up:∀ G ob,L.P G->(G.news.map (·.1)).Nodup->bK G (G.upd I ob)->CS Z.N (G.upd I ob) I o l (i+1)->L'.P (G.upd I ob)) (dn:∀ G,L.P G->bK G (G.drop I)->Ext X.c.bk X.a_ (G.drop I)->L''.P (G.drop I))
  (hS:∀ x v s,xs[i]? =some x->X.At env (.v Z.N x v L') R s->Q (some v) s) (hN:∀ s,xs[i]? =none->X.At env L'' R s->Q none s):X.wp (pyNext (.ref I)) Q E s:=by
 refine p.rec λ{G hp tk h m} x f S lp r=>?_
 clear p;cases k G lp with | @mk ob m' g b rv =>
 have hg:=(S.nw _ m').1;have lo:(G.g I).lo:=by rw[g];trivial
 have en:¬ Ow.en (G.g I):=by rw[g];exact id
 have vm:∀ jk,bK G (G.upd I jk):=λjk=>Gh.fc (by rw[g];exact λe=>nomatch e)
 have vd:bK G (G.drop I):=Gh.rF (by rw[g];exact λe=>nomatch e)
 have item:∀ {y v h' jk},xs[i]? =some y->VR Z.N G y v->h'.get? I=some jk->Pa o l (i+1) jk->Heap.SameBut I hp h'->Q (some v) (X.s h' tk):=λhx rx Wn b' Fo =>
  hS _ _ _ hx ⟨Gh.jl x hI,f,S.CT lo en m' Fo Wn,⟨rx.aI (vm _),up G _ lp S.sr.nodup (vm _) ⟨aD m',g,b',rv.aI (vm _)⟩⟩,r⟩
 have stop:∀ {h'},xs[i]? =none->Heap.ExtBut I hp h'->Q none (X.s h' tk):=λhx he=>hN _ hx ⟨Gh.fR x hI,f,S.pU lo en m' he,dn G lp vd (Gh.fR x hI),r⟩
 clear k up;cases S.seq rv (hs h r) with
 |tup g' rs l' =>
  cases hx:xs[i]? with
  |some y =>
   refine az (rs.get hx) λv hv Qm=>?_
   exact next_tuple_item ⟨ob,hg,b.c,b.d⟩ (cB g') (List.getElem?_toArray.trans hv) λh' hi Fo=>hi.elim λjk q=>item hx Qm q.1 ⟨q.2.1,q.2.2⟩ Fo
  |none=>exact next_tuple_end X.ok.handled ⟨ob,hg,b.c,b.d⟩ (cB g') (List.getElem?_toArray.trans (List.getElem?_eq_none (rs.length▸List.getElem?_eq_none_iff.mp hx))) λh' he=>stop hx he
 |lst t g' rs l' =>
  have eT:Fj o = "list_iterator" := by rw[Fj,t];rfl
  cases hx:xs[i]? with
  |some y =>
   refine az (rs.get hx) λv hv Qm=>?_
   exact wpAny_pyNext_list_item ⟨ob,hg,eT▸b.c,b.d⟩ (aJ g') (List.getElem?_toArray.trans hv) λh' hi Fo=>hi.elim λjk q=>item hx Qm q.1 ⟨eT.symm▸q.2.1,q.2.2⟩ Fo
  |none=>exact wpAny_pyNext_list_end X.ok.handled ⟨ob,hg,eT▸b.c,b.d⟩ (aJ g') (List.getElem?_toArray.trans (List.getElem?_eq_none (rs.length▸List.getElem?_eq_none_iff.mp hx))) λh' he=>stop hx he
end
noncomputable def freeNames(names:List (Str×NameKind)):List Str:=(names.filter λy=>y.2==.free).map (·.1)
noncomputable def jS(names:List (Str×NameKind)) (y:Str×NameKind):Bool:=(y.2==.local&&names.lookup y.1==some .local)||(y.2==.free&&names.lookup y.1==some .free)||y.2==.globalImplicit
def bA(sc:Scope) (x:Str):Bool:=sc.kind==.function&&sc.names.lookup x==some .local&&sc.names.all (jS sc.names)
noncomputable def fS(nm:List Str):List Nat->List Str->Bool
 |[],ys=>ys.isEmpty
 |i::is,ys=>(match ys with
  |[]=>false
  |x::xs=>nm[i]? ==some x&&fS nm is xs)
theorem cu{env:Env}{x:Str}{k:NameKind}:∀ {names:List (Str×NameKind)},names.lookup x=some k ->
  (names.map λ(n,k)=>if (k==NameKind.free&&env.scope.kind==.function&&env.kindOf n==some .cell) then (n,NameKind.cell) else (n,k)).lookup x =
   some (if (k==NameKind.free&&env.scope.kind==.function&&env.kindOf x==some .cell)=true then .cell else k):=by
 intro r;induction r with
 |nil =>
  intro h;exact nn h
 |cons x_ r ih =>
  intro h;obtain⟨n,k'⟩:=x_;show List.lookup x ((if (k'==NameKind.free&&env.scope.kind==.function&&env.kindOf n==some .cell)=true then (n,NameKind.cell) else (n,k'))::_)=_
  rw[List.lookup_cons]at h;cases hx:x==n with
  |true =>
   rw[hx]at h;cases h;have hn:x=n:=aam.mp hx;subst hn;split<;>rw[List.lookup_cons,hx]
  |false =>
   rw[hx]at h;split<;>rw[List.lookup_cons,hx]<;>exact ih h
theorem sX{f:Str->Option Addr}{y:Str}:∀ {l:List (Str×Addr)},(∀ q∈l,f q.1=some q.2)->(∃ q∈l,q.1=y)->l.lookup y=f y:=by
 intro l;induction l with
 |nil =>
  intro _ h;exact h.elim λO h=>nomatch h.1
 |cons p l ih =>
  intro k h;rw[List.lookup_cons];cases e:y==p.1 with
  |true=>exact(k p aad).symm.trans (aab f (aam.mp e).symm)
  |false=>exact ih (λq hq=>k q (aac _ hq)) (h.elim λq hq=>⟨q,(aau.mp hq.1).elim (λz=>by rw[<- hq.2,z]at e;exact ff ((beq_self_eq_true _).symm.trans e).symm) id,hq.2⟩)
theorem pV{env:Env}:∀ (names:List (Str×NameKind)) (acc:List (Str×Addr)),(∀ p∈names,p.2=.free->∃ a,env.cells.lookup p.1=some a)->(∀ q∈acc,env.cells.lookup q.1=some q.2) ->
  ∃ cl:List (Str×Addr),(forIn names acc λx r=>(do
    let Ux:=r
    if (x.2==NameKind.free)=true then do
     let a <- cellOf env x.1
     pure (ForInStep.yield ((x.1,a)::Ux))
    else pure (ForInStep.yield Ux):Sem (ForInStep (List (Str×Addr)))))=pure cl/\(∀ q∈cl,env.cells.lookup q.1=some q.2)/\(∀ q∈acc,q∈cl)/\∀ p∈names,p.2=.free->∃ q∈cl,q.1=p.1:=by
 intro r;induction r with
 |nil =>
  intro acc _ ha;exact⟨acc,rfl,ha,λO h=>h,λO h=>(nomatch h)⟩
 |cons p r ih =>
  intro acc hs ha;rw[List.forIn_cons];by_cases hk:p.2=.free
  ·refine gJ (hs p aad hk) λa Uy=>?_
   refine cT (ih ((p.1,a)::acc) (λy hy=>hs y (aac _ hy)) λq hq=>(aau.mp hq).elim (λe=>e▸Uy) (ha q)) λcl c1 c2 c3 c4=>?_
   refine⟨cl,?_,c2,λq hq=>c3 q (aac _ hq),λy hy hf=>(aau.mp hy).elim (λe=>⟨_,c3 _ aad,e▸rfl⟩) λhy=>c4 y hy hf⟩
   have e1:cellOf env p.1=pure a:=by unfold cellOf;rw[Uy]
   dsimp only;rw[aae (aam.mpr hk),e1,pure_bind,pure_bind];exact c1
  ·refine cT (ih acc (λy hy=>hs y (aac _ hy)) ha) λcl c1 c2 c3 c4=>?_
   refine⟨cl,?_,c2,c3,λy hy hf=>(aau.mp hy).elim (λe=>absurd (e▸hf) hk) λhy=>c4 y hy hf⟩
   dsimp only;rw[aaf λe=>hk (aam.mp e),pure_bind]
   exact c1
theorem vp{names:List (Str×NameKind)}{p:Str×NameKind}(h:p∈names) (e:p.2=.free):p.1∈freeNames names:=aaG.mpr ⟨p,aaY.mpr ⟨h,aam.mpr e⟩,rfl⟩
theorem oe{names:List (Str×NameKind)}{y:Str}(h:y∈freeNames names):∃ p∈names,p.2=.free/\p.1=y:=(aaG.mp h).elim λp h=>have q:=aaY.mp h.1;⟨p,q.1,aam.mp q.2,h.2⟩
theorem pW{env:Env}{scope:Scope}(h:∀ y∈freeNames scope.names,∃ a,env.cells.lookup y=some a) :
  ∃ cl,closureFor scope env=pure cl/\∀ y∈freeNames scope.names,cl.lookup y=env.cells.lookup y:=by
 refine cT (pV scope.names [] (λp hp hf=>h p.1 (vp hp hf)) λO h=>nomatch h) λcl c1 c2 O c4=>?_
 refine⟨cl,?_,λy hy=>(oe hy).elim λp hp=>sX (f:=λy=>env.cells.lookup y) c2 ((c4 p hp.1 hp.2.1).imp λq hq=>⟨hq.1,hq.2.trans hp.2.2⟩)⟩
 unfold closureFor;simp only[bind_pure_comp]
 first | exact c1 | (simp only[bind_pure];exact c1)
class inductive fC (N:Nm) (c:Cx) (G:Gh):List Str->En->Prop where
 |nil:fC N c G [] []
 |cons {y:Str}{ys:List Str}{v:V}{u:Value}{q:Addr}{o:Obj}{cs:En}(r:VR N G v u) (l:c.ak.cells.lookup y=some q) (m:(q,o)∈G.news) (g:G.g q=.fy) (d:o.data=.cell (some u)) (t:fC N c G ys cs):fC N c G (y::ys) (some (.val v)::cs)
section
variable{N:Nm}{c:Cx}{G G':Gh}{ys:List Str}{cs env:En}{m:Str->Option Value}
theorem fC.kp{S:Ow->Prop}(x:Kp S G G') (h1:S .fy) (h2:S .ey) (h:fC N c G ys cs):fC N c G' ys cs:=h.rec .nil λr l m g d O ih=>.cons (r.aI (x.v h2)) l (x.at m g h1).1 (x.at m g h1).2 d ih
theorem fC.length(h:fC N c G ys cs):cs.length=ys.length:=h.rec rfl λO O O O O O ih=>aab (·+1) ih
theorem fC.cells(h:fC N c G ys cs):∀ y∈ys,∃ a,c.ak.cells.lookup y=some a:=h.rec (λO h=>nomatch h) λO l O O O O ih y hy=>(aau.mp hy).elim (λe=>e▸⟨_,l⟩) (ih y)
theorem Lc{i:Nat}{is:List Nat}{C:Prop}(e:eC env (i::is)=some cs) (k:∀ v r,env[i]? =some (some (.val v))->eC env is=some r->cs=some (.val v)::r->C):C:=by
 revert e;show(match valOf env[i]? with
  |some v=>(match eC env is with | some r=>some (some (.val v)::r) | none=>none)
  |none=>none)=some cs->C
 cases q:env[i]? with
 |none=>exact λe=>nn e
 |some o=>cases o with
  |none=>exact λe=>nn e
  |some w=>cases w with
   |bH O=>exact λe=>nn e
   |val v =>
    have k:=k v;revert k;cases eC env is with
    |none=>exact λO e=>nn e
    |some r=>exact λk e=>k r q rfl (aah e).symm
theorem Fp(R:hH N c G m env) {cU:List Nat}:∀ {ys:List Str}{cs:En},fS c.nm cU ys=true->(∀ y∈ys,c.ak.kindOf y=some .cell∨c.ak.kindOf y=some .free)->eC env cU=some cs->fC N c G ys cs:=by
 induction cU with
 |nil =>
  intro ys cs hc O e;cases e;cases ys with
  |nil=>exact .nil
  |cons O O=>exact ff hc
 |cons i is ih =>
  intro ys cs hc hk e;cases ys with
  |nil=>exact ff hc
  |cons y ys =>
   have hc:=ae hc;refine Lc e λv r h1 h2 e=>?_
   subst e;cases R.mv i _ y h1 (aam.mp hc.1) with | val r a =>
   have Uz:=hk y aad;cases a with
   |loc k _ _=>rcases Uz with q | q<;>exact nomatch k.symm.trans q
   |dW k _ _ _ _ _=>rcases Uz with q | q<;>exact nomatch k.symm.trans q
   |cell _ l m g d=>exact .cons r l m g d (ih hc.2 (λz hz=>hk z (aac _ hz)) h2)
theorem fC.mv{c':Cx}(pj:∀ y∈ys,c'.ak.cells.lookup y=c.ak.cells.lookup y) (hk:∀ y∈ys,c'.ak.kindOf y=some .cell∨c'.ak.kindOf y=some .free) (h:fC N c G ys cs):∀ (i j:Nat) (w:MV) (x:Str),cs[i]? =some (some w)->ys[i]? =some x->pL N c' G m j x w :=
 fC.rec (motive:=λys cs O=>(∀ y∈ys,c'.ak.cells.lookup y=c.ak.cells.lookup y)->(∀ y∈ys,c'.ak.kindOf y=some .cell∨c'.ak.kindOf y=some .free)->∀ (i j:Nat) (w:MV) (x:Str),cs[i]? =some (some w)->ys[i]? =some x->pL N c' G m j x w) (λO O O O O O e=>nn e)
  (λr l m' g d O ih pj hk i j w x e e'=>match i,e,e' with
   |0,e,e'=>by cases e;cases e';exact .val r (.cell (hk _ aad) ((pj _ aad).trans l) m' g d)
   |i+1,e,e'=>ih (λy hy=>pj y (aac _ hy)) (λy hy=>hk y (aac _ hy)) i j w x e e') h pj hk
end
noncomputable def Pn.sY{k:Addr}(N:Nm) (c:Cx) (ys:List Str) (cs:En) (L:Pn k):Pn k:=⟨λG=>fC N c G ys cs/\L.P G,λG G' x h=>⟨h.1.kp x trivial trivial,L.st G G' x h.2⟩⟩
def Cx.comp(c:Cx) (sc:Scope) (cl:List (Str×Addr)) (C:Addr) (x:Str) (k:Nat):Cx:={ c with ak:=compEnvC sc cl C c.ak,bk:=k,nm:=x::freeNames sc.names }
def Fm.comp(sc:Scope) (x:Str):Fm:=⟨sc.names,x::freeNames sc.names,false,false,false⟩
theorem iE(G:Gh):∃ k:Nat,∀ p∈G.news,∀ i,G.g p.1≠.bH k i:=by
 have:∀ l:List (Addr×Obj),∃ k:Nat,∀ p∈l,∀ L i,G.g p.1=.bH L i->L<k:=λl=>by
  induction l with
  |nil=>exact⟨0,λp hp=>(nomatch hp)⟩
  |cons q l ih =>
   refine gJ ih λk hk=>?_
   obtain⟨j,hj⟩:∃ j:Nat,∀ L i,G.g q.1=.bH L i->L<j:=by
    cases e:G.g q.1 with
    |bH L i=>exact⟨L+1,λL' i' e'=>(Ow.bH.inj e').1▸aaN _⟩
    |_=>exact⟨0,λL' i' e'=>nomatch e'⟩
   exact⟨max k j,λp hp L i e=>(aau.mp hp).elim (λz=>aai (hj L i (z▸e)) (Nat.le_max_right _ _)) λz=>aai (hk p z L i e) (Nat.le_max_left _ _)⟩
 exact(this G.news).imp λk hk p hp i e=>aaW _ (hk p hp k i e)
theorem Kp.fresh{G G':Gh}{k:Nat}(hk:∀ p∈G.news,∀ i,G.g p.1≠.bH k i) (x:Ext k G G'):Kp Ow.e0 G G':=⟨x.σ,λp hp hc=>x.keep p hp (by
 cases e:G.g p.1 with
 |bH L i=>exact λz=>hk p hp i (z▸e)
 |main _=>rw[e]at hc;exact hc
 |dW _=>rw[e]at hc;exact hc
 |_=>trivial)⟩
section
variable{Z:b_}{n:Nat}{c:Cx}{sc:Scope}{cl:List (Str×Addr)}{C:Addr}{x:Str}{k:Nat}
theorem Aw(ok:fB Z n c) (h:bA sc x=true) (hn:decide (x::freeNames sc.names).Nodup=true):fB Z n (c.comp sc cl C x k):={ ok with cg:=ok.cg,ck:=aam.mp (ae (ae h).1).1,cb:=ok.cb,nm:=aaK hn }
theorem og:Ez (c.comp sc cl C x k) (.comp sc x) where
 kd:=λy h=>cu (env:=c.ak) h
 cf:=λy h=>by
  rcases h with h | h
  ·exact .inl (cu (env:=c.ak) h)
  ·have:=cu (env:=c.ak) h;split at this
   ·exact .inl this
   ·exact .inr this
 nm:=rfl
 top:=λh=>ff h
 lo:=λh=>ff h
 bot:=λh=>ff h
end
noncomputable def oh(ifs:List PySem.Expr) (env:Env) (b:Bool):Sem Bool:=forIn ifs b λc r=>if r=true then do let ok <- PySem.isTrue c env (eval c env);pure (ForInStep.yield ok) else pure (ForInStep.yield r)
def fT(Z:b_) (n:Nat) (F:Fm) (me:gZ) (es:List PySem.Expr):Prop:=∀ (X:EC Z n F) (K:Bool->En->T) (env:En) (L:Pn X.c.bk) (s:Shared) (E:Value->Shared->Prop) (Q:Bool->Shared->Prop),X.At env L (X.R (sH Z.P true me env K)) s->(∀ b env s,X.At env L (X.R (K b env)) s->Q b s)->X.wp (oh es X.c.ak true) Q E s
theorem sZ{M:Model}{A:Around}{E:Value->Shared->Prop}{env:Env}{s:Shared}{Q:Bool->Shared->Prop}(h:Q false s):∀ ifs:List PySem.Expr,wpAny M A (oh ifs env false) Q E s:=by
 intro cs;induction cs with
 |nil =>
  exact aaH h
 |cons c cs ih =>
  unfold oh;rw[List.forIn_cons,aaf Bool.false_ne_true,pure_bind];exact ih
section
variable{Z:b_}{n:Nat}{F:Fm}{t:MT}{ts:gZ}{y:PySem.Expr}{ys:List PySem.Expr}
theorem Ax:fT Z n F .nil []:=λX K env L s E Q a q=>aaH (q true env s a)
theorem vq(h1:fQ Z n F t y) (h2:fT Z n F ts ys):fT Z n F (.cons t ts) (y::ys):=λX K env L s E Q a q=>by
 unfold oh;rw[List.forIn_cons,aae rfl,bind_assoc];exact aal (h1 X _ env L s E _ a λb env s a=>aal<|aaH<|match b,a with
  |true,a=>h2 X K env L s E Q a q
  |false,a=>sZ (q false env s a) ys)
end
inductive Ld(f:V->MH->Option (Option V×MH)) (chk:MH->Bool) (x:V) (xs:List V) (h:MH) (ys:List V) (h':MH):Prop where
 |mk {o:Option V}{h1:MH}{Ay:List V}(e:f x h=some (o,h1)) (r:bO f chk xs h1=some (Ay,h')) (q:ys=o.toList++Ay):Ld f chk x xs h ys h'
theorem s6{f:V->MH->Option (Option V×MH)}{chk:MH->Bool}{xs ys:List V}{h h':MH}(e:bO f chk xs h=some (ys,h')):chk h=true:=by
 cases xs<;>exact(gd e).1
theorem pX{f:V->MH->Option (Option V×MH)}{chk:MH->Bool}{x:V}{xs ys:List V}{h h':MH}(e:bO f chk (x::xs) h=some (ys,h')):Ld f chk x xs h ys h':=by
 obtain⟨⟨o,h1⟩,e1,e⟩:=aap.mp (gd e).2;obtain⟨⟨Ay,h2⟩,e2,e⟩:=aas.mp e;cases e;exact .mk e1 e2 rfl
inductive Az(r:Fl×St) (o:Option V) (h:MH):Prop where
 |put {v:V}{E:En}(e:r=(.ret v,⟨E,h⟩)) (q:o=some v):Az r o h
 |skip {E:En}(e:r=(.next,⟨E,h⟩)) (q:o=none):Az r o h
theorem Fq{x:Option (Fl×St)}{o:Option V}{h:MH}(e:zq x=some (o,h)):∃ r,x=some r/\Az r o h:=by
 cases x with
 |none=>exact nn e
 |some r =>
  obtain⟨fl,st⟩:=r;refine⟨_,rfl,?_⟩;cases fl with
  |next=>cases e;exact .skip rfl rfl
  |ret v=>cases e;exact .put rfl rfl
  |_=>exact nn e
inductive CP(N:Nm) (I D C:Addr) (o:V) (l:Addr) (i:Nat) (acc:List V) (G:Gh):Prop where
 |mk {vs:List Value}{kk:Nat}{oC:Obj}{es:Array DictEntry}{ep:Nat}(it:CS N G I o l i) (mD:(D,ax vs kk)∈G.news) (gD:G.g D=.it) (nD:I≠D) (rD:bM N G acc vs) (mC:(C,oC)∈G.news) (gC:G.g C=.fy) (dC:oC.data=.dict es ep) (kC:StrKeys es):CP N I D C o l i acc G
inductive CQ(N:Nm) (D C:Addr) (acc:List V) (G:Gh):Prop where
 |mk {vs:List Value}{kk:Nat}{oC:Obj}{es:Array DictEntry}{ep:Nat}(mD:(D,ax vs kk)∈G.news) (gD:G.g D=.it) (rD:bM N G acc vs) (mC:(C,oC)∈G.news) (gC:G.g C=.fy) (dC:oC.data=.dict es ep) (kC:StrKeys es):CQ N D C acc G
section
variable{N:Nm}{I D C:Addr}{o:V}{l:Addr}{i:Nat}{acc:List V}{G G':Gh}{k:Addr}
theorem CP.ext(x:Ext k G G') (h:CP N I D C o l i acc G):CP N I D C o l i acc G':=h.rec λit mD gD nD rD mC gC dC kC=>.mk (it.kp (x.v trivial) λO m g=>x.at m g trivial) (x.at mD gD trivial).1 (x.at mD gD trivial).2 nD (rD.ext x) (x.at mC gC trivial).1 (x.at mC gC trivial).2 dC kC
theorem CQ.ext(x:Ext k G G') (h:CQ N D C acc G):CQ N D C acc G':=h.rec λmD gD rD mC gC dC kC=>.mk (x.at mD gD trivial).1 (x.at mD gD trivial).2 (rD.ext x) (x.at mC gC trivial).1 (x.at mC gC trivial).2 dC kC
noncomputable def Pn.cp(N:Nm) (I D C:Addr) (o:V) (l:Addr) (i:Nat) (acc:List V):Pn k:=⟨CP N I D C o l i acc,λO O x h=>h.ext x⟩
noncomputable def Pn.cq(N:Nm) (D C:Addr) (acc:List V):Pn k:=⟨CQ N D C acc,λO O x h=>h.ext x⟩
end
section
variable{Z:b_}{n:Nat}{F:Fm}
noncomputable def EC.bare(X:EC Z n F) (G₁:Gh) (m:Str->Option Value) (k:Nat):EC Z n ⟨[],[],false,false,false⟩ where
 c:={ X.c with nm:=[],bk:=k }
 a_:=G₁
 fm:=(·=m)
 sh:=X.sh
 r:=X.r
 b:=X.b
 ok:={ X.ok with nm:=List.nodup_nil }
 dE:=⟨λO h=>nn h,λO h=>h.elim (λh=>nn h) λh=>nn h,rfl,λh=>ff h,λh=>ff h,λh=>ff h⟩
def EC.comp(X:EC Z n F) (G₁:Gh) (m:Str->Option Value) (k:Nat) {sc:Scope}{x:Str}(cl:List (Str×Addr)) (C:Addr) (hs:bA sc x=true) (hn:decide (x::freeNames sc.names).Nodup=true) (r:Mine.Internal.Fl×St):EC Z n (.comp sc x) where
 c:=X.c.comp sc cl C x k
 a_:=G₁
 fm:=(·=m)
 sh:=X.sh
 r:=r
 b:=X.b
 ok:=Aw X.ok hs hn
 dE:=og
end
section
variable{Z:b_}{n:Nat}{F:Fm}{X:EC Z n F}{G₁:Gh}{m:Str->Option Value}{k:Nat}{sc:Scope}{y:Str}{cl:List (Str×Addr)}{C D I l:Addr}{o:V}{elt:ME}{ifs:gZ}{a b:PySem.Expr}{ys:List PySem.Expr}{px pos:Pos}{cs:En}{xs total:List V}{R:Result->Shared->Prop}{Rf:MH->Prop}
def rH(Z:b_) (n:Nat) (elt:ME) (ifs:gZ) (cs:En) (x:V) (h:MH):Option (Option V×MH):=zq (run (aa Z.P n) (sH Z.P true ifs (some (.val x)::cs) λq E=>pick q (tE Z.P elt E λv E=>.ret (.ret v) E) (.ret .next E)) h)
inductive CI(X:EC Z n F) (G₁:Gh) (m:Str->Option Value) (k:Nat) (I D C:Addr) (o:V) (l:Addr) (xs total:List V) (f:V->MH->Option (Option V×MH)) (Rf:MH->Prop) (j:Nat) (s:Shared):Prop where
 |mk {dn rem acc ys:List V}{hf:MH}(ex:xs=dn++rem) (ej:j=rem.length) (el:acc.length<=dn.length) (et:total=acc++ys) (rf:Rf hf) (a:(X.bare G₁ m k).At [] (.cp Z.N I D C o l dn.length acc) (λh=>bO f (λh=>same h o xs) rem h=some (ys,hf)) s):CI X G₁ m k I D C o l xs total f Rf j s
theorem oi{names:List (Str×NameKind)}{p:Str×NameKind}(h:jS names p=true) (e:p.2=.free):names.lookup p.1=some .free:=by
 unfold jS at h;rw[e]at h;exact aam.mp ((aaZ.mp ((aaZ.mp h).elim id λh=>ff h)).elim (λh=>ff h) id)
theorem oj(h:bA sc y=true):∀ z∈freeNames sc.names,sc.names.lookup z=some .free:=λz hz=>(oe hz).elim λp hp=>hp.2.2▸oi (aa0.mp (ae h).2 p hp.1) hp.2.1
theorem s7{env:En}{L:Pn X.c.bk}{s:Shared}{E:Value->Shared->Prop}{hO:Option V}{dB:MH}{P:Shared->Prop}(h1:ay Z n F elt a) (h2:fT Z n F ifs ys) (ir:Az X.r hO dB)
  (p:X.At env L (X.R (sH Z.P true ifs env λq E=>pick q (tE Z.P elt E λv E=>.ret (.ret v) E) (.ret .next E))) s)
  (put:∀ w u env s,hO=some w->X.At env (.v Z.N w u L) (·=dB) s->X.wp (call (.builtin "list.append") [.ref D,u]) (λO=>P) E s) (skip:∀ env s,hO=none->X.At env L (·=dB) s->P s) :
  X.wp (oh ys X.c.ak true) (λok AA=>if ok=true then X.wp (eval a X.c.ak) (λx Qn=>X.wp (call (.builtin "list.append") [.ref D,x]) (λO=>P) E Qn) E AA else P AA) E s :=
 h2 X _ env L s E _ p λb env s p=>match b,p with
  |true,p=>h1 X _ env L s E _ p λw u env s p=>by
   have q:∀ h,X.R (.ret (.ret w) env) h->hO=some w/\h=dB:=λh r=>by
    have r:=aah r;cases ir with
    |put e q=>rw[e]at r;cases r;exact⟨q,rfl⟩
    |skip e _=>exact nomatch r.trans e
   exact put w u env s (p.rec λO O O O r=>(q _ r).1) (At.imp p λO h l r=>⟨l,(q h r).2⟩)
  |false,p=>by
   have q:∀ h,X.R (.ret .next env) h->hO=none/\h=dB:=λh r=>by
    have r:=aah r;cases ir with
    |skip e q=>rw[e]at r;cases r;exact⟨q,rfl⟩
    |put e _=>exact nomatch r.trans e
   exact skip env s (p.rec λO O O O r=>(q _ r).1) (At.imp p λO h l r=>⟨l,(q h r).2⟩)
theorem vu{env:En}{s:Shared}{E:Value->Shared->Prop}{i:Nat}{acc:List V}{w:V}{u:Value}{Rh:MH->Prop}{P:Shared->Prop}(hD:D∉X.a_.news.map (·.1)) (hl:acc.length<=4000) (p:X.At env (.v Z.N w u (.cp Z.N I D C o l i acc)) Rh s) (q:∀ s,X.At env (.cp Z.N I D C o l i (acc++[w])) Rh s->P s):X.wp (call (.builtin "list.append") [.ref D,u]) (λO=>P) E s:=by
 refine p.rec λ{G hp tk h m} x f S l r=>?_
 clear p;refine cJ l λru l=>?_
 cases l with | @mk vs kk oC es ep it mD gD nD rD mC gC dC kC =>
 refine append_K (its:=vs.toArray) (n:=kk) S.fr S.nw (dR S.sr.nodup mD) (λh5 F5 N5=>?_) (by rw[aaT,<- rD.length];exact aaj hl (by decide))
 rw[show W.listOf (vs.toArray.push u) (kk+1)=ax (vs++[u]) (kk+1) from by rw[W.listOf,List.push_toArray]]at N5
 have vm:bK G (G.upd D (ax (vs++[u]) (kk+1))):=Gh.fc (by rw[gD];exact λe=>nomatch e)
 exact q _ ⟨Gh.jl x hD,f,S.to (S.sr.upd (by rw[gD];trivial)) (Gh.fc (by rw[gD];exact id)) F5 N5,.mk (it.rec λm g b v=>⟨aR m nD,g,b,v.aI vm⟩) (aD mD) gD nD ((rD.append (.one ru)).aI vm) (aR mC (zZ gC gD λe=>nomatch e)) gC dC kC,r⟩
theorem pY{hs:bA sc y=true}{hn:decide (y::freeNames sc.names).Nodup=true}(pj:∀ z∈freeNames sc.names,cl.lookup z=X.c.ak.cells.lookup z) (hk:∀ p∈G₁.news,∀ i,G₁.g p.1≠.bH k i) (hC:C∉G₁.news.map (·.1)) (sY:fC Z.N X.c G₁ (freeNames sc.names) cs)
  {s:Shared}{E:Value->Shared->Prop}{i:Nat}{acc:List V}{x:V}{v:Value}{Rh:MH->Prop}{P:Shared->Prop}(p:(X.bare G₁ m k).At [] (.v Z.N x v (.cp Z.N I D C o l i acc)) Rh s)
  (q:∀ s h,Rh h->(∀ r:Fl×St,(X.comp G₁ m k cl C hs hn r).At (some (.val x)::cs) (.cp Z.N I D C o l i acc) (·=h) s)->P s):X.wp (assign (.Name y px) (compEnvC sc cl C X.c.ak) v) (λO=>P) E s:=by
 have UA:sc.names.lookup y=some .local:=aam.mp (ae (ae hs).1).2;have Pb:sc.kind=.function:=aam.mp (ae (ae hs).1).1;refine p.rec λ{G hp tk h m'} x1 fm S l r=>?_
 clear p;cases fm;refine cJ l λrx l=>?_
 cases l with | @mk vs kk oC es ep it mD gD nD rD mC gC dC kC =>
 refine wpAny_assign_Name (wpAny_storeName_local (m:=nsFind es) (cu (env:=X.c.ak) UA) ⟨oC,es,ep,(S.nw _ mC).1,dC,kC,λO=>rfl⟩ (λfD Le CU=>?_) (by show(_||_)=_;rw[show(compEnvC sc cl C X.c.ak).scope.kind=.function from Pb];rfl))
 refine nN Le λQo es' ep' g' d' k' f'=>?_
 have vm:bK G (G.upd C Qo):=Gh.fc (by rw[gC];exact λe=>nomatch e)
 have x2:Ext k G₁ (G.upd C Qo):=Gh.jl x1 hC;have e2:Kp Ow.en G₁ (G.upd C Qo):=(x2.fresh hk).weak λO=>Ow.ll
 have nC:∀ {a u},G.g a=u->u≠.fy->a≠C:=λg n=>zZ g gC n
 refine q _ h r λr=>⟨x2,rfl,⟨S.sr.upd (by rw[gC];trivial),⟨aab (·+1) sY.length,λi w z e e'=>match i,e,e' with
  |0,e,e'=>by cases e;cases e';exact .val (rx.aI vm) (.dW (cu (env:=X.c.ak) UA) (aD mC) gC d' k' ((f' _).trans (aae rfl)))
  |i+1,e,e'=>(sY.kp e2 trivial trivial).mv pj (λz hz=>og.cf z (.inr (oj hs z hz))) i _ w z e e'⟩,S.fr.update S.nw mC CU,S.nw.update mC CU g'⟩,
  .mk (it.rec λm g b v=>⟨aR m (nC g λe=>nomatch e),g,b,v.aI vm⟩) (aR mD (nC gD λe=>nomatch e)) gD nD (rD.aI vm) (aD mC) gC d' k',rfl⟩
theorem comp_back{hs:bA sc y=true}{hn:decide (y::freeNames sc.names).Nodup=true}{r:Fl×St}{env:En}{L:Pn k}{s:Shared}{h:MH}{Rh:MH->Prop}(p:(X.comp G₁ m k cl C hs hn r).At env L (·=h) s) (q:Rh h):(X.bare G₁ m k).At [] L Rh s :=
 p.rec λx f S l r=>⟨x,f,⟨S.sr,⟨rfl,λO O O e=>nn e⟩,S.fr,S.nw⟩,l,r▸q⟩
theorem s8{P:Option Value->Shared->Prop}{E:Value->Shared->Prop}{s:Shared}{h0:MH}{i:Nat}{acc rem Ay:List V}{hf:MH}(hU:bW h0 o=some xs) (hI:I∉G₁.news.map (·.1)) {f:V->MH->Option (Option V×MH)}(p:(X.bare G₁ m k).At [] (.cp Z.N I D C o l i acc) (λh=>bO f (λh=>same h o xs) rem h=some (Ay,hf)) s)
  (hS:∀ x v s,xs[i]? =some x->(X.bare G₁ m k).At [] (.v Z.N x v (.cp Z.N I D C o l (i+1) acc)) (λh=>bO f (λh=>same h o xs) rem h=some (Ay,hf)) s->P (some v) s) (hN:∀ s,xs[i]? =none->(X.bare G₁ m k).At [] (.cq Z.N D C acc) (λh=>bO f (λh=>same h o xs) rem h=some (Ay,hf)) s->P none s):X.wp (pyNext (.ref I)) P E s :=
 At.next (X:=X.bare G₁ m k) (env:=[]) (R:=λh=>bO f (λh=>same h o xs) rem h=some (Ay,hf)) (L:=.cp Z.N I D C o l i acc) (L':=.cp Z.N I D C o l (i+1) acc) (L'':=.cq Z.N D C acc) p hI (λG (h:CP Z.N I D C o l i acc G)=>h.rec λit O O O O O O O O=>it) (λh e=>n_ hU (s6 (chk:=λh=>same h o xs) e))
  (λG ob (h:CP Z.N I D C o l i acc G) nd vm it=>h.rec λJF mD gD nD rD mC gC dC kC=>.mk it (aR mD (Ne.symm nD)) gD nD (rD.aI vm) (aR mC (JF.rec λO g O O=>zZ gC g λe=>nomatch e)) gC dC kC)
  (λG (h:CP Z.N I D C o l i acc G) vm O=>h.rec λJF mD gD nD rD mC gC dC kC=>.mk (aaY.mpr ⟨mD,aaq (Ne.symm nD)⟩) gD (rD.aI vm) (aaY.mpr ⟨mC,aaq (JF.rec λO g O O=>zZ gC g λe=>nomatch e)⟩) gC dC kC) hS hN
theorem vy{xs:List V}{x:V}(h:xs[0]? =some x):∃ r,xs=x::r:=by
 cases xs with
 |nil=>exact nn h
 |cons y xs=>cases h;exact⟨xs,rfl⟩
theorem get_nil{xs:List V}(h:xs[0]? =none):xs=[]:=by
 cases xs with
 |nil=>rfl
 |cons y xs=>exact nn h.symm
theorem s9{J:Nat->Shared->Prop}(jt:∀ {j s},J j s->CI X G₁ m k I D C o l xs total (rH Z n elt ifs cs) Rf j s) (jf:∀ {j s},CI X G₁ m k I D C o l xs total (rH Z n elt ifs cs) Rf j s->J j s) (hs:bA sc y=true) (hn:decide (y::freeNames sc.names).Nodup=true) (pj:∀ z∈freeNames sc.names,cl.lookup z=X.c.ak.cells.lookup z) (hk:∀ p∈G₁.news,∀ i,G₁.g p.1≠.bH k i) (hI:I∉G₁.news.map (·.1)) (hD:D∉G₁.news.map (·.1)) (hC:C∉G₁.news.map (·.1))
  {h0:MH}(hU:bW h0 o=some xs) (sY:fC Z.N X.c G₁ (freeNames sc.names) cs) (hlen:xs.length<=4000) (h1:ay Z n (.comp sc y) elt a) (h2:fT Z n (.comp sc y) ifs ys)
  (hR:∀ s,total.length<=xs.length->(X.bare G₁ m k).At [] (.cq Z.N D C total) Rf s->R (.ok .next) s) {j:Nat}{s:Shared}(inv:J j s) :
  codeAny (model Z.prog Z.w) X.c.A (.compLoop (.ListComp a [⟨.Name y px,b,ys,0⟩] sc pos) 0 (.ref I) (.ref D) (compEnvC sc cl C X.c.ak)) R s :=
 codeAny_compLoop_tests J (λj s iv=>(jt iv).rec λ{dn rem acc Ay hf} ex ej el et rf p=>by
  have Pc:xs[dn.length]? =rem[0]? :=by rw[ex,aaO (aat _),Nat.sub_self]
  have hle:dn.length<=4000:=by rw[ex,aag]at hlen;exact aaj (aaF _ _) hlen
  refine s8 hU hI p (λx v s hx p=>?_) λs hx p=>hR s ?_ (At.imp p λG h l r=>?_)
  ·refine gJ (vy (Pc.symm.trans hx)) λLf er=>?_
   have next:∀ {acc' Lg s},acc'.length<=dn.length+1->total=acc'++Lg->(X.bare G₁ m k).At [] (.cp Z.N I D C o l (dn.length+1) acc') (λh=>bO (rH Z n elt ifs cs) (λh=>same h o xs) Lf h=some (Lg,hf)) s->∃ m',m'<j/\J m' s:=λe2 e3 p =>
    ⟨Lf.length,by rw[ej,er];exact aaN _,jf (.mk (dn:=dn++[x]) (by rw[ex,er,List.append_assoc];rfl) rfl (by rw[aag];exact e2) e3 rf (by rw[aag];exact p))⟩
   exact pY (hs:=hs) (hn:=hn) pj hk hC sY p λs h r p=>(pX (er▸r)).rec λ{hO dB ys1} ef r2 eq=>(Fq ef).elim λLh hr=>s7 (X:=X.comp G₁ m k cl C hs hn Lh) h1 h2 hr.2 (At.imp (p Lh) λO h l e=>⟨l,e▸hr.1⟩)
    (λw u env s e p=>vu hD (aaj el hle) p λs p=>next (acc':=acc++[w]) (by rw[aag];exact Nat.succ_le_succ el) (by rw[et,eq,e,List.append_assoc];rfl) (comp_back p r2))
    λenv s e p=>next (Nat.le_succ_of_le el) (by rw[et,eq,e];rfl) (comp_back p r2)
  ·have er:=get_nil (Pc.symm.trans hx);refine p.rec λO O O O r=>?_
   clear p;rw[er]at r;cases(gd r).2;rw[et,ex,er,List.append_nil,List.append_nil];exact el
  ·rw[get_nil (Pc.symm.trans hx)]at r;clear p;cases(gd r).2;rw[et,List.append_nil];exact⟨l,rf⟩) j inv
end
theorem Qp{c:Nat->List V->MH->Option aB}{v:V}{f:List V->T}{h:MH}{r:Fl×St}(e:run c (CB v f) h=some r):∃ xs,v=.tup xs/\run c (f xs) h=some r:=by
 cases v with
 |tup xs=>exact⟨xs,rfl,e⟩
 |_=>exact nn e
section
variable{Z:b_}{n:Nat}{F:Fm}{X:EC Z n F}{env:En}{L:Pn X.c.bk}{s:Shared}{E:Value->Shared->Prop}{sc:Scope}{y:Str}{elt it:ME}{ifs:gZ}{cU:List Nat}{a b:PySem.Expr}{ys:List PySem.Expr}{px pos:Pos}{c:Cx}{G:Gh}{m:Str->Option Value}{h:MH}{hp h':Heap}
theorem zN.len{N:Nm}{xs:List V}{o:V}{ov:Value}(q:zN N G hp xs o ov):xs.length<=4000:=q.rec (λO r l=>r.length▸l) λO O r l=>r.length▸l
theorem cj.fill{e o:Obj}{u:Ow}(ok:fB Z n c) (S:cj Z c G m env h hp) (hs:Heap.SameBut hp.objs.size (hp.push e) h') (hg:h'.get? hp.objs.size=some o):cj Z c (G.add hp.objs.size o u) m env h h':=by
 have k:∀ b x,hp.get? b=some x->h'.get? b=some x:=λb x q=>(hs.2 b (aaR (Heap.lt_size q))).trans (Heap.get?_push_of_some _ q)
 refine S.add ok (S.fr.keeps k) λp cE=>?_
 rcases aau.mp cE with rfl | cE
 ·exact⟨hg,Nat.ne_of_gt S.fr.ns.lt,S.fr.fresh⟩
 ·exact⟨k _ _ (S.nw p cE).1,(S.nw p cE).2⟩
theorem pZ{names:List (Str×NameKind)}{p:Str×NameKind}(h:jS names p=true):p.2≠.cell/\(p.2=.local->names.lookup p.1=some .local):=by
 unfold jS at h;refine⟨λe=>?_,λe=>?_⟩
 ·rw[e]at h;exact(aaZ.mp h).elim (λh=>(aaZ.mp h).elim (λh=>ff h) λh=>ff h) λh=>ff h
 ·rw[e]at h;exact aam.mp ((aaZ.mp ((aaZ.mp h).elim id λh=>ff h)).elim id λh=>ff h)
inductive Li(X:EC Z n F) (env:En) (L:Pn X.c.bk) (sc:Scope) (s:Shared) (f:En->T):Prop where
 |mk {cs:En}{cl:List (Str×Addr)}(p:X.At env (.sY Z.N X.c (freeNames sc.names) cs L) (X.R (f cs)) s) (h:closureFor sc X.c.ak=pure cl) (e:∀ z∈freeNames sc.names,cl.lookup z=X.c.ak.cells.lookup z):Li X env L sc s f
theorem At.Qq{f:En->T}(mu:fS F.nm cU (freeNames sc.names)=true) (kinds:∀ z∈freeNames sc.names,X.c.ak.kindOf z=some .cell∨X.c.ak.kindOf z=some .free) (p:X.At env L (X.R (zJ (eC env cU) f)) s):Li X env L sc s f :=
 p.rec λx g S l r=>(EB r).elim λcs ⟨e,r⟩=>have sY:=Fp S.env (X.dE.nm▸mu) kinds e;(pW sY.cells).elim λcl h=>⟨⟨x,g,S,⟨sY,l⟩,r⟩,h.1,h.2⟩
theorem Lj{c:Nat->List V->MH->Option aB}{o:V}{f:List V->V->T}{chk:List V->MH->Bool}{K:V->T}{h:MH}{r:Fl×St}(e:run c (.get (λh=>(bW h o).map V.tup) λl=>CB l λxs=>.comp (f xs) (chk xs) xs K) h=some r):∃ xs,bW h o=some xs/\∃ p,bO (λx h=>zq (run c (f xs x) h)) (chk xs) xs h=some p/\run c (K (.lst p.1)) p.2=some r:=by
 refine az (eA e) λv e r=>?_
 refine az (aas.mp e) λxs hU hv=>?_
 refine az (Qp r) λKC Wo r=>?_
 cases hv.trans Wo;refine az (aap.mp r) λpq el r=>?_
 exact⟨xs,hU,pq,el,r⟩
theorem vz{G₁:Gh}{k:Nat}{cl:List (Str×Addr)}{C D I s_:Addr}{o:V}{cs:En}{xs total:List V}{hf h0:MH}{use:Option (Value->Sem Unit)}{Q:Value->Shared->Prop}{K:V->T}(hs:bA sc y=true) (hn:decide (y::freeNames sc.names).Nodup=true) (pj:∀ z∈freeNames sc.names,cl.lookup z=X.c.ak.cells.lookup z) (hk:∀ p∈G₁.news,∀ i,G₁.g p.1≠.bH k i)
  (hI:I∉G₁.news.map (·.1)) (hD:D∉G₁.news.map (·.1)) (hC:∀ a∈G₁.news.map (·.1),a<C) (hU:bW h0 o=some xs) (sY:fC Z.N X.c G₁ (freeNames sc.names) cs) (hlen:xs.length<=4000) (h1:ay Z n (.comp sc y) elt a) (h2:fT Z n (.comp sc y) ifs ys)
  (x:Ext X.c.bk X.a_ G₁) (f:X.fm m) (en:hH Z.N X.c G₁ m env) (l:L.P G₁) (rf:X.R (K (.lst total)) hf) (p:(X.bare G₁ m k).At [] (.cp Z.N I D C o s_ 0 []) (λh=>bO (rH Z n elt ifs cs) (λh=>same h o xs) xs h=some (total,hf)) s)
  (fin:∀ oC es ep s,oC.data=.dict es ep->StrKeys es->X.At env (.v Z.N (.lst total) (.ref D) (.it X.a_ C oC L)) (X.R (K (.lst total))) s->compPost (model Z.prog Z.w) X.c.A E use Q (.ref D) C (.ok .next) s) :
  codeAny (model Z.prog Z.w) X.c.A (.compStart (.ListComp a [⟨.Name y px,b,ys,0⟩] sc pos) 0 (.ref I) (.ref D) (compEnvC sc cl C X.c.ak)) (compPost (model Z.prog Z.w) X.c.A E use Q (.ref D) C) s:=by
 have UB:C∉G₁.news.map (·.1):=λh=>aaW _ (hC C h)
 have lp:codeAny (model Z.prog Z.w) X.c.A (.compLoop (.ListComp a [⟨.Name y px,b,ys,0⟩] sc pos) 0 (.ref I) (.ref D) (compEnvC sc cl C X.c.ak)) (compPost (model Z.prog Z.w) X.c.A E use Q (.ref D) C) s:=s9 (X:=X) (m:=m) (Rf:=X.R (K (.lst total))) (xs:=xs) (total:=total) id id hs hn pj hk hI hD UB hU sY hlen h1 h2 (λs lt p=>p.rec λ{G hp tk h m'} x1 fm S lq r=>by
  cases fm;cases lq with | @mk vs kk oC es ep mD gD rD mC gC dC kC =>
  have Pd:D≠C:=zZ gD gC λe=>nomatch e
  have e0:Kp Ow.e0 G₁ ((G.own D .ey).own C .it):=Gh.rG (Gh.rG (x1.fresh hk) hD) UB;have UC:(G.own D .ey).g C=.fy:=(aaf Pd.symm).trans gC;have vm:bK G ((G.own D .ey).own C .it):=((Gh.pS gD).v λe=>nomatch e).trans ((Gh.pS UC).v λe=>nomatch e)
  exact fin oC es ep _ dC kC ⟨x.trans e0.ex,f,⟨(S.sr.own (by rw[gD];trivial)).own (by rw[UC];trivial),en.kp (e0.weak λO=>Ow.ll),S.fr,S.nw⟩,⟨Sq.mk mD ((aaf Pd).trans (aae rfl)) (rD.length▸aaj lt hlen) (rD.aI vm),.mk mC (aae rfl) hC x e0.ex l⟩,r⟩) (.mk (dn:=[]) rfl rfl (aaV _) rfl rf p)
 refine codeAny_compStart_list lp ?_;have it:∃ ob,s.heap.get? I=some ob/\Pa o s_ 0 ob:=p.rec λO O S l O=>l.rec λit O O O O O O O O=>it.rec λm O b O=>⟨_,(S.nw _ m).1,b⟩
 refine az it λob hi b=>?_
 by_cases t:JB o=true
 ·exact wpAny_pyIter_tupleiter ⟨ob,hi,b.c.trans (aab _ (aae t)),b.d⟩ lp
 ·exact wpAny_pyIter_listiter ⟨ob,hi,b.c.trans (aab _ (aaf t)),b.d⟩ lp
theorem AB{N:Nm}{G₁:Gh}{I D C l:Addr}{k:Nat}{o:V}{ob oC:Obj}{es:Array DictEntry}{ep:Nat}(f0:I∉G₁.news.map (·.1)) (f1:D∉(G₁.add I ob .it).news.map (·.1)) (f2:C∉((G₁.add I ob .it).add D (ax [] 0) .it).news.map (·.1)) (b:Pa o l 0 ob) (ro:VR N G₁ o (.ref l)) (d:oC.data=.dict es ep) (s:StrKeys es) :
  Ext k G₁ (((G₁.add I ob .it).add D (ax [] 0) .it).add C oC .fy)/\CP N I D C o l 0 [] (((G₁.add I ob .it).add D (ax [] 0) .it).add C oC .fy)/\D∉G₁.news.map (·.1) :=
 have Wq:I≠C:=λe=>f2 (e▸aac _ aad)
 have Pd:D≠C:=λe=>f2 (e▸aad)
 have UD:I≠D:=λe=>f1 (e▸aad)
 have k3:Ext k G₁ (((G₁.add I ob .it).add D (ax [] 0) .it).add C oC .fy):=((Gh.bL f0).trans (Gh.bL f1)).trans (Gh.bL f2)
 ⟨k3,.mk ⟨aac _ (aac _ aad),(aaf Wq).trans ((aaf UD).trans (aae rfl)),b,ro.ext k3⟩ (aac _ aad) ((aaf Pd).trans (aae rfl)) UD rfl aad (aae rfl) d s,λh=>f1 (aac _ h)⟩
theorem lB{pos':Pos}{use:Option (Value->Sem Unit)}{Q:Value->Shared->Prop}{K:V->En->T}(mw:ni 7 b=true) (vA:bA sc y=true) (mu:fS F.nm cU (freeNames sc.names)=true)
  (ug:((freeNames sc.names).all λz=>F.kd.lookup z==some .cell||F.kd.lookup z==some .free)=true) (pN:decide (y::freeNames sc.names).Nodup=true) (h0:n6 X it b) (h1:ay Z n (.comp sc y) elt a) (h2:fT Z n (.comp sc y) ifs ys)
  (p:X.At env L (X.R (tE Z.P (.comp elt it ifs cU) env K)) s)
  (fin:∀ D C oC es ep total dH s,oC.data=.dict es ep->StrKeys es->X.At dH (.v Z.N (.lst total) (.ref D) (.it X.a_ C oC L)) (X.R (K (.lst total) dH)) s->compPost (model Z.prog Z.w) X.c.A E use Q (.ref D) C (.ok .next) s) :
  X.wp (comprehension (.ListComp a [⟨.Name y px,b,ys,0⟩] sc pos) sc X.c.ak pos' (newList []) false (eval b X.c.ak) use) Q E s:=by
 have Pb:sc.kind=.function:=aam.mp (ae (ae vA).1).1;have Ak:=λz hz=>pZ (aa0.mp (ae vA).2 z hz)
 have kinds:∀ z∈freeNames sc.names,X.c.ak.kindOf z=some .cell∨X.c.ak.kindOf z=some .free:=λz hz=>X.dE.cf z ((aaZ.mp (aa0.mp ug z hz)).imp aam.mp aam.mp)
 refine(At.Qq mu kinds p).rec λ{cs cl} p Lk pj=>?_
 refine wpAny_comprehension_free rfl ((kJ b).fold mw _) Lk Pb (λz hz=>(Ak z hz).2) (h0 _ env _ s E _ p λo ov env s p=>?_)
 refine p.rec λ{G₁ hp tk h m} x f S l r=>?_
 clear p;refine Ee (Lj r) λxs hU pq el r=>?_
 refine jx l λro sY l=>?_
 refine jR (s:=X.sh) S ro hU λs_ eo=>?_
 have hlen:=(S.seq ro hU).len;rw[eo]at ro;refine gJ (iE G₁) λk hk=>?_
 have S0:cj Z (X.bare G₁ m k).c G₁ m [] h hp:=⟨S.sr,⟨rfl,λO O O e=>nn e⟩,S.fr,S.nw⟩
 have S1:=S0.add (u:=.it) (o:={ cls:=.type (Fj o),data:=.fields #[.ref s_,.int 0 0] }) (X.bare G₁ m k).ok (S0.fr.push _) (News.push S0.fr S0.nw _);have S2:=S1.add (u:=.it) (o:=ax [] 0) (X.bare G₁ m k).ok (S1.fr.push _) (News.push S1.fr S1.nw _);refine wpAny_newObj_type (wpAny_newFunctionEnv (λz hz=>(Ak z hz).1) (λy hy=>(nomatch hy)) (λLl Fs Ft=>?_) Pb)
 refine nN (id Fs) λoC es ep g3 d3 k3 f3=>?_
 have S3:=S2.fill (u:=.fy) (X.bare G₁ m k).ok Ft g3;have ci:=AB (k:=k) S0.fresh S1.fresh S2.fresh ⟨rfl,rfl⟩ ro d3 k3;exact vz (K:=λv=>K v env) vA pN pj hk S0.fresh ci.2.2 (λa ha=>S2.lt a (aac _ (aac _ ha))) hU sY hlen h1 h2 x f S.env l r ⟨ci.1,rfl,S3,ci.2.1,el⟩ λoC es ep s d k p=>fin _ _ oC es ep _ env s d k p
end
section
variable{Z:b_}{n:Nat}{F:Fm}{X:EC Z n F}{env:En}{L:Pn X.c.bk}{s:Shared}{E:Value->Shared->Prop}{R:MH->Prop}{sc:Scope}{y:Str}{elt it:ME}{ifs:gZ}{cU:List Nat}{a b:PySem.Expr}{ys:List PySem.Expr}{px pos:Pos}
theorem At.letGo{v:V}{u:Value}{C:Addr}{o:Obj}(p:X.At env (.v Z.N v u (.it X.a_ C o L)) R s):∀ {h':Heap},Heap.ExtBut C s.heap h'->X.At env (.v Z.N v u L) R { s with heap:=h' } :=
 p.rec λx f S l r hs=>l.2.rec λm g nw x' y l2 =>
  have hn:C∉_:=λh=>aaW _ (nw C h)
  ⟨x'.trans (Gh.fR y hn),f,S.pU (by rw[g];trivial) (by rw[g];exact id) m hs,⟨l.1.aI (Gh.rF (by rw[g];exact λe=>nomatch e)),L.st _ _ (Gh.fR y hn) l2⟩,r⟩
theorem At.ns{v:V}{u:Value}{C:Addr}{o:Obj}{es:Array DictEntry}{ep:Nat}(d:o.data=.dict es ep) (k:StrKeys es) (p:X.At env (.v Z.N v u (.it X.a_ C o L)) R s):s.heap.Ns C (nsFind es):=p.rec λx f S l r=>l.2.rec λm O O O O O=>⟨o,es,ep,(S.nw _ m).1,d,k,λO=>rfl⟩
theorem AD(mw:ni 7 b=true) (vA:bA sc y=true) (mu:fS F.nm cU (freeNames sc.names)=true)
  (ug:((freeNames sc.names).all λz=>F.kd.lookup z==some .cell||F.kd.lookup z==some .free)=true) (pN:decide (y::freeNames sc.names).Nodup=true) (h0:ay Z n F it b) (h1:ay Z n (.comp sc y) elt a) (h2:fT Z n (.comp sc y) ifs ys):ay Z n F (.comp elt it ifs cU) (.ListComp a [⟨.Name y px,b,ys,0⟩] sc pos):=λX K env L s E Q p q=>by
 rw[eval_ListComp];exact lB (use:=none) (Q:=Q) mw vA mu ug pN (h0 X) h1 h2 p λD C oC es ep total env s d k p=>⟨nsFind es,At.ns d k p,λh' hs=>q _ _ _ _ (At.letGo p hs.extBut)⟩
end
section
variable(an:Nat->Str)
mutual
noncomputable def gE:ME->PySem.Expr->PySem.Expr
 |.lit v,a=>.Constant (cst v) (vw a).k a.pos
 |.var _,a=>.Name (vw a).nm a.pos
 |.d_ _,a=>.Name (vw a).nm a.pos
 |.attr e k,a=>.Attribute (gE e (ah a 0)) (an k) a.pos
 |.item e i,a=>.Subscript (gE e (ah a 0)) (gE i (ah a 1)) a.pos
 |.ri e lo hi,a=>.Subscript (gE e (ah a 0)) (.Slice (my lo (vw (ah a 1)).ks).head? (my hi ((vw (ah a 1)).ks.drop 1)).head? none (ah a 1).pos) a.pos
 |.rev _,a=>.Subscript (.Name (vw (ah a 0)).nm (ah a 0).pos) (.Slice none none (some (.UnaryOp .USub (.Constant (.int 1) (vw (ah (ah (ah a 1) 2) 0)).k (ah (ah (ah a 1) 2) 0).pos) (ah (ah a 1) 2).pos)) (ah a 1).pos) a.pos
 |.bin op l r,a=>.BinOp (gE l (ah a 0)) (JC op) (gE r (ah a 1)) a.pos
 |.neg e,a=>.UnaryOp .USub (gE e (ah a 0)) a.pos
 |.inv e,a=>.UnaryOp .Invert (gE e (ah a 0)) a.pos
 |.nt e,a=>.UnaryOp .Not (gE e (ah a 0)) a.pos
 |.cx es,a=>.BoolOp .And (my es (vw a).ks) a.pos
 |.eZ es,a=>.BoolOp .Or (my es (vw a).ks) a.pos
 |.cmp op l r,a=>.Compare (gE l (ah a 0)) [zr op] [gE r (ah a 1)] a.pos
 |.ite t x y,a=>.IfExp (gT t (ah a 0)) (gE x (ah a 1)) (gE y (ah a 2)) a.pos
 |.lst es,a=>.List (my es (vw a).ks) a.pos
 |.a9 es,a=>.Tuple (my es (vw a).ks) (vw a).k a.pos
 |.dW es,a=>.Dict (Lm es (vw a).dk) (Ln es (vw a).ks) a.pos
 |.comp elt it ifs _,a=>.ListComp (gE elt (ah a 0)) [⟨.Name (vw (ah a 1)).nm (ah a 1).pos,gE it (ah a 2),JG ifs ((vw a).ks.drop 3),0⟩] (vw a).sc a.pos
 |.call _ es,a=>.Call (.Name (vw (ah a 0)).nm (ah a 0).pos) (my es ((vw a).ks.drop 1)) [] a.pos
 |.new _ es,a=>.Call (.Name (vw (ah a 0)).nm (ah a 0).pos) (my es ((vw a).ks.drop 1)) [] a.pos
 |.bU e k es,a=>.Call (.Attribute (gE e (ah (ah a 0) 0)) (an k) (ah a 0).pos) (my es ((vw a).ks.drop 1)) [] a.pos
 |.len e,a=>.Call (.Name "len" (ah a 0).pos) [gE e (ah a 1)] [] a.pos
 |.toStr e,a=>.Call (.Name "str" (ah a 0).pos) [gE e (ah a 1)] [] a.pos
 |.eR e,a=>.Call (.Name "tuple" (ah a 0).pos) [gE e (ah a 1)] [] a.pos
 |.anyOf e,a=>.Call (.Name "any" (ah a 0).pos) [gE e (ah a 1)] [] a.pos
 |.g_ e k d,a=>.Call (.Attribute (gE e (ah (ah a 0) 0)) "get" (ah a 0).pos) [gE k (ah a 1),gE d (ah a 2)] [] a.pos
noncomputable def my:dM->List PySem.Expr->List PySem.Expr
 |.nil,_=>[]
 |.cons e es,as=>gE e (hd as)::my es as.tail
noncomputable def gT:MT->PySem.Expr->PySem.Expr
 |.val e,a=>gE e a
 |.cmp op l r,a=>.Compare (gE l (ah a 0)) [zr op] [gE r (ah a 1)] a.pos
 |.nt t,a=>.UnaryOp .Not (gT t (ah a 0)) a.pos
 |.cx ts,a=>.BoolOp .And (JG ts (vw a).ks) a.pos
 |.eZ ts,a=>.BoolOp .Or (JG ts (vw a).ks) a.pos
 |.ite t x y,a=>.IfExp (gT t (ah a 0)) (gT x (ah a 1)) (gT y (ah a 2)) a.pos
noncomputable def JG:gZ->List PySem.Expr->List PySem.Expr
 |.nil,_=>[]
 |.cons t ts,as=>gT t (hd as)::JG ts as.tail
noncomputable def Ln:rj->List PySem.Expr->List PySem.Expr
 |.nil,_=>[]
 |.val _ e es,as=>gE e (hd as)::Ln es as.tail
 |.bV _ es,as=>.List [] (hd as).pos::Ln es as.tail
 |.newD _ es,as=>.Dict [] [] (hd as).pos::Ln es as.tail
noncomputable def Lm:rj->List (Option PySem.Expr)->List (Option PySem.Expr)
 |.nil,_=>[]
 |.val x _ es,as=>some (.Constant (.str x) (vw (as.head?.join.getD default)).k (as.head?.join.getD default).pos)::Lm es as.tail
 |.bV x es,as=>some (.Constant (.str x) (vw (as.head?.join.getD default)).k (as.head?.join.getD default).pos)::Lm es as.tail
 |.newD x es,as=>some (.Constant (.str x) (vw (as.head?.join.getD default)).k (as.head?.join.getD default).pos)::Lm es as.tail
end
end
section
noncomputable def CV:dM->Nat
 |.nil=>0
 |.cons _ es=>CV es+1
noncomputable def CW:rj->Nat
 |.nil=>0
 |.val _ _ es=>CW es+1
 |.bV _ es=>CW es+1
 |.newD _ es=>CW es+1
noncomputable def more(es:dM):Bool:=match es with
 |.nil=>false
 |.cons _ _=>true
def jT(e:ME):Bool:=match e with
 |.var _=>true
 |.d_ _=>true
 |.attr _ _=>true
 |.item _ _=>true
 |.call _ es=>more es
 |_=>false
def isVar(F:Fm) (x:Str) (e:ME):Bool:=match e with
 |.var i=>F.nm[i]? ==some x&&ba x
 |_=>false
noncomputable def UE(k:Nat):Bool:=match k with
 |0=>true
 |k+1=>decide (k<15)
section
variable(B:Tb) (an:Nat->Str)
mutual
noncomputable def dK:ME->Fm->PySem.Expr->Bool
 |.lit v,_,_=>CN v
 |.var i,F,a=>F.nm[i]? ==some (vw a).nm&&ba (vw a).nm
 |.d_ v,F,a=>F.glob (vw a).nm&&CO B (vw a).nm v
 |.attr e _,F,a=>jT e&&dK e F (ah a 0)
 |.item e i,F,a=>ni 26 (gE an i (ah a 1))&&(dK e F (ah a 0)&&dK i F (ah a 1))
 |.ri e lo hi,F,a=>(one lo&&one hi)&&(dK e F (ah a 0)&&(fU lo F (vw (ah a 1)).ks&&fU hi F ((vw (ah a 1)).ks.drop 1)))
 |.rev e,F,a=>isVar F (vw (ah a 0)).nm e
 |.bin _ l r,F,a=>dK l F (ah a 0)&&dK r F (ah a 1)
 |.neg e,F,a=>dK e F (ah a 0)
 |.inv e,F,a=>dK e F (ah a 0)
 |.nt e,F,a=>dK e F (ah a 0)
 |.cx es,F,a=>more es&&fU es F (vw a).ks
 |.eZ es,F,a=>more es&&fU es F (vw a).ks
 |.cmp op l r,F,a=> !behindInMarks (zr op) (gE an r (ah a 1))&&(dK l F (ah a 0)&&dK r F (ah a 1))
 |.ite t x y,F,a=>AE t F (ah a 0)&&(dK x F (ah a 1)&&dK y F (ah a 2))
 |.lst es,F,a=>decide (CV es<=1000)&&fU es F (vw a).ks
 |.a9 es,F,a=>decide (CV es<=1000)&&fU es F (vw a).ks
 |.dW es,F,a=>UE (CW es)&&vB es F (vw a).ks
 |.comp elt it ifs cU,F,a=>(ni 7 (gE an it (ah a 2))&&(bA (vw a).sc (vw (ah a 1)).nm&&(fS F.nm cU (freeNames (vw a).sc.names)&&(((freeNames (vw a).sc.names).all λz=>F.kd.lookup z==some .cell||F.kd.lookup z==some .free)&&decide ((vw (ah a 1)).nm::freeNames (vw a).sc.names).Nodup)))) &&
   (dK it F (ah a 2)&&(dK elt (.comp (vw a).sc (vw (ah a 1)).nm) (ah a 0)&&vC ifs (.comp (vw a).sc (vw (ah a 1)).nm) ((vw a).ks.drop 3)))
 |.call f es,F,a=>F.glob (vw (ah a 0)).nm&&(B.ry.contains ((vw (ah a 0)).nm,f)&&((f != B.cf||F.bot)&&fU es F ((vw a).ks.drop 1)))
 |.new c es,F,a=>F.glob (vw (ah a 0)).nm&&(B.CF.contains ((vw (ah a 0)).nm,c)&&fU es F ((vw a).ks.drop 1))
 |.bU e _ es,F,a=>jT e&&(decide (CV es<30)&&((ah a 0).pos.endLine==a.pos.line&&(dK e F (ah (ah a 0) 0)&&fU es F ((vw a).ks.drop 1))))
 |.len e,F,a=>ni 22 (gE an e (ah a 1))&&(F.glob "len" && dK e F (ah a 1))
 |.toStr e,F,a=>ni 22 (gE an e (ah a 1))&&(F.glob "str" && dK e F (ah a 1))
 |.eR e,F,a=>ni 22 (gE an e (ah a 1))&&(F.glob "tuple" && dK e F (ah a 1))
 |.anyOf e,F,a=>ni 22 (gE an e (ah a 1))&&(F.glob "any" && dK e F (ah a 1))
 |.g_ e k d,F,a=>jT e&&((ah a 0).pos.endLine==a.pos.line&&((ni 22 (gE an k (ah a 1))&&ni 22 (gE an d (ah a 2)))&&(dK e F (ah (ah a 0) 0)&&(dK k F (ah a 1)&&dK d F (ah a 2)))))
noncomputable def fU:dM->Fm->List PySem.Expr->Bool
 |.nil,_,_=>true
 |.cons e es,F,as=>ni 22 (gE an e (hd as))&&(dK e F (hd as)&&fU es F as.tail)
noncomputable def AE:MT->Fm->PySem.Expr->Bool
 |.val e,F,a=>(ni 0 (gE an e a)&&ni 3 (gE an e a)&&ni 5 (gE an e a)&&ni 15 (gE an e a))&&dK e F a
 |.cmp op l r,F,a=> !behindInMarks (zr op) (gE an r (ah a 1))&&(dK l F (ah a 0)&&dK r F (ah a 1))
 |.nt t,F,a=>AE t F (ah a 0)
 |.cx ts,F,a=>vC ts F (vw a).ks
 |.eZ ts,F,a=>vC ts F (vw a).ks
 |.ite t x y,F,a=>AE t F (ah a 0)&&(AE x F (ah a 1)&&AE y F (ah a 2))
noncomputable def vC:gZ->Fm->List PySem.Expr->Bool
 |.nil,_,_=>true
 |.cons t ts,F,as=>AE t F (hd as)&&vC ts F as.tail
noncomputable def vB:rj->Fm->List PySem.Expr->Bool
 |.nil,_,_=>true
 |.val _ e es,F,as=>dK e F (hd as)&&vB es F as.tail
 |.bV _ es,F,as=>vB es F as.tail
 |.newD _ es,F,as=>vB es F as.tail
end
end
theorem lC{an:Nat->Str}{e:ME}{a:PySem.Expr}(h:jT e=true):gF (gE an e a):=by
 cases e with
 |var=>exact λO O O=>rfl
 |d_=>exact λO O O=>rfl
 |attr=>exact λO O O=>rfl
 |item=>exact λO O O=>rfl
 |call f es=>cases es with
  |nil=>exact ff h
  |cons=>exact λO O O=>rfl
 |_=>exact ff h
section
variable{Z:b_}{n:Nat}{F:Fm}
theorem Fu{e:ME}{x:Str}{p:Pos}(h:isVar F x e=true):ay Z n F e (.Name x p):=by
 cases e with
 |var i=>exact vb h
 |_=>exact ff h
theorem Fv{es:rj}{ks:List (Option PySem.Expr)}{vs:List PySem.Expr}{pos:Pos}(h:UE (CW es)=true) (s:gG Z n F (CW es) es ks vs):ay Z n F (.dW es) (.Dict ks vs pos):=by
 revert s h;generalize CW es=k;intro h s;cases k with
 |zero =>
  cases List.eq_nil_of_length_eq_zero s.kl;cases List.eq_nil_of_length_eq_zero s.vl;cases s.nil rfl;exact Av
 |succ k=>exact Fi s h
structure Qr(Z:b_) (n:Nat) (F:Fm) (me:dM) (es:List PySem.Expr):Prop where
 s:du Z n F (CV me) me es
 b:∀ o,Ab Z n F o me es
 a:∀ o,more me=true->∀ (X:EC Z n F) (K:V->En->T) (env:En) (L:Pn X.c.bk) (s:Shared) (pos:Pos) (E Q:Value->Shared->Prop),X.At env L (X.R (tB Z.P o me env K)) s->(∀ v u env s,X.At env (.v Z.N v u L) (X.R (K v env)) s->Q u s)->X.wp (eval (.BoolOp (bo o) es pos) X.c.ak) Q E s
 p:one me=true->pT Z n F me es.head?
theorem vD{e:ME}{es:dM}{y:PySem.Expr}{ys:List PySem.Expr}(hs:ni 22 y=true) (h:ay Z n F e y) (t:Qr Z n F es ys):Qr Z n F (.cons e es) (y::ys) :=
 ⟨vc hs h t.s,λo=>Ag h (t.b o),λo O=>t.b o e y h,λo=>by
  cases es with
  |nil=>exact vh h
  |cons=>exact ff o⟩
section
variable(cs:bS Z n)
include cs
mutual
theorem bg:∀ (me:ME) (F:Fm) (a:PySem.Expr),dK Z.B Z.N.an me F a=true->ay Z n F me (gE Z.N.an me a)
 |.lit v,F,a,h=>EM h
 |.var i,F,a,h=>vb h
 |.d_ v,F,a,h=>EN h
 |.attr e k,F,a,h=>Ac (lC (ae h).1) (bg e F _ (ae h).2)
 |.item e i,F,a,h=>Ae (ae h).1 (bg e F _ (ae (ae h).2).1) (bg i F _ (ae (ae h).2).2)
 |.ri e lo hi,F,a,h=>Fe (bg e F _ (ae (ae h).2).1) ((dQ lo F _ (ae (ae (ae h).2).2).1).p (ae (ae h).1).1) ((dQ hi F _ (ae (ae (ae h).2).2).2).p (ae (ae h).1).2)
 |.rev e,F,a,h=>Ff (Fu h)
 |.bin op l r,F,a,h=>EO (bg l F _ (ae h).1) (bg r F _ (ae h).2)
 |.neg e,F,a,h=>ER (bg e F _ h)
 |.inv e,F,a,h=>ES (bg e F _ h)
 |.nt e,F,a,h=>K6 (bg e F _ h)
 |.cx es,F,a,h=>λX K env L s=>(dQ es F _ (ae h).2).a true (ae h).1 X K env L s _
 |.eZ es,F,a,h=>λX K env L s=>(dQ es F _ (ae h).2).a false (ae h).1 X K env L s _
 |.cmp op l r,F,a,h=>EP ((Bool.not_eq_true' _).mp (ae h).1) (bg l F _ (ae (ae h).2).1) (bg r F _ (ae (ae h).2).2)
 |.ite t x y,F,a,h=>ET (om t F _ (ae h).1) (bg x F _ (ae (ae h).2).1) (bg y F _ (ae (ae h).2).2)
 |.lst es,F,a,h=>EU (ae h).1 (dQ es F _ (ae h).2).s
 |.a9 es,F,a,h=>EV (ae h).1 (dQ es F _ (ae h).2).s
 |.dW es,F,a,h=>Fv (ae h).1 (rI es F _ _ (ae h).2)
 |.comp elt it ifs cU,F,a,h=>have h1:=ae (ae h).1;have h2:=ae (ae h).2;have h3:=ae h1.2;have h4:=ae h3.2;AD h1.1 h3.1 h4.1 (ae h4.2).1 (ae h4.2).2 (bg it F _ h2.1) (bg elt _ _ (ae h2.2).1) (lE ifs _ _ (ae h2.2).2).2
 |.call f es,F,a,h=>Ai cs (ae h).1 (ae (ae h).2).1 (ae (ae (ae h).2).2).1 (dQ es F _ (ae (ae (ae h).2).2).2).s
 |.new c es,F,a,h=>Fg cs (ae h).1 (ae (ae h).2).1 (dQ es F _ (ae (ae h).2).2).s
 |.bU e k es,F,a,h=>have h2:=ae (ae (ae (ae h).2).2).2;Am cs (lC (ae h).1) (ae (ae h).2).1 (ae (ae (ae h).2).2).1 (bg e F _ h2.1) (dQ es F _ h2.2).s
 |.len e,F,a,h=>E9 (ae h).1 (ae (ae h).2).1 (bg e F _ (ae (ae h).2).2)
 |.toStr e,F,a,h=>E_ (ae h).1 (ae (ae h).2).1 (bg e F _ (ae (ae h).2).2)
 |.eR e,F,a,h=>vf (ae h).1 (ae (ae h).2).1 (bg e F _ (ae (ae h).2).2)
 |.anyOf e,F,a,h=>Fb (ae h).1 (ae (ae h).2).1 (bg e F _ (ae (ae h).2).2)
 |.g_ e k d,F,a,h=>have h2:=ae (ae (ae h).2).2;An (lC (ae h).1) (ae (ae h).2).1 (ae h2.1).1 (ae h2.1).2 (bg e F _ (ae h2.2).1) (bg k F _ (ae (ae h2.2).2).1) (bg d F _ (ae (ae h2.2).2).2)
theorem dQ:∀ (me:dM) (F:Fm) (as:List PySem.Expr),fU Z.B Z.N.an me F as=true->Qr Z n F me (my Z.N.an me as)
 |.nil,F,as,h=>⟨Af,λO=>EW,λO h=>ff h,λO=>vg⟩
 |.cons e es,F,as,h=>vD (ae h).1 (bg e F _ (ae (ae h).2).1) (dQ es F _ (ae (ae h).2).2)
theorem om:∀ (me:MT) (F:Fm) (a:PySem.Expr),AE Z.B Z.N.an me F a=true->fQ Z n F me (gT Z.N.an me a)
 |.val e,F,a,h=>EX (ae h).1 (bg e F _ (ae h).2)
 |.cmp op l r,F,a,h=>EY ((Bool.not_eq_true' _).mp (ae h).1) (bg l F _ (ae (ae h).2).1) (bg r F _ (ae (ae h).2).2)
 |.nt t,F,a,h=>K7 (om t F _ h)
 |.cx ts,F,a,h=>EZ ((lE ts F _ h).1 true)
 |.eZ ts,F,a,h=>K8 ((lE ts F _ h).1 false)
 |.ite t x y,F,a,h=>E8 (om t F _ (ae h).1) (om x F _ (ae (ae h).2).1) (om y F _ (ae (ae h).2).2)
theorem lE:∀ (me:gZ) (F:Fm) (as:List PySem.Expr),vC Z.B Z.N.an me F as=true->(∀ o,lA Z n F o me (JG Z.N.an me as))/\fT Z n F me (JG Z.N.an me as)
 |.nil,F,as,h=>⟨λO=>Ah,Ax⟩
 |.cons t ts,F,as,h=>have h1:=om t F _ (ae h).1;have h2:=lE ts F _ (ae h).2;⟨λo=>ve h1 (h2.1 o),vq h1 h2.2⟩
theorem rI:∀ (me:rj) (F:Fm) (ks:List (Option PySem.Expr)) (as:List PySem.Expr),vB Z.B Z.N.an me F as=true->gG Z n F (CW me) me (Lm Z.N.an me ks) (Ln Z.N.an me as)
 |.nil,F,ks,as,h=>As
 |.val x e es,F,ks,as,h=>Au (bg e F _ (ae h).1) (rI es F _ _ (ae h).2)
 |.bV x es,F,ks,as,h=>vn (rI es F _ _ h)
 |.newD x es,F,ks,as,h=>vo (rI es F _ _ h)
end
end
end
end
noncomputable def cL(F:Fm) (i:Nat) (x:Str):Bool:=F.nm[i]? ==some x&&F.kd.lookup x==some .local
section
variable{Z:b_}{n:Nat}{F:Fm}
inductive Fw(X:EC Z n F) (L:Pn X.c.bk) (K:Fl->En->T):Flow->Shared->Prop where
 |next {env:En}{s:Shared}(a:X.At env L (X.R (K .next env)) s):Fw X L K .next s
 |cont {env:En}{s:Shared}(a:X.At env L (X.R (K .cont env)) s):Fw X L K .cont s
 |ret {env:En}{s:Shared}{v:V}{u:Value}(a:X.At env (.v Z.N v u L) (X.R (K (.ret v) env)) s):Fw X L K (.ret u) s
abbrev EC.Po(X:EC Z n F) (E:Value->Shared->Prop):Prop:=PassesOwn (model Z.prog Z.w) X.c.A X.c.ak E
end
def cM(Z:b_) (n:Nat) (F:Fm) (ms:MS) (x:Stmt):Prop:=∀ (X:EC Z n F) (K:Fl->En->T) (env:En) (L:Pn X.c.bk) (s:Shared) (E:Value->Shared->Prop) (Q:Flow->Shared->Prop),(∀ m,X.fm m)->X.Po E->X.At env L (X.R (tS Z.P ms env K)) s->(∀ f s,Fw X L K f s->Q f s)->(F.x=true->∀ e env s,X.Ex env L (X.R (K .exc env)) e s->E (.ref e) s)->X.wp (exec x X.c.ak) Q E s
def dv(Z:b_) (n:Nat) (F:Fm) (ms:aA) (x:List Stmt):Prop:=∀ (X:EC Z n F) (K:Fl->En->T) (env:En) (L:Pn X.c.bk) (s:Shared) (E:Value->Shared->Prop) (Q:Flow->Shared->Prop),(∀ m,X.fm m)->X.Po E->X.At env L (X.R (tSs Z.P ms env K)) s->(∀ f s,Fw X L K f s->Q f s)->(F.x=true->∀ e env s,X.Ex env L (X.R (K .exc env)) e s->E (.ref e) s)->X.wp (execs x X.c.ak) Q E s
section
variable{Z:b_}{n:Nat}{F:Fm}{X:EC Z n F}{env:En}{L:Pn X.c.bk}{s:Shared}{E:Value->Shared->Prop}{R:MH->Prop}{M:Model}{A:Around}{i j k:Nat}{x:Str}{v:V}{u:Value}{e e' d:ME}{es:dM}{o y z:PySem.Expr}{ys:List PySem.Expr}{p1 p2 p3 pos:Pos}{a:MS}{as bs:aA}{st:Stmt}{Fx UG:List Stmt}{t:MT}{h:MH}{hp:Heap}{G:Gh}{m:Str->Option Value}
theorem EC.store(X:EC Z n F) (ht:F.top=true) (hl:cL F i x=true) (S:cj Z X.c G m env h hp) {w:MV}(r:∀ m',m' x=some u->pL Z.N X.c G m' i x w) {tk:Nat}{Q:Unit->Shared->Prop}(q:∀ h',cj Z X.c G (λz=>if z=x then some u else m z) (setEnv env i w) h h'->Q () { s with heap:=h',toks:=tk+1 }):wpAny M A (storeName X.c.ak x u) Q E { s with heap:=hp,toks:=tk }:=by
 have hk:=X.dE.lo ht x (aam.mp (ae hl).2);have hL:=X.dE.top ht;refine wpAny_storeName_local hk (by rw[hL];exact S.fr.ns) (λh' hn hs=>?_) (by rw[X.ok.ck];rfl)
 rw[hL]at hn hs;exact q h' ⟨S.sr,S.env.set X.ok.nm (X.dE.nm▸aam.mp (ae hl).1) (r _ (aae rfl)) λO O O O ny q=>q.store ny,S.fr.set hn hs,λp hp=>⟨(hs.2 _ (S.nw p hp).2.1).trans (S.nw p hp).1,(S.nw p hp).2⟩⟩
theorem At.store(hf:∀ m,X.fm m->X.fm λz=>if z=x then some u else m z) (ht:F.top=true) (hl:cL F i x=true) (p:X.At env (.v Z.N v u L) R s) {Q:Unit->Shared->Prop}(q:∀ s,X.At (setEnv env i (.val v)) L R s->Q () s):wpAny M A (storeName X.c.ak x u) Q E s :=
 p.rec λx f S l r=>X.store ht hl S (λm' e=>.val l.1 (.loc (X.dE.lo ht _ (aam.mp (ae hl).2)) (X.dE.top ht) e)) λh' S'=>q _ ⟨x,hf _ f,S',l.2,r⟩
theorem AF:dv Z n F .nil []:=λX K env L s E Q hf hP p q hE=>wpAny_execs_nil (q _ _ (.next p))
theorem vE(h1:cM Z n F a st) (h2:dv Z n F as Fx):dv Z n F (.cons a as) (st::Fx):=λX K env L s E Q hf hP p q hE =>
 wpAny_execs_cons (h1 X _ env L s E _ hf hP p (λf s w=>w.rec (λa=>h2 X K _ L _ E Q hf hP a q hE) (λa=>q _ _ (.cont a)) λa=>q _ _ (.ret a)) hE)
theorem Fy(ht:F.top=true) (kE:(ni 8 y&&ni 9 y&&ni 10 y)=true) (hl:cL F i x=true) (h:ay Z n F e y):cM Z n F (.asg i e) (.Assign [.Name x p1] y pos):=λX K env L s E Q hf hP p q hE =>
 wpAny_Assign_Name (h X _ env L s E _ p λv u env s p=>At.store (λO O=>hf _) ht hl p λs p=>q _ _ (.next p)) ((kJ y).swap kE _ _ _)
theorem AG(ht:F.top=true) (hl:cL F i x=true) (hk:decide (k<=1000)=true) (h:du Z n F k es ys):cM Z n F (.fw i es) (.Assign [.Name x p1] (.List ys p2) pos):=λX K env L s E Q hf hP p q hE =>
 wpAny_Assign_Name (List_ (h.snd X _ env L s p2 E _ p λvs us env s vF p=>p.rec λ{G hp tk h m} x f S l r =>
  have hk:=vF▸aaK hk
  newList_N S.fr S.nw (λh' F' N'=>X.store ht hl (S.add (u:=.bH X.c.bk i) X.ok F' N') (w:=.bH vs) (λm' e=>.bH (n:=0) Gh.e_ Gh.jK (l.1.ext (Gh.bL (T:=Ow.ex X.c.bk) S.fresh)) (aaj hk (by decide)) (.loc (X.dE.lo ht _ (aam.mp (ae hl).2)) (X.dE.top ht) e))
   λh' S'=>q _ _ (.next ⟨x.trans (Gh.bL S.fresh),hf _,S',L.st _ _ (Gh.bL S.fresh) l.2,r⟩)) (l.1.length▸aaj hk (by decide)))) (by rfl)
theorem AH(kE:(ni 8 y&&ni 9 y&&ni 10 y)=true) (h1:ay Z n F e' y) (h2:ay Z n F e o):cM Z n F (.bq e k e') (.Assign [.Attribute o (Z.N.an k) p1] y pos):=λX K env L s E Q hf hP p q hE =>
 plainObj_wpAny_Assign_Attribute (h1 X _ env L s E _ p λv u env s p=>h2 X _ env _ s E _ p λv u env s p=>At.setAttr p λs p=>q _ _ (.next p)) ((kJ y).swap kE _ _ _)
theorem vG(hk:decide (k<=1000)=true) (h1:du Z n F k es ys) (h2:ay Z n F e o):cM Z n F (.bp e j es) (.Assign [.Attribute o (Z.N.an j) p1] (.List ys p2) pos):=λX K env L s E Q hf hP p q hE =>
 plainObj_wpAny_Assign_Attribute (List_ (h1.snd X _ env L s p2 E _ p λvs us env s vF p=>p.rec λ{G hp tk h m} x f S l r =>
  newList_N S.fr S.nw (λh' F' N'=>h2 X _ env _ _ E _ (At.own (L:=.vs Z.N vs us L) (ob:=ax us 0) x f S l r F' N') λv u env s p=>At.nQ p λs p=>q _ _ (.next p)) (l.1.length▸vF▸aaj (aaK hk) (by decide)))) (by rfl)
theorem vH(h2:ay Z n F e o):cM Z n F (.cV e j) (.Assign [.Attribute o (Z.N.an j) p1] (.Dict [] [] p2) pos):=λX K env L s E Q hf hP p q hE =>
 plainObj_wpAny_Assign_Attribute (wpAny_Dict_empty (p.rec λ{G hp tk h m} x f S l r=>h2 X _ env _ _ E _ (At.own (ob:=dictOf [] 0) x f S l r (S.fr.push _) (News.push S.fr S.nw _)) λv u env s p=>At.nR p λs p=>q _ _ (.next p))) (by rfl)
theorem AI(kE:(ni 8 z&&ni 9 z&&ni 10 z)=true) (h1:ay Z n F d z) (h2:ay Z n F e o) (h3:ay Z n F e' y):cM Z n F (.dX e e' d) (.Assign [.Subscript o y p1] z pos):=λX K env L s E Q hf hP p q hE =>
 wpAny_Assign_Subscript (h1 X _ env L s E _ p λv u env s p=>h2 X _ env _ s E _ p λv u env s p=>h3 X _ env _ s E _ p λv u env s p=>At.setItem p λs p=>q _ _ (.next p)) ((kJ z).swap kE _ _ _)
theorem Fz(h:ay Z n F e y):cM Z n F (.ret e) (.Return (some y) pos):=λX K env L s E Q hf hP p q hE=>wpAny_Return_some (h X _ env L s E _ p λv u env s p=>q _ _ (.ret p))
theorem AJ:cM Z n F (.ret (.lit .none)) (.Return none pos):=λX K env L s E Q hf hP p q hE=>wpAny_Return_none (q _ _ (.ret (v:=.none) (At.push p λO=>rfl)))
theorem AK:cM Z n F .cont (.Continue pos):=λX K env L s E Q hf hP p q hE=>wpAny_Continue (q _ _ (.cont p))
theorem AL:cM Z n F .kX (.Pass pos):=λX K env L s E Q hf hP p q hE=>wpAny_Pass (q _ _ (.next p))
theorem Lo(h0:fQ Z n F t y) (h1:dv Z n F as Fx) (h2:dv Z n F bs UG):cM Z n F (.aT t as bs) (.If y Fx UG pos):=λX K env L s E Q hf hP p q hE =>
 wpAny_If (h0 X _ env L s E _ p λb env s p=>match b,p with
  |true,p=>h1 X K env L s E Q hf hP p q hE
  |false,p=>h2 X K env L s E Q hf hP p q hE)
theorem EC.inter(X:EC Z n F):interactive X.c.ak=false:=by
 unfold interactive;rw[X.ok.ck];rfl
theorem Lp(kE:(ni 8 y&&ni 9 y&&ni 10 y)=true) (h:ay Z n F e y):cM Z n F (.ex e) (.Expr y pos):=λX K env L s E Q hf hP p q hE =>
 wpAny_Expr_any (h X _ env L s E _ p λv u env s p=>q _ _ (.next (At.drop p))) X.inter ((kJ y).swap kE _ _ _)
theorem rJ{name:Str}{id:String}{r:Addr}{vs:List Value}{c:Nat}(slot:Slot "list" name id) (ty:typeOf (.builtin id)=pure (.type "method_descriptor")) (ho:gF o) (hy:ni 22 y=true) (hp:(p1.endLine==p2.line)=true) {Q:Flow->Shared->Prop}
  (h0:X.wp (eval o X.c.ak) (λov eV=>∃ r vs k,ov=.ref r/\eV.heap.get? r=some (ax vs k)/\X.wp (eval y X.c.ak) (λu AM=>X.wp (call (.builtin id) [.ref r,u]) (λO=>Q .next) E AM) E eV) E s) :
  X.wp (exec (.Expr (.Call (.Attribute o name p1) [y] [] p2) pos) X.c.ak) Q E s:=by
 refine wpAny_Expr_any (MethodCall_ (pl:=_) (wpAny_mono h0 (λov eV h=>?_) λO O e=>e) (iD ho (λz hz=>aar.mp hz▸hy) (by decide:1<30) hp)) X.inter ((kJ _).swap rfl _ _ _)
 obtain⟨r,vs,k,rfl,hg,h⟩:=h;refine getMethod_list_of slot ty (aJ hg) ⟨_,hg,rfl⟩ ?_;rw[(kJ y).star hy];exact callWith_builtin rfl (evalArgs_plain (spliced_cons (wpAny_mono h (λu AM fD=>spliced_nil fD) λO O e=>e)))
theorem FA(ho:gF o) (hy:ni 22 y=true) (hp:(p1.endLine==p2.line)=true) (h1:ay Z n F e o) (h2:ay Z n F e' y):cM Z n F (.app e e') (.Expr (.Call (.Attribute o "append" p1) [y] [] p2) pos):=λX K env L s E Q hf hP p q hE =>
 rJ (r:=0) (vs:=[]) (c:=0) PySem.F.slot_list_append PySem.F.type_list_append ho hy hp (h1 X _ env L s E _ p λv u env s p=>(At.Cw p).imp λr h=>h.imp λvs h=>h.imp λc h=>⟨h.1,h.2.1,h2 X _ env _ s E _ h.2.2 λv' u' env s p=>At.app (h.1▸p) λs p=>q _ _ (.next p)⟩)
theorem FC(ho:gF o) (hy:ni 22 y=true) (hp:(p1.endLine==p2.line)=true) (h1:ay Z n F e o) (h2:ay Z n F e' y):cM Z n F (.ext e e') (.Expr (.Call (.Attribute o "extend" p1) [y] [] p2) pos):=λX K env L s E Q hf hP p q hE =>
 rJ (r:=0) (vs:=[]) (c:=0) PySem.F.slot_list_extend PySem.F.type_list_extend ho hy hp (h1 X _ env L s E _ p λv u env s p=>(At.Cw p).imp λr h=>h.imp λvs h=>h.imp λc h=>⟨h.1,h.2.1,h2 X _ env _ s E _ h.2.2 λv' u' env s p=>At.ext (h.1▸p) λs p=>q _ _ (.next p)⟩)
theorem AN(ho:gF o) (hp:(p1.endLine==p2.line)=true) (h1:ay Z n F e o):cM Z n F (.lZ e) (.Expr (.Call (.Attribute o "append" p1) [.List [] p3] [] p2) pos):=λX K env L s E Q hf hP p q hE =>
 rJ (r:=0) (vs:=[]) (c:=0) PySem.F.slot_list_append PySem.F.type_list_append ho rfl hp (h1 X _ env L s E _ p λv u env s p=>(At.K5 p).imp λr h=>h.imp λvs h=>h.imp λc h=>⟨h.1,h.2,List_ (spliced_nil (p.rec (motive:=λs O=>wpAny (model Z.prog Z.w) X.c.A (newList []) _ E s) λ{G hp tk h' m} x f S l r=>newList_N S.fr S.nw (λh' F' N'=>At.lZ (h.1▸At.own (L:=.v Z.N v u L) (ob:=ax [] 0) x f S l r F' N') λs p=>q _ _ (.next p)) (aaV _)))⟩)
end
theorem vI{o:Option (Option MV)}{xs:List V}(e:nP o=some xs):o=some (some (.bH xs)):=by
 cases o with
 |none=>exact nn e
 |some o=>cases o with
  |none=>exact nn e
  |some w=>cases w with
   |val _=>exact nn e
   |bH ys=>exact aab (λx=>some (some (MV.bH x))) (aah e)
theorem Lq{c:Nat->List V->MH->Option aB}{v:V}{f:List V->T}{h:MH}{r:Fl×St}(e:run c (Kv v f) h=some r):∃ xs,v=.lst xs/\run c (f xs) h=some r:=by
 cases v with
 |lst xs=>exact⟨xs,rfl,e⟩
 |_=>exact nn e
theorem CX{c:Nat->List V->MH->Option aB}{q:Bool}{f:T}{h:MH}{r:Fl×St}(e:run c (pick q f .stuck) h=some r):q=true/\run c f h=some r:=by
 cases q with
 |true=>exact⟨rfl,e⟩
 |false=>exact nn e
section
variable{Z:b_}{n:Nat}{F:Fm}{X:EC Z n F}{env:En}{L:Pn X.c.bk}{s:Shared}{E:Value->Shared->Prop}{R:MH->Prop}{M:Model}{A:Around}{i j k:Nat}{x:Str}{v:V}{u:Value}{e e' d:ME}{es:dM}{o y z:PySem.Expr}{ys:List PySem.Expr}{p1 p2 p3 pos:Pos}{h:MH}{hp:Heap}{G:Gh}{m:Str->Option Value}{xs:List V}{r:Addr}
inductive UH(X:EC Z n F) (G:Gh) (m:Str->Option Value) (i:Nat) (x:Str) (xs:List V):Prop where
 |mk {r:Addr}{vs:List Value}{j:Nat}(e:m x=some (.ref r)) (n:(r,ax vs j)∈G.news) (g:G.g r=.bH X.c.bk i) (f:bM Z.N G xs vs) (l:xs.length<=4000):UH X G m i x xs
theorem EC.bH(X:EC Z n F) (ht:F.top=true) (hl:cL F i x=true) (S:cj Z X.c G m env h hp) (e:nP env[i]? =some xs):UH X G m i x xs:=by
 have hk:=X.dE.lo ht x (aam.mp (ae hl).2);cases S.env.mv i _ x (vI e) (X.dE.nm▸aam.mp (ae hl).1) with | bH n g f l a =>
 cases a with
 |loc _ _ e=>exact⟨e,n,g,f,l⟩
 |dW _ n' _ _ _ _=>exact absurd (X.dE.top ht) (S.nw _ n').2.1
 |cell k _ _ _ _=>rcases k with q | q<;>exact nomatch hk.symm.trans q
theorem FD{T:Ow->Prop}{b i:Nat}{ob:Obj}(g:G.g r=.bH b i) (t:¬ T (.bH b i)):Kp T G (G.upd r ob):=Gh.fc (g▸t)
theorem At.vJ{us:List Value}{c:Nat}{ys:List V}{cE:Heap}{tk:Nat}(ht:F.top=true) (hl:cL F i x=true) (ex:Ext X.c.bk X.a_ G) (f:X.fm m) (S:cj Z X.c G m env h hp) (l:L.P G) (q:R h) {vs:List Value}{c0:Nat}(em:m x=some (.ref r)) (n':(r,ax vs c0)∈G.news) (g:G.g r=.bH X.c.bk i) (rs:bM Z.N G ys us) (hy:ys.length<=4000)
  (F':Fr X.c.h₀ X.c.L cE m) (N':News X.c.h₀ X.c.L cE (G.upd r (ax us c)).news):X.At (setEnv env i (.bH ys)) L R (X.s cE tk) :=
 have k:∀ {T:Ow->Prop},¬ T (.bH X.c.bk i)->Kp T G (G.upd r (ax us c)):=λt=>FD g t
 have x0:Ext X.c.bk G (G.upd r (ax us c)):=k λq=>q rfl
 have k2:Kp (·≠.bH X.c.bk i) G (G.upd r (ax us c)):=k λq=>q rfl
 ⟨ex.trans x0,f,⟨S.sr.upd (by rw[g];trivial),S.env.set X.ok.nm (X.dE.nm▸aam.mp (ae hl).1) (.bH (aD n') g (rs.ext x0) hy (.loc (X.dE.lo ht x (aam.mp (ae hl).2)) (X.dE.top ht) em)) λj y w nj O q=>q.kp k2 (λe=>nomatch e) (λe=>nomatch e) λe=>nj (Ow.bH.inj e).2,F',N'⟩,L.st _ _ x0 l,q⟩
theorem oo{pos:Pos}{tk:Nat}(X:EC Z n F) (ht:F.top=true) (hl:cL F i x=true) (hx:ba x=true) (S:cj Z X.c G m env h hp) (e:m x=some u) {Q:Value->Shared->Prop}(q:Q u { s with heap:=hp,toks:=tk }):wpAny M A (eval (.Name x pos) X.c.ak) Q E { s with heap:=hp,toks:=tk } :=
 PySem.wpAny_Name (gf X.ok S (.loc (X.dE.lo ht x (aam.mp (ae hl).2)) (X.dE.top ht) e) hx q) (bD hx).1
noncomputable def EC.pin(X:EC Z n F) (m:Str->Option Value):EC Z n F:={ X with fm:=(·=m) }
theorem AO(ht:F.top=true) (hl:cL F i x=true) (hx:ba x=true) (hy:ni 22 y=true) (hp:(p1.endLine==p2.line)=true) (h2:ay Z n F e y):cM Z n F (.gL i e) (.Expr (.Call (.Attribute (.Name x p3) "append" p1) [y] [] p2) pos):=λX K env L s E Q hf hP p q hE =>
 rJ (r:=0) (vs:=[]) (c:=0) PySem.F.slot_list_append PySem.F.type_list_append (λO O O=>rfl) hy hp (p.rec λ{G hp tk h m} x1 f S l r=>(CX r).elim λhb r=>(Option.isSome_iff_exists.mp hb).elim λxs e=>(X.bH ht hl S e).rec λ{ro vs j} em nw g O O =>
  oo (s:=X.sh) X ht hl hx S em ⟨ro,vs,j,rfl,(S.nw _ nw).1,h2 (X.pin m) _ env L _ E _ ⟨x1,rfl,S,l,r⟩ λv u env s p=>p.rec λ{G hp tk h m'} x1 f S l r=>by
   cases f;obtain⟨w,e,r⟩:=eA r;obtain⟨xs,e1,e⟩:=aap.mp e;obtain⟨hn,e⟩:=gd e;obtain⟨ys,e2,r⟩:=Lq r;have e3:xs++[v]=ys:=V.lst.inj ((aah e).trans e2);cases X.bH ht hl S e1 with | @mk Wr JH j' Qs JI g' rs _ =>
   cases(em.symm.trans Qs);refine append_K (its:=JH.toArray) (n:=j') S.fr S.nw (dR S.sr.nodup JI) (λh' F' N'=>?_) (by rw[aaT,<- rs.length];exact aaj (aay hn) (by decide))
   rw[show W.listOf (JH.toArray.push u) (j'+1)=ax (JH++[u]) (j'+1) from by rw[W.listOf,List.push_toArray]]at N'
   exact q _ _ (.next (At.vJ (x:=x) ht hl x1 (hf m) S l.2 r em JI g' (e3▸rs.append (.one l.1)) (by rw[<- e3,aag];exact aaj (Nat.succ_le_of_lt hn) (by decide)) F' N'))⟩)
theorem AP{xs:List V}{k v w:V}(e:setB xs k v=some w):∃ i,k=.int i/\(0<=i/\i<xs.length)/\.lst (xs.set i.toNat v)=w:=by
 cases k with
 |int i=>exact⟨i,rfl,(gd e).1,aah (gd e).2⟩
 |_=>exact nn e
theorem AQ(ht:F.top=true) (hl:cL F i x=true) (hx:ba x=true) (kE:(ni 8 z&&ni 9 z&&ni 10 z)=true) (h1:ay Z n F d z) (h2:ay Z n F e y):cM Z n F (.pH i e d) (.Assign [.Subscript (.Name x p3) y p1] z pos):=λX K env L s E Q hf hP p q hE =>
 wpAny_Assign_Subscript (h1 X _ env L s E _ p λv u env s p=>p.rec λ{G hp tk h m} x1 f S l r=>(CX r).elim λhb r=>(Option.isSome_iff_exists.mp hb).elim λxs e=>(X.bH ht hl S e).rec λ{ro vs j} em nw g O O =>
  oo (s:=X.sh) X ht hl hx S em (h2 (X.pin m) _ env (.v Z.N v u L) _ E _ ⟨x1,rfl,S,l,r⟩ λk kv env s p=>p.rec λ{G hp tk h m'} x1 f S l r=>by
   clear p;cases f;clear p;obtain⟨w,e,r⟩:=eA r;clear p;obtain⟨xs,e1,e⟩:=aap.mp e;obtain⟨ix,ek,hi,e⟩:=AP e;obtain⟨ys,e2,r⟩:=Lq r;have e3:xs.set ix.toNat v=ys:=V.lst.inj (e.trans e2);obtain⟨lk,lv,l⟩:=l;rw[ek]at lk;obtain⟨t,rfl⟩:=lk;cases X.bH ht hl S e1 with | @mk Wr JH j' Qs JI g' rs l' =>
   cases(em.symm.trans Qs);have el:=rs.length;refine ki_setAt (items:=JH.toArray) (n:=j') (S.nw _ JI).1 hi.1 (by lia) (by rw[aaT];exact el▸hi.2) ?_
   obtain⟨U1,U2⟩:=news_set (o':=ax (JH.set ix.toNat u) j') (f:=Obj.mapSeq λx=>x.setIfInBounds ix.toNat u) S.fr S.nw S.sr.nodup JI (by simp[Obj.mapSeq,ax]) rfl
   exact q _ _ (.next (At.vJ (x:=x) ht hl x1 (hf m) S l r em JI g' (e3▸rs.set ix.toNat lv) (by rw[<- e3,List.length_set];exact l') U1 U2)))) ((kJ z).swap kE _ _ _)
theorem AR{op:Op}{a b w:V}(e:pJ op a b=some w):∃ i j,a=.int i/\b=.int j/\binop op (.int i) (.int j)=some w:=by
 cases a with
 |int i=>cases b with
  |int j=>exact⟨i,j,rfl,rfl,e⟩
  |_=>exact nn e
 |_=>exact nn e
theorem At.aug{op:Op}{K:V->T}{a b:V}{u1 u2:Value}{Q:Value->Shared->Prop}(JJ:(op==.add||op==.sub)=true) (p:X.At env (.v Z.N b u2 (.v Z.N a u1 L)) (X.R (.get (λO=>pJ op a b) K)) s) (q:∀ v u s,X.At env (.v Z.N v u L) (X.R (K v)) s->Q u s):X.wp (inplaceOp (JC op) u1 u2) Q E s:=by
 refine p.rec λ{G hp tk h m} x f S l r=>?_
 clear p;obtain⟨w,e,r2⟩:=eA r;clear r;obtain⟨i,j,ea,eb,e⟩:=AR e;obtain⟨lb,la,l⟩:=l;rw[ea]at la;rw[eb]at lb;obtain⟨t,h1⟩:=la;obtain⟨t',h2⟩:=lb;rw[h1,h2];cases op with
 |add=>exact PySem.P.iadd_int (q w _ _ ⟨x,f,S,⟨jd e,l⟩,r2⟩)
 |sub=>exact PySem.P.isub_int (q w _ _ ⟨x,f,S,⟨jd e,l⟩,r2⟩)
 |_=>exact ff JJ
theorem FE{op:Op}(ht:F.top=true) (JJ:(op==.add||op==.sub)=true) (hl:cL F i x=true) (hx:ba x=true) (h:ay Z n F e y):cM Z n F (.aug i op e) (.AugAssign (.Name x p1) (JC op) y pos):=λX K env L s E Q hf hP p q hE=>by
 refine wpAny_AugAssign_Name ?_;have p:X.At env L (X.R (rd env i λa E=>tE Z.P e E λb E=>.get (λO=>pJ op a b) λv=>K .next (setEnv E i (.val v)))) s:=p
 refine(At.read (X.dE.nm▸aam.mp (ae hl).1) p).rec λa p S=>?_
 exact gf (s:=X.sh) X.ok S a hx (h X _ _ _ _ E _ p λv u env s p=>At.aug JJ p λv u s p=>At.store (λO O=>hf _) ht hl p λs p=>q _ _ (.next p))
end
def vK(ts:List PySem.Expr):List PySem.Expr:=ts.map λt=>.Name (vw t).nm t.pos
noncomputable def namesOk(F:Fm):List Nat->List PySem.Expr->Bool
 |[],ts=>ts.isEmpty
 |i::is,ts=>(match ts with
  |[]=>false
  |t::ts=>cL F i (vw t).nm&&namesOk F is ts)
def CY(is:List Nat) (t:PySem.Expr):PySem.Expr:=match is with
 |[_]=>.Name (vw t).nm t.pos
 |_=>.Tuple (vK (vw t).ks) (vw t).k t.pos
def oq(F:Fm) (is:List Nat) (t:PySem.Expr):Bool:=match is with
 |[i]=>cL F i (vw t).nm
 |is=>namesOk F is (vw t).ks
theorem AS(env:Env):∀ ts:List PySem.Expr,(assignEach (vK ts) env).length=ts.length/\(assignEach (vK ts) env).findIdx? (·.1)=none:=by
 intro ts;induction ts with
 |nil =>
  exact⟨rfl,rfl⟩
 |cons t ts ih =>
  refine cJ ih λa b=>?_
  refine⟨aab (·+1) a,?_⟩;show List.findIdx? _ ((false,assign (.Name (vw t).nm t.pos) env)::assignEach (vK ts) env)=none;rw[List.findIdx?_cons,b];rfl
theorem iT{F:Fm}:∀ {is:List Nat}{ts:List PySem.Expr},namesOk F is ts=true->ts.length=is.length
 |[],ts,h=>by rw[List.isEmpty_iff.mp h];rfl
 |i::is,[],h=>ff h
 |i::is,t::ts,h=>aab (·+1) (iT (ae h).2)
theorem jU:∀ {is:List Nat}{xs:List V}{env dH:En},unpack is xs env=some dH->is.length=xs.length
 |[],[],_,_,_=>rfl
 |i::is,x::xs,env,dH,h=>aab (·+1) (jU (show unpack is xs _=some dH from h))
 |[],x::xs,_,_,h=>nn h
 |i::is,[],_,_,h=>nn h
theorem AU{is:List Nat}{x:V}{env dH:En}(e:jb is x env=some dH):∃ xs h,bW h x=some xs/\unpack is xs env=some dH:=by
 cases x with
 |tup xs=>exact⟨xs,⟨λO=>none,λO=>0,0⟩,rfl,e⟩
 |lst xs=>exact⟨xs,⟨λO=>none,λO=>0,0⟩,rfl,e⟩
 |_=>exact nn e
section
variable{Z:b_}{n:Nat}{F:Fm}{X:EC Z n F}{L:Pn X.c.bk}{E:Value->Shared->Prop}{R:MH->Prop}{env dH:En}{s:Shared}{u:Value}{pos:Pos}{k:Nat}{ts:List PySem.Expr}{is:List Nat}{y t:PySem.Expr}{e:ME}
theorem lF{M:Model}{A:Around}{Q:Unit->Shared->Prop}(hf:∀ m,X.fm m) (ht:F.top=true):∀ {is:List Nat}{ts:List PySem.Expr}{xs:List V}{vs:List Value}{env:En}{s:Shared},namesOk F is ts=true->unpack is xs env=some dH->X.At env (.vs Z.N xs vs L) R s->(∀ s,X.At dH L R s->Q () s)->wpAny M A (assignInOrder ((assignEach (vK ts) X.c.ak).map (·.2)) vs) Q E s
 |[],ts,xs,vs,env,s,hn,e,p,q=>by
  cases List.isEmpty_iff.mp hn;cases xs with
  |cons _ _=>exact nn e
  |nil =>
   cases e;have hv:vs=[]:=p.rec λO O O l O=>l.1
   rw[hv];exact aaH (q s (At.imp p λO O l r=>⟨l.2,r⟩))
 |i::is,[],_,_,_,_,hn,_,_,_=>ff hn
 |i::is,t::ts,[],_,_,_,_,e,_,_=>nn e
 |i::is,t::ts,x::xs,vs,env,s,hn,e,p,q=>by
  obtain⟨v,vs,rfl,p2⟩:∃ v us,vs=v::us/\X.At env (.v Z.N x v (.vs Z.N xs us L)) R s:=p.rec λx f S l r=>l.1.rec λa b=>⟨_,_,rfl,x,f,S,⟨a,b,l.2⟩,r⟩
  show wpAny M A (do holding vs (assign (.Name (vw t).nm t.pos) X.c.ak v);assignInOrder ((assignEach (vK ts) X.c.ak).map (·.2)) vs) Q E s;exact aal (wpAny_holding (wpAny_assign_Name (At.store (λO O=>hf _) ht (ae hn).1 p2 λs p=>lF hf ht (ae hn).2 e p q)))
theorem At.pI{x:V}{Q:Unit->Shared->Prop}(hf:∀ m,X.fm m) (ht:F.top=true) (hn:namesOk F is ts=true) (e:jb is x env=some dH) (p:X.At env (.v Z.N x u L) R s) (q:∀ s,X.At dH L R s->Q () s):X.wp (assign (.Tuple (vK ts) k pos) X.c.ak u) Q E s:=by
 refine Kl (AU e) λxs h0 e0 e=>?_
 refine p.rec λ{G hp tk h m} x1 f S l r=>?_
 clear p;have hl:=AS X.c.ak ts;have fin:∀ {vs:List Value}{h'},bM Z.N G xs vs->Fr X.c.h₀ X.c.L h' m->News X.c.h₀ X.c.L h' G.news->wpAny (model Z.prog Z.w) X.c.A (assignInOrder ((assignEach (vK ts) X.c.ak).map (·.2)) vs) Q E (X.s h' tk):=λrs F' N'=>lF hf ht hn e ⟨x1,f,S.heap F' N',⟨rs,l.2⟩,r⟩ q
 have hs:∀ {vs:List Value},bM Z.N G xs vs->(assignEach (vK ts) X.c.ak).length=vs.toArray.size:=λrs=>by rw[hl.1,iT hn,jU e,rs.length,aaT]
 have e1:bW h x=some xs:=by clear l;cases x<;>first | exact e0 | exact nn e
 cases S.seq l.1 e1 with
 |tup g rs _=>exact unpackN_ S.fr S.nw (cB g) X.ok.handled (hs rs) hl.2 λh' F' N'=>fin rs F' N'
 |lst _ g rs _=>exact kun_list S.fr S.nw (aJ g) X.ok.handled (hs rs) hl.2 λh' F' N'=>fin rs F' N'
theorem At.assign{x:V}{Q:Unit->Shared->Prop}(hf:∀ m,X.fm m) (ht:F.top=true) (hn:oq F is t=true) (e:bindAll is x env=some dH) (p:X.At env (.v Z.N x u L) R s) (q:∀ s,X.At dH L R s->Q () s):X.wp (PySem.assign (CY is t) X.c.ak u) Q E s:=by
 cases is with
 |nil=>exact At.pI hf ht hn e p q
 |cons i is=>cases is with
  |nil=>exact wpAny_assign_Name (At.store (λO O=>hf _) ht hn p λs p=>q s (aah e▸p))
  |cons j is=>exact At.pI hf ht hn e p q
theorem FH{Qt:Pos}(ht:F.top=true) (hn:namesOk F is ts=true) (kE:(ni 8 y&&ni 9 y&&ni 10 y)=true) (Ws:ni 25 y=true) (h:ay Z n F e y):cM Z n F (.pI is e) (.Assign [.Tuple (vK ts) k pos] y Qt):=λX K env L s E Q hf hP p q hE =>
 PyProof.Rows.Assign_Tuple (h X _ env L s E _ p λv u env s p=>by
  have ⟨dH,e,p⟩:∃ dH,jb is v env=some dH/\X.At env (.v Z.N v u L) (X.R (K .next dH)) s:=p.rec λx f S l r=>(EB r).imp λO h=>⟨h.1,x,f,S,l,h.2⟩
  exact At.pI hf ht hn e p λs p=>q _ _ (.next p)) (by unfold swapsWithSole;exact(kJ y).swap kE _ _ _) ((kJ y).tup Ws _ _ _ _)
end
theorem FI{x:Option (Fl×St)}{b:Bool}{st:St}(e:sI x=some (b,st)):x=some (.ret (.bool b),st):=by
 cases x with
 |none=>exact nn e
 |some p =>
  obtain⟨fl,s⟩:=p;cases fl with
  |ret v=>cases v with
   |bool c=>cases e;rfl
   |_=>exact nn e
  |_=>exact nn e
theorem vL{f:V->St->Option (Fl×St)}{chk:MH->Bool}{xs:List V}{st:St}{r:Fl×St}(e:forL f chk xs st=some r):chk st.h=true:=by
 cases xs<;>exact(gd e).1
section
variable{Z:b_}{n:Nat}{F:Fm}
noncomputable def EC.sub(X:EC Z n F) (G₁:Gh) (r:Mine.Internal.Fl×St):EC Z n F:={ X with a_:=G₁,r:=r }
def EC.J(X:EC Z n F) (K:Mine.Internal.Fl->En->T) (o:Option (Mine.Internal.Fl×St)):Prop:=(o.bind λp=>run (aa Z.P n) (K p.1 p.2.env) p.2.h)=some X.r
def UI(Z:b_) (n:Nat) (t:MT) (st:St):Option (Bool×St):=sI (run (aa Z.P n) (tT Z.P t st.env λq E=>.ret (.ret (.bool q)) E) st.h)
def Pe(Z:b_) (n:Nat) (b:aA) (st:St):Option (Fl×St):=run (aa Z.P n) (tSs Z.P b st.env .ret) st.h
structure UJ(X:EC Z n F) (G₁:Gh) (I:Addr) (xs:List V) (chk:MH->Bool) (t:PySem.Expr) (It:Nat->Pn X.c.bk):Prop where
 next:∀ (env:En) (i:Nat) (R:MH->Prop) (s:Shared) (E:Value->Shared->Prop) (Q:Option Value->Shared->Prop),(X.sub G₁ X.r).At env (It i) R s->(∀ h,R h->chk h=true)->(∀ x v s,xs[i]? =some x->(X.sub G₁ X.r).At env (.v Z.N x v (It (i+1))) R s->Q (some v) s)->(∀ s,xs[i]? =none->(X.sub G₁ X.r).At env .nil R s->Q none s)->X.wp (pyNext (.ref I)) Q E s
 go:∀ (env:En) (i:Nat) (R:MH->Prop) (s:Shared) (x:V) (v:Value) (E:Value->Shared->Prop) (Q:Unit->Shared->Prop),(X.sub G₁ X.r).At env (.v Z.N x v (It i)) R s->Q () s->X.wp (letOwnedTupleGo t (.ref I) v) Q E s
section
variable{X:EC Z n F}{G₁:Gh}{r r':Fl×St}{L L':Pn X.c.bk}{E:Value->Shared->Prop}{R R':MH->Prop}{env:En}{s:Shared}{e:Addr}
theorem At.done{fl:Fl}(p:(X.sub G₁ r).At env L (EC.R (X.sub G₁ r) (.ret fl env)) s):r.1=fl/\(X.sub G₁ r).At env L (λh=>r.2=⟨env,h⟩) s :=
 p.rec λx f S l e=>have e:_=r:=aah e;⟨aab Prod.fst e.symm,⟨x,f,S,l,aab Prod.snd e.symm⟩⟩
theorem At.to(p:(X.sub G₁ r).At env L R s) (k:∀ h,R h->R' h):(X.sub G₁ r').At env L R' s:=p.rec λx f S l r=>⟨x,f,S,l,k _ r⟩
theorem At.back(cO:Ext X.c.bk X.a_ G₁) (hL:∀ G,Ext X.c.bk G₁ G->L'.P G->L.P G) (p:(X.sub G₁ r).At env L' R s) (k:∀ h,R h->R' h):X.At env L R' s:=p.rec λx f S l r=>⟨cO.trans x,f,S,hL _ x l,k _ r⟩
theorem Ex.back(cO:Ext X.c.bk X.a_ G₁) (hL:∀ G,Ext X.c.bk G₁ G->L.P G) (p:(X.sub G₁ r).Ex env L' R e s) (k:∀ h,R h->R' h):X.Ex env L R' e s :=
 p.rec (λh=>h.rec λx f sr en fr rx up l r=>.fl ⟨cO.trans x,f,sr,en,fr,rx,up,hL _ x,k _ r⟩) λx f S mx l r=>.md (cO.trans x) f S mx (hL _ x) (k _ r)
end
section
variable{X:EC Z n F}{G₁:Gh}{L L':Pn X.c.bk}{E:Value->Shared->Prop}{Q:Flow->Shared->Prop}{env:En}{s:Shared}{K:Fl->En->T}{b:aA}{body:List Stmt}{t:MT}{y z:PySem.Expr}{pos:Pos}{is:List Nat}{e:ME}{I:Addr}{xs:List V}{chk:MH->Bool}{It:Nat->Pn X.c.bk}
theorem At.turn{p2:Fl×St}{again:St->Option (Fl×St)}{P:Shared->Prop}(h1:dv Z n F b body) (hf:∀ m,X.fm m) (hP:X.Po E) (cO:Ext X.c.bk X.a_ G₁) (hL:∀ G,Ext X.c.bk G₁ G->L.P G) (e:X.J K (Jy again p2))
  (p:(X.sub G₁ p2).At env L' (λh=>Pe Z n b ⟨env,h⟩=some p2) s) (hI:∀ env s,(X.sub G₁ p2).At env L' (λh=>X.J K (again ⟨env,h⟩)) s->P s)
  (q:∀ f s,Fw X L K f s->Q f s) (hE:F.x=true->∀ e env s,X.Ex env L (X.R (K .exc env)) e s->E (.ref e) s):X.wp (execs body X.c.ak) (λf s=>match f with | .next | .cont=>P s | .brk=>Q .next s | .ret v=>Q (.ret v) s) E s:=by
 have go:∀ {fl':Fl}{env:En}{h:MH},some (fl',St.mk env h)=some p2->X.J K (Jy again (fl',⟨env,h⟩)):=λh=>aah h▸e
 exact h1 (X.sub G₁ p2) .ret env L' s E _ hf hP p (λf s w=>w.rec (λa=>hI _ _ (At.imp a λO h l r=>⟨l,go (fl':=.next) r⟩)) (λa=>hI _ _ (At.imp a λO h l r=>⟨l,go (fl':=.cont) r⟩)) λ{O O v O} a=>q _ _ (.ret (At.back cO (L:=.v Z.N v _ L) (L':=.v Z.N v _ L') (λG x l=>⟨l.1,hL G x⟩) a λh r=>go (fl':=.ret v) r)))
  λhx e env s h=>hE hx e env s (Ex.back cO hL h λh r=>go (fl':=.exc) r)
inductive Pf(X:EC Z n F) (G₁:Gh) (K:Fl->En->T) (t:MT) (b:aA) (k:Nat) (s:Shared):Prop where
 |mk {env:En}(p:(X.sub G₁ X.r).At env .nil (λh=>X.J K (bY (UI Z n t) (Pe Z n b) k ⟨env,h⟩)) s):Pf X G₁ K t b k s
theorem AV{T:St->Option (Bool×St)}{B:St->Option (Fl×St)}{k:Nat}{st:St}(e:X.J K (bY T B (k+1) st)):∃ q Lr,T st=some (q,Lr)/\(q=true->∃ p2,B Lr=some p2/\X.J K (Jy (bY T B k) p2))/\(q=false->X.J K (some (.next,Lr))):=by
 refine az (aap.mp e) λp1 r1 r=>?_
 obtain⟨⟨q,Lr⟩,r2,r1⟩:=aap.mp r1;exact⟨q,Lr,r2,λh=>by subst h;exact(aap.mp r1).imp λp2 h=>⟨h.1,aap.mpr ⟨p1,h.2,r⟩⟩,λh=>by subst h;exact aap.mpr ⟨p1,r1,r⟩⟩
theorem At.whl(h0:fQ Z n F t y) (h1:dv Z n F b body) (hf:∀ m,X.fm m) (hP:X.Po E) (cO:Ext X.c.bk X.a_ G₁) (hL:∀ G,Ext X.c.bk G₁ G->L.P G) (q:∀ f s,Fw X L K f s->Q f s) (hE:F.x=true->∀ e env s,X.Ex env L (X.R (K .exc env)) e s->E (.ref e) s) {k:Nat}
  (p:(X.sub G₁ X.r).At env .nil (λh=>X.J K (bY (UI Z n t) (Pe Z n b) (k+1) ⟨env,h⟩)) s) {P:Shared->Prop}(hI:∀ s,Pf X G₁ K t b k s->P s) :
  X.wp (isTrue y X.c.ak (eval y X.c.ak)) (λb s=>if b=true then X.wp (execs body X.c.ak) (λf s=>match f with | .next | .cont=>P s | .brk=>Q .next s | .ret v=>Q (.ret v) s) E s else X.wp (execs [] X.c.ak) Q E s) E s :=
 p.rec λ{G hp tk h m} x f S l r=>(AV r).elim λq1 r=>r.elim λst r =>
  h0 (X.sub G₁ (.ret (.bool q1),st)) _ env .nil _ E _ ⟨x,f,S,l,FI r.1⟩ λb env s p=>by
   refine cJ (At.done p) λe p'=>?_
   have e:q1=b:=V.bool.inj (Fl.ret.inj e);clear p;cases b with
   |false=>exact wpAny_execs_nil (q _ _ (.next (At.back cO (λG x O=>hL G x) p' λh z=>by have r:=r.2.2 e;rw[show st=_ from z]at r;exact r)))
   |true=>exact(r.2.1 e).elim λp2 r3=>At.turn h1 hf hP cO hL r3.2 (At.to p' λh z=>by rw[show st=_ from z]at r3;exact r3.1) (λenv s p=>hI s ⟨At.to p λO r=>r⟩) q hE
theorem vM(h0:fQ Z n F t y) (h1:dv Z n F b body):cM Z n F (.eK t b) (.While y body [] pos):=λX K env L s E Q hf hP p q hE =>
 p.rec λ{G₁ hp tk h m} cO f S l r=>wpAny_While (codeAny_whileLoop (Pf X G₁ K t b) (λk s'=>match k with
  |0=>λi=>i.rec λp=>p.rec λO O O O r=>nn r
  |k+1=>λi=>i.rec λp=>wpAny_mono (At.whl h0 h1 hf hP cO (λG x=>L.st _ _ x l) q hE p (P:=λs=>∃ m,m<k+1/\Pf X G₁ K t b m s) λs w=>⟨k,aaN k,w⟩) (λb s h=>by
   cases b<;>exact wpAny_passesOwn hP h) hP) 64 (.mk (env:=env) (EC.At.mk (G:=G₁) (hp:=hp) (tk:=tk) (h:=h) (m:=m) .refl f S trivial r)))
theorem td{xs:List V}{i:Nat}{x:V}(h:xs[i]? =some x):xs.drop i=x::xs.drop (i+1) :=
 (aav.mp h).elim λhi e=>(List.drop_eq_getElem_cons hi).trans (aab (·::_) e)
def Pg(Z:b_) (n:Nat) (is:List Nat) (b:aA) (x:V) (st:St):Option (Fl×St):=run (aa Z.P n) (zJ (bindAll is x st.env) λE=>tSs Z.P b E .ret) st.h
inductive Qu(X:EC Z n F) (G₁:Gh) (K:Fl->En->T) (is:List Nat) (b:aA) (chk:MH->Bool) (It:Nat->Pn X.c.bk) (xs:List V) (k:Nat) (s:Shared):Prop where
 |mk {env:En}{i:Nat}(e:k=xs.length-i) (p:(X.sub G₁ X.r).At env (It i) (λh=>X.J K (forL (Pg Z n is b) chk (xs.drop i) ⟨env,h⟩)) s):Qu X G₁ K is b chk It xs k s
theorem AX{f:V->St->Option (Fl×St)}{x:V}{st:St}(e:X.J K (forL f chk (x::xs) st)):∃ p2,f x st=some p2/\X.J K (Jy (forL f chk xs) p2):=by
 refine az (aap.mp e) λp1 r1 r=>?_
 exact(aap.mp (gd r1).2).imp λp2 h=>⟨h.1,aap.mpr ⟨p1,h.2,r⟩⟩
theorem At.Wt{i:Nat}{t:PySem.Expr}{x:V}{v:Value}(hf:∀ m,X.fm m) (ht:F.top=true) (hn:oq F is t=true) (h1:dv Z n F b body) (hP:X.Po E) (cO:Ext X.c.bk X.a_ G₁) (hL:∀ G,Ext X.c.bk G₁ G->L.P G) (q:∀ f s,Fw X L K f s->Q f s) (hE:F.x=true->∀ e env s,X.Ex env L (X.R (K .exc env)) e s->E (.ref e) s)
  (hx:xs[i]? =some x) (p:(X.sub G₁ X.r).At env (.v Z.N x v (It (i+1))) (λh=>X.J K (forL (Pg Z n is b) chk (xs.drop i) ⟨env,h⟩)) s) {P:Shared->Prop}(hI:∀ s,Qu X G₁ K is b chk It xs (xs.length-(i+1)) s->P s) :
  X.wp (PySem.assign (CY is t) X.c.ak v) (λO s=>X.wp (execs body X.c.ak) (λf s=>match f with | .next | .cont=>P s | .brk=>Q .next s | .ret v=>Q (.ret v) s) E s) E s:=by
 rw[td hx]at p;exact p.rec λ{G hp tk h m} x1 f S l r=>(AX r).elim λp2 r2=>(EB r2.1).elim λdH e =>
  At.assign (X:=X.sub G₁ p2) (L:=It (i+1)) (R:=λh=>Pe Z n b ⟨dH,h⟩=some p2) hf ht hn e.1 ⟨x1,f,S,l,e.2⟩ λs p=>At.turn h1 hf hP cO hL r2.2 p (λenv s p=>hI s ⟨rfl,At.to p λO r=>r⟩) q hE
theorem ot{t:PySem.Expr}(W:UJ X G₁ I xs chk (CY is t) It) (hf:∀ m,X.fm m) (ht:F.top=true) (hn:oq F is t=true) (h1:dv Z n F b body) (hP:X.Po E) (cO:Ext X.c.bk X.a_ G₁) (hL:∀ G,Ext X.c.bk G₁ G->L.P G)
  (p:(X.sub G₁ X.r).At env (It 0) (λh=>X.J K (forL (Pg Z n is b) chk xs ⟨env,h⟩)) s) (q:∀ f s,Fw X L K f s->Q f s) (hE:F.x=true->∀ e env s,X.Ex env L (X.R (K .exc env)) e s->E (.ref e) s) :
  codeAny (model Z.prog Z.w) X.c.A (.forLoop (CY is t) (.ref I) body [] X.c.ak) (λr s'=>match r with | .ok f=>Q f s' | .error e=>cameBackBy (model Z.prog Z.w) X.c.A X.c.ak E e s') s :=
 codeAny_forLoop_any (Qu X G₁ K is b chk It xs) (λk s i=>i.rec λ{env i} e p=>W.next env i _ s _ _ p (λh e=>(aap.mp e).elim λO e=>vL e.1)
  (λx v s hx p=>W.go _ _ _ _ _ _ _ _ p (wpAny_mono (At.Wt hf ht hn h1 hP cO hL q hE hx p λs w=>⟨_,e▸Nat.sub_lt_sub_left (aav.mp hx).1 (aaN i),w⟩) (λO s h=>wpAny_passesOwn hP h) hP))
  λs hx p=>wpAny_execs_nil (q _ _ (.next (At.back cO (λG x O=>hL G x) p λh r=>by
   rw[List.drop_eq_nil_of_le (List.getElem?_eq_none_iff.mp hx)]at r;refine az (aap.mp r) λp1 r1 r=>?_
   cases(gd r1).2;exact r)))) xs.length ⟨rfl,p⟩
noncomputable def Pn.lp{k:Addr}(N:Nm) (I:Addr) (o:V) (l:Addr) (i:Nat):Pn k:=⟨λG=>CS N G I o l i,λO O x h=>h.kp (x.v trivial) λO m g=>x.at m g trivial⟩
theorem vN{M:Model}{A:Around}{Q:Unit->Shared->Prop}{o:Obj}{T:String}{vs:Array Value}{v:Value}(ho:s.heap.get? I=some o) (hc:o.cls=.type T) (hd:o.data=.fields vs)
  (hT:["enumerate", "zip", "dict_itemiterator", "dict_reverseitemiterator", "odict_iterator", "itertools.zip_longest", "itertools.pairwise"].contains T=false) (hQ:Q () s):wpAny M A (letOwnedTupleGo (CY is y) (.ref I) v) Q E s:=by
 have g:∀ {ts:List PySem.Expr}{k:Nat}{pos:Pos},wpAny M A (letOwnedTupleGo (.Tuple ts k pos) (.ref I) v) Q E s:=by
  intro ts k pos;unfold letOwnedTupleGo;cases v with
  |ref a =>
   refine aal (wpAny_load ho ?_);rw[hc,hd];show wpAny _ A (if (["enumerate", "zip", "dict_itemiterator", "dict_reverseitemiterator", "odict_iterator", "itertools.zip_longest", "itertools.pairwise"].contains T&&vs[0]? ==some (rawInt a))=true then _ else _) Q E s
   rw[hT,Bool.false_and,aaf Bool.false_ne_true];exact aaH hQ
  |_=>exact aaH hQ
 cases is with
 |nil=>exact g
 |cons i is=>cases is with
  |nil=>exact aaH hQ
  |cons j is=>exact g
theorem FJ(ht:F.top=true) (hn:oq F is z=true) (mw:ni 7 y=true) (h0:ay Z n F e y) (h1:dv Z n F b body):cM Z n F (.cI is e b) (.For (CY is z) y body [] pos):=λX K env L s E Q hf hP p q hE =>
 PySem.wpAny_For (h0 X _ env L s E _ p λo u env s p=>by
  refine p.rec λ{G₁ hp tk h m} cO f S l r=>?_
  clear p;refine az (eA r) λw e1 r=>?_
  refine az (aas.mp e1) λxs hU e1=>?_
  subst e1;refine jR (s:=X.sh) S l.1 hU λs_ eo=>?_
  refine cJ l λlv l=>?_
  rw[eo]at lv;refine ot (G₁:=G₁) (It:=Pn.lp Z.N hp.objs.size o s_) ⟨λenv i R s E Q p hc hS hN=>At.next (X:=X.sub G₁ X.r) p S.fresh (λO h=>h) (λh r=>n_ hU (hc h r)) (λO O O O O it=>it) (λO O O O=>trivial) hS hN,
   λenv i R s x v E Q p h=>by
    revert h;refine p.rec λ{G hp tk h m} O O S l O h=>?_
    clear p;exact l.2.rec λm g b O=>vN (S.nw _ m).1 b.c b.d (by unfold Fj;split<;>decide) h⟩
   hf ht hn h1 hP cO (λG x=>L.st _ _ x l) ⟨Gh.bL S.fresh,f,S.add (u:=.it) X.ok (S.fr.push _) (News.push S.fr S.nw _),⟨Gh.e_,Gh.jK,⟨rfl,rfl⟩,lv.ext (Gh.bL (T:=Ow.ex X.c.bk) S.fresh)⟩,r⟩ q hE) ((kJ y).fold mw _)
end
end
theorem jV{a c:Int}:∀ {k j:Nat},j<k->(bC a c k)[j]? =some (.int (a+j*c))
 |0,_,h=>absurd h (Nat.not_lt_zero _)
 |k+1,0,_=>aab (λx=>some (V.int x)) (by rw[Int.natCast_zero,Int.zero_mul,Int.add_zero])
 |k+1,j+1,h=>(jV (a:=a+c) (Nat.lt_of_succ_lt_succ h)).trans (aab (λx=>some (V.int x)) (by rw[Int.natCast_succ,Int.add_mul,Int.one_mul,Int.add_assoc,Int.add_comm c]))
theorem p9{a c:Int}:∀ {k:Nat},(bC a c k).length=k:=by
 intro k;induction k generalizing a with
 |zero=>rfl
 |succ k ih=>exact aab (·+1) ih
noncomputable def Wu(x l c:Int):Obj:={ cls:=.type "range_iterator",dict:=none,data:=.fields #[rawInt x,rawInt l,rawInt c],slots:=#[] }
structure Wv(I:Addr) (a c:Int) (k i:Nat) (G:Gh):Prop where
 m:(I,Wu (a+i*c) (k-i) c)∈G.news
 g:G.g I=.it
noncomputable def Pn.rg{b:Addr}(I:Addr) (a c:Int) (k i:Nat):Pn b:=⟨Wv I a c k i,λO O x h=>⟨(x.at h.m h.g trivial).1,(x.at h.m h.g trivial).2⟩⟩
section
variable{Z:b_}{n:Nat}{F:Fm}{X:EC Z n F}{G₁:Gh}{L:Pn X.c.bk}{E:Value->Shared->Prop}{Q:Flow->Shared->Prop}{env:En}{s:Shared}{K:Fl->En->T}{b:aA}{body:List Stmt}{y z:PySem.Expr}{ys:List PySem.Expr}{pos xp yp cp:Pos}{i k:Nat}{x:Str}{es:dM}{I r:Addr}{a c d:Int}{t u v:Nat}
theorem te(hI:I∉G₁.news.map (·.1)):UJ X G₁ I (bC a c k) (λO=>true) (CY [i] y) (Pn.rg I a c k) where
 next:=λenv j R s E Q p O hS hN=>p.rec λ{G hp tk h m} x f S l r=>by
  have lo:(G.g I).lo:=by rw[l.g];trivial
  have en:¬ Ow.en (G.g I):=by rw[l.g];exact id
  by_cases hj:j<k
  ·refine wpAny_pyNext_range_item (S.nw _ l.m).1 (Int.sub_pos_of_lt (Int.ofNat_lt.mpr hj)) λh' hi hs=>hS _ _ _ (jV hj) ⟨Gh.jl x hI,f,S.CT lo en l.m hs hi,⟨⟨_,rfl⟩,?_,l.g⟩,r⟩
   rw[show a+((j+1:Nat):Int)*c=a+j*c+c by rw[Int.natCast_succ,Int.add_mul,Int.one_mul,Int.add_assoc],show(k:Int)-((j+1:Nat):Int)=k-j-1 by rw[Int.natCast_succ,Int.sub_sub]]
   exact aD l.m
  ·exact wpAny_pyNext_range_end X.ok.handled (S.nw _ l.m).1 (Int.sub_nonpos_of_le (Int.ofNat_le.mpr (Nat.le_of_not_lt hj))) λh' hs=>hN _ (List.getElem?_eq_none (p9.symm▸Nat.le_of_not_lt hj)) ⟨Gh.fR x hI,f,S.pU lo en l.m hs,trivial,r⟩
 go:=λO O O O O O O O O h=>aaH h
def EC.post(X:EC Z n F) (x:Str) (xp:Pos) (body:List Stmt) (Q:Flow->Shared->Prop) (E:Value->Shared->Prop) (v:Value):Shared->Prop :=
 X.wp (pyIter v) (λit s=>codeAny (model Z.prog Z.w) X.c.A (.forLoop (.Name x xp) it body [] X.c.ak) (λr s'=>match r with | .ok f=>Q f s' | .error e=>cameBackBy (model Z.prog Z.w) X.c.A X.c.ak E e s') s) E
noncomputable def Ph(a d c:Int) (t u v:Nat):Obj:={ cls:=.type "range",data:=.fields #[.int a t,.int d u,.int c v] }
theorem At.UK(hf:∀ m,X.fm m) (ht:F.top=true) (hn:cL F i x=true) (h1:dv Z n F b body) (hP:X.Po E) (q:∀ f s,Fw X L K f s->Q f s) (hE:F.x=true->∀ e env s,X.Ex env L (X.R (K .exc env)) e s->E (.ref e) s) {G:Gh}{hp:Heap}{h:MH}{m:Str->Option Value}{tk:Nat}(cO:Ext X.c.bk X.a_ G) (f:X.fm m) (S:cj Z X.c G m env h hp) (l:L.P G)
  (p_:Builtin.Range.small a d c=true) (rK:Builtin.Range.rangeSize a d c=k) (j:X.J K (forL (Pg Z n [i] b) (λO=>true) (bC a c k) ⟨env,h⟩)) :
  X.post x xp body Q E (.ref hp.objs.size) (X.s (hp.push (Ph a d c t u v)) tk):=by
 refine wpAny_pyIter_range (IsRange.new ..) p_ ?_;rw[rK];have k0:Ext X.c.bk G (G.add hp.objs.size (Ph a d c t u v) .it):=Gh.bL S.fresh;have S':=S.add (u:=.it) X.ok (S.fr.push _) (News.push S.fr S.nw (Ph a d c t u v));exact ot (is:=[i]) (t:=.Name x xp) (It:=Pn.rg (hp.push (Ph a d c t u v)).objs.size a c k) (te S'.fresh) hf ht hn h1 hP (cO.trans k0) (λG x=>L.st _ _ (k0.trans x) l) ⟨Gh.bL S'.fresh,f,S'.add (u:=.it) X.ok (S'.fr.push _) (News.push S'.fr S'.nw _),⟨by rw[Int.natCast_zero,Int.zero_mul,Int.add_zero,Int.sub_zero];exact Gh.e_,Gh.jK⟩,j⟩ q hE
inductive vO:List V->List V->Prop where
 |one {k:Int}(h: -1000<=k/\k<=1000):vO [.int k] (bC 0 1 k.toNat)
 |three {a b:Int}(h:(-1000<=a/\a<=1000)/\ -1000<=b/\b<=1000):vO [.int a,.int b,.int (-1)] (bC a (-1) (a-b).toNat)
theorem vP{vs xs:List V}(e:e9 vs=some xs):vO vs xs:=by
 have k1:∀ {v:V},Ks v=some xs->vO [v] xs:=λ{v} e=>by
  cases v with
  |int k=>exact aah (gd e).2▸.one (gd e).1
  |_=>exact nn e
 have k3:∀ {u v w:V},Kt u v w=some xs->vO [u,v,w] xs:=λ{u v w} e=>by
  cases u with
  |int a=>cases v with
   |int b=>cases w with
    |int c =>
     have g:=gd (show(if c= -1/\ -1000<=a/\a<=1000/\ -1000<=b/\b<=1000 then some (bC a (-1) (a-b).toNat) else none)=some xs from e)
     rw[g.1.1];exact aah g.2▸.three ⟨⟨g.1.2.1,g.1.2.2.1⟩,g.1.2.2.2⟩
    |_=>exact nn e
   |_=>exact nn e
  |_=>exact nn e
 cases vs with
 |nil=>exact nn e
 |cons u vs=>cases vs with
  |nil=>exact k1 e
  |cons v vs=>cases vs with
   |nil=>exact nn e
   |cons w vs=>cases vs with
    |nil=>exact k3 e
    |cons _ _=>exact nn e
theorem AY{x:Int}(h: -3000<=x/\x<=3000):Builtin.Range.rangeFitsLong x=true:=by
 unfold Builtin.Range.rangeFitsLong;exact aaC.mpr ⟨aaq (Int.le_trans (by decide) h.1),aaq (Int.lt_of_le_of_lt h.2 (by decide))⟩
theorem jW{a b:Int}(hk:(-1000<=a/\a<=1000)/\ -1000<=b/\b<=1000):Builtin.Range.small a b (-1)=true/\Builtin.Range.rangeSize a b (-1)=((a-b).toNat:Int):=by
 have rK:Builtin.Range.rangeSize a b (-1)=((a-b).toNat:Int):=by
  unfold Builtin.Range.rangeSize;simp
  lia
 have h3:((a-b).toNat:Int)<=3000:=by lia
 refine⟨?_,rK⟩;unfold Builtin.Range.small;rw[rK];simp only[aaB,Bool.or_eq_true];exact⟨⟨⟨⟨AY ⟨by exact i_6 hk.1.1 rfl,by exact i_0 hk.1.2 rfl⟩,AY ⟨by exact i_6 hk.2.1 rfl,by exact i_0 hk.2.2 rfl⟩⟩,by decide⟩,AY ⟨by exact aaQ _,h3⟩⟩,.inr (AY ⟨by exact Int.le_trans (i_6 hk.2.1 rfl) (Int.le_of_eq (Int.add_zero _).symm),by exact Int.le_trans (Int.le_of_eq (Int.add_zero _)) (i_0 hk.2.2 rfl)⟩)⟩
theorem mz{vs:List V}{us:List Value}(hf:∀ m,X.fm m) (ht:F.top=true) (hn:cL F i x=true) (h1:dv Z n F b body) (hP:X.Po E) (q:∀ f s,Fw X L K f s->Q f s) (hE:F.x=true->∀ e env s,X.Ex env L (X.R (K .exc env)) e s->E (.ref e) s)
  (p:X.At env (.vs Z.N vs us L) (X.R (.get (λO=>(e9 vs).map V.tup) λl=>CB l λxs=>.loop (λx E=>tSs Z.P b (setEnv E i (.val x)) .ret) (λO=>true) xs env K)) s):X.wp (call (.type "range") us) (X.post x xp body Q E) E s:=by
 refine p.rec λ{G hp tk h m} cO f S l r=>?_
 clear p;obtain⟨w,ew,r⟩:=eA r;obtain⟨xs,e1,e2⟩:=aas.mp ew;clear ew;subst e2;obtain⟨lu,l⟩:=l;cases vP e1 with
 |@one k hk =>
  obtain⟨⟨t,rfl⟩,rfl⟩:=lu;exact call_range_1 (At.UK hf ht hn h1 hP q hE cO f S l (small_one (by decide) (by decide) (Int.le_trans (by decide) hk.1) (Int.lt_of_le_of_lt hk.2 (by decide))) ((rangeSize_one _ _).trans (by rw[Int.sub_zero];split<;>lia)) r)
 |three hk =>
  obtain⟨⟨t,rfl⟩,⟨t2,rfl⟩,⟨t3,rfl⟩,rfl⟩:=lu;exact call_range_3 (by decide) (At.UK hf ht hn h1 hP q hE cO f S l (jW hk).1 (jW hk).2 r) (.inl (PyProof.noPylong_small (by lia)))
theorem AZ(ht:F.top=true) (hn:cL F i x=true) (hy:F.glob "range" = true) (h0:du Z n F k es (y::ys)) (h1:dv Z n F b body):cM Z n F (.forR i es b) (.For (.Name x xp) (.Call (.Name "range" yp) (y::ys) [] cp) body [] pos):=λX K env L s E Q hf hP p q hE=>by
 refine PySem.wpAny_For (show X.wp _ (X.post x xp body Q E) E s from Call_ (At.blt p hy X.b.KN (PyProof.Rows.callWith_type (n9 h0.star _) ?_))) (λO=>rfl)
 have g:=h0.snd X _ env L s cp E _ p λvs us env s O p=>mz (xp:=xp) hf ht hn h1 hP q hE p
 rw[(kJ y).star (h0.star y aad) ys X.c.ak]at g⊢;exact evalArgs_plain g
end
noncomputable def A0(x:Str) (xp pos:Pos) (sc:Scope):Bool:=xp.line==pos.line&& !(sc.names.any λ(n,k)=>n==x&&(k==.local||k==.cell))
section
variable{Z:b_}{n:Nat}{F:Fm}{b a:PySem.Expr}{ys:List PySem.Expr}{pos xp yp cp px FK:Pos}{i k f:Nat}{x y:Str}{es:dM}{elt it:ME}{ifs:gZ}{cU:List Nat}{sc:Scope}
theorem ou(cs:bS Z n) {X:EC Z n F}{K:Fl->En->T}{env:En}{L:Pn X.c.bk}{s:Shared}{E:Value->Shared->Prop}{Q:Flow->Shared->Prop}(ht:F.top=true) (hl:cL F i x=true) (hy:F.glob y=true) (hf:Z.B.ry.contains (y,f)=true) (hb:(f != Z.B.cf||F.bot)=true) (h:du Z n F k es ys) (hm:∀ m,X.fm m) (p:X.At env L (X.R (tS Z.P (.ft i f es) env K)) s)
  (q:∀ s env,X.At env L (X.R (K .next env)) s->Q .next s) (hE:∀ e env s,X.Fl env L (X.R (K .exc env)) e s->E (.ref e) s):X.wp (exec (.Assign [.Name x xp] (.Call (.Name y yp) ys [] cp) pos) X.c.ak) Q E s :=
 have g:=X.b.ry y f (List.contains_iff_mem.mp hf)
 wpAny_Assign_Name (Call_ (At.d_ p hy g.ns (At.args h g.kp p λvs us env s O p=>wpAny_call (cs F X f vs us _ (K .exc env) env L s X.c.A _ .same (λe=>(aaZ.mp hb).elim (λh=>absurd e (bne_iff_ne.mp h)) X.dE.bot) p
  (λv u s p=>At.store (λO O=>hm _) ht hl p λs p=>q _ _ p) λe s h=>hE e env s h)))) (by rfl)
theorem vQ(cs:bS Z n) (ht:F.top=true) (hx:F.x=true) (hl:cL F i x=true) (hy:F.glob y=true) (hf:Z.B.ry.contains (y,f)=true) (hb:(f != Z.B.cf||F.bot)=true) (h:du Z n F k es ys):cM Z n F (.ft i f es) (.Assign [.Name x xp] (.Call (.Name y yp) ys [] cp) pos) :=
 λX K env L s E Q hm hP p q hE=>ou cs ht hl hy hf hb h hm p (λs env p=>q _ _ (.next p)) λe env s h=>hE hx e env s (.fl h)
theorem rL{X:EC Z n F}{K:Fl->En->T}{env:En}{L:Pn X.c.bk}{s:Shared}{E:Value->Shared->Prop}{Q:Flow->Shared->Prop}(ht:F.top=true) (hl:cL F i x=true) (Pj:A0 x xp pos sc=true) (mw:ni 7 b=true) (vA:bA sc y=true) (mu:fS F.nm cU (freeNames sc.names)=true)
  (ug:((freeNames sc.names).all λz=>F.kd.lookup z==some .cell||F.kd.lookup z==some .free)=true) (pN:decide (y::freeNames sc.names).Nodup=true) (h0:n6 X it b) (h1:ay Z n (.comp sc y) elt a) (h2:fT Z n (.comp sc y) ifs ys)
  (hf:∀ m u,X.fm m->X.fm λz=>if z=x then some u else m z) (p:X.At env L (X.R (tS Z.P (.asg i (.comp elt it ifs cU)) env K)) s) (q:∀ s env,X.At env L (X.R (K .next env)) s->Q .next s):X.wp (exec (.Assign [.Name x xp] (.ListComp a [⟨.Name y px,b,ys,0⟩] sc pos) FK) X.c.ak) Q E s:=by
 have hs:swapsWith (.ListComp a [⟨.Name y px,b,ys,0⟩] sc pos) (some (.Name x xp)) FK.line X.c.ak=pure true:=by
  show(pure (X.c.ak.blockKind==.function&&X.c.ak.kindOf x==some .local&&xp.line==pos.line&& !(sc.names.any λ(n,k)=>n==x&&(k==.local||k==.cell))):Sem Bool)=pure true
  rw[show X.c.ak.blockKind=.function by unfold Env.blockKind;rw[X.ok.ck];rfl,X.dE.lo ht x (aam.mp (ae hl).2),(ae Pj).1,(ae Pj).2];rfl
 rw[exec_Assign_Name_used _ _ _ _ hs];refine aal (wpAny_standAt (aal ?_));show X.wp (do let _ <- comprehension (.ListComp a [⟨.Name y px,b,ys,0⟩] sc pos) sc X.c.ak _ (newList []) false (eval b X.c.ak) (some (PySem.assign (.Name x xp) X.c.ak))) _ E s
 exact aal (wpAny_mono (lB (use:=some (PySem.assign (.Name x xp) X.c.ak)) (Q:=λO s=>Q .next s) mw vA mu ug pN h0 h1 h2 p λD C oC es ep total env s d k p =>
  wpAny_assign_Name (At.store (λO=>hf _ _) ht hl p λs p=>have p:=At.push (v:=.none) (u:=.none) p λO=>rfl;⟨nsFind es,At.ns d k p,λh' hs=>q _ _ (At.drop (At.letGo p hs.extBut))⟩)) (λO s hq=>aaH (aaH hq)) λO O e=>e)
theorem A5(ht:F.top=true) (hl:cL F i x=true) (Pj:A0 x xp pos sc=true) (mw:ni 7 b=true) (vA:bA sc y=true) (mu:fS F.nm cU (freeNames sc.names)=true)
  (ug:((freeNames sc.names).all λz=>F.kd.lookup z==some .cell||F.kd.lookup z==some .free)=true) (pN:decide (y::freeNames sc.names).Nodup=true) (h0:ay Z n F it b) (h1:ay Z n (.comp sc y) elt a) (h2:fT Z n (.comp sc y) ifs ys):cM Z n F (.asg i (.comp elt it ifs cU)) (.Assign [.Name x xp] (.ListComp a [⟨.Name y px,b,ys,0⟩] sc pos) FK) :=
 λX K env L s E Q hf hP p q hE=>rL ht hl Pj mw vA mu ug pN (h0 X) h1 h2 (λO O O=>hf _) p λs env p=>q _ _ (.next p)
end
section
variable{M:Model}{A:Around}{E:Value->Shared->Prop}{s':Shared}{base g n7 h B:Heap}{outer:List Env}{L a e:Addr}{m:Str->Option Value}{name:Str}{scope:Scope}{cd cls a0:Value}{Q:Unit->Shared->Prop}{news:List (Addr×Obj)}{ob:Obj}
theorem jX{g h:Heap}(F:Fr g L h m) (nm:a∉outer.filterMap (·.frame)) {o:Obj}(q:g.get? a=some o):a∉(envOf name scope L e cd::outer).filterMap (·.frame):=λhm=>(kts_mem hm).elim (λz=>by rw[z,kts_self F]at q;exact nn q) nm
theorem qc(K:Below A base outer g) (hx:MadeX h s'.heap e cls ob a0) (F:Fr g L h m) (N:News g L h news)
  (hQ:∀ h' B,gh base g outer e cls news h' B a0->g.UpToSlots h'->Q () { s' with heap:=h' }) (hk:scope.kind=.function) :
  wpAny M (A.deeper (envOf name scope L a cd)) (leaving (envOf name scope L a cd) (.ref e)) Q E s':=by
 have K':=K.push (name:=name) (a:=a) (cd:=cd) F hk;have Ww:∀ env∈(envOf name scope L a cd::outer),∀ b,env.frame=some b->b∈(envOf name scope L a cd::outer).filterMap (·.frame):=λenv he b hb=>List.mem_filterMap.mpr ⟨env,he,hb⟩
 have st:base.StaysIn (hideAll h ((envOf name scope L a cd::outer).filterMap (·.frame))):=λb o q=>hideAll_get _ (K'.stays b o q) λhm=>by
  rw[(K'.frames.mem hm).1]at q;exact nn q
 have hl:∀ q∈news,(hideAll h ((envOf name scope L a cd::outer).filterMap (·.frame))).get? q.1=some q.2/\g.get? q.1=none/\base.get? q.1=none:=λq hq =>
  ⟨hideAll_get _ (N q hq).1 λhm=>(List.mem_filterMap.mp hm).elim λenv he=>(aau.mp he.1).elim (λz=>by rw[z]at he;exact(N q hq).2.1 (aah he.2).symm)
   λz=>(K.frames.mem (List.mem_filterMap.mpr ⟨env,z,he.2⟩)).2.elim λo ho=>by rw[(N q hq).2.2]at ho;exact nn ho.1,(N q hq).2.2,fresh_of_stays K.stays (N q hq).2.2⟩
 have UL:(hideAll h ((envOf name scope L a cd::outer).filterMap (·.frame))).get? e=none:=by
  cases q:(hideAll h ((envOf name scope L a cd::outer).filterMap (·.frame))).get? e with
  |none=>rfl
  |some o=>exact nn (hx.new.symm.trans (of_hideAll _ q))
 refine wpAny_leaving_firstW (a0:=a0) K'.stack ((funFrames_hide K'.frames Ww).of_keeps λb o hb O=>⟨o,hx.keeps b o hb,rfl⟩) rfl hx.get (λb o hb=>hx.keeps b o (of_hideAll _ hb)) UL hx.data rfl rfl λh' hL=>?_
 obtain⟨k1,⟨_,_,k2⟩,k3,k4⟩:=hL;exact hQ h' _ ⟨st,λb o q nm=>hideAll_get _ (F.keep b o q) (jX F nm q),hl,k1,UL,k2,by rw[<- hx.cls];exact k3⟩ (((Heap.UpToSlots.of_keeps F.keep).trans (Heap.UpToSlots.of_keeps hx.keeps)).trans k4)
theorem tg(K:Below A base outer g) (F:Fr g L n7 m) (R:gh base n7 (envOf name scope L a cd::outer) e cls news s'.heap B a0) (p_:n7.UpToSlots s'.heap)
  (hQ:∀ h',gh base g outer e cls news h' B a0->g.UpToSlots h'->Q () { s' with heap:=h' }) :
  wpAny M (A.deeper (envOf name scope L a cd)) (leaving (envOf name scope L a cd) (.ref e)) Q E s' :=
 wpAny_leaves_onW (Around.frames_deeper K.stack) rfl R.fl λh' x1 x2 =>
  hQ h' ⟨R.st,λb o q nm=>R.keep b o (F.keep b o q) (jX F nm q),λq hq=>⟨(R.nw q hq).1,kts_none F.keep (R.nw q hq).2.1,(R.nw q hq).2.2⟩,x1⟩ ((Heap.UpToSlots.of_keeps F.keep).trans (p_.trans x2))
end
section
variable{prog:Program}{w:World}{A₀:Around}{E:Value->Shared->Prop}{s':Shared}{base g G B:Heap}{outer:List Env}{L a e C:Addr}{m:Str->Option Value}{name:Str}{scope:Scope}{cd a0:Value}
 {b₀:Stmt}{suite:List Stmt}{pos np:Pos}{Q:Flow->Shared->Prop}{news:List (Addr×Obj)}{KF:Frag}{p:Program}{loose:List Str}{dS:ExcName->Option Value}{mg mb:Str->Option Value}{x:Str}
theorem FL{M:Model}{A:Around}{ob:Obj}(X:KF.In g) (q:ktsIn KF C "BaseException" = true) (keep:∀ b o,g.get? b=some o->s'.heap.get? b=some o) (cX:s'.heap.get? e=some ob) (hc:ob.cls=.ref C) {Q:Bool->Shared->Prop}(hq:Q true s'):wpAny M A (excMatches (.ref e) (.ref C)) Q E s':=by
 obtain⟨_,_,_,_,_,_,_,_,_,_,_,_,_,_,_,_,_,hC,vR,_⟩:=kts_cls X q;exact wpAny_excMatches_sub_self (keep _ _ hC) cX hc vR hq
theorem th(R:gh base G (envOf name scope L a cd::outer) e (.ref C) news s'.heap B a0) (F:Fr g L G m) (K:Below A₀ base outer g) (p_:G.UpToSlots s'.heap) (XB:KF.In base) (TB:Top p loose dS mg mb base)
  (ex:nsIn KF mainGlobals x=some (some (.ref C))) (q:ktsIn KF C "BaseException" = true)
  (k:∀ h' g',KtsTurn (outer.filterMap (·.frame)) g g'->Fr g' L h' m->News g' L h' news->Below A₀ base outer g'->KF.In g'->Top p loose dS mg mb g' ->
   wpAny (model prog w) ((A₀.deeper (envOf name scope L a cd)).mark (some (.ref e))) (execs (b₀::suite) (envOf name scope L a cd)) Q E { s' with heap:=h' })
  (hk:scope.kind=.function) (hx:(envOf name scope L a cd).kindOf x=some .globalImplicit) (hd:(x==("__debug__" : Str))=false)
  (hE:PassesOwnAt (model prog w) ((A₀.deeper (envOf name scope L a cd)).mark (some (.ref e))) (A₀.deeper (envOf name scope L a cd)) (envOf name scope L a cd) E) :
  wpAny (model prog w) (A₀.deeper (envOf name scope L a cd)) (noteFrame (.ref e) (envOf name scope L a cd))
   (λO AM=>wpAny (model prog w) (A₀.deeper (envOf name scope L a cd)) (setFlight (.ref e) none) (λO AA =>
    wpAny (model prog w) (A₀.deeper (envOf name scope L a cd)) (handleBy (.ref e) (envOf name scope L a cd) [.ExceptHandler (some (.Name x np)) none (b₀::suite) pos]) Q E AA) E AM) E s':=by
 have hL:B.get? L=none:=by
  obtain⟨_,⟨L',_,hf,A7,_⟩,_⟩:=R.fl.2.2.1;exact aah hf▸A7
 refine wpAny_looks_onW (Around.frames_deeper K.stack) rfl R.fl λkM vS FO=>wpAny_landsW vS λWx vT A8=>?_
 have vU:=p_.trans (FO.trans A8);refine cR (kts_ground K F R.keep vT.1 vU) λQv Wy Ls Lu=>?_
 have Lv:KF.In Qv:=XB.keeps Lu.stays;refine az vT.there λob cX Qw=>?_
 refine wpAny_handleBy_cons (codeAny_handlers_test (name_K Ls Lv (topRead_of (TB.keeps Lu.stays)) ex ?_ hk hx hd)) (λq=>nomatch q)
 refine FL Lv q Ls.keep cX Qw (codeAny_handlers_suite (lands_againW vT λQx vV FP=>?_))
 refine cR (kts_ground K F R.keep vV.1 (vU.trans FP)) λQy Lw Qz FQ=>?_
 exact wpAny_passesOwnAt hE (k Qx Qy Lw Qz (λq hq=>⟨vV.1 _ _ (R.nw q hq).1,(λz=>by have:=(R.nw q hq).1;rw[z,hL]at this;exact nn this),Lw.none_ _ (kts_none F.keep (R.nw q hq).2.1)⟩) FQ (XB.keeps FQ.stays) (TB.keeps FQ.stays))
end
inductive UM(c:Cx):Prop where
 |mk {name:Str}{scope:Scope}{a:Addr}{cd:Value}(e:c.ak=envOf name scope c.L a cd) (k:scope.kind=.function) (f:c.kI=c.ak) (A:c.A=c.A₀.deeper c.ak):UM c
section
variable{N:Nm}{c:Cx}{G:Gh}{m:Str->Option Value}{x:Str}{u:Value}{i:Nat}{w:MV}{g:Heap}{env:En}
theorem dG.turn(h:dG c G m x u):dG { c with h₀:=g } G m x u:=h.rec (λa b d=>.loc a b d) (λa n g d s f=>.dW a n g d s f) λa l n g d=>.cell a l n g d
theorem hH.turn(h:hH N c G m env):hH N { c with h₀:=g } G m env:=⟨h.len,λi w x e e'=>(h.mv i w x e e').rec (λr a=>.val r a.turn) λn g f l a=>.bH n g f l a.turn⟩
end
section
variable{Z:b_}{n:Nat}{F:Fm}
noncomputable def EC.turn(X:EC Z n F) (g:Heap) (ok:fB Z n { X.c with h₀:=g }):EC Z n F:={ X with c:={ X.c with h₀:=g },ok:=ok,dE:=⟨X.dE.kd,X.dE.cf,X.dE.nm,X.dE.top,λh=>(X.dE.bot h).rec λo e k=>⟨o,e,k⟩,X.dE.lo⟩ }
noncomputable def EC.JK(X:EC Z n F):EC Z n { F with x:=false }:={ X with dE:=⟨X.dE.kd,X.dE.cf,X.dE.nm,X.dE.top,X.dE.bot,X.dE.lo⟩ }
section
variable{X:EC Z n F}{env:En}{L:Pn X.c.bk}{s:Shared}{R:MH->Prop}{K:Fl->En->T}{f:Flow}
theorem At.JK(p:X.At env L R s):X.JK.At env L R s:=p.rec λx f S l r=>⟨x,f,S,l,r⟩
theorem At.Lx(p:X.JK.At env L R s):X.At env L R s:=p.rec λx f S l r=>⟨x,f,S,l,r⟩
theorem Fw.Lx(w:Fw X.JK L K f s):Fw X L K f s:=w.rec (λa=>.next (At.Lx a)) (λa=>.cont (At.Lx a)) λ{O O v u} a=>.ret (At.Lx (L:=.v Z.N v u L) a)
end
end
def ox(Z:b_) (n:Nat) (F:Fm) (ms:aA) (x:List Stmt):Prop:=∀ (X:EC Z n F) (K:Fl->En->T) (env:En) (L:Pn X.c.bk) (s:Shared) (E:Value->Shared->Prop) (Q:Flow->Shared->Prop),(∀ m,X.fm m)->UM X.c->X.Po E->(∀ hd,PassesOwnAt (model Z.prog Z.w) (X.c.A.mark hd) X.c.A X.c.ak E)->X.At env L (X.R (tSs Z.P ms env K)) s ->
 (∀ g ok f s,KtsTurn (X.c.outer.filterMap (·.frame)) X.c.h₀ g->Fw (X.turn g ok) L K f s->Q f s)->(F.x=true->∀ e env s,X.Ex env L (X.R (K .exc env)) e s->E (.ref e) s)->X.wp (execs x X.c.ak) Q E s
section
variable{Z:b_}{n:Nat}{F:Fm}{a:MS}{as rest:aA}{st:Stmt}{Fx xs:List Stmt}{ys:List PySem.Expr}{xp yp cp pos tp np hp Pl Pm up kp Pp:Pos}{i j k f q' k':Nat}{x y x':Str}{es:dM}{kk:Int}
theorem vW(h1:cM Z n F a st) (h2:ox Z n F as Fx):ox Z n F (.cons a as) (st::Fx):=λX K env L s E Q hf QA hP QB p q hE =>
 wpAny_execs_cons (h1 X _ env L s E _ hf hP p (λf s w=>w.rec (λa=>h2 X K _ L _ E Q hf QA hP QB a q hE) (λa=>q X.c.h₀ X.ok _ _ .refl (.cont a)) λa=>q X.c.h₀ X.ok _ _ .refl (.ret a)) hE)
theorem A9(cs:bS Z n) (ht:F.top=true) (hl:cL F i x=true) (hy:F.glob y=true) (hf:Z.B.ry.contains (y,f)=true) (hb:(f != Z.B.cf||F.bot)=true) (h:du Z n F k es ys) (UN:F.glob "LoadFault" = true) (vF:cL F j x'=true) (g:dv Z n { F with x:=false } rest xs) :
  ox Z n F (.cons (.iN (.cons (.ft i f es) .nil) (.cons (.asg j (.a9 (.cons (.neg (.lit (.int kk))) .nil))) .nil)) rest)
   (.Try [.Assign [.Name x xp] (.Call (.Name y yp) ys [] cp) pos] [.ExceptHandler (some (.Name "LoadFault" np)) none [.Assign [.Name x' Pl] (.Tuple [.UnaryOp .USub (.Constant (.int kk) k' kp) up] q' Pm) Pp] hp] [] [] tp::xs):=λX K env L s E Q hm QA hP QB p q hE=>by
 have go:∀ {g' ok' env s},KtsTurn (X.c.outer.filterMap (·.frame)) X.c.h₀ g'->(X.turn g' ok').At env L ((X.turn g' ok').R (tSs Z.P rest env K)) s->X.wp (execs xs X.c.ak) Q E s:=λ{g' ok' env s} T p=>g (X.turn g' ok').JK K env L s E Q hm hP (At.JK p) (λf s w=>q g' ok' f s T (Fw.Lx w)) λh=>ff h
 refine wpAny_execs_cons (wpAny_Try_except (wpAny_execs_cons (ou cs ht hl hy hf hb h hm p (λs env p=>wpAny_execs_nil (wpAny_execs_nil (go (ok':=X.ok) .refl p))) λe env s h=>?_)))
 cases QA with | @mk name scope a cd vX hk Pq hA =>
 cases h with | @mk G cE n7 B tk h m a0 x1 f sr en fr rx sl l r =>
 rw[Pq,vX]at rx;have key:=th (prog:=Z.prog) (w:=Z.w) (A₀:=X.c.A₀) (s':=X.s cE tk) (x := "LoadFault") (np:=np) (pos:=hp) (b₀:=.Assign [.Name x' Pl] (.Tuple [.UnaryOp .USub (.Constant (.int kk) k' kp) up] q' Pm) Pp) (suite:=[]) (E:=E)
  (Q:=λf eV=>match f with | .next=>X.wp (execs xs X.c.ak) Q E eV | f=>Q f eV) rx fr X.ok.below sl X.b.xb X.b.Ul X.b.lf.ns X.b.Um (λh' g' T F' N' K' X' P'=>?_) hk (by rw[<- vX];exact X.dE.kd _ (aam.mp (ae UN).1)) (bD (ae UN).2).1 (by rw[<- vX,<- hA];exact QB _)
 ·rw[<- vX,<- hA]at key;exact key
 ·rw[<- vX,<- hA];have ok':fB Z n { X.c with h₀:=g' }:={ X.ok with below:=K',X:=X',T:=P' }
  have S:cj Z (X.turn g' ok').c G m env h h':=⟨sr,en.turn,F',N'⟩;refine az (eA r) λv e1 r=>?_
  cases e1;refine wpAny_execs_cons (wpAny_Assign_Name (Tuple_ (spliced_cons (UnaryOp_ (PySem.wpAny_Constant_int (PyProof.Rows.neg_int (spliced_nil (newTuple_N S.fr S.nw (λh2 F2 N2=>?_) (show 1<=sizeLine from by decide)))))))) (by rfl))
  exact At.store (X:=X.turn g' ok') (λO O=>hm _) ht vF (At.tup (X:=X.turn g' ok') x1 f S l r (xs:=[.int (-kk)]) (bM.one ⟨_,rfl⟩) (show 1<=4000 from by decide) F2 N2) λs p=>wpAny_execs_nil (go T p)
end
noncomputable def JL:List (Str×Value)->(Str->Option Value)->Str->Option Value
 |[],m=>m
 |p::r,m=>JL r λy=>if y=p.1 then some p.2 else m y
section
variable{k:Str->Option NameKind}{x:Str}{u:Value}
theorem oy:∀ {ns:List Str}{us:List Value}{m:Str->Option Value},x∉ns->JL (ns.zip us) m x=m x
 |[],_,_,_=>rfl
 |_::_,[],_,_=>rfl
 |_::_,_::_,_,h=>(oy (List.not_mem_of_not_mem_cons h)).trans (aaf (List.ne_of_not_mem_cons h))
theorem jm:∀ {ns:List Str}{us:List Value}{m:Str->Option Value}{i:Nat},ns.Nodup->ns[i]? =some x->us[i]? =some u->JL (ns.zip us) m x=some u
 |[],_,_,_,_,h,_=>nn h
 |_::_,[],_,_,_,_,h=>nn h
 |_::_,_::_,_,0,hn,h1,h2=>by cases h1;cases h2;exact(oy (aaU.mp hn).1).trans (aae rfl)
 |_::ns,_::us,_,_+1,hn,h1,h2=>jm (ns:=ns) (us:=us) (aaU.mp hn).2 h1 h2
theorem Ly(hk:k x=some .local):∀ {l:List (Str×Value)}{m m':Str->Option Value},m x=m' x->bindL k l m x=JL l m' x:=by
 intro r;induction r with
 |nil =>
  intro _ _ h;exact h
 |cons p r ih =>
  intro m m' h;exact ih (by
  by_cases e:x=p.1
  ·rw[aae (e▸hk)];exact(aae e).trans (aae e).symm
  ·refine Eq.trans ?_ (h.trans (aaf e).symm);split
   ·exact aaf e
   ·rfl)
theorem Lz(hk:k x≠some .local):∀ {l:List (Str×Value)}{m m':Str->Option Value},m x=m' x->bindC k l m x=JL l m' x:=by
 intro r;induction r with
 |nil =>
  intro _ _ h;exact h
 |cons p r ih =>
  intro m m' h;exact ih (by
  by_cases e:x=p.1
  ·rw[aaf (e▸hk)];exact(aae e).trans (aae e).symm
  ·refine Eq.trans ?_ (h.trans (aaf e).symm);split
   ·rfl
   ·exact aaf e)
theorem A_:∀ {l:List (Str×Value)}{m:Str->Option Value},(l.reverse.lookup x).or (m x)=JL l m x:=by
 intro r;induction r with
 |nil =>
  intro _;exact rfl
 |cons p r ih =>
  intro m;refine Eq.trans ?_ (ih);rw[List.reverse_cons,List.lookup_append,Option.or_assoc];refine aab (Option.or _) ?_;by_cases e:x=p.1
  ·rw[aae e];clear ih;subst e;show Option.or (List.lookup p.1 [(p.1,p.2)]) _=_;rw[List.lookup_cons_self];rfl
  ·rw[aaf e];show Option.or (List.lookup x [(p.1,p.2)]) _=_;rw[List.lookup_cons,beq_eq_false_iff_ne.mpr e];rfl
end
theorem mB:∀ (names:List (Str×NameKind)) (n:Nat) (acc:List (Str×Addr)),(∀ p∈acc,p.2<n)->(acc.map (·.2)).Nodup->((cellsFrom n names acc).map (·.2)).Nodup/\∀ p∈cellsFrom n names acc,p∈acc∨n<=p.2:=by
 intro r;induction r with
 |nil =>
  intro n acc _ h2;exact⟨h2,λp hp=>.inl hp⟩
 |cons x_ r ih =>
  intro n acc h1 h2;obtain⟨y,k⟩:=x_;unfold cellsFrom;split
  ·obtain⟨a,b⟩:=ih (n+1) ((y,n)::acc) (λp hp=>(aau.mp hp).elim (λe=>e▸aaN _) λhp=>aaw (h1 p hp))
    (aaU.mpr ⟨λhm=>(aaG.mp hm).elim λp hp=>aaR (h1 p hp.1) hp.2,h2⟩)
   exact⟨a,λp hp=>(b p hp).elim (λq=>(aau.mp q).elim (λe=>.inr (e▸aat _)) .inl) λq=>.inr (Nat.le_of_succ_le q)⟩
  ·exact ih n acc h1 h2
theorem jY:∀ (names:List (Str×NameKind)) (n:Nat) (acc:List (Str×Addr)),names.all (·.2 != .cell)=true->cellsFrom n names acc=acc:=by
 intro r;induction r with
 |nil =>
  intro _ _ _;exact rfl
 |cons x_ r ih =>
  intro n acc h;obtain⟨y,k⟩:=x_;unfold cellsFrom;rw[aaf λe=>bne_iff_ne.mp (ae h).1 (aam.mp e)]
  exact ih n acc (ae h).2
theorem ti{q:Str}{sc:Scope}{L a:Addr}{cd:Value}(h:sc.names.all (·.2 != .cell)=true):envOfC q sc L a cd=envOf q sc L a cd:=by
 unfold envOfC envOf;rw[jY _ _ _ h]
theorem kN{cm:Str->Option Value}{cs:List (Str×Addr)}{cells:List (Addr×Obj)}(h:CellsAre cm cs cells):cells.map (·.1)=cs.map (·.2):=h.rec rfl λO O ih=>aab (_::·) ih
theorem mE{cm:Str->Option Value}{x:Str}{q:Addr}{cs:List (Str×Addr)}{cells:List (Addr×Obj)}(h:CellsAre cm cs cells):cs.lookup x=some q->∃ o,(q,o)∈cells/\o.data=.cell (cm x) :=
 h.rec (λe=>nn e) λ{n c o O O} hd O ih e=>by
  rw[List.lookup_cons]at e;cases b:x==n with
  |true=>rw[b]at e;cases e;exact⟨_,aad,aam.mp b▸hd⟩
  |false=>rw[b]at e;exact(ih e).imp λo h=>⟨aac _ h.1,h.2⟩
open Classical in
noncomputable def Gh.cells(G:Gh) (cells:List (Addr×Obj)):Gh:=⟨G.σ,λb=>if b∈cells.map (·.1) then .fy else G.g b,cells++G.news⟩
section
variable{w:World}{N:Nm}{P:Prog}{G:Gh}{h:MH}{T:Ow->Prop}{cs:List (Addr×Obj)}
theorem oz(hd:∀ p∈G.news,p.1∉cs.map (·.1)):Kp T G (G.cells cs):=⟨λO O h=>h,λp hp O=>⟨List.mem_append_right _ hp,aaf (hd p hp)⟩⟩
theorem SR.cells(S:SR w N P G h) (hd:∀ p∈G.news,p.1∉cs.map (·.1)) (hn:(cs.map (·.1)).Nodup) (hl:∀ a∈cs.map (·.1),1<a):SR w N P (G.cells cs) h :=
 have e:(G.cells cs).news.map (·.1)=cs.map (·.1)++G.news.map (·.1):=aaP
 S.grow (oz hd) (e▸List.nodup_append.mpr ⟨hn,S.nodup,λa ha b hb z=>(aaG.mp hb).elim λp hp=>hd p hp.1 (hp.2▸z▸ha)⟩) (λa ha=>(aaM.mp (e▸ha)).elim (hl a) (S.low a)) λO=>rfl
end
theorem lG{N:Nm}{c:Cx}{G:Gh}{m:Str->Option Value}{vs:List V}{us:List Value}{names rest:List Str}(Pr:c.nm=names++rest) (hl:us.length=names.length) (r:bM N G vs us) (hv:∀ (i:Nat) (x:Str) (u:Value),names[i]? =some x->us[i]? =some u->dG c G m x u) (k:Nat) (hk:k=rest.length) :
  hH N c G m (vs.map (λv=>some (.val v))++List.replicate k none) where
 len:=by rw[Pr,aag,aag,aan,List.length_replicate,r.length,hl,hk]
 mv:=λi w x e e'=>by
  have lm:(vs.map λv=>some (MV.val v)).length=names.length:=by rw[aan,r.length,hl]
  by_cases hi:i<names.length
  ·rw[aaJ (lm.symm▸hi),List.getElem?_map]at e;refine az (aas.mp e) λv e1 e2=>?_
   cases e2;refine az (r.get e1) λu hu ru=>?_
   rw[Pr,aaJ hi]at e';exact .val ru (hv i x u e' hu)
  ·rw[aaO (lm.symm▸Nat.le_of_not_lt hi),List.getElem?_replicate]at e;split at e
   ·exact nn (aah e)
   ·exact nn e
def JM(scope:Scope) (names rest:List Str) (x:Bool):Fm:=⟨scope.names,names++rest,true,false,x⟩
def oA(Z:b_) (f:Nat) (fn:Fn) (body:List Stmt) (scope:Scope) (names rest:List Str) (x:Bool):Prop:=∀ C:Prop,(∀ (name qual:Str) (params:Arguments) (dV kV doc pm mF ct oc:Value) (an od:Option Addr) (qd:Array (Option Value)),(Z.K.lookup (Z.N.fA f)=some ⟨oc,od,.func (fnOf name qual params body scope dV kV doc pm an mF ct),qd⟩)->(codeIn Z.K mF qual=true)->(∀ us:List Value,us.length=names.length->bindArgs (fnOf name qual params body scope dV kV doc pm an mF ct) ⟨us,[]⟩=pure (names.zip us))->(fn.np=names.length)->(fn.nl=names.length+rest.length)->((names++rest).Nodup)->(names.all (λy=>scope.names.lookup y==some .local||scope.names.lookup y==some .cell)=true)->(((cellsFrom 0 scope.names []).map (·.1)).Nodup)->(scope.isCoroutine=false)->(scope.isGenerator=false)->(scope.kind=.function)->(x=true->scope.names.all (·.2 != .cell)=true)->C)->C
noncomputable def mG(A:Around) (g:Heap) (L:Addr) (env:Env) (outer:List Env) (k:Nat) (nm:List Str):Cx:={ A:=A.deeper env,A₀:=A,h₀:=g,L:=L,kI:=env,outer:=outer,ak:=env,bk:=k,nm:=nm }
theorem mH{p:Str->Bool}:∀ {ns:List Str}{us:List Value},ns.all p=true->(ns.zip us).all (λy=>p y.1)=true
 |[],_,_=>rfl
 |_::_,[],_=>rfl
 |_::_,_::_,h=>aaC.mpr ⟨(ae h).1,mH (ae h).2⟩
noncomputable def cK(K:V->T) (xt:T):Fl->T
 |.next=>K .none
 |.ret v=>K v
 |.exc=>xt
 |.cont=>.stuck
theorem vY{Z:b_}{n:Nat}{F:Fm}{c:Cx}{a_:Gh}{fm:(Str->Option Value)->Prop}{sh:Shared}{r:Fl×St}{b:Base Z}{ok:fB Z n c}{dE:Ez c F}{K:V->T}{xt:T}{P:Value->Shared->Prop}{f:Flow}{s:Shared}(w:Fw (EC.mk c a_ fm sh r b ok dE) .nil .ret f s) (hc:∀ env h,some (Fl.cont,St.mk env h)≠some r)
  (hq:∀ {fl v u G h hp tk env m},cK K xt fl=K v->VR Z.N G v u->Ext c.bk a_ G->cj Z c G m env h hp->some (fl,St.mk env h)=some r->P u { sh with heap:=hp,toks:=tk }):P (match (generalizing:=false) f with | .ret v=>v | _=>.none) s:=by
 exact w.rec (λa=>a.rec λx O S O r=>hq (fl:=.next) (v:=.none) (u:=.none) rfl rfl x S r) (λa=>a.rec λO O O O r=>absurd r (hc _ _)) λa=>a.rec λx O S l r=>hq rfl l.1 x S r
noncomputable def vZ(fn:Fn) (vs:List V):En:=vs.map (λv=>some (.val v))++List.replicate (fn.nl-fn.np) none
theorem CZ{P:Prog}{n f:Nat}{fn:Fn}{vs:List V}{K:V->T}{xt:T}{h:MH}{r:Fl×St}(hf:P.fn f=some fn) (e:run (aa P (n+1)) (.call f vs K xt) h=some r) :
  vs.length=fn.np/\∃ fl st,run (aa P n) (tSs P fn.body (vZ fn vs) .ret) h=some (fl,st)/\run (aa P (n+1)) (cK K xt fl) st.h=some r:=by
 have e:CC (match P.fn f with | some fn=>dt P (aa P n) fn vs h | none=>none) (λv h=>run (aa P (n+1)) (K v) h) (λh=>run (aa P (n+1)) xt h)=some r:=e
 rw[hf]at e;have e:CC (if vs.length=fn.np then O_ (run (aa P n) (tSs P fn.body (vZ fn vs) .ret) h) else none) (λv h=>run (aa P (n+1)) (K v) h) (λh=>run (aa P (n+1)) xt h)=some r:=e
 by_cases hl:vs.length=fn.np
 ·rw[aae hl]at e;refine⟨hl,?_⟩;cases q:run (aa P n) (tSs P fn.body (vZ fn vs) .ret) h with
  |none=>rw[q]at e;exact nn e
  |some p =>
   rw[q]at e;refine⟨p.1,p.2,rfl,?_⟩;obtain⟨fl,st⟩:=p;clear q;cases fl<;>exact e
 ·rw[aaf hl]at e;exact nn e
section
variable{Z:b_}{n:Nat}{F:Fm}{f:Nat}{fn:Fn}{body:List Stmt}{X:EC Z (n+1) F}{A:Around}{env:En}{L:Pn X.c.bk}{G sW:Gh}{m:Str->Option Value}{h fD:MH}{hp v_:Heap}{tk:Nat}
structure QC(X:EC Z (n+1) F) (A:Around):Prop where
 f:A.frames=some (X.c.kI::X.c.outer)
 h:A.handled=none
 d:A.depth+4*(n+1)<=901
 u:A.units+40*(n+1)+400<=9901
theorem iU{A:Around}{C:Addr}{rest:List Value}:(A.under (.builtin "type.__call__" ⟨.ref C::rest,[]⟩)).frames=A.frames:=by
 obtain⟨a,b,c,d,e⟩:=A;cases c<;>rfl
theorem lH(hA:JE X.c.A A):QC X A:=by
 have h3:=X.ok.depth;have h4:=X.ok.units;cases hA with
 |same=>exact⟨X.ok.frames,X.ok.handled,Nat.le_succ_of_le h3,Nat.le_succ_of_le h4⟩
 |made=>exact⟨iU.trans X.ok.frames,X.ok.handled,by show X.c.A.depth+1+_<=_;exact aaL (P1 h3),by show X.c.A.units+1+_+_<=_;lia⟩
theorem jZ{A:Around}{g:Heap}{L:Addr}{env:Env}{outer:List Env}{k:Nat}{nm:List Str}(hA:A.frames=some outer) (hh:A.handled=none) (hd:A.depth+4*(n+1)<=901) (hu:A.units+40*(n+1)+400<=9901) (B:Below A Z.base outer g) (X:Z.K.In g) (T:Top Z.p Z.loose Z.dS Z.mg Z.mb g)
  (h1:env.frame=some L) (h2:env.scope.kind=.function) (h3:env.globals=mainGlobals) (h4:env.builtins=builtinsNs) (hn:nm.Nodup):fB Z n (mG A g L env outer k nm) where
 below:=B
 X:=X
 T:=T
 frames:=Around.frames_deeper hA
 frame:=h1
 kind:=h2
 handled:=hh
 depth:=by show A.depth+1+_<=_;lia
 units:=by show A.units+3+_+_<=_;lia
 cg:=h3
 ck:=h2
 cb:=h4
 nm:=hn
theorem j0(cO:Ext X.c.bk X.a_ G) (f:X.fm m) (S:cj Z X.c G m env h hp) (l:L.P G) (e:Kp Ow.e0 G sW) (sr:SR Z.w Z.N Z.P sW fD) (Fc:Fr X.c.h₀ X.c.L v_ m) (Nc:News X.c.h₀ X.c.L v_ sW.news) {v:V}{u:Value}(ru:VR Z.N sW v u) {R:MH->Prop}(r:R fD):X.At env (.v Z.N v u L) R (X.s v_ tk) :=
 ⟨cO.trans e.ex,f,⟨sr,S.env.kp (e.weak λO=>Ow.ll),Fc,Nc⟩,⟨ru,L.st _ _ e.ex l⟩,r⟩
theorem lI{F':Fm}{A:Around}{g:Heap}{outer:List Env}{L' a:Addr}{q:Str}{sc:Scope}{cd:Value}{ev:Env}{e:Addr}{k:Nat}{nm:List Str}{a_:Gh}{fm:(Str->Option Value)->Prop}{sh:Shared}{r:Fl×St}{b:Base Z}{ok:fB Z n (mG A g L' ev outer k nm)}{dE:Ez (mG A g L' ev outer k nm) F'}{R:MH->Prop}{s:Shared}{E:Value->Shared->Prop}{Q:Unit->Shared->Prop}
  (he:ev=envOf q sc L' a cd) (hk:sc.kind=.function) (h:(EC.mk (mG A g L' ev outer k nm) a_ fm sh r b ok dE).Ex env .nil R e s) (hQ:∀ {G h' B a0 hM tk},SR Z.w Z.N Z.P G hM->Ext k a_ G->gh Z.base g outer e (.ref Z.lf) G.news h' B a0->g.UpToSlots h'->R hM->Q () { sh with heap:=h',toks:=tk }) :
  wpAny (model Z.prog Z.w) (A.deeper ev) (leaving ev (.ref e)) Q E s:=by
 subst he;exact h.rec (λh=>h.rec λx f sr en fr rx up l r=>tg ok.below fr rx up λh' R u=>hQ sr x R u r) λx f S mx l r=>qc ok.below mx S.fr S.nw (λh' B R u=>hQ S.sr x R u r) hk
end
section
variable{Z:b_}{n:Nat}{F:Fm}{f:Nat}{fn:Fn}{body:List Stmt}{X:EC Z (n+1) F}{A:Around}{env:En}{L:Pn X.c.bk}{s:Shared}{vs:List V}{us:List Value}{K:V->T}{xt:T}{RR:Result->Shared->Prop}{scope:Scope}{names rest:List Str}{xx:Bool}
theorem step_call(R:oA Z f fn body scope names rest xx) (wa:dv Z n (JM scope names rest xx) fn.body body) (C0:Z.P.fn f=some fn) (hA:JE X.c.A A) (p:X.At env (.vs Z.N vs us L) (X.R (.call f vs K xt)) s)
  (q:∀ v u s,X.At env (.v Z.N v u L) (X.R (K v)) s->RR (.ok (.ret u)) s) (qe:∀ e s,X.Fl env L (X.R xt) e s->RR (.error (.ref e)) s):codeAny (model Z.prog Z.w) A (.call (.ref (Z.N.fA f)) ⟨us,[]⟩) RR s:=R _ λname qual params dV kV doc pm mF ct oc an od qd ho pn hb np nl nd pk cn co gen kind ex=>by
 refine p.rec λ{G hp tk h m} cO fm S l r=>?_
 clear p;refine uE (CZ C0 r) λhlen fl st eb r=>?_
 have go:∀ {fl':Fl}{env:En}{h:MH},some (fl',St.mk env h)=some (fl,st)->X.R (cK K xt fl') h:=λz=>by clear eb;cases z;exact r
 have ar:=lH hA;have hd:=ar.d;have LA:us.length=names.length:=by rw[<- l.1.length,hlen,np]
 refine code_defC X.ok.below S.fr X.ok.X S.nw X.ok.T ar.f X.ok.frame X.ok.kind ho pn (by show _<1000;exact nJ hd rfl) (BindsTo.of_eq (hb us LA)) (mH (p:=λy=>scope.names.lookup y==some .local||scope.names.lookup y==some .cell) pk) cn (λg L' dB tk cells FG F' N' Y B' X' T' lt=>?_) co gen kind
 have keys:=kN Y;refine cJ (mB scope.names (L'+1) [] (λp hp=>(nomatch hp)) .nil) λc1 c2=>?_
 have UO:∀ q∈cells.map (·.1),L'+1<=q:=λq hq=>by
  rw[keys]at hq;refine az (aaG.mp hq) λp hp e=>?_
  exact e▸(c2 p hp).elim (λz=>nomatch z) id
 have LB:∀ p∈G.news,p.1∉cells.map (·.1):=λp hp hm=>Nat.lt_asymm (UO _ hm) (lt p hp)
 obtain⟨mc,⟨_,_,_,ho,_⟩,-⟩:=T'.nodigits;have hL:1<L':=aai (Nat.lt_trans (by decide) (Heap.lt_size ho)) F'.above
 refine gJ (iE (G.cells cells)) λk hk=>?_
 have e0:∀ {T:Ow->Prop},Kp T G (G.cells cells):=oz LB;have pN:=(List.nodup_append.mp nd).1;have QD:=jZ (nm:=names++rest) (k:=k) ar.f ar.h ar.d ar.u B' X' T' (env:=envOfC qual scope L' (Z.N.fA f) mF) rfl kind rfl rfl nd;have dE:Ez (mG A g L' (envOfC qual scope L' (Z.N.fA f) mF) (X.c.kI::X.c.outer) k (names++rest)) (JM scope names rest xx):=⟨λx h=>h,λx h=>h,rfl,λO=>rfl,λh=>ff h,λO x h=>h⟩
 refine wa (.mk (mG A g L' (envOfC qual scope L' (Z.N.fA f) mF) (X.c.kI::X.c.outer) k (names++rest)) (G.cells cells) (λO=>True) X.sh (fl,st) X.b QD dE) .ret (vZ fn vs) .nil _ _ _ (λO=>trivial) PassesOwn.leaving
  ⟨.refl,trivial,⟨S.sr.cells LB (keys▸c1) (λa ha=>aai hL (Nat.le_of_succ_le (UO a ha))),lG rfl LA (l.1.aI e0) (λi x u hx hu=>?_) _ (by rw[nl,np,Nat.add_sub_cancel_left]),F',N'⟩,trivial,eb⟩ (λf s w=>?_) λhx e env s h=>?_
 ·rcases aaZ.mp (aa0.mp pk x (List.mem_iff_getElem?.mpr ⟨i,hx⟩)) with z | z
  ·exact .loc (aam.mp z) rfl ((Ly (aam.mp z) rfl).trans (jm pN hx hu))
  ·refine gJ (Option.isSome_iff_exists.mp (cellsFrom_some (x:=x) scope.names (L'+1) [] (.inl (aam.mp z)))) λca UP=>?_
   refine az (mE Y UP) λo h1 h2=>?_
   exact .cell (.inl (aam.mp z)) UP (List.mem_append_left _ h1) (aae (dD h1)) (h2.trans (aab Data.cell ((Lz (λe=>nomatch (aam.mp z).symm.trans (show scope.names.lookup x=some .local from e)) rfl).trans (jm pN hx hu))))
 ·exact vY (P:=LeaveK X.c.h₀ X.c.L m g RR) (K:=K) (xt:=xt) w (λO O e=>nn (go e)) λKS ru x qf e=>leaveK_ qf.fr qf.nw λFc Nc=>q _ _ _ (j0 cO fm S l.2 (e0.trans (x.fresh hk)) qf.sr Fc Nc ru (KS▸go e))
 ·exact lI (ti (ex hx)) kind h λsr x R up r=>qe _ _ (have e:=e0.trans (x.fresh hk);⟨cO.trans e.ex,fm,sr,S.env.kp (e.weak λO=>Ow.ll),FG,R,up,L.st _ _ e.ex l.2,go (fl':=.exc) r⟩)
theorem Ba(R:oA Z f fn body scope names rest xx) (wa:ox Z n (JM scope names rest xx) fn.body body) (kE:scope.names.all (·.2 != .cell)=true) (FT:names.all (λy=>scope.names.lookup y==some .local)=true) (C0:Z.P.fn f=some fn) (hA:JE X.c.A A) (bot:KO X.c) (p:X.At env (.vs Z.N vs us L) (X.R (.call f vs K xt)) s)
  (q:∀ v u s,X.At env (.v Z.N v u L) (X.R (K v)) s->RR (.ok (.ret u)) s) (qe:∀ e s,X.Fl env L (X.R xt) e s->RR (.error (.ref e)) s):codeAny (model Z.prog Z.w) A (.call (.ref (Z.N.fA f)) ⟨us,[]⟩) RR s:=R _ λname qual params dV kV doc pm mF ct oc an od qd ho pn hb np nl nd pk cn co gen kind ex=>by
 refine p.rec λ{G hp tk h m} cO fm S l r=>?_
 clear p;refine uE (CZ C0 r) λhlen fl st eb r=>?_
 have go:∀ {fl':Fl}{env:En}{h:MH},some (fl',St.mk env h)=some (fl,st)->X.R (cK K xt fl') h:=λz=>by clear eb;cases z;exact r
 have ar:=lH hA;have hd:=ar.d;have LA:us.length=names.length:=by rw[<- l.1.length,hlen,np]
 cases bot with | @mk cn cs ca ccd bo Pq QE =>
 have rM:=ar.f;have UQ:=X.ok.below;rw[bo]at rM UQ;rw[Pq]at rM;refine code_defS0 (ccd:=ccd) UQ S.fr X.ok.X S.nw X.ok.T rM ho pn (by show _<1000;exact nJ hd rfl) (BindsTo.of_eq (hb us LA)) (λy hy=>aam.mp (aa0.mp (mH (us:=us) FT) y hy)) (λg L' dB FG F' N' B' X' T' D'=>?_) QE co gen kind (λx hx=>bne_iff_ne.mp (aa0.mp kE x hx))
 refine gJ (iE G) λk hk=>?_
 have QD:=jZ (nm:=names++rest) (k:=k) rM ar.h ar.d ar.u B' X' T' (env:=envOf qual scope L' (Z.N.fA f) mF) rfl kind rfl rfl nd;have dE:Ez (mG A g L' (envOf qual scope L' (Z.N.fA f) mF) [envOf cn cs X.c.L ca ccd] k (names++rest)) (JM scope names rest xx):=⟨λx h=>h,λx h=>h,rfl,λO=>rfl,λh=>ff h,λO x h=>h⟩
 refine wa (.mk (mG A g L' (envOf qual scope L' (Z.N.fA f) mF) [envOf cn cs X.c.L ca ccd] k (names++rest)) G (λO=>True) X.sh (fl,st) X.b QD dE) .ret (vZ fn vs) .nil _ _ _ (λO=>trivial) ⟨rfl,kind,rfl,rfl⟩ PassesOwn.leaving (λhd=>PassesOwnAt.leaving)
  ⟨.refl,trivial,⟨S.sr,lG rfl LA l.1 (λi x u hx hu=>?_) _ (by rw[nl,np,Nat.add_sub_cancel_left]),F',N'⟩,trivial,eb⟩ (λg' ok' f s ct w=>?_) λhx e env s h=>?_
 ·have z:=A_ (x:=x) (l:=names.zip us) (m:=λO=>none)
  rw[Option.or_none]at z;exact .loc (aam.mp (aa0.mp FT x (List.mem_iff_getElem?.mpr ⟨i,hx⟩))) rfl (z.trans (jm (List.nodup_append.mp nd).1 hx hu))
 ·exact vY (P:=LeaveS0 _ X.c.h₀ X.c.L m g RR) (K:=K) (xt:=xt) w (λO O e=>nn (go e)) λKS ru x qf e=>leaveS0_ qf.fr qf.nw ct λFc Nc=>q _ _ _ (j0 cO fm S l.2 (x.fresh hk) qf.sr Fc Nc ru (KS▸go e))
 ·exact lI rfl kind h λsr x R up r=>qe _ _ (have e:=x.fresh hk;⟨cO.trans e.ex,fm,sr,S.env.kp (e.weak λO=>Ow.ll),FG,by rw[Pq,bo];exact R,up,L.st _ _ e.ex l.2,go (fl':=.exc) r⟩)
end
section
open PySem.Builtin.ObjectAttr
section
variable{prog:Program}{w:World}{A:Around}{E:Value->Shared->Prop}{K:Frag}{h:Heap}{g:Array GenState}{d:Drawn}{t:Nat}{os:OsState}{x C:Addr}{cd:ClassData}{mA:Str->Option Value}{name:Str}{v:Value}
theorem wq{M:Model}{α:Type}{p p':Sem α}{Q:α->Shared->Prop}{s:Shared}(e:p=p') (h:wpAny M A p' Q E s):wpAny M A p Q E s:=e▸h
theorem UR{M:Model}{dx:Addr}{tk:Tok}{ns:List Str}{Q:Fin->Shared->Prop}(gN:h.Ns1 dx mA) (hw:Within mA ns) (rK:ns.length+1<=sizeLine)
  (q:∀ h',h'.Ns1 dx (λy=>if y=name then some v else mA y)->Heap.SameBut dx h h'->Q (.done (.ret .none)) ⟨h',g,d,t+1,os⟩):wpAny M A (storeInDict dx (.str name tk) name v) Q E ⟨h,g,d,t,os⟩:=by
 refine aal (aaH (aal (wpAny_nsSet1 gN λh' A7 hs=>?_)))
 refine rh (A7.count (Within.cons name v hw)) λoD esD epD Wz WA WB=>?_
 exact aal (wpAny_lookBehind Wz (by rw[WA];exact pastItsLine_dict (aaj WB (by rw[aaI];exact aaw rK))) (aaH (q h' A7 hs)))
section
variable{uh:Data}{qd:Array (Option Value)}{Q:Option Addr->Shared->Prop}
theorem tj{dx:Addr}(X:K.In h) (hc:clsIn K C=some cd) (eW:cd.hasDict=true) (hx:h.get? x=some ⟨.ref C,some dx,uh,qd⟩) (q:Q (some dx) ⟨h,g,d,t,os⟩):wpAny (model prog w) A (instanceDict x true) Q E ⟨h,g,d,t,os⟩ :=
 aal (wpAny_loadPart hx (aal ((looks_clsIn X hc).here (wpAny_ite_false (by rw[eW];rfl) (aaH q)))))
theorem tm(X:K.In h) (hc:clsIn K C=some cd) (eW:cd.hasDict=true) (hx:h.get? x=some ⟨.ref C,none,uh,qd⟩) (kE:∀ c,uh≠.cls c) (q:Q (some h.objs.size) ⟨(h.push { cls:=.type "dict",data:=.dict #[] }).update x λo=>{ cls:=o.cls,dict:=some h.objs.size,data:=o.data,slots:=o.slots },g,d,t,os⟩):wpAny (model prog w) A (instanceDict x true) Q E ⟨h,g,d,t,os⟩:=by
 refine aal (wpAny_loadPart hx (aal ((looks_clsIn X hc).here (wpAny_ite_false (by rw[eW];rfl) (wpAny_ite_false rfl ?_)))))
 have go:wpAny (model prog w) A (alloc { cls:=.type "dict",data:=.dict #[] } >>= λd=>update x (λo=>{ o with dict:=some d }) >>= λO=>dictMade (.ref C) x d) Q E ⟨h,g,d,t,os⟩:=by
  exact aal (wpAny_alloc' (aal (wpAny_update' (Heap.get?_push_of_some _ hx) (aaH q))))
 clear q;cases uh with
 |cls c=>exact absurd rfl (kE c)
 |_=>exact go
end
def FU(h:Heap) (x C:Addr) (mA:Str->Option Value) (name:Str) (v:Value) (P:Heap->Nat->Prop):Prop:=∀ h' sS,h'.Inst x C (λy=>if y=name then some v else mA y) ->
   (∀ b o,b≠x->(∀ dZ dx,h.get? x=some dZ->dZ.dict=some dx->b≠dx)->h.get? b=some o->h'.get? b=some o) ->
   (∀ dZ,h.get? x=some dZ->∃ hO,h'.get? x=some hO/\hO.cls=dZ.cls/\hO.data=dZ.data) ->
   (∀ dZ dx,h'.get? x=some dZ->dZ.dict=some dx->(∃ hO,h.get? x=some hO/\hO.dict=some dx)∨h.get? dx=none)->P h' sS
theorem LC{o:Obj}{c:Value}{dc:Option Addr}(h1:o.cls=c) (h2:o.dict=dc):o=⟨c,dc,o.data,o.slots⟩:=by cases h1;cases h2;rfl
section
variable{tk:Tok}{b:Bool}{ns:List Str}{uh:Data}{qd:Array (Option Value)}{dx:Addr}{Q:Fin->Shared->Prop}(X:K.In h) (hc:clsIn K C=some cd) (eW:cd.hasDict=true) (hq:FU h x C mA name v λh' sS=>Q (.done (.ret .none)) ⟨h',g,d,sS,os⟩)
include X hc eW hq
theorem FV(hx:h.get? x=some ⟨.ref C,none,uh,qd⟩) (kE:∀ c,uh≠.cls c) (WC:∀ n,mA n=none):wpAny (model prog w) A (storeInOwnDict (.ref x) (.ref C) (.str name tk) name v b) Q E ⟨h,g,d,t,os⟩:=by
 refine aal (aaH (aal (tm X hc eW hx kE ?_)));have C1:=Heap.get?_push_of_some { cls:=.type "dict",data:=.dict #[] } hx;have QF:x≠h.objs.size:=aaR (Heap.lt_size hx);refine UR (mA:=λO=>none) (Heap.Ns1.of_empty ⟨_,#[],_,(Heap.get?_update_ne _ _ _ _ QF.symm).trans (Heap.get?_push_at rfl rfl),rfl,λe he=>absurd he (by simp),λO=>rfl⟩) Within.nil (by rw[sizeLine_eq];decide) λh' A7 hs=>?_
 have JN:h'.get? x=some ⟨.ref C,some h.objs.size,uh,qd⟩:=by
  refine(hs.2 x QF).trans (Heap.get?_update_self _ C1 ?_);have QG:=(Heap.get?_some_iff.mp hx).2;clear hq C1 A7 hs hx kE;cases uh<;>first | rfl | exact QG
 refine hq h' _ ⟨_,JN,rfl,kE,.inr ⟨h.objs.size,rfl,QF.symm,(show mA=λO=>none from funext WC).symm▸A7⟩⟩ (λb ob WD O hb=>(hs.2 b (aaR (Heap.lt_size hb))).trans ((Heap.get?_update_ne _ _ _ _ WD).trans (Heap.get?_push_of_some _ hb))) (λdZ h₀=>aah (hx.symm.trans h₀)▸⟨_,JN,rfl,rfl⟩) λdZ dx h₀ FW=>.inr ?_
 exact aah ((aab Obj.dict (aah (JN.symm.trans h₀))).trans FW)▸Heap.get?_none_of_le (aat _)
theorem FX(hx:h.get? x=some ⟨.ref C,some dx,uh,qd⟩) (kE:∀ c,uh≠.cls c) (nL:dx≠x) (gN:h.Ns1 dx mA) (hw:Within mA ns) (rK:ns.length+1<=sizeLine):wpAny (model prog w) A (storeInOwnDict (.ref x) (.ref C) (.str name tk) name v b) Q E ⟨h,g,d,t,os⟩:=by
 refine aal (aaH (aal (tj X hc eW hx (UR gN hw rK λh' A7 hs=>?_))))
 have JN:=(hs.2 x nL.symm).trans hx;exact hq h' _ ⟨_,JN,rfl,kE,.inr ⟨dx,rfl,nL,A7⟩⟩ (λb ob O WE hb=>(hs.2 b (WE _ dx hx rfl)).trans hb) (λdZ h₀=>⟨dZ,(hs.2 x nL.symm).trans h₀,rfl,rfl⟩) λdZ dx' h₀ QH=>.inl ⟨_,hx,aah (JN.symm.trans h₀)▸QH⟩
theorem QI(I:h.Inst x C mA) (hw:Within mA ns) (rK:ns.length+1<=sizeLine):wpAny (model prog w) A (storeInOwnDict (.ref x) (.ref C) (.str name tk) name v b) Q E ⟨h,g,d,t,os⟩ :=
 I.elim λo k=>k.2.2.2.elim (λa=>FV X hc eW hq (k.1.trans (aab some (LC k.2.1 a.1))) k.2.2.1 a.2) λa=>a.elim λdx a=>FX X hc eW hq (k.1.trans (aab some (LC k.2.1 a.1))) k.2.2.1 a.2.1 a.2.2 hw rK
end
theorem Bb{tk:Tok}{R:Result->Shared->Prop}{ns:List Str}(X:K.In h) (hc:clsIn K C=some cd) (eW:cd.hasDict=true) (wb:∀ self:Value,refuseLoop self "__setattr__" cd.mro=pure ()) (wc:cd.mro.contains (.type "object")=true)
  (ht:takerIn K C name=some none) (I:h.Inst x C mA) (hw:Within mA ns) (rK:ns.length+1<=sizeLine)
  (hq:FU h x C mA name v λh' sS=>R (.ok (.ret .none)) ⟨h',g,d,sS,os⟩) :
  codeAny (model prog w) A (.call (.builtin "object.__setattr__") ⟨[.ref x,.str name tk,v],[]⟩) R ⟨h,g,d,t,os⟩:=by
 have SF:=PySem.F.store_object;have ne:cd.mro.isEmpty=false:=by cases q:cd.mro with | nil=>rw[q]at wc;cases wc | cons _ _=>rfl
 have ty:Looks (model prog w) h (typeOf (.ref x)) (.ref C):=I.elim λo hx=>hx.2.1▸(Looks.ld hx.1).andThen .now
 have sub:Looks (model prog w) h (isInstance (.ref x) (.type "object")) true:=ty.andThen (looks_mroIn X (by unfold mroIn;rw[hc,Option.bind_some,aaf (by rw[ne];decide),wc]))
 refine az (aap.mp ht) λattr ha hr=>?_
 have hm:Looks (model prog w) h (mroOf (.ref C)) cd.mro:=(looks_clsIn X hc).andThen .now;have L3:Looks (model prog w) h (storeTaker? attr) none:=by
  clear ha;cases attr with
  |none=>cases hr;exact .now
  |some a =>
   refine az (aas.mp hr) λb hb e=>?_
   refine(looks_takesIn X hb).andThen ?_;clear hb;cases b
   ·exact .now
   ·cases e
 exact codeAny_call_builtin SF.slot.plain SF.entry (@check_slot (model prog w) _ _ _ "object.__setattr__" "object" "__setattr__" (.ref x) [.str name tk,v] [] _ SF.kind SF.split sub (SF.args (.ref x) (.str name tk) v)
  (wq (osa_eq ..) (aal (wq (refuse_eq ..) (aal (ty.here (aal (hm.here (wq (wb _) (aaH (aal (ty.here (aal ((looks_findIn X ha).here (aal (L3.here (QI X hc eW hq I hw rK)))))))))))))))))
end
end
section
open PySem.Builtin.ObjectAttr
section
variable{prog:Program}{w:World}{A:Around}{E:Value->Shared->Prop}{K:Frag}{h:Heap}{g:Array GenState}{d:Drawn}{t:Nat}{os:OsState}{x C:Addr}{cd:ClassData}{mA:Str->Option Value}{name:Str}{v:Value}
theorem rN{Q:Unit->Shared->Prop}{ns:List Str}(X:K.In h) (hc:clsIn K C=some cd) (eW:cd.hasDict=true) (wb:∀ self:Value,refuseLoop self "__setattr__" cd.mro=pure ()) (wc:cd.mro.contains (.type "object")=true)
  (hs:findIn K (.ref C) "__setattr__" = some (some (.builtin "object.__setattr__"))) (ht:takerIn K C name=some none) (I:h.Inst x C mA) (hw:Within mA ns) (rK:ns.length+1<=sizeLine)
  (hq:FU h x C mA name v λh' sS=>Q () ⟨h',g,d,sS,os⟩) :
  wpAny (model prog w) A (PySem.setAttr (.ref x) name v) Q E ⟨h,g,d,t,os⟩:=by
 refine cT (id I) λo hx pj kE hd=>?_
 have ty:Looks (model prog w) h (typeOf (.ref x)) (.ref C):=pj▸(Looks.ld hx).andThen .now;refine aal (wpAny_mkText (aal (aal (aal (ty _ _ _ _ (λO O e=>e) (looks_findIn X hs _ _ _ _ (λO O e=>e) (wpAny_holding ?_)))))))
 rw[PySem.F.store_object.slot.bind];refine aal (aaH (aal (wpAny_call ?_)));refine Bb X hc eW wb wc ht I hw rK λh' sS I' hk cX FW=>?_
 exact aaH (aaH (hq h' sS I' hk cX FW))
end
section
variable{prog:Program}{w:World}{A:Around}{E:Value->Shared->Prop}{h:Heap}{g:Array GenState}{d:Drawn}{t:Nat}{os:OsState}
variable{nm q:Str}{C N:Addr}{bs bm:List Value}{hdct:Bool}{sn:List Str}{sub:List Value}{ab:Bool}{col:Option Bool}{dd:Option Addr}{k0 k1 k2 k3 k5:Option Value}
noncomputable abbrev cY(C t:Addr):Obj:={ cls:=.ref C,data:=.fields #[.ref t,.none,.none,.none,.bool false,.none] }
theorem FY{M:Model}{Q:Bool->Shared->Prop}(hC:h.get? C=some (excClassObj nm q C N bs bm hdct sn sub ab col dd k0 k1 k2 k3 k5 "Exception.__new__")) (hq:Q true ⟨h,g,d,t,os⟩):wpAny M A (isType (.ref C)) Q E ⟨h,g,d,t,os⟩:=by
 unfold isType
 repeat (first | refine wpAny_loadPart_at hC ?_ | wp_step)
 exact hq
theorem LD{M:Model}{Q:Unit->Shared->Prop}{x1 x2 x5:Sem Unit}{k:Value->Option String->Sem Unit}(hB:bm.contains (.type "Exception")=true) (hC:h.get? C=some (excClassObj nm q C N bs bm hdct sn sub ab col dd k0 k1 k2 k3 k5 "Exception.__new__"))
  (hk:wpAny M A (k (.ref C) (some "Exception.__new__")) Q E ⟨h,g,d,t,os⟩):wpAny M A (if ("__new__" == "__new__")=true then (isType (.ref C) >>= λb=>if (!b)=true then x1 else isSubtype (.ref C) (.type "Exception") >>= λb=>if (!b)=true then x2 else Bind.staticBase (.ref C) >>= λb=>Bind.madeBy b >>= k b) else x5) Q E ⟨h,g,d,t,os⟩:=by
 refine wpAny_ite_true (by decide) (aal (FY hC (wpAny_ite_false (by decide) (aal (wpAny_isSubtype_exc hC ?_)))))
 rw[List.contains_cons,hB,Bool.or_true];refine wpAny_ite_false (by decide) ?_
 exact aal (wpAny_staticBase_exc hC (aal (wpAny_madeBy_exc hC hk)))
theorem LF{M:Model}{Q:Unit->Shared->Prop}{s:Shared}{a:String}{x y:Sem Unit}(h:wpAny M A y Q E s):wpAny M A (if (a != a)=true then x else y) Q E s:=by rw[aaf (by simp)];exact h
theorem we{M:Model}{rest:List Value}{Q:Unit->Shared->Prop}(hq:Q () ⟨h,g,d,t,os⟩):wpAny M A (Bind.checkArgs "Exception.__new__" ⟨.any, "Exception", "Exception",.cls,[⟨"args",.varPos,false⟩,⟨"kwargs",.varKw,false⟩]⟩ ⟨.ref C::rest,[]⟩) Q E ⟨h,g,d,t,os⟩:=by
 have US:=PySem.F.excBase_Exception.noStar
 repeat wp_step
 exact hq
theorem WG:builtinKind "Exception.__new__" = some .builtinFn:=by kernel_rfl
theorem WH:splitId "Exception.__new__" = some ("Exception", "__new__"):=by kernel_rfl
theorem WI:Manifest.signature? "Exception.__new__" = some ⟨.any, "Exception", "Exception",.cls,[⟨"args",.varPos,false⟩,⟨"kwargs",.varKw,false⟩]⟩:=by kernel_rfl
theorem tq{M:Model}{rest:List Value}{Q:Unit->Shared->Prop}(hB:bm.contains (.type "Exception")=true) (hC:h.get? C=some (excClassObj nm q C N bs bm hdct sn sub ab col dd k0 k1 k2 k3 k5 "Exception.__new__"))
  (hq:Q () ⟨h,g,d,t,os⟩):wpAny M A (checkBuiltinCall "Exception.__new__" ⟨.ref C::rest,[]⟩) Q E ⟨h,g,d,t,os⟩:=by
 dsimp only[checkBuiltinCall,WG,WH,WI];exact LD hB hC (LF (we hq))
theorem Bc{R:Result->Shared->Prop}{rest:List Value}(hB:bm.contains (.type "Exception")=true) (hA:bm.contains (.type "AttributeError")=false) (hN:bm.contains (.type "NameError")=false) (hC:h.get? C=some (excClassObj nm q C N bs bm hdct sn sub ab col dd k0 k1 k2 k3 k5 "Exception.__new__"))
  (hq:R (.ok (.ret (.ref (h.objs.size+1)))) ⟨(h.push { cls:=.type "tuple",data:=.seq rest.toArray }).push (cY C h.objs.size),g,d,t,os⟩) (C2:rest.length<=sizeLine) :
  codeAny (model prog w) A (.builtin "Exception.__new__" ⟨.ref C::rest,[]⟩) R ⟨h,g,d,t,os⟩:=by
 have F:=PySem.F.excBase_Exception;have UT:=F.ends;have QJ:(Value.ref C::bm).contains (.type "Exception")=true:=by rw[List.contains_cons,hB,Bool.or_true]
 have WJ:(Value.ref C::bm).contains (.type "AttributeError")=false:=by rw[List.contains_cons,hA];rfl
 have WK:(Value.ref C::bm).contains (.type "NameError")=false:=by rw[List.contains_cons,hN];rfl
 refine codeAny_builtinAt F.entry ?_;unfold Builtin.«BaseException.__new__»;refine PySem.wpAt_bind ?_;show PySem.wpAt _ _ _ (stack >>= _) _ _ _;refine PySem.wpAt_bind (PySem.wpAt_stack λp below=>PySem.wpAt_of_wpAny ?_)
 wp_walk
 refine PySem.wpAt_of_wpAny ?_;rw[F.owner]
 repeat (first | with_reducible refine wpAny_madeHere_exc F.canon hC ?_ | with_reducible refine wpAny_loadPart_at hC ?_ | (with_reducible refine wpAny_isSubtype_exc hC ?_;first | rw[QJ] | rw[WJ] | rw[WK]) | wp_step)
 show R _ _;rw[Heap.size_push];exact hq
theorem wg{K:Frag}{fI:Addr}{rest:List Value}{Q:Value->Shared->Prop}(X:K.In h) (hB:bm.contains (.type "Exception")=true) (hA:bm.contains (.type "AttributeError")=false) (hN:bm.contains (.type "NameError")=false) (hC:h.get? C=some (excClassObj nm q C N bs bm hdct sn sub ab col dd k0 k1 k2 k3 k5 "Exception.__new__"))
  (hi:findIn K (.ref C) "__init__" = some (some (.ref fI))) (hf:typeIn K (.ref fI)=some (.type "function")) (C2:rest.length<=sizeLine)
  (hq:wpAny (model prog w) (A.under (.builtin "type.__call__" ⟨.ref C::rest,[]⟩)) (call (.ref fI) (.ref (h.objs.size+1)::rest)) (λr s'=>r=.none/\Q (.ref (h.objs.size+1)) s') E
   ⟨(h.push { cls:=.type "tuple",data:=.seq rest.toArray }).push (cY C h.objs.size),g,d,t,os⟩) :
  wpAny (model prog w) A (call (.ref C) rest) Q E ⟨h,g,d,t,os⟩:=by
 have F:=PySem.F.excBase_Exception;have f1:=tc_lookup;have f2:=tc_bind (.ref C);have hT:(⟨h,g,d,t,os⟩:Shared).TypeIs (.ref C) "type" := ⟨_,hC,rfl⟩;refine wpAny_call (codeAny_of_tree ?_);show wpAny _ _ (callAny (.ref C) _) _ _ _
 repeat (any_goals (first | assumption | with_reducible refine wpAny_loadPart_at hC ?_ | wp_step))
 refine⟨rfl,?_⟩;refine codeAny_call_builtin_at (Code.quiet_builtin _ (by decide +kernel)) entry_typeCall (wpAny_check_type_call_sub hC ?_)
 repeat (first | with_reducible refine wpAny_loadPart_at hC ?_ | with_reducible refine wpAny_madeBy_exc hC ?_ | wp_step)
 refine codeAny_call_builtin_code (Code.quiet_builtin _ F.quiet) (tq hB hC ?_);refine Bc hB hA hN hC ?_ C2;show wpAny _ _ _ _ _ _;have k:∀ b o,h.get? b=some o->((h.push { cls:=.type "tuple",data:=.seq rest.toArray }).push (cY C h.objs.size)).get? b=some o:=λb o e=>Heap.get?_push_of_some _ (Heap.get?_push_of_some _ e)
 have LG:=k _ _ hC;have wh:K.In ((h.push { cls:=.type "tuple",data:=.seq rest.toArray }).push (cY C h.objs.size)):=X.keeps k;have nV:((h.push { cls:=.type "tuple",data:=.seq rest.toArray }).push (cY C h.objs.size)).get? (h.objs.size+1)=some (cY C h.objs.size):=by heap_get
 have WL:(Value.ref C::bm).contains (.ref C)=true:=by simp
 unfold isInstance
 repeat (first | with_reducible refine wpAny_loadPart_at nV ?_ | wp_step)
 show wpAny _ _ (isSubtype (.ref C) (.ref C)) _ _ _;refine wpAny_isSubtype_exc LG ?_;rw[WL]
 repeat (first | with_reducible refine wpAny_loadPart_at nV ?_ | wp_step)
 show wpAny _ _ (typeLookup (.ref C) _) _ _ _;refine(looks_findIn wh hi).here ?_;refine wpAny_holding (aal ?_);refine(bind_fn wh (.ref (h.objs.size+1)) hf).here ?_;refine aal (wpAny_mono hq (λr s' hr=>?_) λO O x=>x)
 obtain⟨rfl,hQ⟩:=hr
 wp_walk
 exact hQ
theorem qg{M:Model}{env:Env}{s:Shared}{x:Sem Value}{Q:Flow->Shared->Prop}(vR:bm.contains (.type "BaseException")=true) (hh:A.handled=none)
  (h:wpAny M A x (λv eV=>∃ e UU a0 sl,v=.ref e/\eV.heap.get? C=some (excClassObj nm q C N bs bm hdct sn sub ab col dd k0 k1 k2 k3 k5 "Exception.__new__") /\
   eV.heap.get? e=some { cls:=.ref C,dict:=UU,data:=.fields #[a0,.none,.none,.none,.bool false,.none],slots:=sl }/\E (.ref e) eV) E s) :
  wpAny M A (raiseStmt env (some x) none) Q E s:=by
 have QJ:(Value.ref C::bm).contains (.type "BaseException")=true:=by rw[List.contains_cons,vR,Bool.or_true]
 unfold raiseStmt;refine aal (wpAny_mono h (λv eV dB=>?_) λO O x=>x)
 obtain⟨e,UU,a0,sl,rfl,hC,he,hE⟩:=dB;obtain⟨hp,g,d,tk,os⟩:=eV
 repeat (first | with_reducible refine wpAny_loadPart_at he ?_ | with_reducible refine wpAny_loadPart_at hC ?_ | (with_reducible refine wpAny_isSubtype_exc hC ?_;rw[QJ]) | wp_step)
 exact wpAny_raiseNew_none hh hE
end
end
section
open PySem.Builtin.ObjectAttr
noncomputable abbrev iB(a b c:Value):List (Str×Value):=[(("self" : Str),a),(("code" : Str),b),(("at" : Str),c)]
def LH(Z:b_):Prop:=∀ C:Prop,(∀ (nm q:Str) (N:Addr) (bs bm:List Value) (sn:List Str) (sub:List Value) (ab:Bool) (col:Option Bool) (dd:Option Addr) (k0 k1 k2 k3 k5:Option Value) (fI:Addr),(Z.K.lookup Z.lf=some (excClassObj nm q Z.lf N bs bm true sn sub ab col dd k0 k1 k2 k3 k5 "Exception.__new__"))->(bm.contains (.type "Exception")=true)->(bm.contains (.type "AttributeError")=false)->(bm.contains (.type "NameError")=false)->(bm.contains (.type "BaseException")=true)->(∀ self:Value,refuseLoop self "__setattr__" (.ref Z.lf::bm)=pure ())->((Value.ref Z.lf::bm).contains (.type "object")=true)->(findIn Z.K (.ref Z.lf) "__init__" = some (some (.ref fI)))->(typeIn Z.K (.ref fI)=some (.type "function"))->(findIn Z.K (.ref Z.lf) "__setattr__" = some (some (.builtin "object.__setattr__")))->(takerIn Z.K Z.lf "code" = some none)->(takerIn Z.K Z.lf "at" = some none)->(nsIn Z.K mainGlobals ("LoadFault" : Str)=some (some (.ref Z.lf)))->(keepIn Z.K (.ref Z.lf)=true)->∀ (name qual:Str) (params:Arguments) (scope:Scope) (dV kV doc pm mF ct oc:Value) (an od:Option Addr) (qd:Array (Option Value)) (p1 p2 p3 p4 p5 p6 p7 p8:Pos),(Z.K.lookup fI=some ⟨oc,od,.func (fnOf name qual params [.Assign [.Attribute (.Name "self" p1) "code" p2] (.Name "code" p3) p4,.Assign [.Attribute (.Name "self" p5) "at" p6] (.Name "at" p7) p8] scope dV kV doc pm an mF ct),qd⟩)->(codeIn Z.K mF qual=true)->(∀ a b c:Value,bindArgs (fnOf name qual params [.Assign [.Attribute (.Name "self" p1) "code" p2] (.Name "code" p3) p4,.Assign [.Attribute (.Name "self" p5) "at" p6] (.Name "at" p7) p8] scope dV kV doc pm an mF ct) ⟨[a,b,c],[]⟩=pure (iB a b c))->(scope.names.lookup ("self" : Str)=some .local)->(scope.names.lookup ("code" : Str)=some .local)->(scope.names.lookup ("at" : Str)=some .local)->(scope.names.all (·.2 != .cell)=true)->(scope.isCoroutine=false)->(scope.isGenerator=false)->(scope.kind=.function)->C)->C
section
variable{Z:b_}{n:Nat}
theorem fr_but{g h fD:Heap}{L' e:Addr}{ob:Obj}{m:Str->Option Value}(he:fD.get? e=some ob/\e≠L'/\g.get? e=none) (F':Fr g L' fD m) (kk:∀ b o,b≠e->fD.get? b=some o->h.get? b=some o):Fr g L' h m:=by
 refine lX F'.ns λo es ep h1 h2=>?_
 exact⟨⟨o,es,ep,kk _ _ he.2.1.symm h1,h2⟩,λb o q=>kk b o (λz=>nn (he.2.2.symm.trans (z▸q))) (F'.keep b o q),F'.above⟩
theorem tv{nm q:Str}{N:Addr}{bs bm:List Value}{sn:List Str}{sub:List Value}{ab:Bool}{col:Option Bool}{dd:Option Addr}{k0 k1 k2 k3 k5:Option Value}{fI:Addr}{qual:Str}{scope:Scope}{mF:Value}{p1 p2 p3 p4 p5 p6 p7 p8:Pos}(hC:Z.K.lookup Z.lf=some (excClassObj nm q Z.lf N bs bm true sn sub ab col dd k0 k1 k2 k3 k5 "Exception.__new__")) (pass:∀ self:Value,refuseLoop self "__setattr__" (.ref Z.lf::bm)=pure ()) (obj:(Value.ref Z.lf::bm).contains (.type "object")=true) (sa:findIn Z.K (.ref Z.lf) "__setattr__" = some (some (.builtin "object.__setattr__"))) (tc:takerIn Z.K Z.lf "code" = some none) (ta:takerIn Z.K Z.lf "at" = some none) (l1:scope.names.lookup ("self" : Str)=some .local) (l2:scope.names.lookup ("code" : Str)=some .local) (l3:scope.names.lookup ("at" : Str)=some .local) (kind:scope.kind=.function) {A:Around}{L':Addr}{g fD:Heap}{u v:Value}{e t:Addr}{tk:Nat}{gs:Array GenState}{dr:Drawn}{os:OsState}{E:Value->Shared->Prop}{Q:Flow->Shared->Prop}{news:List (Addr×Obj)}(X:Z.K.In g)
  (F':Fr g L' fD (λy=>(iB (.ref e) u v).reverse.lookup y)) (N':News g L' fD ((e,cY Z.lf t)::news))
  (hQ:∀ kM sS dd sl,(∀ b o,b≠e->fD.get? b=some o->kM.get? b=some o)->kM.get? e=some { cls:=.ref Z.lf,dict:=dd,data:=.fields #[.ref t,.none,.none,.none,.bool false,.none],slots:=sl }->Q .next ⟨kM,gs,dr,sS,os⟩) :
  wpAny (model Z.prog Z.w) A (execs [.Assign [.Attribute (.Name "self" p1) "code" p2] (.Name "code" p3) p4,.Assign [.Attribute (.Name "self" p5) "at" p6] (.Name "at" p7) p8] (envOf qual scope L' fI mF)) Q E ⟨fD,gs,dr,tk,os⟩:=by
 have he:=N' (e,cY Z.lf t) (aad);have ld:∀ {h:Heap}{x:Str}{p:Pos}{val:Value}{tk:Nat}{E:Value->Shared->Prop}{Q:Value->Shared->Prop},Fr g L' h (λy=>(iB (.ref e) u v).reverse.lookup y)->scope.names.lookup x=some .local->((iB (.ref e) u v).reverse.lookup x=some val)->(x==("__debug__" : Str))=false->Q val ⟨h,gs,dr,tk,os⟩->wpAny (model Z.prog Z.w) A (eval (.Name x p) (envOf qual scope L' fI mF)) Q E ⟨h,gs,dr,tk,os⟩:=λFF hl hv hd hq =>
  PySem.wpAny_Name (wpAny_loadName_local kind hl FF.ns hv hq) hd
 have pn:clsIn Z.K Z.lf=some { name:=nm,bases:=bs,mro:=.ref Z.lf::bm,ns:=N,qualname:=q,hasDict:=true,slotNames:=sn,subclasses:=sub,abstract:=ab,collection:=col,hasDel:=false }:=by
  unfold clsIn;rw[hC]
 have QK:fD.Inst e Z.lf (λO=>none):=⟨_,he.1,rfl,λc z=>(nomatch z),.inl ⟨rfl,λO=>rfl⟩⟩
 refine wpAny_execs_cons (plainObj_wpAny_Assign_Attribute (ld F' l2 (val:=u) rfl (by decide) (ld F' l1 (val:=.ref e) rfl (by decide) ?_)) (by rfl))
 refine rN (X.keeps F'.keep) pn rfl pass obj sa tc QK Within.nil (by rw[sizeLine_eq];simp) λLl UW QL QM QN QO=>?_
 have C3:∀ b o,b≠e->fD.get? b=some o->Ll.get? b=some o:=λb o hb q=>QM b o hb (λdZ dx z FW=>by rw[he.1]at z;cases z;cases FW) q
 have FZ:=fr_but he F' C3;refine wpAny_execs_cons (plainObj_wpAny_Assign_Attribute (ld FZ l3 (val:=v) rfl (by decide) (ld FZ l1 (val:=.ref e) rfl (by decide) ?_)) (by rfl))
 refine rN (X.keeps FZ.keep) pn rfl pass obj sa ta QL (Within.cons _ _ Within.nil) (by rw[sizeLine_eq];simp) λkM C4 WM QP QQ WN=>?_
 have LI:∀ b o,b≠e->fD.get? b=some o->kM.get? b=some o:=λb o hb q=>QP b o hb (λdZ dx z FW=>by
  rcases QO dZ dx z FW with⟨hO,q1,q2⟩ | q1
  ·rw[he.1]at q1;cases q1;cases q2
  ·intro w;rw[w,q1]at q;cases q) (C3 b o hb q)
 refine cR (QN _ he.1) λoa qa ca da=>?_
 refine cR (QQ _ qa) λob qb cb db=>?_
 obtain⟨oc,od,uh,qd⟩:=ob;simp only at cb db ca da;rw[ca]at cb;rw[da]at db;rw[cb,db]at qb;exact wpAny_execs_nil (hQ kM C4 od qd LI qb)
theorem QR{α:Type}{l:List α}(h:l.length=2):∃ a b,l=[a,b]:=match l with
 |a::l=>match l with
  |b::l=>⟨a,b,aab (a::b::·) (List.eq_nil_of_length_eq_zero (Nat.succ.inj (Nat.succ.inj h)))⟩
  |[]=>nomatch h
 |[]=>nomatch h
theorem wi{F:Fm}(k:LH Z) {es:dM}{np cp pos:Pos}{ys:List PySem.Expr}(hx:F.x=true) (hy:F.glob "LoadFault" = true) (h1:du Z n F 2 es ys):cM Z n F (.raise es) (.Raise (some (.Call (.Name "LoadFault" np) ys [] cp)) none pos):=k _ λnm qn Nn bs bm sn sub ab col dd k0 k1 k2 k3 k5 fI hC b1 b2 b3 b4 pass obj init WO sa tc ta d_ keep name qual params scope dV kV doc pm mF ct oc an od qd p1 p2 p3 p4 p5 p6 p7 p8 ho pn hb l1 l2 l3 nc co gen kind X K env L s E Q hf hP p q hE=>by
 rw[arm_exec_Raise];refine aal (wpAny_standAt (qg (C:=Z.lf) (nm:=nm) (q:=qn) (N:=Nn) (bs:=bs) (bm:=bm) (hdct:=true) (sn:=sn) (sub:=sub) (ab:=ab) (col:=col) (dd:=dd) (k0:=k0) (k1:=k1) (k2:=k2) (k3:=k3) (k5:=k5) b4 X.ok.handled ?_));refine aal (wpAny_mono (Call_ (At.d_ p hy d_ (At.args h1 keep p λvs us env s hl p=>?_))) (λv s' h=>aal (wpAny_standAt (aaH h))) λO O e=>e)
 refine p.rec λ{G hp tk h m} x f S l r=>?_
 clear p;obtain⟨u1,u2,rfl⟩:=QR (l.1.length.symm.trans hl);have wh:=X.ok.zK S.fr;refine wg (h:=hp) wh b1 b2 b3 (wh _ _ hC) init WO (show 2<=sizeLine from by decide) ?_
 have QS:=(S.fr.push { cls:=.type "tuple",data:=.seq [u1,u2].toArray }).push (cY Z.lf hp.objs.size);have LJ:=News.push (S.fr.push { cls:=.type "tuple",data:=.seq [u1,u2].toArray }) (News.push S.fr S.nw { cls:=.type "tuple",data:=.seq [u1,u2].toArray }) (cY Z.lf hp.objs.size);rw[Heap.size_push]at LJ;have hd:=X.ok.depth;refine wpAny_call (code_def X.ok.below QS X.ok.X LJ X.ok.T (iU.trans X.ok.frames) X.ok.frame X.ok.kind ho pn (by show X.c.A.depth+1<1000;exact nI 2 (Nat.le_of_add_right_le hd) rfl) (BindsTo.of_eq (hb _ _ _)) ?_ (λg L' fD FG F' N' B' X' T'=>?_) co gen kind (λx hx=>bne_iff_ne.mp (aa0.mp nc x hx)))
 ·intro y hy;rcases aau.mp hy with rfl | hy
  ·exact l1
  ·rcases aau.mp hy with rfl | hy
   ·exact l2
   ·exact aar.mp hy▸l3
 ·refine tv hC pass obj sa tc ta l1 l2 l3 kind X' F' N' λkM C4 dd sl keep ho=>?_
  have he:=N' (hp.objs.size+1,cY Z.lf hp.objs.size) aad;have ne:∀ p∈G.news,p.1≠hp.objs.size+1:=λp hp z=>by
   have:=Heap.lt_size (S.nw p hp).1;rw[z]at this;exact aaW _ (Nat.lt_of_succ_lt this)
  refine leaveK_ (news':=(hp.objs.size+1,{ cls:=.ref Z.lf,dict:=dd,data:=.fields #[.ref hp.objs.size,.none,.none,.none,.bool false,.none],slots:=sl })::G.news) (fr_but he F' keep) (λp hp=>(aau.mp hp).elim (λz=>z▸⟨ho,he.2.1,he.2.2⟩) λhp=>(N' p (aac _ (aac _ hp))).imp (keep _ _ (ne p hp)) id) λFc Nc=>?_
  have UX:=Nc _ aad;have nh:∀ {b:Addr}{o:Obj},b≠hp.objs.size+1->kM.get? b=some o->(hideAll kM [hp.objs.size+1]).get? b=some o:=λhb q=>hideAll_get _ q λz=>hb (aar.mp z)
  refine⟨rfl,hp.objs.size+1,dd,.ref hp.objs.size,sl,rfl,(X.ok.zK Fc) _ _ hC,ho,hE hx _ env _ (.md x f ⟨S.sr,S.env,?_,λp hp=>(Nc p (aac _ hp)).imp (nh (ne p hp)) id⟩ ⟨λb o q=>of_hideAll _ q,hideAll_none _ aad,ho,rfl,rfl⟩ l.2 r)⟩
  refine lX Fc.ns λo es ep q1 q2=>?_
  exact⟨⟨o,es,ep,nh UX.2.1.symm q1,q2⟩,λb o q=>nh (λz=>by rw[z]at q;exact nn ((show X.c.h₀.get? (hp.objs.size+1)=none from UX.2.2).symm.trans q)) (Fc.keep b o q),Fc.above⟩
end
end
section
structure Sw where
 t:PySem.Expr
 e:PySem.Expr
 b:List Stmt
 c:List Stmt
 v:Bool
 h:List ExceptHandler
def sw:Stmt->Sw
 |.Assign ts v _=>⟨hd ts,v,[],[],true,[]⟩
 |.AugAssign t _ v _=>⟨t,v,[],[],true,[]⟩
 |.Expr v _=>⟨default,v,[],[],true,[]⟩
 |.If t a b _=>⟨default,t,a,b,true,[]⟩
 |.While t a _ _=>⟨default,t,a,[],true,[]⟩
 |.For t i a _ _=>⟨t,i,a,[],true,[]⟩
 |.Return v _=>⟨default,v.getD default,[],[],v.isSome,[]⟩
 |.Raise e _ _=>⟨default,e.getD default,[],[],true,[]⟩
 |.Try b h _ _ _=>⟨default,default,b,[],true,h⟩
 |_=>⟨default,default,[],[],true,[]⟩
noncomputable def pw(xs:List Stmt):Stmt:=xs.head?.getD (.Pass default)
def Be(t:PySem.Expr):PySem.Expr:=.Name (vw t).nm t.pos
noncomputable def F0(f:PySem.Expr) (ys:List PySem.Expr) (a:PySem.Expr):PySem.Expr:=.Call f ys [] a.pos
section
variable(an:Nat->Str)
mutual
noncomputable def gS:MS->Stmt->Stmt
 |.asg _ e,x=>.Assign [Be (sw x).t] (gE an e (sw x).e) x.pos
 |.fw _ es,x=>.Assign [Be (sw x).t] (.List (my an es (vw (sw x).e).ks) (sw x).e.pos) x.pos
 |.ft _ _ es,x=>.Assign [Be (sw x).t] (F0 (Be (ah (sw x).e 0)) (my an es ((vw (sw x).e).ks.drop 1)) (sw x).e) x.pos
 |.bq e k v,x=>.Assign [.Attribute (gE an e (ah (sw x).t 0)) (an k) (sw x).t.pos] (gE an v (sw x).e) x.pos
 |.bp e k es,x=>.Assign [.Attribute (gE an e (ah (sw x).t 0)) (an k) (sw x).t.pos] (.List (my an es (vw (sw x).e).ks) (sw x).e.pos) x.pos
 |.cV e k,x=>.Assign [.Attribute (gE an e (ah (sw x).t 0)) (an k) (sw x).t.pos] (.Dict [] [] (sw x).e.pos) x.pos
 |.dX e i v,x=>.Assign [.Subscript (gE an e (ah (sw x).t 0)) (gE an i (ah (sw x).t 1)) (sw x).t.pos] (gE an v (sw x).e) x.pos
 |.pH _ i v,x=>.Assign [.Subscript (Be (ah (sw x).t 0)) (gE an i (ah (sw x).t 1)) (sw x).t.pos] (gE an v (sw x).e) x.pos
 |.pI _ e,x=>.Assign [.Tuple (vK (vw (sw x).t).ks) (vw (sw x).t).k (sw x).t.pos] (gE an e (sw x).e) x.pos
 |.aug _ op e,x=>.AugAssign (Be (sw x).t) (JC op) (gE an e (sw x).e) x.pos
 |.app e v,x=>.Expr (F0 (.Attribute (gE an e (ah (ah (sw x).e 0) 0)) "append" (ah (sw x).e 0).pos) [gE an v (ah (sw x).e 1)] (sw x).e) x.pos
 |.lZ e,x=>.Expr (F0 (.Attribute (gE an e (ah (ah (sw x).e 0) 0)) "append" (ah (sw x).e 0).pos) [.List [] (ah (sw x).e 1).pos] (sw x).e) x.pos
 |.gL _ v,x=>.Expr (F0 (.Attribute (Be (ah (ah (sw x).e 0) 0)) "append" (ah (sw x).e 0).pos) [gE an v (ah (sw x).e 1)] (sw x).e) x.pos
 |.ext e v,x=>.Expr (F0 (.Attribute (gE an e (ah (ah (sw x).e 0) 0)) "extend" (ah (sw x).e 0).pos) [gE an v (ah (sw x).e 1)] (sw x).e) x.pos
 |.ex e,x=>.Expr (gE an e (sw x).e) x.pos
 |.aT t a b,x=>.If (gT an t (sw x).e) (ui a (sw x).b) (ui b (sw x).c) x.pos
 |.eK t b,x=>.While (gT an t (sw x).e) (ui b (sw x).b) [] x.pos
 |.cI is it b,x=>.For (CY is (sw x).t) (gE an it (sw x).e) (ui b (sw x).b) [] x.pos
 |.forR _ es b,x=>.For (Be (sw x).t) (F0 (.Name "range" (ah (sw x).e 0).pos) (my an es ((vw (sw x).e).ks.drop 1)) (sw x).e) (ui b (sw x).b) [] x.pos
 |.ret e,x=>.Return (cond (sw x).v (some (gE an e (sw x).e)) none) x.pos
 |.raise es,x=>.Raise (some (F0 (.Name "LoadFault" (ah (sw x).e 0).pos) (my an es ((vw (sw x).e).ks.drop 1)) (sw x).e)) none x.pos
 |.iN _ _,x=>x
 |.cont,x=>.Continue x.pos
 |.kX,x=>.Pass x.pos
 |.stuck,x=>x
noncomputable def ui:aA->List Stmt->List Stmt
 |.nil,_=>[]
 |.cons s ss,xs=>gS s (pw xs)::ui ss xs.tail
end
end
noncomputable def Pt(e:ME):Bool:=match e with
 |.comp _ _ _ _=>true
 |_=>false
noncomputable def F3(e:ME):Bool:=match e with
 |.lit v=>(match v with | .none=>true | _=>false)
 |_=>false
def j3(y:PySem.Expr):Bool:=ni 8 y&&ni 9 y&&ni 10 y
section
variable(B:Tb) (an:Nat->Str)
mutual
noncomputable def LK:MS->Fm->Stmt->Bool
 |.asg i e,F,x=>cL F i (vw (sw x).t).nm&&(cond (Pt e) (A0 (vw (sw x).t).nm (sw x).t.pos (sw x).e.pos (vw (sw x).e).sc) (j3 (gE an e (sw x).e))&&dK B an e F (sw x).e)
 |.fw i es,F,x=>cL F i (vw (sw x).t).nm&&(decide (CV es<=1000)&&fU B an es F (vw (sw x).e).ks)
 |.ft i f es,F,x=>(F.x&&cL F i (vw (sw x).t).nm)&&(F.glob (vw (ah (sw x).e 0)).nm&&(B.ry.contains ((vw (ah (sw x).e 0)).nm,f)&&((f != B.cf||F.bot)&&fU B an es F ((vw (sw x).e).ks.drop 1))))
 |.bq e _ v,F,x=>j3 (gE an v (sw x).e)&&(dK B an v F (sw x).e&&dK B an e F (ah (sw x).t 0))
 |.bp e _ es,F,x=>decide (CV es<=1000)&&(fU B an es F (vw (sw x).e).ks&&dK B an e F (ah (sw x).t 0))
 |.cV e _,F,x=>dK B an e F (ah (sw x).t 0)
 |.dX e i v,F,x=>j3 (gE an v (sw x).e)&&(dK B an v F (sw x).e&&(dK B an e F (ah (sw x).t 0)&&dK B an i F (ah (sw x).t 1)))
 |.pH b i v,F,x=>(cL F b (vw (ah (sw x).t 0)).nm&&ba (vw (ah (sw x).t 0)).nm)&&(j3 (gE an v (sw x).e)&&(dK B an v F (sw x).e&&dK B an i F (ah (sw x).t 1)))
 |.pI is e,F,x=>(namesOk F is (vw (sw x).t).ks&&j3 (gE an e (sw x).e))&&(ni 25 (gE an e (sw x).e)&&dK B an e F (sw x).e)
 |.aug i op e,F,x=>(op==.add||op==.sub)&&((cL F i (vw (sw x).t).nm&&ba (vw (sw x).t).nm)&&dK B an e F (sw x).e)
 |.app e v,F,x=>jT e&&((ni 22 (gE an v (ah (sw x).e 1))&&(ah (sw x).e 0).pos.endLine==(sw x).e.pos.line)&&(dK B an e F (ah (ah (sw x).e 0) 0)&&dK B an v F (ah (sw x).e 1)))
 |.lZ e,F,x=>jT e&&((ah (sw x).e 0).pos.endLine==(sw x).e.pos.line&&dK B an e F (ah (ah (sw x).e 0) 0))
 |.gL i v,F,x=>(cL F i (vw (ah (ah (sw x).e 0) 0)).nm&&ba (vw (ah (ah (sw x).e 0) 0)).nm)&&((ni 22 (gE an v (ah (sw x).e 1))&&(ah (sw x).e 0).pos.endLine==(sw x).e.pos.line)&&dK B an v F (ah (sw x).e 1))
 |.ext e v,F,x=>jT e&&((ni 22 (gE an v (ah (sw x).e 1))&&(ah (sw x).e 0).pos.endLine==(sw x).e.pos.line)&&(dK B an e F (ah (ah (sw x).e 0) 0)&&dK B an v F (ah (sw x).e 1)))
 |.ex e,F,x=>j3 (gE an e (sw x).e)&&dK B an e F (sw x).e
 |.aT t a b,F,x=>AE B an t F (sw x).e&&(j4 a F (sw x).b&&j4 b F (sw x).c)
 |.eK t b,F,x=>AE B an t F (sw x).e&&j4 b F (sw x).b
 |.cI is it b,F,x=>(oq F is (sw x).t&&ni 7 (gE an it (sw x).e))&&(dK B an it F (sw x).e&&j4 b F (sw x).b)
 |.forR i es b,F,x=>(cL F i (vw (sw x).t).nm&&(F.glob "range" && more es))&&(fU B an es F ((vw (sw x).e).ks.drop 1)&&j4 b F (sw x).b)
 |.ret e,F,x=>cond (sw x).v (dK B an e F (sw x).e) (F3 e)
 |.raise es,F,x=>(F.x&&F.glob "LoadFault")&&(CV es==2&&fU B an es F ((vw (sw x).e).ks.drop 1))
 |.iN _ _,_,_=>false
 |.cont,_,_=>true
 |.kX,_,_=>true
 |.stuck,_,_=>true
noncomputable def j4:aA->Fm->List Stmt->Bool
 |.nil,_,_=>true
 |.cons s ss,F,xs=>LK s F (pw xs)&&j4 ss F xs.tail
end
end
section
variable{Z:b_}{n:Nat}{F:Fm}
theorem F4{e:ME}(h:Pt e=true):∃ elt it ifs cU,e=.comp elt it ifs cU:=by
 cases e with
 |comp a b c d=>exact⟨a,b,c,d,rfl⟩
 |_=>exact ff h
theorem Bf{e:ME}{pos:Pos}(h:F3 e=true):cM Z n F (.ret e) (.Return none pos):=by
 cases e with
 |lit v=>cases v with
  |none=>exact AJ
  |_=>exact ff h
 |_=>exact ff h
theorem F6(cs:bS Z n) (ht:F.top=true) {i:Nat}{e:ME}{t a:PySem.Expr}{pos:Pos}(h:(cL F i (vw t).nm&&(cond (Pt e) (A0 (vw t).nm t.pos a.pos (vw a).sc) (j3 (gE Z.N.an e a))&&dK Z.B Z.N.an e F a))=true):cM Z n F (.asg i e) (.Assign [Be t] (gE Z.N.an e a) pos):=by
 refine cJ (ae h) λhl h=>?_
 refine cJ (ae h) λhc h=>?_
 cases q:Pt e with
 |false=>rw[q]at hc;exact Fy ht hc hl (bg cs e F a h)
 |true =>
  rw[q]at hc;obtain⟨elt,it,ifs,cU,rfl⟩:=F4 q;have h1:=ae (ae h).1;have h2:=ae (ae h).2;have h3:=ae h1.2;have h4:=ae h3.2;exact A5 ht hl hc h1.1 h3.1 h4.1 (ae h4.2).1 (ae h4.2).2 (bg cs it F _ h2.1) (bg cs elt _ _ (ae h2.2).1) (lE cs ifs _ _ (ae h2.2).2).2
theorem Bg(ht:F.top=true) {i k:Nat}{x:Str}{xp yp cp pos:Pos}{es:dM}{b:aA}{ys:List PySem.Expr}{body:List Stmt}(hn:cL F i x=true) (hy:F.glob "range" = true) (hm:ys≠[]) (h0:du Z n F k es ys) (h1:dv Z n F b body):cM Z n F (.forR i es b) (.For (.Name x xp) (.Call (.Name "range" yp) ys [] cp) body [] pos):=by
 cases ys with
 |nil=>exact absurd rfl hm
 |cons y ys=>exact AZ ht hn hy h0 h1
theorem Bh{an:Nat->Str}{es:dM}{as:List PySem.Expr}(h:more es=true):my an es as≠[]:=by
 cases es with
 |nil=>exact ff h
 |cons=>exact λe=>nomatch e
section
variable(cs:bS Z n) (k:LH Z)
include cs k
mutual
theorem LL:∀ (ms:MS) (F:Fm) (x:Stmt),F.top=true->LK Z.B Z.N.an ms F x=true->cM Z n F ms (gS Z.N.an ms x)
 |.asg i e,F,x,ht,h=>F6 cs ht h
 |.fw i es,F,x,ht,h=>AG ht (ae h).1 (ae (ae h).2).1 (dQ cs es F _ (ae (ae h).2).2).s
 |.ft i f es,F,x,ht,h=>have h1:=ae (ae h).1;have h2:=ae (ae h).2;have h3:=ae h2.2;have h4:=ae h3.2;vQ cs ht h1.1 h1.2 h2.1 h3.1 h4.1 (dQ cs es F _ h4.2).s
 |.bq e j v,F,x,ht,h=>AH (ae h).1 (bg cs v F _ (ae (ae h).2).1) (bg cs e F _ (ae (ae h).2).2)
 |.bp e j es,F,x,ht,h=>vG (ae h).1 (dQ cs es F _ (ae (ae h).2).1).s (bg cs e F _ (ae (ae h).2).2)
 |.cV e j,F,x,ht,h=>vH (bg cs e F _ h)
 |.dX e i v,F,x,ht,h=>have h2:=ae (ae h).2;AI (ae h).1 (bg cs v F _ h2.1) (bg cs e F _ (ae h2.2).1) (bg cs i F _ (ae h2.2).2)
 |.pH b i v,F,x,ht,h=>have h1:=ae (ae h).1;have h2:=ae (ae h).2;AQ ht h1.1 h1.2 h2.1 (bg cs v F _ (ae h2.2).1) (bg cs i F _ (ae h2.2).2)
 |.pI is e,F,x,ht,h=>FH ht (ae (ae h).1).1 (ae (ae h).1).2 (ae (ae h).2).1 (bg cs e F _ (ae (ae h).2).2)
 |.aug i op e,F,x,ht,h=>have h2:=ae (ae h).2;FE ht (ae h).1 (ae h2.1).1 (ae h2.1).2 (bg cs e F _ h2.2)
 |.app e v,F,x,ht,h=>have h2:=ae (ae h).2;FA (lC (ae h).1) (ae h2.1).1 (ae h2.1).2 (bg cs e F _ (ae h2.2).1) (bg cs v F _ (ae h2.2).2)
 |.lZ e,F,x,ht,h=>AN (lC (ae h).1) (ae (ae h).2).1 (bg cs e F _ (ae (ae h).2).2)
 |.gL i v,F,x,ht,h=>have h1:=ae (ae h).1;have h2:=ae (ae h).2;AO ht h1.1 h1.2 (ae h2.1).1 (ae h2.1).2 (bg cs v F _ h2.2)
 |.ext e v,F,x,ht,h=>have h2:=ae (ae h).2;FC (lC (ae h).1) (ae h2.1).1 (ae h2.1).2 (bg cs e F _ (ae h2.2).1) (bg cs v F _ (ae h2.2).2)
 |.ex e,F,x,ht,h=>Lp (ae h).1 (bg cs e F _ (ae h).2)
 |.aT t a b,F,x,ht,h=>Lo (om cs t F _ (ae h).1) (hV a F _ ht (ae (ae h).2).1) (hV b F _ ht (ae (ae h).2).2)
 |.eK t b,F,x,ht,h=>vM (om cs t F _ (ae h).1) (hV b F _ ht (ae h).2)
 |.cI is it b,F,x,ht,h=>FJ ht (ae (ae h).1).1 (ae (ae h).1).2 (bg cs it F _ (ae (ae h).2).1) (hV b F _ ht (ae (ae h).2).2)
 |.forR i es b,F,x,ht,h=>have h1:=ae (ae h).1;Bg ht h1.1 (ae h1.2).1 (Bh (ae h1.2).2) (dQ cs es F _ (ae (ae h).2).1).s (hV b F _ ht (ae (ae h).2).2)
 |.ret e,F,x,ht,h=>(show ∀ b,cond b (dK Z.B Z.N.an e F (sw x).e) (F3 e)=true->cM Z n F (.ret e) (.Return (cond b (some (gE Z.N.an e (sw x).e)) none) x.pos) from λb=>match b with
  |true=>λh=>Fz (bg cs e F _ h)
  |false=>λh=>Bf h) _ h
 |.raise es,F,x,ht,h=>wi k (ae (ae h).1).1 (ae (ae h).1).2 (aam.mp (ae (ae h).2).1▸(dQ cs es F _ (ae (ae h).2).2).s)
 |.iN a b,F,x,ht,h=>ff h
 |.cont,F,x,ht,h=>AK
 |.kX,F,x,ht,h=>AL
 |.stuck,F,x,ht,h=>λX K env L s E Q hf hP p q hE=>p.rec λO O O O r=>nn r
theorem hV:∀ (ms:aA) (F:Fm) (xs:List Stmt),F.top=true->j4 Z.B Z.N.an ms F xs=true->dv Z n F ms (ui Z.N.an ms xs)
 |.nil,F,xs,ht,h=>AF
 |.cons s ss,F,xs,ht,h=>vE (LL s F _ ht (ae h).1) (hV ss F _ ht (ae h).2)
end
end
end
end
class inductive BodyOk (B:Tb) (an:Nat->Str) (F:Fm):aA->List Stmt->Prop where
 |cons {s:MS}{ss:aA}{x:Stmt}{xs:List Stmt}(h:LK B an s F x=true) (t:BodyOk B an F ss xs):BodyOk B an F (.cons s ss) (gS an s x::xs)
 |QT {i f j k' q:Nat}{k:Int}{es:dM}{ss:aA}{xs:List Stmt}{ys:List PySem.Expr}{x y x':Str}{xp yp cp pos np Pl kp up Pm Pp hp tp:Pos}(h1:cL F i x=true) (h2:F.glob y=true) (h3:B.ry.contains (y,f)=true) (h4:(f != B.cf||F.bot)=true) (h5:fU B an es F ys=true) (h6:F.glob "LoadFault" = true) (h7:cL F j x'=true) (h8:j4 B an ss { F with x:=false } xs=true) :
  BodyOk B an F (.cons (.iN (.cons (.ft i f es) .nil) (.cons (.asg j (.a9 (.cons (.neg (.lit (.int k))) .nil))) .nil)) ss)
   (.Try [.Assign [.Name x xp] (.Call (.Name y yp) (my an es ys) [] cp) pos] [.ExceptHandler (some (.Name "LoadFault" np)) none [.Assign [.Name x' Pl] (.Tuple [.UnaryOp .USub (.Constant (.int k) k' kp) up] q Pm) Pp] hp] [] [] tp::ui an ss xs)
section
variable{Z:b_}{n:Nat}{F:Fm}
theorem BodyOk.snd(cs:bS Z n) (k:LH Z) (ht:F.top=true) {ms:aA}{xs:List Stmt}(h:BodyOk Z.B Z.N.an F ms xs):ox Z n F ms xs :=
 h.rec (λh O ih=>vW (LL cs k _ F _ ht h) ih) λh1 h2 h3 h4 h5 h6 h7 h8=>A9 cs ht h1 h2 h3 h4 (dQ cs _ F _ h5).s h6 h7 (hV cs k _ _ _ ht h8)
def LM(Z:b_) (f:Nat) (fn:Fn):Prop:=∀ C:Prop,(∀ body scope names rest x,oA Z f fn body scope names rest x->j4 Z.B Z.N.an fn.body (JM scope names rest x) body=true->ui Z.N.an fn.body body=body->C)->C
def LN(Z:b_) (f:Nat) (fn:Fn):Prop:=∀ C:Prop,(∀ body scope names rest x,oA Z f fn body scope names rest x->BodyOk Z.B Z.N.an (JM scope names rest x) fn.body body->scope.names.all (·.2 != .cell)=true->names.all (λy=>scope.names.lookup y==some .local)=true->C)->C
def wj(Z:b_):Prop:=∀ f fn,Z.P.fn f=some fn->(f≠Z.B.cf->LM Z f fn)/\(f=Z.B.cf->LN Z f fn)
theorem Bi(k:LH Z) (rec:wj Z):∀ n,bS Z n:=by
 intro n;induction n with
 |zero =>
  exact λF X f vs us K xt env L s A RR hA ug p q qe=>p.rec λO O O O r=>nn r
 |succ n ih =>
  refine λF X f vs us K xt env L s A RR hA ug p q qe=>?_
  have cs:=ih;cases C0:Z.P.fn f with
  |none =>
   refine p.rec λO O O O r=>?_
   have r:CC (match Z.P.fn f with | some fn=>dt Z.P (aa Z.P n) fn vs _ | none=>none) _ _=_:=r
   rw[C0]at r;exact nn r
  |some fn =>
   refine cJ (rec f fn C0) λr1 r2=>?_
   by_cases hf:f=Z.B.cf
   ·exact r2 hf _ λbody sc ns rs xx R h1 h2 h3=>Ba R (h1.snd cs k rfl) h2 h3 C0 hA (ug hf) p q qe
   ·exact r1 hf _ λbody sc ns rs xx R h1 h2=>step_call R (by have g:=hV cs k fn.body _ body rfl h1;rw[h2]at g;exact g) C0 hA p q qe
end
end Mine.Internal
namespace Mine.Internal
open PySem (Str)
noncomputable abbrev T.G(t:T) (h:MH):Option V:=match t with | .get f _=>f h | _=>none
noncomputable abbrev T.Q(t:T) (h:MH):Option Bool:=match t with | .tst f _=>f h | _=>none
noncomputable abbrev T.A(t:T) (h:MH):Option (V×MH):=match t with | .act f _=>f h | _=>none
noncomputable abbrev T.C(c:Nat->List V->MH->Option aB) (t:T) (h:MH):Option aB:=match t with | .call f vs _ _=>c f vs h | _=>none
abbrev T.L(c:Nat->List V->MH->Option aB) (t:T) (h:MH):Option (Fl×St):=match t with
 |.loop f chk xs E _=>forL (λx st=>run c (f x st.env) st.h) chk xs ⟨E,h⟩
 |.whl t b E _=>bY (λst=>sI (run c (t st.env) st.h)) (λst=>run c (b st.env) st.h) 64 ⟨E,h⟩
 |_=>none
abbrev T.M(c:Nat->List V->MH->Option aB) (t:T) (h:MH):Option (List V×MH):=match t with
 |.comp f chk xs _=>bO (λx h=>zq (run c (f x) h)) chk xs h
 |_=>none
noncomputable abbrev T.n(t:T) (v:V):T:=match t with | .get _ k=>k v | .act _ k=>k v | .call _ _ k _=>k v | .comp _ _ _ k=>k v | _=>.stuck
noncomputable abbrev T.q(t:T) (v:Bool):T:=match t with | .tst _ k=>k v | _=>.stuck
noncomputable abbrev T.x(t:T):T:=match t with | .call _ _ _ x=>x | _=>.stuck
noncomputable abbrev T.l(t:T) (fl:Fl) (E:En):T:=match t with | .loop _ _ _ _ k=>k fl E | .whl _ _ _ k=>k fl E | _=>.stuck
noncomputable abbrev rt(fl:Fl) (E:En):T:=.ret fl E
@[irreducible] def rn (c:Nat->List V->MH->Option aB) (t:T) (h:MH):Option (Fl×St):=run c t h
theorem dw{c:Nat->List V->MH->Option aB}{t:T}{h:MH}:rn c t h=run c t h:=by unfold rn;rfl
section
variable{q:Bool}{dB h:MH}{fl:Fl}{P:Prog}{H H₁:MH}{c:Nat->List V->MH->Option aB}{s:MS}{ss A:aA}{r:Option (Fl×St)}{v x:V}{E fE:En}{t:T}{R:Option (Fl×St)}{vs xs:List V}{st st₁:St}
theorem sg(p:t.G h=some v) (e:rn c (t.n v) h=r):rn c t h=r:=by
 rw[dw]at e⊢;cases t<;>first | (cases p;done) | skip;exact(aab (Option.bind · _) p).trans e
theorem sq_(p:t.Q h=some q) (e:rn c (t.q q) h=r):rn c t h=r:=by
 rw[dw]at e⊢;cases t<;>first | (cases p;done) | skip;exact(aab (Option.bind · _) p).trans e
theorem sa(p:t.A h=some (v,dB)) (e:rn c (t.n v) dB=r):rn c t h=r:=by
 rw[dw]at e⊢;cases t<;>first | (cases p;done) | skip;exact(aab (Option.bind · _) p).trans e
theorem sc(p:t.C c h=some (.ret v dB)) (e:rn c (t.n v) dB=r):rn c t h=r:=by
 rw[dw]at e⊢;cases t<;>first | (cases p;done) | skip;exact(aab (CC · _ _) p).trans e
theorem sx(p:t.C c h=some (.exc dB)) (e:rn c t.x dB=r):rn c t h=r:=by
 rw[dw]at e⊢;cases t<;>first | (cases p;done) | skip;exact(aab (CC · _ _) p).trans e
theorem sl(p:t.L c h=some (fl,⟨fE,dB⟩)) (e:rn c (t.l fl fE) dB=r):rn c t h=r:=by
 rw[dw]at e⊢;cases t<;>first | (cases p;done) | skip
 ·exact(aab (Option.bind · _) p).trans e
 ·exact(aab (Option.bind · _) p).trans e
theorem sm(p:t.M c h=some (vs,dB)) (e:rn c (t.n (.lst vs)) dB=r):rn c t h=r:=by
 rw[dw]at e⊢;cases t<;>first | (cases p;done) | skip;exact(aab (Option.bind · _) p).trans e
theorem wS(e:rn c (tS P s E rt) H=R):bG P c s ⟨E,H⟩=R:=dw.symm.trans e
theorem wSs(e:rn c (tSs P ss E rt) H=R):aw P c ss ⟨E,H⟩=R:=dw.symm.trans e
theorem sR(e:t=.ret fl E):rn c t h=some (fl,⟨E,h⟩):=e▸dw
theorem sRr{fl:Fl}{E:En}:rn c (.ret fl E) h=some (fl,⟨E,h⟩):=dw
theorem wT{t:MT}{q:Bool}(e:rn c (tT P t E λq E=>.ret (.ret (.bool q)) E) H=some (.ret (.bool q),⟨fE,H₁⟩)):nS P c t ⟨E,H⟩=some (q,⟨fE,H₁⟩):=aab sI (dw.symm.trans e)
theorem wk{t:St->Option (Bool×St)}{f:St->Option (Fl×St)}{n:Nat}{oB:St}(e:t st=some (true,st₁)) (e2:f st₁=some (.next,oB)) (e3:bY t f n oB=R):bY t f (n+1) st=R:=(aab (Option.bind · _) e).trans ((aab (Option.bind · _) e2).trans e3)
theorem QU{t:St->Option (Bool×St)}{f:St->Option (Fl×St)}{n:Nat}{oB:St}{y:V}(e:t st=some (true,st₁)) (e2:f st₁=some (.ret y,oB)):bY t f (n+1) st=some (.ret y,oB):=(aab (Option.bind · _) e).trans (aab (Option.bind · _) e2)
theorem Bj{t:St->Option (Bool×St)}{f:St->Option (Fl×St)}{n:Nat}(e:t st=some (false,st₁)):bY t f (n+1) st=some (.next,st₁):=aab (Option.bind · _) e
def LO(P:Prog) (c:Nat->List V->MH->Option aB) (ss:aA):Fl->St->Option (Fl×St)
 |.next,st=>aw P c ss st
 |fl,st=>some (fl,st)
theorem oE{J:Fl->En->T}:∀ v E,(rt v E).bind J=J v E:=λO O=>rfl
theorem LP{K:Fl->En->T}(e:bG P c s ⟨E,H⟩=some (fl,⟨fE,H₁⟩)):run c (tS P s E K) H=run c (K fl fE) H₁:=by
 rw[<- Ky s (J:=K) (K:=rt) oE,run_bind];exact aab (Option.bind · _) e
theorem LQ{K:Fl->En->T}(e:aw P c ss ⟨E,H⟩=some (fl,⟨fE,H₁⟩)):run c (tSs P ss E K) H=run c (K fl fE) H₁:=by
 rw[<- kZ ss (J:=K) (K:=rt) oE,run_bind];exact aab (Option.bind · _) e
theorem aO(h1:bG P c s ⟨E,H⟩=some (fl,⟨fE,H₁⟩)) (h2:LO P c ss fl ⟨fE,H₁⟩=R):aw P c (.cons s ss) ⟨E,H⟩=R:=by
 refine(LP h1).trans ?_;clear h1;cases fl<;>exact h2
theorem LR:aw P c .nil st=some (.next,st):=rfl
theorem k_go(h2:aw P c ss st=R):LO P c ss .next st=R:=h2
theorem qh{o:Option (Fl×St)}(h1:bG P c s st=some (fl,st₁)) (h2:some (fl,st₁)=o):bG P c s st=o:=h1.trans h2
abbrev bE(P:Prog) (c:Nat->List V->MH->Option aB) (is:List Nat) (b:aA) (x:V) (st:St):Option (Fl×St):=run c (zJ (bindAll is x st.env) λE=>tSs P b E rt) st.h
abbrev aL(o:V) (xs:List V) (h:MH):Bool:=same h o xs
abbrev tw(P:Prog) (c:Nat->List V->MH->Option aB) (i:Nat) (b:aA) (x:V) (st:St):Option (Fl×St):=run c (tSs P b (setEnv st.env i (.val x)) rt) st.h
theorem bz{is:List Nat}(h1:bindAll is x E=some fE) (h2:aw P c A ⟨fE,H⟩=R):bE P c is A x ⟨E,H⟩=R:=by unfold bE;rw[show bindAll is x (St.mk E H).env=some fE from h1];exact h2
theorem tx{n:Nat}(h2:aw P c A ⟨setEnv E n (.val x),H⟩=R):tw P c n A x ⟨E,H⟩=R:=h2
theorem bu{f:V->St->Option (Fl×St)}{chk:MH->Bool}(hc:chk H=true) (h1:f x ⟨E,H⟩=some (.next,st₁)) (h2:forL f chk xs st₁=R):forL f chk (x::xs) ⟨E,H⟩=R:=(aae hc).trans ((aab (Option.bind · _) h1).trans h2)
theorem k_fe{f:V->St->Option (Fl×St)}{chk:MH->Bool}(hc:chk H=true):forL f chk [] ⟨E,H⟩=some (.next,⟨E,H⟩):=aae hc
theorem kO{f:V->St->Option (Fl×St)}{chk:MH->Bool}{y:V}(hc:chk H=true) (h1:f x ⟨E,H⟩=some (.ret y,st₁)):forL f chk (x::xs) ⟨E,H⟩=some (.ret y,st₁):=(aae hc).trans (aab (Option.bind · _) h1)
theorem QV{f:V->St->Option (Fl×St)}{chk:MH->Bool}(hc:chk H=true) (h1:f x ⟨E,H⟩=some (.exc,st₁)):forL f chk (x::xs) ⟨E,H⟩=some (.exc,st₁):=(aae hc).trans (aab (Option.bind · _) h1)
theorem wm{b:aA}{np nl:Nat}(h0:vs.length=np) (h1:aw P c b ⟨vs.map (λv=>some (.val v))++List.replicate (nl-np) none,h⟩=some (.ret x,⟨fE,dB⟩)):dt P c ⟨np,nl,b⟩ vs h=some (.ret x dB):=by
 unfold dt;rw[aae h0,h1];rfl
theorem gO{b:aA}{np nl:Nat}(h0:vs.length=np) (h1:aw P c b ⟨vs.map (λv=>some (.val v))++List.replicate (nl-np) none,h⟩=some (.next,⟨fE,dB⟩)):dt P c ⟨np,nl,b⟩ vs h=some (.ret .none dB):=by
 unfold dt;rw[aae h0,h1];rfl
abbrev iV(P:Prog) (c:Nat->List V->MH->Option aB) (elt:ME) (ifs:gZ) (cs:List (Option MV)) (x:V) (h:MH):Option (Option V×MH):=zq (run c (sH P true ifs (some (.val x)::cs) λq E=>pick q (tE P elt E λv E=>.ret (.ret v) E) (.ret .next E)) h)
theorem wC{elt:ME}{ifs:gZ}{cs:List (Option MV)}(e:rn c (sH P true ifs (some (.val x)::cs) λq E=>pick q (tE P elt E λv E=>.ret (.ret v) E) (.ret .next E)) H=some (.ret v,⟨E,H₁⟩)):iV P c elt ifs cs x H=some (some v,H₁):=aab zq (dw.symm.trans e)
theorem wCn{elt:ME}{ifs:gZ}{cs:List (Option MV)}(e:rn c (sH P true ifs (some (.val x)::cs) λq E=>pick q (tE P elt E λv E=>.ret (.ret v) E) (.ret .next E)) H=some (.next,⟨E,H₁⟩)):iV P c elt ifs cs x H=some (none,H₁):=aab zq (dw.symm.trans e)
theorem F7{f:V->MH->Option (Option V×MH)}{chk:MH->Bool}(hc:chk H=true):bO f chk [] H=some ([],H):=aae hc
theorem Bk{f:V->MH->Option (Option V×MH)}{chk:MH->Bool}{vs:List V}{wo:MH}(hc:chk H=true) (e:f x H=some (some v,H₁)) (e2:bO f chk xs H₁=some (vs,wo)):bO f chk (x::xs) H=some (v::vs,wo):=(aae hc).trans ((aab (Option.bind · _) e).trans (aab (Option.map _) e2))
theorem QW{f:V->MH->Option (Option V×MH)}{chk:MH->Bool}{vs:List V}{wo:MH}(hc:chk H=true) (e:f x H=some (none,H₁)) (e2:bO f chk xs H₁=some (vs,wo)):bO f chk (x::xs) H=some (vs,wo):=(aae hc).trans ((aab (Option.bind · _) e).trans (aab (Option.map _) e2))
variable{m a:Ad}{g n f:Nat}{fs:List (Nat×V)}{j:Int}{y o:V}{es:List (V×V)}{ys:List V}
theorem ga(h1:h.get m=some (.inst g fs)) (h2:br n fs=some x):getAttr h (.ref m) n=some x:=(aab (jE n) h1).trans h2
theorem gm(h1:h.get m=some (.inst g fs)) (h2:P.bU g n=some f):(eM P h (.ref m) n).map V.tab=some (.tab f):=(aab (λo=>(jD P n o).map V.tab) h1).trans (aab (Option.map V.tab) h2)
theorem gl(h1:h.get m=some (.list xs)) (h2:dm xs j=some x):getItem P h (.ref m) (.int j)=some x:=(aab (rl (.int j)) h1).trans h2
theorem gdi(h1:h.get m=some (.dict es)) (h2:eL y=true) (h3:aF y es=some (some x)):getItem P h (.ref m) y=some x:=(aab (rl y) h1).trans ((aae h2).trans (aab Option.join h3))
theorem gLs(h2:dm xs j=some x):getItem P h (.lst xs) (.int j)=some x:=h2
theorem gTu(h2:dm xs j=some x):getItem P h (.tup xs) (.int j)=some x:=h2
theorem WQ(h1:h.get m=some (.list xs)):bW h (.ref m)=some xs:=aab l8 h1
theorem gsT(h1:h.get m=some (.list xs)):(bW h (.ref m)).map V.tup=some (.tup xs):=aab (λo=>(l8 o).map V.tup) h1
theorem WS(h1:h.get m=some (.list xs)):lenOf h (.ref m)=some xs.length:=aab (λo=>(l8 o).map List.length) h1
theorem glI(h1:h.get m=some (.list xs)):((lenOf h (.ref m)).map λn:Nat=>V.int n)=some (.int xs.length):=aab (Option.map λn:Nat=>V.int n) (WS h1)
theorem glL:((lenOf h (.lst xs)).map λn:Nat=>V.int n)=some (.int xs.length):=rfl
theorem glT:((lenOf h (.tup xs)).map λn:Nat=>V.int n)=some (.int xs.length):=rfl
theorem gau{op:Op}{i:Int}(h1:binop op (.int i) (.int j)=some x):pJ op (.int i) (.int j)=some x:=h1
theorem gil(h1:h.get m=some (.list xs)):(if Cw h (.ref m)=true then some V.none else none)=some .none:=aae (aab Eh h1)
theorem gid(h1:h.get m=some (.dict es)):(if Cy h (.ref m)=true then some V.none else none)=some .none:=aae (aab Ei h1)
theorem gdN(h1:h.get m=some (.dict es)) (h2:eL x=true) (h3:aF x es=some none):kY P h (.ref m) x y=some y:=(aab (O9 x y) h1).trans ((aae h2).trans (aab (Option.map λr=>Option.getD r y) h3))
theorem gdS(h1:h.get m=some (.dict es)) (h2:eL x=true) (h3:aF x es=some (some v)):kY P h (.ref m) x y=some v:=(aab (O9 x y) h1).trans ((aae h2).trans (aab (Option.map λr=>Option.getD r y) h3))
theorem kgne{b:Ad}{r:Option aP}{a:Ad}{h:MH}{o:aP}(e:b≠a) (e2:h.get b=r):(h.set a o).get b=r:=(aaf e).trans e2
theorem kgnd{a b:Ad}{o:aP}{r:Option aP}(e:decide (b=a)=false) (e2:h.get b=r):(h.set a o).get b=r:=kgne (of_decide_eq_false e) e2
theorem gaD{b:Ad}{o:aP}{r:Option V}(e:decide (m=b)=false) (e2:getAttr h (.ref m) n=r):getAttr (h.set b o) (.ref m) n=r:=(aab (jE n) (aaf (of_decide_eq_false e))).trans e2
theorem gmD{b:Ad}{o:aP}{r:Option V}(e:decide (m=b)=false) (e2:(eM P h (.ref m) n).map V.tab=r):(eM P (h.set b o) (.ref m) n).map V.tab=r:=(aab (λo=>(jD P n o).map V.tab) (aaf (of_decide_eq_false e))).trans e2
theorem fldk{a b:Ad}{k j:Nat}(e:k≠j):Ad.fld a k≠.fld b j:=λq=>e (Ad.fld.inj q).2
theorem kgeq{a:Ad}{o:aP}:(h.set a o).get a=some o:=aae rfl
theorem j5{o:Option MH}(e:o=some H):o.map hv=some (.none,H):=aab (Option.map hv) e
theorem qi{f:Ad->aP->Option MH}{o:aP}{r:Option MH}(h1:h.get m=some o) (h2:f m o=r):gB h (.ref m) f=r:=(aab (Option.bind · (f m)) h1).trans h2
theorem WT(h1:h.get m=some (.inst g fs)) (h2:P.fld g n=true) (h3:Nat.blt fs.length 500=true):setAttr P h (.ref m) n x=some (h.set m (.inst g (dY n x fs))):=by show gB _ _ _=_;exact qi h1 (aae ⟨h2,aaz h3⟩)
theorem gstA(h1:h.get m=some (.inst g fs)) (h2:P.fld g n=true) (h3:Nat.blt fs.length 500=true):(setAttr P h (.ref m) n x).map hv=some (.none,h.set m (.inst g (dY n x fs))):=j5 (WT h1 h2 h3)
theorem gFL(h3:h.get m=some (.inst g fs)) (h4:(br n fs).isNone=true) (h5:P.fld g n=true) (h6:Nat.blt fs.length 500=true) (h7:Nat.ble vs.length 1000=true):(nQ P h (.ref m) n vs).map hv=some (.none,(h.set (.fld m n) (.list vs)).set m (.inst g (dY n (.ref (.fld m n)) fs))) :=
 j5 (by show gB _ _ _=_;exact qi h3 (aae ⟨Option.isNone_iff_eq_none.mp h4,h5,aaz h6,aaz h7⟩))
theorem gFD(h3:h.get m=some (.inst g fs)) (h4:(br n fs).isNone=true) (h5:P.fld g n=true) (h6:Nat.blt fs.length 500=true):(nR P h (.ref m) n).map hv=some (.none,(h.set (.fld m n) (.dict [])).set m (.inst g (dY n (.ref (.fld m n)) fs))) :=
 j5 (by show gB _ _ _=_;exact qi h3 (aae ⟨Option.isNone_iff_eq_none.mp h4,h5,aaz h6⟩))
theorem gap(h3:h.get m=some (.list xs)) (h4:xs.length<1000):(appendAt h (.ref m) x).map hv=some (.none,h.set m (.list (xs++[x]))):=j5 (by show gB _ _ _=_;exact qi h3 (aae h4))
theorem gaF(h3:h.get m=some (.list xs)) (h4:xs.length<1000):(ma h (.ref m)).map hv=some (.none,(h.set m (.list (xs++[.ref (.item m xs.length)]))).set (.item m xs.length) (.list [])):=j5 (by show gB _ _ _=_;exact qi h3 (aae h4))
theorem gIL{j:Nat}(h4:h.get m=some (.list xs)) (h5:j<xs.length):(setItem h (.ref m) (.int j) x).map hv=some (.none,h.set m (.list (xs.set j x))):=j5 (by show gB _ _ _=_;exact qi h4 (aae ⟨aaQ j,Int.ofNat_lt.mpr h5⟩))
theorem gID{k:Option V}(h4:h.get m=some (.dict es)) (h5:es.length<1000) (h6:eL y=true) (h7:aF y es=some k):(setItem h (.ref m) y x).map hv=some (.none,h.set m (.dict (cz y x es))):=j5 (by show gB _ _ _=_;exact qi h4 ((aae ⟨h5,h6⟩).trans (aab (Option.map λO=>h.set m (.dict (cz y x es))) h7)))
theorem gba(h4:xs.length<1000):(if xs.length<1000 then some (V.lst (xs++[x])) else none)=some (.lst (xs++[x])):=aae h4
theorem bI{k:Nat}:dm xs k=xs[k]? :=(aae (aaQ k)).trans rfl
theorem Bl{a b:Int}:O7 (.int a) (.int b)=some (decide (a=b)):=by
 show(if True/\True then some (a==b) else none)=_
 rw[aae ⟨trivial,trivial⟩];rfl
end
abbrev vv(v:V):Option MV:=some (.val v)
abbrev vi(n:Int):=vv (.int n)
abbrev vr(a:Ad):=vv (.ref a)
end Mine.Internal
namespace Mine.Internal
open PySem (Str)
noncomputable def aX(h:MH):MH:=({ h with aq:=h.aq+1 }:MH).set (.aq h.aq) (.dict [])
section
variable{P:Prog}{h:MH}{a b:Int}{q:Bool}{s t:Str}
theorem UY:a8 P h .eq (.int a) (.int b)=some (decide (a=b)):=Bl
theorem ceqT(e:a=b):a8 P h .eq (.int a) (.int b)=some true:=UY.trans (aab some (aaq e))
theorem ceqF(e:¬ a=b):a8 P h .eq (.int a) (.int b)=some false:=UY.trans (aab some (aaA e))
theorem cneT(e:¬ a=b):a8 P h .ne (.int a) (.int b)=some true:=aab (Option.map (!·)) (ceqF (P:=P) (h:=h) e)
theorem cneF(e:a=b):a8 P h .ne (.int a) (.int b)=some false:=aab (Option.map (!·)) (ceqT (P:=P) (h:=h) e)
theorem csT(e:s=t):a8 P h .eq (.str s) (.str t)=some true:=aab some (aaq e)
theorem csF(e:¬ s=t):a8 P h .eq (.str s) (.str t)=some false:=aab some (aaA e)
theorem cnsT(e:¬ s=t):a8 P h .ne (.str s) (.str t)=some true:=aab (Option.map (!·)) (csF (P:=P) (h:=h) e)
theorem cnsF(e:s=t):a8 P h .ne (.str s) (.str t)=some false:=aab (Option.map (!·)) (csT (P:=P) (h:=h) e)
theorem cltT(e:a<b):a8 P h .lt (.int a) (.int b)=some true:=aab some (aaq e)
theorem cltF(e:¬ a<b):a8 P h .lt (.int a) (.int b)=some false:=aab some (aaA e)
theorem cleF(e:¬ a<=b):a8 P h .le (.int a) (.int b)=some false:=aab some (aaA e)
theorem cgtT(e:b<a):a8 P h .gt (.int a) (.int b)=some true:=aab some (aaq e)
theorem cgtF(e:¬ b<a):a8 P h .gt (.int a) (.int b)=some false:=aab some (aaA e)
theorem cgeF(e:¬ b<=a):a8 P h .ge (.int a) (.int b)=some false:=aab some (aaA e)
variable{x:V}{r:Ad}{es:List (V×V)}{g:Option V}{ys:List V}
theorem kmD(e:h.get r=some (.dict es)) (e2:eL x=true) (e3:aF x es=some g):a8 P h .mem x (.ref r)=some g.isSome:=(aab (zF x) e).trans ((aae e2).trans (aab (Option.map (·.isSome)) e3))
theorem knD(e:h.get r=some (.dict es)) (e2:eL x=true) (e3:aF x es=some g):a8 P h .gK x (.ref r)=some (!g.isSome):=aab (Option.map (!·)) (kmD (P:=P) e e2 e3)
theorem kmR(e:h.get r=some (.list ys)) (e2:iy x ys=some q):a8 P h .mem x (.ref r)=some q:=(aab (zF x) e).trans e2
theorem knR(e:h.get r=some (.list ys)) (e2:iy x ys=some q):a8 P h .gK x (.ref r)=some (!q):=aab (Option.map (!·)) (kmR (P:=P) e e2)
theorem knL(e2:iy x ys=some q):a8 P h .gK x (.lst ys)=some (!q):=aab (Option.map (!·)) e2
theorem knU(e2:iy x ys=some q):a8 P h .gK x (.tup ys)=some (!q):=aab (Option.map (!·)) e2
theorem gdc:((Ej h []).map λh'=>(V.ref (.aq h.aq),h'))=some (.ref (.aq h.aq),aX h):=by
 show some (V.ref (.aq h.aq),_)=_;congr 2;show MH.mk _ _ _=MH.mk _ _ _;congr 1;funext b;show(if _ then _ else (if _ then _ else _))=if _ then _ else _
 split<;>rfl
theorem gnw{g k:Nat}(hk:h.cnt g=k):some (V.ref (.inst g (h.cnt g)),h.new g)=some (V.ref (.inst g k),h.new g):=by rw[hk]
end
theorem fld_en{a:Ad}{k:Nat}:Ad.fld a k≠a:=Ad.fld_ne.symm
theorem rfS{α:Type}{a:α}:some a=some a:=rfl
theorem rfT:some true=some true:=rfl
theorem rfF:some false=some false:=rfl
set_option compiler.extract_closed false in
open Lean in
def w_n(k:Name) (xs:List Syntax):Syntax:=.node .none k xs.toArray
set_option compiler.extract_closed false in
open Lean in
def w_p(k a:String) (xs:List Syntax):Syntax:=w_n (.str `Lean.Parser.Tactic k) (.atom .none a::xs)
set_option compiler.extract_closed false in
open Lean in
def w_s(xs:List Syntax):Syntax:=w_n `Lean.Parser.Tactic.tacticSeq [w_n `Lean.Parser.Tactic.tacticSeq1Indented [w_n `null xs]]
set_option compiler.extract_closed false in
set_option bootstrap.genMatcherCode true in
open Lean in
def w_tok(t:String):Syntax :=
 let s:=(t.drop 1).toString
 let c:=t.front
 let h:=w_n `Lean.Parser.Term.hole [.atom .none "_"]
 let g (n:Name) (k:Nat) (x:List Syntax):Syntax:=w_n `Lean.Parser.Term.app [mkCIdent n,w_n `null (List.replicate k h++x)]
 let m:=if s == "rfl" then `rfl else `Mine.Internal++s.toName
 let x:=if c=='.' then
   let u:=match s.splitOn "," with
    |[f,i,k,j]=>g (`Mine.Internal++f.toName) i.toNat! [g (`Mine.Internal++k.toName) j.toNat! [],h]
    |_=>g `Mine.Internal.rn 1 [g `Mine.Internal.tSs 2 [(List.replicate s.toNat! h).foldl (fun x h=>g `List.cons 1 [x]) (mkCIdent `List.nil),h],h]
   w_p "refine" "refine" [w_n `Lean.Parser.Term.typeAscription [w_n `Lean.Parser.Term.hygienicLParen [.atom .none "(",w_n `hygieneInfo [mkIdent .anonymous]],w_n `Lean.Parser.Term.syntheticHole [.atom .none "?",.atom .none "_"],.atom .none ":",w_n `null [g `Eq 0 [u,h]],.atom .none ")"]]
  else if c=='>'||c=='/' then w_p "apply" "apply" [mkCIdent m]
  else if c=='<'||c=='^' then w_p "exact" "exact" [mkCIdent m]
  else if c=='*'||c=='&' then w_p "assumption" "assumption" []
  else if c=='#' then w_p "apply" "apply" [g m 0 [mkCIdent `rfl,mkCIdent `rfl]]
  else if c=='~' then w_p "exact" "exact" [w_n `Lean.Parser.Term.nofun [.atom .none "nofun"]]
  else if c=='!' then w_p "decide" "decide" [w_n `Lean.Parser.Tactic.optConfig [w_n `null []]]
  else if c=='k' then w_n `tacticKernel_rfl [.atom .none "kernel_rfl"]
  else w_n `PyProof.Rows.tacticWalk_at_ [.atom .none "walk_at",Syntax.mkStrLit t]
 if c=='/'||c=='^'||c=='*' then w_p "withReducible" "with_reducible" [w_s [x]] else x
end Mine.Internal
namespace Mine.Internal
open PySem (Str)
namespace Q
noncomputable abbrev E1(a:ME):dM:=.cons a .nil
noncomputable abbrev E2(a b:ME):dM:=.cons a (.cons b .nil)
noncomputable abbrev E3(a b c:ME):dM:=.cons a (.cons b (.cons c .nil))
noncomputable abbrev E4(a b c d:ME):dM:=.cons a (.cons b (.cons c (.cons d .nil)))
noncomputable abbrev E5(a b c d e:ME):dM:=.cons a (.cons b (.cons c (.cons d (.cons e .nil))))
noncomputable abbrev E6(a b c d e f:ME):dM:=.cons a (.cons b (.cons c (.cons d (.cons e (.cons f .nil)))))
noncomputable abbrev E7(a b c d e f g:ME):dM:=.cons a (.cons b (.cons c (.cons d (.cons e (.cons f (.cons g .nil))))))
noncomputable abbrev S1(a:MS):aA:=.cons a .nil
noncomputable abbrev S2(a b:MS):aA:=.cons a (.cons b .nil)
noncomputable abbrev S3(a b c:MS):aA:=.cons a (.cons b (.cons c .nil))
noncomputable abbrev S4(a b c d:MS):aA:=.cons a (.cons b (.cons c (.cons d .nil)))
noncomputable abbrev S5(a b c d e:MS):aA:=.cons a (.cons b (.cons c (.cons d (.cons e .nil))))
noncomputable abbrev S6(a b c d e f:MS):aA:=.cons a (.cons b (.cons c (.cons d (.cons e (.cons f .nil)))))
noncomputable abbrev S7(a b c d e f g:MS):aA:=.cons a (.cons b (.cons c (.cons d (.cons e (.cons f (.cons g .nil))))))
noncomputable abbrev T1(a:MT):gZ:=.cons a .nil
noncomputable abbrev T2(a b:MT):gZ:=.cons a (.cons b .nil)
noncomputable abbrev T3(a b c:MT):gZ:=.cons a (.cons b (.cons c .nil))
noncomputable abbrev T4(a b c d:MT):gZ:=.cons a (.cons b (.cons c (.cons d .nil)))
noncomputable abbrev T5(a b c d e:MT):gZ:=.cons a (.cons b (.cons c (.cons d (.cons e .nil))))
noncomputable abbrev v0:ME:=.var 0
noncomputable abbrev v1:ME:=.var 1
noncomputable abbrev v2:ME:=.var 2
noncomputable abbrev v3:ME:=.var 3
noncomputable abbrev v4:ME:=.var 4
noncomputable abbrev v5:ME:=.var 5
noncomputable abbrev v6:ME:=.var 6
noncomputable abbrev v7:ME:=.var 7
noncomputable abbrev v8:ME:=.var 8
noncomputable abbrev v9:ME:=.var 9
noncomputable abbrev v10:ME:=.var 10
noncomputable abbrev v11:ME:=.var 11
noncomputable abbrev v12:ME:=.var 12
noncomputable abbrev v13:ME:=.var 13
noncomputable abbrev v14:ME:=.var 14
noncomputable abbrev v15:ME:=.var 15
noncomputable abbrev kP:ME:=.var 16
noncomputable abbrev lJ:ME:=.var 17
noncomputable abbrev i0:ME:=.lit (.int 0)
noncomputable abbrev i1:ME:=.lit (.int 1)
noncomputable abbrev i2:ME:=.lit (.int 2)
noncomputable abbrev i3:ME:=.lit (.int 3)
noncomputable abbrev i4:ME:=.lit (.int 4)
noncomputable abbrev i5:ME:=.lit (.int 5)
noncomputable abbrev i6:ME:=.lit (.int 6)
noncomputable abbrev i7:ME:=.lit (.int 7)
noncomputable abbrev i8:ME:=.lit (.int 8)
noncomputable abbrev UZ:ME:=.lit (.int 13)
noncomputable abbrev U0:ME:=.lit (.int 14)
noncomputable abbrev zt:ME:=.lit (.int 21)
noncomputable abbrev JO:ME:=.lit (.int 29)
noncomputable abbrev U4:ME:=.lit (.int 36)
noncomputable abbrev WU:ME:=.lit (.int 60)
noncomputable abbrev WV:ME:=.lit (.int 84)
noncomputable abbrev WW:ME:=.lit (.int 97)
noncomputable abbrev wt:ME:=.lit (.int 1000003)
noncomputable abbrev g0:ME:=.d_ (.int 0)
noncomputable abbrev g1:ME:=.d_ (.int 1)
noncomputable abbrev g2:ME:=.d_ (.int 2)
noncomputable abbrev g3:ME:=.d_ (.int 3)
noncomputable abbrev g4:ME:=.d_ (.int 4)
noncomputable abbrev g5:ME:=.d_ (.int 5)
noncomputable abbrev g6:ME:=.d_ (.int 6)
noncomputable abbrev g7:ME:=.d_ (.int 7)
noncomputable abbrev g8:ME:=.d_ (.int 8)
noncomputable abbrev g9:ME:=.d_ (.int 9)
noncomputable abbrev Pu:ME:=.d_ (.int 10)
noncomputable abbrev QX:ME:=.d_ (.int 11)
noncomputable abbrev Pw:ME:=.d_ (.int 12)
noncomputable abbrev F8:ME:=.d_ (.int 13)
noncomputable abbrev WY:ME:=.d_ (.int 14)
noncomputable abbrev Px:ME:=.d_ (.int 16)
noncomputable abbrev WZ:ME:=.d_ (.int 24)
noncomputable abbrev QY:ME:=.d_ (.int 128)
noncomputable abbrev LU:ME:=.d_ (.int 4096)
noncomputable abbrev s(x:String):ME:=.lit (.str (Str.ofString x))
end Q
section
open Q
def QZ:aA:=S6 (.asg 2 (.a9 (E2 g1 v1))) (.app (.attr v0 0) v2) (.dX (.attr v0 1) v2 v1) (.app (.attr v0 2) i1) (.app (.attr v0 3) i1) (.app (.attr v0 4) i0)
def m0:aA:=S6 (.bp v0 0 .nil) (.cV v0 1) (.bp v0 2 .nil) (.bp v0 3 .nil) (.bp v0 4 .nil) (.forR 1 (E1 Px) QZ)
def f0:Fn:=⟨1,3,m0⟩
def m1:aA:=S2 (.aT (.eZ (T2 (.cmp .lt v1 i0) (.cmp .ge v1 (.len (.attr v0 0))))) (S1 .stuck) .nil) (.ret (.item (.attr v0 0) v1))
def f1:Fn:=⟨2,2,m1⟩
def LV:aA:=S3 (.aT (.cmp .gt (.bin .add (.item (.attr v0 2) v7) v6) v3) (S1 (.asg 3 (.bin .add (.item (.attr v0 2) v7) v6))) .nil) (.aug 4 .add (.item (.attr v0 3) v7)) (.aT (.cmp .eq (.item (.attr v0 4) v7) i1) (S1 (.asg 5 i1)) .nil)
abbrev Q0:MS:=.asg 2 (.g_ (.attr v0 1) v1 (.neg i1))
abbrev Q2:MS:=.aT (.cmp .ge v2 i0) (S1 (.ret v2)) .nil
abbrev Q3:MS:=.ex (.call 6 (E2 v0 v1))
abbrev Q4:MS:=.asg 3 i1
abbrev Q5:MS:=.asg 4 i1
abbrev Q6:MS:=.asg 5 i0
abbrev Q7:MS:=.aT (.eZ (T2 (.cmp .eq (.item v1 i0) g6) (.cmp .eq (.item v1 i0) g7))) (S1 (.asg 5 i1)) .nil
abbrev Q8:MS:=.asg 6 (.call 4 (E1 (.item v1 i0)))
abbrev Q9:MS:=.cI [7] (.call 3 (E1 v1)) LV
abbrev Q_:MS:=.aT (.cmp .gt v3 WZ) (S1 .stuck) .nil
abbrev LY:MS:=.aT (.cmp .gt v4 LU) (S1 .stuck) .nil
abbrev LZ:MS:=.asg 8 (.len (.attr v0 0))
abbrev L8:MS:=.app (.attr v0 0) v1
abbrev L9:MS:=.dX (.attr v0 1) v1 v8
abbrev L_:MS:=.app (.attr v0 2) v3
abbrev Ma:MS:=.app (.attr v0 3) v4
abbrev Mb:MS:=.app (.attr v0 4) v5
abbrev Mc:MS:=.ret v8
def m2:aA:=.cons Q0 (.cons Q2 (.cons Q3 (.cons Q4 (.cons Q5 (.cons Q6 (.cons Q7 (.cons Q8 (.cons Q9 (.cons Q_ (.cons LY (.cons LZ (.cons L8 (.cons L9 (.cons L_ (.cons Ma (.cons Mb (.cons Mc .nil)))))))))))))))))
def f2:Fn:=⟨2,9,m2⟩
def m3:aA:=S5 (.asg 1 (.item v0 i0)) (.aT (.eZ (T2 (.cmp .eq v1 g2) (.cmp .eq v1 g3))) (S1 (.ret (.item v0 i2))) .nil) (.aT (.eZ (T5 (.cmp .eq v1 g4) (.cmp .eq v1 g5) (.cmp .eq v1 g8) (.cmp .eq v1 g9) (.cmp .eq v1 QX))) (S1 (.ret (.a9 (E1 (.item v0 i1))))) .nil) (.aT (.cmp .eq v1 Pu) (S1 (.ret (.bin .add (.a9 (E1 (.item v0 i1))) (.item v0 i3)))) .nil) (.ret (.a9 .nil))
def f3:Fn:=⟨1,2,m3⟩
def m4:aA:=S2 (.aT (.eZ (T3 (.cmp .eq v0 g2) (.cmp .eq v0 g3) (.cmp .eq v0 g4))) (S1 (.ret i1)) .nil) (.ret i0)
def f4:Fn:=⟨1,1,m4⟩
def m5:aA:=S3 (.aT (.eZ (T2 (.cmp .eq v0 g2) (.cmp .eq v0 g3))) (S1 (.ret i3)) .nil) (.aT (.cmp .eq v0 Pu) (S1 (.ret i4)) .nil) (.ret i2)
def f5:Fn:=⟨1,1,m5⟩
def Me:aA:=S1 (.ex (.bU v0 5 (E1 v3)))
def m6:aA:=S5 (.aT (.eZ (T3 (.cmp .eq (.len v1) i0) (.cmp .le (.item v1 i0) g1) (.cmp .gt (.item v1 i0) QX))) (S1 .stuck) .nil) (.asg 2 (.item v1 i0)) (.aT (.cmp .ne (.len v1) (.call 5 (E1 v2))) (S1 .stuck) .nil) (.cI [3] (.call 3 (E1 v1)) Me) (.aT (.eZ (T2 (.cmp .eq v2 g2) (.cmp .eq v2 g3))) (S1 (.ex (.call 7 (E2 v0 v1)))) (S1 (.aT (.eZ (T2 (.cmp .eq v2 g6) (.cmp .eq v2 g7))) (S1 (.aT (.cmp .lt (.item v1 i1) i0) (S1 .stuck) .nil)) (S1 (.aT (.cmp .eq v2 Pu) (S2 (.aT (.eZ (T2 (.nt (.val (.call 9 (E2 v0 (.item v1 i1))))) (.cmp .lt (.item v1 i2) i0))) (S1 .stuck) .nil) (.ex (.call 8 (E2 v0 (.item v1 i3))))) (S1 (.aT (.cmp .eq v2 g8) (S1 .stuck) (S1 (.aT (.nt (.val (.call 9 (E2 v0 (.item v1 i1))))) (S1 .stuck) .nil)))))))))
def f6:Fn:=⟨2,4,m6⟩
def m7:aA:=S2 (.aT (.eZ (T2 (.cmp .le (.item v1 i1) i0) (.cmp .mem (.item v1 i1) (.d_ (.tab 1))))) (S1 .stuck) .nil) (.ex (.call 8 (E2 v0 (.item v1 i2))))
def f7:Fn:=⟨2,2,m7⟩
def Mf:aA:=S1 (.aT (.nt (.val (.call 9 (E2 v0 v2)))) (S1 .stuck) .nil)
def m8:aA:=S1 (.cI [2] v1 Mf)
def f8:Fn:=⟨2,3,m8⟩
def m9:aA:=S3 (.aT (.eZ (T2 (.cmp .eq v1 g0) (.cmp .eq v1 WY))) (S1 (.ret (.lit (.bool false)))) .nil) (.asg 2 (.item (.bU v0 5 (E1 v1)) i0)) (.ret (.eZ (E3 (.cmp .le v2 g4) (.cmp .eq v2 g6) (.cmp .eq v2 g7))))
def f9:Fn:=⟨2,3,m9⟩
def Ra:aA:=S2 (.aT (.cmp .mem v1 (.d_ (.tab 1))) (S1 .stuck) .nil) (.ret (.bU v0 6 (E1 (.a9 (E3 g2 v1 v2)))))
def U5:Fn:=⟨3,3,Ra⟩
def Rb:aA:=S1 (.ret (.bU v0 6 (E1 (.a9 (E2 g6 v1)))))
def W3:Fn:=⟨2,2,Rb⟩
def Rc:aA:=S1 (.ret (.item (.bU v0 5 (E1 v1)) i0))
def U6:Fn:=⟨2,2,Rc⟩
def Rd:aA:=S5 (.asg 2 (.bU v0 5 (E1 v1))) (.aT (.eZ (T2 (.cmp .eq (.item v2 i0) g2) (.cmp .eq (.item v2 i0) g3))) (S1 (.ret (.item v2 i1))) .nil) (.aT (.cmp .eq (.item v2 i0) g1) (S1 (.ret (.g_ (.d_ (.tab 0)) v1 i0))) .nil) (.aT (.cmp .eq (.item v2 i0) g4) (S1 (.ret g5)) .nil) (.ret i0)
def U7:Fn:=⟨2,3,Rd⟩
def Rg:aA:=S3 (.asg 2 (.bU v0 5 (E1 v1))) (.aT (.eZ (T2 (.cmp .eq (.item v2 i0) g2) (.cmp .eq (.item v2 i0) g3))) (S1 (.ret (.item v2 i2))) .nil) (.ret (.a9 .nil))
def W4:Fn:=⟨2,3,Rg⟩
def Ri:aA:=S3 (.ex (.bU v0 5 (E1 v1))) (.aT (.cmp .eq (.item (.attr v0 4) v1) i0) (S1 (.ret v1)) .nil) (.ret (.call 16 (E5 v0 v1 v2 v3 (.dW .nil))))
def W8:Fn:=⟨4,4,Ri⟩
def C5:aA:=S1 (.gL 6 (.call 16 (E5 v0 v7 v2 v3 v4)))
def W9:aA:=.cons (.aT (.cmp .eq (.item (.attr v0 4) v1) i0) (S1 (.ret v1)) .nil) (.cons (.aT (.cmp .mem v1 v4) (S1 (.ret (.item v4 v1))) .nil) (.cons (.asg 5 (.item (.attr v0 0) v1)) (.cons (.aT (.cmp .eq (.item v5 i0) g6) (S1 (.ret (.call 18 (E3 v2 (.item v5 i1) v1)))) .nil) (.cons (.aT (.cmp .eq (.item v5 i0) g7) (S1 (.ret (.call 18 (E3 v3 (.item v5 i1) v1)))) .nil) (.cons (.fw 6 .nil) (.cons (.cI [7] (.call 3 (E1 v5)) C5) (.cons (.dX v4 v1 (.call 17 (E3 v0 v5 (.eR v6)))) (.cons (.ret (.item v4 v1)) .nil))))))))
def W_:Fn:=⟨5,8,W9⟩
def Xa:aA:=S5 (.asg 3 (.item v1 i0)) (.aT (.eZ (T2 (.cmp .eq v3 g2) (.cmp .eq v3 g3))) (S1 (.ret (.bU v0 6 (E1 (.a9 (E3 v3 (.item v1 i1) v2)))))) .nil) (.aT (.cmp .eq v3 Pu) (S1 (.ret (.bU v0 6 (E1 (.a9 (E4 v3 (.item v2 i0) (.item v1 i2) (.ri v2 (E1 i1) .nil))))))) .nil) (.aT (.cmp .eq v3 g8) (S1 .stuck) .nil) (.ret (.bU v0 6 (E1 (.a9 (E2 v3 (.item v2 i0))))))
def Xb:Fn:=⟨3,4,Xa⟩
def Xc:aA:=S2 (.aT (.cmp .lt v1 (.len v0)) (S1 (.ret (.item v0 v1))) .nil) (.ret v2)
def Xd:Fn:=⟨3,3,Xc⟩
def C6:aA:=S1 (.gL 4 (.call 15 (E4 v0 v5 v2 v3)))
def Xe:aA:=S3 (.fw 4 .nil) (.cI [5] v1 C6) (.ret (.eR v4))
def Xf:Fn:=⟨4,6,Xe⟩
def Mg:aA:=S3 (.app (.attr v0 13) v8) (.app (.attr v0 14) g0) (.app (.attr v0 15) (.a9 (E2 i0 (.a9 .nil))))
def Xg:aA:=.cons (.bq v0 7 v1) (.cons (.bq v0 8 v2) (.cons (.bq v0 9 v3) (.cons (.bq v0 10 v4) (.cons (.bq v0 11 v5) (.cons (.bp v0 12 .nil) (.cons (.bp v0 13 .nil) (.cons (.bp v0 14 .nil) (.cons (.bp v0 15 .nil) (.cons (.cI [8] v6 Mg) (.cons (.bp v0 16 .nil) (.cons (.bp v0 17 .nil) (.cons (.bq v0 18 v7) (.cons (.bq v0 19 i0) (.cons (.bq v0 20 (.neg i1)) (.cons (.bp v0 21 .nil) (.cons (.bp v0 22 .nil) (.cons (.bp v0 23 .nil) (.cons (.bq v0 24 i0) (.cons (.bq v0 25 i0) .nil)))))))))))))))))))
def Xh:Fn:=⟨8,9,Xg⟩
def Xi:aA:=.cons (.bq v0 26 v1) (.cons (.bq v0 27 v2) (.cons (.bq v0 8 v3) (.cons (.bq v0 28 v4) (.cons (.bq v0 10 v5) (.cons (.bq v0 29 i0) (.cons (.bp v0 30 .nil) (.cons (.bp v0 31 .nil) (.cons (.bq v0 32 v6) (.cons (.bq v0 13 (.eR v7)) (.cons (.bq v0 33 (.call 23 (E1 (.len v7)))) (.cons (.bq v0 34 (.bin .mul (.a9 (E1 i0)) (.len v7))) (.cons (.bq v0 35 (.lit .none)) (.cons (.bq v0 36 i0) .nil)))))))))))))
def Xj:Fn:=⟨8,8,Xi⟩
def Xk:aA:=S7 (.bq v0 37 (.new 0 .nil)) (.bp v0 38 (E1 (.lit .none))) (.bp v0 39 (E1 (.lit .none))) (.bp v0 17 (E1 (.lit .none))) (.cV v0 40) (.bp v0 41 .nil) (.bq v0 42 i0)
def Xl:Fn:=⟨1,1,Xk⟩
def Mh:aA:=S1 (.gL 1 (.bin .add (s "p") (.toStr v2)))
def Xm:aA:=S3 (.fw 1 .nil) (.forR 2 (E1 v0) Mh) (.ret (.eR v1))
def Xn:Fn:=⟨1,3,Xm⟩
def wu:aA:=S1 (.gL 3 (.call 11 (E2 (.attr v0 37) v4)))
def Xo:aA:=S5 (.aT (.cmp .mem v1 (.d_ (.tab 1))) (S1 (.ret (.item (.d_ (.tab 1)) v1))) .nil) (.asg 2 (.item (.attr v0 38) v1)) (.fw 3 .nil) (.forR 4 (E1 (.len (.attr v2 13))) wu) (.ret (.call 25 (E3 v0 v1 (.eR v3))))
def Xp:Fn:=⟨2,5,Xo⟩
def Xq:aA:=S3 (.asg 3 (.attr (.item (.attr v0 38) v1) 9)) (.aT (.eZ (T2 (.cmp .eq v3 g2) (.cmp .eq v3 g5))) (S1 .stuck) .nil) (.ret (.call 10 (E3 (.attr v0 37) v1 v2)))
def Xr:Fn:=⟨3,4,Xq⟩
def Xs:aA:=S3 (.asg 2 (.call 13 (E2 (.attr v0 37) v1))) (.aT (.eZ (T2 (.cmp .le v2 i0) (.cmp .ge v2 (.len (.attr v0 38))))) (S1 (.ret (.lit .none))) .nil) (.ret (.item (.attr v0 38) v2))
def Xu:Fn:=⟨2,3,Xs⟩
def wy:aA:=S1 (.aT (.cmp .eq (.attr (.item (.attr v0 17) v4) 8) v2) (S1 (.gL 3 v4)) .nil)
def Xv:aA:=S3 (.fw 3 .nil) (.cI [4] (.attr (.item (.attr v0 38) v1) 17) wy) (.ret v3)
def Xw:Fn:=⟨3,5,Xv⟩
def Xx:aA:=.cons (.asg 2 (.attr v0 37)) (.cons (.aT (.cmp .lt v1 Px) (S1 (.ret (.call 29 (E2 v0 v1)))) .nil) (.cons (.asg 3 (.call 12 (E2 v2 v1))) (.cons (.aT (.cmp .eq v3 g4) (S1 (.ret (.call 10 (E3 v2 g5 (.a9 .nil))))) .nil) (.cons (.aT (.cmp .eq v3 g8) (S1 .stuck) .nil) (.cons (.asg 4 (.call 26 (E2 v0 v1))) (.cons (.aT (.cmp .is v4 (.lit .none)) (S1 (.ret (.neg i1))) .nil) (.cons (.aT (.cmp .eq v3 g3) (S2 (.aT (.cmp .eq (.attr v4 9) g5) (S1 (.ret (.call 10 (E3 v2 g3 (.a9 .nil))))) .nil) (.ret (.call 10 (E3 v2 g2 (.a9 .nil))))) .nil) (.cons (.aT (.eZ (T2 (.cmp .lt (.attr v4 11) i0) (.cmp .eq (.attr v4 9) g3))) (S1 (.ret (.neg i1))) .nil) (.cons (.ret (.call 15 (E4 v2 (.attr v4 11) (.call 14 (E2 v2 v1)) (.a9 .nil)))) .nil)))))))))
def Xy:Fn:=⟨2,5,Xx⟩
def Xz:aA:=S3 (.aT (.cx (T2 (.cmp .le g1 v1) (.cmp .le v1 QX))) (S1 (.ret (.call 10 (E3 (.attr v0 37) g2 (.a9 .nil))))) .nil) (.aT (.cmp .eq v1 F8) (S1 (.ret Pw)) .nil) (.ret (.neg i1))
def XA:Fn:=⟨2,2,Xz⟩
def XC:aA:=S5 (.aT (.cmp .eq (.item v1 i1) i0) (S1 (.ret (.a9 (E2 g0 (.a9 .nil))))) .nil) (.asg 2 (.item (.attr v0 17) (.item v1 i1))) (.aT (.cmp .is v2 (.lit .none)) (S1 .stuck) .nil) (.asg 3 (.call 14 (E2 (.attr v0 37) (.item v1 i0)))) (.ret (.a9 (E2 (.call 15 (E4 (.attr v0 37) (.attr v2 32) v3 (.item v1 i2))) (.call 19 (E4 (.attr v0 37) (.attr v2 13) v3 (.item v1 i2))))))
def XD:Fn:=⟨2,4,XC⟩
def XE:aA:=S1 (.ret (.cx (E2 (.cmp .eq (.call 12 (E2 (.attr v0 37) v1)) g2) (.cmp .eq (.bU v0 9 (E1 v1)) g3))))
def XF:Fn:=⟨2,2,XE⟩
def C7:MT:=.cx (T2 (.cmp .ne v1 (.neg i1)) (.cmp .gK v1 v3))
def C8:aA:=S3 (.dX v3 v1 i1) (.gL 2 v1) (.asg 1 (.bU v0 11 (E1 v1)))
def XG:aA:=S4 (.fw 2 .nil) (.asg 3 (.dW .nil)) (.eK C7 C8) (.ret v2)
def XH:Fn:=⟨2,4,XG⟩
def C9:MT:=.cmp .ne v1 (.neg i1)
def C':aA:=S4 (.aT (.cmp .mem v1 v3) (S1 .stuck) .nil) (.dX v3 v1 i1) (.gL 2 v1) (.asg 1 (.call 28 (E2 v0 v1)))
def XI:aA:=S4 (.fw 2 .nil) (.asg 3 (.dW .nil)) (.eK C9 C') (.ret (.rev v2))
def XJ:Fn:=⟨2,4,XI⟩
def XK:aA:=S3 (.bq v0 43 v1) (.bp v0 0 .nil) (.cV v0 44)
def XM:Fn:=⟨2,2,XK⟩
def rO:aA:=S1 (.aT (.cmp .ne (.call 12 (E2 (.attr v0 37) v3)) g4) (S2 (.aT (.cmp .is (.call 26 (E2 v0 v3)) (.lit .none)) (S1 (.raise (E2 g1 v3))) .nil) (.gL 2 v3)) .nil)
def XN:aA:=S3 (.fw 2 .nil) (.cI [3] (.call 33 (E2 v0 v1)) rO) (.ret v2)
def XO:Fn:=⟨2,4,XN⟩
def XQ:aA:=S2 (.aT (.cmp .eq (.len (.call 14 (E2 (.attr v0 37) (.item v1 v2)))) i0) (S1 (.ret (.ri v1 .nil (E1 (.bin .add v2 i1))))) .nil) (.ret (.call 35 (E2 v0 (.call 24 (E2 v0 (.attr (.call 26 (E2 v0 (.item v1 v2))) 7))))))
def XR:Fn:=⟨3,3,XQ⟩
def wz:aA:=S1 (.ex (.call 38 (E4 v0 v2 (.item v3 v4) (.call 36 (E3 v0 v3 v4)))))
def XS:aA:=S5 (.asg 2 (.new 4 (E1 v1))) (.ft 3 35 (E2 v0 v1)) (.aT (.cx (T2 (.cmp .eq (.len v3) i1) (.cmp .eq (.attr (.call 26 (E2 v0 (.item v3 i0))) 9) g3))) (S1 (.ret v2)) .nil) (.forR 4 (E1 (.len v3)) wz) (.ret v2)
def XU:Fn:=⟨2,5,XS⟩
def wA:aA:=S2 (.asg 6 (.item (.attr v0 17) v5)) (.aT (.cx (T2 (.val (.bin .band (.attr v6 10) g2)) (.nt (.val (.bin .band (.attr v6 10) g1))))) (S1 (.ex (.call 39 (E5 v0 v1 v2 v3 v5)))) .nil)
def wB:aA:=S2 (.aT (.cmp .is (.call 26 (E2 v0 (.item v8 i1))) (.lit .none)) (S1 .stuck) .nil) (.aT (.cmp .ne (.attr (.call 26 (E2 v0 (.item v8 i1))) 9) g3) (S1 (.ex (.call 40 (E6 v0 v1 v2 v3 v8 v7)))) .nil)
def XW:aA:=S4 (.asg 4 (.call 26 (E2 v0 v2))) (.cI [5] (.attr v4 17) wA) (.asg 7 (.dW .nil)) (.cI [8] (.attr v4 21) wB)
def XX:Fn:=⟨4,9,XW⟩
abbrev Mi:MS:=.asg 5 (.item (.attr v0 17) v4)
abbrev Mj:MS:=.asg 6 (.a9 (E2 i0 (.neg i1)))
abbrev Ml:MS:=.aT (.nt (.val (.bin .band (.attr v5 10) g4))) (S1 (.asg 6 (.call 42 (E3 v0 v3 v4)))) .nil
abbrev Mm:MS:=.asg 7 (.item v6 i0)
abbrev Mn:MS:=.aT (.cmp .eq v7 i0) (S3 (.dX (.attr v1 44) v4 (.len (.attr v1 0))) (.app (.attr v1 0) (.a9 (E2 v2 v4))) (.ret (.lit .none))) .nil
abbrev Mo:MS:=.asg 8 (.item (.attr v0 17) v7)
abbrev Mp:MS:=.aT (.eZ (T2 (.val (.bin .band (.attr v8 10) Px)) (.val (.call 46 (E3 v0 v5 v8))))) (S1 .stuck) .nil
abbrev Mq:MS:=.aT (.nt (.val (.call 44 (E5 v0 (.item v3 (.bin .sub (.len v3) i1)) v4 (.item v3 (.item v6 i1)) v7)))) (S1 .stuck) .nil
abbrev Mr:MS:=.dX (.attr v1 44) v4 (.item (.attr v1 44) v7)
abbrev Ms:MS:=.dX (.attr v1 0) (.item (.attr v1 44) v7) (.a9 (E2 v2 v4))
def XY:aA:=.cons Mi (.cons Mj (.cons Ml (.cons Mm (.cons Mn (.cons Mo (.cons Mp (.cons Mq (.cons Mr (.cons Ms .nil)))))))))
def XZ:Fn:=⟨5,9,XY⟩
abbrev Mt:MS:=.pI [6,7,8] v4
abbrev Mu:MS:=.asg 9 (.attr (.call 26 (E2 v0 v2)) 17)
abbrev Mv:MS:=.aT (.eZ (T3 (.cmp .gK v7 v3) (.cmp .gK v8 (.attr (.call 26 (E2 v0 v7)) 17)) (.cmp .mem (.a9 (E2 v7 v8)) v5))) (S1 .stuck) .nil
abbrev Mw:MS:=.aT (.eZ (T3 (.cmp .gK v6 v9) (.nt (.val (.call 41 (E2 v0 v6)))) (.cmp .gK v8 (.attr v1 44)))) (S1 .stuck) .nil
abbrev Mx:MS:=.asg 10 (.item (.attr v1 44) v8)
abbrev My:MS:=.aT (.val (.bin .band (.bin .bor (.attr (.item (.attr v0 17) v8) 10) (.attr (.item (.attr v0 17) (.item (.item (.attr v1 0) v10) i1)) 10)) Px)) (S1 .stuck) .nil
abbrev Mz:MS:=.aT (.nt (.val (.call 45 (E6 v0 (.item v3 (.bin .sub (.len v3) i1)) v6 v7 v8 (.lit (.bool false)))))) (S1 .stuck) .nil
abbrev MA:MS:=.aT (.nt (.val (.call 44 (E5 v0 (.item v3 (.bin .sub (.len v3) i1)) v6 v7 v8)))) (S1 .stuck) .nil
abbrev MB:MS:=.dX v5 (.a9 (E2 v7 v8)) i1
abbrev MC:MS:=.dX (.attr v1 0) v10 (.a9 (E2 v2 v6))
def X0:aA:=.cons Mt (.cons Mu (.cons Mv (.cons Mw (.cons Mx (.cons My (.cons Mz (.cons MA (.cons MB (.cons MC .nil)))))))))
def X4:Fn:=⟨6,11,X0⟩
def X5:aA:=S2 (.asg 2 (.attr (.item (.attr v0 17) v1) 10)) (.ret (.cx (E2 (.cmp .ne (.bin .band v2 g2) i0) (.cmp .eq (.bin .band v2 (.bin .bor g1 g8)) i0))))
def X6:Fn:=⟨2,3,X5⟩
def wF:aA:=S1 (.aT (.cx (T2 (.val (.call 43 (E2 v0 v5))) (.val (.call 45 (E6 v0 (.item v1 v3) v2 (.item v1 v4) v5 (.lit (.bool true))))))) (S1 (.ret (.a9 (E2 v5 v4)))) .nil)
def Dc:MT:=.cmp .ge v4 i0
def Dd:aA:=S2 (.cI [5] (.attr (.call 26 (E2 v0 (.item v1 v4))) 17) wF) (.aug 4 .sub i1)
def X7:aA:=S4 (.asg 3 (.bin .sub (.len v1) i1)) (.asg 4 (.bin .sub v3 i1)) (.eK Dc Dd) (.ret (.a9 (E2 i0 (.neg i1))))
def X8:Fn:=⟨3,6,X7⟩
def X9:aA:=S2 (.asg 2 (.item (.attr v0 17) v1)) (.ret (.cx (E3 (.cmp .ne (.bin .band (.attr v2 10) g2) i0) (.cmp .eq (.bin .band (.attr v2 10) g1) i0) (.cmp .ne (.attr v2 28) g1))))
def X_:Fn:=⟨2,3,X9⟩
def MD:aA:=S1 (.aT (.cx (T2 (.cmp .gK v9 v8) (.cmp .ne v9 Pw))) (S1 (.ret (.lit (.bool false)))) .nil)
def MF:aA:=S3 (.aT (.val (.bin .band (.item (.item v5 v7) i0) (.inv (.item (.item v6 v7) i0)))) (S1 (.ret (.lit (.bool false)))) .nil) (.asg 8 (.call 19 (E4 (.attr v0 37) (.item (.item v6 v7) i1) (.call 14 (E2 (.attr v0 37) v3)) (.a9 .nil)))) (.cI [9] (.call 19 (E4 (.attr v0 37) (.item (.item v5 v7) i1) (.call 14 (E2 (.attr v0 37) v1)) (.a9 .nil))) MD)
def Yb:aA:=S4 (.asg 5 (.attr (.item (.attr v0 17) v2) 31)) (.asg 6 (.attr (.item (.attr v0 17) v4) 31)) (.forR 7 (E1 (.attr (.item (.attr v0 17) v2) 29)) MF) (.ret (.lit (.bool true)))
def Yc:Fn:=⟨5,10,Yb⟩
def Yd:aA:=S5 (.asg 6 (.item (.attr v0 17) v2)) (.asg 7 (.item (.attr v0 17) v4)) (.aT (.cx (T2 (.val v5) (.cmp .ne (.attr v6 8) (.attr v7 8)))) (S1 (.ret (.lit (.bool false)))) .nil) (.aT (.eZ (T2 (.cmp .ne (.attr v6 29) (.attr v7 29)) (.cmp .ne (.len (.attr v6 13)) (.len (.attr v7 13))))) (S1 (.ret (.lit (.bool false)))) .nil) (.ret (.cmp .eq (.call 30 (E2 v0 (.a9 (E3 v1 v2 (.a9 .nil))))) (.call 30 (E2 v0 (.a9 (E3 v3 v4 (.a9 .nil)))))))
def Ye:Fn:=⟨6,8,Yd⟩
def Yg:aA:=S4 (.asg 3 (.g_ (.d_ (.tab 2)) (.attr v2 28) i0)) (.asg 4 (.cmp .ne (.attr (.item (.attr v0 38) (.attr v1 27)) 18) (.attr (.item (.attr v0 38) (.attr v2 27)) 18))) (.aT (.cx (T3 (.val v4) (.cmp .ne (.attr v2 28) g2) (.cmp .ne (.attr v2 28) g3))) (S1 (.asg 3 (.bin .band v3 Pw))) .nil) (.ret (.cmp .ne (.bin .band v3 (.inv (.g_ (.d_ (.tab 2)) (.attr v1 28) i0))) i0))
def Yh:Fn:=⟨3,5,Yg⟩
def Yi:aA:=S1 (.ret (.g_ (.attr v0 44) v1 (.neg i1)))
def Yj:Fn:=⟨2,2,Yi⟩
def De:ME:=.cx (E2 (.cmp .eq (.item v0 i0) v2) (.nt (.call 31 (E2 (.attr v1 46) (.item v0 i1)))))
def wG:aA:=S2 (.asg 6 (.call 26 (E2 (.attr v0 45) v5))) (.aT (.cx (T2 (.cmp .iM v6 (.lit .none)) (.val (.call 49 (E3 (.attr v0 45) (.attr v6 7) v3))))) (S1 (.ret (.lit (.bool true)))) .nil)
def Yk:aA:=S7 (.asg 3 (.item (.attr (.attr v0 45) 17) v2)) (.aT (.cmp .eq (.bin .band (.attr v3 10) g2) i0) (S1 (.ret (.lit (.bool false)))) .nil) (.aT (.val (.bin .band (.attr v3 10) g4)) (S1 (.ret (.anyOf (.comp De (.attr (.item (.attr (.attr v0 45) 38) (.attr v3 27)) 21) .nil [0,2])))) .nil) (.asg 4 (.bU (.attr v0 46) 11 (E1 v1))) (.aT (.cmp .eq v4 (.neg i1)) (S1 (.ret (.lit (.bool false)))) .nil) (.cI [5] (.call 32 (E2 (.attr v0 46) v4)) wG) (.ret (.lit (.bool false)))
def Yl:Fn:=⟨3,7,Yk⟩
def Df:aA:=S2 (.asg 4 (.item (.attr v0 17) v3)) (.aT (.cx (T3 (.val (.bin .band (.attr v4 10) g2)) (.cmp .eq (.attr v4 29) (.attr v2 29)) (.cmp .eq (.len (.attr v4 13)) (.len (.attr v2 13))))) (S1 (.ret (.lit (.bool true)))) .nil)
def Ym:aA:=S2 (.cI [3] (.call 27 (E3 v0 v1 (.attr v2 8))) Df) (.ret (.lit (.bool false)))
def Yn:Fn:=⟨3,5,Ym⟩
def Yo:aA:=S1 (.ret (.ite (.val (.item v0 i2)) (.item v0 i2) (.item v0 i3)))
def Yp:Fn:=⟨1,1,Yo⟩
def Dg:ME:=.cmp .ne (.attr (.item (.attr (.attr v1 45) 17) v0) 28) g1
def Dh:gZ:=T1 (.val v0)
def Yq:aA:=S3 (.aT (.eZ (T2 (.cmp .ne (.item v4 i0) (.item v2 i0)) (.cmp .ne (.len (.item v4 i4)) (.len (.item v2 i4))))) (S1 (.ret (.lit (.bool false)))) .nil) (.aT (.cmp .ne (.call 19 (E4 (.attr v0 37) (.item v4 i4) (.call 14 (E2 (.attr v0 37) v3)) (.a9 .nil))) (.call 19 (E4 (.attr v0 37) (.item v2 i4) (.call 14 (E2 (.attr v0 37) v1)) (.a9 .nil)))) (S1 (.ret (.lit (.bool false)))) .nil) (.ret (.anyOf (.comp Dg (.a9 (E2 (.item v4 i2) (.item v4 i3))) Dh [0])))
def Yr:Fn:=⟨5,5,Yq⟩
def wH:aA:=S3 (.aT (.nt (.val (.call 51 (E5 v0 v1 v2 v4 v6)))) (S1 .cont) .nil) (.aT (.val (.item v6 v3)) (S1 (.ret (.a9 (E3 v4 (.item v6 v3) (.a9 .nil))))) .nil) (.aT (.nt (.val (.call 48 (E3 v0 v4 (.call 50 (E1 v6)))))) (S1 (.ret (.a9 .nil))) .nil)
def lK:aA:=S3 (.asg 5 (.call 26 (E2 (.attr v0 45) v4))) (.aT (.cmp .is v5 (.lit .none)) (S1 .cont) .nil) (.cI [6] (.attr v5 22) wH)
def Ys:aA:=S2 (.cI [4] (.ri (.call 32 (E2 (.attr v0 46) v1)) (E1 i1) .nil) lK) (.ret (.a9 .nil))
def uj:Fn:=⟨4,7,Ys⟩
def Yt:aA:=S3 (.aT (.val (.item v2 v3)) (S1 (.ret (.a9 (E3 v1 (.item v2 v3) (.a9 .nil))))) .nil) (.aT (.val (.call 48 (E3 v0 v1 (.call 50 (E1 v2))))) (S1 (.ret (.call 52 (E4 v0 v1 v2 v3)))) .nil) (.ret (.a9 .nil))
def Yu:Fn:=⟨4,4,Yt⟩
abbrev MG:MS:=.ft 2 37 (E2 (.attr v0 45) (.bU (.attr v0 46) 11 (E1 (.call 24 (E2 (.attr v0 45) (.attr v0 27))))))
abbrev MI:MS:=.asg 3 (.ite (.val v1) (.call 47 (E2 v2 (.item v1 i1))) (.neg i1))
abbrev MJ:MS:=.aT (.cmp .lt v3 i0) (S1 (.ret v1)) .nil
abbrev MK:MS:=.ret (.a9 (E3 (.item (.item (.attr v2 0) v3) i0) (.item (.item (.attr v2 0) v3) i1) (.item v1 i2)))
def Yv:aA:=S4 MG MI MJ MK
def Yw:Fn:=⟨2,4,Yv⟩
def Yx:aA:=S1 (.bp v0 0 .nil)
def U8:Fn:=⟨1,1,Yx⟩
def Yy:aA:=.cons (.bq v0 45 v1) (.cons (.bq v0 18 v2) (.cons (.bp v0 47 (E1 (.lit .none))) (.cons (.bp v0 48 (E1 (.lit .none))) (.cons (.cV v0 49) (.cons (.bq v0 50 (.new 5 .nil)) (.cons (.cV v0 51) (.cons (.cV v0 52) (.cons (.cV v0 53) .nil))))))))
def U9:Fn:=⟨3,3,Yy⟩
def Yz:aA:=.cons (.bq v0 54 v1) (.cons (.bq v0 45 (.attr v1 45)) (.cons (.bq v0 37 (.attr (.attr v1 45) 37)) (.cons (.bq v0 46 v2) (.cons (.bq v0 18 v3) (.cons (.cV v0 55) (.cons (.cV v0 56) (.cons (.bp v0 57 .nil) (.cons (.cV v0 58) (.cons (.bq v0 27 i0) (.cons (.bq v0 26 i0) (.cons (.bq v0 59 i0) (.cons (.bq v0 60 i0) .nil))))))))))))
def U_:Fn:=⟨4,4,Yz⟩
def YA:aA:=S4 (.bq v0 37 (.attr v1 37)) (.bq v0 45 v1) (.cV v0 15) (.cV v0 61)
def Va:Fn:=⟨2,2,YA⟩
def YB:aA:=S1 (.ret (.call 28 (E2 (.attr v0 45) v1)))
def YC:Fn:=⟨2,2,YB⟩
def YD:aA:=S2 (.asg 2 (.call 26 (E2 (.attr v0 45) v1))) (.ret (.ite (.cmp .is v2 (.lit .none)) i0 (.attr v2 9)))
def YE:Fn:=⟨2,3,YD⟩
def Di:MT:=.cmp .gt v1 i0
def wI:aA:=S4 (.pI [4,5] (.item (.item v0 (s "levels")) v1)) (.asg 6 (.ite (.val v4) (.item v3 i0) g7)) (.asg 3 (.bin .add (.lst (E1 (.item (.a9 (E3 g7 F8 v6)) v5))) v3)) (.aug 1 .sub i1)
def YF:aA:=S3 (.fw 3 (E1 v2)) (.eK Di wI) (.ret v3)
def YG:Fn:=⟨3,7,YF⟩
def YH:aA:=S1 (.ret (.call 10 (E3 (.attr (.item v0 (s "store")) 37) (.bin .add zt v1) (.ite (.val (.item (.item (.item v0 (s "levels")) v1) i0)) (.a9 (E1 (.item v2 v1))) (.a9 .nil)))))
def YI:Fn:=⟨3,3,YH⟩
def Dj:ME:=.ite (.cmp .eq v0 (.item v2 (s "var"))) v1 v0
def YJ:aA:=S1 (.ret (.comp Dj (.item v1 i1) .nil [2,0]))
def YK:Fn:=⟨3,3,YJ⟩
def YL:aA:=S1 (.ret (.cmp .gK (.item v0 i4) (.a9 (E3 g2 g3 g4))))
def YM:Fn:=⟨1,1,YL⟩
def Dk:aA:=S1 (.aT (.cx (T3 (.cmp .eq (.item v7 i0) (.item v2 i0)) (.val (.item v7 v3)) (.val (.call 64 (E1 v7))))) (S1 (.aT (.cmp .eq (.call 63 (E3 v0 v7 (.item v4 v6))) v5) (S1 (.ret (.a9 (E2 v6 (.item v7 v3))))) .nil)) .nil)
def wJ:aA:=S1 (.cI [7] (.item (.item v0 (s "table")) v6) Dk)
def YN:aA:=S4 (.asg 4 (.call 61 (E3 v0 v1 (.item v0 (s "var"))))) (.asg 5 (.call 63 (E3 v0 v2 (.item v4 v1)))) (.forR 6 (E3 (.bin .sub v1 i1) (.neg i1) (.neg i1)) wJ) (.ret (.lit .none))
def YO:Fn:=⟨4,8,YN⟩
abbrev ML:MS:=.asg 13 g6
abbrev j6:MS:=.aT (.eZ (T2 (.cmp .eq v6 g3) (.cx (T2 (.cmp .eq v6 g4) (.cmp .eq v12 (.bin .add i2 (.bin .mod v2 i2))))))) (S1 (.asg 13 g1)) (S1 (.aT (.eZ (T2 (.cmp .eq v6 g2) (.cmp .eq v6 g4))) (S1 (.asg 13 (.bin .add i2 (.bin .mod (.bin .div v2 i2) i5)))) .nil))
abbrev Dl:MS:=.aT (.cmp .ne v13 g1) (S1 (.asg 11 i1)) .nil
abbrev MM:MS:=.asg 14 (.len (.attr v4 17))
abbrev MN:MS:=.asg 15 (.ite (.cmp .eq v12 i2) v8 (.bin .add v8 (.a9 (E1 g7))))
abbrev MP:MS:=.app (.attr v4 17) (.new 2 (E7 v14 (.bin .add zt v1) (.bin .add (.item (.a9 (E2 (s "get_") (s "set_"))) (.bin .sub v12 i2)) v7) v13 v9 (.ite (.cmp .eq v12 i2) g7 g0) v15))
abbrev MQ:MS:=.app (.attr (.item (.attr v4 38) (.bin .add zt v1)) 17) v14
abbrev MR:MS:=.pH 10 v12 v14
abbrev MU:MS:=.app (.item v0 (s "mids")) (.a9 (E2 v1 v14))
abbrev wK:aA:=.cons ML (.cons j6 (.cons Dl (.cons MM (.cons MN (.cons MP (.cons MQ (.cons MR (.cons MU .nil))))))))
abbrev F9:MS:=.ex (.call 67 (E4 v0 v1 lJ v12))
abbrev wL:aA:=S1 F9
abbrev F_:MS:=.asg 4 (.item v0 (s "store"))
abbrev wM:MS:=.asg 5 (.ite (.cmp .eq v1 i0) (.a9 (E3 (.a9 (E2 i2 i3)) (.a9 (E1 i2)) (.a9 (E1 i3)))) (.a9 (E3 (.a9 (E1 i2)) (.a9 (E1 i3)) (.a9 (E2 i2 i3)))))
abbrev wN:MS:=.asg 5 (.item v5 (.bin .mod v2 i3))
abbrev wO:MS:=.asg 6 (.bin .mod (.bin .add (.bin .div v2 i3) (.ite (.cmp .eq v1 i0) i1 i0)) i7)
abbrev Ga:MS:=.asg 2 (.bin .div v2 zt)
abbrev Gb:MS:=.asg 7 (s "P")
noncomputable abbrev Gd:MS:=.asg 8 (.a9 .nil)
abbrev wQ:MS:=.aT (.val v3) (S2 (.asg 8 (.item (.a9 (E4 (.a9 .nil) (.a9 (E1 g7)) (.a9 (E1 F8)) (.a9 (E1 (.ite (.val (.item (.item (.item v0 (s "levels")) v1) i0)) (.item v0 (s "var")) g7))))) (.bin .mod v2 i4))) (.asg 7 (.ite (.cmp .eq (.bin .mod v2 i4) i0) (s "Q") (.item (.a9 (E2 (s "P") (s "Q"))) (.bin .mod (.bin .div v2 i4) i2))))) .nil
abbrev Ge:MS:=.asg 2 (.bin .div v2 i8)
abbrev Gf:MS:=.asg 9 QY
abbrev wR:MS:=.aT (.cmp .gK v6 (.a9 (E3 g2 g3 g4))) (S1 (.asg 9 (.bin .bor (.bin .bor v9 g2) (.ite (.cmp .eq v6 g0) i0 g4)))) .nil
abbrev Gg:MS:=.fw 10 (E4 i0 i0 i0 i0)
abbrev Gi:MS:=.asg 11 i0
abbrev Gj:MS:=.cI [12] v5 wK
abbrev Gk:MS:=.asg 16 (.a9 (E5 v7 g7 (.item v10 i2) (.item v10 i3) v8))
abbrev Gl:MS:=.app (.attr (.item (.attr v4 38) (.bin .add zt v1)) 22) kP
abbrev Gm:MS:=.asg 17 (.a9 (E7 v7 v8 (.item v10 i2) (.item v10 i3) v6 v11 kP))
abbrev Gn:MS:=.cI [12] v5 wL
abbrev Gp:MS:=.app (.item (.item v0 (s "table")) v1) lJ
abbrev YQ:aA:=.cons F_ (.cons wM (.cons wN (.cons wO (.cons Ga (.cons Gb (.cons Gd (.cons wQ (.cons Ge (.cons Gf (.cons wR (.cons Gg (.cons Gi (.cons Gj (.cons Gk (.cons Gl (.cons Gm (.cons Gn (.cons Gp .nil))))))))))))))))))
def Vb:Fn:=⟨4,18,YQ⟩
abbrev MW:MS:=.asg 4 (.item v0 (s "store"))
abbrev MX:MS:=.asg 5 (.item v2 v3)
abbrev MY:MS:=.aT (.nt (.val (.call 64 (E1 v2)))) (S1 (.ret (.lit .none))) .nil
abbrev MZ:MS:=.asg 6 (.call 65 (E4 v0 v1 v2 v3))
abbrev wU:MS:=.dX (.item v0 (s "root")) v5 v5
abbrev wV:MS:=.aT (.cx (T2 (.cmp .eq (.item v2 i4) g0) (.cmp .iM v6 (.lit .none)))) (S1 (.dX (.item v0 (s "root")) v5 (.item (.item v0 (s "root")) (.item v6 i1)))) .nil
abbrev M0:MS:=.app (.item v0 (s "deeds")) (.a9 (E3 v1 (.item (.item v0 (s "root")) v5) v5))
abbrev Dm:MS:=.aT (.cx (T2 (.cmp .eq (.item v2 i4) g5) (.cmp .iM v6 (.lit .none)))) (S4 (.asg 7 (.call 62 (E3 v0 (.item v6 i0) (.call 61 (E3 v0 v1 (.item v0 (s "var"))))))) (.app (.attr (.item (.attr v4 38) (.bin .add zt v1)) 21) (.a9 (E3 v5 v7 (.item v6 i1)))) (.dX (.item v0 (s "put")) v5 i1) (.app (.item v0 (s "deeds")) (.a9 (E3 v1 (.item (.item v0 (s "root")) (.item v6 i1)) v5)))) .nil
abbrev Dn:MS:=.aT (.cmp .eq (.item v2 i4) g6) (S1 (.app (.attr (.item (.attr v4 38) (.bin .add zt v1)) 21) (.a9 (E3 v5 (.call 10 (E3 (.attr v4 37) JO (.a9 .nil))) i1)))) .nil
def YR:aA:=.cons MW (.cons MX (.cons MY (.cons MZ (.cons wU (.cons wV (.cons M0 (.cons Dm (.cons Dn .nil))))))))
def Rj:Fn:=⟨4,8,YR⟩
abbrev wW:MS:=.pI [6,7,8] (.ri v0 (E1 (.bin .add i1 (.bin .mul i3 v5))) (E1 (.bin .add i4 (.bin .mul i3 v5))))
abbrev wX:MS:=.app (.item v3 (s "levels")) (.a9 (E2 (.cmp .eq (.bin .mod (.bin .add (.bin .add v6 i1) v5) i2) i1) (.bin .mod (.bin .div v6 i2) i3)))
abbrev wY:MS:=.lZ (.item v3 (s "table"))
abbrev wZ:MS:=.asg 9 Pw
abbrev rP:MS:=.aT (.cmp .gt v5 i0) (S1 (.asg 9 (.call 62 (E3 v3 (.bin .sub v5 i1) (.call 61 (E3 v3 v5 (.item v3 (s "var")))))))) .nil
abbrev w8:MS:=.asg 10 (.ite (.val (.item (.item (.item v3 (s "levels")) v5) i0)) (.a9 (E1 (s "T"))) (.a9 .nil))
abbrev Dp:MS:=.dX (.attr v1 38) (.bin .add zt v5) (.new 1 (E7 (.bin .add zt v5) (s "C") g1 i0 v9 v10 i0))
abbrev Dq:MS:=.aT (.eZ (T2 (.cmp .eq v5 (.bin .sub v4 i1)) (.cmp .ne (.bin .mod (.bin .div v7 WV) i4) i3))) (S1 (.ex (.call 66 (E4 v3 v5 v7 (.lit (.bool false)))))) .nil
abbrev Dr:MS:=.aT (.val v8) (S1 (.ex (.call 66 (E4 v3 v5 v8 (.lit (.bool true)))))) .nil
abbrev rQ:aA:=.cons wW (.cons wX (.cons wY (.cons wZ (.cons rP (.cons w8 (.cons Dp (.cons Dq (.cons Dr .nil))))))))
noncomputable abbrev qj:MS:=.asg 1 (.new 3 .nil)
abbrev qk:MS:=.asg 2 (.attr v1 37)
abbrev ql:MS:=.asg 3 (.dW (.val (Str.ofString "store") v1 (.val (Str.ofString "var") (.call 11 (E2 v2 i0)) (.bV (Str.ofString "levels") (.bV (Str.ofString "table") (.bV (Str.ofString "mids") (.newD (Str.ofString "root") (.bV (Str.ofString "deeds") (.newD (Str.ofString "put") .nil)))))))))
abbrev qo:MS:=.ext (.attr v1 38) (.bin .mul (.lst (E1 (.lit .none))) JO)
abbrev j7:MS:=.aT (.cmp .ne (.bin .mod (.bin .div (.item v0 i0) U4) i5) i4) (S1 (.dX (.attr v1 38) i1 (.new 1 (E7 i1 (s "Object") g1 i0 (.neg i1) (.a9 .nil) i0)))) .nil
abbrev qp:MS:=.dX (.attr v1 38) JO (.new 1 (E7 JO (s "I") g3 i0 (.neg i1) (.a9 .nil) i0))
abbrev qq:MS:=.app (.attr (.item (.attr v1 38) JO) 17) i1
abbrev qr:MS:=.app (.attr v1 17) (.new 2 (E7 i1 JO (s "get_P") g6 (.bin .bor g2 g4) g7 (.a9 .nil)))
abbrev w9:MS:=.asg 4 (.bin .add i2 (.bin .mod (.item v0 i0) i3))
abbrev w_:MS:=.forR 5 (E1 v4) rQ
abbrev w':MS:=.ret v3
abbrev Vc:aA:=.cons qj (.cons qk (.cons ql (.cons qo (.cons j7 (.cons qp (.cons qq (.cons qr (.cons w9 (.cons w_ (.cons w' .nil))))))))))
def YS:Fn:=⟨1,11,Vc⟩
def Ds:aA:=S1 (.aT (.cx (T4 (.cmp .eq (.item v5 i0) (.item v2 i0)) (.cmp .eq (.len (.item v5 i1)) (.len (.item v2 i1))) (.val (.item v5 v3)) (.val (.call 64 (E1 v5))))) (S1 (.ret (.lit (.bool true)))) .nil)
def Dt:aA:=S1 (.cI [5] v4 Ds)
def YT:aA:=S5 (.asg 3 (.ite (.val (.item v2 i2)) i2 i3)) (.aT (.cmp .eq (.item v2 i4) g5) (S1 (.ret (.cmp .mem (.item v2 v3) (.item v0 (s "put"))))) .nil) (.aT (.cmp .ne (.item v2 i4) g0) (S1 (.ret (.lit (.bool false)))) .nil) (.cI [4] (.ri (.item v0 (s "table")) .nil (E1 v1)) Dt) (.ret (.lit (.bool false)))
def YU:Fn:=⟨3,6,YT⟩
def xa:aA:=S1 (.aT (.cx (T3 (.cmp .eq (.item v7 i0) (.item v3 i0)) (.val (.item v7 i5)) (.cmp .eq (.call 63 (E3 v0 v7 (.item v1 v6))) (.call 63 (E3 v0 v3 (.item v1 v2)))))) (S2 (.aT (.nt (.val (.call 69 (E3 v0 v6 v7)))) (S1 (.fw 5 .nil)) .nil) (.gL 5 (.a9 (E2 v6 (.item v7 v4))))) .nil)
def Du:aA:=S1 (.cI [7] (.item (.item v0 (s "table")) v6) xa)
def Dv:ME:=v0
def Dw:gZ:=T1 (.val (.item v0 i1))
noncomputable abbrev M1:MS:=.fw 5 .nil
abbrev M3:MS:=.forR 6 (E1 v2) Du
abbrev M4:MS:=.asg 5 (.comp Dv v5 Dw [])
abbrev M5:MS:=.aT (.cmp .eq (.len v5) i0) (S1 (.ret (.a9 .nil))) .nil
abbrev M6:MS:=.pI [6,8] (.item v5 (.neg i1))
abbrev M7:MS:=.ret (.a9 (E3 (.call 62 (E3 v0 v6 v1)) v8 (.a9 .nil)))
def YV:aA:=S6 M1 M3 M4 M5 M6 M7
def YW:Fn:=⟨5,9,YV⟩
def xc:aA:=S1 (.aT (.cx (T3 (.val v12) (.cmp .lt v13 v5) (.cmp .eq v14 v12))) (S1 (.asg 9 (.a9 (E3 (.call 62 (E3 v0 v13 v6)) v15 v3)))) .nil)
abbrev xd:MS:=.asg 5 (.bin .sub (.len (.item v0 (s "levels"))) i1)
abbrev xe:MS:=.asg 6 (.call 61 (E3 v0 v5 (.item v0 (s "var"))))
abbrev xf:MS:=.asg 7 (.bin .mod v2 (.bin .add (.len (.item v0 (s "mids"))) i1))
noncomputable abbrev xg:MS:=.asg 8 (.a9 .nil)
noncomputable abbrev xh:MS:=.asg 9 (.a9 .nil)
abbrev rR:MS:=.aT (.cmp .lt v7 (.len (.item v0 (s "mids")))) (S5 (.pI [10,11] (.item (.item v0 (s "mids")) v7)) (.asg 8 (.a9 (E3 (.call 62 (E3 v0 v10 v6)) v11 v3))) (.asg 9 v8) (.asg 12 (.ite (.cmp .lt v10 v5) (.g_ (.item v0 (s "root")) v11 i0) i0)) (.cI [13,14,15] (.item v0 (s "deeds")) xc)) .nil
abbrev oF:MS:=.aT (.nt (.val v4)) (S1 (.asg 9 (.a9 (E1 (.neg i1))))) .nil
abbrev rS:MS:=.iN (S1 (.ft 16 54 (E2 v1 v8))) (S1 (.asg 16 (.a9 (E1 (.neg i1)))))
abbrev oG:MS:=.ret (.cmp .eq kP v9)
def YX:aA:=.cons xd (.cons xe (.cons xf (.cons xg (.cons xh (.cons rR (.cons oF (.cons rS (.cons oG .nil))))))))
def JP:Fn:=⟨5,17,YX⟩
abbrev M8:ME:=.bin .mod v0 wt
abbrev M9:MS:=.asg 12 (.call 70 (E5 v2 v8 v7 v10 v11))
abbrev Dx:MS:=.aT (.cx (T2 (.cmp .eq v7 v4) (.cmp .ne (.call 52 (E4 v5 v9 (.item v10 i6) v11)) v12))) (S1 (.ret (.lit (.bool false)))) .nil
abbrev Dy:MS:=.aT (.val (.item v10 v11)) (S1 (.asg 12 (.a9 (E3 v9 (.item v10 v11) (.a9 .nil))))) (S1 (.aT (.nt (.val (.call 69 (E3 v2 v7 v10)))) (S1 (.asg 12 (.a9 .nil))) .nil))
abbrev M_:MS:=.aT (.cmp .ne (.call 53 (E4 v5 v9 (.item v10 i6) v11)) v12) (S1 (.ret (.lit (.bool false)))) .nil
abbrev Dz:aA:=S4 M9 Dx Dy M_
abbrev M':MS:=.cI [11] (.a9 (E2 i2 i3)) Dz
abbrev xi:aA:=S1 M'
abbrev DA:MS:=.asg 8 (.call 61 (E3 v2 v7 (.item (.a9 (E3 g7 F8 (.item v2 (s "var")))) (.bin .mod v6 i3))))
abbrev Na:MS:=.asg 9 (.call 62 (E3 v2 v7 v8))
abbrev Gq:MS:=.cI [10] (.item (.item v2 (s "table")) v7) xi
abbrev xj:aA:=S3 DA Na Gq
abbrev Gs:MS:=.aT (.nt (.val (.call 71 (E5 v2 v5 v15 v13 v14)))) (S1 (.ret (.lit (.bool false)))) .nil
abbrev xk:aA:=S1 Gs
abbrev qs:MS:=.asg 1 (.comp M8 (.ri v0 .nil (E1 U0)) .nil [])
abbrev qt:MS:=.asg 1 (.bin .add v1 (.bin .mul (.lst (E1 i0)) (.bin .sub U0 (.len v1))))
abbrev xl:MS:=.asg 2 (.call 68 (E1 v1))
abbrev qu:MS:=.asg 3 (.item v2 (s "store"))
abbrev qv:MS:=.asg 4 (.bin .sub (.len (.item v2 (s "levels"))) i1)
abbrev mI:MS:=.asg 5 (.new 7 (E3 (.new 6 (E2 v3 i0)) (.new 8 (E1 v3)) i0))
abbrev mJ:MS:=.bq v5 27 (.bin .add zt v4)
abbrev qw:MS:=.asg 6 (.bin .div (.item v1 i0) i3)
abbrev qx:MS:=.cI [7] (.a9 (E2 v4 (.bin .mod (.bin .div v6 i3) (.bin .add v4 i1)))) xj
abbrev mK:MS:=.asg 13 (.ite (.val (.bin .mod (.bin .div v6 WU) i2)) (.a9 (E1 F8)) (.a9 .nil))
abbrev qz:MS:=.asg 14 (.cmp .ne (.bin .mod (.bin .div (.item v1 i0) U4) i5) i4)
abbrev qA:MS:=.cI [15] (.a9 (E2 (.item v1 UZ) (.bin .div (.item v1 UZ) WW))) xk
noncomputable abbrev qB:MS:=.ret (.lit (.bool true))
abbrev Rk:aA:=.cons qs (.cons qt (.cons xl (.cons qu (.cons qv (.cons mI (.cons mJ (.cons qw (.cons qx (.cons mK (.cons qz (.cons qA (.cons qB .nil))))))))))))
def Vd:Fn:=⟨1,16,Rk⟩
end
def fns:List Fn:=[f0,f1,f2,f3,f4,f5,f6,f7,f8,f9,U5,W3,U6,U7,W4,W8,W_,Xb,Xd,Xf,Xh,Xj,Xl,Xn,Xp,Xr,Xu,Xw,Xy,XA,XD,XF,XH,XJ,XM,XO,XR,XU,XX,XZ,X4,X6,X8,X_,Yc,Ye,Yh,Yj,Yl,Yn,Yp,Yr,uj,Yu,Yw,U8,U9,U_,Va,YC,YE,YG,YI,YK,YM,YO,Vb,Rj,YS,YU,YW,JP,Vd]
noncomputable def meths:List (Nat×Nat×Nat):=[(0,(62,0)),(0,(5,1)),(0,(6,2)),(1,(62,20)),(2,(62,21)),(3,(62,22)),(4,(62,34)),(5,(62,55)),(6,(62,56)),(7,(62,57)),(8,(62,58)),(8,(11,59)),(8,(9,60))]
noncomputable def DB:List (Nat×Nat):=[(0,0),(1,20),(2,21),(3,22),(4,34),(5,55),(6,56),(7,57),(8,58)]
noncomputable def tC:List (Nat×Nat):=[(0,0),(0,1),(0,2),(0,3),(0,4),(1,7),(1,8),(1,9),(1,10),(1,11),(1,12),(1,13),(1,14),(1,15),(1,16),(1,17),(1,18),(1,19),(1,20),(1,21),(1,22),(1,23),(1,24),(1,25),(2,26),(2,27),(2,8),(2,28),(2,10),(2,29),(2,30),(2,31),(2,32),(2,13),(2,33),(2,34),(2,35),(2,36),(3,37),(3,38),(3,39),(3,17),(3,40),(3,41),(3,42),(4,43),(4,0),(4,44),(5,0),(6,45),(6,18),(6,47),(6,48),(6,49),(6,50),(6,51),(6,52),(6,53),(7,54),(7,45),(7,37),(7,46),(7,18),(7,55),(7,56),(7,57),(7,58),(7,27),(7,26),(7,59),(7,60),(8,37),(8,45),(8,15),(8,61)]
def prog:Prog where
 fn:=λi=>if i<72 then fns[i]? else none
 bU:=λc k=>(meths.find? λp=>p.1==c&&p.2.1==k).map (·.2.2)
 init:=λc=>DB.lookup c
 fld:=λc k=>tC.contains (c,k)
 tab:=λn=>match n with
  |0=>[(0,20),(1,9),(2,10),(3,11),(4,12),(5,13),(6,14),(7,15),(8,16),(9,17),(10,18),(11,19),(12,1),(13,4)]
  |1=>[(20,0),(9,1),(10,2),(11,3),(12,4),(13,5),(14,6),(15,7),(16,8),(17,9),(18,10),(19,11),(1,12),(4,13)]
  |2=>[(1,0),(2,1),(3,3),(4,5),(5,7),(6,15)]
  |_=>[]
noncomputable def h0:MH:=⟨λ_=>none,λ_=>0,0⟩
def Ve(Gu:List Int):Option aB:=dt prog (aa prog 39) Vd [.lst (Gu.map .int)] h0
end Mine.Internal
namespace Mine.Internal
namespace HG
section
open PySem PySem.W PySem.Calls PyProof.Rows
noncomputable abbrev pr:Program:=PySem.Challenge.rw_sz0049_01.prog
noncomputable def S(x:String):Str:=Str.ofString x
noncomputable def t(x:String) (k:Nat):Value:=.str (Str.ofString x) k
noncomputable def i0(i:Int):Value:=.int i 0
noncomputable def e(P:Params) (x:String) (k:Nat) (v:Value):DictEntry:=⟨PyData.keyHash P (Str.ofString x),.str (Str.ofString x) k,v⟩
def er(P:Params) (x:String) (k a:Nat):DictEntry:=e P x k (.ref a)
def ei(P:Params) (x:String) (k:Nat) (i:Int):DictEntry:=e P x k (.int i (k-1))
def st(i:Nat):Stmt:=(pr.main.body[i]?).getD (.Pass default)
def sm(i j:Nat):Stmt:=match st i with
 |.ClassDef _ _ _ b _ _ _ _ _ _ _=>(b[j]?).getD (.Pass default)
 |s=>s
noncomputable def fd(s:Stmt) (q:String) (g:Addr) (pm cd ct:Value):FuncData:=match s with
 |.FunctionDef nm args body _ _ _ sc _ _ _=>{ name:=nm,qualname:=Str.ofString q,params:=args,body:=.stmts body,scope:=sc,globals:=g,closure:=[],defaults:=.none,kwdefaults:=.none,pyModule:=pm,code:=cd,closureTuple:=ct }
 |_=>default
noncomputable abbrev N:=BT.node
noncomputable abbrev X:=BT.nil
noncomputable def cut(n:Nat):BT->Nat->Nat->BT
 |.nil,_,_=>.nil
 |.node v l r,a,b=>match Nat.blt b n with
  |true=>.node v (cut n l (2*a) (a+b)) (cut n r (2*a) (2*a+b))
  |false=>.nil
noncomputable def tu(l:List Value):Obj:={ cls:=.type "tuple",data:=.seq l.toArray }
noncomputable def fl(l:List Value):Obj:={ cls:=.none,data:=.fields l.toArray }
def tz:=tu []
def fz:=fl []
noncomputable def bt(x:String) (l:List Value):Obj:={ cls:=.type x,data:=.fields l.toArray }
def bf(x:String) (v:Value):=bt "builtin_function_or_method" [.builtin x,v]
def su(v:Value):=bt "super" [v,v,v]
def gs(x:String) (k c:Nat) (v w:Value):=bt "getset_descriptor" [t x k,.ref c,v,w]
noncomputable def fr(c d:Nat) (m:Value):Obj:={ cls:=.type "frame",slots:=#[some (.ref c),some (.ref 3),some (.ref d),none,some m,none,some (.ref 0)] }
def FN(k:Nat):=t "/claim/cut.py" k
def cd(n q:String) (k l a s b:Nat) (f:Bool) (v:List Value) (z:Nat):=bt "code" (t n k::t q (k+1)::FN (k+2)::i0 l::i0 a::i0 0::i0 0::i0 s::.ref b::.bool f::i0 181::v++[i0 z,i0 l,FN (z+1)])
noncomputable def cl(n:String) (k l a b z:Nat):=cd n n k l 0 0 a false [.ref b,.none,.none,.none,.none] z
noncomputable def dd(l:List DictEntry) (n:Nat):Obj:={ cls:=.type "dict",data:=.dict l.toArray n }
noncomputable def uk(c:Int):List Nat->List Value
 |a::b::l=>i0 a::i0 c::.ref b::uk c l
 |_=>[]
noncomputable def Vf:Nat->List String->List Value
 |_,[]=>[]
 |k,x::l=>t x k::Vf (k+1) l
def OF(b:Nat) (s:Stmt) (m:Value) (n q:String) (k l a:Nat) (v:List String):Nat->Obj
 |0 | 3=>tz
 |1=>fz
 |2=>tu (Vf (k+3) v)
 |4=>{ cls:=.none,data:=.func (fd s q 0 .none .none .none) }
 |5=>cd n q k l a 3 b true [.ref (b+1),.none,.ref (b+2),.ref (b+3),.ref (b+4)] (k+3+v.length)
 |_=>{ cls:=.type "function",data:=.func (fd s q 3 m (.ref (b+5)) .none) }
def OG(b:Nat) (s:Stmt) (m:Value) (n q:String) (k l a:Nat):Nat->Obj
 |0=>tz
 |1=>fz
 |2=>{ cls:=.none,data:=.func (fd s q 0 .none .none .none) }
 |3=>cd n q k l a 3 b true [.ref (b+1),.none,.none,.none,.ref (b+2)] (k+3)
 |_=>{ cls:=.type "function",data:=.func (fd s q 3 m (.ref (b+3)) .none) }
def Rl:=t "__main__" 164
def Py:=t "framerune.faults" 194
def hY:=t "framerune.kinds" 267
def qC:=t "framerune.store" 655
def Vg:=t "framerune.kindline" 912
def YY:=t "framerune.layout" 932
def pz:=t "framerune.vtable" 944
def Gw:=t "framerune.csmember" 1148
def Nb:=t "framerune.csnodes" 1213
def Vh:=t "framerune.csbound" 1268
def qD:=t "framerune.cscore" 1308
def mL:=t "framerune.kindrel" 1397
def iF:=t "law_sz0049_01" 1481
def G0:=OF 15 (st 0) Rl "_wall" "_wall" 187 1 1 ["k"]
def G1:=OF 29 (sm 6 0) Py "__init__" "RuneError.__init__" 216 11 3 ["self","code","at"]
def G2:=OF 75 (sm 44 0) hY "__init__" "KindTable.__init__" 403 55 1 ["self","number","row"]
def G3:=OF 82 (sm 44 1) hY "row" "KindTable.row" 412 69 2 ["self","k"]
def G4:=OF 89 (sm 44 2) hY "put" "KindTable.put" 420 74 2 ["self","row","found","depth","weight","opened","level","inner","k"]
def G5:=OF 103 (st 45) hY "inner_kinds" "inner_kinds" 448 102 1 ["row","sort"]
def G6:=OF 110 (st 46) hY "row_level" "row_level" 456 111 1 ["sort"]
def G7:=OF 117 (st 47) hY "row_length" "row_length" 463 115 1 ["sort"]
def G8:=OF 124 (st 48) hY "check_kind_row" "check_kind_row" 470 121 2 ["kt","row","sort","inner"]
def G9:=OF 131 (st 49) hY "check_named" "check_named" 480 143 2 ["kt","row"]
def Gy:=OF 138 (st 50) hY "check_args" "check_args" 488 147 2 ["kt","args","arg"]
def Gz:=OF 145 (st 51) hY "may_stand" "may_stand" 497 151 2 ["kt","k","sort"]
def GA:=OF 152 (st 52) hY "class_kind" "class_kind" 506 156 3 ["kt","tid","args"]
def GB:=OF 159 (st 53) hY "value_kind" "value_kind" 515 160 3 ["kt","tid","args"]
def GC:=OF 166 (st 54) hY "prim_kind" "prim_kind" 524 164 2 ["tid","args"]
def GD:=OF 173 (st 55) hY "var_kind" "var_kind" 532 168 2 ["kt","i"]
def GF:=OF 180 (st 56) hY "kind_sort" "kind_sort" 540 170 2 ["kt","k"]
def GG:=OF 187 (st 57) hY "elem_of" "elem_of" 548 172 2 ["kt","k","row"]
def GH:=OF 194 (st 58) hY "tid_of" "tid_of" 557 177 2 ["kt","k","row"]
def GI:=OF 201 (st 59) hY "args_of" "args_of" 566 186 2 ["kt","k","row"]
def GJ:=OF 208 (st 60) hY "is_value" "is_value" 575 191 2 ["kt","k"]
def GK:=OF 215 (st 61) hY "is_var" "is_var" 583 195 2 ["kt","k","sort"]
def GL:=OF 222 (st 62) hY "close" "close" 592 198 4 ["kt","k","targs","margs"]
def GN:=OF 229 (st 63) hY "close_in" "close_in" 602 203 5 ["kt","k","targs","margs","seen","row","inner","part"]
def GO:=OF 236 (st 64) hY "with_inner" "with_inner" 616 218 3 ["kt","row","inner","sort"]
def GP:=OF 243 (st 65) hY "box_of" "box_of" 626 227 2 ["kt","k"]
def GQ:=OF 250 (st 66) hY "pick_arg" "pick_arg" 634 235 3 ["args","place","k"]
def GR:=OF 257 (st 67) hY "close_all" "close_all" 643 239 4 ["kt","ks","targs","margs","out","k"]
def GU:=OF 271 (sm 83 0) qC "__init__" "TypeDef.__init__" 697 261 8 ["self","tid","name","sort","flags","base","params","asm","word"]
def GV:=OF 292 (sm 84 0) qC "__init__" "MethodDef.__init__" 751 287 8 ["self","mid","owner","name","access","flags","ret","params"]
def GW:=OF 313 (sm 85 0) qC "__init__" "Store.__init__" 799 304 1 ["self"]
def GX:=OF 327 (st 86) qC "plain_names" "plain_names" 821 312 1 ["count","out","place"]
def GY:=OF 334 (st 87) qC "self_kind" "self_kind" 830 317 2 ["store","tid","t","args","place"]
def GZ:=OF 341 (st 88) qC "kind_with" "kind_with" 841 325 3 ["store","tid","args","sort"]
def G_:=OF 348 (st 89) qC "type_of" "type_of" 851 330 2 ["store","k","tid"]
def Ha:=OF 355 (st 90) qC "find_methods" "find_methods" 860 335 3 ["store","tid","name","out","mid"]
def Hb:=OF 362 (st 91) qC "base_of" "base_of" 871 341 2 ["store","k","kt","sort","t"]
def Hc:=OF 369 (st 92) qC "base_of_prim" "base_of_prim" 882 360 2 ["store","k"]
def Hd:=OF 376 (st 93) qC "method_sig" "method_sig" 890 366 2 ["store","mref","m","targs"]
def He:=OF 383 (st 101) Vg "is_iface" "is_iface" 914 381 2 ["host","k"]
def Hf:=OF 390 (st 102) Vg "base_chain" "base_chain" 922 383 2 ["host","k","out","seen"]
def Hg:=OF 397 (st 104) YY "levels_of" "levels_of" 934 392 2 ["store","k","out","seen"]
def Hh:=OF 412 (sm 108 0) pz "__init__" "VTable.__init__" 973 407 2 ["self","kind"]
def Hi:=OF 426 (st 109) pz "table_levels" "table_levels" 992 411 2 ["store","k","out","at"]
def Hj:=OF 433 (st 110) pz "open_line" "open_line" 1002 419 3 ["store","levels","place"]
def Hk:=OF 440 (st 111) pz "vtable_of" "vtable_of" 1011 423 2 ["store","k","vt","levels","place"]
def Hl:=OF 447 (st 112) pz "put_level" "put_level" 1022 431 4 ["store","vt","at","line","t","mid","m","seen","row"]
def Hm:=OF 454 (st 113) pz "put_method" "put_method" 1037 443 5 ["store","vt","at","line","mid","m","found","old","base"]
def Hn:=OF 461 (st 114) pz "put_impl" "put_impl" 1052 460 6 ["store","vt","at","line","row","seen","body","decl_owner","decl","own","slot"]
def Ho:=OF 468 (st 115) pz "is_instance_body" "is_instance_body" 1069 476 2 ["store","mid","flags"]
def Hp:=OF 475 (st 116) pz "overridden" "overridden" 1078 479 3 ["store","line","mid","last","above","other"]
def Hq:=OF 482 (st 117) pz "could_override" "could_override" 1090 488 2 ["store","mid","m"]
def Hr:=OF 489 (st 118) pz "no_stricter" "no_stricter" 1099 491 5 ["store","owner1","mid1","owner2","mid2","bounds1","bounds2","i","have","k"]
def Hs:=OF 496 (st 119) pz "same_signature" "same_signature" 1115 502 6 ["store","owner1","mid1","owner2","mid2","by_name","x","y"]
def Ht:=OF 503 (st 120) pz "narrower" "narrower" 1129 510 3 ["store","m","base","old","elsewhere"]
def Hu:=OF 510 (st 121) pz "slot_of" "slot_of" 1140 516 2 ["vt","mid"]
def Nd:=OG 517 (st 123) Gw "is_override" "is_override" 1150 519 3
def Hv:=OF 522 (st 124) Gw "has_slot" "has_slot" 1156 533 3 ["store","tid","m","mid","b"]
def Hw:=OF 529 (st 125) Gw "prop_mid" "prop_mid" 1167 539 1 ["row"]
def Nf:=OG 536 (st 126) Gw "same_prop" "same_prop" 1174 541 5
def Hx:=OF 541 (st 127) Gw "base_accessor" "base_accessor" 1180 547 4 ["cx","at","row","place","up","t","other"]
def Hy:=OF 548 (st 128) Gw "accessor_ref" "accessor_ref" 1193 560 4 ["cx","at","row","place"]
def Hz:=OF 555 (st 129) Gw "nearest_override" "nearest_override" 1203 566 2 ["cx","mref","vt","slot"]
def HA:=OF 569 (sm 131 0) Nb "__init__" "Diags.__init__" 1227 575 1 ["self"]
def HB:=OF 576 (sm 131 1) Nb "put" "Diags.put" 1234 578 4 ["self","number","at","words"]
def HC:=OF 583 (sm 131 2) Nb "cut" "Diags.cut" 1244 581 2 ["self","count"]
def HD:=OF 590 (sm 131 3) Nb "numbers" "Diags.numbers" 1252 585 1 ["self"]
def HE:=OF 611 (sm 133 0) Vh "__init__" "Unit.__init__" 1282 590 3 ["self","store","asm"]
def HF:=OF 632 (sm 135 0) qD "__init__" "Yard.__init__" 1322 603 4 ["self","unit","host","asm"]
def HH:=OF 639 (sm 135 1) qD "kind" "Yard.kind" 1332 618 2 ["self","node"]
def HI:=OF 646 (sm 135 2) qD "fault" "Yard.fault" 1340 621 4 ["self","number","node","words"]
def HJ:=OF 653 (sm 135 3) qD "show" "Yard.show" 1350 624 2 ["self","k"]
def HK:=OF 660 (sm 135 4) qD "kept" "Yard.kept" 1358 627 3 ["self","k","node"]
def HL:=OF 674 (st 136) qD "yard_kept" "yard_kept" 1388 629 3 ["yard","k","node"]
def HM:=OF 688 (sm 138 0) mL "__init__" "LineHost.__init__" 1411 637 2 ["self","store"]
def HN:=OF 695 (sm 138 1) mL "base" "LineHost.base" 1419 643 2 ["self","k"]
def HO:=OF 702 (sm 138 2) mL "ifaces_at" "LineHost.ifaces_at" 1427 646 2 ["self","k"]
def HP:=OF 709 (sm 138 3) mL "sort" "LineHost.sort" 1435 649 2 ["self","k","t"]
def HQ:=OF 716 (sm 138 4) mL "variance" "LineHost.variance" 1444 653 2 ["self","tid"]
def HS:=OF 723 (sm 138 5) mL "under" "LineHost.under" 1452 656 2 ["self","k"]
def HT:=OF 737 (st 139) mL "store_under" "store_under" 1472 658 2 ["store","k","t"]
def HU:=OF 744 (st 147) iF "_law_args" "_law_args" 1495 672 3 ["w","i","arg","out","wide","given","own"]
def HV:=OF 751 (st 148) iF "_law_kind" "_law_kind" 1508 680 3 ["w","i","args"]
def Ng:=OG 758 (st 149) iF "_law_index" "_law_index" 1517 682 3
def HW:=OF 763 (st 150) iF "_law_slotted" "_law_slotted" 1523 684 1 ["row"]
def HX:=OF 770 (st 151) iF "_law_stands_for" "_law_stands_for" 1530 686 4 ["w","i","row","part","args","mine","j","other"]
def HY:=OF 777 (st 152) iF "_law_row" "_law_row" 1544 695 4 ["w","i","x","second","store","parts","mode","name","index","flags","mids","seen","part","access","mid","kinds","whole","row"]
def HZ:=OF 784 (st 153) iF "_law_note" "_law_note" 1568 732 4 ["w","i","row","part","store","mid","found","owner"]
def H0:=OF 791 (st 154) iF "_law_world" "_law_world" 1582 749 1 ["nums","store","kt","w","count","i","shape","first","second","base","params"]
def H2:=OF 798 (st 155) iF "_law_overrides" "_law_overrides" 1599 774 3 ["w","i","row","part","table","other"]
def Nh:=OG 805 (st 156) iF "_law_below" "_law_below" 1611 785 5
def H3:=OF 810 (st 157) iF "_law_runs" "_law_runs" 1617 798 5 ["w","yard","turn","kept","stands","top","args","spot","mref","want","i","mid","slot","level","root","last","got"]
def Ni:=OG 817 (st 158) iF "law" "law" 1640 819 1
def o2(P:Params):Obj:={ cls:=.none,data:=.dict #[e P "type.__subclasses__.Exception.0" 231 (i0 38),e P "type.__subclasses__.Exception.n" 232 (i0 1)] 2 }
def YZ(P:Params):=dd [e P "__module__" 211 (t "framerune.faults" 194),e P "__qualname__" 213 (t "RuneError" 212),ei P "__firstlineno__" 215 9,er P "__init__" 224 35,er P "__static_attributes__" 227 36] 5
def Y0(P:Params):=dd [e P "__module__" 211 (t "framerune.faults" 194),ei P "__firstlineno__" 215 9,er P "__init__" 224 35,er P "__static_attributes__" 227 36,er P "__weakref__" 229 39,e P "__doc__" 230 .none] 3
def Y1:Obj:={ cls:=(.type "type"),data:=.cls { name:=S "RuneError",bases:=[(.type "Exception")],mro:=[(.ref 38),(.type "Exception"),(.type "BaseException"),(.type "object")],ns:=37,qualname:=S "RuneError",subclasses:=[(.ref 51),(.ref 63)] },slots:=#[some (.ref 22),none,some (t "RuneError" 204),some (t "RuneError" 212),some (.builtin "Exception.__new__"),some (.bool true)] }
def Y2(P:Params):=dd [e P "__module__" 242 (t "framerune.faults" 194),e P "__qualname__" 244 (t "BadKind" 243),ei P "__firstlineno__" 246 14,er P "__static_attributes__" 247 49] 4
def Y3(P:Params):=dd [e P "__module__" 242 (t "framerune.faults" 194),ei P "__firstlineno__" 246 14,er P "__static_attributes__" 247 49,e P "__doc__" 248 .none] 2
def Y4:Obj:={ cls:=(.type "type"),data:=.cls { name:=S "BadKind",bases:=[(.ref 38)],mro:=[(.ref 51),(.ref 38),(.type "Exception"),(.type "BaseException"),(.type "object")],ns:=50,qualname:=S "BadKind" },slots:=#[some (.ref 42),none,some (t "BadKind" 235),some (t "BadKind" 243),some (.builtin "Exception.__new__"),some (.bool true)] }
def Y5(P:Params):=dd [e P "__module__" 258 (t "framerune.faults" 194),e P "__qualname__" 260 (t "LoadFault" 259),ei P "__firstlineno__" 262 16,er P "__static_attributes__" 263 61] 4
def Y6(P:Params):=dd [e P "__module__" 258 (t "framerune.faults" 194),ei P "__firstlineno__" 262 16,er P "__static_attributes__" 263 61,e P "__doc__" 264 .none] 2
def Y7:Obj:={ cls:=(.type "type"),data:=.cls { name:=S "LoadFault",bases:=[(.ref 38)],mro:=[(.ref 63),(.ref 38),(.type "Exception"),(.type "BaseException"),(.type "object")],ns:=62,qualname:=S "LoadFault" },slots:=#[some (.ref 54),none,some (t "LoadFault" 251),some (t "LoadFault" 259),some (.builtin "Exception.__new__"),some (.bool true)] }
def Rm(P:Params):=dd [⟨0,.int 0 269,(.int 20 329)⟩,⟨1,.int 1 271,(.int 9 330)⟩,⟨2,.int 2 273,(.int 10 331)⟩,⟨3,.int 3 275,(.int 11 332)⟩,⟨4,.int 4 277,(.int 12 333)⟩,⟨5,.int 5 279,(.int 13 334)⟩,⟨6,.int 6 281,(.int 14 335)⟩,⟨7,.int 7 283,(.int 15 336)⟩,⟨8,.int 8 285,(.int 16 337)⟩,⟨9,.int 9 287,(.int 17 338)⟩,⟨10,.int 10 289,(.int 18 339)⟩,⟨11,.int 11 291,(.int 19 340)⟩,⟨12,.int 12 293,(.int 1 341)⟩,⟨13,.int 13 295,(.int 4 342)⟩] 14
def Rn(P:Params):=dd [⟨20,.int 20 358,(.int 0 269)⟩,⟨9,.int 9 359,(.int 1 271)⟩,⟨10,.int 10 360,(.int 2 273)⟩,⟨11,.int 11 361,(.int 3 275)⟩,⟨12,.int 12 362,(.int 4 277)⟩,⟨13,.int 13 363,(.int 5 279)⟩,⟨14,.int 14 364,(.int 6 281)⟩,⟨15,.int 15 365,(.int 7 283)⟩,⟨16,.int 16 366,(.int 8 285)⟩,⟨17,.int 17 367,(.int 9 287)⟩,⟨18,.int 18 368,(.int 10 289)⟩,⟨19,.int 19 369,(.int 11 291)⟩,⟨1,.int 1 370,(.int 12 293)⟩,⟨4,.int 4 371,(.int 13 295)⟩] 14
def Y8(P:Params):=dd [e P "__module__" 398 (t "framerune.kinds" 267),e P "__qualname__" 400 (t "KindTable" 399),ei P "__firstlineno__" 402 53,er P "__init__" 411 81,er P "row" 419 88,er P "put" 434 95,er P "__static_attributes__" 440 96] 7
def Y9(P:Params):=dd [e P "__module__" 398 (t "framerune.kinds" 267),ei P "__firstlineno__" 402 53,er P "__init__" 411 81,er P "row" 419 88,er P "put" 434 95,er P "__static_attributes__" 440 96,er P "__dict__" 442 99,er P "__weakref__" 444 100,e P "__doc__" 445 .none] 4
def Y_:Obj:={ cls:=(.type "type"),data:=.cls { name:=S "KindTable",bases:=[(.type "object")],mro:=[(.ref 98),(.type "object")],ns:=97,qualname:=S "KindTable" },slots:=#[none,none,some (t "KindTable" 391),some (t "KindTable" 399),some (.builtin "object.__new__"),some (.bool true)] }
def Ro(P:Params):=dd [e P "__module__" 692 (t "framerune.store" 655),e P "__qualname__" 694 (t "TypeDef" 693),ei P "__firstlineno__" 696 259,er P "__init__" 711 277,er P "__static_attributes__" 731 278] 5
def Rp(P:Params):=dd [e P "__module__" 692 (t "framerune.store" 655),ei P "__firstlineno__" 696 259,er P "__init__" 711 277,er P "__static_attributes__" 731 278,er P "__dict__" 733 281,er P "__weakref__" 735 282,e P "__doc__" 736 .none] 4
def Rq:Obj:={ cls:=(.type "type"),data:=.cls { name:=S "TypeDef",bases:=[(.type "object")],mro:=[(.ref 280),(.type "object")],ns:=279,qualname:=S "TypeDef" },slots:=#[none,none,some (t "TypeDef" 685),some (t "TypeDef" 693),some (.builtin "object.__new__"),some (.bool true)] }
def Rr(P:Params):=dd [e P "__module__" 746 (t "framerune.store" 655),e P "__qualname__" 748 (t "MethodDef" 747),ei P "__firstlineno__" 750 285,er P "__init__" 764 298,er P "__static_attributes__" 779 299] 5
def Rt(P:Params):=dd [e P "__module__" 746 (t "framerune.store" 655),ei P "__firstlineno__" 750 285,er P "__init__" 764 298,er P "__static_attributes__" 779 299,er P "__dict__" 781 302,er P "__weakref__" 783 303,e P "__doc__" 784 .none] 4
def Ru:Obj:={ cls:=(.type "type"),data:=.cls { name:=S "MethodDef",bases:=[(.type "object")],mro:=[(.ref 301),(.type "object")],ns:=300,qualname:=S "MethodDef" },slots:=#[none,none,some (t "MethodDef" 739),some (t "MethodDef" 747),some (.builtin "object.__new__"),some (.bool true)] }
def Rx(P:Params):=dd [e P "__module__" 794 (t "framerune.store" 655),e P "__qualname__" 796 (t "Store" 795),ei P "__firstlineno__" 798 302,er P "__init__" 805 319,er P "__static_attributes__" 813 320] 5
def Ry(P:Params):=dd [e P "__module__" 794 (t "framerune.store" 655),ei P "__firstlineno__" 798 302,er P "__init__" 805 319,er P "__static_attributes__" 813 320,er P "__dict__" 815 323,er P "__weakref__" 817 324,e P "__doc__" 818 .none] 4
def Rz:Obj:={ cls:=(.type "type"),data:=.cls { name:=S "Store",bases:=[(.type "object")],mro:=[(.ref 322),(.type "object")],ns:=321,qualname:=S "Store" },slots:=#[none,none,some (t "Store" 787),some (t "Store" 795),some (.builtin "object.__new__"),some (.bool true)] }
def H4(P:Params):=dd [⟨1,.int 1 900,(.int 0 946)⟩,⟨2,.int 2 902,(.int 1 947)⟩,⟨3,.int 3 904,(.int 3 948)⟩,⟨4,.int 4 906,(.int 5 949)⟩,⟨5,.int 5 908,(.int 7 950)⟩,⟨6,.int 6 910,(.int 15 951)⟩] 6
def RA(P:Params):=dd [e P "__module__" 968 (t "framerune.vtable" 944),e P "__qualname__" 970 (t "VTable" 969),ei P "__firstlineno__" 972 405,er P "__init__" 980 418,er P "__static_attributes__" 984 419] 5
def RB(P:Params):=dd [e P "__module__" 968 (t "framerune.vtable" 944),ei P "__firstlineno__" 972 405,er P "__init__" 980 418,er P "__static_attributes__" 984 419,er P "__dict__" 986 422,er P "__weakref__" 988 423,e P "__doc__" 989 .none] 4
def RC:Obj:={ cls:=(.type "type"),data:=.cls { name:=S "VTable",bases:=[(.type "object")],mro:=[(.ref 421),(.type "object")],ns:=420,qualname:=S "VTable" },slots:=#[none,none,some (t "VTable" 961),some (t "VTable" 969),some (.builtin "object.__new__"),some (.bool true)] }
def RD(P:Params):=dd [e P "__module__" 1222 (t "framerune.csnodes" 1213),e P "__qualname__" 1224 (t "Diags" 1223),ei P "__firstlineno__" 1226 573,er P "__init__" 1233 575,er P "put" 1243 582,er P "cut" 1251 589,er P "numbers" 1258 596,er P "__static_attributes__" 1260 597] 8
def RE(P:Params):=dd [e P "__module__" 1222 (t "framerune.csnodes" 1213),ei P "__firstlineno__" 1226 573,er P "__init__" 1233 575,er P "put" 1243 582,er P "cut" 1251 589,er P "numbers" 1258 596,er P "__static_attributes__" 1260 597,er P "__dict__" 1262 600,er P "__weakref__" 1264 601,e P "__doc__" 1265 .none] 4
def RF:Obj:={ cls:=(.type "type"),data:=.cls { name:=S "Diags",bases:=[(.type "object")],mro:=[(.ref 599),(.type "object")],ns:=598,qualname:=S "Diags" },slots:=#[none,none,some (t "Diags" 1215),some (t "Diags" 1223),some (.builtin "object.__new__"),some (.bool true)] }
def RG(P:Params):=dd [e P "__module__" 1277 (t "framerune.csbound" 1268),e P "__qualname__" 1279 (t "Unit" 1278),ei P "__firstlineno__" 1281 588,er P "__init__" 1290 617,er P "__static_attributes__" 1300 618] 5
def RH(P:Params):=dd [e P "__module__" 1277 (t "framerune.csbound" 1268),ei P "__firstlineno__" 1281 588,er P "__init__" 1290 617,er P "__static_attributes__" 1300 618,er P "__dict__" 1302 621,er P "__weakref__" 1304 622,e P "__doc__" 1305 .none] 4
def RI:Obj:={ cls:=(.type "type"),data:=.cls { name:=S "Unit",bases:=[(.type "object")],mro:=[(.ref 620),(.type "object")],ns:=619,qualname:=S "Unit" },slots:=#[none,none,some (t "Unit" 1270),some (t "Unit" 1278),some (.builtin "object.__new__"),some (.bool true)] }
def RJ(P:Params):=dd [e P "__module__" 1317 (t "framerune.cscore" 1308),e P "__qualname__" 1319 (t "Yard" 1318),ei P "__firstlineno__" 1321 601,er P "__init__" 1331 638,er P "kind" 1339 645,er P "fault" 1349 652,er P "show" 1357 659,er P "kept" 1366 666,er P "__static_attributes__" 1380 667] 9
def RK(P:Params):=dd [e P "__module__" 1317 (t "framerune.cscore" 1308),ei P "__firstlineno__" 1321 601,er P "__init__" 1331 638,er P "kind" 1339 645,er P "fault" 1349 652,er P "show" 1357 659,er P "kept" 1366 666,er P "__static_attributes__" 1380 667,er P "__dict__" 1382 670,er P "__weakref__" 1384 671,e P "__doc__" 1385 .none] 4
def RL:Obj:={ cls:=(.type "type"),data:=.cls { name:=S "Yard",bases:=[(.type "object")],mro:=[(.ref 669),(.type "object")],ns:=668,qualname:=S "Yard" },slots:=#[none,none,some (t "Yard" 1310),some (t "Yard" 1318),some (.builtin "object.__new__"),some (.bool true)] }
def RM(P:Params):=dd [e P "__module__" 1406 (t "framerune.kindrel" 1397),e P "__qualname__" 1408 (t "LineHost" 1407),ei P "__firstlineno__" 1410 635,er P "__init__" 1418 694,er P "base" 1426 701,er P "ifaces_at" 1434 708,er P "sort" 1443 715,er P "variance" 1451 722,er P "under" 1459 729,er P "__static_attributes__" 1464 730] 10
def RN(P:Params):=dd [e P "__module__" 1406 (t "framerune.kindrel" 1397),ei P "__firstlineno__" 1410 635,er P "__init__" 1418 694,er P "base" 1426 701,er P "ifaces_at" 1434 708,er P "sort" 1443 715,er P "variance" 1451 722,er P "under" 1459 729,er P "__static_attributes__" 1464 730,er P "__dict__" 1466 733,er P "__weakref__" 1468 734,e P "__doc__" 1469 .none] 4
def RO:Obj:={ cls:=(.type "type"),data:=.cls { name:=S "LineHost",bases:=[(.type "object")],mro:=[(.ref 732),(.type "object")],ns:=731,qualname:=S "LineHost" },slots:=#[none,none,some (t "LineHost" 1399),some (t "LineHost" 1407),some (.builtin "object.__new__"),some (.bool true)] }
def L3(P:Params):=[e P "__doc__" 166 .none,e P "__package__" 167 .none,e P "__loader__" 168 (.builtin "__main__.__loader__#opaque"),e P "__spec__" 169 .none,er P "__annotations__" 170 6,er P "__builtins__" 171 4,e P "__file__" 173 (t "/claim/cut.py" 172),e P "__cached__" 174 .none,er P "_wall" 193 21,ei P "LF_NOTYPE" 197 1,ei P "LF_CIRCLE" 199 2,ei P "LF_OVERRIDE" 201 7,
ei P "LF_BOUND" 203 8,er P "RuneError" 234 38,er P "BadKind" 250 51,er P "LoadFault" 266 63,ei P "VOID" 270 0,ei P "BOOL" 272 1,ei P "CHAR" 274 2,ei P "I1" 276 3,ei P "U1" 278 4,ei P "I2" 280 5,ei P "U2" 282 6,ei P "I4" 284 7,
ei P "U4" 286 8,ei P "I8" 288 9,ei P "U8" 290 10,ei P "NINT" 292 11,ei P "OBJECT" 294 12,ei P "STRING" 296 13,ei P "NULLK" 298 14,ei P "BAD" 300 15,ei P "PRIM_END" 302 16,ei P "R_PRIM" 304 1,ei P "R_CLASS" 306 2,ei P "R_VALUE" 308 3,
ei P "R_ARRAY" 310 4,ei P "R_BYREF" 312 5,ei P "R_VAR" 314 6,ei P "R_MVAR" 316 7,ei P "R_BOXED" 318 8,ei P "R_ROREF" 320 9,ei P "R_FTN" 322 10,ei P "R_RAW" 324 11,ei P "DEEPEST_KIND" 326 24,ei P "HEAVIEST_KIND" 328 4096,er P "PRIM_TID" 357 66,er P "TID_PRIM" 386 67,
ei P "ARRAY_TID" 388 5,ei P "NULLABLE_TID" 390 8,er P "KindTable" 447 98,er P "inner_kinds" 455 109,er P "row_level" 462 116,er P "row_length" 469 123,er P "check_kind_row" 479 130,er P "check_named" 487 137,er P "check_args" 496 144,er P "may_stand" 505 151,er P "class_kind" 514 158,er P "value_kind" 523 165,
er P "prim_kind" 531 172,er P "var_kind" 539 179,er P "kind_sort" 547 186,er P "elem_of" 556 193,er P "tid_of" 565 200,er P "args_of" 574 207,er P "is_value" 582 214,er P "is_var" 591 221,er P "close" 601 228,er P "close_in" 615 235,er P "with_inner" 625 242,er P "box_of" 633 249,
er P "pick_arg" 642 256,er P "close_all" 654 263,ei P "S_CLASS" 658 1,ei P "S_STRUCT" 660 2,ei P "S_IFACE" 662 3,ei P "S_ENUM" 664 5,ei P "VA_NONE" 666 0,ei P "MF_STATIC" 668 1,ei P "MF_VIRTUAL" 670 2,ei P "MF_NEWSLOT" 672 4,ei P "MF_ABSTRACT" 674 8,ei P "MF_FINAL" 676 16,
ei P "MF_SPECIAL" 678 128,ei P "T_VALUETYPE" 680 2,ei P "T_ENUM" 682 3,ei P "T_ARRAY" 684 5,er P "TypeDef" 738 280,er P "MethodDef" 786 301,er P "Store" 820 322,er P "plain_names" 829 333,er P "self_kind" 840 340,er P "kind_with" 850 347,er P "type_of" 859 354,er P "find_methods" 870 361,
er P "base_of" 881 368,er P "base_of_prim" 889 375,er P "method_sig" 899 382,ei P "A_PRIVATE" 901 1,ei P "A_FAMANDASM" 903 2,ei P "A_ASSEMBLY" 905 3,ei P "A_FAMILY" 907 4,ei P "A_FAMORASM" 909 5,ei P "A_PUBLIC" 911 6,er P "is_iface" 921 389,er P "base_chain" 931 396,er P "levels_of" 943 403,
er P "REACH" 958 404,ei P "REACH_ELSEWHERE" 960 12,er P "VTable" 991 421,er P "table_levels" 1001 432,er P "open_line" 1010 439,er P "vtable_of" 1021 446,er P "put_level" 1036 453,er P "put_method" 1051 460,er P "put_impl" 1068 467,er P "is_instance_body" 1077 474,er P "overridden" 1089 481,er P "could_override" 1098 488,
er P "no_stricter" 1114 495,er P "same_signature" 1128 502,er P "narrower" 1139 509,er P "slot_of" 1147 516,er P "is_override" 1155 521,er P "has_slot" 1166 528,er P "prop_mid" 1173 535,er P "same_prop" 1179 540,er P "base_accessor" 1192 547,er P "accessor_ref" 1202 554,er P "nearest_override" 1212 561,er P "Diags" 1267 599,
er P "Unit" 1307 620,er P "Yard" 1387 669,er P "yard_kept" 1396 680,er P "LineHost" 1471 732,er P "store_under" 1480 743,ei P "_law_OVER" 1484 0,ei P "_law_PLAIN" 1486 2,ei P "_law_SHUT" 1488 3,ei P "_law_HALF" 1490 4,ei P "_law_PUT" 1492 5,ei P "_law_FACE" 1494 6,er P "_law_args" 1507 750,
er P "_law_kind" 1516 757,er P "_law_index" 1522 762,er P "_law_slotted" 1529 769,er P "_law_stands_for" 1543 776,er P "_law_row" 1567 783,er P "_law_note" 1581 790,er P "_law_world" 1598 797,er P "_law_overrides" 1610 804,er P "_law_below" 1616 809,er P "_law_runs" 1639 816,er P "law" 1645 821]
def o3(P:Params) (m:Value) (n:Nat):Obj:=dd (e P "__name__" 165 m::(L3 P).take (n-1)) n
def Y':=uk 0 [1,20,9,27,14,47,16,59,53,73,102,108,111,115,115,122,121,129,143,136,147,143,151,150,156,157,160,164,164,171,168,178,170,185,172,192,177,199,186,206,191,213,195,220,198,227,203,234,218,241,227,248,235,255,239,262,259,269,285,290,302,311,312,332,317,339,325,346,330,353,335,360,341,367,360,374,366,381,381,388,383,395,392,402,405,410,411,431,419,438,423,445,431,452,443,459,460,466,476,473,479,480,488,487,491,494,502,501,510,508,516,515,519,520,533,527,539,534,541,539,547,546,560,553,566,560,573,567,588,609,601,630,629,679,635,686,658,742,672,749,680,756,682,761,684,768,686,775,695,782,732,789,749,796,774,803,785,808,798,815,819,820]
def H5(n:Nat):=fl (Y'.take n)
def tr(P:Params):BT:=(N (boot_o_0 P) (N (boot_o_1 P) (N (o3 P iF 156) (N (boot_o_7 P) (N (G0 0) (N (G1 2) (N Y7 (N (G8 3) (N (GQ 5) (N (Hu 1) X X) (N (HW 4) X X)) (N (He 0) (N (HH 0) X X) X)) (N (GG 4) (N (GW 6) (N (HA 6) X X) X) (N (Hl 0) (N (HO 1) X X) X))) (N (G4 6) (N (GB 0) (N (Rr P) (N (Hx 2) X X) (N (H2 1) X X)) (N (Hh 3) (N (gs "__weakref__" 1383 669 (.builtin "ExceptionGroup.__weakref__") .none) X X) X)) (N (GL 1) (N (G_ 3) (N tz X X) X) (N (Hp 4) (N (su (.ref 732)) X X) X)))) (N (cl "BadKind" 237 14 45 46 240) (N (G2 4) (N (Gy 5) (N (GU 0) (N (Hv 5) X X) (N (HY 6) X X)) (N (Hg 2) (N (HJ 2) X X) X)) (N (GI 6) (N (GY 1) (N (HD 1) X X) X) (N (Hn 2) (N (HQ 3) X X) X))) (N (G6 1) (N (GD 2) (N (gs "__weakref__" 782 301 (.builtin "ExceptionGroup.__weakref__") .none) (N (Hz 4) X X) (N (H3 5) X X)) (N (Hi 5) (N (fr 686 683 mL) X X) X)) (N (GO 3) (N (Hb 5) (N (su (.ref 620)) X X) X) (N (Hr 6) (N (HV 0) X X) X))))) (N (bf "type.__prepare__" (.type "type")) (N (gs "__weakref__" 228 38 (.builtin "ExceptionGroup.__weakref__") .none) (N tz (N (G9 4) (N (GR 6) (N (Nd 2) X X) (N (HX 5) X X)) (N (Hf 1) (N (HI 1) X X) X)) (N (GH 5) (N (GX 0) (N (HC 0) X X) X) (N (Hm 1) (N (HP 2) X X) X))) (N (G5 0) (N (GC 1) (N (GV 3) (N (Hy 3) X X) (N (Nh 2) X X)) (N (gs "__weakref__" 987 421 (.builtin "ExceptionGroup.__weakref__") .none) (N (HL 5) X X) X)) (N (GN 2) (N (Ha 4) (N (HE 4) X X) X) (N (Hq 5) (N (HT 6) X X) X))))
(N (bf "type.__prepare__" (.type "type")) (N (G3 5) (N (Gz 6) (N (Rp P) (N (Hw 6) X X) (N (H0 0) X X)) (N (RA P) (N (HK 3) X X) X)) (N (GK 0) (N (GZ 2) (N RF X X) X) (N (Ho 3) (N (HS 4) X X) X))) (N (G7 2) (N (GF 3) (N (cl "Store" 789 302 309 310 792) (N (cl "Diags" 1217 573 565 566 1220) X X) X) (N (Hj 6) (N (HN 0) X X) X)) (N (GP 4) (N (Hc 6) (N (fr 630 627 qD) X X) X) (N (Ht 0) (N (Ng 1) X X) X)))))) (N tz (N (G0 4) (N (G1 6) (N (Rn P) (N (G9 0) (N (GR 2) (N (Hu 5) X X) (N (HX 1) X X)) (N (He 4) (N (HH 4) X X) X)) (N (GH 1) (N (gs "__dict__" 814 322 (.builtin "function.__dict__") (.builtin "function.__dict__#set")) (N (HB 3) X X) X) (N (Hl 4) (N (HO 5) X X) X))) (N (gs "__dict__" 441 98 (.builtin "function.__dict__") (.builtin "function.__dict__#set")) (N (GB 4) (N (fr 290 287 qC) (N (Hx 6) X X) (N (H2 5) X X)) (N (tu [(t "kind" 981),(t "rows" 982),(t "slots" 983)]) (N (HL 1) X X) X)) (N (GL 5) (N (Ha 0) (N (HE 0) X X) X) (N (Hq 1) (N (HT 2) X X) X)))) (N Y4 (N (G3 1) (N (Gz 2) (N (GU 4) (N (Hw 2) X X) (N (HZ 3) X X)) (N (Hg 6) (N (HJ 6) X X) X)) (N (GJ 3) (N (GY 5) (N (HD 5) X X) X) (N (Hn 6) (N (HS 0) X X) X))) (N (G6 5) (N (GD 6) (N (bf "type.__prepare__" (.type "type")) (N (bf "type.__prepare__" (.type "type")) X X) (N (Ni 2) X X)) (N (Hj 2) (N (HM 3) X X) X)) (N (GP 0) (N (Hc 2) (N (RJ P) X X) X) (N (Hs 3) (N (HV 4) X X) X))))) (N (cl "RuneError" 206 9 25 26 209) (N (bf "type.__prepare__" (.type "type"))
(N (G2 0) (N (Gy 1) (N tz (N (Hv 1) X X) (N (HY 2) X X)) (N (Hf 5) (N (HI 5) X X) X)) (N (GI 2) (N (GX 4) (N (HC 4) X X) X) (N (Hm 5) (N (HP 6) X X) X))) (N (G5 4) (N (GC 5) (N (tu [(t "access" 765),(t "body" 766),(t "flags" 767),(t "gbounds" 768),(t "gnames" 769),(t "mid" 770),(t "name" 771),(t "native" 772),(t "ngen" 773),(t "owner" 774),(t "params" 775),(t "pflags" 776),(t "pnames" 777),(t "ret" 778)]) (N (Hz 0) X X) (N (H3 1) X X)) (N (Hi 1) (N (RM P) X X) X)) (N (GN 6) (N (Hb 1) (N (RH P) X X) X) (N (Hr 2) (N (HU 3) X X) X)))) (N (cl "LoadFault" 253 16 57 58 256) (N (G4 2) (N (GA 3) (N (su (.ref 280)) (N (Nf 3) X X) (N (H0 4) X X)) (N (fr 410 407 pz) (N (tu [(t "asm" 1367),(t "early" 1368),(t "host" 1369),(t "kinds" 1370),(t "kt" 1371),(t "mid" 1372),(t "owner" 1373),(t "static" 1374),(t "store" 1375),(t "told" 1376),(t "tparams" 1377),(t "unit" 1378),(t "unmet" 1379)]) X X) X)) (N (GK 4) (N (GZ 6) (N (bf "object.__init_subclass__" (.ref 599)) X X) X) (N (Hp 0) (N (RN P) X X) X))) (N (G7 6) (N (GG 0) (N (GW 2) (N (HA 2) X X) X) (N (Hk 3) (N (HN 4) X X) X)) (N (GQ 1) (N (Hd 3) (N (HF 3) X X) X) (N (Ht 4) (N (HW 0) X X) X))))))) (N (boot_o_5 P) (N (boot_o_9 P) (N (G0 2) (N (G1 4) (N (bf "object.__init_subclass__" (.ref 63)) (N (G8 5) (N (GR 0) (N (Hu 3) X X) (N (HW 6) X X)) (N (He 2) (N (HH 2) X X) X)) (N (GG 6) (N (Ry P) (N (HB 1) X X) X) (N (Hl 2) (N (HO 3) X X) X))) (N (Y9 P) (N (GB 2) (N (fl (uk 4 [287,297]))
(N (Hx 4) X X) (N (H2 3) X X)) (N (Hh 5) (N (bf "object.__init_subclass__" (.ref 669)) X X) X)) (N (GL 3) (N (G_ 5) (N (cl "Unit" 1272 588 607 608 1275) X X) X) (N (Hp 6) (N (HT 0) X X) X)))) (N tz (N (G2 6) (N (Gz 0) (N (GU 2) (N (Hw 0) X X) (N (HZ 1) X X)) (N (Hg 4) (N (HJ 4) X X) X)) (N (GJ 1) (N (GY 3) (N (HD 3) X X) X) (N (Hn 4) (N (HQ 5) X X) X))) (N (G6 3) (N (GD 4) (N (bf "object.__init_subclass__" (.ref 301)) (N (Hz 6) X X) (N (Ni 0) X X)) (N (Hj 0) (N (HM 1) X X) X)) (N (GO 5) (N (Hc 0) (N tz X X) X) (N (Hs 1) (N (HV 2) X X) X))))) (N tz (N (bf "object.__init_subclass__" (.ref 38)) (N (cl "KindTable" 393 53 71 72 396) (N (G9 6) (N (bf "type.__prepare__" (.type "type")) (N (Nd 4) X X) (N (HY 0) X X)) (N (Hf 3) (N (HI 3) X X) X)) (N (GI 0) (N (GX 2) (N (HC 2) X X) X) (N (Hm 3) (N (HP 4) X X) X))) (N (G5 2) (N (GC 3) (N (GV 5) (N (Hy 5) X X) (N (Nh 4) X X)) (N (bf "object.__init_subclass__" (.ref 421)) (N tz X X) X)) (N (GN 4) (N (Ha 6) (N (HE 6) X X) X) (N (Hr 0) (N (HU 1) X X) X)))) (N tz (N (G4 0) (N (GA 1) (N (gs "__dict__" 732 280 (.builtin "function.__dict__") (.builtin "function.__dict__#set")) (N (Nf 1) X X) (N (H0 2) X X)) (N (fl (uk 4 [407,417])) (N (HK 5) X X) X)) (N (GK 2) (N (GZ 4) (N (gs "__weakref__" 1263 599 (.builtin "ExceptionGroup.__weakref__") .none) X X) X) (N (Ho 5) (N (HS 6) X X) X))) (N (G7 4) (N (GF 5) (N (GW 0) (N (HA 0) X X) X) (N (Hk 1) (N (HN 2) X X) X)) (N (GP 6) (N (Hd 1)
(N (HF 1) X X) X) (N (Ht 2) (N (Ng 3) X X) X)))))) (N (cl "<module>" 182 1 11 12 185) (N (G0 6) (N (Y0 P) (N (bf "type.__prepare__" (.type "type")) (N (G9 2) (N (GR 4) (N (Nd 0) X X) (N (HX 3) X X)) (N (He 6) (N (HH 6) X X) X)) (N (GH 3) (N (su (.ref 322)) (N (HB 5) X X) X) (N (Hl 6) (N (HP 0) X X) X))) (N (su (.ref 98)) (N (GB 6) (N (GV 1) (N (Hy 1) X X) (N (Nh 0) X X)) (N RC (N (HL 3) X X) X)) (N (GN 0) (N (Ha 2) (N (HE 2) X X) X) (N (Hq 3) (N (HT 4) X X) X)))) (N (bf "object.__init_subclass__" (.ref 51)) (N (G3 3) (N (Gz 4) (N (GU 6) (N (Hw 4) X X) (N (HZ 5) X X)) (N tz (N (HK 1) X X) X)) (N (GJ 5) (N (GZ 0) (N (tu [(t "rows" 1259)]) X X) X) (N (Ho 1) (N (HS 2) X X) X))) (N (G7 0) (N (GF 1) (N tz (N tz X X) (N (Ni 4) X X)) (N (Hj 4) (N (HM 5) X X) X)) (N (GP 2) (N (Hc 4) (N (fl (uk 4 [603,637,618,644,621,651,624,658,627,665])) X X) X) (N (Hs 5) (N (HV 6) X X) X))))) (N (G1 0) (N tz (N (G2 2) (N (Gy 3) (N (cl "TypeDef" 687 259 267 268 690) (N (Hv 3) X X) (N (HY 4) X X)) (N (Hg 0) (N (HJ 0) X X) X)) (N (GI 4) (N (GX 6) (N (HC 6) X X) X) (N (Hn 0) (N (HQ 1) X X) X))) (N (G5 6) (N (GD 0) (N Ru (N (Hz 2) X X) (N (H3 3) X X)) (N (Hi 3) (N (fl (uk 4 [637,693,643,700,646,707,649,714,653,721,656,728])) X X) X)) (N (GO 1) (N (Hb 3) (N (gs "__dict__" 1301 620 (.builtin "function.__dict__") (.builtin "function.__dict__#set")) X X) X) (N (Hr 4) (N (HU 5) X X) X)))) (N tz (N (G4 4) (N (GA 5) (N tz (N (Hx 0) X X)
(N (H0 6) X X)) (N (Hh 1) (N RL X X) X)) (N (GK 6) (N (G_ 1) (N (bf "type.__prepare__" (.type "type")) X X) X) (N (Hp 2) (N (gs "__dict__" 1465 732 (.builtin "function.__dict__") (.builtin "function.__dict__#set")) X X) X))) (N (G8 1) (N (GG 2) (N (GW 4) (N (HA 4) X X) X) (N (Hk 5) (N (HN 6) X X) X)) (N (GQ 3) (N (Hd 5) (N (HF 5) X X) X) (N (Ht 6) (N (HW 2) X X) X)))))))) (N (o2 P) (N (boot_o_4 P) (N (boot_o_8 P) (N (G0 1) (N (G1 3) (N (su (.ref 63)) (N (G8 4) (N (GQ 6) (N (Hu 2) X X) (N (HW 5) X X)) (N (He 1) (N (HH 1) X X) X)) (N (GG 5) (N (tu [(t "asms" 806),(t "entry" 807),(t "fields_" 808),(t "kt" 809),(t "methods" 810),(t "names" 811),(t "types" 812)]) (N (HB 0) X X) X) (N (Hl 1) (N (HO 2) X X) X))) (N (tu [(t "depths" 435),(t "index" 436),(t "opens" 437),(t "rows" 438),(t "weights" 439)]) (N (GB 1) (N tz (N (Hx 3) X X) (N (H2 2) X X)) (N (Hh 4) (N (su (.ref 669)) X X) X)) (N (GL 2) (N (G_ 4) (N (fl (uk 4 [590,616])) X X) X) (N (Hp 5) (N (bf "object.__init_subclass__" (.ref 732)) X X) X)))) (N (fr 47 44 Py) (N (G2 5) (N (Gy 6) (N (GU 1) (N (Hv 6) X X) (N (HZ 0) X X)) (N (Hg 3) (N (HJ 3) X X) X)) (N (GJ 0) (N (GY 2) (N (HD 2) X X) X) (N (Hn 3) (N (HQ 4) X X) X))) (N (G6 2) (N (GD 3) (N (su (.ref 301)) (N (Hz 5) X X) (N (H3 6) X X)) (N (Hi 6) (N (HM 0) X X) X)) (N (GO 4) (N (Hb 6) (N (bf "object.__init_subclass__" (.ref 620)) X X) X) (N (Hs 0) (N (HV 1) X X) X))))) (N (YZ P) (N (su (.ref 38))
(N (fl (uk 4 [55,80,69,87,74,94])) (N (G9 5) (N tz (N (Nd 3) X X) (N (HX 6) X X)) (N (Hf 2) (N (HI 2) X X) X)) (N (GH 6) (N (GX 1) (N (HC 1) X X) X) (N (Hm 2) (N (HP 3) X X) X))) (N (G5 1) (N (GC 2) (N (GV 4) (N (Hy 4) X X) (N (Nh 3) X X)) (N (su (.ref 421)) (N (HL 6) X X) X)) (N (GN 3) (N (Ha 5) (N (HE 5) X X) X) (N (Hq 6) (N (HU 0) X X) X)))) (N (Y5 P) (N (G3 6) (N (GA 0) (N Rq (N (Nf 0) X X) (N (H0 1) X X)) (N tz (N (HK 4) X X) X)) (N (GK 1) (N (GZ 3) (N (gs "__dict__" 1261 599 (.builtin "function.__dict__") (.builtin "function.__dict__#set")) X X) X) (N (Ho 4) (N (HS 5) X X) X))) (N (G7 3) (N (GF 4) (N (fr 311 308 qC) (N (fr 567 564 Nb) X X) X) (N (Hk 0) (N (HN 1) X X) X)) (N (GP 5) (N (Hd 0) (N (HF 0) X X) X) (N (Ht 1) (N (Ng 2) X X) X)))))) (N (H5 243) (N (G0 5) (N (tu [(t "at" 225),(t "code" 226)]) (N tz (N (G9 1) (N (GR 3) (N (Hu 6) X X) (N (HX 2) X X)) (N (He 5) (N (HH 5) X X) X)) (N (GH 2) (N (gs "__weakref__" 816 322 (.builtin "ExceptionGroup.__weakref__") .none) (N (HB 4) X X) X) (N (Hl 5) (N (HO 6) X X) X))) (N (gs "__weakref__" 443 98 (.builtin "ExceptionGroup.__weakref__") .none) (N (GB 5) (N (GV 0) (N (Hy 0) X X) (N (H2 6) X X)) (N (RB P) (N (HL 2) X X) X)) (N (GL 6) (N (Ha 1) (N (HE 1) X X) X) (N (Hq 2) (N (HT 3) X X) X)))) (N (su (.ref 51)) (N (G3 2) (N (Gz 3) (N (GU 5) (N (Hw 3) X X) (N (HZ 4) X X)) (N (H4 P) (N (HK 0) X X) X)) (N (GJ 4) (N (GY 6) (N (HD 6) X X) X) (N (Ho 0)
(N (HS 1) X X) X))) (N (G6 6) (N (GF 0) (N (Rx P) (N (RD P) X X) (N (Ni 3) X X)) (N (Hj 3) (N (HM 4) X X) X)) (N (GP 1) (N (Hc 3) (N tz X X) X) (N (Hs 4) (N (HV 5) X X) X))))) (N (fr 27 24 Py) (N (Y2 P) (N (G2 1) (N (Gy 2) (N (fl (uk 4 [261,276])) (N (Hv 2) X X) (N (HY 3) X X)) (N (Hf 6) (N (HI 6) X X) X)) (N (GI 3) (N (GX 5) (N (HC 5) X X) X) (N (Hm 6) (N (HQ 0) X X) X))) (N (G5 5) (N (GC 6) (N (Rt P) (N (Hz 1) X X) (N (H3 2) X X)) (N (Hi 2) (N tz X X) X)) (N (GO 0) (N (Hb 2) (N RI X X) X) (N (Hr 3) (N (HU 4) X X) X)))) (N (fr 59 56 Py) (N (G4 3) (N (GA 4) (N (bf "object.__init_subclass__" (.ref 280)) (N (Nf 4) X X) (N (H0 5) X X)) (N (Hh 0) (N (RK P) X X) X)) (N (GK 5) (N (G_ 0) (N tz X X) X) (N (Hp 1) (N RO X X) X))) (N (G8 0) (N (GG 1) (N (GW 3) (N (HA 3) X X) X) (N (Hk 4) (N (HN 5) X X) X)) (N (GQ 2) (N (Hd 4) (N (HF 4) X X) X) (N (Ht 5) (N (HW 1) X X) X))))))) (N (boot_o_6 P) (N (boot_o_10 P) (N (G0 3) (N (G1 5) (N (Rm P) (N (G8 6) (N (GR 1) (N (Hu 4) X X) (N (HX 0) X X)) (N (He 3) (N (HH 3) X X) X)) (N (GH 0) (N Rz (N (HB 2) X X) X) (N (Hl 3) (N (HO 4) X X) X))) (N Y_ (N (GB 3) (N (cl "MethodDef" 741 285 288 289 744) (N (Hx 5) X X) (N (H2 4) X X)) (N (Hh 6) (N (HL 0) X X) X)) (N (GL 4) (N (G_ 6) (N (fr 609 606 Vh) X X) X) (N (Hq 0) (N (HT 1) X X) X)))) (N (Y3 P) (N (G3 0) (N (Gz 1) (N (GU 3) (N (Hw 1) X X) (N (HZ 2) X X)) (N (Hg 5) (N (HJ 5) X X) X)) (N (GJ 2) (N (GY 4)
(N (HD 4) X X) X) (N (Hn 5) (N (HQ 6) X X) X))) (N (G6 4) (N (GD 5) (N tz (N tz X X) (N (Ni 1) X X)) (N (Hj 1) (N (HM 2) X X) X)) (N (GO 6) (N (Hc 1) (N (bf "type.__prepare__" (.type "type")) X X) X) (N (Hs 2) (N (HV 3) X X) X))))) (N (fl (uk 4 [11,34])) (N (tu [(.ref 38)]) (N (fr 73 70 hY) (N (Gy 0) (N (Ro P) (N (Hv 0) X X) (N (HY 1) X X)) (N (Hf 4) (N (HI 4) X X) X)) (N (GI 1) (N (GX 3) (N (HC 3) X X) X) (N (Hm 4) (N (HP 5) X X) X))) (N (G5 3) (N (GC 4) (N (GV 6) (N (Hy 6) X X) (N (H3 0) X X)) (N (Hi 0) (N (bf "type.__prepare__" (.type "type")) X X) X)) (N (GN 5) (N (Hb 0) (N (tu [(t "asm" 1291),(t "consts" 1292),(t "diags" 1293),(t "fns" 1294),(t "inits" 1295),(t "of_mid" 1296),(t "sinits" 1297),(t "store" 1298),(t "vars" 1299)]) X X) X) (N (Hr 1) (N (HU 2) X X) X)))) (N fz (N (G4 1) (N (GA 2) (N (gs "__weakref__" 734 280 (.builtin "ExceptionGroup.__weakref__") .none) (N (Nf 2) X X) (N (H0 3) X X)) (N (cl "VTable" 963 405 408 409 966) (N (HK 6) X X) X)) (N (GK 3) (N (GZ 5) (N (su (.ref 599)) X X) X) (N (Ho 6) (N (tu [(t "bounds" 1460),(t "gflags" 1461),(t "kt" 1462),(t "store" 1463)]) X X) X))) (N (G7 5) (N (GF 6) (N (GW 1) (N (HA 1) X X) X) (N (Hk 2) (N (HN 3) X X) X)) (N (GQ 0) (N (Hd 2) (N (HF 2) X X) X) (N (Ht 3) (N (Ng 4) X X) X)))))) (N (fr 13 3 Rl) (N (tu [(.type "Exception")]) (N Y1 (N (Y8 P) (N (G9 3) (N (GR 5) (N (Nd 1) X X) (N (HX 4) X X)) (N (Hf 0) (N (HI 0) X X) X)) (N (GH 4)
(N (bf "object.__init_subclass__" (.ref 322)) (N (HB 6) X X) X) (N (Hm 0) (N (HP 1) X X) X))) (N (bf "object.__init_subclass__" (.ref 98)) (N (GC 0) (N (GV 2) (N (Hy 2) X X) (N (Nh 1) X X)) (N (gs "__dict__" 985 421 (.builtin "function.__dict__") (.builtin "function.__dict__#set")) (N (HL 4) X X) X)) (N (GN 1) (N (Ha 3) (N (HE 3) X X) X) (N (Hq 4) (N (HT 5) X X) X)))) (N (tu [(.ref 38)]) (N (G3 4) (N (Gz 5) (N (tu [(t "asm" 712),(t "base" 713),(t "bounds" 714),(t "cctor" 715),(t "events" 716),(t "fields" 717),(t "finaliser" 718),(t "flags" 719),(t "home" 720),(t "ifaces" 721),(t "impls" 722),(t "methods" 723),(t "name" 724),(t "params" 725),(t "props" 726),(t "sort" 727),(t "tid" 728),(t "under" 729),(t "variances" 730)]) (N (Hw 5) X X) (N (HZ 6) X X)) (N (bf "type.__prepare__" (.type "type")) (N (HK 2) X X) X)) (N (GJ 6) (N (GZ 1) (N (RE P) X X) X) (N (Ho 2) (N (HS 3) X X) X))) (N (G7 1) (N (GF 2) (N (fl (uk 4 [304,318])) (N (fl (uk 4 [575,574,578,581,581,588,585,595])) X X) X) (N (Hj 5) (N (HM 6) X X) X)) (N (GP 3) (N (Hc 5) (N (cl "Yard" 1312 601 628 629 1315) X X) X) (N (Hs 6) (N (Ng 0) X X) X))))) (N (G1 1) (N fz (N (G2 3) (N (Gy 4) (N (fr 269 266 qC) (N (Hv 4) X X) (N (HY 5) X X)) (N (Hg 1) (N (HJ 1) X X) X)) (N (GI 5) (N (GY 0) (N (HD 0) X X) X) (N (Hn 1) (N (HQ 2) X X) X))) (N (G6 0) (N (GD 1) (N (gs "__dict__" 780 301 (.builtin "function.__dict__") (.builtin "function.__dict__#set")) (N (Hz 3) X X) (N (H3 4) X X))
(N (Hi 4) (N (cl "LineHost" 1401 635 684 685 1404) X X) X)) (N (GO 2) (N (Hb 4) (N (gs "__weakref__" 1303 620 (.builtin "ExceptionGroup.__weakref__") .none) X X) X) (N (Hr 5) (N (HU 6) X X) X)))) (N (Y6 P) (N (G4 5) (N (GA 6) (N (bf "type.__prepare__" (.type "type")) (N (Hx 1) X X) (N (H2 0) X X)) (N (Hh 2) (N (gs "__dict__" 1381 669 (.builtin "function.__dict__") (.builtin "function.__dict__#set")) X X) X)) (N (GL 0) (N (G_ 2) (N (RG P) X X) X) (N (Hp 3) (N (gs "__weakref__" 1467 732 (.builtin "ExceptionGroup.__weakref__") .none) X X) X))) (N (G8 2) (N (GG 3) (N (GW 5) (N (HA 5) X X) X) (N (Hk 6) (N (HO 0) X X) X)) (N (GQ 4) (N (Hd 6) (N (HF 6) X X) X) (N (Hu 0) (N (HW 3) X X) X)))))))))
def T0(P:Params):BT:=((((cut 15 (tr P) 1 0).set 2 λ_=>{cls:=.none,data:=.dict #[] 0}).set 3 λ_=>(o3 P Rl 9)).set 12 λ_=>(H5 0))
def Pz(P:Params):BT:=(((cut 66 (tr P) 1 0).set 3 λ_=>(o3 P hY 27)).set 12 λ_=>(H5 12))
def PA(P:Params):BT:=(((cut 208 (tr P) 1 0).set 3 λ_=>(o3 P hY 67)).set 12 λ_=>(H5 60))
def PB(P:Params):BT:=(((cut 355 (tr P) 1 0).set 3 λ_=>(o3 P qC 96)).set 12 λ_=>(H5 105))
def Bm(P:Params):BT:=(((cut 503 (tr P) 1 0).set 3 λ_=>(o3 P pz 123)).set 12 λ_=>(H5 162))
def Bn(P:Params):BT:=(((cut 744 (tr P) 1 0).set 3 λ_=>(o3 P mL 138)).set 12 λ_=>(H5 207))
def xm(P:Params):BT:=(cut 822 (tr P) 1 0)
def env:Env:={ scope:=pr.main.scope,locals:=mainNs,globals:=mainNs,cells:=[],code:=.ref 13,frame:=some 14 }
def cc:Code:=.body pr.main.body env
noncomputable def q0:Pos:={ line:=0,col:=0,endLine:=0,endCol:=0 }
noncomputable def ann:Option Value:=some (.ref 6)
noncomputable def sh(T:Params->BT) (n k:Nat) (w:World) (os:OsState):SharedT:=⟨T w.params,n,{},#[],{},k,os⟩
end
end HG
end Mine.Internal
namespace Mine.Internal
namespace HG
open PySem PySem.W PySem.Calls PyProof.Rows
section
def KK(P:Params):Frag:=(List.range 822).map λa=>(a,((tr P).get a).getD default)
noncomputable def Nj:Stmt->Str
 |.FunctionDef n _ _ _ _ _ _ _ _ _=>n
 |.ClassDef n _ _ _ _ _ _ _ _ _ _=>n
 |.Assign [.Name x _] _ _=>x
 |_=>Str.ofString "__name__"
noncomputable def vw:Program:={ pr with main:={ pr.main with body:=pr.main.body.drop 158 } }
def loose:List Str:=((pr.main.body.take 158).map Nj).filter λx=> !(x==Str.ofString "__name__")
theorem H6(w:World):((boot_heap w.params).isNs mainGlobals&&(#[]:Array GenState).size==0,(boot_heap w.params).objs.size,(boot_heap w.params).nsMap mainGlobals (Str.ofString "__annotations__"))=(true,11,ann):=by kernel_rfl
theorem RP:opening pr=plainProg pr.main.scope.names:=by kernel_rfl
theorem Bo(s:Shared):fenceModules? pr s=some s:=rfl
def a0(w:World) (os:OsState):Shared:=(sh T0 15 187 w os).abs
theorem Nk(w:World) (os:OsState):topGo treeTable pr w 11 ann 12 ⟨boot_heap w.params,#[],boot_drawn,boot_toks,os⟩ (topStub pr)=some (a0 w os,⟨denote treeTable cc,cc,q0,[topFrame q0]⟩):=by kernel_rfl
theorem Bp(w:World) (os:OsState):segRun treeTable pr w 11 ann 1 1 (a0 w os) (blockOf pr.main.body env cc q0 [topFrame q0])=some (.next,a0 w os,cc,q0):=by kernel_rfl
theorem Nl(w:World) (os:OsState):topRun treeTable pr w 11 ann 2 ((sh xm 822 1646 w os).abs) (restOf [] env cc { line:=819,col:=0,endLine:=847,endCol:=15 } [topFrame q0])=some ((sh xm 822 1646 w os).abs):=by kernel_rfl
end
end HG
end Mine.Internal
namespace Mine.Internal
namespace HG
open PySem PySem.W PySem.Calls PyProof.Rows
section
noncomputable def as:List Addr:=List.range 822
theorem Np(P:Params):as=(KK P).map (·.1):=by
 unfold as KK;rw[List.map_map];exact(List.map_id _).symm
def hk:Hook:=kHook KK as Np
def XT(s:Shared):Bool:=xlAt vw [] s&&recOk [] s
def h1(P:Params):Heap:=absHeap (xm P) 822 {}
def s1(w:World) (os:OsState):Shared:=⟨h1 w.params,#[],{},1646,os⟩
theorem l1(w:World) (os:OsState):staticsOk (importedModules pr.main.body) (boot_heap w.params) (h1 w.params)=true:=by kernel_rfl
theorem l2(w:World) (os:OsState):namesBound pr (h1 w.params)=true:=by kernel_rfl
theorem l3(w:World) (os:OsState):gensDone (s1 w os)=true:=by kernel_rfl
theorem l4(w:World) (os:OsState):laidKept (boot_heap w.params) (h1 w.params)=true:=by kernel_rfl
end
end HG
end Mine.Internal
namespace Mine.Internal
namespace HG
open PySem PySem.W PySem.Calls PyProof.Rows
section
theorem m1(w:World) (os:OsState):PyProof.Rows.seen (List.map (λx=>x.name) (PyProof.Rows.recsOf vw)) (PyProof.Rows.ownsOf vw) [] { heap:=h1 w.params,drawn:={},toks:=1646,os:=os }=PyProof.Rows.expectedOf vw:=by kernel_rfl
theorem m2(w:World):(h1 w.params).bltView=bltViewBooted:=by kernel_rfl
theorem m3(w:World):(h1 w.params).keysOk (looseW vw loose) (List.map (λx=>x.name) (PyProof.Rows.recsOf vw)) (List.map (λx=>x.fst) (PyProof.Rows.litsOf vw)) (List.map (λx=>x.name) (PyProof.Rows.clssOf vw (looseW vw loose)))=true:=by kernel_rfl
theorem m4(w:World):(h1 w.params).accountedOkI (importedModules pr.main.body)=true:=by kernel_rfl
theorem m5(w:World):(h1 w.params).isNs mainGlobals=true:=by kernel_rfl
theorem m6(w:World):(h1 w.params).isNs builtinsNs=true:=by kernel_rfl
theorem m7(w:World):PyProof.Rows.tablesOk vw (h1 w.params)=true:=by kernel_rfl
theorem m8(w:World) (os:OsState):XT (s1 w os)=true:=by kernel_rfl
theorem m9(w:World) (os:OsState):PyProof.Rows.tabsOk vw (s1 w os)=true:=by kernel_rfl
theorem Ra(w:World) (os:OsState):pinSeenD vw (PyProof.Rows.drecsOf vw) (s1 w os)=pinGoodD (PyProof.Rows.drecsOf vw):=by kernel_rfl
theorem Rb(w:World) (os:OsState):PyProof.Rows.plainSeenE vw (looseW vw loose) (s1 w os)=PyProof.Rows.plainGoodE vw (looseW vw loose):=by kernel_rfl
theorem Rc(w:World) (os:OsState):PyProof.Rows.plainSeenD vw loose (s1 w os)=PyProof.Rows.plainGoodD vw loose:=by kernel_rfl
theorem Rd(w:World) (os:OsState):wideSeen vw (s1 w os)=wideGood vw:=by kernel_rfl
theorem Rg(w:World) (os:OsState):clsSeenW vw loose (s1 w os)=clsGoodW vw loose:=by kernel_rfl
theorem Ri(w:World) (os:OsState):Hook.obs hk (s1 w os)=Hook.val hk w:=by kernel_rfl
end
end HG
end Mine.Internal
namespace Mine.Internal
namespace HG
open PySem PySem.W PySem.Calls PyProof.Rows
theorem Bq:∀ (w:World) (os:OsState),segRunT treeTable pr w 11 ann 1 (829+1) (sh T0 15 187 w os) (piecesOf ((pr.main.body.drop 0).take 20) env cc { line:=0,col:=0,endLine:=0,endCol:=0 } [topFrame q0])=some (.next,sh Pz 66 289 w os,cc,{ line:=28,col:=0,endLine:=28,endCol:=2 }) :=
 byRow2 (P:=λ(w:World)=>∀ os,segRunT treeTable pr w 11 ann 1 (829+1) (sh T0 15 187 w os) (piecesOf ((pr.main.body.drop 0).take 20) env cc { line:=0,col:=0,endLine:=0,endCol:=0 } [topFrame q0])=some (.next,sh Pz 66 289 w os,cc,{ line:=28,col:=0,endLine:=28,endCol:=2 })) "special-get-raises" (λw os=>by kernel_rfl) (λw os=>by kernel_rfl)
theorem Br:∀ (w:World) (os:OsState),segRunT treeTable pr w 11 ann 1 (1365+1) (sh Pz 66 289 w os) (piecesOf ((pr.main.body.drop 20).take 40) env cc { line:=28,col:=0,endLine:=28,endCol:=2 } [topFrame q0])=some (.next,sh PA 208 575 w os,cc,{ line:=186,col:=0,endLine:=190,endCol:=13 }) :=
 byRow2 (P:=λ(w:World)=>∀ os,segRunT treeTable pr w 11 ann 1 (1365+1) (sh Pz 66 289 w os) (piecesOf ((pr.main.body.drop 20).take 40) env cc { line:=28,col:=0,endLine:=28,endCol:=2 } [topFrame q0])=some (.next,sh PA 208 575 w os,cc,{ line:=186,col:=0,endLine:=190,endCol:=13 })) "special-get-raises" (λw os=>by kernel_rfl) (λw os=>by kernel_rfl)
theorem Bs:∀ (w:World) (os:OsState),segRunT treeTable pr w 11 ann 1 (1233+1) (sh PA 208 575 w os) (piecesOf ((pr.main.body.drop 60).take 30) env cc { line:=186,col:=0,endLine:=190,endCol:=13 } [topFrame q0])=some (.next,sh PB 355 860 w os,cc,{ line:=330,col:=0,endLine:=334,endCol:=27 }) :=
 byRow2 (P:=λ(w:World)=>∀ os,segRunT treeTable pr w 11 ann 1 (1233+1) (sh PA 208 575 w os) (piecesOf ((pr.main.body.drop 60).take 30) env cc { line:=186,col:=0,endLine:=190,endCol:=13 } [topFrame q0])=some (.next,sh PB 355 860 w os,cc,{ line:=330,col:=0,endLine:=334,endCol:=27 })) "special-get-raises" (λw os=>by kernel_rfl) (λw os=>by kernel_rfl)
theorem xn:∀ (w:World) (os:OsState),segRunT treeTable pr w 11 ann 1 (1009+1) (sh PB 355 860 w os) (piecesOf ((pr.main.body.drop 90).take 30) env cc { line:=330,col:=0,endLine:=334,endCol:=27 } [topFrame q0])=some (.next,sh Bm 503 1129 w os,cc,{ line:=502,col:=0,endLine:=509,endCol:=89 }) :=
 byRow2 (P:=λ(w:World)=>∀ os,segRunT treeTable pr w 11 ann 1 (1009+1) (sh PB 355 860 w os) (piecesOf ((pr.main.body.drop 90).take 30) env cc { line:=330,col:=0,endLine:=334,endCol:=27 } [topFrame q0])=some (.next,sh Bm 503 1129 w os,cc,{ line:=502,col:=0,endLine:=509,endCol:=89 })) "special-get-raises" (λw os=>by kernel_rfl) (λw os=>by kernel_rfl)
theorem xo:∀ (w:World) (os:OsState),segRunT treeTable pr w 11 ann 1 (1685+1) (sh Bm 503 1129 w os) (piecesOf ((pr.main.body.drop 120).take 20) env cc { line:=502,col:=0,endLine:=509,endCol:=89 } [topFrame q0])=some (.next,sh Bn 744 1481 w os,cc,{ line:=658,col:=0,endLine:=664,endCol:=12 }) :=
 byRow2 (P:=λ(w:World)=>∀ os,segRunT treeTable pr w 11 ann 1 (1685+1) (sh Bm 503 1129 w os) (piecesOf ((pr.main.body.drop 120).take 20) env cc { line:=502,col:=0,endLine:=509,endCol:=89 } [topFrame q0])=some (.next,sh Bn 744 1481 w os,cc,{ line:=658,col:=0,endLine:=664,endCol:=12 })) "special-get-raises" (λw os=>by kernel_rfl) (λw os=>by kernel_rfl)
theorem xq:∀ (w:World) (os:OsState),segRunT treeTable pr w 11 ann 1 (472+1) (sh Bn 744 1481 w os) (piecesOf ((pr.main.body.drop 140).take 19) env cc { line:=658,col:=0,endLine:=664,endCol:=12 } [topFrame q0])=some (.next,sh xm 822 1646 w os,cc,{ line:=819,col:=0,endLine:=847,endCol:=15 }) :=
 byRow2 (P:=λ(w:World)=>∀ os,segRunT treeTable pr w 11 ann 1 (472+1) (sh Bn 744 1481 w os) (piecesOf ((pr.main.body.drop 140).take 19) env cc { line:=658,col:=0,endLine:=664,endCol:=12 } [topFrame q0])=some (.next,sh xm 822 1646 w os,cc,{ line:=819,col:=0,endLine:=847,endCol:=15 })) "special-get-raises" (λw os=>by kernel_rfl) (λw os=>by kernel_rfl)
end HG
end Mine.Internal
namespace Mine.Internal
namespace HG
open PySem PySem.W PySem.Calls PyProof.Rows
section
def g(a b:Nat):List Stmt:=(pr.main.body.drop a).take b
noncomputable def p20:Pos:={ line:=28,col:=0,endLine:=28,endCol:=2 }
theorem H7:pr.main.body=g 0 20++(g 20 40++(g 60 30++(g 90 30++(g 120 20++(g 140 19++[]))))):=by kernel_rfl
theorem Nq(w:World) (os:OsState):topRun treeTable pr w 11 ann (12+(1+(830+(1366+(1234+(1010+(1686+(473+2)))))))) ⟨boot_heap w.params,#[],boot_drawn,boot_toks,os⟩ (topStub pr)=some (s1 w os):=by
 refine go_top (Nk w os) (piece_block (Bp w os) ?_);rw[H7];refine piece_app (segRun_of (Bq w os)) (piece_app (segRun_of (Br w os)) (piece_app (segRun_of (Bs w os)) (piece_app (segRun_of (xn w os)) (piece_app (segRun_of (xo w os)) (piece_app (segRun_of (xq w os)) (Nl w os))))))
theorem left:LeftO pr vw loose XT (Hook.obs hk) (Hook.val hk) 14000:=by
 refine LeftO.of_pieces (H₁:=h1) (boot_open RP (by decide) Bo) H6 Nq (by decide) λw=>?_
 funext os;have e1:(staticsOk (importedModules pr.main.body) (boot_heap w.params) (h1 w.params)&&namesBound pr (h1 w.params)&&gensDone (s1 w os)&&laidKept (boot_heap w.params) (h1 w.params))=true:=by
  rw[l1 w os,l2 w os,l3 w os,l4 w os];rfl
 have e2:openSeen vw loose (importedModules pr.main.body) XT true (s1 w os)=openGood vw loose:=by
  unfold openSeen openGood;rw[show(PyProof.Rows.seen (List.map (λx=>x.name) (PyProof.Rows.recsOf vw)) (PyProof.Rows.ownsOf vw) [] { heap:=(s1 w os).heap,drawn:=(s1 w os).drawn,toks:=(s1 w os).toks,os:=(s1 w os).os })=PyProof.Rows.expectedOf vw from m1 w os,
   show(s1 w os).heap.bltView=bltViewBooted from m2 w,m9 w os,Ra w os,Rb w os,Rc w os,Rd w os,Rg w os]
  have k:=m3 w;have k4:=m4 w;have k5:=m5 w;have k6:=m6 w;have k7:=m7 w;have k8:=m8 w os;rw[show((s1 w os).heap.keysOk (looseW vw loose) (List.map (λx=>x.name) (PyProof.Rows.recsOf vw)) (List.map (λx=>x.fst) (PyProof.Rows.litsOf vw)) (List.map (λx=>x.name) (PyProof.Rows.clssOf vw (looseW vw loose))))=true from k,
   show(s1 w os).heap.accountedOkI (importedModules pr.main.body)=true from k4,show(s1 w os).heap.isNs mainGlobals=true from k5,show(s1 w os).heap.isNs builtinsNs=true from k6,show PyProof.Rows.tablesOk vw (s1 w os).heap=true from k7,k8]
  rfl
 exact Prod.ext e1 (Prod.ext e2 (Ri w os))
end
end HG
end Mine.Internal
namespace Mine.Internal
namespace HG
open PySem PySem.W PySem.Calls PyProof.Rows
section
def kF:DefRec:=((PyProof.Rows.recsOf vw).head?).getD ⟨Str.ofString "",⟨[],[],none,[],[],none,[]⟩,[],{kind:=.function,names:=[],isGenerator:=false,isCoroutine:=false},default⟩
noncomputable abbrev row:OpenRow:=PySem.Challenge.rw_sz0049_01.row
theorem Nr:defOf vw row.name=some (kF,[]):=by rfl
theorem Nt:row.prog.theDef row.name=some (kF.params,kF.body,kF.scope):=by rfl
theorem RQ:kwWritten? kF.params.kwonlyargs kF.params.kw_defaults=some []:=by rfl
theorem Bt(ok:PySem.Challenge.rw_sz0049_01.wellSaid=true) (hw:row.promised) (walk:WalkO vw loose (XL vw []) hk.says row.toRowW kF [] λf vs=>PySem.call f vs):PySem.Challenge.rw_sz0049_01.Holds:=by
 refine holds_law ok λH8=>?_
 exact PySem.W.holds_open (q:=vw) (loose:=loose) (Xt:=XT) (XP:=XL vw []) (Yf:=hk.obs) (Ya:=hk.val) (YP:=hk.says) (N:=14000) (d:=kF) (kwd:=[]) left hk.of hk.keeps (λs e=>xl_of s (aaC.mp e).1) XL.keeps Nr Nt RQ (λs e=>recFacts_of (aaC.mp e).2) (by rfl) H8 (by decide +kernel) ⟨rfl,rfl,rfl,rfl,rfl,by decide +kernel⟩ hw walk
theorem Nu:PySem.Challenge.rw_sz0049_01.row.promised:=by w_witness2
end
end HG
end Mine.Internal
namespace Mine.Internal
namespace HG
open PySem PySem.W PySem.Calls PyProof.Rows
noncomputable abbrev rp:Program:=PySem.Challenge.rw_sz0049_01.row.prog
theorem JQ{a b:Bool}(h:a=true) (k:b=true):(a&&b)=true:=aaC.mpr ⟨h,k⟩
theorem Za:namesResolve rp=true:=by kernel_rfl
theorem Zb:noRoadLSs { strict:= !(importedModules rp.main.body).all cThrough.contains,foot:=none,bare:=(["vars", "dir", "locals"]:List Str).filter (readsOut rp rp.main.body) } rp.main.body=true:=by kernel_rfl
theorem Zc:namesMeet rp rp.main.body (λO n=>attrL n)=true:=by kernel_rfl
theorem Zd:(PySem.Challenge.rw_sz0049_01.bound'.all λn=> !builtinNamed n||PySem.Challenge.rw_sz0049_01.about==[n]|| !PySem.Challenge.rw_sz0049_01.reads n)=true:=by kernel_rfl
theorem Ze:namesMeet PySem.Challenge.rw_sz0049_01.prog PySem.Challenge.rw_sz0049_01.above (λO n=> !PySem.Challenge.rw_sz0049_01.own.contains n)=true:=by kernel_rfl
theorem sd:looksOpen rp=true:=by
 unfold looksOpen;refine JQ (JQ (JQ (JQ (JQ ?_ ?_) Za) ?_) Zb) Zc<;>kernel_rfl
theorem H8:PySem.Challenge.rw_sz0049_01.wellSaid=true:=by
 unfold OpenLaw.wellSaid OpenRow.wellSaid OpenRow.partSaid
 repeat' (with_reducible apply JQ)
 all_goals first | with_reducible exact sd | with_reducible exact Zd | with_reducible exact Ze | kernel_rfl
end HG
end Mine.Internal
set_option genInjectivity false
namespace Mine.Internal
namespace HG
open PySem PySem.W PySem.Calls PyProof.Rows
section
noncomputable def Zf:List String:=["rows", "index", "depths", "weights", "opens", "row", "put", "tid", "name", "sort", "flags", "base", "ifaces", "params", "variances", "bounds", "fields", "methods", "asm", "cctor", "under", "impls", "props", "events", "finaliser", "home", "mid", "owner", "access", "ngen", "gnames", "gbounds", "ret", "pnames", "pflags", "body", "native", "kt", "types", "fields_", "names", "asms", "entry", "kind", "slots", "store", "host", "fns", "vars", "of_mid", "diags", "inits", "sinits", "consts", "unit", "kinds", "unmet", "told", "tparams", "early", "static", "gflags", "__init__"]
noncomputable def Zg:List Nat:=[98,280,301,322,421,599,620,669,732]
noncomputable def Zh:List Nat:=[81,88,95,109,116,123,130,137,144,151,158,179,186,200,207,228,235,242,256,263,277,298,319,333,340,347,354,361,368,375,382,389,396,403,418,432,439,446,453,460,467,474,481,488,495,502,509,516,521,528,535,540,547,554,561,575,617,638,694,701,715,750,757,762,769,776,783,790,797,804,809,816,821]
noncomputable def Zi:List Nat:=[66,67,404]
def dj:Nm:=⟨λi=>(Zg[i]?).getD 0,λi=>(Zh[i]?).getD 0,λi=>Str.ofString ((Zf[i]?).getD ""),λi=>(Zi[i]?).getD 0⟩
noncomputable def tb:Tb:={ ry:=[(Str.ofString "inner_kinds",3),(Str.ofString "row_level",4),(Str.ofString "row_length",5),(Str.ofString "check_kind_row",6),(Str.ofString "check_named",7),(Str.ofString "check_args",8),(Str.ofString "may_stand",9),(Str.ofString "class_kind",10),(Str.ofString "var_kind",11),(Str.ofString "kind_sort",12),(Str.ofString "tid_of",13),(Str.ofString "args_of",14),(Str.ofString "close",15),(Str.ofString "close_in",16),(Str.ofString "with_inner",17),(Str.ofString "pick_arg",18),(Str.ofString "close_all",19),(Str.ofString "plain_names",23),(Str.ofString "self_kind",24),(Str.ofString "kind_with",25),(Str.ofString "type_of",26),(Str.ofString "find_methods",27),(Str.ofString "base_of",28),(Str.ofString "base_of_prim",29),(Str.ofString "method_sig",30),(Str.ofString "is_iface",31),(Str.ofString "base_chain",32),(Str.ofString "levels_of",33),(Str.ofString "table_levels",35),(Str.ofString "open_line",36),(Str.ofString "vtable_of",37),(Str.ofString "put_level",38),(Str.ofString "put_method",39),(Str.ofString "put_impl",40),(Str.ofString "is_instance_body",41),(Str.ofString "overridden",42),(Str.ofString "could_override",43),(Str.ofString "no_stricter",44),(Str.ofString "same_signature",45),(Str.ofString "narrower",46),(Str.ofString "slot_of",47),(Str.ofString "is_override",48),(Str.ofString "has_slot",49),(Str.ofString "prop_mid",50),(Str.ofString "same_prop",51),(Str.ofString "base_accessor",52),(Str.ofString "accessor_ref",53),(Str.ofString "nearest_override",54),(Str.ofString "_law_args",61),(Str.ofString "_law_kind",62),(Str.ofString "_law_index",63),(Str.ofString "_law_slotted",64),(Str.ofString "_law_stands_for",65),(Str.ofString "_law_row",66),(Str.ofString "_law_note",67),(Str.ofString "_law_world",68),(Str.ofString "_law_overrides",69),(Str.ofString "_law_below",70),(Str.ofString "_law_runs",71)],CF:=[(Str.ofString "KindTable",0),(Str.ofString "TypeDef",1),(Str.ofString "MethodDef",2),(Str.ofString "Store",3),(Str.ofString "VTable",4),(Str.ofString "Diags",5),(Str.ofString "Unit",6),(Str.ofString "Yard",7),(Str.ofString "LineHost",8)],Eu:=[(Str.ofString "LF_NOTYPE",1),(Str.ofString "LF_CIRCLE",2),(Str.ofString "LF_OVERRIDE",7),(Str.ofString "LF_BOUND",8),(Str.ofString "VOID",0),(Str.ofString "BOOL",1),(Str.ofString "CHAR",2),(Str.ofString "I1",3),(Str.ofString "U1",4),(Str.ofString "I2",5),(Str.ofString "U2",6),(Str.ofString "I4",7),(Str.ofString "U4",8),(Str.ofString "I8",9),(Str.ofString "U8",10),(Str.ofString "NINT",11),(Str.ofString "OBJECT",12),(Str.ofString "STRING",13),(Str.ofString "NULLK",14),(Str.ofString "BAD",15),(Str.ofString "PRIM_END",16),(Str.ofString "R_PRIM",1),(Str.ofString "R_CLASS",2),(Str.ofString "R_VALUE",3),(Str.ofString "R_ARRAY",4),(Str.ofString "R_BYREF",5),(Str.ofString "R_VAR",6),(Str.ofString "R_MVAR",7),(Str.ofString "R_BOXED",8),(Str.ofString "R_ROREF",9),(Str.ofString "R_FTN",10),(Str.ofString "R_RAW",11),(Str.ofString "DEEPEST_KIND",24),(Str.ofString "HEAVIEST_KIND",4096),(Str.ofString "ARRAY_TID",5),(Str.ofString "NULLABLE_TID",8),(Str.ofString "S_CLASS",1),(Str.ofString "S_STRUCT",2),(Str.ofString "S_IFACE",3),(Str.ofString "S_ENUM",5),(Str.ofString "VA_NONE",0),(Str.ofString "MF_STATIC",1),(Str.ofString "MF_VIRTUAL",2),(Str.ofString "MF_NEWSLOT",4),(Str.ofString "MF_ABSTRACT",8),(Str.ofString "MF_FINAL",16),(Str.ofString "MF_SPECIAL",128),(Str.ofString "T_VALUETYPE",2),(Str.ofString "T_ENUM",3),(Str.ofString "T_ARRAY",5),(Str.ofString "A_PRIVATE",1),(Str.ofString "A_FAMANDASM",2),(Str.ofString "A_ASSEMBLY",3),(Str.ofString "A_FAMILY",4),(Str.ofString "A_FAMORASM",5),(Str.ofString "A_PUBLIC",6),(Str.ofString "REACH_ELSEWHERE",12),(Str.ofString "_law_OVER",0),(Str.ofString "_law_PLAIN",2),(Str.ofString "_law_SHUT",3),(Str.ofString "_law_HALF",4),(Str.ofString "_law_PUT",5),(Str.ofString "_law_FACE",6)],Ew:=[(Str.ofString "PRIM_TID",0),(Str.ofString "TID_PRIM",1),(Str.ofString "REACH",2)],cf:=71 }
def RS(K:Frag) (p:Nat×Nat):Bool:=plainGet K (dj.cA p.1) (dj.an p.2)&&(hasDictIn K (dj.cA p.1)&&(findIn K (.ref (dj.cA p.1)) (dj.an p.2)==some none&&(findIn K (.ref (dj.cA p.1)) "__setattr__" == some (some (.builtin "object.__setattr__"))&&(plainOver K (dj.cA p.1)&&takerIn K (dj.cA p.1) (dj.an p.2)==some none))))
theorem RT(P:Params):tC.all (RS (KK P))=true:=by kernel_rfl
def Nv(K:Frag) (p:Nat×Nat×Nat):Bool:=(p.2.2 != 71&&tC.all λq=>dj.an q.2 != dj.an p.2.1||q.1 != p.1)&&(plainGet K (dj.cA p.1) (dj.an p.2.1)&&(findIn K (.ref (dj.cA p.1)) (dj.an p.2.1)==some (some (.ref (dj.fA p.2.2)))&&(isFn K (.ref (dj.fA p.2.2))&&keepIn K (.ref (dj.fA p.2.2)))))
theorem xr(P:Params):meths.all (Nv (KK P))=true:=by kernel_rfl
def Nx(K:Frag) (p:Nat×Nat):Bool:=p.2 != 71&&(makesIn K (dj.cA p.1)&&(findIn K (.ref (dj.cA p.1)) "__init__" == some (some (.ref (dj.fA p.2)))&&isFn K (.ref (dj.fA p.2))))
theorem DC(P:Params):DB.all (Nx (KK P))=true:=by kernel_rfl
noncomputable def H9(K:Frag) (a:Nat->Addr) (p:Str×Nat):Bool:=nsIn K mainGlobals p.1==some (some (.ref (a p.2)))&&keepIn K (.ref (a p.2))
theorem RU(P:Params):tb.ry.all (H9 (KK P) dj.fA)=true:=by kernel_rfl
theorem RV(P:Params):tb.CF.all (H9 (KK P) dj.cA)=true:=by kernel_rfl
noncomputable def Ny(i:Int) (o:Option (Option Value)):Bool:=match o with
 |some o=>(match o with | some v=>(match v with | .int j _=>j==i | _=>false) | _=>false)
 |_=>false
theorem RW(P:Params):tb.Eu.all (λp=>Ny p.2 (nsIn (KK P) mainGlobals p.1))=true:=by kernel_rfl
theorem RX(P:Params):tb.Ew.all (λp=>nsIn (KK P) mainGlobals p.1==some (some (.ref (dj.tA p.2))))=true:=by kernel_rfl
theorem RY:tC.all (λp=>tC.all λq=>p.2==q.2||(dj.an p.2 != dj.an q.2||p.1 != q.1))=true:=by kernel_rfl
end
end HG
end Mine.Internal
set_option genInjectivity false
namespace Mine.Internal
namespace HG
open PySem PySem.W PySem.Calls PyProof.Rows
theorem cQ{α:Type}{p:α->Bool}{l:List α}(h:l.all p=true) {x:α}(m:x∈l):p x=true:=aa0.mp h x m
theorem hZ{c k:Nat}(h:prog.fld c k=true):(c,k)∈tC:=List.contains_iff_mem.mp h
theorem iG{c k f:Nat}(h:prog.bU c k=some f):(c,k,f)∈meths:=by
 obtain⟨⟨a,b,d⟩,h1,h2⟩:=aas.mp h;have q:(a==c&&b==k)=true:=List.find?_some (p:=λp:Nat×Nat×Nat=>p.1==c&&p.2.1==k) h1
 have q:=ae q;cases h2;clear h;cases eq_of_beq q.1;cases eq_of_beq q.2;exact List.mem_of_find?_eq_some h1
theorem lookup_mem{β:Type}{a:Nat}{b:β}:∀ {l:List (Nat×β)},l.lookup a=some b->(a,b)∈l
 |[],h=>nn h
 |(x,y)::l,h=>by
  by_cases e:a=x
  ·subst e;rw[List.lookup_cons_self]at h;cases h;exact aad
  ·rw[List.lookup_cons,show(a==x)=false from beq_false_of_ne e]at h
   exact aac _ (lookup_mem h)
section
variable{P:Params}{c k f:Nat}
theorem H_(h:prog.fld c k=true):CG (KK P) (dj.cA c) (dj.an k) :=
 have a:=ae (cQ (RT P) (hZ h));have b:=ae a.2;have c:=ae b.2;have d:=ae c.2;have e:=ae d.2
 ⟨a.1,b.1,eq_of_beq c.1,eq_of_beq d.1,e.1,eq_of_beq e.2⟩
theorem Bu(h:prog.bU c k=some f):KD (KK P) (dj.cA c) (dj.fA f) (dj.an k) :=
 have a:=ae (ae (cQ (xr P) (iG h))).2;have b:=ae a.2;have c:=ae b.2
 ⟨a.1,eq_of_beq b.1,c.1,c.2⟩
theorem Bv(h:prog.init c=some f):CH (KK P) (dj.cA c) (dj.fA f) :=
 have a:=ae (ae (cQ (DC P) (lookup_mem h))).2;have b:=ae a.2
 ⟨a.1,eq_of_beq b.1,b.2⟩
theorem xu{a:Nat->Addr}{l:List (Str×Nat)}(h:l.all (H9 (KK P) a)=true) (x:Str) (f:Nat) (m:(x,f)∈l):rz (KK P) x (.ref (a f)) :=
 have a:=ae (cQ h m)
 ⟨eq_of_beq a.1,a.2⟩
end
noncomputable def RZ(v:Value) (i:Int):Bool:=match v with
 |.int j _=>j==i
 |_=>false
theorem qE{v:Value}{i:Int}(h:RZ v i=true):∃ t,v=.int i t:=by
 cases v with
 |int j t=>exact⟨t,aab (Value.int · t) (eq_of_beq h)⟩
 |_=>exact ff h
theorem Bw{i:Int}:∀ {o:Option (Option Value)},Ny i o=true->∃ t,o=some (some (.int i t))
 |some (some v),h=>(qE (v:=v) h).imp λt e=>aab (some∘some) e
 |some none,h=>ff h
 |none,h=>ff h
noncomputable def Vi:List (Int×Int)->List DictEntry->Bool
 |[],es=>es.isEmpty
 |kv::D,es=>match es with
  |e::es=>RZ e.key kv.1&&(RZ e.val kv.2&&(e.hash==hashInt kv.1&&Vi D es))
  |[]=>false
theorem mM:∀ {D:List (Int×Int)}{es:List DictEntry},Vi D es=true->Ey D es
 |[],[],_=>.nil
 |[],_::_,h=>ff h
 |_::_,[],h=>ff h
 |_::_,_::_,h=>have a:=ae h;have b:=ae a.2;have c:=ae b.2;(qE a.1).elim λO p=>(qE b.1).elim λO q=>.cons (.mk p q (eq_of_beq c.1)) (mM c.2)
noncomputable def tD(o:Obj):List DictEntry:=match o.data with
 |.dict es _=>es.toList
 |_=>[]
theorem tabs_ok{P:Params}{h:Heap}(X:(KK P).In h):∀ n,n<3->Tab prog h n (dj.tA n)
 |0,_=>.mk (es:=tD (Rm P)) (nx:=14) (by decide) (X _ { cls:=.type "dict",data:=.dict (tD (Rm P)).toArray 14 } (by kernel_rfl)) rfl rfl (mM (by kernel_rfl)) rfl
 |1,_=>.mk (es:=tD (Rn P)) (nx:=14) (by decide) (X _ { cls:=.type "dict",data:=.dict (tD (Rn P)).toArray 14 } (by kernel_rfl)) rfl rfl (mM (by kernel_rfl)) rfl
 |2,_=>.mk (es:=tD (H4 P)) (nx:=6) (by decide) (X _ { cls:=.type "dict",data:=.dict (tD (H4 P)).toArray 6 } (by kernel_rfl)) rfl rfl (mM (by kernel_rfl)) rfl
noncomputable def JR(w:World) (dS:ExcName->Option Value) (mg mb:Str->Option Value) (base:Heap):b_ where
 prog:=PySem.Challenge.rw_sz0049_01.row.prog
 w:=w
 P:=prog
 N:=dj
 B:=tb
 K:=KK w.params
 p:=vw
 loose:=looseW vw loose
 dS:=dS
 mg:=mg
 mb:=mb
 base:=base
 lf:=63
theorem rT{w:World}{dS:ExcName->Option Value}{mg mb:Str->Option Value}{base:Heap}(X:(KK w.params).In base) (T:Top vw (looseW vw loose) dS mg mb base):Base (JR w dS mg mb base) :=
 {
  fld:=λc k h=>H_ h
  inj:=λc j k h1 h2 e=>(aaZ.mp (cQ (cQ RY (hZ h1)) (hZ h2))).elim eq_of_beq λq=>(aaZ.mp q).elim (λq=>absurd e (bne_iff_ne.mp q)) λq=>absurd rfl (bne_iff_ne.mp q)
  bU:=λc k f h=>Bu h
  KG:=λc k f j h hj=>(aaZ.mp (cQ (ae (ae (cQ (xr w.params) (iG h))).1).2 (hZ hj))).elim bne_iff_ne.mp λq=>absurd rfl (bne_iff_ne.mp q)
  init:=λc f h=>Bv h
  Uj:=λc k f h=>bne_iff_ne.mp (ae (ae (cQ (xr w.params) (iG h))).1).1
  Uk:=λc f h=>bne_iff_ne.mp (ae (cQ (DC w.params) (lookup_mem h))).1
  ry:=xu (RU w.params)
  CF:=xu (RV w.params)
  Eu:=λx i h=>Bw (cQ (RW w.params) h)
  Ew:=λx n h=>eq_of_beq (cQ (RX w.params) h)
  tb:=tabs_ok X
  KH:=⟨by kernel_rfl,by kernel_rfl,by decide⟩
  KI:=⟨by kernel_rfl,by kernel_rfl,by decide⟩
  KJ:=⟨by kernel_rfl,by kernel_rfl,by decide⟩
  KL:=⟨by kernel_rfl,by kernel_rfl,by decide⟩
  KN:=⟨by kernel_rfl,by kernel_rfl,by decide⟩
  xb:=X
  Ul:=T
  lf:=⟨by kernel_rfl,by kernel_rfl⟩
  Um:=by kernel_rfl }
end HG
end Mine.Internal
namespace Mine.Internal
open PySem PySem.W PySem.Calls PyProof.Rows
theorem qF:∀ {ns:List Str}{us:List Value},ns.Nodup->us.length=ns.length->ns.filterMap (λn=>((ns.zip us).lookup n).map (n,·))=ns.zip us:=by
 have key:∀ (ns:List Str) (us:List Value) (ms:List (Str×Value)),ns.Nodup->us.length=ns.length->(∀ n∈ns,ms.lookup n=none)->ns.filterMap (λn=>((ms++ns.zip us).lookup n).map (n,·))=ns.zip us:=by
  intro ns;induction ns with
  |nil=>intro us ms _ _ _;rfl
  |cons n ns ih =>
   intro us ms hn hl hm;cases us with
   |nil=>cases hl
   |cons u us =>
    have e:(ms++(n::ns).zip (u::us))=(ms++[(n,u)])++ns.zip us:=by simp
    have h1:((ms++[(n,u)])++ns.zip us).lookup n=some u:=by
     have:=hm n aad;rw[List.append_assoc,List.lookup_append,this];simp[List.lookup]
    rw[e,List.filterMap_cons,h1];simp only[Option.map_some];rw[ih us _ (aaU.mp hn).2 (by simpa using hl) λx hx=>by
     rw[List.lookup_append,hm x (aac _ hx)];have:(x==n)=false:=beq_eq_false_iff_ne.mpr λz=>(aaU.mp hn).1 (z▸hx)
     simp[List.lookup,this]]
    simp
 intro ns us hn hl
 simpa using key ns us [] hn hl (λO O=>rfl)
theorem je{ns:List Str}{us:List Value}:us.length=ns.length->∀ {n:Str},n∈ns->((ns.zip us).lookup n).isNone=false:=by
 induction ns generalizing us with
 |nil=>intro _ n h;cases h
 |cons m ns ih =>
  intro hl n h;cases us with
  |nil=>cases hl
  |cons u us =>
   rw[List.zip_cons_cons,List.lookup_cons];cases q:n==m with
   |true=>rfl
   |false =>
    rcases aau.mp h with rfl | h
    ·simp at q
    ·exact ih (by simpa using hl) h
theorem j8{α β γ:Type}{l:List α}{b:β}{f:α->β->Sem (ForInStep β)}{k:β->Sem γ}{r:Sem γ}(h:l=[]) (e:k b=r):(forIn l b f >>= k)=r:=by subst h;exact e
theorem iW{fd:FuncData}(h1:fd.params.posonlyargs=[]) (h2:fd.params.kwonlyargs=[]) (h3:fd.params.vararg=none) (h4:fd.params.kwarg=none) (hd:fd.defaults=.none) {names:List Str}(hn:fd.params.args.map (·.arg)=names) (nd:names.Nodup) {us:List Value}(hl:us.length=names.length):bindArgs fd ⟨us,[]⟩=pure (names.zip us):=by
 have hz:=qF nd hl;have hm:∀ k:Nat,¬ (!((names.take k).filter λn=>((names.zip us).lookup n).isNone).isEmpty)=true:=λk=>by
  rw[List.filter_eq_nil_iff.mpr λx hx=>by rw[je hl (List.mem_of_mem_take hx)];nofun]
  nofun
 obtain⟨nm,q,⟨po,ar,va,ko,kd,kw,df⟩,body,sc,gl,cl,de⟩:=fd;simp only at h1 h2 h3 h4 hd hn;subst h1 h2 h3 h4 hd hn;refine(aaf (c:=((decide (us.length>(ar.map (·.arg)).length)&&true)=true)) ?_).trans ((aaf ?_).trans (j8 ((aab (List.zip _) List.drop_nil).trans List.zip_nil_right) (j8 rfl ((aaf nofun).trans (aab pure ((aab (List.filterMap _) (List.append_nil _)).trans hz))))))
 ·rw[hl,Bool.and_true,aaA (aaW _)];nofun
 ·exact hm _
end Mine.Internal
set_option genInjectivity false
namespace Mine.Internal
namespace HG
open PySem PySem.W PySem.Calls PyProof.Rows
section
noncomputable def Zj:List (List String):=[["self", "number", "row"],["self", "k"],["self", "row", "found", "depth", "weight", "opened", "level", "inner", "k"],["row", "sort"],["sort"],["sort"],["kt", "row", "sort", "inner"],["kt", "row"],["kt", "args", "arg"],["kt", "k", "sort"],["kt", "tid", "args"],["kt", "i"],["kt", "k"],["kt", "k", "row"],["kt", "k", "row"],["kt", "k", "targs", "margs"],["kt", "k", "targs", "margs", "seen", "row", "inner", "part"],["kt", "row", "inner", "sort"],["args", "place", "k"],["kt", "ks", "targs", "margs", "out", "k"],["self", "tid", "name", "sort", "flags", "base", "params", "asm", "word"],["self", "mid", "owner", "name", "access", "flags", "ret", "params"],["self"],["count", "out", "place"],["store", "tid", "t", "args", "place"],["store", "tid", "args", "sort"],["store", "k", "tid"],["store", "tid", "name", "out", "mid"],["store", "k", "kt", "sort", "t"],["store", "k"],["store", "mref", "m", "targs"],["host", "k"],["host", "k", "out", "seen"],["store", "k", "out", "seen"],["self", "kind"],["store", "k", "out", "at"],["store", "levels", "place"],["store", "k", "vt", "levels", "place"],["store", "vt", "at", "line", "t", "mid", "m", "seen", "row"],["store", "vt", "at", "line", "mid", "m", "found", "old", "base"],["store", "vt", "at", "line", "row", "seen", "body", "decl_owner", "decl", "own", "slot"],["store", "mid", "flags"],["store", "line", "mid", "last", "above", "other"],["store", "mid", "m"],["store", "owner1", "mid1", "owner2", "mid2", "bounds1", "bounds2", "i", "have", "k"],["store", "owner1", "mid1", "owner2", "mid2", "by_name", "x", "y"],["store", "m", "base", "old", "elsewhere"],["vt", "mid"],["cx", "at", "mid", "m", "base", "up", "t"],["store", "tid", "m", "mid", "b"],["row"],["cx", "at", "row", "up", "other"],["cx", "at", "row", "place", "up", "t", "other"],["cx", "at", "row", "place"],["cx", "mref", "vt", "slot"],["self"],["self", "store", "asm"],["self", "unit", "host", "asm"],["self", "store"],["self", "k"],["self", "k", "t"],["w", "i", "arg", "out", "wide", "given", "own"],["w", "i", "args"],["w", "row", "arg"],["row"],["w", "i", "row", "part", "args", "mine", "j", "other"],["w", "i", "x", "second", "store", "parts", "mode", "name", "index", "flags", "mids", "seen", "part", "access", "mid", "kinds", "whole", "row"],["w", "i", "row", "part", "store", "mid", "found", "owner"],["nums", "store", "kt", "w", "count", "i", "shape", "first", "second", "base", "params"],["w", "i", "row", "part", "table", "other"],["w", "args", "i", "row", "part", "line", "j", "other", "mid"],["w", "yard", "turn", "kept", "stands", "top", "args", "spot", "mref", "want", "i", "mid", "slot", "level", "root", "last", "got"]]
def namesOf(f:Nat):List Str:=((Zj[f]?).getD []).map Str.ofString
def ob(P:Params) (a:Addr):Obj:=((KK P).lookup a).getD default
noncomputable def R0(o:Obj):FuncData:=match o.data with
 |.func f=>f
 |_=>default
noncomputable def DD(f:FuncData):List Stmt:=match f.body with
 |.stmts b=>b
 |_=>[]
noncomputable def Vj(d:Data):Bool:=match d with
 |.func _=>true
 |_=>false
noncomputable def Nz(d:FuncBody):Bool:=match d with
 |.stmts _=>true
 |_=>false
noncomputable def Vk(d:Value):Bool:=match d with
 |.none=>true
 |_=>false
theorem H'{v:Value}(h:Vk v=true):v=.none:=by
 cases v with
 |none=>rfl
 |_=>exact ff h
theorem Bx{P:Params}{a:Addr}(h:((KK P).lookup a).isSome=true):(KK P).lookup a=some (ob P a):=by
 unfold ob;cases q:(KK P).lookup a with
 |none=>rw[q]at h;exact ff h
 |some o=>rfl
theorem Ia{o:Obj}(h:Vj o.data=true):o=⟨o.cls,o.dict,.func (R0 o),o.slots⟩:=by
 obtain⟨a,b,d,e⟩:=o;cases d with
 |func f=>rfl
 |_=>exact ff h
theorem Ib{f:FuncData}(h:Nz f.body=true) (h1:f.globals=mainGlobals) (h2:f.closure=[]) (h3:f.builtins=0):f=fnOf f.name f.qualname f.params (DD f) f.scope f.defaults f.kwdefaults f.doc f.pyModule f.annotations f.code f.closureTuple:=by
 obtain⟨_,_,_,d,_,_,_,_,_,_,_,_,_,_,_⟩:=f;cases h1;cases h2;cases h3;cases d with
 |stmts=>rfl
 |_=>exact ff h
def kQ(P:Params) (f:Nat):FuncData:=R0 (ob P (dj.fA f))
def x1(P:Params) (f:Nat):Bool:=(kQ P f).scope.names.all (·.2 != .cell)
def F1(P:Params) (f:Nat) (fn:Fn):Fm:=⟨(kQ P f).scope.names,(namesOf f).take fn.np++(namesOf f).drop fn.np,true,false,x1 P f⟩
def R5(K:Frag) (a:Addr) (o:Obj) (f:FuncData):Bool:=(K.lookup a).isSome&&(Vj o.data&&(Nz f.body&&(f.globals==mainGlobals&&(f.closure.isEmpty&&(f.builtins==0&&(Vk f.defaults&&codeIn K f.code f.qualname))))))
noncomputable def R6(nm:List Str) (fn:Fn) (a:Arguments):Bool:=a.posonlyargs.isEmpty&&(a.kwonlyargs.isEmpty&&(a.vararg.isNone&&(a.kwarg.isNone&&(decide (a.args.map (·.arg)=nm.take fn.np)&&(fn.np==(nm.take fn.np).length&&(fn.nl==(nm.take fn.np).length+(nm.drop fn.np).length&&decide (nm.take fn.np++nm.drop fn.np).Nodup))))))
noncomputable def R7(s:Scope) (nm:List Str):Bool:=nm.all (λy=>s.names.lookup y==some .local||s.names.lookup y==some .cell)&&(decide ((cellsFrom 0 s.names []).map (·.1)).Nodup&&(!s.isCoroutine&&(!s.isGenerator&&s.kind==.function)))
def Vl(P:Params) (f:Nat) (fn:Fn):Bool:=R5 (KK P) (dj.fA f) (ob P (dj.fA f)) (kQ P f)&&(R6 (namesOf f) fn (kQ P f).params&&R7 (kQ P f).scope ((namesOf f).take fn.np))
noncomputable def allB(p:Nat->Fn->Bool):Nat->List Fn->Bool
 |_,[]=>true
 |i,f::fs=>p i f&&allB p (i+1) fs
theorem j9{p:Nat->Fn->Bool}:∀ {fs:List Fn}{k i:Nat}{fn:Fn},allB p k fs=true->fs[i]? =some fn->p (k+i) fn=true
 |f::fs,k,0,fn,h,q=>by cases q;exact(ae h).1
 |f::fs,k,i+1,fn,h,q=>by have:=j9 (ae h).2 q;rwa[Nat.add_right_comm]at this
 |[],_,_,_,_,q=>nn q
theorem By(P:Params):allB (Vl P) 0 (fns.take 72)=true:=by kernel_rfl
theorem Vm{w:World}{dS:ExcName->Option Value}{mg mb:Str->Option Value}{base:Heap}(f:Nat) (fn:Fn) (h:Vl w.params f fn=true):oA (JR w dS mg mb base) f fn (DD (kQ w.params f)) (kQ w.params f).scope ((namesOf f).take fn.np) ((namesOf f).drop fn.np) (x1 w.params f) :=
 have a:=ae h;have b:=ae a.2;have a1:=ae a.1;have a2:=ae a1.2;have a3:=ae a2.2;have a4:=ae a3.2;have a5:=ae a4.2;have a6:=ae a5.2;have a7:=ae a6.2;have b1:=ae b.1;have b2:=ae b1.2;have b3:=ae b2.2;have b4:=ae b3.2;have b5:=ae b4.2;have b6:=ae b5.2;have b7:=ae b6.2;have c1:=ae b.2;have c2:=ae c1.2;have c3:=ae c2.2;have c4:=ae c3.2;have e:=Ib a3.1 (eq_of_beq a4.1) (List.isEmpty_iff.mp a5.1) (eq_of_beq a6.1)
 λC k=>k (kQ w.params f).name (kQ w.params f).qualname (kQ w.params f).params (kQ w.params f).defaults (kQ w.params f).kwdefaults (kQ w.params f).doc (kQ w.params f).pyModule (kQ w.params f).code (kQ w.params f).closureTuple (ob w.params (dj.fA f)).cls (kQ w.params f).annotations (ob w.params (dj.fA f)).dict (ob w.params (dj.fA f)).slots ((Bx a1.1).trans (aab some ((Ia a2.1).trans (aab (λd=>Obj.mk _ _ (.func d) _) e)))) a7.2 (λus hl=>iW (List.isEmpty_iff.mp b1.1) (List.isEmpty_iff.mp b2.1) (Option.isNone_iff_eq_none.mp b3.1) (Option.isNone_iff_eq_none.mp b4.1) (H' a7.1) (aaK b5.1) ((List.take_sublist _ _).nodup (by have:=aaK b7.2;rwa[List.take_append_drop]at this)) hl) (eq_of_beq b6.1) (eq_of_beq b7.1) (aaK b7.2) c1.1 (aaK c2.1) (Bool.not_eq_true' _▸c3.1) (Bool.not_eq_true' _▸c4.1) (eq_of_beq c4.2) id
theorem Zk(P:Params):allB (λf fn=>j4 tb dj.an fn.body (F1 P f fn) (DD (kQ P f))) 0 (fns.take 71)=true:=by kernel_rfl
theorem gA(P:Params):(fns.take 71).zipIdx.map (λp=>ui dj.an p.1.body (DD (kQ P p.2)))=(fns.take 71).zipIdx.map λp=>DD (kQ P p.2):=by kernel_rfl
noncomputable def DE:Stmt->PySem.Expr
 |.Assign ts _ _=>ts.headD default
 |_=>default
noncomputable def xv:Stmt->PySem.Expr
 |.Assign _ v _=>v
 |_=>default
noncomputable def Vn:PySem.Expr->PySem.Expr
 |.Attribute b _ _=>b
 |_=>default
noncomputable def R8:PySem.Expr->Str
 |.Name x _=>x
 |_=>Str.ofString ""
noncomputable def cF:PySem.Expr->PySem.Expr
 |.Call f _ _ _=>f
 |_=>default
noncomputable def cA:PySem.Expr->List PySem.Expr
 |.Call _ a _ _=>a
 |_=>[]
noncomputable def R9:PySem.Expr->PySem.Expr
 |.Tuple es _ _=>es.headD default
 |_=>default
noncomputable def tK:PySem.Expr->Nat
 |.Tuple _ k _=>k
 |.Constant _ k _=>k
 |_=>0
noncomputable def uO:PySem.Expr->PySem.Expr
 |.UnaryOp _ e _=>e
 |_=>default
def Ic:Stmt->Stmt
 |.Try b _ _ _ _=>pw b
 |_=>.Pass default
noncomputable def Zl:Stmt->PySem.Expr
 |.Try _ [.ExceptHandler (some t) _ _ _] _ _ _=>t
 |_=>default
def DF:Stmt->Stmt
 |.Try _ [.ExceptHandler _ _ b _] _ _ _=>pw b
 |_=>.Pass default
noncomputable def Zm:Stmt->Pos
 |.Try _ [.ExceptHandler _ _ _ p] _ _ _=>p
 |_=>default
def qb(P:Params):List Stmt:=DD (kQ P 71)
def qy(P:Params):Stmt:=pw ((qb P).drop 7)
def q7(P:Params):Stmt:=.Try [.Assign [.Name (R8 (DE (Ic (qy P)))) (DE (Ic (qy P))).pos] (.Call (.Name (R8 (cF (xv (Ic (qy P))))) (cF (xv (Ic (qy P)))).pos) (my dj.an (.cons (.var 1) (.cons (.var 8) .nil)) (cA (xv (Ic (qy P))))) [] (xv (Ic (qy P))).pos) (Ic (qy P)).pos]
  [.ExceptHandler (some (.Name "LoadFault" (Zl (qy P)).pos)) none [.Assign [.Name (R8 (DE (DF (qy P)))) (DE (DF (qy P))).pos] (.Tuple [.UnaryOp .USub (.Constant (.int 1) (tK (uO (R9 (xv (DF (qy P)))))) (uO (R9 (xv (DF (qy P))))).pos) (R9 (xv (DF (qy P)))).pos] (tK (xv (DF (qy P)))) (xv (DF (qy P))).pos) (DF (qy P)).pos] (Zm (qy P))] [] [] (qy P).pos
theorem R_(P:Params):qb P=gS dj.an xd (pw ((qb P).drop 0))::gS dj.an xe (pw ((qb P).drop 1))::gS dj.an xf (pw ((qb P).drop 2))::gS dj.an xg (pw ((qb P).drop 3))::gS dj.an xh (pw ((qb P).drop 4))::gS dj.an rR (pw ((qb P).drop 5))::gS dj.an oF (pw ((qb P).drop 6))::q7 P::ui dj.an (.cons oG .nil) ((qb P).drop 8):=by kernel_rfl
theorem NA(P:Params):BodyOk tb dj.an (F1 P 71 JP) JP.body (qb P):=by
 rw[R_];exact .cons (by kernel_rfl) (.cons (by kernel_rfl) (.cons (by kernel_rfl) (.cons (by kernel_rfl) (.cons (by kernel_rfl) (.cons (by kernel_rfl) (.cons (by kernel_rfl) (.QT (by kernel_rfl) (by kernel_rfl) (by kernel_rfl) (by kernel_rfl) (by kernel_rfl) (by kernel_rfl) (by kernel_rfl) (by kernel_rfl))))))))
theorem Ie{w:World}{dS:ExcName->Option Value}{mg mb:Str->Option Value}{base:Heap}:wj (JR w dS mg mb base):=by
 intro f fn h;have h:(if f<72 then fns[f]? else none)=some fn:=h
 split at h
 case isFalse=>exact nn h
 rename_i iw;have hb:=j9 (By w.params) (show(fns.take 72)[f]? =some fn by rw[List.getElem?_take_of_lt iw];exact h)
 rw[Nat.zero_add]at hb;constructor
 ·intro hf;have hf:f≠71:=hf;have Vo:(fns.take 71)[f]? =some fn:=by rw[List.getElem?_take_of_lt (by omega)];exact h
  have ho:=j9 (Zk w.params) Vo;rw[Nat.zero_add]at ho;refine λC k=>k _ _ _ _ _ (Vm f fn hb) ho ?_
  have hz:(fns.take 71).zipIdx[f]? =some (fn,f):=by rw[List.getElem?_zipIdx,Vo,Nat.zero_add];rfl
  have e:=aab (·[f]?) (gA w.params);simp only[List.getElem?_map,hz]at e;exact aah e
 ·intro hf;obtain rfl:f=71:=hf;obtain rfl:JP=fn:=aah ((show fns[71]? =some JP from rfl).symm.trans h)
  exact λC k=>k _ _ _ _ _ (Vm 71 JP hb) (NA w.params) (by kernel_rfl) (by kernel_rfl)
end
end HG
end Mine.Internal
namespace Mine.Internal
namespace HG
open PySem PySem.W PySem.Calls PyProof.Rows
set_option genInjectivity false
section
def lf(P:Params):FuncData:=R0 (ob P 35)
def PC(P:Params):Stmt:=pw (DD (lf P))
def PD(P:Params):Stmt:=pw (DD (lf P)).tail
theorem Vp{w:World}{dS:ExcName->Option Value}{mg mb:Str->Option Value}{base:Heap}:LH (JR w dS mg mb base):=λC k=>k (S "LoadFault") (S "LoadFault") 62 [.ref 38] [.ref 38,.type "Exception",.type "BaseException",.type "object"] [] [] false none none (some (.ref 54)) none (some (t "LoadFault" 251)) (some (t "LoadFault" 259)) (some (.bool true)) 35 (by kernel_rfl) (by decide) (by decide) (by decide) (by decide) (λself=>by rw[refuseLoop_ref,refuseLoop_ref];exact PySem.F.store_Exception.passes self) (by rfl) (by kernel_rfl) (by kernel_rfl) (by kernel_rfl) (by kernel_rfl) (by kernel_rfl) (by kernel_rfl) (by kernel_rfl) (lf w.params).name (lf w.params).qualname (lf w.params).params (lf w.params).scope .none (lf w.params).kwdefaults (lf w.params).doc (lf w.params).pyModule (lf w.params).code (lf w.params).closureTuple (ob w.params 35).cls (lf w.params).annotations (ob w.params 35).dict (ob w.params 35).slots ((Vn (DE (PC w.params))).pos) (DE (PC w.params)).pos (xv (PC w.params)).pos (PC w.params).pos ((Vn (DE (PD w.params))).pos) (DE (PD w.params)).pos (xv (PD w.params)).pos (PD w.params).pos (by kernel_rfl) (by kernel_rfl) (λa b c=>iW (by kernel_rfl) (by kernel_rfl) (by kernel_rfl) (by kernel_rfl) rfl (by kernel_rfl) (show[("self" : Str),("code" : Str),("at" : Str)].Nodup by decide) rfl) (by kernel_rfl) (by kernel_rfl) (by kernel_rfl) (by kernel_rfl) (by kernel_rfl) (by kernel_rfl) (by kernel_rfl)
theorem xw{w:World}{dS:ExcName->Option Value}{mg mb:Str->Option Value}{base:Heap}(X:(KK w.params).In base) (T:Top vw (looseW vw loose) dS mg mb base):∀ n,bS (JR w dS mg mb base) n:=Bi Vp Ie
end
end HG
end Mine.Internal
set_option genInjectivity false
namespace Mine.Internal
open PySem PySem.W PySem.Calls PyProof.Rows
noncomputable def litsOf:List Int->dM
 |[]=>.nil
 |i::is=>.cons (.lit (.int i)) (litsOf is)
theorem xy{P:Prog}{E:En}:∀ (is:List Int) {K:List V->En->T},jF P (litsOf is) E K=K (is.map .int) E
 |[],_=>rfl
 |i::is,K=>xy (K:=λvs E=>K (.int i::vs) E) is
noncomputable def Bz(i:Int):Int:=i.fmod 1000003
theorem DG{P:Prog}{c:Nat->List V->MH->Option aB}{h:MH}{zs:List V}:∀ is:List Int,bO (iV P c (.bin .mod (.var 0) (.lit (.int 1000003))) .nil []) (λh=>same h (.lst zs) zs) (is.map .int) h=some (is.map (λi=>.int (Bz i)),h)
 |[]=>F7 rfl
 |i::is=>Bk rfl (by kernel_rfl) (DG is)
noncomputable def qG:En:=List.replicate 16 none
theorem Ig{P:Prog}{c:Nat->List V->MH->Option aB}{r:Option (Fl×St)}{K:Fl->En->T}{h:MH}(is:List Int) (e:run c (K .next (setEnv qG 1 (.val (.lst (is.map λi=>.int (Bz i)))))) h=r) :
  run c (tS P (.asg 1 (.comp (.bin .mod (.var 0) (.lit (.int 1000003))) (.lst (litsOf is)) .nil [])) qG K) h=r:=by
 show run c (jF P (litsOf is) qG _) h=r;rw[xy];show(bO (iV P c (.bin .mod (.var 0) (.lit (.int 1000003))) .nil []) (λh=>same h (.lst (is.map .int)) (is.map .int)) (is.map .int) h).bind _=r
 rw[DG];exact e
noncomputable def BA(l:List V):Bool:=match l with
 |[]=>false
 |x::l=>match x with
  |.int i=>i==14&&l.isEmpty
  |_=>false
theorem BB{l:List V}(h:BA l=true):l=[.int 14]:=by
 cases l with
 |nil=>exact ff h
 |cons x l=>cases x with
  |int i =>
   have h:(i==14&&l.isEmpty)=true:=h;rw[eq_of_beq (ae h).1,List.isEmpty_iff.mp (ae h).2]
  |_=>exact ff h
theorem oH{N:Nm}{G:Gh}:∀ {vs:List Value}{ns:List Int},IntsAre vs ns->bM N G (ns.map .int) vs
 |_,_,.nil=>rfl
 |_,_,.cons n t h=>.mk ⟨t,rfl⟩ (oH h)
theorem lL:∀ {vs:List Value}{ns:List Int},IntsAre vs ns->∀ k,IntsAre (vs.take k) (ns.take k)
 |_,_,.nil,k=>by rw[List.take_nil,List.take_nil];exact .nil
 |_,_,.cons n t h,0=>.nil
 |_,_,.cons n t h,k+1=>.cons n t (lL h k)
section
variable{Z:b_}{n:Nat}{F:Fm}{X:EC Z n F}{r:Addr}{vals:List Value}{ns:List Int}{y:Str}{xp p pos:Pos}{lo hi:Option PySem.Expr}
theorem qH(ht:F.top=true) (hk:F.kd.lookup y=some .local) (hy:ba y=true) (fm:∀ m,X.fm m->m y=some (.ref r)) (hL:X.c.h₀.IsList r vals.toArray) (hI:IntsAre vals ns) (hlen:ns.length<=63) (h1:pT Z n F .nil lo) (h2:pT Z n F (.cons (.lit (.int 14)) .nil) hi) :
  n6 X (.lst (litsOf (ns.take 14))) (.Subscript (.Name y xp) (.Slice lo hi none p) pos):=by
 intro K env L s E Q p q
 let K2:List V->En->T:=λv E=>pick (BA v) (K (.lst ((ns.take 14).map .int)) E) .stuck
 let K1:List V->En->T:=λv E=>pick v.isEmpty (jF Z.P (.cons (.lit (.int 14)) .nil) E K2) .stuck
 have p:X.At env L (X.R (jF Z.P .nil env K1)) s:=At.imp p λO O l r=>⟨l,by
  have r:run (aa Z.P n) (jF Z.P (litsOf (ns.take 14)) env _) _=some X.r:=r;rw[xy]at r;exact r⟩
 refine Subscript_ (PySem.wpAny_Name (p.rec λx f S l r=>gf (s:=X.sh) X.ok S (.loc (X.dE.lo ht _ hk) (X.dE.top ht) (fm _ f)) hy ?_) (bD hy).1)
 refine wpAny_Slice (h1 X K1 env L _ E _ ⟨x,f,S,l,r⟩ λv u env s p=>?_)
 obtain rfl:v=[]:=p.rec λO O O O r=>by
  clear O p;cases v with
  |nil=>rfl
  |cons=>exact nn r
 refine h2 X K2 env _ _ E _ p λv2 u2 env s p=>wpAny_evalPart_none ?_
 obtain rfl:v2=[.int 14]:=p.rec λO O O O r=>by
  have r:run (aa Z.P n) (pick (BA v2) (K _ env) .stuck) _=some X.r:=r;cases q:BA v2 with
  |true=>exact BB q
  |false=>rw[q]at r;exact nn r
 refine p.rec λ{G hp tk h m} x f S l r=>?_
 have S':=S.keeps λb o e=>Heap.get?_push_of_some { cls:=.type "slice",data:=.fields #[u,u2,.none] } e
 obtain⟨o,q1,q2⟩:=hL;have q1:=S'.fr.keep _ _ q1;have hvl:=hI.length;refine tail_any (ops:=[_,_]) ⟨o,q1,q2.1⟩ PySem.F.slot_list_getitem.lookup (wpAny_getItem_list_slice ⟨o,q1,q2⟩ (Heap.IsSliceOf.new ..) (l.2.1.is rfl) (l.1.is rfl) .none (λe=>nomatch e) ?_ (by rw[aaT,sizeLine_eq];omega)) rfl
 have e:=slicePick_upto' vals.toArray 14;rw[show slicePick vals.toArray none (some 14) none=(vals.take 14).toArray by simpa using e]
 exact q _ _ _ _ (At.lst (j:=0) x f S' l.2.2 r (oH (lL hI 14)) (by rw[aan,List.length_take];omega) (S'.fr.push _) (News.push S'.fr S'.nw _))
theorem Sa(cs:bS Z n) (ht:F.top=true) {i:Nat}{elt it JF:ME}{ifs:gZ}{cU:List Nat}{x:Stmt}(h:LK Z.B Z.N.an (.asg i (.comp elt it ifs cU)) F x=true) (h0:n6 X JF (gE Z.N.an it (ah (sw x).e 2))) {K:Fl->En->T}{env:En}{L:Pn X.c.bk}{s:Shared}{E:Value->Shared->Prop}{Q:Flow->Shared->Prop}
  (hf:∀ m u,X.fm m->X.fm λz=>if z=(vw (sw x).t).nm then some u else m z) (p:X.At env L (X.R (tS Z.P (.asg i (.comp elt JF ifs cU)) env K)) s) (q:∀ s env,X.At env L (X.R (K .next env)) s->Q .next s):X.wp (exec (gS Z.N.an (.asg i (.comp elt it ifs cU)) x) X.c.ak) Q E s:=by
 have hl:=ae h;have hc:=ae hl.2;have h:=ae hc.2;have h1:=ae h.1;have h2:=ae h.2;have h3:=ae h1.2;have h4:=ae h3.2;exact rL ht hl.1 hc.1 h1.1 h3.1 h4.1 (ae h4.2).1 (ae h4.2).2 h0 (bg cs elt _ _ (ae h2.2).1) (lE cs ifs _ _ (ae h2.2).2).2 hf p q
end
end Mine.Internal
set_option genInjectivity false
namespace Mine.Internal
namespace HG
open PySem PySem.W PySem.Calls PyProof.Rows
section
def JS:aA:=match Rk with
 |.cons _ t=>t
 |.nil=>.nil
def rU:Prop:=∀ ns:List Int,ns.length<=14->(∀ n∈ns,0<=n/\n<1000003)->∃ um,aw prog (aa prog 39) JS ⟨setEnv qG 1 (.val (.lst (ns.map .int))),h0⟩=some (.ret (.bool true),um)
noncomputable def NC:List Str:=["script", "nums", "w", "store", "top", "yard", "r", "i", "args", "at", "row", "part", "want", "kept", "stands", "turn"].map Str.ofString
def Ih:Fm:=⟨kF.scope.names,NC,true,true,false⟩
theorem ND:kF.body=gS dj.an qs (pw kF.body)::ui dj.an JS kF.body.tail:=by kernel_rfl
theorem Sb:LK tb dj.an qs Ih (pw kF.body)=true:=by kernel_rfl
theorem NF:j4 tb dj.an JS Ih kF.body.tail=true:=by kernel_rfl
theorem BC{w:World}{dS:ExcName->Option Value}{mg mb:Str->Option Value}{base:Heap}(X:(KK w.params).In base) (T:Top vw (looseW vw loose) dS mg mb base) (K0:Below callerA base [] base) {fa:Addr}{cd:Value}{q:Str}{s:Shared}{r:Addr}
  {vals:List Value}{ns:List Int}{m:Str->Option Value}(F:Fr base base.objs.size s.heap m) (hm:m "script" = some (.ref r)) (N0:News base base.objs.size s.heap []) (hL:base.IsList r vals.toArray) (hI:IntsAre vals ns) (hlen:ns.length<=63) (xA:rU)
  {Q:Flow->Shared->Prop}{E:Value->Shared->Prop}(hP:PassesOwn (model row.prog w) (callerA.deeper (envOf q kF.scope base.objs.size fa cd)) (envOf q kF.scope base.objs.size fa cd) E)
  (hQ:∀ h' tk,(∀ b o,base.get? b=some o->h'.get? b=some o)->Q (.ret (.bool true)) { s with heap:=h',toks:=tk }) :
  wpAny (model row.prog w) (callerA.deeper (envOf q kF.scope base.objs.size fa cd)) (execs kF.body (envOf q kF.scope base.objs.size fa cd)) Q E s:=by
 have hk:kF.scope.kind=.function:=by kernel_rfl
 have vA:kF.scope.names.lookup ("script" : Str)=some .local:=by kernel_rfl
 let Z:=JR w dS mg mb base
 let c:=mG callerA base base.objs.size (envOf q kF.scope base.objs.size fa cd) [] 0 NC
 have cs:bS Z 39:=xw X T 39;have ok:fB Z 39 c:=jZ rfl rfl (by decide) (by decide) K0 X T rfl hk rfl rfl (by decide)
 have dE:Ez c Ih:=⟨λx h=>h,λx h=>h,rfl,λO=>rfl,λO=>.mk rfl rfl hk,λO x h=>h⟩
 let G:Gh:=⟨λO=>none,λO=>.fy,[]⟩
 obtain⟨um,DH⟩:=xA ((ns.take 14).map Bz) (by rw[aan,List.length_take];omega) (λn hn=>by
  obtain⟨i,-,rfl⟩:=aaG.mp hn;unfold Bz;rw[Int.fmod_eq_emod_of_nonneg _ (by decide)]
  omega)
 rw[List.map_map]at DH
 let X1:EC Z 39 Ih:=.mk c G (λm=>m "script" = some (.ref r)) s (.ret (.bool true),um) (rT X T) ok dE
 let X2:EC Z 39 Ih:=.mk c G (λO=>True) s (.ret (.bool true),um) (rT X T) ok dE
 have S:cj Z c G m qG h0 s.heap:=⟨⟨List.nodup_nil,λa mo h=>nn h,λa r h=>nn h,λO O=>rfl,λa mo h=>nn h,λa h=>nomatch h⟩,⟨rfl,λi v x e O=>by
  have e:(List.replicate 16 (none:Option MV))[i]? =_:=e;rw[List.getElem?_replicate]at e;split at e<;>cases e⟩,F,N0⟩
 have p1:X1.At qG .nil (X1.R (tS prog (.asg 1 (.comp (.bin .mod (.var 0) (.lit (.int 1000003))) (.lst (litsOf (ns.take 14))) .nil [])) qG λO E=>tSs prog JS E .ret)) s:=.mk (h:=h0) .refl hm S trivial (Ig (ns.take 14) DH)
 rw[ND];refine wpAny_execs_cons (Sa cs rfl Sb (qH (ns:=ns) (vals:=vals) rfl vA (by decide) (λO h=>h) hL hI hlen vg (vh (bg cs (.lit (.int 14)) Ih _ rfl))) (λm u h=>(aaf (by decide +kernel)).trans h) p1 λs env p=>?_)
 have p:X2.At env .nil (X2.R (tSs prog JS env .ret)) s:=p.rec λx f S l r=>.mk x trivial S l r
 refine hV cs Vp JS Ih _ rfl NF X2 .ret env .nil s E Q (λO=>trivial) hP p (λf s w=>?_) λe=>ff e
 cases w with
 |next a=>exact a.rec λO O O O r=>nomatch aah r
 |cont a=>exact a.rec λO O O O r=>nomatch aah r
 |ret a =>
  refine a.rec λx f S l r=>?_
  cases r;rw[show _=Value.bool true from l.1]
  exact hQ _ _ S.fr.keep
end
end HG
end Mine.Internal
namespace Mine.Internal
namespace HG
open PySem PySem.W PySem.Calls PyProof.Rows
theorem kR(xA:rU):PySem.Challenge.rw_sz0049_01.Holds:=by
 refine Bt H8 Nu ?_;intro w Zn eV mg mb G Y fa o pm cd doc dV kV ho hd pn hD Vq hg args vals as Sd Se Zo Zp FT;have KX:(KK w.params).In eV.heap:=kIn_of (e:=Np) Y;have X:=(Ground.X G).1;have V:=(Ground.X G).2;refine Ground.open G ?_;intro T B D TE TW
 try (refine guard_noD D (by decide +kernel) ?_;clear D)
 obtain⟨_,_,M⟩:=bmod_of_top T;have TA:=at_of_top T;obtain⟨_,_,he,B0⟩:=based_of_top T rfl Vq ho hd;have Zq:cd=_:=he;subst Zq;clear he Vq
 wrow_args Sd Se Zo Zp FT
 refine enter_call ?_
 w_top on
 refine codeAny_mono ?_ (λO O g=>GoodW.toG g)
 have K0:=below_caller (Top.heap T)
 w_call any ho hd pn hD T F
 clear hd TA
 k_drop
 rename_i r vals w1 vs0 ra hL r0 hw hr hI hra hl tr dB N0;refine BC (s:=⟨dB,eV.gens,eV.drawn,_,eV.os⟩) KX T K0 F (by rfl) N0 hL hI (by omega) xA PassesOwn.leaving λh' tk hk=>?_
 refine⟨.inl ⟨.bool true,.bool true,[],rfl,λcls=>?_,.bool true,?_,λO=>⟨List.nodup_nil,λa ha=>nomatch ha⟩⟩,hk,rfl,hg⟩
 ·rfl
 ·wrow_post
end HG
end Mine.Internal
namespace Mine.Internal
namespace D
open PySem (Str)
theorem get_set{h:MH}{a b:Ad}{o:aP}:(h.set a o).get b=if b=a then some o else h.get b:=rfl
theorem cN{n f:Nat}{vs:List V}{h:MH}{fn:Fn}(hf:prog.fn f=some fn):aa prog (n+1) f vs h=dt prog (aa prog n) fn vs h:=by
 show(match prog.fn f with | some fn=>dt prog (aa prog n) fn vs h | none=>none)=_
 rw[hf]
theorem cf{nl f:Nat}{b:aA}{np:Nat}(hf:prog.fn f=some ⟨np,nl,b⟩) {n:Nat}{vs:List V}{h h':MH}(hl:vs.length=np) {E:En}{v:V}(e:rn (aa prog n) (tSs prog b (vs.map (λv=>some (.val v))++List.replicate (nl-np) none) rt) h=some (.ret v,⟨E,h'⟩)):aa prog (n+1) f vs h=some (.ret v h'):=by
 rw[dw]at e;exact(cN hf).trans (wm hl e)
theorem cfN{nl f:Nat}{b:aA}{np:Nat}(hf:prog.fn f=some ⟨np,nl,b⟩) {n:Nat}{vs:List V}{h h':MH}(hl:vs.length=np) {E:En}(e:rn (aa prog n) (tSs prog b (vs.map (λv=>some (.val v))++List.replicate (nl-np) none) rt) h=some (.next,⟨E,h'⟩)):aa prog (n+1) f vs h=some (.ret .none h'):=by
 rw[dw]at e;exact(cN hf).trans (gO hl e)
theorem cfX{n f np nl:Nat}{vs:List V}{h h':MH}{b:aA}{E:En}(hf:prog.fn f=some ⟨np,nl,b⟩) (hl:vs.length=np) (e:rn (aa prog n) (tSs prog b (vs.map (λv=>some (.val v))++List.replicate (nl-np) none) rt) h=some (.exc,⟨E,h'⟩)):aa prog (n+1) f vs h=some (.exc h'):=by
 rw[dw]at e;rw[cN hf];show(if vs.length=np then O_ (run _ _ _) else none)=_;rw[aae hl];exact aab O_ e
theorem cps{G:Prop}(f:∀ C:Prop,(G->C)->C):G:=f G id
end D
end Mine.Internal
namespace Mine.Internal
namespace D
open PySem (Str)
set_option compiler.extract_closed false in
set_option bootstrap.genMatcherCode true in
open Lean in
local macro_rules | `(tactic| walk_at $s:str)=>do
 let k:=s.getString
 let some t:=if k == "E0" then some ("|".intercalate ((List.range 18).map fun n=>s!".{n + 1}")) else (("ne:*|>fldk !|<Ad.fld_ne|<fld_en|!|~;H:*|^kgeq|/kgnd <rfl H|/kgne ne H;F:*|<rfl;B:*|<rfl;Q:*|<rfl|!;g:*|/gaD <rfl g|/ga H F|/gmD <rfl g|/gl H B|/gdi H <rfl B|/gLs B|/gTu *|/gm H <rfl|/glI H|^glL|^glT|/gau *|/gsT H|/gil H|/gid H|/gdS H B *|/gdN H B *|>gba Q|<rfS;q:*|<rfT|<rfF|/ceqT *|/ceqF *|/cneT *|/cneF *|/cltT *|/cltF *|/cleF *|/cgtT *|/cgtF *|/cgeF *|/csT *|/csF *|/cnsT *|/cnsF *|/kmD H F F|/knD H F F|/knL *|/knU *|/kmR H F|/knR H F|<rfS;a:/gap H Q|/gstA H k k|/gFL H k k k k|/gFD H k k k|/gaF H Q|/gID H Q F F|/gIL H Q|>gnw *|<gdc|<rfS;L:&|>k_fe <rfl;Z1:>sg .T.G,0,T.get,2 g|>sq_ .T.Q,0,T.tst,2 q|>sc .T.C,1,T.call,4 *|>sx .T.C,1,T.call,4 *|>sa .T.A,0,T.act,2 a|>sl .T.L,1,T.loop,5 L|>sl .T.L,1,T.whl,4 &|>sm .T.M,1,T.comp,4 &;Z:.rn,1,tSs,4 Z1|Z1;R:Z R|<sRr;S:*|>wS R;SS:>wSs R;T:>wT R;cf:#D.cf E0 R;cfN:#D.cfN E0 R;cfX:#D.cfX E0 R;C:>wC R|>wCn R".splitOn ";").map (·.splitOn ":")).findSome? fun l=>if l.head? ==some k then l.getLast? else none | Macro.throwUnsupported
 return (w_p "first" "first" [w_n `null ((t.splitOn "|").map fun s=>w_n `group [.atom .none "|",w_s ((s.splitOn " ").flatMap fun s=>[w_tok s,w_n `null []])])])
abbrev Ck:=Nat×Option Nat
noncomputable def cG(c:Ck):List V:=match c.2 with | none=>[] | some a=>[.int a]
abbrev cv(c:Ck):V:=.tup [.int 2,.int c.1,.tup (cG c)]
noncomputable def grow:List V:=(List.range 16).map (λ(i:Nat)=>V.tup [.int 1,.int i])++[.tup [.int 6,.int 0]]
def bj(L:List Ck):List V:=grow++L.map cv
def gP(L:List Ck):List (V×V):=(bj L).zipIdx.map λp=>(p.1,V.int p.2)
noncomputable abbrev aK:Ad:=.inst 0 0
noncomputable def oI:Option Nat->Bool
 |none=>true
 |some a=>a==7||a==13||a==16
def dO(c:Ck):Bool:=(decide (21<=c.1)&&decide (c.1<30))&&oI c.2
noncomputable def dep(c:Ck):V:=.int (if c.2.isSome then 2 else 1)
noncomputable def BD(c:Ck):V:=.int (if c.2=some 16 then 1 else 0)
def dl(L:List Ck):List V:=List.replicate 17 (.int 1)++L.map dep
def ol(L:List Ck):List V:=List.replicate 16 (.int 0)++.int 1::L.map BD
theorem Ii(L:List Ck):(dl L).length=17+L.length:=by simp[dl];exact Eq.symm (Nat.add_comm _ _)
theorem Ij(L:List Ck):(ol L).length=17+L.length:=by simp[ol];exact Eq.symm (Nat.add_comm _ _)
def Zr:List (Nat×V):=[(0,.ref (.fld aK 0)),(1,.ref (.fld aK 1)),(2,.ref (.fld aK 2)),(3,.ref (.fld aK 3)),(4,.ref (.fld aK 4))]
theorem ae{a b:Bool}(h:(a&&b)=true):a=true/\b=true:=aaC.mp h
structure KT(L:List Ck) (h:MH):Prop where
 nd:L.Nodup
 ok:∀ c∈L,dO c=true
 obj:h.get aK=some (.inst 0 Zr)
 rows:h.get (.fld aK 0)=some (.list (bj L))
 index:h.get (.fld aK 1)=some (.dict (gP L))
 qI:h.get (.fld aK 2)=some (.list (dl L))
 mN:h.get (.fld aK 3)=some (.list (dl L))
 opens:h.get (.fld aK 4)=some (.list (ol L))
theorem lM(L:List Ck):(bj L).length=17+L.length:=by simp[bj,grow];exact Eq.symm (uc rfl)
theorem sub_len{α:Type} [DecidableEq α]:∀ (L U:List α),L.Nodup->(∀ x∈L,x∈U)->L.length<=U.length:=by
 intro L;induction L with
 |nil =>
  intro U _ _;exact aaV _
 |cons x L ih =>
  intro U nd h;refine cJ (aaU.mp nd) λn1 n2=>?_
  have hx:=h x aad;have:=ih (U.erase x) n2 λy hy=>(List.mem_erase_of_ne (λe=>n1 (show x∈L by rw[<- e];exact hy))).mpr (h y (aac _ hy))
  rw[List.length_erase_of_mem hx]at this;have:0<U.length:=List.length_pos_of_mem hx;simp only[aaI];exact O4 (n_6 _ this) (aaL (by assumption))
noncomputable def DI:List Ck:=((List.range 9).map (·+21)).flatMap λt=>[(t,none),(t,some 7),(t,some 13),(t,some 16)]
theorem Ik{c:Ck}(h:dO c=true):c∈DI:=by
 obtain⟨t,a⟩:=c;simp only[dO,aaB,aaS]at h;obtain⟨⟨h1,h2⟩,h3⟩:=h;refine List.mem_flatMap.mpr ⟨t,aaG.mpr ⟨t-21,by simp;exact aak (Nat.sub_le_sub_right (aax h2) 21) (by decide),by exact Eq.symm (n_6 _ h1)⟩,?_⟩
 cases a with
 |none=>simp
 |some a =>
  simp only[oI,Bool.or_eq_true,aam]at h3;rcases h3 with(rfl | rfl) | rfl<;>simp
theorem KT.len{L:List Ck}{h:MH}(R:KT L h):L.length<=36:=sub_len L DI R.nd λc hc=>Ik (R.ok c hc)
def _root_.Mine.Internal.Ad.rt:Ad->Nat
 |.inst c _=>c
 |.fld a _=>a.rt
 |.item a _=>a.rt
 |.aq i=>i+10
theorem cZ{h:MH}{a b:Ad}{o:aP}(e:b≠a):(h.set a o).get b=h.get b:=aaf e
theorem h_{h:MH}{a:Ad}{o:aP}:(h.set a o).get a=some o:=aae rfl
theorem ia{a b:Ad}(p:Nat->Bool) (ha:p a.rt=true) (hb:p b.rt=false):a≠b:=λe=>by rw[e,hb]at ha;cases ha
theorem Vr{h:MH}{a b:Ad}{o:aP}{p:Nat->Bool}(ha:p a.rt=true) (hb:p b.rt=false):(h.set b o).get a=h.get a:=cZ (ia p ha hb)
noncomputable def z0(r:Nat):Bool:=Nat.beq r 0
noncomputable def NG(r:Nat):Bool:=Nat.ble 1 r&&Nat.ble r 3
noncomputable def Il(r:Nat):Bool:=Nat.beq r 10
noncomputable def wx(r:Nat):Bool:=(Nat.ble 1 r&&Nat.ble r 8)&& !(Nat.beq r 4)
def rk(h:MH) (a:Ad):Prop:=a.rt≠0/\a.rt<h.aq+10
theorem xB{r:Nat}(e:NG r=true):wx r=true:=by
 have:=ae e;have a1:=aaz this.1;have a2:=aaz this.2;exact(show ∀ r,r<=3->1<=r->wx r=true by decide) r a2 a1
theorem rV{h:MH}{a:Ad}(e:wx a.rt=true):rk h a:=by
 have:=ae (ae e).1;have a1:=aaz this.1;have a2:=aaz this.2;exact⟨Nat.ne_of_gt a1,aak a2 (aai (show 8<10 by decide) (Nat.le_add_left 10 _))⟩
def n4(a:Ad):Prop:=a.rt≠4
theorem NH{a:Ad}(e:wx a.rt=true):n4 a:=λq=>by rw[q]at e;cases e
structure Gr(L:List Ck) (h:MH) (L':List Ck) (h':MH):Prop where
 kt:KT L' h'
 pre:L <+: L'
 get:∀ a,rk h a->h'.get a=h.get a
 cnt:h'.cnt=h.cnt
 aq:h.aq<=h'.aq
theorem jn{h h':MH}(ht:h.aq<=h'.aq) {a:Ad}(x:rk h a):rk h' a:=⟨x.1,aai x.2 (Nat.add_le_add_right ht 10)⟩
theorem Gr.refl{L:List Ck}{h:MH}(R:KT L h):Gr L h L h:=⟨R,List.prefix_rfl,λO O=>rfl,rfl,aat _⟩
theorem Gr.trans{L L' L'':List Ck}{h h' ee:MH}(x:Gr L h L' h') (y:Gr L' h' L'' ee):Gr L h L'' ee :=
 ⟨y.kt,x.pre.trans y.pre,λa ha=>(y.get a (jn x.aq ha)).trans (x.get a ha),y.cnt.trans x.cnt,aaj x.aq y.aq⟩
noncomputable def ah(L:List Ck) (c:Ck):Nat:=17+L.idxOf c
theorem aN{L L':List Ck}{c:Ck}(h:L <+: L') (hc:c∈L):ah L' c=ah L c:=by
 obtain⟨t,rfl⟩:=h;unfold ah;rw[List.idxOf_append,aae hc]
theorem c_{L:List Ck}{c:Ck}(hc:c∈L):(bj L)[ah L c]? =some (cv c):=by
 unfold bj ah;rw[aaO (by simp[grow])]
 have:L.idxOf c<L.length:=List.idxOf_lt_length_of_mem hc;simp[grow,this]
theorem jo{L:List Ck}{c d:Ck}(hc:c∈L) (hd:d∈L) (e:ah L c=ah L d):c=d:=by
 have h1:=c_ hc;have h2:=c_ hd;rw[e,h2]at h1;have h1:=aah h1;unfold cv cG at h1;obtain⟨a,b⟩:=c;clear h2 hc;obtain⟨a',b'⟩:=d;clear hd e;cases b<;>cases b'<;>simp_all<;>lia
theorem xC{L:List Ck}{c:Ck}:17<=ah L c:=aaF _ _
theorem tF{L:List Ck}{k:Nat}(hk:k<16):(bj L)[k]? =some (.tup [.int 1,.int k]):=by
 unfold bj grow;rw[List.append_assoc,aaJ (by simp;exact hk)]
 simp[hk]
theorem Im{L:List Ck}:(bj L)[16]? =some (.tup [.int 6,.int 0]):=by
 unfold bj grow;simp
theorem DJ{o:Option aB}{v w:V}{h:MH}(e:w=v) (q:o=some (.ret v h)):o=some (.ret w h):=e▸q
theorem uo{o:Option (Fl×St)}{v w:Fl}{st:St}(e:w=v) (q:o=some (v,st)):o=some (w,st):=e▸q
theorem Vs{b:Bool}(h:b=true):¬ b=false:=λq=>nomatch h.symm.trans q
theorem Zs{b:Bool}(h:b=false):¬ b=true:=λq=>nomatch h.symm.trans q
section
variable{L:List Ck}{h:MH}{n:Nat}
theorem c1(R:KT L h) {k:Nat}{v:V}(hk:(bj L)[k]? =some v):aa prog (n+1) 1 [.ref aK,.int k] h=some (.ret v h):=by
 have hl:k<(bj L).length:=(aav.mp hk).1;have hk:=bI.trans hk;have o1:=R.obj;have o2:=R.rows;have h2:¬ ((bj L).length:Int)<=(k:Int):=Int.not_le.mpr (Int.ofNat_lt.mpr hl);clear R;walk_at"cf"
theorem c4(h:MH):aa prog (n+1) 4 [.int 2] h=some (.ret (.int 1) h):=by kernel_rfl
theorem c5(h:MH):aa prog (n+1) 5 [.int 2] h=some (.ret (.int 3) h):=by kernel_rfl
theorem c3(c:Ck) (h:MH):aa prog (n+1) 3 [cv c] h=some (.ret (.tup (cG c)) h):=by kernel_rfl
theorem JT(R:KT L h) {k:Nat}{s:Int}{vs:List V}(hk:(bj L)[k]? =some (.tup (.int s::vs))):aa prog (n+2) 12 [.ref aK,.int k] h=some (.ret (.int s) h):=by
 have q:=c1 (n:=n) R hk;have o1:=R.obj;clear R;walk_at"cf"
def d6(a:Nat):Prop:=a=7∨a=13∨a=16
theorem rW{C_:Prop}{a:Nat}(h:d6 a) (k_:∀ s vs,(bj L)[a]? =some (.tup (.int s::vs))->(s=1∨s=6)->C_):C_:=by
 rcases h with rfl | rfl | rfl
 ·exact k_ 1 _ (tF (by lia)) (.inl rfl)
 ·exact k_ 1 _ (tF (by lia)) (.inl rfl)
 ·exact k_ 6 _ Im (.inr rfl)
theorem c9(R:KT L h) {a:Nat}(ha:d6 a):aa prog (n+2) 9 [.ref aK,.int a] h=some (.ret (.bool true) h):=by
 refine rW (L:=L) ha λs vs hk hs=>?_
 have e1:¬ ((a:Int)=0):=by clear hk;rcases ha with rfl | rfl | rfl<;>decide
 have e2:¬ ((a:Int)=14):=by clear hk e1;rcases ha with rfl | rfl | rfl<;>decide
 have q:=c1 (n:=n) R hk;have o1:=R.obj;clear R hk ha;rcases hs with rfl | rfl<;>walk_at"cf"
theorem Sf{t a:Nat}(hc:dO (t,some a)=true):d6 a:=by
 unfold dO oI at hc;simp only[aaB,Bool.or_eq_true,aam,or_assoc]at hc;exact hc.2
theorem oJ{c:Ck}(hc:dO c=true):cG c=[]∨∃ a,d6 a/\cG c=[.int a]/\c.2=some a:=by
 unfold dO oI at hc;unfold cG;cases q:c.2 with
 |none=>exact .inl rfl
 |some a =>
  rw[q]at hc;simp only[aaB,Bool.or_eq_true,aam]at hc;exact .inr ⟨a,by unfold d6;lia,rfl,rfl⟩
theorem c8(R:KT L h) {c:Ck}(hc:dO c=true):aa prog (n+3) 8 [.ref aK,.tup (cG c)] h=some (.ret .none h):=by
 rcases oJ hc with e | ⟨a,ha,e,-⟩<;>rw[e]
 ·kernel_rfl
 ·have q:=c9 (n:=n) R ha;clear R;have lp:forL (bE prog (aa prog (n+2)) [2] Mf) (aL (.tup [.int a]) [.int a]) [.int a] ⟨[vr aK,vv (.tup [.int a]),none],h⟩=some (.next,⟨[vr aK,vv (.tup [.int a]),vi a],h⟩):=bu rfl (bz rfl (by walk_at"SS")) (k_fe rfl)
  walk_at"cfN"
theorem xD{c:Ck}(hc:dO c=true):21<=c.1/\c.1<30:=by
 unfold dO at hc;simp only[aaB,aaS]at hc;exact hc.1
theorem qJ{c:Ck}(hc:dO c=true):a8 prog h .mem (.int c.1) (.tab 1)=some false:=by
 refine cJ (xD hc) λa b=>?_
 have key:∀ t:Nat,t<30->21<=t->((prog.tab 1).any λp=>p.1==(t:Int))=false:=by decide
 exact aab some (key _ b a)
theorem c7(R:KT L h) {c:Ck}(hc:dO c=true):aa prog (n+4) 7 [.ref aK,cv c] h=some (.ret .none h):=by
 have e1:¬ ((c.1:Int)<=0):=Int.not_le.mpr (Int.ofNat_lt.mpr (aai (by decide) (xD hc).1))
 have e2:=qJ (h:=h) hc;have q:=c8 (n:=n) R hc;clear R;walk_at"cfN"
theorem c6(R:KT L h) {c:Ck}(hc:dO c=true):aa prog (n+5) 6 [.ref aK,cv c] h=some (.ret .none h):=by
 have q:=c7 (n:=n) R hc;have q3:=c3 (n:=n+3) c h;have q5:=c5 (n:=n+3) h;have o1:=R.obj;have lp:∀ {v2 v3:Option MV},∃ Vu,forL (bE prog (aa prog (n+4)) [3] Me) (aL (.tup (cG c)) (cG c)) (cG c) ⟨[vr aK,vv (cv c),v2,v3],h⟩=some (.next,⟨[vr aK,vv (cv c),v2,Vu],h⟩):=by
  intro v2 v3;rcases oJ hc with e | ⟨a,ha,e,-⟩<;>rw[e]
  ·exact⟨v3,k_fe rfl⟩
  ·refine rW (L:=L) ha λs vs hk hs=>?_
   have q1:=c1 (n:=n+3) R hk;clear R;exact⟨vi a,bu rfl (bz rfl (by walk_at"SS")) (k_fe rfl)⟩
 refine gJ (lp (v2:=vi 2) (v3:=none)) λVu lp=>?_
 clear R;walk_at"cfN"
theorem Sg{x:V}{a:List V}:bX [] (x::a)=false:=rfl
theorem Sh{x:V}{a:List V}:bX (x::a) []=false:=rfl
theorem BE{c d:Ck}:aC (cv c) (cv d)=decide (c=d):=by
 obtain⟨a,b⟩:=c;obtain⟨a',b'⟩:=d;cases b<;>cases b'<;>simp[cv,cG,jC,Eg,uH,zH,Sg,Sh]<;>(rw[Bool.eq_iff_iff];simp;try lia)
theorem xF{v:V}(h:v∈bj L):kk v=2:=by
 unfold bj grow at h;simp only[aaM,aaG,aar]at h;rcases h with(⟨i,_,rfl⟩ | rfl) | ⟨c,_,rfl⟩<;>rfl
theorem BF(c:Ck):∀ (L:List Ck) (k:Nat),((L.map cv).zipIdx k).find? (λp=>aC p.1 (cv c))=if c∈L then some (cv c,k+L.idxOf c) else none:=by
 intro L;induction L with
 |nil =>
  intro k;exact rfl
 |cons d L ih =>
  intro k;rw[List.map_cons,List.zipIdx_cons,List.find?_cons];simp only[BE];by_cases e:d=c
  ·clear ih;subst e;simp
  ·have e':¬ c=d:=λz=>e z.symm
   simp only[e,decide_false,ih (k+1),aau,e',false_or,List.idxOf_cons,beq_eq_false_iff_ne.mpr e,cond_false];split<;>simp;exact uc rfl
theorem qK(c:Ck):aF (cv c) (gP L)=some (if c∈L then some (.int (ah L c)) else none):=by
 unfold aF;have h1:(gP L).all (λp=>kk p.1==kk (cv c))=true:=by
  rw[aa0];intro p hp;unfold gP at hp;obtain⟨⟨v,i⟩,hq,rfl⟩:=aaG.mp hp;have hv:v∈bj L:=(List.mem_zipIdx hq).2.2▸List.getElem_mem _;show(kk v==2)=true;rw[xF hv];rfl
 rw[aae h1];congr 1;unfold gP bj;rw[List.zipIdx_append,aaP,List.find?_append];have h2:(grow.zipIdx.map λp=>(p.1,V.int p.2)).find? (λp=>aC p.1 (cv c))=none:=by
  unfold cv;rfl
 rw[h2,Option.none_or,List.find?_map];have:(λp:V×V=>aC p.1 (cv c))∘(λp:V×Nat=>(p.1,V.int p.2))=λp=>aC p.1 (cv c):=rfl
 rw[this,BF];split<;>simp[ah,grow]
noncomputable def ins(L:List Ck) (c:Ck):List Ck:=if c∈L then L else L++[c]
theorem mO{c:Ck}:L <+: ins L c:=by
 unfold ins;split
 ·exact List.prefix_rfl
 ·exact List.prefix_append _ _
theorem cC{c:Ck}:c∈ins L c:=by
 unfold ins;split
 ·assumption
 ·simp
theorem xG{c:Ck}:eL (cv c)=true:=by
 obtain⟨a,b⟩:=c;cases b<;>rfl
theorem jP{c:Ck}(hc:c∉L):cz (cv c) (.int ((bj L).length:Nat)) (gP L)=gP (L++[c]):=by
 have key:∀ (es:List (V×V)) (v:V),(∀ p∈es,aC p.1 (cv c)=false)->cz (cv c) v es=es++[(cv c,v)]:=by
  intro es v h;induction es with
  |nil=>rfl
  |cons p es ih =>
   obtain⟨y,u⟩:=p;rw[kput_1];rw[h _ aad];simp[ih λp hp=>h p (aac _ hp)]
 rw[key]
 ·unfold gP bj;rw[aaP,<- List.append_assoc,List.zipIdx_append (xs:=grow++L.map cv)];simp
 ·intro p hp;have h:=qK (L:=L) c;rw[aaf hc]at h;unfold aF at h;split at h
  ·have h:=aah h;rw[Option.map_eq_none_iff,List.find?_eq_none]at h
   simpa using h p hp
  ·cases h
theorem Io{a:Nat}(ha:a<17):(dl L)[a]? =some (.int 1):=by
 unfold dl;rw[aaJ (by simpa using ha),List.getElem?_replicate,aae ha]
theorem Ip{a:Nat}(ha:d6 a):(ol L)[a]? =some (.int (if a=16 then 1 else 0)):=by
 rcases ha with rfl | rfl | rfl
 ·rfl
 ·rfl
 ·rfl
theorem Zt{a:Nat}(ha:a<17):dm (dl L) a=some (.int 1):=bI.trans (Io ha)
theorem Vv{a:Nat}(ha:d6 a):dm (ol L) a=some (.int (if a=16 then 1 else 0)):=bI.trans (Ip ha)
theorem BG{C_:Prop}(R:KT L h) {c:Ck}(hc:dO c=true) {v1 v2 v7 v8:Option MV}(k_:∀ Zu,forL (bE prog (aa prog n) [7] LV) (aL (.tup (cG c)) (cG c)) (cG c) ⟨[vr aK,v1,v2,vi 1,vi 1,vi 0,vi 1,v7,v8],h⟩ =
  some (.next,⟨[vr aK,v1,v2,vv (dep c),vv (dep c),vv (BD c),vi 1,Zu,v8],h⟩)->C_):C_:=by
 obtain⟨t,a⟩:=c;cases a with
 |none=>exact k_ v7 (k_fe rfl)
 |some a =>
  have ha:=Sf hc;refine k_ (vi a) (bu rfl (bz rfl ?_) (k_fe rfl));clear k_ hc;have o0:=R.obj;have o2:=R.qI;have o3:=R.mN;have o4:=R.opens;have n1:=Zt (L:=L) (a:=a) (by rcases ha with rfl | rfl | rfl<;>decide)
  have n2:=Vv (L:=L) ha;clear R;by_cases Iq:a=16
  ·subst Iq;walk_at"SS"
  ·rw[aaf Iq]at n2;show _=some (Fl.next,St.mk [_,_,_,_,_,vv (BD (t,some a)),_,_,_] _);rw[show BD (t,some a)=.int 0 from aab V.int (aaf λe=>Iq (aah e))]
   walk_at"SS"
theorem KT.put(R:KT L h) {c:Ck}(hc:dO c=true) (hm:c∉L):Gr L h (L++[c]) (((((h.set (.fld aK 0) (.list (bj L++[cv c]))).set (.fld aK 1) (.dict (gP (L++[c])))).set (.fld aK 2) (.list (dl L++[dep c]))).set (.fld aK 3) (.list (dl L++[dep c]))).set (.fld aK 4) (.list (ol L++[BD c]))):=by
 have e1:bj L++[cv c]=bj (L++[c]):=by simp[bj]
 have e2:dl L++[dep c]=dl (L++[c]):=by simp[dl]
 have e3:ol L++[BD c]=ol (L++[c]):=by simp[ol]
 rw[e1,e2,e3];refine⟨⟨?_,?_,R.obj,rfl,rfl,rfl,rfl,rfl⟩,List.prefix_append _ _,λa ha=>?_,rfl,aat _⟩
 ·rw[List.nodup_append];exact⟨R.nd,by simp,by intro a ha b hb;simp at hb;clear e3 e2 e1;subst hb;exact λe=>hm (e▸ha)⟩
 ·intro d hd;clear e3 e2 e1;rcases aaM.mp hd with hd | hd
  ·exact R.ok d hd
  ·simp at hd;subst hd;exact hc
 ·have ne:∀ k,a≠.fld aK k:=λk e=>by subst e;exact ha.1 rfl
  exact kgne (ne _) (kgne (ne _) (kgne (ne _) (kgne (ne _) (kgne (ne _) rfl))))
theorem Ir{C_:Prop}(c:Ck) (k_:∀ d:Int,dep c=.int d->d<=2->C_):C_:=by
 obtain⟨t,_ | a⟩:=c;exact k_ 1 rfl (by decide);exact k_ 2 rfl (by decide)
theorem BH{c:Ck}(hm:c∉L):ah (L++[c]) c=(bj L).length:=by
 unfold ah;rw[List.idxOf_append,aaf hm,lM];simp
theorem Iu(R:KT L h) {c:Ck}(hm:c∈L):aa prog (n+6) 2 [.ref aK,cv c] h=some (.ret (.int (ah L c)) h):=by
 have Zv:=(qK (L:=L) c).trans (aab some (aae hm));have o0:=R.obj;have o1:=R.index;have hk:eL (cv c)=true:=xG;clear R;walk_at"cf"
theorem Iv{C_:Prop}(R:KT L h) {c:Ck}(hc:dO c=true) (hm:c∉L) (k_:∀ h',aa prog (n+6) 2 [.ref aK,cv c] h=some (.ret (.int (bj L).length) h')->Gr L h (L++[c]) h'->C_):C_:=by
 refine BG R hc (n:=n+5) (v1:=vv (cv c)) (v2:=vi (-1)) (v7:=none) (v8:=none) λv7 q8=>?_
 refine Ir c λd hd hd2=>?_
 have g:=R.put hc hm;have Zv:=(qK (L:=L) c).trans (aab some (aaf hm));have NI:=jP hm;have o0:=R.obj;have o1:=R.index;have hk:eL (cv c)=true:=xG;have q6:=c6 (n:=n) R hc;have q3:=c3 (n:=n+4) c h;have q4:=c4 (n:=n+4) h;have hl:=R.len;have o2:=R.rows;have o3:=R.qI;have o4:=R.mN;have o5:=R.opens;have l1:(bj L).length<1000:=by rw[lM];exact nI 1 (aaE hl _) rfl
 have l2:(gP L).length<1000:=by unfold gP;rw[aan,List.length_zipIdx];exact l1
 have l3:(dl L).length<1000:=by rw[Ii];exact nI 1 (aaE hl _) rfl
 have l4:(ol L).length<1000:=by rw[Ij];exact nI 1 (aaE hl _) rfl
 rw[hd]at q8 g;rw[<- NI]at g;have n1:¬ (24:Int)<d:=Int.not_lt.mpr (Int.le_trans hd2 (by decide))
 have n2:¬ (4096:Int)<d:=Int.not_lt.mpr (Int.le_trans hd2 (by decide))
 refine k_ _ ?_ g;clear R hc g;walk_at"cf"
theorem c2{C_:Prop}(R:KT L h) {c:Ck}(hc:dO c=true) (k_:∀ h',aa prog (n+6) 2 [.ref aK,cv c] h=some (.ret (.int (ah (ins L c) c)) h')->Gr L h (ins L c) h'->C_):C_:=by
 unfold ins at k_;by_cases hm:c∈L
 ·rw[aae hm]at k_;exact k_ h (Iu R hm) (.refl R)
 ·rw[aaf hm,BH hm]at k_;exact Iv R hc hm k_
end
section
variable{L:List Ck}{h h':MH}{n:Nat}
theorem KT.of_get(R:KT L h) (e:∀ a,z0 a.rt=true->h'.get a=h.get a):KT L h' :=
 ⟨R.nd,R.ok,(e _ rfl).trans R.obj,(e _ rfl).trans R.rows,(e _ rfl).trans R.index,(e _ rfl).trans R.qI,(e _ rfl).trans R.mN,(e _ rfl).trans R.opens⟩
theorem KT.set(R:KT L h) {a:Ad}{o:aP}(e:z0 a.rt=false):KT L (h.set a o):=R.of_get λO ha=>Vr ha e
theorem xH{i:Nat}:z0 (i+10)=false:=rfl
theorem oK{b:Ad}:(aX h).get b=if b=.aq h.aq then some (.dict []) else h.get b:=rfl
theorem KT.aX(R:KT L h):KT L (aX h):=R.of_get λa ha=>aaf (ia z0 ha xH)
theorem gn{a:Ad}(ha:rk h a):a≠.aq h.aq:=λe=>by subst e;exact aaW _ ha.2
theorem Gr.aX(R:KT L h):Gr L h L (aX h):=⟨R.aX,List.prefix_rfl,λa ha=>by rw[oK,aaf (gn ha)],rfl,Nat.le_succ _⟩
theorem Gr.set{L':List Ck}{t:Ad}{o:aP}(g:Gr L h L' h') (ht:∀ a,rk h a->a≠t) (hk:z0 t.rt=false):Gr L h L' (h'.set t o) :=
 ⟨g.kt.set hk,g.pre,λa ha=>by rw[get_set,aaf (ht a ha)];exact g.get a ha,g.cnt,g.aq⟩
theorem Iw:aF (.tup [.int 6,.int 0]) (gP L)=some (some (.int 16)):=by
 unfold aF;have h1:(gP L).all (λp=>kk p.1==kk (.tup [.int 6,.int 0]))=true:=by
  rw[aa0];intro p hp;unfold gP at hp;obtain⟨⟨v,i⟩,hq,rfl⟩:=aaG.mp hp;have hv:v∈bj L:=(List.mem_zipIdx hq).2.2▸List.getElem_mem _;show(kk v==2)=true;rw[xF hv];rfl
 rw[aae h1];unfold gP bj;rw[List.zipIdx_append,aaP,List.find?_append];rfl
theorem Si{C_:Prop}(R:KT L h) {c:Ck}(hc:dO c=true) (k_:∀ h',aa prog (n+7) 10 [.ref aK,.int c.1,.tup (cG c)] h=some (.ret (.int (ah (ins L c) c)) h')->Gr L h (ins L c) h'->C_):C_:=by
 refine c2 (n:=n) R hc λh' e g=>?_
 refine k_ h' ?_ g;have o:=R.obj;have e2:=qJ (h:=h) hc;clear R k_ hc;walk_at"cf"
theorem Zw(R:KT L h):aa prog (n+2) 11 [.ref aK,.int 0] h=some (.ret (.int 16) h):=by
 have o:=R.obj;have o1:=R.index;have k:=Iw (L:=L);clear R;have e:aa prog (n+1) 2 [.ref aK,.tup [.int 6,.int 0]] h=some (.ret (.int 16) h):=by
  walk_at"cf"
 walk_at"cf"
theorem Vx(R:KT L h) {c:Ck}(hc:c∈L):aa prog (n+2) 13 [.ref aK,.int (ah L c)] h=some (.ret (.int c.1) h):=by
 have e:=c1 (n:=n) R (c_ hc);have o:=R.obj;clear R;walk_at"cf"
theorem Sj(R:KT L h):aa prog (n+2) 13 [.ref aK,.int 12] h=some (.ret (.int 1) h):=by
 have e:aa prog (n+1) 1 [.ref aK,.int 12] h=_:=c1 (n:=n) R (tF (k:=12) (by decide))
 have o:=R.obj;clear R;walk_at"cf"
theorem JU(R:KT L h) {c:Ck}(hc:c∈L):aa prog (n+2) 14 [.ref aK,.int (ah L c)] h=some (.ret (.tup (cG c)) h):=by
 have e:=c1 (n:=n) R (c_ hc);have o:=R.obj;clear R;walk_at"cf"
theorem Sk(R:KT L h):aa prog (n+2) 14 [.ref aK,.int 12] h=some (.ret (.tup []) h):=by
 have e:aa prog (n+1) 1 [.ref aK,.int 12] h=_:=c1 (n:=n) R (tF (k:=12) (by decide))
 have o:=R.obj;clear R;walk_at"cf"
noncomputable def ta(a:Option Nat):List V:=match a with | none=>[] | some a=>[.int a]
theorem j_(c:Ck):cG c=ta c.2:=rfl
noncomputable def cl(t:Option Nat) (a:Nat):Nat:=if a=16 then t.getD 16 else a
def BI(t:Option Nat) (c:Ck):Ck:=(c.1,c.2.map (cl t))
theorem Zx(t:Option Nat):aa prog (n+1) 18 [.tup (ta t),.int 0,.int 16] h=some (.ret (.int (cl t 16)) h):=by
 cases t<;>walk_at"cf"
theorem DK:dm (ol L) 16=some (.int 1):=(Vv (a:=16) (.inr (.inr rfl))).trans (by rw[aae rfl])
theorem Iy:dm (bj L) 16=some (.tup [.int 6,.int 0]):=(bI (k:=16)).trans Im
theorem NJ(R:KT L h) (t:Option Nat) {m:V}{x:Nat}(hx:h.get (.aq x)=some (.dict [])):aa prog (n+2) 16 [.ref aK,.int 16,.tup (ta t),m,.ref (.aq x)] h=some (.ret (.int (cl t 16)) h):=by
 have e:=Zx (n:=n) (h:=h) t;have o1:=R.obj;have o2:=R.opens;have o3:=R.rows;have n1:=DK (L:=L);have n2:=Iy (L:=L);clear R;walk_at"cf"
theorem Zy{c:Ck}(hc:c∈L):dm (ol L) (ah L c)=some (BD c):=by
 rw[bI];unfold ol ah;rw[aaO (by simp;exact aay (aaF _ _))]
 have:L.idxOf c<L.length:=List.idxOf_lt_length_of_mem hc;have e:17+L.idxOf c-(List.replicate 16 (V.int 0)).length=L.idxOf c+1:=by simp;exact n_7 _ (uc rfl)
 rw[e];simp[this]
theorem Zz{k:Nat}(hk:k<16):dm (ol L) k=some (.int 0):=by
 rw[bI];unfold ol;rw[aaJ (by simpa using hk),List.getElem?_replicate,aae hk]
theorem Iz(R:KT L h) {k:Nat}{t m:V}(hk:k<16):aa prog (n+2) 15 [.ref aK,.int k,t,m] h=some (.ret (.int k) h):=by
 have e:=c1 (n:=n) R (tF hk);have o1:=R.obj;have o2:=R.opens;have n1:=Zz (L:=L) hk;clear R;walk_at"cf"
theorem Sl{C_:Prop}(R:KT L h) (t:Option Nat) {m:V}(k_:∀ h',aa prog (n+3) 15 [.ref aK,.int 16,.tup (ta t),m] h=some (.ret (.int (cl t 16)) h')->Gr L h L h'->C_):C_:=by
 have e:aa prog (n+2) 1 [.ref aK,.int 16] h=_:=c1 (n:=n+1) R Im;have e2:=NJ (n:=n) R.aX t (m:=m) (x:=h.aq) kgeq;have o1:=R.obj;have o2:=R.opens;have n1:=DK (L:=L);refine k_ _ ?_ (.aX R);clear R;walk_at"cf"
def tok(t:Option Nat):Prop:=∀ a,t=some a->d6 a
theorem IA{t:Option Nat}(ht:tok t) {a:Nat}(ha:d6 a):d6 (cl t a):=by
 unfold cl;split
 ·cases t with
  |none=>exact .inr (.inr rfl)
  |some x=>exact ht x rfl
 ·exact ha
theorem mP{t:Nat}{a:Option Nat}:dO (t,a)=true↔(21<=t/\t<30)/\tok a:=by
 unfold dO oI tok d6;cases a<;>simp[or_assoc]
theorem IB{t:Option Nat}(ht:tok t) {c:Ck}(hc:dO c=true):dO (BI t c)=true:=by
 obtain⟨i,a⟩:=c;rw[mP]at hc;unfold BI;rw[mP];refine⟨hc.1,λb hb=>?_⟩
 cases a with
 |none=>cases hb
 |some a=>cases hb;exact IA ht (hc.2 a rfl)
theorem ZA{C_:Prop}(R:KT L h) {i x:Nat}{ys:List V}(hc:dO (i,some x)=true) (k_:∀ h',aa prog (n+7) 17 [.ref aK,.tup [.int 2,.int i,.tup ys],.tup [.int x]] h=some (.ret (.int (ah (ins L (i,some x)) (i,some x))) h')->Gr L h (ins L (i,some x)) h'->C_):C_:=by
 refine c2 (n:=n) R hc λh' e g=>?_
 refine k_ h' ?_ g;have o:=R.obj;clear R k_ hc;have e:aa prog (n+6) 2 [.ref aK,.tup [.int 2,.int i,.tup [.int x]]] h=_:=e;walk_at"cf"
theorem Sm{c:Ck}(hc:c∈L):dm (bj L) (ah L c)=some (cv c):=bI.trans (c_ hc)
theorem ZC{k:Nat}{v:V}:aF (.int k) [(.int k,v)]=some (some v):=(aae rfl).trans (aab (λo=>some (Option.map (·.2) o)) (List.find?_cons_of_pos (a:=(V.int k,v)) (l:=[]) (show aC (.int k) (.int k)=true from beq_self_eq_true (k:Int))))
theorem Sn{C_:Prop}(R:KT L h) {t:Option Nat}(ht:tok t) {c:Ck}(hc:c∈L) {m:V}(k_:∀ h',aa prog (n+9) 15 [.ref aK,.int (ah L c),.tup (ta t),m] h=some (.ret (.int (ah (ins L (BI t c)) (BI t c))) h')->Gr L h (ins L (BI t c)) h'->C_):C_:=by
 have e:=c1 (n:=n+7) R (c_ hc);have JJ:=Zy hc;have o1:=R.obj;have o2:=R.opens;obtain⟨i,a⟩:=c;by_cases ha:a=some 16
 ·subst ha;have Vy:dO (i,some (cl t 16))=true:=IB ht (R.ok _ hc);refine ZA (n:=n) (ys:=[.int 16]) R.aX Vy λh' e3 g=>?_
  have e4:=NJ (n:=n+5) R.aX t (m:=m) (x:=h.aq) kgeq;have e5:=c3 (n:=n+6) (i,some 16) (aX h);have hx:h'.get (.aq h.aq)=some (.dict []):=(g.get (.aq h.aq) ⟨Nat.succ_ne_zero _,aaN _⟩).trans kgeq;have Pc:(aX h).get (.aq h.aq)=some (.dict []):=kgeq;have gg:=((Gr.aX R).trans g).set (t:=.aq h.aq) (o:=.dict [(.int (ah L (i,some 16)),.int (ah (ins L (i,some (cl t 16))) (i,some (cl t 16))))]) (λa ha e=>gn ha e) xH
  refine k_ _ ?_ gg;have R2:KT L (aX h):=R.aX;have p1:=R2.obj;have p2:=R2.opens;have p3:=R2.rows;have Vz:=Sm hc;clear k_ R R2 gg g Vy ht hc;have e:aa prog (n+8) 1 [.ref aK,.int (ah L (i,some 16))] h=some (.ret (.tup [.int 2,.int i,.tup [.int 16]]) h):=e;have Vz:dm (bj L) (ah L (i,some 16))=some (.tup [.int 2,.int i,.tup [.int 16]]):=Vz;have e5:aa prog (n+7) 3 [.tup [.int 2,.int i,.tup [.int 16]]] (aX h)=some (.ret (.tup [.int 16]) (aX h)):=e5;have e16:aa prog (n+8) 16 [.ref aK,.int (ah L (i,some 16)),.tup (ta t),m,.ref (.aq h.aq)] (aX h)=some (.ret (.int (ah (ins L (i,some (cl t 16))) (i,some (cl t 16)))) (h'.set (.aq h.aq) (.dict [(.int (ah L (i,some 16)),.int (ah (ins L (i,some (cl t 16))) (i,some (cl t 16))))]))):=by
   generalize ah L (i,some 16)=k at *;have lp:forL (bE prog (aa prog (n+7)) [7] C5) (aL (.tup [.int 16]) [.int 16]) [.int 16] ⟨[vr aK,vi k,vv (.tup (ta t)),vv m,vr (.aq h.aq),vv (.tup [.int 2,.int i,.tup [.int 16]]),some (.bH []),none],aX h⟩ =
    some (.next,⟨[vr aK,vi k,vv (.tup (ta t)),vv m,vr (.aq h.aq),vv (.tup [.int 2,.int i,.tup [.int 16]]),some (.bH [.int (cl t 16)]),vi 16],aX h⟩):=bu rfl (bz rfl (by walk_at"SS")) (k_fe rfl)
   have kf:aF (.int k) (cz (.int k) (.int (ah (ins L (i,some (cl t 16))) (i,some (cl t 16)))) [])=_:=ZC;walk_at"cf"
  walk_at"cf"
 ·have pj:BI t (i,a)=(i,a):=by
   unfold BI cl;clear hc JJ k_ e;cases a with
   |none=>rfl
   |some a=>simp;intro h;exact absurd (by rw[h]) ha
  have ho:BD (i,a)=.int 0:=by unfold BD;rw[aaf ha]
  have hi:ins L (i,a)=L:=aae hc;rw[pj,hi]at k_;refine k_ h ?_ (.refl R);rw[ho]at JJ;clear k_;clear R;walk_at"cf"
def uq(a:Nat):Prop:=a<16∨a=16
theorem So{C_:Prop}(R:KT L h) (t:Option Nat) {a:Nat}(ha:uq a) {m:V}(k_:∀ h',aa prog (n+3) 15 [.ref aK,.int a,.tup (ta t),m] h=some (.ret (.int (cl t a)) h')->Gr L h L h'->C_):C_:=by
 rcases ha with ha | rfl
 ·refine k_ h ?_ (.refl R);rw[show cl t a=a from aaf (aaR ha)]
  exact Iz R ha
 ·exact Sl R t k_
noncomputable def ao(l:List Nat):List V:=l.map λ(i:Nat)=>.int i
theorem aG{l:List Nat}:(ao l).length=l.length:=aan ..
theorem oL{l:List Nat}{x:Nat}:ao l++[.int x]=ao (l++[x]):=by simp[ao]
theorem xI{C_:Prop}(t:Option Nat) {m:V}{ks:V}{ks' zs:List V}:∀ (l:List Nat),(∀ a∈l,uq a)->∀ {h:MH}(R:KT L h) (out:List Nat) (x:Option MV),out.length+l.length<500->(∀ h' x',forL (bE prog (aa prog (n+3)) [5] C6) (aL (.tup ks') zs) (ao l) ⟨[vr aK,vv ks,vv (.tup (ta t)),vv m,some (.bH (ao out)),x],h⟩=some (.next,⟨[vr aK,vv ks,vv (.tup (ta t)),vv m,some (.bH (ao (out++l.map (cl t)))),x'],h'⟩)->Gr L h L h'->C_)->C_:=by
 intro l;induction l with
 |nil =>
  intro _ h R out x _ k_;exact k_ h x (by rw[List.map_nil,List.append_nil];exact k_fe rfl) (.refl R)
 |cons a l ih =>
  intro hl h R out x hlen k_;refine So (n:=n) R t (hl a aad) (m:=m) λh1 e g=>?_
  refine ih (λb hb=>hl b (aac _ hb)) g.kt (out++[cl t a]) (vi a) (by simp only[aaI,aag,List.length_nil]at hlen⊢;exact Ct hlen) λh' x' e2 g2=>?_
  refine k_ h' x' ?_ (g.trans g2);have FT:(ao out).length<1000:=by rw[aG];exact nJ hlen rfl
  rw[<- oL]at e2;rw[List.map_cons,List.append_cons];clear R g g2 k_ hlen hl;exact bu rfl (bz rfl (by walk_at"SS")) e2
theorem Sp{C_:Prop}(R:KT L h) (t:Option Nat) {l:List Nat}(hl:∀ a∈l,uq a) (hlen:l.length<400) {m:V}(k_:∀ h',aa prog (n+4) 19 [.ref aK,.tup (ao l),.tup (ta t),m] h=some (.ret (.tup (ao (l.map (cl t)))) h')->Gr L h L h'->C_):C_:=by
 refine xI (n:=n) (ks:=.tup (ao l)) (ks':=ao l) (zs:=ao l) (m:=m) t l hl R [] none (by rw[List.length_nil];exact cP (Nat.add_lt_add_left hlen _) rfl) λh' x' e g=>?_
 refine k_ h' ?_ g;rw[List.nil_append]at e;clear R g k_;walk_at"cf"
end
structure Rw where
 q:Bool
 ix:List Nat
 g:Nat
 s:Nat
 mode:Nat
 seen:Bool
structure Md where
 i:Nat
 p:Nat
 q:Bool
 ix:List Nat
 acc:Nat
 mode:Nat
structure Ty where
 meths:List Nat
 props:List Rw
 aE:List (Nat×Ck×Nat)
structure Wd where
 ob:Bool
 lv:List (Bool×Nat)
 tb:List (List Rw)
 ty:List Ty
 ms:List Md
 aZ:List (Nat×Nat)
 root:List (Nat×Nat)
 au:List (Nat×Nat×Nat)
 put:List (Nat×Nat)
 nl:Nat
noncomputable def Rw.mid(r:Rw) (p:Nat):Nat:=if p=2 then r.g else r.s
noncomputable def fF(q:Bool):Str:=if q then Str.ofString "Q" else Str.ofString "P"
noncomputable def IC(p:Nat):Str:=if p=2 then Str.ofString "get_" else Str.ofString "set_"
def NK(p:Nat) (q:Bool):Str:=IC p++fF q
noncomputable def slot(m:Nat):Bool:=m==0||m==1||m==5||m==6
def d7(m:Nat):Int:=if slot m then (if m=0 then 130 else 134) else 128
def bl(r:Rw):V:=.tup [.str (fF r.q),.int 7,.int r.g,.int r.s,.tup (ao r.ix)]
def bw(r:Rw):V:=.tup [.str (fF r.q),.tup (ao r.ix),.int r.g,.int r.s,.int r.mode,.int (if r.seen then 1 else 0),bl r]
noncomputable def Md.params(m:Md):List Nat:=if m.p=2 then m.ix else m.ix++[7]
noncomputable def Md.ret(m:Md):Nat:=if m.p=2 then 7 else 0
noncomputable def Wd.wide(W:Wd) (i:Nat):Bool:=((W.lv[i]?).getD (false,0)).1
noncomputable def Wd.dy(W:Wd) (i:Nat):Nat:=((W.lv[i]?).getD (false,0)).2
def Wd.pa(W:Wd) (i a:Nat):Nat:=if W.dy i=0 then 7 else if W.dy i=1 then 13 else if W.wide i then a else 7
def Wd.kd(W:Wd) (i a:Nat):Ck:=(21+i,if W.wide i then some a else none)
noncomputable abbrev aS:Ad:=.inst 3 0
noncomputable abbrev aW:Ad:=.aq 0
noncomputable def Wd.b(W:Wd):Nat:=if W.ob then 2 else 1
def Wd.eG(W:Wd) (i:Nat):Ad:=.inst 1 (W.b+i)
def Wd.ka(W:Wd):List V:=(List.range 30).map λk=>if k=1 then (if W.ob then .ref (.inst 1 0) else .none) else if 21<=k/\k<21+W.ty.length then .ref (W.eG (k-21)) else if k=29 then .ref (.inst 1 (W.b-1)) else .none
noncomputable def Wd.zu(W:Wd):List V:=.none::(List.range (W.ms.length+1)).map λj=>.ref (.inst 2 j)
def cH(L:List Ck) (x:Nat×Ck×Nat):V:=.tup [.int x.1,.int (ah L x.2.1),.int x.2.2]
structure xJ(h:MH) (a:Ad) (tid sort:Nat) (base:Int) (np:Nat) (meths:List Nat) (props aE:List V):Prop where
 tid:getAttr h (.ref a) 7=some (.int tid)
 sort:getAttr h (.ref a) 9=some (.int sort)
 base:getAttr h (.ref a) 11=some (.int base)
 par:getAttr h (.ref a) 13=some (.ref (.fld a 13))
 met:getAttr h (.ref a) 17=some (.ref (.fld a 17))
 imp:getAttr h (.ref a) 21=some (.ref (.fld a 21))
 ID:getAttr h (.ref a) 22=some (.ref (.fld a 22))
 JV:getAttr h (.ref a) 18=some (.int 0)
 xK:h.get (.fld a 13)=some (.list (List.replicate np (.str (Str.ofString "T"))))
 gQ:h.get (.fld a 17)=some (.list (ao meths))
 ke:h.get (.fld a 21)=some (.list aE)
 qL:h.get (.fld a 22)=some (.list props)
structure zv(h:MH) (a:Ad) (own:Nat) (nm:Str) (acc:Nat) (fl:Int) (ret:Nat) (par:List Nat):Prop where
 own:getAttr h (.ref a) 27=some (.int own)
 nm:getAttr h (.ref a) 8=some (.str nm)
 acc:getAttr h (.ref a) 28=some (.int acc)
 fl:getAttr h (.ref a) 10=some (.int fl)
 gen:getAttr h (.ref a) 29=some (.int 0)
 gb:∃ x,getAttr h (.ref a) 31=some (.ref x)
 ret:getAttr h (.ref a) 32=some (.int ret)
 par:getAttr h (.ref a) 13=some (.tup (ao par))
def Wd.base(W:Wd) (L:List Ck) (i:Nat):Nat:=if i=0 then 12 else ah L (W.kd (i-1) (W.pa i 16))
structure WR(W:Wd) (L:List Ck) (h:MH):Prop where
 kt:KT L h
 n4:W.ty.length<=4
 PE:W.ty.length<=W.lv.length
 dy:∀ i,W.dy i<3
 iX:getAttr h (.ref aS) 37=some (.ref aK)
 mQ:getAttr h (.ref aS) 38=some (.ref (.fld aS 38))
 kS:getAttr h (.ref aS) 17=some (.ref (.fld aS 17))
 types:h.get (.fld aS 38)=some (.list W.ka)
 meths:h.get (.fld aS 17)=some (.list W.zu)
 xM:W.ob=true->xJ h (.inst 1 0) 1 1 (-1) 0 [] [] []
 IE:xJ h (.inst 1 (W.b-1)) 29 3 (-1) 0 [1] [] []
 tys:∀ (i:Nat) (t:Ty),W.ty[i]? =some t->xJ h (W.eG i) (21+i) 1 (W.base L i) (if W.wide i then 1 else 0) t.meths (t.props.map bl) (t.aE.map (cH L))
 IF:∀ i,i+1<W.ty.length->W.kd i (W.pa (i+1) 16)∈L
 ur:∀ (i:Nat) (t:Ty),W.ty[i]? =some t->∀ x∈t.aE,x.2.1∈L
 NL:zv h (.inst 2 0) 29 (NK 2 false) 6 6 7 []
 JW:∀ (j:Nat) (m:Md),W.ms[j]? =some m->zv h (.inst 2 (j+1)) (21+m.i) (NK m.p m.q) m.acc (d7 m.mode) m.ret m.params
section
variable{W:Wd}{L L':List Ck}{h h':MH}{n:Nat}
theorem af{a:Ad}{k:Nat}{v:V}(e:h'.get a=h.get a) (T:getAttr h (.ref a) k=some v):getAttr h' (.ref a) k=some v:=(aab (jE k) e).trans T
theorem xJ.mono{a:Ad}{tid sort:Nat}{base:Int}{np:Nat}{meths:List Nat}{props aE:List V}(T:xJ h a tid sort base np meths props aE) (e:h'.get a=h.get a) (e2:∀ k,h'.get (.fld a k)=h.get (.fld a k)):xJ h' a tid sort base np meths props aE :=
 ⟨af e T.tid,af e T.sort,af e T.base,af e T.par,af e T.met,af e T.imp,af e T.ID,af e T.JV,(e2 _).trans T.xK,(e2 _).trans T.gQ,(e2 _).trans T.ke,(e2 _).trans T.qL⟩
theorem zv.mono{a:Ad}{own:Nat}{nm:Str}{acc:Nat}{fl:Int}{ret:Nat}{par:List Nat}(T:zv h a own nm acc fl ret par) (e:h'.get a=h.get a):zv h' a own nm acc fl ret par :=
 ⟨af e T.own,af e T.nm,af e T.acc,af e T.fl,af e T.gen,T.gb.imp λO g=>af e g,af e T.ret,af e T.par⟩
theorem xJ.of{a:Ad}{tid sort:Nat}{base:Int}{np:Nat}{meths:List Nat}{props aE:List V}{fs:List (Nat×V)}(o:h.get a=some (.inst 1 fs)) (f1:br 7 fs=some (.int tid)) (f2:br 9 fs=some (.int sort)) (f3:br 11 fs=some (.int base)) (f4:br 13 fs=some (.ref (.fld a 13))) (f5:br 17 fs=some (.ref (.fld a 17))) (f6:br 21 fs=some (.ref (.fld a 21))) (f7:br 22 fs=some (.ref (.fld a 22))) (f8:br 18 fs=some (.int 0)) (g1:h.get (.fld a 13)=some (.list (List.replicate np (.str (Str.ofString "T"))))) (g2:h.get (.fld a 17)=some (.list (ao meths))) (g3:h.get (.fld a 21)=some (.list aE)) (g4:h.get (.fld a 22)=some (.list props)):xJ h a tid sort base np meths props aE :=
 ⟨ga o f1,ga o f2,ga o f3,ga o f4,ga o f5,ga o f6,ga o f7,ga o f8,g1,g2,g3,g4⟩
theorem zv.of{a:Ad}{own:Nat}{nm:Str}{acc:Nat}{fl:Int}{ret:Nat}{par:List Nat}{fs:List (Nat×V)}(o:h.get a=some (.inst 2 fs)) (f1:br 27 fs=some (.int own)) (f2:br 8 fs=some (.str nm)) (f3:br 28 fs=some (.int acc)) (f4:br 10 fs=some (.int fl)) (f5:br 29 fs=some (.int 0)) (f6:∃ x,br 31 fs=some (.ref x)) (f7:br 32 fs=some (.int ret)) (f8:br 13 fs=some (.tup (ao par))):zv h a own nm acc fl ret par :=
 ⟨ga o f1,ga o f2,ga o f3,ga o f4,ga o f5,f6.imp λO f=>ga o f,ga o f7,ga o f8⟩
theorem qM{x:Nat×Ck×Nat}(p:L <+: L') (hx:x.2.1∈L):cH L' x=cH L x:=by
 unfold cH;rw[aN p hx]
theorem xN(R:WR W L h) (p:L <+: L') {i:Nat}(hi:i<W.ty.length):W.base L' i=W.base L i:=by
 unfold Wd.base;split
 ·rfl
 ·have:=R.IF (i-1) (Jw (n_1 (by assumption)).symm hi)
  rw[show i-1+1=i by exact n_1 (by assumption)]at this
  rw[aN p this]
theorem WR.keep(R:WR W L h) (k:KT L' h') (p:L <+: L') (e:∀ a,NG a.rt=true->h'.get a=h.get a):WR W L' h':=by
 refine⟨k,R.n4,R.PE,R.dy,af (e _ rfl) R.iX,af (e _ rfl) R.mQ,af (e _ rfl) R.kS,(e _ rfl).trans R.types,(e _ rfl).trans R.meths,λho=>(R.xM ho).mono (e _ rfl) λO=>e _ rfl,R.IE.mono (e _ rfl) λO=>e _ rfl,λi t ht=>?_,λi hi=>p.subset (R.IF i hi),λi t ht x hx=>p.subset (R.ur i t ht x hx),R.NL.mono (e _ rfl),λj m hm=>(R.JW j m hm).mono (e _ rfl)⟩
 rw[xN R p (aav.mp ht).1,show t.aE.map (cH L')=t.aE.map (cH L) from List.map_congr_left λx hx=>qM p (R.ur i t ht x hx)]
 exact(R.tys i t ht).mono (e _ rfl) λO=>e _ rfl
theorem WR.gr(R:WR W L h) (g:Gr L h L' h'):WR W L' h':=R.keep g.kt g.pre λa ha=>g.get a (rV (xB ha))
theorem Wd.kg{i a:Nat}(h:W.dy i<3) (ha:d6 a):d6 (W.pa i a):=by
 unfold Wd.pa;split
 ·exact .inl rfl
 ·split
  ·exact .inr (.inl rfl)
  ·split
   ·exact ha
   ·exact .inl rfl
theorem Wd.DL{i a:Nat}(h:i<9) (ha:d6 a):dO (W.kd i a)=true:=by
 unfold Wd.kd;rw[mP];refine⟨by exact And.intro (aaF _ _) (Ki h (by decide)),λx hx=>?_⟩
 split at hx
 ·cases hx;exact ha
 ·cases hx
theorem Wd.NM{i a:Nat}(h:W.dy (i+1)<3):BI (if W.wide (i+1) then some a else none) (W.kd i (W.pa (i+1) 16))=W.kd i (W.pa (i+1) a):=by
 unfold BI Wd.kd Wd.pa cl;have:W.dy (i+1)=0∨W.dy (i+1)=1∨W.dy (i+1)=2:=Kj _ h;cases W.wide i<;>cases W.wide (i+1)<;>rcases this with e | e | e<;>simp[e]
theorem tG{n k:Nat}{f:Nat->V}(hk:k<n):dm ((List.range n).map f) k=some (f k):=by
 rw[bI,List.getElem?_map,List.getElem?_range hk];rfl
theorem d8(R:WR W L h) {i:Nat}(hi:i<W.ty.length):dm W.ka (21+i:Nat)=some (.ref (W.eG i)):=by
 have:=R.n4;unfold Wd.ka;rw[tG (iu (Nat.add_lt_add_left hi _) (aaE this _) rfl),aaf (zB (aaF _ _) rfl),aae (And.intro (aaF _ _) (Nat.add_lt_add_left hi _)),Nat.add_sub_cancel_left]
theorem xO:dm W.ka (1:Nat)=some (if W.ob then .ref (.inst 1 0) else .none):=by
 unfold Wd.ka;rw[tG (by lia),aae rfl]
theorem IG(R:WR W L h):dm W.ka (29:Nat)=some (.ref (.inst 1 (W.b-1))):=by
 have:=R.n4;unfold Wd.ka;rw[tG (by lia),aaf (by lia),aaf (λe=>Nat.not_lt_of_le (cP (aaE this 21) rfl) e.2),aae rfl]
theorem rX:W.ka.length=30:=by simp[Wd.ka]
theorem uu(R:WR W L h) {i:Nat}(hi:i<W.ty.length) {c:Ck}(hc:c∈L) (e:c.1=21+i):aa prog (n+3) 26 [.ref aS,.int (ah L c)] h=some (.ret (.ref (W.eG i)) h):=by
 have s2:=R.iX;have s3:=R.mQ;have h4:=R.n4;have e1:=Vx (n:=n) R.kt hc;have e2:=d8 R hi;rw[e]at e1;have n1:¬ (((21+i:Nat):Int)<=0):=λe=>Nat.not_le_of_lt (aai (by decide:0<21) (aaF _ _)) (Int.ofNat_le.mp e)
 have n2:¬ ((W.ka.length:Int)<=((21+i:Nat):Int)):=by rw[rX];exact λe=>Nat.not_lt_of_le (Int.ofNat_le.mp e) (n_8 _ hi h4 rfl)
 have f0:=R.types;clear R;walk_at"cf"
theorem xP(R:WR W L h):aa prog (n+3) 26 [.ref aS,.int 12] h=some (.ret (if W.ob then .ref (.inst 1 0) else .none) h):=by
 have s2:=R.iX;have s3:=R.mQ;have e1:=Sj (n:=n) R.kt;have e2:dm W.ka 1=_:=xO (W:=W);have f0:=R.types;clear R;walk_at"cf"
theorem NN(R:WR W L h) {c:Ck}(hc:c∈L) (e:c.1=29):aa prog (n+3) 26 [.ref aS,.int (ah L c)] h=some (.ret (.ref (.inst 1 (W.b-1))) h):=by
 have s2:=R.iX;have s3:=R.mQ;have e1:=Vx (n:=n) R.kt hc;have e2:=IG R;rw[e]at e1;have f0:=R.types;clear R;walk_at"cf"
theorem kid_16{c:Ck}:¬ ((ah L c:Int)<16):=Int.not_lt.mpr (Int.ofNat_le.mpr (aaj (by decide) xC))
theorem bF{C_:Prop}(R:WR W L h) {i:Nat}(hi:i<W.ty.length) (k_:∀ t,W.ty[i]? =some t->xJ h (W.eG i) (21+i) 1 (W.base L i) (if W.wide i then 1 else 0) t.meths (t.props.map bl) (t.aE.map (cH L))->C_):C_:=k_ _ (aao hi) (R.tys i _ (aao hi))
theorem ZD(h:MH):aa prog (n+1) 29 [.ref aS,.int 12] h=some (.ret (.int (-1)) h):=by
 walk_at"cf"
theorem Sr(R:WR W L h):aa prog (n+2) 28 [.ref aS,.int 12] h=some (.ret (.int (-1)) h):=by
 have s2:=R.iX;have e1:=ZD (n:=n) h;clear R;walk_at"cf"
theorem NO(R:WR W L h) {a:Nat}(hi:0<W.ty.length) (hc:W.kd 0 a∈L):aa prog (n+4) 28 [.ref aS,.int (ah L (W.kd 0 a))] h=some (.ret (.int 12) h):=by
 have s2:=R.iX;refine bF R hi λt O T=>?_
 have e1:=JT (n:=n+1) (k:=ah L (W.kd 0 a)) R.kt (c_ hc);have e2:=uu (n:=n) R hi hc rfl;have e3:=JU (n:=n+1) R.kt hc;have e4:aa prog (n+3) 15 [.ref aK,.int 12,.tup (cG (W.kd 0 a)),.tup []] h=_:=Iz (n:=n+1) R.kt (k:=12) (t:=.tup (cG (W.kd 0 a))) (m:=.tup []) (by decide)
 have n1:¬ ((ah L (W.kd 0 a):Int)<16):=kid_16;have b1:getAttr h (.ref (W.eG 0)) 11=some (.int 12):=T.base;have f1:=T.sort;clear R;walk_at"cf"
theorem Ss{C_:Prop}(R:WR W L h) {i a:Nat}(hi:i+1<W.ty.length) (ha:d6 a) (hc:W.kd (i+1) a∈L) (k_:∀ h',aa prog (n+10) 28 [.ref aS,.int (ah L (W.kd (i+1) a))] h=some (.ret (.int (ah (ins L (W.kd i (W.pa (i+1) a))) (W.kd i (W.pa (i+1) a)))) h')->Gr L h (ins L (W.kd i (W.pa (i+1) a))) h'->C_):C_:=by
 have s2:=R.iX;refine bF R hi λt O T=>?_
 have e1:=JT (n:=n+7) (k:=ah L (W.kd (i+1) a)) R.kt (c_ hc);have e2:=uu (n:=n+6) R hi hc rfl;have e3:=JU (n:=n+7) R.kt hc;have PF:=R.IF i hi;have Su:tok (if W.wide (i+1) then some a else none):=λx hx=>by
  split at hx
  ·cases hx;exact ha
  ·cases hx
 refine Sn (n:=n) R.kt Su PF (m:=.tup []) λh' e4 g=>?_
 rw[W.NM (R.dy _)]at e4 g;refine k_ h' ?_ g;have n1:¬ ((ah L (W.kd (i+1) a):Int)<16):=kid_16;have b1:getAttr h (.ref (W.eG (i+1))) 11=some (.int (ah L (W.kd i (W.pa (i+1) 16)))):=T.base;have e3:aa prog (n+9) 14 [.ref aK,.int (ah L (W.kd (i+1) a))] h=some (.ret (.tup (ta (if W.wide (i+1) then some a else none))) h):=e3
 have f1:=T.sort;clear R k_;walk_at"cf"
theorem ZE{C_:Prop}(R:WR W L h) {i a:Nat}(hi:i<W.ty.length) (ha:d6 a) (k_:∀ h',aa prog (n+8) 25 [.ref aS,.int (21+i:Nat),.tup (cG (W.kd i a))] h=some (.ret (.int (ah (ins L (W.kd i a)) (W.kd i a))) h')->Gr L h (ins L (W.kd i a)) h'->C_):C_:=by
 have s2:=R.iX;have s3:=R.mQ;refine bF R hi λt O T=>?_
 have h4:=R.n4;refine Si (n:=n) R.kt (W.DL (a:=a) (show i<9 by exact iu hi h4 rfl) ha) λh' e g=>?_
 refine k_ h' ?_ g;have e2:=d8 R hi;rw[show(W.kd i a).1=21+i from rfl]at e
 have f0:=R.types;have f2:=T.sort;clear R k_ g;walk_at"cf"
theorem VA{C_:Prop}(R:WR W L h) {i:Nat}(hi:i<W.ty.length) (k_:∀ h',aa prog (n+9) 24 [.ref aS,.int (21+i:Nat)] h=some (.ret (.int (ah (ins L (W.kd i 16)) (W.kd i 16))) h')->Gr L h (ins L (W.kd i 16)) h'->C_):C_:=by
 have s2:=R.iX;have s3:=R.mQ;refine bF R hi λt O T=>?_
 have h4:=R.n4;refine ZE (n:=n) R hi (a:=16) (.inr (.inr rfl)) λh' e g=>?_
 refine k_ h' ?_ g;have e2:=d8 R hi;have e3:=Zw (n:=n+6) R.kt;have e4:a8 prog h .mem (.int (21+i:Nat)) (.tab 1)=some false:=qJ (c:=(21+i,none)) (by rw[mP];exact⟨by exact And.intro (aaF _ _) (n_8 _ hi h4 rfl),λO h=>nomatch h⟩)
 have hp:=T.xK;have f0:=R.types;have f2:=T.par;have hk:cG (W.kd i 16)=if W.wide i then [.int 16] else []:=by unfold cG Wd.kd;cases W.wide i<;>rfl
 rw[hk]at e;clear R k_ g;cases hw:W.wide i<;>rw[hw]at e hp
 ·have e:aa prog (n+8) 25 [.ref aS,.int (21+i:Nat),.tup []] h=_:=e;have hp:h.get ((W.eG i).fld 13)=some (.list []):=hp;have lp:forL (tw prog (aa prog (n+8)) 4 wu) (λO=>true) [] ⟨[vr aS,vi (21+i:Nat),vr (W.eG i),some (.bH []),none],h⟩=some (.next,⟨[vr aS,vi (21+i:Nat),vr (W.eG i),some (.bH []),none],h⟩):=k_fe rfl
  walk_at"cf"
 ·have e:aa prog (n+8) 25 [.ref aS,.int (21+i:Nat),.tup [.int 16]] h=_:=e;have hp:h.get ((W.eG i).fld 13)=some (.list [.str (Str.ofString "T")]):=hp;have lp:forL (tw prog (aa prog (n+8)) 4 wu) (λO=>true) [.int 0] ⟨[vr aS,vi (21+i:Nat),vr (W.eG i),some (.bH []),none],h⟩=some (.next,⟨[vr aS,vi (21+i:Nat),vr (W.eG i),some (.bH [.int 16]),vi 0],h⟩):=bu rfl (tx (by walk_at"SS")) (k_fe rfl)
  walk_at"cf"
end
noncomputable abbrev aY:Ad:=.inst 7 0
noncomputable abbrev aH:Ad:=.inst 8 0
structure WX(W:Wd) (L:List Ck) (h:MH):Prop extends WR W L h where
 DM:getAttr h (.ref aY) 45=some (.ref aS)
 Sv:getAttr h (.ref aY) 37=some (.ref aK)
 JX:getAttr h (.ref aY) 46=some (.ref aH)
 VB:getAttr h (.ref aY) 27=some (.int (20+W.ty.length:Nat))
 hb:(eM prog h (.ref aH) 11).map V.tab=some (.tab 59)
 hs:(eM prog h (.ref aH) 9).map V.tab=some (.tab 60)
 Sx:getAttr h (.ref aH) 37=some (.ref aK)
 PG:getAttr h (.ref aH) 45=some (.ref aS)
noncomputable def Wd.md(W:Wd) (x:Nat):Option Md:=if 2<=x then W.ms[x-2]? else none
def Md.nm(m:Md):Str:=NK m.p m.q
theorem ints_get{l:List Nat}{k:Nat}:dm (ao l) k=(l[k]?).map λ(i:Nat)=>V.int i:=by rw[bI];simp[ao]
theorem eH:∀ {a b:List Nat},bX (ao a) (ao b)=decide (a=b)
 |[],[]=>rfl
 |[],_::_=>rfl
 |_::_,[]=>rfl
 |x::a,y::b=>by
  have:=eH (a:=a) (b:=b);simp only[ao]at this⊢;simp only[List.map_cons,uH,jC,zH,this];rw[Bool.eq_iff_iff];simp
  lia
theorem gp{n:Nat}:∀ {a:List Nat},jz n (ao a)=true:=by
 intro a;induction a with
 |nil =>
  cases n<;>rfl
 |cons x a ih =>
  exact ih
mutual
theorem kh:∀ v:V,aC v v=true
 |.none=>rfl
 |.bool a=>beq_self_eq_true a
 |.int a=>beq_self_eq_true a
 |.str _=>aaq rfl
 |.tup xs=>eI xs
 |.lst xs=>eI xs
 |.ref _=>aaq rfl
 |.tab a=>beq_self_eq_true a
theorem eI:∀ xs:List V,bX xs xs=true
 |[]=>rfl
 |x::xs=>by rw[uH,kh x,eI xs];rfl
end
theorem aU{h:MH}{r:Ad}{xs:List V}(e:h.get r=some (.list xs)):aL (.ref r) xs h=true:=by
 exact(aab (uG xs) e).trans (eI xs)
theorem Sy{P:Prog}{h:MH}{a b:List Nat}:a8 P h .eq (.tup (ao a)) (.tup (ao b))=some (decide (a=b)):=by
 have h1:∀ a:List Nat,pl (.tup (ao a))=true:=λa=>gp
 exact(aae ⟨h1 a,h1 b⟩).trans (aab some eH)
theorem Sz{P:Prog}{h:MH}{a b:List Nat}:a8 P h .ne (.tup (ao a)) (.tup (ao b))=some (!decide (a=b)):=by
 exact aab (Option.map (!·)) (Sy (P:=P) (h:=h))
theorem xQ{k:Int}{es:List (V×V)}(h:∀ p∈es,∃ j:Int,p.1=.int j/\j≠k):aF (.int k) es=some none:=by
 unfold aF;rw[aae,Option.some.injEq,Option.map_eq_none_iff,List.find?_eq_none]
 ·intro p hp;refine az (h p hp) λj e hj=>?_
  rw[e]
  simpa [jC] using hj
 ·rw[aa0];intro p hp;refine az (h p hp) λj e hj=>?_
  rw[e];rfl
theorem jq{k:Int}{v:V}{es:List (V×V)}(h:∀ p∈es,∃ j:Int,p.1=.int j/\j≠k):cz (.int k) v es=es++[(.int k,v)]:=by
 induction es with
 |nil=>rfl
 |cons p es ih =>
  refine az (h p aad) λj e hj=>?_
  obtain⟨y,u⟩:=p;have e:y=.int j:=e;subst e;have:aC (.int j) (.int k)=false:=by simpa [jC] using hj
  rw[kput_1];rw[aaf (by rw[this];simp),ih λp hp=>h p (aac _ hp)]
  rfl
section
variable{W:Wd}{L L':List Ck}{h h':MH}{n:Nat}
theorem rY{a:Ad}{k:Nat}{v:V}(e:h'.get a=h.get a) (T:(eM prog h (.ref a) k).map V.tab=some v):(eM prog h' (.ref a) k).map V.tab=some v:=(aab (λo=>(jD prog k o).map V.tab) e).trans T
theorem WX.keep(R:WX W L h) (k:KT L' h') (p:L <+: L') (e:∀ a,wx a.rt=true->h'.get a=h.get a):WX W L' h' :=
 ⟨R.toWR.keep k p λa ha=>e a (xB ha),af (e _ rfl) R.DM,af (e _ rfl) R.Sv,af (e _ rfl) R.JX,af (e _ rfl) R.VB,rY (e _ rfl) R.hb,rY (e _ rfl) R.hs,af (e _ rfl) R.Sx,af (e _ rfl) R.PG⟩
theorem WX.gr(R:WX W L h) (g:Gr L h L' h'):WX W L' h':=R.keep g.kt g.pre λa ha=>g.get a (rV ha)
theorem WR.me(R:WR W L h) {x:Nat}{m:Md}(hm:W.md x=some m):dm W.zu x=some (.ref (.inst 2 (x-1)))/\zv h (.inst 2 (x-1)) (21+m.i) m.nm m.acc (d7 m.mode) m.ret m.params:=by
 unfold Wd.md at hm;split at hm
 case isFalse=>cases hm
 obtain⟨y,rfl⟩:∃ y,x=y+2:=⟨x-2,by exact n_6 _ (by assumption)⟩
 refine⟨bI.trans ?_,R.JW y m hm⟩;show(List.map _ (List.range (W.ms.length+1)))[y+1]? =_;rw[List.getElem?_map,List.getElem?_range (Nat.succ_lt_succ (show y<_ from (aav.mp hm).1))]
 rfl
theorem xR{C_:Prop}(R:WR W L h) (nm:Str) {s1 o:V}{zs:List V}(hz:aL o zs h=true):∀ (l:List Nat),(∀ x∈l,(W.md x).isSome=true)->∀ (out:List Nat) (y:Option MV),out.length+l.length<500->(∀ y',forL (bE prog (aa prog n) [4] wy) (aL o zs) (ao l) ⟨[vr aS,vv s1,vv (.str nm),some (.bH (ao out)),y],h⟩ =
   some (.next,⟨[vr aS,vv s1,vv (.str nm),some (.bH (ao (out++l.filter λx=>(W.md x).map Md.nm==some nm))),y'],h⟩)->C_)->C_:=by
 intro l;induction l with
 |nil =>
  intro _ out y _ k_;exact k_ y (by rw[List.filter_nil,List.append_nil];exact k_fe hz)
 |cons x l ih =>
  intro hl out y hlen k_;refine gJ (Option.isSome_iff_exists.mp (hl x aad)) λm hm=>?_
  have e1:=(R.me hm).1;have T:=(R.me hm).2;have s4:=R.kS;simp only[aaI]at hlen;have FT:(ao out).length<1000:=by rw[aG];exact nJ hlen rfl
  have go:=λSA=>ih (λy hy=>hl y (aac _ hy)) SA (vi x)
  have f0:=R.meths;have f2:=T.nm;clear R hl T;by_cases hn:m.nm=nm
  ·refine go (out++[x]) (by rw[aag,List.length_singleton];exact Ct hlen) λy' e=>?_
   have hf:out++(x::l).filter (λx=>(W.md x).map Md.nm==some nm)=out++[x]++l.filter λx=>(W.md x).map Md.nm==some nm:=by simp[hm,hn]
   rw[<- hf,<- oL]at e;exact k_ y' (bu hz (bz rfl (by walk_at"SS")) e)
  ·refine go out (aay hlen) λy' e=>?_
   have hf:out++(x::l).filter (λx=>(W.md x).map Md.nm==some nm)=out++l.filter λx=>(W.md x).map Md.nm==some nm:=by simp[hm,hn]
   rw[<- hf]at e;exact k_ y' (bu hz (bz rfl (by walk_at"SS")) e)
theorem ZF(R:WR W L h) {i:Nat}{t:Ty}(ht:W.ty[i]? =some t) (hm:∀ x∈t.meths,(W.md x).isSome=true) (hlen:t.meths.length<100) (nm:Str):aa prog (n+1) 27 [.ref aS,.int (21+i:Nat),.str nm] h=some (.ret (.lst (ao (t.meths.filter λx=>(W.md x).map Md.nm==some nm))) h):=by
 have s3:=R.mQ;have T:=R.tys i t ht;have e2:=d8 R (aav.mp ht).1;refine xR R nm (s1:=.int (21+i:Nat)) (aU T.gQ) (n:=n) t.meths hm [] none (by rw[List.length_nil];exact cP (Nat.add_lt_add_left hlen _) rfl) λy' e=>?_
 rw[List.nil_append]at e;have TM:=T.gQ;have f0:=R.types;have f2:=T.met;clear R T;walk_at"cf"
theorem VC{C_:Prop}(R:WR W L h) {c:Ck}(hc:c∈L) {x:Nat}{m:Md}(hm:W.md x=some m) (hk:∀ a∈m.params,uq a) (hr:m.ret<16) (hlen:m.params.length<100) (k_:∀ h',aa prog (n+5) 30 [.ref aS,.tup [.int (ah L c),.int x,.tup []]] h=some (.ret (.tup [.int m.ret,.tup (ao (m.params.map (cl c.2)))]) h')->Gr L h L h'->C_):C_:=by
 have s2:=R.iX;have s4:=R.kS;have e1:=(R.me hm).1;have T:=(R.me hm).2;have e2:=JU (n:=n+2) R.kt hc;rw[j_]at e2;have e3:=Iz (n:=n+2) R.kt (t:=.tup (ta c.2)) (m:=.tup []) hr;refine Sp (n:=n) R.kt c.2 (m:=.tup []) hk (cP hlen rfl) λh' e4 g=>?_
 refine k_ h' ?_ g;have hx:¬ ((x:Int)=0):=by
  unfold Wd.md at hm;split at hm
  ·exact sG (zB (by assumption) rfl)
  ·cases hm
 have f0:=R.meths;have f2:=T.ret;have f3:=T.par;clear R k_;walk_at"cf"
theorem PH(R:WX W L h) {k:Int}{v:V}{h':MH}(e:aa prog n 28 [.ref aS,.int k] h=some (.ret v h')):aa prog (n+1) 59 [.ref aH,.int k] h=some (.ret v h'):=by
 have s3:=R.PG;clear R;walk_at"cf"
theorem ZG(R:WX W L h) {i:Nat}(hi:i<W.ty.length) {c:Ck}(hc:c∈L) (e:c.1=21+i):aa prog (n+4) 60 [.ref aH,.int (ah L c)] h=some (.ret (.int 1) h):=by
 have s3:=R.PG;refine bF R.toWR hi λt O T=>?_
 have e1:=uu (n:=n) R.toWR hi hc e;have f1:=T.sort;clear R;walk_at"cf"
theorem SD(R:WX W L h) {c:Ck}(hc:c∈L) (e:c.1=29):aa prog (n+4) 60 [.ref aH,.int (ah L c)] h=some (.ret (.int 3) h):=by
 have s3:=R.PG;have T:=R.IE;have e1:=NN (n:=n) R.toWR hc e;have f1:=T.sort;clear R;walk_at"cf"
theorem ZH(R:WX W L h) {i:Nat}(hi:i<W.ty.length) {c:Ck}(hc:c∈L) (e:c.1=21+i):aa prog (n+5) 31 [.ref aH,.int (ah L c)] h=some (.ret (.bool false) h):=by
 have ZI:=R.hs;have s2:=R.Sx;have e1:=JT (n:=n+2) R.kt (c_ hc);have e2:=ZG (n:=n) R hi hc e;clear R;walk_at"cf"
theorem SE(R:WX W L h) {c:Ck}(hc:c∈L) (e:c.1=29):aa prog (n+5) 31 [.ref aH,.int (ah L c)] h=some (.ret (.bool true) h):=by
 have ZI:=R.hs;have s2:=R.Sx;have e1:=JT (n:=n+2) R.kt (c_ hc);have e2:=SD (n:=n) R hc e;clear R;walk_at"cf"
end
structure Gx(t:Ad) (L:List Ck) (h:MH) (L':List Ck) (h':MH):Prop where
 kt:KT L' h'
 pre:L <+: L'
 get:∀ a,rk h a->a≠t->h'.get a=h.get a
 cnt:h'.cnt=h.cnt
 aq:h.aq<=h'.aq
noncomputable def Wd.iY(W:Wd):Nat->Nat->List Ck
 |0,a=>[W.kd 0 a]
 |i+1,a=>W.kd (i+1) a::W.iY i (W.pa (i+1) a)
theorem Wd.DN{W:Wd}{a:Nat}:W.iY 0 a=[W.kd 0 a]:=rfl
theorem Wd.DO{W:Wd}{i a:Nat}:W.iY (i+1) a=W.kd (i+1) a::W.iY i (W.pa (i+1) a):=rfl
def kids(L:List Ck) (cs:List Ck):List V:=cs.map λc=>.int (ah L c)
theorem lN{L L':List Ck}(p:L <+: L') {cs:List Ck}(h:∀ c∈cs,c∈L):kids L' cs=kids L cs:=List.map_congr_left λc hc=>by rw[aN p (h c hc)]
structure PI(W:Wd) (t:St->Option (Bool×St)) (f:St->Option (Fl×St)) (x0:V) (n x:Nat):Prop where
 step:∀ {L:List Ck}{h:MH}(R:WX W L h) (k:Nat) (es:List (V×V)) (outs:List V) (k':Int) (h3:MH),h.get (.aq x)=some (.dict es)->aF (.int k) es=some none->es.length<1000->outs.length<1000 ->
  aa prog n 28 [.ref aS,.int k] (h.set (.aq x) (.dict (cz (.int k) (.int 1) es)))=some (.ret (.int k') h3)->∀ F,bY t f (F+1) ⟨[vv x0,vi k,some (.bH outs),vr (.aq x)],h⟩ =
   bY t f F ⟨[vv x0,vi k',some (.bH (outs++[.int k])),vr (.aq x)],h3⟩
 stop:∀ (outs:List V) (h:MH) (F:Nat),bY t f (F+1) ⟨[vv x0,vi (-1),some (.bH outs),vr (.aq x)],h⟩=some (.next,⟨[vv x0,vi (-1),some (.bH outs),vr (.aq x)],h⟩)
section
variable{W:Wd}{L L' L'':List Ck}{h h' ee:MH}{n:Nat}
theorem Gr.x{t:Ad}(g:Gr L h L' h'):Gx t L h L' h':=⟨g.kt,g.pre,λa ha O=>g.get a ha,g.cnt,g.aq⟩
theorem Gx.trans{t:Ad}(x:Gx t L h L' h') (y:Gx t L' h' L'' ee):Gx t L h L'' ee :=
 ⟨y.kt,x.pre.trans y.pre,λa ha ht=>(y.get a (jn x.aq ha) ht).trans (x.get a ha ht),y.cnt.trans x.cnt,aaj x.aq y.aq⟩
theorem Gx.out{L0:List Ck}{h0:MH}(g:Gr L0 h0 L h) (x:Gx (.aq h0.aq) L h L' h'):Gr L0 h0 L' h' :=
 ⟨x.kt,g.pre.trans x.pre,λa ha=>(x.get a (jn g.aq ha) (gn ha)).trans (g.get a ha),x.cnt.trans g.cnt,aaj g.aq x.aq⟩
theorem Gx.put{x:Nat}{o:aP}(R:KT L h):Gx (.aq x) L h L (h.set (.aq x) o) :=
 ⟨R.set rfl,List.prefix_rfl,λa O ht=>aaf ht,rfl,aat _⟩
theorem WX.gx{x:Nat}(R:WX W L h) (g:Gx (.aq x) L h L' h'):WX W L' h':=R.keep g.kt g.pre λa ha=>g.get a (rV ha) (ia wx ha rfl)
theorem xS{C_:Prop}{t:St->Option (Bool×St)}{f:St->Option (Fl×St)}{x0:V}{x:Nat}(H:PI W t f x0 (n+10) x) {F:Nat}(hF:2<=F) (R:WX W L h) {es:List (V×V)}{outs:List V}(hs:h.get (.aq x)=some (.dict es))
  (hk:∀ p∈es,∃ c∈L,p.1=.int (ah L c)) (hl:es.length<500) (ho:outs.length<500) (k_:∀ h',bY t f F ⟨[vv x0,vi 12,some (.bH outs),vr (.aq x)],h⟩=some (.next,⟨[vv x0,vi (-1),some (.bH (outs++[.int 12])),vr (.aq x)],h'⟩)->Gx (.aq x) L h L h'->C_):C_:=by
 obtain⟨F,rfl⟩:∃ G,F=G+2:=⟨F-2,by exact n_6 _ hF⟩
 refine k_ _ ?_ (.put (o:=.dict (cz (.int 12) (.int 1) es)) R.kt);have R2:=R.gx (.put (x:=x) (o:=.dict (cz (.int 12) (.int 1) es)) R.kt);have:=H.step R 12 es outs (-1) _ hs (xQ λp hp=>by
  refine az (hk p hp) λc hc e=>?_
  exact⟨_,e,by have:=xC (L:=L) (c:=c);simp only[Int.cast_ofNat_Int];exact sG (zB this rfl)⟩) (cP hl rfl) (cP ho rfl) (Sr (n:=n+8) R2.toWR) (F+1)
 exact this.trans (H.stop _ _ _)
theorem O8{C_:Prop}{t:St->Option (Bool×St)}{f:St->Option (Fl×St)}{x0:V}{x:Nat}(H:PI W t f x0 (n+10) x):∀ (i a F:Nat) {L:List Ck}{h:MH}(R:WX W L h) (es:List (V×V)) (outs:List V),i+3<=F->i<W.ty.length->d6 a->W.kd i a∈L ->
  h.get (.aq x)=some (.dict es)->x<h.aq->(∀ p∈es,∃ c∈L,p.1=.int (ah L c)/\21+i<c.1)->es.length+i<400->outs.length+i<400->(∀ L' h',bY t f F ⟨[vv x0,vi (ah L (W.kd i a)),some (.bH outs),vr (.aq x)],h⟩=some (.next,⟨[vv x0,vi (-1),some (.bH (outs++kids L' (W.iY i a)++[.int 12])),vr (.aq x)],h'⟩)->Gx (.aq x) L h L' h'->(∀ c∈W.iY i a,c∈L')->C_)->C_:=by
 intro i;induction i with
 |zero =>
  intro a F L h R es outs hF hi ha hc hs hx hk hl ho k_;obtain⟨F,rfl⟩:∃ G,F=G+1:=⟨F-1,by exact n_6 _ (Nat.le_of_add_left_le hF)⟩
  have IH:∀ p∈es,∃ j:Int,p.1=.int j/\j≠ah L (W.kd 0 a):=λp hp=>by
   refine cR (hk p hp) λc oM e iw=>?_
   refine⟨_,e,λe'=>?_⟩
   have:=jo oM hc (pF e');rw[this]at iw;exact aaW _ iw
  have g1:=Gx.put (x:=x) (o:=.dict (cz (.int (ah L (W.kd 0 a))) (.int 1) es)) R.kt;have R2:=R.gx g1;have e1:=H.step R _ es outs 12 _ hs (xQ IH) (cP hl rfl) (cP ho rfl) (NO (n:=n+6) R2.toWR hi hc) F;refine xS (n:=n) H (F:=F) (aax hF) R2 (es:=cz (.int (ah L (W.kd 0 a))) (.int 1) es) (outs:=outs++[.int (ah L (W.kd 0 a))]) (by rw[get_set,aae rfl]) (by
   rw[jq IH];intro p hp;rcases aaM.mp hp with hp | hp
   ·obtain⟨c,oM,e,-⟩:=hk p hp;exact⟨c,oM,e⟩
   ·simp at hp;subst hp;exact⟨_,hc,rfl⟩) (by rw[jq IH];simp;exact nI 1 hl rfl) (by simp;exact nI 1 ho rfl) λh' e2 g2=>?_
  refine k_ L h' ?_ (g1.trans g2) (λc oM=>?_)
  ·exact e1.trans e2
  ·simp[Wd.DN]at oM;subst oM;exact hc
 |succ i ih =>
  intro a F L h R es outs hF hi ha hc hs hx hk hl ho k_;obtain⟨F,rfl⟩:∃ G,F=G+1:=⟨F-1,by exact n_6 _ (Nat.le_of_add_left_le hF)⟩
  have IH:∀ p∈es,∃ j:Int,p.1=.int j/\j≠ah L (W.kd (i+1) a):=λp hp=>by
   refine cR (hk p hp) λc oM e iw=>?_
   refine⟨_,e,λe'=>?_⟩
   have:=jo oM hc (pF e');rw[this]at iw;exact aaW _ iw
  have g1:=Gx.put (x:=x) (o:=.dict (cz (.int (ah L (W.kd (i+1) a))) (.int 1) es)) R.kt;have R2:=R.gx g1;refine Ss (n:=n) R2.toWR hi ha hc λh3 e3 g3=>?_
  have e1:=H.step R _ es outs _ _ hs (xQ IH) (nJ hl rfl) (nJ ho rfl) e3 F;have R3:=R2.gr g3;have NP:=g3.pre;have VD:∀ {c:Ck},c∈L->ah (ins L (W.kd i (W.pa (i+1) a))) c=ah L c:=λhc=>aN NP hc
  refine ih (W.pa (i+1) a) F R3 (cz (.int (ah L (W.kd (i+1) a))) (.int 1) es) (outs++[.int (ah L (W.kd (i+1) a))]) (aax hF) (aay hi) (W.kg (R.dy _) ha) cC
   ((g3.get (.aq x) ⟨Nat.succ_ne_zero _,Nat.add_lt_add_right hx 10⟩).trans (by rw[get_set,aae rfl])) (aai hx g3.aq) (by
   rw[jq IH];intro p hp;rcases aaM.mp hp with hp | hp
   ·refine cR (hk p hp) λc oM e iw=>?_
    exact⟨c,NP.subset oM,by rw[VD oM,e],by exact aay iw⟩
   ·simp at hp;subst hp;exact⟨_,NP.subset hc,by rw[VD hc],by show 21+i<21+(i+1);exact aat _⟩) (by rw[jq IH];simp;exact Ct hl) (by simp;exact Ct ho) λL' h' e2 g2 m2=>?_
  have hm:W.kd (i+1) a∈L':=g2.pre.subset (NP.subset hc);refine k_ L' h' ?_ (g1.trans (g3.x.trans g2)) (λc oM=>?_)
  ·have:ah L' (W.kd (i+1) a)=ah L (W.kd (i+1) a):=aN (NP.trans g2.pre) hc;have hq:outs++[V.int (ah L (W.kd (i+1) a))]++kids L' (W.iY i (W.pa (i+1) a))=outs++kids L' (W.iY (i+1) a):=by rw[List.append_assoc,<- this];rfl
   rw[hq]at e2;exact e1.trans e2
  ·rcases aau.mp oM with rfl | oM
   ·exact hm
   ·exact m2 c oM
theorem DP{x:Nat}:PI W (nS prog (aa prog (n+1)) C7) (aw prog (aa prog (n+1)) C8) (.ref aH) n x where
 step:=λ{L h} R k es outs k' h3 hs hk he ho e F=>by
  refine cps λC k_=>?_
  have s1:=R.hb;have e2:=PH (R.gx (.put (x:=x) (o:=.dict (cz (.int k) (.int 1) es)) R.kt)) e;refine k_ (wk (by walk_at"T") (by walk_at"SS") rfl)
 stop:=λouts h F=>Bj (by walk_at"T")
theorem NQ{x:Nat}:PI W (nS prog (aa prog n) C9) (aw prog (aa prog n) C') (.ref aS) n x where
 step:=λ{L h} R k es outs k' h3 hs hk he ho e F=>by
  exact wk (by walk_at"T") (by walk_at"SS") rfl
 stop:=λouts h F=>Bj (by walk_at"T")
theorem ib:(aX h).get (.aq h.aq)=some (.dict []):=by rw[oK,aae rfl]
theorem VE{C_:Prop}(R:WX W L h) {i a:Nat}(hi:i<W.ty.length) (ha:d6 a) (hc:W.kd i a∈L) (k_:∀ L' h',aa prog (n+12) 32 [.ref aH,.int (ah L (W.kd i a))] h=some (.ret (.lst (kids L' (W.iY i a)++[.int 12])) h')->Gr L h L' h'->(∀ c∈W.iY i a,c∈L')->C_):C_:=by
 have h4:=R.n4;refine O8 (n:=n) (DP (n:=n+10) (x:=h.aq)) i a 64 (R.gr (.aX R.kt)) [] [] (nI 2 (aai hi h4) rfl) hi ha hc ib (aaN _) (λp hp=>nomatch hp) (by simp;exact iu hi h4 rfl) (by simp;exact iu hi h4 rfl) λL' h' e g m=>?_
 refine k_ L' h' ?_ (Gx.out (Gr.aX R.kt) g) m;rw[List.nil_append]at e;clear R k_;walk_at"cf"
theorem SG{C_:Prop}(R:WX W L h) (k_:∀ h',aa prog (n+12) 32 [.ref aH,.int 12] h=some (.ret (.lst [.int 12]) h')->Gr L h L h'->C_):C_:=by
 refine xS (n:=n) (DP (n:=n+10) (x:=h.aq)) (F:=64) (by decide) (R.gr (.aX R.kt)) (es:=[]) (outs:=[]) ib (λp hp=>nomatch hp) (by simp) (by simp) λh' e g=>?_
 refine k_ h' ?_ (Gx.out (Gr.aX R.kt) g);rw[List.nil_append]at e;clear R k_;walk_at"cf"
theorem ZJ{C_:Prop}(R:WX W L h) {i a:Nat}(hi:i<W.ty.length) (ha:d6 a) (hc:W.kd i a∈L) (k_:∀ L' h',aa prog (n+11) 33 [.ref aS,.int (ah L (W.kd i a))] h=some (.ret (.lst (.int 12::(kids L' (W.iY i a)).reverse)) h')->Gr L h L' h'->(∀ c∈W.iY i a,c∈L')->C_):C_:=by
 have h4:=R.n4;refine O8 (n:=n) (NQ (n:=n+10) (x:=h.aq)) i a 64 (R.gr (.aX R.kt)) [] [] (nI 2 (aai hi h4) rfl) hi ha hc ib (aaN _) (λp hp=>nomatch hp) (by simp;exact iu hi h4 rfl) (by simp;exact iu hi h4 rfl) λL' h' e g m=>?_
 refine k_ L' h' ?_ (Gx.out (Gr.aX R.kt) g) m;rw[List.nil_append]at e;rw[show V.int 12::(kids L' (W.iY i a)).reverse=(kids L' (W.iY i a)++[V.int 12]).reverse by rw[List.reverse_append];rfl]
 clear R k_;walk_at"cf"
end
def Wd.bN(W:Wd) (i a:Nat):List Ck:=(W.iY i a).reverse
noncomputable def Wd.ar(W:Wd):Nat->Nat->Nat->Nat
 |0,a,_=>a
 |i+1,a,j=>if j=i+1 then a else W.ar i (W.pa (i+1) a) j
theorem Wd.ar_1{W:Wd}{i a j:Nat}:W.ar (i+1) a j=if j=i+1 then a else W.ar i (W.pa (i+1) a) j:=rfl
def aQ(L:List Ck) (cs:List Ck):List V:=.int 12::kids L cs
section
variable{W:Wd}{L L' L'':List Ck}{h h' ee:MH}{n:Nat}
theorem oN{a:Nat}:W.bN 0 a=[W.kd 0 a]:=rfl
theorem fV{i a:Nat}:W.bN (i+1) a=W.bN i (W.pa (i+1) a)++[W.kd (i+1) a]:=by simp[Wd.bN,Wd.DO]
theorem bJ{i a:Nat}:(W.bN i a).length=i+1:=by
 induction i generalizing a with
 |zero=>rfl
 |succ i ih=>rw[fV];simp[ih]
theorem cD{i a:Nat}:W.ar i a i=a:=by
 cases i with
 |zero=>rfl
 |succ i=>simp[Wd.ar_1]
theorem dg{i a j:Nat}(hj:j<=i):(W.bN i a)[j]? =some (W.kd j (W.ar i a j)):=by
 induction i generalizing a with
 |zero =>
  obtain rfl:j=0:=Nat.eq_zero_of_le_zero hj;rfl
 |succ i ih =>
  rw[fV];by_cases e:j=i+1
  ·clear hj ih;subst e;rw[aaO (by rw[bJ];exact aat _),bJ,cD]
   simp
  ·rw[aaJ (by rw[bJ];exact Nat.lt_of_le_of_ne hj e),ih (P2 hj e)]
   simp[Wd.ar_1,e]
theorem xT{i a j:Nat}(hj:j<=i):(W.bN i a).take (j+1)=W.bN j (W.ar i a j):=by
 induction i generalizing a with
 |zero =>
  obtain rfl:j=0:=Nat.eq_zero_of_le_zero hj;rfl
 |succ i ih =>
  by_cases e:j=i+1
  ·clear hj ih;subst e;rw[cD,List.take_of_length_le (by rw[bJ];exact aat _)]
  ·rw[fV,List.take_append_of_le_length (by rw[bJ];exact Nat.lt_of_le_of_ne hj e),ih (P2 hj e)]
   simp[Wd.ar_1,e]
theorem tH{i a b:Nat}(h:W.wide i=false):W.pa i a=W.pa i b:=by simp[Wd.pa,h]
theorem lO{i a b:Nat}(h:W.wide i=false):W.kd i a=W.kd i b:=by simp[Wd.kd,h]
theorem qN{i a b:Nat}(h:W.wide i=false):W.bN i a=W.bN i b:=by
 cases i with
 |zero=>rw[oN,oN,lO h]
 |succ i=>rw[fV,fV,lO (b:=b) h,tH (b:=b) h]
theorem rZ(hg:∀ i,W.dy i<3) {i a j:Nat}(ha:d6 a):d6 (W.ar i a j):=by
 induction i generalizing a with
 |zero=>exact ha
 |succ i ih =>
  rw[Wd.ar_1];split
  ·exact ha
  ·exact ih (W.kg (hg _) ha)
theorem mR{C_:Prop}{i a:Nat}{c:Ck}(hc:c∈W.bN i a) (k_:∀ j,j<=i->c=W.kd j (W.ar i a j)->C_):C_:=by
 refine gJ (List.mem_iff_getElem?.mp hc) λj hj=>?_
 have hl:=(aav.mp hj).1;rw[bJ]at hl;rw[dg (aax hl)]at hj;exact k_ j (aax hl) ((aah hj).symm)
theorem xU{i a:Nat}{c:Ck}:c∈W.bN i a↔c∈W.iY i a:=List.mem_reverse
theorem xV{L:List Ck}{i a:Nat}:(kids L (W.iY i a)).reverse=kids L (W.bN i a):=by simp[kids,Wd.bN]
theorem xW{cs:List Ck}{j:Nat}:(kids L cs)[j]? =(cs[j]?).map λc=>V.int (ah L c):=by simp[kids]
theorem tI{cs:List Ck}{j:Nat}:(kids L cs).take j=kids L (cs.take j):=by simp[kids,List.map_take]
theorem xX{C_:Prop}(R:WX W L h) (cX:W.ob=true) {o s1:V}{zs:List V}(hz:aL o zs h=true):∀ (cs:List Ck),(∀ c∈cs,c∈L/\∃ j,j<W.ty.length/\c.1=21+j)->∀ (out:List V) (y:Option MV),out.length+cs.length<500->(∀ y',forL (bE prog (aa prog (n+3)) [3] rO) (aL o zs) (kids L cs) ⟨[vr aS,vv s1,some (.bH out),y],h⟩=some (.next,⟨[vr aS,vv s1,some (.bH (out++kids L cs)),y'],h⟩)->C_)->C_:=by
 intro cs;induction cs with
 |nil =>
  intro _ out y _ k_;exact k_ y (by rw[show kids L []=[] from rfl,List.append_nil];exact k_fe hz)
 |cons c cs ih =>
  intro hl out y hlen k_;simp only[aaI]at hlen;refine Cv (hl c aad) λhc j hj ec=>?_
  have s2:=R.iX;have e1:=JT (n:=n+1) R.kt (c_ hc);have e2:=uu (n:=n) R.toWR hj hc ec;have FT:out.length<1000:=nJ hlen rfl;refine ih (λd hd=>hl d (aac _ hd)) (out++[.int (ah L c)]) (vi (ah L c)) (by rw[aag,List.length_singleton];exact Ct hlen) λy' e=>?_
  rw[List.append_assoc]at e;refine k_ y' (bu hz (bz rfl ?_) e);clear R k_ e hl;walk_at"SS"
theorem VF{C_:Prop}(R:WX W L h) {i a:Nat}(hi:i<W.ty.length) (ha:d6 a) (hc:W.kd i a∈L) (k_:∀ L' h',aa prog (n+12) 35 [.ref aS,.int (ah L (W.kd i a))] h=some (if W.ob then .ret (.lst (aQ L' (W.bN i a))) h' else .exc h')->Gr L h L' h'->(∀ c∈W.bN i a,c∈L')->C_):C_:=by
 have h4:=R.n4;refine ZJ (n:=n) R hi ha hc λL' h' e g m=>?_
 rw[xV]at e;have R':=R.gr g;have s2:=R'.iX;refine k_ L' h' ?_ g (λc hc=>m c (xU.mp hc))
 have e1:aa prog (n+11) 12 [.ref aK,.int 12] h'=_:=JT (n:=n+9) R'.kt (tF (k:=12) (by decide))
 have e2:=xP (n:=n+8) R'.toWR;clear k_;by_cases cX:W.ob=true
 ·rw[aae cX]at e2⊢;refine cps λC k_=>?_
  refine xX (n:=n+8) R' cX (s1:=.int (ah L (W.kd i a))) (o:=.lst (.int 12::kids L' (W.bN i a))) (zs:=.int 12::kids L' (W.bN i a)) rfl (W.bN i a) (λc hc=>by
   refine mR hc λj hj SH=>?_
   obtain rfl:=SH;exact⟨m _ (xU.mp hc),j,by exact aak hj hi,rfl⟩) [.int 12] (vi 12) (by rw[bJ,List.length_singleton];exact aaL (n_8 _ hi h4 rfl)) λy' e3=>?_
  refine k_ ?_;clear R R' k_ g m;have lp:=bu (f:=bE prog (aa prog (n+11)) [3] rO) (E:=[vr aS,vi (ah L (W.kd i a)),some (.bH []),none]) (x:=.int 12) (chk:=aL (.lst (.int 12::kids L' (W.bN i a))) (.int 12::kids L' (W.bN i a))) rfl (bz rfl (by walk_at"SS")) e3
  walk_at"cf"
 ·rw[aaf cX]at e2⊢;clear R R' g m;have lp:=QV (f:=bE prog (aa prog (n+11)) [3] rO) (H:=h') (st₁:=⟨[vr aS,vi (ah L (W.kd i a)),some (.bH []),vi 12],h'⟩) (xs:=kids L' (W.bN i a)) (E:=[vr aS,vi (ah L (W.kd i a)),some (.bH []),none]) (x:=.int 12) (chk:=aL (.lst (.int 12::kids L' (W.bN i a))) (.int 12::kids L' (W.bN i a))) rfl (bz rfl (by walk_at"SS"))
  walk_at"cfX"
theorem dI{cs:List Ck}{j:Nat}{c:Ck}(hj:cs[j]? =some c):dm (aQ L cs) (j+1:Nat)=some (.int (ah L c)):=by
 rw[bI,aQ,List.getElem?_cons_succ,xW,hj];rfl
theorem SI(R:WX W L h) {cs:List Ck}:aa prog (n+3) 36 [.ref aS,.lst (aQ L cs),.int 0] h=some (.ret (.lst [.int 12]) h):=by
 have s2:=R.iX;have e1:=Sk (n:=n) R.kt;clear R;walk_at"cf"
theorem ZK{C_:Prop}(R:WX W L h) (cX:W.ob=true) {i a j:Nat}(hi:i<W.ty.length) (ha:d6 a) (hj:j<=i) (hm:∀ c∈W.bN i a,c∈L) (k_:∀ L' h',aa prog (n+13) 36 [.ref aS,.lst (aQ L (W.bN i a)),.int (j+1:Nat)] h=some (.ret (.lst (aQ L' (W.bN j 16))) h')->Gr L h L' h'->(∀ c∈W.bN j 16,c∈L')->C_):C_:=by
 have s2:=R.iX;have hg:=dg (W:=W) (a:=a) hj;have hc:W.kd j (W.ar i a j)∈L:=hm _ (List.mem_iff_getElem?.mpr ⟨j,hg⟩);have e0:=dI (L:=L) hg;have e1:aa prog (n+12) 14 [.ref aK,.int (ah L (W.kd j (W.ar i a j)))] h=some (.ret (.tup (ta (if W.wide j then some (W.ar i a j) else none))) h):=JU (n:=n+10) R.kt hc
 cases hw:W.wide j
 ·have hu:(W.bN i a).take (j+1)=W.bN j 16:=(xT hj).trans (qN hw);refine k_ L h ?_ (.refl R.kt) (λc hc=>hm c (List.mem_of_mem_take (hu▸hc)))
  rw[hw]at e1;have e1:aa prog (n+12) 14 [.ref aK,.int (ah L (W.kd j (W.ar i a j)))] h=some (.ret (.tup []) h):=e1;have fK:((jB []).bind λl=>(jB [.int (((j+1:Nat):Int)+1)]).bind λu=>slice h (.lst (aQ L (W.bN i a))) l u)=some (.lst (aQ L (W.bN j 16))):=by
   show(if (0:Int)<=((j+1:Nat):Int)+1 then some (V.lst ((aQ L (W.bN i a)).take (j+1+1))) else none)=_
   rw[aae (by exact aaQ _),aQ,List.take_succ_cons,tI,hu]
   rfl
  clear R k_;walk_at"cf"
 ·rw[hw]at e1;have e1:aa prog (n+12) 14 [.ref aK,.int (ah L (W.kd j (W.ar i a j)))] h=some (.ret (.tup [.int (W.ar i a j)]) h):=e1;have e2:=uu (n:=n+9) R.toWR (i:=j) (aak hj hi) hc rfl;refine bF R.toWR (show j<W.ty.length by exact aak hj hi) λt O T=>?_
  refine VA (n:=n+3) R.toWR (i:=j) (aak hj hi) λh1 e3 g1=>?_
  have R1:=R.gr g1;refine VF (n:=n) R1 (i:=j) (a:=16) (aak hj hi) (.inr (.inr rfl)) cC λL' h' e4 g2 m2=>?_
  rw[aae cX]at e4;refine k_ L' h' ?_ (g1.trans g2) m2;have f2:=T.tid;clear R R1 T k_ g1 g2 m2 hm;walk_at"cf"
end
structure xY(m:Md):Prop where
 p:m.p=2∨m.p=3
 ix:∀ a∈m.ix,d6 a
 len:m.ix.length<=1
 mode:m.mode<7
 acc:slot m.mode=true->m.acc=6
structure kj(W:Wd):Prop where
 JY:∀ x m,W.md x=some m->xY m/\m.i<W.ty.length
 r5:∀ i (t:Ty),W.ty[i]? =some t->t.meths.length<100/\∀ x∈t.meths,∃ m,W.md x=some m/\m.i=i
theorem SJ(m:Nat):PySem.Builtin.bitAnd (d7 m) 2=if slot m then 2 else 0:=by
 unfold d7;cases slot m<;>by_cases h:m=0<;>simp[h]<;>decide
theorem SK(m:Nat):PySem.Builtin.bitAnd (d7 m) 1=0:=by
 unfold d7;cases slot m<;>by_cases h:m=0<;>simp[h]<;>decide
theorem NR(m:Nat):PySem.Builtin.bitAnd (d7 m) 16=0:=by
 unfold d7;cases slot m<;>by_cases h:m=0<;>simp[h]<;>decide
theorem SM(m:Nat):PySem.Builtin.bitAnd (d7 m) 9=0:=by
 unfold d7;cases slot m<;>by_cases h:m=0<;>simp[h]<;>decide
theorem SN(m:Nat) (h:slot m=true):PySem.Builtin.bitAnd (d7 m) 4=if m=0 then 0 else 4:=by
 unfold d7;by_cases e:m=0<;>simp[h,e]<;>decide
theorem ic{m:Nat}{q:Bool}(h:slot m=q):binop .band (.int (d7 m)) (.int 2)=some (.int (if q then 2 else 0)):=h▸aab (λi=>some (V.int i)) (SJ m)
theorem DQ{m:Nat}:binop .band (.int (d7 m)) (.int 1)=some (.int 0):=aab (λi=>some (V.int i)) (SK m)
theorem NS{m:Nat}:binop .band (.int (d7 m)) (.int 9)=some (.int 0):=aab (λi=>some (V.int i)) (SM m)
theorem II{m:Nat}:binop .band (.int (d7 m)) (.int 16)=some (.int 0):=aab (λi=>some (V.int i)) (NR m)
theorem oO{m:Nat}(h:slot m=true):binop .band (.int (d7 m)) (.int 4)=some (.int (if m=0 then 0 else 4)):=aab (λi=>some (V.int i)) (SN m h)
theorem NT(m n:Nat):PySem.Builtin.bitAnd (PySem.Builtin.bitOr (d7 m) (d7 n)) 16=0:=by
 unfold d7;cases slot m<;>cases slot n<;>by_cases h:m=0<;>by_cases h2:n=0<;>simp[h,h2]<;>decide
theorem xY.par{m:Md}(k:xY m):∀ a∈m.params,uq a:=by
 intro a ha;have:d6 a->uq a:=λh=>by unfold d6 at h;unfold uq;exact h.elim (λe=>.inl (e▸by decide)) λh=>h.elim (λe=>.inl (e▸by decide)) .inr
 unfold Md.params at ha;split at ha
 ·exact this (k.ix a ha)
 ·rcases aaM.mp ha with ha | ha
  ·exact this (k.ix a ha)
  ·simp at ha;subst ha;exact .inl (by lia)
theorem xY.tJ{m:Md}(k:xY m):m.params.length<100:=by
 have:=k.len;unfold Md.params;split<;>simp<;>lia
theorem xY.VG{m:Md}:m.ret<16:=by unfold Md.ret;split<;>lia
def sgn(m m':Md) (c c':Ck):Bool:=m.params.length==m'.params.length&&m.ret==m'.ret&&m.params.map (cl c.2)==m'.params.map (cl c'.2)
theorem SO{P:Prog}{h:MH}{a b:Nat}{l l':List Nat}:a8 P h .eq (.tup [.int a,.tup (ao l)]) (.tup [.int b,.tup (ao l')])=some (decide (a=b)&&decide (l=l')):=by
 have h1:∀ (a:Int) (l:List Nat),pl (.tup [.int a,.tup (ao l)])=true:=λa l=>by
  show(true&&(jz 6 (ao l)&&true))=true;rw[gp];rfl
 refine(aae ⟨h1 _ _,h1 _ _⟩).trans (aab some ?_);show((a:Int)==b&&(bX (ao l) (ao l')&&true))=_;rw[eH,Bool.and_true,Bool.eq_iff_iff];simp;lia
section
variable{W:Wd}{L L' L'':List Ck}{h h' ee:MH}{n:Nat}
theorem ZL(R:WR W L h) {x:Nat}{m:Md}(hm:W.md x=some m) (hs:slot m.mode=true):aa prog (n+1) 41 [.ref aS,.int x] h=some (.ret (.bool true) h):=by
 have s4:=R.kS;have e1:=(R.me hm).1;have T:=(R.me hm).2;have f0:=R.meths;have f2:=T.fl;have f3:binop .band (.int (d7 m.mode)) (.int 2)=some (.int 2):=ic hs;have f4:binop .band (.int (d7 m.mode)) (.int (PySem.Builtin.bitOr 1 8))=some (.int 0):=NS;clear R T;walk_at"cf"
theorem ZM(R:WR W L h) {x:Nat}{m:Md}(hm:W.md x=some m):aa prog (n+1) 43 [.ref aS,.int x] h=some (.ret (.bool (slot m.mode&&decide (m.acc≠1))) h):=by
 have s4:=R.kS;have e1:=(R.me hm).1;have T:=(R.me hm).2;have f0:=R.meths;have f2:=T.fl;have f4:=T.acc;have f5:=DQ (m:=m.mode);clear R T;cases hs:slot m.mode
 ·have f3:binop .band (.int (d7 m.mode)) (.int 2)=some (.int 0):=ic hs;walk_at"cf"
 ·have f3:binop .band (.int (d7 m.mode)) (.int 2)=some (.int 2):=ic hs;by_cases ha:m.acc=1
  ·rw[ha]at f4;rw[show decide (m.acc≠1)=false from aaA λq=>q ha]
   have f4:getAttr h (.ref (.inst 2 (x-1))) 28=some (.int 1):=f4;walk_at"cf"
  ·have VH:¬ ((m.acc:Int)=1):=sG ha;rw[show decide (m.acc≠1)=true from aaq ha]
   walk_at"cf"
theorem VJ(R:WR W L h) {x y:Nat}{m m':Md}{o o':V}(hm:W.md x=some m) (eg:W.md y=some m'):aa prog (n+1) 44 [.ref aS,o,.int x,o',.int y] h=some (.ret (.bool true) h):=by
 have s4:=R.kS;have e1:=(R.me hm).1;have T:=(R.me hm).2;have e2:=(R.me eg).1;have T':=(R.me eg).2;refine gJ T.gb λg1 t1=>?_
 refine gJ T'.gb λg2 t2=>?_
 have f0:=R.meths;have f3:=T.gen;clear R T T';walk_at"cf"
theorem VK{C_:Prop}(R:WX W L h) {x y:Nat}{m m':Md}{c c':Ck}{bn:Bool}(hm:W.md x=some m) (eg:W.md y=some m') (k:xY m) (k':xY m') (hc:c∈L) (oM:c'∈L) (k_:∀ h',aa prog (n+6) 45 [.ref aS,.int (ah L c),.int x,.int (ah L c'),.int y,.bool bn] h=some (.ret (.bool ((!bn||decide (m.nm=m'.nm))&&sgn m m' c c')) h')->Gr L h L h'->C_):C_:=by
 have s0:=R.meths;have s4:=R.kS;have e1:=(R.me hm).1;have T:=(R.me hm).2;have e2:=(R.me eg).1;have T':=(R.me eg).2;have t1:=T.nm;have t2:=T.gen;have t3:=T.par;have u1:=T'.nm;have u2:=T'.gen;have u3:=T'.par;clear T T'  ;by_cases h1:bn=true/\m.nm≠m'.nm
 ·obtain⟨rfl,h1⟩:=h1;rw[aaA h1]at k_;refine k_ h ?_ (.refl R.kt);clear R k_;walk_at"cf"
 ·have hb:(!bn||decide (m.nm=m'.nm))=true:=by
   clear k_;cases bn
   ·rfl
   ·simp at h1;simp[h1]
  rw[hb]at k_;have hn:bn=true->m.nm=m'.nm:=λe=>Decidable.not_not.mp λq=>h1 ⟨e,q⟩
  by_cases h2:m.params.length=m'.params.length
  ·refine VC (n:=n) R.toWR hc hm k.par xY.VG k.tJ λh3 e3 g3=>?_
   refine VC (n:=n) (R.gr g3).toWR oM eg k'.par xY.VG k'.tJ λh4 e4 g4=>?_
   refine k_ h4 ?_ (g3.trans g4);have hl:((ao m.params).length:Int)=(ao m'.params).length:=by rw[aG,aG,h2]
   have hs:sgn m m' c c'=(decide (m.ret=m'.ret)&&decide (m.params.map (cl c.2)=m'.params.map (cl c'.2))):=by
    unfold sgn;rw[Bool.eq_iff_iff];simp[h2]
   rw[Bool.true_and,hs];have hc:=SO (P:=prog) (h:=h4) (a:=m.ret) (b:=m'.ret) (l:=m.params.map (cl c.2)) (l':=m'.params.map (cl c'.2));clear R g3 g4 k_ hs h1 hb;cases bn
   ·walk_at"cf"
   ·have Pr:=hn rfl;walk_at"cf"
  ·refine k_ h ?_ (.refl R.kt);have hl:¬ ((ao m.params).length:Int)=(ao m'.params).length:=by rw[aG,aG];exact sG h2
   have hs:sgn m m' c c'=false:=by simp[sgn,h2]
   rw[hs];clear R k_ hs h1 hb;cases bn
   ·walk_at"cf"
   ·have Pr:=hn rfl;walk_at"cf"
theorem ZN(R:WR W L h) {x y:Nat}{m m':Md}(hm:W.md x=some m) (eg:W.md y=some m') (hi:m.i<W.ty.length) (IJ:m'.i<W.ty.length) (a:m.acc=6) (a':m'.acc=6) :
  aa prog (n+1) 46 [.ref aS,.ref (.inst 2 (x-1)),.ref (.inst 2 (y-1))] h=some (.ret (.bool false) h):=by
 have s3:=R.mQ;have T:=(R.me hm).2;have T':=(R.me eg).2;refine bF R hi λO O U=>?_
 refine bF R IJ λO O U'=>?_
 have e1:=d8 R hi;have e2:=d8 R IJ;have o1:=T.own;have o2:=T'.own;have a1:getAttr h (.ref (.inst 2 (x-1))) 28=some (.int 6):=T.acc.trans (by rw[a];rfl)
 have a2:getAttr h (.ref (.inst 2 (y-1))) 28=some (.int 6):=T'.acc.trans (by rw[a'];rfl)
 have f0:=R.types;have f5:=U.JV;have f6:=U'.JV;clear R T T' U U';walk_at"cf"
def Wd.cond(W:Wd) (i j:Nat) (m:Md) (x:Nat):Bool:=match W.md x with
 |some m'=>slot m'.mode&&decide (m'.acc≠1)&&(decide (m.nm=m'.nm)&&sgn m m' (W.kd i 16) (W.kd j (W.ar i 16 j)))
 |none=>false
noncomputable def Wd.bP(W:Wd) (j:Nat):List Nat:=match W.ty[j]? with
 |some t=>t.meths
 |none=>[]
noncomputable def Wd.oP(W:Wd) (i:Nat) (m:Md):Nat->Option (Nat×Nat)
 |0=>none
 |j+1=>match (W.bP j).find? (W.cond i j m) with
  |some x=>some (x,j)
  |none=>W.oP i m j
theorem Wd.r6{W:Wd}{i j:Nat}{m:Md}:W.oP i m (j+1)=match (W.bP j).find? (W.cond i j m) with | some x=>some (x,j) | none=>W.oP i m j:=rfl
noncomputable def PJ(j:Nat):Option Nat->Fl
 |some z=>.ret (.tup [.int z,.int (j+1:Nat)])
 |none=>.next
noncomputable def xZ(b:Bool):Fl:=cond b (.ret (.bool true)) .next
theorem x3{α:Type}{p:α->Bool}{a:α}{l:List α}(e:p a=false):(a::l).any p=l.any p:=by rw[List.any_cons,e];rfl
theorem x4{α:Type}{p:α->Bool}{a:α}{l:List α}(e:p a=true):(a::l).any p=true:=by rw[List.any_cons,e];rfl
theorem DS{α:Type}{p:α->Bool}{a:α}{l:List α}(e:p a=false):(a::l).find? p=l.find? p:=by rw[List.find?_cons,e]
theorem IK{α:Type}{p:α->Bool}{a:α}{l:List α}(e:p a=true):(a::l).find? p=some a:=by rw[List.find?_cons,e]
theorem IL{C_:Prop}(K:kj W) {i j x:Nat}{m:Md}(hm:W.md x=some m) (hj:j<=i) (hi:i<W.ty.length) {o:V}{zs:List V}(hz:∀ {L h},WX W L h->aL o zs h=true) (bZ:∀ c∈W.bN i 16,c∈L):∀ (l:List Nat),(∀ y∈l,∃ m',W.md y=some m')->∀ {h:MH}(R:WX W L h) (y:Option MV),(∀ y' h',forL (bE prog (aa prog (n+6)) [5] wF) (aL o zs) (ao l) ⟨[vr aS,vv (.lst (aQ L (W.bN i 16))),vi x,vi (i+1:Nat),vi (j+1:Nat),y],h⟩=some (PJ j (l.find? (W.cond i j m)),⟨[vr aS,vv (.lst (aQ L (W.bN i 16))),vi x,vi (i+1:Nat),vi (j+1:Nat),y'],h'⟩)->Gr L h L h'->C_)->C_:=by
 intro l;induction l with
 |nil =>
  intro _ h R y k_;exact k_ y h (k_fe (hz R)) (.refl R.kt)
 |cons z l ih =>
  intro hl h R y k_;refine gJ (hl z aad) λm' eg=>?_
  have e1:=ZM (n:=n+5) R.toWR eg;refine cJ (K.JY z m' eg) λk' IJ=>?_
  have k:=(K.JY x m hm).1;have gi:=dg (W:=W) (a:=16) (aat i);rw[cD]at gi;have gj:=dg (W:=W) (a:=16) hj;have li:=dI (L:=L) gi;have lj:=dI (L:=L) gj;refine VK (n:=n) R (bn:=true) hm eg k k' (bZ _ (List.mem_iff_getElem?.mpr ⟨_,gi⟩)) (bZ _ (List.mem_iff_getElem?.mpr ⟨_,gj⟩)) λh2 e2 g2=>?_
  have pn:W.cond i j m z=(slot m'.mode&&decide (m'.acc≠1)&&(decide (m.nm=m'.nm)&&sgn m m' (W.kd i 16) (W.kd j (W.ar i 16 j)))):=by unfold Wd.cond;rw[eg]
  rw[Bool.not_true,Bool.false_or]at e2;have z1:=hz R;have go:=λ(h:MH) (R:WX W L h) y=>ih (λy hy=>hl y (aac _ hy)) R y
  cases c1:(slot m'.mode&&decide (m'.acc≠1))<;>rw[c1]at e1 pn
  ·refine go _ R (vi z) λy' h' e g=>?_
   refine k_ y' h' (uo (aab (PJ j) (DS (pn.trans (Bool.false_and _)))) (bu z1 (bz rfl ?_) e)) g;clear R g2 go k_ e;walk_at"SS"
  ·cases c2:(decide (m.nm=m'.nm)&&sgn m m' (W.kd i 16) (W.kd j (W.ar i 16 j)))<;>rw[c2]at e2 pn
   ·refine go _ (R.gr g2) (vi z) λy' h' e g=>?_
    refine k_ y' h' (uo (aab (PJ j) (DS pn)) (bu z1 (bz rfl ?_) e)) (g2.trans g);clear R g2 go k_ e;walk_at"SS"
   ·refine k_ (vi z) h2 (uo (aab (PJ j) (IK pn)) (kO z1 (bz rfl ?_))) g2;clear R g2 go k_;walk_at"SS"
end
section
variable{W:Wd}{L L' L'':List Ck}{h h' ee:MH}{n:Nat}
theorem IM{cs:List Ck}:dm (aQ L cs) 0=some (.int 12):=rfl
theorem dh{j:Nat}{t:Ty}(h:W.ty[j]? =some t):W.bP j=t.meths:=by simp[Wd.bP,h]
theorem ya{i j z:Nat}{m:Md}{t:Ty}(ht:W.ty[j]? =some t) (hf:t.meths.find? (W.cond i j m)=some z):W.oP i m (j+1)=some (z,j):=by
 rw[Wd.r6,dh ht,hf]
theorem yb{i j:Nat}{m:Md}{t:Ty}(ht:W.ty[j]? =some t) (hf:t.meths.find? (W.cond i j m)=none):W.oP i m (j+1)=W.oP i m j:=by
 rw[Wd.r6,dh ht,hf]
theorem r7{j:Nat}:binop .sub (.int ((j+1:Nat):Int)) (.int 1)=some (.int j):=aab (λi=>some (V.int i)) (i_7)
theorem ZO{C_:Prop}(K:kj W) (cX:W.ob=true) {i x:Nat}{m:Md}(hm:W.md x=some m) (hi:i<W.ty.length) (bZ:∀ c∈W.bN i 16,c∈L):∀ (u:Nat),u<=i->∀ (F:Nat),∀ {h:MH}(R:WX W L h) (y:Option MV),(∀ y' r h',bY (nS prog (aa prog (n+6)) Dc) (aw prog (aa prog (n+6)) Dd) (F+u+2) ⟨[vr aS,vv (.lst (aQ L (W.bN i 16))),vi x,vi (i+1:Nat),vi u,y],h⟩ =
   some (match W.oP i m u with
    |some (z,j)=>.ret (.tup [.int z,.int (j+1:Nat)])
    |none=>.next,⟨[vr aS,vv (.lst (aQ L (W.bN i 16))),vi x,vi (i+1:Nat),r,y'],h'⟩)->Gr L h L h'->C_)->C_:=by
 intro u;induction u with
 |zero =>
  intro _ F h R y k_;have e1:=xP (n:=n+3) R.toWR;rw[aae cX]at e1;have T:=R.xM cX;refine k_ y (vi (-1)) h ?_ (.refl R.kt);have f2:=T.met;have f3:h.get (.fld (.inst 1 0) 17)=some (.list []):=T.gQ;have lp:=k_fe (f:=bE prog (aa prog (n+6)) [5] wF) (E:=[vr aS,vv (.lst (aQ L (W.bN i 16))),vi x,vi (i+1:Nat),vi 0,y]) (aU f3);clear R T k_ K bZ;apply wk
  ·walk_at"T"
  ·walk_at"SS"
  ·exact Bj (by walk_at"T")
 |succ j ih =>
  intro hj F h R y k_;have gj:=dg (W:=W) (a:=16) (show j<=i by exact aay hj)
  have lj:=dI (L:=L) gj;have JZ:=bZ _ (List.mem_iff_getElem?.mpr ⟨_,gj⟩);have NU:j<W.ty.length:=Nat.lt_trans hj hi;have e1:=uu (n:=n+3) R.toWR NU JZ rfl;refine bF R.toWR NU λt ht T=>?_
  refine IL (n:=n) K hm (show j<=i by exact aay hj) hi (o:=.ref (.fld (W.eG j) 17)) (zs:=ao t.meths) (λ{L h} R=>by
   have T:=R.tys j t ht;exact aU T.gQ) bZ t.meths (λy hy=>by
   obtain⟨m',h1,-⟩:=(K.r5 j t ht).2 y hy;exact⟨m',h1⟩) R y λy' h1 e2 g1=>?_
  have f2:=T.met;have f3:=T.gQ;have bd:=r7 (j:=j);cases hf:t.meths.find? (W.cond i j m) with
  |some z =>
   rw[hf]at e2;rw[ya ht hf]at k_;refine k_ y' (vi (j+1:Nat)) h1 ?_ g1;clear R T k_ K bZ g1 ih;apply QU
   ·walk_at"T"
   ·walk_at"SS"
  |none =>
   rw[hf]at e2;rw[yb ht hf]at k_;refine ih (aay hj) F (R.gr g1) y' λy2 r2 h2 e3 g2=>?_
   refine k_ y2 r2 h2 (wk (by walk_at"T") ?_ e3) (g1.trans g2)
   clear R T k_ K bZ g1 g2 ih e3;walk_at"SS"
theorem ZP{C_:Prop}(K:kj W) (cX:W.ob=true) (R:WX W L h) {i x:Nat}{m:Md}(hm:W.md x=some m) (hi:i<W.ty.length) (bZ:∀ c∈W.bN i 16,c∈L) (k_:∀ h',aa prog (n+7) 42 [.ref aS,.lst (aQ L (W.bN i 16)),.int x] h=some (.ret (match W.oP i m i with
    |some (z,j)=>.tup [.int z,.int (j+1:Nat)]
    |none=>.tup [.int 0,.int (-1)]) h')->Gr L h L h'->C_):C_:=by
 have h4:=R.n4;refine ZO (n:=n) K cX hm hi bZ i (aat _) (62-i) R none λy' r h' e g=>?_
 rw[show 62-i+i+2=64 by exact aab (·+2) (Nat.sub_add_cancel (iu (aay hi) h4 rfl))]at e
 refine k_ h' ?_ g;have hl:binop .sub (.int ((aQ L (W.bN i 16)).length:Nat)) (.int 1)=some (.int (i+1:Nat)):=aab (λi=>some (V.int i)) (by simp[aQ,kids,bJ])
 have bd:=r7 (j:=i);clear R k_ K bZ g;cases ho:W.oP i m i with
 |none =>
  rw[ho]at e;walk_at"cf"
 |some p =>
  rw[ho]at e;walk_at"cf"
end
structure Vt where
 rows:List (Ck×Nat)
 sl:List (Nat×Nat)
noncomputable def bx(k v:Nat):List (Nat×Nat)->List (Nat×Nat)
 |[]=>[(k,v)]
 |(y,u)::es=>if y=k then (y,v)::es else (y,u)::bx k v es
theorem sput_0{k v:Nat}:bx k v []=[(k,v)]:=rfl
theorem sput_1{k v y u:Nat}{es:List (Nat×Nat)}:bx k v ((y,u)::es)=if y=k then (y,v)::es else (y,u)::bx k v es:=rfl
noncomputable def fG(sl:List (Nat×Nat)):List (V×V):=sl.map λp=>(.int p.1,.int p.2)
def gR(L:List Ck) (r:Ck×Nat):V:=.tup [.int (ah L r.1),.int r.2]
noncomputable abbrev aV(v:Nat):Ad:=.inst 4 v
structure eO(L:List Ck) (h:MH) (v:Nat) (vt:Vt):Prop where
 a0:getAttr h (.ref (aV v)) 0=some (.ref (.fld (aV v) 0))
 BJ:getAttr h (.ref (aV v)) 44=some (.ref (.fld (aV v) 44))
 rows:h.get (.fld (aV v) 0)=some (.list (vt.rows.map (gR L)))
 sl:h.get (.fld (aV v) 44)=some (.dict (fG vt.sl))
 mem:∀ r∈vt.rows,r.1∈L
structure Gv(L:List Ck) (h:MH) (L':List Ck) (h':MH):Prop where
 kt:KT L' h'
 pre:L <+: L'
 get:∀ a,rk h a->n4 a->h'.get a=h.get a
 aq:h.aq<=h'.aq
theorem eJ{x:Nat}:∀ {sl:List (Nat×Nat)},aF (.int x) (fG sl)=some ((sl.lookup x).map λ(s:Nat)=>V.int s):=by
 intro sl;unfold aF;rw[aae (by simp[fG,P_])]
 congr 1;induction sl with
 |nil=>rfl
 |cons p sl ih =>
  obtain⟨y,u⟩:=p;by_cases e:x=y
  ·subst e;simp[fG,jC]
  ·have:¬ ((y:Int)=x):=Ne.symm (sG e);simp only[fG,List.map_cons,List.find?_cons,jC,beq_eq_false_iff_ne.mpr this,List.lookup_cons,beq_eq_false_iff_ne.mpr e]at ih⊢;exact ih
theorem gq{x s:Nat}:∀ {sl:List (Nat×Nat)},cz (.int x) (.int s) (fG sl)=fG (bx x s sl):=by
 intro sl;induction sl with
 |nil =>
  exact rfl
 |cons x_ sl ih =>
  obtain⟨y,u⟩:=x_;have ih:=ih;simp only[fG]at ih;by_cases e:y=x
  ·clear ih;subst e;simp[fG,kput_1,sput_1,jC]
  ·have:¬ ((y:Int)=x):=sG e;simp[fG,kput_1,sput_1,jC,this,e,ih]
theorem aM{x s z:Nat}:∀ {sl:List (Nat×Nat)},(bx x s sl).lookup z=if z=x then some s else sl.lookup z:=by
 intro sl;induction sl with
 |nil =>
  by_cases e:z=x<;>simp[sput_0,List.lookup,e]
 |cons x_ sl ih =>
  obtain⟨y,u⟩:=x_;have ih:=ih;by_cases e:y=x
  ·clear ih;subst e;by_cases e2:z=y<;>simp[sput_1,List.lookup_cons,e2];simp[beq_eq_false_iff_ne.mpr e2]
  ·by_cases e2:z=y
   ·subst e2;simp[sput_1,List.lookup_cons,e]
   ·simp[sput_1,List.lookup_cons,e,beq_eq_false_iff_ne.mpr e2,ih]
section
variable{W:Wd}{L L' L'':List Ck}{h h' ee:MH}{n v:Nat}{vt:Vt}
theorem Gr.toV(g:Gr L h L' h'):Gv L h L' h':=⟨g.kt,g.pre,λa ha O=>g.get a ha,g.aq⟩
theorem Gv.trans(x:Gv L h L' h') (y:Gv L' h' L'' ee):Gv L h L'' ee :=
 ⟨y.kt,x.pre.trans y.pre,λa ha hn=>(y.get a (jn x.aq ha) hn).trans (x.get a ha hn),aaj x.aq y.aq⟩
theorem Gv.refl(R:KT L h):Gv L h L h:=(Gr.refl R).toV
theorem WX.gv(R:WX W L h) (g:Gv L h L' h'):WX W L' h':=R.keep g.kt g.pre λa ha=>g.get a (rV ha) (NH ha)
theorem tL(p:L <+: L') {r:Ck×Nat}(hr:r.1∈L):gR L' r=gR L r:=by unfold gR;rw[aN p hr]
theorem eO.gr(V:eO L h v vt) (g:Gr L h L' h'):eO L' h' v vt:=by
 have e:∀ a:Ad,a.rt=4->h'.get a=h.get a:=λa ha=>g.get a ⟨by rw[ha];decide,by rw[ha];exact aai (show 4<10 by decide) (Nat.le_add_left 10 _)⟩
 refine⟨af (e _ rfl) V.a0,af (e _ rfl) V.BJ,((e _ rfl).trans V.rows).trans ?_,(e _ rfl).trans V.sl,λr hr=>g.pre.subset (V.mem r hr)⟩
 exact aab (λl=>some (aP.list l)) (List.map_congr_left λr hr=>(tL g.pre (V.mem r hr)).symm)
theorem Gv.set(g:Gv L h L' h') {k:Nat}{o:aP}:Gv L h L' (h'.set (.fld (aV v) k) o) :=
 ⟨g.kt.set rfl,g.pre,λa ha hn=>(cZ λe=>hn (by rw[e];rfl)).trans (g.get a ha hn),g.aq⟩
theorem eO.mS(V:eO L h v vt) {rows:List (Ck×Nat)}(hm:∀ r∈rows,r.1∈L):eO L (h.set (.fld (aV v) 0) (.list (rows.map (gR L)))) v ⟨rows,vt.sl⟩ :=
 ⟨af (cZ nofun) V.a0,af (cZ nofun) V.BJ,kgeq,(kgne (fldk (show(44:Nat)≠0 by decide)) V.sl :),hm⟩
theorem eO.DT(V:eO L h v vt) {sl:List (Nat×Nat)}:eO L (h.set (.fld (aV v) 44) (.dict (fG sl))) v ⟨vt.rows,sl⟩ :=
 ⟨af (cZ nofun) V.a0,af (cZ nofun) V.BJ,(kgne (fldk (show(0:Nat)≠44 by decide)) V.rows :),kgeq,V.mem⟩
def Wd.pm(W:Wd) (i:Nat) (c:Ck) (vt:Vt) (x:Nat):Option Vt:=match W.md x with
 |some m=>if slot m.mode=true then (match (if m.mode=0 then W.oP i m i else none) with
   |none=>some ⟨vt.rows++[(c,x)],bx x vt.rows.length vt.sl⟩
   |some (z,_)=>match vt.sl.lookup z with
    |some s=>if s<vt.rows.length then some ⟨vt.rows.set s (c,x),bx x s vt.sl⟩ else none
    |none=>none) else some vt
 |none=>none
set_option tactic.hygienic true in
theorem yc{i x:Nat}{m:Md}:∀ {u z j:Nat},W.oP i m u=some (z,j)->j<u/\z∈W.bP j/\W.cond i j m z=true:=by
 intro u;induction u with
 |zero =>
  intro _ _ h;cases h
 |succ u ih =>
  intro z j h;rw[Wd.r6]at h;revert h;rcases hy:(W.bP u).find? (W.cond i u m) with _ | y<;>intro h
  rotate_left
  ·cases h;exact⟨aaN _,List.mem_of_find?_eq_some hy,List.find?_some hy⟩
  ·refine cJ (ih h) λa b=>?_
   exact⟨by exact aaw a,b⟩
theorem eO.fresh(T:eO L h v vt) {c:Ck}(hc:c∈L) {x:Nat}:eO L ((h.set (.fld (aV v) 44) (.dict (cz (.int x) (.int (vt.rows.map (gR L)).length) (fG vt.sl)))).set (.fld (aV v) 0) (.list (vt.rows.map (gR L)++[.tup [.int (ah L c),.int x]]))) v ⟨vt.rows++[(c,x)],bx x vt.rows.length vt.sl⟩:=by
 have a:=(T.DT (sl:=bx x vt.rows.length vt.sl)).mS (rows:=vt.rows++[(c,x)]) λr hr=>by
  rcases aaM.mp hr with hr | hr
  ·exact T.mem r hr
  ·rw[aar]at hr;rw[hr];exact hc
 rw[aaP]at a;rw[aan,gq];exact a
theorem eO.over(T:eO L h v vt) {c:Ck}(hc:c∈L) {x s:Nat}:eO L ((h.set (.fld (aV v) 44) (.dict (cz (.int x) (.int s) (fG vt.sl)))).set (.fld (aV v) 0) (.list ((vt.rows.map (gR L)).set s (.tup [.int (ah L c),.int x])))) v ⟨vt.rows.set s (c,x),bx x s vt.sl⟩:=by
 have a:=(T.DT (sl:=bx x s vt.sl)).mS (rows:=vt.rows.set s (c,x)) λr hr=>by
  rcases List.mem_or_eq_of_mem_set hr with hr | rfl
  ·exact T.mem r hr
  ·exact hc
 rw[List.map_set]at a;rw[gq];exact a
theorem oQ(hl:vt.rows.length<500):(vt.rows.map (gR L)).length<1000:=by rw[aan];exact Nat.lt_trans hl (by decide)
theorem qO{sl:List (Nat×Nat)}(hl:sl.length<500):(fG sl).length<1000:=by unfold fG;rw[aan];exact Nat.lt_trans hl (by decide)
theorem IP{x:Nat}{m:Md}(hm:W.md x=some m):¬ ((x:Int)=0):=by
 unfold Wd.md at hm;split at hm
 ·exact sG (zB (by assumption) rfl)
 ·cases hm
theorem BK{C_:Prop}(R:WX W L h) (T:eO L h v vt) {x:Nat}{m:Md}(hm:W.md x=some m) (hs:slot m.mode=true) (h0:¬ m.mode=0) {o:V}{c:Ck}(hc:c∈L) (hl:vt.rows.length<500) (uw:vt.sl.length<500) (k_:∀ h',aa prog (n+8) 39 [.ref aS,.ref (aV v),.int (ah L c),o,.int x] h=some (.ret .none h')->Gv L h L h'->eO L h' v ⟨vt.rows++[(c,x)],bx x vt.rows.length vt.sl⟩->C_):C_:=by
 have s4:=R.kS;have e1:=(R.me hm).1;have U:=(R.me hm).2;have v2:=T.a0;have v3:=T.BJ;refine k_ _ ?_ ((Gv.refl R.kt).set.set) (T.fresh hc);have b4:binop .band (.int (d7 m.mode)) (.int 4)=some (.int 4):=(oO hs).trans (by rw[aaf h0])
 have f0:=R.meths;have f2:=U.fl;have f3:=T.rows;have f4:=T.sl;have f5:=eJ (x:=x) (sl:=vt.sl);have l1:=oQ (L:=L) hl;have l2:=qO uw;clear R T U k_;walk_at"cf"
theorem yd{C_:Prop}(R:WX W L h) (T:eO L h v vt) {x:Nat}{m:Md}(hm:W.md x=some m) (hs:slot m.mode=true) (h0:m.mode=0) {o:V}{h1:MH}(e2:aa prog (n+7) 42 [.ref aS,o,.int x] h=some (.ret (.tup [.int 0,.int (-1)]) h1)) (g1:Gr L h L h1) {c:Ck}(hc:c∈L) (hl:vt.rows.length<500) (uw:vt.sl.length<500) (k_:∀ h',aa prog (n+8) 39 [.ref aS,.ref (aV v),.int (ah L c),o,.int x] h=some (.ret .none h')->Gv L h L h'->eO L h' v ⟨vt.rows++[(c,x)],bx x vt.rows.length vt.sl⟩->C_):C_:=by
 have T1:=T.gr g1;have s4:=R.kS;have e1:=(R.me hm).1;have U:=(R.me hm).2;have v2:=T1.a0;have v3:=T1.BJ;refine k_ _ ?_ g1.toV.set.set (T1.fresh hc);have b4:binop .band (.int (d7 m.mode)) (.int 4)=some (.int 0):=(oO hs).trans (by rw[aae h0])
 have f0:=R.meths;have f2:=U.fl;have f3:=T1.rows;have f4:=T1.sl;have f5:=eJ (x:=x) (sl:=vt.sl);have l1:=oQ (L:=L) hl;have l2:=qO uw;clear R T T1 U k_ g1;walk_at"cf"
theorem ye{C_:Prop}(K:kj W) (R:WX W L h) (T:eO L h v vt) {i j x z s:Nat}{m m':Md}(hm:W.md x=some m) (eg:W.md z=some m') (hs:slot m.mode=true) (zw:slot m'.mode=true) (h0:m.mode=0) (hj:j<=i) {h1:MH}(e2:aa prog (n+7) 42 [.ref aS,.lst (aQ L (W.bN i 16)),.int x] h=some (.ret (.tup [.int z,.int (j+1:Nat)]) h1)) (g1:Gr L h L h1) {c:Ck}(hc:c∈L) (hl:vt.rows.length<500) (uw:vt.sl.length<500)
  (fK:vt.sl.lookup z=some s) (PK:s<vt.rows.length) (k_:∀ h',aa prog (n+8) 39 [.ref aS,.ref (aV v),.int (ah L c),.lst (aQ L (W.bN i 16)),.int x] h=some (.ret .none h')->Gv L h L h'->eO L h' v ⟨vt.rows.set s (c,x),bx x s vt.sl⟩->C_):C_:=by
 have T1:=T.gr g1;have R1:=R.gr g1;have s4:=R.kS;have q4:=R1.kS;have e1:=(R.me hm).1;have U:=(R.me hm).2;have e3:=(R1.me eg).1;have U3:=(R1.me eg).2;have v2:=T1.a0;have v3:=T1.BJ;refine k_ _ ?_ g1.toV.set.set (T1.over hc);refine cJ (K.JY x m hm) λk ki=>?_
 refine cJ (K.JY z m' eg) λk' ZQ=>?_
 have e4:=ZN (n:=n+6) R1.toWR hm eg ki ZQ (k.acc hs) (k'.acc zw);have z0:=IP eg;have li:=dI (L:=L) (dg (W:=W) (a:=16) (aat i));have lj:=dI (L:=L) (dg (W:=W) (a:=16) hj);have e5:=VJ (n:=n+6) (o:=.int (ah L (W.kd i (W.ar i 16 i)))) (o':=.int (ah L (W.kd j (W.ar i 16 j)))) R1.toWR hm eg;have pD:binop .sub (.int ((aQ L (W.bN i 16)).length:Nat)) (.int 1)=some (.int (i+1:Nat)):=aab (λi=>some (V.int i)) (by simp[aQ,kids,bJ])
 have b4:binop .band (.int (d7 m.mode)) (.int 4)=some (.int 0):=(oO hs).trans (by rw[aae h0])
 have b16:=II (m:=m'.mode);have f0:=R.meths;have f2:=U.fl;have p0:=R1.meths;have p2:=U3.fl;have f3:=T1.rows;have f4:=T1.sl;have ZR:aF (.int z) (fG vt.sl)=some (some (.int s)):=eJ.trans (by rw[fK];rfl)
 have ZS:aF (.int x) (fG vt.sl)=_:=eJ;have kf3:aF (.int z) (cz (.int x) (.int s) (fG vt.sl))=some (some (.int s)):=by
  rw[gq,eJ,aM,fK];split<;>rfl
 have l2:=qO uw;have l3:s<(vt.rows.map (gR L)).length:=by rw[aan];exact PK
 clear R R1 T T1 U U3 k_ g1 K k k';walk_at"cfN"
set_option tactic.hygienic true in
theorem ZT{C_:Prop}(K:kj W) (cX:W.ob=true) (R:WX W L h) (T:eO L h v vt) {i x:Nat}{m:Md}(hm:W.md x=some m) (hs:slot m.mode=true) (hi:i<W.ty.length) (bZ:∀ c∈W.bN i 16,c∈L) {c:Ck}(hc:c∈L) {d9:Vt}(e:W.pm i c vt x=some d9)
  (hl:vt.rows.length<500) (uw:vt.sl.length<500) (k_:∀ h',aa prog (n+8) 39 [.ref aS,.ref (aV v),.int (ah L c),.lst (aQ L (W.bN i 16)),.int x] h=some (.ret .none h')->Gv L h L h'->eO L h' v d9->C_):C_:=by
 unfold Wd.pm at e;rw[hm]at e;simp only[hs,if_true]at e;by_cases h0:m.mode=0
 ·rw[aae h0]at e;refine ZP (n:=n) K cX R hm hi bZ λh1 e2 g1=>?_
  cases ho:W.oP i m i with
  |none =>
   rw[ho]at e e2;cases e;exact yd R T hm hs h0 e2 g1 hc hl uw k_
  |some p =>
   obtain⟨z,j⟩:=p;refine jx (yc (x:=x) ho) λhj hz r8=>?_
   rw[ho]at e e2;simp only at e;revert r8;unfold Wd.cond;rcases eg:W.md z with _ | m'
   ·nofun
   intro r8;simp only[aaB]at r8;revert e;rcases fK:vt.sl.lookup z with _ | s
   ·nofun
   intro e;have e:(if s<vt.rows.length then _ else _)=some d9:=e
   split at e
   case isFalse=>cases e
   rename_i PK;cases e;exact ye K R T hm eg hs r8.1.1 h0 (aay hj) e2 g1 hc hl uw fK PK k_
 ·rw[aaf h0]at e;cases e;exact BK R T hm hs h0 hc hl uw k_
end
theorem iH{x:Nat}{l:List Nat}:iy (.int x) (ao l)=some (decide (x∈l)):=by
 have h1:pl (.int x)=true:=rfl;unfold iy Ug;rw[h1,gp];simp only[and_self,if_true];congr 1;induction l with
 |nil=>rfl
 |cons y l ih =>
  simp only[ao,List.map_cons,List.any_cons,jC]at ih⊢;rw[ih,Bool.eq_iff_iff];simp;constructor
  ·rintro(a | a)
   ·exact .inl (Eq.symm (pF a))
   ·exact .inr a
  ·rintro(a | a)
   ·exact .inl (Eq.symm (Kh a))
   ·exact .inr a
theorem tM{L:List Ck}{cs:List Ck}:aQ L cs=ao (12::cs.map (ah L)):=by simp[aQ,kids,ao]
def r9(L:List Ck) (sn:List (Ck×Nat)):List (V×V):=sn.map λp=>(.tup [.int (ah L p.1),.int p.2],.int 1)
theorem NV{L:List Ck}{d:Ck}{x:Nat}(hd:d∈L):∀ {sn:List (Ck×Nat)},(∀ p∈sn,p.1∈L)->(d,x)∉sn->aF (.tup [.int (ah L d),.int x]) (r9 L sn)=some none:=by
 intro sn hm hn;unfold aF;rw[aae (by simp[r9,P9]),Option.some.injEq,Option.map_eq_none_iff,List.find?_eq_none]
 intro p hp;obtain⟨⟨c,y⟩,hq,rfl⟩:=aaG.mp hp;simp[jC,Kr,Eg,uH,zH];intro e e2;have:=jo (c:=c) (hm _ hq) hd (pF e);have e2:y=x:=pF e2;subst this;subst e2;exact hn hq
theorem BL{L:List Ck}{d:Ck}{x:Nat}(hd:d∈L):∀ {sn:List (Ck×Nat)},(∀ p∈sn,p.1∈L)->(d,x)∉sn->cz (.tup [.int (ah L d),.int x]) (.int 1) (r9 L sn)=r9 L (sn++[(d,x)]):=by
 intro sn;induction sn with
 |nil =>
  intro _ _;exact rfl
 |cons x_ sn ih =>
  intro hm hn;obtain⟨c,y⟩:=x_;have ih:=ih (λp hp=>hm p (aac _ hp)) (λh=>hn (aac _ h))
  simp only[r9]at ih;have:aC (.tup [.int (ah L c),.int y]) (.tup [.int (ah L d),.int x])=false:=by
   rw[Bool.eq_false_iff];intro e;simp[jC,Kr,Eg,uH,zH]at e;have:=jo (hm _ aad) hd (by show ah L c=ah L d;exact pF (And.left e))
   simp only at this;refine cJ e λe1 e2=>?_
   have e2:y=x:=pF e2;clear ih;subst this;clear ih;subst e2;exact hn aad
  simp[r9,kput_1,this,ih]
def Wd.pi(W:Wd) (i:Nat) (c:Ck) (q:Vt×List (Ck×Nat)) (im:Nat×Ck×Nat):Option (Vt×List (Ck×Nat)) :=
 if im.2.1.1=29 then some q else
 (W.md im.1).bind λmb=>(W.md im.2.2).bind λmd=>(q.1.sl.lookup im.2.2).bind λs=>(q.1.rows[s]?).bind λr=>if (W.md r.2).isSome=true/\slot mb.mode=true/\im.2.1∈W.bN i 16/\im.2.2∈W.bP (im.2.1.1-21)/\im.1∈W.bP i/\(im.2.1,im.2.2)∉q.2/\sgn mb md (W.kd i 16) im.2.1=true then
    some (⟨q.1.rows.set s (c,im.1),q.1.sl⟩,q.2++[(im.2.1,im.2.2)]) else none
section
variable{W:Wd}{L L' L'':List Ck}{h h' ee:MH}{n v:Nat}{vt:Vt}
theorem Gv.IQ{h0:MH}{L0:List Ck}(g:Gv L0 h0 L h) {o:aP}:Gv L0 h0 L (h.set (.aq h0.aq) o) :=
 ⟨g.kt.set rfl,g.pre,λa ha hn=>(cZ (gn ha)).trans (g.get a ha hn),g.aq⟩
theorem eO.IQ(V:eO L h v vt) {x:Nat}{o:aP}:eO L (h.set (.aq x) o) v vt :=
 ⟨gaD rfl V.a0,gaD rfl V.BJ,kgnd rfl V.rows,kgnd rfl V.sl,V.mem⟩
theorem eO.row(T:eO L h v vt) {c:Ck}(hc:c∈L) {x s:Nat}:eO L (h.set (.fld (aV v) 0) (.list ((vt.rows.map (gR L)).set s (.tup [.int (ah L c),.int x])))) v ⟨vt.rows.set s (c,x),vt.sl⟩:=by
 have a:=T.mS (rows:=vt.rows.set s (c,x)) λr hr=>by
  rcases List.mem_or_eq_of_mem_set hr with hr | rfl
  ·exact T.mem r hr
  ·exact hc
 rw[List.map_set]at a;exact a
theorem yf{cs:List Ck}{d:Ck}(h:d∈cs):iy (.int (ah L d)) (aQ L cs)=some true:=by
 rw[tM,iH];exact aab some (aaq (aac _ (aaG.mpr ⟨d,h,rfl⟩)))
theorem oR{l:List Nat}{x:Nat}(h:x∈l):iy (.int x) (ao l)=some true:=by rw[iH,aaq h]
theorem tN{i:Nat}:binop .sub (.int ((aQ L (W.bN i 16)).length:Nat)) (.int 1)=some (.int (i+1:Nat)):=aab (λi=>some (V.int i)) (by simp[aQ,kids,bJ])
theorem yg{s:Nat}{r:Ck×Nat}{rows:List (Ck×Nat)}(h:rows[s]? =some r):dm (rows.map (gR L)) s=some (gR L r):=by rw[bI,List.getElem?_map,h];rfl
theorem BM{a b:Nat}:binop .band (.int (PySem.Builtin.bitOr (d7 a) (d7 b))) (.int 16)=some (.int 0):=aab (λi=>some (V.int i)) (NT a b)
set_option tactic.hygienic true in
theorem ZU{C_:Prop}(K:kj W) (R:WX W L h) (T:eO L h v vt) {h0:MH}{L0:List Ck}(g0:Gv L0 h0 L h) (ht:h0.aq<h.aq) {sn:List (Ck×Nat)}(yh:h.get (.aq h0.aq)=some (.dict (r9 L sn))) (p_:∀ p∈sn,p.1∈L)
  {i:Nat}(hi:i<W.ty.length) (bZ:∀ c∈W.bN i 16,c∈L) {c:Ck}(hc:c∈L) (ec:c.1=21+i) {im:Nat×Ck×Nat}{q:Vt×List (Ck×Nat)}(e:W.pi i c (vt,sn) im=some q) (lP:im.2.1.1≠29)
  (hl:vt.rows.length<500) (uw:sn.length<500) (k_:∀ h',aa prog (n+7) 40 [.ref aS,.ref (aV v),.int (ah L c),.lst (aQ L (W.bN i 16)),cH L im,.ref (.aq h0.aq)] h=some (.ret .none h')->Gv L0 h0 L h'->eO L h' v q.1->h'.get (.aq h0.aq)=some (.dict (r9 L q.2))->(∀ p∈q.2,p.1∈L)->WX W L h'->h.aq<=h'.aq->C_):C_:=by
 obtain⟨b,d,dc⟩:=im;unfold Wd.pi at e;rw[aaf lP]at e;simp only at e lP;refine az (aap.mp e) λmb NW e=>?_
 refine az (aap.mp e) λmd J0 e=>?_
 refine az (aap.mp e) λs fK e=>?_
 refine az (aap.mp e) λr hr e=>?_
 split at e
 case isFalse=>cases e
 rename_i SP;refine eQ SP λBN Fo SQ VL PF gN ZV=>?_
 cases e;refine gJ (Option.isSome_iff_exists.mp BN) λmr J1=>?_
 refine mR SQ λj hj ZW=>?_
 have NX:=bZ d SQ;have ed:d.1=21+j:=by rw[ZW];rfl
 have gi:=dg (W:=W) (a:=16) (aat i);rw[cD]at gi;obtain⟨kb,-⟩:=K.JY _ _ NW;obtain⟨kd,-⟩:=K.JY _ _ J0;refine VK (n:=n) R (bn:=false) NW J0 kb kd (bZ _ (List.mem_iff_getElem?.mpr ⟨_,gi⟩)) NX λh1 e4 g1=>?_
 rw[Bool.not_false,Bool.true_or,Bool.true_and,ZV]at e4;have R1:=R.gr g1;have T1:=T.gr g1;have s4:=R.kS;have v2:=T.a0;have v3:=T.BJ;have w2:=T1.a0;have PL:=(R.me J0).1;have Ud:=(R.me J0).2;have er:=(R.me J1).1;have Ur:=(R.me J1).2;have NU:j<W.ty.length:=aak hj hi;refine bF R.toWR hi λt NY Ut=>?_
 refine bF R.toWR NU λt' ZX SU=>?_
 have ZY:h1.get (.aq h0.aq)=some (.dict (r9 L sn)):=(g1.get (.aq h0.aq) ⟨Nat.succ_ne_zero _,Nat.add_lt_add_right ht 10⟩).trans yh;have kp:=BL (x:=dc) NX p_ gN;have R2:WX W L (h1.set (.aq h0.aq) (.dict (cz (.tup [.int (ah L d),.int dc]) (.int 1) (r9 L sn)))):=R1.gx (.put R1.kt);refine k_ _ ?_ (((g0.trans g1.toV).IQ).set) ((T1.IQ (x:=h0.aq) (o:=.dict (cz (.tup [.int (ah L d),.int dc]) (.int 1) (r9 L sn)))).row hc) (kgne (λe=>nomatch e) (kgeq.trans (by rw[kp]))) (λp hp=>?_) (R2.gv ((Gv.refl R2.kt).set)) g1.aq
 ·have e1:=uu (n:=n+3) R.toWR hi hc ec;have e2:=uu (n:=n+3) R.toWR (i:=j) NU NX ed;have e3:=ZL (n:=n+5) R.toWR NW Fo;have e5:=VJ (n:=n+5) (o:=.int (ah L (W.kd i 16))) (o':=.int (ah L d)) R1.toWR NW J0;have li:=dI (L:=L) gi;have pD:=tN (W:=W) (L:=L) (i:=i);have m1:=yf (L:=L) SQ;rw[dh NY]at PF;rw[show d.1-21=j by exact n_7 _ ed,dh ZX]at VL
  have m2:=oR VL;have m3:=oR PF;have ZR:aF (.int dc) (fG vt.sl)=some (some (.int s)):=eJ.trans (by rw[fK];rfl)
  have ZS:=NV (x:=dc) NX p_ gN;have nr:dm (vt.rows.map (gR L)) s=some (.tup [.int (ah L r.1),.int r.2]):=yg hr;have bo:=BM (a:=md.mode) (b:=mr.mode);have hls:(r9 L sn).length<1000:=by unfold r9;rw[aan];exact cP uw rfl
  have PK:s<(vt.rows.map (gR L)).length:=by rw[aan];exact(aav.mp hr).1
  have f0:=R.meths;have f2:=Ut.met;have f3:=Ut.gQ;have f5:=SU.met;have f6:=SU.gQ;have f7:=T.rows;have f8:=T.sl;have U5:=Ud.fl;have U6:=Ur.fl;have U7:=T1.rows;clear R R1 R2 T T1 Ut SU Ud Ur  k_ g1 g0 K kb kd bZ p_ kp;walk_at"cfN"
 ·rcases aaM.mp hp with hp | hp
  ·exact p_ p hp
  ·rw[aar]at hp;rw[hp];exact NX
end
noncomputable def Wd.qP(W:Wd) (i:Nat) (c:Ck):List Nat->Vt->Option Vt
 |[],vt=>some vt
 |x::l,vt=>match W.pm i c vt x with
  |some vt=>W.qP i c l vt
  |none=>none
noncomputable def Wd.tO(W:Wd) (i:Nat) (c:Ck):List (Nat×Ck×Nat)->Vt×List (Ck×Nat)->Option (Vt×List (Ck×Nat))
 |[],q=>some q
 |x::l,q=>match W.pi i c q x with
  |some q=>W.tO i c l q
  |none=>none
def Wd.ux(W:Wd) (i:Nat) (c:Ck) (vt:Vt):Option Vt:=match W.ty[i]? with
 |some t=>(match W.qP i c t.meths vt with
  |some vt=>(W.tO i c t.aE (vt,[])).map (·.1)
  |none=>none)
 |none=>none
noncomputable def Wd.jg(W:Wd):List Ck->Nat->Vt->Option Vt
 |[],_,vt=>some vt
 |c::cs,j,vt=>match W.ux j c vt with
  |some vt=>W.jg cs (j+1) vt
  |none=>none
theorem Wd.DU{W:Wd}{i x:Nat}{c:Ck}{l:List Nat}{vt:Vt}:W.qP i c (x::l) vt=match W.pm i c vt x with | some vt=>W.qP i c l vt | none=>none:=rfl
theorem Wd.yi{W:Wd}{i:Nat}{c:Ck}{x:Nat×Ck×Nat}{l:List (Nat×Ck×Nat)}{q:Vt×List (Ck×Nat)}:W.tO i c (x::l) q=match W.pi i c q x with | some q=>W.tO i c l q | none=>none:=rfl
theorem Wd.plvs_1{W:Wd}{j:Nat}{c:Ck}{cs:List Ck}{vt:Vt}:W.jg (c::cs) j vt=match W.ux j c vt with | some vt=>W.jg cs (j+1) vt | none=>none:=rfl
theorem Wd.DV{W:Wd}{i x:Nat}{c:Ck}{l:List Nat}{vt r:Vt}{C:Prop}(e:W.qP i c (x::l) vt=some r) (k:∀ v,W.pm i c vt x=some v->W.qP i c l v=some r->C):C:=by
 rw[Wd.DU]at e;cases h:W.pm i c vt x with
 |none=>rw[h]at e;cases e
 |some v=>rw[h]at e;exact k v h e
theorem Wd.DW{W:Wd}{i:Nat}{c:Ck}{x:Nat×Ck×Nat}{l:List (Nat×Ck×Nat)}{q r:Vt×List (Ck×Nat)}{C:Prop}(e:W.tO i c (x::l) q=some r) (k:∀ v,W.pi i c q x=some v->W.tO i c l v=some r->C):C:=by
 rw[Wd.yi]at e;cases h:W.pi i c q x with
 |none=>rw[h]at e;cases e
 |some v=>rw[h]at e;exact k v h e
theorem Wd.IS{W:Wd}{j:Nat}{c:Ck}{cs:List Ck}{vt r:Vt}{C:Prop}(e:W.jg (c::cs) j vt=some r) (k:∀ v,W.ux j c vt=some v->W.jg cs (j+1) v=some r->C):C:=by
 rw[Wd.plvs_1]at e;cases h:W.ux j c vt with
 |none=>rw[h]at e;cases e
 |some v=>rw[h]at e;exact k v h e
theorem fW{x s:Nat}:∀ {sl:List (Nat×Nat)},(bx x s sl).length<=sl.length+1:=by
 intro sl;induction sl with
 |nil =>
  simp[sput_0]
 |cons x_ sl ih =>
  obtain⟨y,u⟩:=x_;rw[sput_1];split
  ·simp
  ·have:=ih;simp;exact this
section
variable{W:Wd}{L L' L'':List Ck}{h h' ee:MH}{n v:Nat}{vt:Vt}
theorem yj{i x:Nat}{c:Ck}{d9:Vt}(e:W.pm i c vt x=some d9):d9.rows.length<=vt.rows.length+1/\d9.sl.length<=vt.sl.length+1:=by
 revert e;unfold Wd.pm;rcases W.md x with _ | m
 ·nofun
 refine iteInduction (motive:=λo=>o=some d9->_) (λO=>?_) λO e=>?_
 ·rcases(if m.mode=0 then W.oP i m i else none) with _ | ⟨z,O⟩
  ·intro e;cases e;exact⟨by simp,fW⟩
  ·show(match vt.sl.lookup z with | some s=>if s<vt.rows.length then some _ else none | none=>none)=some d9->_
   rcases vt.sl.lookup z with _ | s
   ·nofun
   ·refine iteInduction (motive:=λo=>o=some d9->_) (λO e=>?_) λO e=>?_
    ·cases e;exact⟨by simp,fW⟩
    ·cases e
 ·cases e;exact⟨Nat.le_succ _,Nat.le_succ _⟩
set_option tactic.hygienic true in
theorem NZ{C_:Prop}(K:kj W) (cX:W.ob=true) {i:Nat}(hi:i<W.ty.length) {c:Ck}(hc:c∈L) (bZ:∀ c∈W.bN i 16,c∈L) {o t0:V}{zs:List V}(hz:∀ {h},WX W L h->aL o zs h=true) {y7 y8:Option MV}:∀ (l:List Nat),∀ {h:MH}(R:WX W L h) {vt d9:Vt}(T:eO L h v vt) (e:W.qP i c l vt=some d9) (y5 y6:Option MV),vt.rows.length+l.length<400->vt.sl.length+l.length<400->(∀ iZ fL h',forL (bE prog (aa prog (n+8)) [5] wA) (aL o zs) (ao l) ⟨[vr aS,vr (aV v),vi (ah L c),vv (.lst (aQ L (W.bN i 16))),vv t0,y5,y6,y7,y8],h⟩ =
   some (.next,⟨[vr aS,vr (aV v),vi (ah L c),vv (.lst (aQ L (W.bN i 16))),vv t0,iZ,fL,y7,y8],h'⟩)->Gv L h L h'->eO L h' v d9->d9.rows.length<=vt.rows.length+l.length->d9.sl.length<=vt.sl.length+l.length->C_)->C_:=by
 intro l;induction l with
 |nil =>
  intro h R vt d9 T e y5 y6 _ _ k_;cases e;exact k_ y5 y6 h (k_fe (hz R)) (.refl R.kt) T (aat _) (aat _)
 |cons x l ih =>
  intro h R vt d9 T e y5 y6 l1 l2 k_;simp only[aaI]at l1 l2 k_;refine Wd.DV e λuy e1 e=>?_
  refine cJ (yj e1) λp1 p2=>?_
  have go:=λ(h:MH) (R:WX W L h) (T:eO L h v uy)=>ih R T e (vi x) (vr (.inst 2 (x-1))) (O5 p1 l1) (O5 p2 l2)
  have s4:=R.kS;have z1:=hz R;have J2:=e1;revert J2;unfold Wd.pm;rcases hm:W.md x with _ | m
  ·nofun
  intro J2;have J2:(if slot m.mode=true then _ else some vt)=some uy:=J2
  have em:=(R.me hm).1;have U:=(R.me hm).2;have f0:=R.meths;have f2:=U.fl;clear U;split at J2
  ·rename_i hs;refine ZT (n:=n) K cX R T hm hs hi bZ hc e1 (nJ l1 rfl) (nJ l2 rfl) λh1 e2 g1 T1=>?_
   refine go _ (R.gv g1) T1 λiZ fL h' e3 g3 T3 q1 q2=>?_
   refine k_ iZ fL h' (bu z1 (bz rfl ?_) e3) (g1.trans g3) T3 (n_3 q1 p1) (n_3 q2 p2);have f3:binop .band (.int (d7 m.mode)) (.int 2)=some (.int 2):=ic hs;have f4:=DQ (m:=m.mode);clear R T T1 k_ go e3 g1 g3 K bZ T3;walk_at"SS"
  ·rename_i hs;have f3:binop .band (.int (d7 m.mode)) (.int 2)=some (.int 0):=ic (Bool.eq_false_iff.mpr hs);clear p2 p1;cases J2;refine go _ R T λiZ fL h' e3 g3 T3 q1 q2=>?_
   refine k_ iZ fL h' (bu z1 (bz rfl ?_) e3) g3 T3 (Nat.le_succ_of_le q1) (Nat.le_succ_of_le q2);clear R T k_ go e3 g3 K bZ T3;walk_at"SS"
theorem yk{i:Nat}{c:Ck}{q q':Vt×List (Ck×Nat)}{im:Nat×Ck×Nat}(e:W.pi i c q im=some q'):q'.1.rows.length=q.1.rows.length/\q'.1.sl=q.1.sl/\q'.2.length<=q.2.length+1:=by
 unfold Wd.pi at e;split at e
 ·cases e;exact⟨rfl,rfl,Nat.le_succ _⟩
 ·refine az (aap.mp e) λmb NW e=>?_
  refine az (aap.mp e) λmd J0 e=>?_
  refine az (aap.mp e) λs fK e=>?_
  refine az (aap.mp e) λr hr e=>?_
  split at e
  ·cases e;exact⟨by simp,rfl,by simp⟩
  ·cases e
theorem pi_29{i:Nat}{c d:Ck}{b dc:Nat}{q q':Vt×List (Ck×Nat)}(h:d.1=29) (e:W.pi i c q (b,d,dc)=some q'):q=q':=by
 unfold Wd.pi at e;rw[aae h]at e;exact aah e
theorem N3{C_:Prop}(K:kj W) {h0:MH}{L0:List Ck}{i:Nat}(hi:i<W.ty.length) {c:Ck}(hc:c∈L) (ec:c.1=21+i) (bZ:∀ c∈W.bN i 16,c∈L) {o t0:V}{zs:List V}(hz:∀ {h},WX W L h->aL o zs h=true) {y5 y6:Option MV}:∀ (l:List (Nat×Ck×Nat)),(∀ im∈l,im.2.1∈L/\(im.2.1.1=29∨∃ j,j<W.ty.length/\im.2.1.1=21+j))->∀ {h:MH}(R:WX W L h) (g0:Gv L0 h0 L h) (ht:h0.aq<h.aq) {q q':Vt×List (Ck×Nat)}(T:eO L h v q.1) (yh:h.get (.aq h0.aq)=some (.dict (r9 L q.2))) (p_:∀ p∈q.2,p.1∈L)
   (e:W.tO i c l q=some q') (y8:Option MV),q.1.rows.length<400->q.2.length+l.length<400->(∀ BO h',forL (bE prog (aa prog (n+7)) [8] wB) (aL o zs) (l.map (cH L)) ⟨[vr aS,vr (aV v),vi (ah L c),vv (.lst (aQ L (W.bN i 16))),vv t0,y5,y6,vr (.aq h0.aq),y8],h⟩ =
   some (.next,⟨[vr aS,vr (aV v),vi (ah L c),vv (.lst (aQ L (W.bN i 16))),vv t0,y5,y6,vr (.aq h0.aq),BO],h'⟩)->Gv L0 h0 L h'->eO L h' v q'.1->WX W L h'->C_)->C_:=by
 intro l;induction l with
 |nil =>
  intro _ h R g0 ht q q' T yh p_ e y8 _ _ k_;cases e;exact k_ y8 h (k_fe (hz R)) g0 T R
 |cons x_ l ih =>
  rintro eB h R g0 ht ⟨vt,sn⟩ q' T yh p_ e y8 l1 l2 k_
  obtain⟨b,d,dc⟩:=x_;have l1:vt.rows.length<400:=l1;have l2:sn.length+(l.length+1)<400:=l2;refine Wd.DW e λq1 e1 e=>?_
  have hd:=(eB _ aad).1;have z1:=hz R;have go:=λ(h:MH) (R:WX W L h) (g0:Gv L0 h0 L h)=>ih (λim SV=>eB im (aac _ SV)) R g0
  rcases(eB _ aad).2 with lP | ⟨j,hj,ej⟩
  ·have hq:=pi_29 lP e1;rw[<- hq]at e;refine go h R g0 ht T yh p_ e (vv (cH L (b,d,dc))) l1 (show sn.length+l.length<400 by exact aay l2) λBO h' e3 r1 r2 r3=>?_
   refine k_ BO h' (bu z1 (bz rfl ?_) e3) r1 r2 r3;have U:=R.IE;have e2:=NN (n:=n+4) R.toWR hd lP;have f2:=U.sort;clear R T k_ go e3 r1 r2 r3 U K bZ g0 eB;walk_at"SS"
  ·have ej:d.1=21+j:=ej;have nL:d.1≠29:=by have:=R.n4;exact λe=>aaR (n_8 21 hj this rfl) (ej.symm.trans e)
   refine ZU (n:=n) (vt:=vt) (sn:=sn) K R T g0 ht yh p_ hi bZ hc ec e1 nL (cP l1 rfl) (nJ l2 rfl) λh1 e3 g1 T1 gW VM R1 tt=>?_
   refine jx (yk e1) λp1 p2 p3=>?_
   refine go h1 R1 g1 (aai ht tt) T1 gW VM e (vv (cH L (b,d,dc))) (by simp only at p1;exact aak (aaD p1) l1) (by simp only at p3;exact O5 p3 l2) λBO h' e4 r1 r2 r3=>?_
   refine k_ BO h' (bu z1 (bz rfl ?_) e4) r1 r2 r3;have e2:=uu (n:=n+4) R.toWR hj hd ej;refine bF R.toWR hj λt O U=>?_
   have f2:=U.sort;clear R T k_ go e4 r1 r2 r3 U K bZ g0 eB g1 T1 R1 VM;walk_at"SS"
structure tP(W:Wd):Prop where
 k:∀ (i:Nat) (t:Ty),W.ty[i]? =some t->t.aE.length<100/\∀ im∈t.aE,im.2.1.1=29∨∃ j,j<W.ty.length/\im.2.1.1=21+j
set_option tactic.hygienic true in
theorem ZZ{C_:Prop}(K:kj W) (J:tP W) (cX:W.ob=true) (R:WX W L h) (T:eO L h v vt) {i:Nat}(hi:i<W.ty.length) {c:Ck}(hc:c∈L) (ec:c.1=21+i) (bZ:∀ c∈W.bN i 16,c∈L) {d9:Vt}(e:W.ux i c vt=some d9) (l1:vt.rows.length<100) (l2:vt.sl.length<100) (k_:∀ h',aa prog (n+9) 38 [.ref aS,.ref (aV v),.int (ah L c),.lst (aQ L (W.bN i 16))] h=some (.ret .none h')->Gv L h L h'->eO L h' v d9->C_):C_:=by
 have e0:=uu (n:=n+5) R.toWR hi hc ec;refine bF R.toWR hi λt ht U=>?_
 revert e;unfold Wd.ux;rw[ht];show(match W.qP i c t.meths vt with | some vt=>(W.tO i c t.aE (vt,[])).map (·.1) | none=>none)=some _->_
 rcases e1:W.qP i c t.meths vt with _ | uy
 ·nofun
 intro e;rw[aas]at e;obtain⟨q,e2,rfl⟩:=e;refine cJ (K.r5 i t ht) λk1 k2=>?_
 refine cJ (J.k i t ht) λj1 j2=>?_
 refine NZ K cX hi hc bZ (o:=.ref (.fld (W.eG i) 17)) (t0:=.ref (W.eG i)) (zs:=ao t.meths) (y7:=none) (y8:=none) (n:=n) (λ{h} R=>by
  have T:=R.tys i t ht;exact aU T.gQ) t.meths R T e1 none none (cP (Nat.add_lt_add l1 k1) rfl) (cP (Nat.add_lt_add l2 k1) rfl) λy5 y6 h1 e3 g1 T1 r1 r2=>?_
 have R1:=R.gv g1;have R2:=R1.gr (.aX R1.kt);have U2:=R2.tys i t ht;refine N3 (n:=n+1) (v:=v) K hi hc ec bZ (o:=.ref (.fld (W.eG i) 21)) (t0:=.ref (W.eG i)) (zs:=t.aE.map (cH L)) (y5:=y5) (y6:=y6) (λ{h} R=>by
  have T:=R.tys i t ht;exact aU T.ke) t.aE (λim eB=>⟨R.ur i t ht im eB,j2 im eB⟩) R2 ((Gr.aX R1.kt).toV) (aaN _) (q:=(uy,[])) (T1.gr (.aX R1.kt)) ib (λp hp=>nomatch hp) e2 none (by simp;exact cP (aak r1 (Nat.add_lt_add l1 k1)) rfl) (by simp;exact cP j1 rfl) λy8 h' e4 g4 T4 R4=>?_
 refine k_ h' ?_ (g1.trans g4) T4;have f1:=U.met;have f2:=U.gQ;have f4:=U2.imp;have f5:=U2.ke;clear R R1 R2 R4 U  U2 k_ T T1 T4 g1 g4 K J bZ;walk_at"cfN"
theorem SW{C_:Prop}(cX:W.ob=true) (R:WX W L h) (k_:∀ h',aa prog (n+4) 38 [.ref aS,.ref (aV v),.int 12,.lst [.int 12]] h=some (.ret .none h')->Gr L h L h'->C_):C_:=by
 have e0:=xP (n:=n) R.toWR;rw[aae cX]at e0;have U:=R.xM cX;have R2:=R.gr (.aX R.kt);have U2:=R2.xM cX;refine k_ _ ?_ (.aX R.kt);have f1:=U.met;have u1:h.get (.fld (.inst 1 0) 17)=some (.list []):=U.gQ;have f3:=U2.imp;have u2:(aX h).get (.fld (.inst 1 0) 21)=some (.list []):=U2.ke;have l1:=k_fe (f:=bE prog (aa prog (n+3)) [5] wA) (E:=[vr aS,vr (aV v),vi 12,vv (.lst [.int 12]),vr (.inst 1 0),none,none,none,none]) (aU u1);have l2:=k_fe (f:=bE prog (aa prog (n+3)) [8] wB) (E:=[vr aS,vr (aV v),vi 12,vv (.lst [.int 12]),vr (.inst 1 0),none,none,vr (.aq h.aq),none]) (aU u2);clear R R2 U U2 k_;walk_at"cfN"
end
theorem mT:∀ (n a:Nat),bC (a:Int) 1 n=ao ((List.range n).map (a+·)):=by
 intro n;induction n with
 |zero =>
  intro a;exact rfl
 |succ n ih =>
  intro a;have:=ih (a+1);simp only[uI,Int.natCast_add,Int.cast_ofNat_Int]at this⊢;rw[this,List.range_succ_eq_map];simp[ao];intro x _;exact Kh (uc rfl)
theorem bT{h:MH}{c:Nat}{b:Ad}:(h.new c).get b=if b=.inst c (h.cnt c) then some (.inst c []) else h.get b:=rfl
section
variable{W:Wd}{L L' L'':List Ck}{h h' ee:MH}{n v:Nat}{vt:Vt}
def N4(h:MH) (v:Nat) (k:V):MH:=((((h.set (aV v) (.inst 4 [(43,k)])).set (.fld (aV v) 0) (.list [])).set (aV v) (.inst 4 [(43,k),(0,.ref (.fld (aV v) 0))])).set (.fld (aV v) 44) (.dict [])).set (aV v) (.inst 4 [(43,k),(0,.ref (.fld (aV v) 0)),(44,.ref (.fld (aV v) 44))])
theorem Z0{k:V}(hv:h.get (aV v)=some (.inst 4 [])):aa prog (n+1) 34 [.ref (aV v),k] h=some (.ret .none (N4 h v k)):=by
 walk_at"cfN"
theorem mU{c:Nat}{b:Ad}(e:b≠.inst c (h.cnt c)):(h.new c).get b=h.get b:=aaf e
theorem BP{k:V}(R:KT L h):Gv L h L (N4 (h.new 4) (h.cnt 4) k)/\eO L (N4 (h.new 4) (h.cnt 4) k) (h.cnt 4) ⟨[],[]⟩:=by
 have k:∀ a:Ad,a.rt≠4->(N4 (h.new 4) (h.cnt 4) k).get a=h.get a:=λa e =>
  have ne:∀ {b:Ad},b.rt=4->a≠b:=λq z=>e (by rw[z];exact q)
  kgne (ne rfl) (kgne (ne rfl) (kgne (ne rfl) (kgne (ne rfl) (kgne (ne rfl) (mU (ne rfl))))))
 exact⟨⟨R.of_get λa ha=>k a (λe=>by rw[e]at ha;cases ha),List.prefix_rfl,λa O hn=>k a hn,aat _⟩,⟨ga kgeq rfl,ga kgeq rfl,kgne nofun (kgne (fldk (by decide)) (kgne nofun kgeq)),kgne nofun kgeq,λr hr=>nomatch hr⟩⟩
theorem BQ{i:Nat}{c:Ck}:∀ {l:List Nat}{vt d9:Vt},W.qP i c l vt=some d9->d9.rows.length<=vt.rows.length+l.length/\d9.sl.length<=vt.sl.length+l.length:=by
 intro l;induction l with
 |nil =>
  intro _ _ e;cases e;exact⟨aat _,aat _⟩
 |cons x l ih =>
  intro vt d9 e;refine Wd.DV e λuy e1 e=>?_
  have k:=yj e1;have:=ih e;exact⟨n_3 this.1 k.1,n_3 this.2 k.2⟩
theorem BR{i:Nat}{c:Ck}:∀ {l:List (Nat×Ck×Nat)}{q q':Vt×List (Ck×Nat)},W.tO i c l q=some q'->q'.1.rows.length=q.1.rows.length/\q'.1.sl=q.1.sl:=by
 intro l;induction l with
 |nil =>
  intro _ _ e;cases e;exact⟨rfl,rfl⟩
 |cons x l ih =>
  intro q q' e;refine Wd.DW e λuy e1 e=>?_
  have a:=yk e1;have b:=ih e;exact⟨b.1.trans a.1,b.2.trans a.2.1⟩
set_option tactic.hygienic true in
theorem BS{i:Nat}{c:Ck}{vt d9:Vt}(hm:(W.bP i).length<=4) (e:W.ux i c vt=some d9):d9.rows.length<=vt.rows.length+4/\d9.sl.length<=vt.sl.length+4:=by
 revert e;unfold Wd.ux;rcases ht:W.ty[i]? with _ | t
 ·nofun
 ·rw[dh ht]at hm;show(match W.qP i c t.meths vt with | some vt=>(W.tO i c t.aE (vt,[])).map (·.1) | none=>none)=some d9->_
  rcases e1:W.qP i c t.meths vt with _ | uy
  ·nofun
  ·intro e;rw[aas]at e;obtain⟨q,e2,rfl⟩:=e;have a:=BQ e1;have b:=BR e2;simp only at b;exact⟨b.1▸aaj a.1 (aaE hm _),b.2▸aaj a.2 (aaE hm _)⟩
theorem km{n j:Nat}:(List.range (n+1)).map (j+·)=j::(List.range n).map (j+1+·):=by
 rw[List.range_succ_eq_map];simp;intro x _;exact Eq.symm (uc rfl)
set_option tactic.hygienic true in
theorem yl{C_:Prop}(K:kj W) (J:tP W) (cX:W.ob=true) (DX:∀ i,(W.bP i).length<=4) {k0:V}{i a:Nat}(hi:i<W.ty.length) (ha:d6 a) {lv:V}:∀ (cs:List Ck) (j:Nat),j+cs.length=i+1->(W.bN i a).drop j=cs->∀ {L:List Ck}{h:MH}(R:WX W L h) {vt d9:Vt}(T:eO L h v vt) (bZ:∀ c∈W.bN i a,c∈L) (pE:lv=.lst (aQ L (W.bN i a))) (e:W.jg cs j vt=some d9) (y:Option MV),vt.rows.length+4*cs.length<90->vt.sl.length+4*cs.length<90->(∀ y' L' h',forL (tw prog (aa prog (n+13)) 4 wz) (λO=>true) (ao ((List.range cs.length).map (j+1+·))) ⟨[vr aS,vv k0,vr (aV v),vv lv,y],h⟩ =
   some (.next,⟨[vr aS,vv k0,vr (aV v),vv lv,y'],h'⟩)->Gv L h L' h'->eO L' h' v d9->C_)->C_:=by
 intro cs;induction cs with
 |nil =>
  intro j _ _ L h R vt d9 T _ _ e y _ _ k_;cases e;exact k_ y L h rfl (.refl R.kt) T
 |cons c cs ih =>
  intro j hj hd L h R vt d9 T bZ pE e y l1 l2 k_;simp only[aaI]at hj l1 l2;refine Wd.IS e λuy e1 e=>?_
  have JZ:(W.bN i a)[j]? =some c:=by rw[<- List.head?_drop,hd];rfl
  have hc:=bZ c (List.mem_iff_getElem?.mpr ⟨j,JZ⟩);have uz:j<=i:=P5 (Nat.succ.inj hj);have QE:c.1=21+j:=by rw[dg uz]at JZ;rw[<- aah JZ];rfl
  refine ZK (n:=n) R cX hi ha uz bZ λL1 h1 e2 g1 m1=>?_
  rw[<- pE]at e2;have R1:=R.gr g1;have hp:=g1.pre;have lj:getItem prog h lv (.int (j+1:Nat))=some (.int (ah L c)):=by rw[pE];exact dI JZ
  refine ZZ (n:=n+4) K J cX R1 (T.gr g1) (i:=j) (aak uz hi) (hp.subset hc) QE m1 e1 (nJ l1 rfl) (nJ l2 rfl) λh2 e3 g2 T2=>?_
  rw[aN hp hc]at e3;have pl:=BS (DX j) e1;refine ih (j+1) (uc hj) (by rw[<- List.drop_drop,hd];rfl) (R1.gv g2) T2 (λc hc=>hp.subset (bZ c hc)) (by
   rw[pE];unfold aQ;rw[lN hp bZ]) e (vi (j+1:Nat)) (Ub l1 pl.1) (Ub l2 pl.2) λy' L' h' e4 g4 T4=>?_
  rw[aaI,km]at k_;refine k_ y' L' h' (bu rfl (tx ?_) e4) (g1.toV.trans (g2.trans g4)) T4;clear R R1 T T2 K J bZ g1 g2 g4 T4 k_ m1 e4;walk_at"SS"
theorem Z2{C_:Prop}(K:kj W) (J:tP W) (DX:∀ i,(W.bP i).length<=4) (R:WX W L h) {i a:Nat}(hi:i<W.ty.length) (ha:d6 a) (hc:W.kd i a∈L) {vt:Vt}(e:W.jg (W.bN i a) 0 ⟨[],[]⟩=some vt) (k_:∀ L' h',aa prog (n+14) 37 [.ref aS,.int (ah L (W.kd i a))] h=some (if W.ob then .ret (.ref (aV (h.cnt 4))) h' else .exc h')->Gv L h L' h'->(W.ob=true->eO L' h' (h.cnt 4) vt)->C_):C_:=by
 have h4:=R.n4;have e1:=Z0 (n:=n+12) (h:=h.new 4) (v:=h.cnt 4) (k:=.int (ah L (W.kd i a))) (aae rfl);refine cJ (BP (k:=.int (ah L (W.kd i a))) R.kt) λg1 T1=>?_
 generalize N4 (h.new 4) (h.cnt 4) (.int (ah L (W.kd i a)))=h1 at e1 g1 T1;have R1:=R.gv g1;refine VF (n:=n+1) R1 hi ha hc λL2 h2 e2 g2 m2=>?_
 have R2:=R1.gr g2;by_cases cX:W.ob=true
 ·rw[aae cX]at e2;simp only[aae cX]at k_;refine SW (n:=n+9) (v:=h.cnt 4) cX R2 λh3 e3 g3=>?_
  have e36:=SI (n:=n+10) R2 (cs:=W.bN i a);refine yl (n:=n) K J cX DX (k0:=.int (ah L (W.kd i a))) hi ha (W.bN i a) 0 (by rw[bJ];exact Nat.zero_add _) rfl (R2.gr g3) ((T1.gr g2).gr g3) (lv:=.lst (aQ L2 (W.bN i a))) (λc hc=>g3.pre.subset (m2 c hc)) rfl e (vi 0) (by rw[bJ];simp;exact aaL (iu (Nat.mul_le_mul_left _ hi) (Nat.mul_le_mul_left _ h4) rfl)) (by rw[bJ];simp;exact aaL (iu (Nat.mul_le_mul_left _ hi) (Nat.mul_le_mul_left _ h4) rfl)) λy' L' h' e4 g4 T4=>?_
  refine k_ L' h' ?_ (g1.trans (g2.toV.trans (g3.toV.trans g4))) (λO=>T4)
  have pD:(aQ L2 (W.bN i a)).length=(W.bN i a).length+1:=by simp[aQ,kids]
  have VN:(e9 [.int ((aQ L2 (W.bN i a)).length:Nat)]).map V.tup=some (.tup (.int 0::ao ((List.range (W.bN i a).length).map (0+1+·)))):=by
   rw[pD];show(if -1000<=(((W.bN i a).length+1:Nat):Int)/\(((W.bN i a).length+1:Nat):Int)<=1000 then some (bC 0 1 ((W.bN i a).length+1)) else none).map V.tup=_
   rw[bJ,aae (⟨i_6 (aaQ _) rfl,Cu (Nat.succ_le_succ (aai hi h4)) rfl⟩)];exact aab (λl=>some (V.tup l)) ((mT (i+2) 0).trans (by rw[km];rfl))
  have nl:¬ (((aQ L2 (W.bN i a)).length:Nat):Int)=1:=by rw[pD,bJ];exact sG (zB (Nat.le_add_left 2 _) rfl)
  have lz:=IM (L:=L2) (cs:=W.bN i a);clear R R1 R2 T1 K J g1 g2 g3 g4 T4 k_ m2;have lp:=bu (f:=tw prog (aa prog (n+13)) 4 wz) (chk:=λO=>true) (x:=.int 0) (E:=[vr aS,vi (ah L (W.kd i a)),vr (aV (h.cnt 4)),vv (.lst (aQ L2 (W.bN i a))),none]) (H:=h2) rfl (tx (by walk_at"SS")) e4
  walk_at"cf"
 ·rw[aaf cX]at e2;simp only[aaf cX]at k_;refine k_ L2 h2 ?_ (g1.trans g2.toV) (λh=>absurd h cX)
  clear R R1 R2 T1 K J g1 g2 k_ m2;walk_at"cfX"
theorem Z3(T:eO L h v vt) {x:Nat}:aa prog (n+1) 47 [.ref (aV v),.int x] h=some (.ret (match vt.sl.lookup x with
  |some s=>.int s
  |none=>.int (-1)) h):=by
 have v3:=T.BJ;have kf:=eJ (x:=x) (sl:=vt.sl);have f1:=T.sl;clear T;cases hl:vt.sl.lookup x<;>rw[hl]at kf
 ·have kf:aF (.int x) (fG vt.sl)=some none:=kf;walk_at"cf"
 ·have kf:aF (.int x) (fG vt.sl)=some (some _):=kf;walk_at"cf"
def PM(L:List Ck) (vt:Vt):Option (V×Nat×V)->V
 |none=>.tup []
 |some (k,x,kept)=>(vt.sl.lookup x).elim (.tup [k,.int x,kept]) λs=>(vt.rows[s]?).elim .none λr=>.tup [.int (ah L r.1),.int r.2,kept]
noncomputable def Z4:Option (V×Nat×V)->V
 |none=>.tup []
 |some (k,x,kept)=>.tup [k,.int x,kept]
theorem VO{C_:Prop}(K:kj W) (J:tP W) (DX:∀ i,(W.bP i).length<=4) (R:WX W L h) {i:Nat}(hi:W.ty.length=i+2) {vt:Vt}(e:W.jg (W.bN i (W.pa (i+1) 16)) 0 ⟨[],[]⟩=some vt) (fK:∀ x s,vt.sl.lookup x=some s->s<vt.rows.length) (mr:Option (V×Nat×V)) (k_:∀ L' h',aa prog (n+15) 54 [.ref aY,Z4 mr] h=some (if W.ob then .ret (PM L' vt mr) h' else .exc h')->Gv L h L' h'->(W.ob=true->∀ r∈vt.rows,r.1∈L')->C_):C_:=by
 have VP:d6 16:=.inr (.inr rfl);refine VA (n:=n+5) R.toWR (i:=i+1) (aaD (Eq.symm hi)) λh1 e1 g1=>?_
 have R1:=R.gr g1;refine Ss (n:=n+3) R1.toWR (i:=i) (aaD (Eq.symm hi)) VP cC λh2 e2 g2=>?_
 have e2':=PH R1 e2;have R2:=R1.gr g2;refine Z2 (n:=n) K J DX R2 (i:=i) (Ua hi) (W.kg (R.dy _) VP) cC e λL3 h3 e3 g3 T3=>?_
 have y2:=R.DM;have y4:=R.JX;have y5:=R.VB;have b1:=R.hb;rw[show 20+W.ty.length=21+(i+1) by lia]at y5
 by_cases cX:W.ob=true
 ·rw[aae cX]at e3;simp only[aae cX]at k_;have T:=T3 cX;refine k_ L3 h3 ?_ (g1.toV.trans (g2.toV.trans g3)) (λO=>T.mem)
  have v2:=T.a0;have f1:=T.rows;cases mr with
  |none =>
   clear R R1 R2 T T3 K J g1 g2 g3 k_ e2 e;walk_at"cf"
  |some p =>
   obtain⟨k,x,kept⟩:=p;have e4:=Z3 (n:=n+13) T (x:=x);cases hl:vt.sl.lookup x with
   |none =>
    rw[hl]at e4;rw[show PM L3 vt (some (k,x,kept))=.tup [k,.int x,kept] from aab (Option.elim · _ _) hl]
    clear R R1 R2 T T3 K J g1 g2 g3 k_ e2 e;walk_at"cf"
   |some s =>
    rw[hl]at e4;have hs:=fK x s hl;have nr:=yg (L:=L3) (aao hs);rw[show PM L3 vt (some (k,x,kept))=.tup [.int (ah L3 vt.rows[s].1),.int vt.rows[s].2,kept] from (aab (Option.elim · _ _) hl).trans (aab (Option.elim · _ _) (aao hs))]
    clear R R1 R2 T T3 K J g1 g2 g3 k_ e2 e;walk_at"cf"
 ·rw[aaf cX]at e3;simp only[aaf cX]at k_;refine k_ L3 h3 ?_ (g1.toV.trans (g2.toV.trans g3)) (λho=>absurd ho cX)
  clear R R1 R2 T3 K J g1 g2 g3 k_ e2 e;walk_at"cfX"
end
def Wd.IT(W:Wd) (m:Md) (y:Nat):Bool:=match W.md y with
 |some b=>slot b.mode&&b.params.length==m.params.length
 |none=>false
def Wd.fK(W:Wd) (m:Md) (j:Nat):Bool:=((W.bP j).filter λx=>(W.md x).map Md.nm==some m.nm).any (W.IT m)
noncomputable def Wd.dJ(W:Wd) (j:Nat):List (Nat×Ck×Nat):=match W.ty[j]? with
 |some t=>t.aE
 |none=>[]
def Wd.oS(W:Wd) (i:Nat) (m:Md) (x:Nat):Bool:=if slot m.mode=false then false else if m.mode=0 then (List.range i).any (W.fK m) else (W.dJ i).any λim=>im.1==x&&decide (im.2.1.1≠29)
theorem fg{W:Wd}{j:Nat}{t:Ty}(h:W.ty[j]? =some t):W.dJ j=t.aE:=by simp[Wd.dJ,h]
section
variable{W:Wd}{L L' L'':List Ck}{h h' ee:MH}{n v:Nat}{vt:Vt}
theorem ym{C_:Prop}(R:WX W L h) {x:Nat}{m:Md}(hm:W.md x=some m) {zs:List V}{s1:V}:∀ (l:List Nat),(∀ y∈l,∃ b,W.md y=some b)->∀ (y3 y4:Option MV),(∀ PN mV,forL (bE prog (aa prog n) [3] Df) (aL (.lst zs) zs) (ao l) ⟨[vr aS,vv s1,vr (.inst 2 (x-1)),y3,y4],h⟩=some (xZ (l.any (W.IT m)),⟨[vr aS,vv s1,vr (.inst 2 (x-1)),PN,mV],h⟩)->C_)->C_:=by
 intro l;induction l with
 |nil =>
  intro _ y3 y4 k_;exact k_ y3 y4 (k_fe rfl)
 |cons y l ih =>
  intro hl y3 y4 k_;refine gJ (hl y aad) λb hb=>?_
  have s4:=R.kS;have U:=(R.me hm).2;have e2:=(R.me hb).1;have U':=(R.me hb).2;refine ih (λz hz=>hl z (aac _ hz)) (vi y) (vr (.inst 2 (y-1))) λPN mV e=>?_
  have g0:=R.meths;have g2:=U.gen;have g3:=U.par;have g5:=U'.gen;have g6:=U'.par;have g7:=U'.fl;have hh:W.IT m y=(slot b.mode&&b.params.length==m.params.length):=by unfold Wd.IT;rw[hb]
  clear R U U' hl;cases hs:slot b.mode<;>rw[hs]at hh
  ·refine k_ PN mV (uo (aab xZ (x3 hh)) (bu rfl (bz rfl ?_) e));have b2:binop .band (.int (d7 b.mode)) (.int 2)=some (.int 0):=ic hs;clear k_ e;walk_at"SS"
  ·have b2:binop .band (.int (d7 b.mode)) (.int 2)=some (.int 2):=ic hs;by_cases hp:b.params.length=m.params.length
   ·have JD:((ao b.params).length:Int)=(ao m.params).length:=by rw[aG,aG,hp]
    refine k_ (vi y) (vr (.inst 2 (y-1))) (uo (aab xZ (x4 (hh.trans (aam.mpr hp)))) (kO rfl (bz rfl ?_)));clear k_ e;walk_at"SS"
   ·have JD:¬ ((ao b.params).length:Int)=(ao m.params).length:=by rw[aG,aG];exact λq=>hp (Int.ofNat.inj q)
    refine k_ PN mV (uo (aab xZ (x3 (hh.trans (beq_eq_false_iff_ne.mpr hp)))) (bu rfl (bz rfl ?_) e));clear k_ e;walk_at"SS"
theorem Z5(K:kj W) (R:WX W L h) {i x:Nat}{m:Md}(hm:W.md x=some m) (hi:i<W.ty.length):aa prog (n+2) 49 [.ref aS,.int (21+i:Nat),.ref (.inst 2 (x-1))] h=some (.ret (.bool (W.fK m i)) h):=by
 refine bF R.toWR hi λt ht T=>?_
 refine cJ (K.r5 i t ht) λk1 k2=>?_
 have hk:∀ y∈t.meths,(W.md y).isSome=true:=λy hy=>by
  obtain⟨b,hb,-⟩:=k2 y hy;rw[hb];rfl
 have e1:=ZF (n:=n) R.toWR ht hk k1 m.nm;have U:=(R.me hm).2;refine ym R hm (zs:=ao (t.meths.filter λx=>(W.md x).map Md.nm==some m.nm)) (s1:=.int (21+i:Nat)) (n:=n+1) (t.meths.filter λx=>(W.md x).map Md.nm==some m.nm) (λy hy=>by
  obtain⟨b,hb,-⟩:=k2 y (aaY.mp hy).1;exact⟨b,hb⟩) none none λy3 y4 e2=>?_
 have hh:W.fK m i=(t.meths.filter λx=>(W.md x).map Md.nm==some m.nm).any (W.IT m):=by unfold Wd.fK;rw[dh ht]
 rw[<- hh]at e2;have g2:=U.nm;clear K R T U hk k2;revert e2;generalize W.fK m i=v;intro e2;cases v<;>walk_at"cf"
theorem SX(cX:W.ob=true) (R:WX W L h) {x:Nat}{m:Md}(hm:W.md x=some m):aa prog (n+2) 49 [.ref aS,.int 1,.ref (.inst 2 (x-1))] h=some (.ret (.bool false) h):=by
 have T:=R.xM cX;have s3:=R.mQ;have e2:dm W.ka 1=some (.ref (.inst 1 0)):=(xO (W:=W)).trans (by rw[aae cX])
 have u1:h.get (.fld (.inst 1 0) 17)=some (.list []):=T.gQ;have U:=(R.me hm).2;have f0:=R.types;have f2:=T.met;have g2:=U.nm;clear R T U;have e1:aa prog (n+1) 27 [.ref aS,.int 1,.str m.nm] h=some (.ret (.lst []) h):=by
  have lp:=k_fe (f:=bE prog (aa prog n) [4] wy) (E:=[vr aS,vi 1,vv (.str m.nm),some (.bH []),none]) (aU u1);walk_at"cf"
 walk_at"cf"
theorem yn(R:WX W L h) {x:Nat}{o:V}{zs:List V}(hz:aL o zs h=true):∀ (l:List (Nat×Ck×Nat)),(∀ im∈l,im.2.1∈L/\(im.2.1.1=29∨∃ j,j<W.ty.length/\im.2.1.1=21+j)) ->
  bO (iV prog (aa prog (n+5)) De .nil [vr aY,vi x]) (aL o zs) (l.map (cH L)) h=some (l.map λim=>.bool (im.1==x&&decide (im.2.1.1≠29)),h):=by
 intro l;induction l with
 |nil =>
  intro _;exact F7 hz
 |cons x_ l ih =>
  intro hl;obtain⟨b,d,dc⟩:=x_;refine cps λC k_=>?_
  have hd:d∈L:=(hl _ aad).1;have y4:=R.JX;have ih:=ih λim eB=>hl im (aac _ eB)
  refine k_ (Bk hz ?_ ih);clear k_ ih;show _=some (some (V.bool (b==x&&decide (d.1≠29))),h);by_cases hb:b=x
  ·have Qb:((b:Int)=x):=by rw[hb]
   rw[show(b==x)=true from aam.mpr hb,Bool.true_and]
   rcases(hl _ aad).2 with lP | ⟨j,hj,ej⟩
   ·have e1:=SE (n:=n) R hd lP;rw[aaA (λq=>q lP)]
    clear R hl;walk_at"C"
   ·have e1:=ZH (n:=n) R hj hd ej;rw[aaq (show d.1≠29 by have:=R.n4;simp only at ej;exact λe=>aaR (n_8 21 hj this rfl) (ej.symm.trans e))]
    clear R hl;walk_at"C"
  ·have Qb:¬ ((b:Int)=x):=sG hb;rw[beq_eq_false_iff_ne.mpr hb,Bool.false_and];clear R hl;walk_at"C"
theorem tQ{α:Type}(f:α->Bool):∀ l:List α,(l.map λx=>V.bool (f x)).mapM jA=some (l.map f):=by
 intro l;induction l with
 |nil =>
  exact rfl
 |cons x l ih =>
  have:=ih;rw[List.map_cons,List.mapM_cons,this];rfl
theorem oT{C_:Prop}(K:kj W) (R:WX W L h) {x:Nat}{m:Md}(hm:W.md x=some m) {s1:V}{w4:Option MV}{zs:List V}:∀ (cs:List Ck),(∀ c∈cs,c∈L/\c.1-21<W.ty.length/\21<=c.1)->∀ (y5 y6:Option MV),(∀ iZ fL,forL (bE prog (aa prog (n+3)) [5] wG) (aL (.lst zs) zs) (kids L cs++[.int 12]) ⟨[vr aY,vv s1,vi x,vr (.inst 2 (x-1)),w4,y5,y6],h⟩=some (xZ (cs.any λc=>W.fK m (c.1-21)),⟨[vr aY,vv s1,vi x,vr (.inst 2 (x-1)),w4,iZ,fL],h⟩)->C_)->C_:=by
 intro cs;induction cs with
 |nil =>
  intro _ y5 y6 k_;have y2:=R.DM;have e1:=xP (n:=n) R.toWR;by_cases cX:W.ob=true
  ·rw[aae cX]at e1;have e2:=SX (n:=n+1) cX R hm;have T:=R.xM cX;have T7:getAttr h (.ref (.inst 1 0)) 7=some (.int 1):=T.tid;refine k_ (vi 12) (vr (.inst 1 0)) (bu rfl (bz rfl ?_) (k_fe rfl));clear R T K k_;walk_at"SS"
  ·rw[aaf cX]at e1;refine k_ (vi 12) (vv .none) (bu rfl (bz rfl ?_) (k_fe rfl));clear R K k_;walk_at"SS"
 |cons c cs ih =>
  intro hl y5 y6 k_;refine jx (hl c aad) λhc hj VQ=>?_
  have y2:=R.DM;have ec:c.1=21+(c.1-21):=n_5 _ VQ;have e1:=uu (n:=n) R.toWR hj hc ec;have e2:=Z5 (n:=n+1) K R hm hj;refine bF R.toWR hj λt O T=>?_
  have T7:=T.tid;cases hv:W.fK m (c.1-21)<;>rw[hv]at e2
  ·refine ih (λd hd=>hl d (aac _ hd)) (vi (ah L c)) (vr (W.eG (c.1-21))) λiZ fL e=>?_
   refine k_ iZ fL (uo (aab xZ (x3 hv)) (bu rfl (bz rfl ?_) e));clear R T K k_ e hl;walk_at"SS"
  ·refine k_ (vi (ah L c)) (vr (W.eG (c.1-21))) (uo (aab xZ (x4 hv)) (kO rfl (bz rfl ?_)));clear R T K k_ hl;walk_at"SS"
theorem IU{f:Nat->Bool}{i a:Nat}:(W.iY i a).any (λc=>f (c.1-21))=(List.range (i+1)).any f:=by
 induction i generalizing a with
 |zero=>simp[Wd.DN,Wd.kd]
 |succ i ih =>
  rw[Wd.DO,List.any_cons,ih,List.range_succ (n:=i+1),List.any_append];simp only[Wd.kd,Nat.add_sub_cancel_left,List.any_cons,List.any_nil,Bool.or_false];rw[Bool.or_comm]
theorem isov_0{i x:Nat}{m:Md}(hs:slot m.mode=true) (h0:m.mode=0):W.oS i m x=(List.range i).any (W.fK m):=by unfold Wd.oS;rw[aaf (by rw[hs];nofun),aae h0]
theorem IV{i x:Nat}{m:Md}(hs:slot m.mode=true) (h0:¬ m.mode=0):W.oS i m x=(W.dJ i).any λim=>im.1==x&&decide (im.2.1.1≠29):=by unfold Wd.oS;rw[aaf (by rw[hs];nofun),aaf h0]
theorem VS{C_:Prop}(K:kj W) (J:tP W) (R:WX W L h) {i a x:Nat}{m:Md}(hm:W.md x=some m) (qQ:m.i=i) (hi:i<W.ty.length) (ha:d6 a) (hc:W.kd i a∈L) (k_:∀ L' h',aa prog (n+13) 48 [.ref aY,.int (ah L (W.kd i a)),.int x] h=some (.ret (.bool (W.oS i m x)) h')->Gr L h L' h'->C_):C_:=by
 have y2:=R.DM;have y4:=R.JX;have s3:=R.mQ;have s4:=R.kS;have e1:=(R.me hm).1;have U:=(R.me hm).2;have b1:=R.hb;have g0:=R.meths;have g2:=U.fl;cases hs:slot m.mode
 ·refine k_ L h (DJ (aab V.bool (aae hs)) ?_) (.refl R.kt);have p2:binop .band (.int (d7 m.mode)) (.int 2)=some (.int 0):=ic hs;clear R U K J k_;walk_at"cf"
 ·have p2:binop .band (.int (d7 m.mode)) (.int 2)=some (.int 2):=ic hs;by_cases h0:m.mode=0
  ·have iv:=aab V.bool (isov_0 (W:=W) (i:=i) (x:=x) hs h0);have p4:binop .band (.int (d7 m.mode)) (.int 4)=some (.int 0):=(oO hs).trans (by rw[aae h0])
   cases i with
   |zero =>
    have e2:=PH R (NO (n:=n+7) R.toWR (a:=a) hi hc);refine SG (n:=n) R λh2 e3 IW=>?_
    refine oT (n:=n+9) K (R.gr IW) hm (s1:=.int (ah L (W.kd 0 a))) (w4:=vi 12) (zs:=[.int 12]) [] (λc hc=>nomatch hc) none none λz5 z6 e4=>?_
    refine k_ L h2 (DJ iv ?_) IW;have e4:forL (bE prog (aa prog (n+12)) [5] wG) (aL (.lst [.int 12]) [.int 12]) [.int 12] _=some (.next,_):=e4;clear R U K J k_ IW;walk_at"cf"
   |succ i =>
    refine Ss (n:=n+1) R.toWR hi ha hc λh1 e2 SY=>?_
    have e2:=PH R e2;have R1:=R.gr SY;refine VE (n:=n) R1 (i:=i) (aay hi) (W.kg (R.dy _) ha) cC λL2 h2 e3 IW m2=>?_
    have q4:=R1.JX;refine oT (n:=n+9) K (R1.gr IW) hm (s1:=.int (ah L (W.kd (i+1) a))) (w4:=vi (ah (ins L (W.kd i (W.pa (i+1) a))) (W.kd i (W.pa (i+1) a)))) (zs:=kids L2 (W.iY i (W.pa (i+1) a))++[.int 12]) (W.iY i (W.pa (i+1) a)) (λc hc=>by
     refine mR (xU.mpr hc) λj hj SH=>?_
     obtain rfl:=SH;exact⟨m2 _ hc,by simp[Wd.kd];exact aai (aaL hj) (aay hi),by simp[Wd.kd]⟩) none none λz5 z6 e4=>?_
    rw[IU (f:=W.fK m)]at e4;refine k_ L2 h2 (DJ iv ?_) (SY.trans IW);clear R R1 U K J k_ SY IW m2;clear iv;revert e4;generalize (List.range (i+1)).any (W.fK m)=v;intro e4;cases v<;>walk_at"cf"
  ·have iv:=aab V.bool (IV (W:=W) (i:=i) (x:=x) hs h0);have p4:binop .band (.int (d7 m.mode)) (.int 4)=some (.int 4):=(oO hs).trans (by rw[aaf h0])
   refine bF R.toWR hi λt ht T=>?_
   rw[fg ht]at iv;have e2:=d8 R.toWR hi;have ow:=U.own;rw[qQ]at ow;refine cJ (J.k i t ht) λj1 j2=>?_
   have e3:=yn (n:=n+7) R (x:=x) (aU T.ke) t.aE (λim eB=>⟨R.ur i t ht im eB,j2 im eB⟩)
   have e5:zI (.lst (t.aE.map λim=>.bool (im.1==x&&decide (im.2.1.1≠29))))=some (.bool (t.aE.any λim=>im.1==x&&decide (im.2.1.1≠29))):=by
    show(List.mapM jA _).map _=_;rw[tQ (λim:Nat×Ck×Nat=>im.1==x&&decide (im.2.1.1≠29))]
    show some (V.bool _)=_;rw[List.any_map];rfl
   refine k_ L h (DJ iv ?_) (.refl R.kt);have g3:=R.types;have g5:=T.imp;have g6:=T.ke;clear R U K J k_ T j2;walk_at"cf"
end
def Wd.acc(W:Wd) (x:Nat):Nat:=match W.md x with
 |some m=>m.acc
 |none=>0
structure bQ(W:Wd) (i:Nat) (r:Rw):Prop where
 g:r.g≠0->∃ m,W.md r.g=some m/\m.i=i/\m.p=2/\m.q=r.q/\m.ix=r.ix/\m.mode=r.mode
 s:r.s≠0->∃ m,W.md r.s=some m/\m.i=i/\m.p=3/\m.q=r.q/\m.ix=r.ix/\m.mode=r.mode
 one:r.g≠0∨r.s≠0
 ix:∀ a∈r.ix,d6 a
 len:r.ix.length<=1
 seen:r.seen=((decide (r.g≠0)&&decide (W.acc r.g≠1))||(decide (r.s≠0)&&decide (W.acc r.s≠1)))
noncomputable def Rw.pm(r:Rw):Nat:=if r.g≠0 then r.g else r.s
theorem bQ.pm{C_:Prop}{W:Wd}{i:Nat}{r:Rw}(k:bQ W i r) (k_:∀ m,W.md r.pm=some m->m.i=i->m.q=r.q->m.ix=r.ix->m.mode=r.mode->C_):C_:=by
 unfold Rw.pm at k_;by_cases hg:r.g=0
 ·rw[aaf λq=>q hg]at k_
  refine gY (k.s (by have:=k.one;lia)) λm h1 h2 h3 h4 h5 h6=>?_
  exact k_ m h1 h2 h4 h5 h6
 ·rw[aae hg]at k_;refine gY (k.g hg) λm h1 h2 h3 h4 h5 h6=>?_
  exact k_ m h1 h2 h4 h5 h6
def Wd.tR(W:Wd) (i:Nat) (r:Rw):Bool:=match W.md r.pm with
 |some m=>W.oS i m r.pm
 |none=>false
theorem jr{a b:Bool}:fF a=fF b↔a=b:=by
 cases a<;>cases b<;>decide
def Wd.sp(W:Wd) (i a:Nat) (r:Rw) (j b:Nat) (o:Rw):Bool:=o.q==r.q&&(o.ix.length==r.ix.length)&&(o.ix.map (cl (W.kd j b).2)==r.ix.map (cl (W.kd i a).2))&&o.seen
noncomputable def Wd.scan(W:Wd) (i a:Nat) (r:Rw) (p j b:Nat):List Rw->Option (Option Nat)
 |[]=>none
 |o::l=>if W.sp i a r j b o=false then W.scan i a r p j b l else if o.mid p≠0 then some (some (o.mid p)) else if W.tR j o=false then some none else W.scan i a r p j b l
theorem Wd.scan_1{W:Wd}{i a p j b:Nat}{r o:Rw}{l:List Rw}:W.scan i a r p j b (o::l)=if W.sp i a r j b o=false then W.scan i a r p j b l else if o.mid p≠0 then some (some (o.mid p)) else if W.tR j o=false then some none else W.scan i a r p j b l:=rfl
noncomputable def Wd.eP(W:Wd) (j:Nat):List Rw:=match W.ty[j]? with
 |some t=>t.props
 |none=>[]
theorem mW{W:Wd}{j:Nat}{t:Ty}(h:W.ty[j]? =some t):W.eP j=t.props:=by simp[Wd.eP,h]
noncomputable def yo(c:Ck) (B:Option (Ck×Nat)):Option (Option Nat)->Option (Ck×Nat)
 |none=>B
 |some none=>none
 |some (some x)=>some (c,x)
noncomputable def Wd.tU(W:Wd) (i a:Nat) (r:Rw) (p:Nat):Nat->Nat->Option (Ck×Nat)
 |0,b=>yo (W.kd 0 b) none (W.scan i a r p 0 b (W.eP 0))
 |j+1,b=>yo (W.kd (j+1) b) (W.tU i a r p j (W.pa (j+1) b)) (W.scan i a r p (j+1) b (W.eP (j+1)))
theorem Wd.N6{W:Wd}{i a p b:Nat}{r:Rw}:W.tU i a r p 0 b=yo (W.kd 0 b) none (W.scan i a r p 0 b (W.eP 0)):=rfl
theorem Wd.N7{W:Wd}{i a p j b:Nat}{r:Rw}:W.tU i a r p (j+1) b=yo (W.kd (j+1) b) (W.tU i a r p j (W.pa (j+1) b)) (W.scan i a r p (j+1) b (W.eP (j+1))):=rfl
def fH(L:List Ck):Option (Ck×Nat)->V
 |none=>.tup []
 |some (c,x)=>.tup [.int (ah L c),.int x,.tup []]
section
variable{W:Wd}{L L' L'':List Ck}{h h' ee:MH}{n v:Nat}
theorem BU{x:Nat}(h:x=0):truthy (.int x)=some false:=h▸rfl
theorem zx{x:Nat}(h:¬ x=0):truthy (.int x)=some true:=aab some (bne_iff_ne.mpr λe=>h (Int.ofNat.inj e))
theorem VT{r:Rw}:aa prog (n+1) 50 [bl r] h=some (.ret (.int r.pm) h):=by
 unfold bl Rw.pm;by_cases hg:r.g=0
 ·have t:=BU hg;rw[aaf λe=>e hg]
  walk_at"cf"
 ·have t:=zx hg;rw[aae hg];walk_at"cf"
theorem N8{f:V->MH->Option (Option V×MH)}{chk:MH->Bool}{x:V}{xs vs:List V}{o:Option V}{h h1 h2:MH}(hc:chk h=true) (e:f x h=some (o,h1)) (e2:bO f chk xs h1=some (vs,h2)):bO f chk (x::xs) h=some (o.toList++vs,h2):=(aae hc).trans ((aab (Option.bind · _) e).trans (aab (Option.map _) e2))
theorem fh{x:Nat}{m:Md}(hm:W.md x=some m):W.acc x=m.acc:=by unfold Wd.acc;rw[hm]
def Wd.ac(W:Wd) (x:Nat):Option V:=if x=0 then none else some (.bool (decide (W.acc x≠1)))
theorem IY{x y:Nat}:zI (.lst ((W.ac x).toList++((W.ac y).toList++[])))=some (.bool ((decide (x≠0)&&decide (W.acc x≠1))||(decide (y≠0)&&decide (W.acc y≠1)))):=by
 unfold Wd.ac;by_cases hx:x=0
 ·rw[aae hx,show decide (x≠0)=false from aaA λe=>e hx,Bool.false_and,Bool.false_or]
  by_cases hy:y=0
  ·rw[aae hy,show decide (y≠0)=false from aaA λe=>e hy,Bool.false_and];rfl
  ·rw[aaf hy,show decide (y≠0)=true from aaq hy,Bool.true_and];exact aab (λb=>some (V.bool b)) (Bool.or_false _)
 ·rw[aaf hx,show decide (x≠0)=true from aaq hx,Bool.true_and]
  by_cases hy:y=0
  ·rw[aae hy,show decide (y≠0)=false from aaA λe=>e hy,Bool.false_and];rfl
  ·rw[aaf hy,show decide (y≠0)=true from aaq hy,Bool.true_and];exact aab (λb=>some (V.bool (_||b))) (Bool.or_false _)
theorem N9(R:WX W L h) {x:Nat}(hx:x≠0->∃ m,W.md x=some m):iV prog (aa prog n) Dg Dh [vr aY] (.int (x:Nat)) h=some (W.ac x,h):=by
 refine cps λC k_=>?_
 unfold Wd.ac at k_;by_cases h0:x=0
 ·rw[aae h0]at k_;have t:=BU h0;refine k_ ?_;clear R k_;walk_at"C"
 ·refine gJ (hx h0) λm hm=>?_
  rw[aaf h0,fh hm]at k_;have t:=zx h0;have w2:=R.DM;have s4:=R.kS;have em:=(R.me hm).1;have U:=(R.me hm).2;have f0:=R.meths;have f2:=U.acc;refine k_ ?_;clear R k_ U;by_cases ha:m.acc=1
  ·have VH:(m.acc:Int)=1:=by rw[ha];rfl
   rw[show decide (m.acc≠1)=false from aaA λe=>e ha]
   walk_at"C"
  ·have VH:¬ (m.acc:Int)=1:=sG ha;rw[aaq ha];walk_at"C"
theorem N_{i a j b:Nat}{r o:Rw}(h:o.q=r.q/\o.ix.length=r.ix.length):W.sp i a r j b o=(decide (o.ix.map (cl (W.kd j b).2)=r.ix.map (cl (W.kd i a).2))&&o.seen):=by
 unfold Wd.sp;rw[h.1,h.2,beq_self_eq_true,beq_self_eq_true,Bool.true_and,Bool.true_and];exact aab (·&&_) (Bool.eq_iff_iff.mpr (aam.trans decide_eq_true_iff.symm))
theorem Oa{i a j b:Nat}{r o:Rw}(h:¬ (o.q=r.q/\o.ix.length=r.ix.length)):W.sp i a r j b o=false:=by
 unfold Wd.sp;rw[show(o.q==r.q&&(o.ix.length==r.ix.length))=false from Bool.eq_false_iff.mpr λe=>h ⟨aam.mp (aaC.mp e).1,aam.mp (aaC.mp e).2⟩]
 rfl
theorem bQ.uq{i:Nat}{r:Rw}(k:bQ W i r):∀ a∈r.ix,uq a:=λa ha=>by
 have:=k.ix a ha;unfold d6 at this;unfold D.uq;exact this.elim (λe=>.inl (e▸by decide)) λh=>h.elim (λe=>.inl (e▸by decide)) .inr
theorem Z6{C_:Prop}(R:WX W L h) {i a j b:Nat}{r o:Rw}(kr:bQ W i r) (ko:bQ W j o) (hc:W.kd i a∈L) (hd:W.kd j b∈L) (k_:∀ h',aa prog (n+5) 51 [.ref aY,.int (ah L (W.kd i a)),bl r,.int (ah L (W.kd j b)),bl o] h=some (.ret (.bool (W.sp i a r j b o)) h')->Gr L h L h'->C_):C_:=by
 have y3:=R.Sv;by_cases h1:o.q=r.q/\o.ix.length=r.ix.length
 ·have e1:=JU (n:=n+2) R.kt hd;rw[j_]at e1;refine Sp (n:=n) R.kt (W.kd j b).2 (m:=.tup []) ko.uq (aak ko.len (by decide)) λg1 e2 x1=>?_
  have R1:=R.gr x1;have z3:=R1.Sv;have e3:=JU (n:=n+2) R1.kt hc;rw[j_]at e3;refine Sp (n:=n) R1.kt (W.kd i a).2 (m:=.tup []) kr.uq (aak kr.len (by decide)) λg2 e4 x2=>?_
  refine k_ g2 (DJ (aab V.bool (N_ h1)) ?_) (x1.trans x2);have hn:fF o.q=fF r.q:=aab fF h1.1;have hl:((ao o.ix).length:Int)=(ao r.ix).length:=by rw[aG,aG,h1.2]
  have hq:=Sz (P:=prog) (h:=g2) (a:=o.ix.map (cl (W.kd j b).2)) (b:=r.ix.map (cl (W.kd i a).2));have R2:=R1.gr x2;have ag:=N8 (chk:=aL (.tup [.int o.g,.int o.s]) [.int o.g,.int o.s]) rfl (N9 (n:=n+4) R2 (x:=o.g) λh=>(ko.g h).imp λO h=>h.1) (N8 rfl (N9 (n:=n+4) R2 (x:=o.s) λh=>(ko.s h).imp λO h=>h.1) (F7 rfl))
  have an:=IY (W:=W) (x:=o.g) (y:=o.s);rw[<- ko.seen]at an;unfold bl;clear R R1 R2 x1 x2 kr ko k_;by_cases h3:o.ix.map (cl (W.kd j b).2)=r.ix.map (cl (W.kd i a).2)
  ·rw[aaq h3,Bool.not_true]at hq;rw[aaq h3,Bool.true_and];walk_at"cf"
  ·rw[aaA h3,Bool.not_false]at hq;rw[aaA h3,Bool.false_and];walk_at"cf"
 ·rw[Oa h1]at k_;refine k_ h ?_ (.refl R.kt);unfold bl;clear R kr ko k_;by_cases hq:fF o.q=fF r.q
  ·have hl:¬ ((ao o.ix).length:Int)=(ao r.ix).length:=by rw[aG,aG];exact λe=>h1 ⟨jr.mp hq,Int.ofNat.inj e⟩
   walk_at"cf"
  ·walk_at"cf"
theorem Ob{f:V->St->Option (Fl×St)}{chk:MH->Bool}{x:V}{xs:List V}{E:En}{H:MH}{st₁:St}{R:Option (Fl×St)}(hc:chk H=true) (h1:f x ⟨E,H⟩=some (.cont,st₁)) (h2:forL f chk xs st₁=R):forL f chk (x::xs) ⟨E,H⟩=R:=(aae hc).trans ((aab (Option.bind · _) h1).trans h2)
theorem r_{p:Nat}(hp:p=2∨p=3) {r:Rw}:dm [V.str (fF r.q),.int 7,.int r.g,.int r.s,.tup (ao r.ix)] p=some (.int (r.mid p)):=by
 rcases hp with rfl | rfl<;>rfl
noncomputable def J3(kd:Int):Option (Option Nat)->Fl
 |none=>.next
 |some none=>.ret (.tup [])
 |some (some x)=>.ret (.tup [.int kd,.int x,.tup []])
abbrev S8(kc:Int) (r:Rw) (p:Nat) (kd:Int) (t0:V) (y:Option MV):En:=[vr aY,vi kc,vv (bl r),vi p,vi kd,vv t0,y]
theorem yq{j:Nat}{w:Rw}{m:Md}(h:W.md w.pm=some m):W.oS j m w.pm=W.tR j w:=by unfold Wd.tR;rw[h]
theorem IZ{C_:Prop}(K:kj W) (J:tP W) {i a j b p:Nat}{r:Rw}(kr:bQ W i r) (hp:p=2∨p=3) (hj:j<W.ty.length) (hb:d6 b) {o:V}{zs:List V}(hz:∀ {L h},WX W L h->aL o zs h=true) {kc DY:Int}{t0:V}:∀ (l:List Rw),(∀ o∈l,bQ W j o)->∀ {L:List Ck}{h:MH}(R:WX W L h) (hc:W.kd i a∈L) (hd:W.kd j b∈L) (tV:ah L (W.kd i a)=kc) (I0:ah L (W.kd j b)=DY) (y:Option MV),(∀ y' L' h',forL (bE prog (aa prog (n+13)) [6] wH) (aL o zs) (l.map bl) ⟨S8 kc r p DY t0 y,h⟩=some (J3 DY (W.scan i a r p j b l),⟨S8 kc r p DY t0 y',h'⟩)->Gr L h L' h'->C_)->C_:=by
 intro l;induction l with
 |nil =>
  intro _ L h R _ _ _ _ y k_;exact k_ y L h (k_fe (hz R)) (.refl R.kt)
 |cons w l ih =>
  intro hl L h R hc hd tV I0 y k_;have kw:=hl w aad;refine Z6 (n:=n+8) R kr kw hc hd λh1 e1 g1=>?_
  have R1:=R.gr g1;rw[tV,I0]at e1;have hm:getItem prog h1 (bl w) (.int p)=some (.int (w.mid p)):=r_ hp;have PO:=hz R;have ih:=λ{L' h'}(R':WX W L' h') (g:L <+: L')=>ih (λo ho=>hl o (aac _ ho)) R' (g.subset hc) (g.subset hd) ((aab _ (aN g hc)).trans tV) ((aab _ (aN g hd)).trans I0) (vv (bl w))
  have sc:W.scan i a r p j b (w::l)=if W.sp i a r j b w=false then _ else _:=rfl
  cases hs:W.sp i a r j b w
  ·rw[hs]at e1;refine ih R1 g1.pre λy' L' h' e g=>?_
   refine k_ y' L' h' (uo (aab (J3 DY) (aae hs)) (Ob PO (bz rfl ?_) e)) (g1.trans g);clear k_ ih R R1 K J kw e hl;walk_at"SS"
  ·have sc:=sc.trans (aaf (Vs hs));rw[hs]at e1;by_cases hx:w.mid p=0
   ·have sc:=sc.trans (aaf λe=>e hx)
    have t:=BU hx;refine kw.pm λm Oc uf O O O=>?_
    have e2:=VT (n:=n+12) (r:=w) (h:=h1);refine VS (n:=n) K J R1 Oc uf hj hb (g1.pre.subset hd) λL2 h2 e3 g2=>?_
    rw[yq Oc,aN g1.pre hd,I0]at e3;cases hv:W.tR j w
    ·rw[hv]at e3;refine k_ (vv (bl w)) L2 h2 (uo (aab (J3 DY) (sc.trans (aae hv))) (kO PO (bz rfl ?_))) (g1.trans g2);clear k_ ih R R1 K J kw hl;walk_at"SS"
    ·rw[hv]at e3;refine ih (R1.gr g2) (g1.trans g2).pre λy' L' h' e g=>?_
     refine k_ y' L' h' (uo (aab (J3 DY) (sc.trans (aaf (Vs hv)))) (bu PO (bz rfl ?_) e)) ((g1.trans g2).trans g);clear k_ ih R R1 K J kw hl e;walk_at"SS"
   ·have t:=zx hx;refine k_ (vv (bl w)) L h1 (uo (aab (J3 DY) (sc.trans (aae hx))) (kO PO (bz rfl ?_))) g1;clear k_ ih R R1 K J kw hl;walk_at"SS"
end
def Wd.I3(W:Wd) (i a:Nat) (r:Rw) (p:Nat):Option (Ck×Nat):=match i with
 |0=>none
 |i'+1=>W.tU i a r p i' (W.pa i a)
structure J4(W:Wd):Prop where
 k:∀ (j:Nat) (t:Ty),W.ty[j]? =some t->∀ o∈t.props,bQ W j o
theorem mX{c:Nat->List V->MH->Option aB}{h:MH}{E:En}{P:Prog}{fl:Fl}:rn c (sq rt (λE=>tSs P .nil E rt) fl E) h=some (fl,⟨E,h⟩):=by cases fl<;>exact sR rfl
section
variable{W:Wd}{L L' L'':List Ck}{h h' ee:MH}{n v:Nat}
abbrev uj(kc:Int) (r:Rw) (p:Nat) (y4 y5 y6:Option MV):En:=[vr aY,vi kc,vv (bl r),vi p,y4,y5,y6]
def PQ(L:List Ck) (r:Option (Ck×Nat)) (fl:Fl):Prop:=match r with
 |some (c,x)=>fl=.ret (.tup [.int (ah L c),.int x,.tup []])/\c∈L
 |none=>fl=.next∨fl=.ret (.tup [])
theorem yr{C_:Prop}(K:kj W) (J:tP W) (P:J4 W) {i a p:Nat}{r:Rw}(kr:bQ W i r) (hp:p=2∨p=3) {j b:Nat}(hj:j<W.ty.length) (hb:d6 b) (R:WX W L h) (hc:W.kd i a∈L) (hd:W.kd j b∈L) {kc:Int}(tV:ah L (W.kd i a)=kc) (y4 y5 y6:Option MV) (k_:∀ fL L' h',bE prog (aa prog (n+13)) [4] lK (.int (ah L (W.kd j b))) ⟨uj kc r p y4 y5 y6,h⟩=some (J3 (ah L (W.kd j b)) (W.scan i a r p j b (W.eP j)),⟨S8 kc r p (ah L (W.kd j b)) (.ref (W.eG j)) fL,h'⟩)->Gr L h L' h'->C_):C_:=by
 have y2:=R.DM;have e1:=uu (n:=n+10) R.toWR hj hd rfl;refine bF R.toWR hj λt ht T=>?_
 refine IZ (n:=n) K J (a:=a) (b:=b) kr hp hj hb (o:=.ref (.fld (W.eG j) 22)) (zs:=t.props.map bl) (t0:=.ref (W.eG j)) (λ{L h} R=>aU (R.tys j t ht).qL) t.props (P.k j t ht) R hc hd tV rfl y6 λy' L' h' e g=>?_
 rw[mW ht]at k_;refine k_ y' L' h' (bz rfl ?_) g;have f2:=T.ID;have f3:=T.qL;clear k_ K J P R T g kr;apply wSs
 repeat walk_at"Z"
 exact mX
theorem oU{C_:Prop}(R:WX W L h) {kc:Int}{r:Rw}{p:Nat}{zs:List V}(y4 y5 y6:Option MV) (k_:∀ mV iZ fL,forL (bE prog (aa prog (n+13)) [4] lK) (aL (.lst zs) zs) [.int 12] ⟨uj kc r p y4 y5 y6,h⟩=some (.next,⟨uj kc r p mV iZ fL,h⟩)->C_):C_:=by
 have y2:=R.DM;have e1:=xP (n:=n+10) R.toWR;by_cases cX:W.ob=true
 ·rw[aae cX]at e1;have T:=R.xM cX;have f2:=T.ID;have f3:=T.qL;have lp:=k_fe (f:=bE prog (aa prog (n+13)) [6] wH) (E:=uj kc r p (vi 12) (vr (.inst 1 0)) y6) (aU f3);refine k_ (vi 12) (vr (.inst 1 0)) y6 (bu rfl (bz rfl ?_) (k_fe rfl));clear k_ R T;walk_at"SS"
 ·rw[aaf cX]at e1;refine k_ (vi 12) (vv .none) y6 (Ob rfl (bz rfl ?_) (k_fe rfl));clear k_ R;walk_at"SS"
theorem oV{C_:Prop}(K:kj W) (J:tP W) (P:J4 W) {i a p:Nat}{r:Rw}(kr:bQ W i r) (hp:p=2∨p=3) {zs ks:List V}{kc:Int}{j b:Nat}(hj:j<W.ty.length) (hb:d6 b) {B:Option (Ck×Nat)}(R:WX W L h) (hc:W.kd i a∈L) (tV:ah L (W.kd i a)=kc) (hd:W.kd j b∈L) (y4 y5 y6:Option MV)
  (k:∀ {L1 h1}(R:WX W L1 h1) (g:Gr L h L1 h1) (y4 y5 y6:Option MV),(∀ fl mV iZ fL L' h',forL (bE prog (aa prog (n+13)) [4] lK) (aL (.lst zs) zs) ks ⟨uj kc r p y4 y5 y6,h1⟩=some (fl,⟨uj kc r p mV iZ fL,h'⟩)->PQ L' B fl->Gr L1 h1 L' h'->C_)->C_) (k_:∀ fl mV iZ fL L' h',forL (bE prog (aa prog (n+13)) [4] lK) (aL (.lst zs) zs) (.int (ah L (W.kd j b))::ks) ⟨uj kc r p y4 y5 y6,h⟩=some (fl,⟨uj kc r p mV iZ fL,h'⟩)->PQ L' (yo (W.kd j b) B (W.scan i a r p j b (W.eP j))) fl->Gr L h L' h'->C_):C_:=by
 refine yr (n:=n) K J P kr hp hj hb R hc hd tV y4 y5 y6 λz6 L1 h1 e1 g1=>?_
 cases hs:W.scan i a r p j b (W.eP j) with
 |none =>
  rw[hs]at e1 k_;refine k (R.gr g1) g1 (vi (ah L (W.kd j b))) (vr (W.eG j)) z6 λfl a4 a5 a6 L' h' e2 f2 g2=>?_
  exact k_ fl a4 a5 a6 L' h' (bu rfl e1 e2) f2 (g1.trans g2)
 |some s =>
  rw[hs]at e1 k_;cases s with
  |none=>exact k_ _ _ _ _ L1 h1 (kO rfl e1) (.inr rfl) g1
  |some x=>exact k_ _ _ _ _ L1 h1 (kO rfl e1) ⟨by rw[aN g1.pre hd],g1.pre.subset hd⟩ g1
theorem BV{C_:Prop}(K:kj W) (J:tP W) (P:J4 W) {i a p:Nat}{r:Rw}(kr:bQ W i r) (hp:p=2∨p=3) {zs:List V}{kc:Int}:∀ (j b:Nat),j<W.ty.length->d6 b->∀ {L:List Ck}{h:MH}(R:WX W L h) (hc:W.kd i a∈L) (tV:ah L (W.kd i a)=kc) (hm:∀ c∈W.iY j b,c∈L) (y4 y5 y6:Option MV),(∀ fl mV iZ fL L' h',forL (bE prog (aa prog (n+13)) [4] lK) (aL (.lst zs) zs) (kids L (W.iY j b)++[.int 12]) ⟨uj kc r p y4 y5 y6,h⟩=some (fl,⟨uj kc r p mV iZ fL,h'⟩)->PQ L' (W.tU i a r p j b) fl->Gr L h L' h'->C_)->C_:=by
 intro j;induction j with
 |zero =>
  intro b hj hb L h R hc tV hm y4 y5 y6 k_;exact oV (n:=n) K J P kr hp hj hb (zs:=zs) (ks:=[V.int (12:Int)]) (B:=none) R hc tV (hm _ aad) y4 y5 y6 (λ{L1 h1} R g y4 y5 y6 k=>oU (n:=n) R y4 y5 y6 λa4 a5 a6 e=>k .next a4 a5 a6 L1 h1 e (.inl rfl) (.refl R.kt)) k_
 |succ j ih =>
  intro b hj hb L h R hc tV hm y4 y5 y6 k_;exact oV (n:=n) K J P kr hp hj hb (zs:=zs) (ks:=kids L (W.iY j (W.pa (j+1) b))++[V.int (12:Int)]) (B:=W.tU i a r p j (W.pa (j+1) b)) R hc tV (hm _ aad) y4 y5 y6 (λ{L1 h1} R1 g y4 y5 y6=>by
  have uf:∀ c∈W.iY j (W.pa (j+1) b),c∈L:=λc hc=>hm c (aac _ hc)
  rw[<- lN g.pre uf];exact ih (W.pa (j+1) b) (Nat.lt_of_succ_lt hj) (W.kg (R.dy _) hb) R1 (g.pre.subset hc) ((aab _ (aN g.pre hc)).trans tV) (λc hc=>g.pre.subset (uf c hc)) y4 y5 y6) k_
theorem BW{B:Option (Ck×Nat)}{fl:Fl}(f:PQ L B fl):(fl=.next/\fH L B=.tup []/\B=none)∨fl=.ret (fH L B):=by
 cases B with
 |none=>exact f.imp (λe=>⟨e,rfl,rfl⟩) id
 |some q=>exact .inr f.1
theorem VU{C_:Prop}(K:kj W) (J:tP W) (P:J4 W) (R:WX W L h) {i a p:Nat}{r:Rw}(kr:bQ W i r) (hp:p=2∨p=3) (hi:i<W.ty.length) (ha:d6 a) (hc:W.kd i a∈L) (k_:∀ L' h',aa prog (n+14) 52 [.ref aY,.int (ah L (W.kd i a)),bl r,.int p] h=some (.ret (fH L' (W.I3 i a r p)) h')->Gr L h L' h'->(∀ c x,W.I3 i a r p=some (c,x)->c∈L')->C_):C_:=by
 have y4:=R.JX;refine VE (n:=n+1) R hi ha hc λL1 h1 e1 g1 m1=>?_
 have R1:=R.gr g1;cases i with
 |zero =>
  refine oU (n:=n) R1 (kc:=ah L (W.kd 0 a)) (r:=r) (p:=p) (zs:=[.int 12]) none none none λa4 a5 a6 lp=>?_
  refine k_ L1 h1 ?_ g1 (λc x e=>nomatch e)
  have e1:_=some (aB.ret (.lst (V.int (ah L1 (W.kd 0 a))::[.int 12])) h1):=e1;clear k_ K J P R R1 kr m1;walk_at"cf"
 |succ i =>
  refine BV (n:=n) K J P (a:=a) kr hp (zs:=kids L1 (W.iY i (W.pa (i+1) a))++[.int 12]) i (W.pa (i+1) a) (Nat.lt_of_succ_lt hi) (W.kg (R.dy _) ha) R1 (g1.pre.subset hc) (aab _ (aN g1.pre hc)) (λc hc=>m1 c (aac _ hc)) none none none λfl a4 a5 a6 L' h' lp f2 g2=>?_
  refine k_ L' h' ?_ (g1.trans g2) (λc x e=>?_)
  ·have e1:_=some (aB.ret (.lst (V.int (ah L1 (W.kd (i+1) a))::(kids L1 (W.iY i (W.pa (i+1) a))++[.int 12]))) h1):=e1;have f3:=BW f2;clear k_ K J P R R1 kr m1 f2;show aa prog (n+14) 52 _ h=some (.ret (fH L' (W.tU (i+1) a r p i (W.pa (i+1) a))) h');rcases f3 with⟨rfl,e,-⟩ | rfl
   ·rw[e];walk_at"cf"
   ·walk_at"cf"
  ·have e:W.tU (i+1) a r p i (W.pa (i+1) a)=_:=e;rw[e]at f2;exact f2.2
def Wd.rM(W:Wd) (i a:Nat) (r:Rw) (p:Nat):Option (Ck×Nat):=if r.mid p≠0 then some (W.kd i a,r.mid p) else if W.tR i r=true then W.I3 i a r p else none
theorem Z7{C_:Prop}(K:kj W) (J:tP W) (P:J4 W) (R:WX W L h) {i a p:Nat}{r:Rw}(kr:bQ W i r) (hp:p=2∨p=3) (hi:i<W.ty.length) (ha:d6 a) (hc:W.kd i a∈L) (k_:∀ L' h',aa prog (n+15) 53 [.ref aY,.int (ah L (W.kd i a)),bl r,.int p] h=some (.ret (fH L' (W.rM i a r p)) h')->Gr L h L' h'->(∀ c x,W.rM i a r p=some (c,x)->c∈L')->C_):C_:=by
 have hm:getItem prog h (bl r) (.int p)=some (.int (r.mid p)):=r_ hp;have ar:W.rM i a r p=if r.mid p≠0 then _ else _:=rfl
 by_cases hx:r.mid p=0
 ·have ar:=ar.trans (aaf λe=>e hx)
  have t:=BU hx;refine kr.pm λm Oc uf O O O=>?_
  have e2:=VT (n:=n+13) (r:=r) (h:=h);refine VS (n:=n+1) K J R Oc uf hi ha hc λL2 h2 e3 g2=>?_
  rw[yq Oc]at e3;cases hv:W.tR i r
  ·have ar:=ar.trans (aaf (Zs hv));rw[hv]at e3;refine k_ L2 h2 (DJ (aab (fH L2) ar) ?_) g2 (λc x e=>nomatch ar.symm.trans e)
   clear k_ K J P R kr;walk_at"cf"
  ·have ar:=ar.trans (aae hv);rw[hv]at e3;refine VU (n:=n) K J P (R.gr g2) kr hp hi ha (g2.pre.subset hc) λL' h' e4 g4 m4=>?_
   rw[aN g2.pre hc]at e4;refine k_ L' h' (DJ (aab (fH L') ar) ?_) (g2.trans g4) λc x e=>m4 c x (ar.symm.trans e)
   clear k_ K J P R kr m4;walk_at"cf"
 ·have ar:=ar.trans (aae hx);have t:=zx hx;refine k_ L h (DJ (aab (fH L) ar) ?_) (.refl R.kt) λc x e=>by cases ar.symm.trans e;exact hc
  clear k_ K J P R kr;walk_at"cf"
end
def wD:List (V×V):=[(.str (Str.ofString "store"),.ref aS),(.str (Str.ofString "var"),.int 16),(.str (Str.ofString "levels"),.ref (.fld aW 2)),(.str (Str.ofString "table"),.ref (.fld aW 3)),(.str (Str.ofString "mids"),.ref (.fld aW 4)),(.str (Str.ofString "root"),.ref (.fld aW 5)),(.str (Str.ofString "deeds"),.ref (.fld aW 6)),(.str (Str.ofString "put"),.ref (.fld aW 7))]
theorem S9:aF (.str (Str.ofString "store")) wD=some (some (.ref aS)):=rfl
theorem S_:aF (.str (Str.ofString "var")) wD=some (some (.int 16)):=rfl
theorem Ta:aF (.str (Str.ofString "levels")) wD=some (some (.ref (.fld aW 2))):=rfl
theorem Tc:aF (.str (Str.ofString "table")) wD=some (some (.ref (.fld aW 3))):=rfl
theorem Z8:aF (.str (Str.ofString "mids")) wD=some (some (.ref (.fld aW 4))):=rfl
theorem VV:aF (.str (Str.ofString "root")) wD=some (some (.ref (.fld aW 5))):=rfl
theorem Z9:aF (.str (Str.ofString "deeds")) wD=some (some (.ref (.fld aW 6))):=rfl
noncomputable def Z_(l:Bool×Nat):V:=.tup [.bool l.1,.int l.2]
noncomputable def gX(p:Nat×Nat):V:=.tup [.int p.1,.int p.2]
noncomputable def zy(p:Nat×Nat×Nat):V:=.tup [.int p.1,.int p.2.1,.int p.2.2]
def jh(i:Nat):Ad:=.item (.fld aW 3) i
def Wd.gU(W:Wd):List V:=(List.range W.tb.length).map λi=>.ref (jh i)
def Wd.qR(W:Wd):List V:=(W.lv.take W.nl).map Z_
structure LW(W:Wd) (h:MH):Prop where
 t0:1<=h.aq
 w:h.get aW=some (.dict wD)
 BX:W.nl<=W.lv.length
 lv:h.get (.fld aW 2)=some (.list W.qR)
 tab:h.get (.fld aW 3)=some (.list W.gU)
 rows:∀ (i:Nat) (rs:List Rw),W.tb[i]? =some rs->h.get (jh i)=some (.list (rs.map bw))
 aZ:h.get (.fld aW 4)=some (.list (W.aZ.map gX))
 root:h.get (.fld aW 5)=some (.dict (fG W.root))
 au:h.get (.fld aW 6)=some (.list (W.au.map zy))
 put:h.get (.fld aW 7)=some (.dict (fG W.put))
noncomputable def Wd.dn(W:Wd):Nat->Nat->List Nat
 |0,_=>[]
 |u+1,a=>W.dn u (W.pa (u+1) a)++[W.pa (u+1) a]
theorem Wd.dn_1{W:Wd}{u a:Nat}:W.dn (u+1) a=W.dn u (W.pa (u+1) a)++[W.pa (u+1) a]:=rfl
def Wd.args(W:Wd) (i a:Nat):List Nat:=W.dn i a++[a]
section
variable{W:Wd}{L L' L'':List Ck}{h h' ee:MH}{n v:Nat}
theorem LW.keep(R:LW W h) (t:h.aq<=h'.aq) (e:∀ a,Il a.rt=true->h'.get a=h.get a):LW W h' :=
 ⟨aaj R.t0 t,(e _ rfl).trans R.w,R.BX,(e _ rfl).trans R.lv,(e _ rfl).trans R.tab,λi rs h=>(e _ rfl).trans (R.rows i rs h),(e _ rfl).trans R.aZ,(e _ rfl).trans R.root,(e _ rfl).trans R.au,(e _ rfl).trans R.put⟩
theorem yt(t:1<=h.aq) {a:Ad}(e:Il a.rt=true):rk h a:=by
 have q:a.rt=10:=Nat.eq_of_beq_eq_true e;exact⟨by rw[q];decide,by rw[q];exact Nat.add_lt_add_right t 10⟩
theorem I4{a:Ad}(e:Il a.rt=true):n4 a:=λq=>by rw[q]at e;cases e
theorem LW.gr(R:LW W h) (g:Gr L h L' h'):LW W h':=R.keep g.aq λa ha=>g.get a (yt R.t0 ha)
theorem LW.gv(R:LW W h) (g:Gv L h L' h'):LW W h':=R.keep g.aq λa ha=>g.get a (yt R.t0 ha) (I4 ha)
theorem qS:∀ {i a:Nat},(W.dn i a).length=i:=by
 intro i;induction i with
 |zero =>
  intro _;exact rfl
 |succ i ih =>
  intro a;rw[Wd.dn_1,aag,ih];rfl
theorem args_get:∀ {i a j:Nat},j<=i->(W.args i a)[j]? =some (W.ar i a j):=by
 intro i;induction i with
 |zero =>
  intro a j hj;cases Nat.le_zero.mp hj;rfl
 |succ i ih =>
  intro a j hj;by_cases e:j=i+1
  ·clear hj;subst e;rw[Wd.args,aaO (aaD qS),qS,cD,Nat.sub_self];rfl
  ·have h:=ih (a:=W.pa (i+1) a) (j:=j) (P2 hj e);rw[Wd.args,aaJ (by rw[qS];exact Nat.lt_of_le_of_ne hj e),Wd.ar_1,aaf e]
   exact h
theorem mY(Z':LW W h) {i:Nat}(hi:i<W.nl):dm W.qR i=some (.tup [.bool (W.wide i),.int (W.dy i)]):=by
 have e:W.lv[i]? =some _:=aao (aai hi Z'.BX);unfold Wd.qR Wd.wide Wd.dy;rw[bI,List.getElem?_map,List.getElem?_take_of_lt hi,e];rfl
def sb(o:Option MV) (xs:List V):Prop:=o=some (.bH xs)∨o=vv (.lst xs)
abbrev Td(u:Nat) (v2:V) (o y4 y5 y6:Option MV):En:=[vr aW,vi u,vv v2,o,y4,y5,y6]
theorem I5{u a:Nat}(hg:∀ i,W.dy i<3):dm [.int 7,.int 13,.int (if W.wide (u+1)=true then a else 7:Nat)] (W.dy (u+1))=some (.int (W.pa (u+1) a)):=by
 unfold Wd.pa;have h:=hg (u+1);generalize W.dy (u+1)=g at h⊢;rcases Kj _ h with rfl | rfl | rfl
 ·rfl
 ·rfl
 ·exact aab (λx:Nat=>some (V.int x)) (by split<;>rfl)
theorem yu{C_:Prop}(R:LW W h) (hg:∀ i,W.dy i<3) {v2:V}{u a:Nat}{l:List Nat}{o y4 y5 y6:Option MV}(hu:u+1<W.nl) (ho:sb o (ao (a::l))) (hl:l.length<100) (k_:∀ mV iZ fL,aw prog (aa prog n) wI ⟨Td (u+1) v2 o y4 y5 y6,h⟩=some (.next,⟨Td u v2 (vv (.lst (ao (W.pa (u+1) a::a::l)))) mV iZ fL,h⟩)->C_):C_:=by
 have e1:=mY R hu;have hn:=I5 (u:=u) (a:=a) hg;have b1:binop .add (.lst [.int (W.pa (u+1) a)]) (.lst (ao (a::l)))=some (.lst (ao (W.pa (u+1) a::a::l))):=aae (by show 1+(ao (a::l)).length<=1000;rw[aG,aaI];exact cP (Nat.add_lt_add_left hl _) rfl)
 have b2:binop .sub (.int (u+1:Nat)) (.int 1)=some (.int u):=aab (λi=>some (V.int i)) (Int.add_sub_cancel (u:Int) 1)
 have f1:=R.w;have f2:=R.lv;refine k_ (vv (.bool (W.wide (u+1)))) (vi (W.dy (u+1))) (vi (if W.wide (u+1)=true then a else 7:Nat)) ?_
 clear R hg;clear k_;cases hw:W.wide (u+1)<;>rw[hw]at e1 hn
 ·have hn:dm [.int 7,.int 13,.int 7] (W.dy (u+1))=some (.int (W.pa (u+1) a)):=hn;rcases ho with rfl | rfl
  ·walk_at"SS"
  ·walk_at"SS"
 ·rw[aae rfl]at hn⊢;rcases ho with rfl | rfl
  ·walk_at"SS"
  ·walk_at"SS"
theorem yw{C_:Prop}(R:LW W h) (hg:∀ i,W.dy i<3) {v2:V}:∀ (u F:Nat),u<F->u<W.nl->∀ (a:Nat) (l:List Nat) (o y4 y5 y6:Option MV),sb o (ao (a::l))->u+l.length<100->(∀ o' u' mV iZ fL,bY (nS prog (aa prog n) Di) (aw prog (aa prog n) wI) F ⟨Td u v2 o y4 y5 y6,h⟩=some (.next,⟨[vr aW,u',vv v2,o',mV,iZ,fL],h⟩)->sb o' (ao (W.dn u a++a::l))->C_)->C_:=by
 intro u;induction u with
 |zero =>
  intro F hF _ a l o y4 y5 y6 ho _ k_;cases F with
  |zero=>exact absurd hF (Nat.not_lt_zero _)
  |succ F =>
   exact k_ o (vi 0) y4 y5 y6 (Bj (by
    have h0:¬ (0:Int)<((0:Nat):Int):=by decide
    walk_at"T")) ho
 |succ u ih =>
  intro F hF hu a l o y4 y5 y6 ho hl k_;cases F with
  |zero=>exact absurd hF (Nat.not_lt_zero _)
  |succ F =>
   refine yu (n:=n) R hg (v2:=v2) (y4:=y4) (y5:=y5) (y6:=y6) hu ho (Nat.le_of_add_left_le hl) λz4 z5 z6 e2=>?_
   refine ih F (Nat.lt_of_succ_lt_succ hF) (Nat.lt_of_succ_lt hu) (W.pa (u+1) a) (a::l) _ z4 z5 z6 (.inr rfl) (by rw[aaI];exact Jw (Nat.succ_add_eq_add_succ _ _) hl) λo' u' mV iZ fL e3 J5=>?_
   refine k_ o' u' mV iZ fL (wk (by
    have h0:(0:Int)<((u+1:Nat):Int):=Int.natCast_pos.mpr (Nat.succ_pos u);walk_at"T") e2 e3) ?_
   rw[Wd.dn_1,List.append_assoc];exact J5
theorem Od(R:LW W h) (hg:∀ i,W.dy i<3) {i a:Nat}(hi:i<W.nl) (h4:W.nl<=5):aa prog (n+1) 61 [.ref aW,.int i,.int a] h=some (.ret (.lst (ao (W.args i a))) h):=by
 refine yw (n:=n) R hg (v2:=.int a) i 64 (iu hi h4 rfl) hi a [] (some (.bH (ao [a]))) none none none (.inl rfl) (by rw[List.length_nil];exact iu hi h4 rfl) λo' u' mV iZ fL e ho=>?_
 clear R hg;have ho:sb o' (ao (W.args i a)):=ho;rcases ho with rfl | rfl
 ·walk_at"cf"
 ·walk_at"cf"
theorem J6{C_:Prop}(R:LW W h) (K:KT L h) (PR:getAttr h (.ref aS) 37=some (.ref aK)) {i a:Nat}{l:List Nat}(hi:i<W.nl) (h9:i<9) (hl:l[i]? =some a) (ha:d6 a) (k_:∀ h',aa prog (n+8) 62 [.ref aW,.int i,.lst (ao l)] h=some (.ret (.int (ah (ins L (W.kd i a)) (W.kd i a))) h')->Gr L h (ins L (W.kd i a)) h'->C_):C_:=by
 refine Si (n:=n) K (W.DL (a:=a) h9 ha) λh' e g=>?_
 refine k_ h' ?_ g;have e1:=mY R hi;have e2:dm (ao l) i=some (.int a):=ints_get.trans (by rw[hl];rfl)
 have b1:binop .add (.int 21) (.int i)=some (.int (21+i:Nat)):=rfl;have f1:=R.w;have f2:=R.lv;have hk:W.kd i a=(21+i,if W.wide i then some a else none):=rfl
 rw[hk]at e⊢;clear k_ R K g;cases hw:W.wide i<;>rw[hw]at e e1
 ·rw[aaf nofun]at e⊢;have e:aa prog (n+7) 10 [.ref aK,.int (21+i:Nat),.tup []] h=_:=e;walk_at"cf"
 ·rw[aae rfl]at e⊢;have e:aa prog (n+7) 10 [.ref aK,.int (21+i:Nat),.tup [.int a]] h=_:=e;walk_at"cf"
theorem yx(R:LW W h) {a:Nat}{zs:List V}:∀ (l:List Nat),bO (iV prog (aa prog n) Dj .nil [vi a,vr aW]) (aL (.tup zs) zs) (ao l) h=some (ao (l.map (cl (some a))),h):=by
 intro l;induction l with
 |nil =>
  exact rfl
 |cons k l ih =>
  exact Bk rfl (by
  have f1:=R.w;show _=some (some (V.int (if k=16 then a else k:Nat)),h)
  clear R;by_cases e:k=16
  ·have e2:(k:Int)=16:=by rw[e];rfl
   rw[aae e];walk_at"C"
  ·have e2:¬ (k:Int)=16:=λz=>e (Int.ofNat.inj z)
   rw[aaf e];walk_at"C") (ih)
theorem PT(R:LW W h) {a:Nat}{r:Rw}:aa prog (n+1) 63 [.ref aW,bw r,.int a] h=some (.ret (.lst (ao (r.ix.map (cl (some a))))) h):=by
 have e:=yx (n:=n) R (a:=a) (zs:=ao r.ix) r.ix;clear R;unfold bw;walk_at"cf"
theorem slot_mem:∀ k:Nat,k<7->(!decide (k∈[2,3,4]))=slot k:=by decide
theorem Te{r:Rw}(hm:r.mode<7):aa prog (n+1) 64 [bw r] h=some (.ret (.bool (slot r.mode)) h):=by
 have e:iy (.int r.mode) [.int 2,.int 3,.int 4]=_:=iH (x:=r.mode) (l:=[2,3,4]);rw[<- slot_mem _ hm];unfold bw;walk_at"cf"
end
noncomputable def Wd.bc(W:Wd) (j:Nat):List Rw:=match W.tb[j]? with
 |some rs=>rs
 |none=>[]
noncomputable def Rw.pt(r:Rw):Nat:=if r.g≠0 then 2 else 3
def lo1(r:Rw) (p:Nat) (o:Rw):Bool:=decide (o.q=r.q)&&(decide (o.ix.length=r.ix.length)&&(decide (o.mid p≠0)&&slot o.mode))
def Wd.DZ(W:Wd) (i:Nat) (r:Rw):Bool:=if r.mode=5 then (W.put.lookup (r.mid r.pt)).isSome else if r.mode≠0 then false else (List.range i).any λj=>(W.bc j).any (lo1 r r.pt)
structure Wtb(W:Wd):Prop where
 m:∀ (j:Nat) (rs:List Rw),W.tb[j]? =some rs->∀ o∈rs,o.mode<7
 n:∀ j,(W.bc j).length<=4
def mt(aj ai:Nat) (r o:Rw):Bool:=decide (o.q=r.q)&&(o.seen&&decide (o.ix.map (cl (some aj))=r.ix.map (cl (some ai))))
def Wd.fJ(W:Wd) (j aj ai:Nat) (r:Rw) (p:Nat) (line:List (Nat×Nat)) (o:Rw):List (Nat×Nat):=if mt aj ai r o=true then (if W.DZ j o=true then line else [])++[(j,o.mid p)] else line
noncomputable def Wd.lQ(W:Wd) (i a:Nat) (r:Rw) (p:Nat):Nat->List (Nat×Nat)
 |0=>[]
 |j+1=>(W.bc j).foldl (W.fJ j (W.ar i a j) a r p) (W.lQ i a r p j)
theorem Wd.lbl_1{W:Wd}{i a p j:Nat}{r:Rw}:W.lQ i a r p (j+1)=(W.bc j).foldl (W.fJ j (W.ar i a j) a r p) (W.lQ i a r p j):=rfl
def Wd.yz(W:Wd) (i a:Nat) (r:Rw) (p:Nat):Option (Ck×Nat):=match ((W.lQ i a r p i).filter λq=>decide (q.2≠0)).getLast? with
 |some (j,x)=>some (W.kd j (W.ar i a j),x)
 |none=>none
theorem Oe{P:Prog}{h:MH}{a b:List Nat}:a8 P h .eq (.lst (ao a)) (.lst (ao b))=some (decide (a=b)):=by
 have h1:∀ a:List Nat,pl (.lst (ao a))=true:=λa=>gp
 exact(aae ⟨h1 a,h1 b⟩).trans (aab some eH)
theorem tW{P:Prog}{c:Nat->List V->MH->Option aB}{s:MS}{ss:aA}{E E1:En}{H H1:MH}{K:Fl->En->T}{R:Option (Fl×St)}(e:bG P c s ⟨E,H⟩=some (.next,⟨E1,H1⟩)) (e2:rn c (tSs P ss E1 K) H1=R):rn c (tSs P (.cons s ss) E K) H=R:=by
 rw[dw]at e2⊢;exact(LP e).trans e2
theorem oW{C:Prop}{α σ:Type}{f:V->St->Option (Fl×St)}{chk:MH->Bool}{g:α->V}{p:α->Bool}{mk:σ->En}{h:MH}(hc:chk h=true):∀ (l:List α),(∀ x∈l,∀ y,(∀ y',f (g x) ⟨mk y,h⟩=some (xZ (p x),⟨mk y',h⟩)->C)->C)->∀ y,(∀ y',forL f chk (l.map g) ⟨mk y,h⟩=some (xZ (l.any p),⟨mk y',h⟩)->C)->C:=by
 intro l;induction l with
 |nil =>
  intro _ y k;exact k y (k_fe hc)
 |cons x l ih =>
  intro H y k;refine H x aad y λz e=>?_
  rw[List.any_cons]at k;cases hp:p x<;>rw[hp]at e k
  ·exact ih (λx hx=>H x (aac _ hx)) z λy e2=>k y (bu hc e e2)
  ·exact k z (kO hc e)
section
variable{W:Wd}{L L' L'':List Ck}{h h' ee:MH}{n v:Nat}
abbrev I6(w i:V) (r:Rw) (p:Nat) (y4 y:Option MV):En:=[vv w,vv i,vv (bw r),vi p,y4,y]
theorem gu{p:Nat}(hp:p=2∨p=3) {r:Rw}:getItem prog h (bw r) (.int p)=some (.int (r.mid p)):=by
 rcases hp with rfl | rfl<;>rfl
theorem I7{C_:Prop}{i w:V}{r:Rw}{p:Nat}(hp:p=2∨p=3) {o:V}{zs:List V}(hz:aL o zs h=true) {t:Option MV}(l:List Rw) (hl:∀ o∈l,o.mode<7):∀ y:Option MV,(∀ y',forL (bE prog (aa prog (n+1)) [5] Ds) (aL o zs) (l.map bw) ⟨I6 w i r p t y,h⟩=some (xZ (l.any (lo1 r p)),⟨I6 w i r p t y',h⟩)->C_)->C_ :=
 oW (mk:=I6 w i r p t) hz l λx hx y k=>k (vv (bw x)) (by
  have e1:=Te (n:=n) (h:=h) (hl x hx);have hm:=gu hp (r:=x) (h:=h);refine bz rfl ?_;unfold lo1;by_cases h1:x.q=r.q
  ·have Of:fF x.q=fF r.q:=aab fF h1;rw[aaq h1,Bool.true_and];by_cases h2:x.ix.length=r.ix.length
   ·have h2':((ao x.ix).length:Int)=(ao r.ix).length:=by rw[aG,aG,h2]
    rw[aaq h2,Bool.true_and];by_cases h3:x.mid p=0
    ·have t0:=BU h3;rw[show decide (x.mid p≠0)=false from aaA λe=>e h3,Bool.false_and]
     walk_at"SS"
    ·have t0:=zx h3;rw[show decide (x.mid p≠0)=true from aaq h3,Bool.true_and]
     cases hs:slot x.mode<;>rw[hs]at e1<;>walk_at"SS"
   ·have h2':¬ ((ao x.ix).length:Int)=(ao r.ix).length:=by rw[aG,aG];exact λe=>h2 (Int.ofNat.inj e)
    rw[aaA h2,Bool.false_and];walk_at"SS"
  ·have Of:¬ fF x.q=fF r.q:=λe=>h1 (jr.mp e)
   rw[aaA h1,Bool.false_and];walk_at"SS")
theorem dF{j:Nat}(hj:j<W.tb.length):W.tb[j]? =some (W.bc j):=by
 unfold Wd.bc;rw[aao hj]
theorem BY{C_:Prop}(R:LW W h) (B:Wtb W) {i w:V}{r:Rw}{p:Nat}(hp:p=2∨p=3) {zs:List V}(l:List Nat) (hl:∀ j∈l,j<W.tb.length):∀ y:Option MV×Option MV,(∀ y':Option MV×Option MV,forL (bE prog (aa prog (n+1)) [4] Dt) (aL (.lst zs) zs) (l.map λj=>V.ref (jh j)) ⟨I6 w i r p y.1 y.2,h⟩=some (xZ (l.any λj=>(W.bc j).any (lo1 r p)),⟨I6 w i r p y'.1 y'.2,h⟩)->C_)->C_ :=
 oW (mk:=λy:Option MV×Option MV=>I6 w i r p y.1 y.2) rfl l λj hj y k=>by
  have hr:=R.rows j _ (dF (hl j hj));refine I7 (n:=n) hp (aU hr) (w:=w) (i:=i) (r:=r) (t:=vr (jh j)) (W.bc j) (B.m j _ (dF (hl j hj))) y.2 λy1 e1=>?_
  refine k (vr (jh j),y1) (bz rfl ?_);clear k R B;apply wSs
  repeat walk_at"Z"
  exact mX
theorem VW(R:LW W h) (B:Wtb W) {i:Nat}(hi:i<=W.tb.length) {r:Rw}(h0:r.g≠0∨r.s≠0):aa prog (n+2) 69 [.ref aW,.int i,bw r] h=some (.ret (.bool (W.DZ i r)) h):=by
 refine cps λC k_=>?_
 have fK:((jB []).bind λl=>(jB [V.int i]).bind λu=>slice h (.ref (.fld aW 3)) l u)=some (.lst ((List.range i).map λj=>.ref (jh j))):=by
  have:bW h (.ref (.fld aW 3))=_:=WQ R.tab;show(bW h (.ref (.fld aW 3))).bind _=_;rw[this];show(if 0<=(i:Int) then some (V.lst (List.take (i:Int).toNat W.gU)) else none)=_
  rw[aae (aaQ i),Int.toNat_natCast,Wd.gU,<- List.map_take,List.take_range,Nat.min_eq_left hi]
 have f1:=R.w;have hp:r.pt=2∨r.pt=3:=by unfold Rw.pt;split;exact .inl rfl;exact .inr rfl
 have a0:bG prog (aa prog (n+1)) (.asg 3 (.ite (.val (.item (.var 2) (.lit (.int 2)))) (.lit (.int 2)) (.lit (.int 3)))) ⟨[vr aW,vi i,vv (bw r),none,none,none],h⟩=some (.next,⟨I6 (.ref aW) (.int i) r r.pt none none,h⟩):=by
  unfold Rw.pt;clear k_ R fK hp;by_cases hg:r.g=0
  ·have t0:=BU hg;rw[aaf λe=>e hg]
   walk_at"S"
  ·have t0:=zx hg;rw[aae hg];walk_at"S"
 have hm:=gu hp (r:=r) (h:=h);unfold Wd.DZ at k_;by_cases h5:r.mode=5
 ·have h5':(r.mode:Int)=5:=by rw[h5];rfl
  have hx:=kmD (P:=prog) (x:=.int (r.mid r.pt)) R.put rfl eJ;rw[Option.isSome_map]at hx;rw[aae h5]at k_;refine k_ ?_;clear R B k_ fK;apply cf rfl rfl;apply tW a0;walk_at"R"
 ·have h5':¬ (r.mode:Int)=5:=λe=>h5 (Int.ofNat.inj e)
  rw[aaf h5]at k_;by_cases PU:r.mode=0
  ·have h6':(r.mode:Int)=0:=by rw[PU];rfl
   rw[aaf λe=>e PU]at k_
   refine BY (n:=n) R B hp (w:=.ref aW) (i:=.int i) (r:=r) (zs:=(List.range i).map λj=>.ref (jh j)) (List.range i) (λj hj=>aai (List.mem_range.mp hj) hi) (none,none) λy e2=>?_
   revert e2 k_;generalize ((List.range i).any λj=>(W.bc j).any (lo1 r r.pt))=c
   intro k_ e2;clear R B;cases c<;>(refine k_ ?_;clear k_;apply cf rfl rfl;apply tW a0;walk_at"R")
  ·have h6':¬ (r.mode:Int)=0:=λe=>PU (Int.ofNat.inj e)
   rw[aae PU]at k_;refine k_ ?_;clear R B k_ fK;apply cf rfl rfl;apply tW a0;walk_at"R"
end
theorem yA{xs:List V}{v:V}(h:xs.getLast? =some v):dm xs (-1)=some v:=by
 cases xs with
 |nil=>exact nomatch h
 |cons x l =>
  rw[List.getLast?_eq_getElem?]at h;unfold dm;rw[aaf (by decide),aae (by rw[aaI];exact i_1 (Nat.zero_lt_succ _)),<- h]
  congr 1;rw[aaI];lia
section
variable{W:Wd}{L L' L'':List Ck}{h h' ee:MH}{n v:Nat}
theorem oX{j aj ai p:Nat}{r o:Rw}{line:List (Nat×Nat)}:(W.fJ j aj ai r p line o).length<=line.length+1:=by
 unfold Wd.fJ;split
 ·split
  ·exact aaD aag
  ·exact Nat.succ_le_succ (aaV _)
 ·exact Nat.le_succ _
theorem yB{j aj ai p:Nat}{r:Rw}:∀ {l:List Rw}{line:List (Nat×Nat)},(l.foldl (W.fJ j aj ai r p) line).length<=line.length+l.length:=by
 intro l;induction l with
 |nil =>
  intro line;exact aat _
 |cons o l ih =>
  intro line;have a:=oX (W:=W) (j:=j) (aj:=aj) (ai:=ai) (p:=p) (r:=r) (o:=o) (line:=line);have b:=ih (line:=W.fJ j aj ai r p line o);rw[List.foldl_cons,aaI];exact aaj b (n_3 (aat _) a)
theorem BZ(B:Wtb W) {i a p:Nat}{r:Rw}:∀ {j:Nat},(W.lQ i a r p j).length<=4*j:=by
 intro j;induction j with
 |zero =>
  exact aat _
 |succ j ih =>
  have h2:=yB (W:=W) (j:=j) (aj:=W.ar i a j) (ai:=a) (p:=p) (r:=r) (l:=W.bc j) (line:=W.lQ i a r p j);have h3:=B.n j;rw[Wd.lbl_1];exact aaj h2 (Nat.add_le_add ih h3)
structure I8(W:Wd):Prop extends Wtb W where
 one:∀ (j:Nat) (rs:List Rw),W.tb[j]? =some rs->∀ o∈rs,o.g≠0∨o.s≠0
abbrev D0(W:Wd) (i a:Nat) (r:Rw) (p:Nat) (line:List (Nat×Nat)) (y6 y y8:Option MV):En:=[vr aW,vv (.lst (ao (W.args i a))),vi i,vv (bw r),vi p,some (.bH (line.map gX)),y6,y,y8]
theorem ju{i a j:Nat}(h:j<=i):dm (ao (W.args i a)) j=some (.int (W.ar i a j)):=ints_get.trans (by rw[args_get h];rfl)
theorem yC(R:LW W h) (B:Wtb W) {i a j p:Nat}{r x:Rw}(hp:p=2∨p=3) (hj:j<i) (J7:j<=W.tb.length) {y8 y:Option MV}(hm:x.mode<7) (hx:x.g≠0∨x.s≠0) {line:List (Nat×Nat)}(hl:line.length<1000) :
  bE prog (aa prog (n+2)) [7] xa (bw x) ⟨D0 W i a r p line (vi j) y y8,h⟩=some (.next,⟨D0 W i a r p (W.fJ j (W.ar i a j) a r p line x) (vi j) (vv (bw x)) y8,h⟩):=by
 refine cps λC k_=>?_
 have e1:=PT (n:=n+1) R (a:=W.ar i a j) (r:=x);have e2:=PT (n:=n+1) R (a:=a) (r:=r);have e3:=VW (n:=n) R B J7 hx;have a1:=ju (W:=W) (a:=a) (aay hj);have a2:=ju (W:=W) (a:=a) (aat i);rw[cD]at a2;have nm:=gu hp (r:=x) (h:=h);have pD:(line.map gX).length<1000:=by rw[aan];exact hl
 have hq:=Oe (P:=prog) (h:=h) (a:=x.ix.map (cl (some (W.ar i a j)))) (b:=r.ix.map (cl (some a)));refine k_ (bz rfl ?_);clear k_ R B;unfold Wd.fJ mt;by_cases h1:x.q=r.q
 ·have Of:fF x.q=fF r.q:=aab fF h1;rw[aaq h1,Bool.true_and];cases h2:x.seen
  ·have ts:truthy (.int (if x.seen=true then 1 else 0))=some false:=by rw[h2];rfl
   rw[Bool.false_and,aaf nofun];walk_at"SS"
  ·have ts:truthy (.int (if x.seen=true then 1 else 0))=some true:=by rw[h2];rfl
   rw[Bool.true_and];by_cases h3:x.ix.map (cl (some (W.ar i a j)))=r.ix.map (cl (some a))
   ·rw[aaq h3]at hq⊢;rw[aae rfl];cases h4:W.DZ j x<;>rw[h4]at e3
    ·rw[aaf nofun];walk_at"SS"
    ·rw[aae rfl];unfold D0;rw[aaP];walk_at"SS"
   ·rw[aaA h3]at hq⊢;rw[aaf nofun];walk_at"SS"
 ·have Of:¬ fF x.q=fF r.q:=λe=>h1 (jr.mp e)
  rw[aaA h1,Bool.false_and,aaf nofun];walk_at"SS"
theorem I9{C_:Prop}(R:LW W h) (B:Wtb W) {i a j p:Nat}{r:Rw}(hp:p=2∨p=3) (hj:j<i) (J7:j<=W.tb.length) {o:V}{zs:List V}(hz:aL o zs h=true) {y8:Option MV}:∀ (l:List Rw),(∀ o∈l,o.mode<7/\(o.g≠0∨o.s≠0))->∀ (line:List (Nat×Nat)) (y:Option MV),line.length+l.length<500->(∀ y',forL (bE prog (aa prog (n+2)) [7] xa) (aL o zs) (l.map bw) ⟨D0 W i a r p line (vi j) y y8,h⟩=some (.next,⟨D0 W i a r p (l.foldl (W.fJ j (W.ar i a j) a r p) line) (vi j) y' y8,h⟩)->C_)->C_:=by
 intro l;induction l with
 |nil =>
  intro _ line y _ k_;exact k_ y (k_fe hz)
 |cons x l ih =>
  intro hl line y hlen k_;rw[aaI]at hlen;have K_:=oX (W:=W) (j:=j) (aj:=W.ar i a j) (ai:=a) (r:=r) (p:=p) (line:=line) (o:=x);exact ih (λo ho=>hl o (aac _ ho)) (W.fJ j (W.ar i a j) a r p line x) (vv (bw x)) (O5 K_ hlen) λy' e=>k_ y' (bu hz (yC R B hp hj J7 (hl x aad).1 (hl x aad).2 (nJ hlen rfl)) e)
theorem se{j:Nat}(hj:j<W.tb.length):dm W.gU j=some (.ref (jh j)):=by unfold Wd.gU;rw[tG hj]
theorem B3{C_:Prop}(R:LW W h) (B:I8 W) {i a p:Nat}{r:Rw}(hp:p=2∨p=3) (hi:i<=W.tb.length) (h8:i<=8) {y8:Option MV}:∀ (k j:Nat),j+k=i->∀ (y6 y:Option MV),(∀ fL y',forL (tw prog (aa prog (n+2)) 6 Du) (λO=>true) (ao (List.range' j k)) ⟨D0 W i a r p (W.lQ i a r p j) y6 y y8,h⟩=some (.next,⟨D0 W i a r p (W.lQ i a r p i) fL y' y8,h⟩)->C_)->C_:=by
 intro k;induction k with
 |zero =>
  intro j hk y6 y k_;cases(show j=i from hk);exact k_ y6 y rfl
 |succ k ih =>
  intro j hk y6 y k_;have uz:j<i:=P0 (aaD hk);have hj:j<W.tb.length:=aai uz hi;have hr:=R.rows j _ (dF hj);have b1:=BZ B.toWtb (i:=i) (a:=a) (p:=p) (r:=r) (j:=j);have b2:=B.n j;refine I9 (n:=n) R B.toWtb (a:=a) (r:=r) hp uz (aay hj) (aU hr) (y8:=y8) (W.bc j) (λo ho=>⟨B.m j _ (dF hj) o ho,B.one j _ (dF hj) o ho⟩) (W.lQ i a r p j) y (cP (Nat.succ_le_succ (Nat.add_le_add (aaj b1 (Nat.mul_le_mul_left 4 (aaj (aay uz) h8))) b2)) rfl) λy1 e1=>?_
  refine ih (j+1) (uc hk) (vi j) y1 λfL y' e2=>?_
  have ht:=se hj;have f1:=R.w;have f2:=R.tab;have e1:_=some (_,St.mk (D0 W i a r p (W.lQ i a r p (j+1)) (vi j) y1 y8) h):=e1;refine k_ fL y' (bu rfl (tx ?_) e2);clear k_ R B e2;walk_at"SS"
theorem B4{zs:List V}:∀ (l:List (Nat×Nat)),bO (iV prog (aa prog n) Dv Dw []) (aL (.lst zs) zs) (l.map gX) h=some ((l.filter λq=>decide (q.2≠0)).map gX,h):=by
 intro l;induction l with
 |nil =>
  exact rfl
 |cons x_ l ih =>
  obtain⟨j,x⟩:=x_;have ih:=ih;by_cases hx:x=0
  ·have t0:=BU hx;rw[List.filter_cons_of_neg (p:=λq:Nat×Nat=>decide (q.2≠0)) (a:=(j,x)) λe=>(aaK e:x≠0) hx]
   refine QW rfl ?_ ih;clear ih;unfold gX;walk_at"C"
  ·have t0:=zx hx;rw[List.filter_cons_of_pos (p:=λq:Nat×Nat=>decide (q.2≠0)) (a:=(j,x)) (aaq hx)]
   refine Bk rfl ?_ ih;clear ih;unfold gX;walk_at"C"
theorem yD{j x u aj ai p:Nat}{r:Rw}:∀ (l:List Rw) (line:List (Nat×Nat)),(j,x)∈l.foldl (W.fJ u aj ai r p) line->(j,x)∈line∨j=u:=by
 intro l;induction l with
 |nil =>
  intro _ h;exact .inl h
 |cons o l ih =>
  intro line h;refine(ih _ h).elim (λh=>?_) .inr
  unfold Wd.fJ at h;split at h
  ·refine(aaM.mp h).imp (λh=>?_) λh=>aab Prod.fst (aar.mp h)
   split at h
   ·exact h
   ·exact nomatch h
  ·exact .inl h
theorem I_{i a p j x:Nat}{r:Rw}:∀ u,(j,x)∈W.lQ i a r p u->j<u:=by
 intro u;induction u with
 |zero =>
  intro h;exact nomatch h
 |succ u ih =>
  intro h;exact(yD _ _ h).elim (λh=>aaw (ih h)) λe=>e▸aaN _
theorem yE:∀ (k a:Nat),bC (a:Int) 1 k=ao (List.range' a k):=by
 intro k;induction k with
 |zero =>
  intro _;exact rfl
 |succ k ih =>
  intro a;exact aab (V.int a::·) (ih (a+1))
theorem kn{i:Nat}(h8:i<=8):(e9 [.int i]).map V.tup=some (.tup (ao (List.range' 0 i))):=by
 have e:=yE i 0;show((if -1000<=(i:Int)/\(i:Int)<=1000 then some (bC 0 1 (i:Int).toNat) else none)).map V.tup=_
 rw[aae (by exact And.intro (aaQ _) (Cu h8 rfl))]
 exact aab (λl=>some (V.tup l)) e
theorem c70{C_:Prop}(R:LW W h) (B:I8 W) (K:KT L h) (PR:getAttr h (.ref aS) 37=some (.ref aK)) (hg:∀ i,W.dy i<3) {i a p:Nat}{r:Rw}(hp:p=2∨p=3) (ha:d6 a) (hi:i<=W.tb.length) (qT:i<W.nl) (h8:i<=8) (k_:∀ L' h',aa prog (n+9) 70 [.ref aW,.lst (ao (W.args i a)),.int i,bw r,.int p] h=some (.ret (fH L' (W.yz i a r p)) h')->Gr L h L' h'->(∀ c x,W.yz i a r p=some (c,x)->c∈L')->C_):C_:=by
 refine B3 (n:=n+6) R B (a:=a) (r:=r) hp hi h8 (y8:=none) i 0 (Nat.zero_add i) none none λy6 y e1=>?_
 have VN:=kn h8;have e2:=B4 (h:=h) (n:=n+8) (zs:=(W.lQ i a r p i).map gX) (W.lQ i a r p i);unfold Wd.yz at k_;cases hl:((W.lQ i a r p i).filter λq=>decide (q.2≠0)).getLast? with
 |none =>
  rw[hl]at k_;rw[List.getLast?_eq_none_iff]at hl;rw[hl]at e2;refine k_ L h ?_ (.refl K) (λc x e=>nomatch e)
  clear k_ R B K PR hg hl;walk_at"cf"
 |some q =>
  rw[hl]at k_;have hj:=I_ i (aaY.mp (List.mem_of_getLast? hl)).1;refine J6 (n:=n) (l:=W.args i a) R K PR (Nat.lt_trans hj qT) (iu hj h8 rfl) (args_get (aay hj)) (rZ hg ha) λh' e3 g=>?_
  have D1:dm (((W.lQ i a r p i).filter λq=>decide (q.2≠0)).map gX) (-1)=some (gX q):=yA (by rw[List.getLast?_map,hl];rfl)
  have nL:((W.lQ i a r p i).filter λq=>decide (q.2≠0))≠[]:=λe=>by rw[e]at hl;exact nomatch hl
  revert e2 D1 nL;generalize ((W.lQ i a r p i).filter λq=>decide (q.2≠0))=fl
  intro e2 D1 nL;have nM:¬ ((fl.map gX).length:Int)=0:=λe=>nL (List.eq_nil_of_length_eq_zero (by rw[aan]at e;exact Int.ofNat.inj e))
  refine k_ _ h' ?_ g (λc x e=>by cases e;exact cC)
  clear k_ R B K PR hg hl nL g;walk_at"cf"
end
def Wd.fX(W:Wd) (top slot:Nat) (acc:Ck×Nat) (d:Nat×Nat×Nat):Ck×Nat:=if slot≠0/\d.1<top/\d.2.1=slot then (W.kd d.1 (W.ar top 16 d.1),d.2.2) else acc
noncomputable def Wd.ie(W:Wd) (top i x:Nat):Nat:=if i<top then (W.root.lookup x).getD 0 else 0
def Wd.ig(W:Wd) (top i x:Nat):Ck×Nat:=W.au.foldl (W.fX top (W.ie top i x)) (W.kd i (W.ar top 16 i),x)
def gH(L:List Ck) (q:Ck×Nat) (kl:List Nat):V:=.tup [.int (ah L q.1),.int q.2,.tup (ao kl)]
theorem oY{P:Prog}{h:MH}{xs:List V}(hp:pl (.tup xs)=true):a8 P h .eq (.tup xs) (.tup xs)=some true:=(aae ⟨hp,hp⟩).trans (aab some (kh _))
section
variable{W:Wd}{L L' L'':List Ck}{h h' ee:MH}{n v:Nat}
abbrev J8(W:Wd) (kl:List Nat) (y1 y2 y4:Option MV) (top:Nat) (y7 y8 y9 y10 y11 y12 y13 y14 y15 y16:Option MV):En :=
 [vr aW,y1,y2,vv (.tup (ao kl)),y4,vi top,vv (.lst (ao (W.args top 16))),y7,y8,y9,y10,y11,y12,y13,y14,y15,y16]
theorem yF{C_:Prop}{top slot:Nat}{kl:List Nat}(hg:∀ i,W.dy i<3) (ht:top<W.nl) (h8:top<=8) {y1 y2 y4 y7 y8 y10 y11 y13 y14 y15 y16:Option MV}{d:Nat×Nat×Nat}(R:WX W L h) (Q:LW W h) {acc:Ck×Nat}(ha:acc.1∈L)
  (k_:∀ L' h',bE prog (aa prog (n+8)) [13,14,15] xc (zy d) ⟨J8 W kl y1 y2 y4 top y7 y8 (vv (gH L acc kl)) y10 y11 (vi slot) y13 y14 y15 y16,h⟩ =
   some (.next,⟨J8 W kl y1 y2 y4 top y7 y8 (vv (gH L' (W.fX top slot acc d) kl)) y10 y11 (vi slot) (vi d.1) (vi d.2.1) (vi d.2.2) y16,h'⟩)->Gr L h L' h'->(W.fX top slot acc d).1∈L'->C_):C_:=by
 unfold Wd.fX at k_;by_cases hc:slot≠0/\d.1<top/\d.2.1=slot
 ·refine J6 (n:=n) (l:=W.args top 16) Q R.kt R.iX (Nat.lt_trans hc.2.1 ht) (by have:=hc.2.1;exact iu this h8 rfl) (args_get (aay hc.2.1)) (rZ hg (.inr (.inr rfl))) λh1 e1 g1=>?_
  rw[aae hc]at k_;have c1:=zx hc.1;have c2:(d.1:Int)<top:=Int.ofNat_lt.mpr hc.2.1;have c3:(d.2.1:Int)=slot:=aab _ hc.2.2;refine k_ _ h1 (bz rfl ?_) g1 cC;clear k_ hc hg R Q g1;walk_at"SS"
 ·rw[aaf hc]at k_;refine k_ L h (bz rfl ?_) (.refl R.kt) ha;clear k_ hg R Q;by_cases c1:slot=0
  ·have c1:=BU c1;walk_at"SS"
  ·have c1':=zx c1;by_cases c2:d.1<top
   ·have c2':(d.1:Int)<top:=Int.ofNat_lt.mpr c2;have c3:¬ (d.2.1:Int)=slot:=λe=>hc ⟨c1,c2,Int.ofNat.inj e⟩
    walk_at"SS"
   ·have c2':¬ (d.1:Int)<top:=λe=>c2 (Int.ofNat_lt.mp e)
    walk_at"SS"
theorem yG{C_:Prop}{top slot:Nat}{kl:List Nat}(hg:∀ i,W.dy i<3) (ht:top<W.nl) (h8:top<=8) {y1 y2 y4 y7 y8 y10 y11 y16:Option MV}{o:V}{zs:List V}(hz:∀ {L h},WX W L h->LW W h->aL o zs h=true) :
  ∀ (l:List (Nat×Nat×Nat)) {L:List Ck}{h:MH}(R:WX W L h) (Q:LW W h) (acc:Ck×Nat) (ha:acc.1∈L) (y13 y14 y15:Option MV),(∀ yH yI yJ L' h',forL (bE prog (aa prog (n+8)) [13,14,15] xc) (aL o zs) (l.map zy) ⟨J8 W kl y1 y2 y4 top y7 y8 (vv (gH L acc kl)) y10 y11 (vi slot) y13 y14 y15 y16,h⟩ =
   some (.next,⟨J8 W kl y1 y2 y4 top y7 y8 (vv (gH L' (l.foldl (W.fX top slot) acc) kl)) y10 y11 (vi slot) yH yI yJ y16,h'⟩)->Gr L h L' h'->(l.foldl (W.fX top slot) acc).1∈L'->C_)->C_:=by
 intro l;induction l with
 |nil =>
  intro L h R Q acc ha y13 y14 y15 k_;exact k_ y13 y14 y15 L h (k_fe (hz R Q)) (.refl R.kt) ha
 |cons d l ih =>
  intro L h R Q acc ha y13 y14 y15 k_;exact yF (n:=n) (slot:=slot) (kl:=kl) hg ht h8 R Q ha λL1 h1 e g m =>
  ih (R.gr g) (Q.gr g) _ m _ _ _ λa b c L' h' e2 g2 m2=>k_ a b c L' h' (bu (hz R Q) e e2) (g.trans g2) m2
theorem D2{C_:Prop}{W:Wd}{kl:List Nat}{y2 y7 y10 y11 y12 y13 y14 y15:Option MV}{top:Nat}{ob:Bool}{m8:V}{ws:List V}{h3:MH}(hw:pl (.tup ws)=true) (e5:aa prog n 54 [.ref aY,m8] h=if ob=true then some (.ret (.tup ws) h3) else some (.exc h3)) (k_:∀ E',rn (aa prog n) (tSs prog (.cons oF (.cons rS (.cons oG .nil))) (J8 W kl (vr aY) y2 (vv (.bool ob)) top y7 (vv m8) (vv (.tup ws)) y10 y11 y12 y13 y14 y15 none) rt) h=some (.ret (.bool true),⟨E',h3⟩)->C_):C_:=by
 have hq:=oY (P:=prog) (h:=h3) hw;cases ob
 ·rw[aaf nofun]at e5;apply k_;walk_at"R"
 ·rw[aae rfl]at e5;apply k_;walk_at"R"
theorem tX(Q:LW W h) {x:Nat}:kY prog h (.ref (.fld aW 5)) (.int x) (.int 0)=some (.int ((W.root.lookup x).getD 0:Nat)):=by
 cases e:W.root.lookup x with
 |none=>exact gdN Q.root rfl (eJ.trans (by rw[e];rfl))
 |some s=>exact gdS Q.root rfl (eJ.trans (by rw[e];rfl))
theorem yK{C_:Prop}{turn:Int}{m:Nat}(k_:∀ sp:Nat,binop .mod (.int turn) (.int ((m:Int)+1))=some (.int sp)->C_):C_:=by
 refine k_ ((turn.fmod ((m:Int)+1)).toNat) ?_;show(if 0<(m:Int)+1 then some (V.int (turn.fmod ((m:Int)+1))) else none)=_
 rw[aae (by exact Cu (aat _) rfl),Int.fmod_eq_emod_of_nonneg _ (by exact aaQ _),Int.toNat_of_nonneg (Int.emod_nonneg _ (by exact sG (Nat.succ_ne_zero _)))]
theorem D3(R:WX W L h) (Q:LW W h) {i:Nat}(pE:W.lv.length=i+2) (nM:W.nl=i+2) (h4:i+2<=5) {turn:Int}{kl:List Nat}{ob:Bool}{ss:aA}{r:Option (Fl×St)}{sp:Nat}(hm:binop .mod (.int turn) (.int ((W.aZ.map gX).length+1))=some (.int sp))
  (e:rn (aa prog (n+1)) (tSs prog ss (J8 W kl (vr aY) (vi turn) (vv (.bool ob)) (i+1) (vi sp) (vv (.tup [])) (vv (.tup [])) none none none none none none none) rt) h=r) :
  rn (aa prog (n+1)) (tSs prog (.cons xd (.cons xe (.cons xf (.cons xg (.cons xh ss))))) [vr aW,vr aY,vi turn,vv (.tup (ao kl)),vv (.bool ob),none,none,none,none,none,none,none,none,none,none,none,none] rt) h=r:=by
 have e1:aa prog (n+1) 61 [.ref aW,.int (i+1:Nat),.int 16] h=_:=Od (n:=n) Q R.dy (i:=i+1) (a:=16) (aaD (Eq.symm nM)) (zC nM h4);have b0:binop .sub (.int W.qR.length) (.int 1)=some (.int (i+1:Nat)):=aab (λk=>some (V.int k)) (by
  rw[Wd.qR,aan,List.length_take,pE,nM,Nat.min_self];exact i_7)
 have f1:=Q.w;have f2:=Q.lv;have f3:=Q.aZ;clear R Q
 repeat walk_at"Z"
 exact e
theorem Og{vt:Vt}{k1:Int}{x:Nat}{c:Ck}{q:Ck×Nat}{kl:List Nat}{L2 L3:List Ck}(p:L2 <+: L3) (hq:q.1∈L2) (hk:k1=ah L2 c) (e:(match vt.sl.lookup x with
   |some s=>vt.rows[s]?
   |none=>some (c,x))=some q):PM L3 vt (some (.int k1,x,.tup (ao kl)))=gH L2 q kl:=by
 revert e;show _->(vt.sl.lookup x).elim (V.tup [.int k1,.int x,.tup (ao kl)]) (λs=>(vt.rows[s]?).elim V.none λr=>V.tup [.int (ah L3 r.1),.int r.2,.tup (ao kl)])=gH L2 q kl
 cases vt.sl.lookup x with
 |none =>
  intro e;have e:=aah e;subst e;exact aab (λk=>V.tup [.int k,.int x,.tup (ao kl)]) hk
 |some s =>
  intro e;have e:vt.rows[s]? =some q:=e;show(vt.rows[s]?).elim _ _=_;rw[e];show V.tup [.int (ah L3 q.1),_,_]=_;rw[aN p hq];rfl
theorem c71{C_:Prop}(K:kj W) (J:tP W) (DX:∀ i,(W.bP i).length<=4) (R:WX W L h) (Q:LW W h) {i:Nat}(hi:W.ty.length=i+2) (pE:W.lv.length=i+2) (nM:W.nl=i+2) {vt:Vt}(e:W.jg (W.bN i (W.pa (i+1) 16)) 0 ⟨[],[]⟩=some vt) (fK:∀ x s,vt.sl.lookup x=some s->s<vt.rows.length)
  (qQ:∀ j x,(j,x)∈W.aZ->j<i+2) (hp:W.ob=true->∀ j x,(j,x)∈W.aZ->(match vt.sl.lookup x with
   |some s=>vt.rows[s]?
   |none=>some (W.kd j (W.ar (i+1) 16 j),x))=some (W.ig (i+1) j x)) {turn:Int}{kl:List Nat}(J9:kl=[]∨kl=[13]) (k_:∀ L' h',aa prog (n+16) 71 [.ref aW,.ref aY,.int turn,.tup (ao kl),.bool W.ob] h=some (.ret (.bool true) h')->Gv L h L' h'->C_):C_:=by
 have h4:=R.n4;rw[hi]at h4;refine yK (turn:=turn) (m:=(W.aZ.map gX).length) λsp hm=>?_
 have NI:∀ (q:Ck×Nat) L,pl (gH L q kl)=true:=λq L=>by clear k_;rcases J9 with rfl | rfl<;>rfl
 have f1:=Q.w;have f3:=Q.aZ;by_cases hs:sp<W.aZ.length
 ·have e2:dm (W.aZ.map gX) sp=some (gX W.aZ[sp]):=by rw[bI,List.getElem?_map,aao hs];rfl
  have PV:=List.getElem_mem hs;revert e2 PV;generalize W.aZ[sp]=q;obtain⟨j,x⟩:=q;intro e2 PV;have hj:=qQ j x PV;refine J6 (n:=n+7) (l:=W.args (i+1) 16) Q R.kt R.iX (nM▸hj) (iu hj h4 rfl) (args_get (aax hj)) (rZ R.dy (.inr (.inr rfl))) λh1 e3 g1=>?_
  have R1:=R.gr g1;have Q1:=Q.gr g1;refine yG (n:=n+7) (kl:=kl) (top:=i+1) (slot:=W.ie (i+1) j x) R.dy (aaD (Eq.symm nM)) (nJ h4 rfl) (o:=.ref (.fld aW 6)) (zs:=W.au.map zy) (y1:=vr aY) (y2:=vi turn) (y4:=vv (.bool W.ob)) (y7:=vi sp)
   (y8:=vv (gH (ins L (W.kd j (W.ar (i+1) 16 j))) (W.kd j (W.ar (i+1) 16 j),x) kl)) (y10:=vi j) (y11:=vi x) (y16:=none) (λR Q=>aU Q.au) W.au R1 Q1 (W.kd j (W.ar (i+1) 16 j),x) cC none none none λa13 a14 a15 L2 h2 e4 g2 m2=>?_
  have hw:=NI (W.ig (i+1) j x) L2;refine VO (n:=n) K J DX (R1.gr g2) hi e fK (some (.int (ah (ins L (W.kd j (W.ar (i+1) 16 j))) (W.kd j (W.ar (i+1) 16 j))),x,.tup (ao kl))) λL3 h3 e5 g3 m3=>?_
  have e5:aa prog (n+15) 54 [.ref aY,gH (ins L (W.kd j (W.ar (i+1) 16 j))) (W.kd j (W.ar (i+1) 16 j),x) kl] h2=if W.ob=true then some (.ret (gH L2 (W.ig (i+1) j x) kl) h3) else some (.exc h3):=e5.trans (by
   cases ho:W.ob
   ·rfl
   ·exact aab (λv=>some (aB.ret v h3)) (Og g3.pre m2 (aab _ (aN g2.pre cC).symm) (hp ho j x PV)))
  refine D2 (n:=n+15) (W:=W) (kl:=kl) (y2:=vi turn) (y7:=vi sp) (y10:=vi j) (y11:=vi x) (y12:=vi (W.ie (i+1) j x)) (y13:=a13) (y14:=a14) (y15:=a15) (top:=i+1) hw e5 λE' et=>?_
  refine k_ L3 h3 ?_ (g1.toV.trans (g2.toV.trans g3));have zw:(sp:Int)<(W.aZ.map gX).length:=by rw[aan];exact Int.ofNat_lt.mpr hs
  have f4:=Q1.w;have f5:=Q1.au;have f6:=gid Q1.root;have hd:=tX Q1 (x:=x);have cont:=D3 (n:=n+14) (ob:=W.ob) (kl:=kl) R Q pE nM (Nat.le_succ_of_le h4) hm (r:=some (.ret (.bool true),⟨E',h3⟩)) (ss:=.cons rR (.cons oF (.cons rS (.cons oG .nil))));clear k_ R Q R1 Q1 K J g1 g2 g3 m2 m3 hp qQ NI e5 hw;refine cf rfl rfl (cont (tW ?_ et));clear cont et;rw[show W.au.foldl (W.fX (i+1) (W.ie (i+1) j x)) (W.kd j (W.ar (i+1) 16 j),x)=W.ig (i+1) j x from rfl]at e4
  generalize W.ig (i+1) j x=wp at e4⊢;by_cases uz:j<i+1
  ·have hc:(j:Int)<(i+1:Nat):=Int.ofNat_lt.mpr uz;have hv:W.ie (i+1) j x=(W.root.lookup x).getD 0:=aae uz;rw[hv]at e4⊢;walk_at"S"
  ·have hc:¬ (j:Int)<(i+1:Nat):=λe=>uz (Int.ofNat_lt.mp e)
   have hv:W.ie (i+1) j x=0:=aaf uz;rw[hv]at e4⊢;walk_at"S"
 ·refine VO (n:=n) K J DX R hi e fK none λL3 h3 e5 g3 m3=>?_
  have e5:aa prog (n+15) 54 [.ref aY,.tup []] h=if W.ob=true then some (.ret (.tup []) h3) else some (.exc h3):=e5.trans (by cases W.ob<;>rfl)
  refine D2 (n:=n+15) (W:=W) (kl:=kl) (y2:=vi turn) (y7:=vi sp) (y10:=none) (y11:=none) (y12:=none) (y13:=none) (y14:=none) (y15:=none) (top:=i+1) (ws:=[]) rfl e5 λE' et=>?_
  refine k_ L3 h3 ?_ g3;have zw:¬ (sp:Int)<(W.aZ.map gX).length:=by rw[aan];exact λe=>hs (Int.ofNat_lt.mp e)
  have cont:=D3 (n:=n+14) (ob:=W.ob) (kl:=kl) R Q pE nM (Nat.le_succ_of_le h4) hm (r:=some (.ret (.bool true),⟨E',h3⟩)) (ss:=.cons rR (.cons oF (.cons rS (.cons oG .nil))));clear k_ R Q K J g3 m3 hp qQ NI e5;refine cf rfl rfl (cont (tW ?_ et));clear cont et;walk_at"S"
end
theorem i1:prog.init 1=some 20:=rfl
theorem i2:prog.init 2=some 21:=rfl
section
variable{W:Wd}{L L' L'':List Ck}{h h' ee:MH}{n v:Nat}
theorem c20{C_:Prop}{a:Ad}{tid sort:Nat}{base:Int}{nm:Str}{np:Nat}(hp:np<=1) (ha:h.get a=some (.inst 1 [])) (k_:∀ h',aa prog (n+1) 20 [.ref a,.int tid,.str nm,.int sort,.int 0,.int base,.tup (List.replicate np (.str (Str.ofString "T"))),.int 0] h=some (.ret .none h')->xJ h' a tid sort base np [] [] []->(∀ b,b≠a->(∀ k,b≠.fld a k)->h'.get b=h.get b)->h'.cnt=h.cnt->h'.aq=h.aq->C_):C_:=by
 have fa:∀ k,.fld a k≠a:=λk=>Ad.fld_ne.symm
 rcases np with _ | _ | np
 case succ.succ=>exact absurd hp (Nat.not_lt_of_le (Nat.zero_lt_succ _))
 case zero =>
  apply k_
  ·walk_at"cfN"
  ·refine .of kgeq (by kernel_rfl) (by kernel_rfl) (by kernel_rfl) (by kernel_rfl) (by kernel_rfl) (by kernel_rfl) (by kernel_rfl) (by kernel_rfl) ?_ ?_ ?_ ?_
   ·repeat (first | exact kgeq | refine kgne (by first | exact fa _ | exact fldk (by decide)) ?_)
   ·repeat (first | exact kgeq | refine kgne (by first | exact fa _ | exact fldk (by decide)) ?_)
   ·repeat (first | exact kgeq | refine kgne (by first | exact fa _ | exact fldk (by decide)) ?_)
   ·repeat (first | exact kgeq | refine kgne (by first | exact fa _ | exact fldk (by decide)) ?_)
  ·intro b hb hk;(repeat refine kgne (by first | exact hb | exact hk _) ?_);rfl
  ·rfl
  ·rfl
 case succ.zero =>
  apply k_
  ·apply cfN rfl rfl;walk_at"E0"
   repeat walk_at"Z"
   apply sl
   ·refine(?_:T.L _ (.loop _ _ _ _ _) _=_);apply bu
    ·exact rfl
    ·apply bz
     ·exact rfl
     ·walk_at"SS"
    ·exact k_fe rfl
   walk_at"R"
  ·refine .of kgeq (by kernel_rfl) (by kernel_rfl) (by kernel_rfl) (by kernel_rfl) (by kernel_rfl) (by kernel_rfl) (by kernel_rfl) (by kernel_rfl) ?_ ?_ ?_ ?_
   ·repeat (first | exact kgeq | refine kgne (by first | exact fa _ | exact fldk (by decide)) ?_)
   ·repeat (first | exact kgeq | refine kgne (by first | exact fa _ | exact fldk (by decide)) ?_)
   ·repeat (first | exact kgeq | refine kgne (by first | exact fa _ | exact fldk (by decide)) ?_)
   ·repeat (first | exact kgeq | refine kgne (by first | exact fa _ | exact fldk (by decide)) ?_)
  ·intro b hb hk;(repeat refine kgne (by first | exact hb | exact hk _) ?_);rfl
  ·rfl
  ·rfl
end
theorem B5{a b:Str}(h:a.length+b.length<=1000):binop .add (.str a) (.str b)=some (.str (a++b)):=aae h
section
variable{W:Wd}{L L' L'':List Ck}{h h' ee:MH}{n v:Nat}
theorem c23{k:Nat}(hk:k<=2) (h:MH):aa prog (n+1) 23 [.int k] h=some (.ret (match aa prog (n+1) 23 [.int k] h with | some (.ret v _)=>v | _=>.none) h):=by
 match k,hk with
 |0,_=>kernel_rfl
 |1,_=>kernel_rfl
 |2,_=>kernel_rfl
theorem c21{C_:Prop}{a:Ad}{mid own acc ret:Nat}{fl:Int}{nm:Str}{par:List Nat}(hp:par.length<=2) (ha:h.get a=some (.inst 2 [])) (k_:∀ h',aa prog (n+2) 21 [.ref a,.int mid,.int own,.str nm,.int acc,.int fl,.int ret,.tup (ao par)] h=some (.ret .none h')->zv h' a own nm acc fl ret par->(∀ b,b≠a->(∀ k,b≠.fld a k)->h'.get b=h.get b)->h'.cnt=h.cnt->h'.aq=h.aq->C_):C_:=by
 obtain⟨F,hF⟩:∃ F:MH->V,∀ h,aa prog (n+1) 23 [.int (ao par).length] h=some (.ret (F h) h):=⟨_,λh=>c23 (aG▸hp) h⟩
 have hb:binop .mul (.tup [.int 0]) (.int (ao par).length)=some (.tup (List.replicate par.length (.int 0))):=(aae ⟨aaQ _,by rw[aG];exact Cu hp rfl⟩).trans (by rw[aG];rfl)
 apply k_
 ·apply cfN rfl rfl;walk_at"E0"
  repeat (first | walk_at"Z" | (apply sc;(refine(?_:T.C _ (.call _ _ _ _) _=_));exact hF _))
  exact sR rfl
 ·exact .of kgeq (by kernel_rfl) (by kernel_rfl) (by kernel_rfl) (by kernel_rfl) (by kernel_rfl) ⟨_,by exact rfl⟩ (by kernel_rfl) (by kernel_rfl)
 ·intro b hb hk;(repeat refine kgne (by first | exact hb | exact hk _) ?_);rfl
 ·rfl
 ·rfl
end
def Wd.jv(W:Wd) (i j:Nat) (r:Rw) (p:Nat) (o:Rw):Bool:=decide (o.q=r.q)&&(decide (o.mid p≠0)&&(slot o.mode&&decide (o.ix.map (cl (some (W.ar i 16 j)))=r.ix.map (cl (some 16)))))
noncomputable def Wd.kq(W:Wd) (i:Nat) (r:Rw) (p:Nat):Nat->Option (Nat×Nat)
 |0=>none
 |j+1=>match (W.bc j).find? (W.jv i j r p) with
  |some o=>some (j,o.mid p)
  |none=>W.kq i r p j
theorem Wd.lR{W:Wd}{i p j:Nat}{r:Rw}:W.kq i r p (j+1)=match (W.bc j).find? (W.jv i j r p) with | some o=>some (j,o.mid p) | none=>W.kq i r p j:=rfl
def uA:Option (Nat×Nat)->V
 |none=>.none
 |some q=>gX q
noncomputable def PW:Option V->Fl
 |none=>.next
 |some v=>.ret v
theorem tY{C:Prop}{α σ:Type}{f:V->St->Option (Fl×St)}{chk:MH->Bool}{g:α->V}{p:α->Bool}{rt:α->V}{mk:σ->En}{h:MH}(hc:chk h=true):∀ (l:List α),(∀ x∈l,∀ y,(∀ y',f (g x) ⟨mk y,h⟩=some (cond (p x) (.ret (rt x)) .next,⟨mk y',h⟩)->C)->C)->∀ y,(∀ y',forL f chk (l.map g) ⟨mk y,h⟩=some (PW ((l.find? p).map rt),⟨mk y',h⟩)->C)->C:=by
 intro l;induction l with
 |nil =>
  intro _ y k;exact k y (k_fe hc)
 |cons x l ih =>
  intro H y k;refine H x aad y λz e=>?_
  rw[List.find?_cons]at k;cases hp:p x<;>rw[hp]at e k
  ·exact ih (λx hx=>H x (aac _ hx)) z λy e2=>k y (bu hc e e2)
  ·exact k z (kO hc e)
section
variable{W:Wd}{L L' L'':List Ck}{h h' ee:MH}{n v:Nat}
abbrev Ja(W:Wd) (i:Nat) (r:Rw) (p:Nat) (y6 y:Option MV):En:=[vr aW,vi i,vv (bw r),vi p,vv (.lst (ao (W.args i 16))),vv (.lst (ao (r.ix.map (cl (some 16))))),y6,y]
theorem Jb{C_:Prop}(R:LW W h) {i j p:Nat}{r:Rw}(hp:p=2∨p=3) (hj:j<i) {o:V}{zs:List V}(hz:aL o zs h=true) (l:List Rw) (hl:∀ o∈l,o.mode<7):∀ (y:Option MV),(∀ y',forL (bE prog (aa prog (n+1)) [7] Dk) (aL o zs) (l.map bw) ⟨Ja W i r p (vi j) y,h⟩=some (PW ((l.find? (W.jv i j r p)).map λo=>gX (j,o.mid p)),⟨Ja W i r p (vi j) y',h⟩)->C_)->C_ :=
 tY (mk:=Ja W i r p (vi j)) hz l λx hx y k=>k (vv (bw x)) (by
  have e1:=Te (n:=n) (h:=h) (hl x hx);have e2:=PT (n:=n) R (a:=W.ar i 16 j) (r:=x);have a1:=ju (W:=W) (a:=16) (aay hj);have nm:=gu hp (r:=x) (h:=h);have hq:=Oe (P:=prog) (h:=h) (a:=x.ix.map (cl (some (W.ar i 16 j)))) (b:=r.ix.map (cl (some 16)));refine bz rfl ?_;clear R hl;unfold Wd.jv;by_cases h1:x.q=r.q
  ·have Of:fF x.q=fF r.q:=aab fF h1;rw[aaq h1,Bool.true_and];by_cases h2:x.mid p=0
   ·have t0:=BU h2;rw[show decide (x.mid p≠0)=false from aaA λe=>e h2,Bool.false_and]
    walk_at"SS"
   ·have t0:=zx h2;rw[show decide (x.mid p≠0)=true from aaq h2,Bool.true_and]
    cases h3:slot x.mode<;>rw[h3]at e1
    ·walk_at"SS"
    ·rw[Bool.true_and];cases h4:decide (x.ix.map (cl (some (W.ar i 16 j)))=r.ix.map (cl (some 16)))<;>rw[h4]at hq<;>walk_at"SS"
  ·have Of:¬ fF x.q=fF r.q:=λe=>h1 (jr.mp e)
   rw[aaA h1,Bool.false_and];walk_at"SS")
theorem Jc{i p j:Nat}{r:Rw}:(W.kq i r p (j+1)).map gX=(((W.bc j).find? (W.jv i j r p)).map λo=>gX (j,o.mid p)).or ((W.kq i r p j).map gX):=by
 rw[Wd.lR];cases(W.bc j).find? (W.jv i j r p)<;>rfl
theorem B6{C_:Prop}(R:LW W h) (hm:∀ j,∀ o∈W.bc j,o.mode<7) {i p:Nat}{r:Rw}(hp:p=2∨p=3) (hi:i<=W.tb.length):∀ (u:Nat),u<=i->∀ (y6 y:Option MV),(∀ fL y',forL (tw prog (aa prog (n+1)) 6 wJ) (λO=>true) (bC ((u:Int)-1) (-1) u) ⟨Ja W i r p y6 y,h⟩=some (PW ((W.kq i r p u).map gX),⟨Ja W i r p fL y',h⟩)->C_)->C_:=by
 intro j;induction j with
 |zero =>
  intro _ y6 y k_;exact k_ y6 y rfl
 |succ j ih =>
  intro hj y6 y k_;have J7:j<W.tb.length:=aai hj hi;have hr:=R.rows j _ (dF J7);refine Jb (n:=n) R (r:=r) hp hj (aU hr) (W.bc j) (hm j) y λy1 e1=>?_
  have ht:=se J7;have f1:=R.w;have f2:=R.tab;have hI:bC (((j+1:Nat):Int)-1) (-1) (j+1)=.int j::bC ((j:Int)-1) (-1) j:=by
   rw[Int.natCast_succ,Int.add_sub_cancel];rfl
  rw[hI,Jc]at k_;have st:tw prog (aa prog (n+1)) 6 wJ (.int j) ⟨Ja W i r p y6 y,h⟩=some (PW (((W.bc j).find? (W.jv i j r p)).map λo=>gX (j,o.mid p)),⟨Ja W i r p (vi j) y1,h⟩):=by
   refine tx ?_;clear k_ R;apply wSs
   repeat walk_at"Z"
   exact mX
  revert st k_;generalize (((W.bc j).find? (W.jv i j r p)).map λo=>gX (j,o.mid p))=q
  intro k_ st;cases q with
  |some v=>exact k_ _ _ (kO rfl st)
  |none=>exact ih (Nat.le_of_succ_le hj) _ _ λO O e=>k_ _ _ (bu rfl st e)
theorem c65(R:LW W h) (hg:∀ i,W.dy i<3) (hm:∀ j,∀ o∈W.bc j,o.mode<7) {i p:Nat}{r:Rw}(hp:p=2∨p=3) (hi:i<=W.tb.length) (qT:i<W.nl) (h5:W.nl<=5):aa prog (n+2) 65 [.ref aW,.int i,bw r,.int p] h=some (.ret (uA (W.kq i r p i)) h):=by
 have e1:aa prog (n+1) 61 [.ref aW,.int i,.int 16] h=_:=Od (n:=n) R hg (i:=i) (a:=16) qT h5;have e2:aa prog (n+1) 63 [.ref aW,bw r,.int 16] h=_:=PT (n:=n) R (a:=16) (r:=r);have a1:dm (ao (W.args i 16)) i=some (.int 16):=(ju (aat _)).trans (by rw[cD];rfl)
 refine B6 (n:=n) R hm (r:=r) hp hi i (aat _) none none λy6 y e3=>?_
 have VN:(e9 [.int ((i:Int)-1),.int (-1),.int (-1)]).map V.tup=some (.tup (bC ((i:Int)-1) (-1) i)):=by
  show(if (-1:Int)= -1/\ -1000<=(i:Int)-1/\(i:Int)-1<=1000/\ -1000<=(-1:Int)/\(-1:Int)<=1000 then some (bC ((i:Int)-1) (-1) ((i:Int)-1-(-1)).toNat) else none).map V.tup=_
  rw[aae (by lia),show((i:Int)-1-(-1)).toNat=i by lia]
  rfl
 have f1:=R.w;clear R hm hg;cases hs:W.kq i r p i<;>rw[hs]at e3<;>walk_at"cf"
end
structure AW(W:Wd) (L:List Ck) (h:MH):Prop where
 wr:WR W L h
 lw:LW W h
 c1:h.cnt 1=W.b+W.ty.length
 c2:h.cnt 2=W.ms.length+1
 c3:h.cnt 7=0/\h.cnt 8=0
noncomputable def bb(f:Ty->Ty):Nat->List Ty->List Ty
 |_,[]=>[]
 |0,t::l=>f t::l
 |i+1,t::l=>t::bb f i l
theorem B7{f:Ty->Ty}{i:Nat}:bb f i []=[]:=by cases i<;>rfl
theorem si{f:Ty->Ty}{t:Ty}{l:List Ty}:bb f 0 (t::l)=f t::l:=rfl
theorem ij{f:Ty->Ty}{i:Nat}{t:Ty}{l:List Ty}:bb f (i+1) (t::l)=t::bb f i l:=rfl
theorem bB{f:Ty->Ty}:∀ {i:Nat}{l:List Ty},(bb f i l).length=l.length
 |_,[]=>by cases ‹Nat›<;>rfl
 |0,_::_=>rfl
 |i+1,t::l=>by simp[ij,bB (i:=i) (l:=l)]
theorem bh{f:Ty->Ty}:∀ {i j:Nat}{l:List Ty},(bb f i l)[j]? =if j=i then (l[j]?).map f else l[j]?
 |i,j,[]=>by cases i<;>simp[B7]
 |0,0,_::_=>rfl
 |0,j+1,_::_=>by simp[si]
 |i+1,0,t::l=>by simp[ij]
 |i+1,j+1,t::l=>by simp[ij,bh (i:=i) (j:=j) (l:=l)]
section
variable{W W':Wd}{L L' L'':List Ck}{h h' ee:MH}{n v:Nat}
theorem WR.cS(R:WR W L h) (e1:W'.ty=W.ty) (e2:W'.lv=W.lv) (e3:W'.ms=W.ms) (e4:W'.ob=W.ob):WR W' L h:=by
 obtain⟨ob,lv,tb,ty,ms,aZ,root,au,put,nl⟩:=W;obtain⟨jk,lv',tb',ty',ms',Oh,Oi,Jd,Tf,nl'⟩:=W';simp only at e1 e2 e3 e4;subst e1 e2 e3 e4;exact⟨R.kt,R.n4,R.PE,R.dy,R.iX,R.mQ,R.kS,R.types,R.meths,R.xM,R.IE,R.tys,R.IF,R.ur,R.NL,R.JW⟩
theorem LW.cS(R:LW W h) (e1:W'.lv=W.lv) (e2:W'.nl=W.nl) (e3:W'.tb=W.tb) (e4:W'.aZ=W.aZ) (e5:W'.root=W.root) (e6:W'.au=W.au) (e7:W'.put=W.put):LW W' h:=by
 obtain⟨ob,lv,tb,ty,ms,aZ,root,au,put,nl⟩:=W;obtain⟨jk,lv',tb',ty',ms',Oh,Oi,Jd,Tf,nl'⟩:=W';simp only at e1 e2 e3 e4 e5 e6 e7;subst e1 e2 e3 e4 e5 e6 e7;exact⟨R.t0,R.w,R.BX,R.lv,R.tab,R.rows,R.aZ,R.root,R.au,R.put⟩
theorem WR.set(R:WR W L h) {a:Ad}{o:aP}(ha:Nat.ble 10 a.rt=true):WR W L (h.set a o) :=
 have k:∀ {b:Ad},b.rt<=3->(h.set a o).get b=h.get b:=λq=>cZ λe=>absurd (aaj (aaz ha) (e▸q)) (by decide)
 R.keep (R.kt.of_get λb hb=>k (by rw[Nat.eq_of_beq_eq_true hb];decide)) List.prefix_rfl λb hb=>k (aaz (ae hb).2)
theorem AW.gr(A:AW W L h) (g:Gr L h L' h'):AW W L' h':=⟨A.wr.gr g,A.lw.gr g,by rw[g.cnt];exact A.c1,by rw[g.cnt];exact A.c2,by rw[g.cnt];exact A.c3⟩
theorem yL{α:Type}{f:α->V}{l:List α}{d:α}:(l.map f++[f d])=(l++[d]).map f:=(aaP (f:=f) (l₁:=l) (l₂:=[d])).symm
theorem AW.root(A:AW W L h) {x s:Nat}:AW { W with root:=bx x s W.root } L (h.set (.fld aW 5) (.dict (fG (bx x s W.root)))) :=
 have Q:=A.lw
 ⟨(A.wr.set rfl).cS rfl rfl rfl rfl,⟨Q.t0,kgnd rfl Q.w,Q.BX,kgnd rfl Q.lv,kgnd rfl Q.tab,λi rs h=>kgnd rfl (Q.rows i rs h),kgnd rfl Q.aZ,h_,kgnd rfl Q.au,kgnd rfl Q.put⟩,A.c1,A.c2,A.c3⟩
theorem AW.Oj(A:AW W L h) {d:Nat×Nat×Nat}:AW { W with au:=W.au++[d] } L (h.set (.fld aW 6) (.list (W.au.map zy++[zy d]))) :=
 have Q:=A.lw
 ⟨(A.wr.set rfl).cS rfl rfl rfl rfl,⟨Q.t0,kgnd rfl Q.w,Q.BX,kgnd rfl Q.lv,kgnd rfl Q.tab,λi rs h=>kgnd rfl (Q.rows i rs h),kgnd rfl Q.aZ,kgnd rfl Q.root,h_.trans (aab (λl=>some (aP.list l)) yL),kgnd rfl Q.put⟩,A.c1,A.c2,A.c3⟩
theorem AW.Tg(A:AW W L h) {x s:Nat}:AW { W with put:=bx x s W.put } L (h.set (.fld aW 7) (.dict (fG (bx x s W.put)))) :=
 have Q:=A.lw
 ⟨(A.wr.set rfl).cS rfl rfl rfl rfl,⟨Q.t0,kgnd rfl Q.w,Q.BX,kgnd rfl Q.lv,kgnd rfl Q.tab,λi rs h=>kgnd rfl (Q.rows i rs h),kgnd rfl Q.aZ,kgnd rfl Q.root,kgnd rfl Q.au,h_⟩,A.c1,A.c2,A.c3⟩
theorem AW.mid(A:AW W L h) {d:Nat×Nat}:AW { W with aZ:=W.aZ++[d] } L (h.set (.fld aW 4) (.list (W.aZ.map gX++[gX d]))) :=
 have Q:=A.lw
 ⟨(A.wr.set rfl).cS rfl rfl rfl rfl,⟨Q.t0,kgnd rfl Q.w,Q.BX,kgnd rfl Q.lv,kgnd rfl Q.tab,λi rs h=>kgnd rfl (Q.rows i rs h),h_.trans (aab (λl=>some (aP.list l)) yL),kgnd rfl Q.root,kgnd rfl Q.au,kgnd rfl Q.put⟩,A.c1,A.c2,A.c3⟩
theorem AW.row(A:AW W L h) {i:Nat}(hi:i<W.tb.length) {r:Rw}:AW { W with tb:=W.tb.set i (W.bc i++[r]) } L (h.set (jh i) (.list ((W.bc i).map bw++[bw r]))):=by
 have Q:=A.lw;refine⟨(A.wr.set rfl).cS rfl rfl rfl rfl,⟨Q.t0,kgnd rfl Q.w,Q.BX,kgnd rfl Q.lv,(kgnd rfl Q.tab).trans ?_,λj rs h=>?_,kgnd rfl Q.aZ,kgnd rfl Q.root,kgnd rfl Q.au,kgnd rfl Q.put⟩,A.c1,A.c2,A.c3⟩
 ·unfold Wd.gU;rw[List.length_set]
 ·simp only[List.getElem?_set]at h;split at h
  ·rename_i e;subst e;cases h;exact h_.trans (aab (λl=>some (aP.list l)) yL)
  ·rename_i e;exact(cZ λq=>e (Ad.item.inj q).2.symm).trans (Q.rows j rs h)
theorem LW.Th(Q:LW W h) {a:Ad}{o:aP}(e:Il a.rt=false):LW W (h.set a o):=Q.keep (aat _) λO ha=>Vr ha e
theorem B8{f:Ty->Ty}{i:Nat}:({ W with ty:=bb f i W.ty }:Wd).ka=W.ka:=by simp[Wd.ka,bB,Wd.b,Wd.eG]
theorem AW.r5(A:AW W L h) {i:Nat}{f:Ty->Ty}{k:Nat}{xs:List V}{t:Ty}(ht:W.ty[i]? =some t) (eB:∀ x∈(f t).aE,x.2.1∈L)
  (hk:(k=17/\xs=ao (f t).meths/\(f t).props=t.props/\(f t).aE=t.aE)∨(k=21/\xs=(f t).aE.map (cH L)/\(f t).props=t.props/\(f t).meths=t.meths)∨(k=22/\xs=(f t).props.map bl/\(f t).meths=t.meths/\(f t).aE=t.aE)) :
  AW { W with ty:=bb f i W.ty } L (h.set (.fld (W.eG i) k) (.list xs)):=by
 have R:=A.wr;have el:(bb f i W.ty).length=W.ty.length:=bB;have hb:1<=W.b:=by unfold Wd.b;split<;>decide
 have ob:W.ob=true->W.b=2:=λh=>aae h
 have ne:∀ {j m},W.b+i≠j->Ad.fld (.inst 1 j) m≠.fld (W.eG i) k:=λq z=>q (Ad.inst.inj (Ad.fld.inj z).1).2.symm
 have g1:∀ {c j},(h.set (.fld (W.eG i) k) (.list xs)).get (.inst c j)=h.get (.inst c j):=cZ nofun;have g2:∀ {m},m≠k->(h.set (.fld (W.eG i) k) (.list xs)).get (.fld (W.eG i) m)=h.get (.fld (W.eG i) m):=λq=>cZ (fldk q)
 refine⟨⟨R.kt.set rfl,aaj (aaD el) R.n4,aaj (aaD el) R.PE,R.dy,af g1 R.iX,af g1 R.mQ,af g1 R.kS,?_,kgnd rfl R.meths,λho=>(R.xM ho).mono g1 λO=>cZ (ne (by have:=ob ho;exact λe=>absurd (Nat.eq_zero_of_add_eq_zero_right e) (this▸by decide))),R.IE.mono g1 λO=>cZ (ne (λe=>Nat.not_le_of_lt (Nat.sub_lt hb (by decide)) (e▸aaF _ _))),λj t' kG=>?_,λj hj=>R.IF j (aai hj (aaD el)),λj t' kG x hx=>?_,R.NL.mono g1,λj m hm=>(R.JW j m hm).mono g1⟩,(LW.Th A.lw rfl).cS rfl rfl rfl rfl rfl rfl rfl,A.c1.trans (aab (W.b+·) el.symm),A.c2,A.c3⟩
 ·rw[B8];exact kgnd rfl R.types
 ·rw[show({ W with ty:=bb f i W.ty }:Wd).ty=bb f i W.ty from rfl,bh]at kG
  by_cases e:j=i
  ·rw[aae e,e,ht]at kG;clear ne;cases kG;rw[e];have T:=R.tys i t ht;rcases hk with⟨rfl,rfl,p1,p2⟩ | ⟨rfl,rfl,p1,p2⟩ | ⟨rfl,rfl,p1,p2⟩<;>rw[p1,p2]
   ·exact⟨af g1 T.tid,af g1 T.sort,af g1 T.base,af g1 T.par,af g1 T.met,af g1 T.imp,af g1 T.ID,af g1 T.JV,(g2 (by decide)).trans T.xK,h_,(g2 (by decide)).trans T.ke,(g2 (by decide)).trans T.qL⟩
   ·exact⟨af g1 T.tid,af g1 T.sort,af g1 T.base,af g1 T.par,af g1 T.met,af g1 T.imp,af g1 T.ID,af g1 T.JV,(g2 (by decide)).trans T.xK,(g2 (by decide)).trans T.gQ,h_,(g2 (by decide)).trans T.qL⟩
   ·exact⟨af g1 T.tid,af g1 T.sort,af g1 T.base,af g1 T.par,af g1 T.met,af g1 T.imp,af g1 T.ID,af g1 T.JV,(g2 (by decide)).trans T.xK,(g2 (by decide)).trans T.gQ,(g2 (by decide)).trans T.ke,h_⟩
  ·rw[aaf e]at kG;exact(R.tys j t' kG).mono g1 λO=>cZ (ne (V_ e))
 ·rw[show({ W with ty:=bb f i W.ty }:Wd).ty=bb f i W.ty from rfl,bh]at kG
  by_cases e:j=i
  ·rw[aae e,e,ht]at kG;cases kG;exact eB x hx
  ·rw[aaf e]at kG;exact R.ur j t' kG x hx
end
def Wd.r2(W:Wd) (x m:Nat) (f:Option (Nat×Nat)):List (Nat×Nat):=match f with
 |some q=>if m=0 then bx x (((bx x x W.root).lookup q.2).getD 0) (bx x x W.root) else bx x x W.root
 |none=>bx x x W.root
noncomputable def o5{α:Type}(m:Nat) (f:Option (Nat×Nat)) (g:Nat×Nat->α):List α:=if m=5 then (f.map g).toList else []
noncomputable def o6{α:Type}(m:Nat) (a:α):List α:=if m=6 then [a] else []
def p5(m x:Nat) (f:Option (Nat×Nat)) (l:List (Nat×Nat)):List (Nat×Nat):=if m=5 then (match f with
 |some _=>bx x 1 l
 |none=>l) else l
def Wd.i9(W:Wd) (i:Nat) (r:Rw) (x:Nat) (f:Option (Nat×Nat)):Wd :=
 { W with
  root:=W.r2 x r.mode f
  au:=W.au++[(i,((W.r2 x r.mode f).lookup x).getD 0,x)]++o5 r.mode f λq=>(i,((W.r2 x r.mode f).lookup q.2).getD 0,x)
  put:=p5 r.mode x f W.put
  ty:=bb (λt=>{ t with aE:=t.aE++(o5 r.mode f (λq=>(x,W.kd q.1 (W.ar i 16 q.1),q.2))++o6 r.mode (x,(29,none),1)) }) i W.ty }
def Wd.note(W:Wd) (i:Nat) (r:Rw) (p:Nat):Wd:=if slot r.mode=false then W else W.i9 i r (r.mid p) (W.kq i r p i)
section
variable{α:Type}{m x:Nat}{f:Option (Nat×Nat)}{g:Nat×Nat->α}{a:α}{l:List (Nat×Nat)}
theorem iI:a∈o5 m f g↔m=5/\∃ q,f=some q/\a=g q:=by
 unfold o5;by_cases h:m=5
 ·rw[aae h];cases f with
  |none=>exact⟨nofun,λ⟨_,_,e,_⟩=>nomatch e⟩
  |some q=>exact⟨λe=>⟨h,q,rfl,aar.mp e⟩,λ⟨_,_,e,e2⟩=>by cases e;exact aar.mpr e2⟩
 ·rw[aaf h];exact⟨nofun,λe=>absurd e.1 h⟩
theorem yM{b:α}:a∈o6 m b↔m=6/\a=b:=by
 unfold o6;by_cases h:m=6
 ·rw[aae h];exact⟨λe=>⟨h,aar.mp e⟩,λe=>aar.mpr e.2⟩
 ·rw[aaf h];exact⟨nofun,λe=>absurd e.1 h⟩
theorem D4(h:¬ m=5):o5 m f g=[]:=aaf h
theorem D5{q:Nat×Nat}(h:m=5):o5 m (some q) g=[g q]:=aae h
theorem qU:(o5 m f g).length<=1:=by
 unfold o5;split
 ·cases f;exact aaV _;exact aat _
 ·exact aaV _
theorem Je:(o6 m a).length<=1:=by
 unfold o6;split;exact aat _;exact aaV _
theorem sj{b:α}:(o5 m f g++o6 m b).length<=1:=by
 by_cases h:m=5
 ·rw[show o6 m b=[] from aaf (by rw[h];decide),List.append_nil];exact qU
 ·rw[D4 h];exact Je
theorem Ol(h:¬ m=5):p5 m x f l=l:=aaf h
theorem Om{q:Nat×Nat}(h:m=5):p5 m x (some q) l=bx x 1 l:=aae h
end
theorem ik{f:Ty->Ty}(h:∀ t,f t=t):∀ {i:Nat}{l:List Ty},bb f i l=l
 |_,[]=>by cases ‹Nat›<;>rfl
 |0,t::l=>by simp[si,h]
 |i+1,t::l=>by simp[ij,ik h (i:=i) (l:=l)]
theorem yN{sl:List (Nat×Nat)}{x z:Nat}(h:sl.lookup x=some z):aF (.int x) (fG sl)=some (some (.int z)):=by rw[eJ,h];rfl
section
variable{W W':Wd}{L L' L'':List Ck}{h h' ee:MH}{n v:Nat}
theorem iJ(e:W'.lv=W.lv) {i:Nat}:W'.wide i=W.wide i:=by unfold Wd.wide;rw[e]
theorem yO(e:W'.lv=W.lv) {i:Nat}:W'.dy i=W.dy i:=by unfold Wd.dy;rw[e]
theorem B9(e:W'.lv=W.lv) {i a:Nat}:W'.pa i a=W.pa i a:=by unfold Wd.pa;rw[yO e,iJ e]
theorem sk(e:W'.lv=W.lv) {i a:Nat}:W'.kd i a=W.kd i a:=by unfold Wd.kd;rw[iJ e]
theorem il(e:W'.lv=W.lv) {i a j:Nat}:W'.ar i a j=W.ar i a j:=by
 induction i generalizing a with
 |zero=>rfl
 |succ i ih=>simp only[Wd.ar_1,B9 e,ih]
theorem AW.cS(A:AW W L h) (e:W'=W):AW W' L h:=e▸A
abbrev zz(i:Nat) (r:Rw) (p x:Nat) (f:Option MV) (o:Option MV):List (Option MV):=[vr aW,vi i,vv (bw r),vi p,vr aS,vi x,f,o]
theorem Oo{C_:Prop}(A:AW W L h) {i p x n:Nat}{r:Rw}{f:Option (Nat×Nat)}{o:Option MV}(eX:∀ q,f=some q->∃ z,W.root.lookup q.2=some z) (l1:W.root.length<900) (k_:∀ h',(∀ {ss R},aw prog (aa prog n) ss ⟨zz i r p x (vv (uA f)) o,h'⟩=R->aw prog (aa prog n) (.cons wU (.cons wV ss)) ⟨zz i r p x (vv (uA f)) o,h⟩=R)->AW { W with root:=W.r2 x r.mode f } L h'->C_):C_:=by
 have A1:=A.root (x:=x) (s:=x);have q1:=A.lw.w;have q2:=A.lw.root;have k6:=VV;have z1:=eJ (x:=x) (sl:=W.root);have l1':(fG W.root).length<1000:=by unfold fG;rw[aan];exact cP l1 rfl
 have kp:=gq (x:=x) (s:=x) (sl:=W.root);have E1:∀ {ss R},aw prog (aa prog n) ss ⟨zz i r p x (vv (uA f)) o,h.set (.fld aW 5) (.dict (fG (bx x x W.root)))⟩=R->aw prog (aa prog n) (.cons wU ss) ⟨zz i r p x (vv (uA f)) o,h⟩=R:=by
  intro ss R hR;apply aO;(walk_at"S");apply k_go;rw[kp];exact hR
 have g4:getItem prog (h.set (.fld aW 5) (.dict (fG (bx x x W.root)))) (bw r) (.int 4)=some (.int r.mode):=rfl;have q3:=A1.lw.w;have q4:=A1.lw.root;have nc:∀ {R' h' },AW { W with root:=R' } L h'->bG prog (aa prog n) wV ⟨zz i r p x (vv (uA f)) o,h.set (.fld aW 5) (.dict (fG (bx x x W.root)))⟩=some (.next,⟨zz i r p x (vv (uA f)) o,h'⟩)->R'=W.r2 x r.mode f->C_:=λ{R' h'} a e b=>k_ h' (λhR=>E1 (aO e (k_go hR))) (b▸a)
 clear A q1 q2 z1 kp E1;by_cases m0:(r.mode:Int)=0
 ·have Ti:r.mode=0:=pF m0;clear k_;cases f with
  |none=>exact nc A1 (by walk_at"S") (by unfold Wd.r2;rfl)
  |some q =>
   obtain⟨j,y⟩:=q;obtain⟨z',hz⟩:∃ z',(bx x x W.root).lookup y=some z':=by
    rw[aM];split
    ·exact⟨_,rfl⟩
    ·exact eX _ rfl
   have z2:=yN hz;have z3:=eJ (x:=x) (sl:=bx x x W.root);have l2:(fG (bx x x W.root)).length<1000:=by have:=fW (x:=x) (s:=x) (sl:=W.root);unfold fG;rw[aan];exact aaL (iu this l1 rfl)
   have A2:=A1.root (x:=x) (s:=z');have kp2:=gq (x:=x) (s:=z') (sl:=bx x x W.root);have c1:a8 prog (h.set (.fld aW 5) (.dict (fG (bx x x W.root)))) .iM (uA (some (j,y))) .none=some true:=rfl;exact nc A2 (by apply qh;(walk_at"S");rw[kp2]) (by unfold Wd.r2;simp only;rw[aae Ti,hz];rfl)
 ·have Ti:¬ r.mode=0:=O3 m0;exact nc A1 (by walk_at"S") (by unfold Wd.r2;clear eX nc k_;cases f<;>simp[Ti])
theorem mZ{d:List (Nat×Nat×Nat)}{p:List (Nat×Nat)}{ty:List Ty}(h1:d=W.au) (h2:p=W.put) (h3:ty=W.ty):({ W with au:=d,put:=p,ty:=ty }:Wd)=W:=by subst h1 h2 h3;rfl
theorem Oq{C_:Prop}(A:AW W L h) {i p x n:Nat}{r:Rw}{f:Option (Nat×Nat)}(hi:i<W.ty.length) (qT:i<W.nl) (h5:W.nl<=5) (eX:∀ q,f=some q->(∃ z,W.root.lookup q.2=some z)/\q.1<i) (l2:W.au.length<950) (l3:W.put.length<950) (l4:(W.dJ i).length<950) (k_:∀ L' h' v,bG prog (aa prog (n+8)) Dm ⟨zz i r p x (vv (uA f)) none,h⟩=some (.next,⟨zz i r p x (vv (uA f)) v,h'⟩)->AW { W with
    au:=W.au++o5 r.mode f λq=>(i,(W.root.lookup q.2).getD 0,x)
    put:=p5 r.mode x f W.put
    ty:=bb (λt=>{ t with aE:=t.aE++o5 r.mode f λq=>(x,W.kd q.1 (W.ar i 16 q.1),q.2) }) i W.ty } L' h'->L <+: L'->C_):C_:=by
 have g4:getItem prog h (bw r) (.int 4)=some (.int r.mode):=rfl;by_cases m5:(r.mode:Int)=5
 ·have B_:r.mode=5:=pF m5;cases f with
  |none =>
   refine k_ L h none (by walk_at"S") (A.cS (mZ ?_ (aae B_) (ik λt=>?_))) List.prefix_rfl
   ·rw[show(o5 r.mode none λq:Nat×Nat=>(i,(W.root.lookup q.2).getD 0,x))=[] from aae B_];exact List.append_nil _
   ·rw[show(o5 r.mode none λq:Nat×Nat=>(x,W.kd q.1 (W.ar i 16 q.1),q.2))=[] from aae B_,List.append_nil]
  |some q =>
   obtain⟨⟨z,hz⟩,hq⟩:=eX q rfl;obtain⟨j,y⟩:=q;simp only at hz hq;refine bF A.wr hi λt ht T=>?_
   have e1:aa prog (n+8) 61 [.ref aW,.int i,.int 16] h=_:=Od (n:=n+7) A.lw A.wr.dy (i:=i) (a:=16) qT h5;refine J6 (n:=n) (l:=W.args i 16) A.lw A.wr.kt A.wr.iX (i:=j) (a:=W.ar i 16 j) (show j<W.nl by exact Nat.lt_trans hq qT) (aai (aaw hq) (iu qT h5 rfl)) (args_get (aay hq)) (rZ A.wr.dy (.inr (.inr rfl))) λh3 e2 g3=>?_
   have A3:=A.gr g3;have Tj:W.kd j (W.ar i 16 j)∈ins L (W.kd j (W.ar i 16 j)):=cC;have hp:=mO (L:=L) (c:=W.kd j (W.ar i 16 j));generalize ins L (W.kd j (W.ar i 16 j))=L3 at *;have T3:=A3.wr.tys i t ht;have Ca:=A3.wr.ur i t ht;have A4:=A3.r5 (i:=i) (f:=λt=>{ t with aE:=t.aE++[(x,W.kd j (W.ar i 16 j),y)] }) (k:=21) (xs:=(t.aE++[(x,W.kd j (W.ar i 16 j),y)]).map (cH L3)) ht (λu hu=>by
    simp only at hu;rcases aaM.mp hu with hu | hu
    ·exact Ca u hu
    ·rw[aar.mp hu];exact Tj) (.inr (.inl ⟨rfl,rfl,rfl,rfl⟩))
   have A6:=(A4.Tg (x:=x) (s:=1)).Oj (d:=(i,z,x));have z2:=gq (x:=x) (s:=1) (sl:=W.put);rw[aaP (f:=cH L3),<- z2]at A6;have A6:AW _ L3 (((h3.set (.fld (W.eG i) 21) (.list (t.aE.map (cH L3)++[cH L3 (x,W.kd j (W.ar i 16 j),y)]))).set (.fld aW 7) (.dict (cz (.int x) (.int 1) (fG W.put)))).set (.fld aW 6) (.list (W.au.map zy++[zy (i,z,x)]))):=A6;refine k_ L3 _ (vi (ah L3 (W.kd j (W.ar i 16 j)))) ?_ (A6.cS (by rw[D5 B_,D5 B_,Om B_,hz];rfl)) hp
   have s3:=A3.wr.mQ;have q1:=A.lw.w;have q3:=A3.lw.w;have q6:=A3.lw.put;have q7:=A3.lw.root;have q8:=A3.lw.au;have ts:=A3.wr.types;have et:=d8 A3.wr hi;have o2:=T3.imp;have o3:=T3.ke;have z1:=eJ (x:=x) (sl:=W.put);have z3:=yN hz;have n1:(List.map (cH L3) t.aE).length<1000:=by rw[aan,<- fg ht];exact cP l4 rfl
   have n2:(fG W.put).length<1000:=by unfold fG;rw[aan];exact cP l3 rfl
   have n3:(W.au.map zy).length<1000:=by rw[aan];exact cP l2 rfl
   have c1:a8 prog h .iM (uA (some (j,y))) .none=some true:=rfl;have b1:binop .add (.int 21) (.int i)=some (.int (21+i:Nat)):=rfl;clear A A3 A4 A6 T T3 eX g3 z2;walk_at"S"
 ·have B_:¬ r.mode=5:=O3 m5;refine k_ L h none (by walk_at"S") (A.cS (mZ ?_ (Ol B_) (ik λt=>?_))) List.prefix_rfl<;>rw[D4 B_,List.append_nil]
theorem Ot{C_:Prop}(A:AW W L h) {i p x n:Nat}{r:Rw}{f o:Option MV}(hi:i<W.ty.length) (l4:(W.dJ i).length<960) (k_:∀ L' h',bG prog (aa prog (n+8)) Dn ⟨zz i r p x f o,h⟩=some (.next,⟨zz i r p x f o,h'⟩)->AW { W with ty:=bb (λt=>{ t with aE:=t.aE++o6 r.mode (x,(29,none),1) }) i W.ty } L' h'->L <+: L'->C_):C_:=by
 have g4:getItem prog h (bw r) (.int 4)=some (.int r.mode):=rfl;by_cases m6:(r.mode:Int)=6
 ·have Tn:r.mode=6:=pF m6;refine Si (n:=n+1) (c:=(29,none)) A.wr.kt rfl λh3 e4 g3=>?_
  have A3:=A.gr g3;have Tj:((29,none):Ck)∈ins L (29,none):=cC;have hp:=mO (L:=L) (c:=(29,none));generalize ins L (29,none)=L3 at *;refine bF A.wr hi λt ht T=>?_
  have T3:=A3.wr.tys i t ht;have Ca:=A3.wr.ur i t ht;have A4:=A3.r5 (i:=i) (f:=λt=>{ t with aE:=t.aE++[(x,(29,none),1)] }) (k:=21) (xs:=(t.aE++[(x,(29,none),1)]).map (cH L3)) ht (λu hu=>by
   simp only at hu;rcases aaM.mp hu with hu | hu
   ·exact Ca u hu
   ·rw[aar.mp hu];exact Tj) (.inr (.inl ⟨rfl,rfl,rfl,rfl⟩))
  rw[aaP (f:=cH L3)]at A4;refine k_ L3 _ ?_ (A4.cS (by rw[show ∀ a:Nat×Ck×Nat,o6 r.mode a=[a] from λO=>aae Tn])) hp
  have s2:=A.wr.iX;have s3:=A.wr.mQ;have ts2:=A.wr.types;have et2:=d8 A.wr hi;have o2:=T.imp;have o3:=T.ke;have o4:=T3.ke;have n1:(List.map (cH L3) t.aE).length<1000:=by rw[aan,<- fg ht];exact cP l4 rfl
  have b1:binop .add (.int 21) (.int i)=some (.int (21+i:Nat)):=rfl;have e4:aa prog (n+8) 10 [.ref aK,.int 29,.tup []] h=_:=e4;clear A A3 A4 T T3 g3 Ca;walk_at"S"
 ·have Tn:¬ r.mode=6:=O3 m6;refine k_ L h (by walk_at"S") (A.cS (mZ rfl rfl (ik λt=>?_))) List.prefix_rfl
  rw[show ∀ a:Nat×Ck×Nat,o6 r.mode a=[] from λO=>aaf Tn,List.append_nil]
theorem kx{f g:Ty->Ty}:∀ {i:Nat}{l:List Ty},bb g i (bb f i l)=bb (λt=>g (f t)) i l
 |0,[]=>rfl
 |_+1,[]=>rfl
 |0,t::l=>rfl
 |i+1,t::l=>by simp[ij,kx (i:=i) (l:=l)]
theorem m_{i:Nat}{l:List (Nat×Ck×Nat)}(e:W'.ty=bb (λt=>{ t with aE:=t.aE++l }) i W.ty) (hi:i<W.ty.length):W'.dJ i=W.dJ i++l:=by
 unfold Wd.dJ;rw[e,bh,aae rfl,aao hi];rfl
theorem jw{x s z:Nat}{sl:List (Nat×Nat)}(e:∃ y,sl.lookup z=some y):∃ y,(bx x s sl).lookup z=some y:=by
 rw[aM];split
 ·exact⟨_,rfl⟩
 ·exact e
theorem D6{x m z:Nat}{f:Option (Nat×Nat)}(e:∃ y,W.root.lookup z=some y):∃ y,(W.r2 x m f).lookup z=some y:=by
 cases f with
 |none=>exact jw e
 |some q=>exact iteInduction (motive:=λl=>∃ y,List.lookup z l=some y) (λO=>jw (jw e)) λO=>jw e
theorem ky{x s:Nat}{sl:List (Nat×Nat)}:∃ y,(bx x s sl).lookup x=some y:=⟨s,by rw[aM,aae rfl]⟩
theorem _root_.Mine.Internal.D.Wd.Cb(W:Wd) {x m:Nat}{f:Option (Nat×Nat)}:∃ y,(W.r2 x m f).lookup x=some y:=by
 cases f with
 |none=>exact ky
 |some q=>exact iteInduction (motive:=λl=>∃ y,List.lookup x l=some y) (λO=>ky) λO=>ky
theorem c67{C_:Prop}(A:AW W L h) {i p:Nat}{r:Rw}(hp:p=2∨p=3) (qV:r.mode<7) (hm:∀ j,∀ o∈W.bc j,o.mode<7) (hi:i<W.ty.length) (hit:i<=W.tb.length) (qT:i<W.nl) (h5:W.nl<=5) (hx:r.mid p≠0)
  (eX:∀ q,W.kq i r p i=some q->∃ z,W.root.lookup q.2=some z/\q.1<i) (l1:W.root.length<900) (l2:W.au.length<900) (l3:W.put.length<900) (l4:(W.dJ i).length<900) (k_:∀ L' h',aa prog (n+9) 67 [.ref aW,.int i,bw r,.int p] h=some (.ret .none h')->AW (W.note i r p) L' h'->L <+: L'->C_):C_:=by
 have e1:=Te (n:=n+7) (h:=h) qV;have g3:getItem prog h (bw r) (.int p)=some (.int (r.mid p)):=gu hp;have hW:=A.lw.w;have k1:=S9;have e2:=c65 (n:=n+6) (r:=r) A.lw A.wr.dy hm hp hit qT h5;have tt:truthy (.bool true)=some true:=rfl;have tf:truthy (.bool false)=some false:=rfl;unfold Wd.note at k_;generalize r.mid p=x at *;generalize hf:W.kq i r p i=f at *;cases hs:slot r.mode<;>rw[hs]at e1
 ·rw[hs,aae rfl]at k_;refine k_ L h ?_ A List.prefix_rfl;clear A;show dt prog (aa prog (n+8)) Rj _ h=_;apply wm rfl;walk_at"SS"
 ·rw[hs,aaf nofun]at k_;refine Oo (n:=n+8) (p:=p) (o:=none) (r:=r) (i:=i) (x:=x) A (λq hq=>(eX q hq).imp λO a=>a.1) l1 λh1 c1 A1=>?_
  refine gJ (W.Cb (x:=x) (m:=r.mode) (f:=f)) λz hz=>?_
  have A2:=A1.Oj (d:=(i,z,x));refine Oq (n:=n) (p:=p) (r:=r) (x:=x) (f:=f) A2 hi qT h5 (λq hq=>(eX q hq).elim λy a=>⟨D6 ⟨y,a.1⟩,a.2⟩) (by show(W.au++[_]).length<950;simp;exact nI 1 l2 rfl) (by show W.put.length<950;exact cP l3 rfl) (by show(W.dJ i).length<950;exact cP l4 rfl) λL3 h3 v c3 A3 p3=>?_
  refine Ot (n:=n) (p:=p) (r:=r) (x:=x) (f:=vv (uA f)) (o:=v) A3 (aai hi (aaD bB.symm)) (by
   rw[m_ (W:=W) (l:=o5 r.mode f λq=>(x,W.kd q.1 (({ W with root:=W.r2 x r.mode f,au:=W.au++[(i,z,x)] }:Wd).ar i 16 q.1),q.2)) rfl hi,aag]
   exact aak (aaE qU _) (aai (Nat.succ_lt_succ l4) (by decide))) λL4 h4 c4 A4 p4=>?_
  refine k_ L4 h4 ?_ (A4.cS ?_) (p3.trans p4)
  ·have q1:=A1.lw.w;have q2:=A1.lw.root;have q3:=A1.lw.au;have k6:=VV;have k7:=Z9;have z3:=yN hz;have n3:(W.au.map zy).length<1000:=by rw[aan];exact cP l2 rfl
   clear A A1 A2 A3 A4 eX hm;show dt prog (aa prog (n+8)) Rj _ h=_;apply gO rfl;apply aO;(walk_at"S");apply k_go;apply aO;(walk_at"S");apply k_go;apply aO;(walk_at"S");apply k_go;apply aO;(walk_at"S");apply k_go;apply c1;apply aO;(walk_at"S");apply k_go;exact aO c3 (k_go (aO c4 (k_go LR)))
  ·have ea:∀ a b,({ W with root:=W.r2 x r.mode f,au:=W.au++[(i,z,x)] }:Wd).ar i a b=W.ar i a b:=λa b=>il (W:=W) (W':={ W with root:=W.r2 x r.mode f,au:=W.au++[(i,z,x)] }) rfl
   unfold Wd.i9;rw[hz];simp only[kx,List.append_assoc,Option.getD_some,ea];rfl
end
def Wd.fj(W:Wd) (i:Nat) (q:Bool) (ix:List Nat) (mode acc p:Nat):Wd :=
 { W with ms:=W.ms++[⟨i,p,q,ix,acc,mode⟩],ty:=bb (λt=>{ t with meths:=t.meths++[W.ms.length+2] }) i W.ty,aZ:=W.aZ++[(i,W.ms.length+2)] }
theorem cw{a b:Nat}(hb:0<b):binop .mod (.int a) (.int b)=some (.int (a%b:Nat)):=by
 show(if 0<(b:Int) then some (V.int ((a:Int).fmod b)) else none)=_
 rw[aae (i_1 hb),Int.fmod_eq_emod_of_nonneg _ (aaQ _)];rfl
theorem di{a b:Nat}(hb:0<b) (ha:a<1000000000000):binop .div (.int a) (.int b)=some (.int (a/b:Nat)):=by
 show(if 0<(b:Int)/\(0:Int)<=a/\(a:Int).toNat.blt 1000000000000=true then some (V.int ((a:Int).fdiv b)) else none)=_
 rw[aae ⟨by exact i_1 hb,by exact aaQ _,by simpa using ha⟩,Int.fdiv_eq_ediv_of_nonneg _ (aaQ _)]
 rfl
section
variable{W W':Wd}{L L' L'':List Ck}{h h' ee:MH}{n v:Nat}
theorem gw{h:MH}{c:Nat}:(h.new c).cnt=λd=>if d=c then h.cnt c+1 else h.cnt d:=rfl
theorem AW.bU(A:AW W L h) {m:Md}{h1:MH}(T:zv h1 (.inst 2 (W.ms.length+1)) (21+m.i) m.nm m.acc (d7 m.mode) m.ret m.params)
  (k:∀ b,b≠.inst 2 (W.ms.length+1)->(∀ k,b≠.fld (.inst 2 (W.ms.length+1)) k)->h1.get b=h.get b) (hc:h1.cnt=λd=>if d=2 then W.ms.length+1+1 else h.cnt d) (ht:h1.aq=h.aq) :
  AW { W with ms:=W.ms++[m] } L (h1.set (.fld aS 17) (.list (W.zu++[.ref (.inst 2 (W.ms.length+1))]))):=by
 have R:=A.wr;have k1:∀ b:Ad,b.rt≠2->b≠.fld aS 17->(h1.set (.fld aS 17) (.list (W.zu++[.ref (.inst 2 (W.ms.length+1))]))).get b=h.get b:=λb e q =>
  (cZ q).trans (k b (λq=>e (by rw[q];rfl)) λO q=>e (by rw[q];rfl))
 have ki:∀ {c j},c≠2->_:=λ{c j} e=>k1 (.inst c j) e nofun
 have k2:∀ j,j≠W.ms.length+1->(h1.set (.fld aS 17) (.list (W.zu++[.ref (.inst 2 (W.ms.length+1))]))).get (.inst 2 j)=h.get (.inst 2 j):=λj e=>kgnd rfl (k _ (λq=>e (Ad.inst.inj q).2) λO=>nofun)
 have kf:∀ {j} m,_:=λ{j} m=>k1 (.fld (.inst 1 j) m) (show 1≠2 by decide) nofun
 refine⟨⟨R.kt.of_get λa ha=>k1 a (λe=>by rw[e]at ha;cases ha) (ia z0 ha rfl),R.n4,R.PE,R.dy,af (ki (by decide)) R.iX,af (ki (by decide)) R.mQ,af (ki (by decide)) R.kS,(k1 (.fld aS 38) (show 3≠2 by decide) nofun).trans R.types,h_.trans ?_,λho=>(R.xM ho).mono (ki (by decide)) kf,R.IE.mono (ki (by decide)) kf,λj t kG=>(R.tys j t kG).mono (ki (by decide)) kf,R.IF,R.ur,R.NL.mono (k2 _ nofun),λj m' hm=>?_⟩,(A.lw.keep (h':=h1.set _ _) (aaD ht.symm) λa ha=>k1 a (λe=>by rw[e]at ha;cases ha) (ia Il ha rfl)).cS rfl rfl rfl rfl rfl rfl rfl,(congrFun hc 1).trans A.c1,(congrFun hc 2).trans (by rw[aag];rfl),(congrFun hc 7).trans A.c3.1,(congrFun hc 8).trans A.c3.2⟩
 ·unfold Wd.zu;rw[aag,List.length_singleton,List.range_succ (n:=W.ms.length+1),aaP];rfl
 ·by_cases e:j<W.ms.length
  ·have hm:(W.ms++[m])[j]? =some m':=hm;rw[aaJ e]at hm;exact(R.JW j m' hm).mono (k2 _ λq=>absurd (Nat.succ.inj q) (aaR e))
  ·have hm:(W.ms++[m])[j]? =some m':=hm;obtain rfl:j=W.ms.length:=by
    have:=(aav.mp hm).1;rw[aag]at this;exact Nat.le_antisymm (aax this) (Nat.not_lt.mp e)
   rw[aaO (aat _),Nat.sub_self]at hm;cases hm;exact T.mono (cZ nofun)
theorem so:W.zu.length=W.ms.length+2:=by simp[Wd.zu]
theorem To{C_:Prop}{n x p mode:Nat}(hx:x<1000003) (k_:∀ acc:Nat,(slot mode=true->acc=6)->(∀ {v0 v1 v3 v4 v5 v7 v8 v9 v10 v11 v14 v15 kP lJ:Option MV}{h:MH},
  bG prog (aa prog n) j6 ⟨[v0,v1,vi x,v3,v4,v5,vi mode,v7,v8,v9,v10,v11,vi p,vi 6,v14,v15,kP,lJ],h⟩ =
   some (.next,⟨[v0,v1,vi x,v3,v4,v5,vi mode,v7,v8,v9,v10,v11,vi p,vi acc,v14,v15,kP,lJ],h⟩))->C_):C_:=by
 have b1:binop .mod (.int x) (.int 2)=some (.int (x%2:Nat)):=cw (a:=x) (b:=2) (by decide)
 have b2:binop .div (.int x) (.int 2)=some (.int (x/2:Nat)):=di (a:=x) (b:=2) (by decide) (cP hx rfl)
 have b3:binop .mod (.int (x/2:Nat)) (.int 5)=some (.int (x/2%5:Nat)):=cw (a:=x/2) (b:=5) (by decide)
 have b4:binop .add (.int 2) (.int (x%2:Nat))=some (.int (2+(x%2:Nat):Int)):=rfl;have b5:binop .add (.int 2) (.int (x/2%5:Nat))=some (.int (2+x/2%5:Nat)):=by show some (V.int (2+(x/2%5:Nat):Int))=_;rw[Int.natCast_add];rfl
 by_cases c3:(mode:Int)=3
 ·exact k_ 1 (λq=>by rw[show mode=3 by exact pF c3]at q;cases q) (by intros;unfold j6;walk_at"S")
 by_cases c2:(mode:Int)=2
 ·have c4:¬ (mode:Int)=4:=i_4 c2 rfl;exact k_ (2+x/2%5) (λq=>by rw[show mode=2 by exact pF c2]at q;cases q) (by intros;unfold j6;walk_at"S")
 by_cases c4:(mode:Int)=4
 ·by_cases cp:(p:Int)=2+(x%2:Nat)
  ·exact k_ 1 (λq=>by rw[show mode=4 by exact pF c4]at q;cases q) (by intros;unfold j6;walk_at"S")
  ·exact k_ (2+x/2%5) (λq=>by rw[show mode=4 by exact pF c4]at q;cases q) (by intros;unfold j6;walk_at"S")
 ·exact k_ 6 (λO=>rfl) (by intros;unfold j6;walk_at"S")
theorem sv{C_:Prop}(A:AW W L h) {i p x mode:Nat}{q sn:Bool}{ix:List Nat}{y3 y5 y13 y14 y15 y16 y17:Option MV}(hp:p=2∨p=3) (hi:i<W.ty.length) (iK:ix.length<=1) (hx:x<1000003) (l1:W.ms.length<900) (l2:W.aZ.length<900) (l3:(W.bP i).length<900) {g s:Nat}{y12:Option MV}{n:Nat}(k_:∀ acc yH yI yJ h',(slot mode=true->acc=6)->bE prog (aa prog (n+2)) [12] wK (.int p) ⟨[vr aW,vi i,vi x,y3,vr aS,y5,vi mode,vv (.str (fF q)),vv (.tup (ao ix)),vi (d7 mode),some (.bH [.int 0,.int 0,.int g,.int s]),vi (if sn=true then 1 else 0),y12,y13,y14,y15,y16,y17],h⟩ =
   some (.next,⟨[vr aW,vi i,vi x,y3,vr aS,y5,vi mode,vv (.str (fF q)),vv (.tup (ao ix)),vi (d7 mode),some (.bH [.int 0,.int 0,.int (if p=2 then W.ms.length+2 else g:Nat),.int (if p=2 then s else W.ms.length+2:Nat)]),vi (if (sn||decide (acc≠1))=true then 1 else 0),vi p,yH,yI,yJ,y16,y17],h'⟩)->AW (W.fj i q ix mode acc p) L h'->C_):C_:=by
 have R:=A.wr;have Q:=A.lw;have s3:=R.mQ;have s4:=R.kS;refine bF R hi λt ht T=>?_
 rw[dh ht]at l3;refine To (n:=n+2) (p:=p) (mode:=mode) hx λacc ha6 Tp=>?_
 let m:Md:=⟨i,p,q,ix,acc,mode⟩
 have Tq:m.params.length<=2:=by show(if p=2 then ix else ix++[7]).length<=2;split<;>(try simp)<;>lia
 have ha:(h.new 2).get (.inst 2 (W.ms.length+1))=some (.inst 2 []):=by rw[bT,A.c2,aae rfl]
 refine c21 (n:=n) (mid:=W.ms.length+2) (own:=21+i) (acc:=acc) (ret:=m.ret) (fl:=d7 mode) (nm:=m.nm) Tq ha λh1 e1 M k1 c1 t1=>?_
 have A1:=A.bU (m:=m) M (λb hb hk=>by rw[k1 b hb hk,bT,A.c2,aaf hb]) (by rw[c1,gw,A.c2]) t1
 have Tr:=A1.wr.ur i t ht;have A2:=A1.r5 (i:=i) (f:=λt=>{ t with meths:=t.meths++[W.ms.length+2] }) (k:=17) (xs:=ao (t.meths++[W.ms.length+2])) ht Tr (.inl ⟨rfl,rfl,rfl,rfl⟩)
 have A3:=A2.mid (d:=(i,W.ms.length+2));have kk:∀ b:Ad,b.rt≠2->h1.get b=h.get b:=λb e=>by rw[k1 b (λq=>e (by rw[q];rfl)) λO q=>e (by rw[q];rfl),bT,aaf λq=>e (by rw[q];rfl)]
 have hS:=af (kk aS (by decide)) s3
 have h38:=(kk (.fld aS 38) (show 3≠2 by decide)).trans R.types
 have h17:=(kk (.fld aS 17) (show 3≠2 by decide)).trans R.meths
 have Ts:=R.meths;have hT:=af (kk (W.eG i) (show 1≠2 by decide)) T.met
 have aaa:=(kk (.fld (W.eG i) 17) (show 1≠2 by decide)).trans T.gQ
 have hW:=(kk aW (show 10≠2 by decide)).trans Q.w
 have hW4:=(kk (.fld aW 4) (show 10≠2 by decide)).trans Q.aZ
 have et:=d8 R hi;have hl:((lenOf h (.ref (.fld aS 17))).map λn:Nat=>V.int n)=some (.int (W.ms.length+2:Nat)):=(glI Ts).trans (aab (λn:Nat=>some (V.int n)) so)
 have VQ:binop .add (.int 21) (.int i)=some (.int (21+i:Nat)):=rfl;have K_:W.zu.length<1000:=by rw[so];exact nI 2 l1 rfl
 have uw:(ao t.meths).length<1000:=by rw[aG];exact cP l3 rfl
 have hl3:(W.aZ.map gX).length<1000:=by rw[aan];exact cP l2 rfl
 have Tt:=A.c2;have hk5:=Z8;have VX:binop .add (.str (IC p)) (.str (fF q))=some (.str (IC p++fF q)):=B5 (by clear k_ Tp;rcases hp with rfl | rfl<;>cases q<;>decide +kernel)
 have hint:ao t.meths++[.int ((W.ms.length+2:Nat):Int)]=ao (t.meths++[W.ms.length+2]):=by simp[ao]
 have A4:AW (W.fj i q ix mode acc p) L (((h1.set (.fld aS 17) (.list (W.zu++[.ref (.inst 2 (W.ms.length+1))]))).set (.fld (W.eG i) 17) (.list (ao t.meths++[.int ((W.ms.length+2:Nat):Int)]))).set (.fld aW 4) (.list (W.aZ.map gX++[gX (i,W.ms.length+2)]))):=by rw[hint];exact A3
 refine k_ acc (vi acc) (vi (W.ms.length+2:Nat)) (vv (.tup (ao m.params))) _ ha6 ?_ A4;clear A3 A4 A2 A1;have hlx:ix.length+1<=1000:=nI _ iK rfl;have hpx:binop .add (.tup (ao ix)) (.tup [.int 7])=some (.tup (ao (ix++[7]))):=(aae (by rw[aG];exact hlx)).trans (by simp[ao])
 have yh:∀ {v0 v1 v2 v3 v4 v5 v6 v7 v8 v9 v10 v12 v14 v15 kP lJ:Option MV}{h:MH},bG prog (aa prog (n+2)) Dl ⟨[v0,v1,v2,v3,v4,v5,v6,v7,v8,v9,v10,vi (if sn=true then 1 else 0),v12,vi acc,v14,v15,kP,lJ],h⟩ =
   some (.next,⟨[v0,v1,v2,v3,v4,v5,v6,v7,v8,v9,v10,vi (if (sn||decide (acc≠1))=true then 1 else 0),v12,vi acc,v14,v15,kP,lJ],h⟩):=by
  intros
  by_cases ca:acc=1
  ·have ca':(acc:Int)=1:=Kh ca;rw[show(sn||decide (acc≠1))=sn by simp[ca]]
   walk_at"S"
  ·have ca':¬ (acc:Int)=1:=sG ca;rw[show(sn||decide (acc≠1))=true by simp[ca]]
   walk_at"S"
 clear k_;rcases hp with rfl | rfl
 ·have hn2:binop .add (.str (Str.ofString "get_")) (.str (fF q))=some (.str m.nm):=VX;have e2:aa prog (n+2) 21 [.ref (.inst 2 (W.ms.length+1)),.int (W.ms.length+2:Nat),.int (21+i:Nat),.str m.nm,.int acc,.int (d7 mode),.int 7,.tup (ao ix)] (h.new 2)=_:=e1;apply bz rfl;apply aO;(walk_at"S");apply k_go;apply aO;exact Tp;apply k_go;apply aO;exact yh;apply k_go;walk_at"SS"
 ·have hn2:binop .add (.str (Str.ofString "set_")) (.str (fF q))=some (.str m.nm):=VX;have e2:aa prog (n+2) 21 [.ref (.inst 2 (W.ms.length+1)),.int (W.ms.length+2:Nat),.int (21+i:Nat),.str m.nm,.int acc,.int (d7 mode),.int 0,.tup (ao (ix++[7]))] (h.new 2)=_:=e1;apply bz rfl;apply aO;(walk_at"S");apply k_go;apply aO;exact Tp;apply k_go;apply aO;exact yh;apply k_go;walk_at"SS"
end
def PS(ps:List Nat):Prop:=ps=[2,3]∨ps=[2]∨ps=[3]
def IX(wide second q:Bool) (ix:List Nat):Prop:=(second=false/\q=false/\ix=[])∨(second=true/\((q=true/\ix=[])∨ix=[7]∨ix=[13]∨(wide=true/\ix=[16])))
section
variable{W W':Wd}{L L' L'':List Ck}{h h' ee:MH}{n v:Nat}
noncomputable def Ou(w:Bool) (m:Nat):List Nat:=if m=0 then [] else if m=1 then [7] else if m=2 then [13] else [if w then 16 else 7]
noncomputable def J_(z:Bool) (m:Nat):List Nat:=if m=cond z 0 2 then [2,3] else if m=cond z 1 0 then [2] else [3]
theorem yP(z:Bool) (m:Nat):PS (J_ z m):=by
 unfold J_;split;exact .inl rfl;split;exact .inr (.inl rfl);exact .inr (.inr rfl)
theorem pss_0:∀ m:Nat,m<3->dm [.tup [.int 2,.int 3],.tup [.int 2],.tup [.int 3]] m=some (.tup (ao (J_ true m)))
 |0,_=>rfl
 |1,_=>rfl
 |2,_=>rfl
theorem pss_1:∀ m:Nat,m<3->dm [.tup [.int 2],.tup [.int 3],.tup [.int 2,.int 3]] m=some (.tup (ao (J_ false m)))
 |0,_=>rfl
 |1,_=>rfl
 |2,_=>rfl
theorem Ov{C_:Prop}{i x:Nat}(k_:∀ ps,PS ps->(∀ {v0 v3 v4 v5 v6 v7 v8 v9 v10 v11 v12 v13 v14 v15 kP lJ:Option MV}{h:MH}{ss:aA}{R:Option (Fl×St)},
  aw prog (aa prog n) ss ⟨[v0,vi i,vi x,v3,v4,vv (.tup (ao ps)),v6,v7,v8,v9,v10,v11,v12,v13,v14,v15,kP,lJ],h⟩=R ->
  aw prog (aa prog n) (.cons wM (.cons wN ss)) ⟨[v0,vi i,vi x,v3,v4,v5,v6,v7,v8,v9,v10,v11,v12,v13,v14,v15,kP,lJ],h⟩=R)->C_):C_:=by
 have b:binop .mod (.int x) (.int 3)=_:=cw (a:=x) (b:=3) (by decide)
 have m:=Nat.mod_lt x (y:=3) (by decide)
 by_cases hi:(i:Int)=0
 ·exact k_ (J_ true (x%3)) (yP _ _) (λhk=>by have c:=pss_0 _ m;apply aO;(walk_at"S");apply k_go;apply aO;(walk_at"S");apply k_go;exact hk)
 ·exact k_ (J_ false (x%3)) (yP _ _) (λhk=>by have c:=pss_1 _ m;apply aO;(walk_at"S");apply k_go;apply aO;(walk_at"S");apply k_go;exact hk)
theorem Ox{C_:Prop}{i x:Nat}(hx:x<1000003) (k_:∀ mode:Nat,mode<7->(∀ {v0 v3 v4 v5 v6 v7 v8 v9 v10 v11 v12 v13 v14 v15 kP lJ:Option MV}{h:MH}{ss:aA}{R:Option (Fl×St)},
  aw prog (aa prog n) ss ⟨[v0,vi i,vi x,v3,v4,v5,vi mode,v7,v8,v9,v10,v11,v12,v13,v14,v15,kP,lJ],h⟩=R ->
  aw prog (aa prog n) (.cons wO ss) ⟨[v0,vi i,vi x,v3,v4,v5,v6,v7,v8,v9,v10,v11,v12,v13,v14,v15,kP,lJ],h⟩=R)->C_):C_:=by
 have b:binop .div (.int x) (.int 3)=_:=di (a:=x) (b:=3) (by decide) (aai hx (by decide))
 by_cases hi:(i:Int)=0
 ·have b1:binop .add (.int (x/3:Nat)) (.int 1)=some (.int (x/3+1:Nat)):=rfl;have b2:binop .mod (.int (x/3+1:Nat)) (.int 7)=_:=cw (a:=x/3+1) (b:=7) (by decide)
  exact k_ ((x/3+1)%7) (Nat.mod_lt _ (by decide)) (λhk=>by apply aO;(walk_at"S");apply k_go;exact hk)
 ·have b1:binop .add (.int (x/3:Nat)) (.int 0)=some (.int (x/3+0:Nat)):=rfl;have b2:binop .mod (.int (x/3+0:Nat)) (.int 7)=_:=cw (a:=x/3+0) (b:=7) (by decide)
  exact k_ ((x/3+0)%7) (Nat.mod_lt _ (by decide)) (λhk=>by apply aO;(walk_at"S");apply k_go;exact hk)
theorem Oy{mode:Nat}(hm:mode<7) {v0 v1 v2 v3 v4 v5 v7 v8 v10 v11 v12 v13 v14 v15 kP lJ:Option MV}{h:MH} :
  bG prog (aa prog n) wR ⟨[v0,v1,v2,v3,v4,v5,vi mode,v7,v8,vi 128,v10,v11,v12,v13,v14,v15,kP,lJ],h⟩=some (.next,⟨[v0,v1,v2,v3,v4,v5,vi mode,v7,v8,vi (d7 mode),v10,v11,v12,v13,v14,v15,kP,lJ],h⟩):=by
 rcases(show mode=0∨mode=1∨mode=2∨mode=3∨mode=4∨mode=5∨mode=6 by exact Wa _ hm) with rfl | rfl | rfl | rfl | rfl | rfl | rfl<;>kernel_rfl
theorem sy(w:Bool):∀ m:Nat,m<4->dm [.tup [],.tup [.int 7],.tup [.int 13],.tup [.int (if w then 16 else 7)]] m=some (.tup (ao (Ou w m))):=by
 intro m h;rcases Nat.lt_or_eq_of_le (aax h) with h | rfl
 ·rcases Kj _ h with rfl | rfl | rfl<;>rfl
 ·cases w<;>rfl
theorem yQ{w q:Bool}{m:Nat}(h:m=0->q=true):IX w true q (Ou w m):=by
 refine .inr ⟨rfl,?_⟩;unfold Ou;split
 ·exact .inl ⟨h ‹_›,rfl⟩
 ·split;exact .inr (.inl rfl);split;exact .inr (.inr (.inl rfl));cases w;exact .inr (.inl rfl);exact .inr (.inr (.inr ⟨rfl,rfl⟩))
theorem Jf:∀ m:Nat,m<2->dm [.str (Str.ofString "P"),.str (Str.ofString "Q")] m=some (.str (fF (m==1))):=by
 intro m h;rcases Kj _ (aaw h) with rfl | rfl | rfl
 ·rfl
 ·rfl
 ·exact absurd h (by decide)
theorem Oz{C_:Prop}{i x:Nat}(Q:LW W h) (hi:i<W.nl) (hx:x<1000003) (second:Bool) (k_:∀ q ix,IX (W.wide i) second q ix->(∀ {v4 v5 v6 v9 v10 v11 v12 v13 v14 v15 kP lJ:Option MV},
  bG prog (aa prog n) wQ ⟨[vr aW,vi i,vi x,vv (.bool second),v4,v5,v6,vv (.str (Str.ofString "P")),vv (.tup []),v9,v10,v11,v12,v13,v14,v15,kP,lJ],h⟩ =
   some (.next,⟨[vr aW,vi i,vi x,vv (.bool second),v4,v5,v6,vv (.str (fF q)),vv (.tup (ao ix)),v9,v10,v11,v12,v13,v14,v15,kP,lJ],h⟩))->C_):C_:=by
 cases second
 ·exact k_ false [] (.inl ⟨rfl,rfl,rfl⟩) (by intros;walk_at"S")
 have hW:=Q.w;have hL:=Q.lv;have k2:=S_;have k3:=Ta;have hl:=mY Q hi;have b:binop .mod (.int x) (.int 4)=_:=cw (a:=x) (b:=4) (by decide)
 have b2:binop .div (.int x) (.int 4)=_:=di (a:=x) (b:=4) (by decide) (aai hx (by decide))
 have b3:binop .mod (.int (x/4:Nat)) (.int 2)=_:=cw (a:=x/4) (b:=2) (by decide)
 have m2:=Jf _ (Nat.mod_lt (x/4) (y:=2) (by decide))
 have m1:=Nat.mod_lt x (y:=4) (by decide)
 clear Q hi hx;generalize x%4=m at *;generalize x/4%2=k at *;generalize W.wide i=w at *;have w0:dm [.tup [],.tup [.int 7],.tup [.int 13],.tup [.int 7]] m=_:=sy false _ m1;have w1:dm [.tup [],.tup [.int 7],.tup [.int 13],.tup [.int 16]] m=_:=sy true _ m1;by_cases h0:(m:Int)=0
 ·exact k_ true (Ou w m) (yQ λO=>rfl) (by intros;clear k_;cases w<;>walk_at"S")
 ·exact k_ (k==1) (Ou w m) (yQ λe=>absurd (aab Int.ofNat e) h0) (by intros;clear k_;cases w<;>walk_at"S")
end
def GS(ps:List Nat) (k g s:Nat):Prop:=(ps=[2,3]/\g=k+2/\s=k+3)∨(ps=[2]/\g=k+2/\s=0)∨(ps=[3]/\g=0/\s=k+2)
noncomputable def Wd.av(W:Wd) (i:Nat) (q:Bool) (ix:List Nat) (mode:Nat):List (Nat×Nat)->Wd
 |[]=>W
 |x::l=>(W.fj i q ix mode x.2 x.1).av i q ix mode l
theorem Wd.ng{W:Wd}{i mode:Nat}{q:Bool}{ix:List Nat}:W.av i q ix mode []=W:=rfl
theorem Wd.Cc{W:Wd}{i mode:Nat}{q:Bool}{ix:List Nat}{x:Nat×Nat}{l:List (Nat×Nat)}:W.av i q ix mode (x::l)=(W.fj i q ix mode x.2 x.1).av i q ix mode l:=rfl
def Wd.b9(W:Wd) (i:Nat) (r:Rw):Wd:={ W with ty:=bb (λt=>{ t with props:=t.props++[r] }) i W.ty }
noncomputable def Wd.bR(W:Wd) (i:Nat) (r:Rw):List Nat->Wd
 |[]=>W
 |p::l=>(W.note i r p).bR i r l
def Wd.yR(W:Wd) (i:Nat) (r:Rw):Wd:={ W with tb:=W.tb.set i (W.bc i++[r]) }
noncomputable def gW(l:List (Nat×Nat)):Bool:=l.any λx=>decide (x.2≠1)
section
variable{W W':Wd}{L L' L'':List Ck}{h h' ee:MH}{n v:Nat}
theorem yS{i:Nat}{q:Bool}{ix:List Nat}{mode acc p:Nat}(hi:i<W.ty.length):((W.fj i q ix mode acc p).bP i).length=(W.bP i).length+1:=by
 have e:(W.fj i q ix mode acc p).bP i=W.ty[i].meths++[W.ms.length+2]:=dh (W:=W.fj i q ix mode acc p) (t:=⟨W.ty[i].meths++[W.ms.length+2],W.ty[i].props,W.ty[i].aE⟩) (by show(bb _ i W.ty)[i]? =_;rw[bh,aae rfl,aao hi];rfl)
 rw[e,dh (aao hi),aag];rfl
theorem Jg{C_:Prop}(A:AW W L h) {i x mode:Nat}{q:Bool}{ix ps:List Nat}{y3 y5 y12 y13 y14 y15 y16 y17:Option MV}(D7:PS ps) (hi:i<W.ty.length) (iK:ix.length<=1) (hx:x<1000003) (l1:W.ms.length<800) (l2:W.aZ.length<800) (l3:(W.bP i).length<800) (k_:∀ l g s Cd yH yI yJ h',l.map (·.1)=ps->(∀ z∈l,slot mode=true->z.2=6)->GS ps W.ms.length g s->forL (bE prog (aa prog (n+2)) [12] wK) (aL (.tup (ao ps)) (ao ps)) (ao ps) ⟨[vr aW,vi i,vi x,y3,vr aS,y5,vi mode,vv (.str (fF q)),vv (.tup (ao ix)),vi (d7 mode),some (.bH [.int 0,.int 0,.int 0,.int 0]),vi 0,y12,y13,y14,y15,y16,y17],h⟩ =
   some (.next,⟨[vr aW,vi i,vi x,y3,vr aS,y5,vi mode,vv (.str (fF q)),vv (.tup (ao ix)),vi (d7 mode),some (.bH [.int 0,.int 0,.int g,.int s]),vi (if gW l=true then 1 else 0),Cd,yH,yI,yJ,y16,y17],h'⟩)->AW (W.av i q ix mode l) L h'->C_):C_:=by
 rcases D7 with rfl | rfl | rfl
 ·refine sv (n:=n) A (sn:=false) (q:=q) (ix:=ix) (mode:=mode) (y3:=y3) (y5:=y5) (y12:=y12) (y13:=y13) (y14:=y14) (y15:=y15) (y16:=y16) (y17:=y17) (g:=0) (s:=0) (.inl rfl) hi iK hx (cP l1 rfl) (cP l2 rfl) (cP l3 rfl) λa2 OA OB OC h1 s1 e1 A1=>?_
  refine sv (n:=n) A1 (sn:=false||decide (a2≠1)) (q:=q) (ix:=ix) (mode:=mode) (y3:=y3) (y5:=y5) (y12:=vi (2:Nat)) (y13:=OA) (y14:=OB) (y15:=OC) (y16:=y16) (y17:=y17) (g:=W.ms.length+2) (s:=0) (.inr rfl) (by show i<(bb _ _ _).length;rw[bB];exact hi) iK hx (by show(W.ms++[_]).length<900;simp;exact nI 1 l1 rfl) (by show(W.aZ++[_]).length<900;simp;exact nI 1 l2 rfl) (by rw[yS hi];exact nI 1 l3 rfl) λa3 NG w14 w15 h2 s2 e2 A2=>?_
  refine k_ [(2,a2),(3,a3)] (W.ms.length+2) (W.ms.length+3) (vi (3:Nat)) NG w14 w15 h2 rfl ?_ (.inl ⟨rfl,rfl,rfl⟩) (bu rfl e1 (bu rfl (e2.trans ?_) (k_fe rfl))) A2
  ·intro z hz hs;rcases aau.mp hz with rfl | hz
   ·exact s1 hs
   ·rw[aar]at hz;subst hz;exact s2 hs
  ·rw[show(W.fj i q ix mode a2 2).ms.length=W.ms.length+1 from aag,show gW [(2,a2),(3,a3)]=((false||decide (a2≠1))||decide (a3≠1)) from aab _ (Bool.or_false _)]
   rfl
 ·refine sv (n:=n) A (sn:=false) (q:=q) (ix:=ix) (mode:=mode) (y3:=y3) (y5:=y5) (y12:=y12) (y13:=y13) (y14:=y14) (y15:=y15) (y16:=y16) (y17:=y17) (g:=0) (s:=0) (.inl rfl) hi iK hx (cP l1 rfl) (cP l2 rfl) (cP l3 rfl) λa2 OA OB OC h1 s1 e1 A1=>?_
  refine k_ [(2,a2)] (W.ms.length+2) 0 (vi (2:Nat)) OA OB OC h1 rfl ?_ (.inr (.inl ⟨rfl,rfl,rfl⟩)) (bu rfl (e1.trans ?_) (k_fe rfl)) A1
  ·intro z hz hs;rw[aar]at hz;subst hz;exact s1 hs
  ·rw[show gW [(2,a2)]=(false||decide (a2≠1)) from Bool.or_false _];rfl
 ·refine sv (n:=n) A (sn:=false) (q:=q) (ix:=ix) (mode:=mode) (y3:=y3) (y5:=y5) (y12:=y12) (y13:=y13) (y14:=y14) (y15:=y15) (y16:=y16) (y17:=y17) (g:=0) (s:=0) (.inr rfl) hi iK hx (cP l1 rfl) (cP l2 rfl) (cP l3 rfl) λa2 OA OB OC h1 s1 e1 A1=>?_
  refine k_ [(3,a2)] 0 (W.ms.length+2) (vi (3:Nat)) OA OB OC h1 rfl ?_ (.inr (.inr ⟨rfl,rfl,rfl⟩)) (bu rfl (e1.trans ?_) (k_fe rfl)) A1
  ·intro z hz hs;rw[aar]at hz;subst hz;exact s1 hs
  ·rw[show gW [(3,a2)]=(false||decide (a2≠1)) from Bool.or_false _];rfl
theorem gy{i p:Nat}{r:Rw}:(W.note i r p).tb=W.tb/\(W.note i r p).lv=W.lv/\(W.note i r p).nl=W.nl/\(W.note i r p).ty.length=W.ty.length/\(W.note i r p).ob=W.ob/\(W.note i r p).ms=W.ms/\(W.note i r p).aZ=W.aZ:=by
 unfold Wd.note;split
 ·exact⟨rfl,rfl,rfl,rfl,rfl,rfl,rfl⟩
 ·exact⟨rfl,rfl,rfl,bB,rfl,rfl,rfl⟩
theorem oZ(e1:W'.lv=W.lv) {i j p:Nat}{r:Rw}:W'.jv i j r p=W.jv i j r p:=by
 funext o;unfold Wd.jv;rw[il e1]
theorem eY(e2:W'.tb=W.tb) {j:Nat}:W'.bc j=W.bc j:=by unfold Wd.bc;rw[e2]
theorem kz(e1:W'.lv=W.lv) (e2:W'.tb=W.tb) {i p:Nat}{r:Rw}:∀ {u:Nat},W'.kq i r p u=W.kq i r p u:=by
 intro u;induction u with
 |zero =>
  exact rfl
 |succ u ih =>
  simp only[Wd.lR,oZ e1,eY e2,ih]
theorem o7{i p:Nat}{r:Rw}{z:Nat×Nat}:∀ {u:Nat},W.kq i r p u=some z->z.1<u/\∃ o∈W.bc z.1,W.jv i z.1 r p o=true/\z.2=o.mid p:=by
 intro u;induction u with
 |zero =>
  intro e;exact nomatch e
 |succ u ih =>
  intro e;rw[Wd.lR]at e;revert e;rcases ho:(W.bc u).find? (W.jv i u r p) with _ | o<;>intro e
  ·refine cJ (ih e) λa b=>?_
   exact⟨aaw a,b⟩
  ·cases e;exact⟨aaN _,o,List.mem_of_find?_eq_some ho,List.find?_some ho,rfl⟩
theorem kT{x s:Nat}:∀ {sl:List (Nat×Nat)},(∃ y,sl.lookup x=some y)->(bx x s sl).length=sl.length:=by
 intro sl;induction sl with
 |nil =>
  intro e;exact nomatch e
 |cons x_ sl ih =>
  intro e;obtain⟨y,u⟩:=x_;rw[sput_1];split
  ·rfl
  ·rename_i nL;rw[List.lookup_cons]at e;rw[show(x==y)=false from beq_false_of_ne λq=>nL q.symm]at e
   exact aab (·+1) (ih e)
theorem Jh{x m:Nat}{f:Option (Nat×Nat)}:(W.r2 x m f).length<=W.root.length+1:=by
 have h1:=fW (x:=x) (s:=x) (sl:=W.root);cases f with
 |none=>exact h1
 |some q=>exact iteInduction (motive:=λl:List (Nat×Nat)=>l.length<=W.root.length+1) (λO=>by rw[kT ⟨x,by rw[aM,aae rfl]⟩];exact h1) λO=>h1
structure Bd(W:Wd) (i k:Nat):Prop where
 r:W.root.length<k
 d:W.au.length<k
 p:W.put.length<k
 m:(W.dJ i).length<k
theorem Ji{m x:Nat}{f:Option (Nat×Nat)}{l:List (Nat×Nat)}:(p5 m x f l).length<=l.length+1:=by
 unfold p5;split
 ·cases f
  ·exact Nat.le_succ _
  ·exact fW
 ·exact Nat.le_succ _
theorem Tu{a b k:Nat}(h:a<=b+1) (hb:b<k):a<k+2:=uD 1 (aaj h hb) rfl
theorem sz{i p k:Nat}{r:Rw}(hi:i<W.ty.length) (B:Bd W i k):Bd (W.note i r p) i (k+2):=by
 unfold Wd.note;split
 ·exact⟨Nat.lt_add_right 2 B.r,Nat.lt_add_right 2 B.d,Nat.lt_add_right 2 B.p,Nat.lt_add_right 2 B.m⟩
 ·refine⟨Tu Jh B.r,?_,Tu Ji B.p,?_⟩
  ·show(W.au++[_]++_).length<_;rw[aag,aag];have:=qU (m:=r.mode) (f:=W.kq i r p i) (g:=λq=>(i,((W.r2 (r.mid p) r.mode (W.kq i r p i)).lookup q.2).getD 0,r.mid p))
   exact aaL (Nat.add_le_add B.d this)
  ·rw[m_ (W:=W) rfl hi,aag];exact Tu (aaE sj _) B.m
theorem tZ{i p z:Nat}{r:Rw}(e:∃ y,W.root.lookup z=some y):∃ y,(W.note i r p).root.lookup z=some y:=by
 unfold Wd.note;split
 ·exact e
 ·exact D6 e
theorem Jj{C_:Prop}{i:Nat}{r:Rw}(qV:r.mode<7) (qT:i<W.nl) (h5:W.nl<=5) (hm:∀ j,∀ o∈W.bc j,o.mode<7) (hit:i<=W.tb.length) (eX:∀ j,j<i->∀ o∈W.bc j,slot o.mode=true->∀ p,(p=2∨p=3)->o.mid p≠0->∃ y,W.root.lookup (o.mid p)=some y) {zs:List V}{y2 y3 y4 y5 y6 y7 y8 y9 y10 y11 y13 y14 y15 y16:Option MV}:∀ (ps:List Nat),(∀ p∈ps,(p=2∨p=3)/\r.mid p≠0)->∀ {W':Wd}{L:List Ck}{h:MH}(A:AW W' L h) (k:Nat) (B:Bd W' i k),k+2*ps.length<900->W'.tb=W.tb->W'.lv=W.lv->W'.nl=W.nl->i<W'.ty.length->(∀ z,(∃ y,W.root.lookup z=some y)->∃ y,W'.root.lookup z=some y)->∀ (y12:Option MV),(∀ Cd L' h',forL (bE prog (aa prog (n+9)) [12] wL) (aL (.tup zs) zs) (ao ps) ⟨[vr aW,vi i,y2,y3,y4,y5,y6,y7,y8,y9,y10,y11,y12,y13,y14,y15,y16,vv (bw r)],h⟩ =
   some (.next,⟨[vr aW,vi i,y2,y3,y4,y5,y6,y7,y8,y9,y10,y11,Cd,y13,y14,y15,y16,vv (bw r)],h'⟩)->AW (W'.bR i r ps) L' h'->L <+: L'->C_)->C_:=by
 intro ps;induction ps with
 |nil =>
  intro _ W' L h A k B hk t1 t2 t3 t4 t5 y12 k_;exact k_ y12 L h (k_fe rfl) A List.prefix_rfl
 |cons p ps ih =>
  intro hp W' L h A k B hk t1 t2 t3 t4 t5 y12 k_;simp only[aaI]at hk;refine cJ (hp p aad) λJD hp0=>?_
  refine c67 (n:=n) A (p:=p) (r:=r) JD qV (λj=>by rw[eY t1];exact hm j) t4 (by rw[t1];exact hit) (by rw[t3];exact qT) (by rw[t3];exact h5) hp0 (λq hq=>by
   rw[kz t2 t1]at hq;refine pG (o7 hq) λa o ho hs hx=>?_
   unfold Wd.jv at hs;simp only[aaB,aaS]at hs;refine gJ (t5 _ (eX _ a o ho hs.2.2.1 p JD hs.2.1)) λy hy=>?_
   exact⟨y,by rw[hx];exact hy,a⟩) (by have:=B.r;exact aai (aaw this) (nJ hk rfl)) (by have:=B.d;exact aai (aaw this) (nJ hk rfl)) (by have:=B.p;exact aai (aaw this) (nJ hk rfl)) (by have:=B.m;exact aai (aaw this) (nJ hk rfl)) λL1 h1 e1 A1 p1=>?_
  refine eQ (gy (W:=W') (i:=i) (p:=p) (r:=r)) λu1 u2 u3 u4 u5 u6 u7=>?_
  refine ih (λp hpp=>hp p (aac _ hpp)) A1 (k+2) (sz t4 B) (Ct (Ct hk)) (u1.trans t1) (u2.trans t2) (u3.trans t3) (by rw[u4];exact t4) (λz hz=>tZ (t5 z hz)) (vi p) λy' L2 h2 e2 A2 p2=>?_
  refine k_ y' L2 h2 (bu rfl (bz rfl ?_) e2) A2 (p1.trans p2);walk_at"SS"
end
section
variable{W W':Wd}{L L' L'':List Ck}{h h' ee:MH}{n v:Nat}
theorem fk{i mode:Nat}{q:Bool}{ix:List Nat}:∀ {l:List (Nat×Nat)}{W:Wd},(W.av i q ix mode l).tb=W.tb/\(W.av i q ix mode l).lv=W.lv/\(W.av i q ix mode l).nl=W.nl/\(W.av i q ix mode l).ty.length=W.ty.length/\(W.av i q ix mode l).root=W.root/\(W.av i q ix mode l).au=W.au/\(W.av i q ix mode l).put=W.put/\(W.av i q ix mode l).ob=W.ob:=by
 intro l;induction l with
 |nil =>
  intro W;exact⟨rfl,rfl,rfl,rfl,rfl,rfl,rfl,rfl⟩
 |cons x l ih =>
  intro W;refine fZ (ih (W:=W.fj i q ix mode x.2 x.1)) λa b c d e f g k=>?_
  exact⟨a,b,c,d.trans bB,e,f,g,k⟩
theorem yT{C_:Prop}{i mode:Nat}{q:Bool}{ix:List Nat}:∀ {l:List (Nat×Nat)}{W:Wd},(∀ ms,(W.av i q ix mode l).ty[i]? =(W.ty[i]?).map (λt=>{ t with meths:=t.meths++ms })->C_)->C_:=by
 intro l;induction l with
 |nil =>
  intro W k_;exact k_ [] (by show W.ty[i]? =_;cases W.ty[i]? <;>simp)
 |cons x l ih =>
  intro W k_;refine ih (W:=W.fj i q ix mode x.2 x.1) λms e=>?_
  refine k_ ([W.ms.length+2]++ms) (e.trans ?_);rw[show(W.fj i q ix mode x.2 x.1).ty=bb (λt=>{ t with meths:=t.meths++[W.ms.length+2] }) i W.ty from rfl,bh,aae rfl]
  cases W.ty[i]? <;>simp
theorem yU{i mode:Nat}{q:Bool}{ix:List Nat}{l:List (Nat×Nat)}:(W.av i q ix mode l).dJ i=W.dJ i/\(W.av i q ix mode l).eP i=W.eP i:=by
 refine yT (W:=W) (i:=i) (mode:=mode) (q:=q) (ix:=ix) (l:=l) λms e=>?_
 unfold Wd.dJ Wd.eP;rw[e];cases W.ty[i]? <;>exact⟨rfl,rfl⟩
theorem gV{i:Nat}{r:Rw}:∀ {l:List Nat}{W:Wd},(W.bR i r l).tb=W.tb/\(W.bR i r l).lv=W.lv/\(W.bR i r l).nl=W.nl/\(W.bR i r l).ty.length=W.ty.length/\(W.bR i r l).ms=W.ms:=by
 intro l;induction l with
 |nil =>
  intro W;exact⟨rfl,rfl,rfl,rfl,rfl⟩
 |cons p l ih =>
  intro W;refine lW (ih (W:=W.note i r p)) λa b c d e=>?_
  refine eQ (gy (W:=W) (i:=i) (r:=r) (p:=p)) λu1 u2 u3 u4 u5 u6 u7=>?_
  exact⟨a.trans u1,b.trans u2,c.trans u3,d.trans u4,e.trans u6⟩
def Wd.ip(W:Wd) (i:Nat) (q:Bool) (ix:List Nat) (mode:Nat) (l:List (Nat×Nat)) (g s:Nat):Wd :=
 (((W.av i q ix mode l).b9 i ⟨q,ix,g,s,mode,gW l⟩).bR i ⟨q,ix,g,s,mode,gW l⟩ (l.map (·.1))).yR i ⟨q,ix,g,s,mode,gW l⟩
theorem IX.len{w sc q:Bool}{ix:List Nat}(k:IX w sc q ix):ix.length<=1:=by
 rcases k with⟨-,-,rfl⟩ | ⟨-,⟨-,rfl⟩ | rfl | rfl | ⟨-,rfl⟩⟩<;>decide
theorem GS.mid{ps:List Nat}{k g s mode:Nat}{q sn:Bool}{ix:List Nat}(G:GS ps k g s):∀ p∈ps,(p=2∨p=3)/\(⟨q,ix,g,s,mode,sn⟩:Rw).mid p≠0:=by
 rcases G with⟨rfl,rfl,rfl⟩ | ⟨rfl,rfl,rfl⟩ | ⟨rfl,rfl,rfl⟩<;>intro p hp
 ·rcases aau.mp hp with rfl | hp
  ·exact⟨.inl rfl,Nat.succ_ne_zero _⟩
  ·rw[aar]at hp;subst hp;exact⟨.inr rfl,Nat.succ_ne_zero _⟩
 ·rw[aar]at hp;subst hp;exact⟨.inl rfl,Nat.succ_ne_zero _⟩
 ·rw[aar]at hp;subst hp;exact⟨.inr rfl,Nat.succ_ne_zero _⟩
theorem c66{C_:Prop}(A:AW W L h) {i x:Nat}(second:Bool) (hx:x<1000003) (hi:i<W.ty.length) (hit:i<W.tb.length) (qT:i<W.nl) (h5:W.nl<=5) (hm:∀ j,∀ o∈W.bc j,o.mode<7) (eX:∀ j,j<i->∀ o∈W.bc j,slot o.mode=true->∀ p,(p=2∨p=3)->o.mid p≠0->∃ y,W.root.lookup (o.mid p)=some y)
  (l1:W.ms.length<800) (l2:W.aZ.length<800) (l3:(W.bP i).length<800) (B:Bd W i 800) (l4:(W.bc i).length<800) (l5:(W.eP i).length<800) (k_:∀ q ix mode l g s L' h',aa prog (n+10) 66 [.ref aW,.int i,.int x,.bool second] h=some (.ret .none h')->AW (W.ip i q ix mode l g s) L' h'->L <+: L'->mode<7->IX (W.wide i) second q ix->PS (l.map (·.1))->GS (l.map (·.1)) W.ms.length g s->(∀ z∈l,slot mode=true->z.2=6)->C_):C_:=by
 refine Ov (n:=n+9) (i:=i) (x:=x) λps D7 e1=>?_
 refine Ox (n:=n+9) (i:=i) hx λmode qV e2=>?_
 refine Oz (n:=n+9) (x:=x/21) A.lw qT (aak (Nat.div_le_self _ _) hx) second λq ix iK e3=>?_
 have b1:binop .div (.int x) (.int 21)=_:=di (a:=x) (b:=21) (by decide) (cP hx rfl)
 have b2:binop .div (.int (x/21:Nat)) (.int 8)=_:=di (a:=x/21) (b:=8) (by decide) (aak (Nat.div_le_self _ _) (cP hx rfl))
 have b3:binop .add (.int 21) (.int i)=some (.int (21+i:Nat)):=rfl;have hW:=A.lw.w;have k1:=S9;have k4:=Tc;refine Jg (n:=n+7) A (i:=i) (x:=x/21/8) (mode:=mode) (q:=q) (ix:=ix) (ps:=ps) (y3:=vv (.bool second)) (y5:=vv (.tup (ao ps))) (y12:=none) (y13:=none) (y14:=none) (y15:=none) (y16:=none) (y17:=none) D7 hi iK.len (aak (Nat.div_le_self _ _) (aak (Nat.div_le_self _ _) hx)) l1 l2 l3 λl g s y12 y13 y14 y15 h1 hl hz hg e5 A1=>?_
 refine fZ (fk (i:=i) (mode:=mode) (q:=q) (ix:=ix) (l:=l) (W:=W)) λu1 u2 u3 u4 u5 u6 u7 u8=>?_
 refine cJ (yU (i:=i) (mode:=mode) (q:=q) (ix:=ix) (l:=l) (W:=W)) λu9 u10=>?_
 subst hl
 let r:Rw:=⟨q,ix,g,s,mode,gW l⟩
 have Jk:i<(W.av i q ix mode l).ty.length:=by rw[u4];exact hi
 refine bF A1.wr Jk λt ht T=>?_
 have A2:AW ((W.av i q ix mode l).b9 i r) L (h1.set (.fld ((W.av i q ix mode l).eG i) 22) (.list ((t.props++[r]).map bl))):=A1.r5 (f:=λt=>{ t with props:=t.props++[r] }) ht (A1.wr.ur i t ht) (.inr (.inr ⟨rfl,rfl,rfl,rfl⟩))
 rw[aaP]at A2;have q3:=A1.wr.mQ;have q5:=A1.wr.types;have q6:=d8 A1.wr Jk;have q8:=T.ID;have q9:=T.qL;have hpl:t.props.length<800:=by rw[<- mW ht,u10];exact l5
 have B2:Bd ((W.av i q ix mode l).b9 i r) i 800:=⟨by rw[show((W.av i q ix mode l).b9 i r).root=W.root from u5];exact B.r,by rw[show((W.av i q ix mode l).b9 i r).au=W.au from u6];exact B.d,by rw[show((W.av i q ix mode l).b9 i r).put=W.put from u7];exact B.p,by
  have e:((W.av i q ix mode l).b9 i r).dJ i=(W.av i q ix mode l).dJ i:=by
   rw[fg ht];exact fg (W:=(W.av i q ix mode l).b9 i r) (t:={ t with props:=t.props++[r] }) (by show(bb _ i _)[i]? =_;rw[bh,aae rfl,ht];rfl)
  rw[e,u9];exact B.m⟩
 refine Jj (n:=n) (W:=W) (r:=r) (zs:=ao (l.map (·.1))) qV qT h5 hm (aay hit) eX (l.map (·.1)) (λp hp=>hg.mid p hp) A2 800 B2 (by have:=D7;rcases D7 with e | e | e<;>rw[e]<;>decide) u1 u2 u3 (by show i<(bb _ _ _).length;rw[bB];exact Jk) (λz hz=>by rw[show((W.av i q ix mode l).b9 i r).root=W.root from u5];exact hz) (y2:=vi (x/21/8:Nat)) (y3:=vv (.bool second)) (y4:=vr aS) (y5:=vv (.tup (ao (l.map (·.1))))) (y6:=vi mode) (y7:=vv (.str (fF q))) (y8:=vv (.tup (ao ix))) (y9:=vi (d7 mode)) (y10:=vv (.lst [.int 0,.int 0,.int g,.int s])) (y11:=vi (if gW l=true then 1 else 0)) (y13:=y13) (y14:=y14) (y15:=y15) (y16:=vv (bl r)) y12 λCd L3 h3 e6 A3 p3=>?_
 refine lW (gV (i:=i) (r:=r) (l:=l.map (·.1)) (W:=(W.av i q ix mode l).b9 i r)) λv1 v2 v3 v4 v5=>?_
 have Jl:i<(((W.av i q ix mode l).b9 i r).bR i r (l.map (·.1))).tb.length:=by rw[v1];show i<(W.av i q ix mode l).tb.length;rw[u1];exact hit
 have A4:=A3.row Jl (r:=r);have J':(((W.av i q ix mode l).b9 i r).bR i r (l.map (·.1))).bc i=W.bc i:=eY (v1.trans u1);rw[J']at A4;have z1:=A3.lw.w;have z2:=A3.lw.tab;have z3:dm (((W.av i q ix mode l).b9 i r).bR i r (l.map (·.1))).gU i=some (.ref (jh i)):=tG Jl;have z4:=A3.lw.rows i _ (dF Jl);rw[J']at z4;have z5:(List.map bw (W.bc i)).length<1000:=by rw[aan];lia
 have z6:(List.map bl t.props).length<1000:=by rw[aan];lia
 refine k_ q ix mode l g s L3 _ ?_ (A4.cS (by unfold Wd.ip Wd.yR;rw[J'])) p3 qV iK D7 hg hz
 show dt prog (aa prog (n+9)) Vb _ h=_;apply gO rfl;apply aO;(walk_at"S");apply k_go;apply e1;apply e2;apply aO;(walk_at"S");apply k_go;apply aO;(walk_at"S");apply k_go;apply aO;(walk_at"S");apply k_go;apply aO;exact e3;apply k_go;apply aO;(walk_at"S");apply k_go;apply aO;(walk_at"S");apply k_go;apply aO;exact Oy qV;apply k_go;apply aO;(walk_at"S");apply k_go;apply aO;(walk_at"S");apply k_go;apply aO;(walk_at"S");apply k_go;apply aO;(walk_at"S");apply k_go;apply aO;(walk_at"S");apply k_go;apply aO;(walk_at"S");apply k_go;apply aO;(walk_at"S");apply k_go;walk_at"SS"
end
noncomputable def fp(i:Nat) (q:Bool) (ix:List Nat) (mode:Nat) (z:Nat×Nat):Md:=⟨i,z.1,q,ix,z.2,mode⟩
noncomputable def fY(k n:Nat):List Nat:=List.range' k n
theorem gz{k n:Nat}:fY k (n+1)=k::fY (k+1) n:=rfl
theorem iq{k n x:Nat}:x∈fY k n↔k<=x/\x<k+n:=List.mem_range'_1
section
variable{W W':Wd}{L L' L'':List Ck}{h h' ee:MH}{n v:Nat}
theorem lS{i j:Nat}{q:Bool}{ix:List Nat}{mode acc p:Nat}(hi:i<W.ty.length):(W.fj i q ix mode acc p).bP j=if j=i then W.bP i++[W.ms.length+2] else W.bP j:=by
 unfold Wd.bP;rw[show(W.fj i q ix mode acc p).ty=bb (λt=>{ t with meths:=t.meths++[W.ms.length+2] }) i W.ty from rfl,bh]
 by_cases e:j=i
 ·subst e;rw[aae rfl,aae rfl,aao hi];rfl
 ·rw[aaf e,aaf e]
theorem kA{i mode:Nat}{q:Bool}{ix:List Nat}:∀ {l:List (Nat×Nat)}{W:Wd},i<W.ty.length->(W.av i q ix mode l).ms=W.ms++l.map (fp i q ix mode)/\(∀ j,(W.av i q ix mode l).bP j=if j=i then W.bP i++fY (W.ms.length+2) l.length else W.bP j)/\(W.av i q ix mode l).aZ=W.aZ++(fY (W.ms.length+2) l.length).map (λx=>(i,x))/\∀ j,(W.av i q ix mode l).eP j=W.eP j/\(W.av i q ix mode l).dJ j=W.dJ j:=by
 intro l;induction l with
 |nil =>
  intro W hi;exact⟨by simp[Wd.ng],λj=>by
  rw[Wd.ng];by_cases e:j=i
  ·subst e;simp[fY]
  ·exact(aaf e).symm,by simp[Wd.ng,Wd.Cc,fY],λj=>⟨rfl,rfl⟩⟩
 |cons x l ih =>
  intro W hi;refine jy (ih (W:=W.fj i q ix mode x.2 x.1) (by show i<(bb _ _ _).length;rw[bB];exact hi)) λa b c d=>?_
  have e:(W.fj i q ix mode x.2 x.1).ms=W.ms++[fp i q ix mode x]:=rfl;have e2:(W.fj i q ix mode x.2 x.1).ms.length+2=W.ms.length+2+1:=by rw[e];simp
  refine⟨a.trans (by rw[e];simp),λj=>(b j).trans ?_,c.trans ?_,λj=>⟨(d j).1.trans ?_,(d j).2.trans ?_⟩⟩
  ·rw[lS hi,aae rfl,lS hi,e2,aaI,gz];by_cases e:j=i
   ·rw[aae e,aae e];simp
   ·rw[aaf e,aaf e,aaf e]
  ·rw[e2,aaI,gz];simp[Wd.fj]
  ·unfold Wd.eP;rw[show(W.fj i q ix mode x.2 x.1).ty=bb (λt=>{ t with meths:=t.meths++[W.ms.length+2] }) i W.ty from rfl,bh]
   by_cases e:j=i
   ·rw[aae e];cases W.ty[j]? <;>rfl
   ·rw[aaf e]
  ·unfold Wd.dJ;rw[show(W.fj i q ix mode x.2 x.1).ty=bb (λt=>{ t with meths:=t.meths++[W.ms.length+2] }) i W.ty from rfl,bh]
   by_cases e:j=i
   ·rw[aae e];cases W.ty[j]? <;>rfl
   ·rw[aaf e]
theorem sA{i p j:Nat}{r:Rw}:(W.note i r p).bP j=W.bP j/\(W.note i r p).eP j=W.eP j:=by
 unfold Wd.note;split
 ·exact⟨rfl,rfl⟩
 ·unfold Wd.bP Wd.eP Wd.i9;simp only;rw[bh];by_cases e:j=i
  ·rw[aae e];cases W.ty[j]? <;>exact⟨rfl,rfl⟩
  ·rw[aaf e];exact⟨rfl,rfl⟩
theorem yV{i:Nat}{r:Rw}:∀ {l:List Nat}{W:Wd},(W.bR i r l).ms=W.ms/\(W.bR i r l).aZ=W.aZ/\∀ j,(W.bR i r l).bP j=W.bP j/\(W.bR i r l).eP j=W.eP j:=by
 intro l;induction l with
 |nil =>
  intro W;exact⟨rfl,rfl,λO=>⟨rfl,rfl⟩⟩
 |cons p l ih =>
  intro W;refine jx (ih (W:=W.note i r p)) λa b c=>?_
  refine eQ (gy (W:=W) (i:=i) (r:=r) (p:=p)) λu1 u2 u3 u4 u5 u6 u7=>?_
  exact⟨a.trans u6,b.trans u7,λj=>⟨(c j).1.trans sA.1,(c j).2.trans sA.2⟩⟩
theorem yW{i j:Nat}{r:Rw}(hi:i<W.ty.length):(W.b9 i r).eP j=if j=i then W.eP i++[r] else W.eP j:=by
 unfold Wd.eP Wd.b9;simp only;rw[bh];by_cases e:j=i
 ·subst e;rw[aae rfl,aae rfl,aao hi];rfl
 ·rw[aaf e,aaf e]
theorem nk{i j:Nat}{r:Rw}:(W.b9 i r).bP j=W.bP j/\(W.b9 i r).dJ j=W.dJ j:=by
 unfold Wd.bP Wd.dJ Wd.b9;simp only;rw[bh];by_cases e:j=i
 ·rw[aae e];cases W.ty[j]? <;>exact⟨rfl,rfl⟩
 ·rw[aaf e];exact⟨rfl,rfl⟩
theorem o8{i j:Nat}{r:Rw}(hi:i<W.tb.length):(W.yR i r).bc j=if j=i then W.bc i++[r] else W.bc j:=by
 unfold Wd.yR;by_cases e:j=i
 ·subst e;rw[aae rfl];unfold Wd.bc;rw[List.getElem?_set_self hi]
 ·rw[aaf e];unfold Wd.bc;rw[List.getElem?_set_ne (λq=>e q.symm)]
structure Mk(W W':Wd) (i:Nat) (q:Bool) (ix:List Nat) (mode:Nat) (l:List (Nat×Nat)) (r:Rw):Prop where
 ms:W'.ms=W.ms++l.map (fp i q ix mode)
 bP:∀ j,W'.bP j=if j=i then W.bP i++fY (W.ms.length+2) l.length else W.bP j
 eP:∀ j,W'.eP j=if j=i then W.eP i++[r] else W.eP j
 bc:∀ j,W'.bc j=if j=i then W.bc i++[r] else W.bc j
 aZ:W'.aZ=W.aZ++(fY (W.ms.length+2) l.length).map (λx=>(i,x))
 lv:W'.lv=W.lv
 nl:W'.nl=W.nl
 r5:W'.ty.length=W.ty.length
 tbl:W'.tb.length=W.tb.length
theorem nq{i mode g s:Nat}{q:Bool}{ix:List Nat}{l:List (Nat×Nat)}(hi:i<W.ty.length) (ht:i<W.tb.length):Mk W (W.ip i q ix mode l g s) i q ix mode l ⟨q,ix,g,s,mode,gW l⟩:=by
 obtain⟨u1,u2,u3,u4,-⟩:=fk (i:=i) (mode:=mode) (q:=q) (ix:=ix) (l:=l) (W:=W);refine jy (kA (i:=i) (mode:=mode) (q:=q) (ix:=ix) (l:=l) hi) λa1 a2 a3 a4=>?_
 refine lW (gV (i:=i) (r:=⟨q,ix,g,s,mode,gW l⟩) (l:=l.map (·.1)) (W:=(W.av i q ix mode l).b9 i ⟨q,ix,g,s,mode,gW l⟩)) λv1 v2 v3 v4 v5=>?_
 refine jx (yV (i:=i) (r:=⟨q,ix,g,s,mode,gW l⟩) (l:=l.map (·.1)) (W:=(W.av i q ix mode l).b9 i ⟨q,ix,g,s,mode,gW l⟩)) λn1 n2 n3=>?_
 have Jk:i<(W.av i q ix mode l).ty.length:=by rw[u4];exact hi
 have NY:i<(((W.av i q ix mode l).b9 i ⟨q,ix,g,s,mode,gW l⟩).bR i ⟨q,ix,g,s,mode,gW l⟩ (l.map (·.1))).tb.length:=by rw[v1];show i<(W.av i q ix mode l).tb.length;rw[u1];exact ht
 have J':∀ j,(((W.av i q ix mode l).b9 i ⟨q,ix,g,s,mode,gW l⟩).bR i ⟨q,ix,g,s,mode,gW l⟩ (l.map (·.1))).bc j=W.bc j:=λj=>eY (v1.trans u1)
 refine⟨n1.trans a1,λj=>(n3 j).1.trans (nk.1.trans (a2 j)),λj=>(n3 j).2.trans ((yW Jk).trans ?_),λj=>(o8 NY).trans ?_,n2.trans a3,v2.trans u2,v3.trans u3,?_,?_⟩
 ·rw[(a4 i).1,(a4 j).1]
 ·rw[J',J']
 ·exact v4.trans (bB.trans u4)
 ·show(List.set _ _ _).length=_;rw[List.length_set,v1];exact aab List.length u1
end
theorem t6:∀ n k,(fY k n).Nodup:=by
 intro n;induction n with
 |zero =>
  intro k;exact List.nodup_nil
 |succ n ih =>
  intro k;rw[gz];refine aaU.mpr ⟨λh=>?_,ih (k+1)⟩
  have:=iq.mp h
  lia
structure kU(W:Wd):Prop where
 tl:W.tb.length=W.ty.length
 nl:W.nl=W.ty.length
 row:∀ j,∀ r∈W.bc j,bQ W j r/\r.mode<7/\j<W.ty.length
 wd:∀ j,∀ r∈W.bc j,16∈r.ix->W.wide j=true
 un:∀ j,(W.bc j).Pairwise λr o=>¬ (r.q=o.q/\r.ix.length=o.ix.length)
 tn:∀ j,(W.bc j).length<=2
 has:∀ x m,W.md x=some m->xY m/\m.i<W.ty.length/\∃ r∈W.bc m.i,r.mid m.p=x/\r.q=m.q/\r.ix=m.ix/\r.mode=m.mode
 bP:∀ j x,x∈W.bP j↔∃ m,W.md x=some m/\m.i=j
 PX:∀ j,(W.bP j).Nodup
 Ka:∀ j,(W.bP j).length<=2*(W.bc j).length
 eP:∀ j,W.eP j=W.bc j
 mid:∀ j x,(j,x)∈W.aZ->∃ m,W.md x=some m/\m.i=j
def LS(l:List (Nat×Nat)) (k g s:Nat):Prop:=(∃ a b,l=[(2,a),(3,b)]/\g=k+2/\s=k+3)∨(∃ a,l=[(2,a)]/\g=k+2/\s=0)∨(∃ b,l=[(3,b)]/\g=0/\s=k+2)
theorem OD{l:List (Nat×Nat)}{k g s:Nat}(G:GS (l.map (·.1)) k g s):LS l k g s:=by
 rcases G with⟨e,h⟩ | ⟨e,h⟩ | ⟨e,h⟩
 ·match l,e with
  |[(_,a),(_,b)],e=>simp at e;obtain⟨rfl,rfl⟩:=e;exact .inl ⟨a,b,rfl,h⟩
 ·match l,e with
  |[(_,a)],e=>simp at e;subst e;exact .inr (.inl ⟨a,rfl,h⟩)
 ·match l,e with
  |[(_,a)],e=>simp at e;subst e;exact .inr (.inr ⟨a,rfl,h⟩)
section
variable{W W':Wd}{L L' L'':List Ck}{h h' ee:MH}{n v n i mode g s:Nat}{q:Bool}{ix:List Nat}{l:List (Nat×Nat)}{r:Rw}
theorem gI{x:Nat}{m:Md}(e:W.md x=some m):2<=x/\x<W.ms.length+2:=by
 unfold Wd.md at e;split at e
 ·have:=(aav.mp e).1;exact⟨(by assumption),(Nat.sub_lt_iff_lt_add (by assumption)).mp this⟩
 ·cases e
theorem Mk.old(M:Mk W W' i q ix mode l r) {x:Nat}(hx:x<W.ms.length+2):W'.md x=W.md x:=by
 unfold Wd.md;rw[M.ms];split
 ·rw[aaJ (Nat.sub_lt_right_of_lt_add (by assumption) hx)]
 ·rfl
theorem Mk.yX(M:Mk W W' i q ix mode l r) {x:Nat}{m:Md}(e:W.md x=some m):W'.md x=some m:=(M.old (gI e).2).trans e
theorem Mk.new(M:Mk W W' i q ix mode l r) {t:Nat}:W'.md (W.ms.length+2+t)=(l[t]?).map (fp i q ix mode):=by
 unfold Wd.md;rw[M.ms,aae (Nat.le_of_add_left_le (aaF _ _)),aaO (Nat.le_sub_of_add_le (aaF _ _)),List.getElem?_map];congr 2;exact Uc
theorem Mk.cases(M:Mk W W' i q ix mode l r) {x:Nat}{m:Md}(e:W'.md x=some m):W.md x=some m∨∃ t z,x=W.ms.length+2+t/\t<l.length/\l[t]? =some z/\m=fp i q ix mode z:=by
 by_cases hx:x<W.ms.length+2
 ·exact .inl ((M.old hx).symm.trans e)
 ·refine .inr ?_;obtain⟨t,rfl⟩:∃ t,x=W.ms.length+2+t:=⟨x-(W.ms.length+2),by exact n_5 _ (Nat.le_of_not_lt hx)⟩
  rw[M.new]at e;rw[aas]at e;obtain⟨z,e1,e2⟩:=e;exact⟨t,z,rfl,(aav.mp e1).1,e1,e2.symm⟩
theorem bQ.mono{j:Nat}{o:Rw}(k:bQ W j o) (e:∀ x m,W.md x=some m->W'.md x=some m):bQ W' j o:=by
 have OE:∀ x,(∃ m,W.md x=some m)->W'.acc x=W.acc x:=λx ⟨m,hm⟩=>by rw[fh hm,fh (e x m hm)]
 refine⟨λh=>?_,λh=>?_,k.one,k.ix,k.len,k.seen.trans ?_⟩
 ·obtain⟨m,h1,h2⟩:=k.g h;exact⟨m,e _ _ h1,h2⟩
 ·obtain⟨m,h1,h2⟩:=k.s h;exact⟨m,e _ _ h1,h2⟩
 ·have e1:(decide (o.g≠0)&&decide (W.acc o.g≠1))=(decide (o.g≠0)&&decide (W'.acc o.g≠1)):=by
   by_cases h:o.g=0
   ·simp[h]
   ·obtain⟨m,h1,h2⟩:=k.g h;rw[OE _ ⟨m,h1⟩]
  have e2:(decide (o.s≠0)&&decide (W.acc o.s≠1))=(decide (o.s≠0)&&decide (W'.acc o.s≠1)):=by
   by_cases h:o.s=0
   ·simp[h]
   ·obtain⟨m,h1,h2⟩:=k.s h;rw[OE _ ⟨m,h1⟩]
  rw[e1,e2]
theorem IX.ok{w sc:Bool}(k:IX w sc q ix):∀ a∈ix,d6 a:=by
 rcases k with⟨-,-,rfl⟩ | ⟨-,⟨-,rfl⟩ | rfl | rfl | ⟨-,rfl⟩⟩<;>intro a ha<;>simp at ha<;>unfold d6<;>lia
theorem IX.wd{w sc:Bool}(k:IX w sc q ix) (h:16∈ix):w=true:=by
 rcases k with⟨-,-,rfl⟩ | ⟨-,⟨-,rfl⟩ | rfl | rfl | ⟨e,rfl⟩⟩<;>first | exact e | simp at h
theorem newRow{sc w:Bool}(M:Mk W W' i q ix mode l ⟨q,ix,g,s,mode,gW l⟩) (S:LS l W.ms.length g s) (iK:IX w sc q ix):bQ W' i ⟨q,ix,g,s,mode,gW l⟩:=by
 have n0:=M.new (t:=0);have n1:=M.new (t:=1);clear M;rcases S with⟨a,b,rfl,rfl,rfl⟩ | ⟨a,rfl,rfl,rfl⟩ | ⟨b,rfl,rfl,rfl⟩
 ·have n0:W'.md (W.ms.length+2)=some (fp i q ix mode (2,a)):=n0;have n1:W'.md (W.ms.length+3)=some (fp i q ix mode (3,b)):=n1;refine⟨λO=>⟨_,n0,rfl,rfl,rfl,rfl,rfl⟩,λO=>⟨_,n1,rfl,rfl,rfl,rfl,rfl⟩,.inl (Nat.succ_ne_zero _),iK.ok,iK.len,?_⟩
  rw[fh n0,fh n1];by_cases ea:a=1<;>by_cases eb:b=1<;>simp[gW,fp,ea,eb]
 ·have n0:W'.md (W.ms.length+2)=some (fp i q ix mode (2,a)):=n0;refine⟨λO=>⟨_,n0,rfl,rfl,rfl,rfl,rfl⟩,λh=>absurd rfl h,.inl (Nat.succ_ne_zero _),iK.ok,iK.len,?_⟩
  rw[fh n0];by_cases ea:a=1<;>simp[gW,fp,ea]
 ·have n0:W'.md (W.ms.length+2)=some (fp i q ix mode (3,b)):=n0;refine⟨λh=>absurd rfl h,λO=>⟨_,n0,rfl,rfl,rfl,rfl,rfl⟩,.inr (Nat.succ_ne_zero _),iK.ok,iK.len,?_⟩
  rw[fh n0];by_cases eb:b=1<;>simp[gW,fp,eb]
theorem yY(S:LS l W.ms.length g s) {t:Nat}{z:Nat×Nat}(e:l[t]? =some z):(z.1=2∨z.1=3)/\(⟨q,ix,g,s,mode,gW l⟩:Rw).mid z.1=W.ms.length+2+t:=by
 rcases S with⟨a,b,rfl,rfl,rfl⟩ | ⟨a,rfl,rfl,rfl⟩ | ⟨b,rfl,rfl,rfl⟩
 ·match t,e with
  |0,e=>cases e;exact⟨.inl rfl,rfl⟩
  |1,e=>cases e;exact⟨.inr rfl,rfl⟩
 ·match t,e with
  |0,e=>cases e;exact⟨.inl rfl,rfl⟩
 ·match t,e with
  |0,e=>cases e;exact⟨.inr rfl,rfl⟩
theorem kU.ip{sc:Bool}(T:kU W) (hi:i+1=W.ty.length) (qV:mode<7) (iK:IX (W.wide i) sc q ix) (S:LS l W.ms.length g s) (hz:∀ z∈l,slot mode=true->z.2=6) (OH:∀ o∈W.bc i,¬ (o.q=q/\o.ix.length=ix.length)) (Tv:(W.bc i).length<=1):kU (W.ip i q ix mode l g s):=by
 have M:=nq (W:=W) (mode:=mode) (g:=g) (s:=s) (q:=q) (ix:=ix) (l:=l) (show i<W.ty.length by exact aaD hi) (by rw[T.tl];exact aaD hi)
 generalize W.ip i q ix mode l g s=W' at M;have pD:l.length<=2:=by clear M hz;rcases S with⟨a,b,rfl,-⟩ | ⟨a,rfl,-⟩ | ⟨b,rfl,-⟩<;>simp
 refine⟨M.tbl.trans (T.tl.trans M.r5.symm),M.nl.trans (T.nl.trans M.r5.symm),λj o ho=>?_,λj o ho Iq=>?_,λj=>?_,λj=>?_,λx m hm=>?_,λj x=>?_,λj=>?_,λj=>?_,λj=>?_,λj x hx=>?_⟩
 ·rw[M.r5];rw[M.bc]at ho;by_cases e:j=i
  ·rw[aae e]at ho;clear OH;rcases aaM.mp ho with ho | ho
   ·rw[<- e]at ho;obtain⟨a,b,c⟩:=T.row j o ho;exact⟨a.mono λx m=>M.yX,b,c⟩
   ·rw[aar]at ho;subst ho;clear ho;subst e;exact⟨newRow M S iK,qV,by exact aaD hi⟩
  ·rw[aaf e]at ho;obtain⟨a,b,c⟩:=T.row j o ho;exact⟨a.mono λx m=>M.yX,b,c⟩
 ·rw[iJ M.lv];rw[M.bc]at ho;by_cases e:j=i
  ·rw[aae e]at ho;clear OH hi;rcases aaM.mp ho with ho | ho
   ·rw[<- e]at ho;exact T.wd j o ho Iq
   ·rw[aar]at ho;subst ho;clear ho M;subst e;exact iK.wd Iq
  ·rw[aaf e]at ho;exact T.wd j o ho Iq
 ·rw[M.bc];by_cases e:j=i
  ·rw[aae e,List.pairwise_append];exact⟨T.un i,List.pairwise_singleton _ _,λa ha b hb=>by rw[aar]at hb;subst hb;exact OH a ha⟩
  ·rw[aaf e];exact T.un j
 ·rw[M.bc];by_cases e:j=i
  ·rw[aae e,aag];simp;exact Tv
  ·rw[aaf e];exact T.tn j
 ·rw[M.r5];rcases M.cases hm with hm | ⟨t,z,rfl,ht,ez,rfl⟩
  ·obtain⟨a,b,r,c,d⟩:=T.has x m hm;refine⟨a,b,r,?_,d⟩;rw[M.bc];split
   ·rename_i e;rw[<- e];exact List.mem_append_left _ c
   ·exact c
  ·obtain⟨z1,z2⟩:=yY (q:=q) (ix:=ix) (mode:=mode) S ez;refine⟨⟨z1,iK.ok,iK.len,qV,λhs=>hz z (List.mem_of_getElem? ez) hs⟩,by show i<_;exact aaD hi,_,?_,z2,rfl,rfl,rfl⟩
   rw[M.bc];rw[aae (show(fp i q ix mode z).i=i from rfl)]
   exact List.mem_append_right _ (aar.mpr rfl)
 ·rw[M.bP];constructor
  ·intro hx;by_cases e:j=i
   ·rw[aae e]at hx;rcases aaM.mp hx with hx | hx
    ·obtain⟨m,a,b⟩:=(T.bP i x).mp hx;exact⟨m,M.yX a,b.trans e.symm⟩
    ·obtain⟨a,b⟩:=iq.mp hx;clear hx;obtain⟨t,rfl⟩:∃ t,x=W.ms.length+2+t:=⟨x-(W.ms.length+2),by exact n_5 _ a⟩
     have hl:t<l.length:=Nat.lt_of_add_lt_add_left b;exact⟨_,by rw[M.new,aao hl];rfl,e.symm⟩
   ·rw[aaf e]at hx;obtain⟨m,a,b⟩:=(T.bP j x).mp hx;exact⟨m,M.yX a,b⟩
  ·rintro⟨m,hm,rfl⟩
   rcases M.cases hm with hm | ⟨t,z,rfl,ht,ez,rfl⟩
   ·have:=(T.bP _ x).mpr ⟨m,hm,rfl⟩;split
    ·rename_i e;rw[<- e];exact List.mem_append_left _ this
    ·exact this
   ·rw[aae (show(fp i q ix mode z).i=i from rfl)]
    exact List.mem_append_right _ (iq.mpr ⟨by exact aaF _ _,by exact Nat.add_lt_add_left ht _⟩)
 ·rw[M.bP];by_cases e:j=i
  ·rw[aae e,List.nodup_append];refine⟨T.PX i,?_,λa ha b hb=>?_⟩
   ·exact t6 _ _
   ·obtain⟨m,hm,-⟩:=(T.bP i a).mp ha;have:=gI hm;have:=iq.mp hb;exact aaR (aai (And.right (by assumption)) (And.left this))
  ·rw[aaf e];exact T.PX j
 ·rw[M.bP,M.bc];by_cases e:j=i
  ·rw[aae e,aae e,aag,aag];have:=T.Ka i;have h2:(fY (W.ms.length+2) l.length).length=l.length:=by simp[fY]
   simp;exact Nat.add_le_add this (zC h2 pD)
  ·rw[aaf e,aaf e];exact T.Ka j
 ·rw[M.eP,M.bc,T.eP i,T.eP j]
 ·rw[M.aZ]at hx;rcases aaM.mp hx with hx | hx
  ·obtain⟨m,a,b⟩:=T.mid j x hx;exact⟨m,M.yX a,b⟩
  ·obtain⟨y,hy,e⟩:=aaG.mp hx;clear hx;cases e;clear hx;obtain⟨a,b⟩:=iq.mp hy;clear hy;obtain⟨t,rfl⟩:∃ t,x=W.ms.length+2+t:=⟨x-(W.ms.length+2),by exact n_5 _ a⟩
   have hl:t<l.length:=Nat.lt_of_add_lt_add_left b;exact⟨_,by rw[M.new,aao hl];rfl,rfl⟩
end
noncomputable def Md.rw(m:Md):Rw:=⟨m.q,m.ix,0,0,m.mode,false⟩
def Wd.eu(W:Wd) (m:Md):Option (Nat×Nat):=W.kq m.i m.rw m.p m.i
noncomputable def Wd.rt(W:Wd) (x:Nat):Nat:=(W.root.lookup x).getD 0
noncomputable def zA(mode x:Nat) (rt:Nat->Nat) (f:Option (Nat×Nat)):Nat:=if mode=0 then (match f with | some q=>rt q.2 | none=>x) else x
structure Sem(W:Wd) (N:Nat):Prop where
 r1:∀ x m,W.md x=some m->x<N->slot m.mode=true->W.root.lookup x=some (zA m.mode x W.rt (W.eu m))
 r0:∀ x,(W.root.lookup x).isSome=true->x<N/\∃ m,W.md x=some m/\slot m.mode=true
 d1:∀ d∈W.au,∃ m,W.md d.2.2=some m/\d.2.2<N/\m.i=d.1/\slot m.mode=true/\(d.2.1=W.rt d.2.2∨(m.mode=5/\∃ q,W.eu m=some q/\d.2.1=W.rt q.2))
 d2:∀ x m,W.md x=some m->x<N->slot m.mode=true->(m.i,W.rt x,x)∈W.au/\∀ q,m.mode=5->W.eu m=some q->(m.i,W.rt q.2,x)∈W.au
 d3:W.au.Pairwise λd e=>d.1<=e.1
 i1:∀ j,∀ im∈W.dJ j,∃ m,W.md im.1=some m/\im.1<N/\m.i=j/\((m.mode=5/\∃ q,W.eu m=some q/\im.2=(W.kd q.1 (W.ar j 16 q.1),q.2))∨(m.mode=6/\im.2=((29,none),1)))
 i2:∀ x m q,W.md x=some m->x<N->m.mode=5->W.eu m=some q->(x,W.kd q.1 (W.ar m.i 16 q.1),q.2)∈W.dJ m.i
 i3:∀ j,((W.dJ j).map (·.1)).Nodup
 p1:∀ x,(W.put.lookup x).isSome=true↔∃ m,W.md x=some m/\x<N/\m.mode=5/\(W.eu m).isSome=true
section
variable{W W':Wd}{L L' L'':List Ck}{h h' ee:MH}{n v n i p mode g s:Nat}{q:Bool}{ix:List Nat}{l:List (Nat×Nat)}{r o:Rw}{m:Md}
theorem Sem.cS(S:Sem W N) (e:∀ x,x<N->W'.md x=W.md x) (er:W'.root=W.root) (ed:W'.au=W.au) (ep:W'.put=W.put) (ei:∀ j,W'.dJ j=W.dJ j) (el:W'.lv=W.lv) (ef:∀ x m,W.md x=some m->x<N->W'.eu m=W.eu m):Sem W' N:=by
 have rt:W'.rt=W.rt:=by funext x;unfold Wd.rt;rw[er]
 refine⟨λx m hm hx hs=>?_,λx hx=>?_,λd hd=>?_,λx m hm hx hs=>?_,ed▸S.d3,λj im eB=>?_,λx m q hm hx h5 hf=>?_,λj=>by rw[ei];exact S.i3 j,λx=>?_⟩
 ·rw[e x hx]at hm;rw[er,rt,ef x m hm hx];exact S.r1 x m hm hx hs
 ·rw[er]at hx;obtain⟨a,m,b,c⟩:=S.r0 x hx;exact⟨a,m,(e x a).trans b,c⟩
 ·rw[ed]at hd;obtain⟨m,a,b,c,f,k⟩:=S.d1 d hd;refine⟨m,(e _ b).trans a,b,c,f,?_⟩;rw[rt,ef _ m a b];exact k
 ·rw[e x hx]at hm;rw[ed,rt,ef x m hm hx];exact S.d2 x m hm hx hs
 ·rw[ei]at eB;obtain⟨m,a,b,c,k⟩:=S.i1 j im eB;refine⟨m,(e _ b).trans a,b,c,?_⟩;rw[ef _ m a b];simp only[sk el,il el];exact k
 ·rw[e x hx]at hm;rw[ef x m hm hx]at hf;rw[ei,sk el,il el];exact S.i2 x m q hm hx h5 hf
 ·rw[ep,S.p1];constructor
  ·rintro⟨m,a,b,c,d⟩;exact⟨m,(e x b).trans a,b,c,by rw[ef x m a b];exact d⟩
  ·rintro⟨m,a,b,c,d⟩;rw[e x b]at a;exact⟨m,a,b,c,by rw[<- ef x m a b];exact d⟩
theorem Ce(e1:r.q=o.q) (e2:r.ix=o.ix):∀ {u:Nat},W.kq i r p u=W.kq i o p u:=by
 intro u;induction u with
 |zero =>
  exact rfl
 |succ u ih =>
  have:W.jv i u r p=W.jv i u o p:=by funext z;unfold Wd.jv;rw[e1,e2]
  simp only[Wd.lR,this,ih]
theorem bQ.md{C_:Prop}{j:Nat}(k:bQ W j o) (hp:p=2∨p=3) (h0:o.mid p≠0) (k_:∀ m,W.md (o.mid p)=some m->m.i=j->m.p=p->m.q=o.q->m.ix=o.ix->m.mode=o.mode->C_):C_:=by
 rcases hp with rfl | rfl
 ·obtain⟨m,a,b,c,d,e,f⟩:=k.g h0;exact k_ m a b c d e f
 ·obtain⟨m,a,b,c,d,e,f⟩:=k.s h0;exact k_ m a b c d e f
theorem o9{C_:Prop}(Jm:∀ j,∀ o∈W.bc j,bQ W j o) (hp:m.p=2∨m.p=3) {z:Nat×Nat}(e:W.eu m=some z) (k_:∀ m',W.md z.2=some m'->m'.i=z.1->z.1<m.i->slot m'.mode=true->m'.p=m.p->m'.q=m.q->m'.ix.map (cl (some (W.ar m.i 16 z.1)))=m.ix.map (cl (some 16))->C_):C_:=by
 obtain⟨a,o,ho,hs,hx⟩:=o7 e;unfold Wd.jv at hs;simp only[aaB,aaS]at hs;refine(Jm _ o ho).md hp hs.2.1 λm' b1 b2 b3 b4 b5 b6=>?_
 exact k_ m' (by rw[hx];exact b1) b2 a (by rw[b6];exact hs.2.2.1) b3 (b4.trans hs.1) (by rw[b5];exact hs.2.2.2)
theorem t7{x z:Nat}{f:Option (Nat×Nat)}(hq:∀ q,f=some q->q.2≠x):(W.r2 x mode f).lookup z=if z=x then some (zA mode x W.rt f) else W.root.lookup z:=by
 unfold Wd.r2 zA;cases f with
 |none =>
  simp only[aM];split
  ·simp
  ·rfl
 |some q =>
  simp only;by_cases h0:mode=0
  ·rw[aae h0,aae h0,aM,aM,aM,aaf (hq q rfl)];split<;>rfl
  ·rw[aaf h0,aaf h0,aM]
theorem yZ{i j x:Nat}{f:Option (Nat×Nat)}(hi:i<W.ty.length):(W.i9 i r x f).dJ j=if j=i then W.dJ i++(o5 r.mode f (λq=>(x,W.kd q.1 (W.ar i 16 q.1),q.2))++o6 r.mode (x,(29,none),1)) else W.dJ j:=by
 by_cases e:j=i
 ·rw[aae e,e];exact m_ rfl hi
 ·rw[aaf e];unfold Wd.dJ;rw[show(W.i9 i r x f).ty=bb _ i W.ty from rfl,bh,aaf e]
theorem Cf{m x z:Nat}{f:Option (Nat×Nat)}{l:List (Nat×Nat)}:((p5 m x f l).lookup z).isSome=true↔(z=x/\m=5/\f.isSome=true)∨(l.lookup z).isSome=true:=by
 unfold p5;by_cases h:m=5
 ·rw[aae h];cases f with
  |none=>exact⟨.inr,λe=>e.resolve_left λq=>nomatch q.2.2⟩
  |some q =>
   show((bx x 1 l).lookup z).isSome=true↔_;rw[aM];by_cases e:z=x
   ·rw[aae e];exact⟨λO=>.inl ⟨e,h,rfl⟩,λO=>rfl⟩
   ·rw[aaf e];exact⟨.inr,λq=>q.resolve_left λq=>e q.1⟩
 ·rw[aaf h];exact⟨.inr,λe=>e.resolve_left λq=>h q.2.1⟩
theorem Jn{α:Type}{l:List α}(h:l.length<=1):l.Nodup:=by
 cases l with
 |nil=>exact List.nodup_nil
 |cons a l =>
  cases List.eq_nil_of_length_eq_zero (Nat.le_zero.mp (Nat.le_of_succ_le_succ h));exact List.pairwise_singleton _ _
theorem Sem.skip(S:Sem W N) (hm:W.md N=some m) (hs:slot m.mode=false):Sem W (N+1):=by
 have key:∀ x m',W.md x=some m'->x<N+1->slot m'.mode=true->x<N:=λx m' e hx zw=>by
  rcases Nat.lt_succ_iff_lt_or_eq.mp hx with h | rfl
  ·exact h
  ·rw[hm]at e;cases e;rw[hs]at zw;cases zw
 have s5:∀ k,k=5->slot k=true:=λk e=>by rw[e];rfl
 refine⟨λx m' e hx h=>S.r1 x m' e (key x m' e hx h) h,λx hx=>?_,λd hd=>?_,λx m' e hx h=>S.d2 x m' e (key x m' e hx h) h,S.d3,λj im eB=>?_,λx m' q e hx h5 hf=>S.i2 x m' q e (key x m' e hx (s5 _ h5)) h5 hf,S.i3,λx=>?_⟩
 ·obtain⟨a,b⟩:=S.r0 x hx;exact⟨aaw a,b⟩
 ·obtain⟨m,a,b,c⟩:=S.d1 d hd;exact⟨m,a,aaw b,c⟩
 ·obtain⟨m,a,b,c⟩:=S.i1 j im eB;exact⟨m,a,aaw b,c⟩
 ·rw[S.p1];exact⟨λ⟨m,a,b,c,d⟩=>⟨m,a,aaw b,c,d⟩,λ⟨m,a,b,c,d⟩=>⟨m,a,key x m a b (s5 _ c),c,d⟩⟩
theorem Sem.core(S:Sem W N) (hm:W.md N=some m) (hs:slot m.mode=true) (qQ:m.i=i) (hq:∀ x m',W.md x=some m'->∀ z,W.eu m'=some z->z.2≠N) (hle:∀ x m',W.md x=some m'->m'.i<=i) (Jo:W'.md=W.md) (Kb:W'.eu=W.eu) (I0:W'.kd=W.kd) (VY:W'.ar=W.ar)
  (Tw:∀ z,W'.root.lookup z=if z=N then some (zA m.mode N W.rt (W.eu m)) else W.root.lookup z) (PL:W'.au=W.au++((i,W'.rt N,N)::o5 m.mode (W.eu m) λq=>(i,W'.rt q.2,N)))
  (Tx:∀ j,W'.dJ j=if j=i then W.dJ i++(o5 m.mode (W.eu m) (λq=>(N,W.kd q.1 (W.ar i 16 q.1),q.2))++o6 m.mode (N,(29,none),1)) else W.dJ j) (ep:∀ x,(W'.put.lookup x).isSome=true↔(x=N/\m.mode=5/\(W.eu m).isSome=true)∨(W.put.lookup x).isSome=true):Sem W' (N+1):=by
 have sC:∀ z,z≠N->W'.rt z=W.rt z:=λz hz=>by unfold Wd.rt;rw[Tw,aaf hz]
 have eho:∀ x m',W.md x=some m'->∀ y,zA m'.mode y W'.rt (W.eu m')=zA m'.mode y W.rt (W.eu m'):=λx m' eg y=>by
  unfold zA;cases hf:W.eu m' with
  |none=>rfl
  |some z=>simp only;rw[sC _ (hq x m' eg z hf)]
 have PY:∀ {x},x<N+1->x≠N->x<N:=λh1 h2=>Nat.lt_of_le_of_ne (aax h1) h2
 have hN:=aaN N;have at_:∀ {x m'},W.md x=some m'->x=N->m'=m:=λa e=>by rw[e,hm]at a;exact(aah a).symm
 refine⟨λx m' eg hx zw=>?_,λx hx=>?_,λd hd=>?_,λx m' eg hx zw=>?_,?_,λj im eB=>?_,λx m' z eg hx h5 hf=>?_,λj=>?_,λx=>?_⟩
 ·rw[Jo]at eg;rw[Kb,eho x m' eg,Tw];by_cases e:x=N
  ·rw[aae e,at_ eg e,e]
  ·rw[aaf e];exact S.r1 x m' eg (PY hx e) zw
 ·rw[Tw]at hx;rw[Jo];by_cases e:x=N
  ·rw[e];exact⟨hN,m,hm,hs⟩
  ·rw[aaf e]at hx;exact(S.r0 x hx).imp aaw id
 ·rw[PL]at hd;rw[Jo,Kb];rcases aaM.mp hd with hd | hd
  ·obtain⟨m',a,b,c,d',k⟩:=S.d1 d hd;refine⟨m',a,aaw b,c,d',?_⟩;rw[sC _ (aaR b)];exact k.imp id λ⟨k1,z,k2,k3⟩=>⟨k1,z,k2,k3.trans (sC _ (hq _ m' a z k2)).symm⟩
  ·refine⟨m,?_⟩;rcases aau.mp hd with rfl | hd
   ·exact⟨hm,hN,qQ,hs,.inl rfl⟩
   ·obtain⟨h5,z,hz,rfl⟩:=iI.mp hd;exact⟨hm,hN,qQ,hs,.inr ⟨h5,z,hz,rfl⟩⟩
 ·rw[Jo]at eg;rw[PL,Kb];by_cases e:x=N
  ·rw[at_ eg e,qQ,e];exact⟨List.mem_append_right _ aad,λz h5 hf=>List.mem_append_right _ (aac _ (iI.mpr ⟨h5,z,hf,rfl⟩))⟩
  ·have ab:=S.d2 x m' eg (PY hx e) zw;rw[sC x e];exact⟨List.mem_append_left _ ab.1,λz h5 hf=>List.mem_append_left _ (by rw[sC _ (hq x m' eg z hf)];exact ab.2 z h5 hf)⟩
 ·rw[PL,List.pairwise_append];have IJ:∀ d∈(i,W'.rt N,N)::o5 m.mode (W.eu m) λq=>(i,W'.rt q.2,N),d.1=i:=λd hd=>by
   rcases aau.mp hd with rfl | hd
   ·rfl
   ·obtain⟨_,_,_,rfl⟩:=iI.mp hd;rfl
  refine⟨S.d3,List.Pairwise.imp_of_mem (R:=λO O=>True) (λha hb O=>aaD ((IJ _ ha).trans (IJ _ hb).symm)) (List.pairwise_of_forall λO O=>trivial),λa ha b hb=>?_⟩
  obtain⟨m',k1,k2,k3,-⟩:=S.d1 a ha;rw[IJ b hb,<- k3];exact hle _ m' k1
 ·rw[Tx]at eB;rw[Jo,Kb,I0,VY];by_cases e:j=i
  ·rw[aae e]at eB;rw[e];rcases aaM.mp eB with eB | eB
   ·exact(S.i1 i im eB).imp λm' a=>⟨a.1,aaw a.2.1,a.2.2⟩
   ·refine⟨m,?_⟩;rcases aaM.mp eB with eB | eB
    ·obtain⟨h5,z,hz,rfl⟩:=iI.mp eB;exact⟨hm,hN,qQ,.inl ⟨h5,z,hz,rfl⟩⟩
    ·obtain⟨h6,rfl⟩:=yM.mp eB;exact⟨hm,hN,qQ,.inr ⟨h6,rfl⟩⟩
  ·rw[aaf e]at eB;exact(S.i1 j im eB).imp λm' a=>⟨a.1,aaw a.2.1,a.2.2⟩
 ·rw[Jo]at eg;rw[Kb]at hf;rw[Tx,I0,VY];by_cases e:x=N
  ·rw[at_ eg e]at h5 hf⊢;rw[aae qQ,qQ,e];exact List.mem_append_right _ (List.mem_append_left _ (iI.mpr ⟨h5,z,hf,rfl⟩))
  ·have:=S.i2 x m' z eg (PY hx e) h5 hf;by_cases e2:m'.i=i
   ·rw[e2]at this⊢;rw[aae rfl];exact List.mem_append_left _ this
   ·rw[aaf e2];exact this
 ·rw[Tx];by_cases e:j=i
  ·rw[aae e,aaP,List.nodup_append];refine⟨S.i3 i,Jn (by rw[aan];exact sj),λa ha b hb e=>?_⟩
   obtain⟨im,h1,rfl⟩:=aaG.mp ha;obtain⟨m',k1,k2,-⟩:=S.i1 i im h1;obtain⟨im2,h2,rfl⟩:=aaG.mp hb;refine aaR k2 (e.trans ?_);clear hb e;rcases aaM.mp h2 with h2 | h2
   ·obtain⟨_,_,_,rfl⟩:=iI.mp h2;rfl
   ·obtain⟨_,rfl⟩:=yM.mp h2;rfl
  ·rw[aaf e];exact S.i3 j
 ·rw[ep,S.p1,Jo,Kb];constructor
  ·rintro(⟨e,a,b⟩ | ⟨m',a,b,c,d⟩)
   ·exact⟨m,e▸hm,e▸hN,a,b⟩
   ·exact⟨m',a,aaw b,c,d⟩
  ·rintro⟨m',a,b,c,d⟩
   by_cases e:x=N
   ·rw[at_ a e]at c d;exact .inl ⟨e,c,d⟩
   ·exact .inr ⟨m',a,PY b e,c,d⟩
theorem Sem.step(S:Sem W N) (hm:W.md N=some m) (hs:slot m.mode=true) (qQ:m.i=i) (hmp:m.p=2∨m.p=3) (hi:i<W.ty.length) (Jm:∀ j,∀ o∈W.bc j,bQ W j o) (hle:∀ x m,W.md x=some m->(m.p=2∨m.p=3)/\m.i<=i) (qV:r.mode=m.mode):Sem (W.i9 i r N (W.eu m)) (N+1):=by
 have hq:∀ x m',W.md x=some m'->∀ z,W.eu m'=some z->z.2≠N:=λx m' eg z hz e=>by
  refine o9 Jm (hle x m' eg).1 hz λTz a b c O O O O=>?_
  rw[e,hm]at a;clear O;cases a;have:=(hle x m' eg).2
  lia
 refine S.core hm hs qQ hq (λx m' h=>(hle x m' h).2) rfl (funext λO=>kz (W:=W) (W':=W.i9 i r N (W.eu m)) rfl rfl) rfl (funext λO=>funext λO=>funext λO=>il (W:=W) (W':=W.i9 i r N (W.eu m)) rfl) (λz=>?_) ?_ (λj=>?_) λx=>?_<;>rw[<- qV]
 ·exact t7 (hq N m hm)
 ·exact List.append_assoc ..
 ·exact yZ hi
 ·exact Cf
end
section
variable{W W':Wd}{L L' L'':List Ck}{h h' ee:MH}{n v n i p mode g s:Nat}{q:Bool}{ix:List Nat}{l:List (Nat×Nat)}{r o:Rw}{m:Md}
structure NB(W:Wd) (i:Nat):Prop where
 hi:i<W.ty.length
 row:∀ j,∀ o∈W.bc j,bQ W j o
 le:∀ x m,W.md x=some m->(m.p=2∨m.p=3)/\m.i<=i
theorem sD(e:W'.ms=W.ms):W'.md=W.md:=by funext x;unfold Wd.md;rw[e]
theorem NB.note(B:NB W i):NB (W.note i r p) i:=by
 refine eQ (gy (W:=W) (i:=i) (r:=r) (p:=p)) λu1 u2 u3 u4 u5 u6 u7=>?_
 refine⟨by rw[u4];exact B.hi,λj o ho=>?_,λx m hm=>B.le x m (by rw[<- sD u6];exact hm)⟩
 rw[eY u1]at ho;exact(B.row j o ho).mono λx m hm=>by rw[sD u6];exact hm
theorem Sem.note(S:Sem W N) (B:NB W i) (hm:W.md N=some m) (h1:m.i=i) (h2:m.p=p) (h3:m.q=r.q) (h4:m.ix=r.ix) (h5:r.mode=m.mode) (h6:r.mid p=N):Sem (W.note i r p) (N+1):=by
 have e:W.eu m=W.kq i r p i:=by unfold Wd.eu;rw[h1,h2];exact Ce h3 h4
 unfold Wd.note;by_cases hs:slot r.mode=false
 ·rw[aae hs];exact S.skip hm (by rw[<- h5];exact hs)
 ·rw[aaf hs,h6,<- e];exact S.step hm (by rw[<- h5];simpa using hs) h1 (B.le _ _ hm).1 B.hi B.row B.le h5
theorem lT(el:W'.lv=W.lv):∀ {u:Nat},(∀ j,j<u->W'.bc j=W.bc j)->W'.kq i r p u=W.kq i r p u:=by
 intro u;induction u with
 |zero =>
  intro _;exact rfl
 |succ u ih =>
  intro hj;simp only[Wd.lR,oZ el,hj u (aaN u),ih λj hj'=>hj j (aaw hj')]
theorem Sem.ip{sc:Bool}(T:kU W) (S:Sem W (W.ms.length+2)) (hi:i+1=W.ty.length) (iK:IX (W.wide i) sc q ix) (H:LS l W.ms.length g s):Sem (W.ip i q ix mode l g s) ((W.ip i q ix mode l g s).ms.length+2):=by
 have uB:i<W.ty.length:=aaD hi;have M:=nq (W:=W) (mode:=mode) (g:=g) (s:=s) (q:=q) (ix:=ix) (l:=l) uB (by rw[T.tl];exact uB)
 rw[M.ms,aag,aan];refine fZ (fk (i:=i) (mode:=mode) (q:=q) (ix:=ix) (l:=l) (W:=W)) λu1 u2 u3 u4 u5 u6 u7 u8=>?_
 refine jy (kA (i:=i) (mode:=mode) (q:=q) (ix:=ix) (l:=l) uB) λa1 a2 a3 a4=>?_
 clear a3 M a2 u3 u8;obtain⟨r,hr⟩:∃ r:Rw,r=⟨q,ix,g,s,mode,gW l⟩:=⟨_,rfl⟩;have em:∀ x,x<W.ms.length+2->((W.av i q ix mode l).b9 i r).md x=W.md x:=λx hx=>by
  show(if 2<=x then (W.av i q ix mode l).ms[x-2]? else none)=_
  rw[a1];unfold Wd.md;split
  ·rw[aaJ (Nat.sub_lt_right_of_lt_add (by assumption) hx)]
  ·rfl
 have en:∀ t,((W.av i q ix mode l).b9 i r).md (W.ms.length+2+t)=(l[t]?).map (fp i q ix mode):=λt=>by
  show(if 2<=_ then (W.av i q ix mode l).ms[_]? else none)=_
  rw[a1,aae (Nat.le_of_add_left_le (aaF _ _)),aaO (Nat.le_sub_of_add_le (aaF _ _)),List.getElem?_map];congr 2;exact Uc
 have S1:Sem ((W.av i q ix mode l).b9 i r) (W.ms.length+2):=S.cS em u5 u6 u7 (λj=>nk.2.trans (a4 j).2) u2 λx m O O=>kz (W:=W) (W':=(W.av i q ix mode l).b9 i r) u2 u1
 have B1:NB ((W.av i q ix mode l).b9 i r) i:=by
  refine⟨by show i<(bb _ _ _).length;rw[bB,u4];exact uB,λj o ho=>?_,λx m hm=>?_⟩
  ·rw[eY (W:=W) (W':=(W.av i q ix mode l).b9 i r) u1]at ho;exact(T.row j o ho).1.mono λx m hm=>(em x (gI hm).2).trans hm
  ·by_cases hx:x<W.ms.length+2
   ·rw[em x hx]at hm;obtain⟨k1,k2,-⟩:=T.has x m hm;exact⟨k1.p,by exact aax (O4 hi k2)⟩
   ·obtain⟨t,rfl⟩:∃ t,x=W.ms.length+2+t:=⟨x-(W.ms.length+2),by exact n_5 _ (Nat.le_of_not_lt hx)⟩
    rw[en,aas]at hm;obtain⟨z,e1,rfl⟩:=hm;exact⟨(yY (W:=W) (q:=q) (ix:=ix) (mode:=mode) H e1).1,aat _⟩
 have S2:Sem (((W.av i q ix mode l).b9 i r).bR i r (l.map (·.1))) (W.ms.length+l.length+2):=by
  have n0:=en 0;have n1:=en 1;have ms1:=(gy (W:=(W.av i q ix mode l).b9 i r) (i:=i) (r:=r) (p:=2)).2.2.2.2.2.1;clear en a1 u1 u4 em a4 u2 u7 u5 u6;rcases H with⟨a,b,rfl,rfl,rfl⟩ | ⟨a,rfl,rfl,rfl⟩ | ⟨b,rfl,rfl,rfl⟩
  ·have S2:=S1.note B1 (m:=fp i q ix mode (2,a)) (p:=2) (r:=r) n0 rfl rfl (by rw[hr];rfl) (by rw[hr];rfl) (by rw[hr];rfl) (by rw[hr];rfl)
   exact S2.note (B1.note (p:=2)) (m:=fp i q ix mode (3,b)) (p:=3) (r:=r) (by rw[sD ms1];exact n1) rfl rfl (by rw[hr];rfl) (by rw[hr];rfl) (by rw[hr];rfl) (by rw[hr];rfl)
  ·exact S1.note B1 (m:=fp i q ix mode (2,a)) (p:=2) (r:=r) n0 rfl rfl (by rw[hr];rfl) (by rw[hr];rfl) (by rw[hr];rfl) (by rw[hr];rfl)
  ·exact S1.note B1 (m:=fp i q ix mode (3,b)) (p:=3) (r:=r) n0 rfl rfl (by rw[hr];rfl) (by rw[hr];rfl) (by rw[hr];rfl) (by rw[hr];rfl)
 have e:W.ip i q ix mode l g s=(((W.av i q ix mode l).b9 i r).bR i r (l.map (·.1))).yR i r:=by rw[hr];rfl
 refine lW (gV (i:=i) (r:=r) (l:=l.map (·.1)) (W:=(W.av i q ix mode l).b9 i r)) λv1 v2 v3 v4 v5=>?_
 have NY:i<(((W.av i q ix mode l).b9 i r).bR i r (l.map (·.1))).tb.length:=by rw[v1];show i<(W.av i q ix mode l).tb.length;rw[u1,T.tl];exact uB
 rw[e];refine S2.cS (λx hx=>rfl) rfl rfl rfl (λj=>rfl) rfl ?_
 intro x m hm hx;unfold Wd.eu;refine lT ?_ λj hj=>?_
 ·rfl
 have eg:((W.av i q ix mode l).b9 i r).md x=some m:=by rw[<- sD v5];exact hm
 have:=(B1.le x m eg).2;rw[o8 NY,aaf (aaR (aai hj this))]
end
def pA:aA:=.cons qj (.cons qk (.cons ql (.cons qo .nil)))
noncomputable def pB:MS:=.dX (.attr (.var 1) 38) (.lit (.int 1)) (.new 1 (.cons (.lit (.int 1)) (.cons (.lit (.str (Str.ofString "Object"))) (.cons (.d_ (.int 1)) (.cons (.lit (.int 0)) (.cons (.neg (.lit (.int 1))) (.cons (.a9 .nil) (.cons (.lit (.int 0)) .nil))))))))
def pC:aA:=.cons qp (.cons qq (.cons qr .nil))
def kW(v:Option MV):List (Option MV):=[v,vr aS,vr aK,vr aW,none,none,none,none,none,none,none]
def TC(r:Option (Fl×St)):MH:=match r with
 |some x=>x.2.h
 |none=>h0
@[irreducible] noncomputable def hA:MH:=TC (aw prog (aa prog 38) pA ⟨List.replicate 11 none,h0⟩)
@[irreducible] noncomputable def hB (ob:Bool):MH:=match ob with
 |true=>TC (bG prog (aa prog 38) pB ⟨kW none,hA⟩)
 |false=>hA
@[irreducible] noncomputable def hC (ob:Bool):MH:=TC (aw prog (aa prog 38) pC ⟨kW none,hB ob⟩)
noncomputable def W0(ob:Bool) (lv:List (Bool×Nat)):Wd:=⟨ob,lv,[],[],[],[],[],[],[],0⟩
theorem TF{v:Option MV}:aw prog (aa prog 38) pA ⟨v::List.replicate 10 none,h0⟩=some (.next,⟨kW v,hA⟩):=by kernel_rfl
theorem TG{v:Option MV}:bG prog (aa prog 38) pB ⟨kW v,hA⟩=some (.next,⟨kW v,hB true⟩):=by kernel_rfl
theorem runC{v:Option MV}:∀ ob,aw prog (aa prog 38) pC ⟨kW v,hB ob⟩=some (.next,⟨kW v,hC ob⟩)
 |true=>by kernel_rfl
 |false=>by kernel_rfl
theorem Jp{lv:List (Bool×Nat)}(h:∀ x∈lv,x.2<3) (i:Nat) (W:Wd) (e:W.lv=lv):W.dy i<3:=by
 unfold Wd.dy;rw[e];cases q:lv[i]? with
 |none=>decide
 |some x=>exact h x (List.mem_of_getElem? q)
theorem aw0{lv:List (Bool×Nat)}(hl:∀ x∈lv,x.2<3):∀ ob,AW (W0 ob lv) [] (hC ob):=by
 intro ob;have nn:∀ {α:Type}{j:Nat}{x:α}{P:Prop},([]:List α)[j]? =some x->P:=λe=>by cases e
 refine⟨⟨⟨List.nodup_nil,λO h=>(nomatch h),?_,?_,?_,?_,?_,?_⟩,aaV _,aaV _,λi=>Jp hl i _ rfl,?_,?_,?_,?_,?_,?_,?_,λi t h=>nn h,λi h=>absurd h (Nat.not_lt_zero _),λi t h=>nn h,?_,λj m h=>nn h⟩,⟨?_,?_,aaV _,?_,?_,λi rs h=>nn h,?_,?_,?_,?_⟩,?_,?_,?_⟩
 all_goals first | (cases ob<;>kernel_rfl;done) | skip
 ·intro h;cases ob
  ·cases h
  constructor<;>kernel_rfl
 ·cases ob<;>constructor<;>kernel_rfl
 ·cases ob<;>constructor
  all_goals first | kernel_rfl | exact⟨.fld (.inst 2 0) 31,by kernel_rfl⟩
 ·cases ob<;>exact aaz (by kernel_rfl)
 ·cases ob<;>exact⟨by kernel_rfl,by kernel_rfl⟩
noncomputable def Wd.bV(W:Wd):Wd:={ W with nl:=W.nl+1 }
noncomputable def Wd.aX(W:Wd):Wd:={ W with tb:=W.tb++[[]] }
noncomputable def Wd.nu(W:Wd):Wd:={ W with ty:=W.ty++[⟨[],[],[]⟩] }
section
variable{W W':Wd}{L L' L'':List Ck}{h h' ee:MH}{n v i:Nat}
theorem Cg(hl:W.nl<W.lv.length):W.bV.qR=W.qR++[.tup [.bool (W.wide W.nl),.int (W.dy W.nl)]]:=by
 unfold Wd.qR Wd.bV Wd.wide Wd.dy;simp only;rw[List.take_succ,aao hl,aaP];rfl
theorem AW.bV(A:AW W L h) (hl:W.nl<W.lv.length):AW W.bV L (h.set (.fld aW 2) (.list (W.qR++[.tup [.bool (W.wide W.nl),.int (W.dy W.nl)]]))) :=
 have Q:=A.lw
 ⟨(A.wr.set rfl).cS rfl rfl rfl rfl,⟨Q.t0,kgnd rfl Q.w,hl,by rw[Cg hl];exact kgeq,kgnd rfl Q.tab,λi rs h=>kgnd rfl (Q.rows i rs h),kgnd rfl Q.aZ,kgnd rfl Q.root,kgnd rfl Q.au,kgnd rfl Q.put⟩,A.c1,A.c2,A.c3⟩
theorem kB{α:Type}{l:List α}{a b:α}{j:Nat}(h:(l++[a])[j]? =some b):l[j]? =some b∨(j=l.length/\b=a):=by
 by_cases hj:j<l.length
 ·rw[aaJ hj]at h;exact .inl h
 ·have h2:=(aav.mp h).1;rw[aag]at h2;obtain rfl:j=l.length:=Nat.le_antisymm (aax h2) (Nat.not_lt.mp hj);rw[aaO (aat _),Nat.sub_self]at h;exact .inr ⟨rfl,(aah h).symm⟩
theorem kD:W.gU.length=W.tb.length:=by unfold Wd.gU;rw[aan,List.length_range]
theorem AW.aX(A:AW W L h):AW W.aX L ((h.set (.fld aW 3) (.list (W.gU++[.ref (.item (.fld aW 3) W.gU.length)]))).set (.item (.fld aW 3) W.gU.length) (.list [])):=by
 have Q:=A.lw;refine⟨((A.wr.set rfl).set rfl).cS rfl rfl rfl rfl,⟨Q.t0,kgnd rfl (kgnd rfl Q.w),Q.BX,kgnd rfl (kgnd rfl Q.lv),kgnd rfl (kgeq.trans ?_),λi rs h=>?_,kgnd rfl (kgnd rfl Q.aZ),kgnd rfl (kgnd rfl Q.root),kgnd rfl (kgnd rfl Q.au),kgnd rfl (kgnd rfl Q.put)⟩,A.c1,A.c2,A.c3⟩
 ·rw[kD];unfold Wd.gU Wd.aX;simp only[aag,List.length_singleton,List.range_succ,aaP];rfl
 ·rw[kD];rcases kB (l:=W.tb) h with h | ⟨rfl,rfl⟩
  ·exact kgne (λq=>absurd (Ad.item.inj q).2 (aaR (aav.mp h).1)) (kgnd rfl (Q.rows i rs h))
  ·exact kgeq
theorem y0(h4:W.ty.length<4):W.nu.ka=W.ka.set (21+W.ty.length) (.ref (W.eG W.ty.length)):=by
 apply List.ext_getElem?;intro k;rw[List.getElem?_set];unfold Wd.ka Wd.nu;simp only[List.getElem?_map,aan,List.length_range,aag,List.length_singleton];by_cases hk:k<30
 ·rw[List.getElem?_range hk];simp only[Option.map_some];by_cases e:21+W.ty.length=k
  ·rw[aae e,aaf (show ¬ k=1 by exact zB (P5 e) rfl),aae (show 21<=k/\k<21+(W.ty.length+1) by exact e▸⟨aaF _ _,aaN _⟩),aae (show 21+W.ty.length<30 by exact aak (aaD e) hk),show k-21=W.ty.length by exact n_7 _ (Eq.symm e)]
   rfl
  ·rw[aaf e];congr 1;by_cases e2:k=1
   ·rw[aae e2,aae e2]
   ·rw[aaf e2,aaf e2];by_cases e3:21<=k/\k<21+W.ty.length
    ·rw[aae e3,aae (⟨e3.1,aaw e3.2⟩)];rfl
    ·rw[aaf e3,aaf (λh=>(Nat.lt_or_eq_of_le (aax h.2)).elim (λx=>e3 ⟨h.1,x⟩) λx=>e x.symm)];rfl
 ·rw[List.getElem?_eq_none (l:=List.range 30) (by simp;exact Nat.le_of_not_lt hk),aaf (show ¬ 21+W.ty.length=k by exact λe=>hk (e▸Ki h4 (by decide)))]
  rfl
theorem AW.nu(A:AW W L h) {h1:MH}(h4:W.ty.length<4) (pE:W.ty.length<W.lv.length) (hb:0<W.ty.length->W.kd (W.ty.length-1) (W.pa W.ty.length 16)∈L)
  (T:xJ h1 (W.eG W.ty.length) (21+W.ty.length) 1 (W.base L W.ty.length) (if W.wide W.ty.length then 1 else 0) [] [] [])
  (k:∀ b,b≠W.eG W.ty.length->(∀ k,b≠.fld (W.eG W.ty.length) k)->h1.get b=h.get b) (hc:h1.cnt=λd=>if d=1 then W.b+W.ty.length+1 else h.cnt d) (ht:h1.aq=h.aq) :
  AW W.nu L (h1.set (.fld aS 38) (.list (W.ka.set (21+W.ty.length) (.ref (W.eG W.ty.length))))):=by
 have R:=A.wr;generalize hl:aP.list (W.ka.set (21+W.ty.length) (.ref (W.eG W.ty.length)))=o;have k1:∀ b:Ad,b.rt≠1->b≠.fld aS 38->(h1.set (.fld aS 38) o).get b=h.get b:=λb e q =>
  (cZ q).trans (k b (λq=>e (by rw[q];rfl)) λO q=>e (by rw[q];rfl))
 have ki:∀ {c j},c≠1->(h1.set (.fld aS 38) o).get (.inst c j)=h.get (.inst c j):=λ{c j} e=>k1 (.inst c j) e nofun
 have k2:∀ j,j≠W.b+W.ty.length->(h1.set (.fld aS 38) o).get (.inst 1 j)=h.get (.inst 1 j):=λj hj=>kgnd rfl (k _ (λe=>hj (Ad.inst.inj e).2) λO=>nofun)
 have k3:∀ j,j≠W.b+W.ty.length->∀ q,(h1.set (.fld aS 38) o).get (.fld (.inst 1 j) q)=h.get (.fld (.inst 1 j) q):=λj hj q=>kgne (λe=>nomatch (Ad.fld.inj e).1) (k _ nofun λO e=>hj (Ad.inst.inj (Ad.fld.inj e).1).2)
 have VZ:W.b=if W.ob then 2 else 1:=rfl
 have tn:∀ {j},j<W.ty.length->W.b+j≠W.b+W.ty.length:=λh e=>absurd (Nat.add_left_cancel e) (aaR h)
 refine⟨⟨R.kt.of_get λa ha=>k1 a (λe=>by rw[e]at ha;cases ha) (ia z0 ha rfl),by rw[show W.nu.ty.length=W.ty.length+1 from aag];exact h4,by rw[show W.nu.ty.length=W.ty.length+1 from aag];exact pE,R.dy,af (ki (by decide)) R.iX,af (ki (by decide)) R.mQ,af (ki (by decide)) R.kS,by rw[y0 h4,<- hl];exact kgeq,(k1 (.fld aS 17) (show 3≠1 by decide) (fldk (by decide))).trans R.meths,λho=>?_,?_,λj t kG=>?_,λj hj=>?_,λj t kG x hx=>?_,R.NL.mono (ki (by decide)),λj m' hm=>(R.JW j m' hm).mono (ki (by decide))⟩,(A.lw.keep (h':=h1.set _ _) (aaD ht.symm) λa ha=>k1 a (λe=>by rw[e]at ha;cases ha) (ia Il ha rfl)).cS rfl rfl rfl rfl rfl rfl rfl,(congrFun hc 1).trans (by rw[show W.nu.ty.length=W.ty.length+1 from aag];rfl),(congrFun hc 2).trans A.c2,(congrFun hc 7).trans A.c3.1,(congrFun hc 8).trans A.c3.2⟩
 ·have hn:0≠W.b+W.ty.length:=by rw[VZ,show W.ob=true from ho];exact λe=>by rw[aae rfl]at e;lia
  exact(R.xM ho).mono (k2 0 hn) (k3 0 hn)
 ·have hn:W.b-1≠W.b+W.ty.length:=by rw[VZ];split<;>lia
  exact R.IE.mono (k2 _ hn) (k3 _ hn)
 ·rcases kB (l:=W.ty) kG with kG | ⟨rfl,rfl⟩
  ·have hj:=(aav.mp kG).1;exact(R.tys j t kG).mono (k2 _ (tn hj)) (k3 _ (tn hj))
  ·exact T.mono (cZ nofun) λq=>cZ λe=>nomatch (Ad.fld.inj e).1
 ·have hj:j+1<(W.ty++[_]).length:=hj;rw[aag]at hj;by_cases e:j+1<W.ty.length
  ·exact R.IF j e
  ·have e:W.ty.length=j+1:=Nat.le_antisymm (Nat.not_lt.mp e) (aax hj);rw[e]at hb;exact hb (Nat.succ_pos _)
 ·rcases kB (l:=W.ty) kG with kG | ⟨rfl,rfl⟩
  ·exact R.ur j t kG x hx
  ·cases hx
def Wd.nv(W:Wd):Wd:=W.bV.aX.nu
theorem dT(j:Nat):W.nv.bc j=W.bc j:=by
 unfold Wd.bc;show(match (W.tb++[[]])[j]? with | some rs=>rs | none=>[])=_
 by_cases hj:j<W.tb.length
 ·rw[aaJ hj]<;>rfl
 ·rw[aaO (Nat.le_of_not_lt hj),List.getElem?_eq_none (l:=W.tb) (Nat.le_of_not_lt hj)];cases j-W.tb.length<;>rfl
theorem iL(j:Nat):W.nv.bP j=W.bP j/\W.nv.eP j=W.eP j/\W.nv.dJ j=W.dJ j:=by
 unfold Wd.bP Wd.eP Wd.dJ;have e:W.nv.ty=W.ty++[⟨[],[],[]⟩]:=rfl;rw[e];by_cases hj:j<W.ty.length
 ·rw[aaJ hj];exact⟨rfl,rfl,rfl⟩
 ·rw[aaO (Nat.le_of_not_lt hj),List.getElem?_eq_none (l:=W.ty) (Nat.le_of_not_lt hj)];cases j-W.ty.length<;>exact⟨rfl,rfl,rfl⟩
theorem kU.nv(T:kU W):kU W.nv:=by
 have tl:W.nv.ty.length=W.ty.length+1:=by show(W.ty++[_]).length=_;simp
 refine⟨?_,?_,λj r hr=>?_,λj r hr=>?_,λj=>?_,λj=>?_,λx m hm=>?_,λj x=>?_,λj=>?_,λj=>?_,λj=>?_,T.mid⟩
 ·rw[tl,<- T.tl];show(W.tb++[_]).length=_;simp
 ·rw[tl,<- T.nl];rfl
 ·rw[dT]at hr;refine jx (T.row j r hr) λa b c=>?_
  exact⟨a.mono λx m h=>h,b,by exact Nat.lt_of_lt_of_eq (aaw c) (Eq.symm tl)⟩
 ·rw[dT]at hr;exact T.wd j r hr
 ·rw[dT];exact T.un j
 ·rw[dT];exact T.tn j
 ·refine Kk (T.has x m hm) λa b r c=>?_
  exact⟨a,by exact Nat.lt_of_lt_of_eq (aaw b) (Eq.symm tl),r,by rw[dT];exact c⟩
 ·rw[(iL j).1];exact T.bP j x
 ·rw[(iL j).1];exact T.PX j
 ·rw[(iL j).1,dT];exact T.Ka j
 ·rw[(iL j).2.1,dT];exact T.eP j
theorem Sem.nv(S:Sem W N):Sem W.nv N:=by
 refine S.cS (λO O=>rfl) rfl rfl rfl (λj=>(iL j).2.2) rfl ?_
 intro x m hm hx;unfold Wd.eu;refine lT ?_ λj hj=>dT j
 rfl
end
section
variable{W W':Wd}{L L' L'':List Ck}{h h' ee:MH}{n v n i k mode g s:Nat}{q:Bool}{ix:List Nat}{l:List (Nat×Nat)}{r:Rw}
theorem y_:∀ {l:List Nat}{W:Wd}{k:Nat},i<W.ty.length->Bd W i k->Bd (W.bR i r l) i (k+2*l.length)/\(W.bR i r l).ob=W.ob:=by
 intro l;induction l with
 |nil =>
  intro W k _ B;exact⟨B,rfl⟩
 |cons p l ih =>
  intro W k hi B;refine eQ (gy (W:=W) (i:=i) (r:=r) (p:=p)) λu1 u2 u3 u4 u5 u6 u7=>?_
  refine cJ (ih (W:=W.note i r p) (by rw[u4];exact hi) (sz hi B)) λa b=>?_
  refine⟨?_,b.trans u5⟩;rw[aaI,show k+2*(l.length+1)=k+2+2*l.length by exact(Nat.add_right_comm _ 2 _).symm]
  exact a
theorem Ci(hi:i<W.ty.length) (pD:l.length<=2) (B:Bd W i k):Bd (W.ip i q ix mode l g s) i (k+4)/\(W.ip i q ix mode l g s).ob=W.ob:=by
 refine fZ (fk (i:=i) (mode:=mode) (q:=q) (ix:=ix) (l:=l) (W:=W)) λu1 u2 u3 u4 u5 u6 u7 u8=>?_
 refine jy (kA (i:=i) (mode:=mode) (q:=q) (ix:=ix) (l:=l) hi) λa1 a2 a3 a4=>?_
 have Jk:i<((W.av i q ix mode l).b9 i ⟨q,ix,g,s,mode,gW l⟩).ty.length:=by show i<(bb _ _ _).length;rw[bB,u4];exact hi
 have B1:Bd ((W.av i q ix mode l).b9 i ⟨q,ix,g,s,mode,gW l⟩) i k:=by
  refine⟨?_,?_,?_,?_⟩
  ·show(W.av i q ix mode l).root.length<k;rw[u5];exact B.r
  ·show(W.av i q ix mode l).au.length<k;rw[u6];exact B.d
  ·show(W.av i q ix mode l).put.length<k;rw[u7];exact B.p
  ·rw[nk.2,(a4 i).2];exact B.m
 refine cJ (y_ (r:=⟨q,ix,g,s,mode,gW l⟩) (l:=l.map (·.1)) Jk B1) λa b=>?_
 rw[aan]at a;refine⟨⟨?_,?_,?_,?_⟩,b.trans u8⟩
 ·have:=a.r;show(Wd.bR _ _ _ _).root.length<_;exact O6 this pD
 ·have:=a.d;show(Wd.bR _ _ _ _).au.length<_;exact O6 this pD
 ·have:=a.p;show(Wd.bR _ _ _ _).put.length<_;exact O6 this pD
 ·have:=a.m;show(Wd.dJ (Wd.bR _ _ _ _) i).length<_;exact O6 this pD
structure t8(W:Wd) (L:List Ck) (h:MH) (i k:Nat) (ob:Bool) (lv:List (Bool×Nat)):Prop where
 A:AW W L h
 T:kU W
 S:Sem W (W.ms.length+2)
 ty:W.ty.length=i
 ob:W.ob=ob
 lv:W.lv=lv
 ms:W.ms.length<=k
 aZ:W.aZ.length<=k
 r:W.root.length<=k
 d:W.au.length<=k
 p:W.put.length<=k
theorem D8{C_:Prop}{ob:Bool}{lv:List (Bool×Nat)}(w:t8 W L h (i+1) k ob lv) {x:Nat}(second:Bool) (hx:x<1000003) (h4:i<4) (hk:k<=100) (V0:(W.dJ i).length<=k) (OH:∀ o∈W.bc i,second=true/\o.q=false/\o.ix=[]) (Tv:(W.bc i).length<=1) (k_:∀ W' L' h',aa prog (n+10) 66 [.ref aW,.int i,.int x,.bool second] h=some (.ret .none h')->t8 W' L' h' (i+1) (k+4) ob lv->(W'.dJ i).length<=k+4->L <+: L'->∀ r,W'.bc i=W.bc i++[r]->(second=false->r.q=false/\r.ix=[])->C_):C_:=by
 have T:=w.T;have hi:i<W.ty.length:=by have:=w.ty;exact aaD (Eq.symm this)
 refine c66 (n:=n) w.A (i:=i) (x:=x) second hx hi (by rw[T.tl];exact hi) (by rw[T.nl];exact hi) (by rw[T.nl,w.ty];exact aaw h4) (λj o ho=>(T.row j o ho).2.1) (λj hj o ho hs p hp h0=>by
  refine(T.row j o ho).1.md hp h0 λm a b c d e f=>?_
  exact⟨_,w.S.r1 _ m a (gI a).2 (by rw[f];exact hs)⟩) (by have:=w.ms;exact aaL (iu this hk rfl)) (by have:=w.aZ;exact aaL (iu this hk rfl)) (by have:=T.Ka i;have:=T.tn i;exact aaL (n_0 (by assumption) this rfl)) ⟨by have:=w.r;exact aaL (iu this hk rfl),by have:=w.d;exact aaL (iu this hk rfl),by have:=w.p;exact aaL (iu this hk rfl),by exact aaL (iu V0 hk rfl)⟩ (by have:=T.tn i;exact nI 1 this rfl) (by rw[T.eP i];have:=T.tn i;exact nI 1 this rfl) λq ix mode l g s L' h' e A' p' qV iK D7 hg hz=>?_
 have H:=OD hg;have pD:l.length<=2:=by clear hz hg D7 A';rcases H with⟨a,b,rfl,-⟩ | ⟨a,rfl,-⟩ | ⟨b,rfl,-⟩<;>simp
 have M:=nq (W:=W) (mode:=mode) (g:=g) (s:=s) (q:=q) (ix:=ix) (l:=l) hi (by rw[T.tl];exact hi)
 refine cJ (Ci (W:=W) (i:=i) (q:=q) (ix:=ix) (mode:=mode) (l:=l) (g:=g) (s:=s) (k:=k+1) hi pD ⟨by have:=w.r;exact aaL this,by have:=w.d;exact aaL this,by have:=w.p;exact aaL this,by exact aaL V0⟩) λB jk=>?_
 have hlen:(fY (W.ms.length+2) l.length).length=l.length:=by simp[fY]
 refine k_ _ L' h' e ⟨A',T.ip (by rw[w.ty]) qV iK H hz (λo ho=>?_) Tv,w.S.ip T (by rw[w.ty]) iK H,by rw[M.r5];exact w.ty,jk.trans w.ob,M.lv.trans w.lv,?_,?_,?_,?_,?_⟩ ?_ p' _ ((M.bc i).trans (aae rfl)) (λhs=>?_)
 ·refine jx (OH o ho) λa b c=>?_
  rw[b,c];clear M jk B A';rintro⟨e1,e2⟩;rcases iK with⟨z,-⟩ | ⟨-,⟨z,-⟩ | rfl | rfl | ⟨-,rfl⟩⟩
  ·rw[a]at z;cases z
  ·rw[z]at e1;cases e1
  ·cases e2
  ·cases e2
  ·cases e2
 ·rw[M.ms,aag,aan];have:=w.ms;exact n_4 this pD rfl
 ·rw[M.aZ,aag,aan,hlen];have:=w.aZ;exact n_4 this pD rfl
 ·have:=B.r;exact aax this
 ·have:=B.d;exact aax this
 ·have:=B.p;exact aax this
 ·have:=B.m;exact aax this
 ·rcases iK with⟨-,z1,z2⟩ | ⟨z,-⟩
  ·exact⟨z1,z2⟩
  ·rw[hs]at z;cases z
end
noncomputable def at_(ns:List Nat) (k:Nat):Nat:=(ns[k]?).getD 0
def OI(ns:List Nat) (i:Nat):Bool×Nat:=(decide ((at_ ns (1+3*i)+1+i)%2=1),at_ ns (1+3*i)/2%3)
def za(ns:List Nat) (c:Nat):List (Bool×Nat):=(List.range c).map (OI ns)
theorem lU{ns:List Nat}(h:∀ x∈ns,x<1000003) (k:Nat):at_ ns k<1000003:=by
 unfold at_;cases q:ns[k]? with
 |none=>decide
 |some x=>exact h x (List.mem_of_getElem? q)
section
variable{W W':Wd}{L L' L'':List Ck}{h h' ee:MH}{n v i k:Nat}{ob:Bool}{ns:List Nat}
theorem zb(hl:ns.length=14) (hk:k<14):(ao ns)[k]? =some (.int (at_ ns k)):=by
 unfold ao at_;rw[List.getElem?_map,aao (hl▸hk)];rfl
theorem sl3(hl:ns.length=14) (hi:i<4) {h:MH}:slice h (.lst (ao ns)) (some (1+((3*i:Nat):Int))) (some (4+((3*i:Nat):Int)))=some (.lst [.int (at_ ns (1+3*i)),.int (at_ ns (2+3*i)),.int (at_ ns (3+3*i))]):=by
 have e:(ao ns).length=14:=by rw[aG];exact hl
 have g:∀ k,k<14->(ao ns)[k]? =some (.int (at_ ns k)):=λk hk=>zb hl hk
 show(if (0:Int)<=1+((3*i:Nat):Int)/\(1:Int)+((3*i:Nat):Int)<=4+((3*i:Nat):Int)/\(4:Int)+((3*i:Nat):Int)<=(ao ns).length then some (V.lst (List.take _ (List.drop _ (ao ns)))) else none)=_
 rw[aae ⟨by exact aaQ _,by exact Int.add_le_add_right (by decide) _,by rw[e];exact Cu (aaE (Nat.mul_le_mul_left 3 (aax hi)) 4) rfl⟩]
 congr 2;apply List.ext_getElem?;intro j;rw[List.getElem?_take,List.getElem?_drop];rw[show((4:Int)+((3*i:Nat):Int)).toNat-((1:Int)+((3*i:Nat):Int)).toNat=3 by exact Nat.add_sub_add_right 4 _ 1,show((1:Int)+((3*i:Nat):Int)).toNat=1+3*i by exact rfl]
 match j with
 |0=>exact g _ (P6 0 hi rfl)
 |1=>rw[aae (show 1<3 by decide),g _ (P6 1 hi rfl),show 1+3*i+1=2+3*i by exact Eq.symm (uc rfl)];rfl
 |2=>rw[aae (show 2<3 by decide),g _ (P6 2 hi rfl),show 1+3*i+2=3+3*i by exact Nat.add_right_comm 1 _ 2];rfl
 |j+3=>rw[aaf (Nat.not_lt_of_le (Nat.le_add_left _ _))];rfl
theorem OJ{C_:Prop}(A:AW W L h) (hi:i+1=W.nl) (h4:W.nl<=5) {v0 v1 v2 v4 v6 v7 v8 v10:Option MV}(k_:∀ L' h',bG prog (aa prog (n+8)) rP ⟨[v0,v1,v2,vr aW,v4,vi i,v6,v7,v8,vi 12,v10],h⟩=some (.next,⟨[v0,v1,v2,vr aW,v4,vi i,v6,v7,v8,vi (W.base L' i),v10],h'⟩)->AW W L' h'->L <+: L'->(0<i->W.kd (i-1) (W.pa i 16)∈L')->C_):C_:=by
 cases i with
 |zero=>exact k_ L h (by walk_at"S") A List.prefix_rfl (λh=>absurd h (aaW 0))
 |succ j =>
  have hW:=A.lw.w;have k2:=S_;have e1:aa prog (n+8) 61 [.ref aW,.int (j+1:Nat),.int 16] h=_:=Od (n:=n+7) A.lw A.wr.dy (i:=j+1) (a:=16) (aaD hi) h4;have ea:(W.args (j+1) 16)[j]? =some (W.pa (j+1) 16):=by
   rw[args_get (Nat.le_succ j)];show some (if j=j+1 then 16 else W.ar j (W.pa (j+1) 16) j)=_
   rw[aaf (aaR (aat _)),cD]
  refine J6 (n:=n) A.lw A.wr.kt A.wr.iX (i:=j) (aay (aaD hi)) (V9 (zC hi h4) rfl) ea (Wd.kg (A.wr.dy _) (.inr (.inr rfl))) λh1 e2 g1=>?_
  have b1:binop .sub (.int ((j+1:Nat):Int)) (.int 1)=some (.int j):=aab (λz=>some (V.int z)) (by exact i_7:((j+1:Nat):Int)-1=j)
  have hg:(0:Int)<((j+1:Nat):Int):=Cu (aat _) rfl;refine k_ _ h1 ?_ (A.gr g1) mO (λO=>cC)
  have hb:W.base (ins L (W.kd j (W.pa (j+1) 16))) (j+1)=ah (ins L (W.kd j (W.pa (j+1) 16))) (W.kd j (W.pa (j+1) 16)):=aaf (Nat.succ_ne_zero j);rw[hb];walk_at"S"
theorem OK{C_:Prop}{lv:List (Bool×Nat)}(w5:t8 W L h (i+1) k ob lv) (Jq:W.bc i=[]) (uB:W.dJ i=[]) {b c:Nat}(hb:b<1000003) (h4:i<4) (hk:k<=90) {v0 v1 v2 v6 v8 v9 v10:Option MV}(k_:∀ W6 L6 h6,bG prog (aa prog (n+10)) Dq ⟨[v0,v1,v2,vr aW,vi c,vi i,v6,vi b,v8,v9,v10],h⟩=some (.next,⟨[v0,v1,v2,vr aW,vi c,vi i,v6,vi b,v8,v9,v10],h6⟩)->t8 W6 L6 h6 (i+1) (k+4) ob lv->(W6.dJ i).length<=k+4->(∀ o∈W6.bc i,o.q=false/\o.ix=[])->(W6.bc i).length<=1->C_):C_:=by
 refine D8 (n:=n) w5 (x:=b) false hb h4 (cP hk rfl) (by rw[uB];exact aaV _) (λo ho=>by rw[Jq]at ho;cases ho) (by rw[Jq];exact aaV _) λW6 L6 h6 e66 w6 i6 O r OL BN=>?_
 have b1:binop .div (.int b) (.int 84)=_:=di (a:=b) (b:=84) (by decide) (cP hb rfl)
 have b2:binop .mod (.int (b/84:Nat)) (.int 4)=_:=cw (a:=b/84) (b:=4) (by decide)
 rw[Jq]at OL;have R:(∀ o∈W6.bc i,o.q=false/\o.ix=[])/\(W6.bc i).length<=1:=by
  rw[OL];exact⟨λo ho=>by rw[List.nil_append,aar]at ho;subst ho;exact BN rfl,by simp⟩
 by_cases p1:(i:Int)=(c:Int)-1
 ·refine k_ W6 L6 h6 ?_ w6 i6 R.1 R.2;clear w5 w6 R OL BN;walk_at"S"
 ·by_cases p2:((b/84%4:Nat):Int)=3
  ·refine k_ W L h ?_ ⟨w5.A,w5.T,w5.S,w5.ty,w5.ob,w5.lv,by have:=w5.ms;exact aay (uD 1 this rfl),by have:=w5.aZ;exact aay (uD 1 this rfl),by have:=w5.r;exact aay (uD 1 this rfl),by have:=w5.d;exact aay (uD 1 this rfl),by have:=w5.p;exact aay (uD 1 this rfl)⟩ (by rw[uB];exact aaV _) (λo ho=>(by rw[Jq]at ho;cases ho)) (by rw[Jq];exact aaV _)
   clear w5 w6 R OL BN;walk_at"S"
  ·refine k_ W6 L6 h6 ?_ w6 i6 R.1 R.2;clear w5 w6 R OL BN;walk_at"S"
theorem OM{C_:Prop}{lv:List (Bool×Nat)}(w6:t8 W L h (i+1) k ob lv) (uB:(W.dJ i).length<=k) (hq:∀ o∈W.bc i,o.q=false/\o.ix=[]) (hl:(W.bc i).length<=1) {d:Nat}(hd:d<1000003) (h4:i<4) (hk:k<=94) {v0 v1 v2 v4 v6 v7 v9 v10:Option MV}(k_:∀ W6 L6 h6,bG prog (aa prog (n+10)) Dr ⟨[v0,v1,v2,vr aW,v4,vi i,v6,v7,vi d,v9,v10],h⟩=some (.next,⟨[v0,v1,v2,vr aW,v4,vi i,v6,v7,vi d,v9,v10],h6⟩)->t8 W6 L6 h6 (i+1) (k+4) ob lv->C_):C_:=by
 by_cases d0:d=0
 ·have t1:truthy (.int d)=some false:=by rw[d0];rfl
  refine k_ W L h ?_ ⟨w6.A,w6.T,w6.S,w6.ty,w6.ob,w6.lv,by have:=w6.ms;exact aay (uD 1 this rfl),by have:=w6.aZ;exact aay (uD 1 this rfl),by have:=w6.r;exact aay (uD 1 this rfl),by have:=w6.d;exact aay (uD 1 this rfl),by have:=w6.p;exact aay (uD 1 this rfl)⟩
  clear w6 hq;walk_at"S"
 ·have t1:truthy (.int d)=some true:=aab some (by simp[d0])
  refine D8 (n:=n) w6 (x:=d) true hd h4 (cP hk rfl) uB (λo ho=>⟨rfl,hq o ho⟩) hl λW7 L7 h7 e66 w7 O O O O O=>?_
  refine k_ W7 L7 h7 ?_ w7;clear w6 hq w7;walk_at"S"
theorem zc{C_:Prop}{lv:List (Bool×Nat)}{c:Nat}(hl:ns.length=14) (gN:∀ x∈ns,x<1000003) (D9:i<c) (hc:c<=4) (pE:lv=za ns c) (w:t8 W L h i k ob lv) (hk:k<=90) {y6 y7 y8 y9 y10:Option MV}(k_:∀ W' L' h' fL TH BO TJ Jr,tw prog (aa prog (n+10)) 5 rQ (.int i) ⟨[vv (.lst (ao ns)),vr aS,vr aK,vr aW,vi c,y5,y6,y7,y8,y9,y10],h⟩ =
   some (.next,⟨[vv (.lst (ao ns)),vr aS,vr aK,vr aW,vi c,vi i,fL,TH,BO,TJ,Jr],h'⟩)->t8 W' L' h' (i+1) (k+8) ob lv->C_):C_:=by
 have T:=w.T;have nM:W.nl=i:=T.nl.trans w.ty;have hlen:W.lv.length=c:=by rw[w.lv,pE];simp[za]
 have nV:W.lv[i]? =some (OI ns i):=by rw[w.lv,pE];unfold za;rw[List.getElem?_map,List.getElem?_range D9];rfl
 have hwd:W.wide i=decide ((at_ ns (1+3*i)+1+i)%2=1):=by unfold Wd.wide;rw[nV];rfl
 have hgv:W.dy i=at_ ns (1+3*i)/2%3:=by unfold Wd.dy;rw[nV];rfl
 have ha:=lU gN (1+3*i);have hb:=lU gN (2+3*i);have hd:=lU gN (3+3*i);have fK:((jB [.int (1+(3*i:Nat))]).bind λl=>(jB [.int (4+(3*i:Nat))]).bind λu=>slice h (.lst (ao ns)) l u)=_:=sl3 (h:=h) hl (aai D9 hc)
 generalize at_ ns (1+3*i)=a at *;generalize at_ ns (2+3*i)=b at *;generalize at_ ns (3+3*i)=d at *;have q0:binop .mul (.int 3) (.int i)=some (.int (3*i:Nat)):=by
  exact aae ⟨by decide,by decide,by exact aaQ _,by exact Cu (aai D9 hc) rfl⟩
 have q1:binop .mod (.int ((a:Int)+1+i)) (.int 2)=_:=cw (a:=a+1+i) (b:=2) (by decide)
 have q2:a8 prog h .eq (.int ((a+1+i)%2:Nat)) (.int 1)=some (W.wide i):=by
  rw[hwd];by_cases e:(a+1+i)%2=1
  ·rw[aaq e];exact ceqT (Kh e)
  ·rw[aaA e];exact ceqF (sG e)
 have q3:binop .div (.int a) (.int 2)=_:=di (a:=a) (b:=2) (by decide) (cP ha rfl)
 have q4:binop .mod (.int (a/2:Nat)) (.int 3)=some (.int (W.dy i)):=by rw[hgv];exact cw (by decide)
 have A1:=w.A.bV (by rw[nM,hlen];exact D9)
 rw[nM]at A1;have A2:=A1.aX;have hW:=w.A.lw.w;have hL2:=w.A.lw.lv;have hW1:=A1.lw.w;have hT1:=A1.lw.tab;have k3:=Ta;have k4:=Tc;have r1:W.qR.length<1000:=by unfold Wd.qR;rw[aan,List.length_take];exact aak (aaj (Nat.min_le_right _ _) (zC hlen hc)) (by decide)
 have r2:W.bV.gU.length<1000:=by rw[kD];show W.tb.length<_;rw[T.tl,w.ty];exact iu D9 hc rfl
 refine OJ (n:=n+2) A2 (i:=i) (by show i+1=W.nl+1;rw[nM]) (by show W.nl+1<=5;exact aak (aaD nM) (iu D9 hc rfl)) (v0:=vv (.lst (ao ns))) (v1:=vr aS) (v2:=vr aK) (v4:=vi c) (v6:=vi a) (v7:=vi b) (v8:=vi d) (v10:=y10) λL3 h3 e3 A3 p3 hb3=>?_
 have e1:∀ {ss R},aw prog (aa prog (n+10)) ss ⟨[vv (.lst (ao ns)),vr aS,vr aK,vr aW,vi c,vi i,vi a,vi b,vi d,vi (W.bV.aX.base L3 i),y10],h3⟩=R ->
   tw prog (aa prog (n+10)) 5 (.cons wW (.cons wX (.cons wY (.cons wZ (.cons rP ss))))) (.int i) ⟨[vv (.lst (ao ns)),vr aS,vr aK,vr aW,vi c,y5,y6,y7,y8,y9,y10],h⟩=R:=by
  intro ss R hR;apply tx;apply aO;(walk_at"S");apply k_go;apply aO;(walk_at"S");apply k_go;apply aO;(walk_at"S");apply k_go;apply aO;(walk_at"S");apply k_go;apply aO;exact e3;apply k_go;exact hR
 have Cj:=A3.c1;have o_:W.bV.aX.ty.length=i:=w.ty;rw[o_]at Cj;have QG:(h3.new 1).get (.inst 1 (W.bV.aX.b+i))=some (.inst 1 []):=by rw[bT,Cj,aae rfl]
 refine c20 (n:=n+9) (tid:=21+i) (sort:=1) (base:=W.bV.aX.base L3 i) (nm:=Str.ofString "C") (np:=if W.wide i then 1 else 0) (by split<;>lia) QG λh4 e4 T4 V1 c4 t4=>?_
 have e4:aa prog (n+10) 20 [.ref (.inst 1 (W.bV.aX.b+i)),.int (21+i:Nat),.str (Str.ofString "C"),.int 1,.int 0,.int (W.bV.aX.base L3 i),.tup (List.replicate (if W.wide i=true then 1 else 0) (.str (Str.ofString "T"))),.int 0] (h3.new 1)=_:=e4
 have A4:=A3.nu (h1:=h4) (by rw[o_];exact aai D9 hc) (by rw[o_];show i<W.lv.length;exact O4 hlen D9) (λh0=>by rw[o_]at h0⊢;exact hb3 h0) (by rw[o_];exact T4) (λb hb hk=>by
  rw[o_]at hb hk;rw[V1 b hb hk,bT,Cj];exact aaf hb) (by rw[c4,gw,Cj,o_]) t4
 rw[o_]at A4;have hW3:=A3.lw.w;have hL3:=A3.lw.lv;have V2:=mY A3.lw (i:=i) (by show i<W.nl+1;lia)
 have hwi:W.bV.aX.wide i=W.wide i:=rfl;rw[hwi]at V2;have e5:bG prog (aa prog (n+10)) w8 ⟨[vv (.lst (ao ns)),vr aS,vr aK,vr aW,vi c,vi i,vi a,vi b,vi d,vi (W.bV.aX.base L3 i),y10],h3⟩ =
   some (.next,⟨[vv (.lst (ao ns)),vr aS,vr aK,vr aW,vi c,vi i,vi a,vi b,vi d,vi (W.bV.aX.base L3 i),vv (.tup (List.replicate (if W.wide i=true then 1 else 0) (.str (Str.ofString "T"))))],h3⟩):=by
  cases hh:W.wide i<;>rw[hh]at V2<;>(apply qh;(walk_at"S");exact rfl)
 have s3:=A3.wr.mQ;have ON:∀ b:Ad,b.rt≠1->h4.get b=h3.get b:=λb e=>by rw[V1 b (λq=>e (by rw[q];rfl)) λO q=>e (by rw[q];rfl),bT,aaf λq=>e (by rw[q];rfl)]
 have g1:=af (ON aS (by decide)) s3
 have g2:=(ON (.fld aS 38) (show 3≠1 by decide)).trans A3.wr.types
 have b21:binop .add (.int 21) (.int i)=some (.int (21+i:Nat)):=rfl;have iw:21+i<W.bV.aX.ka.length:=by rw[rX];lia
 have e6:∀ {ss R},aw prog (aa prog (n+10)) ss ⟨[vv (.lst (ao ns)),vr aS,vr aK,vr aW,vi c,vi i,vi a,vi b,vi d,vi (W.bV.aX.base L3 i),vv (.tup (List.replicate (if W.wide i=true then 1 else 0) (.str (Str.ofString "T"))))],h4.set (.fld aS 38) (.list (W.bV.aX.ka.set (21+i) (.ref (W.bV.aX.eG i))))⟩=R ->
   tw prog (aa prog (n+10)) 5 (.cons wW (.cons wX (.cons wY (.cons wZ (.cons rP (.cons w8 (.cons Dp ss))))))) (.int i) ⟨[vv (.lst (ao ns)),vr aS,vr aK,vr aW,vi c,y5,y6,y7,y8,y9,y10],h⟩=R:=by
  intro ss R hR;apply e1;apply aO;exact e5;apply k_go;apply aO;(walk_at"S");apply k_go;exact hR
 generalize h4.set (.fld aS 38) (.list (W.bV.aX.ka.set (21+i) (.ref (W.bV.aX.eG i))))=h5 at *;have w5:t8 W.nv L3 h5 (i+1) k ob lv:=⟨A4,T.nv,w.S.nv,by show(W.ty++[_]).length=_;rw[aag,w.ty];rfl,w.ob,w.lv,w.ms,w.aZ,w.r,w.d,w.p⟩
 have Jq:W.nv.bc i=[]:=by
  rw[dT];unfold Wd.bc;rw[List.getElem?_eq_none (by rw[T.tl,w.ty];exact aat _)]
 have uB:W.nv.dJ i=[]:=by
  rw[(iL i).2.2];unfold Wd.dJ;rw[List.getElem?_eq_none (by rw[w.ty];exact aat _)]
 generalize W.nv=W5 at *;refine OK (n:=n) w5 Jq uB (b:=b) (c:=c) hb (by lia) hk (v0:=vv (.lst (ao ns))) (v1:=vr aS) (v2:=vr aK) (v6:=vi a) (v8:=vi d) (v9:=vi (W.bV.aX.base L3 i)) (v10:=vv (.tup (List.replicate (if W.wide i=true then 1 else 0) (.str (Str.ofString "T"))))) λW6 L6 h6 e7 w6 i6 u6 u7=>?_
 refine OM (n:=n) w6 i6 u6 u7 (d:=d) hd (by lia) (by lia) (v0:=vv (.lst (ao ns))) (v1:=vr aS) (v2:=vr aK) (v4:=vi c) (v6:=vi a) (v7:=vi b) (v9:=vi (W.bV.aX.base L3 i)) (v10:=vv (.tup (List.replicate (if W.wide i=true then 1 else 0) (.str (Str.ofString "T"))))) λW7 L7 h7 e8 w7=>?_
 refine k_ W7 L7 h7 (vi a) (vi b) (vi d) (vi (W.bV.aX.base L3 i)) (vv (.tup (List.replicate (if W.wide i=true then 1 else 0) (.str (Str.ofString "T"))))) (e6 ?_) w7
 apply aO;exact e7;apply k_go;apply aO;exact e8;apply k_go;exact LR
end
section
variable{W W':Wd}{L L' L'':List Ck}{h h' ee:MH}{n v i k:Nat}{ob:Bool}{ns:List Nat}
theorem ze{C_:Prop}{lv:List (Bool×Nat)}{c:Nat}(hl:ns.length=14) (gN:∀ x∈ns,x<1000003) (hc:c<=4) (pE:lv=za ns c):∀ (u i:Nat),i+u=c->∀ {W:Wd}{L:List Ck}{h:MH}(w:t8 W L h i (8*i) ob lv) (y5 y6 y7 y8 y9 y10:Option MV),(∀ W' L' h' iZ fL TH BO TJ Jr,forL (tw prog (aa prog (n+10)) 5 rQ) (λO=>true) (ao (fY i u)) ⟨[vv (.lst (ao ns)),vr aS,vr aK,vr aW,vi c,y5,y6,y7,y8,y9,y10],h⟩ =
   some (.next,⟨[vv (.lst (ao ns)),vr aS,vr aK,vr aW,vi c,iZ,fL,TH,BO,TJ,Jr],h'⟩)->t8 W' L' h' c (8*c) ob lv->C_)->C_:=by
 intro u;induction u with
 |zero =>
  intro i e W L h w y5 y6 y7 y8 y9 y10 k_;obtain rfl:i=c:=e;exact k_ W L h y5 y6 y7 y8 y9 y10 (k_fe rfl) w
 |succ u ih =>
  intro i e W L h w y5 y6 y7 y8 y9 y10 k_;refine zc (n:=n) (y5:=y5) (y6:=y6) (y7:=y7) (y8:=y8) (y9:=y9) (y10:=y10) hl gN (P0 (aaD e)) hc pE w (cP (Nat.mul_le_mul_left 8 (aaj (P5 e) hc)) rfl) λW1 L1 h1 z6 z7 z8 z9 D_ e1 w1=>?_
  refine ih (i+1) (uc e) w1 (vi i) z6 z7 z8 z9 D_ λW2 L2 h2 x5 x6 x7 x8 x9 x10 e2 w2=>?_
  rw[gz]at k_;exact k_ W2 L2 h2 x5 x6 x7 x8 x9 x10 (bu rfl e1 e2) w2
theorem Js{lv:List (Bool×Nat)}:kU (W0 ob lv)/\Sem (W0 ob lv) ((W0 ob lv).ms.length+2):=by
 have md:∀ x,(W0 ob lv).md x=none:=λx=>by unfold Wd.md;split<;>rfl
 have nm:∀ {x m}{P:Prop},(W0 ob lv).md x=some m->P:=λe=>by rw[md]at e;cases e
 refine⟨⟨rfl,rfl,λj r hr=>(by cases hr),λj r hr=>(by cases hr),λj=>List.Pairwise.nil,λj=>aaV _,λx m e=>nm e,λj x=>⟨λhx=>(by cases hx),λ⟨m,e,_⟩=>nm e⟩,λj=>List.nodup_nil,λj=>aaV _,λj=>rfl,λj x hx=>(by cases hx)⟩,
  ⟨λx m e=>nm e,λx hx=>(by cases hx),λd hd=>(by cases hd),λx m e=>nm e,List.Pairwise.nil,λj im eB=>(by cases eB),λx m q e=>nm e,λj=>List.nodup_nil,λx=>⟨λhx=>(by cases hx),λ⟨m,e,_⟩=>nm e⟩⟩⟩
theorem OO{a:Nat}(zf:a<1000003) (g0:dm (ao ns) 0=some (.int a)) {v1 v2 v3 v4 v5 v6 v7 v8 v9 v10:Option MV}{h:MH}(p:((a/36%5:Nat):Int)=4):bG prog (aa prog n) j7 ⟨[vv (.lst (ao ns)),v1,v2,v3,v4,v5,v6,v7,v8,v9,v10],h⟩=some (.next,⟨[vv (.lst (ao ns)),v1,v2,v3,v4,v5,v6,v7,v8,v9,v10],h⟩):=by
 have b1:binop .div (.int a) (.int 36)=_:=di (a:=a) (b:=36) (by decide) (aai zf (by decide))
 have b2:binop .mod (.int (a/36:Nat)) (.int 5)=_:=cw (a:=a/36) (b:=5) (by decide)
 have g1:getItem prog h (.lst (ao ns)) (.int 0)=some (.int a):=g0;walk_at"S"
theorem Jt{a:Nat}(zf:a<1000003) (g0:dm (ao ns) 0=some (.int a)) {v1 v2 v3 v4 v5 v6 v7 v8 v9 v10:Option MV}{h h2:MH}(p:¬ ((a/36%5:Nat):Int)=4) (r:bG prog (aa prog n) pB ⟨[vv (.lst (ao ns)),v1,v2,v3,v4,v5,v6,v7,v8,v9,v10],h⟩=some (.next,⟨[vv (.lst (ao ns)),v1,v2,v3,v4,v5,v6,v7,v8,v9,v10],h2⟩)) :
  bG prog (aa prog n) j7 ⟨[vv (.lst (ao ns)),v1,v2,v3,v4,v5,v6,v7,v8,v9,v10],h⟩=some (.next,⟨[vv (.lst (ao ns)),v1,v2,v3,v4,v5,v6,v7,v8,v9,v10],h2⟩):=by
 have b1:binop .div (.int a) (.int 36)=_:=di (a:=a) (b:=36) (by decide) (aai zf (by decide))
 have b2:binop .mod (.int (a/36:Nat)) (.int 5)=_:=cw (a:=a/36) (b:=5) (by decide)
 have g1:getItem prog h (.lst (ao ns)) (.int 0)=some (.int a):=g0;apply wS
 iterate 4 (walk_at"Z")
 apply tW r;walk_at"R"
theorem OP{a c:Nat}(g0:dm (ao ns) 0=some (.int a)) {hc h1:MH}(hcc:c=2+a%3) {y5 y6 y7 y8 y9 y10:Option MV}(rg:(e9 [.int c]).map V.tup=some (.tup (ao (fY 0 c)))) (e:forL (tw prog (aa prog n) 5 rQ) (λO=>true) (ao (fY 0 c)) ⟨[vv (.lst (ao ns)),vr aS,vr aK,vr aW,vi c,none,none,none,none,none,none],hc⟩ =
   some (.next,⟨[vv (.lst (ao ns)),vr aS,vr aK,vr aW,vi c,y5,y6,y7,y8,y9,y10],h1⟩)) :
  aw prog (aa prog n) (.cons w9 (.cons w_ (.cons w' .nil))) ⟨kW (vv (.lst (ao ns))),hc⟩=some (.ret (.ref aW),⟨[vv (.lst (ao ns)),vr aS,vr aK,vr aW,vi c,y5,y6,y7,y8,y9,y10],h1⟩):=by
 have b3:binop .mod (.int a) (.int 3)=_:=cw (a:=a) (b:=3) (by decide)
 have b4:binop .add (.int 2) (.int (a%3:Nat))=some (.int c):=by rw[hcc];rfl
 have g1:getItem prog hc (.lst (ao ns)) (.int 0)=some (.int a):=g0;unfold kW;walk_at"SS"
noncomputable def app:aA->aA->aA
 |.nil,t=>t
 |.cons s ss,t=>.cons s (app ss t)
theorem Ea{P:Prog}{t:aA}{K:Fl->En->T}:∀ (A:aA) {E:En},tSs P (app A t) E K=tSs P A E (sq K λE=>tSs P t E K)
 |.nil,_=>rfl
 |.cons s ss,E=>aab (tS P s E) (funext λfl=>funext λE=>by cases fl;exact Ea ss;rfl;rfl;rfl)
theorem nA{P:Prog}{c:Nat->List V->MH->Option aB}{t A:aA}{E fE:En}{H H₁:MH}{R:Option (Fl×St)}(h2:aw P c t ⟨fE,H₁⟩=R) (h:aw P c A ⟨E,H⟩=some (.next,⟨fE,H₁⟩)):aw P c (app A t) ⟨E,H⟩=R :=
 (aab (run c · H) (Ea A)).trans ((LQ h).trans h2)
theorem OQ(vs:List V) (h:MH):aa prog 39 68 vs h=dt prog (aa prog 38) ⟨1,11,Vc⟩ vs h:=by kernel_rfl
theorem c68{C_:Prop}(hl:ns.length=14) (gN:∀ x∈ns,x<1000003) (k_:∀ W L h',aa prog 39 68 [.lst (ao ns)] h0=some (.ret (.ref aW) h')->t8 W L h' (2+at_ ns 0%3) (8*(2+at_ ns 0%3)) (decide (at_ ns 0/36%5≠4)) (za ns (2+at_ ns 0%3))->C_):C_:=by
 have zf:=lU gN 0;have g0:dm (ao ns) 0=some (.int (at_ ns 0)):=bI.trans (zb hl (by decide))
 generalize at_ ns 0=a at *;refine cJ (Js (ob:=decide (a/36%5≠4)) (lv:=za ns (2+a%3))) λS T=>?_
 have A:=aw0 (lv:=za ns (2+a%3)) (λx hx=>by
  unfold za at hx;obtain⟨j,-,rfl⟩:=aaG.mp hx;show _%3<3;exact Nat.mod_lt _ (by decide)) (decide (a/36%5≠4))
 refine ze (n:=28) (c:=2+a%3) hl gN (aaE (aax (Nat.mod_lt _ (by decide))) 2) rfl (2+a%3) 0 (Nat.zero_add _) (ob:=decide (a/36%5≠4)) (W:=W0 (decide (a/36%5≠4)) (za ns (2+a%3))) ⟨A,S,T,rfl,rfl,rfl,aat _,aat _,aat _,aat _,aat _⟩ none none none none none none λW L h1 y5 y6 y7 y8 y9 y10 e w=>?_
 refine k_ W L h1 ?_ w;have E0:∀ {ss R},aw prog (aa prog 38) ss ⟨kW (vv (.lst (ao ns))),hC (decide (a/36%5≠4))⟩=R->aw prog (aa prog 38) (.cons qj (.cons qk (.cons ql (.cons qo (.cons j7 (.cons qp (.cons qq (.cons qr ss)))))))) ⟨vv (.lst (ao ns))::List.replicate 10 none,h0⟩=R:=by
  intro ss R hR;have eb:hB false=hA:=by unfold hB;rfl
  show aw prog (aa prog 38) (app pA (.cons j7 (app pC ss))) _=R;refine nA ?_ TF;by_cases p:((a/36%5:Nat):Int)=4
  ·have eo:decide (a/36%5≠4)=false:=aaA (λz=>z (pF p))
   rw[eo]at hR;refine aO (OO zf g0 p) (k_go (nA hR ?_));rw[<- eb];exact runC false
  ·have eo:decide (a/36%5≠4)=true:=aaq (O3 p);rw[eo]at hR;exact aO (Jt zf g0 p TG) (k_go (nA hR (runC true)))
 rw[OQ];exact wm rfl (E0 (OP g0 rfl (kn (cP (aaE (aax (Nat.mod_lt _ (by decide:0<3))) 2) rfl)) e))
end
theorem nB{p p':Nat}{q q':Bool}(hp:p=2∨p=3) (cE:p'=2∨p'=3):NK p q=NK p' q'↔p=p'/\q=q':=by
 rcases hp with rfl | rfl<;>rcases cE with rfl | rfl<;>cases q<;>cases q'<;>first | exact⟨λO=>⟨rfl,rfl⟩,λO=>rfl⟩ | exact⟨λe=>absurd e (by decide +kernel),λe=>by first | exact absurd e.2 (by decide) | exact absurd e.1 (by decide)⟩
section
variable{W W':Wd}{L L' L'':List Ck}{h h' ee:MH}{n v n i j k p a b:Nat}{r o:Rw}{m m':Md}
structure Fin(W:Wd):Prop where
 T:kU W
 S:Sem W (W.ms.length+2)
 n4:W.ty.length<=4
 lvl:W.lv.length=W.ty.length
theorem Fin.TK(F:Fin W) (j:Nat):(W.dJ j).length<=4:=by
 have h1:(W.dJ j).length<=(W.bP j).length:=by
  rw[<- aan (f:=λim:Nat×Ck×Nat=>im.1)]
  refine sub_len _ _ (F.S.i3 j) λx hx=>?_
  obtain⟨im,h1,rfl⟩:=aaG.mp hx;obtain⟨m,a,b,c,-⟩:=F.S.i1 j im h1;exact(F.T.bP j im.1).mpr ⟨m,a,c⟩
 have:=F.T.Ka j;have:=F.T.tn j;exact iu (aaj h1 (by assumption)) (Nat.mul_le_mul_left _ this) rfl
theorem Fin.OR(F:Fin W) (j:Nat):(W.bP j).length<=4:=by
 have:=F.T.Ka j;have:=F.T.tn j;exact iu (by assumption) (Nat.mul_le_mul_left _ this) rfl
theorem Fin.eu{C_:Prop}(F:Fin W) {x:Nat}(hm:W.md x=some m) {z:Nat×Nat}(e:W.eu m=some z) (k_:∀ m',W.md z.2=some m'->m'.i=z.1->z.1<m.i->slot m'.mode=true->m'.p=m.p->m'.q=m.q->m'.ix.map (cl (some (W.ar m.i 16 z.1)))=m.ix.map (cl (some 16))->C_):C_ :=
 o9 (λj o ho=>(F.T.row j o ho).1) (F.T.has _ _ hm).1.p e k_
theorem Fin.TL(F:Fin W):kj W:=⟨λx m hm=>⟨(F.T.has x m hm).1,(F.T.has x m hm).2.1⟩,λi t ht=>by
 rw[<- dh ht];exact⟨by have:=F.OR i;exact nI 1 this rfl,λx hx=>(F.T.bP i x).mp hx⟩⟩
theorem Fin.TN(F:Fin W):tP W:=⟨λi t ht=>by
 rw[<- fg ht];refine⟨by have:=F.TK i;exact nI 1 this rfl,λim eB=>?_⟩
 refine cT (F.S.i1 i im eB) λm a b c d=>?_
 rcases d with⟨-,z,e,f⟩ | ⟨-,f⟩
 ·refine F.eu a e λm' k1 k2 k3 O O O O=>?_
  refine .inr ⟨z.1,?_,by rw[f];rfl⟩
  have:=(F.T.has _ _ a).2.1;exact Nat.lt_trans k3 this
 ·rw[f];exact .inl rfl⟩
theorem Fin.V3(F:Fin W):J4 W:=⟨λj t ht o ho=>by
 rw[<- mW ht,F.T.eP j]at ho;exact(F.T.row j o ho).1⟩
theorem zg{rs:List Rw}(h:W.tb[j]? =some rs):W.bc j=rs:=by unfold Wd.bc;rw[h]
theorem Fin.V4(F:Fin W):I8 W:=⟨⟨λj rs h o ho=>(F.T.row j o (by rw[zg h];exact ho)).2.1,λj=>by have:=F.T.tn j;exact cP this rfl⟩,λj rs h o ho=>(F.T.row j o (by rw[zg h];exact ho)).1.one⟩
theorem bQ.pt{C_:Prop}(k:bQ W j r) (k_:∀ m,W.md r.pm=some m->m.i=j->m.p=r.pt->m.q=r.q->m.ix=r.ix->m.mode=r.mode->r.mid r.pt=r.pm->C_):C_:=by
 unfold Rw.pm Rw.pt at k_;by_cases hg:r.g=0
 ·have hs:r.s≠0:=by rcases k.one with h | h;exact absurd hg h;exact h
  refine gY (k.s hs) λm a b c d e f=>?_
  rw[aaf λq=>q hg,aaf λq=>q hg]at k_
  exact k_ m a b c d e f rfl
 ·refine gY (k.g hg) λm a b c d e f=>?_
  rw[aae hg,aae hg]at k_;exact k_ m a b c d e f rfl
theorem tJ(h:m.p=m'.p):m.params.length=m'.params.length↔m.ix.length=m'.ix.length:=by
 unfold Md.params;rw[h];split
 ·exact Iff.rfl
 ·rw[aag,aag];exact⟨λe=>by simpa using e,λe=>by rw[e]⟩
theorem zh:r.pt=2∨r.pt=3:=by unfold Rw.pt;split<;>simp
theorem Fin.tR(F:Fin W) (hr:r∈W.bc j):W.tR j r=W.DZ j r:=by
 refine jx (F.T.row j r hr) λk qV hj=>?_
 refine k.pt λm e1 e2 e3 e4 e5 e6 e7=>?_
 unfold Wd.tR;rw[e1];simp only;unfold Wd.oS Wd.DZ;rw[e7,e6];by_cases h5:r.mode=5
 ·rw[h5];rw[aaf (show ¬ slot 5=false by decide),aaf (show ¬ (5:Nat)=0 by decide),aae rfl,Bool.eq_iff_iff,F.S.p1,List.any_eq_true]
  constructor
  ·rintro⟨im,h1,h2⟩
   simp only[aaB,aam,aaS]at h2;refine cT (F.S.i1 j im h1) λm' a b c d=>?_
   rw[h2.1]at a b;refine⟨m',a,b,?_⟩;rcases d with⟨d1,z,d2,-⟩ | ⟨-,d2⟩
   ·exact⟨d1,by rw[d2];rfl⟩
   ·rw[d2]at h2;exact absurd rfl h2.2
  ·rintro⟨m',a,b,c,d⟩
   rw[e1]at a;cases a;refine gJ (Option.isSome_iff_exists.mp d) λz hz=>?_
   have:=F.S.i2 _ m z e1 b c hz;rw[e2]at this;refine⟨_,this,?_⟩;refine F.eu e1 hz λTz k1 k2 k3 O O O O=>?_
   have:=(F.T.has _ _ e1).2.1;have:=F.n4;simp only[aaB,aam,aaS,true_and];show 21+z.1≠29;exact aaR (n_8 _ (Nat.lt_trans k3 (by assumption)) this rfl)
 ·rw[aaf h5];by_cases h0:r.mode=0
  ·rw[h0];rw[aaf (show ¬ slot 0=false by decide),aae rfl,aaf (show ¬ (0:Nat)≠0 by decide)]
   congr 1;funext j';unfold Wd.fK;rw[Bool.eq_iff_iff,List.any_eq_true,List.any_eq_true];have V5:m.p=2∨m.p=3:=by rw[e3];exact zh
   constructor
   ·rintro⟨y,h1,h2⟩
    refine cJ (aaY.mp h1) λh1 h3=>?_
    refine az ((F.T.bP j' y).mp h1) λb hb hbi=>?_
    obtain⟨kb,-,o,ho,o1,o2,o3,o4⟩:=F.T.has y b hb;rw[hb]at h3;simp only[Option.map_some,aam,Option.some.injEq]at h3;refine cJ ((nB kb.p V5).mp h3) λn1 n2=>?_
    unfold Wd.IT at h2;rw[hb]at h2;simp only[aaB,aam]at h2;refine⟨o,by rw[<- hbi];exact ho,?_⟩
    unfold lo1;simp only[aaB,aaS];refine⟨by rw[o2,n2,e4],by rw[o3,(tJ n1).mp h2.2,e5],?_,by rw[o4];exact h2.1⟩
    rw[<- e3,<- n1,o1];have:=(gI hb).1;exact zB this rfl
   ·rintro⟨o,ho,h1⟩
    unfold lo1 at h1;simp only[aaB,aaS]at h1;refine(F.T.row j' o ho).1.md zh h1.2.2.1 λb hb b1 b2 b3 b4 b5=>?_
    refine⟨_,aaY.mpr ⟨(F.T.bP j' _).mpr ⟨b,hb,b1⟩,?_⟩,?_⟩
    ·rw[hb];simp only[Option.map_some,aam,Option.some.injEq];exact(nB (by rw[b2];exact zh) V5).mpr ⟨by rw[b2,e3],by rw[b3,h1.1,e4]⟩
    ·unfold Wd.IT;rw[hb];simp only[aaB,aam];exact⟨by rw[b5];exact h1.2.2.2,(tJ (by rw[b2,e3])).mpr (by rw[b4,h1.2.1,e5])⟩
  ·rw[aaf h0,aae h0];split
   ·rfl
   ·rw[List.any_eq_false];intro im eB h2;simp only[aaB,aam,aaS]at h2;refine cT (F.S.i1 j im eB) λm' a b c d=>?_
    rw[h2.1,e1]at a;cases a;rcases d with⟨d1,-⟩ | ⟨-,d2⟩
    ·exact h5 (e6.symm.trans d1)
    ·rw[d2]at h2;exact h2.2 rfl
theorem Fin.TP(F:Fin W) (hr:r∈W.bc j):r.ix.map (cl (W.kd j b).2)=r.ix.map (cl (some b)):=by
 apply List.map_congr_left;intro x hx;by_cases h:x=16
 ·subst h;have:=F.T.wd j r hr hx;simp[Wd.kd,this]
 ·simp[cl,h]
theorem Fin.sp(F:Fin W) (hr:r∈W.bc i) (ho:o∈W.bc j):W.sp i a r j b o=mt b a r o:=by
 unfold Wd.sp mt;rw[F.TP hr,F.TP ho,Bool.eq_iff_iff];simp only[aaB,aam,aaS];constructor
 ·rintro⟨⟨⟨a,b⟩,c⟩,d⟩;exact⟨a,d,c⟩
 ·rintro⟨a,d,c⟩
  exact⟨⟨⟨a,by have:=aab List.length c;simpa using this⟩,c⟩,d⟩
theorem nE(h:mt b a r o=true):o.q=r.q/\o.ix.length=r.ix.length:=by
 unfold mt at h;simp only[aaB,aaS]at h;exact⟨h.1,by have:=aab List.length h.2.2;simpa using this⟩
theorem zi{P:Rw->Bool}{G:List (Nat×Nat)->Rw->List (Nat×Nat)}(hG:∀ x o,P o=false->G x o=x):∀ {l:List Rw}{x:List (Nat×Nat)},(∀ o∈l,P o=false)->l.foldl G x=x:=by
 intro l;induction l with
 |nil =>
  intro x _;exact rfl
 |cons o l ih =>
  intro x hl;rw[List.foldl_cons,hG x o (hl o aad)];exact ih λo ho=>hl o (aac _ ho)
theorem t9:∀ {l:List Rw},(∀ o∈l,W.sp i a r j b o=false)->W.scan i a r p j b l=none:=by
 intro l;induction l with
 |nil =>
  intro _;exact rfl
 |cons o l ih =>
  intro hl;rw[Wd.scan_1,aae (hl o aad)];exact ih λo ho=>hl o (aac _ ho)
noncomputable def i_(l:List (Nat×Nat)):Option (Nat×Nat):=(l.filter λq=>decide (q.2≠0)).getLast?
theorem t_{l:List (Nat×Nat)}{x:Nat×Nat}:i_ (l++[x])=if x.2≠0 then some x else i_ l:=by
 unfold i_;rw[List.filter_append];by_cases h:x.2=0
 ·simp[h]
 ·simp[h]
theorem Fin.level(F:Fin W) (hr:r∈W.bc i) {line:List (Nat×Nat)}:∀ {l:List Rw},(∀ o∈l,o∈W.bc j)->l.Pairwise (λr o=>¬ (r.q=o.q/\r.ix.length=o.ix.length)) ->
  i_ (l.foldl (W.fJ j b a r p) line)=match W.scan i a r p j b l with
   |some (some x)=>some (j,x)
   |some none=>none
   |none=>i_ line:=by
 intro l;induction l with
 |nil =>
  intro _ _;exact rfl
 |cons o l ih =>
  intro hl hp;refine cJ (List.pairwise_cons.mp hp) λh1 h2=>?_
  have ho:=hl o aad;rw[List.foldl_cons,Wd.scan_1,F.sp hr ho];cases hm:mt b a r o with
  |false =>
   rw[aae rfl];have:W.fJ j b a r p line o=line:=by unfold Wd.fJ;rw[hm,aaf (by simp)]
   rw[this];exact ih (λo ho=>hl o (aac _ ho)) h2
  |true =>
   rw[aaf (by simp)]
   have hn:∀ o'∈l,mt b a r o'=false:=λo' J5=>by
    cases eg:mt b a r o' with
    |false=>rfl
    |true=>exact absurd ⟨(nE hm).1.trans (nE eg).1.symm,(nE hm).2.trans (nE eg).2.symm⟩ (h1 o' J5)
   rw[zi (P:=mt b a r) (G:=W.fJ j b a r p) (λx o h=>by unfold Wd.fJ;rw[h,aaf (by simp)]) hn]
   unfold Wd.fJ;rw[aae hm,t_,<- F.tR ho];rw[t9 λo' J5=>(F.sp hr (hl o' (aac _ J5))).trans (hn o' J5)]
   by_cases h0:o.mid p=0
   ·rw[aaf (show ¬ ((j,o.mid p):Nat×Nat).2≠0 from λh=>h h0),aaf (show ¬ o.mid p≠0 from λh=>h h0)]
    cases W.tR j o
    ·rfl
    ·rfl
   ·rw[aae (show((j,o.mid p):Nat×Nat).2≠0 from h0),aae h0]
theorem nF:∀ {i a:Nat},j+1<=i->W.ar i a j=W.pa (j+1) (W.ar i a (j+1))
 |i+1,a,h=>by
  by_cases e:j=i
  ·clear h;subst e;rw[show W.ar (j+1) a (j+1)=a from cD]
   show(if j=j+1 then a else W.ar j (W.pa (j+1) a) j)=_
   rw[aaf (aaR (aat _)),cD]
  ·show(if j=i+1 then a else W.ar i (W.pa (i+1) a) j)=W.pa (j+1) (if j+1=i+1 then a else W.ar i (W.pa (i+1) a) (j+1))
   rw[aaf (aaR h),aaf (by lia)]
   exact nF (Nat.lt_of_le_of_ne (aax h) e)
def Wd.wrap(W:Wd) (i a:Nat):Option (Nat×Nat)->Option (Ck×Nat)
 |some q=>some (W.kd q.1 (W.ar i a q.1),q.2)
 |none=>none
theorem Fin.tU(F:Fin W) (hr:r∈W.bc i) (hi:i<W.ty.length):∀ (j:Nat),j<i->W.tU i a r p j (W.ar i a j)=W.wrap i a (i_ (W.lQ i a r p (j+1))):=by
 intro j;induction j with
 |zero =>
  intro hj;rw[Wd.N6,F.T.eP,Wd.lbl_1,F.level hr (λo ho=>ho) (F.T.un 0)]
  cases W.scan i a r p 0 (W.ar i a 0) (W.bc 0) with
  |none=>rfl
  |some x=>cases x<;>rfl
 |succ j ih =>
  intro hj;rw[Wd.N7,F.T.eP,Wd.lbl_1,F.level hr (λo ho=>ho) (F.T.un (j+1)),<- nF (aay hj),ih (aay hj)]
  cases W.scan i a r p (j+1) (W.ar i a (j+1)) (W.bc (j+1)) with
  |none=>rfl
  |some x=>cases x<;>rfl
theorem Fin.I3(F:Fin W) (hr:r∈W.bc i) (hi:i<W.ty.length):W.I3 i a r p=W.yz i a r p:=by
 have e:W.yz i a r p=W.wrap i a (i_ (W.lQ i a r p i)):=by
  unfold Wd.yz i_ Wd.wrap;cases((W.lQ i a r p i).filter λq=>decide (q.2≠0)).getLast? <;>rfl
 rw[e];clear e;cases i with
 |zero=>rfl
 |succ i =>
  show W.tU (i+1) a r p i (W.pa (i+1) a)=_;have:=F.tU (a:=a) (p:=p) hr hi i (aaN i);rw[nF (aat _),cD]at this;exact this
end
section
variable{W W':Wd}{L L' L'':List Ck}{h h' ee:MH}{n v n i j k p a b x y:Nat}{r o:Rw}{m m':Md}{c c':Ck}
theorem nG(hp:m.p=m'.p):sgn m m' c c'=true↔m.ix.map (cl c.2)=m'.ix.map (cl c'.2):=by
 unfold sgn;simp only[aaB,aam];have hr:m.ret=m'.ret:=by unfold Md.ret;rw[hp]
 have hl:=tJ hp;constructor
 ·rintro⟨⟨a,b⟩,d⟩
  unfold Md.params at d;rw[hp]at d;split at d
  ·exact d
  ·rw[aaP,aaP]at d;exact(List.append_inj' d rfl).1
 ·intro e;refine⟨⟨hl.mpr (by have:=aab List.length e;simpa using this),hr⟩,?_⟩
  unfold Md.params;rw[hp];split
  ·exact e
  ·rw[aaP,aaP,e];rfl
theorem OS:∀ {l:List Rw},l.Pairwise (λr o=>¬ (r.q=o.q/\r.ix.length=o.ix.length))->∀ {r o:Rw},r∈l->o∈l->r.q=o.q->r.ix.length=o.ix.length->r=o:=by
 intro l;induction l with
 |nil=>exact λ_ _ _ hr=>nomatch hr
 |cons z l ih =>
  intro hp r o hr ho e1 e2;refine cJ (List.pairwise_cons.mp hp) λh1 h2=>?_
  clear hp;rcases aau.mp hr with rfl | BN<;>rcases aau.mp ho with rfl | V6
  ·rfl
  ·exact absurd ⟨e1,e2⟩ (h1 _ V6)
  ·exact absurd ⟨e1.symm,e2.symm⟩ (h1 _ BN)
  ·exact ih h2 BN V6 e1 e2
theorem Fin.qW(F:Fin W) (h1:W.md x=some m) (h2:W.md y=some m') (hi:m.i=m'.i) (hp:m.p=m'.p) (hq:m.q=m'.q) (hl:m.ix.length=m'.ix.length):x=y:=by
 obtain⟨-,-,r,r1,r2,r3,r4,-⟩:=F.T.has x m h1;obtain⟨-,-,o,o1,o2,o3,o4,-⟩:=F.T.has y m' h2;rw[<- hi]at o1;have:r=o:=OS (F.T.un m.i) r1 o1 (by rw[r3,o3,hq]) (by rw[r4,o4,hl])
 rw[<- r2,<- o2,this,hp]
theorem Fin.Kc(F:Fin W) (h1:W.md x=some m):m.ix.map (cl (W.kd m.i b).2)=m.ix.map (cl (some b)):=by
 obtain⟨-,-,r,r1,r2,r3,r4,-⟩:=F.T.has x m h1;rw[<- r4];exact F.TP r1
theorem Fin.cond(F:Fin W) (h1:W.md x=some m) (h2:W.md y=some m') (zj:m.i=i) (hj:m'.i=j):W.cond i j m y=true↔slot m'.mode=true/\m'.p=m.p/\m'.q=m.q/\m'.ix.map (cl (some (W.ar i 16 j)))=m.ix.map (cl (some 16)):=by
 subst zj;subst hj;have kp:=(F.T.has x m h1).1;have TQ:=(F.T.has y m' h2).1;unfold Wd.cond;rw[h2];simp only[aaB,aaS];constructor
 ·rintro⟨⟨a,b⟩,c,d⟩
  refine cJ ((nB kp.p TQ.p).mp c) λn1 n2=>?_
  have:=(nG n1).mp d;rw[F.Kc h1,F.Kc h2]at this;exact⟨a,n1.symm,n2.symm,this.symm⟩
 ·rintro⟨a,b,c,d⟩
  refine⟨⟨a,by rw[TQ.acc a];decide⟩,(nB kp.p TQ.p).mpr ⟨b.symm,c.symm⟩,(nG b.symm).mpr ?_⟩
  rw[F.Kc h1,F.Kc h2];exact d.symm
theorem Fin.find(F:Fin W) (h1:W.md x=some m) (zj:m.i=i):(W.bP j).find? (W.cond i j m)=((W.bc j).find? (W.jv i j m.rw m.p)).map λo=>o.mid m.p:=by
 have kp:=(F.T.has x m h1).1;have sf:∀ o∈W.bc j,W.jv i j m.rw m.p o=true->∃ m',W.md (o.mid m.p)=some m'/\o.mid m.p∈W.bP j/\W.cond i j m (o.mid m.p)=true:=λo ho hs=>by
  unfold Wd.jv at hs;simp only[aaB,aaS]at hs;refine(F.T.row j o ho).1.md kp.p hs.2.1 λm' a b c d e f=>?_
  exact⟨m',a,(F.T.bP j _).mpr ⟨m',a,b⟩,(F.cond h1 a zj b).mpr ⟨by rw[f];exact hs.2.2.1,c,d.trans hs.1,by rw[e];exact hs.2.2.2⟩⟩
 have un:∀ y∈W.bP j,W.cond i j m y=true->∀ y'∈W.bP j,W.cond i j m y'=true->y=y':=λy hy cy y' hy' cy'=>by
  refine az ((F.T.bP j y).mp hy) λm1 a1 b1=>?_
  refine az ((F.T.bP j y').mp hy') λm2 a2 b2=>?_
  refine jy ((F.cond h1 a1 zj b1).mp cy) λc1 c2 c3 c4=>?_
  refine jy ((F.cond h1 a2 zj b2).mp cy') λd1 d2 d3 d4=>?_
  refine F.qW a1 a2 (b1.trans b2.symm) (c2.trans d2.symm) (c3.trans d3.symm) ?_;have:=aab List.length (c4.trans d4.symm)
  simpa using this
 cases hf:(W.bc j).find? (W.jv i j m.rw m.p) with
 |some o =>
  obtain⟨m',a,b,c⟩:=sf o (List.mem_of_find?_eq_some hf) (List.find?_some hf);cases hg:(W.bP j).find? (W.cond i j m) with
  |none=>exact absurd c (by simpa using List.find?_eq_none.mp hg _ b)
  |some y=>exact aab some (un y (List.mem_of_find?_eq_some hg) (List.find?_some hg) _ b c)
 |none =>
  rw[Option.map_none,List.find?_eq_none];intro y hy cy;refine az ((F.T.bP j y).mp hy) λm1 a1 b1=>?_
  refine jy ((F.cond h1 a1 zj b1).mp cy) λc1 c2 c3 c4=>?_
  obtain⟨k1,k2,o,o1,o2,o3,o4,o5⟩:=F.T.has y m1 a1;rw[b1]at o1;refine List.find?_eq_none.mp hf o o1 ?_;unfold Wd.jv;simp only[aaB,aaS];refine⟨o3.trans c3,by rw[<- c2,o2];have:=(gI a1).1;exact zB this rfl,by rw[o5];exact c1,by rw[o4];exact c4⟩
theorem Fin.oP(F:Fin W) (h1:W.md x=some m) (zj:m.i=i):∀ u,W.oP i m u=(W.kq i m.rw m.p u).map λz=>(z.2,z.1):=by
 intro u;induction u with
 |zero =>
  exact rfl
 |succ u ih =>
  rw[Wd.r6,Wd.lR,F.find h1 zj];cases(W.bc u).find? (W.jv i u m.rw m.p) with
  |some o=>rfl
  |none=>exact ih
theorem Fin.ov(F:Fin W) (h1:W.md x=some m) (zj:m.i=i):W.oP i m i=(W.eu m).map λz=>(z.2,z.1):=by
 unfold Wd.eu;rw[zj];exact F.oP h1 zj i
theorem Fin.Eb(F:Fin W) (h1:W.md x=some m) (hs:slot m.mode=true):W.rt x=zA m.mode x W.rt (W.eu m):=by
 unfold Wd.rt;rw[F.S.r1 x m h1 (gI h1).2 hs];rfl
theorem Fin.zk{C_:Prop}(F:Fin W):∀ (k:Nat) {x:Nat}{m:Md},m.i<k->W.md x=some m->slot m.mode=true->(∀ m',W.md (W.rt x)=some m'->slot m'.mode=true->m'.i<=m.i->m'.p=m.p->m'.q=m.q->m'.ix.length=m.ix.length->C_)->C_
 |k+1,x,m,hk,h1,hs,k_=>by
  rw[F.Eb h1 hs]at k_;unfold zA at k_;by_cases h0:m.mode=0
  ·rw[aae h0]at k_;cases hf:W.eu m with
   |none=>rw[hf]at k_;exact k_ m h1 hs (aat _) rfl rfl rfl
   |some z =>
    rw[hf]at k_;refine F.eu h1 hf λm' a b c d e f g=>?_
    refine F.zk k (aai (Jw b.symm c) (aax hk)) a d λTz a' b' c' d' e' f'=>?_
    refine k_ Tz a' b' (aaj c' (zC b (aay c))) (d'.trans e) (e'.trans f) (f'.trans ?_);have:=aab List.length g
    simpa using this
  ·rw[aaf h0]at k_;exact k_ m h1 hs (aat _) rfl rfl rfl
theorem Fin.TR{C_:Prop}(F:Fin W) (h1:W.md x=some m) (hs:slot m.mode=true) (k_:∀ m',W.md (W.rt x)=some m'->slot m'.mode=true->m'.i<=m.i->m'.p=m.p->m'.q=m.q->m'.ix.length=m.ix.length->C_):C_:=F.zk (m.i+1) (aaN _) h1 hs k_
end
abbrev uC:=Nat->Option (Ck×Nat)
noncomputable def upd(cur:uC) (ρ:Nat) (v:Ck×Nat):uC:=λz=>if z=ρ then some v else cur z
def ups(c:Ck) (cur:uC) (l:List (Nat×Nat)):uC:=l.foldl (λcur e=>upd cur e.1 (c,e.2)) cur
structure VI(W:Wd) (P:Nat->Prop) (cur:uC) (vt:Vt):Prop where
 a:∀ x,P x->∃ m,W.md x=some m/\slot m.mode=true
 b:∀ x,P x->∃ s,vt.sl.lookup x=some s/\s<vt.rows.length/\vt.rows[s]? =cur (W.rt x)
 c:∀ x y s t,P x->P y->vt.sl.lookup x=some s->vt.sl.lookup y=some t->(s=t↔W.rt x=W.rt y)
 d:∀ x,¬ P x->vt.sl.lookup x=none
 e:∀ r∈vt.rows,∃ m,W.md r.2=some m
 f:∀ x,P x->P (W.rt x)
section
variable{W W':Wd}{L L' L'':List Ck}{h h' ee:MH}{n v n i j k p a b x y:Nat}{r o:Rw}{m m':Md}{c c':Ck}{P:Nat->Prop}{cur:uC}{vt:Vt}
theorem VI.cS{P':Nat->Prop}(I:VI W P cur vt) (h:∀ x,P' x↔P x):VI W P' cur vt:=by
 have:P'=P:=funext λx=>propext (h x)
 rw[this];exact I
theorem VI.set(I:VI W P cur vt) (hy:P y) {s:Nat}(hs:vt.sl.lookup y=some s) (hx:∃ m,W.md x=some m):VI W P (upd cur (W.rt y) (c,x)) ⟨vt.rows.set s (c,x),vt.sl⟩:=by
 refine⟨I.a,λz hz=>?_,I.c,I.d,λr hr=>?_,I.f⟩
 ·refine cR (I.b z hz) λt h1 h2 h3=>?_
  refine⟨t,h1,by rw[List.length_set];exact h2,?_⟩
  unfold upd;have:=I.c z y t s hz hy h1 hs;by_cases e:t=s
  ·rw[aae (this.mp e),e,List.getElem?_set_self (by rw[<- e];exact h2)]
  ·rw[aaf λq=>e (this.mpr q),List.getElem?_set_ne λq=>e q.symm]
   exact h3
 ·rcases List.mem_or_eq_of_mem_set hr with hr | rfl
  ·exact I.e r hr
  ·exact hx
theorem VI.over(I:VI W P cur vt) (hx:¬ P x) (hm:W.md x=some m) (fK:slot m.mode=true) (hz:P y) (hr:W.rt x=W.rt y) {s:Nat}(hs:vt.sl.lookup y=some s):VI W (λz=>P z∨z=x) (upd cur (W.rt x) (c,x)) ⟨vt.rows.set s (c,x),bx x s vt.sl⟩:=by
 have J:=I.set (c:=c) (x:=x) hz hs ⟨m,hm⟩;rw[<- hr]at J;have lk:∀ z,z≠x->(bx x s vt.sl).lookup z=vt.sl.lookup z:=λz h=>by rw[aM,aaf h]
 have lx:(bx x s vt.sl).lookup x=some s:=by rw[aM,aae rfl]
 have ne:∀ z,P z->z≠x:=λz h e=>hx (e▸h)
 refine⟨λz jO=>?_,λz jO=>?_,λz1 z2 s1 s2 h1 h2 e1 e2=>?_,λz jO=>?_,J.e,λz jO=>?_⟩
 ·clear lx lk;rcases jO with h | rfl
  ·exact I.a z h
  ·exact⟨m,hm,fK⟩
 ·rcases jO with h | rfl
  ·refine az (J.b z h) λt h1 h2=>?_
   exact⟨t,(lk z (ne z h)).trans h1,h2⟩
  ·refine cR (J.b y hz) λt h1 h2 h3=>?_
   rw[hs]at h1;cases h1;exact⟨s,lx,h2,by rw[hr];rw[hr]at h3;exact h3⟩
 ·have gen:∀ z t,(P z∨z=x)->(bx x s vt.sl).lookup z=some t->∃ z',P z'/\vt.sl.lookup z'=some t/\W.rt z'=W.rt z:=λz t jO e=>by
   clear e2 e1;rcases jO with h | rfl
   ·exact⟨z,h,(lk z (ne z h)).symm.trans e,rfl⟩
   ·rw[lx]at e;cases e;exact⟨y,hz,hs,hr.symm⟩
  refine cR (gen z1 s1 h1 e1) λw1 a1 b1 c1=>?_
  refine cR (gen z2 s2 h2 e2) λw2 a2 b2 c2=>?_
  rw[<- c1,<- c2];exact I.c w1 w2 s1 s2 a1 a2 b1 b2
 ·have h1:¬ P z:=λh=>jO (.inl h)
  have h2:z≠x:=λh=>jO (.inr h)
  exact(lk z h2).trans (I.d z h1)
 ·clear lx lk;rcases jO with h | rfl
  ·exact .inl (I.f z h)
  ·rw[hr];exact .inl (I.f y hz)
theorem VI.app(I:VI W P cur vt) (hx:¬ P x) (hm:W.md x=some m) (fK:slot m.mode=true) (hr:W.rt x=x):VI W (λz=>P z∨z=x) (upd cur (W.rt x) (c,x)) ⟨vt.rows++[(c,x)],bx x vt.rows.length vt.sl⟩:=by
 have lk:∀ z,z≠x->(bx x vt.rows.length vt.sl).lookup z=vt.sl.lookup z:=λz h=>by rw[aM,aaf h]
 have lx:(bx x vt.rows.length vt.sl).lookup x=some vt.rows.length:=by rw[aM,aae rfl]
 have ne:∀ z,P z->z≠x:=λz h e=>hx (e▸h)
 have TS:∀ z,P z->W.rt z≠x:=λz h e=>hx (e▸I.f z h)
 refine⟨λz jO=>?_,λz jO=>?_,λz1 z2 s1 s2 h1 h2 e1 e2=>?_,λz jO=>?_,λr V7=>?_,λz jO=>?_⟩
 ·clear lx lk;rcases jO with h | rfl
  ·exact I.a z h
  ·exact⟨m,hm,fK⟩
 ·rcases jO with h | rfl
  ·refine cR (I.b z h) λt h1 h2 h3=>?_
   refine⟨t,(lk z (ne z h)).trans h1,by simp;exact aaw h2,?_⟩
   unfold upd;rw[aaf (by rw[hr];exact TS z h),aaJ h2]
   exact h3
  ·refine⟨_,lx,by simp,?_⟩
   unfold upd;rw[aae rfl];simp
 ·clear hm;rcases h1 with h1 | rfl<;>rcases h2 with h2 | rfl
  ·exact I.c z1 z2 s1 s2 h1 h2 ((lk _ (ne _ h1)).symm.trans e1) ((lk _ (ne _ h2)).symm.trans e2)
  ·rw[lk _ (ne _ h1)]at e1;rw[lx]at e2;cases e2;obtain⟨t,k1,k2,-⟩:=I.b z1 h1;rw[e1]at k1;cases k1;rw[hr];exact⟨λq=>by lia,λq=>absurd q (TS z1 h1)⟩
  ·rw[lk _ (ne _ h2)]at e2;rw[lx]at e1;cases e1;obtain⟨t,k1,k2,-⟩:=I.b z2 h2;rw[e2]at k1;cases k1;rw[hr];exact⟨λq=>by lia,λq=>absurd q.symm (TS z2 h2)⟩
  ·rw[e1]at e2;cases e2;exact⟨λO=>rfl,λO=>rfl⟩
 ·have h1:¬ P z:=λh=>jO (.inl h)
  have h2:z≠x:=λh=>jO (.inr h)
  exact(lk z h2).trans (I.d z h1)
 ·rcases aaM.mp V7 with h | h
  ·exact I.e r h
  ·rw[aar]at h;clear V7;subst h;exact⟨m,hm⟩
 ·clear lx lk;rcases jO with h | rfl
  ·exact .inl (I.f z h)
  ·rw[hr];exact .inr rfl
def Ec(W:Wd) (x:Nat):Bool:=match W.md x with
 |some m=>slot m.mode
 |none=>false
theorem Fin.pm{C_:Prop}(F:Fin W) (I:VI W P cur vt) (hx:¬ P x) (hm:W.md x=some m) (hi:m.i=j) (hz:∀ z,W.eu m=some z->P z.2) (k_:∀ d9,W.pm j c vt x=some d9->VI W (λz=>P z∨(z=x/\slot m.mode=true)) (if slot m.mode=true then upd cur (W.rt x) (c,x) else cur) d9->C_):C_:=by
 generalize pe:W.pm j c vt x=pv at k_;unfold Wd.pm at pe;rw[hm]at pe;simp only at pe;cases hs:slot m.mode with
 |false =>
  rw[hs]at pe k_;exact k_ vt pe.symm (I.cS λz=>⟨λh=>h.resolve_right λq=>(by cases q.2),.inl⟩)
 |true =>
  rw[hs]at pe k_;have sC:=F.Eb hm hs;unfold zA at sC;have cg:∀ {vt},VI W (λz=>P z∨z=x) (upd cur (W.rt x) (c,x)) vt->VI W (λz=>P z∨(z=x/\true=true)) (upd cur (W.rt x) (c,x)) vt:=λI=>I.cS λz=>by simp
  by_cases h0:m.mode=0
  ·rw[aae rfl,aae h0,F.ov hm hi]at pe;rw[aae h0]at sC;cases hf:W.eu m with
   |none =>
    rw[hf]at sC pe;exact k_ _ pe.symm (cg (I.app hx hm hs sC))
   |some z =>
    rw[hf]at sC pe;refine cR (I.b z.2 (hz z hf)) λs k1 k2 k3=>?_
    simp only[Option.map_some,k1,aae k2]at pe;exact k_ _ pe.symm ((I.over hx hm hs (hz z hf) sC k1).cS λz=>by simp)
  ·rw[aae rfl,aaf h0]at pe;rw[aaf h0]at sC;exact k_ _ pe.symm (cg (I.app hx hm hs sC))
def Ju(W:Wd) (l:List Nat):List (Nat×Nat):=(l.filter (Ec W)).map λx=>(W.rt x,x)
theorem Fin.qP{C_:Prop}(F:Fin W):∀ (l:List Nat) {P:Nat->Prop}{cur:uC}{vt:Vt},VI W P cur vt->l.Nodup->(∀ x∈l,¬ P x/\∃ m,W.md x=some m/\m.i=j/\∀ z,W.eu m=some z->P z.2)->(∀ d9,W.qP j c l vt=some d9->VI W (λz=>P z∨(z∈l/\Ec W z=true)) (ups c cur (Ju W l)) d9->C_)->C_:=by
 intro l;induction l with
 |nil =>
  intro P cur vt I _ _ k_;exact k_ vt rfl (I.cS λz=>⟨λh=>h.resolve_right λq=>(nomatch q.1),.inl⟩)
 |cons x l ih =>
  intro P cur vt I nd hl k_;refine cJ (aaU.mp nd) λn1 n2=>?_
  refine pG (hl x aad) λhx m hm hi hz=>?_
  refine F.pm (c:=c) I hx hm hi hz λuy e1 I1=>?_
  have es:Ec W x=slot m.mode:=by unfold Ec;rw[hm]
  refine ih I1 n2 (λy hy=>by
   refine pG (hl y (aac _ hy)) λhy1 m' a b d=>?_
   refine⟨λq=>?_,m',a,b,λz hz=>.inl (d z hz)⟩
   rcases q with q | ⟨q,-⟩
   ·exact hy1 q
   ·exact n1 (q▸hy)) λTU e2 I2=>?_
  refine k_ TU (by rw[Wd.DU,e1];exact e2) ?_
  have ec:ups c cur (Ju W (x::l))=ups c (if slot m.mode=true then upd cur (W.rt x) (c,x) else cur) (Ju W l):=by
   unfold Ju;rw[aaX,es];split<;>rfl
  rw[ec];refine I2.cS λz=>?_
  constructor
  ·clear k_ I2 ec hl I1;rintro(q | ⟨q,s⟩)
   ·exact .inl (.inl q)
   ·rcases aau.mp q with rfl | q
    ·exact .inl (.inr ⟨rfl,by rw[<- es];exact s⟩)
    ·exact .inr ⟨q,s⟩
  ·clear k_ I2 ec hl I1;rintro((q | ⟨rfl,s⟩) | ⟨q,s⟩)
   ·exact .inl q
   ·exact .inr ⟨aad,by rw[es];exact s⟩
   ·exact .inr ⟨aac _ q,s⟩
noncomputable def OT(im:Nat×Ck×Nat):Bool:=decide (im.2.1.1≠29)
def Co(W:Wd) (l:List (Nat×Ck×Nat)):List (Nat×Nat):=(l.filter OT).map λim=>(W.rt im.2.2,im.1)
theorem Fin.tO{C_:Prop}(F:Fin W) (hj:j<W.ty.length):∀ (l:List (Nat×Ck×Nat)) {cur:uC}{vt:Vt}{sn:List (Ck×Nat)},VI W P cur vt->(l.map (·.1)).Nodup->(∀ im∈l,im∈W.dJ j)->(∀ im∈l,im.2.1.1≠29->P im.2.2)->(∀ q∈sn,∃ im∈W.dJ j,im.2.1.1≠29/\im.2.2=q.2/\im.1∉l.map (·.1))->(∀ q',W.tO j c l (vt,sn)=some q'->VI W P (ups c cur (Co W l)) q'.1->C_)->C_:=by
 intro l;induction l with
 |nil =>
  intro cur vt sn I _ _ _ _ k_;exact k_ _ rfl I
 |cons im l ih =>
  intro cur vt sn I nd hl hp hs k_;rw[List.map_cons]at nd;refine cJ (aaU.mp nd) λn1 n2=>?_
  have eB:=hl im aad;have vF:∀ im∈l,im∈W.dJ j:=λq hq=>hl q (aac _ hq)
  have cE:∀ im∈l,im.2.1.1≠29->P im.2.2:=λq hq=>hp q (aac _ hq)
  refine cT (F.S.i1 j im eB) λm a1 a2 a3 a4=>?_
  by_cases lP:im.2.1.1=29
  ·refine ih I n2 vF cE (sn:=sn) (λq hq=>by
    refine cT (hs q hq) λKd b1 b2 b3 b4=>?_
    exact⟨Kd,b1,b2,b3,λh=>b4 (aac _ h)⟩) λq' e I'=>?_
   refine k_ q' (by rw[Wd.yi,Wd.pi,aae lP];exact e) ?_
   have:Co W (im::l)=Co W l:=by unfold Co;rw[aaX,aaf (by simp[OT,lP])]
   rw[this];exact I'
  ·rcases a4 with⟨h5,z,hz,e2⟩ | ⟨-,e2⟩
   case inr=>rw[e2]at lP;exact absurd rfl lP
   have hP:=hp im aad lP;refine F.eu a1 hz λm' b1 b2 b3 b4 b5 b6 b7=>?_
   have ez:im.2.2=z.2:=by rw[e2]
   have ec:im.2.1=W.kd z.1 (W.ar j 16 z.1):=by rw[e2]
   refine cR (I.b _ hP) λs k1 k2 k3=>?_
   have hr:vt.rows[s]? =some vt.rows[s]:=aao k2;refine gJ (I.e vt.rows[s] (List.getElem_mem k2)) λmr J1=>?_
   have OU:slot m.mode=true:=by rw[h5];rfl
   have yh:(im.2.1,im.2.2)∉sn:=λhq=>by
    refine cT (hs _ hq) λKd d1 d2 d3 d4=>?_
    refine cT (F.S.i1 j Kd d1) λm2 f1 f2 f3 f4=>?_
    rcases f4 with⟨g5,z',jO,e3⟩ | ⟨-,e3⟩
    ·refine F.eu f1 jO λm3 l1 l2 l3 l4 l5 l6 l7=>?_
     have:z'.2=z.2:=by rw[<- ez,<- d3,e3]
     rw[this,b1]at l1;cases l1;refine d4 ?_;have:Kd.1=im.1:=F.qW f1 a1 (f3.trans a3.symm) (l5.symm.trans b5) (l6.symm.trans b6) (by
      have e1:=aab List.length l7;have e2:=aab List.length b7;simp at e1 e2
      lia)
     rw[this];exact aad
    ·rw[e3]at d2;exact absurd rfl d2
   have epi:W.pi j c (vt,sn) im=some (⟨vt.rows.set s (c,im.1),vt.sl⟩,sn++[(im.2.1,im.2.2)]):=by
    unfold Wd.pi;rw[ez]at k1;rw[aaf lP,a1,ez,b1,Option.bind_some,Option.bind_some,k1,Option.bind_some,hr,Option.bind_some,aae]
    ·refine⟨by rw[J1];rfl,OU,?_,?_,(F.T.bP j _).mpr ⟨m,a1,a3⟩,by rw[<- ez];exact yh,?_⟩
     ·rw[ec];exact List.mem_of_getElem? (dg (aay (Nat.lt_of_lt_of_eq b3 a3)))
     ·rw[ec];show z.2∈W.bP (21+z.1-21);rw[Nat.add_sub_cancel_left];exact(F.T.bP _ _).mpr ⟨m',b1,b2⟩
     ·refine(nG b5.symm).mpr ?_;rw[ec,<- a3,F.Kc a1,<- b2,F.Kc b1,b2];exact b7.symm
   have I1:=I.set (c:=c) (x:=im.1) hP k1 ⟨m,a1⟩;refine ih I1 n2 vF cE (sn:=sn++[(im.2.1,im.2.2)]) (λq hq=>by
    rcases aaM.mp hq with hq | hq
    ·refine cT (hs q hq) λKd b1 b2 b3 b4=>?_
     exact⟨Kd,b1,b2,b3,λh=>b4 (aac _ h)⟩
    ·rw[aar]at hq;subst hq;exact⟨im,eB,lP,rfl,n1⟩) λq' e I'=>?_
   refine k_ q' (by rw[Wd.yi,epi];exact e) ?_
   have:Co W (im::l)=(W.rt im.2.2,im.1)::Co W l:=by unfold Co;rw[aaX,aae (by simp[OT,lP])];rfl
   rw[this];exact I'
end
def Pk(W:Wd) (k x:Nat):Prop:=∃ m,W.md x=some m/\slot m.mode=true/\m.i<k
def Ke(W:Wd) (k:Nat):List (Nat×Nat):=Ju W (W.bP k)++Co W (W.dJ k)
noncomputable def qX(W:Wd) (cc:Nat->Ck):Nat->uC
 |0=>λO=>none
 |k+1=>ups (cc k) (qX W cc k) (Ke W k)
noncomputable def dP(k ρ:Nat) (d:Nat×Nat×Nat):Bool:=decide (d.1<k)&&decide (d.2.1=ρ)
def sE(W:Wd) (cc:Nat->Ck) (k ρ:Nat):Option (Ck×Nat):=((W.au.filter (dP k ρ)).getLast?).map λd=>(cc d.1,d.2.2)
section
variable{W W':Wd}{n v n i j k p a b x y ρ:Nat}{r o:Rw}{m m':Md}{c c':Ck}{P:Nat->Prop}{cur:uC}{vt:Vt}{cc:Nat->Ck}
theorem Fin.ux{C_:Prop}(F:Fin W) (hj:j<W.ty.length) (I:VI W (Pk W j) cur vt) (k_:∀ d9,W.ux j c vt=some d9->VI W (Pk W (j+1)) (ups c cur (Ke W j)) d9->C_):C_:=by
 refine F.qP (c:=c) (j:=j) (W.bP j) I (F.T.PX j) (λx hx=>by
  refine az ((F.T.bP j x).mp hx) λm hm hi=>?_
  refine⟨λ⟨m',a,b,d⟩=>?_,m,hm,hi,λz hz=>?_⟩
  ·rw[hm]at a;cases a;lia
  ·refine F.eu hm hz λm' a b d e O O O=>?_
   exact⟨m',a,e,by exact aak (aaD b) (Nat.lt_of_lt_of_eq d hi)⟩) λuy e1 I1=>?_
 have I1:VI W (Pk W (j+1)) (ups c cur (Ju W (W.bP j))) uy:=I1.cS λz=>by
  constructor
  ·rintro⟨m,a,b,d⟩
   by_cases e:m.i=j
   ·exact .inr ⟨(F.T.bP j z).mpr ⟨m,a,e⟩,by unfold Ec;rw[a];exact b⟩
   ·exact .inl ⟨m,a,b,by exact Nat.lt_of_le_of_ne (aax d) e⟩
  ·rintro(⟨m,a,b,d⟩ | ⟨q,s⟩)
   ·exact⟨m,a,b,by exact aaw d⟩
   ·refine az ((F.T.bP j z).mp q) λm a b=>?_
    unfold Ec at s;rw[a]at s;exact⟨m,a,s,by exact aaL (aaD b)⟩
 refine F.tO (c:=c) hj (W.dJ j) I1 (F.S.i3 j) (λO h=>h) (λim eB lP=>by
  refine cT (F.S.i1 j im eB) λm a b d e=>?_
  rcases e with⟨-,z,hz,e⟩ | ⟨-,e⟩
  ·refine F.eu a hz λm' a' b' d' e' O O O=>?_
   rw[e];exact⟨m',a',e',by exact aaw (Nat.lt_of_lt_of_eq (Jw b'.symm d') d)⟩
  ·rw[e]at lP;exact absurd rfl lP) (sn:=[]) (λq hq=>by cases hq) λq e2 I2=>?_
 refine k_ q.1 ?_ ?_
 ·unfold Wd.ux;rw[aao hj];rw[dh (aao hj)]at e1;rw[fg (aao hj)]at e2;simp only;rw[e1];simp only;rw[e2];rfl
 ·unfold Ke ups;rw[List.foldl_append];exact I2
theorem Fin.jg{C_:Prop}(F:Fin W):∀ (cs:List Ck) (j:Nat) {vt:Vt},j+cs.length<=W.ty.length->(∀ t c,cs[t]? =some c->c=cc (j+t))->VI W (Pk W j) (qX W cc j) vt->(∀ d9,W.jg cs j vt=some d9->VI W (Pk W (j+cs.length)) (qX W cc (j+cs.length)) d9->C_)->C_:=by
 intro cs;induction cs with
 |nil =>
  intro j vt _ _ I k_;exact k_ vt rfl I
 |cons c cs ih =>
  intro j vt hl hc I k_;simp only[aaI]at hl;have e:=hc 0 c rfl;rw[Nat.add_zero]at e;refine F.ux (c:=c) (show j<W.ty.length by exact P0 hl) I λuy e1 I1=>?_
  rw[e]at I1;refine ih (j+1) (P1 hl) (λt d hd=>by rw[hc (t+1) d (by simpa using hd)];congr 1;exact Eq.symm (uc rfl)) I1 λTU e2 I2=>?_
  refine k_ TU (by rw[Wd.plvs_1,e1];exact e2) ?_
  rw[aaI,show j+(cs.length+1)=j+1+cs.length by exact Eq.symm (uc rfl)]
  exact I2
theorem vi0:VI W (Pk W 0) (qX W cc 0) ⟨[],[]⟩:=by
 have no:∀ {x}{P:Prop},Pk W 0 x->P:=λ⟨m,_,_,h⟩=>absurd h (Nat.not_lt_zero _)
 exact⟨λx h=>no h,λx h=>no h,λx y s t h=>no h,λx O=>rfl,λr h=>(nomatch h),λx h=>no h⟩
theorem pb:∀ {l:List (Nat×Nat)}{cur:uC},(∀ e∈l,e.1≠ρ)->ups c cur l ρ=cur ρ:=by
 intro l;induction l with
 |nil =>
  intro _ _;exact rfl
 |cons e l ih =>
  intro cur h;show ups c (upd cur e.1 (c,e.2)) l ρ=_;rw[ih λe he=>h e (aac _ he)]
  exact aaf λq=>h e aad q.symm
theorem sF:∀ {l:List (Nat×Nat)}{cur:uC},(∀ e∈l,e.1=ρ->e.2=x)->(∃ e∈l,e.1=ρ)->ups c cur l ρ=some (c,x)
 |e::l,cur,h,hx=>by
  show ups c (upd cur e.1 (c,e.2)) l ρ=_;by_cases q:∃ e∈l,e.1=ρ
  ·exact sF (λe he=>h e (aac _ he)) q
  ·refine az hx λe' h1 h2=>?_
   clear hx;rcases aau.mp h1 with rfl | h1
   ·rw[pb λe he w=>q ⟨e,he,w⟩]
    unfold upd;rw[aae h2.symm,h e' aad h2]
   ·exact absurd ⟨e',h1,h2⟩ q
theorem zl:∀ {l:List (Nat×Nat×Nat)},l.Pairwise (λd e=>d.1<=e.1)->l.filter (dP (k+1) ρ)=l.filter (dP k ρ)++l.filter λd=>decide (d.1=k)&&decide (d.2.1=ρ):=by
 intro l;induction l with
 |nil =>
  intro _;exact rfl
 |cons d l ih =>
  intro h;refine cJ (List.pairwise_cons.mp h) λh1 h2=>?_
  have ih:=ih h2;by_cases hr:d.2.1=ρ
  ·by_cases hk:d.1<k
   ·rw[aaX,aae (by simp[dP,hr];exact aaw hk),aaX,aae (by simp[dP,hr,hk]),aaX,aaf (by simp;exact λe=>absurd e (aaR hk)),ih];rfl
   ·have no:l.filter (dP k ρ)=[]:=List.filter_eq_nil_iff.mpr λe he=>by
     have:=h1 e he;simp[dP];exact λe=>absurd (aak this e) hk
    rw[no,List.nil_append]at ih;by_cases OW:d.1=k
    ·rw[aaX,aae (by simp[dP,hr];exact aaL (aaD OW)),aaX,aaf (by simp[dP];exact λe=>absurd OW (aaR e)),no,aaX,aae (by simp[hr,OW]),ih];rfl
    ·rw[aaX,aaf (by simp[dP];exact λe=>absurd (Nat.lt_of_le_of_ne (aax e) OW) hk),aaX,aaf (by simp[dP];exact λe=>absurd e hk),no,aaX,aaf (by simp;exact λe=>absurd e OW),ih];rfl
  ·rw[aaX,aaf (by simp[dP,hr]),aaX,aaf (by simp[dP,hr]),aaX,aaf (by simp[hr]),ih]
theorem Fin.ev(F:Fin W) {X:Nat}:(ρ,X)∈Ke W k↔(k,ρ,X)∈W.au:=by
 unfold Ke Ju Co;rw[aaM,aaG,aaG];constructor
 ·rintro(⟨x,hx,e⟩ | ⟨im,hi,e⟩)
  ·refine cJ (aaY.mp hx) λh1 h2=>?_
   cases e;refine az ((F.T.bP k X).mp h1) λm hm hk=>?_
   unfold Ec at h2;rw[hm]at h2;have:=(F.S.d2 X m hm (gI hm).2 h2).1;rw[hk]at this;exact this
  ·refine cJ (aaY.mp hi) λh1 h2=>?_
   cases e;refine cT (F.S.i1 k im h1) λm hm iw hk h=>?_
   rcases h with⟨h5,z,hz,e⟩ | ⟨-,e⟩
   ·have:=(F.S.d2 _ m hm iw (by rw[h5];rfl)).2 z h5 hz
    rw[hk]at this;rw[e];exact this
   ·unfold OT at h2;rw[e]at h2;simp at h2
 ·intro hd;refine q_ (F.S.d1 _ hd) λm a b d e f=>?_
  simp only at a b d f;rcases f with f | ⟨h5,z,hz,f⟩
  ·exact .inl ⟨X,aaY.mpr ⟨(F.T.bP k X).mpr ⟨m,a,d⟩,by unfold Ec;rw[a];exact e⟩,by rw[f]⟩
  ·have:=F.S.i2 X m z a b h5 hz;rw[d]at this;refine .inr ⟨_,aaY.mpr ⟨this,?_⟩,by rw[f]⟩
   unfold OT;simp only[aaS];show 21+z.1≠29;refine F.eu a hz λm' O O k3 O O O O=>?_
   have:=(F.T.has _ _ a).2.1;have:=F.n4;exact aaR (n_8 _ (Nat.lt_trans k3 (by assumption)) this rfl)
theorem Fin.OX{C_:Prop}(F:Fin W) {d:Nat×Nat×Nat}(hd:d∈W.au) (k_:∀ m m',W.md d.2.2=some m->m.i=d.1->W.md d.2.1=some m'->m'.p=m.p->m'.q=m.q->m'.ix.length=m.ix.length->C_):C_:=by
 refine q_ (F.S.d1 d hd) λm a b c e f=>?_
 rcases f with f | ⟨h5,z,hz,f⟩
 ·refine F.TR a e λm' k1 k2 k3 k4 k5 k6=>?_
  exact k_ m m' a c (by rw[f];exact k1) k4 k5 k6
 ·refine F.eu a hz λm1 l1 l2 l3 l4 l5 l6 l7=>?_
  refine F.TR l1 l4 λm' k1 k2 k3 k4 k5 k6=>?_
  refine k_ m m' a c (by rw[f];exact k1) (k4.trans l5) (k5.trans l6) (k6.trans ?_)
  have:=aab List.length l7
  simpa using this
theorem Fin.OY(F:Fin W) {X Y:Nat}(h1:(k,ρ,X)∈W.au) (h2:(k,ρ,Y)∈W.au):X=Y:=by
 refine F.OX h1 λm m' a1 a2 a3 a4 a5 a6=>?_
 refine F.OX h2 λn n' b1 b2 b3 b4 b5 b6=>?_
 simp only at a1 a2 a3 b1 b2 b3;rw[a3]at b3;cases b3;exact F.qW a1 b1 (a2.trans b2.symm) (a4.symm.trans b4) (a5.symm.trans b5) (a6.symm.trans b6)
theorem Fin.TV(F:Fin W):∀ k,qX W cc k ρ=sE W cc k ρ:=by
 intro k;induction k with
 |zero =>
  unfold sE;rw[List.filter_eq_nil_iff.mpr λd O=>by simp[dP]]
  rfl
 |succ k ih =>
  unfold sE;rw[zl F.S.d3,List.getLast?_append];show ups (cc k) (qX W cc k) (Ke W k) ρ=_;cases hl:(W.au.filter λd=>decide (d.1=k)&&decide (d.2.1=ρ)).getLast? with
  |some d =>
   have hd:=List.mem_of_getLast? hl;refine cJ (aaY.mp hd) λh1 h2=>?_
   simp only[aaB,aaS]at h2;clear hd hl ih;obtain⟨d1,d2,d3⟩:=d;simp only at h2;obtain⟨rfl,rfl⟩:=h2;rw[sF (x:=d3) (λe he hr=>?_) ⟨(d2,d3),F.ev.mpr h1,rfl⟩]
   ·rfl
   ·obtain⟨e1,e2⟩:=e;simp only at hr;subst hr;exact F.OY (F.ev.mp he) h1
  |none =>
   rw[pb λe he hr=>?_,ih]
   ·rfl
   ·clear ih;obtain⟨e1,e2⟩:=e;simp only at hr;subst hr;have:=F.ev.mp he;rw[List.getLast?_eq_none_iff,List.filter_eq_nil_iff]at hl;exact hl _ this (by simp)
theorem ua{α β:Type}(q:α->Bool) (f:α->β):∀ (l:List α) (z:β),l.foldl (λz d=>if q d=true then f d else z) z=(((l.filter q).getLast?).map f).getD z:=by
 intro l;induction l with
 |nil =>
  intro z;exact rfl
 |cons d l ih =>
  intro z;rw[List.foldl_cons,ih,aaX];split
  ·rw[List.getLast?_cons];cases(l.filter q).getLast? <;>rfl
  ·rfl
theorem Fin.want(F:Fin W) {top:Nat}(ht:top+1=W.ty.length) (hx:∃ m,W.md x=some m/\m.i=j) (I:VI W (Pk W top) (qX W (λj=>W.kd j (W.ar top 16 j)) top) vt):(match vt.sl.lookup x with
   |some s=>vt.rows[s]?
   |none=>some (W.kd j (W.ar top 16 j),x))=some (W.ig top j x):=by
 refine az hx λm hm hj=>?_
 have zero:W.ie top j x=0->W.ig top j x=(W.kd j (W.ar top 16 j),x):=λh=>by
  unfold Wd.ig;rw[h];have:W.fX top 0=λz O=>z:=by funext z d;unfold Wd.fX;rw[aaf (by simp)]
  rw[this];generalize W.au=l;induction l with
  |nil=>rfl
  |cons d l ih=>exact ih
 by_cases hP:Pk W top x
 ·refine cR hP λm' a hs iw=>?_
  rw[hm]at a;cases a;refine cR (I.b x ⟨m,hm,hs,iw⟩) λs k1 k2 k3=>?_
  rw[k1];simp only;rw[k3,F.TV];have fK:W.ie top j x=W.rt x:=aae (Jw hj iw);refine F.TR hm hs λmr J1 O O O O O=>?_
  have h0:W.rt x≠0:=by have:=gI J1;exact zB (And.left this) rfl
  unfold Wd.ig;rw[fK];have e:W.fX top (W.rt x)=λz d=>if dP top (W.rt x) d=true then (W.kd d.1 (W.ar top 16 d.1),d.2.2) else z:=by
   funext z d;unfold Wd.fX dP;simp only[aaB,aaS];by_cases hh:d.1<top/\d.2.1=W.rt x
   ·rw[aae ⟨h0,hh.1,hh.2⟩,aae hh]
   ·rw[aaf λw=>hh w.2,aaf hh]
  rw[e,ua];unfold sE;have hd:=(F.S.d2 x m hm (gI hm).2 hs).1;cases hl:(W.au.filter (dP top (W.rt x))).getLast? with
  |some d=>rfl
  |none =>
   rw[List.getLast?_eq_none_iff,List.filter_eq_nil_iff]at hl;exact absurd (by unfold dP;simp;exact iw) (hl _ hd)
 ·rw[I.d x hP];simp only;refine aab some (zero ?_).symm;unfold Wd.ie;split
  ·rename_i iw;cases hq:W.root.lookup x with
   |none=>rfl
   |some z =>
    obtain⟨-,m',a,b⟩:=F.S.r0 x (by rw[hq];rfl)
    rw[hm]at a;cases a;exact absurd ⟨m,hm,b,by exact aak (aaD hj) iw⟩ hP
  ·rfl
end
noncomputable def nH(r:Nat):Bool:=Nat.blt r 5||Nat.blt 9 r
def low(a:Ad):Prop:=nH a.rt=true
theorem ja{b:Ad}{c k:Nat}(h:low b) (hc:nH c=false):b≠.inst c k:=ia nH h hc
theorem pd{b:Ad}{c k j:Nat}(h:low b) (hc:nH c=false):b≠.fld (.inst c k) j:=ia nH h hc
section
variable{W W':Wd}{L L' L'':List Ck}{h h' ee:MH}{n v i k:Nat} 
theorem c55{C_:Prop}(ha:h.get (.inst 5 k)=some (.inst 5 [])) (k_:∀ h',aa prog (n+1) 55 [.ref (.inst 5 k)] h=some (.ret .none h')->(∀ b,b≠.inst 5 k->(∀ j,b≠.fld (.inst 5 k) j)->h'.get b=h.get b)->h'.cnt=h.cnt->h'.aq=h.aq->C_):C_:=by
 apply k_
 ·show dt prog (aa prog (n)) U8 _ h=_;apply gO rfl;walk_at"SS"
 ·intro b hb hk;(repeat refine kgne (by first | exact hb | exact hk _) ?_);rfl
 ·rfl
 ·rfl
theorem c58{C_:Prop}(ha:h.get (.inst 8 k)=some (.inst 8 [])) (s1:getAttr h (.ref aS) 37=some (.ref aK)) (k_:∀ h',aa prog (n+1) 58 [.ref (.inst 8 k),.ref aS] h=some (.ret .none h')->∀ f,h'.get (.inst 8 k)=some (.inst 8 f)->br 37 f=some (.ref aK)->br 45 f=some (.ref aS)->(∀ b,b≠.inst 8 k->(∀ j,b≠.fld (.inst 8 k) j)->h'.get b=h.get b)->h'.cnt=h.cnt->h'.aq=h.aq->C_):C_:=by
 apply k_
 ·show dt prog (aa prog (n)) Va _ h=_;apply gO rfl;walk_at"SS"
 ·exact kgeq
 ·rfl
 ·rfl
 ·intro b hb hk;(repeat refine kgne (by first | exact hb | exact hk _) ?_);rfl
 ·rfl
 ·rfl
theorem c56{C_:Prop}(ha:h.get (.inst 6 k)=some (.inst 6 [])) (k_:∀ h',aa prog (n+2) 56 [.ref (.inst 6 k),.ref aS,.int 0] h=some (.ret .none h')->getAttr h' (.ref (.inst 6 k)) 45=some (.ref aS)->(∀ b,low b->h'.get b=h.get b)->(∀ d,d≠5->h'.cnt d=h.cnt d)->h'.aq=h.aq->C_):C_:=by
 obtain⟨h1,e1,⟨f1,g1⟩,g2,g3,g4⟩:∃ h1:MH,(∀ {ss R},aw prog (aa prog (n+1)) ss ⟨[vr (.inst 6 k),vr aS,vi 0],h1⟩=R->aw prog (aa prog (n+1)) (.cons (.bq (.var 0) 45 (.var 1)) (.cons (.bq (.var 0) 18 (.var 2)) (.cons (.bp (.var 0) 47 (.cons (.lit .none) .nil)) (.cons (.bp (.var 0) 48 (.cons (.lit .none) .nil)) (.cons (.cV (.var 0) 49) ss))))) ⟨[vr (.inst 6 k),vr aS,vi 0],h⟩=R) /\
   (∃ f,h1.get (.inst 6 k)=some (.inst 6 [(45,.ref aS),(18,.int 0),(47,.ref (.fld (.inst 6 k) 47)),(48,.ref (.fld (.inst 6 k) 48)),(49,f)]))/\(∀ b,b≠.inst 6 k->(∀ j,b≠.fld (.inst 6 k) j)->h1.get b=h.get b)/\h1.cnt=h.cnt/\h1.aq=h.aq:=by
  apply Exists.intro;apply And.intro
  ·intro ss R hR;apply aO;(walk_at"S");apply k_go;apply aO;(walk_at"S");apply k_go;apply aO;(walk_at"S");apply k_go;apply aO;(walk_at"S");apply k_go;apply aO;(walk_at"S");apply k_go;exact hR
  ·refine⟨⟨_,kgeq⟩,λb hb hk=>?_,rfl,rfl⟩
   (repeat refine kgne (by first | exact hb | exact hk _) ?_);rfl
 refine c55 (n:=n) (h:=h1.new 5) (k:=h1.cnt 5) (by rw[bT,aae rfl]) λh2 e2 k1 k2 k3=>?_
 have hc5:h1.cnt 5=h1.cnt 5:=rfl;have hg2:=(k1 (.inst 6 k) nofun λO=>nofun).trans ((bT.trans (aaf (show ¬ Ad.inst 6 k=.inst 5 (h1.cnt 5) from nofun))).trans g1)
 apply k_
 ·show dt prog (aa prog (n+1)) U9 _ h=_;apply gO rfl;apply e1;walk_at"SS"
 ·exact ga kgeq rfl
 ·intro b hb
  (repeat refine kgne (by first | exact ja hb (by decide) | exact pd hb (by decide)) ?_)
  rw[k1 b (ja hb (by decide)) λO=>pd hb (by decide),bT,aaf (ja hb (by decide))]
  exact g2 b (ja hb (by decide)) λO=>pd hb (by decide)
 ·intro d hd;show h2.cnt d=_;rw[k2,gw,g3];exact aaf hd
 ·show h2.aq=_;rw[k3];exact g4
theorem c57{C_:Prop}(ha:h.get aY=some (.inst 7 [])) {j:Nat}(u1:getAttr h (.ref (.inst 6 j)) 45=some (.ref aS)) (s1:getAttr h (.ref aS) 37=some (.ref aK)) (k_:∀ h',aa prog (n+1) 57 [.ref aY,.ref (.inst 6 j),.ref aH,.int 0] h=some (.ret .none h')->∀ f,h'.get aY=some (.inst 7 f)->br 45 f=some (.ref aS)->br 37 f=some (.ref aK)->br 46 f=some (.ref aH)->f.length<500->(∀ b,b≠aY->(∀ j,b≠.fld aY j)->h'.get b=h.get b)->h'.cnt=h.cnt->h'.aq=h.aq->C_):C_:=by
 apply k_
 ·show dt prog (aa prog (n)) U_ _ h=_;apply gO rfl;walk_at"SS"
 ·exact kgeq
 ·rfl
 ·rfl
 ·rfl
 ·exact aaz (by kernel_rfl)
 ·intro b hb hk;(repeat refine kgne (by first | exact hb | exact hk _) ?_);rfl
 ·rfl
 ·rfl
end
section
variable{W W':Wd}{L L' L'':List Ck}{h h' ee:MH}{n v i k p a top:Nat}{r:Rw}
theorem lV(q:L <+: L') {X:Option (Ck×Nat)}(hX:∀ c x,X=some (c,x)->c∈L):fH L' X=fH L X:=by
 cases X with
 |none=>rfl
 |some y =>
  obtain⟨c,x⟩:=y;show V.tup [.int (ah L' c),.int x,.tup []]=V.tup [.int (ah L c),.int x,.tup []];rw[aN q (hX c x rfl)]
theorem zm{P:Prog}{L:List Ck}{X:Option (Ck×Nat)}:a8 P h .ne (fH L X) (fH L X)=some false:=by
 cases X with
 |none=>rfl
 |some y=>exact aab (Option.map (!·)) (oY (P:=P) (h:=h) (xs:=[.int (ah L y.1),.int y.2,.tup []]) rfl)
structure LX(W:Wd) (L:List Ck) (h:MH):Prop where
 R:WX W L h
 Q:LW W h
theorem LX.gr(X:LX W L h) (g:Gr L h L' h'):LX W L' h':=⟨X.R.gr g,X.Q.gr g⟩
theorem Fin.part{C_:Prop}(F:Fin W) (X:LX W L h) (hr:r∈W.bc i) (hp:p=2∨p=3) (ha:d6 a) (hc:W.kd i a∈L) {v0 v1 v3 v6 v11 v12 v13 v14 v15:Option MV}(k_:∀ L' h' qY,bE prog (aa prog (n+15)) [11] Dz (.int p) ⟨[v0,v1,vr aW,v3,vi top,vr aY,v6,vi i,vv (.lst (ao (W.args i a))),vi (ah L (W.kd i a)),vv (bw r),v11,v12,v13,v14,v15],h⟩ =
   some (.next,⟨[v0,v1,vr aW,v3,vi top,vr aY,v6,vi i,vv (.lst (ao (W.args i a))),vi (ah L (W.kd i a)),vv (bw r),vi p,qY,v13,v14,v15],h'⟩)->Gr L h L' h'->C_):C_:=by
 obtain⟨kr,-,hi⟩:=F.T.row i r hr;have hit:i<=W.tb.length:=by rw[F.T.tl];exact aay hi
 refine c70 (n:=n+6) (p:=p) (r:=r) X.Q F.V4 X.R.kt X.R.iX X.R.dy hp ha hit (by rw[F.T.nl];exact hi) (by have:=F.n4;exact aay (iu hi this rfl)) λL1 h1 e1 g1 m1=>?_
 have X1:=X.gr g1;have TX:=g1.pre.subset hc;have k1:ah L1 (W.kd i a)=ah L (W.kd i a):=aN g1.pre hc;obtain⟨L2,h2,e2,g2⟩:∃ L2 h2,(∀ {v:Option MV},bG prog (aa prog (n+15)) Dx ⟨[v0,v1,vr aW,v3,vi top,vr aY,v6,vi i,vv (.lst (ao (W.args i a))),vi (ah L (W.kd i a)),vv (bw r),vi p,vv (fH L1 (W.yz i a r p)),v13,v14,v15],h1⟩ =
   some (.next,⟨[v0,v1,vr aW,v3,vi top,vr aY,v6,vi i,vv (.lst (ao (W.args i a))),vi (ah L (W.kd i a)),vv (bw r),vi p,vv (fH L1 (W.yz i a r p)),v13,v14,v15],h2⟩))/\Gr L1 h1 L2 h2:=by
  by_cases ht:(i:Int)=(top:Int)
  ·refine VU (n:=n+1) (p:=p) (r:=r) F.TL F.TN F.V3 X1.R kr hp hi ha TX λL2 h2 e2 g2 m2=>?_
   rw[F.I3 hr hi]at e2 m2;rw[lV g2.pre m1,k1]at e2;have q:=zm (P:=prog) (h:=h2) (L:=L1) (X:=W.yz i a r p);exact⟨L2,h2,by intros;walk_at"S",g2⟩
  ·exact⟨L1,h1,by intros;walk_at"S",.refl g1.kt⟩
 have X2:=X1.gr g2;have Tt:=g2.pre.subset TX;have k2:ah L2 (W.kd i a)=ah L (W.kd i a):=(aN g2.pre TX).trans k1;refine Z7 (n:=n) (p:=p) (r:=r) F.TL F.TN F.V3 X2.R kr hp hi ha Tt λL3 h3 e3 g3 m3=>?_
 have e4:bG prog (aa prog (n+15)) Dy ⟨[v0,v1,vr aW,v3,vi top,vr aY,v6,vi i,vv (.lst (ao (W.args i a))),vi (ah L (W.kd i a)),vv (bw r),vi p,vv (fH L1 (W.yz i a r p)),v13,v14,v15],h2⟩ =
   some (.next,⟨[v0,v1,vr aW,v3,vi top,vr aY,v6,vi i,vv (.lst (ao (W.args i a))),vi (ah L (W.kd i a)),vv (bw r),vi p,vv (fH L3 (W.rM i a r p)),v13,v14,v15],h2⟩):=by
  have n2:getItem prog h2 (bw r) (.int p)=some (.int (r.mid p)):=gu hp;have k3:ah L3 (W.kd i a)=ah L (W.kd i a):=(aN g3.pre Tt).trans k2;by_cases h0:r.mid p=0
  ·have t0:truthy (.int (r.mid p))=some false:=by rw[h0];rfl
   have e5:=VW (n:=n+13) (r:=r) X2.Q F.V4.toWtb hit kr.one;have ea:W.rM i a r p=if W.DZ i r=true then W.yz i a r p else none:=by
    unfold Wd.rM;rw[aaf (by simpa using h0),F.tR hr,F.I3 hr hi]
   rw[ea];cases hl:W.DZ i r with
   |true =>
    rw[hl]at e5;rw[aae rfl,lV (g2.pre.trans g3.pre) m1];have t1:truthy (.bool true)=some true:=rfl;walk_at"S"
   |false =>
    rw[hl]at e5;rw[aaf (by simp)]
    have t1:truthy (.bool false)=some false:=rfl;apply qh
    ·walk_at"S"
    ·rfl
  ·have t0:truthy (.int (r.mid p))=some true:=aab some (by simp[h0])
   have ea:W.rM i a r p=some (W.kd i a,r.mid p):=aae h0;rw[ea];show _=some (Fl.next,(⟨[v0,v1,vr aW,v3,vi top,vr aY,v6,vi i,vv (.lst (ao (W.args i a))),vi (ah L (W.kd i a)),vv (bw r),vi p,vv (.tup [.int (ah L3 (W.kd i a)),.int (r.mid p),.tup []]),v13,v14,v15],h2⟩:St));rw[k3];apply qh
   ·walk_at"S"
   ·rfl
 rw[k2]at e3;have q:=zm (P:=prog) (h:=h3) (L:=L3) (X:=W.rM i a r p);refine k_ L3 h3 (vv (fH L3 (W.rM i a r p))) ?_ ((g1.trans g2).trans g3);apply bz rfl;apply aO;(walk_at"S");apply k_go;apply aO;exact e2 (v:=none);apply k_go;apply aO;exact e4;apply k_go;walk_at"SS"
end
section
variable{W W':Wd}{L L' L'':List Ck}{h h' ee:MH}{n v i k p a top:Nat}{r:Rw}
theorem Fin.row{C_:Prop}(F:Fin W) (X:LX W L h) (hr:r∈W.bc i) (ha:d6 a) (hc:W.kd i a∈L) {v0 v1 v3 v6 v10 v11 v12 v13 v14 v15:Option MV}(k_:∀ L' h' zo qY,bE prog (aa prog (n+15)) [10] xi (bw r) ⟨[v0,v1,vr aW,v3,vi top,vr aY,v6,vi i,vv (.lst (ao (W.args i a))),vi (ah L (W.kd i a)),v10,v11,v12,v13,v14,v15],h⟩ =
   some (.next,⟨[v0,v1,vr aW,v3,vi top,vr aY,v6,vi i,vv (.lst (ao (W.args i a))),vi (ah L (W.kd i a)),vv (bw r),zo,qY,v13,v14,v15],h'⟩)->Gr L h L' h'->C_):C_:=by
 refine F.part (n:=n) (top:=top) (p:=2) X hr (.inl rfl) ha hc (v0:=v0) (v1:=v1) (v3:=v3) (v6:=v6) (v11:=v11) (v12:=v12) (v13:=v13) (v14:=v14) (v15:=v15) λL1 h1 w1 e1 g1=>?_
 refine F.part (n:=n) (top:=top) (p:=3) (X.gr g1) hr (.inr rfl) ha (g1.pre.subset hc) (v0:=v0) (v1:=v1) (v3:=v3) (v6:=v6) (v11:=vi (2:Nat)) (v12:=w1) (v13:=v13) (v14:=v14) (v15:=v15) λL2 h2 w2 e2 g2=>?_
 rw[aN g1.pre hc]at e2;have e:=bu (chk:=aL (.tup [.int 2,.int 3]) [.int 2,.int 3]) rfl e1 (bu rfl e2 (k_fe rfl));refine k_ L2 h2 (vi (3:Nat)) w2 ?_ (g1.trans g2);clear e1 e2;apply bz rfl;walk_at"SS"
theorem Fin.rows{C_:Prop}(F:Fin W) (ha:d6 a) (hi:i<W.tb.length) {v0 v1 v3 v6 v13 v14 v15:Option MV}{TY:Int}:∀ (l:List Rw),(∀ o∈l,o∈W.bc i)->∀ {L:List Ck}{h:MH}(X:LX W L h) (hc:W.kd i a∈L) (hk:TY=ah L (W.kd i a)) (v10 v11 v12:Option MV),(∀ L' h' Jv zo qY,forL (bE prog (aa prog (n+15)) [10] xi) (aL (.ref (jh i)) ((W.bc i).map bw)) (l.map bw) ⟨[v0,v1,vr aW,v3,vi top,vr aY,v6,vi i,vv (.lst (ao (W.args i a))),vi TY,v10,v11,v12,v13,v14,v15],h⟩ =
   some (.next,⟨[v0,v1,vr aW,v3,vi top,vr aY,v6,vi i,vv (.lst (ao (W.args i a))),vi TY,Jv,zo,qY,v13,v14,v15],h'⟩)->Gr L h L' h'->C_)->C_:=by
 intro l;induction l with
 |nil =>
  intro _ L h X hc hk v10 v11 v12 k_;exact k_ L h v10 v11 v12 (k_fe (aU (X.Q.rows i _ (dF hi)))) (.refl X.R.kt)
 |cons r l ih =>
  intro hl L h X hc hk v10 v11 v12 k_;refine F.row (n:=n) (top:=top) X (hl r aad) ha hc (v0:=v0) (v1:=v1) (v3:=v3) (v6:=v6) (v10:=v10) (v11:=v11) (v12:=v12) (v13:=v13) (v14:=v14) (v15:=v15) λL1 h1 w11 w12 e1 g1=>?_
  rw[<- hk]at e1;exact ih (λo ho=>hl o (aac _ ho)) (X.gr g1) (g1.pre.subset hc) (hk.trans (by rw[aN g1.pre hc])) (vv (bw r)) w11 w12 λL2 h2 D_ Kf Kg e2 g2 =>
  k_ L2 h2 D_ Kf Kg (bu (aU (X.Q.rows i _ (dF hi))) e1 e2) (g1.trans g2)
theorem TZ{C_:Prop}:∀ m:Nat,m<3->(∀ a,d6 a->dm [.int 7,.int 13,.int 16] m=some (.int a)->C_)->C_:=by
 intro m h k_;rcases Kj _ h with rfl | rfl | rfl
 ·exact k_ 7 (.inl rfl) rfl
 ·exact k_ 13 (.inr (.inl rfl)) rfl
 ·exact k_ 16 (.inr (.inr rfl)) rfl
theorem Fin.nv{C_:Prop}(F:Fin W) (X:LX W L h) (hi:i<W.ty.length) {rr:Nat}{v0 v1 v3 v7 v8 v9 v10 v11 v12 v13 v14 v15:Option MV}(k_:∀ L' h' v8' v9' Jv zo qY,bE prog (aa prog (n+15)) [7] xj (.int i) ⟨[v0,v1,vr aW,v3,vi top,vr aY,vi rr,v7,v8,v9,v10,v11,v12,v13,v14,v15],h⟩ =
   some (.next,⟨[v0,v1,vr aW,v3,vi top,vr aY,vi rr,vi i,v8',v9',Jv,zo,qY,v13,v14,v15],h'⟩)->Gr L h L' h'->C_):C_:=by
 have nM:i<W.nl:=by rw[F.T.nl];exact hi
 have h5:W.nl<=5:=by rw[F.T.nl];have:=F.n4;exact Nat.le_succ_of_le this
 have hit:i<W.tb.length:=by rw[F.T.tl];exact hi
 have hW:=X.Q.w;have k2:=S_;have b:binop .mod (.int rr) (.int 3)=_:=cw (a:=rr) (b:=3) (by decide)
 obtain⟨a,ha,e1⟩:∃ a,d6 a/\bG prog (aa prog (n+15)) DA ⟨[v0,v1,vr aW,v3,vi top,vr aY,vi rr,vi i,v8,v9,v10,v11,v12,v13,v14,v15],h⟩ =
   some (.next,⟨[v0,v1,vr aW,v3,vi top,vr aY,vi rr,vi i,vv (.lst (ao (W.args i a))),v9,v10,v11,v12,v13,v14,v15],h⟩):=by
  refine TZ _ (Nat.mod_lt rr (y:=3) (by decide)) λa ha q=>?_
  have c:=Od (n:=n+14) X.Q X.R.dy nM h5 (a:=a);exact⟨a,ha,by walk_at"S"⟩
 refine J6 (n:=n+7) (l:=W.args i a) X.Q X.R.kt X.R.iX nM (by have:=F.n4;exact iu nM h5 rfl) (args_get (aat i)) (by rw[cD];exact ha) λh1 e2 g1=>?_
 rw[cD]at e2 g1;have X1:=X.gr g1;have hW1:=X1.Q.w;have k4:=Tc;have t1:=X1.Q.tab;have t2:dm W.gU i=some (.ref (jh i)):=tG hit;have t3:=X1.Q.rows i _ (dF hit);refine F.rows (n:=n) (top:=top) ha hit (W.bc i) (λo ho=>ho) X1 cC rfl (v0:=v0) (v1:=v1) (v3:=v3) (v6:=vi rr) (v13:=v13) (v14:=v14) (v15:=v15) v10 v11 v12 λL2 h2 D_ Kf Kg e3 g2=>?_
 refine k_ L2 h2 (vv (.lst (ao (W.args i a)))) (vi (ah (ins L (W.kd i a)) (W.kd i a))) D_ Kf Kg ?_ (g1.trans g2)
 ·apply bz rfl;apply aO;exact e1;apply k_go;walk_at"SS"
end
section
variable{W W':Wd}{L L' L'':List Ck}{h h' ee:MH}{n v i k p a top:Nat}{r:Rw}{ns:List Nat}
theorem zp(R:WR W L h) (Q:LW W h) (fr:∀ b,low b->h'.get b=h.get b) (ht:h.aq<=h'.aq):WR W L h'/\LW W h':=by
 have z:∀ {r},z0 r=true->nH r=true:=λe=>by rw[Nat.eq_of_beq_eq_true e];rfl
 have w:∀ {r},Il r=true->nH r=true:=λe=>by rw[Nat.eq_of_beq_eq_true e];rfl
 have k:∀ {r},NG r=true->nH r=true:=λ{r} e=>(show ∀ r,r<=3->nH r=true by decide) r (aaz (ae e).2)
 exact⟨R.keep (R.kt.of_get λa ha=>fr a (z ha)) List.prefix_rfl λa ha=>fr a (k ha),Q.keep ht λa ha=>fr a (w ha)⟩
theorem ub{v:V}:∀ {fs:List (Nat×V)},br k (dY k v fs)=some v:=by
 intro fs;induction fs with
 |nil =>
  exact aae rfl
 |cons x_ fs ih =>
  obtain⟨j,u⟩:=x_;rw[fput_1];split
  ·rename_i e;subst e;exact aae rfl
  ·rename_i e;exact(aaf e).trans (ih)
theorem fq{v:V}{j:Nat}(hj:j≠k):∀ {fs:List (Nat×V)},br j (dY k v fs)=br j fs:=by
 intro fs;induction fs with
 |nil =>
  exact aaf λe=>hj e.symm
 |cons x_ fs ih =>
  obtain⟨i,u⟩:=x_;rw[fput_1];split
  ·rename_i e;subst e;show(if i=j then _ else _)=(if i=j then _ else _)
   rw[aaf λe=>hj e.symm,aaf λe=>hj e.symm]
  ·show(if i=j then _ else _)=(if i=j then _ else _)
   rw[ih]
theorem OZ{C_:Prop}(A:AW W L h) (hi:W.ty.length=i+2) {v0 v1 v5 v6 v7 v8 v9 v10 v11 v12 v13 v14 v15:Option MV}(k_:∀ h',(∀ {ss R},aw prog (aa prog (n+3)) ss ⟨[v0,v1,vr aW,vr aS,vi (i+1:Nat),vr aY,v6,v7,v8,v9,v10,v11,v12,v13,v14,v15],h'⟩=R ->
   aw prog (aa prog (n+3)) (.cons mI (.cons mJ ss)) ⟨[v0,v1,vr aW,vr aS,vi (i+1:Nat),v5,v6,v7,v8,v9,v10,v11,v12,v13,v14,v15],h⟩=R)->LX W L h'->C_):C_:=by
 have s2:=A.wr.iX;refine cJ A.c3 λhc7 hc8=>?_
 refine c56 (n:=n+1) (h:=h.new 6) (k:=h.cnt 6) (by rw[bT,aae rfl]) λh1 e1 u1 k1 d1 t1=>?_
 have hc6:h.cnt 6=h.cnt 6:=rfl;have O0:h1.cnt 8=0:=by rw[d1 8 (by decide),gw];exact(aaf (by decide)).trans hc8
 have T6:h1.cnt 7=0:=by rw[d1 7 (by decide),gw];exact(aaf (by decide)).trans hc7
 have f1:∀ b,low b->h1.get b=h.get b:=λb hb=>(k1 b hb).trans (bT.trans (aaf (ja hb (by decide))))
 have V8:=af (f1 aS rfl) s2;refine c58 (n:=n+2) (h:=h1.new 8) (k:=0) (by rw[bT,O0,aae rfl]) (af (mU nofun) V8) λh2 e2 f8 w1 w2 w3 k2 d2 t2=>?_
 have f2:∀ b,b≠.inst 8 0->(∀ j,b≠.fld (.inst 8 0) j)->h2.get b=h1.get b:=λb hb zL=>(k2 b hb zL).trans (bT.trans (aaf (by rw[O0];exact hb)))
 have Ed:h2.cnt 7=0:=by rw[d2,gw];exact(aaf (by decide)).trans T6
 have T8:=af (f2 aS nofun λO=>nofun) V8
 have u1':=af (f2 (.inst 6 (h.cnt 6)) nofun λO=>nofun) u1
 refine c57 (n:=n+2) (h:=h2.new 7) (j:=h.cnt 6) (by rw[bT,Ed,aae rfl]) (af (mU nofun) u1') (af (mU nofun) T8) λh3 e3 f7 y1 y2 y3 y4 y5 k3 d3 t3=>?_
 have f3:∀ b,b≠aY->(∀ j,b≠.fld aY j)->h3.get b=h2.get b:=λb hb zL=>(k3 b hb zL).trans (bT.trans (aaf (by rw[Ed];exact hb)))
 have b1:binop .add (.int 21) (.int (i+1:Nat))=some (.int (20+(i+2):Nat)):=aab (λz=>some (V.int z)) (show(21:Int)+((i+1:Nat):Int)=((20+(i+2):Nat):Int) by exact Kh (uc rfl))
 have e4:=gstA (P:=prog) (n:=27) (x:=.int (20+(i+2):Nat)) y1 rfl (Nat.ble_eq.mpr y5);have fr:∀ b,low b->(h3.set aY (.inst 7 (dY 27 (.int (20+(i+2):Nat)) f7))).get b=h.get b:=λb hb=>by
  refine kgne (ja hb (by decide)) ?_
  rw[f3 b (ja hb (by decide)) λO=>pd hb (by decide),f2 b (ja hb (by decide)) λO=>pd hb (by decide)]
  exact f1 b hb
 obtain⟨R',Q'⟩:=zp A.wr A.lw fr (by
  have a1:h1.aq=h.aq:=t1;have a2:h2.aq=h1.aq:=t2;have a3:h3.aq=h2.aq:=t3;show h.aq<=h3.aq;exact aaD (a3.trans (a2.trans a1)).symm)
 have PZ:(h3.set aY (.inst 7 (dY 27 (.int (20+(i+2):Nat)) f7))).get aH=some (.inst 8 f8):=kgne nofun ((f3 aH nofun λO=>nofun).trans w1)
 refine k_ (h3.set aY (.inst 7 (dY 27 (.int (20+(i+2):Nat)) f7))) ?_ ⟨⟨R',ga kgeq ((fq (by decide)).trans y2),ga kgeq ((fq (by decide)).trans y3),ga kgeq ((fq (by decide)).trans y4),by rw[hi];exact ga kgeq ub,gm PZ rfl,gm PZ rfl,ga PZ w2,ga PZ w3⟩,Q'⟩
 intro ss R hR;clear Q' R' fr f1 f2 f3 k1 k2 k3;apply aO;(walk_at"S");apply k_go;apply aO
 ·apply wS;walk_at"Z";apply sa
  ·refine(?_:T.A (.act _ _) _=_);exact e4
  walk_at"R"
 apply k_go;exact hR
end
section
variable{W W':Wd}{L L' L'':List Ck}{h h' ee:MH}{n v i k p a top:Nat}{r:Rw}{ns:List Nat}
theorem LX.gv(X:LX W L h) (g:Gv L h L' h'):LX W L' h':=⟨X.R.gv g,X.Q.gv g⟩
theorem Fin.runs{C_:Prop}(F:Fin W) (X:LX W L h) (hi:W.ty.length=i+2) {t1:Int}{kl:List Nat}(J9:kl=[]∨kl=[13]) {v0 v1 v3 v4 v6 v7 v8 v9 v10 v11 v12 v15:Option MV}(k_:∀ L' h',bE prog (aa prog (n+16)) [15] xk (.int t1) ⟨[v0,v1,vr aW,v3,v4,vr aY,v6,v7,v8,v9,v10,v11,v12,vv (.tup (ao kl)),vv (.bool W.ob),v15],h⟩ =
   some (.next,⟨[v0,v1,vr aW,v3,v4,vr aY,v6,v7,v8,v9,v10,v11,v12,vv (.tup (ao kl)),vv (.bool W.ob),vi t1],h'⟩)->Gv L h L' h'->C_):C_:=by
 have T9:(W.bN i (W.pa (i+1) 16)).length=i+1:=bJ;refine F.jg (cc:=λj=>W.kd j (W.ar (i+1) 16 j)) (W.bN i (W.pa (i+1) 16)) 0 (by rw[T9];exact zC (Nat.zero_add _) (Ua hi)) (λt c ht=>by
  have iw:=(aav.mp ht).1;rw[T9]at iw;rw[dg (aax iw)]at ht;have e2:W.ar (i+1) 16 t=W.ar i (W.pa (i+1) 16) t:=by
   show(if t=i+1 then 16 else W.ar i (W.pa (i+1) 16) t)=_
   rw[aaf (aaR iw)]
  rw[Nat.zero_add,e2];exact(aah ht).symm) vi0 λvt e I=>?_
 rw[T9,Nat.zero_add]at I;refine c71 (n:=n) F.TL F.TN F.OR X.R X.Q hi (by rw[F.lvl];exact hi) (by rw[F.T.nl];exact hi) e (λx s hs=>by
  by_cases hP:Pk W (i+1) x
  ·obtain⟨t,a,b,-⟩:=I.b x hP;rw[hs]at a;cases a;exact b
  ·rw[I.d x hP]at hs;cases hs) (λj x hx=>by
  refine az (F.T.mid j x hx) λm a b=>?_
  have:=(F.T.has x m a).2.1;exact Nat.lt_of_lt_of_eq (Jw b this) hi) (λO j x hx=>F.want (Eq.symm hi) (F.T.mid j x hx) I) (turn:=t1) J9 λL' h' e1 g=>?_
 refine k_ L' h' ?_ g;have t:truthy (.bool true)=some true:=rfl;clear I e X;apply bz rfl;walk_at"SS"
theorem Cp{C_:Prop}(hl:ns.length=14) (gN:∀ x∈ns,x<1000003) {W:Wd}{L:List Ck}{h:MH}(w:t8 W L h (2+at_ ns 0%3) k (decide (at_ ns 0/36%5≠4)) (za ns (2+at_ ns 0%3))) {v0 v3 v4 v5 v6 v7 v8 v9 v10 v11 v12 v13 v14 v15:Option MV}(k_:∀ um,aw prog (aa prog (n+16)) (.cons qu (.cons qv (.cons mI (.cons mJ (.cons qw (.cons qx (.cons mK (.cons qz (.cons qA (.cons qB .nil))))))))))
   ⟨[v0,vv (.lst (ao ns)),vr aW,v3,v4,v5,v6,v7,v8,v9,v10,v11,v12,v13,v14,v15],h⟩=some (.ret (.bool true),um)->C_):C_:=by
 have zf:=lU gN 0;have T_:=lU gN 13;have gk:∀ k:Nat,k<14->dm (ao ns) k=some (.int (at_ ns k)):=λk hk=>bI.trans (zb hl hk)
 have g0:=gk 0 (by decide)
 have F8:=gk 13 (by decide)
 have cX:=w.ob;have O1:W.lv.length=W.ty.length:=by rw[w.lv,w.ty];simp[za]
 have o_:=w.ty;generalize hi:at_ ns 0%3=i at *;generalize at_ ns 0=z at *;generalize at_ ns 13=y at *;rw[Nat.add_comm]at o_;have F:Fin W:=⟨w.T,w.S,by exact n_9 o_ (aax (hi▸Nat.mod_lt _ (by decide))) rfl,O1⟩
 refine OZ (n:=n+13) w.A o_ (v0:=v0) (v1:=vv (.lst (ao ns))) (v5:=v5) (v6:=v6) (v7:=v7) (v8:=v8) (v9:=v9) (v10:=v10) (v11:=v11) (v12:=v12) (v13:=v13) (v14:=v14) (v15:=v15) λh1 e1 X=>?_
 have hbr:=Nat.mod_lt (z/3/3) (show 0<i+1+1 by exact Nat.zero_lt_succ _)
 refine F.nv (n:=n+1) (top:=i+1) (i:=i+1) (rr:=z/3) X (aaD (Eq.symm o_)) (v0:=v0) (v1:=vv (.lst (ao ns))) (v3:=vr aS) (v7:=v7) (v8:=v8) (v9:=v9) (v10:=v10) (v11:=v11) (v12:=v12) (v13:=v13) (v14:=v14) (v15:=v15) λL2 h2 y8 y9 y10 y11 y12 e2 g2=>?_
 have X2:=X.gr g2;refine F.nv (n:=n+1) (top:=i+1) (i:=z/3/3%(i+1+1)) (rr:=z/3) X2 (O4 o_ hbr) (v0:=v0) (v1:=vv (.lst (ao ns))) (v3:=vr aS) (v7:=vi (i+1:Nat)) (v8:=y8) (v9:=y9) (v10:=y10) (v11:=y11) (v12:=y12) (v13:=v13) (v14:=v14) (v15:=v15) λL3 h3 z8 z9 D_ Kf Kg e3 g3=>?_
 have X3:=X2.gr g3;obtain⟨kl,J9,e4⟩:∃ kl,(kl=[]∨kl=[13])/\∀ {v7 v8 v9 v10 v11 v12 v13 v14 v15:Option MV},bG prog (aa prog (n+16)) mK ⟨[v0,vv (.lst (ao ns)),vr aW,vr aS,vi (i+1:Nat),vr aY,vi (z/3:Nat),v7,v8,v9,v10,v11,v12,v13,v14,v15],h3⟩ =
   some (.next,⟨[v0,vv (.lst (ao ns)),vr aW,vr aS,vi (i+1:Nat),vr aY,vi (z/3:Nat),v7,v8,v9,v10,v11,v12,vv (.tup (ao kl)),v14,v15],h3⟩):=by
  have b1:binop .div (.int (z/3:Nat)) (.int 60)=_:=di (a:=z/3) (b:=60) (by decide) (aak (Nat.div_le_self _ _) (cP zf rfl))
  have b2:binop .mod (.int (z/3/60:Nat)) (.int 2)=_:=cw (a:=z/3/60) (b:=2) (by decide)
  clear e1 e2 e3 X X2 X3 F w g2 g3;rcases Nat.mod_two_eq_zero_or_one (z/3/60) with e | e<;>rw[e]at b2
  ·have t:truthy (.int ((0:Nat):Int))=some false:=rfl;exact⟨[],.inl rfl,by intros;apply qh;(walk_at"S");exact rfl⟩
  ·have t:truthy (.int ((1:Nat):Int))=some true:=rfl;exact⟨[13],.inr rfl,by intros;apply qh;(walk_at"S");exact rfl⟩
 refine F.runs (n:=n) X3 o_ (t1:=y) J9 (v0:=v0) (v1:=vv (.lst (ao ns))) (v3:=vr aS) (v4:=vi (i+1:Nat)) (v6:=vi (z/3:Nat)) (v7:=vi (z/3/3%(i+1+1):Nat)) (v8:=z8) (v9:=z9) (v10:=D_) (v11:=Kf) (v12:=Kg) (v15:=v15) λL4 h4 e5 g4=>?_
 refine F.runs (n:=n) (X3.gv g4) o_ (t1:=(y/97:Nat)) J9 (v0:=v0) (v1:=vv (.lst (ao ns))) (v3:=vr aS) (v4:=vi (i+1:Nat)) (v6:=vi (z/3:Nat)) (v7:=vi (z/3/3%(i+1+1):Nat)) (v8:=z8) (v9:=z9) (v10:=D_) (v11:=Kf) (v12:=Kg) (v15:=vi y) λL5 h5 e6 g5=>?_
 have hW:=w.A.lw.w;have hL:=w.A.lw.lv;have hlen:W.qR.length=i+2:=by unfold Wd.qR;rw[aan,List.length_take,w.T.nl,O1,o_];exact Nat.min_self _
 have k1:=S9;have k3:=Ta;have b1:binop .sub (.int (W.qR.length:Nat)) (.int 1)=some (.int (i+1:Nat)):=aab (λz=>some (V.int z)) (show((W.qR.length:Nat):Int)-1=((i+1:Nat):Int) by exact(aab (λn:Nat=>(n:Int)-1) hlen).trans i_7)
 have b2:binop .div (.int z) (.int 3)=_:=di (a:=z) (b:=3) (by decide) (cP zf rfl)
 have b3:binop .div (.int (z/3:Nat)) (.int 3)=_:=di (a:=z/3) (b:=3) (by decide) (aak (Nat.div_le_self _ _) (cP zf rfl))
 have b4:binop .add (.int (i+1:Nat)) (.int 1)=some (.int (i+1+1:Nat)):=rfl;have b5:binop .mod (.int (z/3/3:Nat)) (.int (i+1+1:Nat))=_:=cw (a:=z/3/3) (b:=i+1+1) (Nat.zero_lt_succ _);have b6:binop .div (.int z) (.int 36)=_:=di (a:=z) (b:=36) (by decide) (cP zf rfl)
 have b7:binop .mod (.int (z/36:Nat)) (.int 5)=_:=cw (a:=z/36) (b:=5) (by decide)
 have b8:binop .div (.int y) (.int 97)=_:=di (a:=y) (b:=97) (by decide) (cP T_ rfl)
 have q0:∀ {h:MH},getItem prog h (.lst (ao ns)) (.int 0)=some (.int z):=λ{h}=>g0
 have q1:=q0 (h:=h1);have q3:=q0 (h:=h3);have q13:getItem prog h3 (.lst (ao ns)) (.int 13)=some (.int y):=F8;have c1:a8 prog h3 .ne (.int (z/36%5:Nat)) (.int 4)=some W.ob:=by
  rw[cX];by_cases e:z/36%5=4
  ·rw[aaA (by lia)];exact cneF (by lia)
  ·rw[aaq e];exact cneT (by lia)
 clear F X X2 X3 g2 g3 g4 g5 w;apply k_
 ·apply aO;(walk_at"S");apply k_go;apply aO;(walk_at"S");apply k_go;apply e1;apply aO;(walk_at"S");apply k_go;have l1:=bu (chk:=aL (.tup [.int (i+1:Nat),.int (z/3/3%(i+1+1):Nat)]) [.int (i+1:Nat),.int (z/3/3%(i+1+1):Nat)]) rfl e2 (bu rfl e3 (k_fe rfl));apply aO;(walk_at"S");apply k_go;apply aO;exact e4;apply k_go;apply aO;(walk_at"S");apply k_go;have l2:=bu (chk:=aL (.tup [.int y,.int (y/97:Nat)]) [.int y,.int (y/97:Nat)]) rfl e5 (bu rfl e6 (k_fe rfl));apply aO;(walk_at"S");apply k_go;walk_at"SS"
end
section
variable{n:Nat}{ns:List Nat}
theorem Cq{a b:List Nat}:ao a++ao b=ao (a++b):=by unfold ao;rw[aaP]
theorem Cr(hl:ns.length<=14) {v0 v2 v3 v4 v5 v6 v7 v8 v9 v10 v11 v12 v13 v14 v15:Option MV}{h:MH}:bG prog (aa prog n) qt ⟨[v0,vv (.lst (ao ns)),v2,v3,v4,v5,v6,v7,v8,v9,v10,v11,v12,v13,v14,v15],h⟩ =
  some (.next,⟨[v0,vv (.lst (ao (ns++List.replicate (14-ns.length) 0))),v2,v3,v4,v5,v6,v7,v8,v9,v10,v11,v12,v13,v14,v15],h⟩):=by
 have e:(ao ns).length=ns.length:=aG;have q1:binop .sub (.int 14) (.int ((ao ns).length:Nat))=some (.int (14-ns.length:Nat)):=aab (λz=>some (V.int z)) (show(14:Int)-((ao ns).length:Int)=((14-ns.length:Nat):Int) by exact e▸(Int.ofNat_sub hl).symm)
 have q2:binop .mul (.lst [.int 0]) (.int (14-ns.length:Nat))=some (.lst (ao (List.replicate (14-ns.length) 0))):=by
  refine(aae ⟨by exact aaQ _,by exact Cu (Nat.sub_le _ _) rfl⟩).trans (aab (λl=>some (V.lst l)) ?_)
  unfold ao;rw[List.map_replicate];rfl
 have q3:binop .add (.lst (ao ns)) (.lst (ao (List.replicate (14-ns.length) 0)))=some (.lst (ao (ns++List.replicate (14-ns.length) 0))):=by
  exact(aae (by rw[aG,aG,List.length_replicate];exact P4 hl (Nat.sub_le _ _) rfl)).trans (aab (λl=>some (V.lst l)) Cq)
 apply qh
 ·walk_at"S"
 ·rfl
theorem Cs(hl:ns.length<=14) (gN:∀ x∈ns,x<1000003):∃ um,aw prog (aa prog 39) (.cons qt (.cons xl (.cons qu (.cons qv (.cons mI (.cons mJ (.cons qw (.cons qx (.cons mK (.cons qz (.cons qA (.cons qB .nil))))))))))))
   ⟨[none,vv (.lst (ao ns)),none,none,none,none,none,none,none,none,none,none,none,none,none,none],h0⟩=some (.ret (.bool true),um):=by
 have vF:(ns++List.replicate (14-ns.length) 0).length=14:=by rw[aag,List.length_replicate];exact Eq.symm (n_5 _ hl)
 have O2:∀ x∈ns++List.replicate (14-ns.length) 0,x<1000003:=λx hx=>by
  rcases aaM.mp hx with hx | hx
  ·exact gN x hx
  ·rw[(List.mem_replicate.mp hx).2];decide
 refine c68 vF O2 λW L h1 e w=>?_
 refine Cp (n:=23) vF O2 w (v0:=none) (v3:=none) (v4:=none) (v5:=none) (v6:=none) (v7:=none) (v8:=none) (v9:=none) (v10:=none) (v11:=none) (v12:=none) (v13:=none) (v14:=none) (v15:=none) λum e2=>?_
 refine⟨um,?_⟩;apply aO;exact Cr hl;apply k_go;apply aO;(walk_at"S");apply k_go;exact e2
end
theorem xA:∀ ns:List Int,ns.length<=14->(∀ n∈ns,0<=n/\n<1000003)->∃ um,aw prog (aa prog 39) (match Rk with
 |.cons _ t=>t
 |.nil=>.nil) ⟨setEnv (List.replicate 16 none) 1 (.val (.lst (ns.map .int))),h0⟩=some (.ret (.bool true),um):=by
 intro ns hl gN;have e:ns.map V.int=ao (ns.map Int.toNat):=by
  unfold ao;rw[List.map_map];refine List.map_congr_left λx hx=>?_
  have:=(gN x hx).1;show V.int x=V.int ((x.toNat:Nat):Int);rw[Int.toNat_of_nonneg this]
 rw[e];exact Cs (by rw[aan];exact hl) λx hx=>by
  obtain⟨y,hy,rfl⟩:=aaG.mp hx;have:=gN y hy;exact(Int.toNat_lt this.1).mpr this.2
end D
end Mine.Internal
theorem PySem.Challenge.cw_sz0049_01_holds : PySem.Challenge.rw_sz0049_01.Holds :=
 Mine.Internal.HG.kR Mine.Internal.D.xA
