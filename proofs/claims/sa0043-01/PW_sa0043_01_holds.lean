import PyProof.Rows.All
import Wide.All
import OpenK.AllK
import Wide.FinOn
import KE.KLam
import PySem.Challenge.RW_sa0043_01
set_option Elab.async false
set_option linter.all false
set_option autoImplicit false
set_option maxRecDepth 100000
set_option maxHeartbeats 8000000
noncomputable section
namespace Mine
open PySem PySem.W PyProof.Rows
open PySem.Str (ofString)
local macro_rules | `(⋯)=>`(by assumption)
variable {b Nm:Bool}{Y β:Type}{l:List Env}{G:Prop}{o ox oS:Obj}{c i k n N kd j kk L nn ep first:Nat}{d e it S fa:Addr}{m mv mx my mi mu mm:Value}{p:Addr×Addr}{s s' s1 s0:Shared}{t:SetTable}{w:World}{env:Env}{pos kp sp np Aq tp qF:Pos}{h h' B h1 h0:Heap}{ms wG:List Value}{D' F H:List Addr}{A:Around}{R:Result->Shared->Prop}{as:List Y}{bs:List β}{ks:List (Int×Value)}{sc fj jP:Scope}{op:CmpOp}{prog:Program}{tk:Tok}{is dq params ss ls:List Nat}{M:Model}{body yc:List Stmt}{QF:Flow->Shared->Prop}{C:Bool->Shared->Prop}{dd:Option Addr}{fd:FuncData}{col:Option Bool}{FF:String}{es:Array (Int×Value)}{ps:Array Value}{dy:List (Nat×Nat)}{js:List Int}
abbrev aw:=@wpAny_pure
abbrev bT:=@Heap.get?_push_of_some
theorem cM {a:Bool}(h:(a&&b)=true):a=true/\b=true:=Bool.and_eq_true_iff.mp h
abbrev cS:=@PyProof.Rows.seqObj
theorem b8 {a b:Y}{l:List Y}(h:a∈b::l):a=b\/a∈l:=List.mem_cons.mp h
abbrev av:=@if_neg
abbrev bN:=@decide_eq_true
abbrev ay:=@if_pos
abbrev cW:=@List.append_assoc
abbrev aP:=@congrArg
abbrev cD:=@Heap.get?_push_size
abbrev aY:=@wpAny_bind
abbrev cX:=@Nat.le_of_add_left_le
abbrev bY:=@List.length_append
abbrev bO:=@Nat.lt_of_le_of_lt
theorem dM {a b:Y}(h:a∈[b]):a=b:=List.mem_singleton.mp h
abbrev cI:=@decide_eq_false
abbrev cJ:=@List.length_map
abbrev dP:=@Heap.SameBut.update
abbrev dN:=@Nat.succ_le_of_lt
abbrev cQ:=@wpAny_holding
abbrev cK:=@Heap.lt_size
theorem fD {a:Bool}(h:a=true/\b=true):(a&&b)=true:=Bool.and_eq_true_iff.mpr h
theorem dz {f:Y->β}{b:β}{l:List Y}(h:b∈l.map f):∃a,a∈l/\f a=b:=List.mem_map.mp h
abbrev eG:=@List.mem_cons_self
abbrev fE:=@List.mem_cons_of_mem
abbrev cB:=@wpAny_mono
abbrev eZ:=@Array.length_toList
abbrev fF:=@wpAny_call_entry
abbrev gC:=@List.length_singleton
abbrev bP:=@Nat.le_trans
noncomputable abbrev iN:=Value->Shared->Prop
variable {E Q:iN}
set_option tactic.hygienic false
theorem ct {P:Prop}(h :∀G:Prop,(P->G)->G):P:=h P id
@[elab_as_elim] theorem rl.{u} {Y:Sort u} {a b:Y} {P:Y->Prop} (h:a=b) (k:P b):P a:=Eq.ndrec (motive:=P) k h.symm
@[elab_as_elim] theorem rr.{u} {Y:Sort u} {a b:Y} {P:Y->Prop} (h:b=a) (k:P b):P a:=Eq.ndrec (motive:=P) k h
noncomputable def Nx (M:PySem.Model)(A:PySem.Around)(f:Y->PySem.Sem β)(Q:β->PySem.Shared->Prop)(E:PySem.Value->PySem.Shared->Prop)(a:Y)(s:PySem.Shared):Prop:=PySem.wpAny M A (f a) Q E s
theorem wb {M:PySem.Model}{A:PySem.Around}{E:PySem.Value->PySem.Shared->Prop}{s:PySem.Shared}{m:PySem.Sem Y}{f:Y->PySem.Sem β}{Q:β->PySem.Shared->Prop}(h:PySem.wpAny M A m (Nx M A f Q E) E s):PySem.wpAny M A (m >>= f) Q E s:=PySem.wpAny_bind h
section
theorem aT {o:Option Y}{f:Y->Option β}{b:β}(e:o.bind f=some b)(k :∀a,o=some a->f a=some b->G):G:=
 match o,e,k with
 |some a,e,k=>k a rfl e
theorem dh {o:Option Y}{f:Y->β}{b:β}(e:o.map f=some b)(k :∀a,o=some a->f a=b->G):G:=
 match o,e,k with
 |some a,e,k=>k a rfl (Option.some.inj e)
theorem di {c:Prop}[h:Decidable c]{o:Option Y}{b:Y}(e :(if c then o else none)=some b)(k:c->o=some b->G):G:=
 match h,e,k with
 |.isTrue hc,e,k=>k hc e
end
inductive V where
 |none |bool (b:Bool) |int (i:Int) |str (s:List Nat)
 |tup (vs:List V) |list (vs:List V) |ref (i:Nat)
 deriving Inhabited
variable {u x y v v' hi lv:V}{vs ws ys us bh dQ:List V}{xs:List (List V×Addr×Value)}{az aJ bA:List (V×V)}
noncomputable def V.Qj:V->Bool |.none=>true |_=>false
noncomputable def V.Qk (a:Bool):V->Bool |.bool b=>a == b |_=>false
noncomputable def V.Uk (a:Int):V->Bool |.int b=>decide (a=b) |_=>false
noncomputable def V.Ul (a:List Nat):V->Bool |.str b=>a == b |_=>false
noncomputable def V.Um (f:List V->Bool):V->Bool |.tup b=>f b |_=>false
noncomputable def V.Ql (f:List V->Bool):V->Bool |.list b=>f b |_=>false
noncomputable def V.Un (a:Nat):V->Bool |.ref b=>Nat.beq a b |_=>false
noncomputable def V.Uo:List V->Bool |[]=>true |_::_=>false
noncomputable def V.Qm (f:V->Bool)(g:List V->Bool):List V->Bool |[]=>false |b::bs=>f b&&g bs
mutual
noncomputable def V.beq:V->V->Bool
 |.none=>V.Qj
 |.bool a=>V.Qk a
 |.int a=>V.Uk a
 |.str a=>V.Ul a
 |.tup a=>V.Um (V.yd a)
 |.list a=>V.Ql (V.yd a)
 |.ref a=>V.Un a
noncomputable def V.yd:List V->List V->Bool
 |[]=>V.Uo
 |a::as=>V.Qm (V.beq a) (V.yd as)
end
theorem V.beq_iff (a:V) :∀b:V,V.beq a b=true↔a=b:=
 V.rec (motive_1:=λa=>∀b:V,V.beq a b=true↔a=b) (motive_2:=λa=>∀b:List V,V.yd a b=true↔a=b)
  (λb=>⟨λh=>(by cases b <;> first |rfl |injection h),λh=>h▸rfl⟩)
  (λa b=>⟨λh=>(by cases b <;> first |exact aP V.bool (beq_iff_eq.mp h) |injection h),λh=>h▸beq_self_eq_true a⟩)
  (λa b=>⟨λh=>(by cases b <;> first |exact aP V.int (of_decide_eq_true h) |injection h),λh=>h▸bN rfl⟩)
  (λa b=>⟨λh=>(by cases b <;> first |exact aP V.str (beq_iff_eq.mp h) |injection h),λh=>h▸beq_self_eq_true a⟩)
  (λa ih b=>⟨λh=>(by cases b <;> first |exact aP V.tup ((ih _).mp h) |injection h),λh=>h▸(ih a).mpr rfl⟩)
  (λa ih b=>⟨λh=>(by cases b <;> first |exact aP V.list ((ih _).mp h) |injection h),λh=>h▸(ih a).mpr rfl⟩)
  (λa b=>⟨λh=>(by cases b <;> first |exact aP V.ref (Nat.eq_of_beq_eq_true h) |injection h),λh=>h▸Nat.beq_refl a⟩)
  (λb=>⟨λh=>(by cases b <;> first |rfl |injection h),λh=>h▸rfl⟩)
  (λa as ia Nn b=>⟨λh=>(by
   cases b with
   |nil=>injection h
   |cons b bs=>exact(ia b).mp (cM h).1▸(Nn bs).mp (cM h).2▸rfl),λh=>h▸fD ⟨(ia a).mpr rfl,(Nn as).mpr rfl⟩⟩) a
theorem V.Ck (a b:Int):V.beq (.int a) (.int b)=decide (a=b):=rfl
theorem V.JI (a b:List Nat):V.beq (.str a) (.str b) =(a == b):=rfl
instance V.decEq:DecidableEq V:=λa b=>
 match h:V.beq a b with
 |true=>isTrue ((V.beq_iff a b).mp h)
 |false=>isFalse λe=>by rw[(V.beq_iff a b).mpr e] at h;cases h
noncomputable def V.fold (n:Y)(b:Bool->Y)(i:Int->Y)(s:List Nat->Y)(t l:β->Y)(r:Nat->Y)(e:β)(c:Y->β->β)(v:V):Y:=
 V.rec (motive_1:=λ_=>Y) (motive_2:=λ_=>β) n b i s (λ_=>t) (λ_=>l) r e (λ_ _=>c) v
noncomputable def V.u5 (n:Y)(b:Bool->Y)(i:Int->Y)(s:List Nat->Y)(t l:β->Y)(r:Nat->Y)(e:β)(c:Y->β->β)(vs:List V):β:=
 V.rec_1 (motive_1:=λ_=>Y) (motive_2:=λ_=>β) n b i s (λ_=>t) (λ_=>l) r e (λ_ _=>c) vs
def V.plain:V->Bool:=V.fold true (λ_=>false) (λ_=>true) (·.all (· < 0x110000)) id id (λ_=>false) true (·&&·)
def V.cT:List V->Bool:=V.u5 true (λ_=>false) (λ_=>true) (·.all (· < 0x110000)) id id (λ_=>false) true (·&&·)
def V.depth:V->Nat:=V.fold 0 (λ_=>0) (λ_=>0) (λ_=>0) (· + 1) (· + 1) (λ_=>0) 0 max
def V.cw:List V->Nat:=V.u5 0 (λ_=>0) (λ_=>0) (λ_=>0) (· + 1) (· + 1) (λ_=>0) 0 max
theorem V.ye (v:V)(vs:List V):V.cw (v::vs)=max (V.depth v) (V.cw vs):=rfl
theorem V.Du (v:V)(vs:List V):V.depth v<=V.cw (v::vs)/\V.cw vs<=V.cw (v::vs):=⟨Nat.le_max_left ..,Nat.le_max_right ..⟩
theorem V.l0 (vs:List V):V.depth (.tup vs)=V.cw vs+1:=rfl
inductive DK where |int |str |tup
 deriving DecidableEq
inductive O where
 |list (vs:List V)
 |dict (k:DK) (az:List (V×V))
 |inst (c:Nat) (fs:List (Nat×V))
 deriving Inhabited
noncomputable abbrev eY:=List (Nat×V)
variable {fr Ft bC jD cA cH:eY}
noncomputable abbrev bw:=List O
variable {P:List (V×V)->bw}{U bB bq xX J bU tl:bw}{I:bw->Prop}
inductive Res (Y:Type) where
 |ok (a:Y) (U:bw)
 |exc (c:Nat) (U:bw)
 |stuck
variable {g r:List V->bw->Res V}
noncomputable abbrev ME (Y:Type):=eY->bw->Res Y
variable {fs:List (ME V)}{ft:ME Bool}{fi:ME (List V)}{test:Option (ME Bool)}{iw fe:ME V}
noncomputable def ah (a:Y):ME Y:=λ_ U=>.ok a U
noncomputable def ie:ME Y:=λ_ _=>.stuck
noncomputable def Res.andThen (r:Res Y)(f:Y->bw->Res β):Res β:=match r with
 |.ok a U=>f a U
 |.exc c U=>.exc c U
 |.stuck=>.stuck
def ME.bind (m:ME Y)(f:Y->ME β):ME β:=λfr U=>(m fr U).andThen λa bB=>f a fr bB
noncomputable def Res.cO (o:Option Y)(U:bw):Res Y:=match o with |some a=>.ok a U |.none=>.stuck
inductive ur where
 |next (fr:eY) (U:bw)
 |brk (fr:eY) (U:bw)
 |ret (v:V) (U:bw)
 |exc (c:Nat) (fr:eY) (U:bw)
 |stuck
noncomputable abbrev MS:=eY->bw->ur
variable {fb:MS}
section
variable {a b d e f g l m p q r s t u w x y z K:Nat}
theorem S9:1+(i:Int) * 1 =((i+1:Nat):Int):=(aP (1 + ·) (Int.mul_one _)).trans (Int.add_comm _ _)
theorem ZX :((s:Int) - (1+(i:Int) * 1)).toNat=s - (i+1):=(aP (λz=>((s:Int) - z).toNat) S9).trans (Int.toNat_sub s (i+1))
theorem ZY :(1+(i:Int) * 1).toNat=i+1:=aP Int.toNat S9
theorem ZZ :((s:Int) - ((t+1:Nat):Int)+2 - 1).toNat=s - t:=
 (aP Int.toNat ((Int.add_sub_assoc _ 2 1).trans ((aP (· + 1) (Int.sub_sub (s:Int) t 1).symm).trans (Int.sub_add_cancel ((s:Int) - t) 1)))).trans (Int.toNat_sub s t)
theorem Z0 :((s:Int) - (t:Int)+2 - 1).toNat=s+1 - t:=(aP Int.toNat ((Int.add_sub_assoc _ 2 1).trans (Int.add_right_comm (s:Int) (-t) 1))).trans (Int.toNat_sub (s+1) t)
theorem Z1 (h:a - b=k+1):a - (b+1)=k:=(Nat.sub_sub a b 1).symm.trans (aP Nat.pred h)
theorem X7 (h:K - m<f+1)(h2:m<K):K - (m+1)<f:=Nat.lt_of_lt_of_le (Nat.sub_succ_lt_self _ _ h2) (Nat.le_of_lt_succ h)
theorem Up (h:K - m<f+1)(h0:m<=p)(h2:p<K):K - (p+1)<f:=X7 (bO (Nat.sub_le_sub_left h0 K) h) h2
theorem X8 (h:n<=s) :((s - n:Nat):Int) =(s:Int) - n:=Int.ofNat_sub h
theorem Uq (h:n<s) :((s - n:Nat):Int) =(s:Int) - n:=Int.ofNat_sub (Nat.le_of_lt h)
theorem Ur (h :¬s<n) :((s - n:Nat):Int) =(s:Int) - n:=Int.ofNat_sub (Nat.le_of_not_lt h)
theorem Qn (h :¬s<n) :(s:Int) - n =((s - n:Nat):Int):=(Ur h).symm
theorem Us (h:t≠0) :(t:Int) - 1 =((t - 1:Nat):Int):=(Int.ofNat_sub (Nat.pos_of_ne_zero h)).symm
theorem Ut (h:n+1<t):n<t - 1:=Nat.lt_sub_of_add_lt h
theorem Uu (h:t<=s):s=s - t+t:=(Nat.sub_add_cancel h).symm
theorem Uv (h:1<=t):d+t - (d+m+1)<t:=bO (Nat.le_of_eq ((aP (d+t - ·) (Nat.add_assoc d m 1)).trans (Nat.add_sub_add_left ..))) (Nat.sub_lt h (Nat.succ_pos _))
theorem Uw (h :¬k<w)(e:k - w=a+l):k=a+(l+w):=((Nat.sub_add_cancel (Nat.le_of_not_lt h)).symm.trans (aP (· + w) e)).trans (Nat.add_assoc ..)
theorem Ux (h :¬k<w)(e:p+a=k - w):w+p+a=k:=(Nat.add_assoc ..).trans ((aP (w + ·) e).trans (Nat.add_sub_cancel' (Nat.le_of_not_lt h)))
theorem Uy (h:p<=n):min p n+1+(n - p)=n+1:=(aP (· + 1+(n - p)) (Nat.min_eq_left h)).trans ((Nat.add_right_comm ..).trans (aP (· + 1) (Nat.add_sub_cancel' h)))
theorem Uz (h:t≠0)(e:n=t - 1):n+1=t:=e▸Nat.succ_pred h
theorem UA {b:Int}(h:i<(b - 1).toNat) :((i+1:Nat):Int)<b:=Int.add_lt_of_lt_sub_right (Int.lt_toNat.mp h)
theorem UB {b:Int}(h :¬1<b) :(b - 1).toNat=0:=Int.toNat_of_nonpos (Int.sub_nonpos_of_le (Int.not_lt.mp h))
theorem UC :((0:Int)+(k:Int) * 1).toNat=0+k:=aP Int.toNat (aP (0 + ·) (Int.mul_one _))
theorem UD :((11:Int)+n - 1).toNat=10+n:=(aP (λz:Nat=>((z:Int) - 1).toNat) (Nat.add_right_comm 10 1 n)).trans (aP Int.toNat (Int.add_sub_cancel ((10+n:Nat):Int) 1))
theorem Qo (h:max a b+1<d+1):b<d:=bO (Nat.le_max_right ..) (Nat.lt_of_succ_lt_succ h)
theorem Qp (h:max a b+1<d+1):a<d:=bO (Nat.le_max_left ..) (Nat.lt_of_succ_lt_succ h)
theorem Qq {x:Int}(h:x.natAbs<1000000000):x<2 ^ 63:=Int.lt_of_le_of_lt Int.le_natAbs (Int.lt_trans (Int.ofNat_lt.mpr h) (by decide))
theorem JJ {x:Int}(h:x.natAbs<n):-(n:Int)<x:=Int.lt_of_lt_of_le (Int.neg_lt_neg (Int.ofNat_lt.mpr h)) (Int.neg_le_of_neg_le (Int.natAbs_neg x▸Int.le_natAbs))
theorem Qr {x:Int}(h:x.natAbs<1000000000):-2 ^ 63<=x:=Int.le_of_lt (Int.lt_trans (by decide) (JJ h))
theorem UE {x:Int}(h:x.natAbs<2 ^ 64):-2 ^ 64<x:=JJ h
theorem UG {x:Int}(h:x.natAbs<2 ^ 64):x<2 ^ 64:=Int.lt_of_le_of_lt Int.le_natAbs (Int.ofNat_lt.mpr h)
theorem UH {x:Int}(h:x.natAbs<1000000000000):-2 ^ 62<=x/\x<2 ^ 62:=⟨Int.le_of_lt (Int.lt_trans (by decide) (JJ h)),Int.lt_of_le_of_lt Int.le_natAbs (Int.lt_trans (Int.ofNat_lt.mpr h) (by decide))⟩
theorem UI (h:n<=11) :(n:Int).natAbs<1000000000000:=bO h (by decide)
theorem UJ (h:n<=60) :(n:Int).natAbs<1000000000000:=bO h (by decide)
theorem UK (h:k<9) :((11:Int)+k).natAbs<1000000000000:=Nat.lt_trans (Nat.add_lt_add_left h 11) (by decide)
theorem UL {z:Int}(h:0<=z)(h2:z<k):z.natAbs<k:=Int.ofNat_lt.mp ((Int.natAbs_of_nonneg h).symm▸h2)
theorem UM (h:n<=11) :((n:Int) - 1).natAbs<1000000000000:=bO (Int.natAbs_sub_le ..) (bO (Nat.add_le_add_right h 1) (by decide))
theorem Qs {x y:Int}(h:x.natAbs<=n)(h2:y.natAbs<=m)(h3:n+m+2<k) :(x - y+2).natAbs<k:=bO (Int.natAbs_add_le ..) (bO (Nat.add_le_add_right (bP (Int.natAbs_sub_le ..) (Nat.add_le_add h h2)) 2) h3)
theorem UN (h:s<=11)(h2:t+1<=s) :((s:Int) - ((t+1:Nat):Int)+2).natAbs<1000000000000:=Qs (n:=11) (m:=11) h (bP h2 h) (by decide)
theorem UO (h:t+1<=s)(h2:i<s+1 - (t+1)):i+1<=s:=bP h2 (Nat.add_sub_add_right s 1 t▸Nat.sub_le ..)
theorem UP (h:c<1000) :(c:Int).natAbs<1000000000:=Nat.lt_trans h (by decide)
theorem FG (h:d+1+0+1<=n):n=n - 1+1:=(Nat.sub_add_cancel (bP (Nat.le_add_left ..) h)).symm
theorem UQ (h:s+1+1<=d+1):d=d - 1+1:=(Nat.sub_add_cancel (bP (Nat.le_add_left ..) (Nat.le_of_succ_le_succ h))).symm
theorem UR (h:p+3<f):f=f - 3+3:=(Nat.sub_add_cancel (Nat.le_of_lt (bO (Nat.le_add_left ..) h))).symm
theorem yf (h:l+(n+1)<u):l+1+n<u:=Nat.add_right_comm l n 1▸h
theorem Dv (h:k<m+p)(e:k=c+m):c<p:=Nat.lt_of_add_lt_add_right (n:=m) (Nat.add_comm m p▸e▸h)
theorem Qt (h:b<=n)(h2:a<b) :(a+b) / 2<n:=Nat.lt_of_lt_of_le (Nat.div_lt_of_lt_mul (Nat.two_mul b▸Nat.add_lt_add_right h2 b)) h
theorem US (h:b<=n)(h2:a<b) :(a+b) / 2<=n:=Nat.le_of_lt (Qt h h2)
theorem UT (h:x<=4 ^ n)(h2:y<=3 * 4 ^ n):y+x<=4 ^ n * 4:=bP (Nat.add_le_add h2 h) (Nat.le_of_eq ((Nat.succ_mul 3 _).symm.trans (Nat.mul_comm ..)))
theorem UU (h:n<=u)(h2:m=n):m<=u:=h2▸h
theorem UW:-((n:Nat):Int) - 5<0:=Int.lt_of_lt_of_le (Int.sub_lt_self _ (by decide)) (Int.neg_nonpos_of_nonneg (Int.natCast_nonneg n))
theorem UX (h:a - b=0)(h2:b<=a)(h3:c=b):c=a:=h3.trans (Nat.le_antisymm h2 (Nat.sub_eq_zero_iff_le.mp h))
theorem UY (h:a≠0)(h2:a - b=0):b≠0:=λz=>h (by subst z;exact h2)
theorem UZ {m r:Int}(h:0<m)(h2:r<m) :(r.toNat:Int)<m:=Int.ofNat_toNat r▸Int.max_lt.mpr ⟨h2,h⟩
theorem U0 (e:c=p+q+1)(h1:x<=p)(h2:y<=q):max 0 (max x (max y 0))+1<=c:=
 e▸Nat.succ_le_succ (Nat.max_le.mpr ⟨Nat.zero_le _,Nat.max_le.mpr ⟨bP h1 (Nat.le_add_right ..),Nat.max_le.mpr ⟨bP h2 (Nat.le_add_left ..),Nat.zero_le _⟩⟩⟩)
theorem U1 (h1:2 * a+1<=p)(h2:2 * b+1<=q)(e:c=p+q+1)(e2:m=max a b+1):2 * m+1<=c:=
 e▸e2▸Nat.succ_le_succ ((Nat.le_total a b).elim (λh=>(Nat.max_eq_right h).symm▸(Nat.add_comm 1 (2 * b+1)▸Nat.add_le_add (bP (Nat.le_add_left 1 _) h1) h2:2 * b+1+1<=p+q)) λh=>(Nat.max_eq_left h).symm▸(Nat.add_le_add h1 (bP (Nat.le_add_left 1 _) h2):2 * a+1+1<=p+q))
theorem U2 (h:s<=12)(h2 :(a:Int)<=s) :((s:Int) - a+2).natAbs<1000000000000:=Qs (n:=12) (m:=12) h (bP (Int.ofNat_le.mp h2) h) (by decide)
theorem U3 (h :(a:Int)<=s)(e:a=b+1)(hk:1<=k):s - k<s:=Nat.sub_lt (Nat.lt_of_lt_of_le (e▸Nat.succ_pos b) (Int.ofNat_le.mp h)) hk
theorem U4 (h1:1<=b)(e:a=b+1)(hk :(k:Int)<s - a+2):k<s:=Int.ofNat_lt.mp (Int.lt_of_lt_of_le hk (Int.le_trans (Int.add_le_add_left (c:=(s:Int) - a) (Int.ofNat_le.mpr (e▸Nat.succ_le_succ h1:2<=a))) (Int.le_of_eq (Int.sub_add_cancel ..))))
theorem Qu (h:u+d<c)(hx:x<=d):u+min x y<c:=bO (Nat.add_le_add_left (bP (Nat.min_le_left ..) hx) u) h
theorem U5 (h:u+d<c)(hx:x<=d):u+x<c:=bO (Nat.add_le_add_left hx u) h
theorem U6 (h:u+4 * d+4<c)(hx:x<=d):u+4 * x+4<c:=bO (Nat.add_le_add_right (Nat.add_le_add_left (Nat.mul_le_mul_left 4 hx) u) 4) h
theorem Mu (h:u+4 * d+4<c)(hx:x<=d/\y<=d):u+4 * y+4<c:=U6 h hx.2
theorem JK (h:u+40 * n+400<=c)(k:Nat)(hk:k<400):u+k<c:=Nat.lt_of_lt_of_le (Nat.add_lt_add_of_le_of_lt (Nat.le_add_right u (40 * n)) hk) h
theorem Qv (h:u+40 * n+400<=c):u+1+64<c:=JK h 65 (by decide)
theorem yg (h:u+40 * n+400<=c):u+65<c:=JK h 65 (by decide)
theorem Qw (h0:m<=u+20)(h:u+40 * n+400<=c):m+64<c:=bO (Nat.add_le_add_right h0 64) (JK h 84 (by decide))
theorem U7 (h:m<=n)(h2:u+40 * n+400<=c):u+40 * m+400<=c:=bP (Nat.add_le_add_right (Nat.add_le_add_left (Nat.mul_le_mul_left 40 h) u) 400) h2
theorem Np (h:u+40 * (n+1)+400<=c):u+3+40 * n+400<=c:=bP (Nat.add_le_add_right (Nat.add_right_comm u 3 (40 * n)▸Nat.add_le_add_left (show 3<=40 by decide) (u+40 * n)) 400) h
theorem Nq (h:d+(n+1)<=990):d<1000:=bO (bP (Nat.le_add_right ..) h) (by decide)
theorem U8 (h:d+n<=990):d+2<1000:=bO (Nat.add_le_add_right (bP (Nat.le_add_right ..) h) 2) (by decide)
theorem U9:u+1+1+1<=u+20:=Nat.add_le_add_left (show 3<=20 by decide) u
theorem Va:x<=x - 1+1:=Nat.le_add_of_sub_le (Nat.le_refl _)
theorem Vb (h:a=n+1):a - 1=n:=h▸rfl
theorem Vc (h:l<=f+1):l - 1<=f:=Nat.sub_le_of_le_add h
theorem Vd (h:u+64<c)(hk:d<=6)(hm:m<=x)(e:x=d+1):u+m<c:=Nat.lt_trans (Nat.add_lt_add_left (bO (bP hm (e▸Nat.succ_le_succ hk)) (show 7<64 by decide)) u) h
theorem Ve (h:u+64<c)(hk:d<=6):u+4 * (d+1)+4<c:=bO (Nat.add_le_add_right (Nat.add_le_add_left (Nat.mul_le_mul_left 4 (Nat.succ_le_succ hk)) u) 4) (Nat.lt_trans (Nat.add_lt_add_left (show 32<64 by decide) u) h)
theorem Vf {m:Int}(h:0<m)(h2:m<1000000):m.natAbs<2 ^ 30:=UL (Int.le_of_lt h) (Int.lt_trans h2 (by decide))
theorem Vg (h:c<1000) :((6:Int) * ((c+1:Nat):Int)).natAbs<2 ^ 64:=bO (Nat.mul_le_mul_left 6 h) (show 6 * 1000<2 ^ 64 by decide)
theorem Vh (h:60<x) :(x:Int)<=10000↔60<x/\x<=10000:=⟨λh2=>⟨h,Int.ofNat_le.mp h2⟩,λh2=>Int.ofNat_le.mpr h2.2⟩
theorem Vi (h :¬(60<x/\x<=10000)):x<=60\/10000<x:=(Nat.lt_or_ge 10000 x).elim .inr λh2=>.inl (Nat.le_of_not_lt λh3=>h ⟨h3,h2⟩)
theorem Vj (h:n=1+2 * r):n % 2=1:=h▸Nat.add_mul_mod_self_left 1 2 r
theorem Vk (h:m<s+1)(h2:k<=10 * (13+m)):k<10 * (s+15):=bO h2 (Nat.mul_lt_mul_of_pos_left (Nat.add_comm 13 m▸Nat.add_lt_add_of_le_of_lt (Nat.le_of_lt_succ h) (by decide)) (by decide))
theorem Vl {i:Int}(h:i.natAbs<1000000000):-9223372036854775808<=i/\i<9223372036854775808:=⟨Int.le_of_lt (Int.lt_trans (by decide) (JJ h)),Int.lt_of_le_of_lt Int.le_natAbs (Int.lt_trans (Int.ofNat_lt.mpr h) (by decide))⟩
theorem Vm (h:a+(b+1)<k)(h2:c<=1):a+c+b<k:=bO (Nat.add_assoc a c b▸Nat.add_le_add_left (Nat.add_comm b 1▸Nat.add_le_add_right h2 b) a) h
theorem Vn:min 40 x<1000:=bO (Nat.min_le_left ..) (by decide)
theorem Qx (h:a+(b+1)<k)(h2:c<=a+1):c+b<k:=bO (Nat.add_le_add_right h2 b) (yf h)
theorem Vo (h:k<10 * t)(h2:K<=k)(h3:t<=46):K - 0<100000:=bO h2 (Nat.lt_trans h (bO (Nat.mul_le_mul_left 10 h3) (by decide)))
theorem Vp (h:n * 5<m * 3):n<=m:=Nat.le_of_not_lt λz=>absurd h (Nat.not_lt_of_le (Nat.mul_le_mul (Nat.le_of_lt z) (by decide)))
theorem Cm (h:n * 5<m * 3)(e:p=n):p<=m:=e▸Vp h
theorem Vq (h :¬x<=b) :¬min b x=x:=λe=>h (e▸Nat.min_le_left b x)
theorem Vr (h:u+4 * (d+1)+4<c):u+1+4 * d+4<c:=bO (Nat.add_le_add_right (Nat.add_right_comm u 1 (4 * d)▸Nat.add_le_add_left (show 1<=4 by decide) (u+4 * d)) 4) h
theorem Qy (h:u+4 * (d+1)+4<c):u<c:=bO (bP (Nat.le_add_right ..) (Nat.le_add_right ..)) h
theorem Nr (h:p+1+1<f):f=f - 2+2:=(Nat.sub_add_cancel (Nat.le_of_lt (bO (Nat.le_add_left 2 p) h))).symm
theorem Vs :((t+1:Nat):Int)=1↔t+1=1:=Int.ofNat_inj
theorem Vt (h:n<64):0+n<1000:=(Nat.zero_add n).symm▸Nat.lt_trans h (by decide)
theorem Vu (h:u+d+71<c)(hx:x<=d):u+min x y<c:=Qu (bO (Nat.le_add_right ..) h) hx
theorem Vv (h:u+d+71<c):u+71<c:=bO (Nat.add_le_add_right (Nat.le_add_right ..) 71) h
theorem Vw (h:u+200<c)(h2:d<=64):u+d+71<c:=Nat.lt_trans (bO (Nat.add_le_add_right (Nat.add_le_add_left h2 u) 71) (Nat.add_lt_add_left (show 135<200 by decide) u)) h
theorem Vx (h:u+70<c)(h2:d<=64):u+1+d<c:=Nat.lt_trans (bO (Nat.add_le_add_left h2 (u+1)) (Nat.add_lt_add_left (show 65<70 by decide) u)) h
theorem q1 (h:a<b)(d:Nat.ble b c=true):a<c:=Nat.lt_of_lt_of_le h (Nat.le_of_ble_eq_true d)
theorem q2 (h:a<=b)(d:Nat.blt b c=true):a<c:=bO h (Nat.le_of_ble_eq_true d)
theorem q3 (h:a<=b)(d:Nat.ble b c=true):a<=c:=bP h (Nat.le_of_ble_eq_true d)
theorem q4 (h:a<b)(d:Nat.ble b c=true):a<=c:=Nat.le_of_lt (q1 h d)
theorem q5 (h:a+x<b)(d:Nat.ble b c=true):a<c:=q1 (bO (Nat.le_add_right ..) h) d
theorem q6 (h:x+a<b)(d:Nat.ble b c=true):a<c:=q1 (bO (Nat.le_add_left ..) h) d
theorem X9 (h:a<=b)(d:Nat.blt (b+k) c=true):a+k<c:=q2 (Nat.add_le_add_right h k) d
theorem Yb (h:a<b)(d:Nat.ble (b+k) c=true):a+k<c:=q1 (Nat.add_lt_add_right h k) d
theorem Vy (h:a<=b)(d:Nat.blt (k+b) c=true):k+a<c:=q2 (Nat.add_le_add_left h k) d
theorem Yc (h:a<b)(d:Nat.ble (k+b) c=true):k+a<c:=q1 (Nat.add_lt_add_left h k) d
theorem Yd (h:u+40 * n+400<=c)(d:Nat.blt k 400=true):u+k<c:=JK h k (Nat.le_of_ble_eq_true d)
theorem Qz (e:a=b)(h:b<k)(d:Nat.ble k c=true):a<c:=q1 (e▸h) d
theorem Z2 (e:a=b)(h:b<=k)(d:Nat.blt k c=true):a<c:=q2 (e▸h) d
theorem Ye (e:a=b)(h:b<=k)(d:Nat.ble k c=true):a<=c:=q3 (e▸h) d
theorem Z3 (h :¬0<a):k - a=k:=aP (k - ·) (Nat.eq_zero_of_not_pos h)
theorem Z4 (h :¬0<a) :¬k<a:=λz=>h (Nat.zero_lt_of_lt z)
theorem Z5 (h:1<=t)(h2 :(t:Int)<=s):s=s - 1+1:=(Nat.sub_add_cancel (bP h (Int.ofNat_le.mp h2))).symm
theorem Z6:min (b:Int) (n:Int) =((min b n:Nat):Int):=(Nat.le_total b n).elim (λh=>(Int.min_eq_left (Int.ofNat_le.mpr h)).trans (aP Nat.cast (Nat.min_eq_left h).symm)) λh=>(Int.min_eq_right (Int.ofNat_le.mpr h)).trans (aP Nat.cast (Nat.min_eq_right h).symm)
theorem Z7 (h:b<=c):min a b<=c:=bP (Nat.min_le_right ..) h
theorem Z8 (h:u+40 * (n+1)+400<=c):u+1+1+40 * n+400<=c:=bP (Nat.add_le_add_right (Nat.add_le_add_right (show u+1+1<=u+3 from Nat.le_succ _) _) 400) (Np h)
theorem QA (h:a+(n+1)<=c):a+1+n<=c:=Nat.add_right_comm a n 1▸h
theorem Z9 (h:m<=n)(h2:a+n<=c):a+m<=c:=bP (Nat.add_le_add_left h a) h2
theorem q36 (h:a+b+1<c)(d:Nat.ble c k=true):1+a<k:=q1 (bO (Nat.add_comm a 1▸Nat.add_le_add_right (Nat.le_add_right a b) 1) h) d
theorem q37 (h:u+d+k<c)(h2:x<=d):u+x+k<c:=bO (Nat.add_le_add_right (Nat.add_le_add_left h2 u) k) h
theorem q38 (h:a+b+1+1<g+2):b+1<g+1:=bO (Nat.add_le_add_right (Nat.le_add_left b a) 1) (Nat.lt_of_succ_lt_succ h)
theorem Yg (h:a+b+1+1<g+2):a+1<g+1:=bO (Nat.add_le_add_right (Nat.le_add_right a b) 1) (Nat.lt_of_succ_lt_succ h)
theorem Yh (h:n+1+t<=c):n+(t - 1)<=c:=bP (Nat.add_le_add (Nat.le_succ n) (Nat.sub_le t 1)) h
theorem Yi (h:n+1+t<=c):t - 1<=c:=bP (Nat.le_add_left ..) (Yh h)
theorem Vz (h:n+1+t<=k+1):n<=k:=Nat.le_of_succ_le_succ (bP (Nat.le_add_right ..) h)
theorem Ta (h :¬a<=b) :¬(a:Int)<=(b:Int):=λz=>h (Int.ofNat_le.mp z)
theorem VA :((c+1:Nat):Int) - 1 =(c:Int):=Int.add_sub_cancel (c:Int) 1
theorem Yj (h:2 * m+1<=p)(h2:p<16):m<8:=Nat.lt_of_mul_lt_mul_left (a:=2) (Nat.lt_of_succ_le h |> λz=>Nat.lt_of_lt_of_le z (Nat.le_of_lt h2))
theorem q46 (h:2 * m+1<=p)(e:p=n)(h2:n<=11):m<8:=Yj h (e▸q2 h2 rfl)
theorem q48 (h:u<=4)(e:p=d)(h2:d+1<=u):p<4:=e▸bP h2 h
theorem q49 (e:m+1+i=l):i<l:=e▸Nat.lt_add_of_pos_left (Nat.succ_pos m)
theorem q50 (h:d+1<f+1)(h2:u<=d):u<f:=bO h2 (Nat.lt_of_succ_lt_succ h)
theorem q52:-(x:Int)<0\/(x:Int)<=-(x:Int):=(Nat.eq_zero_or_pos x).elim (λh=>.inr (by subst h;decide)) λh=>.inl (Int.neg_neg_of_pos (Int.ofNat_lt.mpr h))
theorem q53:-(x:Int) - 5<0\/(x:Int)<=-(x:Int) - 5:=.inl UW
theorem q54 (h:t<=b)(h2:a<=c)(d:Nat.blt (c+b) k=true):a+t<k:=q2 (Nat.add_le_add h2 h) d
theorem VB (h:t<=b)(h2:a<=c)(d:Nat.ble (b+c) k=true):t+a<=k:=q3 (Nat.add_le_add h h2) d
theorem Yk (h:n+1+(t+1)<=k)(h2:a<=2):n+(t+a)<=k:=bP (bP (Nat.add_le_add_left (Nat.add_le_add_left h2 t) n) (Nat.le_of_eq (Nat.add_right_comm n (t+1) 1))) h
theorem VC (h:k<s)(h2:s<=c):k<=c:=Nat.le_of_lt (Nat.lt_of_lt_of_le h h2)
theorem VD (h:t<=s)(h2:s<=c)(d:Nat.blt c k=true):t<k:=q2 (bP h h2) d
theorem q60 {k v:Int}(h:k<0\/v<=k)(h2:0<=k) :¬k<v:=h.elim (λz=>absurd h2 (Int.not_le.mpr z)) Int.not_lt.mpr
theorem q61 (h :¬k<w) :(w:Int)<=(k:Int):=Int.ofNat_le.mpr (Nat.le_of_not_lt h)
theorem VE (h:i<=2):i=0\/i=1\/i=2:=match i,h with |0,_=>.inl rfl |1,_=>.inr (.inl rfl) |2,_=>.inr (.inr rfl)
theorem Yl (h:i<2):i=0\/i=1:=(Nat.le_one_iff_eq_zero_or_eq_one).mp (Nat.le_of_lt_succ h)
theorem q64:i+k - i<=k:=Nat.le_of_eq (Nat.add_sub_cancel_left ..)
theorem q65 (h :¬(a:Int)<(b:Int)):b<=a:=Nat.le_of_not_lt λz=>h (Int.ofNat_lt.mpr z)
theorem q66 (h:q<a):q+1<a+b+1:=Nat.succ_lt_succ (Nat.lt_of_lt_of_le h (Nat.le_add_right ..))
theorem VF (h:q<b):q+1<a+b+1:=Nat.succ_lt_succ (Nat.lt_of_lt_of_le h (Nat.le_add_left ..))
theorem q67 (h:d+p<c)(h2:q<p):q<c:=Nat.lt_trans (Nat.lt_of_lt_of_le h2 (Nat.le_add_left ..)) h
theorem q68 (h:b+p<c)(e:x=p)(d:Nat.ble c k=true):x<k:=q1 (e▸bO (Nat.le_add_left ..) h) d
theorem q69 (h:b+p<c)(e:x=p)(d:Nat.ble c k=true):b+x<k:=q1 (e▸h) d
theorem q70 (h:k<=10 * b)(h2:r<=9):k+r+1<=10 * (b+1):=show k+(r+1)<=10 * b+10 from Nat.add_le_add h (Nat.succ_le_succ h2)
theorem q71 (h:n+1<t):n<t+1:=Nat.lt_trans (Nat.lt_of_succ_lt h) (Nat.lt_succ_self t)
theorem q72 {X:Prop}(h:X/\a<=b)(d:Nat.blt b c=true):a<c:=q2 h.2 d
theorem q74 (h:p+q+1<c)(e:x=p)(d:Nat.ble c k=true):x+1+q<k:=q1 (e▸Nat.add_right_comm p q 1▸h) d
theorem Ym (h:a<=b)(h2:b<c)(d:Nat.ble c k=true):a<k:=q1 (bO h h2) d
theorem Nt (h:z<s)(h2:s<b):b≠z:=Nat.ne_of_gt (Nat.lt_trans h h2)
theorem Tb (h:d+1+k+1<=m+1):k<=m:=bP (Nat.le_add_left ..) (Nat.le_of_succ_le_succ h)
theorem q78 (h:k+2<=m+1+1):k<=m:=Nat.le_of_succ_le_succ (Nat.le_of_succ_le_succ h)
theorem q79 :(x:Int)=1↔x=1:=Int.ofNat_inj (n:=1)
theorem q80 (h :(r:Int)<6)(e:n=1+2 * r):n<=11:=e▸Nat.add_le_add_left (Nat.mul_le_mul_left 2 (Nat.le_of_lt_succ (Int.ofNat_lt.mp h))) 1
theorem Yn (h:n<=1000000) :(n:Int)<2 ^ 63:=Int.lt_of_le_of_lt (Int.ofNat_le.mpr h) (by decide)
theorem q82 (h:n<1000000000) :(n:Int)<9223372036854775808:=Int.lt_trans (Int.ofNat_lt.mpr h) (by decide)
theorem q83 (e:a=b)(e2:b=c)(h:c<k):a<k:=e▸e2▸h
theorem q84 (e:a=b)(h :¬b<2):0<a:=e▸Nat.lt_of_lt_of_le (Nat.succ_pos 1) (Nat.le_of_not_lt h)
theorem q86 (h:a<b)(d:Nat.ble (k+b) c=true):k+a<=c:=q4 (Nat.add_lt_add_left h k) d
theorem Yo (h:s+1+1<=d+1+1)(h2:k<s+1):k+1<=d+1:=bP h2 (Nat.le_of_succ_le_succ h)
theorem q88 (h:m<k)(h2:a<=m):a<=k:=bP h2 (Nat.le_of_lt h)
theorem q89 (h :(r:Int)<2):r=0\/r=1:=Yl (Int.ofNat_lt.mp h)
theorem VG (e:a=b)(d:Nat.blt b c=true):a<c:=e▸Nat.le_of_ble_eq_true d
theorem q91 (h :¬0<(m:Int)):m=0:=Nat.eq_zero_of_not_pos λz=>h (Int.ofNat_lt.mpr z)
theorem q92 (h :¬(a<s\/b<t)):s<=a:=Nat.le_of_not_lt λz=>h (.inl z)
theorem q93 (h :¬(a<s\/b<t)):t<=b:=Nat.le_of_not_lt λz=>h (.inr z)
theorem Yp (h:a<=b)(h2:b<=c)(d:Nat.ble c k=true):a<=k:=q3 (bP h h2) d
theorem q95 (h:a<=b+k)(h2:b<=c)(d:Nat.ble (c+k) m=true):a<=m:=q3 (bP h (Nat.add_le_add_right h2 k)) d
theorem q97 (h:q<=p)(h2:p<c)(d:Nat.ble (c+k) m=true):q+k<m:=q1 (Nat.add_lt_add_right (bO h h2) k) d
theorem q98 (h:i<=2):1<=i+1/\i+1<=3:=⟨Nat.succ_pos _,Nat.succ_le_succ h⟩
theorem Yq (h:t=0)(h2:k<1):t=0/\k=0:=⟨h,Nat.lt_one_iff.mp h2⟩
theorem VH {X:Prop}(h:n<=l)(h2:l<n):X:=absurd h2 (Nat.not_lt_of_le h)
theorem VI (h:x<=10000) :¬(10000:Int)<(x:Int):=λz=>absurd (Int.ofNat_lt.mp z) (Nat.not_lt_of_le h)
theorem VJ (h:t≠0):2<=t+1:=Nat.succ_le_succ (Nat.pos_of_ne_zero h)
theorem QB (h:a<=b)(d:Nat.ble b c=true) :¬c<a:=Nat.not_lt_of_le (q3 h d)
theorem VK (e:p=n)(h:n<=k)(h2:x<=p):x<=k:=bP h2 (e▸h)
theorem VL (h:a<b)(e:a=c)(d:Nat.ble b k=true):c<=k:=q4 (e▸h) d
theorem QC (h:n+1+t<=12):n+(t+1)<=12:=bP (Nat.le_of_eq (Nat.add_right_comm n t 1▸(Nat.add_assoc n t 1).symm)) h
theorem VM (h:n+1+t<=12):t+1<=12:=bP (Nat.le_add_left ..) (QC h)
end
set_option tactic.hygienic true
abbrev gn:OpenLaw:=PySem.Challenge.rw_sa0043_01
set_option genInjectivity false in
set_option genSizeOfSpec false in
structure iU where
 params:Arguments
 body:List Stmt
 scope:Scope
noncomputable def Ar:Arguments:=⟨[],[],none,[],[],none,[]⟩
def Cn:Option Stmt->iU
 |some (.FunctionDef _ args body _ _ _ scope _ _ _)=>⟨args,body,scope⟩
 |_=>⟨Ar,[],gn.prog.main.scope⟩
def hY (i:Nat):iU:=Cn gn.prog.main.body[i]?
noncomputable def JL:Option Stmt->List Stmt
 |some (.ClassDef _ _ _ body _ _ _ _ _ _ _)=>body
 |_=>[]
def cR (i j:Nat):iU:=Cn (JL gn.prog.main.body[i]?)[j]?
def FH:iU:=cR 2 0
noncomputable abbrev JM:Expr:=.Call (.Name "super" ⟨8,8,8,13⟩) [] [] ⟨8,8,8,15⟩
abbrev Mv:List Stmt:=
 [.Expr (.Call (.Attribute JM "__init__" ⟨8,8,8,24⟩) [.Name "what" ⟨8,25,8,29⟩] [] ⟨8,8,8,30⟩) ⟨8,8,8,30⟩,.Assign [.Attribute (.Name "self" ⟨9,8,9,12⟩) "what" ⟨9,8,9,17⟩] (.Name "what" ⟨9,20,9,24⟩) ⟨9,8,9,24⟩]
abbrev Tc:FuncData:=ksFn "__init__" "HeapError.__init__" FH.params Mv FH.scope .none .none .none (.str "alikeheap.errors" 194) none (.ref 36) (.ref 30) 25
noncomputable abbrev wH:List Value:=[.ref 47,.type "Exception",.type "BaseException",.type "object"]
abbrev Mw:Obj:=excClassObj "LimitFault" "LimitFault" 72 71 [.ref 47] wH true [] [] false none none (some (.ref 63)) none (some (.str "LimitFault" 250)) (some (.str "LimitFault" 258)) (some (.bool true)) "Exception.__new__"
noncomputable def i6:Program:={gn.prog with main:={gn.prog.main with body:=[0,2,3,4,6,7,8,9,11,12,13,14,15,17,19,21,22,23,24,25,26,27,28].filterMap (gn.prog.main.body[·]?)}}
structure As (K:Frag)(a:Addr)(P:iU):Prop where
 keep:keepIn K (.ref a)=true
 typ:typeIn K (.ref a)=some (.type "function")
 fd :∃o fd,K.lookup a=some o/\o.data=.func fd/\fd.body=.stmts P.body/\fd.scope=P.scope/\fd.params=P.params/\fd.globals=mainGlobals/\fd.closure=[]/\fd.builtins=builtinsNs/\fd.defaults=.none/\fd.kwdefaults=.none/\codeIn K fd.code fd.qualname=true
noncomputable def JN {Y:Type}(d:Y):List Y->Nat->Y
 |[],_=>d
 |x::_,0=>x
 |_::l,n+1=>JN d l n
structure ExcAt (K:Frag):Prop where
 Mx:K.lookup 72=some Mw
 VN:K.lookup 37=some ⟨.type "function",none,.func Tc,#[]⟩
 o36 :∃vs tf,K.lookup 36=some ⟨.type "code",none,.fields vs,#[]⟩/\vs[2]? = some (.str "/claim/cut.py" tf)/\codeIn K (.ref 36) "HeapError.__init__" = true
 o25:K.lookup 25=some ⟨.type "cell",none,.cell (some (.ref 47)),#[]⟩
 c47 :(clsIn K 47).isSome=true
 sup:nsIn K mainGlobals "super" = some none
 thr:nsIn K cStatics "thirdparty.any" = some none
 qU:takerIn K 72 "what" = some none
 set:findIn K (.ref 72) "__setattr__" = some (some (.builtin "object.__setattr__"))
 ini:findIn K (.ref 72) "__init__" = some (some (.ref 37))
 law:nsIn K mainGlobals "law" = some (some (.ref 541))
def yh:Nat->Str:=JN (ofString "") [ofString "text",ofString "sign",ofString "found",ofString "t",ofString "k",ofString "path",ofString "part",ofString "kid",ofString "some",ofString "nodes",ofString "self",ofString "numbers",ofString "weights",ofString "depths",ofString "op",ofString "node",ofString "kids",ofString "require",ofString "n",ofString "above",ofString "lots",ofString "merged",ofString "a",ofString "kept",ofString "gone",ofString "find",ofString "b",ofString "bank",ofString "unions",ofString "edges",ofString "forest",ofString "known",ofString "waiting",ofString "backs",ofString "size",ofString "reason",ofString "merge",ofString "other",ofString "join",ofString "take",ofString "make",ofString "c",ofString "look_at",ofString "term",ofString "put",ofString "add",ofString "members",ofString "classes",ofString "done",ofString "place",ofString "many",ofString "ops",ofString "shape",ofString "heap",ofString "mark",ofString "key",ofString "nodes_of",ofString "rows",ofString "here",ofString "first",ofString "renewed",ofString "is_there",ofString "late",ofString "spread",ofString "rest",ofString "ways",ofString "left",ofString "openings",ofString "class_of",ofString "seek",ofString "spot",ofString "pot",ofString "grown_up",ofString "trees",ofString "letters",ofString "high",ofString "signs",ofString "forests",ofString "counts",ofString "size_now",ofString "listed",ofString "due",ofString "way",ofString "ranked",ofString "told",ofString "nth",ofString "beyond",ofString "cell",ofString "script",ofString "x",ofString "alone",ofString "settle",ofString "order",ofString "lap"]
noncomputable abbrev nT:Nat:=94
def gT:Nat->Str×Option Value:=JN ((ofString "",Option.none)) [(ofString "parts",(some (.ref 84))),(ofString "enumerate",Option.none),(ofString "len",Option.none),(ofString "tuple",Option.none),(ofString "is_op",(some (.ref 79))),(ofString "sum",Option.none),(ofString "max",Option.none),(ofString "sorted",Option.none),(ofString "Bank",(some (.ref 191))),(ofString "Unions",(some (.ref 355))),(ofString "set",Option.none),(ofString "range",Option.none),(ofString "reversed",Option.none),(ofString "zip",Option.none),(ofString "list",Option.none),(ofString "MOST_SIZE",(some (.int 200 423))),(ofString "MOST_LISTED",(some (.int 10000 419))),(ofString "key_of",(some (.ref 89))),(ofString "MOST_WAYS",(some (.int 10000 421))),(ofString "grown",(some (.ref 200))),(ofString "LimitFault",(some (.ref 72))),(ofString "_law_forests",(some (.ref 503))),(ofString "_law_signs",(some (.ref 510))),(ofString "_law_tree",(some (.ref 517))),(ofString "_law_listed",(some (.ref 524))),(ofString "int",Option.none),(ofString "Heap",(some (.ref 485))),(ofString "Counts",(some (.ref 273))),(ofString "_law_ladle",(some (.ref 496))),(ofString "_law_asked_right",(some (.ref 536))),(ofString "_law_is_refused",(some (.ref 531)))]
noncomputable abbrev gN:Nat:=31
def fT:Nat->Addr×Str×Option Value:=JN ((0,ofString "",Option.none)) [(191,ofString "nodes",Option.none),(191,ofString "numbers",Option.none),(191,ofString "require",(some (.ref 122))),(191,ofString "weights",Option.none),(191,ofString "depths",Option.none),(355,ofString "above",Option.none),(355,ofString "lots",Option.none),(355,ofString "find",(some (.ref 312))),(355,ofString "merged",Option.none),(485,ofString "bank",Option.none),(191,ofString "size",(some (.ref 110))),(485,ofString "unions",Option.none),(191,ofString "op",(some (.ref 148))),(191,ofString "kids",(some (.ref 155))),(485,ofString "find",(some (.ref 409))),(485,ofString "edges",Option.none),(355,ofString "merge",(some (.ref 319))),(485,ofString "forest",Option.none),(485,ofString "waiting",Option.none),(485,ofString "above",Option.none),(485,ofString "known",Option.none),(485,ofString "node",(some (.ref 385))),(485,ofString "join",(some (.ref 430))),(191,ofString "take",(some (.ref 115))),(355,ofString "size",(some (.ref 305))),(355,ofString "make",(some (.ref 298))),(485,ofString "look_at",(some (.ref 402))),(485,ofString "put",(some (.ref 395))),(485,ofString "add",(some (.ref 390))),(355,ofString "members",(some (.ref 326))),(485,ofString "members",(some (.ref 458))),(273,ofString "heap",Option.none),(485,ofString "size",(some (.ref 380))),(485,ofString "backs",Option.none),(273,ofString "mark",Option.none),(273,ofString "known",Option.none),(485,ofString "nodes_of",(some (.ref 463))),(273,ofString "rows",(some (.ref 240))),(273,ofString "renewed",(some (.ref 221))),(273,ofString "spread",(some (.ref 250))),(273,ofString "many",(some (.ref 228))),(273,ofString "openings",(some (.ref 255))),(273,ofString "class_of",(some (.ref 265))),(485,ofString "seek",(some (.ref 475))),(273,ofString "listed",(some (.ref 245))),(273,ofString "ranked",(some (.ref 270))),(273,ofString "nth",(some (.ref 260))),(485,ofString "merge",(some (.ref 423))),(485,ofString "settle",(some (.ref 437)))]
noncomputable abbrev fN:Nat:=49
def tT:Nat->Addr×Str:=JN ((0,ofString "")) [(191,ofString "nodes"),(191,ofString "numbers"),(191,ofString "weights"),(191,ofString "depths"),(355,ofString "above"),(355,ofString "lots"),(355,ofString "merged"),(485,ofString "bank"),(485,ofString "unions"),(485,ofString "edges"),(485,ofString "forest"),(485,ofString "known"),(485,ofString "above"),(485,ofString "waiting"),(485,ofString "backs"),(273,ofString "heap"),(273,ofString "mark"),(273,ofString "known")]
noncomputable abbrev tN:Nat:=18
def kA:Nat->Addr:=JN (0) [79,84,89,103,110,122,115,148,155,291,298,305,312,319,326,373,380,409,385,430,402,390,395,423,437,458,463,475,200,214,221,240,228,250,245,255,260,265,270,496,503,510,517,524,536,541,531]
def kP:Nat->iU:=JN ⟨Ar,[],gn.prog.main.scope⟩ [hY 6,hY 7,hY 8,cR 9 0,cR 9 1,cR 9 3,cR 9 2,cR 9 7,cR 9 8,cR 17 0,cR 17 1,cR 17 2,cR 17 3,cR 17 4,cR 17 5,cR 19 0,cR 19 1,cR 19 6,cR 19 2,cR 19 9,cR 19 5,cR 19 3,cR 19 4,cR 19 8,cR 19 10,cR 19 13,cR 19 14,cR 19 16,hY 14,cR 15 0,cR 15 1,cR 15 4,cR 15 2,cR 15 6,cR 15 5,cR 15 7,cR 15 8,cR 15 9,cR 15 10,hY 21,hY 22,hY 23,hY 24,hY 25,hY 27,hY 28,hY 26]
noncomputable abbrev kN:Nat:=47
theorem FI :∀i j,i<nT->j<nT->yh i=yh j->i=j:=by
 have :∀i<nT,∀j<nT,yh i=yh j->i=j:=by decide +kernel
 exact λi j hi hj e=>this i hi j hj e
def Dw:Nat->Addr:=JN 0 [191,273,355,485,72]
def FJ:Nat->Addr:=JN 0 [103,214,291,373]
structure FK (K:Frag)(c f:Addr):Prop where
 dict:hasDictIn K c=true
 get:plainGet K c (ofString "")=true
 over:plainOver K c=true
 makes:makesIn K c=true
 keep:keepIn K (.ref c)=true
 set:findIn K (.ref c) "__setattr__" = some (some (.builtin "object.__setattr__"))
 init:findIn K (.ref c) "__init__" = some (some (.ref f))
structure u6 (K:Frag):Prop where
 ns :∀i,i<gN->nsIn K mainGlobals (gT i).1=some (gT i).2
 find :∀i,i<fN->findIn K (.ref (fT i).1) (fT i).2.1=some (fT i).2.2
 qU :∀i,i<tN->takerIn K (tT i).1 (tT i).2=some Option.none
 cls :∀k,k<4->FK K (Dw k) (FJ k)
 fn :∀i,i<kN->As K (kA i) (kP i)
 QD:keepIn K (.ref 72)=true
 ex:ExcAt K
structure YP (_w:World)(h:Heap):Prop where
 aaa :∃K:Frag,K.In h/\u6 K/\K.lookup 538=none
 sys :∃o,h.get? sysModules=some o
 code:CodeHd h 540 538
 tab:h.get? 538=some (tabObj #[])
 aab :∃o fd,h.get? 541=some o/\o.data=.func fd/\fd.code=.ref 540
def iL:DefRec:=match defOf i6 gn.row.name with
 |some p=>p.1
 |none=>⟨gn.name,Ar,[],gn.prog.main.scope,⟨0,0,0,0⟩⟩
noncomputable def VO {P:Prop}{B:World->Shared->Shared->(Str->Option Value)->(Str->Option Value)->Prop}(_:P =∀w nR fS mg mb,B w nR fS mg mb):World->Shared->Shared->(Str->Option Value)->(Str->Option Value)->Prop:=B
noncomputable def FL:World->Shared->Shared->(Str->Option Value)->(Str->Option Value)->Prop:=VO (P:=WalkO i6 [] (XL i6 []) YP gn.row.toRowW iL [] λf vs=>PySem.call f vs) (Eq.refl _)
noncomputable abbrev Dt:=World×Shared×(Str->Option Value)×(Str->Option Value)
@[irreducible] noncomputable def dt:Dt:=@Classical.epsilon Dt ⟨⟨⟨λ_ _=>0,{strHash:=λ_=>0,shareClass:=λ_=>0,mergeTok:=id,idOf:=λ_=>0,idOfShared:=λ_ _=>0,followText:=λ_=>false,idOfImm:=λ_=>0}⟩,{},λ_=>none,λ_=>none⟩⟩ λd=>¬∀nR,FL d.1 nR d.2.1 d.2.2.1 d.2.2.2
theorem Nu (h :∀nR,FL dt.1 nR dt.2.1 dt.2.2.1 dt.2.2.2):WalkO i6 [] (XL i6 []) YP gn.row.toRowW iL [] λf vs=>PySem.call f vs:=
 show∀w nR fS mg mb,FL w nR fS mg mb from λw nR fS mg mb=>Classical.byContradiction λhn=>Classical.epsilon_spec (p:=λd:Dt=>¬∀nR,FL d.1 nR d.2.1 d.2.2.1 d.2.2.2) ⟨(w,fS,mg,mb),λq=>hn (q nR)⟩ (by unfold dt at h;exact h)
@[irreducible] noncomputable def KW:Frag:=@Classical.epsilon Frag ⟨[]⟩ λK=>K.In dt.2.1.heap/\u6 K/\K.lookup 538=none
set_option genInjectivity false in
set_option genSizeOfSpec false in
structure Wd where
 prog:Program
 w:World
 h₀:Heap
 K:Frag
 p:Program
 loose:List Str
 mg:Str->Option Value
 mb:Str->Option Value
 cls:Nat->Addr
 nm:Nat->Str
 nN:Nat
 gens:Array GenState
 os:OsState
theorem JO (h :∃K:Frag,K.In dt.2.1.heap/\u6 K/\K.lookup 538=none):KW.In dt.2.1.heap/\u6 KW/\KW.lookup 538=none:=by unfold KW;exact Classical.epsilon_spec h
@[irreducible] noncomputable def hW:Heap:=hideAll dt.2.1.heap [538]
def W:Wd:=⟨gn.row.prog,dt.1,hW,KW,i6,looseW i6 [],dt.2.2.1,dt.2.2.2,Dw,yh,nT,dt.2.1.gens,dt.2.1.os⟩
noncomputable abbrev bS:=model W.prog W.w
theorem yi :∀i j,i<W.nN->j<W.nN->W.nm i=W.nm j->i=j:=FI
structure Td:Prop where
 X:W.K.In W.h₀
 sys :∃o,W.h₀.get? sysModules=some o
 T:TopRead W.p W.loose W.mg W.mb W.h₀
structure dI:Prop where
 O:Td
 F:u6 W.K
def addrs:List Addr:=[3,2,25,36,37,46,47,71,72,190,191,272,273,354,355,484,485]++((List.range kN).flatMap λi=>[kA i,kA i - 1])
def Au (h:Heap):Frag:=addrs.filterMap λa=>(h.get? a).map λo=>(a,o)
noncomputable abbrev FO:=Bool×Option Value×Option (FuncBody×Scope×Arguments×Addr×List (Str×Addr)×Addr×Value×Value×Bool)
noncomputable def FP (K:Frag)(a:Addr):FO:=(keepIn K (.ref a),typeIn K (.ref a),match K.lookup a with
 |some ⟨_,_,.func fd,_⟩=>some (fd.body,fd.scope,fd.params,fd.globals,fd.closure,fd.builtins,fd.defaults,fd.kwdefaults,codeIn K fd.code fd.qualname)
 |_=>none)
noncomputable def FQ (P:iU):FO:=(true,some (.type "function"),some (.stmts P.body,P.scope,P.params,mainGlobals,[],builtinsNs,.none,.none,true))
noncomputable abbrev Av:=List Bool×Option (Option Value)×Option (Option Value)
noncomputable def Aw (K:Frag)(c:Addr):Av:=([hasDictIn K c,plainGet K c (ofString ""),plainOver K c,makesIn K c,keepIn K (.ref c)],findIn K (.ref c) "__setattr__",findIn K (.ref c) "__init__")
noncomputable def Ax (f:Addr):Av:=([true,true,true,true,true],some (some (.builtin "object.__setattr__")),some (some (.ref f)))
noncomputable abbrev Ay:=List Bool×List (Option Obj)×Option (Value×Option Addr×Array (Option Value)×Option Value)×List (Option (Option Value))
noncomputable def Az (K:Frag):Ay:=([keepIn K (.ref 72),codeIn K (.ref 36) "HeapError.__init__",(clsIn K 47).isSome],[K.lookup 72,K.lookup 37,K.lookup 25],
 (match K.lookup 36 with |some ⟨c,d,.fields vs,sl⟩=>some (c,d,sl,vs[2]?) |_=>none),
 [nsIn K mainGlobals "super",nsIn K cStatics "thirdparty.any",takerIn K 72 "what",findIn K (.ref 72) "__setattr__",findIn K (.ref 72) "__init__",nsIn K mainGlobals "law"])
def AA:Ay:=([true,true,true],[some (excClassObj "LimitFault" "LimitFault" 72 71 [.ref 47] [.ref 47,.type "Exception",.type "BaseException",.type "object"] true [] [] false none none (some (.ref 63)) none (some (.str "LimitFault" 250)) (some (.str "LimitFault" 258)) (some (.bool true)) "Exception.__new__"),
  some ⟨.type "function",none,.func Tc,#[]⟩,some ⟨.type "cell",none,.cell (some (.ref 47)),#[]⟩],
 some (.type "code",none,#[],some (.str "/claim/cut.py" 210)),
 [some none,some none,some none,some (some (.builtin "object.__setattr__")),some (some (.ref 37)),some (some (.ref 541))])
noncomputable abbrev wI:=List (Option (Option Value))×List (Option (Option Value))×List (Option (Option Value))×List Av×List FO×Ay
def AB (K:Frag):wI:=((List.range gN).map λi=>nsIn K mainGlobals (gT i).1,(List.range fN).map λi=>findIn K (.ref (fT i).1) (fT i).2.1,(List.range tN).map λi=>takerIn K (tT i).1 (tT i).2,
 (List.range 4).map λk=>Aw K (Dw k),(List.range kN).map λi=>FP K (kA i),Az K)
def AD:wI:=((List.range gN).map λi=>some (gT i).2,(List.range fN).map λi=>some (fT i).2.2,(List.range tN).map λ_=>some Option.none,
 (List.range 4).map λk=>Ax (FJ k),(List.range kN).map λi=>FQ (kP i),AA)
noncomputable abbrev qV:=Option (Value×Option Value×List Value)
noncomputable def wJ (h:Heap):qV:=match h.get? 540 with
 |some ⟨c,_,.fields vs,_⟩=>some (c,vs[11]?,[vs.getD 11 .none,vs.getD 18 .none,vs.getD 7 .none,vs.getD 9 .none,vs.getD 10 .none])
 |_=>none
noncomputable def wK:qV:=some (.type "code",some (.ref 538),[.ref 538,.str "/claim/cut.py" 875,.int 3 0,.bool true,.int 181 0])
noncomputable def wL (h:Heap):Option Value:=match h.get? 541 with
 |some ⟨_,_,.func fd,_⟩=>some fd.code
 |_=>none
def Yf (s:Shared):wI×Bool×qV×Option Obj×Option Value:=(AB (Au s.heap),(s.heap.get? sysModules).isSome,wJ s.heap,s.heap.get? 538,wL s.heap)
def Ya (_w:World):wI×Bool×qV×Option Obj×Option Value:=(AD,true,wK,some (tabObj #[]),some (.ref 540))
set_option tactic.hygienic false
theorem JP {p q:Program}{loose:List Str}{Xt:Shared->Bool}{Yf:Shared->Y}{Ya:World->Y}{Nv:Params->Heap}{FR:Array GenState}{Nw:Drawn}{Ny:Nat}(QE :∀w:World,(fencedOpening treeTable p w N).map (λs=>(s.heap,s.gens,s.drawn,s.toks))=some (Nv w.params,FR,Nw,Ny))(h :∀(w:World) (os:OsState),(topFrom treeTable p w N ⟨Nv w.params,FR,Nw,Ny,os⟩).map (λs=>(openSeen q loose (importedModules p.main.body) Xt true s,Yf s))=some (openGood q loose,Ya w)):LeftO p q loose Xt Yf Ya N:=λw=>by
 obtain⟨⟨h0,gs,d,k,os⟩,e,e'⟩:=Option.map_eq_some_iff.mp (QE w);obtain⟨rfl,rfl,rfl,rfl⟩:h0=Nv w.params/\gs=FR/\d=Nw/\k=Ny:=by simpa using e'
 unfold openEnds;exact rl e<|h w os
section
variable {tb:String->Option Builtin}{p:Program}{JQ:Nat}{VP:Option Value}{q:Pos}
theorem Dx {r:Shared}{l:List Stmt}{c c':Code}{p':Pos}(h:segRun tb p w JQ VP 1 n s (piecesOf l env c pos [topFrame q])=some (.next,s',c',p'))(k:topRun tb p w JQ VP N s' ⟨doneF .next,c',p',[topFrame q]⟩=some r):topRun tb p w JQ VP (n+N) s (restOf l env c pos [topFrame q])=some r:=by
 obtain⟨a,ha,hN⟩:=seg_top (res:=id) (K':=λf=>match f with |.next=>(execs [] env).wrap doneF (leaveH env) id id |f=>doneF f) (H':=leaveH env) (B:=[topFrame q]) rfl n s (piecesOf l env c pos [topFrame q])
  ⟨(execs l env).wrap (λf=>match f with |.next=>(execs [] env).wrap doneF (leaveH env) id id |f=>doneF f) (leaveH env) id id,c,pos,[topFrame q]⟩ _ _ _ _ ⟨rfl,rfl,.inl ⟨rfl,rfl,_,rfl,rfl⟩⟩ h
 obtain rfl:a=.next:=ha;have:=hN N r k;unfold restOf;exact rr (List.append_nil l)<|rl (execs_app_wrap ..)<|this
end
noncomputable abbrev kZ:Program:=gn.row.prog
noncomputable abbrev q0:Pos:=⟨0,0,0,0⟩
def Nz:Env:={scope:=kZ.main.scope,locals:=mainNs,globals:=mainNs,cells:=[],code:=.ref 13,frame:=some 14}
def FT:List Stmt:=behindTheImports kZ
abbrev yj:Code:=.body FT Nz
noncomputable def QG (P:Params):List Obj:=[boot_o_0 P,boot_o_1 P,boot_o_2 P,boot_o_3 P,boot_o_4 P,boot_o_5 P,boot_o_6 P,boot_o_7 P,boot_o_8 P,boot_o_9 P,boot_o_10 P,
 {cls:=.type "tuple",data:=.seq #[]},{cls:=.none,data:=.fields #[]},
 {cls:=.type "code",data:=.fields #[.str "<module>" 182,.str "<module>" 183,.str "/claim/cut.py" 184,.int 1 0,.int 0 0,.int 0 0,.int 0 0,.int 0 0,.ref 11,.bool false,.int 181 0,.ref 12,.none,.none,.none,.none,.int 185 0,.int 1 0,.str "/claim/cut.py" 186]},
 {cls:=.type "frame",slots:=#[some (.ref 13),some (.ref 3),some (.ref 3),none,some (.str "__main__" 164),none,some (.ref 0)]}]
noncomputable def NA (l:List Obj):BT:=(l.foldl (λ(x:BT×Nat) o=>(x.1.ins x.2 o,x.2+1)) (.nil,0)).1
def Te (w:World)(os:OsState):SharedT:=⟨NA (QG w.params),15,{},#[],{},187,os⟩
noncomputable def SB (w:World)(os:OsState):Shared:=⟨boot_heap w.params,Array.mk [],boot_drawn,boot_toks,os⟩
theorem QH :∀w:World,(fencedOpening treeTable kZ w 7214).map (λs=>(s.heap,s.gens,s.drawn,s.toks))=some (boot_heap w.params,Array.mk [],boot_drawn,boot_toks):=
 boot_open (by kernel_rfl) (by kernel_rfl) (λ_=>by kernel_rfl)
theorem QI (w:World)(os:OsState) :((SB w os).heap.isNs mainGlobals&&(SB w os).gens.size == 0,(SB w os).heap.objs.size,(SB w os).heap.nsMap mainGlobals "__annotations__") =(true,11,some (.ref 6)):=by kernel_rfl
theorem VQ (w:World)(os:OsState):topGo treeTable kZ w 11 (some (.ref 6)) 12 (SB w os) (topStub kZ)=some ((Te w os).abs,⟨denote treeTable yj,yj,q0,[topFrame q0]⟩):=by kernel_rfl
theorem NB (w:World)(os:OsState):segRun treeTable kZ w 11 (some (.ref 6)) 1 1 (Te w os).abs (blockOf FT Nz yj q0 [topFrame q0])=some (.next,(Te w os).abs,yj,q0):=by kernel_rfl
set_option tactic.hygienic true
def NC (p:Program)(w:World)(r:Option (Flow×SharedT×Code×Pos)):Option Shared:=match r with
 |some (.next,s',c',p')=>topRun treeTable p w 11 (some (.ref 6)) 2 s'.abs ⟨doneF .next,c',p',[topFrame q0]⟩
 |_=>none
noncomputable def ND (p:Program)(h₀:Heap)(fS:Shared):Option Shared:=match staticsOk (importedModules p.main.body) h₀ fS.heap&&namesBound p fS.heap&&gensDone fS&&laidKept h₀ fS.heap with
 |true=>some fS
 |false=>none
def VR (s:Shared):=(openSeen i6 [] (importedModules kZ.main.body) (λs=>xlAt i6 [] s&&recOk (RowW.records gn.row.toRowW) s) true s,Yf s)
theorem QJ (w:World)(os:OsState) :((NC kZ w (segRunT treeTable kZ w 11 (some (.ref 6)) 1 4000 (Te w os) (piecesOf FT Nz yj q0 [topFrame q0]))).bind (ND kZ (boot_heap w.params))).map VR=some (openGood i6 [],Ya w):=by kernel_rfl
set_option tactic.hygienic false
structure dW where
 objs:List (Addr×Addr)
 eE:List Addr
variable {K:β->dW->Shared->Prop}{Z bK cG mY f9:dW}
noncomputable def dW.nil:dW:=⟨[],[]⟩
noncomputable def dW.add (Z:dW)(p:Addr×Addr):dW:=⟨Z.objs++[p],Z.eE⟩
noncomputable def bH (Z:dW):List Addr:=Z.objs.map (·.2)++Z.eE
theorem cC {a:Addr}:a∈bH Z↔a∈Z.objs.map (·.2)\/a∈Z.eE:=List.mem_append
noncomputable def cL (s:List Nat):Str:=⟨s.toArray⟩
mutual
inductive aH (Z:dW)(h:Heap):V->Value->Prop
 |none:aH Z h .none .none
 |bool (b:Bool):aH Z h (.bool b) (.bool b)
 |int (i:Int) (t:Tok):aH Z h (.int i) (.int i t)
 |str (s:List Nat) (t:Tok):aH Z h (.str s) (.str (cL s) t)
 |ref {i:Nat} {p:Addr×Addr}:Z.objs[i]? = some p->aH Z h (.ref i) (.ref p.1)
 |tup {vs:List V} {a:Addr} {o:Obj} {ms:Array Value} {n:Nat}:h.get? a=some o->o.cls=.type "tuple"->o.data=.seq ms n->a∉bH Z->
  aD Z h vs ms.toList->aH Z h (.tup vs) (.ref a)
 |list {vs:List V} {a:Addr} {o:Obj} {ms:Array Value} {n:Nat}:h.get? a=some o->o.cls=.type "list"->o.data=.seq ms n->a∉bH Z->
  aD Z h vs ms.toList->aH Z h (.list vs) (.ref a)
inductive aD (Z:dW)(h:Heap):List V->List Value->Prop
 |nil:aD Z h [] []
 |cons {v:V} {m:Value} {vs:List V} {ms:List Value}:aH Z h v m->aD Z h vs ms->aD Z h (v::vs) (m::ms)
end
section
theorem aH.fm (r:aH Z h (.ref i) m) :∃p,Z.objs[i]? = some p/\m=.ref p.1:=by
 cases r with |@ref _ p hp=>exact⟨p,hp,rfl⟩
theorem aH.int_inv {i:Int}(r:aH Z h (.int i) m) :∃t,m=.int i t:=by
 cases r with |int _ t=>exact⟨t,rfl⟩
theorem aH.str_inv {c:List Nat}(r:aH Z h (.str c) m) :∃t,m=.str (cL c) t:=by
 cases r with |str _ t=>exact⟨t,rfl⟩
theorem aH.fV (r:aH Z h (.tup vs) m) :∃a o ms n,m=.ref a/\h.get? a=some o/\o.cls=.type "tuple"/\o.data=.seq ms n/\a∉bH Z/\aD Z h vs ms.toList:=by
 cases r with |@tup _ a o ms n h1 h2 h3 h4 h5=>exact⟨a,o,ms,n,rfl,h1,h2,h3,h4,h5⟩
theorem aH.eT {G:Value->Prop}(r:aH Z h (.tup vs) m)(k :∀a o ms n,h.get? a=some o->o.cls=.type "tuple"->o.data=.seq ms n->a∉bH Z->aD Z h vs ms.toList->G (.ref a)):G m:=
 by cases r with |@tup _ a o ms n h1 h2 h3 h4 h5=>exact k a o ms n h1 h2 h3 h4 h5
theorem aH.eL {G:Value->Prop}(r:aH Z h (.list vs) m)(k :∀a o ms n,h.get? a=some o->o.cls=.type "list"->o.data=.seq ms n->a∉bH Z->aD Z h vs ms.toList->G (.ref a)):G m:=by
 cases r with |@list _ a o ms n h1 h2 h3 h4 h5=>exact k a o ms n h1 h2 h3 h4 h5
theorem aD.nil_inv (r:aD Z h [] ms):ms=[]:=by cases r;rfl
theorem aD.cons_inv (r:aD Z h (v::vs) ms) :∃m ns,ms=m::ns/\aH Z h v m/\aD Z h vs ns:=by cases r with |cons a b=>exact⟨_,_,rfl,a,b⟩
theorem aD.eC {G:List Value->Prop}(r:aD Z h (v::vs) ms)(k :∀m ns,aH Z h v m->aD Z h vs ns->G (m::ns)):G ms:=by cases r with |cons a b=>exact k _ _ a b
theorem aD.ind {P:List V->List Value->Prop}(h0:P [] [])(h1 :∀v m vs ms,aH Z h v m->aD Z h vs ms->P vs ms->P (v::vs) (m::ms))(r:aD Z h vs ms):P vs ms:=
 aD.rec (motive_1:=λ_ _ _=>True) (motive_2:=λvs ms _=>P vs ms) trivial (λ_=>trivial) (λ_ _=>trivial) (λ_ _=>trivial) (λ_=>trivial) (λ_ _ _ _ _ _=>trivial) (λ_ _ _ _ _ _=>trivial) h0 (λa b _ ih=>h1 _ _ _ _ a b ih) r
theorem aD.length (r:aD Z h vs ms):vs.length=ms.length:=r.ind (P:=λvs ms=>vs.length=ms.length) rfl λ_ _ _ _ _ _ ih=>aP (· + 1) ih
theorem aD.get (r:aD Z h vs ms) :∀(i:Nat) (v:V),vs[i]? = some v->∃m,ms[i]? = some m/\aH Z h v m:=by
 refine r.ind (P:=λvs ms=>∀(i:Nat) (v:V),vs[i]? = some v->∃m,ms[i]? = some m/\aH Z h v m) (λi v e=>by simp at e) λv m vs ms hv _ ih i u e=>?_
 cases i with
 |zero=>injection e with e;subst e;exact⟨m,rfl,hv⟩
 |succ i=>exact ih i u (by simpa using e)
theorem aD.append {ns:List Value}(r:aD Z h vs ms)(q:aD Z h ws ns):aD Z h (vs++ws) (ms++ns):=
 r.ind (P:=λvs ms=>aD Z h (vs++ws) (ms++ns)) q λ_ _ _ _ hv _ ih=>.cons hv ih
theorem aD.drop (r:aD Z h vs ms) :∀n,aD Z h (vs.drop n) (ms.drop n):=by
 refine r.ind (P:=λvs ms=>∀n,aD Z h (vs.drop n) (ms.drop n)) (λn=>by simp;exact .nil) λv m vs ms hv r ih n=>?_
 cases n with
 |zero=>exact .cons hv r
 |succ n=>exact ih n
theorem aD.take (r:aD Z h vs ms) :∀n,aD Z h (vs.take n) (ms.take n):=by
 refine r.ind (P:=λvs ms=>∀n,aD Z h (vs.take n) (ms.take n)) (λn=>by simp;exact .nil) λv m vs ms hv r ih n=>?_
 cases n with
 |zero=>exact .nil
 |succ n=>exact .cons hv (ih n)
end
noncomputable def eJ:Data->Bool |.dict ..=>true |.cell _=>true |_=>false
def bI (o:Obj):Bool:=eJ o.data
structure cF (D:List Addr)(Z:dW)(h:Heap)(bK:dW)(h':Heap):Prop where
 more :∃x,bK.objs=Z.objs++x/\∀a∈x.map (·.2),h.get? a=Option.none
 eE:bK.eE=Z.eE
 held :∀a∈Z.eE,∀o,h.get? a=some o->h'.get? a=some o
 live :∀b o,h.get? b=some o->∃o',h'.get? b=some o'
 keep :∀b o,h.get? b=some o->b∉bH Z->bI o=false->h'.get? b=some o
 slot :∀b o,h.get? b=some o->b∉bH Z->b∉D->bI o=true->∃sl,h'.get? b=some {o with slots:=sl}
 soft :∀b o,h.get? b=some o->b∉bH Z->bI o=true->∃o',h'.get? b=some o'/\bI o'=true
section
variable {D:List Addr}{nU:dW}{Dy:Heap}
theorem cF.of_keeps (k :∀b o,h.get? b=some o->h'.get? b=some o):cF D Z h Z h':=
 ⟨⟨[],by simp,by simp⟩,rfl,λb _ o e=>k b o e,λb o e=>⟨o,k b o e⟩,λb o e _ _=>k b o e,λb o e _ _ _=>⟨o.slots,k b o e⟩,λb o e _ q=>⟨o,k b o e,q⟩⟩
theorem cF.refl (D:List Addr)(Z:dW)(h:Heap):cF D Z h Z h:=.of_keeps λ_ _ e=>e
theorem cF.eM {a:Addr}(x:cF D Z h bK h')(ho:h.get? a=some o)(hn:a∉bH Z):a∉bH bK:=by
 obtain⟨⟨u,JR,hu⟩,hh,_,_,_⟩:=x;rw[cC,not_or] at hn;rw[cC,JR,hh,List.map_append,List.mem_append,not_or,not_or];exact⟨⟨hn.1,λhm=>by replace ho:=(hu a hm)▸ho;injection ho⟩,hn.2⟩
theorem cF.get (x:cF D Z h bK h')(e:Z.objs[i]? = some p):bK.objs[i]? = some p:=by
 obtain⟨⟨u,JR,_⟩,_,_,_⟩:=x;exact rl JR<|rl (List.getElem?_append_left (List.getElem?_eq_some_iff.mp e).1)<|e
theorem cF.trans (x:cF D Z h bK h')(y:cF D bK h' nU Dy):cF D Z h nU Dy:=by
 have x0:=x;obtain⟨⟨u,JR,hu⟩,hx,ex,sx,kx,lx,fx⟩:=x;obtain⟨⟨v,QK,hv⟩,hy,ey,sy,ky,ly,fy⟩:=y;refine⟨⟨u++v,by refine QK.trans ?_;rw[JR];simp,?_⟩,hy.trans hx,λa ha o e=>ey a (hx▸ha) o (ex a ha o e),λb o e=>(let ⟨o1,e1⟩:=sx b o e;sy b o1 e1),λb o e hb q=>ky b o (kx b o e hb q) (x0.eM e hb) q,?_,λb o e hb hs=>?_⟩
 .intro a ha
  replace ha:=List.map_append▸ha;rcases List.mem_append.mp ha with ha |ha
  .exact hu a ha
  .cases z:h.get? a with
   |none=>rfl
   |some o=>obtain⟨o1,e1⟩:=sx a o z;replace e1:=(hv a ha)▸e1;injection e1
 .intro b o e hb hd hs
  obtain⟨sl,e'⟩:=lx b o e hb hd hs;obtain⟨JS,VS⟩:=ly b _ e' (x0.eM e hb) hd (hs);exact⟨JS,VS⟩
 .obtain⟨o',e',PX⟩:=fx b o e hb hs
  exact fy b o' e' (x0.eM e hb) PX
theorem cF.weaken (x:cF D Z h bK h')(hd :∀a∈D,a∈D'):cF D' Z h bK h':=
 ⟨x.more,x.eE,x.held,x.live,x.keep,λb o e hb q=>x.slot b o e hb λhm=>q (hd b hm),x.soft⟩
theorem cF.of0 (x:cF [] Z h bK h'):cF D Z h bK h':=x.weaken (by simp)
theorem cF.push (h:Heap)(o:Obj):cF D Z h Z (h.push o):=.of_keeps (λ_ _ e=>bT _ e)
theorem cF.sameBut {a:Addr}(k:Heap.SameBut a h h')(ha:a∈bH Z)(hh:a∉Z.eE)(hl :∃o,h'.get? a=some o):cF D Z h Z h':=
 have g :∀b o,h.get? b=some o->b∉bH Z->h'.get? b=some o:=λb o e hb=>(k.2 b λq=>hb (q▸ha)).trans e
 ⟨⟨[],by simp,by simp⟩,rfl,λb hb o e=>(k.2 b λq=>hh (q▸hb)).trans e,λb o e=>by
  by_cases Co:b=a
  .subst Co;exact hl
  .exact⟨o,(k.2 b Co).trans e⟩,λb o e hb _=>g b o e hb,λb o e hb _ _=>⟨o.slots,g b o e hb⟩,λb o e hb q=>⟨o,g b o e hb,q⟩⟩
theorem cF.FV {a:Addr}(k:Heap.SameBut a h h')(ha:a∈D)(hh:a∉Z.eE)(hs :∀o,h.get? a=some o->bI o=true)(PX :∃o',h'.get? a=some o'/\bI o'=true):cF D Z h Z h':=
 ⟨⟨[],by simp,by simp⟩,rfl,λb hb o e=>(k.2 b λq=>hh (q▸hb)).trans e,λb o e=>by
  by_cases Co:b=a
  .subst Co;obtain⟨o',e',_⟩:=PX;exact⟨o',e'⟩
  .exact⟨o,(k.2 b Co).trans e⟩,λb o e hb q=>by
  by_cases Co:b=a
  .subst Co;replace q:=(hs o e)▸q;injection q
  .exact(k.2 b Co).trans e,λb o e hb q _=>by
  by_cases Co:b=a
  .subst Co;exact absurd ha q
  .exact⟨o.slots,(k.2 b Co).trans e⟩,λb o e hb q=>by
  by_cases Co:b=a
  .subst Co;exact PX
  .exact⟨o,(k.2 b Co).trans e,q⟩⟩
theorem cF.side {a:Addr}(x:cF D Z h bK h')(k :∀b o,b≠a->h'.get? b=some o->Dy.get? b=some o)(ha:h.get? a=none):cF D Z h bK Dy:=by
 have g :∀b o o',h.get? b=some o->h'.get? b=some o'->Dy.get? b=some o':=λb o o' e e'=>k b o' (λz=>by replace e:=ha▸z▸e;injection e) e';refine⟨x.more,x.eE,λb hb o e=>g b o o e (x.held b hb o e),λb o e=>(let ⟨o1,e1⟩:=x.live b o e;⟨o1,g b o o1 e e1⟩),λb o e hb q=>g b o o e (x.keep b o e hb q),λb o e hb hd q=>?_,λb o e hb q=>?_⟩
 .obtain⟨sl,e'⟩:=x.slot b o e hb hd q;exact⟨sl,g b o _ e e'⟩
 .obtain⟨o',e',q'⟩:=x.soft b o e hb q;exact⟨o',g b o _ e e',q'⟩
structure hV (Z:dW)(h:Heap)(bK:dW)(h':Heap):Prop where
 get :∀(i:Nat) (p:Addr×Addr),Z.objs[i]? = some p->bK.objs[i]? = some p
 keep :∀b o,h.get? b=some o->b∉bH Z->bI o=false->h'.get? b=some o
 eM :∀b o,h.get? b=some o->b∉bH Z->b∉bH bK
theorem cF.jQ (x:cF D Z h bK h'):hV Z h bK h':=⟨λ_ _ e=>x.get e,x.keep,λ_ _ e q=>x.eM e q⟩
theorem aH.map (ho :∀(i:Nat) (p:Addr×Addr),Z.objs[i]? = some p->bK.objs[i]? = some p)(hk :∀a o ms n,h.get? a=some o->o.data=.seq ms n->a∉bH Z->h'.get? a=some o/\a∉bH bK)(r:aH Z h v m):aH bK h' v m:=
 aH.rec (motive_1:=λv m _=>aH bK h' v m) (motive_2:=λvs ms _=>aD bK h' vs ms) .none .bool .int .str (λe=>.ref (ho _ _ e)) (λh1 h2 h3 h4 _ ih=>.tup (hk _ _ _ _ h1 h3 h4).1 h2 h3 (hk _ _ _ _ h1 h3 h4).2 ih) (λh1 h2 h3 h4 _ ih=>.list (hk _ _ _ _ h1 h3 h4).1 h2 h3 (hk _ _ _ _ h1 h3 h4).2 ih) .nil (λ_ _ a b=>.cons a b) r
theorem aD.map (ho :∀(i:Nat) (p:Addr×Addr),Z.objs[i]? = some p->bK.objs[i]? = some p)(hk :∀a o ms n,h.get? a=some o->o.data=.seq ms n->a∉bH Z->h'.get? a=some o/\a∉bH bK) :∀{vs:List V} {ms:List Value},aD Z h vs ms->aD bK h' vs ms:=by
 intro vs
 induction vs with
 |nil=>intro ms r;cases r;exact .nil
 |cons v vs ih=>intro ms r;cases r with |cons a b=>exact .cons (a.map ho hk) (ih b)
theorem hV.seq (x:hV Z h bK h') :∀a o ms n,h.get? a=some o->o.data=.seq ms n->a∉bH Z->h'.get? a=some o/\a∉bH bK:=λ_ _ _ _ ho hd hn=>⟨x.keep _ _ ho hn (aP eJ hd),x.eM _ _ ho hn⟩
theorem aH.eN (x:hV Z h bK h')(r:aH Z h v m):aH bK h' v m:=r.map x.get x.seq
theorem aD.eN (x:hV Z h bK h')(r:aD Z h vs ms):aD bK h' vs ms:=r.map x.get x.seq
theorem aH.mono (x:cF D Z h bK h')(r:aH Z h v m):aH bK h' v m:=r.eN x.jQ
theorem aD.mono (x:cF D Z h bK h')(r:aD Z h vs ms):aD bK h' vs ms:=r.eN x.jQ
end
theorem JT (hs:Heap.SameBut d h h')(hd :∀o,h.get? d=some o->bI o=true) :∀a o ms n,h.get? a=some o->o.data=.seq ms n->a∉bH Z->h'.get? a=some o/\a∉bH Z:=
 λ_ _ _ _ ho Dz hn=>⟨(hs.2 _ (λz=>by have:=hd _ (z▸ho);exact Bool.noConfusion (show false=true from(aP eJ Dz).symm.trans this))).trans ho,hn⟩
theorem aH.FW (hs:Heap.SameBut d h h')(hd :∀o,h.get? d=some o->bI o=true)(r:aH Z h v m):aH Z h' v m:=r.map (λ_ _ e=>e) (JT hs hd)
theorem aD.plain0 (r:aD Z h vs ms):V.cT vs=true->aD .nil h vs ms:=
 aD.rec (motive_1:=λv m _=>v.plain=true->aH .nil h v m) (motive_2:=λvs ms _=>V.cT vs=true->aD .nil h vs ms) (λ_=>.none) (λb _=>.bool b) (λi t _=>.int i t) (λs t _=>.str s t) (λ_ p=>by injection p)
  (λho hc hd _ _ ih p=>.tup ho hc hd (by simp[bH,dW.nil]) (ih p)) (λho hc hd _ _ ih p=>.list ho hc hd (by simp[bH,dW.nil]) (ih p)) (λ_=>.nil)
  (λ_ _ p7 QL p=>.cons (p7 (cM p).1) (QL (cM p).2)) r
theorem aH.plain0 (r:aH Z h v m)(p:v.plain=true):aH .nil h v m:=by
 cases aD.plain0 (.cons r .nil) (fD ⟨p,rfl⟩) with |cons a b=>exact a
def Cp:V->PyData:=V.fold .none .bool .int (λs=>.str (cL s)) .tuple .list (λ_=>.none) [] (·::·)
def DA:List V->List PyData:=V.u5 .none .bool .int (λs=>.str (cL s)) .tuple .list (λ_=>.none) [] (·::·)
theorem aD.reads (r:aD Z h vs ms):V.cT vs=true->∃as,ReadsAll h ms (DA vs) as:=
 aD.rec (motive_1:=λv m _=>v.plain=true->∃as,Reads h m (Cp v) as) (motive_2:=λvs ms _=>V.cT vs=true->∃as,ReadsAll h ms (DA vs) as) (λ_=>⟨_,.none⟩) (λ_ p=>by injection p) (λi t _=>⟨_,.int i t⟩) (λs t _=>⟨_,.str _ t⟩) (λ_ p=>by injection p)
  (λho hc hd _ _ ih p=>let ⟨_,q⟩:=ih p;⟨_,.tuple ho hc hd q⟩) (λho hc hd _ _ ih p=>let ⟨_,q⟩:=ih p;⟨_,.list ho hc hd q⟩) (λ_=>⟨_,.nil⟩)
  (λ_ _ p7 QL p=>let ⟨_,q⟩:=p7 (cM p).1;let ⟨_,q'⟩:=QL (cM p).2;⟨_,.cons q q'⟩) r
theorem aH.reads (r:aH Z h v m)(p:v.plain=true) :∃as,Reads h m (Cp v) as:=by
 obtain⟨as,q⟩:=aD.reads (.cons r .nil) (fD ⟨p,rfl⟩)
 cases q with |cons a b=>exact⟨_,a⟩
theorem qW (v:V):v.plain=true->(Cp v).canLay0=true/\(Cp v).depth=v.depth:=
 V.rec (motive_1:=λv=>v.plain=true->(Cp v).canLay0=true/\(Cp v).depth=v.depth)
  (motive_2:=λvs=>V.cT vs=true->PyData.canLayAll0 (DA vs)=true/\PyData.depthAll (DA vs)=V.cw vs)
  (λ_=>⟨rfl,rfl⟩) (λ_ p=>by injection p) (λ_ _=>⟨rfl,rfl⟩)
  (λs p=>⟨by have q:s.all (· < 0x110000)=true:=p;show PyData.canLay0 (.str (cL s))=true;simpa [PyData.canLay0,PyData.strOk,cL] using q,rfl⟩)
  (λvs ih p=>⟨(ih p).1,aP (· + 1) (ih p).2⟩) (λvs ih p=>⟨(ih p).1,aP (· + 1) (ih p).2⟩) (λ_ p=>by injection p) (λ_=>⟨rfl,rfl⟩)
  (λa as ia Nn p=>⟨fD ⟨(ia (cM p).1).1,(Nn (cM p).2).1⟩,
   congr (aP max (ia (cM p).1).2) (Nn (cM p).2).2⟩) v
theorem nV (a:V) :∀b:V,a.plain=true->b.plain=true->PyData.eqv (Cp a) (Cp b)=V.beq a b:=
 V.rec (motive_1:=λa=>∀b:V,a.plain=true->b.plain=true->PyData.eqv (Cp a) (Cp b)=V.beq a b)
  (motive_2:=λa=>∀b:List V,V.cT a=true->V.cT b=true->PyData.eqvAll (DA a) (DA b)=V.yd a b)
  (λb _ q=>by cases b <;> first |rfl |injection q) (λ_ _ p _=>by injection p) (λi b _ q=>by cases b <;> first |rfl |injection q)
  (λs b _ q=>by
   cases b with
   |str t=>
    show(cL s == cL t) =(s == t);by_cases h:s=t
    .rw[h,beq_self_eq_true,beq_self_eq_true]
    .exact(beq_eq_false_iff_ne.mpr λe:cL s=cL t=>h (aP Array.toList (aP Str.cps e))).trans (beq_eq_false_iff_ne.mpr h).symm
   |_=>first |rfl |injection q)
  (λvs ih b p q=>by cases b with |tup ws=>exact ih ws p q |_=>first |rfl |injection q)
  (λvs ih b p q=>by cases b with |list ws=>exact ih ws p q |_=>first |rfl |injection q)
  (λ_ _ p _=>by injection p) (λb _ _=>by cases b <;> rfl)
  (λa as ia Nn b p q=>by
   cases b with
   |nil=>rfl
   |cons b bs=>exact congr (aP and (ia b (cM p).1 (cM q).1)) (Nn bs (cM p).2 (cM q).2)) a
theorem V.rU (a b:V):V.beq a b=decide (a=b):=by
 by_cases h:a=b
 .exact rl (bN h)<|rl ((V.beq_iff a b).mpr h) rfl
 .exact rl (cI h)<|Bool.eq_false_iff.mpr λe=>h ((V.beq_iff a b).mp e)
theorem aH.inj (a:aH Z h v m)(b:aH Z h v' m)(p:v.plain=true)(q:v'.plain=true):v=v':=by
 obtain⟨as,ra⟩:=a.reads p;obtain⟨bs,rb⟩:=b.reads q;refine(V.beq_iff v v').mp ((nV v v' p q).symm.trans ?_);exact rr ((ra.unique _ _ rb).1) <| (nV v v p p).trans ((V.beq_iff v v).mpr rfl)
def V.FX:V->Bool:=V.fold false (λ_=>false) (λ_=>true) (·.all (· < 0x110000)) id (λ_=>false) (λ_=>false) true (·&&·)
def V.k6:List V->Bool:=V.u5 false (λ_=>false) (λ_=>true) (·.all (· < 0x110000)) id (λ_=>false) (λ_=>false) true (·&&·)
theorem V.AE:v.FX=true->v.plain=true:=
 V.rec (motive_1:=λv=>v.FX=true->v.plain=true) (motive_2:=λvs=>V.k6 vs=true->V.cT vs=true) (λh=>by injection h) (λ_ h=>by injection h) (λ_ _=>rfl) (λ_ h=>h) (λ_ ih h=>ih h) (λ_ _ h=>by injection h) (λ_ h=>by injection h) (λ_=>rfl)
  (λ_ _ a b h=>fD ⟨a (cM h).1,b (cM h).2⟩) v
theorem V.fG (h:V.k6 vs=true):V.cT vs=true:=V.AE (v:=.tup vs) h
section
def My:V->Int:=V.fold 0 (λ_=>0) (intKind W.prog W.w).hash (λs=>(strKind W.prog W.w).hash (cL s)) (λl=>reduceHash (Builtin.Tuple.tupleHashOf l)) (λ_=>0) (λ_=>0) [] (·::·)
def NG:List V->List Int:=V.u5 0 (λ_=>0) (intKind W.prog W.w).hash (λs=>(strKind W.prog W.w).hash (cL s)) (λl=>reduceHash (Builtin.Tuple.tupleHashOf l)) (λ_=>0) (λ_=>0) [] (·::·)
def AF:V->Nat:=V.fold 1 (λ_=>1) (λ_=>1) (λ_=>1) (· + 1) (λ_=>1) (λ_=>1) 0 (· + ·)
def wM:List V->Nat:=V.u5 1 (λ_=>1) (λ_=>1) (λ_=>1) (· + 1) (λ_=>1) (λ_=>1) 0 (· + ·)
noncomputable def wN (v:V):Prop:=∀(A:Around) (E:iN) (s:Shared) (mv:Value) (Q:Int->Shared->Prop),
 A.units+4 * V.depth v+4<cLine->aH .nil s.heap v mv->Q (My v) {s with toks:=s.toks+AF v}->wpAny bS A (pyHash mv) Q E s
noncomputable def qX (vs:List V):Prop:=∀(A:Around) (E:iN) (s:Shared) (ms:List Value) (b:Array Int) (Q:Array Int->Shared->Prop),
 A.units+4 * V.cw vs+4<cLine->aD .nil s.heap vs ms->(∀b',b'.toList=b.toList++NG vs->Q b' {s with toks:=s.toks+wM vs})->
  wpAny bS A (forIn ms b λx r=>do let h <- pyHash x;pure PUnit.unit;pure (ForInStep.yield (r.push h))) Q E s
theorem FY (rV:qX vs):wN (.tup vs):=by
 intro A E s mv Q hu hr h;refine aH.eT (G:=λmv=>wpAny bS A (pyHash mv) Q E s) hr λa o ms n ho hc hd hn r=>?_;rw[V.l0] at hu;refine pyHash_slot (T:="tuple") ⟨o,ho,hc⟩ F.slot_tuple_hash F.entry_tuple_hash (F.args_tuple_hash_1 _) (beq_builtin_none _) (.inr (Qy hu)) ?_;show wpAny _ _ (Builtin.Tuple.tupleItemsOf (.ref a) >>= _) _ _ s;refine wb (wpAny_tupleItemsOf ho hd (wb ?_));refine rr Array.forIn_toList<|rV A.in1 E s ms.toList #[] _ (by refine rl (Around.in1_units ..) ?_;exact Vr hu) r λb hb=>?_
 show wpAny _ _ (retInt (Builtin.Tuple.tupleHashOf b.toList)) _ _ _;exact rl hb<|wb (wpAny_mkInt (aw ⟨_,_,rfl,h⟩))
theorem DB (hv:wN v)(hs:qX vs):qX (v::vs):=by
 intro A E s ms b Q hu hr h;have d:=V.Du v vs;refine aD.eC (G:=λms=>wpAny bS A (forIn ms b λx r=>do let h <- pyHash x;pure PUnit.unit;pure (ForInStep.yield (r.push h))) Q E s) hr λm ns r1 r2=>?_;refine rl (List.forIn_cons ..)<|wb (wb (hv _ _ _ _ _ (Mu hu (id (And.symm d))) r1 (aw ?_)))
 refine hs A E _ ns _ Q (Mu hu d) r2 λb' hb=>?_;have q:=h b' (by refine hb.trans ?_;exact rl Array.toList_push<|rl (cW ..) rfl)
 rw[show s.toks+wM (v::vs)=s.toks+AF v+wM vs from(Nat.add_assoc ..).symm] at q;exact q
theorem JU (v:V):v.FX=true->wN v:=
 V.rec (motive_1:=λv=>v.FX=true->wN v) (motive_2:=λvs=>V.k6 vs=true->qX vs) (λh=>by injection h) (λ_ h=>by injection h)
  (λi _ A E s mv Q _ hr h=>by obtain⟨t,rfl⟩:=hr.int_inv;exact(intKind W.prog W.w).pyHash (by simp[intKind,Value.isInt]) h)
  (λx _ A E s mv Q _ hr h=>by obtain⟨t,rfl⟩:=hr.str_inv;exact(strKind W.prog W.w).pyHash (strKind_is _ _ _ _) h)
  (λ_ ih h=>FY (ih h)) (λ_ _ h=>by injection h) (λ_ h=>by injection h)
  (λ_ A E s ms b Q _ hr h=>rl hr.nil_inv<|aw (h b (List.append_nil _).symm))
  (λ_ _ a b h=>DB (a (cM h).1) (b (cM h).2)) v
end
section
theorem nW {a b:V}{ma mb:Value}{Q:Bool->Shared->Prop}(ra:aH Z s.heap a ma)(rb:aH Z s.heap b mb)(ha:a.plain=true)(hb:b.plain=true)(hu:A.units+min a.depth b.depth<cLine)(h:Q (decide (a=b)) s):wpAny bS A (eqBool ma mb) Q E s:=by
 obtain⟨as,qa⟩:=ra.reads ha;obtain⟨bs,qb⟩:=rb.reads hb;have la:=qW a ha;have lb:=qW b hb;refine SeqAt.eqAt_reads _ _ A s ma mb as bs qa qb la.1 lb.1 (rl la.2<|rl lb.2<|hu) W.prog W.w E Q ?_
 exact rl (nV a b ha hb)<|rl (V.rU ..)<|h
noncomputable def yl (n:Nat)(vs:List V):Prop:=V.k6 vs=true->V.cw vs<=n->∀(ms:List Value),aD .nil s.heap vs ms->∀m∈ms,∀(Q:Bool->Shared->Prop),Q true s->wpAny bS A (eqIsQuiet n m) Q E s
noncomputable def wO (v:V):Prop:=v.FX=true->∀(n:Nat),v.depth<=n->∀(m:Value),aH .nil s.heap v m->∀(Q:Bool->Shared->Prop),Q true s->wpAny bS A (eqIsQuiet n m) Q E s
theorem DC (ih :∀n,yl (A:=A) (E:=E) (s:=s) n vs):wO (A:=A) (E:=E) (s:=s) (.tup vs):=by
 intro hk n hd m r Q h
 cases n with
 |zero=>exact absurd hd (Nat.not_succ_le_zero _)
 |succ n=>
 refine aH.eT (G:=λm=>wpAny bS A (eqIsQuiet (n+1) m) Q E s) r λa o ms k ho hc hda hn r=>?_;have hT:s.TypeIs (.ref a) "tuple":=⟨o,ho,hc⟩;unfold eqIsQuiet;refine wb (wpAny_specialOf hT F.slot_tuple_eq.lookup ?_);refine wb (wpAny_isInstance hT isSubtype_tuple_tuple ?_);dsimp only[Bool.not_true,Bool.false_eq_true,if_false];refine wb (wpAny_seqItems ho hda (wb ?_));refine rr Array.forIn_toList<|wpAny_forIn_list _ (λjR r s'=>r.1=none/\s'=s/\∀m∈jR,m∈ms.toList) _ ?_ ?_ _ _ ⟨rfl,rfl,λ_ h=>h⟩
 .rintro v jR r s' ⟨hr,rfl,hm⟩
  refine aY (ih n hk (Nat.le_of_succ_le_succ hd) _ r v (hm v (.head _)) _ ?_);simp only[Bool.not_true,Bool.false_eq_true,if_false];exact aw ⟨rfl,rfl,λm h=>hm m (.tail _ h)⟩
 .rintro⟨r1,r2⟩ s' ⟨hr,rfl,_⟩
  subst hr;exact aw h
theorem AG (v:V):wO (A:=A) (E:=E) (s:=s) v:=
 V.rec (motive_1:=λv=>wO (A:=A) (E:=E) (s:=s) v) (motive_2:=λvs=>∀n,yl (A:=A) (E:=E) (s:=s) n vs) (λh=>by injection h) (λ_ h=>by injection h)
  (λi _ n _ m r Q h=>by obtain⟨t,rfl⟩:=r.int_inv;exact rl (eqIsQuiet_byValue n rfl)<|aw h)
  (λi _ n _ m r Q h=>by obtain⟨t,rfl⟩:=r.str_inv;exact rl (eqIsQuiet_byValue n rfl)<|aw h)
  (λ_ ih=>DC ih) (λ_ _ h=>by injection h) (λ_ h=>by injection h)
  (λn _ _ ms r m hm=>by rw[r.nil_inv] at hm;exact nomatch hm)
  (λ_ _ a b n hk hd ms r m hm Q h=>by
   rw[V.ye] at hd;obtain⟨m1,ns,rfl,r1,r2⟩:=r.cons_inv;have k:=cM hk;rcases b8 hm with rfl |hm
   .exact a k.1 n (bP (Nat.le_max_left ..) hd) _ r1 Q h
   .exact b n k.2 (bP (Nat.le_max_right ..) hd) _ r2 m hm Q h) v
end
def dX:HeapKind W.prog W.w (List V) where
 is h vs a:=aH .nil h (.tup vs) (.ref a)/\V.k6 vs=true/\V.cw vs<=6
 hash vs:=My (.tup vs)
 draws vs:=AF (.tup vs)
 room A:=A.units+64<cLine
 inj hx hy:=by
  have:=hx.1.inj hy.1 (V.fG hx.2.1) (V.fG hy.2.1);exact V.tup.inj this
 keeps {h h' k a d o es ep} x ho hd hs:=by
  exact⟨x.1.FW hs λo' e=>by rw[ho] at e;cases e;exact aP eJ hd,x.2⟩
 pyHash {A E s k a Q} hu hk h:=by
  refine JU (.tup k) hk.2.1 A E s (.ref a) Q ?_ hk.1 h;have:=hk.2.2;rw[V.l0];exact Ve hu this
 eqBool {A E s x y a b Q} hu hx hy h:=by
  refine nW hx.1 hy.1 (V.fG hx.2.1) (V.fG hy.2.1) ?_ ?_
  .have:=hx.2.2
   have h2:min (V.tup x).depth (V.tup y).depth<=(V.tup x).depth:=Nat.min_le_left _ _;have h3:=V.l0 x;exact Vd hu this h2 h3
  .have e:decide (V.tup x=V.tup y)=decide (x=y):=by simp
   rw[e];exact h
 quiet {A E s k a Q} hk h:=AG (.tup k) hk.2.1 8 (by have:=hk.2.2;rw[V.l0];exact q2 ⋯ (by rfl)) _ hk.1 Q h
inductive d8 {Y β:Type}(R:Y->β->Prop):List Y->List β->Prop
 |nil:d8 R [] []
 |cons {a:Y} {b:β} {as:List Y} {bs:List β}:R a b->d8 R as bs->d8 R (a::as) (b::bs)
theorem d8.mono {R R':Y->β->Prop}(h :∀a b,R a b->R' a b)(r:d8 R as bs):d8 R' as bs:=by
 induction r with
 |nil=>exact .nil
 |cons a _ ih=>exact .cons (h _ _ a) ih
theorem d8.length {R:Y->β->Prop}(r:d8 R as bs):as.length=bs.length:=by
 induction r with
 |nil=>rfl
 |cons _ _ ih=>exact aP (· + 1) ih
theorem d8.append {R:Y->β->Prop}{Yr:List Y}{Ys:List β}(r:d8 R as bs)(q:d8 R Yr Ys):d8 R (as++Yr) (bs++Ys):=by
 induction r with
 |nil=>exact q
 |cons a _ ih=>exact .cons a ih
section
noncomputable def qY (Z:dW)(h:Heap)(k:DK)(az:List (V×V))(a:Addr):Prop:=match k with
 |.int=>∃ks:List (Int×Value),h.DictOf (intKind W.prog W.w) a ks/\d8 (λkv km=>kv.1=.int km.1/\aH Z h kv.2 km.2) az ks
 |.str=>∃ks:List (Str×Value),h.DictOf (strKind W.prog W.w) a ks/\d8 (λkv km=>(∃x,kv.1=.str x/\km.1=cL x)/\aH Z h kv.2 km.2) az ks
 |.tup=>∃xs:List (List V×Addr×Value),h.DictOfH (dX) a xs/\d8 (λkv km=>(kv.1=.tup km.1/\aH Z h (.tup km.1) (.ref km.2.1))/\aH Z h kv.2 km.2.2) az xs
noncomputable def mB (Z:dW)(h:Heap):O->Addr×Addr->Prop
 |.list vs,p=>p.1=p.2/\∃ms n,h.get? p.2=some ⟨.type "list",none,.seq ms n,#[]⟩/\aD Z h vs ms.toList
 |.dict k az,p=>p.1=p.2/\qY Z h k az p.2
 |.inst c fs,p=>(∃sl,h.get? p.1=some ⟨.ref (W.cls c),some p.2,.plain,sl⟩)/\
  ∃ks:List (Str×Value),h.DictOf (strKind W.prog W.w) p.2 ks/\d8 (λkv km=>(kv.1<W.nN/\km.1=W.nm kv.1)/\aH Z h kv.2 km.2) fs ks
structure gP (Z:dW)(U:bw)(h:Heap):Prop where
 base:W.h₀.StaysIn h
 ok:Td
 fresh :∀a∈bH Z,W.h₀.get? a=none
 qG :∀a∈Z.eE,∃ob,h.get? a=some ob/\ob.cls=.type "list"
 nodup :(bH Z).Nodup
 len:Z.objs.length=U.length
 objs :∀(i:Nat) (o:O) (p:Addr×Addr),U[i]? = some o->Z.objs[i]? = some p->mB Z h o p
structure St (Z:dW)(U:bw)(s:Shared):Prop where
 heap:gP Z U s.heap
 gens:s.gens=W.gens
 os:s.os=W.os
theorem mB.mut {o:O}(r:mB Z h o p) :∃ob,h.get? p.2=some ob/\(ob.cls=.type "list"\/ob.cls=.type "dict"):=by
 cases o with
 |list vs=>obtain⟨_,ms,n,e,_⟩:=r;exact⟨_,e,.inl rfl⟩
 |dict k az=>
  obtain⟨_,r⟩:=r
  cases k with
  |int=>obtain⟨ks,⟨o,es,ep,ho,hx,_⟩,_⟩:=r;exact⟨o,ho,.inr hx.1⟩
  |str=>obtain⟨ks,⟨o,es,ep,ho,hx,_⟩,_⟩:=r;exact⟨o,ho,.inr hx.1⟩
  |tup=>obtain⟨ks,⟨o,es,ep,ho,hx,_⟩,_⟩:=r;exact⟨o,ho,.inr hx.1⟩
 |inst c fs=>obtain⟨_,ks,⟨o,es,ep,ho,hx,_⟩,_⟩:=r;exact⟨o,ho,.inr hx.1⟩
theorem DictOf.at_ {K:Type}[DecidableEq K]{knd:KeyKind W.prog W.w K}{a:Addr}{ks:List (K×Value)}(d:h.DictOf knd a ks)(k :∀ob,h.get? a=some ob->h'.get? a=some ob):h'.DictOf knd a ks:=by
 refine ct λG hG=>?_;obtain⟨o,es,ep,ho,r⟩:=d;refine hG ?_;exact⟨o,es,ep,k _ ho,r⟩
theorem d8.right {R:Y->β->Prop}{P:β->Prop}(h :∀a b,R a b->P b)(r:d8 R as bs) :∀b∈bs,P b:=by
 induction r with
 |nil=>intro b hm;cases hm
 |cons a _ ih=>
  intro b hm;rcases b8 hm with e |hm
  .exact rl e<|h _ _ a
  .exact ih b hm
theorem DD {k:List V}{a:Addr}(x:hV Z h bK h')(hk :(dX).is h k a)(r:aH Z h (.tup k) (.ref a)) :(dX).is h' k a:=
 ⟨(r.eN x).plain0 (V.fG hk.2.1),hk.2⟩
theorem DictOfH.mono {a:Addr}(d:h.DictOfH (dX) a xs)(x:hV Z h bK h')(hr :∀y∈xs,aH Z h (.tup y.1) (.ref y.2.1))(k :∀ob,h.get? a=some ob->h'.get? a=some ob):h'.DictOfH (dX) a xs:=by
 refine ct λG hG=>?_;obtain⟨o,es,ep,ho,he,hd,hl,NH,hn⟩:=d;refine hG ?_;exact⟨o,es,ep,k _ ho,he,hd,hl,λy hy=>DD x (NH y hy) (hr y hy),hn⟩
theorem qY.mono {kd:DK}{a:Addr}(r:qY Z h kd az a)(x:hV Z h bK h')(k :∀ob,h.get? a=some ob->h'.get? a=some ob) :
  qY bK h' kd az a:=by
 cases kd with
 |int=>obtain⟨ks,d,al⟩:=r;exact⟨ks,DictOf.at_ d k,al.mono λ_ _ q=>⟨q.1,q.2.eN x⟩⟩
 |str=>obtain⟨ks,d,al⟩:=r;exact⟨ks,DictOf.at_ d k,al.mono λ_ _ q=>⟨q.1,q.2.eN x⟩⟩
 |tup=>
  obtain⟨ks,d,al⟩:=r;exact⟨ks,DictOfH.mono d x (al.right λ_ _ q=>q.1.2) k,al.mono λ_ _ q=>⟨⟨q.1.1,q.1.2.eN x⟩,q.2.eN x⟩⟩
theorem mB.mono {o:O}(r:mB Z h o p)(x:hV Z h bK h')(k :∀ob,h.get? p.2=some ob->h'.get? p.2=some ob)(hp :∀ob,h.get? p.1=some ob->bI ob=false->∃sl,h'.get? p.1=some {ob with slots:=sl}):mB bK h' o p:=by
 cases o with
 |list vs=>obtain⟨e,ms,n,g,q⟩:=r;exact⟨e,ms,n,k _ g,q.eN x⟩
 |dict kd az=>exact⟨r.1,r.2.mono x k⟩
 |inst c fs=>
  refine ct λG hG=>?_;obtain⟨⟨sl,e⟩,ks,d,al⟩:=r;obtain⟨JS,e'⟩:=hp _ e rfl;refine hG ?_;exact⟨⟨JS,e'⟩,ks,DictOf.at_ d k,al.mono λ_ _ q=>⟨q.1,q.2.eN x⟩⟩
theorem gP.at (S:gP Z U h)(hp:p∈Z.objs) :∃(i:Nat) (o:O),U[i]? = some o/\Z.objs[i]? = some p/\mB Z h o p:=by
 obtain⟨i,hi⟩:=List.mem_iff_getElem?.mp hp;have eO:i<U.length:=rr S.len <| (List.getElem?_eq_some_iff.mp hi).1
 exact⟨i,U[i],by simp[eO],hi,S.objs i _ p (by simp[eO]) hi⟩
theorem gP.gL (S:gP Z U h){a:Addr}(ha:a∈bH Z) :∃ob,h.get? a=some ob/\(ob.cls=.type "list"\/ob.cls=.type "dict"):=by
 rcases cC.mp ha with ha |ha
 .obtain⟨p,hp,rfl⟩:=dz ha
  obtain⟨i,o,_,_,r⟩:=S.at hp;exact r.mut
 .obtain⟨ob,e,c⟩:=S.qG a ha;exact⟨ob,e,.inl c⟩
theorem gP.lt (S:gP Z U h){a:Addr}(ha:a∈bH Z):a<h.objs.size:=by
 obtain⟨ob,e,_⟩:=S.gL ha;exact cK e
theorem gP.jS (S:gP Z U h):h.objs.size∉bH Z:=λhm=>Nat.lt_irrefl _ (S.lt hm)
theorem gP.mZ (S:gP Z U h){a:Addr}(e:W.h₀.get? a=some o):a∉bH Z:=λhm=>by
 replace e:=(S.fresh a hm)▸e;injection e
theorem gP.keeps (S:gP Z U h)(k :∀b o,h.get? b=some o->h'.get? b=some o):gP Z U h':=by
 refine⟨λb o e=>k _ _ (S.base b o e),S.ok,S.fresh,λa ha=>(let ⟨ob,e,c⟩:=S.qG a ha;⟨ob,k _ _ e,c⟩),S.nodup,S.len,λi o p e e'=>?_⟩;exact(S.objs i o p e e').mono (cF.of_keeps (D:=[]) k).jQ (λob q=>k _ _ q) λob q _=>⟨ob.slots,k _ _ q⟩
theorem gP.FZ (S:gP Z U h) :(Z.objs.map (·.2)).Nodup:=(List.nodup_append.mp S.nodup).1
theorem gP.gM (S:gP Z U h)(hi:Z.objs[i]? = some p):p.2∉Z.eE:=λhm=>
 (List.nodup_append.mp S.nodup).2.2 p.2 (List.mem_map.mpr ⟨p,List.mem_of_getElem? hi,rfl⟩) p.2 hm rfl
theorem gP.set (S:gP Z U h){o':O}(hi:Z.objs[i]? = some p)(hs:Heap.SameBut p.2 h h')(r:mB Z h' o' p):gP Z (U.set i o') h':=by
 have hm:p.2∈bH Z:=cC.mpr (.inl (List.mem_map.mpr ⟨p,List.mem_of_getElem? hi,rfl⟩));have hh:=S.gM hi;refine⟨λb o e=>?_,S.ok,S.fresh,λa ha=>(let ⟨ob,e,c⟩:=S.qG a ha;⟨ob,(hs.2 a λz=>hh (z▸ha)).trans e,c⟩),S.nodup,by simp[S.len],λj o q e e'=>?_⟩
 .exact(hs.2 b λz=>S.mZ e (z▸hm)).trans (S.base b o e)
 .by_cases Mz:i=j
  .subst Mz
   replace e':=hi▸e';injection e' with e';subst e';replace e:=(List.getElem?_set)▸e;simp only[if_pos] at e
   split at e
   .injection e with e;subst e;exact r
   .injection e
  .replace e:=(av Mz)▸(List.getElem?_set)▸e
   have dg:q.2≠p.2:=by
    intro z;have h1 :(Z.objs.map (·.2))[j]? = some q.2:=by simp[e']
    have h2 :(Z.objs.map (·.2))[i]? = some p.2:=by simp[hi]
    replace h1:=z▸h1;exact Mz ((List.getElem?_inj (List.getElem?_eq_some_iff.mp h2).1 S.FZ).mp (h2.trans h1.symm))
   refine(S.objs j o q e e').mono (cF.sameBut (D:=[]) hs hm hh (let ⟨ob,e,_⟩:=r.mut;⟨ob,e⟩)).jQ (λob z=>(hs.2 _ dg).trans z) λob z zs=>?_;by_cases hq:q.1=p.2
   .have ro:=S.objs j o q e e'
    revert e;cases o with
    |list vs=>intro e;exact absurd (ro.1.symm.trans hq) dg
    |dict k az=>intro e;exact absurd (ro.1.symm.trans hq) dg
    |inst c fs=>
     intro e;obtain⟨⟨sl,e1⟩,_⟩:=ro;obtain⟨ob',e2,hc⟩:=S.gL hm;replace e1:=e2▸hq▸e1;injection e1 with e1;subst e1;simp at hc
   .exact⟨ob.slots,(hs.2 _ hq).trans z⟩
theorem gP.alloc (S:gP Z U h){o':O}(k :∀b o,h.get? b=some o->h'.get? b=some o)(hp:h.get? p.2=none)(r:mB (Z.add p) h' o' p) :
  gP (Z.add p) (U++[o']) h'/\cF [] Z h (Z.add p) h':=by
 have x:cF [] Z h (Z.add p) h':=⟨⟨[p],rfl,by simpa using hp⟩,rfl,λb _ o e=>k b o e,λb o e=>⟨o,k _ _ e⟩,λb o e _ _=>k _ _ e,λb o e _ _ _=>⟨o.slots,k _ _ e⟩,λb o e _ q=>⟨o,k _ _ e,q⟩⟩;have k7:p.2∉bH Z:=λhm=>by obtain⟨ob,e,_⟩:=S.gL hm;replace e:=hp▸e;injection e
 have mem :∀a,a∈bH (Z.add p)↔a=p.2\/a∈bH Z:=λa=>by
  simp only[cC,dW.add,List.map_append,List.mem_append,List.map_cons,List.map_nil,List.mem_singleton];constructor
  .rintro((h |h) |h)
   .exact .inr (.inl h)
   .exact .inl h
   .exact .inr (.inr h)
  .rintro(h |h |h)
   .exact .inl (.inr h)
   .exact .inl (.inl h)
   .exact .inr h
 refine⟨⟨λb o e=>k _ _ (S.base b o e),S.ok,λa ha=>?_,λa ha=>(let ⟨ob,e,c⟩:=S.qG a ha;⟨ob,k _ _ e,c⟩),?_,by simp[S.len,dW.add],λj o q e e'=>?_⟩,x⟩
 .rcases (mem a).mp ha with rfl |ha
  .cases z:W.h₀.get? p.2 with
   |none=>rfl
   |some o=>have:=S.base _ _ z;replace this:=hp▸this;injection this
  .exact S.fresh a ha
 .have hn:=S.nodup
  unfold bH at hn ⊢;rw[List.nodup_append] at hn;obtain⟨n1,n2,n3⟩:=hn;rw[cC,not_or] at k7;simp only[dW.add,List.map_append,List.map_cons,List.map_nil];rw[List.nodup_append];refine⟨?_,n2,λa ha b hb=>?_⟩
  .rw[List.nodup_append]
   refine⟨n1,by simp,λa ha b hb=>?_⟩;exact rl (dM hb)<|λz=>k7.1 (z▸ha)
  .rcases List.mem_append.mp ha with ha |ha
   .exact n3 a ha b hb
   .exact rl (dM ha)<|λz=>k7.2 (z▸hb)
 .by_cases hj:j<U.length
  .replace e:=(List.getElem?_append_left hj)▸e
   simp only[dW.add] at e';replace e':=(List.getElem?_append_left (rl S.len<|hj))▸e'
   exact(S.objs j o q e e').mono x.jQ (λob z=>k _ _ z) λob z _=>⟨ob.slots,k _ _ z⟩
  .have Tf:U.length<=j:=Nat.le_of_not_lt hj
   replace e:=(List.getElem?_append_right Tf)▸e;simp only[dW.add] at e';replace e':=(List.getElem?_append_right (rl S.len<|Tf))▸e'
   replace e':=S.len▸e'
   cases z:j - U.length with
   |zero=>rw[z] at e e';simp at e e';subst e e';exact r
   |succ n=>replace e:=z▸e;simp at e
end
structure Act where
 A:Around
 env:Env
 l:List Env
variable {a:Act}
noncomputable def Act.D (a:Act):List Addr:=a.env.locals::a.env.cells.map (·.2)
section
structure rW (n:Nat)(A:Around)(l:List Env):Prop where
 hand:A.handled=none
 frames:A.frames=some l
 depth:A.depth+n<=990
 units:A.units+40 * n+400<=cLine
structure b9 (n:Nat)(a:Act):Prop extends rW n a.A a.l where
 head :∃fe mG L,a.l=fe::mG/\fe.frame=some L/\a.env.frame=some L
 kind:a.env.scope.kind=.function
 glob:a.env.globals=mainGlobals
 blt:a.env.builtins=builtinsNs
noncomputable def iV (l:List Env)(Z:dW)(h:Heap):Prop:=
 ∀e∈l,e.scope.kind≠.module/\∃L o,e.frame=some L/\L∉bH Z/\W.h₀.get? L=none/\h.get? L=some o/\bI o=true
noncomputable def iD (a:Act)(Z:dW)(h:Heap)(m:Str->Option Value)(x:Str)(v:V):Prop:=
 match a.env.kindOf x with
 |some .local=>∃mv,m x=some mv/\aH Z h v mv
 |some .cell |some .free=>∃c mv,a.env.cells.lookup x=some c/\h.IsCell c (some mv)/\aH Z h v mv
 |_=>False
structure FS (a:Act)(fr:eY)(Z:dW)(h:Heap):Prop where
 live:iV a.l Z h
 ns :∃m,h.Ns a.env.locals m/\∀i v,fr.lookup i=some v->i<W.nN/\iD a Z h m (W.nm i) v
 o8:a.env.locals∉bH Z
 u7:W.h₀.get? a.env.locals=none
 cells :∀x c,(x,c)∈a.env.cells->c∉bH Z/\W.h₀.get? c=none/\∃v,h.IsCell c v
 apart:a.env.cells.Pairwise λx y=>x.2≠y.2
 laid :∀x,a.env.kindOf x=some .cell->∃c,a.env.cells.lookup x=some c
noncomputable def nX (l:List Env):List Addr:=l.filterMap (·.frame)
structure gY (D F:List Addr)(Z:dW)(h:Heap)(bK:dW)(B h':Heap):Prop where
 more :∃x,bK.objs=Z.objs++x/\∀a∈x.map (·.2),h.get? a=Option.none
 eE:bK.eE=Z.eE
 held :∀a∈Z.eE,∀o,h.get? a=some o->B.get? a=some o
 keep :∀b o,h.get? b=some o->b∉bH Z->bI o=false->B.get? b=some o
 slot :∀b o,h.get? b=some o->b∉bH Z->b∉D->bI o=true->∃sl,(b∉F->B.get? b=some {o with slots:=sl})/\(b∈F->h'.get? b=some {o with slots:=sl})
 soft :∀b o,h.get? b=some o->b∉bH Z->bI o=true->∃o',bI o'=true/\(b∉F->B.get? b=some o')/\(b∈F->h'.get? b=some o')
 stays:B.StaysIn h'
noncomputable def p8 (l:List Env)(c:Nat)(Z:dW)(U:bw)(s:Shared)(e:Addr)(B:Heap):Prop:=
 s.gens=W.gens/\s.os=W.os/\gP Z U B/\∃a0,Heap.FlyingW B l e (.ref (W.cls c)) a0 s.heap
noncomputable def AH (l:List Env)(c:Nat)(Z:dW)(U:bw)(s:Shared)(e:Addr)(B:Heap):Prop:=
 s.gens=W.gens/\s.os=W.os/\gP Z U B/\∃env mG L a0,l=env::mG/\env.frame=some L/\Heap.HeldW B l e (.ref (W.cls c)) a0 L s.heap
noncomputable def AI (l:List Env)(c:Nat)(Z:dW)(U:bw)(s:Shared)(e:Addr)(B:Heap):Prop:=
 s.gens=W.gens/\s.os=W.os/\gP Z U B/\∃oe vs a0,B.StaysIn s.heap/\B.get? e=none/\
  s.heap.get? e=some oe/\oe.cls=.ref (W.cls c)/\oe.data=.fields vs/\vs[1]? = some .none/\vs[0]? = some a0/\s.heap.FunFrames B l
noncomputable def cb (a:Act)(Z:dW)(s:Shared)(r:Res β)(K:β->dW->Shared->Prop)(E:iN):Prop:=match r with
 |.ok v bB=>∀bK s',St bK bB s'->cF [] Z s.heap bK s'.heap->K v bK s'
 |.exc c bB=>∀bK s' e B,(p8 a.l c bK bB s' e B\/AH a.l c bK bB s' e B)->gY [] (nX a.l) Z s.heap bK B s'.heap->E (.ref e) s'
 |.stuck=>False
noncomputable def KV (Q:iN)(v:V)(Z:dW)(s:Shared):Prop:=∀mv,aH Z s.heap v mv->Q mv s
noncomputable def KVs (Q:List Value->Shared->Prop)(vs:List V)(Z:dW)(s:Shared):Prop:=∀ms,aD Z s.heap vs ms->Q ms s
noncomputable def KB (Q:Bool->Shared->Prop)(b:Bool)(_ρ:dW)(s:Shared):Prop:=Q b s
noncomputable abbrev bt (a:Act)(Z:dW)(s:Shared)(r:Res V)(Q:iN)(E:iN):Prop:=cb a Z s r (KV Q) E
noncomputable def cm (n:Nat)(sc:Scope)(e:Expr)(f:ME V):Prop:=
 ∀(a:Act),b9 n a->a.env.scope=sc->∀(Z:dW) (U:bw) (fr:eY) (s:Shared),St Z U s->FS a fr Z s.heap->
  ∀(Q:iN) (E:iN),bt a Z s (f fr U) Q E->wpAny bS a.A (eval e a.env) Q E s
noncomputable def gz (n:Nat)(sc:Scope)(es:List Expr)(f:ME (List V)):Prop:=
 ∀(a:Act),b9 n a->a.env.scope=sc->∀(Z:dW) (U:bw) (fr:eY) (s:Shared),St Z U s->FS a fr Z s.heap->
  ∀(pos:Pos) (Q:List Value->Shared->Prop) (E:iN),cb a Z s (f fr U) (KVs Q) E->
   wpAny bS a.A (spliced (backTo pos (starEach es a.env))) Q E s
noncomputable def jq (n:Nat)(sc:Scope)(e:Expr)(f:ME Bool):Prop:=
 ∀(a:Act),b9 n a->a.env.scope=sc->∀(Z:dW) (U:bw) (fr:eY) (s:Shared),St Z U s->FS a fr Z s.heap->
  ∀(Q:Bool->Shared->Prop) (E:iN),cb a Z s (f fr U) (KB Q) E->wpAny bS a.A (isTrue e a.env (eval e a.env)) Q E s
noncomputable def fO (a:Act)(Z:dW)(s:Shared)(r:ur)(Q:Flow->Shared->Prop)(E:iN):Prop:=match r with
 |.next bC bB=>∀bK s',St bK bB s'->cF a.D Z s.heap bK s'.heap->FS a bC bK s'.heap->Q .next s'
 |.brk bC bB=>∀bK s',St bK bB s'->cF a.D Z s.heap bK s'.heap->FS a bC bK s'.heap->Q .brk s'
 |.ret v bB=>∀bK s' mv,St bK bB s'->cF a.D Z s.heap bK s'.heap->aH bK s'.heap v mv->Q (.ret mv) s'
 |.exc c bC bB=>∀bK s' e B,((p8 a.l c bK bB s' e B\/AH a.l c bK bB s' e B)\/AI a.l c bK bB s' e B)->gY a.D (nX a.l) Z s.heap bK B s'.heap->FS a bC bK s'.heap->E (.ref e) s'
 |.stuck=>False
noncomputable def jT (n:Nat)(sc:Scope)(st:Stmt)(f:MS):Prop:=
 ∀(a:Act),b9 n a->a.env.scope=sc->∀(Z:dW) (U:bw) (fr:eY) (s:Shared),St Z U s->FS a fr Z s.heap->
  ∀(Q:Flow->Shared->Prop) (E:iN),fO a Z s (f fr U) Q E->wpAny bS a.A (exec st a.env) Q E s
noncomputable def cf (n:Nat)(sc:Scope)(st:List Stmt)(f:MS):Prop:=
 ∀(a:Act),b9 n a->a.env.scope=sc->∀(Z:dW) (U:bw) (fr:eY) (s:Shared),St Z U s->FS a fr Z s.heap->
  ∀(Q:Flow->Shared->Prop) (E:iN),fO a Z s (f fr U) Q E->wpAny bS a.A (execs st a.env) Q E s
noncomputable def QM (l:List Env)(Z:dW)(s:Shared)(r:Res V)(R:Result->Shared->Prop):Prop:=match r with
 |.ok v bB=>∀bK s' mv,St bK bB s'->cF [] Z s.heap bK s'.heap->aH bK s'.heap v mv->R (.ok (.ret mv)) s'
 |.exc c bB=>∀bK s' e B,p8 l c bK bB s' e B->gY [] (nX l) Z s.heap bK B s'.heap->R (.error (.ref e)) s'
 |.stuck=>False
noncomputable def aZ (n:Nat)(f:Addr)(g:List V->bw->Res V):Prop:=
 ∀(A:Around) (l:List Env),rW n A l->∀(Z:dW) (U:bw) (s:Shared) (vs:List V) (ms:List Value),St Z U s->iV l Z s.heap->aD Z s.heap vs ms->
  ∀(R:Result->Shared->Prop),QM l Z s (g vs U) R->codeAny bS A (.call (.ref f) ⟨ms,[]⟩) R s
end
section
variable {D:List Addr}
theorem gY.sub {a:Addr}(x:gY D F Z h bK B h')(hm:a∈bH Z):a∈bH bK:=by
 refine ct λG hG=>?_;obtain⟨u,JR,hu⟩:=x.more;refine hG ?_;rw[cC] at hm ⊢;rw[JR,x.eE,List.map_append,List.mem_append];exact hm.imp .inl id
theorem gY.ext (x:gY D F Z h bK B h')(S:gP bK U B):cF D Z h bK h':=by
 have slot :∀b o,h.get? b=some o->b∉bH Z->b∉D->bI o=true->∃sl,h'.get? b=some {o with slots:=sl}:=λb o e hb hd hs=>by
  obtain⟨sl,h1,h2⟩:=x.slot b o e hb hd hs;by_cases hF:b∈F
  .exact⟨sl,h2 hF⟩
  .exact⟨sl,x.stays _ _ (h1 hF)⟩
 have soft :∀b o,h.get? b=some o->b∉bH Z->bI o=true->∃o',h'.get? b=some o'/\bI o'=true:=λb o e hb hs=>by
  obtain⟨o',q,h1,h2⟩:=x.soft b o e hb hs;by_cases hF:b∈F
  .exact⟨o',h2 hF,q⟩
  .exact⟨o',x.stays _ _ (h1 hF),q⟩
 refine⟨x.more,x.eE,λa ha o e=>x.stays _ _ (x.held a ha o e),λb o e=>?_,λb o e hb hs=>x.stays _ _ (x.keep b o e hb hs),slot,soft⟩;by_cases hb:b∈bH Z
 .obtain⟨ob,e',_⟩:=S.gL (x.sub hb)
  exact⟨ob,x.stays _ _ e'⟩
 .cases hs:bI o with
  |false=>exact⟨o,x.stays _ _ (x.keep b o e hb hs)⟩
  |true=>obtain⟨o',e',_⟩:=soft b o e hb hs;exact⟨o',e'⟩
theorem gY.pre (y:gY D F cG h1 bK B h')(x:cF D Z h cG h1):gY D F Z h bK B h':=by
 refine ct λG hG=>?_;obtain⟨u,JR,hu⟩:=x.more;obtain⟨v,QK,hv⟩:=y.more;refine hG ?_;refine⟨⟨u++v,by refine QK.trans ?_;rw[JR];simp,λa ha=>?_⟩,y.eE.trans x.eE,λa ha o e=>y.held a (x.eE▸ha) o (x.held a ha o e),λb o e hb q=>y.keep b o (x.keep b o e hb q) (x.eM e hb) q,λb o e hb hd q=>?_,λb o e hb q=>?_,y.stays⟩
 .replace ha:=List.map_append▸ha
  rcases List.mem_append.mp ha with ha |ha
  .exact hu a ha
  .cases z:h.get? a with
   |none=>rfl
   |some o=>obtain⟨o1,e1⟩:=x.live a o z;replace e1:=(hv a ha)▸e1;injection e1
 .obtain⟨sl,e'⟩:=x.slot b o e hb hd q
  refine ct λG hG=>?_;obtain⟨JS,h1,h2⟩:=y.slot b _ e' (x.eM e hb) hd (q);refine hG ?_;exact⟨JS,h1,h2⟩
 .obtain⟨o1,e1,q1⟩:=x.soft b o e hb q
  exact y.soft b o1 e1 (x.eM e hb) q1
theorem gY.up (x:gY D F Z h bK B h1)(k:h1.UpToSlots h')(st:B.StaysIn h'):gY D F Z h bK B h':=by
 have nf :∀{o:Obj},bI o=true->∀vs,o.data≠.fields vs:=λ{o} q vs z=>Bool.noConfusion (show false=true from(aP eJ z).symm.trans q);refine⟨x.more,x.eE,x.held,x.keep,λb o e hb hd q=>?_,λb o e hb q=>?_,st⟩
 .obtain⟨sl,h1,h2⟩:=x.slot b o e hb hd q
  by_cases hF:b∈F
  .obtain⟨JS,e'⟩:=k b _ (h2 hF) (nf (q))
   exact⟨JS,λz=>absurd hF z,λ_=>e'⟩
  .exact⟨sl,h1,λz=>absurd z hF⟩
 .obtain⟨o1,q1,h1,h2⟩:=x.soft b o e hb q
  by_cases hF:b∈F
  .obtain⟨JS,e'⟩:=k b _ (h2 hF) (nf q1)
   exact⟨{o1 with slots:=JS},q1,λz=>absurd hF z,λ_=>e'⟩
  .exact⟨o1,q1,h1,λz=>absurd z hF⟩
theorem gY.weaken (x:gY D F Z h bK B h')(hd :∀a∈D,a∈D'):gY D' F Z h bK B h':=
 ⟨x.more,x.eE,x.held,x.keep,λb o e hb q=>x.slot b o e hb λhm=>q (hd b hm),x.soft,x.stays⟩
theorem gY.of0 (x:gY [] F Z h bK B h'):gY D F Z h bK B h':=x.weaken (by simp)
theorem gY.drop {F':List Addr}(x:gY D F Z h bK B h')(hd :∀b o,h.get? b=some o->(b∈D->b∈D')/\(b∈F↔b∈F')):gY D' F' Z h bK B h':=by
 refine⟨x.more,x.eE,x.held,x.keep,λb o e hb q s=>?_,λb o e hb s=>?_,x.stays⟩
 .obtain⟨sl,h1,h2⟩:=x.slot b o e hb (λz=>q ((hd b o e).1 z)) s
  exact⟨sl,λz=>h1 λy=>z ((hd b o e).2.mp y),λz=>h2 ((hd b o e).2.mpr z)⟩
 .obtain⟨o',q',h1,h2⟩:=x.soft b o e hb s
  exact⟨o',q',λz=>h1 λy=>z ((hd b o e).2.mp y),λz=>h2 ((hd b o e).2.mpr z)⟩
theorem iV.ext (x:cF D Z h bK h')(L:iV l Z h):iV l bK h':=by
 intro e he;refine ct λG hG=>?_;obtain⟨k,L,o,hf,hn,hb,ho,hs⟩:=L e he;obtain⟨o',e',PX⟩:=x.soft _ _ ho hn hs;refine hG ?_;exact⟨k,L,o',hf,x.eM ho hn,hb,e',PX⟩
theorem IsCell.soft {c:Addr}{v:Option Value}(N:h.IsCell c v) :∃o,h.get? c=some o/\bI o=true:=by
 refine ct λG hG=>?_;obtain⟨o,ho,hd⟩:=N;refine hG ?_;exact⟨o,ho,aP eJ hd⟩
theorem Ns.soft {c:Addr}{m:Str->Option Value}(N:h.Ns c m) :∃o,h.get? c=some o/\bI o=true:=by
 refine ct λG hG=>?_;obtain⟨o,_,_,ho,hd,_⟩:=N;refine hG ?_;exact⟨o,ho,aP eJ hd⟩
theorem DE (sl:Array (Option Value))(q:bI o=true):bI {o with slots:=sl}=true:=q
structure Carry (a:Act)(Z bK:dW)(h h':Heap):Prop where
 own :∀b o,(b=a.env.locals\/∃x,(x,b)∈a.env.cells)->h.get? b=some o->bI o=true->b∉bH Z->b∉bH bK/\∃sl,h'.get? b=some {o with slots:=sl}
 fr :∀b o,b∈nX a.l->h.get? b=some o->bI o=true->b∉bH Z->b∉bH bK/\∃o',h'.get? b=some o'/\bI o'=true
 val :∀v mv,aH Z h v mv->aH bK h' v mv
theorem Carry.of (k :∀b o,h.get? b=some o->bI o=true->b∉bH Z->b∉bH bK/\∃sl,h'.get? b=some {o with slots:=sl})(v :∀v mv,aH Z h v mv->aH bK h' v mv):Carry a Z bK h h':=
 ⟨λb o _ e q n=>k b o e q n,λb o _ e q n=>let ⟨n',sl,e'⟩:=k b o e q n;⟨n',_,e',DE sl q⟩,v⟩
theorem Carry.cell (x:Carry a Z bK h h'){y:Str}{c:Addr}{v:Option Value}(hy :(y,c)∈a.env.cells)(hn:c∉bH Z)(N:h.IsCell c v):c∉bH bK/\h'.IsCell c v:=
 let ⟨o,ho,hd⟩:=N
 let ⟨n,_,e⟩:=x.own c o (.inr ⟨y,hy⟩) ho (aP eJ hd) hn
 ⟨n,_,e,hd⟩
theorem iD.MA {m:Str->Option Value}{y:Str}(r:iD a Z h m y v)(l:a.env.kindOf y=some .local->∀mv,m y=some mv->aH Z h v mv->G)(c :∀c mv,a.env.kindOf y=some .cell->a.env.cells.lookup y=some c->h.IsCell c (some mv)->aH Z h v mv->G)(f :∀c mv,a.env.kindOf y=some .free->a.env.cells.lookup y=some c->h.IsCell c (some mv)->aH Z h v mv->G):G:=by
 unfold iD at r
 cases hk:a.env.kindOf y with
 |none=>rw[hk] at r;exact r.elim
 |some k=>
  rw[hk] at r
  cases k with
  | «local»=>exact let ⟨mv,hm,hv⟩:=r;l hk mv hm hv
  |cell=>exact let ⟨d,mv,hl,hc,hv⟩:=r;c d mv hk hl hc hv
  |free=>exact let ⟨d,mv,hl,hc,hv⟩:=r;f d mv hk hl hc hv
  |_=>exact r.elim
theorem iD.map {m m':Str->Option Value}{y:Str}(r:iD a Z h m y v)(l :∀mv,m y=some mv->m' y=some mv)(c :∀c mv,a.env.cells.lookup y=some c->h.IsCell c (some mv)->h'.IsCell c (some mv))(x :∀mv,aH Z h v mv->aH bK h' v mv):iD a bK h' m' y v:=by
 refine r.MA (λhk mv hm hv=>?_) (λd mv hk hl hc hv=>?_) (λd mv hk hl hc hv=>?_) <;>(unfold iD;rw[hk])
 .exact⟨mv,l mv hm,x mv hv⟩
 .exact⟨d,mv,hl,c d mv hl hc,x mv hv⟩
 .exact⟨d,mv,hl,c d mv hl hc,x mv hv⟩
theorem iD.carry {m:Str->Option Value}{y:Str}(x:Carry a Z bK h h')(hc :∀y c,(y,c)∈a.env.cells->c∉bH Z)(r:iD a Z h m y v):iD a bK h' m y v:=
 r.map (λ_ e=>e) (λc mv hl QN=>(x.cell (mem_of_lookup hl) (hc _ _ (mem_of_lookup hl)) QN).2) (x.val _)
theorem FS.carry (F:FS a fr Z h)(x:Carry a Z bK h h'):FS a fr bK h':=by
 refine ct λG hG=>?_;obtain⟨m,⟨oL,es,ep,eL,dL,rL⟩,hv⟩:=F.ns;obtain⟨n,_,e⟩:=x.own _ _ (.inl rfl) eL (aP eJ dL) F.o8;refine hG ⟨λe he=>?_,⟨m,⟨_,es,ep,e,dL,rL⟩,λi v e=>⟨(hv i v e).1,(hv i v e).2.carry x λy c hy=>(F.cells y c hy).1⟩⟩,n,F.u7,λy c hy=>?_,F.apart,F.laid⟩
 .exact let ⟨q,L,o,hf,hn,hb,ho,hs⟩:=F.live e he;let ⟨n,o',e',q'⟩:=x.fr L o (List.mem_filterMap.mpr ⟨e,he,hf⟩) ho hs hn;⟨q,L,o',hf,n,hb,e',q'⟩
 .exact let ⟨h1,h2,v,h3⟩:=F.cells y c hy;let ⟨n,h4⟩:=x.cell hy h1 h3;⟨n,h2,v,h4⟩
theorem FS.ext (F:FS a fr Z h)(x:cF [] Z h bK h'):FS a fr bK h':=
 F.carry ⟨λb o _ e q n=>⟨x.eM e n,x.slot b o e n (by simp) q⟩,λb o _ e q n=>⟨x.eM e n,x.soft b o e n q⟩,λ_ _ r=>r.mono x⟩
theorem cb.opt {o:Option Y}{K:Y->dW->Shared->Prop}(p:cb a Z s (Res.cO o U) K E)(k :∀v,o=some v->cb a Z s (.ok v U) K E->G):G:=
 match o,p,k with
 |some v,p,k=>k v rfl p
 |none,p,_=>p.elim
theorem cb.NI {c:Prop}[h:Decidable c]{r:Res Y}{K:Y->dW->Shared->Prop}(p:cb a Z s (if c then r else .stuck) K E)(k:c->cb a Z s r K E->G):G:=
 match h,p with
 |.isTrue hc,p=>k hc p
 |.isFalse _,p=>p.elim
theorem cb.step {r:Res β}(x:cF [] Z s.heap bK s'.heap)(p:cb a Z s r K E):cb a bK s' r K E:=by
 cases r with
 |ok v bB=>exact λnU u9 hs hx=>p nU u9 hs (x.trans hx)
 |exc c bB=>exact λnU u9 e B hf hx=>p nU u9 e B hf (hx.pre x)
 |stuck=>exact p
section
theorem cm.bind {e:Expr}{f:ME V}(hE:cm n sc e f)(ok:b9 n a)(bJ:a.env.scope=sc)(S:St Z U s)(F:FS a fr Z s.heap){k:V->bw->Res β}(p:cb a Z s ((f fr U).andThen k) K E)(h :∀v bq cG s1 mv,St cG bq s1->FS a fr cG s1.heap->cF [] Z s.heap cG s1.heap->aH cG s1.heap v mv->cb a cG s1 (k v bq) K E->Q mv s1) :
  wpAny bS a.A (eval e a.env) Q E s:=by
 refine hE a ok bJ Z U fr s S F Q E ?_
 cases hf:f fr U with
 |ok v bq=>replace p:=hf▸p;exact λcG s1 S1 x1 mv r1=>h v bq cG s1 mv S1 (F.ext x1) x1 r1 (cb.step x1 p)
 |exc c bq=>replace p:=hf▸p;exact p
 |stuck=>replace p:=hf▸p;exact p
theorem gz.bind {es:List Expr}{f:ME (List V)}(hE:gz n sc es f)(ok:b9 n a)(bJ:a.env.scope=sc)(S:St Z U s)(F:FS a fr Z s.heap){k:List V->bw->Res β}{Q:List Value->Shared->Prop}(p:cb a Z s ((f fr U).andThen k) K E)(h :∀vs bq cG s1 ms,St cG bq s1->FS a fr cG s1.heap->cF [] Z s.heap cG s1.heap->aD cG s1.heap vs ms->cb a cG s1 (k vs bq) K E->Q ms s1) :
  wpAny bS a.A (spliced (backTo pos (starEach es a.env))) Q E s:=by
 refine hE a ok bJ Z U fr s S F pos Q E ?_
 cases hf:f fr U with
 |ok v bq=>replace p:=hf▸p;exact λcG s1 S1 x1 mv r1=>h v bq cG s1 mv S1 (F.ext x1) x1 r1 (cb.step x1 p)
 |exc c bq=>replace p:=hf▸p;exact p
 |stuck=>replace p:=hf▸p;exact p
theorem jq.bind {e:Expr}{f:ME Bool}(hE:jq n sc e f)(ok:b9 n a)(bJ:a.env.scope=sc)(S:St Z U s)(F:FS a fr Z s.heap){k:Bool->bw->Res β}{Q:Bool->Shared->Prop}(p:cb a Z s ((f fr U).andThen k) K E)(h :∀v bq cG s1,St cG bq s1->FS a fr cG s1.heap->cF [] Z s.heap cG s1.heap->cb a cG s1 (k v bq) K E->Q v s1) :
  wpAny bS a.A (isTrue e a.env (eval e a.env)) Q E s:=by
 refine hE a ok bJ Z U fr s S F Q E ?_
 cases hf:f fr U with
 |ok v bq=>replace p:=hf▸p;exact λcG s1 S1 x1=>h v bq cG s1 S1 (F.ext x1) x1 (cb.step x1 p)
 |exc c bq=>replace p:=hf▸p;exact p
 |stuck=>replace p:=hf▸p;exact p
theorem bt.val (p:bt a Z s (.ok v U) Q E)(S:St bK U s')(x:cF [] Z s.heap bK s'.heap)(r:aH bK s'.heap v mv):Q mv s':=
 p bK s' S x mv r
end
theorem fO.step {r:ur}{Q:Flow->Shared->Prop}(x:cF a.D Z s.heap bK s'.heap)(p:fO a Z s r Q E):fO a bK s' r Q E:=by
 revert p;cases r with
 |next bC bB=>intro p;exact λnU u9 hs hx hv=>p nU u9 hs (x.trans hx) hv
 |brk bC bB=>intro p;exact λnU u9 hs hx hv=>p nU u9 hs (x.trans hx) hv
 |ret v bB=>intro p;exact λnU u9 mv hs hx hv=>p nU u9 mv hs (x.trans hx) hv
 |exc c bC bB=>intro p;exact λnU u9 e B hf hx hv=>p nU u9 e B hf (hx.pre x) hv
 |stuck=>intro p;exact p
end
def flat (U:bw)(v:V):Option V:=match v with
 |.ref i=>match U[i]? with
  |some (.list vs)=>if V.cT vs then some (.list vs) else .none
  |_=>.none
 |v=>if v.plain then some v else .none
noncomputable def items? (U:bw)(v:V):Option (List V):=match v with
 |.ref i=>match U[i]? with
  |some (.list vs)=>some vs
  |_=>.none
 |.list vs=>some vs
 |_=>.none
noncomputable def cE (n:Nat):Bool:=decide (n<=1000000)
noncomputable def V.int? : V->Option Int
 |.int i=>some i
 |_=>Option.none
noncomputable def V.g6 : V->Option (List V)
 |.tup vs=>some vs
 |_=>Option.none
noncomputable def V.nY : V->Option (List Nat)
 |.str cs=>some cs
 |_=>Option.none
theorem V.fH {i:Int}(e:v.int? = some i):v=.int i:=by cases v <;> cases e;rfl
theorem V.eP {i:List V}(e:v.g6 = some i):v=.tup i:=by cases v <;> cases e;rfl
theorem V.iW {i:List Nat}(e:v.nY = some i):v=.str i:=by cases v <;> cases e;rfl
noncomputable def QO (op:Operator)(x y:Int)(U:bw):Res V:=match op with
 |.Add=>.ok (.int (x+y)) U
 |.Sub=>.ok (.int (x - y)) U
 |.Mult=>if x.natAbs<2 ^ 64\/y.natAbs<2 ^ 64 then .ok (.int (x * y)) U else .stuck
 |.FloorDiv=>if y≠0/\y.natAbs<2 ^ 30 then .ok (.int (x.fdiv y)) U else .stuck
 |.Mod=>if y≠0/\y.natAbs<2 ^ 30 then .ok (.int (x.fmod y)) U else .stuck
 |_=>.stuck
def JV (a b:V)(U:bw):Option (List V×List V):=(items? U a).bind λx=>(items? U b).map λy=>(x,y)
def NJ (a b:V)(U:bw):Res V:=match a.nY with
 |some x=>match b.nY with
  |some y=>if cE (x.length+y.length) then .ok (.str (x++y)) U else .stuck
  |.none=>.stuck
 |.none=>.stuck
def QP (a b:V)(U:bw):Res V:=match a.g6 with
 |some x=>match b.g6 with
  |some y=>if cE (x.length+y.length) then .ok (.tup (x++y)) U else .stuck
  |.none=>.stuck
 |.none=>match JV a b U with
  |some q=>if cE (q.1.length+q.2.length) then .ok (.ref U.length) (U++[.list (q.1++q.2)]) else .stuck
  |.none=>NJ a b U
def AJ (op:Operator)(a b:V):ME V:=λ_ U=>match a.int? with
 |some x=>match b.int? with
  |some y=>QO op x y U
  |.none=>.stuck
 |.none=>match op with
  |.Add=>QP a b U
  |_=>.stuck
def aU (op:Operator)(f g:ME V):ME V:=f.bind λa=>g.bind λb=>AJ op a b
def ai (i:Nat):ME V:=λfr U=>Res.cO (fr.lookup i) U
noncomputable def aS:List (ME V)->ME (List V)
 |[]=>ah []
 |f::fs=>f.bind λv=>(aS fs).bind λvs=>ah (v::vs)
def bj (fs:List (ME V)):ME V:=(aS fs).bind λvs=>if cE vs.length then ah (.tup vs) else ie
def dj (fs:List (ME V)):ME V:=(aS fs).bind λvs=>if cE vs.length then (λ_ U=>.ok (.ref U.length) (U++[.list vs])) else ie
section
variable {D:List Addr}
theorem St.fW {tk:Nat}(S:St Z U s):St Z U {s with toks:=tk}:=⟨S.heap,S.gens,S.os⟩
theorem aq {i:Int}:cm n sc (.Constant (.int i) k pos) (ah (.int i)):=by
 intro a ok bJ Z U fr s S F Q E p;exact wpAny_mkInt (bt.val (s':={s with toks:=s.toks+1}) p S.fW (.refl ..) (.int i _))
theorem cY {x:String}{cs:List Nat}(hx:ofString x=cL cs):cm n sc (.Constant (.str (ofString x)) k pos) (ah (.str cs)):=by
 intro a ok bJ Z U fr s S F Q E p;exact rl hx<|wpAny_mkText (bt.val (s':={s with toks:=s.toks+1}) p S.fW (.refl ..) (.str cs _))
theorem gf:cm n sc (.Constant (.bool b) k pos) (ah (.bool b)):=by
 intro a ok bJ Z U fr s S F Q E p;exact aw (bt.val p S (.refl ..) (.bool b))
theorem eo:cm n sc (.Constant .none k pos) (ah .none):=by
 intro a ok bJ Z U fr s S F Q E p;exact aw (bt.val p S (.refl ..) .none)
theorem F6 (ok:b9 n a)(F:FS a fr Z s.heap)(e:fr.lookup i=some v)(hc :(W.nm i ==("__classdict__" : Str))=false)(h :∀mv,aH Z s.heap v mv->Q mv s):wpAny bS a.A (loadName a.env (W.nm i)) Q E s:=by
 obtain⟨m,hm,hv⟩:=F.ns;have r:=(hv i v e).2;exact r.MA (λhk mv e1 e2=>wpAny_loadName_local ok.kind hk hm e1 (h mv e2)) (λc mv hk e1 e2 e3=>wpAny_loadName_cell ok.kind hk e1 e2 (h mv e3)) (λc mv hk e1 e2 e3=>wpAny_loadName_free ok.kind hk e1 e2 (h mv e3) hc)
theorem DF {x:Str}(hx:W.nm i=x)(hd :(x ==("__debug__" : Str))=false)(hc :(x ==("__classdict__" : Str))=false) :
  cm n sc (.Name x pos) (ai i):=by
 intro a ok bJ Z U fr s S F Q E p;subst hx;refine wpAny_Name ?_ hd;unfold ai at p;refine cb.opt p λv e p=>?_;exact F6 ok F e hc λmv r=>bt.val p S (.refl ..) r
theorem i4 {x:Str}{v:Value}(ok:b9 n a)(S:St Z U s)(hx:a.env.scope.names.lookup x=some .globalImplicit)(e:nsIn W.K mainGlobals x=some (some v))(hd :(x ==("__debug__" : Str))=false)(h:Q v s):wpAny bS a.A (eval (.Name x pos) a.env) Q E s:=
 Calls.Name_function_global ok.kind hx (Calls.loadGlobal_global (rl ok.glob<|S.heap.ok.T.g.keeps S.heap.base) (mg_of S.heap.ok.X S.heap.ok.T.g e) h) hd
theorem gE {x:Str}{v:Value}(ok:b9 n a)(S:St Z U s)(hx:a.env.scope.names.lookup x=some .globalImplicit)(e:nsIn W.K mainGlobals x=some none)(hv:bootBuiltins x=some v)(hn:x≠"__name__")(hd :(x ==("__debug__" : Str))=false)(h:Q v s):wpAny bS a.A (eval (.Name x pos) a.env) Q E s:=
 Calls.Name_function_global ok.kind hx (Calls.loadGlobal_builtin (rl ok.glob<|S.heap.ok.T.g.keeps S.heap.base) (mg_none_of S.heap.ok.X S.heap.ok.T.g e) (rl ok.blt<|S.heap.ok.T.b.keeps S.heap.base) ((S.heap.ok.T.builtins x hn).trans hv) h) hd
theorem m5 {x:Str}{i:Int}{t:Tok}(hx:sc.names.lookup x=some .globalImplicit)(e:nsIn W.K mainGlobals x=some (some (.int i t)))(hd :(x ==("__debug__" : Str))=false):cm n sc (.Name x pos) (ah (.int i)):=by
 intro a ok bJ Z U fr s S F Q E p;subst bJ;exact i4 ok S hx e hd (bt.val p S (.refl ..) (.int i t))
theorem iX (h:Heap):h.get? h.objs.size=none:=by
 cases z:h.get? h.objs.size with
 |none=>rfl
 |some o=>exact absurd (cK z) (Nat.lt_irrefl _)
theorem St.tuple {vs:List V}{ms:List Value}(S:St Z U s)(r:aD Z s.heap vs ms) :
  St Z U {s with heap:=s.heap.push {cls:=.type "tuple",data:=.seq ms.toArray}}/\cF [] Z s.heap Z (s.heap.push {cls:=.type "tuple",data:=.seq ms.toArray})/\
   aH Z (s.heap.push {cls:=.type "tuple",data:=.seq ms.toArray}) (.tup vs) (.ref s.heap.objs.size):=by
 have x:cF [] Z s.heap Z (s.heap.push {cls:=.type "tuple",data:=.seq ms.toArray}):=cF.push _ _;refine⟨⟨S.heap.keeps (λ_ _ e=>bT _ e),S.gens,S.os⟩,x,?_⟩;exact .tup (cD _ rfl) rfl rfl S.heap.jS (by simpa using r.mono x)
theorem St.ym (S:St Z U s)(r:aD Z s.heap vs ms) :
  St Z U {s with heap:=s.heap.push {cls:=.type "list",data:=.seq ms.toArray}}/\cF [] Z s.heap Z (s.heap.push {cls:=.type "list",data:=.seq ms.toArray})/\
   aH Z (s.heap.push {cls:=.type "list",data:=.seq ms.toArray}) (.list vs) (.ref s.heap.objs.size):=by
 have x:cF [] Z s.heap Z (s.heap.push {cls:=.type "list",data:=.seq ms.toArray}):=cF.push _ _;refine⟨⟨S.heap.keeps (λ_ _ e=>bT _ e),S.gens,S.os⟩,x,?_⟩;exact .list (cD _ rfl) rfl rfl S.heap.jS (by simpa using r.mono x)
theorem St.MB (S:St Z U s)(r:aD Z s.heap vs ms) :
  St (Z.add (s.heap.objs.size,s.heap.objs.size)) (U++[.list vs]) {s with heap:=s.heap.push {cls:=.type "list",data:=.seq ms.toArray}}/\
   cF [] Z s.heap (Z.add (s.heap.objs.size,s.heap.objs.size)) (s.heap.push {cls:=.type "list",data:=.seq ms.toArray})/\
   aH (Z.add (s.heap.objs.size,s.heap.objs.size)) (s.heap.push {cls:=.type "list",data:=.seq ms.toArray}) (.ref U.length) (.ref s.heap.objs.size):=by
 have k :∀b o,s.heap.get? b=some o->(s.heap.push {cls:=.type "list",data:=.seq ms.toArray}).get? b=some o:=λ_ _ e=>bT _ e;have x:cF [] Z s.heap (Z.add (s.heap.objs.size,s.heap.objs.size)) (s.heap.push {cls:=.type "list",data:=.seq ms.toArray}):=
  ⟨⟨[_],rfl,by simp[iX]⟩,rfl,λb _ o e=>k b o e,λb o e=>⟨o,k b o e⟩,λb o e _ _=>k b o e,λb o e _ _ _=>⟨o.slots,k b o e⟩,λb o e _ q=>⟨o,k b o e,q⟩⟩
 obtain⟨S',_⟩:=S.heap.alloc (p:=(s.heap.objs.size,s.heap.objs.size)) (o':=.list vs) k (iX _)
  ⟨rfl,_,_,cD _ rfl,by simpa using r.mono x⟩
 refine⟨⟨S',S.gens,S.os⟩,x,?_⟩;have :(Z.add (s.heap.objs.size,s.heap.objs.size)).objs[U.length]? = some (s.heap.objs.size,s.heap.objs.size):=by
  refine rr S.heap.len ?_;simp[dW.add]
 exact .ref (p:=(s.heap.objs.size,s.heap.objs.size)) this
theorem dn (h:cE k=true):k<=sizeLine:=by
 have:=of_decide_eq_true h;refine rl sizeLine_eq ?_;exact q3 ⋯ (by rfl)
theorem aj:gz n sc [] (aS []):=by
 intro a ok bJ Z U fr s S F pos Q E p;exact args_nil (p Z s S (.refl ..) [] .nil)
theorem ag {e:Expr}{es:List Expr}{f:ME V}(he :∀env:Env,starEach (e::es) env =(false,eval e env)::starEach es env)(hf:cm n sc e f)(hs:gz n sc es (aS fs)):gz n sc (e::es) (aS (f::fs)):=by
 intro a ok bJ Z U fr s S F pos Q E p;refine args_cons (hf.bind ok bJ S F p λv bq cG s1 mv S1 F1 x1 r1 p1=>?_) (he _);refine hs.bind ok bJ S1 F1 p1 λvs bU jo s2 ms S2 F2 x2 r2 p2=>?_;exact p2 jo s2 S2 (.refl ..) (mv::ms) (.cons (r1.mono x2) r2)
theorem aM {es:List Expr}(hs:gz n sc es (aS fs)):cm n sc (.Tuple es k pos) (bj fs):=by
 intro a ok bJ Z U fr s S F Q E p;refine Tuple_ (hs.bind ok bJ S F p λvs bU jo s2 ms S2 F2 x2 r2 p2=>?_);dsimp only at p2;by_cases hz:cE vs.length=true
 .replace p2:=(ay hz)▸p2
  obtain⟨S3,x3,r3⟩:=S2.tuple r2;exact wpAny_newObj_type (bt.val p2 S3 x3 r3) (by show ms.toArray.size<=sizeLine;exact rl List.size_toArray<|rr r2.length<|dn hz)
 .rw[av hz] at p2;exact p2.elim
theorem cz {es:List Expr}(hs:gz n sc es (aS fs)):cm n sc (.List es pos) (dj fs):=by
 intro a ok bJ Z U fr s S F Q E p;refine List_ (hs.bind ok bJ S F p λvs bU jo s2 ms S2 F2 x2 r2 p2=>?_);dsimp only at p2;by_cases hz:cE vs.length=true
 .rw[ay hz] at p2
  obtain⟨S3,x3,r3⟩:=S2.MB r2;exact wpAny_newObj_type (bt.val p2 S3 x3 r3) (by show ms.toArray.size<=sizeLine;exact rl List.size_toArray<|rr r2.length<|dn hz)
 .rw[av hz] at p2;exact p2.elim
theorem dY (S:gP Z U h)(r:aH Z h v mv)(e:items? U v=some vs) :
  ∃b ms,mv=.ref b/\h.IsList b ms/\aD Z h vs ms.toList:=by
 revert e;cases v with
 |ref i=>
  intro e;obtain⟨p_,hp,rfl⟩:=r.fm;unfold items? at e;dsimp only at e
  cases ho:U[i]? with
  |none=>replace e:=ho▸e;injection e
  |some o=>cases o with
   |list jN=>
    replace e:=ho▸e;injection e with e;subst e;obtain⟨e1,ms,k,g,q⟩:=S.objs _ _ _ ho hp;exact⟨_,ms,rfl,rl e1<|⟨_,g,rfl,k,rfl⟩,q⟩
   |_=>replace e:=ho▸e;injection e
 |list jN=>
  intro e;injection e with e;subst e
  cases r with
  |list ho hc hd hn q=>exact⟨_,_,rfl,⟨_,ho,hc,_,hd⟩,q⟩
 |_=>intro e;injection e
theorem i7 {vs:Array Y}(h:vs.size=k):vs.isEmpty=decide (k=0):=by subst h;simp[Array.isEmpty]
theorem JW {x y:List V}(hz:cE (x.length+y.length)=true)(S:St Z U s)(rx:aH Z s.heap (.tup x) mx)(ry:aH Z s.heap (.tup y) my)(p:bt a Z s (.ok (.tup (x++y)) U) Q E):wpAny bS a.A (binaryOp .Add mx my) Q E s:=by
 have rx0:=rx;have ry0:=ry
 cases rx with
 |@tup _ t o vs k ho hc hd hn rx=>
 cases ry with
 |@tup _ b o2 ws k2 wQ xY qZ VT ry=>
 obtain⟨cls,dd,data,sl⟩:=o;obtain⟨QQ,F7,data2,F8⟩:=o2;simp only at hc hd xY qZ;subst hc hd xY qZ;have lx:=rx.length;have ly:=ry.length;have Tg:vs.size=x.length:=by refine rl lx ?_;simp
 have VU:ws.size=y.length:=by refine rl ly ?_;simp
 by_cases hv:x=[]
 .subst hv
  exact concat_meets ⟨_,ho,rfl⟩ ⟨_,wQ,rfl⟩ noFill_tuple_add seq_tuple_add PySem.F.slot_tuple_add PySem.F.entry_tuple_add (PySem.F.args_tuple_add_2 _ _)
   (tuple_addW0 t b vs ws k k2 dd F7 sl F8 ((i7 Tg).trans rfl)) ⟨ho,wQ,bt.val p S (.refl ..) ry0⟩
 .have hvl:0<x.length:=List.length_pos_iff.mpr hv
  by_cases hw:y=[]
  .subst hw
   rw[List.append_nil] at p;exact concat_meets ⟨_,ho,rfl⟩ ⟨_,wQ,rfl⟩ noFill_tuple_add seq_tuple_add PySem.F.slot_tuple_add PySem.F.entry_tuple_add (PySem.F.args_tuple_add_2 _ _)
    (tuple_addW1 t b vs ws k k2 dd F7 sl F8 (by refine rl (i7 Tg) ?_;simp;exact hv) ((i7 VU).trans rfl)) ⟨ho,wQ,bt.val p S (.refl ..) rx0⟩
  .have Yt:0<y.length:=List.length_pos_iff.mpr hw
   obtain⟨S3,x3,r3⟩:=S.tuple (rx.append ry);have e :(vs++ws) =(vs.toList++ws.toList).toArray:=by simp
   exact concat_meets ⟨_,ho,rfl⟩ ⟨_,wQ,rfl⟩ noFill_tuple_add seq_tuple_add PySem.F.slot_tuple_add PySem.F.entry_tuple_add (PySem.F.args_tuple_add_2 _ _)
    (tuple_addW2 t b vs ws k k2 dd F7 sl F8 (by refine rl (i7 Tg) ?_;simp;exact hv) (by refine rl (i7 VU) ?_;simp;exact hw) (rl Tg<|rl VU<|dn hz)) ⟨ho,wQ,rl e<|bt.val p S3 x3 r3⟩
theorem JX {xs:List V}(hz:cE (xs.length+ys.length)=true)(S:St Z U s)(rx:aH Z s.heap x mx)(ry:aH Z s.heap y my)(ex:items? U x=some xs)(ey:items? U y=some ys)(p:bt a Z s (.ok (.ref U.length) (U++[.list (xs++ys)])) Q E):wpAny bS a.A (binaryOp .Add mx my) Q E s:=by
 obtain⟨b1,m1,rfl,l1,q1⟩:=dY S.heap rx ex;obtain⟨b2,m2,rfl,l2,q2⟩:=dY S.heap ry ey;obtain⟨⟨cls,dd,data,sl⟩,ho,hc,k,hd⟩:=l1;obtain⟨⟨QQ,F7,data2,F8⟩,wQ,xY,k2,qZ⟩:=l2;simp only at hc hd xY qZ;subst hc hd xY qZ;have lx:=q1.length;have ly:=q2.length;obtain⟨S3,x3,r3⟩:=S.MB (q1.append q2);have e :(m1++m2) =(m1.toList++m2.toList).toArray:=by simp
 refine concat_meets ⟨_,ho,rfl⟩ ⟨_,wQ,rfl⟩ noFill_list_add seq_list_add PySem.F.slot_list_add PySem.F.entry_list_add (PySem.F.args_list_add_2 _ _)
  (list_addW b1 b2 m1 m2 k k2 dd F7 sl F8 (rr eZ<|rr eZ<|rr lx<|rr ly<|dn hz)) ⟨ho,wQ,?_⟩
 exact rl e<|bt.val p S3 x3 r3
theorem JY (S:St Z U s)(rx:aH Z s.heap x mx)(ry:aH Z s.heap y my)(p:bt a Z s (NJ x y U) Q E):wpAny bS a.A (binaryOp .Add mx my) Q E s:=by
 unfold NJ at p
 cases hx:x.nY with
 |none=>rw[hx] at p;exact p.elim
 |some i=>
  cases hy:y.nY with
  |none=>rw[hx,hy] at p;exact p.elim
  |some j=>
   replace p:=hy▸hx▸p;obtain rfl:=V.iW hx;obtain rfl:=V.iW hy;obtain⟨t1,rfl⟩:=rx.str_inv;obtain⟨t2,rfl⟩:=ry.str_inv;by_cases hz:cE (i.length+j.length)=true
   .simp only[hz,if_true] at p
    refine P.add_str ?_;have e :∀l:List Nat,(cL l).length=l.length:=λl=>List.size_toArray;refine rl (e ..)<|rl (e ..) ?_
    revert p;cases i with
    |nil=>intro p;exact bt.val p S (.refl ..) (.str j t2)
    |cons c i=>
     intro p
     cases j with
     |nil=>exact bt.val p S (.refl ..) (rl (List.append_nil ..)<|.str _ t1)
     |cons d j=>
      have e2:cL (c::i)++cL (d::j)=cL (c::i++d::j):=aP Str.mk (List.append_toArray (c::i) (d::j));refine⟨?_,?_⟩
      .exact rl (e2 ..)<|rl (e ..)<|rl (bY ..)<|dn hz
      .exact rl e2<|bt.val (s':={s with toks:=s.toks+1}) p S.fW (.refl ..) (.str _ _)
   .simp only[hz] at p;exact p.elim
theorem F9 {x:Int}(h:x.natAbs<2 ^ 64):Builtin.Int.intBits x<=64:=intBits_le_64 (UE h) (UG h)
theorem JZ {op:Operator}{x y:Int}{t u:Tok}(S:St Z U s)(p:bt a Z s (QO op x y U) Q E):wpAny bS a.A (binaryOp op (.int x t) (.int y u)) Q E s:=by
 have key :∀(z:Int) (v:Tok),bt a Z s (.ok (.int z) U) Q E->Q (.int z v) {s with toks:=s.toks+1}:=λz v p=>bt.val (s':={s with toks:=s.toks+1}) p S.fW (.refl ..) (.int _ _);revert p;cases op with
 |Add=>intro p;exact P.add_int (key _ _ p)
 |Sub=>intro p;exact P.sub_int (key _ _ p)
 |Mult=>exact λp=>cb.NI p λhb p=>P.mul_int (key _ _ p) (hb.elim (λhb=>.of_left (F9 hb)) λhb=>.of_right (F9 hb))
 |FloorDiv=>exact λp=>cb.NI p λhb p=>floordiv_int hb.1 (key _ _ p) (.inl (PyProof.noPylong_small (Nat.lt_of_lt_of_le hb.2 (by decide))))
 |Mod=>exact λp=>cb.NI p λhb p=>mod_int' hb.1 (key _ _ p)
 |_=>intro p;exact p.elim
theorem NK {op:Operator}(S:St Z U s)(rx:aH Z s.heap x mx)(ry:aH Z s.heap y my)(p:bt a Z s (AJ op x y fr U) Q E):wpAny bS a.A (binaryOp op mx my) Q E s:=by
 unfold AJ at p
 cases hx:x.int? with
 |some i=>
  obtain rfl:=V.fH hx
  cases hy:y.int? with
  |some j=>
   obtain rfl:=V.fH hy;simp only[hx,hy] at p;obtain⟨t1,rfl⟩:=rx.int_inv;obtain⟨t2,rfl⟩:=ry.int_inv;exact JZ S p
  |none=>simp only[hx,hy] at p;exact p.elim
 |none=>
  simp only[hx] at p
  cases op with
  |Add=>
   simp only[QP] at p
   cases tx:x.g6 with
   |some xs=>
    obtain rfl:=V.eP tx
    cases ty:y.g6 with
    |some ys=>
     obtain rfl:=V.eP ty;simp only[tx,ty] at p;by_cases hz:cE (xs.length+ys.length)=true
     .rw[ay hz] at p;exact JW hz S rx ry p
     .rw[av hz] at p;exact p.elim
    |none=>simp only[tx,ty] at p;exact p.elim
   |none=>
    simp only[tx] at p
    cases hq:JV x y U with
    |none=>rw[hq] at p;exact JY S rx ry p
    |some q=>
     rw[hq] at p;refine aT hq λxs ex hq=>?_;refine dh hq λys ey z2=>?_;subst z2;by_cases hz:cE (xs.length+ys.length)=true
     .simp only[hz,if_true] at p;exact JX hz S rx ry ex ey p
     .simp only[hz] at p;exact p.elim
  |_=>exact p.elim
theorem aI {l r:Expr}{op:Operator}{f g:ME V}(hl:cm n sc l f)(hr:cm n sc r g):cm n sc (.BinOp l op r pos) (aU op f g):=by
 intro a ok bJ Z U fr s S F Q E p;refine wpAny_BinOp (hl.bind ok bJ S F p λv bq cG s1 mv S1 F1 x1 r1 p1=>?_);refine hr.bind ok bJ S1 F1 p1 λv2 bU jo s2 MC S2 F2 x2 r2 p2=>?_;exact NK S2 (r1.mono x2) r2 p2
end
set_option tactic.hygienic true
noncomputable def cn (az:List (V×V))(k:V):Option V:=match az with
 |[]=>none
 |kv::r=>if V.beq kv.1 k then some kv.2 else cn r k
def gp (az:List (V×V))(k v:V):List (V×V):=
 if az.any (λkv=>V.beq kv.1 k) then az.map (λkv=>if V.beq kv.1 k then (kv.1,v) else kv) else az++[(k,v)]
def DG (az:List (V×V))(k:V):List (V×V):=az.filter λkv=>!V.beq kv.1 k
def fu (k:DK)(x:V):Bool:=match k,x with
 |.int,.int _=>true
 |.str,.str _=>true
 |.tup,.tup ks=>V.k6 ks&&decide (V.cw ks<=6)
 |_,_=>false
noncomputable def k8:List V->Option (List Int)
 |[]=>some []
 |v::vs=>v.int?.bind λi=>(k8 vs).map (i::·)
def NL (x c:V)(U:bw):Option Bool:=match c with
 |.ref i=>match U[i]? with
  |some (.dict k az)=>if fu k x then some (cn az x).isSome else .none
  |_=>.none
 |.str t=>x.nY.map λu=>!(Builtin.Str.occurrences (cL t) (cL u) 0 (cL t).length 1).isEmpty
 |.list vs=>x.int?.bind λk=>(k8 vs).map λks=>ks.any (· == k)
 |_=>.none
noncomputable def V.bool? : V->Option Bool
 |.bool b=>some b
 |_=>Option.none
theorem V.yo {i:Bool}(e:v.bool? = some i):v=.bool i:=by cases v <;> cases e;rfl
def J0 (a b:V)(U:bw):Option Bool:=(flat U a).bind λp=>(flat U b).bind λq=>if decide (p.depth<=64)&&decide (q.depth<=64) then some (V.beq p q) else .none
def NM (a b:V)(U:bw):Option Bool:=match a.bool? with
 |some x=>b.bool?.map λy=>x == y
 |.none=>J0 a b U
def J1 (f:Int->Int->Bool)(a b:V):Option Bool:=a.int?.bind λx=>b.int?.map λy=>f x y
def ig (op:CmpOp)(a b:V)(U:bw):Option Bool:=match op with
 |.Eq=>NM a b U
 |.NotEq=>(NM a b U).map (!·)
 |.Lt=>J1 (λx y=>decide (x<y)) a b
 |.LtE=>J1 (λx y=>decide (x<=y)) a b
 |.Gt=>J1 (λx y=>decide (x > y)) a b
 |.Is=>match b with |.none=>some (V.beq a .none) |_=>.none
 |.IsNot=>match b with |.none=>some (!V.beq a .none) |_=>.none
 |.In=>NL a b U
 |.NotIn=>(NL a b U).map (!·)
 |_=>.none
def iE (op:CmpOp)(f g:ME V):ME V:=f.bind λa=>g.bind λb=>λ_ U=>(Res.cO (ig op a b U) U).andThen λc U=>.ok (.bool c) U
def bx (op:CmpOp)(f g:ME V):ME Bool:=f.bind λa=>g.bind λb=>λ_ U=>Res.cO (ig op a b U) U
def jE (o1 o2:CmpOp)(f g h:ME V):ME Bool:=f.bind λa=>g.bind λb=>λfr U=>(Res.cO (ig o1 a b U) U).andThen λc U=>
 if c then (h.bind λd=>λ_ U=>Res.cO (ig o2 b d U) U) fr U else .ok false U
def rX (f:ME Bool):ME Bool:=f.bind λb=>ah (!b)
noncomputable def jF:List (ME Bool)->ME Bool
 |[]=>ah true
 |f::fs=>f.bind λb=>if b then jF fs else ah false
noncomputable def rY:List (ME Bool)->ME Bool
 |[]=>ah false
 |f::fs=>f.bind λb=>if b then ah true else rY fs
def o9 (f:ME V):ME Bool:=f.bind λv=>match v with |.bool b=>ah b |_=>ie
def rd (t:ME Bool)(f g:ME V):ME V:=t.bind λb=>if b then f else g
def va (f g:ME V):ME V:=f.bind λv=>match v with |.bool b=>if b then g else ah (.bool false) |_=>ie
section
variable {D:List Addr}
theorem nZ (S:gP Z U h)(hd:d∈bH Z) :(d == sysModules)=false:=by
 obtain⟨o,e⟩:=S.ok.sys;rw[beq_eq_false_iff_ne];intro z;exact S.mZ e (z▸hd)
theorem eB (e:Z.objs[i]? = some p):p.2∈bH Z:=cC.mpr (.inl (List.mem_map.mpr ⟨p,List.mem_of_getElem? e,rfl⟩))
theorem rZ {p:V}(S:gP Z U h)(r:aH Z h v mv)(e:flat U v=some p):p.plain=true/\∃as,Reads h mv (Cp p) as:=by
 have key :∀v:V,aH Z h v mv->(if v.plain then some v else .none)=some p->p.plain=true/\∃as,Reads h mv (Cp p) as:=λv r e=>by
  by_cases hp:v.plain=true
  .replace e:=(ay hp)▸e;injection e with e;subst e;exact⟨hp,r.reads hp⟩
  .replace e:=(av hp)▸e;injection e
 cases v with
 |ref i=>
  obtain⟨p_,hp,rfl⟩:=r.fm;unfold flat at e;dsimp only at e
  cases ho:U[i]? with
  |none=>replace e:=ho▸e;injection e
  |some o=>cases o with
   |list vs=>
    replace e:=ho▸e;dsimp only at e;by_cases yq:V.cT vs=true
    .replace e:=(ay yq)▸e
     injection e with e;subst e;obtain⟨e1,ms,k,g,q⟩:=S.objs _ _ _ ho hp;obtain⟨as,q'⟩:=q.reads yq;exact rl e1<|⟨yq,_,.list g rfl rfl q'⟩
    .replace e:=(av yq)▸e;injection e
   |_=>replace e:=ho▸e;injection e
 |_=>exact key _ r e
theorem r6 {k:Int}(al:d8 (λkv km=>kv.1=.int km.1/\aH Z h kv.2 km.2) az ks) :
  match cn az (.int k),valueAt ks k with |some v,some m=>aH Z h v m |none,none=>True |_,_=>False:=by
 induction al with
 |nil=>exact trivial
 |@cons kv km as bs r _ ih=>
  obtain⟨e,q⟩:=r;by_cases hk:km.1=k
  .have h1:cn (kv::as) (.int k)=some kv.2:=ay (rl e<|rl hk <| (V.beq_iff _ _).mpr rfl)
   have h2:valueAt (km::bs) k=some km.2:=by unfold valueAt;exact rl (List.find?_cons_of_pos (by simpa using hk)) rfl
   exact rl h1<|rl h2<|q
  .have h1:cn (kv::as) (.int k)=cn as (.int k):=av (by exact rl e<|λz=>hk (by have:=(V.beq_iff _ _).mp z;injection this))
   have h2:valueAt (km::bs) k=valueAt bs k:=by unfold valueAt;exact rl (List.find?_cons_of_neg (by simpa using hk)) rfl
   exact rl h1<|rl h2<|ih
theorem r7 {ks:List (Str×Value)}{k:List Nat}(al:d8 (λkv km=>(∃x,kv.1=.str x/\km.1=cL x)/\aH Z h kv.2 km.2) az ks) :
  match cn az (.str k),valueAt ks (cL k) with |some v,some m=>aH Z h v m |none,none=>True |_,_=>False:=by
 induction al with
 |nil=>exact trivial
 |@cons kv km as bs r _ ih=>
  obtain⟨⟨x,e,e'⟩,q⟩:=r;by_cases hk:x=k
  .have h1:cn (kv::as) (.str k)=some kv.2:=ay (rl e<|rl hk <| (V.beq_iff _ _).mpr rfl)
   have h2:valueAt (km::bs) (cL k)=some km.2:=by unfold valueAt;exact rl (List.find?_cons_of_pos (by rw[e'];simpa [cL] using hk)) rfl
   exact rl h1<|rl h2<|q
  .have h1:cn (kv::as) (.str k)=cn as (.str k):=av (by exact rl e<|λz=>hk (by have:=(V.beq_iff _ _).mp z;injection this))
   have h2:valueAt (km::bs) (cL k)=valueAt bs (cL k):=by unfold valueAt;exact rl (List.find?_cons_of_neg (by rw[e'];simpa [cL] using hk)) rfl
   exact rl h1<|rl h2<|ih
theorem n0 {k:List V}(al:d8 (λkv km=>(kv.1=.tup km.1/\aH Z h (.tup km.1) (.ref km.2.1))/\aH Z h kv.2 km.2.2) az xs) :
  match cn az (.tup k),atKey xs k with |some v,some m=>aH Z h v m.2 |none,none=>True |_,_=>False:=by
 induction al with
 |nil=>exact trivial
 |@cons kv km as bs r _ ih=>
  obtain⟨⟨e,_⟩,q⟩:=r;by_cases hk:km.1=k
  .have h1:cn (kv::as) (.tup k)=some kv.2:=ay (rl e<|rl hk <| (V.beq_iff _ _).mpr rfl)
   have h2:atKey (km::bs) k=some km.2:=by unfold atKey;exact rl (List.find?_cons_of_pos (by simpa using hk)) rfl
   exact rl h1<|rl h2<|q
  .have h1:cn (kv::as) (.tup k)=cn as (.tup k):=av (by exact rl e<|λz=>hk (by have:=(V.beq_iff _ _).mp z;injection this))
   have h2:atKey (km::bs) k=atKey bs k:=by unfold atKey;exact rl (List.find?_cons_of_neg (by simpa using hk)) rfl
   exact rl h1<|rl h2<|ih
theorem p9 {o:Option V}{o':Option Value}(h1:match o,o' with |some v,some m=>aH Z h v m |none,none=>True |_,_=>False):o.isSome=o'.isSome:=by
 cases o <;> cases o' <;> simp_all
theorem vb (h:fu .int x=true) :∃j,x=.int j:=by
 cases x with
 |int j=>exact⟨j,rfl⟩
 |_=>injection h
theorem vd (h:fu .str x=true) :∃j,x=.str j:=by
 cases x with
 |str j=>exact⟨j,rfl⟩
 |_=>injection h
theorem ve (h:fu .tup x=true) :∃j,x=.tup j:=by
 cases x with
 |tup j=>exact⟨j,rfl⟩
 |_=>injection h
theorem jU {ks:List V}(r:aH Z h (.tup ks) mv)(hk:fu .tup (.tup ks)=true) :∃b,mv=.ref b/\(dX).is h ks b:=by
 have h:=cM hk;obtain⟨b,_,_,_,rfl,_⟩:=r.fV;exact⟨b,rfl,r.plain0 (V.fG h.1),h.1,of_decide_eq_true h.2⟩
theorem J2 {kd:DK}(ok:b9 n a)(S:St Z U s)(hi:U[i]? = some (.dict kd az))(hp:Z.objs[i]? = some p)(rx:aH Z s.heap x mx)(hk:fu kd x=true)(k :∀tk,Q (.bool (cn az x).isSome) {s with toks:=tk}):wpAny bS a.A (compareOp .In mx (.ref p.1)) Q E s:=by
 obtain⟨e1,r⟩:=S.heap.objs _ _ _ hi hp;refine rl e1 ?_;have hs:=nZ S.heap (eB hp)
 cases kd with
 |int=>
  obtain⟨j,rfl⟩:=vb hk;obtain⟨t1,rfl⟩:=rx.int_inv;obtain⟨ks,d,al⟩:=r;refine wpAny_in_of (knd:=intKind W.prog W.w) (k:=j) (by simp[intKind,Value.isInt]) hs d.mapOf ?_;have:=p9 (r6 (k:=j) al);exact rr this<|k _
 |str=>
  obtain⟨j,rfl⟩:=vd hk;obtain⟨t1,rfl⟩:=rx.str_inv;obtain⟨ks,d,al⟩:=r;refine wpAny_in_of (knd:=strKind W.prog W.w) (k:=cL j) (strKind_is _ _ _ _) hs d.mapOf ?_;have:=p9 (r7 (k:=j) al);exact rr this<|k _
 |tup=>
  obtain⟨j,rfl⟩:=ve hk;obtain⟨ks,d,al⟩:=r;obtain⟨b,rfl,hb⟩:=jU rx hk;refine wpAny_in_heap (knd:=dX) (by have:=ok.units;refine(?_:a.A.in1.units+64<cLine);simp only;exact yg this) hb hs d ?_;have h1:=n0 (k:=j) al;have :(cn az (.tup j)).isSome =(atKey ks j).isSome:=by
   cases h2:cn az (.tup j) <;> cases h3:atKey ks j <;> rw[h2,h3] at h1 <;> simp_all
  exact rr this<|k _
theorem n4 :∀{xs:List V} {is:List Int} {ms:List Value},k8 xs=some is->aD Z h xs ms->IntsAre ms is:=by
 intro y
 induction y with
 |nil=>
  intro _ _ e r
  cases e;cases r;exact .nil
 |cons x xs ih=>
  intro is _ e r;refine aT e λi h1 e=>?_;refine dh e λjs e2 z2=>?_;subst z2;obtain rfl:=V.fH h1
  cases r with
  |cons h1 h2=>obtain⟨t,rfl⟩:=h1.int_inv;exact .cons _ _ (ih e2 h2)
theorem MD {c:V}{mc:Value}(ok:b9 n a)(S:St Z U s)(rx:aH Z s.heap x mx)(rc:aH Z s.heap c mc)(e:NL x c U=some b)(k :∀tk,Q (.bool b) {s with toks:=tk}):wpAny bS a.A (compareOp .In mx mc) Q E s:=by
 revert e;cases c with
 |ref i=>
  intro e;refine ct λG hG=>?_;obtain⟨p,hp,rfl⟩:=rc.fm;unfold NL at e;dsimp only at e;refine hG ?_
  cases hi:U[i]? with
  |none=>replace e:=hi▸e;injection e
  |some o=>cases o with
   |dict kd az=>
    replace e:=hi▸e;dsimp only at e;by_cases hk:fu kd x=true
    .replace e:=(ay hk)▸e;injection e with e;subst e;exact J2 ok S hi hp rx hk k
    .replace e:=(av hk)▸e;injection e
   |_=>replace e:=hi▸e;injection e
 |str t=>
  intro e;refine ct λG hG=>?_;refine dh (show x.nY.map _=some b from e) λu hu z1=>?_;subst z1;obtain rfl:=V.iW hu;obtain⟨t1,rfl⟩:=rx.str_inv;obtain⟨t2,rfl⟩:=rc.str_inv;refine hG ?_;exact P.in_str (k s.toks)
 |list vs=>
  intro e;refine ct λG hG=>?_;refine aT (show x.int?.bind _=some b from e) λu hu e=>?_;refine dh e λks hk z3=>?_;subst z3;obtain rfl:=V.fH hu;obtain⟨t1,rfl⟩:=rx.int_inv;refine hG ?_
  cases rc with
  |@list _ l o ms m ho hc hd hn q=>exact in_list_ints (vs:=ms.toList) ⟨o,ho,hc,m,rl Array.toArray_toList<|hd⟩ (n4 hk q) (k s.toks)
 |_=>intro e;injection e
theorem DH {mc:Value}(h:wpAny bS A (compareOp .In mx mc) (λv s'=>match v with |.bool b=>Q (.bool (!b)) s' |_=>False) E s):wpAny bS A (compareOp .NotIn mx mc) Q E s:=by
 have h':wpAny bS A (do return Value.bool (<- contains mc mx)) (λv s'=>match v with |.bool b=>Q (.bool (!b)) s' |_=>False) E s:=h
 intro Γ p Ju;have q:=h' Γ p Ju;rw[Sem.wp_bind'] at q;exact rl (Sem.wp_bind' ..)<|q
theorem NN (ok:b9 n a)(S:St Z U s)(rx:aH Z s.heap x mx)(ry:aH Z s.heap y my)(e:J0 x y U=some b) :
  (Q (.bool b) s->wpAny bS a.A (compareOp .Eq mx my) Q E s)/\(Q (.bool (!b)) s->wpAny bS a.A (compareOp .NotEq mx my) Q E s):=by
 refine ct λG hG=>?_;refine aT e λp ep e=>?_;refine aT e λq eq e=>?_;obtain⟨pp,as,qx⟩:=rZ S.heap rx ep;obtain⟨pq,bs,qy⟩:=rZ S.heap ry eq;have lp:=qW p pp;have lq:=qW q pq;refine hG ?_;refine di e λhd e=>?_;refine ct λG hG=>?_;injection e with e;subst e;rw[Bool.and_eq_true,decide_eq_true_eq] at hd;have hu:=ok.units;have sp:SeqAt.shaped (Cp p)=true:=by unfold SeqAt.shaped;refine rl lp.1<|rl lp.2 ?_;simp[hd.1]
 have sq:SeqAt.shaped (Cp q)=true:=by unfold SeqAt.shaped;refine rl lq.1<|rl lq.2 ?_;simp[hd.2]
 have hz:a.A.units+65<cLine:=yg hu;refine hG ?_;exact⟨λk=>eq_dataH qx qy sp sq (Nat.lt_of_succ_lt hz) (rl (nV p q pp pq)<|k),λk=>ne_dataH qx qy sp sq (Nat.lt_of_succ_lt hz) (rl (nV p q pp pq)<|k)⟩
theorem MF (ok:b9 n a)(S:St Z U s)(rx:aH Z s.heap x mx)(ry:aH Z s.heap y my)(e:NM x y U=some b) :
  (Q (.bool b) s->wpAny bS a.A (compareOp .Eq mx my) Q E s)/\(Q (.bool (!b)) s->wpAny bS a.A (compareOp .NotEq mx my) Q E s):=by
 unfold NM at e
 cases hx:x.bool? with
 |none=>rw[hx] at e;exact NN ok S rx ry e
 |some c=>
  refine ct λG hG=>?_;rw[hx] at e;refine dh e λd hy z1=>?_;subst z1;obtain rfl:=V.yo hx;obtain rfl:=V.yo hy
  cases rx
  cases ry;refine hG ?_;exact⟨eq_bool,ne_bool⟩
theorem aH.yr (r:aH Z h v mv) :(mv == .none)=V.beq v .none:=by
 cases r <;> rfl
theorem wR {f:Int->Int->Bool}(e:J1 f x y=some b) :∃i j,x=.int i/\y=.int j/\b=f i j:=by
 refine ct λG hG=>?_;refine aT e λi hi e=>?_;refine dh e λj hj z2=>?_;subst z2;refine hG ?_;exact⟨i,j,V.fH hi,V.fH hj,rfl⟩
theorem NO (ok:b9 n a)(S:St Z U s)(rx:aH Z s.heap x mx)(ry:aH Z s.heap y my)(e:ig op x y U=some b)(k :∀tk,Q (.bool b) {s with toks:=tk}):wpAny bS a.A (compareOp op mx my) Q E s:=by
 revert e;cases op with
 |Eq=>intro e;exact(MF ok S rx ry e).1 (k s.toks)
 |NotEq=>
  intro e;refine dh (o:=NM x y U) (f:=(!·)) e λc e2 h=>?_;subst h;exact(MF ok S rx ry e2).2 (k s.toks)
 |Lt=>intro e;obtain⟨i,j,rfl,rfl,rfl⟩:=wR e;obtain⟨t1,rfl⟩:=rx.int_inv;obtain⟨t2,rfl⟩:=ry.int_inv;exact P.lt_int (k s.toks)
 |LtE=>intro e;obtain⟨i,j,rfl,rfl,rfl⟩:=wR e;obtain⟨t1,rfl⟩:=rx.int_inv;obtain⟨t2,rfl⟩:=ry.int_inv;exact P.le_int (k s.toks)
 |Gt=>intro e;obtain⟨i,j,rfl,rfl,rfl⟩:=wR e;obtain⟨t1,rfl⟩:=rx.int_inv;obtain⟨t2,rfl⟩:=ry.int_inv;exact P.gt_int (k s.toks)
 |GtE=>intro e;injection e
 |IsNot=>
  intro e;revert e;cases y with
  |none=>intro e;cases e;cases ry;exact isnot_none_gen (rl rx.yr<|k s.toks)
  |_=>intro e;injection e
 |Is=>
  intro e;revert e;cases y with
  |none=>intro e;cases e;cases ry;exact is_none_gen (rl rx.yr<|k s.toks)
  |_=>intro e;injection e
 |In=>intro e;exact MD ok S rx ry e k
 |NotIn=>
  intro e;refine dh (o:=NL x y U) (f:=(!·)) e λc e2 h=>?_;subst h;exact DH (MD ok S rx ry e2 λtk=>k tk)
theorem n5 {k:Bool->bw->Res β}(ok:b9 n a)(S:St Z U s)(F:FS a fr Z s.heap)(rx:aH Z s.heap x mx)(ry:aH Z s.heap y my)(p:cb a Z s ((Res.cO (ig op x y U) U).andThen k) K E)(h :∀b s',s'.heap=s.heap->St Z U s'->FS a fr Z s'.heap->cb a Z s' (k b U) K E->Q (.bool b) s'):wpAny bS a.A (compareOp op mx my) Q E s:=by
 cases e:ig op x y U with
 |none=>rw[e] at p;exact p.elim
 |some b=>
  replace p:=e▸p;exact NO ok S rx ry e λtk=>h b {s with toks:=tk} rfl S.fW F (cb.step (s':={s with toks:=tk}) (cF.refl ..) p)
theorem gS {l r:Expr}{f g:ME V}(hl:cm n sc l f)(hr:cm n sc r g)(hm:behindInMarks op r=false):cm n sc (.Compare l [op] [r] pos) (iE op f g):=by
 intro a ok bJ Z U fr s S F Q E p;refine wpAny_Compare1 (hl.bind ok bJ S F p λv bq cG s1 mv S1 F1 x1 r1 p1=>?_) hm;refine hr.bind ok bJ S1 F1 p1 λv2 bU jo s2 MC S2 F2 x2 r2 p2=>?_;exact n5 ok S2 F2 (r1.mono x2) r2 p2 λb s' e S' F' p'=>bt.val p' S' (.refl ..) (.bool b)
theorem aW {l r:Expr}{f g:ME V}(hl:cm n sc l f)(hr:cm n sc r g)(hm:behindInMarks op r=false):jq n sc (.Compare l [op] [r] pos) (bx op f g):=by
 intro a ok bJ Z U fr s S F Q E p;refine wpAny_isTrue_Compare1 (hl.bind ok bJ S F p λv bq cG s1 mv S1 F1 x1 r1 p1=>?_) hm;refine hr.bind ok bJ S1 F1 p1 λv2 bU jo s2 MC S2 F2 x2 r2 p2=>?_;have p2':cb a jo s2 ((Res.cO (ig op v v2 bU) bU).andThen λb U=>.ok b U) (KB Q) E:=by
  dsimp only at p2
  cases e:ig op v v2 bU <;> rw[e] at p2 <;> exact p2
 exact n5 ok S2 F2 (r1.mono x2) r2 p2' λb s' e S' F' p'=>wpAny_truthy_bool (p' jo s' S' (.refl ..))
theorem k9 {l r1 r2:Expr}{o1 o2:CmpOp}{f g h:ME V}(hl:cm n sc l f)(h1:cm n sc r1 g)(h2:cm n sc r2 h)(hm:lastMarks [o1,o2] [r1,r2]=false) :
  jq n sc (.Compare l [o1,o2] [r1,r2] pos) (jE o1 o2 f g h):=by
 intro a ok bJ Z U fr s S F Q E p;refine isTrue_chain (hl.bind ok bJ S F p λv bq cG s1 mv S1 F1 x1 r1 p1=>?_) hm;refine test_link (h1.bind ok bJ S1 F1 p1 λv2 bU jo s2 MC S2 F2 x2 r2 p2=>?_);refine n5 ok S2 F2 (r1.mono x2) r2 p2 λb s' e S' F' p'=>wpAny_truthy_bool ?_
 cases b with
 |false=>exact p' jo s' S' (.refl ..)
 |true=>
  refine test_last (h2.bind ok bJ S' F' p' λv3 qH qI s3 mv3 S3 F3 x3 r3 p3=>?_);have p3':cb a qI s3 ((Res.cO (ig o2 v2 v3 qH) qH).andThen λb U=>.ok b U) (KB Q) E:=by
   dsimp only at p3
   cases e:ig o2 v2 v3 qH <;> rw[e] at p3 <;> exact p3
  have r2':aH jo s'.heap v2 MC:=rl e<|r2
  exact n5 ok S3 F3 (r2'.mono x3) r3 p3' λb s' e S' F' p'=>wpAny_truthy_bool (p' qI s' S' (.refl ..))
theorem md {x:Expr}{f:ME Bool}(hf:jq n sc x f):jq n sc (.UnaryOp .Not x pos) (rX f):=by
 intro a ok bJ Z U fr s S F Q E p;exact isTrue_not (hf.bind ok bJ S F p λb bq cG s1 S1 F1 x1 p1=>p1 cG s1 S1 (.refl ..))
theorem ix:jq n sc (.BoolOp .And [] pos) (jF []):=by
 intro a ok bJ Z U fr s S F Q E p;exact isTrue_and_nil (p Z s S (.refl ..))
theorem fJ:jq n sc (.BoolOp .Or [] pos) (rY []):=by
 intro a ok bJ Z U fr s S F Q E p;exact isTrue_or_nil (p Z s S (.refl ..))
theorem gU {x:Expr}{xs:List Expr}{f:ME Bool}{fs:List (ME Bool)}(hf:jq n sc x f)(hs:jq n sc (.BoolOp .And xs pos) (jF fs)):jq n sc (.BoolOp .And (x::xs) pos) (jF (f::fs)):=by
 intro a ok bJ Z U fr s S F Q E p;refine isTrue_and (hf.bind ok bJ S F p λb bq cG s1 S1 F1 x1 p1=>?_);revert p1;cases b with
 |false=>intro p1;exact p1 cG s1 S1 (.refl ..)
 |true=>intro p1;exact hs a ok bJ cG bq fr s1 S1 F1 Q E p1
theorem eQ {x:Expr}{xs:List Expr}{f:ME Bool}{fs:List (ME Bool)}(hf:jq n sc x f)(hs:jq n sc (.BoolOp .Or xs pos) (rY fs)):jq n sc (.BoolOp .Or (x::xs) pos) (rY (f::fs)):=by
 intro a ok bJ Z U fr s S F Q E p;refine isTrue_or (hf.bind ok bJ S F p λb bq cG s1 S1 F1 x1 p1=>?_);revert p1;cases b with
 |true=>intro p1;exact p1 cG s1 S1 (.refl ..)
 |false=>intro p1;exact hs a ok bJ cG bq fr s1 S1 F1 Q E p1
theorem mf {e:Expr}{f:ME V}(hf:cm n sc e f)(he :∀(env:Env) (MG:Sem Value),isTrue e env MG =(do let v <- MG;standAt e.pos;holding [v] (truthy v))):jq n sc e (o9 f):=by
 intro a ok bJ Z U fr s S F Q E p;refine isTrue_plain (hf.bind ok bJ S F p λv bq cG s1 mv S1 F1 x1 r1 p1=>?_) (he _ _);refine ct λG hG=>?_
 cases v <;> first |exact p1.elim |skip
 cases r1;refine hG ?_;exact wpAny_truthy_bool (p1 cG s1 S1 (.refl ..))
theorem gh {t b o:Expr}{f g:ME V}(ht:jq n sc t ft)(hb:cm n sc b f)(ho:cm n sc o g):cm n sc (.IfExp t b o pos) (rd ft f g):=by
 intro a ok bJ Z U fr s S F Q E p;refine IfExp_ (ht.bind ok bJ S F p λc bq cG s1 S1 F1 x1 p1=>?_);revert p1;cases c with
 |true=>intro p1;exact hb a ok bJ cG bq fr s1 S1 F1 Q E p1
 |false=>intro p1;exact ho a ok bJ cG bq fr s1 S1 F1 Q E p1
theorem r8 {x y:Expr}{f g:ME V}(hf:cm n sc x f)(hg:cm n sc y g):cm n sc (.BoolOp .And [x,y] pos) (va f g):=by
 intro a ok bJ Z U fr s S F Q E p;refine BoolOp_and (hf.bind ok bJ S F p λv bq cG s1 mv S1 F1 x1 r1 p1=>?_);refine ct λG hG=>?_
 cases v <;> first |exact p1.elim |skip
 rename_i b
 cases r1;refine hG ?_;refine wpAny_truthy_bool ?_
 cases b with
 |true=>exact BoolOp_one (hg a ok bJ cG bq fr s1 S1 F1 Q E p1)
 |false=>exact bt.val p1 S1 (.refl ..) (.bool false)
end
set_option tactic.hygienic false
noncomputable def ij (U:bw)(c:Nat)(v:V):Option (Nat×List (Nat×V)):=match v with
 |.ref i=>match U[i]? with
  |some (.inst c' fs)=>if c'=c then some (i,fs) else .none
  |_=>.none
 |_=>.none
def bc (c x:Nat)(f:ME V):ME V:=f.bind λv=>λ_ U=>Res.cO ((ij U c v).bind λp=>p.2.lookup x) U
noncomputable def uu (vs:List V)(i:Int):Option V:=(seqIndex? i vs.length).bind λj=>vs[j]?
def AK (vs:List V)(i:V):Option V:=i.int?.bind λi=>if decide (i.natAbs<1000000000) then uu vs i else .none
def QR (cs:List Nat)(i:V):Option V:=i.int?.bind λi=>if decide (i.natAbs<1000000000)&&decide (0<=i)&&decide (i<cs.length) then (cs[i.toNat]?).map λc=>V.str [c] else .none
def mE (v i:V)(U:bw):Option V:=match v with
 |.ref j=>match U[j]? with
  |some (.dict k az)=>if fu k i then cn az i else .none
  |some (.list vs)=>AK vs i
  |_=>.none
 |.list vs=>AK vs i
 |.tup vs=>AK vs i
 |.str cs=>QR cs i
 |_=>.none
def cv (f g:ME V):ME V:=f.bind λv=>g.bind λi=>λ_ U=>Res.cO (mE v i U) U
def Ga (k:Nat)(v:V)(U:bw):Option V:=match v.g6 with
 |some vs=>if cE vs.length&&decide (k<=vs.length) then some (.tup (vs.drop k)) else .none
 |.none=>(items? U v).bind λvs=>if cE vs.length then some (.list (vs.drop k)) else .none
def yt (k:Nat)(v:V)(U:bw):Option V:=match v.g6 with
 |some vs=>if cE vs.length then some (.tup (vs.take k)) else .none
 |.none=>(items? U v).bind λvs=>if cE vs.length then some (.list (vs.take k)) else .none
def dU (k:Nat)(f:ME V):ME V:=f.bind λv=>λ_ U=>Res.cO (Ga k v U) U
def iO (k:Nat)(f:ME V):ME V:=f.bind λv=>λ_ U=>Res.cO (yt k v U) U
section
variable {D:List Addr}
theorem vf {name:Str}{ks:List (Str×Value)}(d:o.IsDictOf (strKind W.prog W.w) ks):lookIn name o=some (valueAt ks name):=by
 refine ct λG hG=>?_;obtain⟨es,ep,hx,hd,hk,hp,hn⟩:=d;have hr:es.toList.any (·.refKey)=false:=by
  rw[List.any_eq_false];intro e he;obtain⟨k,h1,_⟩:=hk e (Array.mem_toList_iff.mp he);obtain⟨t,e1⟩:=Value.isStrOf_shape h1;simp[DictEntry.refKey,e1]
 have hf:=hp.find name;have e :(λe:DictEntry=>(strKind W.prog W.w).is name e.key)=λe=>e.key.isStr name:=by
  funext e
  cases e.key <;> rfl
 replace hf:=e▸hf;refine hG ?_;unfold lookIn;refine rl hd ?_;dsimp only
 cases hq:es.toList.find? λe=>e.key.isStr name with
 |some x=>replace hf:=hq▸hf;simpa using hf
 |none=>replace hf:=hq▸hf;simp only[Option.map_none] at hf;refine rr hf<|rl hr ?_;simp
theorem Gb {fs:List (Nat×V)}{ks:List (Str×Value)}{x:Nat}(hx:x<W.nN)(al:d8 (λkv km=>(kv.1<W.nN/\km.1=W.nm kv.1)/\aH Z h kv.2 km.2) fs ks) :
  match fs.lookup x,valueAt ks (W.nm x) with |some v,some m=>aH Z h v m |none,none=>True |_,_=>False:=by
 induction al with
 |nil=>exact trivial
 |@cons kv km as bs r _ ih=>
  obtain⟨⟨e0,e⟩,q⟩:=r;by_cases hk:x=kv.1
  .have h1 :(kv::as).lookup x=some kv.2:=by subst hk;exact List.lookup_cons_self
   have h2:valueAt (km::bs) (W.nm x)=some km.2:=by unfold valueAt;exact rl (List.find?_cons_of_pos (by rw[e,hk];simp)) rfl
   exact rl h1<|rl h2<|q
  .have h1 :(kv::as).lookup x=as.lookup x:=rl List.lookup_cons<|rl (beq_eq_false_iff_ne.mpr hk) rfl
   have h2:valueAt (km::bs) (W.nm x)=valueAt bs (W.nm x):=by unfold valueAt;exact rl (List.find?_cons_of_neg (by rw[e];simpa using λz=>hk (yi _ _ e0 hx z).symm)) rfl
   exact rl h1<|rl h2<|ih
noncomputable def AL (c:Nat):Prop:=hasDictIn W.K (W.cls c)=true/\plainGet W.K (W.cls c) (ofString "")=true
theorem yu (r:aH Z h v mv):handedIn mv=true:=by cases r <;> rfl
theorem AM {fs:List (Nat×V)}(e:ij U c v=some (i,fs)):v=.ref i/\U[i]? = some (.inst c fs):=by
 cases v with
 |ref j=>
  replace e :(match U[j]? with |some (.inst c' fs)=>if c'=c then some (j,fs) else .none |_=>.none)=some (i,fs):=e
  cases ho:U[j]? with
  |none=>rw[ho] at e;injection e
  |some x=>cases x with
   |inst c' fs'=>
    rw[ho] at e;refine di e λhc e=>?_;injection e with e;injection e with e1 e2;subst e1 e2 hc;exact⟨rfl,ho⟩
   |_=>rw[ho] at e;injection e
 |_=>injection e
theorem wU {fs:List (Nat×V)}(S:gP Z U h)(r:aH Z h v mv)(e:ij U c v=some (i,fs)) :
  ∃p,v=.ref i/\Z.objs[i]? = some p/\U[i]? = some (.inst c fs)/\mv=.ref p.1/\∃sl o ks,h.get? p.1=some ⟨.ref (W.cls c),some p.2,.plain,sl⟩/\h.get? p.2=some o/\o.IsDictOf (strKind W.prog W.w) ks/\
   d8 (λkv km=>(kv.1<W.nN/\km.1=W.nm kv.1)/\aH Z h kv.2 km.2) fs ks:=by
 obtain⟨rfl,hi⟩:=AM e;obtain⟨p,hp,rfl⟩:=r.fm;obtain⟨⟨sl,g⟩,ks,d,al⟩:=S.objs _ _ _ hi hp;obtain⟨o,ho,d'⟩:=Heap.dictOf_iff.mp d;exact⟨p,rfl,hp,hi,rfl,sl,o,ks,g,ho,d',al⟩
theorem aF {e:Expr}{x:Str}{f:ME V}(hf:cm n sc e f)(hc:AL c)(hi:i<W.nN)(hx:W.nm i=x)(hn:findIn W.K (.ref (W.cls c)) x=some Option.none)(he :∀env:Env,eval (.Attribute e x pos) env =(do
   let o <- eval e env
   standAt pos.atName
   let r <- holding [o] (getAttr o x true)
   letTemporaryGo e o r
   pure r):=by intro _;with_unfolding_all rfl):cm n sc (.Attribute e x pos) (bc c i f):=by
 intro a ok bJ Z U fr s S F Q E p;refine Attribute_any_ (hf.bind ok bJ S F p λv bq cG s1 mv S1 F1 x1 r1 p1=>?_) (he _);dsimp only at p1
 cases Gd:ij bq c v with
 |none=>rw[Gd] at p1;exact p1.elim
 |some q=>
  refine ct λG hG=>?_;obtain⟨j,fs⟩:=q;rw[Gd,Option.bind_some] at p1;dsimp only at p1;obtain⟨pp,rfl,hp,uv,rfl,sl,o,ks,g1,g2,d,al⟩:=wU S1.heap r1 Gd;have hg:=Gb hi al;refine hG ?_
  cases hl:fs.lookup i with
  |none=>rw[hl] at p1;exact p1.elim
  |some v'=>
   rw[hl] at p1 hg
   cases hv:valueAt ks (W.nm i) with
   |none=>rw[hv] at hg;exact hg.elim
   |some m'=>
    rw[hv] at hg;have I:InstAt s1.heap pp.1 ⟨.ref (W.cls c),some pp.2,.plain,sl⟩ (W.cls c) (some o):=⟨g1,rfl,rfl,g2⟩;refine get_value (v:=m') (S.heap.ok.X.keeps S1.heap.base) I (plainGet_of hc.2).1 (findObj_own hc.1 hn rfl ?_) (yu hg) ?_
    .refine(vf d).trans ?_;exact rr hx<|rl hv rfl
    .exact bt.val (s':={s1 with toks:=s1.toks+1}) p1 S1.fW (.refl ..) hg
theorem Ge {kd:DK}(hA:A.units+65<cLine)(S:St Z U s)(hi:U[i]? = some (.dict kd az))(hp:Z.objs[i]? = some p)(rx:aH Z s.heap x mx)(hk:fu kd x=true)(hv:cn az x=some v)(k :∀tk m,aH Z s.heap v m->Q m {s with toks:=tk}):wpAny bS A (getItem (.ref p.1) mx) Q E s/\s.TypeIs (.ref p.1) "dict":=by
 refine ct λG hG=>?_;obtain⟨e1,r⟩:=S.heap.objs _ _ _ hi hp;refine hG ?_;refine rl e1 ?_
 cases kd with
 |int=>
  refine ct λG hG=>?_;obtain⟨j,rfl⟩:=vb hk;obtain⟨t1,rfl⟩:=rx.int_inv;obtain⟨ks,d,al⟩:=r;have hg:=r6 (k:=j) al;replace hg:=hv▸hg;refine hG ?_
  cases hm:valueAt ks j with
  |none=>rw[hm] at hg;exact hg.elim
  |some m=>
   replace hg:=hm▸hg;exact⟨wpAny_getItem_of (knd:=intKind W.prog W.w) (k:=j) (by simp[intKind,Value.isInt]) d.mapOf hm (k _ _ hg),d.typeIs⟩
 |str=>
  refine ct λG hG=>?_;obtain⟨j,rfl⟩:=vd hk;obtain⟨t1,rfl⟩:=rx.str_inv;obtain⟨ks,d,al⟩:=r;have hg:=r7 (k:=j) al;replace hg:=hv▸hg;refine hG ?_
  cases hm:valueAt ks (cL j) with
  |none=>rw[hm] at hg;exact hg.elim
  |some m=>
   replace hg:=hm▸hg;exact⟨wpAny_getItem_of (knd:=strKind W.prog W.w) (k:=cL j) (strKind_is _ _ _ _) d.mapOf hm (k _ _ hg),d.typeIs⟩
 |tup=>
  refine ct λG hG=>?_;obtain⟨j,rfl⟩:=ve hk;obtain⟨ks,d,al⟩:=r;obtain⟨b,rfl,hb⟩:=jU rx hk;have hg:=n0 (k:=j) al;replace hg:=hv▸hg;refine hG ?_
  cases hm:atKey ks j with
  |none=>rw[hm] at hg;exact hg.elim
  |some m=>
   replace hg:=hm▸hg;exact⟨wpAny_getItem_heap (knd:=dX) (by show A.in1.units+64<cLine;simp only;exact Nat.lt_of_succ_le hA) hb d hm (k _ _ hg),d.typeIs⟩
theorem r9 {i:Int}(e:seqIndex? i k=some j) :(0<=i/\j=i.toNat/\j<k)\/(i<0/\-(k:Int)<=i/\j =(i+k).toNat/\j<k):=by
 refine di e λhc e=>?_;have hc:=cM hc;have h1:=of_decide_eq_true hc.1;have h2:=of_decide_eq_true hc.2;injection e with e;subst e;clear hc;by_cases h:i<0
 .rw[ay h] at h1 h2 ⊢
  exact .inr ⟨h,Int.add_nonneg_iff_neg_le.mp h1,rfl,(Int.toNat_lt h1).mpr h2⟩
 .rw[av h] at h1 h2 ⊢
  exact .inl ⟨h1,rfl,(Int.toNat_lt h1).mpr h2⟩
theorem DI {l:Addr}{ms:Array Value}{i:Int}{t:Tok}(hl:s.heap.IsList l ms)(r:aD Z s.heap vs ms.toList)(hb:i.natAbs<1000000000)(e:uu vs i=some v)(k :∀m,aH Z s.heap v m->Q m s):wpAny bS A (getItem (.ref l) (.int i t)) Q E s:=by
 unfold uu at e;have hsz:vs.length=ms.size:=by refine r.length.trans ?_;simp
 cases hj:seqIndex? i vs.length with
 |none=>replace e:=hj▸e;injection e
 |some j=>
  rw[hj,Option.bind_some] at e;obtain⟨m,hm,rm⟩:=r.get _ _ e;replace hm:=(Array.getElem?_toList)▸hm;rcases r9 hj with ⟨h0,rfl,_⟩|⟨h0,h1,rfl,_⟩
  .exact wpAny_getItem_list hl h0 (Qq hb) hm (k m rm)
  .exact wpAny_getItem_list_neg hl h0 (le_of_eq_of_le (aP Neg.neg (aP Nat.cast (id (Eq.symm hsz)))) h1) (Qr hb) (rr hsz<|hm) (k m rm)
noncomputable def yv (hZ:Expr):Prop:=∀o i,∃DJ,subscripted hZ false o i=operate DJ (getItem o i)
theorem Cq {i:V}(e:AK vs i=some u) :∃k,i=.int k/\k.natAbs<1000000000/\uu vs k=some u:=by
 refine ct λG hG=>?_;refine aT e λk hk e=>?_;refine hG ?_;refine di e λh e=>?_;exact⟨k,V.fH hk,of_decide_eq_true h,e⟩
theorem Gf {i:V}{mH hZ:Expr}(vg:yv hZ)(S:St Z U s)(r:aH Z s.heap v mv)(ri:aH Z s.heap i mi)(e:items? U v=some vs)(hn:AK vs i=some u)(k :∀m,aH Z s.heap u m->Q m s):wpAny bS a.A (subscriptTail mH hZ mv mi) Q E s:=by
 refine ct λG hG=>?_;obtain⟨i,rfl,hb,hn⟩:=Cq hn;obtain⟨ti,rfl⟩:=ri.int_inv;obtain⟨b,ms,rfl,l,q⟩:=dY S.heap r e;obtain⟨DJ,hs⟩:=vg (.ref b) (.int i _);refine hG ?_;exact tail_any l.typeIs slot_list_getitem.lookup (DI l q hb hn k) hs
theorem J3 {i:V}{mH hZ:Expr}(vg:yv hZ)(rv:aH Z s.heap (.tup vs) mv)(ri:aH Z s.heap i mi)(hn:AK vs i=some u)(k :∀tk m,aH Z s.heap u m->Q m {s with toks:=tk}):wpAny bS a.A (subscriptTail mH hZ mv mi) Q E s:=by
 refine ct λG hG=>?_;obtain⟨i,rfl,hb,hn⟩:=Cq hn;obtain⟨ti,rfl⟩:=ri.int_inv;obtain⟨b,o,ms,kk,rfl,ho,hc,hd,QS,r⟩:=rv.fV;obtain⟨DJ,hs⟩:=vg (.ref b) (.int i _);have ht:IsTup s.heap b ms:=⟨o,ho,hc,kk,hd⟩;have hsz:vs.length=ms.size:=by refine r.length.trans ?_;simp
 refine aT hn λj hj e=>?_;obtain⟨m,hm,rm⟩:=r.get _ _ e;replace hm:=(Array.getElem?_toList).symm.trans hm;refine hG ?_;exact tail_any ht.typeIs slot_tuple_getitem.lookup (PyProof.Rows.getItem_tuple ht (Qr hb) (Qq hb) (rr hsz<|hj) hm (k s.toks m rm)) hs
theorem Gg {cs:List Nat}{i:Int}(h0:0<=i)(h1:i<cs.length)(hc:cs[i.toNat]? = some c):Txt.item (cL cs) i=cL [c]:=by
 have hlen :(cL cs).length=cs.length:=by simp[cL,Str.length]
 have e1:seqIndex? i (cL cs).length=some i.toNat:=by
  unfold seqIndex?;simp only[show¬i<0 from Int.not_lt.mpr h0,if_false];exact rl (ay (by rw[hlen];simp only[Bool.and_eq_true,decide_eq_true_eq];exact⟨h0,h1⟩)) rfl
 have e2 :(cL cs).cps[i.toNat]? = some c:=by simpa [cL] using hc
 unfold Txt.item Txt.charAt;exact rl e1<|rl (Option.bind_some ..)<|rl e2 rfl
theorem J4 {cs:List Nat}{i:V}{mH hZ:Expr}(vg:yv hZ)(rv:aH Z s.heap (.str cs) mv)(ri:aH Z s.heap i mi)(e:QR cs i=some u)(k :∀tk m,aH Z s.heap u m->Q m {s with toks:=tk}):wpAny bS a.A (subscriptTail mH hZ mv mi) Q E s:=by
 refine aT e λi hi e1=>?_;clear e;obtain rfl:=V.fH hi;refine di e1 λhb e1=>?_;simp only[Bool.and_eq_true,decide_eq_true_eq] at hb;obtain⟨⟨hb0,J5⟩,NP⟩:=hb;refine dh e1 λc hc z3=>?_;subst z3;obtain⟨t,rfl⟩:=ri.int_inv;obtain⟨tt,rfl⟩:=rv.str_inv;obtain⟨DJ,hs⟩:=vg (.str (cL cs) tt) (.int i t);have hlen :(cL cs).length=cs.length:=by simp[cL,Str.length]
 obtain⟨T,id,hl,hT,hg⟩:=SB.item (prog:=W.prog) (w:=W.w) (A:=a.A) (E:=E) (s:=s) (x:=cL cs) (t:=tt) (i:=i) (u:=t) (Q:=Q) (by simp[fitsSsize];exact Vl hb0) (charAt_isSome (by lia) (rl hlen<|Int.lt_of_add_one_le NP))
  (rl (Gg J5 NP hc)<|k _ _ (.str [c] _))
 exact tail_any hT hl hg hs
theorem NQ {i:V}{mH hZ:Expr}(vg:yv hZ)(ok:b9 n a)(S:St Z U s)(rv:aH Z s.heap v mv)(ri:aH Z s.heap i mi)(e:mE v i U=some u)(k :∀tk m,aH Z s.heap u m->Q m {s with toks:=tk}):wpAny bS a.A (subscriptTail mH hZ mv mi) Q E s:=by
 cases v with
 |ref j=>
  unfold mE at e;dsimp only at e
  cases uv:U[j]? with
  |none=>replace e:=uv▸e;injection e
  |some x=>cases x with
   |dict kd az=>
    replace e:=uv▸e;dsimp only at e;by_cases hk:fu kd i=true
    .replace e:=(ay hk)▸e
     obtain⟨p,hp,rfl⟩:=rv.fm;obtain⟨DJ,hs⟩:=vg (.ref p.1) mi;have:=Ge (Q:=Q) (E:=E) (A:=a.A) (by have:=ok.units;exact yg this) S uv hp ri hk e k;exact tail_any this.2 slot_dict_getitem.lookup this.1 hs
    .replace e:=(av hk)▸e;injection e
   |list vs=>replace e:=uv▸e;exact Gf vg S rv ri (by unfold items?;dsimp only;exact rl uv rfl) e (k s.toks)
   |inst=>replace e:=uv▸e;injection e
 |list vs=>exact Gf vg S rv ri rfl e (k s.toks)
 |tup vs=>exact J3 vg rv ri e k
 |str cs=>exact J4 vg rv ri e k
 |_=>injection e
theorem bb {e i:Expr}{f g:ME V}(hf:cm n sc e f)(hg:cm n sc i g)(vg:yv i):cm n sc (.Subscript e i pos) (cv f g):=by
 intro a ok bJ Z U fr s S F Q E p;refine Subscript_ (hf.bind ok bJ S F p λv bq cG s1 mv S1 F1 x1 r1 p1=>?_);refine hg.bind ok bJ S1 F1 p1 λv2 bU jo s2 MC S2 F2 x2 r2 p2=>?_;dsimp only at p2;refine cb.opt p2 λu hi p2=>?_;exact NQ vg ok S2 (r1.mono x2) r2 hi λtk m r=>bt.val (s':={s2 with toks:=tk}) p2 S2.fW (.refl ..) r
theorem yw (b n:Nat):Builtin.Slice.sliceAdjust none (some (b:Int)) 1 (n:Int) =(0,((min b n:Nat):Int)):=by
 unfold Builtin.Slice.sliceAdjust;have h1 :¬((1:Int)<0):=Std.Rxo.size_eq_zero_iff_not_le.mp rfl;have h2 :¬((b:Int)<0):=Int.not_ofNat_neg b;simp only[h1,h2,if_false];congr 1;exact Z6
theorem yx (c:Nat):Builtin.Slice.slicePlaces 0 (c:Int) 1=c:=by
 unfold Builtin.Slice.slicePlaces;have h1 :(1:Int) > 0:=by lia
 simp only[h1,if_true,Int.ediv_one]
 split <;> lia
section
theorem n6 {sl:Addr}{b:Nat}{u:Tok}{Q:Int×Int×Nat->Shared->Prop}(hs:s.heap.IsSliceOf sl .none (.int b u) .none)(h:Q (0,1,min b n) s) :
  wpAny (model prog w) A (Builtin.Slice.sliceApplied (.ref sl) (pure (n:Int))) Q E s:=by
 refine ct λG hG=>?_;obtain⟨os,J6,sa,Th⟩:=id hs;refine hG ?_;refine wb (wb (wpAny_field J6 Th (x:=.none) rfl (wb (wpAny_field J6 Th (x:=.int b u) rfl (wb (wpAny_field J6 Th (x:=.none) rfl (aw ?_)))))));refine aY (slicePart_none ?_);refine rl (av (by decide))<|wb (slicePart_none (wb (slicePart_int (wb (aw ?_)))))
 show wpAny _ _ (match Builtin.Slice.sliceAdjust none (some (b:Int)) 1 (n:Int) with | (lo,hi)=>pure (lo,(1:Int),Builtin.Slice.slicePlaces lo hi 1)) _ _ s
 refine rl (yw b n) ?_;show wpAny _ _ (pure ((0:Int),(1:Int),Builtin.Slice.slicePlaces 0 ((min b n:Nat):Int) 1)) _ _ s;exact rl (yx ..)<|aw h
theorem DL (xs:Array Value)(c:Nat) :((List.range c).filterMap λ(k:Nat)=>xs[((0:Int)+(k:Int) * 1).toNat]?).toArray =(xs.toList.take c).toArray:=by
 have e :(λ(k:Nat)=>xs[((0:Int)+(k:Int) * 1).toNat]?)=λk=>xs[0+k]?:=by
  funext k;have :((0:Int)+(k:Int) * 1).toNat=0+k:=UC;exact rl this rfl
 refine rl e ?_;have:=pick_run xs 0 c;replace this:=List.filterMap_map.symm.trans this;have e2 :((λx=>xs[x]?)∘λx=>0+x)=λk=>xs[0+k]?:=rfl;rw[e2] at this;refine rl this ?_;simp
theorem m6 {t sl:Addr}{items:Array Value}{b:Nat}{u:Tok}(ht:IsTup s.heap t items)(hs:s.heap.IsSliceOf sl .none (.int b u) .none)(h0:items.size<=b->Q (.ref t) s)(h:Q (.ref s.heap.objs.size) {s with heap:=s.heap.push {cls:=.type "tuple",data:=.seq (items.toList.take b).toArray}})(hsz:items.size<=sizeLine):wpAny (model prog w) A (getItem (.ref t) (.ref sl)) Q E s:=by
 refine ct λG hG=>?_;have VV :(items.toList.take (min b items.size)).toArray =(items.toList.take b).toArray:=by
  congr 1;refine rr eZ ?_;by_cases hb:items.toList.length<=b
  .exact rl (Nat.min_eq_right hb)<|rl List.take_length<|rl (List.take_of_length_le hb) rfl
  .exact rl (Nat.min_eq_left (Nat.le_of_not_ge hb)) rfl
 have Cr:sizeOk (.seq (items.toList.take b).toArray):=by
  show(items.toList.take b).toArray.size<=sizeLine;refine rl List.size_toArray<|rl List.length_take<|rl eZ ?_
  exact Z7 ⋯
 obtain⟨os,J6,sa,Th⟩:=id hs;have hTs:s.TypeIs (.ref sl) "slice":=⟨os,J6,sa⟩;refine hG ?_;unfold getItem
 try with_reducible refine cQ ?_
 first |refine wb (aw ?_) |skip
 refine wb (wpAny_sequenceKey ht.typeIs (by decide) ?_);refine wb (wpAny_callSpecial?_slot (name:=Str.ofString "__getitem__") ht.typeIs slot_tuple_getitem
  (fF slot_tuple_getitem ht.typeIs entry_tuple_getitem ?_ (args_tuple_getitem _ _)))
 show wpAny _ _ (Builtin.Tuple.tupleItemsOf (.ref t) >>= _) _ _ s;refine wb (tupleItemsOf_ ht ?_);refine aY (wpAny_typeOf hTs ?_);refine rl (ay (by decide))<|wb (n6 hs ?_)
 show wpAny _ _ (if ((0:Int) == 0&&(1:Int) == 1&&(min b items.size) == items.size)=true then _ else _) _ _ s;by_cases hb:items.size<=b
 .refine rl (ay (by rw[Nat.min_eq_right hb];simp))<|aY (aY (wpAny_typeOf ht.typeIs (aw ?_)))
  exact rl (ay (by simp))<|wb (wpAny_rule (aw ⟨_,rfl,aw (h0 hb)⟩))
 .have An :((min b items.size) == items.size)=false:=by rw[beq_eq_false_iff_ne];exact Vq hb
  refine rl (av (by rw[An];simp))<|rl (DL items (min b items.size))<|rl VV ?_
  first
  |exact wb (m:=Builtin.Tuple.tupleExact _) (wpAny_newObj_type (aw ⟨_,rfl,aw h⟩) Cr)
  |exact wb (m:=Builtin.Tuple.tupleExact _) (wpAny_newObj_type (wb (aw (aw ⟨_,rfl,aw h⟩))) Cr)
  |exact wb (wb (m:=Builtin.Tuple.tupleExact _) (wpAny_newObj_type (aw (aw ⟨_,rfl,aw h⟩)) Cr))
  |exact wb (wb (m:=Builtin.Tuple.tupleExact _) (wpAny_newObj_type (aw ⟨_,rfl,aw h⟩) Cr))
end
theorem St.lg (S:St Z U s)(o:Obj){tk:Nat}:St Z U {s with heap:=s.heap.push o,toks:=tk}:=
 St.mk (S.heap.keeps (λ_ _ e=>bT _ e)) S.gens S.os
section
variable {sl:Addr}{t:Tok}{mH hZ:Expr}
theorem DM (S:St Z U s)(r:aH Z s.heap v mv)(DN:s.heap.IsSliceOf sl (.int k t) .none .none)(hk:1<=k)(hs :∀o,∃DJ,subscripted hZ false o (.ref sl)=operate DJ (getItem o (.ref sl)))(e:Ga k v U=some u)(p:bt a Z s (.ok u U) Q E):wpAny bS a.A (subscriptTail mH hZ mv (.ref sl)) Q E s:=by
 unfold Ga at e
 cases ht:v.g6 with
 |some vs=>
  obtain rfl:=V.eP ht;simp only[ht] at e
  split at e
  case isFalse=>injection e
  rename_i hz;injection e with e;subst e;simp only[Bool.and_eq_true,decide_eq_true_eq] at hz;obtain⟨b,o,ms,kk,rfl,ho,hc,hd,hn,r⟩:=r.fV;have hsz:vs.length=ms.size:=by refine r.length.trans ?_;simp
  have ht:IsTup s.heap b ms:=⟨o,ho,hc,kk,hd⟩;obtain⟨S3,x3,r3⟩:=S.tuple (r.drop k);obtain⟨DJ,hs⟩:=hs (.ref b);exact tail_any ht.typeIs slot_tuple_getitem.lookup (getItem_tuple_from ht DN hk (rr hsz<|hz.2) (bt.val p S3 x3 r3) (rr hsz<|dn hz.1)) hs
 |none=>
  simp only[ht] at e;obtain⟨vs,QT,e⟩:=Option.bind_eq_some_iff.mp e
  split at e
  case isFalse=>injection e
  rename_i hz;injection e with e;subst e;obtain⟨b,ms,rfl,l,q⟩:=dY S.heap r QT;have hsz:vs.length=ms.size:=by refine q.length.trans ?_;simp
  obtain⟨S3,x3,r3⟩:=S.ym (q.drop k);obtain⟨DJ,hs⟩:=hs (.ref b);refine tail_any l.typeIs slot_list_getitem.lookup (wpAny_getItem_list_slice l DN (.int _ _) .none .none (by simp) ?_ (rr hsz<|dn hz)) hs
  exact rl (slicePick_from' ..)<|bt.val p S3 x3 r3
theorem vh (S:St Z U s)(r:aH Z s.heap v mv)(DN:s.heap.IsSliceOf sl .none (.int k t) .none)(hs :∀o,∃DJ,subscripted hZ false o (.ref sl)=operate DJ (getItem o (.ref sl)))(e:yt k v U=some u)(p:bt a Z s (.ok u U) Q E):wpAny bS a.A (subscriptTail mH hZ mv (.ref sl)) Q E s:=by
 unfold yt at e
 cases ht:v.g6 with
 |some vs=>
  obtain rfl:=V.eP ht;rw[ht] at e;dsimp only at e
  split at e
  case isFalse=>injection e
  rename_i hz;injection e with e;subst e;have r0:=r;obtain⟨b,o,ms,kk,rfl,ho,hc,hd,hn,r⟩:=r.fV;have hsz:vs.length=ms.size:=by refine r.length.trans ?_;simp
  have ht:IsTup s.heap b ms:=⟨o,ho,hc,kk,hd⟩;obtain⟨S3,x3,r3⟩:=S.tuple (r.take k);obtain⟨DJ,hs⟩:=hs (.ref b);refine tail_any ht.typeIs slot_tuple_getitem.lookup (m6 ht DN (λNR=>?_) (bt.val p S3 x3 r3) (rr hsz<|dn hz)) hs
  replace p:=(List.take_of_length_le (rl hsz<|NR))▸p
  exact bt.val (s':=s) p S (.refl ..) r0
 |none=>
  rw[ht] at e;obtain⟨vs,QT,e⟩:=Option.bind_eq_some_iff.mp e
  split at e
  case isFalse=>injection e
  rename_i hz;injection e with e;subst e;obtain⟨b,ms,rfl,l,q⟩:=dY S.heap r QT;have hsz:vs.length=ms.size:=by refine q.length.trans ?_;simp
  obtain⟨S3,x3,r3⟩:=S.ym (q.take k);obtain⟨DJ,hs⟩:=hs (.ref b);refine tail_any l.typeIs slot_list_getitem.lookup (wpAny_getItem_list_slice l DN .none (.int _ _) .none (by simp) ?_ (rr hsz<|dn hz)) hs
  exact rl (slicePick_upto' ..)<|bt.val p S3 x3 r3
end
theorem dk {e:Expr}{f:ME V}(hf:cm n sc e f)(hk:1<=k) :
  cm n sc (.Subscript e (.Slice (some (.Constant (.int k) kk kp)) none none sp) pos) (dU k f):=by
 intro a ok bJ Z U fr s S F Q E p;refine Subscript_ (hf.bind ok bJ S F p λv bq cG s1 mv S1 F1 x1 r1 p1=>?_);refine wpAny_Slice ?_;refine rl (evalPart_some ..)<|rl (evalPart_none ..)<|wpAny_mkInt (aw (aw ?_))
 refine cb.opt p1 λu hu p1=>?_;have x2:cF [] cG s1.heap cG (s1.heap.push {cls:=.type "slice",data:=.fields #[.int k s1.toks,.none,.none]}):=cF.push _ _;exact DM (S1.lg (tk:=s1.toks+1) _) (r1.mono x2) (Heap.IsSliceOf.new ..) hk (λ_=>⟨_,rfl⟩) hu (cb.step x2 p1)
theorem m7 {e:Expr}{f:ME V}(hf:cm n sc e f) :
  cm n sc (.Subscript e (.Slice none (some (.Constant (.int k) kk kp)) none sp) pos) (iO k f):=by
 intro a ok bJ Z U fr s S F Q E p;refine Subscript_ (hf.bind ok bJ S F p λv bq cG s1 mv S1 F1 x1 r1 p1=>?_);refine wpAny_Slice ?_;refine rl (evalPart_some ..)<|rl (evalPart_none ..)<|aw (wpAny_mkInt (aw ?_))
 refine cb.opt p1 λu hu p1=>?_;have x2:cF [] cG s1.heap cG (s1.heap.push {cls:=.type "slice",data:=.fields #[.none,.int k s1.toks,.none]}):=cF.push _ _;exact vh (S1.lg (tk:=s1.toks+1) _) (r1.mono x2) (Heap.IsSliceOf.new ..) (λ_=>⟨_,rfl⟩) hu (cb.step x2 p1)
end
set_option tactic.hygienic true
section
variable {D:List Addr}
theorem St.DO {o':O}{tk:Nat}(S:St Z U s)(hi:Z.objs[i]? = some p)(hs:Heap.SameBut p.2 s.heap h')(r:mB Z h' o' p) :
  St Z (U.set i o') {s with heap:=h',toks:=tk}/\cF [] Z s.heap Z h':=
 ⟨St.mk (S.heap.set hi hs r) S.gens S.os,cF.sameBut hs (eB hi) (S.heap.gM hi) (let ⟨ob,e,_⟩:=r.mut;⟨ob,e⟩)⟩
theorem n7 {ms:Array Value}{g:Array Value->Array Value}{tk:Nat}(S:St Z U s)(hi:Z.objs[i]? = some p)(e1:p.1=p.2)(ho:s.heap.get? p.2=some ⟨.type "list",none,.seq ms k,#[]⟩)(hw:aD Z s.heap ws (g ms).toList) :
  St Z (U.set i (.list ws)) {s with heap:=s.heap.update p.2 (Obj.mapSeq g),toks:=tk}/\cF [] Z s.heap Z (s.heap.update p.2 (Obj.mapSeq g)):=by
 have hs:Heap.SameBut p.2 s.heap (s.heap.update p.2 (Obj.mapSeq g)):=dP ..;exact S.DO hi hs ⟨e1,_,_,IsL.update ho g,hw.mono (cF.sameBut (D:=[]) hs (eB hi) (S.heap.gM hi) ⟨_,IsL.update ho g⟩)⟩
theorem d8.gp {β:Type}{R:V×V->β->Prop}{q:β->Bool}{f:β->β}{new:β}{k v:V} :∀{az:List (V×V)} {ks:List β},d8 R az ks->(∀kv km,R kv km->V.beq kv.1 k=q km)->
  (∀kv km,R kv km->q km=true->R (kv.1,v) (f km))->R (k,v) new->d8 R (gp az k v) (if ks.any q then ks.map (λkm=>if q km then f km else km) else ks++[new]):=by
 intro az ks al h1 h2 h3;have ha:az.any (λkv=>V.beq kv.1 k)=ks.any q:=by
  clear h2 h3
  induction al with
  |nil=>rfl
  |cons r _ ih=>simp only[List.any_cons,ih,h1 _ _ r]
 unfold Mine.gp;refine rl ha ?_;by_cases hb:ks.any q=true
 .refine rl (ay hb)<|rl (ay hb) ?_
  clear ha hb h3
  induction al with
  |nil=>exact .nil
  |@cons kv km as bs r _ ih=>
   simp only[List.map_cons];refine .cons ?_ ih;refine rl (h1 _ _ r) ?_;by_cases hq:q km=true
   .exact rl (ay hq)<|rl (ay hq)<|h2 _ _ r hq
   .exact rl (av hq)<|rl (av hq)<|r
 .exact rl (av hb)<|rl (av hb)<|al.append (.cons h3 .nil)
theorem d8.DG {β:Type}{R:V×V->β->Prop}{q:β->Bool}{k:V} :∀{az:List (V×V)} {ks:List β},d8 R az ks->(∀kv km,R kv km->V.beq kv.1 k=q km)->d8 R (DG az k) (ks.filter λkm=>!q km):=by
 intro az ks al h1;unfold Mine.DG
 induction al with
 |nil=>exact .nil
 |@cons kv km as bs r _ ih=>
  simp only[List.filter_cons,h1 _ _ r]
  split
  .exact .cons r ih
  .exact ih
theorem AN (xs:List (List V×Addr×Value))(k:List V)(b:Addr)(v:Value):storedH xs k b v=if xs.any (λx=>decide (x.1=k)) then xs.map (λx=>if decide (x.1=k) then (x.1,x.2.1,v) else x) else xs++[(k,b,v)]:=by
 unfold storedH;have :(atKey xs k).isSome=xs.any λx=>decide (x.1=k):=by
  unfold atKey;exact rl Option.isSome_map<|rl List.isSome_find? rfl
 refine rl this ?_;congr 1;congr 1;funext x;unfold putAt;by_cases hx:x.1=k <;> simp[hx]
theorem vj {K:Type}[DecidableEq K](ks:List (K×Value))(k:K)(v:Value):stored ks k v=if ks.any (λkm=>decide (km.1=k)) then ks.map (λkm=>if decide (km.1=k) then (km.1,v) else km) else ks++[(k,v)]:=by
 simp only[stored,decide_eq_true_eq]
section
variable {tk:Nat}
theorem AO {j:Int}(S:St Z U s)(hp:Z.objs[i]? = some p)(e1:p.1=p.2)(al:d8 (λkv km=>kv.1=.int km.1/\aH Z s.heap kv.2 km.2) az ks)(rv:aH Z s.heap v mv)(d:h'.DictOf (intKind W.prog W.w) p.2 (stored ks j mv))(hs:Heap.SameBut p.2 s.heap h'):St Z (U.set i (.dict .int (gp az (.int j) v))) {s with heap:=h',toks:=tk}/\cF [] Z s.heap Z h':=by
 have x0:cF [] Z s.heap Z h':=cF.sameBut hs (eB hp) (S.heap.gM hp) (let ⟨o,_,_,e,_⟩:=d;⟨o,e⟩);have NS:=d8.gp (R:=λ(kv:V×V) (km:Int×Value)=>kv.1=.int km.1/\aH Z h' kv.2 km.2) (al.mono λ_ _ q=>⟨q.1,q.2.mono x0⟩) (q:=λkm=>decide (km.1=j)) (f:=λkm=>(km.1,mv)) (new:=(j,mv)) (k:=.int j) (v:=v)
  (λkv km q=>(aP (V.beq · (.int j)) q.1).trans (V.Ck ..)) (λkv km q _=>⟨q.1,rv.mono x0⟩) ⟨rfl,rv.mono x0⟩
 exact S.DO (tk:=tk) (o':=.dict .int (gp az (.int j) v)) hp hs ⟨e1,_,d,rl (vj ..)<|NS⟩
theorem sf {j:List Nat}{ks:List (Str×Value)}(S:St Z U s)(hp:Z.objs[i]? = some p)(e1:p.1=p.2)(al:d8 (λkv km=>(∃x,kv.1=.str x/\km.1=cL x)/\aH Z s.heap kv.2 km.2) az ks)(rv:aH Z s.heap v mv)(d:h'.DictOf (strKind W.prog W.w) p.2 (stored ks (cL j) mv))(hs:Heap.SameBut p.2 s.heap h'):St Z (U.set i (.dict .str (gp az (.str j) v))) {s with heap:=h',toks:=tk}/\cF [] Z s.heap Z h':=by
 have x0:cF [] Z s.heap Z h':=cF.sameBut hs (eB hp) (S.heap.gM hp) (let ⟨o,_,_,e,_⟩:=d;⟨o,e⟩);have NS:=d8.gp (R:=λ(kv:V×V) (km:Str×Value)=>(∃x,kv.1=.str x/\km.1=cL x)/\aH Z h' kv.2 km.2) (al.mono λ_ _ q=>⟨q.1,q.2.mono x0⟩) (q:=λkm=>decide (km.1=cL j)) (f:=λkm=>(km.1,mv)) (new:=(cL j,mv)) (k:=.str j) (v:=v)
  (λkv km q=>by
   obtain⟨⟨x,e,e'⟩,_⟩:=q;refine rl e<|rl e'<|rl (V.JI ..) ?_
   by_cases hx:x=j
   .exact rl hx<|rl (bN rfl)<|rl (beq_self_eq_true ..) rfl
   .exact(beq_eq_false_iff_ne.mpr hx).trans (cI λz:cL x=cL j=>hx (aP Array.toList (aP Str.cps z))).symm) (λkv km q _=>⟨q.1,rv.mono x0⟩) ⟨⟨j,rfl,rfl⟩,rv.mono x0⟩
 exact S.DO (tk:=tk) (o':=.dict .str (gp az (.str j) v)) hp hs ⟨e1,_,d,rl (vj ..)<|NS⟩
theorem m8 {j:List V}{b:Addr}(S:St Z U s)(hp:Z.objs[i]? = some p)(e1:p.1=p.2)(al:d8 (λkv km=>(kv.1=.tup km.1/\aH Z s.heap (.tup km.1) (.ref km.2.1))/\aH Z s.heap kv.2 km.2.2) az xs)(rx:aH Z s.heap (.tup j) (.ref b))(rv:aH Z s.heap v mv)(d:h'.DictOfH (dX) p.2 (storedH xs j b mv))(hs:Heap.SameBut p.2 s.heap h'):St Z (U.set i (.dict .tup (gp az (.tup j) v))) {s with heap:=h',toks:=tk}/\cF [] Z s.heap Z h':=by
 have x0:cF [] Z s.heap Z h':=cF.sameBut hs (eB hp) (S.heap.gM hp) (let ⟨o,_,_,e,_⟩:=d;⟨o,e⟩);have NS:=d8.gp (R:=λ(kv:V×V) (km:List V×Addr×Value)=>(kv.1=.tup km.1/\aH Z h' (.tup km.1) (.ref km.2.1))/\aH Z h' kv.2 km.2.2) (al.mono λ_ _ q=>⟨⟨q.1.1,q.1.2.mono x0⟩,q.2.mono x0⟩) (q:=λkm=>decide (km.1=j)) (f:=λkm=>(km.1,km.2.1,mv)) (new:=(j,b,mv))
  (k:=.tup j) (v:=v) (λkv km q=>by
   exact rl q.1.1<|rl (V.rU ..)<|decide_eq_decide.mpr ⟨V.tup.inj,aP V.tup⟩) (λkv km q _=>⟨q.1,rv.mono x0⟩) ⟨⟨rfl,rx.mono x0⟩,rv.mono x0⟩
 refine S.DO (tk:=tk) (o':=.dict .tup (gp az (.tup j) v)) hp hs ⟨e1,_,d,?_⟩;exact rl (AN ..)<|NS
end
theorem Gh {kd:DK}{Q:Unit->Shared->Prop}(hA:A.units+65<cLine)(S:St Z U s)(hi:U[i]? = some (.dict kd az))(hp:Z.objs[i]? = some p)(rx:aH Z s.heap x mx)(rv:aH Z s.heap v mv)(hk:fu kd x=true)(hz:cE az.length=true)(k :∀s',s'.heap.objs.size=s.heap.objs.size->St Z (U.set i (.dict kd (gp az x v))) s'->cF [] Z s.heap Z s'.heap->Q () s'):wpAny bS A (setItem (.ref p.1) mx mv) Q E s:=by
 obtain⟨e1,r⟩:=S.heap.objs _ _ _ hi hp;refine rl e1 ?_
 cases kd with
 |int=>
  cases x <;> first |cases hk |skip
  obtain⟨t1,rfl⟩:=rx.int_inv;obtain⟨ks,d,al⟩:=r;refine wpAny_setItem_pairs (knd:=intKind W.prog W.w) (beq_self_eq_true _) d (λh' d' hs=>?_) (rr al.length<|dn hz)
  obtain⟨S',x'⟩:=AO (tk:=s.toks+1) S hp e1 al rv d' hs;exact k _ hs.1 S' x'
 |str=>
  cases x <;> first |cases hk |skip
  obtain⟨t1,rfl⟩:=rx.str_inv;obtain⟨ks,d,al⟩:=r;refine wpAny_setItem_pairs (knd:=strKind W.prog W.w) (strKind_is _ _ _ _) d (λh' d' hs=>?_) (rr al.length<|dn hz)
  obtain⟨S',x'⟩:=sf (tk:=s.toks+1) S hp e1 al rv d' hs;exact k _ hs.1 S' x'
 |tup=>
  cases x <;> first |cases hk |skip
  rename_i j;obtain⟨ks,d,al⟩:=r;obtain⟨b,rfl,hb⟩:=jU rx hk;refine wpAny_setItem_heap (knd:=dX) (by show A.in1.units+64<cLine;simp only;omega) hb d (λh' d' hs=>?_) (rr al.length<|dn hz)
  obtain⟨S',x'⟩:=m8 (tk:=s.toks+(dX).draws j) S hp e1 al rx rv d' hs;exact k _ hs.1 S' x'
end
inductive MK where |append |extend |pop |sg |i8 |isspace
 deriving DecidableEq
noncomputable def MK.cls:MK->String
 |.append |.extend |.pop=>"list"
 |.sg |.i8=>"dict"
 |.isspace=>"str"
noncomputable def gF (U:bw)(v:V):Option (Nat×List V):=match v with
 |.ref i=>match U[i]? with
  |some (.list ws)=>some (i,ws)
  |_=>none
 |_=>none
noncomputable def gi (U:bw)(v:V):Option (Nat×DK×List (V×V)):=match v with
 |.ref i=>match U[i]? with
  |some (.dict k ws)=>some (i,k,ws)
  |_=>none
 |_=>none
noncomputable def lh (vs:List V):Option V:=match vs with
 |[x]=>some x
 |_=>none
def wV (m:MK)(v:V)(U:bw):Bool:=match m with
 |.append=>(gF U v).isSome
 |.extend=>(gF U v).isSome
 |.pop=>(gF U v).isSome
 |.sg=>(gi U v).isSome
 |.i8=>(gi U v).isSome
 |.isspace=>v.nY.isSome
def Cs (v:V)(vs:List V)(U:bw):Option (V×bw):=(gF U v).bind λq=>(lh vs).bind λx=>if cE q.2.length then some (.none,U.set q.1 (.list (q.2++[x]))) else .none
def Ct (v:V)(vs:List V)(U:bw):Option (V×bw):=(gF U v).bind λq=>(lh vs).bind λx=>(items? U x).bind λxs=>if cE (q.2.length+xs.length) then some (.none,U.set q.1 (.list (q.2++xs))) else .none
def QU (v:V)(vs:List V)(U:bw):Option (V×bw):=(gF U v).bind λq=>if vs.isEmpty&&cE q.2.length then q.2.getLast?.map λx=>(x,U.set q.1 (.list q.2.dropLast)) else .none
def MH (v:V)(vs:List V)(U:bw):Option (V×bw):=(gi U v).bind λq=>(lh vs).bind λx=>x.int?.bind λk=>if q.2.1=.int/\cE q.2.2.length=true then (cn q.2.2 (.int k)).map λx=>(x,U.set q.1 (.dict .int (DG q.2.2 (.int k)))) else .none
def MI (v:V)(vs:List V)(U:bw):Option (V×bw):=(gi U v).bind λq=>vs.head?.bind λx=>(lh vs.tail).bind λd=>x.g6.bind λk=>
 if q.2.1=.tup/\fu .tup (.tup k)=true/\cE q.2.2.length=true then (match cn q.2.2 (.tup k) with |some x=>some (x,U) |.none=>some (d,U.set q.1 (.dict .tup (gp q.2.2 (.tup k) d)))) else .none
def MJ (v:V)(vs:List V)(U:bw):Option (V×bw):=v.nY.bind λcs=>if vs.isEmpty then some (.bool (Txt.isspace (cL cs)),U) else .none
def Cu (m:MK)(v:V)(vs:List V)(U:bw):Option (V×bw):=match m with
 |.append=>Cs v vs U
 |.extend=>Ct v vs U
 |.pop=>QU v vs U
 |.sg=>MH v vs U
 |.i8=>MI v vs U
 |.isspace=>MJ v vs U
def c6 (m:MK)(f:ME V)(fs:List (ME V)):ME V:=f.bind λv=>λfr U=>if wV m v U then ((aS fs).bind λvs=>λ_ U=>match Cu m v vs U with |some (r,bB)=>.ok r bB |.none=>.stuck) fr U else .stuck
section
variable {K:Type}[DecidableEq K]{knd:HeapKind prog w K}
theorem qJ {a:Addr}{xs:List (K×Addr×Value)}{k:K}{v:Value}(hu:knd.room A)(yy:knd.is s.heap k a)(hm:s.heap.DictOfH knd d xs)(AP :∀p,atKey xs k=some p->Q p.2 {s with toks:=s.toks+knd.draws k})(k7:atKey xs k=none->∀h',h'.DictOfH knd d (storedH xs k a v)->Heap.SameBut d s.heap h'->Q v {s with heap:=h',toks:=s.toks+knd.draws k})(hsz:xs.length<=sizeLine) :
  wpAny (model prog w) A (dictSetDefault d (.ref a) v) Q E s:=by
 refine ct λG hG=>?_;obtain⟨o,es,ep,ho,hc,hd,he,NH,hn⟩:=hm;refine hG ?_;unfold dictSetDefault
 try with_reducible refine cQ ?_
 refine wb (knd.pyHash hu yy ?_);refine wb (wpAny_dictFind_heap (s:={s with toks:=s.toks+knd.draws k}) hu yy ho hd he NH hn ?_ ?_)
 .intro An
  have Gi:=atKey_none_of_get An;have AQ:k∉xs.map (·.1):=not_mem_keys_of_get An;refine wb (wpAny_rule (wb (wpAny_updateDictKeys (hz:=by have e:=size_of_entries he;exact Ye ⋯ ⋯ (by rfl)) (s:={s with toks:=s.toks+knd.draws k}) ho hd (aw (k7 Gi _ ⟨_,_,ep+1,Heap.get?_update_self _ ho (Obj.isFreed_of_dict (Obj.data_mapDictKeys hd _)),
   hc.mapDictKeys _,Obj.data_mapDictKeys hd _,?_,?_,?_⟩ (dP ..))))))
  .refine rl (storedH_new Gi ..) ?_
   simp[he,entryOfKey]
  .refine rl (storedH_new Gi ..) ?_
   intro x hx;rcases List.mem_append.mp hx with hx |hx
   .exact knd.keeps (NH x hx) ho hd (dP ..)
   .rw[List.mem_singleton] at hx
    subst hx;exact knd.keeps yy ho hd (dP ..)
  .refine rl (storedH_new Gi ..) ?_
   rw[List.map_append,List.nodup_append];refine⟨hn,by simp,?_⟩;intro x hx y hy;rw[List.map_cons,List.map_nil,List.mem_singleton] at hy;subst hy;exact λe=>AQ (e▸hx)
 .intro j p hj
  have Gi:=atKey_of_get hn hj;refine aY (wpAny_dictEntries (s:={s with toks:=s.toks+knd.draws k}) ho hd ?_);exact rl (entry_at he j)<|rl hj<|wb (wpAny_rule (aw (AP p Gi)))
theorem lj {a:Addr}{xs:List (K×Addr×Value)}{k:K}{v:Value}(hu:knd.room A.in1)(yy:knd.is s.heap k a)(hm:s.heap.DictOfH knd d xs)(hd :(d == sysModules)=false)(AP :∀p,atKey xs k=some p->Q p.2 {s with toks:=s.toks+knd.draws k})(k7:atKey xs k=none->∀h',h'.DictOfH knd d (storedH xs k a v)->Heap.SameBut d s.heap h'->Q v {s with heap:=h',toks:=s.toks+knd.draws k})(hsz:xs.length<=sizeLine):wpAny (model prog w) A (call (.builtin "dict.setdefault") [.ref d,.ref a,v]) Q E s:=by
 have hT:=hm.typeIs;refine fF F.slot_dict_setdefault hT F.entry_dict_setdefault ?_ (F.args_dict_setdefault_3 _ _ _);refine wb ?_;refine wb (wpAny_notOrdered_dict hT ?_);refine aw ?_;show wpAny _ _ (if (d == sysModules)=true then _ else (dictSetDefault d (.ref a) v >>= _)) _ _ s;exact rl (av (by rw[hd];exact Bool.false_ne_true))<|wb (qJ hu yy hm (λp hp=>aw ⟨_,rfl,AP p hp⟩) (λhp h' d' hs=>aw ⟨_,rfl,k7 hp h' d' hs⟩) hsz)
end
theorem wW (l b:Addr)(items:Array Value)(n:Nat)(sj:Array Value)(n2:Nat)(F7:Option Addr)(F8:Array (Option Value))(hc0 :¬(!items.isEmpty&&Builtin.List.listTooLong (items.size+sj.size))=true)(hc1:items.size<=sizeLine)(Ti:items.size+sj.size<=sizeLine+1) :
  Meets (Builtin.«list.extend» ⟨[.ref l,.ref b],[]⟩) (λ_ R s=>s.heap.get? l=some {cls:=.type "list",dict:=none,data:=.seq items n,slots:=#[]}/\s.heap.get? b=some {cls:=.type "list",dict:=F7,data:=.seq sj n2,slots:=F8}/\R (.ok (.ret Value.none)) {s with heap:=s.heap.update l (Obj.mapSeq λx=>x++sj),toks:=s.toks}):=
 .of_wp λprog w A R s h=>by
  refine ct λG hG=>?_;obtain⟨hp,g,d,tk,os⟩:=s;obtain⟨hl,hb,h⟩:=h;have f1:=AutoSeq1.idx_int;have f2:=AutoSeq1.sub_tuple_tuple;have f3:=AutoSeq1.sub_list_list;have f4:=AutoSeq1.sub_tuple_list;have f5:=AutoSeq1.sub_list_tuple;have PY :(items++sj).size<=sizeLine+1:=rl Array.size_append<|Ti
  refine hG ?_
  wp_walk using (wpAny_updateSeq hl rfl (hz:=hc1) (_hz':=PY)),AutoSeq1.wpAny_loadPart' hl,AutoSeq1.wpAny_loadPart' hb;exact⟨_,rfl,h⟩
section
variable {D:List Addr}
noncomputable def MK.id (m:MK):String:=match m with
 |.append=>"list.append" |.extend=>"list.extend" |.pop=>"list.pop" |.sg=>"dict.pop" |.i8=>"dict.setdefault" |.isspace=>"str.isspace"
noncomputable def MK.name (m:MK):String:=match m with
 |.append=>"append" |.extend=>"extend" |.pop=>"pop" |.sg=>"pop" |.i8=>"setdefault" |.isspace=>"isspace"
theorem AR (h:cE (i+j)=true):Builtin.List.listTooLong (i+j)=false:=by
 have:=of_decide_eq_true h;unfold Builtin.List.listTooLong;rw[decide_eq_false_iff_not]
 try rw[sizeLine_eq]
 exact QB ⋯ (by rfl)
theorem MK.attrs :∀m:MK,PlainAttrs m.cls
 |.append=>F.plainAttrs_list |.extend=>F.plainAttrs_list |.pop=>F.plainAttrs_list
 |.sg=>F.plainAttrs_dict |.i8=>F.plainAttrs_dict
 |.isspace=>F.plainAttrs_str
theorem MK.slot :∀m:MK,Slot m.cls (ofString m.name) m.id
 |.append=>F.slot_list_append |.extend=>F.slot_list_extend |.pop=>F.slot_list_pop
 |.sg=>F.slot_dict_pop |.i8=>F.slot_dict_setdefault
 |.isspace=>F.slot_str_isspace
theorem MK.typ :∀m:MK,typeOf (.builtin m.id)=pure (.type "method_descriptor")
 |.append=>F.type_list_append |.extend=>F.type_list_extend |.pop=>F.type_list_pop
 |.sg=>F.type_dict_pop |.i8=>F.type_dict_setdefault
 |.isspace=>F.type_str_isspace
theorem n8 {q:Nat×List V}(e:gF U v=some q):v=.ref q.1/\U[q.1]? = some (.list q.2):=by
 revert e;cases v with
 |ref i=>
  intro e;unfold gF at e;dsimp only at e
  cases hi:U[i]? with
  |none=>replace e:=hi▸e;injection e
  |some o=>cases o with
   |list ws=>replace e:=hi▸e;injection e with e;subst e;exact⟨rfl,hi⟩
   |_=>replace e:=hi▸e;injection e
 |_=>intro e;injection e
theorem jV {q:Nat×DK×List (V×V)}(e:gi U v=some q):v=.ref q.1/\U[q.1]? = some (.dict q.2.1 q.2.2):=by
 revert e;cases v with
 |ref i=>
  intro e;unfold gi at e;dsimp only at e
  cases hi:U[i]? with
  |none=>replace e:=hi▸e;injection e
  |some o=>cases o with
   |dict k ws=>replace e:=hi▸e;injection e with e;subst e;exact⟨rfl,hi⟩
   |_=>replace e:=hi▸e;injection e
 |_=>intro e;injection e
theorem iF (e:lh vs=some x):vs=[x]:=by
 cases vs with
 |nil=>injection e
 |cons y r=>cases r with
  |nil=>injection e with e;subst e;rfl
  |cons=>injection e
theorem pa (S:St Z U s)(r:aH Z s.heap v mv)(e :(gF U v).isSome=true):s.TypeIs mv "list"/\∀b,mv=.ref b->∃ob,s.heap.get? b=some ob/\ob.dict=none:=by
 refine ct λG hG=>?_;obtain⟨q,hq⟩:=Option.isSome_iff_exists.mp e;obtain⟨rfl,hi⟩:=n8 hq;obtain⟨p,hp,rfl⟩:=r.fm;obtain⟨e1,ms,k,g,_⟩:=S.heap.objs _ _ _ hi hp;refine hG ?_;exact rl e1<|⟨⟨_,g,rfl⟩,λb hb=>by injection hb with hb;subst hb;exact⟨_,g,rfl⟩⟩
theorem mh (S:St Z U s)(r:aH Z s.heap v mv)(e :(gi U v).isSome=true):s.TypeIs mv "dict"/\∀b,mv=.ref b->∃ob,s.heap.get? b=some ob/\ob.dict=none:=by
 refine ct λG hG=>?_;obtain⟨⟨i,kd,ws⟩,hq⟩:=Option.isSome_iff_exists.mp e;obtain⟨rfl,hi⟩:=jV hq;obtain⟨p,hp,rfl⟩:=r.fm;obtain⟨e1,r⟩:=S.heap.objs _ _ _ hi hp;have key :∃o,s.heap.get? p.2=some o/\o.ExactDict:=by
  cases kd with
  |int=>obtain⟨ks,⟨o,es,ep,ho,hx,_⟩,_⟩:=r;exact⟨o,ho,hx⟩
  |str=>obtain⟨ks,⟨o,es,ep,ho,hx,_⟩,_⟩:=r;exact⟨o,ho,hx⟩
  |tup=>obtain⟨ks,⟨o,es,ep,ho,hx,_⟩,_⟩:=r;exact⟨o,ho,hx⟩
 obtain⟨o,ho,hx⟩:=key;refine hG ?_;exact rl e1<|⟨⟨o,ho,hx.1⟩,λb hb=>by injection hb with hb;subst hb;exact⟨o,ho,hx.2.1⟩⟩
theorem J7 {m:MK}(S:St Z U s)(r:aH Z s.heap v mv)(e:wV m v U=true) :
  s.TypeIs mv m.cls/\∀b,mv=.ref b->∃ob,s.heap.get? b=some ob/\ob.dict=none:=by
 cases m with
 |append=>exact pa S r e
 |extend=>exact pa S r e
 |pop=>exact pa S r e
 |sg=>exact mh S r e
 |i8=>exact mh S r e
 |isspace=>
  refine ct λG hG=>?_;obtain⟨q,hq⟩:=Option.isSome_iff_exists.mp (show v.nY.isSome=true from e);obtain rfl:=V.iW hq
  cases r;refine hG ?_;exact⟨typeIs_str ..,λb hb=>nomatch hb⟩
theorem aD.one (r:aD Z h [v] ms) :∃m,ms=[m]/\aH Z h v m:=by
 cases r with |cons h1 h2=>cases h2;exact⟨_,rfl,h1⟩
theorem aD.two (r:aD Z h [v,u] ms) :∃m k,ms=[m,k]/\aH Z h v m/\aH Z h u k:=by
 cases r with |cons h1 h2=>obtain⟨k,rfl,h3⟩:=h2.one;exact⟨_,_,rfl,h1,h3⟩
section
variable {r:V}
theorem DP (S:St Z U s)(rv:aH Z s.heap v mv)(rs:aD Z s.heap vs ms)(e0:Cs v vs U=some (r,bB))(p:bt a Z s (.ok r bB) Q E):wpAny bS a.A (call (.builtin "list.append") (mv::ms)) Q E s:=by
 refine aT e0 λq1 hq e1=>?_;obtain⟨i,ws⟩:=q1;clear e0;refine aT e1 λx hx e2=>?_;clear e1;obtain⟨rfl,hi⟩:=n8 hq;obtain rfl:=iF hx;refine di e2 λhz e2=>?_;refine ct λG hG=>?_
 cases e2;obtain⟨m1,rfl,r1⟩:=rs.one;obtain⟨pp,hp,rfl⟩:=rv.fm;obtain⟨e1,ik,k,g,q⟩:=S.heap.objs _ _ _ hi hp;refine hG ?_;refine rl e1<|ct λG hG=>?_
 have hsz:ws.length=ik.size:=by refine q.length.trans ?_;simp
 obtain⟨S',x'⟩:=n7 (tk:=s.toks) (g:=λxs=>xs.push m1) (ws:=ws++[x]) S hp e1 g (by simpa using q.append (.cons r1 .nil));refine hG ?_;exact call_meets F.slot_list_append ⟨_,g,rfl⟩ F.entry_list_append (F.args_list_append_2 _ _) (list_append _ ik k m1 (rr hsz<|dn hz)) ⟨g,bt.val p S' x' .none⟩
theorem DQ (S:St Z U s)(rv:aH Z s.heap v mv)(rs:aD Z s.heap vs ms)(e0:Ct v vs U=some (r,bB))(p:bt a Z s (.ok r bB) Q E):wpAny bS a.A (call (.builtin "list.extend") (mv::ms)) Q E s:=by
 refine aT e0 λq1 hq e1=>?_;obtain⟨i,ws⟩:=q1;clear e0;refine aT e1 λx hx e2=>?_;clear e1;refine aT e2 λxs hxs e3=>?_;clear e2;obtain⟨rfl,hi⟩:=n8 hq;obtain rfl:=iF hx;refine di e3 λhz e3=>?_;refine ct λG hG=>?_
 cases e3;obtain⟨m1,rfl,r1⟩:=rs.one;obtain⟨pp,hp,rfl⟩:=rv.fm;obtain⟨e1,ik,k,g,q⟩:=S.heap.objs _ _ _ hi hp;obtain⟨b,NT,rfl,l,q2⟩:=dY S.heap r1 hxs;obtain⟨⟨c2,F7,da2,F8⟩,g2,xY,k2,qZ⟩:=l;simp only at xY qZ;subst xY qZ;refine hG ?_;refine rl e1 ?_;have hsz:ws.length=ik.size:=by refine q.length.trans ?_;simp
 have VW:xs.length=NT.size:=by refine q2.length.trans ?_;simp
 have AS:=dn hz;obtain⟨S',x'⟩:=n7 (tk:=s.toks) (g:=λxs=>xs++NT) (ws:=ws++xs) S hp e1 g (by simpa using q.append q2);simp only[hsz,VW] at hz AS;exact call_meets F.slot_list_extend ⟨_,g,rfl⟩ F.entry_list_extend (F.args_list_extend_2 _ _) (wW _ _ ik k NT k2 F7 F8 (by refine rl (AR hz) ?_;simp) (Nat.le_of_add_right_le AS) (Nat.le_add_right_of_le AS)) ⟨g,g2,bt.val p S' x' .none⟩
theorem AU {ik:Array Value}(hm:ik[ik.size - 1]? = some m) :(ik.eraseIdxIfInBounds (ik.size - 1)).toList=ik.toList.take (ik.size - 1):=by
 have uw:ik.size - 1<ik.size:=by
  rcases Nat.lt_or_ge (ik.size - 1) ik.size with h |h
  .exact h
  .replace hm:=(Array.getElem?_eq_none h)▸hm;injection hm
 unfold Array.eraseIdxIfInBounds;exact rl (dif_pos uw)<|rl Array.toList_eraseIdx<|rl (List.eraseIdx_eq_take_drop_succ ..)<|rl (List.drop_eq_nil_of_le (by rw[eZ];exact Va))<|rl (List.append_nil ..) rfl
theorem NU (S:St Z U s)(rv:aH Z s.heap v mv)(rs:aD Z s.heap vs ms)(e0:QU v vs U=some (r,bB))(p:bt a Z s (.ok r bB) Q E):wpAny bS a.A (call (.builtin "list.pop") (mv::ms)) Q E s:=by
 refine aT e0 λq1 hq e1=>?_;obtain⟨i,ws⟩:=q1;clear e0;obtain⟨rfl,hi⟩:=n8 hq
 split at e1
 case isFalse=>injection e1
 refine ct λG hG=>?_;rename_i hz;obtain⟨hz0,hz⟩:=cM hz;obtain rfl:=List.isEmpty_iff.mp hz0;refine dh e1 λx Gj e2=>?_;clear e1
 cases e2
 cases rs;obtain⟨pp,hp,rfl⟩:=rv.fm;obtain⟨e1,ik,k,g,q⟩:=S.heap.objs _ _ _ hi hp;refine hG ?_;refine rl e1<|ct λG hG=>?_
 have hsz:ws.length=ik.size:=by refine q.length.trans ?_;simp
 replace Gj:=(List.getLast?_eq_getElem?)▸Gj;obtain⟨m1,DR,rm1⟩:=q.get _ _ Gj;replace DR:=(Array.getElem?_toList)▸hsz▸DR;obtain⟨S',x'⟩:=n7 (tk:=s.toks) (g:=λxs=>xs.eraseIdxIfInBounds (ik.size - 1)) (ws:=ws.dropLast) S hp e1 g (rl (AU DR)<|rl List.dropLast_eq_take<|rl hsz<|q.take _)
 refine hG ?_;exact call_meets F.slot_list_pop ⟨_,g,rfl⟩ F.entry_list_pop (F.args_list_pop_1 _) (MeetsSeq.list_pop_last _ ik k m1 DR (rr hsz<|dn hz)) ⟨g,bt.val p S' x' (rm1.mono x')⟩
theorem J8 (S:St Z U s)(rv:aH Z s.heap v mv)(rs:aD Z s.heap vs ms)(e0:MH v vs U=some (r,bB))(p:bt a Z s (.ok r bB) Q E):wpAny bS a.A (call (.builtin "dict.pop") (mv::ms)) Q E s:=by
 refine aT e0 λq1 hq e1=>?_;obtain⟨i,kd,az⟩:=q1;clear e0;refine aT e1 λx hx e2=>?_;clear e1;refine aT e2 λj hj e3=>?_;clear e2;obtain⟨rfl,hi⟩:=jV hq;obtain rfl:=iF hx;obtain rfl:=V.fH hj;refine di e3 λhz e3=>?_;obtain⟨rfl,hz⟩:=hz;refine dh e3 λy hg e4=>?_;clear e3
 cases e4;obtain⟨m1,rfl,r1⟩:=rs.one
 cases rv with
 |@ref _ pp hp=>
 obtain⟨e1,ks,d,al⟩:=S.heap.objs _ _ _ hi hp;refine rl e1<|ct λG hG=>?_
 cases r1;have hh:=r6 (k:=j) al;replace hh:=hg▸hh;refine hG ?_
 cases hm:valueAt ks j with
 |none=>rw[hm] at hh;exact hh.elim
 |some m=>
  replace hh:=hm▸hh;refine call_meetsIn F.slot_dict_pop d.typeIs F.entry_dict_pop (F.args_dict_pop_2 _ _) (meets_dict_pop_there (intKind W.prog W.w) (k:=j) pp.2 (by simp[intKind,Value.isInt]) [] (.inl rfl) rfl) ⟨ks,m,d,rr al.length<|dn hz,hm,λh' d' hs=>?_⟩
  refine ct λG hG=>?_;have x0:cF [] Z s.heap Z h':=cF.sameBut hs (eB hp) (S.heap.gM hp) (let ⟨o,_,_,e,_⟩:=d';⟨o,e⟩);obtain⟨S',x'⟩:=S.DO (tk:=s.toks+1) (o':=.dict .int (DG az (.int j))) hp hs ⟨e1,_,d',by
   have NS:=(al.mono (R':=λkv km=>kv.1=.int km.1/\aH Z h' kv.2 km.2) λ_ _ q=>⟨q.1,q.2.mono x0⟩);have:=NS.DG (q:=λkm=>decide (km.1=j)) (k:=.int j) (λkv km q=>by refine rl q.1 ?_;simp[V.Ck])
   simpa [without] using this⟩
  refine hG ?_;exact bt.val p S' x' (hh.mono x0)
theorem J9 (ok:b9 n a)(S:St Z U s)(rv:aH Z s.heap v mv)(rs:aD Z s.heap vs ms)(e0:MI v vs U=some (r,bB))(p:bt a Z s (.ok r bB) Q E):wpAny bS a.A (call (.builtin "dict.setdefault") (mv::ms)) Q E s:=by
 refine aT e0 λq1 hq e1=>?_;obtain⟨i,kd,az⟩:=q1;clear e0;refine aT e1 λx hx e2=>?_;clear e1;refine aT e2 λdv hd e3=>?_;clear e2;refine aT e3 λj hj e4=>?_;clear e3;obtain⟨rfl,hi⟩:=jV hq;obtain rfl:=V.eP hj
 cases vs with
 |nil=>injection hx
 |cons x0 vs=>
 injection hx with hx;subst hx;obtain rfl:=iF hd;refine di e4 λhz e4=>?_;obtain⟨rfl,hk,hz⟩:=hz;obtain⟨m1,m2,rfl,r1,r2⟩:=rs.two;obtain⟨pp,hp,rfl⟩:=rv.fm;obtain⟨e1,ks,d,al⟩:=S.heap.objs _ _ _ hi hp;refine rl e1 ?_;obtain⟨b,rfl,hb⟩:=jU r1 hk;have hh:=n0 (k:=j) al;refine lj (knd:=dX) (by have:=ok.units;show a.A.in1.units+64<cLine;simp only;exact yg this) hb d (nZ S.heap (eB hp)) (λq hq=>?_) (λhq h' d' hs=>?_) (rr al.length<|dn hz)
 .replace hh:=hq▸hh
  cases hg:cn az (.tup j) with
  |none=>rw[hg] at hh;exact hh.elim
  |some x=>
   refine ct λG hG=>?_;simp only[hg] at hh e4
   cases e4;refine hG ?_;exact bt.val (s':={s with toks:=s.toks+(dX).draws j}) p S.fW (.refl ..) hh
 .replace hh:=hq▸hh
  cases hg:cn az (.tup j) with
  |some x=>rw[hg] at hh;exact hh.elim
  |none=>
   refine ct λG hG=>?_;simp only[hg] at e4
   cases e4;obtain⟨S',x'⟩:=m8 (tk:=s.toks+(dX).draws j) S hp e1 al r1 r2 d' hs;refine hG ?_;exact bt.val p S' x' (r2.mono x')
theorem Ka (S:St Z U s)(rv:aH Z s.heap v mv)(rs:aD Z s.heap vs ms)(e0:MJ v vs U=some (r,bB))(p:bt a Z s (.ok r bB) Q E):wpAny bS a.A (call (.builtin "str.isspace") (mv::ms)) Q E s:=by
 refine aT e0 λcs hq e1=>?_;clear e0;obtain rfl:=V.iW hq;refine di e1 λhz e1=>?_;refine ct λG hG=>?_;obtain rfl:=List.isEmpty_iff.mp hz
 cases e1
 cases rs
 cases rv;rename_i t;refine hG ?_;exact call_gives F.slot_str_isspace (typeIs_str ..) F.entry_str_isspace (F.args_str_isspace_1 _) (gives_str_isspace (cL cs) t) (bt.val p S (.refl ..) (.bool _))
end
theorem Kb {m:MK}{r:V}(ok:b9 n a)(S:St Z U s)(rv:aH Z s.heap v mv)(rs:aD Z s.heap vs ms)(e:Cu m v vs U=some (r,bB))(p:bt a Z s (.ok r bB) Q E):wpAny bS a.A (call (.builtin m.id) (mv::ms)) Q E s:=by
 revert e;cases m with
 |append=>intro e;exact DP S rv rs e p
 |extend=>intro e;exact DQ S rv rs e p
 |pop=>intro e;exact NU S rv rs e p
 |sg=>intro e;exact J8 S rv rs e p
 |i8=>intro e;exact J9 ok S rv rs e p
 |isspace=>intro e;exact Ka S rv rs e p
end
set_option tactic.hygienic false
noncomputable def qK:List Int->Int
 |[]=>0
 |[a]=>a
 |a::as=>if a<qK as then qK as else a
noncomputable def ins (x:Int):List Int->List Int
 |[]=>[x]
 |y::ys=>if x<=y then x::y::ys else y::ins x ys
noncomputable def vk:List Int->List Int
 |[]=>[]
 |x::xs=>ins x (vk xs)
inductive BK where |len |sum |max |abs |sorted |tuple
 deriving DecidableEq
noncomputable def Gk : V->Option (List V)
 |.tup xs=>some xs
 |_=>none
def sk (b:BK)(x:V)(U:bw):Option V:=match b with
 |.len=>match Gk x with
  |some xs=>if cE xs.length then some (.int xs.length) else .none
  |.none=>(items? U x).bind λxs=>if cE xs.length then some (.int xs.length) else .none
 |.sum=>(items? U x).bind λxs=>(k8 xs).map λis=>.int is.sum
 |.max=>(items? U x).bind λxs=>(k8 xs).bind λis=>if is.isEmpty then .none else some (.int (qK is))
 |.abs=>match x with
  |.int i=>some (.int (if i<0 then -i else i))
  |_=>.none
 |.sorted=>(items? U x).bind λxs=>if decide (xs.length<64) then (k8 xs).map λis=>.list ((vk is).map .int) else .none
 |.tuple=>match Gk x with
  |some xs=>some x
  |.none=>(items? U x).bind λxs=>if cE xs.length then some (.tup xs) else .none
def AV (b:BK)(vs:List V)(U:bw):Option V:=match vs with
 |[x]=>sk b x U
 |_=>.none
def bV (b:BK)(fs:List (ME V)):ME V:=(aS fs).bind λvs=>λ_ U=>Res.cO (AV b vs U) U
theorem yz (x:Int) :∀l,(ins x l).Perm (x::l):=by
 intro y
 induction y with
 |nil=>
  exact .refl _
 |cons y ys ih=>
  show List.Perm (if x<=y then x::y::ys else y::ins x ys) _
  split
  .exact .refl _
  .exact((ih).cons y).trans (List.Perm.swap x y ys)
theorem AW :∀l,(vk l).Perm l:=by
 intro y
 induction y with
 |nil=>
  exact .refl _
 |cons x xs ih=>
  exact(yz x (vk xs)).trans ((ih).cons x)
theorem AX (x:Int) :∀l,l.Pairwise (·<=·)->(ins x l).Pairwise (·<=·):=by
 intro y
 induction y with
 |nil=>
  intro _;exact List.pairwise_singleton ..
 |cons y ys ih=>
  intro h;show List.Pairwise _ (if x<=y then x::y::ys else y::ins x ys);rw[List.pairwise_cons] at h
  split
  .rename_i nQ
   rw[List.pairwise_cons];refine⟨λz hz=>?_,by rw[List.pairwise_cons];exact h⟩;rcases b8 hz with rfl |hz
   .exact nQ
   .exact Int.le_trans nQ (h.1 z hz)
  .rename_i nQ
   rw[List.pairwise_cons];refine⟨λz hz=>?_,ih h.2⟩;rcases b8 ((yz x ys).mem_iff.mp hz) with rfl |hz
   .exact Int.le_of_not_le nQ
   .exact h.1 z hz
theorem wX :∀l,(vk l).Pairwise (·<=·):=by
 intro y
 induction y with
 |nil=>
  exact .nil
 |cons x xs ih=>
  exact AX x _ (ih)
theorem ux {l l':List Int}(p:l.Perm l')(h:l.Pairwise (·<=·))(h':l'.Pairwise (·<=·)):l=l':=
 p.eq_of_pairwise (λ_ _ _ _ h1 h2=>Int.le_antisymm h1 h2) h h'
theorem Gl :∀l,l≠[]->qK l∈l:=by
 intro l
 induction l with
 |nil=>exact λh=>absurd rfl h
 |cons a as ih=>
  intro _
  cases as with
  |nil=>exact List.mem_singleton.mpr rfl
  |cons b as=>
   show(if a<qK (b::as) then qK (b::as) else a)∈_;by_cases eO:a<qK (b::as)
   .exact rl (ay eO)<|fE _ (ih (List.cons_ne_nil _ _))
   .exact rl (av eO)<|eG
theorem Kc :∀l,∀x∈l,x<=qK l:=by
 intro l
 induction l with
 |nil=>exact λx h=>absurd h List.not_mem_nil
 |cons a as ih=>
  intro x h
  cases as with
  |nil=>rw[dM h];exact Int.le_refl _
  |cons b as=>
   show x<=(if a<qK (b::as) then qK (b::as) else a);by_cases eO:a<qK (b::as)
   .rw[ay eO]
    rcases b8 h with rfl |h
    .exact Int.le_of_lt eO
    .exact ih x h
   .rw[av eO]
    rcases b8 h with rfl |h
    .exact Int.le_refl x
    .exact Int.le_trans (ih x h) (Int.not_lt.mp eO)
section
variable {D:List Addr}
theorem pb :∀{is:List Int} {ms:List Value},IntsAre ms is->aD Z h (is.map .int) ms
 |_,_,.nil=>.nil
 |_,_,.cons i t r=>.cons (.int i t) (pb r)
theorem St.kept {tk:Nat}(S:St Z U s)(k :∀b o,s.heap.get? b=some o->h'.get? b=some o):St Z U {s with heap:=h',toks:=tk}/\cF [] Z s.heap Z h':=
 ⟨St.mk (S.heap.keeps k) S.gens S.os,.of_keeps k⟩
noncomputable def BK.f (b:BK):Value:=match b with
 |.len=>.builtin "len" |.sum=>.builtin "sum" |.max=>.builtin "max" |.abs=>.builtin "abs" |.sorted=>.builtin "sorted" |.tuple=>.type "tuple"
noncomputable def BK.name (b:BK):String:=match b with
 |.len=>"len" |.sum=>"sum" |.max=>"max" |.abs=>"abs" |.sorted=>"sorted" |.tuple=>"tuple"
theorem BK.boot :∀b:BK,bootBuiltins (ofString b.name)=some b.f
 |.len=>boot_len |.sum=>by decide +kernel |.max=>by decide +kernel |.abs=>by decide +kernel |.sorted=>by decide +kernel |.tuple=>by decide +kernel
theorem qM {vs:List Value}{fP:Array Value} :(∀b o,h.get? b=some o->(sortedAll h vs fP).get? b=some o)/\(sortedAll h vs fP).IsList (h.objs.size+1) fP:=by
 obtain⟨e,he⟩:=sortedAll_at h vs fP;exact⟨λb o hb=>sortedAll_old hb,_,he,rfl,e,rfl⟩
theorem Cv {xs:List V}(e:Gk x=some xs):x=.tup xs:=by cases x <;> cases e;rfl
section
variable {r:V}
theorem ll {vs:Option (List V)}{g:List V->Option V}(e:vs.bind g=some r) :∃xs,vs=some xs/\g xs=some r:=Option.bind_eq_some_iff.mp e
theorem NV (S:St Z U s)(r1:aH Z s.heap x m)(e:sk .len x U=some r)(p:bt a Z s (.ok r U) Q E):wpAny bS a.A (call (.builtin "len") [m]) Q E s:=by
 cases ht:Gk x with
 |some xs=>
  unfold sk at e;dsimp only at e;rw[ht] at e;obtain rfl:=Cv ht;refine di e λhz e=>?_;injection e with e;subst e;have AS:=of_decide_eq_true hz;obtain⟨t,o,ik,k,rfl,ho,hc,hd,hn,q⟩:=r1.fV;have hsz:xs.length=ik.size:=by refine q.length.trans ?_;simp
  refine PyProof.Rows.len_tuple ⟨o,ho,hc,k,hd⟩ (by refine rr hsz ?_;exact Yn ⋯) (bt.val (s':={s with toks:=s.toks+1+1}) p S.fW (.refl ..) ?_);exact rl hsz<|.int _ _
 |none=>
  unfold sk at e;dsimp only at e;rw[ht] at e;obtain⟨xs,hx,e⟩:=ll e;refine di e λhz e=>?_;injection e with e;subst e;have AS:=of_decide_eq_true hz;obtain⟨b,ik,rfl,l,q⟩:=dY S.heap r1 hx;have hsz:xs.length=ik.size:=by refine q.length.trans ?_;simp
  refine PyProof.Rows.len_list l (by refine rr hsz ?_;exact Yn ⋯) (bt.val (s':={s with toks:=s.toks+1+1}) p S.fW (.refl ..) ?_);exact rl hsz<|.int _ _
theorem Gm (S:St Z U s)(r1:aH Z s.heap x m)(e:sk .tuple x U=some r)(p:bt a Z s (.ok r U) Q E):wpAny bS a.A (call (.type "tuple") [m]) Q E s:=by
 cases ht:Gk x with
 |some xs=>
  unfold sk at e;dsimp only at e;rw[ht] at e;obtain rfl:=Cv ht;injection e with e;subst e;obtain⟨t,o,ik,k,rfl,ho,hc,hd,hn,q⟩:=r1.fV;exact call_tuple_same ⟨o,ho,hc,k,hd⟩ (bt.val (s':=s) p S (.refl ..) r1)
 |none=>
  unfold sk at e;dsimp only at e;rw[ht] at e;obtain⟨xs,hx,e⟩:=ll e;refine di e λhz e=>?_;injection e with e;subst e;obtain⟨b,ik,rfl,l,q⟩:=dY S.heap r1 hx;have hsz:xs.length=ik.size:=by refine q.length.trans ?_;simp
  refine call_tuple_list l (λh' hk=>?_) (rr hsz<|dn hz)
  obtain⟨S',x'⟩:=S.kept (tk:=s.toks) hk;obtain⟨S3,x3,r3⟩:=S'.tuple (q.mono x');rw[Array.toArray_toList] at S3 x3 r3;exact bt.val p S3 (x'.trans x3) r3
theorem NW (ok:b9 n a)(S:St Z U s)(r1:aH Z s.heap x m)(e:sk .sum x U=some r)(p:bt a Z s (.ok r U) Q E):wpAny bS a.A (call (.builtin "sum") [m]) Q E s:=by
 obtain⟨xs,hx,e⟩:=ll (show(items? U x).bind _=some r from e);refine dh e λis hi z1=>?_;subst z1;obtain⟨b,ik,rfl,l,q⟩:=dY S.heap r1 hx;have I:=n4 hi q;obtain⟨ys,rfl⟩:=(show AllInts ik from by have:=I.allInts;simpa using this).items;have hn:=I.numsOf;refine sum_intListG ok.hand l λh' tk t' hk=>?_;obtain⟨S',x'⟩:=S.kept (tk:=tk) hk;refine bt.val p S' x' ?_;exact rl (preSum_eq ..)<|rl (List.take_of_length_le (by simp))<|rr (nums_intItems ..)<|rl hn<|.int _ _
theorem NX {is:List Int}{ys:Array (Int×Tok)}(hn:ys.toList.map (·.1)=is)(hsz:0<ys.size):numAt ys (argBest (λi j=>decide (numAt ys i > numAt ys j)) (ys.size - 1))=qK is:=by
 obtain⟨h1,h2⟩:=argBest_gt (numAt ys) (ys.size - 1)
 apply Int.le_antisymm
 .refine Kc is _ ?_
  exact rr hn<|rl (numAt_eq ..)<|getD_mem (rl (cJ ..)<|rl eZ<|Nat.lt_of_le_pred hsz h1)
 .have hm:=Gl is (by intro z;have q:=aP List.length (hn.trans z);rw[cJ,eZ] at q;exact absurd q (Nat.ne_of_gt hsz))
  rw[<- hn] at hm;obtain⟨j,hj,e⟩:=mem_getD hm;rw[cJ,eZ] at hj;exact rr hn<|rr e<|rr (numAt_eq ..)<|h2 j ((Nat.le_sub_one_iff_lt hsz).mpr hj)
theorem NY (ok:b9 n a)(S:St Z U s)(r1:aH Z s.heap x m)(e:sk .max x U=some r)(p:bt a Z s (.ok r U) Q E):wpAny bS a.A (call (.builtin "max") [m]) Q E s:=by
 obtain⟨xs,hx,e⟩:=ll (show(items? U x).bind _=some r from e);refine aT e λis hi e=>?_
 split at e
 case isTrue=>injection e
 rename_i dg;injection e with e;subst e;obtain⟨b,ik,rfl,l,q⟩:=dY S.heap r1 hx;have I:=n4 hi q;have hlen:is.length=ik.size:=by refine(Eq.symm (I.length)).trans ?_;simp
 obtain⟨ys,rfl⟩:=(show AllInts ik from by have:=I.allInts;simpa using this).items;have hn:=I.numsOf;rw[nums_intItems] at hn;have hsz:0<ys.size:=by
  rcases Nat.eq_zero_or_pos ys.size with h0 |h0
  .rw[intItems,Array.size_map,h0] at hlen
   exact absurd (List.length_eq_zero_iff.mp hlen▸rfl) dg
  .exact h0
 refine max_intList ok.hand l hsz λv h' tk hv hk=>?_;obtain⟨t,rfl⟩:=intItems_at hv;obtain⟨S',x'⟩:=S.kept (tk:=tk) hk;refine bt.val p S' x' ?_;exact rl (NX hn hsz)<|.int _ _
theorem Gn (S:St Z U s)(r1:aH Z s.heap x m)(e:sk .sorted x U=some r)(p:bt a Z s (.ok r U) Q E):wpAny bS a.A (call (.builtin "sorted") [m]) Q E s:=by
 obtain⟨xs,hx,e⟩:=ll (show(items? U x).bind _=some r from e);refine di e λyA e=>?_;refine dh e λis hi z2=>?_;subst z2;obtain⟨b,ik,rfl,l,q⟩:=dY S.heap r1 hx;have I:=n4 hi q;have hsz:xs.length=ik.toList.length:=rl q.length rfl;have yA:=of_decide_eq_true yA;refine sorted_ints (vs:=ik.toList) (by simpa using l) I (lt_of_eq_of_lt (id (Eq.symm hsz)) yA) λfP ns' hI hp hs=>?_;have Gp:ns'=vk is:=ux (hp.trans (AW is).symm) hs (wX is);obtain⟨hk,hl⟩:=qM (h:=s.heap) (vs:=ik.toList) (fP:=fP);obtain⟨S',x'⟩:=S.kept (tk:=s.toks) hk;refine bt.val p S' x' ?_;obtain⟨o,ho,hc,k,hd⟩:=hl;refine .list ho hc hd (λhm=>absurd (S.heap.lt hm) (Nat.not_lt.mpr (Nat.le_succ _))) ?_;exact rr Gp<|pb hI
end
theorem Kd {b:BK}{r:V}(ok:b9 n a)(S:St Z U s)(r1:aH Z s.heap x m)(e:sk b x U=some r)(p:bt a Z s (.ok r U) Q E):wpAny bS a.A (call b.f [m]) Q E s:=by
 cases b with
 |len=>exact NV S r1 e p
 |sum=>exact NW ok S r1 e p
 |max=>exact NY ok S r1 e p
 |sorted=>exact Gn S r1 e p
 |tuple=>exact Gm S r1 e p
 |abs=>
  cases x with
  |int i=>
   injection e with e;subst e;obtain⟨t,rfl⟩:=r1.int_inv;exact call_abs_int λu tk=>bt.val (s':={s with toks:=tk}) p S.fW (.refl ..) (.int _ _)
  |_=>injection e
theorem NZ {b:BK}{r:V}(ok:b9 n a)(S:St Z U s)(rs:aD Z s.heap vs ms)(e:AV b vs U=some r)(p:bt a Z s (.ok r U) Q E):wpAny bS a.A (call b.f ms) Q E s:=by
 cases rs with
 |nil=>injection e
 |cons r1 r2=>
  cases r2 with
  |nil=>exact Kd ok S r1 e p
  |cons r2 r3=>injection e
end
section
theorem c7 {f:Value}{Cw:List (Bool×Sem Value)}{Q:Args->Shared->Prop}(hp:Cw.any (·.1)=false)(h:wpAny M A (spliced Cw) (λvs s'=>Q ⟨vs,[]⟩ s') E s):wpAny M A (evalArgs f true Cw []) Q E s:=by
 cases Cw with
 |nil=>
  refine wb (cB h (λvs s' h'=>?_) λ_ _ x=>x);refine wb (aw ?_);refine cQ ?_;exact wb (aw (wb (aw (aw h'))))
 |cons t r=>
  obtain⟨b,x⟩:=t;simp only[List.any_cons,Bool.or_eq_false_iff] at hp;obtain⟨hb,_⟩:=hp;subst hb;exact Calls.evalArgs_plain h
end
section
variable {D:List Addr}
noncomputable def dc (pos:Pos)(es:List Expr):Prop:=∀env:Env,(backTo pos (starEach es env)).any (·.1)=false
theorem ba {es:List Expr}{b:BK}(hs:gz n sc es (aS fs))(hp:dc pos es)(hx:sc.names.lookup (ofString b.name)=some .globalImplicit)(e:nsIn W.K mainGlobals (ofString b.name)=some Option.none) :
  cm n sc (.Call (.Name (ofString b.name) np) es [] pos) (bV b fs):=by
 intro a ok bJ Z U fr s S F Q E p;subst bJ;refine Call_Name rfl (gE (v:=b.f) ok S hx e b.boot (by cases b <;> decide) (by cases b <;> rfl) ?_)
 have fin:wpAny bS a.A (spliced (backTo pos (starEach es a.env))) (λms s1=>wpAny bS a.A (call b.f ms) Q E s1) E s:=by
  refine hs.bind ok rfl S F p λvs bU jo s2 ms S2 F2 x2 r2 p2=>?_;dsimp only at p2;refine cb.opt p2 λr hb p2=>?_;exact NZ ok S2 r2 hb p2
 revert p;cases b with
 |tuple=>intro p;exact PySem.callWith_type (hp _) (c7 (hp _) (cB fin (λms s1 h1=>h1) λ_ _ x=>x))
 |len=>intro p;exact Calls.callWith_builtin (hp _) (c7 (hp _) (cB fin (λms s1 h1=>h1) λ_ _ x=>x))
 |sum=>intro p;exact Calls.callWith_builtin (hp _) (c7 (hp _) (cB fin (λms s1 h1=>h1) λ_ _ x=>x))
 |max=>intro p;exact Calls.callWith_builtin (hp _) (c7 (hp _) (cB fin (λms s1 h1=>h1) λ_ _ x=>x))
 |abs=>intro p;exact Calls.callWith_builtin (hp _) (c7 (hp _) (cB fin (λms s1 h1=>h1) λ_ _ x=>x))
 |sorted=>intro p;exact Calls.callWith_builtin (hp _) (c7 (hp _) (cB fin (λms s1 h1=>h1) λ_ _ x=>x))
noncomputable def Cx (pos:Pos)(es:List Expr):Prop:=∀env:Env,((backTo pos (starEach es env)).all (λx=>!x.1)&&(backToKw pos (keywordEach [] env)).all (λx=>x.1.isSome)
 && decide (es.length+([]:List Keyword).length+(if ([]:List Keyword).isEmpty then 0 else 1)<30))=true
noncomputable def Gq (o:Expr)(name:Str):Prop:=∀env:Env,attributeBase o name env (eval o env)=eval o env
theorem bW {o:Expr}{es:List Expr}{m:MK}{f:ME V}(ho:cm n sc o f)(hs:gz n sc es (aS fs))(hp:dc pos es)(N0:Cx pos es)(Gr :(Aq.endLine == pos.line)=true)(hb:Gq o (ofString m.name)) :
  cm n sc (.Call (.Attribute o (ofString m.name) Aq) es [] pos) (c6 m f fs):=by
 intro a ok bJ Z U fr s S F Q E p;refine wpAny_Call_method_late (hb _) (N0 _) Gr rfl (ho.bind ok bJ S F p λv bq cG s1 mv S1 F1 x1 r1 p1=>?_);dsimp only at p1;by_cases hr:wV m v bq=true
 .rw[ay hr] at p1
  obtain⟨hT,hd⟩:=J7 S1 r1 hr;refine⟨m.cls,m.id,m.attrs,m.slot,m.typ,hT,hd,?_⟩;refine Calls.callWith_builtin (hp _) (c7 (hp _) (hs.bind ok bJ S1 F1 p1 λvs bU jo s2 ms S2 F2 x2 r2 p2=>?_));dsimp only at p2
  cases hm:Cu m v vs bU with
  |none=>rw[hm] at p2;exact p2.elim
  |some q=>
   obtain⟨r,bB⟩:=q;rw[hm] at p2;exact Kb ok S2 (r1.mono x2) r2 hm p2
 .rw[av hr] at p1;exact p1.elim
end
theorem gG:Slot "reversed" "__next__" "reversed.__next__":=
 .of (owner:="reversed") (n:="__next__") (by rw[typeLookup_type,builtinLookup_eq_fast];kernel_rfl) (by decide +kernel) (by decide +kernel) (by decide +kernel)
  (by first |exact .inl (by decide +kernel) |exact .inr (by decide +kernel)) (by rw[isSubtype_type];kernel_rfl)
theorem lr:entryFor table "reversed.__next__" = some Builtin.«reversed.__next__»:=entryFor_of_tree (by kernel_rfl)
theorem mI (a:Value):argsOk "reversed.__next__" ⟨[a],[]⟩:=by unfold argsOk;kernel_rfl
theorem mJ:Slot "reversed" "__iter__" "reversed.__iter__":=
 .of (owner:="reversed") (n:="__iter__") (by rw[typeLookup_type,builtinLookup_eq_fast];kernel_rfl) (by decide +kernel) (by decide +kernel) (by decide +kernel)
  (by first |exact .inl (by decide +kernel) |exact .inr (by decide +kernel)) (by rw[isSubtype_type];kernel_rfl)
theorem sr:entryFor table "reversed.__iter__" = some Builtin.«dict_keyiterator.__iter__»:=
 entryFor_alias (id':="dict_keyiterator.__iter__") (by kernel_rfl) (by first |rfl |decide +kernel | (unfold String.splitOn;simp +decide [String.splitOnAux])) (by decide +kernel) (by kernel_rfl)
theorem AY:PySem.TypeCalled "reversed" "reversed.__new__" "object.__init__":=
 ⟨by decide +kernel,by decide +kernel,⟨_,_,F.mro_reversed⟩,F.made_reversed,by decide +kernel,by rw[isSubtype_type];kernel_rfl,by
  exact .of (owner:="object") (n:="__init__") (by rw[typeLookup_type,builtinLookup_eq_fast];kernel_rfl) (by decide +kernel) (by decide +kernel) (by decide +kernel)
   (by first |exact .inl (by decide +kernel) |exact .inr (by decide +kernel)) (by rw[isSubtype_type];kernel_rfl)⟩
theorem uy (x:Str)(t:Tok) :
  Meets (Builtin.«reversed.__new__» ⟨[.type "reversed",.str x t],[]⟩) (λ_ R s=>x.length<2 ^ 63/\R (.ok (.ret (.ref s.heap.objs.size))) {s with heap:=s.heap.push {cls:=.type "reversed",data:=.fields #[.str x t,rawInt ((x.length:Int) - 1)]},toks:=s.toks+2}):=
 .of_wp λprog w A R s ⟨hz,h⟩=>by
  unfold Builtin.«reversed.__new__»;refine wb (wpAny_of_eq (newClass_reversed _) ?_);refine wb (wpAny_of_eq (a:=()) (by first |rfl |kernel_rfl) ?_)
  refine wb (wpAny_of_eq (a:=()) (by first |rfl |kernel_rfl) ?_)
  refine wb (wpAny_specialOf (r:=none) (typeIs_str s x t) (by refine rl (typeLookup_type ..)<|rl builtinLookup_eq_fast ?_;kernel_rfl) ?_)
  refine aY (wpAny_of_eq (a:=true) (by kernel_rfl) ?_);refine rl (av (by decide))<|wb (P.len_str (by omega) ?_)
  refine wb (wpAny_of_eq (a:=some (x.length:Int)) rfl ?_);refine wb ?_;unfold Builtin.SmallTypes.newRecord;exact wpAny_newObj_type (aw ⟨_,rfl,h⟩)
noncomputable def pf (h:Heap)(it:Addr)(x:Str)(t:Tok)(i:Int):Prop:=h.get? it=some {cls:=.type "reversed",data:=.fields #[.str x t,rawInt i]}
section
variable {x:Str}{t:Tok}
theorem wY (hz:x.length<2 ^ 63)(h :∀h',pf h' s.heap.objs.size x t ((x.length:Int) - 1)->h'=s.heap.push {cls:=.type "reversed",data:=.fields #[.str x t,rawInt ((x.length:Int) - 1)]}->Q (.ref s.heap.objs.size) {s with heap:=h',toks:=s.toks+2}) :
  wpAny (model prog w) A (call (.type "reversed") [.str x t]) Q E s:=by
 refine callType_new AY (by decide) (F.typeCall_reversed_1 _) (F.newCall_reversed_1 _) (λobj=>by unfold argsOk;kernel_rfl) F.entry_reversed_new (uy x t) ⟨hz,?_⟩;have g:=cD (o:={cls:=.type "reversed",data:=.fields #[.str x t,rawInt ((x.length:Int) - 1)]}) s.heap rfl;exact⟨⟨_,g,rfl⟩,h _ g rfl⟩
theorem og {i:Int}(hi:pf s.heap it x t i)(h:Q (.ref it) s):wpAny (model prog w) A (pyIter (.ref it)) Q E s:=by
 have hT:s.TypeIs (.ref it) "reversed":=⟨_,hi,rfl⟩;refine wpAny_pyIter_slot hT mJ (fF mJ hT sr ?_ (by unfold argsOk;kernel_rfl));exact aw ⟨_,rfl,"reversed",_,hT,gG.lookup,h⟩
theorem wZ {Q:Option Value->Shared->Prop}(hi:pf s.heap it x t (k:Int))(hc:x.cps[k]? = some c)(hz:k<1000000000)(hQ :∀h' tk,pf h' it x t ((k:Int) - 1)->Heap.SameBut it s.heap h'->Q (some (.str ⟨#[c]⟩ tk)) {s with heap:=h',toks:=s.toks+2}):wpAny (model prog w) A (pyNext (.ref it)) Q E s:=by
 have hT:s.TypeIs (.ref it) "reversed":=⟨_,hi,rfl⟩;unfold pyNext;refine wb (wpAny_attempt (wpAny_callSpecial?_slot (name:=ofString "__next__") hT gG (fF gG hT lr ?_ (mI _))));unfold Builtin.«reversed.__next__»;refine wb (wpAny_of_eq (a:=(Value.ref it,[])) rfl ?_);refine wb (wpAny_field hi rfl (x:=.str x t) rfl ?_);refine wb (wpAny_field hi rfl (x:=rawInt (k:Int)) rfl ?_);show wpAny _ _ (if (k:Int)<0 then _ else _) _ _ s;refine rl (av (Int.not_ofNat_neg k))<|aY (wpAny_specialOf (typeIs_str s x t) F.slot_str_getitem.lookup ?_)
 refine rl (av (by decide))<|wb (wpAny_mkInt ?_)
 have eO:k<x.length:=by
  rcases Nat.lt_or_ge k x.cps.size with q |q
  .exact q
  .rw[Array.getElem?_eq_none q] at hc;injection hc
 have hsi :(seqIndex? (k:Int) x.length).bind (x.cps[·]?)=some c:=by
  unfold seqIndex?;simp only[show¬(k:Int)<0 by exact Int.not_ofNat_neg k,if_false,show(0:Int)<=k by exact Int.natCast_nonneg k,show(k:Int)<x.length by exact Int.ofNat_lt.mpr eO,decide_true,Bool.and_self,if_true,Option.bind_some,Int.toNat_natCast];exact hc
 refine wb (wpAny_attempt (P.getItem_str (by simp;exact q82 ⋯) hsi ?_));refine wb (wpAny_field (s:={s with toks:=s.toks+1+1}) hi rfl (x:=rawInt (k:Int)) rfl ?_);refine wb (wpAny_setField_rec (s:={s with toks:=s.toks+1+1}) hi (by simp) λh' g' s'=>?_);exact aw ⟨_,rfl,aw (hQ h' _ g' s')⟩
theorem vl {Q:Y->Shared->Prop}(hh:A.handled=none)(hE :∀h' e,(∀b o,s.heap.get? b=some o->h'.get? b=some o)->(∃o,h'.get? e=some o/\o.cls=.type "StopIteration")->E (.ref e) {s with heap:=h'}) :
  wpAny (model prog w) A (Builtin.SmallTypes.stopIteration:Sem Y) Q E s:=by
 unfold Builtin.SmallTypes.stopIteration;refine aY ?_;rw[newExc,newTuple];refine aY (wpAny_newObj_type ?_ (by size_fits));refine aY (m:=firstArgMember _ _) (wpAny_of_eq (a:=Value.none) (by first |rfl | (rw[firstArgMember];rfl)) ?_)
 refine wpAny_newObj_type ?_ (by size_fits);rw[raiseNew];refine wb (wpAny_handled ?_);refine rl hh<|wb (aw (wpAny_throw ?_))
 exact hE _ _ (λb o e=>bT _ (bT _ e)) ⟨_,cD _ rfl,rfl⟩
theorem w5 {Q:Option Value->Shared->Prop}(hh:A.handled=none)(hi:pf s.heap it x t (-1))(hQ :∀h',Heap.ExtBut it s.heap h'->Q none {s with heap:=h'}):wpAny (model prog w) A (pyNext (.ref it)) Q E s:=by
 have hT:s.TypeIs (.ref it) "reversed":=⟨_,hi,rfl⟩;unfold pyNext;refine wb (wpAny_attempt (wpAny_callSpecial?_slot (name:=ofString "__next__") hT gG (fF gG hT lr ?_ (mI _))));unfold Builtin.«reversed.__next__»;refine wb (wpAny_of_eq (a:=(Value.ref it,[])) rfl ?_);refine wb (wpAny_field hi rfl (x:=.str x t) rfl ?_);refine wb (wpAny_field hi rfl (x:=rawInt (-1)) rfl ?_);show wpAny _ _ (if (-1:Int)<0 then _ else _) _ _ s;refine rl (ay (by decide))<|wb (wpAny_rule ?_)
 refine wb (wb (wpAny_setField_rec hi (by simp) λh1 g1 s1=>wpAny_setField_rec g1 (by simp) λh2 g2 s2=>?_));refine wb (vl hh λh' e k ⟨o,ho,hc⟩=>?_);refine wb (wpAny_isInstance (T:="StopIteration") (b:=true) ⟨o,ho,hc⟩ isSubtype_stop ?_);exact aw (hQ h' λb o hb e=>k b o (s2.extBut b o hb (s1.extBut b o hb e)))
end
inductive de (Z:dW)(h:Heap)(it:Addr):List V->Prop
 |list {l:Addr} {i:Nat} {ms:Array Value} {vs:List V}:h.IsListIter it l i->h.IsList l ms->l∉bH Z->l≠it->aD Z h vs (ms.toList.drop i)->de Z h it vs
 |tup {l:Addr} {i:Nat} {ms:Array Value} {vs:List V}:h.IsTupleIter it l i->h.IsTuple l ms->l∉bH Z->l≠it->aD Z h vs (ms.toList.drop i)->de Z h it vs
 |range {x step:Int} {k:Nat} {vs:List V}:IsRangeIter h it x k step->vs =(List.range k).map (λi:Nat=>V.int (x+(i:Int) * step))->de Z h it vs
 |str {cs:List Nat} {t:Tok} {i:Nat} {vs:List V}:h.IsStrIter it "str_ascii_iterator" (cL cs) t i->vs =(cs.drop i).map (λc=>V.str [c])->de Z h it vs
 |rev {l:Addr} {ms:Array Value} {us vs:List V}:Heap.IsRevIter h it l ((us.length:Int) - 1)->h.IsList l ms->l∉bH Z->l≠it->aD Z h us (ms.toList.take us.length)->vs=us.reverse->de Z h it vs
 |su {cs ds:List Nat} {t:Tok} {vs:List V}:pf h it (cL (ds++cs)) t ((ds.length:Int) - 1)->ds.length<=1000000->vs=ds.reverse.map (λc=>V.str [c])->de Z h it vs
noncomputable def d9 (a b c:Int):List V:=(List.range (Builtin.Range.rangeSize a b c).toNat).map λi:Nat=>V.int (a+(i:Int) * c)
noncomputable def Cy (v:V):Option (List V):=match v with
 |.list vs=>some vs
 |.tup vs=>some vs
 |.str cs=>if cs.all (· < 128) then some (cs.map λc=>V.str [c]) else .none
 |_=>.none
def bl (f:ME V):ME (List V):=f.bind λv=>λ_ U=>Res.cO (Cy v) U
noncomputable def g7 (i:Int):Bool:=decide (i.natAbs<1000000000000)
def yB (x y z:Int):Option (List V):=if (z=1\/z=-1)/\g7 x=true/\g7 y=true then some (d9 x y z) else .none
def N1:List Int->Option (List V)
 |[b]=>yB 0 b 1
 |[a,b]=>yB a b 1
 |[a,b,c]=>yB a b c
 |_=>.none
def oh (es:ME (List V)):ME (List V):=es.bind λvs=>λ_ U=>Res.cO ((k8 vs).bind N1) U
abbrev iY (f:ME V):ME (List V):=oh (aS [f])
abbrev iZ (f g:ME V):ME (List V):=oh (aS [f,g])
abbrev jr (f g h:ME V):ME (List V):=oh (aS [f,g,h])
section
noncomputable def KI (s0:Heap)(Q:iN)(vs:List V)(Z:dW)(s:Shared):Prop:=∀it,s0.get? it=none->it∉bH Z->de Z s.heap it vs->Q (.ref it) s
noncomputable def pg (n:Nat)(sc:Scope)(e:Expr)(f:ME (List V)):Prop:=
 ∀(a:Act),b9 n a->a.env.scope=sc->∀(Z:dW) (U:bw) (fr:eY) (s:Shared),St Z U s->FS a fr Z s.heap->
  ∀(Q:iN) (E:iN),cb a Z s (f fr U) (KI s.heap Q) E->wpAny bS a.A (eval e a.env) (λx s1=>wpAny bS a.A (pyIter x) Q E s1) E s
end
section
variable {D:List Addr}
noncomputable def fq (o:Obj):Prop:=bI o=false/\o.cls≠.type "list"/\o.cls≠.type "dict"/\o.cls≠.type "tuple"/\∀c,o.cls≠.ref c
theorem de.fields (x:de Z h it vs) :∃o,h.get? it=some o/\fq o:=by
 cases x with
 |list hi=>obtain⟨o,ho,hc,hd⟩:=hi;exact⟨o,ho,aP eJ hd,by rw[hc];decide,by rw[hc];decide,by rw[hc];decide,by rw[hc];simp⟩
 |tup hi=>obtain⟨o,ho,hc,hd⟩:=hi;exact⟨o,ho,aP eJ hd,by rw[hc];decide,by rw[hc];decide,by rw[hc];decide,by rw[hc];simp⟩
 |range hi=>exact⟨_,hi,rfl,by simp,by simp,by simp,by simp⟩
 |str hi=>obtain⟨o,ho,hc,hd⟩:=hi;exact⟨o,ho,aP eJ hd,by rw[hc];decide,by rw[hc];decide,by rw[hc];decide,by rw[hc];simp⟩
 |rev hi=>obtain⟨o,ho,hc,hd⟩:=hi;exact⟨o,ho,aP eJ hd,by rw[hc];decide,by rw[hc];decide,by rw[hc];decide,by rw[hc];simp⟩
 |su hi=>exact⟨_,hi,rfl,by simp,by simp,by simp,by simp⟩
theorem de.vm (x:de Z h it vs)(hn:it∉bH Z)(e:hV Z h bK h'):de bK h' it vs:=by
 cases x with
 |list hi hl hm dg r=>
  obtain⟨o,ho,hc,hd⟩:=hi;obtain⟨ol,kX,rf,k,ph⟩:=hl;exact .list ⟨o,e.keep _ _ ho hn (aP eJ hd),hc,hd⟩ ⟨ol,e.keep _ _ kX hm (aP eJ ph),rf,k,ph⟩ (e.eM _ _ kX hm) dg (r.eN e)
 |tup hi hl hm dg r=>
  obtain⟨o,ho,hc,hd⟩:=hi;obtain⟨ol,kX,rf,k,ph⟩:=hl;exact .tup ⟨o,e.keep _ _ ho hn (aP eJ hd),hc,hd⟩ ⟨ol,e.keep _ _ kX hm (aP eJ ph),rf,k,ph⟩ (e.eM _ _ kX hm) dg (r.eN e)
 |range hi hv=>exact .range (e.keep _ _ hi hn rfl) hv
 |str hi hv=>
  obtain⟨o,ho,hc,hd⟩:=hi;exact .str ⟨o,e.keep _ _ ho hn (aP eJ hd),hc,hd⟩ hv
 |rev hi hl hm dg r hv=>
  obtain⟨o,ho,hc,hd⟩:=hi;obtain⟨ol,kX,rf,k,ph⟩:=hl;exact .rev ⟨o,e.keep _ _ ho hn (aP eJ hd),hc,hd⟩ ⟨ol,e.keep _ _ kX hm (aP eJ ph),rf,k,ph⟩ (e.eM _ _ kX hm) dg (r.eN e) hv
 |su hi hz hv=>exact .su (e.keep _ _ hi hn rfl) hz hv
theorem de.ext (x:de Z h it vs)(hn:it∉bH Z)(e:cF D Z h bK h'):de bK h' it vs:=x.vm hn e.jQ
structure gq (it:Addr)(h h':Heap):Prop where
 same:Heap.ExtBut it h h'
 Tj :∃o,h.get? it=some o/\fq o
theorem gq.ne {b:Addr}(x:gq it h h')(e:h.get? b=some o)(q :¬fq o):b≠it:=λz=>by
 obtain⟨o',e',s⟩:=x.Tj;replace e:=e'▸z▸e;injection e with e;subst e;exact q s
theorem gq.get {b:Addr}(x:gq it h h')(e:h.get? b=some o)(q :¬fq o):h'.get? b=some o:=x.same b o (x.ne e q) e
theorem dR (h:o.cls=.type "list") :¬fq o:=λx=>x.2.1 h
theorem jW (h:o.cls=.type "dict") :¬fq o:=λx=>x.2.2.1 h
theorem kK (h:o.cls=.type "tuple") :¬fq o:=λx=>x.2.2.2.1 h
theorem pj {c:Addr}(h:o.cls=.ref c) :¬fq o:=λx=>x.2.2.2.2 c h
theorem pk (h:bI o=true) :¬fq o:=λx=>by replace h:=x.1▸h;injection h
theorem aD.side (x:gq it h h')(r:aD Z h vs ms):aD Z h' vs ms:=
 aD.rec (motive_1:=λv m _=>aH Z h' v m) (motive_2:=λvs ms _=>aD Z h' vs ms) .none .bool .int .str .ref
  (λh1 h2 h3 h4 _ ih=>.tup (x.get h1 (kK h2)) h2 h3 h4 ih) (λh1 h2 h3 h4 _ ih=>.list (x.get h1 (dR h2)) h2 h3 h4 ih) .nil (λ_ _ a b=>.cons a b) r
theorem aH.side (x:gq it h h')(r:aH Z h v m):aH Z h' v m:=by
 cases aD.side x (.cons r .nil) with |cons a _=>exact a
theorem DictOf.AZ {K:Type}[DecidableEq K]{knd:KeyKind W.prog W.w K}{ks:List (K×Value)}(x:gq it h h')(r:h.DictOf knd d ks):h'.DictOf knd d ks:=by
 refine ct λG hG=>?_;obtain⟨o,es,ep,ho,hx,r⟩:=r;refine hG ?_;exact⟨o,es,ep,x.get ho (jW hx.1),hx,r⟩
theorem mB.side {o:O}(x:gq it h h')(r:mB Z h o p):mB Z h' o p:=by
 cases o with
 |list vs=>obtain⟨e,ms,k,g,q⟩:=r;exact⟨e,ms,k,x.get g (dR rfl),q.side x⟩
 |dict kd az=>
  obtain⟨e,r⟩:=r;refine⟨e,?_⟩
  cases kd with
  |int=>obtain⟨ks,d,al⟩:=r;exact⟨ks,DictOf.AZ x d,al.mono λ_ _ q=>⟨q.1,q.2.side x⟩⟩
  |str=>obtain⟨ks,d,al⟩:=r;exact⟨ks,DictOf.AZ x d,al.mono λ_ _ q=>⟨q.1,q.2.side x⟩⟩
  |tup=>
   refine ct λG hG=>?_;obtain⟨ks,⟨o,es,ep,ho,hx,hd,hl,NH,hn⟩,al⟩:=r;refine hG ?_;exact⟨ks,⟨o,es,ep,x.get ho (jW hx.1),hx,hd,hl,λy hy=>⟨(NH y hy).1.side x,(NH y hy).2⟩,hn⟩,al.mono λ_ _ q=>⟨⟨q.1.1,q.1.2.side x⟩,q.2.side x⟩⟩
 |inst c fs=>
  refine ct λG hG=>?_;obtain⟨⟨sl,e⟩,ks,d,al⟩:=r;refine hG ?_;exact⟨⟨sl,x.get e (pj rfl)⟩,ks,DictOf.AZ x d,al.mono λ_ _ q=>⟨q.1,q.2.side x⟩⟩
theorem St.side {tk:Nat}(S:St Z U s)(x:gq it s.heap h')(hb:W.h₀.get? it=none):St Z U {s with heap:=h',toks:=tk}:=by
 refine St.mk (gP.mk (λb o e=>?_) S.heap.ok S.heap.fresh (λa ha=>(let ⟨ob,e,c⟩:=S.heap.qG a ha;⟨ob,x.get e (dR c),c⟩)) S.heap.nodup S.heap.len λi o p e e'=>(S.heap.objs i o p e e').side x) S.gens S.os;exact x.same b o (λz=>by replace e:=hb▸z▸e;injection e) (S.heap.base b o e)
theorem FS.side (F:FS a fr Z h)(x:gq it h h'):FS a fr Z h':=F.carry (.of (λb o e q n=>⟨n,o.slots,x.get e (pk q)⟩) λ_ _ r=>r.side x)
theorem pn {l:List Y}{x:Y}{xs:List Y}(e:l.drop i=x::xs):l[i]? = some x/\l.drop (i+1)=xs:=by
 have h1 :(l.drop i)[0]? = some x:=rl e rfl;rw[List.getElem?_drop] at h1;refine⟨by simpa using h1,?_⟩;exact rr List.drop_drop<|rl e rfl
theorem A0 {x step:Int}(e:v::vs =(List.range k).map (λi:Nat=>V.int (x+(i:Int) * step))) :
  ∃k',k=k'+1/\v=.int x/\vs =(List.range k').map (λi:Nat=>V.int (x+step+(i:Int) * step)):=by
 cases k with
 |zero=>simp at e
 |succ k=>
  rw[List.range_succ_eq_map,List.map_cons,List.map_map] at e;injection e with e1 e2;refine⟨k,rfl,by refine e1.trans ?_;simp,?_⟩;refine e2.trans ?_
  apply List.map_congr_left
  intro i _;simp only[Function.comp];congr 1;have :((i.succ:Nat):Int) =(i:Int)+1:=by simp
  refine rl this<|rl (Int.add_mul ..)<|rl (Int.one_mul ..) ?_
  lia
theorem pv {Q:Option Value->Shared->Prop}(x:de Z s.heap it (v::vs))(k :∀h' tk mv,de Z h' it vs->gq it s.heap h'->aH Z h' v mv->Q (some mv) {s with heap:=h',toks:=tk}):wpAny bS A (pyNext (.ref it)) Q E s:=by
 have xf:=x.fields
 cases x with
 |@list l i ms _ hi hl hm dg r=>
  generalize hd:ms.toList.drop i=ds at r
  cases r with
  |cons r1 r2=>
   obtain⟨h1,h2⟩:=pn hd;refine wpAny_pyNext_list_item hi hl (by simpa using h1) λh' xZ hs=>?_;have S:gq it s.heap h':=⟨hs.extBut,xf⟩;exact k h' s.toks _ (.list xZ (hl.extBut hs.extBut dg) hm dg (h2▸r2.side S)) S (r1.side S)
 |@tup l i ms _ hi hl hm dg r=>
  generalize hd:ms.toList.drop i=ds at r
  cases r with
  |cons r1 r2=>
   obtain⟨h1,h2⟩:=pn hd;refine wpAny_pyNext_tuple_item hi hl (by simpa using h1) λh' xZ hs=>?_;have S:gq it s.heap h':=⟨hs.extBut,xf⟩;exact k h' s.toks _ (.tup xZ (hl.extBut hs.extBut dg) hm dg (h2▸r2.side S)) S (r1.side S)
 |@range x step kk _ hi hv=>
  refine ct λG hG=>?_;obtain⟨k',rfl,rfl,rfl⟩:=A0 hv;refine hG ?_;refine wpAny_pyNext_range_item hi (Int.ofNat_succ_pos k') λh' xZ hs=>?_;have S:gq it s.heap h':=⟨hs.extBut,xf⟩;exact k h' _ _ (.range (k:=k') (by have e :((k'+1:Nat):Int) - 1 =(k':Int):=(Int.sub_eq_iff_eq_add.mpr rfl);replace xZ:=e▸xZ;exact xZ) rfl) S (.int _ _)
 |@str cs t i _ hi hv=>
  cases hd:cs.drop i with
  |nil=>replace hv:=hd▸hv;injection hv
  |cons c cs'=>
   refine ct λG hG=>?_;replace hv:=List.map_cons▸hd▸hv;injection hv with e1 e2;subst e1 e2;obtain⟨h1,h2⟩:=pn hd;refine hG ?_;refine wpAny_pyNext_ascii_item hi (c:=c) (by simpa [cL] using h1) λh' xZ hs=>?_;have S:gq it s.heap h':=⟨hs.extBut,xf⟩;exact k h' _ _ (.str xZ (rl h2 rfl)) S (.str [c] _)
 |@rev l ms us _ hi hl hm dg r hv=>
  refine ct λG hG=>?_;obtain⟨ws,rfl⟩ :∃ws,us=ws++[v]:=⟨vs.reverse,by refine(Eq.symm (List.reverse_reverse us)).trans ?_;exact rr hv<|rl List.reverse_cons rfl⟩
  replace hv:=List.singleton_append▸List.reverse_singleton▸List.reverse_append▸hv;injection hv with _ e2;rw[bY,gC] at hi r;replace hi:=(show((ws.length+1:Nat):Int) - 1 =(ws.length:Int) by exact Int.sub_eq_iff_eq_add.mpr rfl)▸hi;obtain⟨m,DR,rm⟩:=r.get ws.length v (by simp);replace DR:=(Array.getElem?_toList)▸(List.getElem?_take_of_lt (Nat.lt_succ_self _))▸DR;have r1:=r.take ws.length;replace r1:=(Nat.min_eq_left (Nat.le_succ _))▸List.take_take▸List.take_left▸r1;refine hG ?_;refine wpAny_pyNext_rev_item hi hl DR λh' xZ hs=>?_;have S:gq it s.heap h':=⟨hs.extBut,xf⟩;exact k h' s.toks _ (.rev xZ (hl.extBut hs.extBut dg) hm dg (r1.side S) e2) S (rm.side S)
 |@su cs ds t _ hi hz hv=>
  obtain⟨ws,c,rfl,e1,e2⟩ :∃ws c,ds=ws++[c]/\v=.str [c]/\vs=ws.reverse.map λc=>V.str [c]:=by
   cases hd:ds.reverse with
   |nil=>replace hv:=hd▸hv;injection hv
   |cons c r=>replace hv:=hd▸hv;injection hv with h1 h2;exact⟨r.reverse,c,by refine(Eq.symm (List.reverse_reverse ds)).trans ?_;exact rl hd<|rl List.reverse_cons rfl,h1,rl (List.reverse_reverse ..)<|h2⟩
  subst e1;rw[bY,gC] at hi hz;rw[show((ws.length+1:Nat):Int) - 1 =(ws.length:Int) by exact Int.sub_eq_iff_eq_add.mpr rfl,cW] at hi;refine wZ (c:=c) hi (by simp[cL]) (q1 ⋯ (by rfl)) λh' tk xZ hs=>?_;have S:gq it s.heap h':=⟨hs.extBut,xf⟩;exact k h' _ _ (.su (ds:=ws) xZ (Nat.le_of_succ_le hz) e2) S (.str [c] _)
theorem de.lets {kj:Expr}{v:Value}{Q:Unit->Shared->Prop}(x:de Z s.heap it vs)(h:Q () s):wpAny bS A (letOwnedTupleGo kj (.ref it) v) Q E s:=by
 have key :∃o T us,s.heap.get? it=some o/\o.cls=.type T/\o.data=.fields us/\["enumerate","zip","dict_itemiterator","dict_reverseitemiterator","odict_iterator","itertools.zip_longest","itertools.pairwise"].contains T=false:=by
  cases x with
  |list hi=>obtain⟨o,ho,hc,hd⟩:=hi;exact⟨o,_,_,ho,hc,hd,by decide⟩
  |tup hi=>obtain⟨o,ho,hc,hd⟩:=hi;exact⟨o,_,_,ho,hc,hd,by decide⟩
  |range hi=>exact⟨_,_,_,hi,rfl,rfl,by decide⟩
  |str hi=>obtain⟨o,ho,hc,hd⟩:=hi;exact⟨o,_,_,ho,hc,hd,by decide⟩
  |rev hi=>obtain⟨o,ho,hc,hd⟩:=hi;exact⟨o,_,_,ho,hc,hd,by decide⟩
  |su hi=>exact⟨_,_,_,hi,rfl,rfl,by decide⟩
 obtain⟨o,T,us,ho,hc,hd,hT⟩:=key
 cases kj <;> first
  |exact aw h
  | (cases v <;> first
   |exact aw h
   | (show wpAny _ _ (load it >>= _) _ _ _;refine aY (wpAny_load ho ?_);refine rl hc<|rl hd ?_;dsimp only;exact rl hT<|aw h))
theorem sv {Q:Option Value->Shared->Prop}(hh:A.handled=none)(x:de Z s.heap it [])(k :∀h',gq it s.heap h'->Q none {s with heap:=h'}):wpAny bS A (pyNext (.ref it)) Q E s:=by
 have xf:=x.fields
 cases x with
 |@list l i ms _ hi hl hm dg r=>
  generalize hd:ms.toList.drop i=ds at r
  cases r;exact wpAny_pyNext_list_end hh hi hl (by have:=List.drop_eq_nil_iff.mp hd;simpa using this) λh' hs=>k h' ⟨hs,xf⟩
 |@tup l i ms _ hi hl hm dg r=>
  generalize hd:ms.toList.drop i=ds at r
  cases r;exact wpAny_pyNext_tuple_end hh hi hl (by have:=List.drop_eq_nil_iff.mp hd;simpa using this) λh' hs=>k h' ⟨hs,xf⟩
 |@range x step kk _ hi hv=>
  have:kk=0:=by cases kk with |zero=>rfl |succ k=>rw[List.range_succ_eq_map] at hv;simp at hv
  subst this;exact wpAny_pyNext_range_end hh hi (by simp) λh' hs=>k h' ⟨hs,xf⟩
 |@str cs t i _ hi hv=>
  have hd:cs.drop i=[]:=by simpa using hv.symm
  exact wpAny_pyNext_ascii_end hh hi (by have:=List.drop_eq_nil_iff.mp hd;simpa [cL] using this) λh' hs=>k h' ⟨hs,xf⟩
 |@rev l ms us _ hi hl hm dg r hv=>
  obtain rfl:us=[]:=List.reverse_eq_nil_iff.mp hv.symm;exact wpAny_pyNext_rev_end hh hi λh' hs=>k h' ⟨hs,xf⟩
 |@su cs ds t _ hi hz hv=>
  obtain rfl:ds=[]:=List.reverse_eq_nil_iff.mp (List.map_eq_nil_iff.mp hv.symm);exact w5 hh hi λh' hs=>k h' ⟨hs,xf⟩
end
section
variable {D:List Addr}
theorem cF.end_none (x:cF D Z h bK h'):h.get? h'.objs.size=none:=by
 cases z:h.get? h'.objs.size with
 |none=>rfl
 |some o=>obtain⟨o',e⟩:=x.live _ _ z;rw[iX] at e;injection e
theorem yC {G:V->Prop}(e:Cy v=some vs)(h1:G (.list vs))(h2:G (.tup vs))(h3 :∀cs,cs.all (· < 128)=true->vs=cs.map (λc=>V.str [c])->G (.str cs)):G v:=by
 cases v with
 |list us=>injection e with e;subst e;exact h1
 |tup us=>injection e with e;subst e;exact h2
 |str cs=>exact di e λha e=>h3 cs ha (Option.some.inj e).symm
 |_=>injection e
theorem bf {e:Expr}{f:ME V}(hf:cm n sc e f):pg n sc e (bl f):=by
 intro a ok bJ Z U fr s S F Q E p;refine hf.bind ok bJ S F p λv bq cG s1 mv S1 F1 x1 r1 p1=>cb.opt p1 λvs hi p2=>?_;have vn:=x1.end_none;have eM:=S1.heap.jS;refine yC (G:=λv=>aH cG s1.heap v mv->wpAny bS a.A (pyIter mv) Q E s1) hi (λr=>?_) (λr=>?_) (λcs ha e r=>?_) r1
 .refine aH.eL (G:=λmv=>wpAny bS a.A (pyIter mv) Q E s1) r λl o ms k ho hc hd hn r=>?_
  refine wpAny_pyIter_list ⟨o,ho,hc,k,hd⟩ (p2 cG _ (S1.lg _) (cF.push _ _) s1.heap.objs.size vn eM (.list (l:=l) (i:=0) (ms:=ms) ⟨_,cD _ rfl,rfl,rfl⟩ ⟨o,bT _ ho,hc,k,hd⟩ hn (Nat.ne_of_lt (cK ho)) ?_));exact r.mono (cF.push (D:=[]) (Z:=cG) _ _)
 .refine aH.eT (G:=λmv=>wpAny bS a.A (pyIter mv) Q E s1) r λl o ms k ho hc hd hn r=>?_
  refine wpAny_pyIter_tuple ⟨o,ho,hc,k,hd⟩ (p2 cG _ (S1.lg _) (cF.push _ _) s1.heap.objs.size vn eM (.tup (l:=l) (i:=0) (ms:=ms) ⟨_,cD _ rfl,rfl,rfl⟩ ⟨o,bT _ ho,hc,k,hd⟩ hn (Nat.ne_of_lt (cK ho)) ?_));exact r.mono (cF.push (D:=[]) (Z:=cG) _ _)
 .subst e
  obtain⟨t,rfl⟩:=r.str_inv;exact wpAny_pyIter_ascii (by simpa [cL] using ha) (p2 cG _ (S1.lg _) (cF.push _ _) s1.heap.objs.size vn eM (.str (cs:=cs) (t:=t) (i:=0) ⟨_,cD _ rfl,rfl,rfl⟩ (by simp)))
theorem vo {x:Int}(h:g7 x=true):-(2 ^ 62)<=x/\x<2 ^ 62:=by
 have:=of_decide_eq_true h;exact UH this
theorem m9 {x y z:Int}{t u w:Tok}{tk:Nat}(hr:yB x y z=some us)(S1:St cG bq s1)(x1:cF [] Z s.heap cG s1.heap)(p1:cb a cG s1 (.ok us bq) (KI s.heap Q) E) :
  wpAny bS a.A (pyIter (.ref s1.heap.objs.size)) Q E {s1 with heap:=s1.heap.push {cls:=.type "range",data:=.fields #[.int x t,.int y u,.int z w]},toks:=tk}:=by
 refine di hr λhc hu=>?_;injection hu with hu;subst hu;have b:=vo hc.2.1;have b':=vo hc.2.2;have hsz:Builtin.Range.small x y z=true/\0<=Builtin.Range.rangeSize x y z:=by
  rcases hc.1 with rfl |rfl
  .exact⟨small_one b.1 b.2 b'.1 b'.2,by rw[rangeSize_one];split <;> lia⟩
  .exact⟨small_down b.1 b.2 b'.1 b'.2,rl (rangeSize_downNat ..)<|Int.natCast_nonneg _⟩
 refine wpAny_pyIter_range (IsRange.new ..) hsz.1 ?_;have S2:=S1.lg (tk:=tk) {cls:=.type "range",data:=.fields #[.int x t,.int y u,.int z w]};have x2:=x1.trans (cF.push (D:=[]) (Z:=cG) s1.heap {cls:=.type "range",data:=.fields #[.int x t,.int y u,.int z w]});refine p1 cG _ (S2.lg _) ((cF.push _ _).trans (cF.push _ _)) _ x2.end_none S2.heap.jS (.range (x:=x) (step:=z) (k:=(Builtin.Range.rangeSize x y z).toNat) ?_ rfl);exact rl (Int.toNat_of_nonneg hsz.2)<|cD _ rfl
theorem Gs {is:List Int}{G:List Value->Prop}(e:N1 is=some us)(I:IntsAre ms is)(h1 :∀b t,yB 0 b 1=some us->G [.int b t])(h2 :∀a t b u,yB a b 1=some us->G [.int a t,.int b u])(h3 :∀a t b u c w,yB a b c=some us->G [.int a t,.int b u,.int c w]):G ms:=by
 cases I with
 |nil=>injection e
 |cons b t I=>cases I with
  |nil=>exact h1 b t e
  |cons c u I=>cases I with
   |nil=>exact h2 b t c u e
   |cons d w I=>cases I with
    |nil=>exact h3 b t c u d w e
    |cons _ _ _=>injection e
theorem A1 (ok:b9 n a)(S:St Z U s)(hx:a.env.scope.names.lookup (ofString "range")=some .globalImplicit)(e:nsIn W.K mainGlobals (ofString "range")=some none)(h:Q (.type "range") s):wpAny bS a.A (eval (.Name (ofString "range") pos) a.env) Q E s:=
 gE ok S hx e boot_range (by decide) rfl h
theorem lu {es:List Expr}{np pos:Pos}{f:ME (List V)}(hs:gz n sc es f)(hp:dc pos es)
  (hx:sc.names.lookup (ofString "range")=some .globalImplicit) (e:nsIn W.K mainGlobals (ofString "range")=some none) :
  pg n sc (.Call (.Name (ofString "range") np) es [] pos) (oh f):=by
 intro a ok bJ Z U fr s S F Q E p;subst bJ;refine Call_Name rfl (A1 ok S hx e ?_);refine PySem.callWith_type (hp _) (c7 (hp _) (hs.bind ok rfl S F p λvs bU jo s2 ms S2 F2 x2 r2 p2=>?_));refine cb.opt p2 λus hu p3=>aT hu λis hi hr=>Gs (G:=λm=>wpAny bS a.A (call (.type "range") m) (λx s1=>wpAny bS a.A (pyIter x) Q E s1) E s2) hr (n4 hi r2) (λb t h=>?_) (λa t b u h=>?_) λa t b u c w h=>?_
 .exact call_range_1 (m9 h S2 x2 p3)
 .exact call_range_2 (m9 h S2 x2 p3)
 .exact call_range_3 (di h λz _=>by rcases z.1 with rfl |rfl <;> decide) (m9 h S2 x2 p3) (.inl (di h λz _=>by rcases z.1 with rfl |rfl <;> exact PyProof.noPylong_small (by decide)))
theorem kl {e1:Expr}{f:ME V}(hs:gz n sc [e1] (aS [f]))(hp:dc pos [e1])(hx:sc.names.lookup (ofString "range")=some .globalImplicit)(e:nsIn W.K mainGlobals (ofString "range")=some none) :
 pg n sc (.Call (.Name (ofString "range") np) [e1] [] pos) (iY f):=lu hs hp hx e
theorem i0 {e1 e2:Expr}{f g:ME V}(hs:gz n sc [e1,e2] (aS [f,g]))(hp:dc pos [e1,e2])(hx:sc.names.lookup (ofString "range")=some .globalImplicit)(e:nsIn W.K mainGlobals (ofString "range")=some none) :
 pg n sc (.Call (.Name (ofString "range") np) [e1,e2] [] pos) (iZ f g):=lu hs hp hx e
theorem oj {e1 e2 e3:Expr}{f g k:ME V}(hs:gz n sc [e1,e2,e3] (aS [f,g,k]))(hp:dc pos [e1,e2,e3])(hx:sc.names.lookup (ofString "range")=some .globalImplicit)(e:nsIn W.K mainGlobals (ofString "range")=some none) :
 pg n sc (.Call (.Name (ofString "range") np) [e1,e2,e3] [] pos) (jr f g k):=lu hs hp hx e
end
noncomputable def aE (fr:eY)(i:Nat)(v:V):eY:=(i,v)::fr.filter (λp=>!(p.1 == i))
theorem aV (fr:eY)(i j:Nat)(v:V) :(aE fr i v).lookup j=if j=i then some v else fr.lookup j:=by
 refine List.lookup_cons.trans ?_;by_cases h:j=i
 .simp[h]
 .simp only[beq_eq_false_iff_ne.mpr h,h,if_false]
  induction fr with
  |nil=>rfl
  |cons p fr ih=>
   refine rl List.filter_cons ?_;obtain⟨k,u⟩:=p;by_cases hk:k=i
   .subst hk;simp[List.lookup_cons,beq_eq_false_iff_ne.mpr h,ih]
   .simp only[beq_eq_false_iff_ne.mpr hk,Bool.not_false,if_true,List.lookup_cons,ih]
noncomputable def cu (f:ME Y)(k:Y->MS):MS:=λfr U=>match f fr U with
 |.ok v bB=>k v fr bB |.exc c bB=>.exc c fr bB |.stuck=>.stuck
def cp (f:ME V):MS:=cu f λv _ U=>.ret v U
def fw (t:ME Bool)(f g:MS):MS:=cu t λb=>if b then f else g
noncomputable def aL (f g:MS):MS:=λfr U=>match f fr U with |.next bC bB=>g bC bB |r=>r
noncomputable def bF:MS:=λfr U=>.next fr U
noncomputable abbrev kR:=V->eY->Option eY
def aA (i:Nat):kR:=λv fr=>some (aE fr i v)
def aB (t:kR)(f:ME V):MS:=cu f λv fr U=>match t v fr with |some bC=>.next bC U |none=>.stuck
noncomputable def dJ (t:kR)(body:MS):List V->MS
 |[],fr,U=>.next fr U
 |v::vs,fr,U=>match t v fr with
  |none=>.stuck
  |some cA=>match body cA U with
   |.next cH bU=>dJ t body vs cH bU
   |.brk cH bU=>.next cH bU
   |.ret v bU=>.ret v bU
   |.exc _ _ _=>.stuck
   |.stuck=>.stuck
theorem sz {t:kR}{body:MS}:dJ t body (v::vs) fr U=match t v fr with
 |none=>.stuck
 |some cA=>match body cA U with
  |.next cH bU=>dJ t body vs cH bU
  |.brk cH bU=>.next cH bU
  |.ret v bU=>.ret v bU
  |.exc _ _ _=>.stuck
  |.stuck=>.stuck:=rfl
def df (t:kR)(it:ME (List V))(body:MS):MS:=cu it λvs=>dJ t body vs
section
noncomputable def yD (n:Nat)(sc:Scope)(kj:Expr)(t:kR):Prop:=
 ∀(a:Act),b9 n a->a.env.scope=sc->∀(Z:dW) (U:bw) (fr:eY) (s:Shared),St Z U s->FS a fr Z s.heap->∀(v:V) (mv:Value) (bC:eY),aH Z s.heap v mv->t v fr=some bC->
  ∀(Q:Unit->Shared->Prop) (E:iN),(∀s',St Z U s'->cF a.D Z s.heap Z s'.heap->FS a bC Z s'.heap->Q () s')->wpAny bS a.A (assign kj a.env mv) Q E s
noncomputable def gH (sc:Scope)(x:Str):Bool:=sc.names.lookup x == some .local||sc.names.lookup x == some .cell
end
section
variable {D:List Addr}
theorem SameBut.get {b L:Addr}(hs:Heap.SameBut L h h')(e:h.get? b=some o)(dg:b≠L):h'.get? b=some o:=(hs.2 b dg).trans e
theorem gP.own {L:Addr}(S:gP Z U h)(hs:Heap.SameBut L h h')(hn:L∉bH Z)(hb:W.h₀.get? L=none)(hD:L∈D)(h1 :∃o,h.get? L=some o/\bI o=true)(h2 :∃o,h'.get? L=some o/\bI o=true) :
  gP Z U h'/\cF D Z h Z h':=by
 obtain⟨o0,e0,q0⟩:=h1;have hh:L∉Z.eE:=λhm=>hn (cC.mpr (.inr hm));have x:cF D Z h Z h':=cF.FV hs hD hh (λo e=>by replace e:=e0▸e;injection e with e;subst e;exact q0) h2;refine⟨gP.mk (λb o e=>SameBut.get hs (S.base b o e) λz=>by replace e:=hb▸z▸e;injection e) S.ok S.fresh (λa ha=>(let ⟨ob,e,c⟩:=S.qG a ha;⟨ob,x.held a ha ob e,c⟩)) S.nodup S.len λi o p e e'=>?_,x⟩;refine(S.objs i o p e e').mono x.jQ (λob q=>SameBut.get hs q λz=>hn (z▸eB e')) λob q qs=>⟨ob.slots,SameBut.get hs q λz=>?_⟩;replace q:=e0▸z▸q;injection q with q;subst q;replace qs:=q0▸qs;injection qs
theorem iG {x:Str}{Q:Unit->Shared->Prop}(VX:a.env.scope.kind=.function)(bJ:a.env.scope=sc)(S:St Z U s)(F:FS a fr Z s.heap)(hi:i<W.nN)(hx:W.nm i=x)(hk:sc.names.lookup x=some .local)(r:aH Z s.heap v mv)(k :∀s',St Z U s'->cF [a.env.locals] Z s.heap Z s'.heap->FS a (aE fr i v) Z s'.heap->Q () s'):wpAny bS A (storeName a.env x mv) Q E s:=by
 subst hx;obtain⟨m,hm,hv⟩:=F.ns;have Yu:=Ns.soft hm;have Fu:a.env.kindOf (W.nm i)=some .local:=by replace hk:=(Eq.symm (bJ))▸hk;exact hk
 refine wpAny_storeName_local Fu hm (λh' QS hs=>?_) (rl VX rfl);obtain⟨S',x'⟩:=S.heap.own (D:=[a.env.locals]) hs F.o8 F.u7 (by simp) Yu (Ns.soft QS);have lz :∀y c,(y,c)∈a.env.cells->∀u,s.heap.IsCell c u->h'.IsCell c u:=λy c hy u hc=>by
  obtain⟨o,ho,hd⟩:=hc;refine⟨o,SameBut.get hs ho λz=>?_,hd⟩;obtain⟨o2,_,_,wQ,qZ,_⟩:=hm;replace ho:=wQ▸z▸ho;injection ho with ho;subst ho;replace qZ:=hd▸qZ;injection qZ
 refine k _ (St.mk S' S.gens S.os) x' ⟨F.live.ext x',⟨_,QS,λj u e=>?_⟩,F.o8,F.u7,λy c hy=>?_,F.apart,F.laid⟩
 .rw[aV] at e
  by_cases Jv:j=i
  .subst Jv
   replace e:=(ay rfl)▸e;injection e with e;subst e;refine⟨hi,?_⟩;unfold iD;exact rl Fu<|⟨mv,by simp,r.mono x'⟩
  .replace e:=(av Jv)▸e
   obtain⟨hj,rj⟩:=hv j u e;refine⟨hj,?_⟩;exact rj.map (λw e1=>(av λz=>Jv (yi _ _ hj hi z)).trans e1) (λc w e1 e2=>lz _ _ (mem_of_lookup e1) _ e2) (λw q=>q.mono x')
 .obtain⟨c1,c2,u,c3⟩:=F.cells y c hy
  exact⟨c1,c2,u,lz y c hy u c3⟩
theorem sA {x:Str}{Q:Unit->Shared->Prop}(ok:b9 n a)(bJ:a.env.scope=sc)(S:St Z U s)(F:FS a fr Z s.heap)(hi:i<W.nN)(hx:W.nm i=x)(hk:gH sc x=true)(r:aH Z s.heap v mv)(k :∀s',St Z U s'->cF a.D Z s.heap Z s'.heap->FS a (aE fr i v) Z s'.heap->Q () s'):wpAny bS a.A (storeName a.env x mv) Q E s:=by
 subst hx;obtain⟨m,hm,hv⟩:=F.ns;have Yu:=Ns.soft hm;simp only[gH,Bool.or_eq_true,beq_iff_eq] at hk;rcases hk with hk |hk
 .exact iG ok.kind bJ S F hi rfl hk r λs' S' x' F'=>k s' S' (x'.weaken (by simp[Act.D])) F'
 .have Fu:a.env.kindOf (W.nm i)=some .cell:=by replace hk:=(Eq.symm (bJ))▸hk;exact hk
  obtain⟨c,hc⟩:=F.laid _ Fu;have Gu:=mem_of_lookup hc;obtain⟨c1,c2,u0,c3⟩:=F.cells _ _ Gu;refine wpAny_storeName_cell ok.kind Fu hc c3 λh' ML hs=>?_;obtain⟨S',x'⟩:=S.heap.own (D:=a.D) hs c1 c2 (by rw[Act.D,List.mem_cons,List.mem_map];exact .inr ⟨_,Gu,rfl⟩) (IsCell.soft c3) (IsCell.soft ML);have lz :∀y d,(y,d)∈a.env.cells->d≠c->∀u,s.heap.IsCell d u->h'.IsCell d u:=λy d hy dg u hc=>by
   obtain⟨o,ho,hd⟩:=hc;exact⟨o,SameBut.get hs ho dg,hd⟩
  have QV:h'.Ns a.env.locals m:=by
   obtain⟨o,es,ep,ho,hd,q⟩:=hm;refine⟨o,es,ep,SameBut.get hs ho λz=>?_,hd,q⟩;obtain⟨o2,wQ,qZ⟩:=c3;replace ho:=wQ▸z▸ho;injection ho with ho;subst ho;replace qZ:=hd▸qZ;injection qZ
  have other :∀y d,a.env.cells.lookup y=some d->y≠W.nm i->d≠c:=by
   intro y d hy dg z;subst z;have h1:=mem_of_lookup hy;obtain⟨p1,e1⟩:=List.mem_iff_getElem.mp h1;obtain⟨p2,e2⟩:=List.mem_iff_getElem.mp Gu;obtain⟨l1,e1⟩:=e1;obtain⟨l2,e2⟩:=e2;have ap:=List.pairwise_iff_getElem.mp F.apart;rcases Nat.lt_trichotomy p1 p2 with eO |heq |eO
   .have:=ap p1 p2 l1 l2 eO;replace this:=e2▸e1▸this;exact this rfl
   .subst heq;replace e2:=e1▸e2;exact dg (aP Prod.fst e2)
   .have:=ap p2 p1 l2 l1 eO;replace this:=e2▸e1▸this;exact this rfl
  refine k _ (St.mk S' S.gens S.os) x' ⟨F.live.ext x',⟨_,QV,λj u e=>?_⟩,F.o8,F.u7,λy d hy=>?_,F.apart,F.laid⟩
  .rw[aV] at e
   by_cases Jv:j=i
   .subst Jv
    replace e:=(ay rfl)▸e;injection e with e;subst e;refine⟨hi,?_⟩;unfold iD;exact rl Fu<|⟨c,mv,hc,ML,r.mono x'⟩
   .replace e:=(av Jv)▸e
    obtain⟨hj,rj⟩:=hv j u e;refine⟨hj,?_⟩;have dg:W.nm j≠W.nm i:=λz=>Jv (yi _ _ hj hi z);exact rj.map (λ_ e1=>e1) (λd w e1 e2=>lz _ _ (mem_of_lookup e1) (other _ _ e1 dg) _ e2) (λw q=>q.mono x')
  .obtain⟨d1,d2,u,d3⟩:=F.cells y d hy
   by_cases Yv:d=c
   .subst Yv;exact⟨d1,d2,_,ML⟩
   .exact⟨d1,d2,u,lz y d hy Yv u d3⟩
theorem dA {x:Str}(hi:i<W.nN)(hx:W.nm i=x)(hk:gH sc x=true):yD n sc (.Name x pos) (aA i):=by
 intro a ok bJ Z U fr s S F v mv bC r e Q E k;injection e with e;subst e;exact wpAny_assign_Name (sA ok bJ S F hi hx hk r k)
theorem cm.i9 {e:Expr}{f:ME V}(hE:cm n sc e f)(ok:b9 n a)(bJ:a.env.scope=sc)(S:St Z U s)(F:FS a fr Z s.heap){k:V->MS}(p:fO a Z s (cu f k fr U) QF E)(h :∀v bq cG s1 mv,St cG bq s1->FS a fr cG s1.heap->cF [] Z s.heap cG s1.heap->aH cG s1.heap v mv->fO a cG s1 (k v fr bq) QF E->Q mv s1) :
  wpAny bS a.A (eval e a.env) Q E s:=by
 unfold cu at p;refine hE a ok bJ Z U fr s S F Q E ?_
 cases hf:f fr U with
 |ok v bq=>replace p:=hf▸p;exact λcG s1 S1 x1 mv r1=>h v bq cG s1 mv S1 (F.ext x1) x1 r1 (fO.step x1.of0 p)
 |exc c bq=>replace p:=hf▸p;exact λbK s' e B Ao x=>p bK s' e B (.inl Ao) x.of0 (F.ext (x.ext (Ao.elim (·.2.2.1) (·.2.2.1))))
 |stuck=>replace p:=hf▸p;exact p
theorem jq.i9 {e:Expr}{f:ME Bool}(hE:jq n sc e f)(ok:b9 n a)(bJ:a.env.scope=sc)(S:St Z U s)(F:FS a fr Z s.heap){k:Bool->MS}{Q:Bool->Shared->Prop}(p:fO a Z s (cu f k fr U) QF E)(h :∀v bq cG s1,St cG bq s1->FS a fr cG s1.heap->cF [] Z s.heap cG s1.heap->fO a cG s1 (k v fr bq) QF E->Q v s1) :
  wpAny bS a.A (isTrue e a.env (eval e a.env)) Q E s:=by
 unfold cu at p;refine hE a ok bJ Z U fr s S F Q E ?_
 cases hf:f fr U with
 |ok v bq=>replace p:=hf▸p;exact λcG s1 S1 x1=>h v bq cG s1 S1 (F.ext x1) x1 (fO.step x1.of0 p)
 |exc c bq=>replace p:=hf▸p;exact λbK s' e B Ao x=>p bK s' e B (.inl Ao) x.of0 (F.ext (x.ext (Ao.elim (·.2.2.1) (·.2.2.1))))
 |stuck=>replace p:=hf▸p;exact p
theorem pg.i9 {e:Expr}{f:ME (List V)}(hE:pg n sc e f)(ok:b9 n a)(bJ:a.env.scope=sc)(S:St Z U s)(F:FS a fr Z s.heap){k:List V->MS}(p:fO a Z s (cu f k fr U) QF E)(h :∀vs bq cG s1 it,St cG bq s1->FS a fr cG s1.heap->cF [] Z s.heap cG s1.heap->s.heap.get? it=none->it∉bH cG->de cG s1.heap it vs->fO a Z s (k vs fr bq) QF E->Q (.ref it) s1) :
  wpAny bS a.A (eval e a.env) (λx s1=>wpAny bS a.A (pyIter x) Q E s1) E s:=by
 unfold cu at p;refine hE a ok bJ Z U fr s S F Q E ?_
 cases hf:f fr U with
 |ok v bq=>replace p:=hf▸p;exact λcG s1 S1 x1 it h0 hn hI=>h v bq cG s1 it S1 (F.ext x1) x1 h0 hn hI p
 |exc c bq=>replace p:=hf▸p;exact λbK s' e B Ao x=>p bK s' e B (.inl Ao) x.of0 (F.ext (x.ext (Ao.elim (·.2.2.1) (·.2.2.1))))
 |stuck=>replace p:=hf▸p;exact p
theorem bg:cf n sc [] bF:=by
 intro a ok bJ Z U fr s S F Q E p;exact wpAny_execs_nil (p Z s S (.refl ..) F)
theorem ak {st:Stmt}{N2:List Stmt}{f g:MS}(hf:jT n sc st f)(hg:cf n sc N2 g):cf n sc (st::N2) (aL f g):=by
 intro a ok bJ Z U fr s S F Q E p;unfold aL at p;refine wpAny_execs_cons (hf a ok bJ Z U fr s S F _ E ?_)
 cases hr:f fr U with
 |next bC bB=>replace p:=hr▸p;exact λcG s1 S1 x1 F1=>hg a ok bJ cG bB bC s1 S1 F1 Q E (fO.step x1 p)
 |brk bC bB=>replace p:=hr▸p;exact p
 |ret v bB=>replace p:=hr▸p;exact p
 |exc c bC bB=>replace p:=hr▸p;exact p
 |stuck=>replace p:=hr▸p;exact p
theorem ar {st:Stmt}{f:MS}(hf:jT n sc st f):cf n sc [st] f:=by
 intro a ok bJ Z U fr s S F Q E p;refine wpAny_execs_cons (hf a ok bJ Z U fr s S F _ E ?_)
 cases hr:f fr U with
 |next bC bB=>replace p:=hr▸p;exact λcG s1 S1 x1 F1=>wpAny_execs_nil (p cG s1 S1 x1 F1)
 |brk bC bB=>replace p:=hr▸p;exact p
 |ret v bB=>replace p:=hr▸p;exact p
 |exc c bC bB=>replace p:=hr▸p;exact p
 |stuck=>replace p:=hr▸p;exact p
theorem bz {t:Expr}{b o:List Stmt}{f g:MS}(ht:jq n sc t ft)(hb:cf n sc b f)(ho:cf n sc o g):jT n sc (.If t b o pos) (fw ft f g):=by
 intro a ok bJ Z U fr s S F Q E p;refine wpAny_If (ht.i9 ok bJ S F p λv bq cG s1 S1 F1 x1 p1=>?_)
 cases v with
 |true=>exact hb a ok bJ cG bq fr s1 S1 F1 Q E p1
 |false=>exact ho a ok bJ cG bq fr s1 S1 F1 Q E p1
theorem aQ {e:Expr}{f:ME V}(hf:cm n sc e f):jT n sc (.Return (some e) pos) (cp f):=by
 intro a ok bJ Z U fr s S F Q E p;exact wpAny_Return_some (hf.i9 ok bJ S F p λv bq cG s1 mv S1 F1 x1 r1 p1=>p1 cG s1 mv S1 (.refl ..) r1)
theorem aN {x:Str}{e:Expr}{f:ME V}(hf:cm n sc e f)(hi:i<W.nN)(hx:W.nm i=x)(hk:gH sc x=true)(hs :∀env:Env,swapsWith e (some (.Name x tp)) pos.line env=pure false):jT n sc (.Assign [.Name x tp] e pos) (aB (aA i) f):=by
 intro a ok bJ Z U fr s S F Q E p;refine wpAny_Assign_Name (hf.i9 ok bJ S F p λv bq cG s1 mv S1 F1 x1 r1 p1=>?_) (hs _);exact sA ok bJ S1 F1 hi hx hk r1 λs' S' x' F'=>p1 cG s' S' x' F'
end
set_option tactic.hygienic true
section
theorem sC {name:Str}{v:Value}{ks:List (Str×Value)}(d:o.IsDictOf (strKind W.prog W.w) ks) :
  (Obj.putName name (hashStr W.w name) (.str name tk) v o).IsDictOf (strKind W.prog W.w) (stored ks name v)/\bI (Obj.putName name (hashStr W.w name) (.str name tk) v o)=true/\
   (∃es n,(Obj.putName name (hashStr W.w name) (.str name tk) v o).data=.dict es n/\es.size<=ks.length+1):=by
 obtain⟨es,ep,hc,hd,hk,hp,hn⟩:=d;obtain⟨c,dd,dt,sl⟩:=o;simp only at hd;subst hd;refine rl Obj.putName_eq ?_;have yy :(strKind W.prog W.w).is name (.str name tk)=true:=strKind_is _ _ _ _;have VY :(λe:DictEntry=>e.key.isStr name)=λe=>(strKind W.prog W.w).is name e.key:=by
  funext e
  cases e.key <;> rfl
 have N3 :(es.findIdx? λe=>(strKind W.prog W.w).is name e.key)=ks.findIdx? λkv=>decide (kv.1=name):=by
  refine rr (hp.findIdx name) ?_;obtain⟨l⟩:=es;simp
 have hlen:es.size=ks.length:=by have:=hp.length;simpa using this
 unfold Obj.putNameByArray;simp only;refine rl VY ?_
 cases hi:es.findIdx? λe=>(strKind W.prog W.w).is name e.key with
 |some i=>
  refine⟨⟨_,_,hc,rfl,hk.modify _ _,?_,?_⟩,rfl,_,_,rfl,by simp[hlen]⟩
  .rw[stored,ay (any_of_findIdx_some (N3▸hi))]
   have hl :(es.toList.findIdx? λe=>(strKind W.prog W.w).is name e.key)=some i:=by refine rr hi ?_;obtain⟨l⟩:=es;simp
   have:=hp.modify hn hl v;obtain⟨l⟩:=es
   simpa using this
  .rw[stored,ay (any_of_findIdx_some (N3▸hi)),keys_map_store];exact hn
 |none=>
  have AQ:name∉ks.map (·.1):=not_mem_of_findIdx_none (N3▸hi);have QW :¬(ks.any λkv=>decide (kv.1=name))=true:=by
   rw[List.any_eq_true];rintro⟨kv,Tn,he⟩;exact AQ (List.mem_map.mpr ⟨kv,Tn,of_decide_eq_true he⟩)
  refine⟨⟨_,_,hc,rfl,hk.push yy _,?_,?_⟩,rfl,_,_,rfl,by simp[hlen]⟩
  .rw[stored,av QW]
   have:=hp.append yy (hashStr W.w name) v;obtain⟨l⟩:=es
   simpa using this
  .rw[stored,av QW,List.map_append,List.nodup_append]
   refine⟨hn,by simp,?_⟩;intro a ha b hb;rw[List.map_cons,List.map_nil,List.mem_singleton] at hb;subst hb;exact λe=>AQ (e▸ha)
theorem A2 {ks:List (Str×Value)}(d:o.IsDictOf (strKind W.prog W.w) ks){P:Prop}(k :∀es ep,o.data=.dict es ep->es.any (·.refKey)=false->P):P:=by
 obtain⟨es,ep,hx,hd,hk,hp,hn⟩:=d;refine k es ep hd ?_;rw[<- Array.any_toList,List.any_eq_false];intro e he;obtain⟨k,h1,_⟩:=hk e (Array.mem_toList_iff.mp he);obtain⟨t,e1⟩:=Value.isStrOf_shape h1;simp[DictEntry.refKey,e1]
theorem Ke {x C dx:Addr}{od:Obj}{sl:Array (Option Value)}{name:Str}{v:Value}{ks:List (Str×Value)}(X:W.K.In s.heap)(hx:s.heap.get? x=some ⟨.ref C,some dx,.plain,sl⟩)(Cz:s.heap.get? dx=some od)(d:od.IsDictOf (strKind W.prog W.w) ks)(hp:plainOver W.K C=true)(ht:takerIn W.K C name=some none)(hh:hasDictIn W.K C=true)(hz:ks.length<=1000)(h :∀h' VZ,h'.get? dx=some VZ->VZ.IsDictOf (strKind W.prog W.w) (stored ks name v)->Heap.SameBut dx s.heap h'->R (.ok (.ret .none)) {s with heap:=h',toks:=s.toks+1}) :
  codeAny bS A (.call (.builtin "object.__setattr__") ⟨[.ref x,.str name tk,v],[]⟩) R s:=by
 have I:InstAt s.heap x ⟨.ref C,some dx,.plain,sl⟩ C (some od):=⟨hx,rfl,rfl,Cz⟩;refine osa_open X I hp ht λb=>?_;obtain⟨cd,hc,Kf⟩:=any_some hh;refine wb (aw (wb (wb (wpAny_loadPart hx (aY ((looks_clsIn X hc).here ?_))))));refine rl Kf<|aw (a:=some dx) (wb (aw (wb ?_)))
 refine wb (wb (wpAny_askSetting (aw (wb (wpAny_mkText (aY (wpAny_loadPart Cz ?_)))))));obtain⟨d',_,MM,n',e',PY⟩:=sC (name:=name) (tk:=s.toks) (v:=v) d;refine A2 d λMN JQ q hr=>?_;refine rl q ?_;dsimp only;have c :(!MN.any (·.key.isStr name)&&MN.any (·.refKey))=false:=rl hr<|rl (Bool.and_false ..) rfl
 refine rl (aRefKeyMayBeTheName_at ..)<|rl c ?_
 have g' :(s.heap.update dx (Obj.putName name (hashStr W.w name) (.str name s.toks) v)).get? dx=some (Obj.putName name (hashStr W.w name) (.str name s.toks) v od):=
  Heap.get?_update_self _ Cz (Obj.isFreed_of_dict e')
 refine wpAny_updatePart Cz ?_;refine wb (wpAny_lookBehind g' (rl e'<|pastItsLine_dict (by refine rl sizeLine_eq ?_;exact q95 ⋯ ⋯ (by rfl))) ?_)
 exact aw (h _ _ g' d' (dP ..))
end
noncomputable def CA (fs:List (Nat×V))(x:Nat)(v:V):List (Nat×V):=if fs.any (λp=>p.1 == x) then fs.map (λp=>if p.1 == x then (p.1,v) else p) else fs++[(x,v)]
structure A3 (c:Nat):Prop where
 set:findIn W.K (.ref (W.cls c)) "__setattr__" = some (some (.builtin "object.__setattr__"))
 plain:plainOver W.K (W.cls c)=true
 dict:hasDictIn W.K (W.cls c)=true
def om (c x:Nat)(v u:V)(U:bw):Option bw:=(ij U c v).bind λp=>if decide (p.2.length<=1000) then some (U.set p.1 (.inst c (CA p.2 x u))) else .none
def cU (c x:Nat)(fo fv:ME V):MS:=cu fv λu=>cu fo λo fr U=>match om c x o u U with |some bB=>.next fr bB |none=>.stuck
def g8 (o i u:V)(U:bw):Option bw:=match o with
 |.ref j=>match U[j]? with
  |some (.dict kd az)=>if fu kd i&&cE az.length then some (U.set j (.dict kd (gp az i u))) else .none
  |some (.list vs)=>match i with
   |.int k=>if decide (0<=k)&&decide (k<vs.length)&&cE vs.length then some (U.set j (.list (vs.set k.toNat u))) else .none
   |_=>.none
  |_=>.none
 |_=>.none
def eR (fo fi fv:ME V):MS:=cu fv λu=>cu fo λo=>cu fi λi fr U=>match g8 o i u U with |some bB=>.next fr bB |none=>.stuck
section
variable {D:List Addr}
theorem d8.aE {fs:List (Nat×V)}{ks:List (Str×Value)}{x:Nat}(hx:x<W.nN)(al:d8 (λkv km=>(kv.1<W.nN/\km.1=W.nm kv.1)/\aH Z h kv.2 km.2) fs ks)(r:aH Z h v m) :
  d8 (λkv km=>(kv.1<W.nN/\km.1=W.nm kv.1)/\aH Z h kv.2 km.2) (CA fs x v) (stored ks (W.nm x) m):=by
 have key :∀(kv:Nat×V) (km:Str×Value),((kv.1<W.nN/\km.1=W.nm kv.1)/\aH Z h kv.2 km.2)->(kv.1 == x)=decide (km.1=W.nm x):=by
  intro kv km q;refine rl q.1.2 ?_;by_cases hk:kv.1=x
  .refine rl hk ?_;simp
  .have:W.nm kv.1≠W.nm x:=λz=>hk (yi _ _ q.1.1 hx z)
   simp[hk,this]
 have ha:fs.any (λp=>p.1 == x)=ks.any (λkm=>decide (km.1=W.nm x)):=by
  induction al with
  |nil=>rfl
  |cons r _ ih=>simp only[List.any_cons,ih,key _ _ r]
 unfold CA stored;refine rl ha ?_;by_cases hb:ks.any (λkm=>decide (km.1=W.nm x))=true
 .refine rl (ay hb)<|rl (ay hb) ?_
  clear ha hb
  induction al with
  |nil=>exact .nil
  |@cons kv km as bs q _ ih=>
   simp only[List.map_cons];refine .cons ?_ ih;refine rl (key _ _ q) ?_;by_cases hq:km.1=W.nm x
   .simp only[hq,decide_true,if_true];exact⟨⟨q.1.1,by refine(Eq.symm (hq)).trans ?_;exact q.1.2⟩,r⟩
   .simp only[hq,decide_false,if_false];exact q
 .exact rl (av hb)<|rl (av hb)<|al.append (.cons ⟨⟨hx,rfl⟩,r⟩ .nil)
theorem A4 {x:Nat}{o:V}{mo:Value}{Q:Unit->Shared->Prop}(hc:A3 c)(hx:x<W.nN)(ht:takerIn W.K (W.cls c) (W.nm x)=some none)(S:St Z U s)(ro:aH Z s.heap o mo)(ru:aH Z s.heap u mu)(e:om c x o u U=some bB)(k :∀s',St Z bB s'->cF [] Z s.heap Z s'.heap->Q () s'):wpAny bS a.A (setAttr mo (W.nm x) mu) Q E s:=by
 unfold om at e
 cases Gd:ij U c o with
 |none=>rw[Gd] at e;injection e
 |some q=>
  obtain⟨j,fs⟩:=q;rw[Gd,Option.bind_some] at e
  split at e
  .rename_i hz
   injection e with e;subst e;have hz:=of_decide_eq_true hz;obtain⟨pp,rfl,hp,uv,rfl,sl,od,ks,g1,g2,d,al⟩:=wU S.heap ro Gd;have I:InstAt s.heap pp.1 ⟨.ref (W.cls c),some pp.2,.plain,sl⟩ (W.cls c) (some od):=⟨g1,rfl,rfl,g2⟩;have X:=S.heap.ok.X.keeps S.heap.base;refine set_plain X I hc.set (Ke (s:={s with toks:=s.toks+1}) X g1 g2 d hc.plain ht hc.dict (rr al.length<|hz) λh' VZ g' d' hs=>?_)
   have x0:cF [] Z s.heap Z h':=cF.sameBut hs (eB hp) (S.heap.gM hp) ⟨_,g'⟩;have dg:pp.1≠pp.2:=λz=>by
    rw[z,g2] at g1;injection g1 with g1;subst g1;obtain⟨_,_,_,hd,_⟩:=d;injection hd
   obtain⟨S',x'⟩:=S.DO (tk:=s.toks+1+1) (o':=.inst c (CA fs x u)) hp hs ⟨⟨sl,SameBut.get hs g1 dg⟩,_,Heap.dictOf_iff.mpr ⟨_,g',d'⟩,
    d8.aE hx (al.mono λ_ _ q=>⟨q.1,q.2.mono x0⟩) (ru.mono x0)⟩
   exact k _ S' x'
  .injection e
theorem yE {o:Expr}{x:Str}{ap:Pos}{v:Value}{Q:Flow->Shared->Prop}(h:wpAny M A (eval o env) (λov s2=>wpAny M A (PySem.setAttr ov x v) (λ_=>Q .next) E s2) E s) :
  wpAny M A (assignAll v ((assignEach [.Attribute o x ap] env).map (·.2))) (λ_=>Q .next) E s:=by
 show wpAny M A (assign (.Attribute o x ap) env v) (λ_=>Q .next) E s;refine rl (arm_assign_Attribute ..)<|wb (cQ (cB h (λov s2 h2=>wb (wpAny_standAt (wb (cQ (cB h2 (λ_ s3 h3=>wpAny_release h3) λ_ _ x=>x))))) λ_ _ x=>x))
theorem bG {o e:Expr}{x:Str}{ap:Pos}{fo fv:ME V}(ho:cm n sc o fo)(hv:cm n sc e fv)(hc:A3 c)(hi:i<W.nN)(hx:W.nm i=x)(ht:takerIn W.K (W.cls c) x=some none)(hs :∀env:Env,swapsWithSole [.Attribute o x ap] e pos.line env=pure false)(hw :∀env:Env,swappedStores [.Attribute o x ap] e env=pure none) :
  jT n sc (.Assign [.Attribute o x ap] e pos) (cU c i fo fv):=by
 intro a ok bJ Z U fr s S F Q E p;subst hx;refine wpAny_Assign_stores (hv.i9 ok bJ S F p λu bq cG s1 mu S1 F1 x1 r1 p1=>?_) (hs _) (hw _);refine yE (ho.i9 ok bJ S1 F1 p1 λv bU jo s2 mv S2 F2 x2 r2 p2=>?_)
 cases hm:om c i v u bU with
 |none=>rw[hm] at p2;exact p2.elim
 |some bB=>
  rw[hm] at p2;exact A4 hc hi ht S2 r2 (r1.mono x2) hm λs' S' x'=>p2 jo s' S' x'.of0 (F2.ext x')
theorem nc {l:Addr}{items:Array Value}{k:Int}{t:Tok}{v:Value}{Q:Unit->Shared->Prop}(ho:s.heap.get? l=some ⟨.type "list",none,.seq items n,#[]⟩)(h0:0<=k)(QX:k<2 ^ 63)(hn:k<items.size)(hQ:Q () {s with heap:=s.heap.update l (Obj.mapSeq (·.setIfInBounds k.toNat v))}) :
  wpAny (model prog w) A (setItem (.ref l) (.int k t) v) Q E s:=by
 have hl:s.heap.IsList l items:=⟨_,ho,rfl,n,rfl⟩;unfold setItem
 try with_reducible refine cQ ?_
 first |refine wb (aw ?_) |skip
 refine wb (wpAny_sequenceKey hl.typeIs (by decide) ?_);refine wb (wpAny_callSpecial?_slot (name:=Str.ofString "__setitem__") hl.typeIs slot_list_setitem
  (fF slot_list_setitem hl.typeIs entry_list_setitem ?_ (args_list_setitem _ _ _)))
 refine(?_:wpAny _ _ (Builtin.List.listSubscript? (.int k t) >>= _) _ _ s);refine wb (wpAny_listSubscript_int (fitsIndex_of h0 QX) ?_);clear QX;obtain⟨j,rfl⟩:=Int.eq_ofNat_of_zero_le h0;have hj:j<items.size:=Int.ofNat_lt.mp hn;have Kg:items[j]? = some items[j]:=Array.getElem?_eq_getElem hj;refine wb (wb (wpAny_seqItemAt ho rfl (aw ?_)));refine rl Kg<|wb (wpAny_setSeqItemAt ho rfl ?_)
 first
  |exact wb (aw (aw ⟨.none,rfl,aw hQ⟩))
  |exact aw ⟨.none,rfl,aw hQ⟩
theorem aD.set (r:aD Z h vs ms)(j:Nat)(rv:aH Z h v m):aD Z h (vs.set j v) (ms.set j m):=by
 induction j generalizing vs ms with
 |zero=>cases r with
  |nil=>exact .nil
  |cons a b=>exact .cons rv b
 |succ j ih=>cases r with
  |nil=>exact .nil
  |cons a b=>exact .cons a (ih b)
theorem A5 {o i:V}{mo:Value}{Q:Unit->Shared->Prop}(ok:b9 n a)(S:St Z U s)(ro:aH Z s.heap o mo)(ri:aH Z s.heap i mi)(ru:aH Z s.heap u mu)(e:g8 o i u U=some bB)(k :∀s',St Z bB s'->cF [] Z s.heap Z s'.heap->Q () s'):wpAny bS a.A (setItem mo mi mu) Q E s:=by
 unfold g8 at e
 cases o with
 |ref j=>
  obtain⟨p,hp,rfl⟩:=ro.fm;dsimp only at e
  cases uv:U[j]? with
  |none=>rw[uv] at e;injection e
  |some ob=>
  rw[uv] at e
  cases ob with
  |dict kd az=>
   refine di e λhz e=>?_;injection e with e;subst e;rw[Bool.and_eq_true] at hz;exact Gh (by have:=ok.units;exact yg this) S uv hp ri ru hz.1 hz.2 λs' _ S' x'=>k s' S' x'
  |list vs=>
   cases i with
   |int kk=>
    refine di e λhz e=>?_;injection e with e;subst e;simp only[Bool.and_eq_true,decide_eq_true_eq] at hz
    cases ri;obtain⟨e1,ms,n,g,q⟩:=S.heap.objs _ _ _ uv hp;have hsz:vs.length=ms.size:=by refine q.length.trans ?_;simp
    have:=of_decide_eq_true hz.2;refine rl e1<|nc g hz.1.1 (by lia) (rr hsz<|hz.1.2) ?_
    obtain⟨S',x'⟩:=n7 (tk:=s.toks) (g:=λxs=>xs.setIfInBounds kk.toNat mu) (ws:=vs.set kk.toNat u) S hp e1 g (rl Array.toList_setIfInBounds<|aD.set q _ ru)
    exact k _ S' x'
   |_=>injection e
  |_=>injection e
 |_=>injection e
theorem fc {o i e:Expr}{fo fi fv:ME V}(ho:cm n sc o fo)(hi:cm n sc i fi)(hv:cm n sc e fv)(hs :∀env:Env,swapsWith e (some (.Subscript o i tp)) pos.line env=pure false):jT n sc (.Assign [.Subscript o i tp] e pos) (eR fo fi fv):=by
 intro a ok bJ Z U fr s S F Q E p;refine wpAny_Assign_Subscript (hv.i9 ok bJ S F p λu bq cG s1 mu S1 F1 x1 r1 p1=>?_) (hs _);refine ho.i9 ok bJ S1 F1 p1 λv bU jo s2 mv S2 F2 x2 r2 p2=>?_;refine hi.i9 ok bJ S2 F2 p2 λw qH qI s3 mw S3 F3 x3 r3 p3=>?_
 cases hm:g8 v w u qH with
 |none=>rw[hm] at p3;exact p3.elim
 |some bB=>
  rw[hm] at p3;exact A5 ok S3 (r2.mono x3) r3 (r1.mono (x2.trans x3)) hm λs' S' x'=>p3 qI s' S' x'.of0 (F3.ext x')
end
set_option tactic.hygienic false
noncomputable def V.isRef:V->Bool
 |.ref _=>true |.tup _=>true |.list _=>true |_=>false
def bM (f:ME V):MS:=cu f λv fr U=>if v.isRef then .stuck else .next fr U
noncomputable def sD (t:ME Bool)(body:MS):Nat->MS
 |0,_,_=>.stuck
 |k+1,fr,U=>match t fr U with
  |.ok true bq=>(match body fr bq with
   |.next cH bU=>sD t body k cH bU
   |.brk cH bU=>.next cH bU
   |.ret v bU=>.ret v bU
   |.exc _ _ _=>.stuck
   |.stuck=>.stuck)
  |.ok false bq=>.next fr bq
  |.exc _ _=>.stuck
  |.stuck=>.stuck
theorem yF {t:ME Bool}{body:MS}:sD t body (k+1) fr U=match t fr U with
 |.ok true bq=>(match body fr bq with
  |.next cH bU=>sD t body k cH bU
  |.brk cH bU=>.next cH bU
  |.ret v bU=>.ret v bU
  |.exc _ _ _=>.stuck
  |.stuck=>.stuck)
 |.ok false bq=>.next fr bq
 |.exc _ _=>.stuck
 |.stuck=>.stuck:=rfl
def A6 (k:Nat)(t:ME Bool)(body:MS):MS:=sD t body k
def cP (t:kR)(f:ME V):MS:=cu f λv fr U=>match t v fr with |some bC=>.next bC U |none=>.stuck
section
variable {D:List Addr}
theorem vp (ok:b9 n a):interactive a.env=false:=by unfold interactive;exact rl ok.kind rfl
theorem bE {e:Expr}{f:ME V}(hf:cm n sc e f)(hs :∀env:Env,swapsWith e none pos.line env=pure false):jT n sc (.Expr e pos) (bM f):=by
 intro a ok bJ Z U fr s S F Q E p;refine wpAny_Expr (hf.i9 ok bJ S F p λv bq cG s1 mv S1 F1 x1 r1 p1=>?_) (vp ok) (hs _);by_cases hr:v.isRef=true
 .rw[ay hr] at p1;exact p1.elim
 .rw[av hr] at p1
  have:=p1 cG s1 S1 (.refl ..) F1
  cases r1 <;> first |exact this |exact(hr rfl).elim
theorem CB {kj:Expr}{t:kR}(ht:yD n sc kj t)(hb:cf n sc body fb)(ok:b9 n a)(bJ:a.env.scope=sc)(S:St Z U s)(F:FS a fr Z s.heap)(x:cF a.D mY s0.heap Z s.heap)(rv:aH Z s.heap v mv){Q:Flow->Shared->Prop}(hR :∀f s',Q f s'->R (.ok f) s'){I:Nat->Shared->Prop}{E':iN}(p:fO a mY s0 (dJ t fb (v::vs) fr U) Q E)(again :∀cH bU qI s3,St qI bU s3->FS a cH qI s3.heap->cF a.D Z s.heap qI s3.heap->fO a mY s0 (dJ t fb vs cH bU) Q E->∃m,m<k/\I m s3) :
  wpAny bS a.A (PySem.assign kj a.env mv) (λ_ yG=>wpAny bS a.A (execs body a.env) (λf pw=>match f with
   |.next |.cont=>∃m,m<k/\I m pw
   |.brk=>R (.ok .next) pw
   |.ret v=>R (.ok (.ret v)) pw) E' yG) E' s:=by
 rw[sz] at p
 cases hf:t v fr with
 |none=>rw[hf] at p;exact p.elim
 |some cA=>
  rw[hf] at p;refine ht a ok bJ Z U fr _ S F v mv cA rv hf _ _ λs2 S2 x2 F2=>hb a ok bJ Z U cA s2 S2 F2 _ _ ?_;dsimp only at p
  cases hr:fb cA U with
  |next cH bU=>rw[hr] at p;exact λqI s3 S3 x3 F3=>again cH bU qI s3 S3 F3 (x2.trans x3) p
  |brk cH bU=>rw[hr] at p;exact λqI s3 S3 x3 F3=>hR _ _ (p qI s3 S3 ((x.trans x2).trans x3) F3)
  |ret v bU=>rw[hr] at p;exact λqI s3 mv S3 x3 r3=>hR _ _ (p qI s3 mv S3 ((x.trans x2).trans x3) r3)
  |exc c cH bU=>rw[hr] at p;exact p.elim
  |stuck=>rw[hr] at p;exact p.elim
inductive MO (a:Act)(it:Addr)(t:kR)(fb:MS)(s0:Shared)(mY:dW)(Q:Flow->Shared->Prop)(E:iN)(k:Nat)(s:Shared):Prop
 |mk (vs:List V) (fr:eY) (U:bw) (Z:dW):k=vs.length->St Z U s->FS a fr Z s.heap->cF a.D mY s0.heap Z s.heap->it∉bH Z->de Z s.heap it vs->fO a mY s0 (dJ t fb vs fr U) Q E->MO a it t fb s0 mY Q E k s
theorem Kh {kj:Expr}{t:kR}(ht:yD n sc kj t)(hb:cf n sc body fb)(ok:b9 n a)(bJ:a.env.scope=sc)(it:Addr)(s0:Shared)(mY:dW)(QY:s0.heap.get? it=none)(mK:W.h₀.get? it=none){Q:Flow->Shared->Prop}(hR :∀f s',Q f s'->R (.ok f) s'){wG:List V}(S1:St cG xX s1)(F1:FS a Ft cG s1.heap)(x1:cF a.D mY s0.heap cG s1.heap)(A7:it∉bH cG)(I1:de cG s1.heap it wG)(p:fO a mY s0 (dJ t fb wG Ft xX) Q E) :
  codeAny bS a.A (.forLoop kj (.ref it) body [] a.env) R s1:=by
 refine codeAny_forLoop_any (MO a it t fb s0 mY Q E) ?_ wG.length ⟨wG,Ft,xX,cG,rfl,S1,F1,x1,A7,I1,p⟩;rintro k s ⟨vs,fr,U,Z,rfl,S,F,x,hn,I,p⟩
 cases vs with
 |nil=>
  exact sv ok.hand I λh' sd=>wpAny_execs_nil (hR _ _ (p Z _ (S.side (tk:=s.toks) sd mK) (x.side (λb o dg e=>sd.same b o dg e) QY) (F.side sd)))
 |cons v vs=>
  refine pv I λh' tk mv I' sd rv=>?_;have x':cF a.D mY s0.heap Z h':=x.side (λb o dg e=>sd.same b o dg e) QY;obtain⟨oi,QZ,_⟩:=I'.fields;exact I'.lets (CB ht hb ok bJ (S.side (tk:=tk) sd mK) (F.side sd) x' rv hR p λcH bU qI s3 S3 F3 x3 p=>⟨vs.length,Nat.lt_succ_self _,vs,cH,bU,qI,rfl,S3,F3,x'.trans x3,x3.eM QZ hn,I'.ext hn x3,p⟩)
theorem cN {kj it:Expr}{t:kR}(ht:yD n sc kj t)(hi:pg n sc it fi)(hb:cf n sc body fb)(hs :∀(env:Env) x,foldedSetIterable it env x=pure x):jT n sc (.For kj it body [] pos) (df t fi fb):=by
 intro a ok bJ Z U fr s S F Q E p;refine wpAny_For (hi.i9 ok bJ S F p λvs bq cG s1 V0 S1 F1 x1 h0 hn I p1=>?_) (hs _);have mK:W.h₀.get? V0=none:=by
  cases z:W.h₀.get? V0 with
  |none=>rfl
  |some o=>have:=S.heap.base _ _ z;replace this:=h0.symm.trans this;injection this
 exact Kh ht hb ok bJ V0 s Z h0 mK (λf s' h=>h) S1 F1 x1.of0 hn I p1
inductive CC (a:Act)(ft:ME Bool)(fb:MS)(s0:Shared)(mY:dW)(Q:Flow->Shared->Prop)(E:iN)(k:Nat)(s:Shared):Prop
 |mk (fr:eY) (U:bw) (Z:dW):St Z U s->FS a fr Z s.heap->cF a.D mY s0.heap Z s.heap->fO a mY s0 (sD ft fb k fr U) Q E->CC a ft fb s0 mY Q E k s
theorem oo {t:Expr}(k:Nat)(ht:jq n sc t ft)(hb:cf n sc body fb):jT n sc (.While t body [] pos) (A6 k ft fb):=by
 intro a ok bJ mY xX Ft s0 S0 F0 Q E p;refine wpAny_While (codeAny_whileLoop (CC a ft fb s0 mY Q E) ?_ k ⟨Ft,xX,mY,S0,F0,.refl ..,p⟩);rintro k s ⟨fr,U,Z,S,F,x,p⟩
 cases k with
 |zero=>exact p.elim
 |succ k=>
  rw[yF] at p;refine ht a ok bJ Z U fr s S F _ _ ?_
  cases hf:ft fr U with
  |exc c bq=>rw[hf] at p;exact p.elim
  |stuck=>rw[hf] at p;exact p.elim
  |ok b bq=>
   rw[hf] at p;intro cG s1 S1 x1;have F1:=F.ext x1;have To:=x.trans (x1.of0 (D:=a.D));clear S F x x1 hf
   cases b with
   |false=>exact wpAny_execs_nil (p cG s1 S1 To F1)
   |true=>
    refine hb a ok bJ cG bq fr s1 S1 F1 _ _ ?_;dsimp only at p
    cases hr:fb fr bq with
    |next cH bU=>rw[hr] at p;exact λqI s3 S3 x3 F3=>⟨k,Nat.lt_succ_self k,cH,bU,qI,S3,F3,To.trans x3,p⟩
    |brk cH bU=>rw[hr] at p;exact λqI s3 S3 x3 F3=>p qI s3 S3 (To.trans x3) F3
    |ret v bU=>rw[hr] at p;exact λqI s3 mv S3 x3 r3=>p qI s3 mv S3 (To.trans x3) r3
    |exc c cH bU=>rw[hr] at p;exact p.elim
    |stuck=>rw[hr] at p;exact p.elim
end
section
theorem DS {t:Addr}{items:Array Value}(dg:t≠it) :∀(n i:Nat) (s:Shared) (Q:List Value->Shared->Prop),s.heap.IsListIter it t i->s.heap.IsList t items->i+n<=items.size->
  (∀h',h'.IsListIter it t (i+n)->Heap.SameBut it s.heap h'->Q ((items.toList.drop i).take n) {s with heap:=h'})->wpAny (model prog w) A (draw (.ref it) n) Q E s:=by
 intro y
 induction y with
 |zero=>
  intro i s Q DT _ _ hQ;exact aw (by simpa using hQ s.heap DT (Heap.SameBut.refl ..))
 |succ n ih=>
  intro i s Q DT ht NR hQ;have eO:i<items.size:=Nat.lt_of_add_right_lt NR;refine wb (wpAny_pyNext_list_item DT ht (x:=items[i]) (by simp[eO]) λgb A8 fX=>?_);refine wb (cQ (ih (i+1) _ _ A8 (ht.extBut fX.extBut dg) (QA ⋯) λsE N5 kL=>aw ?_));have hd:items.toList.drop i=items[i]::items.toList.drop (i+1):=by simp[List.drop_eq_getElem_cons,eO]
  have:=hQ sE (rl (show i+(n+1)=i+1+n by exact Eq.symm (Nat.succ_add_eq_add_succ i n))<|N5) (fX.trans kL)
  rw[hd,List.take_succ_cons] at this;exact this
theorem pz {t:Addr}{items:Array Value}{Q:List Value->Shared->Prop}(hh:A.handled=none)(ht:s.heap.IsList t items)(hQ :∀h',Heap.ExtBut s.heap.objs.size s.heap h'->Q items.toList {s with heap:=h'}):wpAny (model prog w) A (unpackItems (.ref t) items.size none) Q E s:=by
 have eO:t≠s.heap.objs.size:=by obtain⟨o,ho,_⟩:=ht;exact Nat.ne_of_lt (cK ho)
 refine wb ?_
 .skip
  refine wb (wpAny_specialOf ht.typeIs slot_list_iter.lookup ?_);refine aw ?_;dsimp only[Bool.false_eq_true,if_false];refine wb (cQ (wpAny_pyIter_list ht ?_));refine aY (cQ (DS eO items.size 0 _ _ ⟨_,cD _ rfl,rfl,rfl⟩ (ht.push _) (by lia) λgb A8 fX=>?_));have rV:List.take items.size (List.drop 0 items.toList)=items.toList:=by
   exact rl List.drop_zero<|List.take_of_length_le (by simp)
  refine rl rV ?_;refine rl (av (by simp)) ?_;have Q0:gb.IsList t items:=(ht.push _).extBut fX.extBut eO;refine wb (cQ (wpAny_pyNext_list_end hh A8 Q0 (by simp) λsE Q1=>?_));dsimp only[Option.isSome_none,Bool.false_eq_true,if_false];refine aw (hQ sE λb o hb e=>Q1 b o hb (fX.extBut b o hb (bT _ e)))
end
noncomputable def Ki (v:V):Option (List V):=match v with |.list vs=>some vs |.tup vs=>some vs |_=>.none
def bp (is:List Nat):kR:=λv fr=>(Ki v).bind λvs=>if vs.length=is.length then some ((is.zip vs).foldl (λfr p=>aE fr p.1 p.2) fr) else none
def dZ (is:List Nat):kR:=λv fr=>(Ki v).bind λvs=>if vs.length=is.length then some ((is.reverse.zip vs.reverse).foldl (λfr p=>aE fr p.1 p.2) fr) else none
section
variable {D:List Addr}
theorem vq {Q:List Value->Shared->Prop}(ok:b9 n a)(S:St Z U s)(r:aH Z s.heap v mv)(e:Ki v=some vs)(hk:vs.length=k)(hQ :∀s' ms,St Z U s'->cF [] Z s.heap Z s'.heap->aD Z s'.heap vs ms->Q ms s'):wpAny bS a.A (unpackItems mv k none) Q E s:=by
 subst hk;have keep :∀h':Heap,Heap.ExtBut s.heap.objs.size s.heap h'->∀b o,s.heap.get? b=some o->h'.get? b=some o:=λh' x b o e=>x b o (Nat.ne_of_lt (cK e)) e
 cases r with
 |@list xs l o ms kk ho hc hd hn r=>
  injection (show some _=some _ from e) with e;subst e;have:xs.length=ms.size:=by refine rl r.length ?_;simp
  refine rl this<|pz ok.hand ⟨o,ho,hc,kk,hd⟩ λh' x=>?_
  obtain⟨S',x'⟩:=S.kept (tk:=s.toks) (keep h' x);exact hQ _ _ S' x' (r.mono x')
 |@tup xs l o ms kk ho hc hd hn r=>
  injection (show some _=some _ from e) with e;subst e;have:xs.length=ms.size:=by refine rl r.length ?_;simp
  refine rl this<|wpAny_unpackItems_tuple ok.hand ⟨o,ho,hc,kk,hd⟩ λh' x=>?_
  obtain⟨S',x'⟩:=S.kept (tk:=s.toks) (keep h' x);exact hQ _ _ S' x' (r.mono x')
 |_=>injection (show none=some _ from e)
noncomputable def mj (sc:Scope)(is:List Nat):Prop:=∀i∈is,i<W.nN/\gH sc (W.nm i)=true
noncomputable def gu (env:Env)(i:Nat)(st:Value->Sem Unit):Prop:=∀(A:Around) (E:iN) (mv:Value) (Q:Unit->Shared->Prop) (s:Shared),wpAny bS A (storeName env (W.nm i) mv) Q E s->wpAny bS A (st mv) Q E s
noncomputable def sF (n:Nat)(sc:Scope)(D:Act->List Addr)(i:Nat):Prop:=∀(a:Act),b9 n a->a.env.scope=sc->∀(Z:dW) (U:bw) (fr:eY) (s:Shared),St Z U s->FS a fr Z s.heap->∀(v:V) (mv:Value),aH Z s.heap v mv->
 ∀(Q:Unit->Shared->Prop) (E:iN),(∀s',St Z U s'->cF (D a) Z s.heap Z s'.heap->FS a (aE fr i v) Z s'.heap->Q () s')->wpAny bS a.A (storeName a.env (W.nm i) mv) Q E s
theorem mj.Yw (hN:mj sc is) :∀i∈is,sF n sc Act.D i:=λi hi _ ok bJ _ _ _ _ S F _ _ r _ _ k=>sA ok bJ S F (hN i hi).1 rfl (hN i hi).2 r k
theorem vt {D:Act->List Addr} :∀(is:List Nat) (N2:List (Value->Sem Unit)) (vs:List V) (ms:List Value) (fr:eY) (s:Shared),b9 n a->a.env.scope=sc->(∀i∈is,sF n sc D i)->d8 (gu a.env) is N2->vs.length=is.length->St Z U s->FS a fr Z s.heap->aD Z s.heap vs ms->
  ∀(Q:Unit->Shared->Prop),(∀s',St Z U s'->cF (D a) Z s.heap Z s'.heap->FS a ((is.zip vs).foldl (λfr p=>aE fr p.1 p.2) fr) Z s'.heap->Q () s')->wpAny bS a.A (assignInOrder N2 ms) Q E s:=by
 intro is
 induction is with
 |nil=>
  intro N2 vs ms fr s ok bJ hN hA hl S F r Q k
  cases hA;obtain rfl:=List.eq_nil_of_length_eq_zero hl;obtain rfl:=r.nil_inv;exact aw (k s S (.refl ..) F)
 |cons i is ih=>
  intro N2 vs ms fr s ok bJ hN hA hl S F r Q k
  cases hA with
  |cons Jw V1=>
  cases vs with
  |nil=>injection hl
  |cons v vs=>
  obtain⟨m,ms,rfl,r1,r2⟩:=r.cons_inv;refine wb (cQ (Jw _ _ m _ s (hN i (eG ..) a ok bJ Z U fr s S F v m r1 _ _ λs1 S1 x1 F1=>?_)));exact ih _ vs ms _ s1 ok bJ (λj hj=>hN j (fE _ hj)) V1 (Nat.succ.inj hl) S1 F1 (r2.mono x1) Q λs2 S2 x2 F2=>k s2 S2 (x1.trans x2) F2
theorem aG {x:Str}{p:Pos}(hx:W.nm i=x):gu env i (assign (.Name x p) env):=by
 intro A E mv Q s h;subst hx;exact wpAny_assign_Name h
theorem gu.bind {x:Str}(hx:W.nm i=x):gu env i (λv=>bindName env x v):=by
 intro A E mv Q s h;subst hx;exact wpAny_bindName h
theorem vu {D:Act->List Addr}{gI:List Expr}(hN :∀i∈is,sF n sc D i)(hA :∀env:Env,d8 (gu env) is ((assignEach gI env).map (·.2)))(yH :∀env:Env,(assignEach gI env).findIdx? (·.1)=none)(ok:b9 n a)(bJ:a.env.scope=sc)(S:St Z U s)(F:FS a fr Z s.heap)(r:aH Z s.heap v mv)(e:bp is v fr=some bC){Q:Unit->Shared->Prop}(k' :∀s',St Z U s'->cF (D a) Z s.heap Z s'.heap->FS a bC Z s'.heap->Q () s'):wpAny bS a.A (assign (.Tuple gI k pos) a.env mv) Q E s:=by
 refine aT e λvs hv e=>?_;refine di e λhl e=>?_;injection e with e;subst e;have hlen :(assignEach gI a.env).length=is.length:=by
  have:=(hA a.env).length
  simpa using this.symm
 rw[arm_assign_Tuple];refine wb (wpAny_standAt ?_);unfold unpack;refine rl (hlen ..)<|rl (yH ..)<|wb (cQ (vq ok S r hv hl λs1 ms S1 x1 r1=>?_))
 exact vt is _ vs ms fr s1 ok bJ hN (hA _) hl S1 (F.ext x1) r1 Q λs2 S2 x2 F2=>k' s2 S2 (x1.of0.trans x2) F2
theorem dK {gI:List Expr}(hN:mj sc is)(hA :∀env:Env,d8 (gu env) is ((assignEach gI env).map (·.2)))(yH :∀env:Env,(assignEach gI env).findIdx? (·.1)=none):yD n sc (.Tuple gI k pos) (bp is):=
 λ_ ok bJ _ _ _ _ S F _ _ _ r e _ _ k'=>vu (D:=Act.D) hN.Yw hA yH ok bJ S F r e k'
theorem gv {gI:List Expr}{e:Expr}{f:ME V}{t:kR}(ht:yD n sc (.Tuple gI k tp) t)(hf:cm n sc e f)(hs :∀env:Env,swapsWithSole [.Tuple gI k tp] e pos.line env=pure false)(hw :∀env:Env,env.scope=sc->swappedStores [.Tuple gI k tp] e env=pure none) :
  jT n sc (.Assign [.Tuple gI k tp] e pos) (cP t f):=by
 intro a ok bJ Z U fr s S F Q E p;refine Assign_Tuple (hf.i9 ok bJ S F p λv bq cG s1 mv S1 F1 x1 r1 p1=>?_) (hs _) (hw _ bJ)
 cases hm:t v fr with
 |none=>rw[hm] at p1;exact p1.elim
 |some bC=>
  rw[hm] at p1;exact ht a ok bJ cG bq fr s1 S1 F1 v mv bC r1 hm _ _ λs' S' x' F'=>p1 cG s' S' x' F'
theorem aD.reverse (r:aD Z h vs ms):aD Z h vs.reverse ms.reverse:=by
 have key :∀{vs:List V} {ms:List Value},aD Z h vs ms->∀{us:List V} {ns:List Value},aD Z h us ns->aD Z h (vs.reverseAux us) (ms.reverseAux ns):=by
  intro vs
  induction vs with
  |nil=>intro ms r us ns q;cases r;exact q
  |cons v vs ih=>intro ms r us ns q;cases r with |cons a b=>exact ih b (.cons a q)
 exact key r .nil
theorem dE {gI:List Expr}{e:Expr}{f:ME V}(hf:cm n sc e f)(hN:mj sc is)(hs :∀env:Env,swapsWithSole [.Tuple gI k tp] e pos.line env=pure false)(hw :∀env:Env,env.scope=sc->swappedStores [.Tuple gI k tp] e env=pure (some (is.map W.nm))) :
  jT n sc (.Assign [.Tuple gI k tp] e pos) (cP (dZ is) f):=by
 intro a ok bJ Z U fr s S F Q E p;refine Assign_Tuple_swapped (names:=is.map W.nm) (hf.i9 ok bJ S F p λv bq cG s1 mv S1 F1 x1 r1 p1=>?_) (hs _) (hw _ bJ);unfold dZ at p1
 cases hv:Ki v with
 |none=>rw[hv] at p1;exact p1.elim
 |some vs=>
  rw[hv,Option.bind_some] at p1;by_cases hl:vs.length=is.length
  .rw[ay hl] at p1
   refine vq ok S1 r1 hv (by simpa using hl) λs2 ms S2 x2 r2=>?_;refine vt (n:=n) (D:=Act.D) is.reverse _ vs.reverse ms.reverse fr s2 ok bJ (λi hi=>mj.Yw hN i (List.mem_reverse.mp hi)) ?_ (by simpa using hl) S2 (F1.ext x2) r2.reverse _ λs3 S3 x3 F3=>p1 cG s3 S3 (x2.of0.trans x3) F3;refine rr List.map_reverse<|rl List.map_map ?_
   have :∀js:List Nat,d8 (gu a.env) js (js.map ((λn=>bindName a.env n)∘W.nm)):=by
    intro js
    induction js with
    |nil=>exact .nil
    |cons j js ih=>exact .cons (gu.bind rfl) ih
   exact this _
  .rw[av hl] at p1;exact p1.elim
end
noncomputable def jO (fr:eY)(dq:List Nat):eY:=fr.filter λp=>dq.contains p.1
theorem ko (e :(jO fr dq).lookup j=some v):j∈dq/\fr.lookup j=some v:=by
 induction fr with
 |nil=>simp[jO] at e
 |cons p fr ih=>
  obtain⟨k,u⟩:=p;unfold jO at e;rw[List.filter_cons] at e;by_cases hk:dq.contains k=true
  .simp only[hk,if_true,List.lookup_cons] at e ⊢
   by_cases hj:j=k
   .subst hj;simp at e;subst e;exact⟨by simpa using hk,by simp⟩
   .simp only[beq_eq_false_iff_ne.mpr hj] at e ⊢;exact ih e
  .simp only[hk,Bool.false_eq_true,if_false] at e
   have:=ih e;refine⟨this.1,?_⟩;refine List.lookup_cons.trans ?_;have hj:j≠k:=λz=>hk (by simpa [z] using this.1);exact rl (beq_eq_false_iff_ne.mpr hj)<|this.2
noncomputable def N6:Res Y->Res Y
 |.ok a U=>.ok a U
 |_=>.stuck
noncomputable def Jx:Value->Shared->Prop:=λ_ _=>False
noncomputable def fz (t:kR)(test:Option (ME Bool))(iw:ME V)(jD:eY):List V->bw->List V->Res (List V)
 |[],U,bh=>.ok bh U
 |v::vs,U,bh=>match t v jD with
  |none=>.stuck
  |some cA=>(N6 (match test with |none=>Res.ok true U |some tt=>tt cA U)).andThen λb bq=>
   if b then (if cE bh.length then (N6 (iw cA bq)).andThen λu bU=>fz t test iw jD vs bU (bh++[u]) else .stuck)
   else fz t test iw jD vs bq bh
theorem yI {t:kR}:fz t test iw jD (v::vs) U bh=match t v jD with
 |none=>.stuck
 |some cA=>(N6 (match test with |none=>Res.ok true U |some tt=>tt cA U)).andThen λb bq=>
  if b then (if cE bh.length then (N6 (iw cA bq)).andThen λu bU=>fz t test iw jD vs bU (bh++[u]) else .stuck)
  else fz t test iw jD vs bq bh:=rfl
def bQ (dq:List Nat)(t:kR)(fi:ME (List V))(test:Option (ME Bool))(iw:ME V):ME V:=λfr U=>(fi fr U).andThen λvs bq=>(fz t test iw (jO fr dq) vs bq []).andThen λus bU=>.ok (.list us) bU
noncomputable def iP (fj sc:Scope):Scope:={fj with names:=fj.names.map λ(n,k)=>if (k == .free&&sc.kind == .function&&sc.names.lookup n == some .cell) then (n,.cell) else (n,k)}
noncomputable def jX (cells:List (Str×Addr)):List (Str×NameKind)->List (Str×Addr)->List (Str×Addr)
 |[],bh=>bh
 |x::r,bh=>jX cells r (if x.2 == .free then (x.1,(cells.lookup x.1).getD 0)::bh else bh)
structure jY (fj sc:Scope)(dq:List Nat):Prop where
 kind:fj.kind=.function
 locals :∀x∈fj.names,x.2=.local->fj.names.lookup x.1=some .local
 sG :∀x∈fj.names,x.2≠.cell
 nodup :(fj.names.map (·.1)).Nodup
 free :∀x∈fj.names,x.2=.free->sc.names.lookup x.1=some .cell
 dq :∀j∈dq,(W.nm j,NameKind.free)∈fj.names/\(iP fj sc).names.lookup (W.nm j)=some .cell
theorem A9 :∀(names:List (Str×NameKind)) (bh:List (Str×Addr)),(∀x∈names,x.2=.free->∃c,env.cells.lookup x.1=some c)->
  (forIn names bh λx cs=>if x.2 == NameKind.free then do let a <- cellOf env x.1;pure (ForInStep.yield ((x.1,a)::cs)) else (pure (ForInStep.yield cs):Sem (ForInStep (List (Str×Addr)))))=pure (jX env.cells names bh):=by
 intro y
 induction y with
 |nil=>
  intro bh _;exact rfl
 |cons x r ih=>
  intro bh h;refine rl (List.forIn_cons ..) ?_;have hr:=λy hy=>h y (fE _ hy);by_cases hx:x.2=.free
  .obtain⟨c,hc⟩:=h x (eG ..) hx
   have hb :(x.2 == NameKind.free)=true:=rl hx rfl;have h1:cellOf env x.1=pure c:=by unfold cellOf;exact rl hc rfl
   simp only[hb,if_true,h1,pure_bind];refine(ih _ hr).trans ?_;show _=pure (jX env.cells r (if x.2 == .free then _ else bh));exact rl hb<|rl (ay rfl)<|rl hc rfl
  .have hb :(x.2 == NameKind.free)=false:=by simpa using hx
   simp only[hb,Bool.false_eq_true,if_false,pure_bind];refine(ih _ hr).trans ?_;show _=pure (jX env.cells r (if x.2 == .free then _ else bh));exact rl hb rfl
theorem jG (h :∀x∈fj.names,x.2=.free->∃c,env.cells.lookup x.1=some c):closureFor fj env=pure (jX env.cells fj.names []):=by
 exact(aP (· >>= λcs=>pure cs) (A9 fj.names [] h)).trans (by simp)
theorem sH {cells:List (Str×Addr)} :∀{names:List (Str×NameKind)} {bh:List (Str×Addr)} {x:Str} {c:Addr},(x,c)∈jX cells names bh->(x,c)∈bh\/((x,NameKind.free)∈names/\c =(cells.lookup x).getD 0):=by
 intro y
 induction y with
 |nil=>
  intro _ _ _ h;exact .inl h
 |cons y r ih=>
  intro bh x c h;rcases ih h with h|⟨h1,h2⟩
  .by_cases hy :(y.2 == NameKind.free)=true
   .rw[ay hy] at h
    rcases b8 h with h |h
    .injection h with e1 e2
     refine .inr ⟨?_,by refine e2.trans ?_;exact rl e1 rfl⟩;have:y.2=.free:=by simpa using hy
     exact rl e1<|rr this<|eG ..
    .exact .inl h
   .rw[av hy] at h;exact .inl h
  .exact .inr ⟨fE _ h1,h2⟩
theorem Gv {cells:List (Str×Addr)} :∀{names:List (Str×NameKind)} {bh:List (Str×Addr)} {x:Str},((∃c,(x,c)∈bh)\/(x,NameKind.free)∈names)->∃c,(x,c)∈jX cells names bh:=by
 intro y
 induction y with
 |nil=>
  intro _ _ h;exact h.elim id λz=>nomatch z
 |cons y r ih=>
  intro bh x h;refine ih ?_;rcases h with ⟨c,h⟩ |h
  .left
   by_cases hy :(y.2 == NameKind.free)=true
   .exact rl (ay hy)<|⟨c,fE _ h⟩
   .exact rl (av hy)<|⟨c,h⟩
  .rcases b8 h with h |h
   .left;subst h;exact⟨(cells.lookup x).getD 0,by simp⟩
   .exact .inr h
theorem mL {l:List (Str×Addr)}{x:Str}{c:Addr}(h :(x,c)∈l) :∃d,l.lookup x=some d:=by
 induction l with
 |nil=>cases h
 |cons p l ih=>
  obtain⟨y,d⟩:=p;refine rl List.lookup_cons ?_;by_cases hx:x=y
  .exact⟨d,by simp[hx]⟩
  .refine rl (beq_eq_false_iff_ne.mpr hx) ?_
   rcases b8 h with h |h
   .injection h with e1 _;exact absurd e1 hx
   .exact ih h
theorem lA {cells:List (Str×Addr)}{names:List (Str×NameKind)}{x:Str}(h :(x,NameKind.free)∈names) :(jX cells names []).lookup x=some ((cells.lookup x).getD 0):=by
 obtain⟨c,hc⟩:=Gv (cells:=cells) (bh:=[]) (.inr h);obtain⟨d,hd⟩:=mL hc;refine hd.trans ?_;rcases sH (mem_of_lookup hd) with h|⟨_,h⟩
 .cases h
 .exact rl h rfl
theorem sI {cells:List (Str×Addr)} :∀{names:List (Str×NameKind)} {bh:List (Str×Addr)},(names.map (·.1)).Nodup->bh.Pairwise (λx y=>x.1≠y.1)->(∀x∈bh,x.1∉names.map (·.1))->
  (jX cells names bh).Pairwise λx y=>x.1≠y.1:=by
 intro y
 induction y with
 |nil=>
  intro _ _ h _;exact h
 |cons y r ih=>
  intro bh hn h hd;rw[List.map_cons,List.nodup_cons] at hn;have Kf :∀x∈bh,x.1∉r.map (·.1):=λx hx z=>hd x hx (fE _ z);refine ih hn.2 ?_ ?_
  .by_cases hy :(y.2 == NameKind.free)=true
   .rw[ay hy,List.pairwise_cons]
    exact⟨λx hx z=>hd x hx (by refine rr z ?_;simp),h⟩
   .exact rl (av hy)<|h
  .by_cases hy :(y.2 == NameKind.free)=true
   .refine rl (ay hy) ?_
    intro x hx;rcases b8 hx with rfl |hx
    .exact hn.1
    .exact Kf x hx
   .exact rl (av hy)<|Kf
theorem vv {cells:List (Str×Addr)}(h:cells.Pairwise λx y=>x.2≠y.2){x y:Str×Addr}(hx:x∈cells)(hy:y∈cells)(dg:x.1≠y.1):x.2≠y.2:=by
 induction cells with
 |nil=>cases hx
 |cons p l ih=>
  rw[List.pairwise_cons] at h;rcases b8 hx with ex |hx <;> rcases b8 hy with ey |hy
  .exact absurd (rl ex<|rl ey rfl) dg
  .exact rl ex<|h.1 _ hy
  .exact rl ey <| (h.1 _ hx).symm
  .exact ih h.2 hx hy
noncomputable def dW.hide (Z:dW)(d:Addr):dW:=⟨Z.objs,d::Z.eE⟩
noncomputable def dW.un (Z:dW)(H:List Addr):dW:=⟨Z.objs,H⟩
section
variable {D:List Addr}
theorem lB {b:Addr}:b∈bH (Z.hide d)↔b=d\/b∈bH Z:=by
 simp only[cC,dW.hide,List.mem_cons];constructor
 .rintro(h |h |h)
  .exact .inr (.inl h)
  .exact .inl h
  .exact .inr (.inr h)
 .rintro(h |h |h)
  .exact .inr (.inl h)
  .exact .inl h
  .exact .inr (.inr h)
theorem hV.hide (k :∀b o,h.get? b=some o->h'.get? b=some o)(hd:h.get? d=none):hV Z h (Z.hide d) h':=
 ⟨λ_ _ e=>e,λb o e _ _=>k b o e,λb o e hn hm=>by
  rcases lB.mp hm with z |z
  .rw[z] at e;replace e:=hd.symm.trans e;injection e
  .exact hn z⟩
theorem gP.hide (S:gP Z U h)(k :∀b o,h.get? b=some o->h'.get? b=some o)(hd:h.get? d=none)(hl :∃ob,h'.get? d=some ob/\ob.cls=.type "list"):gP (Z.hide d) U h':=by
 have k7:d∉bH Z:=λhm=>by obtain⟨ob,e,_⟩:=S.gL hm;replace e:=hd.symm.trans e;injection e
 refine⟨λb o e=>k _ _ (S.base b o e),S.ok,λa ha=>?_,λa ha=>?_,?_,S.len,λi o p e e'=>?_⟩
 .rcases lB.mp ha with rfl |ha
  .cases z:W.h₀.get? a with
   |none=>rfl
   |some o=>have:=S.base _ _ z;replace this:=hd.symm.trans this;injection this
  .exact S.fresh a ha
 .rcases b8 ha with rfl |ha
  .exact hl
  .obtain⟨ob,e,c⟩:=S.qG a ha;exact⟨ob,k _ _ e,c⟩
 .have hn:=S.nodup
  unfold bH at hn ⊢;rw[List.nodup_append] at hn ⊢;obtain⟨n1,n2,n3⟩:=hn;rw[cC,not_or] at k7;refine⟨n1,List.nodup_cons.mpr ⟨k7.2,n2⟩,λx hx y hy=>?_⟩;rcases b8 hy with rfl |hy
  .exact λz=>k7.1 (z▸hx)
  .exact n3 x hx y hy
 .exact(S.objs i o p e e').mono (hV.hide k hd) (λob z=>k _ _ z) λob z _=>⟨ob.slots,k _ _ z⟩
theorem w6 (hh:Z.eE=d::H){b:Addr}(hm:b∈bH (Z.un H)):b∈bH Z:=by
 rw[cC] at hm ⊢;exact rl hh<|hm.imp id λz=>fE _ z
theorem N7 (hh:Z.eE=d::H){b:Addr}:b∈bH Z↔b=d\/b∈bH (Z.un H):=by
 refine cC.trans ?_;rw[cC,hh,List.mem_cons];constructor
 .rintro(h |h |h)
  .exact .inr (.inl h)
  .exact .inl h
  .exact .inr (.inr h)
 .rintro(h |h |h)
  .exact .inr (.inl h)
  .exact .inl h
  .exact .inr (.inr h)
theorem gP.un (S:gP Z U h)(hh:Z.eE=d::H):gP (Z.un H) U h:=by
 have vm:hV Z h (Z.un H) h:=⟨λ_ _ e=>e,λ_ _ e _ _=>e,λb o e hn hm=>hn (w6 hh hm)⟩;refine⟨S.base,S.ok,λa ha=>S.fresh a (w6 hh ha),λa ha=>S.qG a (rl hh<|fE _ ha),?_,S.len,λi o p e e'=>(S.objs i o p e e').mono vm (λob z=>z) λob z _=>⟨ob.slots,z⟩⟩
 have hn:=S.nodup;unfold bH at hn ⊢;rw[hh] at hn;rw[List.nodup_append] at hn ⊢;obtain⟨n1,n2,n3⟩:=hn;exact⟨n1,(List.nodup_cons.mp n2).2,λx hx y hy=>n3 x hx y (fE _ hy)⟩
theorem aD.un (hh:Z.eE=d::H)(r:aD Z h vs ms):aD (Z.un H) h vs ms:=
 r.eN (show hV Z h (Z.un H) h from⟨λ_ _ e=>e,λ_ _ e _ _=>e,λb o e hn hm=>hn (w6 hh hm)⟩)
theorem cF.un (x:cF D Z h bK h')(hh:Z.eE=d::H):cF D (Z.un H) h (bK.un H) h':=by
 have dg :∀b,b∉bH (Z.un H)->b≠d->b∉bH Z:=λb hb hd hm=>by
  rcases (N7 hh).mp hm with z |z
  .exact hd z
  .exact hb z
 refine⟨x.more,rfl,λa ha o e=>x.held a (rl hh<|fE _ ha) o e,x.live,λb o e hb q=>?_,λb o e hb hD q=>?_,λb o e hb q=>?_⟩
 .by_cases hd:b=d
  .exact x.held b (rl hh<|rl hd<|eG ..) o e
  .exact x.keep b o e (dg b hb hd) q
 .by_cases hd:b=d
  .exact⟨o.slots,x.held b (rl hh<|rl hd<|eG ..) o e⟩
  .exact x.slot b o e (dg b hb hd) hD q
 .by_cases hd:b=d
  .exact⟨o,x.held b (rl hh<|rl hd<|eG ..) o e,q⟩
  .exact x.soft b o e (dg b hb hd) q
theorem cF.drop (x:cF D Z h bK h')(hd :∀b o,h.get? b=some o->b∈D->b∈D'):cF D' Z h bK h':=
 ⟨x.more,x.eE,x.held,x.live,x.keep,λb o e hb q s=>x.slot b o e hb (λz=>q (hd b o e z)) s,x.soft⟩
structure lC (d:Addr)(Z:dW)(h h':Heap):Prop where
 same:Heap.SameBut d h h'
 mem:d∈Z.eE
 Tj :∃o,h.get? d=some o/\o.cls=.type "list"/\bI o=false
 is :∃o,h'.get? d=some o/\o.cls=.type "list"
theorem lC.jQ (x:lC d Z h h'):hV Z h Z h':=
 ⟨λ_ _ e=>e,λb o e hn _=>SameBut.get x.same e λz=>hn (cC.mpr (.inr (z▸x.mem))),λ_ _ _ hn=>hn⟩
theorem lC.soft {b:Addr}(x:lC d Z h h')(e:h.get? b=some o)(q:bI o=true):h'.get? b=some o:=SameBut.get x.same e λz=>by
 obtain⟨o',e',_,q'⟩:=x.Tj;rw[z] at e;replace e:=e'.symm.trans e;injection e with e;subst e;replace q:=q'.symm.trans q;injection q
theorem gP.grown (S:gP Z U h)(x:lC d Z h h'):gP Z U h':=by
 have hm:d∈bH Z:=cC.mpr (.inr x.mem);refine⟨λb o e=>SameBut.get x.same (S.base b o e) λz=>S.mZ e (z▸hm),S.ok,S.fresh,λa ha=>?_,S.nodup,S.len,λi o p e e'=>?_⟩
 .by_cases hz:a=d
  .exact rl hz<|x.is
  .obtain⟨ob,e,c⟩:=S.qG a ha;exact⟨ob,SameBut.get x.same e hz,c⟩
 .have ro:=S.objs i o p e e'
  refine ro.mono x.jQ (λob z=>SameBut.get x.same z λy=>S.gM e' (y▸x.mem)) λob z zs=>⟨ob.slots,SameBut.get x.same z λy=>?_⟩
  cases o with
  |list vs=>exact S.gM e' (ro.1▸y▸x.mem)
  |dict k az=>exact S.gM e' (ro.1▸y▸x.mem)
  |inst c fs=>
   obtain⟨⟨sl,e1⟩,_⟩:=ro;obtain⟨o',e2,c2,_⟩:=x.Tj;rw[y,e2] at e1;injection e1 with e1;subst e1;injection c2
theorem FS.grown (F:FS a fr Z h)(x:lC d Z h h'):FS a fr Z h':=F.carry (.of (λb o e q n=>⟨n,o.slots,x.soft e q⟩) λ_ _ r=>r.eN x.jQ)
theorem FS.sub (F:FS a fr Z h)(k :∀j u,bC.lookup j=some u->fr.lookup j=some u):FS a bC Z h:=by
 refine ct λG hG=>?_;obtain⟨m,hm,hv⟩:=F.ns;refine hG ?_;exact⟨F.live,⟨m,hm,λi v e=>hv i v (k i v e)⟩,F.o8,F.u7,F.cells,F.apart,F.laid⟩
theorem pg.bind {e:Expr}{f:ME (List V)}(hE:pg n sc e f)(ok:b9 n a)(bJ:a.env.scope=sc)(S:St Z U s)(F:FS a fr Z s.heap){k:List V->bw->Res β}(p:cb a Z s ((f fr U).andThen k) K E)(h :∀vs bq cG s1 it,St cG bq s1->FS a fr cG s1.heap->cF [] Z s.heap cG s1.heap->s.heap.get? it=none->it∉bH cG->de cG s1.heap it vs->cb a Z s (k vs bq) K E->Q (.ref it) s1) :
  wpAny bS a.A (eval e a.env) (λx s1=>wpAny bS a.A (pyIter x) Q E s1) E s:=by
 refine hE a ok bJ Z U fr s S F Q E ?_
 cases hf:f fr U with
 |ok v bq=>rw[hf] at p;exact λcG s1 S1 x1 it h0 hn hI=>h v bq cG s1 it S1 (F.ext x1) x1 h0 hn hI p
 |exc c bq=>rw[hf] at p;exact p
 |stuck=>rw[hf] at p;exact p
noncomputable def vw (n:Nat)(sc:Scope)(kj:Expr)(t:kR):Prop:=
 ∀(a:Act),b9 n a->a.env.scope=sc->∀(Z:dW) (U:bw) (fr:eY) (s:Shared),St Z U s->FS a fr Z s.heap->∀(v:V) (mv:Value) (bC:eY),aH Z s.heap v mv->t v fr=some bC->
  ∀(Q:Unit->Shared->Prop) (E:iN),(∀s',St Z U s'->cF [a.env.locals] Z s.heap Z s'.heap->FS a bC Z s'.heap->Q () s')->wpAny bS a.A (assign kj a.env mv) Q E s
theorem cj {x:Str}(hi:i<W.nN)(hx:W.nm i=x)(hk:sc.names.lookup x=some .local):vw n sc (.Name x pos) (aA i):=by
 intro a ok bJ Z U fr s S F v mv bC r e Q E k;refine ct λG hG=>?_;injection e with e;subst e;refine hG ?_;exact wpAny_assign_Name (iG ok.kind bJ S F hi hx hk r k)
noncomputable def lD (t:kR)(dq:List Nat):Prop:=∀fr v cA,t v (jO fr dq)=some cA->∀j u,(jO fr dq).lookup j=some u->cA.lookup j=some u
theorem bu (h:i∉dq):lD (aA i) dq:=by
 intro fr v cA e j u hj;injection e with e;subst e;have dg:j≠i:=λz=>h (rr z <| (ko hj).1)
 exact rl (aV ..)<|rl (av dg)<|hj
theorem gw {gI:List Expr}(hN :∀i∈is,i<W.nN/\sc.names.lookup (W.nm i)=some .local)(hA :∀env:Env,d8 (gu env) is ((assignEach gI env).map (·.2)))(yH :∀env:Env,(assignEach gI env).findIdx? (·.1)=none):vw n sc (.Tuple gI k pos) (bp is):=
 λ_ ok bJ _ _ _ _ S F _ _ _ r e _ _ k'=>vu (D:=λa=>[a.env.locals]) (λi hi _ ok bJ _ _ _ _ S F _ _ r _ _ k=>iG ok.kind bJ S F (hN i hi).1 rfl (hN i hi).2 r k) hA yH ok bJ S F r e k'
theorem DU :∀(ps:List (Nat×V)) (fr:eY),(∀p∈ps,p.1≠j)->(ps.foldl (λfr p=>aE fr p.1 p.2) fr).lookup j=fr.lookup j:=by
 intro y
 induction y with
 |nil=>
  intro _ _;exact rfl
 |cons p ps ih=>
  intro fr h;exact(ih _ λq hq=>h q (.tail _ hq)).trans (by rw[aV,av (Ne.symm (h p (.head _)))])
theorem eI (h :∀i∈is,i∉dq):lD (bp is) dq:=by
 intro fr v cA e j u hj;refine aT e λvs hv e=>?_
 split at e
 case isFalse=>injection e
 injection e with e;subst e;refine(DU _ _ λp hp z=>h p.1 (List.of_mem_zip hp).1 (z▸(ko hj).1)).trans ?_;exact hj
theorem DV (x:de Z s.heap it vs)(hq:Q (.ref it) s):wpAny bS A (pyIter (.ref it)) Q E s:=by
 cases x with
 |list hi=>exact wpAny_pyIter_listiter hi hq
 |tup hi=>exact wpAny_pyIter_tupleiter hi hq
 |range hi=>exact wpAny_pyIter_rangeiter hi hq
 |str hi=>exact wpAny_pyIter_striter_ascii hi hq
 |rev hi=>exact wpAny_pyIter_revIter hi hq
 |su hi=>exact og hi hq
end
section
variable {D:List Addr}
noncomputable def N8 (l:List Env)(c:Nat)(Z:dW)(U:bw)(s:Shared)(e:Addr)(B:Heap):Prop:=p8 l c Z U s e B\/AH l c Z U s e B
theorem Gw {D:List Addr}{Q:Unit->Shared->Prop}(ok:b9 n a)(hf:env.frame=a.env.frame)(t:N8 a.l c Z U s e B)(x:gY D F mY h0 Z B s.heap)(k :∀s',AH a.l c Z U s' e B->gY D F mY h0 Z B s'.heap->s.heap.UpToSlots s'.heap->Q () s'):wpAny bS a.A (noteFrame (.ref e) env) Q E s:=by
 obtain⟨fe,mG,L,hl,DW,hL⟩:=ok.head;have Ba:a.A.frames=some (fe::mG):=rr hl<|ok.frames
 have MP:noteFrame (.ref e) env=noteFrame (.ref e) fe:=by
  unfold noteFrame PySem.frameOf;exact rl hf<|rl hL<|rl DW rfl
 rcases t with ⟨g,o,S,a0,R⟩|⟨g,o,S,Q2,Gx,L',a0,Fv,vx,R⟩
 .refine rl MP ?_
  rw[hl] at R;refine wpAny_looks_onW Ba DW R λh' H up=>?_;exact k _ ⟨g,o,S,fe,mG,L,a0,hl,DW,rl hl<|H⟩ (x.up up H.1) up
 .replace Fv:=hl.symm.trans Fv
  refine ct λG hG=>?_;injection Fv with e1 e2;subst e1 e2;replace vx:=DW.symm.trans vx;injection vx with vx;subst vx;refine hG ?_;exact rl MP<|wpAny_noteFrame_againW DW R.2.2.2 (k s ⟨g,o,S,fe,mG,L,a0,hl,DW,R⟩ x (.refl _))
end
section
variable {D:List Addr}
theorem hV.but {C:Addr}(hs:Heap.SameBut C h h')(hq :∀o,h.get? C=some o->bI o=true):hV Z h Z h':=
 ⟨λ_ _ e=>e,λb o e _ q=>SameBut.get hs e λz=>(by replace q:=(hq o (z▸e)).symm.trans q;injection q),λ_ _ _ hn=>hn⟩
theorem gP.but {C:Addr}(S:gP Z U h)(hC:C∉bH Z)(hb:W.h₀.get? C=none)(hq :∀o,h.get? C=some o->bI o=true)(hs:Heap.SameBut C h h'):gP Z U h':=by
 refine⟨λb o e=>SameBut.get hs (S.base b o e) λz=>(by rw[z] at e;replace e:=hb.symm.trans e;injection e),S.ok,S.fresh,λb Kj=>?_,S.nodup,S.len,λi o p e e'=>?_⟩
 .obtain⟨ob,e,c⟩:=S.qG b Kj
  exact⟨ob,SameBut.get hs e λz=>hC (cC.mpr (.inr (z▸Kj))),c⟩
 .refine(S.objs i o p e e').mono (hV.but hs hq) (λob z=>SameBut.get hs z λy=>hC (y▸eB e')) λob z zs=>⟨ob.slots,SameBut.get hs z λy=>?_⟩
  replace zs:=(hq ob (y▸z)).symm.trans zs;injection zs
theorem Bb {C dd:Addr}{m:Str->Option Value}(ok:b9 n a)(sa:jY fj a.env.scope dq)(S:gP Z U h)(F:FS a fr Z h)(k :∀b o,h.get? b=some o->h'.get? b=some o)(hC:h.get? C=none)(hd:h.get? dd=none)(hCd:C≠dd)(hN:h'.Ns C m) :
  FS ⟨a.A,compEnvC fj (jX a.env.cells fj.names []) C a.env,a.l⟩ (jO fr dq) (Z.hide dd) h':=by
 have vm:hV Z h (Z.hide dd) h':=hV.hide k hd;have Tp:C∉bH (Z.hide dd):=λhm=>by
  rcases lB.mp hm with z |z
  .exact hCd z
  .obtain⟨ob,e,_⟩:=S.gL z;replace e:=hC.symm.trans e;injection e
 have N9 :∀x,(x,NameKind.free)∈fj.names->∃c,a.env.cells.lookup x=some c:=λx hx=>F.laid x (sa.free _ hx rfl);have sJ :∀x c,(x,c)∈jX a.env.cells fj.names []->(x,c)∈a.env.cells:=λx c hm=>by
  rcases sH hm with z|⟨z1,z2⟩
  .cases z
  .obtain⟨c',ML⟩:=N9 x z1
   rw[ML] at z2;exact rl z2<|mem_of_lookup ML
 refine⟨λe he=>?_,⟨m,hN,λj v e=>?_⟩,Tp,?_,λx c hx=>?_,?_,λx hx=>?_⟩
 .obtain⟨kk,L,o,hf,hn,hb,ho,hs⟩:=F.live e he
  exact⟨kk,L,o,hf,vm.eM _ _ ho hn,hb,k _ _ ho,hs⟩
 .obtain⟨hj,hl⟩:=ko e
  refine ct λG hG=>?_;obtain⟨Q3,V2⟩:=sa.dq j hj;obtain⟨_,_,hv⟩:=F.ns;obtain⟨hi,rv⟩:=hv j v hl;refine hG ?_;refine⟨hi,?_⟩;have hk:a.env.kindOf (W.nm j)=some .cell:=sa.free _ Q3 rfl;unfold iD at rv ⊢;refine ct λG hG=>?_;rw[hk] at rv;obtain⟨c,mv,e1,e2,e3⟩:=rv;have Gy :(compEnvC fj (jX a.env.cells fj.names []) C a.env).kindOf (W.nm j)=some .cell:=V2;refine hG ?_;refine rl Gy<|⟨c,mv,?_,?_,e3.eN vm⟩
  .refine(lA Q3).trans ?_;exact rl e1 rfl
  .obtain⟨o,ho,hd⟩:=e2
   exact⟨o,k _ _ ho,hd⟩
 .cases z:W.h₀.get? C with
  |none=>exact z
  |some o=>have:=S.base _ _ z;replace this:=hC.symm.trans this;injection this
 .obtain⟨c1,c2,v,o,ho,Oa⟩:=F.cells x c (sJ x c hx)
  exact⟨vm.eM _ _ ho c1,c2,v,o,k _ _ ho,Oa⟩
 .have h1:=sI (cells:=a.env.cells) (bh:=[]) sa.nodup .nil (by simp)
  exact List.Pairwise.imp_of_mem (λ{x y} hx hy dg=>vv F.apart (sJ x.1 x.2 hx) (sJ y.1 y.2 hy) dg) h1
 .have Kg :(iP fj a.env.scope).names.lookup x=some .cell:=hx
  refine ct λG hG=>?_;have hm :(x,NameKind.cell)∈(iP fj a.env.scope).names:=mem_of_lookup Kg;obtain⟨y,hy,ey⟩:=dz hm;obtain⟨yn,yk⟩:=y;simp only at ey;refine hG ?_;by_cases hc :(yk == NameKind.free&&a.env.scope.kind == .function&&a.env.scope.names.lookup yn == some .cell)=true
  .replace ey:=(ay hc).symm.trans ey
   refine ct λG hG=>?_;simp only[Bool.and_eq_true] at hc;have V3:yk=.free:=by simpa using hc.1.1
   injection ey with e1 _;subst e1 V3;refine hG ?_;exact⟨_,lA hy⟩
  .replace ey:=(av hc).symm.trans ey
   refine ct λG hG=>?_;injection ey with e1 e2;refine hG ?_;exact absurd e2 (sa.sG _ hy)
theorem Kk {dd:Addr}(e:cG.eE=H) :(cG.hide dd).un H=cG:=by
 refine ct λG hG=>?_;obtain⟨o,hd⟩:=cG;refine hG ?_;simp only[dW.hide,dW.un] at e ⊢;rw[e]
noncomputable def w7 (n:Nat)(sc:Scope)(test:Option (ME Bool))(qc:List Expr):Prop:=match test,qc with
 |none,[]=>True
 |some tt,[c]=>jq n sc c tt
 |_,_=>False
structure CompEnd (a:Act)(Z:dW)(s:Shared)(C dd:Addr)(f9:dW)(us:List V)(bB:bw)(s':Shared)(items:Array Value)(nn:Nat):Prop where
 eE:f9.eE=dd::Z.eE
 st:St f9 bB s'
 apart:C∉bH f9
 base:W.h₀.get? C=none
 ns :∃m,s'.heap.Ns C m
 DX:s.heap.get? C=none
 ne:dd≠C
 newD:s.heap.get? dd=none
 at_:s'.heap.get? dd=some ⟨.type "list",none,.seq items nn,#[]⟩
 ef:aD f9 s'.heap us items.toList
 ext:cF [C] Z s.heap (f9.un Z.eE) s'.heap
def yJ (a:Act)(fj:Scope)(C:Addr):Env:=compEnvC fj (jX a.env.cells fj.names []) C a.env
def DY (a:Act)(fj:Scope)(C:Addr):Act:=⟨a.A,yJ a fj C,a.l⟩
set_option genInjectivity false in
set_option genSizeOfSpec false in
structure g9 where
 a:Act
 Z:dW
 s:Shared
 fj:Scope
 C:Addr
 dd:Addr
 it:Addr
 jD:eY
 t:kR
 test:Option (ME Bool)
 fe:ME V
 K:List V×bw->dW->Shared->Prop
 E:Value->Shared->Prop
noncomputable def g9.post (X:g9)(vs:List V)(U:bw)(bh:List V):Prop:=cb X.a X.Z X.s ((fz X.t X.test X.fe X.jD vs U bh).andThen λus bU=>.ok (us,bU) bU) X.K X.E
structure Ob (X:g9)(vs:List V)(U:bw)(f9:dW)(bh:List V)(items:Array Value)(nn:Nat)(s':Shared):Prop where
 hh:f9.eE=X.dd::X.Z.eE
 S:St f9 U s'
 F:FS (DY X.a X.fj X.C) X.jD f9 s'.heap
 xx:cF [X.C] X.Z X.s.heap (f9.un X.Z.eE) s'.heap
 hn:X.it∉bH f9
 I:de f9 s'.heap X.it vs
 hD:s'.heap.get? X.dd=some ⟨.type "list",none,.seq items nn,#[]⟩
 r:aD f9 s'.heap bh items.toList
 p:X.post vs U bh
noncomputable def oq (X:g9)(k:Nat)(s':Shared):Prop:=∃vs U f9 bh items nn,k=vs.length/\Ob X vs U f9 bh items nn s'
noncomputable def sL (X:g9)(n:Nat)(s':Shared):Prop:=∃m,m<n/\oq X m s'
structure rg (n:Nat)(X:g9)(iw kj:Expr)(qc:List Expr):Prop where
 ok:b9 n X.a
 Q4:b9 n (DY X.a X.fj X.C)
 V4:X.s.heap.get? X.C=none
 Tq:X.s.heap.get? X.dd=none
 Kl:W.h₀.get? X.it=none
 h0:X.s.heap.get? X.it=none
 Oc:X.dd≠X.C
 ht:vw n (iP X.fj X.a.env.scope) kj X.t
 CD :∀v cA,X.t v X.jD=some cA->∀j u,X.jD.lookup j=some u->cA.lookup j=some u
 jt:w7 n (iP X.fj X.a.env.scope) X.test qc
 he:cm n (iP X.fj X.a.env.scope) iw X.fe
section
variable {X:g9}{iw kj:Expr}{qc:List Expr}
structure pA (X:g9)(cA:eY)(yK:dW)(x7:bw)(vs bh:List V)(items:Array Value)(nn:Nat)(s4:Shared):Prop where
 hh:yK.eE=X.dd::X.Z.eE
 S:St yK x7 s4
 F:FS (DY X.a X.fj X.C) cA yK s4.heap
 xx:cF [X.C] X.Z X.s.heap (yK.un X.Z.eE) s4.heap
 hn:X.it∉bH yK
 I:de yK s4.heap X.it vs
 hD:s4.heap.get? X.dd=some ⟨.type "list",none,.seq items nn,#[]⟩
 r:aD yK s4.heap bh items.toList
theorem pA.ext {yK Gz:dW}{x7 GA:bw}{items:Array Value}{s4 s5:Shared}(c:pA X cA yK x7 vs bh items nn s4)(S:St Gz GA s5)(x:cF [] yK s4.heap Gz s5.heap):pA X cA Gz GA vs bh items nn s5:=by
 refine ct λG hG=>?_;have V5:X.dd∈yK.eE:=rl c.hh<|eG ..
 obtain⟨oi,QZ,_⟩:=c.I.fields;refine hG ?_;exact⟨x.eE.trans c.hh,S,c.F.ext x,c.xx.trans ((x.un c.hh).of0),x.eM QZ c.hn,c.I.ext c.hn x,x.held _ V5 _ c.hD,c.r.mono x⟩
theorem GB (H:rg n X iw kj qc){Gz:dW}{items:Array Value}{s5:Shared}(hf:X.t v X.jD=some cA)(c:pA X cA Gz bB vs bh items nn s5)(ru:aH Gz s5.heap u mu)(hz:cE bh.length=true)(p:X.post vs bB (bh++[u])):wpAny bS X.a.A (call (.builtin "list.append") [.ref X.dd,mu]) (λ_ s=>sL X (v::vs).length s) Jx s5:=by
 have V6:X.dd∈Gz.eE:=rl c.hh<|eG ..
 have hsz:bh.length=items.size:=by refine c.r.length.trans ?_;simp
 refine call_meets PySem.F.slot_list_append ⟨_,c.hD,rfl⟩ PySem.F.entry_list_append (PySem.F.args_list_append_2 _ _) (list_append _ items nn mu (rr hsz<|dn hz)) ⟨c.hD,?_⟩
 have Yx:=IsL.update c.hD (λxs=>xs.push mu);have gr:lC X.dd Gz s5.heap (s5.heap.update X.dd (Obj.mapSeq λxs=>xs.push mu)):=⟨dP ..,V6,⟨_,c.hD,rfl,rfl⟩,⟨_,Yx,rfl⟩⟩;refine⟨vs.length,Nat.lt_succ_self _,vs,bB,Gz,bh++[u],items.push mu,_,rfl,c.hh,St.mk (c.S.heap.grown gr) c.S.gens c.S.os,(c.F.grown gr).sub (H.CD v cA hf),c.xx.side (λb o dg e=>SameBut.get gr.same e dg) H.Tq,c.hn,c.I.vm c.hn gr.jQ,Yx,?_,p⟩;have:=(c.r.eN gr.jQ).append (.cons (ru.eN gr.jQ) .nil)
 simpa using this
theorem vy (H:rg n X iw kj qc){yK:dW}{x7:bw}{items:Array Value}{s4:Shared}(hf:X.t v X.jD=some cA)(c:pA X cA yK x7 vs bh items nn s4)(p:cb X.a X.Z X.s ((if b then (if cE bh.length then (N6 (X.fe cA x7)).andThen λu bU=>fz X.t X.test X.fe X.jD vs bU (bh++[u]) else .stuck) else fz X.t X.test X.fe X.jD vs x7 bh).andThen λus bU=>.ok (us,bU) bU) X.K X.E) :
  if b=true then wpAny bS X.a.A (eval iw (yJ X.a X.fj X.C)) (λx yL=>wpAny bS X.a.A (call (.builtin "list.append") [.ref X.dd,x]) (λ_ Km=>sL X (v::vs).length Km) Jx yL) Jx s4
  else sL X (v::vs).length s4:=by
 cases b with
 |false=>
  rw[av (by decide)];simp only[Bool.false_eq_true,if_false] at p;exact⟨vs.length,Nat.lt_succ_self _,vs,x7,yK,bh,items,nn,rfl,c.hh,c.S,c.F.sub (H.CD v cA hf),c.xx,c.hn,c.I,c.hD,c.r,p⟩
 |true=>
  rw[ay rfl];simp only[if_true] at p;by_cases hz:cE bh.length=true
  .rw[ay hz] at p
   refine H.he (DY X.a X.fj X.C) H.Q4 rfl yK x7 cA s4 c.S c.F _ _ ?_
   cases hr:X.fe cA x7 with
   |stuck=>rw[hr] at p;exact p.elim
   |exc k bB=>rw[hr] at p;exact p.elim
   |ok u bB=>
    rw[hr] at p;exact λGz s5 S5 x5 mu ru=>GB H hf (c.ext S5 x5) ru hz p
  .rw[av hz] at p;exact p.elim
noncomputable def yM (X:g9)(iw kj:Expr)(qc:List Expr)(fin:Shared->Prop)(k:Nat)(r:Option Value)(fS:Shared):Prop:=match r with
 |none=>fin fS
 |some v=>wpAny bS X.a.A (letOwnedTupleGo kj (.ref X.it) v) (λ_ Q5=>wpAny bS X.a.A (PySem.assign kj (yJ X.a X.fj X.C) v) (λ_ yG=>
  wpAny bS X.a.A (forIn qc true λc r=>if r=true then do let ok <- isTrue c (yJ X.a X.fj X.C) (eval c (yJ X.a X.fj X.C));pure (ForInStep.yield ok) else pure (ForInStep.yield r)) (λok pw=>
   if ok=true then wpAny bS X.a.A (eval iw (yJ X.a X.fj X.C)) (λx yL=>wpAny bS X.a.A (call (.builtin "list.append") [.ref X.dd,x]) (λ_ Km=>sL X k Km) Jx yL) Jx pw
   else sL X k pw) Jx yG) Jx Q5) Jx fS
theorem DZ {iter:Expr}(V7 :∀n s,oq X n s->wpAny bS X.a.A (pyNext (.ref X.it)) (yM X iw kj qc (R (.ok .next)) n) Jx s)(n:Nat)(h:oq X n s):codeAny bS X.a.A (.compLoop (.ListComp iw [⟨kj,iter,qc,0⟩] X.fj pos) 0 (.ref X.it) (.ref X.dd) (yJ X.a X.fj X.C)) R s:=by
 refine codeAny_loop rfl (oq X) (λn s hI=>?_) n h;refine wpAny_noted ?_;refine rl (compTurn_list ..)<|wb (wpAny_standAt (wb (cB (V7 n s hI) (λr fS gb=>?_) λ_ _ z=>z.elim)))
 cases r with
 |none=>exact aw gb
 |some v=>
  refine wb (cB gb (λ_ s1 h1=>wb (cB h1 (λ_ yG sE=>wb (cB sE (λok pw ng=>?_) λ_ _ z=>z.elim)) λ_ _ z=>z.elim)) λ_ _ z=>z.elim)
  cases ok with
  |false=>exact aw ⟨rfl,ng⟩
  |true=>exact wb (wb (cB ng (λx yL Bc=>wb (cB Bc (λ_ Km qN=>aw (aw ⟨rfl,qN⟩)) λ_ _ z=>z.elim)) λ_ _ z=>z.elim))
theorem D0 (H:rg n X iw kj qc){fin:Shared->Prop}(hG :∀f9 us bB s' items nn,CompEnd X.a X.Z X.s X.C X.dd f9 us bB s' items nn->cb X.a X.Z X.s (.ok (us,bB) bB) X.K X.E->fin s')(k:Nat)(s':Shared)(h:oq X k s') :
  wpAny bS X.a.A (pyNext (.ref X.it)) (yM X iw kj qc fin k) Jx s':=by
 obtain⟨vs,U,f9,bh,items,nn,rfl,hh,S,FC,x4,hn,I,hD,r,p⟩:=h;revert p;cases vs with
 |nil=>
  intro p;refine sv H.ok.hand I λh' sd=>?_;have F':=FC.side sd;obtain⟨m,hm,_⟩:=F'.ns;exact hG f9 bh U {s' with heap:=h'} items nn ⟨hh,S.side (tk:=s'.toks) sd H.Kl,F'.o8,F'.u7,⟨m,hm⟩,H.V4,H.Oc,H.Tq,sd.get hD (dR rfl),r.side sd,x4.side (λb o dg e=>sd.same b o dg e) H.h0⟩ p
 |cons v vs=>
  intro p;refine pv I λh' tk mv I' sd rv=>?_;unfold g9.post at p;rw[yI] at p
  cases hf:X.t v X.jD with
  |none=>rw[hf] at p;exact p.elim
  |some cA=>
  rw[hf] at p;simp only at p;refine I'.lets (H.ht (DY X.a X.fj X.C) H.Q4 rfl f9 U X.jD _ (S.side (tk:=tk) sd H.Kl) (FC.side sd) v mv cA rv hf _ _ λs3 S3 x3 F3=>?_);have V5:X.dd∈f9.eE:=rl hh<|eG ..
  have c3:pA X cA f9 U vs bh items nn s3:=⟨hh,S3,F3,(x4.side (λb o dg e=>sd.same b o dg e) H.h0).trans (x3.un hh),hn,I'.ext hn x3,x3.held _ V5 _ (sd.get hD (dR rfl)),(r.side sd).mono x3⟩;have V8 :∀{Y:Type} (r:Res Y) (f:Y->bw->Res (List V)),(r.andThen f).andThen (λus bU=>Res.ok (us,bU) bU)=r.andThen λx U=>(f x U).andThen λus bU=>.ok (us,bU) bU:=by
   intro Y r f;cases r <;> rfl
  rw[V8] at p;have jt:=H.jt
  cases Tr:X.test with
  |none=>
   rw[Tr] at jt p
   cases qc with
   |nil=>exact wpAny_tests_nil (vy H (b:=true) hf c3 (rl Tr<|p))
   |cons c cs=>exact jt.elim
  |some tt=>
   rw[Tr] at jt p
   cases qc with
   |nil=>exact jt.elim
   |cons c cs=>
    revert p;cases cs with
    |cons _ _=>intro p;exact jt.elim
    |nil=>
     intro p;refine wpAny_tests_one (jt (DY X.a X.fj X.C) H.Q4 rfl f9 U cA s3 S3 F3 _ _ ?_)
     cases hr:tt cA U with
     |stuck=>simp only[hr] at p;exact p.elim
     |exc c bB=>simp only[hr] at p;exact p.elim
     |ok b bB=>simp only[hr] at p;exact λyK s4 S4 x4=>vy H (b:=b) hf (c3.ext S4 x4) (rl Tr<|p)
end
theorem vz {iw iter kj:Expr}{qc:List Expr}{t:kR}{Q:iN}{K:List V×bw->dW->Shared->Prop}{G:Value->Addr->Shared->Prop}(sa:jY fj a.env.scope dq)(ht:vw n (iP fj a.env.scope) kj t)(CD:lD t dq)(jt:w7 n (iP fj a.env.scope) test qc)(he:cm n (iP fj a.env.scope) iw fe)(ok:b9 n a)(S:St Z U s)(F:FS a fr Z s.heap)(S1:St cG bq s1)(F1:FS a fr cG s1.heap)(x1:cF [] Z s.heap cG s1.heap)(h0:s.heap.get? it=none)(A7:it∉bH cG)(I1:de cG s1.heap it vs)(p1:cb a Z s ((fz t test fe (jO fr dq) vs bq []).andThen λus bU=>.ok (us,bU) bU) K E)(hG :∀C dd f9 us bB s' items nn,CompEnd a Z s C dd f9 us bB s' items nn->cb a Z s (.ok (us,bB) bB) K E->G (.ref dd) C s') :
  wpAny bS a.A (newList []) (λbh pw=>wpAny bS a.A (newFunctionEnv fj a.env.globals (jX a.env.cells fj.names []) [] a.env.qual none .none (some a.env)) (λKn yL=>
   codeAny bS a.A (.compStart (.ListComp iw [⟨kj,iter,qc,0⟩] fj pos) 0 (.ref it) bh {Kn with scope:=relabel fj a.env}) (λr s'=>match r with
    |.ok _=>G bh Kn.locals s'
    |.error _=>False) yL) E pw) E s1:=by
 refine wpAny_newObj_type (wpAny_newFunctionEnv sa.sG (by intro y hy;simp at hy) (λgb w8 pB=>?_) sa.kind);dsimp only at w8 pB ⊢;generalize Ts:s1.heap.push {cls:=.type "list",dict:=none,data:=.seq ([]:List Value).toArray}=H2 at w8 pB ⊢;have hC:H2.objs.size=s1.heap.objs.size+1:=rr Ts<|rl (Heap.size_push ..) rfl
 have Oc:s1.heap.objs.size≠H2.objs.size:=rl hC<|Nat.ne_of_lt (Nat.lt_succ_self _)
 have hk :∀b o,s1.heap.get? b=some o->gb.get? b=some o:=λb o e=>
  pB.extBut b o (rl hC<|Nat.ne_of_lt (Nat.lt_succ_of_lt (cK e))) (bT _ (Ts▸bT _ e))
 have V9:gb.get? s1.heap.objs.size=some ⟨.type "list",none,.seq #[] 0,#[]⟩:=pB.extBut _ _ Oc (bT _ (Ts▸cD _ rfl));have nh:=iX s1.heap;have Bd:s1.heap.get? H2.objs.size=none:=by
  cases z:s1.heap.get? H2.objs.size with
  |none=>rfl
  |some o=>exact absurd (cK z) (rl hC<|Nat.not_lt.mpr (Nat.le_succ _))
 generalize hCC:H2.objs.size=C at w8 pB Oc Bd ⊢;generalize hDD:s1.heap.objs.size=dd at V9 nh Oc ⊢;clear pB Ts;have V4:s.heap.get? C=none:=by
  cases z:s.heap.get? C with
  |none=>rfl
  |some o=>obtain⟨o',e'⟩:=x1.live _ _ z;replace e':=Bd.symm.trans e';injection e'
 have Tq:s.heap.get? dd=none:=by
  cases z:s.heap.get? dd with
  |none=>rfl
  |some o=>obtain⟨o',e'⟩:=x1.live _ _ z;replace e':=nh.symm.trans e';injection e'
 have Kl:W.h₀.get? it=none:=by
  cases z:W.h₀.get? it with
  |none=>rfl
  |some o=>have:=S.heap.base _ _ z;replace this:=h0.symm.trans this;injection this
 have Q4:b9 n ⟨a.A,compEnvC fj (jX a.env.cells fj.names []) C a.env,a.l⟩:=⟨⟨ok.hand,ok.frames,ok.depth,ok.units⟩,ok.head,sa.kind,ok.glob,ok.blt⟩;have F2:=Bb ok sa S1.heap F1 hk Bd nh (Ne.symm Oc) w8;obtain⟨oit,Ko,_⟩:=I1.fields;have VT:it∉bH (cG.hide dd):=λhm=>by
  rcases lB.mp hm with z |z
  .rw[z] at Ko;replace Ko:=nh.symm.trans Ko;injection Ko
  .exact A7 z
 let X:g9:=⟨a,Z,s,fj,C,dd,it,jO fr dq,t,test,fe,K,E⟩
 have H:rg n X iw kj qc:=⟨ok,Q4,V4,Tq,Kl,h0,Oc,ht,CD fr,jt,he⟩;have Q6 :∀s4:Shared,s4.heap=gb->s4.gens=s1.gens->s4.os=s1.os->
   codeAny bS a.A (.compLoop (.ListComp iw [⟨kj,iter,qc,0⟩] fj pos) 0 (.ref it) (.ref dd) (yJ a fj C))
    (λr s'=>match r with |.ok _=>G (.ref dd) C s' |.error _=>False) s4:=λs4 Q7 hg4 ho4=>
  DZ (X:=X) (D0 H (hG C dd)) vs.length
   ⟨vs,bq,cG.hide dd,[],#[],0,rfl,rr x1.eE rfl,St.mk (rl Q7<|S1.heap.hide hk nh ⟨_,V9,rfl⟩) (hg4.trans S1.gens) (ho4.trans S1.os),rl Q7<|F2,
    by exact rl (Kk x1.eE)<|rl Q7<|x1.of0.trans (cF.of_keeps hk),VT,rl Q7<|I1.vm A7 (hV.hide hk nh),rl Q7<|V9,.nil,p1⟩
 exact codeAny_compStart_list (Q6 _ rfl rfl rfl) (DV (I1.vm A7 (hV.hide hk nh)) (Q6 _ rfl rfl rfl))
theorem CompEnd.fin {C dd:Addr}{items:Array Value}(c:CompEnd a Z s C dd f9 us bB s' items nn){Dy:Heap}(rh:Heap.SameBut C s'.heap Dy) :
  gP f9 bB Dy/\cF [] Z s.heap (f9.un Z.eE) Dy/\Dy.get? dd=some ⟨.type "list",none,.seq items nn,#[]⟩/\aD f9 Dy us items.toList:=by
 refine ct λG hG=>?_;obtain⟨m,hm⟩:=c.ns;obtain⟨oC,eC,qC⟩:=Ns.soft hm;have hq :∀o,s'.heap.get? C=some o->bI o=true:=λo e=>by rw[eC] at e;injection e with e;subst e;exact qC
 have Tt:=c.st.heap.but c.apart c.base hq rh;refine hG ?_;refine⟨Tt,(c.ext.side (λb o dg e=>SameBut.get rh e dg) c.DX).drop λb o e hm=>?_,SameBut.get rh c.at_ c.ne,c.ef.eN (hV.but rh hq)⟩;rw[dM hm,c.DX] at e;injection e
theorem pC {dd:Addr}(S:gP f9 U h)(hh:f9.eE=dd::H):dd∉bH (f9.un H):=by
 have nd:=S.nodup;unfold bH at nd;rw[hh] at nd;rw[List.nodup_append] at nd;intro hm;rcases cC.mp hm with z |z
 .exact nd.2.2 dd z dd (eG ..) rfl
 .exact(List.nodup_cons.mp nd.2.1).1 z
theorem cq {iw iter kj:Expr}{qc:List Expr}{t:kR}(hi:pg n sc iter fi)(sa:jY fj sc dq)(ht:vw n (iP fj sc) kj t)(CD:lD t dq)(jt:w7 n (iP fj sc) test qc)(he:cm n (iP fj sc) iw fe)(hs :∀(env:Env) x,foldedSetIterable iter env x=pure x) :
  cm n sc (.ListComp iw [⟨kj,iter,qc,0⟩] fj pos) (bQ dq t fi test fe):=by
 intro a ok bJ Z U fr s S F Q E p;subst bJ;have yN :∀x∈fj.names,x.2=.free->∃c,a.env.cells.lookup x.1=some c:=λx hx hk=>F.laid _ (sa.free x hx hk);refine rl (eval_ListComp ..)<|wpAny_comprehension_free (use:=none) (cl:=jX a.env.cells fj.names []) rfl (hs a.env) (jG yN) sa.kind sa.locals (hi.bind ok rfl S F p λvs bq cG s1 it S1 F1 x1 h0 A7 I1 p1=>?_)
 have p2:cb a Z s ((fz t test fe (jO fr dq) vs bq []).andThen λus bU=>.ok (us,bU) bU) (λu Z s=>KV Q (.list u.1) Z s) E:=by
  cases hr:fz t test fe (jO fr dq) vs bq [] with
  |ok us bB=>rw[hr] at p1;exact p1
  |exc c bB=>rw[hr] at p1;exact p1
  |stuck=>rw[hr] at p1;exact p1
 refine cB (vz (Q:=Q) (G:=λbh C s'=>∃m,s'.heap.Ns C m/\∀h',Heap.SameBut C s'.heap h'->Q bh {s' with heap:=h'}) sa ht CD jt he ok S F S1 F1 x1 h0 A7 I1 p2 λC dd f9 us bB s' items nn c q=>?_) (λbh pw ng=>cB ng (λKn yL Bc=>codeAny_mono Bc λr s' hr=>?_) λ_ _ h=>h) λ_ _ h=>h
 .obtain⟨m,hm⟩:=c.ns
  refine⟨m,hm,λDy rh=>?_⟩;obtain⟨Tt,X'',Wa,r''⟩:=c.fin rh;exact q (f9.un Z.eE) {s' with heap:=Dy} (St.mk (Tt.un c.eE) c.st.gens c.st.os) X'' _ (.list Wa rfl rfl (pC Tt c.eE) (r''.un c.eE))
 .cases r with
  |ok f=>exact hr
  |error x=>exact hr.elim
end
section
variable {D:List Addr}
theorem FS.but {C:Addr}(F0:FS a Ft mY h0)(hC:h0.get? C=none)(F:FS a fr Z h)(hs:Heap.SameBut C h h')(hq :∀o,h.get? C=some o->bI o=true):FS a fr Z h':=by
 have ne :∀b o,h0.get? b=some o->b≠C:=λb o e z=>by rw[z] at e;replace e:=hC.symm.trans e;injection e
 refine F.carry ⟨λb o hb e q n=>⟨n,o.slots,SameBut.get hs e ?_⟩,λb o hb e q n=>⟨n,o,SameBut.get hs e ?_,q⟩,λ_ _ r=>r.eN (hV.but hs hq)⟩
 .rcases hb with rfl|⟨x,hx⟩
  .exact let ⟨_,⟨_,_,_,e,_⟩,_⟩:=F0.ns;ne _ _ e
  .exact let ⟨_,_,_,_,e,_⟩:=F0.cells x b hx;ne _ _ e
 .obtain⟨e1,he,hf⟩:=List.mem_filterMap.mp hb
  exact let ⟨_,L,_,Yy,_,_,e,_⟩:=F0.live e1 he;Option.some.inj (Yy.symm.trans hf)▸ne L _ e
theorem gx {iw iter kj:Expr}{qc:List Expr}{t:kR}{y:Str}{py Q8:Pos}(hi:pg n sc iter fi)(sa:jY fj sc dq)(ht:vw n (iP fj sc) kj t)(CD:lD t dq)(jt:w7 n (iP fj sc) test qc)(he:cm n (iP fj sc) iw fe)(hs :∀(env:Env) x,foldedSetIterable iter env x=pure x)(hyi:i<W.nN)(hy:W.nm i=y)(V3:sc.names.lookup y=some .local)(Wb :∀env:Env,env.scope=sc->swapsWith (.ListComp iw [⟨kj,iter,qc,0⟩] fj pos) (some (.Name y py)) Q8.line env=pure true) :
  jT n sc (.Assign [.Name y py] (.ListComp iw [⟨kj,iter,qc,0⟩] fj pos) Q8) (aB (aA i) (bQ dq t fi test fe)):=by
 intro a ok bJ Z U fr s S F Q E p;refine ct λG hG=>?_;have Wc:=Wb a.env bJ;subst bJ;have yN :∀x∈fj.names,x.2=.free->∃c,a.env.cells.lookup x.1=some c:=λx hx hk=>F.laid _ (sa.free x hx hk);refine hG ?_;refine rl (exec_Assign_Name_used _ _ _ _ Wc)<|wb (wpAny_standAt (wb ?_))
 have p0:fO a Z s (cu fi (λvs fr bq=>match fz t test fe (jO fr dq) vs bq [] with |.ok us bB=>.next (aE fr i (.list us)) bB |.exc c bB=>.exc c fr bB |.stuck=>.stuck) fr U) Q E:=by
  unfold aB cu bQ aA at p;unfold cu
  cases hf:fi fr U with
  |stuck=>rw[hf] at p;exact p
  |exc c bB=>rw[hf] at p;exact p
  |ok vs bq=>
   rw[hf] at p;simp only[Res.andThen] at p ⊢
   cases hr:fz t test fe (jO fr dq) vs bq [] with
   |ok us bB=>simp only[hr] at p ⊢;exact p
   |exc c bB=>simp only[hr] at p ⊢;exact p
   |stuck=>simp only[hr] at p ⊢;exact p
 refine wb (cB (wpAny_comprehension_free (use:=some (PySem.assign (.Name y py) a.env)) (Q:=λ_ s'=>Q .next s') (cl:=jX a.env.cells fj.names []) rfl (hs a.env) (jG yN) sa.kind sa.locals
  (hi.i9 ok rfl S F p0 λvs bq cG s1 it S1 F1 x1 h0 A7 I1 p1=>?_)) (λ_ s' hq=>aw (aw hq)) λ_ _ e=>e)
 have p2:cb a Z s ((fz t test fe (jO fr dq) vs bq []).andThen λus bU=>.ok (us,bU) bU)
   (λu bK _=>∀s3,St bK u.2 s3->cF a.D Z s.heap bK s3.heap->FS a (aE fr i (.list u.1)) bK s3.heap->Q .next s3) E:=by
  cases hr:fz t test fe (jO fr dq) vs bq [] with
  |ok us bB=>
   rw[hr] at p1;exact λbK s' _ _ s3 S' x' F'=>p1 bK s3 S' x' F'
  |exc c bB=>rw[hr] at p1;exact λbK s' e B T x=>p1 bK s' e B (.inl T) x.of0 (F.ext (x.ext (T.elim (·.2.2.1) (·.2.2.1))))
  |stuck=>rw[hr] at p1;exact p1
 refine cB (vz (Q:=λ_ s'=>Q .next s') (G:=λbh C s'=>wpAny bS a.A (PySem.assign (.Name y py) a.env bh) (λ_ u9=>∃m,u9.heap.Ns C m/\∀h',Heap.SameBut C u9.heap h'->Q .next {u9 with heap:=h'}) E s') sa ht CD jt he ok S F S1 F1 x1 h0 A7 I1 p2
  λC dd f9 us bB s' items nn c q=>?_) (λbh pw ng=>cB ng (λKn yL Bc=>codeAny_mono Bc λr s' hr=>(by cases r with |ok f=>exact hr |error x=>exact hr.elim)) λ_ _ h=>h) λ_ _ h=>h
 refine ct λG hG=>?_;have x0:cF [] Z s.heap (f9.un Z.eE) s'.heap:=c.ext.drop λb o e hm=>by rw[dM hm,c.DX] at e;injection e
 have SU:St (f9.un Z.eE) bB s':=St.mk (c.st.heap.un c.eE) c.st.gens c.st.os;have FU:=F.ext x0;have rv:aH (f9.un Z.eE) s'.heap (.list us) (.ref dd):=.list c.at_ rfl rfl (pC c.st.heap c.eE) (c.ef.un c.eE);obtain⟨mC,hmC⟩:=c.ns;have Tp:C∉bH (f9.un Z.eE):=λhm=>c.apart (w6 c.eE hm);refine hG ?_;refine wpAny_assign_Name (iG ok.kind rfl SU FU hyi hy V3 rv λs2 S2 x2 F2=>?_);refine ct λG hG=>?_;obtain⟨m0,⟨oL,_,_,x8,_⟩,_⟩:=F.ns;have hCL:C≠a.env.locals:=λz=>by rw[<- z,c.DX] at x8;injection x8
 have Tu:s2.heap.Ns C mC:=by
  obtain⟨o,es,ep,ho,hd,r⟩:=hmC;obtain⟨sl,e⟩:=x2.slot _ _ ho Tp (by simpa using hCL) (aP eJ hd);exact⟨_,es,ep,e,hd,r⟩
 refine hG ?_;refine⟨mC,Tu,λh' rh=>?_⟩;refine ct λG hG=>?_;obtain⟨oC,eC,qC⟩:=Ns.soft Tu;have hq :∀o,s2.heap.get? C=some o->bI o=true:=λo e=>by rw[eC] at e;injection e with e;subst e;exact qC
 have x3:cF a.D Z s.heap (f9.un Z.eE) h':=(x0.of0.trans (x2.weaken (by simp[Act.D]))).side (λb o dg e=>SameBut.get rh e dg) c.DX;refine hG ?_;exact q (f9.un Z.eE) s' SU x0 {s2 with heap:=h'} (St.mk (S2.heap.but Tp c.base hq rh) S2.gens S2.os) x3 (F.but c.DX F2 rh hq)
end
noncomputable def dB (r:ur):Res V:=match r with
 |.next _ U=>.ok .none U |.ret v U=>.ok v U |.exc c _ U=>.exc c U |.brk _ _=>.stuck |.stuck=>.stuck
def cy (params:List Nat)(g:MS)(vs:List V)(U:bw):Res V:=if vs.length=params.length then dB (g (params.zip vs) U) else .stuck
theorem Be {kindOf:Str->Option NameKind}{x:Str} :∀(r:List (Str×Value)) (m:Str->Option Value),(∀y∈r,y.1≠x)->bindL kindOf r m x=m x:=by
 intro y
 induction y with
 |nil=>
  intro _ _;exact rfl
 |cons z0 r ih=>
  obtain⟨n,v⟩:=z0;intro m h;refine(ih _ λy hy=>h y (fE _ hy)).trans ?_;have hn:x≠n:=λz=>h (n,v) (eG ..) z.symm
  split
  .show(if x=n then some v else m x)=m x
   rw[av hn]
  .rfl
theorem Bf {kindOf:Str->Option NameKind}{x:Str} :∀(r:List (Str×Value)) (m:Str->Option Value),(∀y∈r,y.1≠x)->bindC kindOf r m x=m x:=by
 intro y
 induction y with
 |nil=>
  intro _ _;exact rfl
 |cons z0 r ih=>
  obtain⟨n,v⟩:=z0;intro m h;refine(ih _ λy hy=>h y (fE _ hy)).trans ?_;have hn:x≠n:=λz=>h (n,v) (eG ..) z.symm
  split
  .rfl
  .show(if x=n then some v else m x)=m x
   rw[av hn]
section
variable {D:List Addr}
theorem GC {kindOf:Str->Option NameKind} :∀{ps:List Nat} {vs:List V} {ms:List Value} {j:Nat} {v:V},aD Z h vs ms->ps.Nodup->(∀p∈ps,p<W.nN)->(ps.zip vs).lookup j=some v->
  ∃mv,aH Z h v mv/\j∈ps/\(kindOf (W.nm j)=some .local->∀m,bindL kindOf ((ps.map W.nm).zip ms) m (W.nm j)=some mv)/\(kindOf (W.nm j)≠some .local->∀m,bindC kindOf ((ps.map W.nm).zip ms) m (W.nm j)=some mv):=by
 intro ps
 induction ps with
 |nil=>intro vs ms j v _ _ _ e;simp at e
 |cons p ps ih=>
  intro vs ms j v r hn hp e;revert e;cases vs with
  |nil=>intro e;simp at e
  |cons u vs=>
  intro e;obtain⟨mu,ms,rfl,r1,r2⟩:=r.cons_inv;rw[List.nodup_cons] at hn;have AQ :∀q∈(ps.map W.nm).zip ms,q.1≠W.nm p:=λq hq z=>by
   have:=(List.of_mem_zip hq).1;obtain⟨i,hi,ei⟩:=dz this;replace ei:=ei.trans z;exact hn.1 (yi _ _ (hp i (fE _ hi)) (hp p (eG ..)) ei▸hi)
  rw[List.zip_cons_cons] at e;replace e:=List.lookup_cons.symm.trans e;by_cases hj:j=p
  .subst hj
   simp at e;subst e;refine⟨mu,r1,eG ..,λhk m=>?_,λhk m=>?_⟩
   .simp only[List.map_cons,List.zip_cons_cons]
    refine(Be _ _ AQ).trans ?_;rw[ay hk];simp
   .simp only[List.map_cons,List.zip_cons_cons]
    refine(Bf _ _ AQ).trans ?_;rw[av hk];simp
  .simp only[beq_eq_false_iff_ne.mpr hj] at e
   obtain⟨mv,h1,h2,h3,h4⟩:=ih r2 hn.2 (λq hq=>hp q (fE _ hq)) e;exact⟨mv,h1,fE _ h2,λhk m=>by simp only[List.map_cons,List.zip_cons_cons];exact h3 hk _,λhk m=>by simp only[List.map_cons,List.zip_cons_cons];exact h4 hk _⟩
theorem jH :∀{names:List (Str×NameKind)} {k:Nat} {bh:List (Str×Addr)} {x:Str},((∃c,(x,c)∈bh)\/(x,NameKind.cell)∈names)->∃c,(x,c)∈cellsFrom k names bh:=by
 intro y
 induction y with
 |nil=>
  intro _ _ _ h;exact h.elim id λz=>nomatch z
 |cons z0 r ih=>
  obtain⟨y,kd⟩:=z0;intro k bh x h;unfold cellsFrom;by_cases hy :(kd == NameKind.cell)=true
  .refine rl (ay hy)<|ih ?_
   rcases h with ⟨c,h⟩ |h
   .exact .inl ⟨c,fE _ h⟩
   .rcases b8 h with h |h
    .injection h with e1 _;left;exact⟨k,rl e1<|eG ..⟩
    .exact .inr h
  .refine rl (av hy)<|ih ?_
   rcases h with h |h
   .exact .inl h
   .rcases b8 h with h |h
    .injection h with _ e2;rw[<- e2] at hy;exact absurd rfl hy
    .exact .inr h
theorem qO :∀{names:List (Str×NameKind)} {k:Nat} {bh:List (Str×Addr)},(names.map (·.1)).Nodup->bh.Pairwise (λx y=>x.1≠y.1)->(∀x∈bh,x.1∉names.map (·.1))->
  (cellsFrom k names bh).Pairwise λx y=>x.1≠y.1:=by
 intro y
 induction y with
 |nil=>
  intro _ _ _ h _;exact h
 |cons z0 r ih=>
  obtain⟨y,kd⟩:=z0;intro k bh hn h hd;rw[List.map_cons,List.nodup_cons] at hn;have Kf :∀x∈bh,x.1∉r.map (·.1):=λx hx z=>hd x hx (fE _ z);unfold cellsFrom;by_cases hy :(kd == NameKind.cell)=true
  .rw[ay hy]
   refine ih hn.2 ?_ ?_
   .rw[List.pairwise_cons]
    exact⟨λx hx z=>hd x hx (by rw[<- z];simp),h⟩
   .intro x hx
    rcases b8 hx with rfl |hx
    .exact hn.1
    .exact Kf x hx
  .rw[av hy]
   exact ih hn.2 h Kf
theorem iM {l:List (Str×Addr)}(h:l.Pairwise λx y=>x.1≠y.1){x:Str}{c:Addr}(hm :(x,c)∈l):l.lookup x=some c:=by
 induction l with
 |nil=>cases hm
 |cons p l ih=>
  obtain⟨y,d⟩:=p;rw[List.pairwise_cons] at h;refine List.lookup_cons.trans ?_;rcases b8 hm with e |hm
  .injection e with e1 e2;subst e1 e2;simp
  .have:x≠y:=λz=>h.1 _ hm z.symm
   simp only[beq_eq_false_iff_ne.mpr this];exact ih h.2 hm
structure Od (fd:FuncData)(body:List Stmt)(sc:Scope)(params:List Nat):Prop where
 body:fd.body=.stmts body
 scope:fd.scope=sc
 globals:fd.globals=mainGlobals
 closure:fd.closure=[]
 builtins:fd.builtins=builtinsNs
 code:codeIn W.K fd.code fd.qualname=true
 co:sc.isCoroutine=false
 gen:sc.isGenerator=false
 kind:sc.kind=.function
 names :(sc.names.map (·.1)).Nodup
 small :∀p∈params,p<W.nN
 nodup:params.Nodup
 kinds :∀p∈params,gH sc (W.nm p)=true
 bind :∀ms:List Value,ms.length=params.length->∀(M:Model) (A:Around) (Q:List (Str×Value)->Shared->Prop) (E:iN) (s:Shared),Q ((params.map W.nm).zip ms) s->wpAny M A (bindArgs fd ⟨ms,[]⟩) Q E s
theorem lE {x:Str}(h:gH sc x=true):sc.names.lookup x=some .local\/sc.names.lookup x=some .cell:=by
 simpa [gH] using h
theorem yO (Ba :(A.deeper env).frames=some (env::l))(hB:env.frame=some env.locals)(T :(p8 (env::l) c bK bB s' e B\/AH (env::l) c bK bB s' e B)\/AI (env::l) c bK bB s' e B)(k :∀h',p8 l c bK bB {s' with heap:=h'} e B->B.StaysIn h'->s'.heap.UpToSlots h'->R (.error (.ref e)) {s' with heap:=h'}) :
  wpAny bS (A.deeper env) (leaving env (.ref e)) (λ_ u9=>R (.error (.ref e)) u9) (λVS u9=>R (.error VS) u9) s':=by
 rcases T with (⟨g1,o1,SB,a0,R1⟩|⟨g1,o1,SB,Q2,Gx,L',a0,Fv,vx,R1⟩)|⟨g1,o1,SB,oe,jN,a0,st,Q9,he,hc,GD,Oe,We,ff⟩
 .exact wpAny_leaves_onW Ba hB R1 λh' R' up=>k _ ⟨g1,o1,SB,a0,R'⟩ R'.1 up
 .injection Fv with e1 e2
  subst e1 e2;replace vx:=hB.symm.trans vx;injection vx with vx;subst vx;refine wb (wpAny_noteFrame_againW hB R1.2.2.2 (wpAny_landsW R1 λh' R' up=>?_));refine ct λG hG=>?_;obtain⟨k1,k2,⟨_,_,k3⟩,k4⟩:=R';refine hG ?_;exact k _ ⟨g1,o1,SB,a0,k1,k2,k3,k4⟩ k1 up
 .refine wpAny_leaving_firstW Ba ff hB he st Q9 GD Oe We λh' hL=>?_
  refine ct λG hG=>?_;obtain⟨k1,⟨_,_,k2⟩,k3,k4⟩:=hL;rw[hc] at k3;refine hG ?_;exact k _ ⟨g1,o1,SB,a0,k1,Q9,k2,k3⟩ k1 k4
theorem sM {f:Addr}(hf:W.K.lookup f=some o)(hd:o.data=.func fd)(H:Od fd body sc params)(room:rW (n+1) A l)(S:St Z U s)(L:iV l Z s.heap)(r:aD Z s.heap vs ms)(hlen:vs.length=params.length)(h :∀(env:Env) (s1:Shared),b9 n ⟨A.deeper env,env,env::l⟩->env.scope=sc->env.code=fd.code->env.frame=some env.locals->St Z U s1->FS ⟨A.deeper env,env,env::l⟩ (params.zip vs) Z s1.heap->cF [] Z s.heap Z s1.heap->
   (∀b o,s.heap.get? b=some o->b∉Act.D ⟨A.deeper env,env,env::l⟩)->(∀b o,s.heap.get? b=some o->(b∈nX (env::l)↔b∈nX l))->codeAny bS A (.func body env) R s1):codeAny bS A (.call (.ref f) ⟨ms,[]⟩) R s:=by
 have X:=S.heap.ok.X.keeps S.heap.base;have hms:ms.length=params.length:=by refine(Eq.symm (r.length)).trans ?_;exact hlen
 refine codeAny_call_function (by have:=room.depth;exact Nq this) (X _ _ hf) hd (rl H.scope<|H.co) (rl H.scope<|H.gen) H.body (codeRec_of X H.code) ?_
 refine rl H.closure<|H.bind ms hms _ _ _ _ _ ?_
 refine wpAny_newFunctionEnv_cells (rl H.scope<|H.kind) (λx hx=>?_) (λenv Bg s1 x1=>?_)
 .have PZ:=(List.of_mem_zip hx).1
  obtain⟨i,hi,ei⟩:=dz PZ;refine rl H.scope<|rr ei ?_
  rcases lE (H.kinds i hi) with h1 |h1
  .exact .inl h1
  .refine .inr ⟨h1,?_⟩
   obtain⟨c,hc⟩:=jH (k:=s.heap.objs.size+1) (bh:=[]) (.inr (mem_of_lookup h1));obtain⟨d,hd⟩:=mL hc;exact rl hd rfl
 .obtain⟨h1,tk,rfl⟩:=x1.toInCall.same
  have hk :∀b o,s.heap.get? b=some o->h1.get? b=some o:=x1.toInCall.keep;refine⟨S.heap.ok.T.nolimit.keeps λb o e=>hk _ _ (S.heap.base b o e),?_⟩;have nj:env.cells=cellsFrom (s.heap.objs.size+1) fd.scope.names []:=rl Bg rfl;have Kp:env.locals=s.heap.objs.size:=rl Bg rfl;have lF:env.scope=sc:=rl Bg<|H.scope
  have hB:env.frame=some env.locals:=rl Bg rfl;have Ra:env.globals=mainGlobals:=rl Bg<|H.globals
  have Wf:env.builtins=builtinsNs:=rl Bg<|H.builtins
  have Jy:s.heap.get? env.locals=none:=rl Kp<|iX _
  have sN :∀x c,(x,c)∈env.cells->s.heap.get? c=none:=λx c hx=>by
   have h2:=x1.above x c hx
   cases z:s.heap.get? c with
   |none=>rfl
   |some o=>exact absurd (cK z) (Nat.not_lt.mpr (Nat.le_of_lt (bO x1.toInCall.fresh h2)))
  have jZ :∀b,s.heap.get? b=none->b∉bH Z/\W.h₀.get? b=none:=λb hb=>by
   refine⟨λhm=>?_,?_⟩
   .obtain⟨ob,e,_⟩:=S.heap.gL hm;replace e:=hb.symm.trans e;injection e
   .cases z:W.h₀.get? b with
    |none=>rfl
    |some o=>have:=S.heap.base _ _ z;replace this:=hb.symm.trans this;injection this
  obtain⟨S1,e1⟩:=S.kept (tk:=tk) hk;have Yz:=x1.toInCall.ns;obtain⟨oL,eL,qL⟩:=Ns.soft Yz;have Bh:env.cells.Pairwise λx y=>x.1≠y.1:=by
   exact rl nj<|qO (rl H.scope<|H.names) .nil (by simp)
  have L1:iV (env::l) Z h1:=λe he=>by
   rcases b8 he with rfl |he
   .exact⟨by refine rl lF<|rl H.kind ?_;decide,e.locals,oL,hB,(jZ _ Jy).1,(jZ _ Jy).2,eL,qL⟩
   .obtain⟨k,L',o,hf,hn,hb,ho,hs⟩:=L e he
    exact⟨k,L',o,hf,hn,hb,hk _ _ ho,hs⟩
  have ok:b9 n ⟨A.deeper env,env,env::l⟩:=by
   refine⟨⟨?_,Around.frames_deeper room.frames,?_,?_⟩,⟨env,l,env.locals,rfl,hB,hB⟩,?_,Ra,Wf⟩
   .exact room.hand
   .have:=room.depth;refine(?_:A.depth+1+n<=990);exact QA ⋯
   .have:=room.units;refine(?_:A.units+3+40 * n+400<=cLine);exact Np this
   .skip
    exact rl lF<|H.kind
  have F1:FS ⟨A.deeper env,env,env::l⟩ (params.zip vs) Z h1:=by
   refine⟨L1,⟨_,Yz,λj v ej=>?_⟩,(jZ _ Jy).1,(jZ _ Jy).2,λx c hx=>?_,x1.apart,λx hx=>?_⟩
   .obtain⟨mv,rv,hj,k1,k2⟩:=GC (kindOf:=env.kindOf) (r.mono e1) H.nodup H.small ej
    refine⟨H.small j hj,?_⟩;unfold iD;rcases lE (H.kinds j hj) with h2 |h2
    .have Fu:env.kindOf (W.nm j)=some .local:=by rw[<- lF] at h2;exact h2
     exact rl Fu<|⟨mv,k1 Fu _,rv⟩
    .have Fu:env.kindOf (W.nm j)=some .cell:=by rw[<- lF] at h2;exact h2
     refine rl Fu ?_;obtain⟨c,hc⟩:=jH (k:=s.heap.objs.size+1) (bh:=[]) (.inr (mem_of_lookup h2));have hl:env.cells.lookup (W.nm j)=some c:=iM Bh (rl nj<|rl H.scope<|hc)
     refine⟨c,mv,hl,?_,rv⟩;have:=x1.cell _ c hl;rw[k2 (by refine rl Fu ?_;decide)] at this;exact this
   .have hl:=iM Bh hx
    exact⟨(jZ _ (sN x c hx)).1,(jZ _ (sN x c hx)).2,_,x1.cell _ c hl⟩
   .have Kg:sc.names.lookup x=some .cell:=rr lF<|hx
    obtain⟨c,hc⟩:=jH (k:=s.heap.objs.size+1) (bh:=[]) (.inr (mem_of_lookup Kg));exact⟨c,iM Bh (rl nj<|rl H.scope<|hc)⟩
  have newD :∀b o,s.heap.get? b=some o->b∉Act.D ⟨A.deeper env,env,env::l⟩:=λb o e hm=>by
   rw[Act.D,List.mem_cons,List.mem_map] at hm;rcases hm with rfl|⟨q,hq,rfl⟩
   .replace e:=Jy.symm.trans e;injection e
   .replace e:=(sN q.1 q.2 hq).symm.trans e;injection e
  have nk :∀b o,s.heap.get? b=some o->(b∈nX (env::l)↔b∈nX l):=λb o e=>by
   unfold nX;refine rl List.filterMap_cons<|rl hB<|List.mem_cons.trans ?_
   exact⟨λz=>z.elim (λy=>by rw[y] at e;replace e:=Jy.symm.trans e;injection e) id,.inr⟩
  exact h env _ ok lF (rl Bg rfl) hB S1 F1 e1 newD nk
theorem Kq {f:Addr}{g:MS}(hf:W.K.lookup f=some o)(hd:o.data=.func fd)(H:Od fd body sc params)(hb:cf n sc body g) :
  aZ (n+1) f (cy params g):=by
 intro A l room Z U s vs ms S L r R p;unfold cy at p;by_cases hlen:vs.length=params.length
 case neg=>rw[av hlen] at p;exact p.elim
 rw[ay hlen] at p;refine sM hf hd H room S L r hlen λenv s1 ok lF _ hB S1 F1 e1 newD nk=>?_;refine codeAny_func (hb ⟨A.deeper env,env,env::l⟩ ok lF Z U (params.zip vs) _ S1 F1 _ _ ?_)
 cases hr:g (params.zip vs) U with
 |stuck=>rw[hr] at p;exact p.elim
 |brk bC bB=>rw[hr] at p;exact p.elim
 |next bC bB=>rw[hr] at p;exact λbK s' S' x' F'=>p bK s' .none S' ((e1.of0.trans x').drop λb o e hm=>absurd hm (newD b o e)) .none
 |ret v bB=>rw[hr] at p;exact λbK s' mv S' x' r'=>p bK s' mv S' ((e1.of0.trans x').drop λb o e hm=>absurd hm (newD b o e)) r'
 |exc c bC bB=>
  rw[hr] at p;intro bK s' e B T x' F';have fin :∀h',B.StaysIn h'->s'.heap.UpToSlots h'->gY [] (nX l) Z s.heap bK B h':=λh' st up=>((x'.pre e1.of0).up up st).drop λb o e=>⟨λhm=>absurd hm (newD b o e),nk b o e⟩;exact yO (Around.frames_deeper room.frames) hB T λh' T' st up=>p bK _ e B T' (fin h' st up)
end
def bZ (g:List V->bw->Res V)(fs:List (ME V)):ME V:=(aS fs).bind λvs _ U=>g vs U
def ax (c m:Nat)(g:List V->bw->Res V)(fo:ME V)(fs:List (ME V)):ME V:=fo.bind λv fr U=>match ij U c v with
 |some (_,Wg)=>if (Wg.lookup m).isNone then ((aS fs).bind λvs _ U=>g (v::vs) U) fr U else .stuck
 |none=>.stuck
def sO (c:Nat)(g:List V->bw->Res V)(vs:List V)(U:bw):Res V:=(g (.ref U.length::vs) (U++[.inst c []])).andThen λv bB=>match v with |.none=>.ok (.ref U.length) bB |_=>.stuck
section
variable {D:List Addr}
theorem vA {f:Addr}(ok:b9 n a)(hg:aZ n f g)(S:St Z U s)(F:FS a fr Z s.heap)(r:aD Z s.heap vs ms)(p:bt a Z s (g vs U) Q E):wpAny bS a.A (call (.ref f) ms) Q E s:=by
 refine wpAny_call (hg a.A a.l ok.torW Z U s vs ms S F.live r _ ?_)
 cases hr:g vs U with
 |ok v bB=>rw[hr] at p;exact λbK s' mv S' x' r'=>p bK s' S' x' mv r'
 |exc c bB=>rw[hr] at p;exact λbK s' e B T x=>p bK s' e B (.inl T) x
 |stuck=>rw[hr] at p;exact p
theorem cx {x:Str}{es:List Expr}{f:Addr}(hs:gz n sc es (aS fs))(hp:dc pos es)(hg:aZ n f g)(hk:keepIn W.K (.ref f)=true)(hx:sc.names.lookup x=some .globalImplicit)(e:nsIn W.K mainGlobals x=some (some (.ref f)))(hd :(x ==("__debug__" : Str))=false) :
  cm n sc (.Call (.Name x np) es [] pos) (bZ g fs):=by
 intro a ok bJ Z U fr s S F Q E p;refine ct λG hG=>?_;subst bJ;refine hG ?_;refine Call_Name rfl (i4 ok S hx e hd ?_);refine callWith_of (P:=W.K.In) (rl (hp ..) rfl) (keeps_K hk) (c7 (hp _) (hs.bind ok rfl S F p λvs bU jo s2 ms S2 F2 x2 r2 p2=>⟨S.heap.ok.X.keeps S2.heap.base,?_⟩));exact vA ok hg S2 F2 r2 p2
structure GG (c:Nat)(x:Str)(f:Addr):Prop where
 find:findIn W.K (.ref (W.cls c)) x=some (some (.ref f))
 typ:typeIn W.K (.ref f)=some (.type "function")
 keep:keepIn W.K (.ref f)=true
theorem au {o:Expr}{x:Str}{es:List Expr}{fo:ME V}{f:Addr}{m:Nat}(ho:cm n sc o fo)(hs:gz n sc es (aS fs))(hp:dc pos es)(hg:aZ n f g)(hc:AL c)(hm:m<W.nN)(hx:W.nm m=x)(hf:GG c x f)(he :∀env:Env,∃pl:Sem Bool,eval (.Call (.Attribute o x Aq) es [] pos) env =(do
   let ov <- eval o env
   standAt Aq.atName
   let (f,first) <- holding [ov] (getMethod ov x pl)
   callWith pos f first (backTo pos (starEach es env)) [])) :
  cm n sc (.Call (.Attribute o x Aq) es [] pos) (ax c m g fo fs):=by
 intro a ok bJ Z U fr s S F Q E p;refine ct λG hG=>?_;obtain⟨pl,he⟩:=he a.env;refine hG ?_;refine MethodCall_ (pl:=pl) (ho.bind ok bJ S F p λv bq cG s1 mv S1 F1 x1 r1 p1=>?_) he;dsimp only at p1
 cases Gd:ij bq c v with
 |none=>rw[Gd] at p1;exact p1.elim
 |some q=>
  refine ct λG hG=>?_;obtain⟨j,Wg⟩:=q;rw[Gd] at p1;dsimp only at p1;refine hG ?_;by_cases hl :(Wg.lookup m).isNone=true
  .rw[ay hl] at p1
   refine ct λG hG=>?_;obtain⟨pp,rfl,Jz,uv,rfl,sl,od,ks,g1,g2,dd,al⟩:=wU S1.heap r1 Gd;have I:InstAt s1.heap pp.1 ⟨.ref (W.cls c),some pp.2,.plain,sl⟩ (W.cls c) (some od):=⟨g1,rfl,rfl,g2⟩;have Wh:=Gb hm al;rw[Option.isNone_iff_eq_none] at hl;rw[hl] at Wh;have hv:valueAt ks (W.nm m)=none:=by
    cases z:valueAt ks (W.nm m) with
    |none=>rfl
    |some _=>rw[z] at Wh;exact Wh.elim
   refine hG ?_;refine method_fn (S.heap.ok.X.keeps S1.heap.base) I (plainGet_of hc.2).1 (plainGet_of hc.2).2 hf.find hf.typ (by show(lookIn x od).map _=_;exact rl (vf dd)<|rr hx<|rl hv rfl) ?_
   refine callWith_of (P:=W.K.In) (rl (hp ..) rfl) (keeps_K hf.keep) (c7 (hp _) (hs.bind ok bJ S1 F1 p1 λvs bU jo s2 ms S2 F2 x2 r2 p2=>⟨S.heap.ok.X.keeps S2.heap.base,?_⟩));exact vA ok hg S2 F2 (.cons (r1.mono x2) r2) p2
  .rw[av hl] at p1;exact p1.elim
theorem GH {fI:Addr}(hm:makesIn W.K (W.cls c)=true)(hi:findIn W.K (.ref (W.cls c)) "__init__" = some (some (.ref fI)))(hf:typeIn W.K (.ref fI)=some (.type "function"))(hg:aZ n fI g) :
  aZ (n+1) (W.cls c) (sO c g):=by
 intro A l room Z U s vs ms S L r R p;refine ct λG hG=>?_;have X:=S.heap.ok.X.keeps S.heap.base;obtain⟨hh,gg,dr,tk,os⟩:=s;refine hG ?_;refine make_core (makes_of X hm) (looks_findIn X hi) (λself=>bind_fn X self hf) (.inl rfl) ?_;refine ct λG hG=>?_;have k :∀b o,hh.get? b=some o->((hh.push emptyDict).push (instObj (W.cls c) hh.objs.size)).get? b=some o:=λb o e=>bT _ (bT _ e);have hx :((hh.push emptyDict).push (instObj (W.cls c) hh.objs.size)).get? (hh.objs.size+1)=some (instObj (W.cls c) hh.objs.size):=by
  have:=cD (o:=instObj (W.cls c) hh.objs.size) (hh.push emptyDict) rfl
  rwa [Heap.size_push] at this
 have hd :((hh.push emptyDict).push (instObj (W.cls c) hh.objs.size)).get? hh.objs.size=some emptyDict:=bT _ (cD _ rfl);have dd :((hh.push emptyDict).push (instObj (W.cls c) hh.objs.size)).DictOf (strKind W.prog W.w) hh.objs.size []:=
  ⟨emptyDict,#[],0,hd,⟨rfl,rfl,rfl⟩,rfl,λe he=>by simp at he,.nil,List.nodup_nil⟩
 obtain⟨S1,x1⟩:=S.heap.alloc (p:=(hh.objs.size+1,hh.objs.size)) (o':=.inst c []) k (iX _) ⟨⟨#[],hx⟩,[],dd,.nil⟩;have Rb:rW n (A.under (.builtin "type.__call__" ⟨.ref (W.cls c)::ms,[]⟩)) l:=by
  refine⟨room.hand,room.frames,?_,?_⟩
  .have:=room.depth;show A.depth+1+n<=990;exact QA ⋯
  .have:=room.units;show A.units+1+40 * n+400<=cLine;lia
 have hr :(Z.add (hh.objs.size+1,hh.objs.size)).objs[U.length]? = some (hh.objs.size+1,hh.objs.size):=by
  refine rr S.heap.len ?_;simp[dW.add]
 refine hG ?_;refine hg _ l Rb _ (U++[.inst c []]) ⟨(hh.push emptyDict).push (instObj (W.cls c) hh.objs.size),gg,dr,tk,os⟩ (.ref U.length::vs) (.ref (hh.objs.size+1)::ms) (St.mk S1 S.gens S.os) (L.ext x1) (.cons (.ref (p:=(hh.objs.size+1,hh.objs.size)) hr) (r.mono x1)) _ ?_;unfold sO at p
 cases Of:g (.ref U.length::vs) (U++[.inst c []]) with
 |stuck=>rw[Of] at p;exact p.elim
 |exc c' bB=>rw[Of] at p;exact λbK s' e B T x=>p bK s' e B T (x.pre x1)
 |ok v bB=>
  rw[Of] at p;intro bK s' mv S' x' r';refine ct λG hG=>?_
  cases v <;> first |exact p.elim |skip
  cases r';refine hG ?_;exact⟨rfl,p bK s' _ S' (x1.trans x') (.ref (p:=(hh.objs.size+1,hh.objs.size)) (x'.get hr))⟩
end
def gZ (f:ME V):ME V:=f.bind λv=>match v with |.int i=>ah (.int (-i)) |_=>ie
noncomputable def lG (k:DK):ME V:=λ_ U=>.ok (.ref U.length) (U++[.dict k []])
noncomputable def w9:MS:=λ_ _=>.stuck
section
variable {D:List Addr}
theorem lH {st:Stmt}:jT n sc st w9:=λ_ _ _ _ _ _ _ _ _ _ _ p=>p.elim
theorem eA {e:Expr}{f:ME V}(hf:cm n sc e f):cm n sc (.UnaryOp .USub e pos) (gZ f):=by
 intro a ok bJ Z U fr s S F Q E p;refine wpAny_UnaryOp (hf.bind ok bJ S F p λv bq cG s1 mv S1 F1 x1 r1 p1=>?_);refine ct λG hG=>?_
 cases v <;> first |exact p1.elim |skip
 cases r1;refine hG ?_;exact P.neg_int (bt.val (s':={s1 with toks:=s1.toks+1}) p1 S1.fW (.refl ..) (.int _ _))
theorem yP {kd:DK}(S:St Z U s):St (Z.add (s.heap.objs.size,s.heap.objs.size)) (U++[.dict kd []]) {s with heap:=s.heap.push {cls:=.type "dict",data:=.dict #[]}}/\
   cF [] Z s.heap (Z.add (s.heap.objs.size,s.heap.objs.size)) (s.heap.push {cls:=.type "dict",data:=.dict #[]})/\
   aH (Z.add (s.heap.objs.size,s.heap.objs.size)) (s.heap.push {cls:=.type "dict",data:=.dict #[]}) (.ref U.length) (.ref s.heap.objs.size):=by
 have k :∀b o,s.heap.get? b=some o->(s.heap.push {cls:=.type "dict",data:=.dict #[]}).get? b=some o:=λ_ _ e=>bT _ e;have g :(s.heap.push {cls:=.type "dict",data:=.dict #[]}).get? s.heap.objs.size=some {cls:=.type "dict",data:=.dict #[]}:=cD _ rfl;obtain⟨S',x⟩:=S.heap.alloc (p:=(s.heap.objs.size,s.heap.objs.size)) (o':=.dict kd []) k (iX _) (by
  refine⟨rfl,?_⟩
  cases kd with
  |int=>exact⟨[],⟨_,#[],0,g,⟨rfl,rfl,rfl⟩,rfl,λe he=>by simp at he,.nil,List.nodup_nil⟩,.nil⟩
  |str=>exact⟨[],⟨_,#[],0,g,⟨rfl,rfl,rfl⟩,rfl,λe he=>by simp at he,.nil,List.nodup_nil⟩,.nil⟩
  |tup=>exact⟨[],⟨_,#[],0,g,⟨rfl,rfl,rfl⟩,rfl,rfl,λe he=>(nomatch he),List.nodup_nil⟩,.nil⟩)
 refine⟨St.mk S' S.gens S.os,x,.ref (p:=(s.heap.objs.size,s.heap.objs.size)) ?_⟩;refine rr S.heap.len ?_;simp[dW.add]
theorem gV (kd:DK):cm n sc (.Dict [] [] pos) (lG kd):=by
 intro a ok bJ Z U fr s S F Q E p;obtain⟨S',x',r'⟩:=yP (kd:=kd) S;exact wpAny_Dict_empty (bt.val p S' x' r')
end
noncomputable def Kr (c:Nat)(g:MS)(r:ur):ur:=match r with
 |.exc c' bC bB=>if c'=c then g bC bB else .stuck
 |r=>r
def D3 (c:Nat)(f g:MS):MS:=λfr U=>Kr c g (f fr U)
section
variable {D:List Addr}
theorem yQ {D:List Addr}{Q:Unit->Shared->Prop}(ok:b9 n a)(t:AI a.l c Z U s e B)(x:gY D F mY h0 Z B s.heap)(k :∀s',AH a.l c Z U s' e B->gY D F mY h0 Z B s'.heap->s.heap.UpToSlots s'.heap->Q () s'):wpAny bS a.A (noteFrame (.ref e) a.env) Q E s:=by
 refine ct λG hG=>?_;obtain⟨fe,mG,L,hl,DW,hL⟩:=ok.head;have Ba:a.A.frames=some (fe::mG):=rr hl<|ok.frames
 have MP:noteFrame (.ref e) a.env=noteFrame (.ref e) fe:=by
  unfold noteFrame PySem.frameOf;exact rl hL<|rl DW rfl
 obtain⟨g,o,S,oe,vs,a0,st,Q9,he,hc,hd,h1,We,ff⟩:=t;refine hG ?_;refine rl MP ?_;unfold noteFrame;refine rl DW<|aY (wpAny_field he hd h1 ?_)
 refine rl (av (by decide)) ?_;rw[hl] at ff;refine wpAny_entryW Ba ff DW he st Q9 hd (Array.getElem?_eq_some_iff.mp h1).1 We λh' hN=>?_;refine ct λG hG=>?_;obtain⟨k1,k2,k3,k4⟩:=hN;rw[hc] at k3;refine hG ?_;exact k _ ⟨g,o,S,fe,mG,L,a0,hl,DW,rl hl<|⟨k1,Q9,k2,k3⟩⟩ (x.up k4 k1) k4
theorem aD.up (k:h.UpToSlots h')(r:aD Z h vs ms):aD Z h' vs ms:=
 aD.rec (motive_1:=λv m _=>aH Z h' v m) (motive_2:=λvs ms _=>aD Z h' vs ms) .none .bool .int .str .ref
  (λh1 h2 h3 h4 _ ih=>let ⟨_,e⟩:=k _ _ h1 (λus z=>by rw[h3] at z;injection z);.tup e h2 h3 h4 ih) (λh1 h2 h3 h4 _ ih=>let ⟨_,e⟩:=k _ _ h1 (λus z=>by rw[h3] at z;injection z);.list e h2 h3 h4 ih) .nil (λ_ _ a b=>.cons a b) r
theorem aH.up (k:h.UpToSlots h')(r:aH Z h v m):aH Z h' v m:=by
 cases aD.up k (.cons r .nil) with |cons a _=>exact a
theorem Ks (k:h.UpToSlots h'){b:Addr}(e:h.get? b=some o)(q:bI o=true) :∃sl,h'.get? b=some {o with slots:=sl}:=k b o e λvs z=>Bool.noConfusion (show false=true from(aP eJ z).symm.trans q)
theorem FS.up (F:FS a fr Z h)(k:h.UpToSlots h'):FS a fr Z h':=F.carry (.of (λ_ _ e q n=>⟨n,Ks k e q⟩) λ_ _ r=>r.up k)
variable {nm qn:Str}{N:Addr}{bs bm:List Value}{sn:List Str}{sub:List Value}{ab:Bool}{k0 k1 k2 k3 k5:Option Value}
noncomputable def xa (sc:Scope)(hs:List Stmt)(g:MS):Prop:=∀(a:Act) (A:Around) (Z:dW) (U:bw) (fr:eY) (s:Shared) (Q:Flow->Shared->Prop) (E E':iN),a.env.scope=sc->a.env.scope.kind=.function->St Z U s->FS a fr Z s.heap->
 fO a Z s (g fr U) Q E->wpAny bS A (execs hs a.env) Q E' s
theorem uz {rp:Pos}:xa sc [.Return (some (.Constant (.bool true) kk kp)) rp] (λ_ U=>.ret (.bool true) U):=
 λ_ _ Z _ _ s _ _ _ _ _ S _ p=>wpAny_execs_cons (wpAny_Return_some (aw (p Z s (.bool true) S (.refl ..) (.bool true))))
theorem uA {y:Str}{yp:Pos}(hi:i<W.nN)(hy:W.nm i=y)(hk:sc.names.lookup y=some .local):xa sc [.Assign [.Name y yp] (.Constant .none kk kp) pos] (λfr U=>.next (aE fr i .none) U):=
 λ_ _ Z _ _ s _ _ _ bJ VX S F p=>wpAny_execs_cons (wpAny_Assign_Name (aw (iG VX bJ S F hi hy hk .none λs' S' x' F'=>wpAny_execs_nil (p Z s' S' (x'.weaken (by simp[Act.D])) F'))) rfl)
theorem GI {b0:Stmt}{g:MS}{r:ur}{x:Str}{uw:Pos}{Q:Flow->Shared->Prop}(ok:b9 n a)(hb :∀(Q:Flow->Shared->Prop) (E:iN),fO a Z s r Q E->wpAny bS a.A (execs body a.env) Q E s)(hg:xa a.env.scope (b0::yc) g)(hx:a.env.scope.names.lookup x=some .globalImplicit)(e:nsIn W.K mainGlobals x=some (some (.ref (W.cls c))))(hd :(x ==("__debug__" : Str))=false)(hK:W.K.lookup (W.cls c)=some (excClassObj nm qn (W.cls c) N bs bm Nm sn sub ab col dd k0 k1 k2 k3 k5 FF))(mK:bm.contains (.type "BaseException")=true)(p:fO a Z s (Kr c g r) Q E) :
  wpAny bS a.A (exec (.Try body [.ExceptHandler (some (.Name x np)) none (b0::yc) uw] [] [] pos) a.env) Q E s:=by
 unfold Kr at p;refine wpAny_Try_except (hb _ _ ?_);revert p;cases r with
 |next bC bB=>intro p;exact λbK s' S' x' F'=>wpAny_execs_nil (p bK s' S' x' F')
 |brk bC bB=>intro p;exact p
 |ret v bB=>intro p;exact p
 |stuck=>intro p;exact p
 |exc c' bC bB=>
  intro p;dsimp only at p;by_cases hc:c'=c
  .subst hc
   rw[ay rfl] at p;intro bK s' ea B T x' F';have GJ :∀s4,AH a.l c' bK bB s4 ea B->gY a.D (nX a.l) Z s.heap bK B s4.heap->s'.heap.UpToSlots s4.heap->wpAny bS a.A (setFlight (.ref ea) none) (λ_ pw=>wpAny bS a.A
     (handleBy (.ref ea) a.env [.ExceptHandler (some (.Name x np)) none (b0::yc) uw]) Q E pw) E s4:=by
    rintro s4 ⟨g,o,SB,Q2,Gx,L',a0,Fv,vx,R⟩ x4 Tv;refine wpAny_landsW R λh5 Ao Rc=>?_;have x5:=x4.up Rc Ao.1;obtain⟨ob,Wi,Wj⟩:=Ao.there;have st:W.h₀.StaysIn h5:=λb o e=>Ao.1 _ _ (SB.base b o e);refine wpAny_handleBy_cons (codeAny_handlers_test (Calls.Name_function_global ok.kind hx (Calls.loadGlobal_global (rl ok.glob<|SB.ok.T.g.keeps st) (mg_of SB.ok.X SB.ok.T.g e) ?_) hd)) (by intro q;injection q)
    have hC:=(SB.ok.X.keeps st) _ _ hK;refine wpAny_excMatches_sub_self hC Wi Wj mK (codeAny_handlers_suite ?_);refine lands_againW Ao λh6 Rd YA=>?_;have x6:=(x5.up YA Rd.1).ext SB;exact hg a _ bK bB bC {s4 with heap:=h6} _ E _ rfl ok.kind (St.mk (SB.keeps Rd.1) g o) (((F'.up Tv).up Rc).up YA) (p.step x6)
   rcases T with T |T
   .exact Gw ok rfl T x' λs4 H4 x4 u4=>GJ s4 H4 x4 u4
   .exact yQ ok T x' λs4 H4 x4 u4=>GJ s4 H4 x4 u4
  .rw[av hc] at p;exact p.elim
theorem Bi {b0:Stmt}{f g:MS}{x:Str}{uw:Pos}(hb:cf n sc body f)(hg:xa sc (b0::yc) g)(hx:sc.names.lookup x=some .globalImplicit)(e:nsIn W.K mainGlobals x=some (some (.ref (W.cls c))))(hd :(x ==("__debug__" : Str))=false)(hK:W.K.lookup (W.cls c)=some (excClassObj nm qn (W.cls c) N bs bm Nm sn sub ab col dd k0 k1 k2 k3 k5 FF))(mK:bm.contains (.type "BaseException")=true) :
  jT n sc (.Try body [.ExceptHandler (some (.Name x np)) none (b0::yc) uw] [] [] pos) (D3 c f g):=by
 intro a ok bJ Z U fr s S F Q E p;refine ct λG hG=>?_;subst bJ;refine hG ?_;exact GI ok (hb a ok rfl Z U fr s S F) hg hx e hd hK mK p
end
section
open PySem.Calls PySem.Builtin.ObjectAttr
theorem lI:Slot "wrapper_descriptor" "__get__" "wrapper_descriptor.__get__":=.of (owner:="wrapper_descriptor") (n:="__get__") (by rw[typeLookup_type,builtinLookup_eq_fast];kernel_rfl) (by decide +kernel) (by decide +kernel) (by decide +kernel)
 (by first |exact .inl (by decide +kernel) |exact .inr (by decide +kernel)) (by rw[isSubtype_type];kernel_rfl)
theorem qP:entryFor table "wrapper_descriptor.__get__" = some Builtin.«wrapper_descriptor.__get__»:=entryFor_of_tree (by kernel_rfl)
theorem uB (a b c:Value):argsOk "wrapper_descriptor.__get__" ⟨[a,b,c],[]⟩:=by kernel_rfl
theorem xb:typeOf (.builtin "Exception.__init__")=pure (.type "wrapper_descriptor"):=by kernel_rfl
noncomputable def Bj:ClassData:={name:="LimitFault",bases:=[.ref 47],mro:=[.ref 72,.ref 47,.type "Exception",.type "BaseException",.type "object"],ns:=71,qualname:="LimitFault"}
noncomputable abbrev Rf:String:="Exception.__init__"
theorem MQ :(Value.ref 72::wH).contains (.type "Exception")=true:=by decide +kernel
theorem Og :(Value.ref 72::wH).contains (.type "NameError")=false:=by decide +kernel
theorem Oh :(Value.ref 72::wH).contains (.type "AttributeError")=false:=by decide +kernel
theorem Oi :(Value.ref 72::wH).contains (.type "BaseException")=true:=by decide +kernel
theorem Wk :(Value.ref 72::wH).contains (.ref 72)=true:=by decide +kernel
noncomputable abbrev ja (m:Addr):Obj:={cls:=.ref 72,data:=.fields #[.ref m,.none,.none,.none,.bool false,.none]}
noncomputable abbrev seqObj (v:Value):Obj:={cls:=.type "tuple",data:=.seq [v].toArray}
def made (h:Heap)(v:Value):Heap:=(h.push (seqObj v)).push (ja h.objs.size)
theorem j0 {h:Heap}{v:Value}(b:Addr)(o:Obj)(e:h.get? b=some o) :(made h v).get? b=some o:=Heap.get?_push_of_some _ (Heap.get?_push_of_some _ e)
theorem yR {h:Heap}{v:Value} :(made h v).get? (h.objs.size+1)=some (ja h.objs.size):=by unfold made;heap_get
section
variable {h:Heap}{g:Array GenState}{d:Drawn}{t:Nat}{os:OsState}
theorem yS (hC:h.get? 72=some Mw)(hq:R (.ok (.ret (.ref (h.objs.size+1)))) ⟨made h mm,g,d,t,os⟩) :
  codeAny (model prog w) A (.builtin "Exception.__new__" ⟨[.ref 72,mm],[]⟩) R ⟨h,g,d,t,os⟩:=by
 have F:=PySem.F.excBase_Exception;have YB:=F.ends;refine codeAny_builtinAt F.entry ?_;refine _root_.PySem.wpAt_bind ?_;refine _root_.PySem.wpAt_bind (_root_.PySem.wpAt_stack λp below=>_root_.PySem.wpAt_of_wpAny ?_)
 wp_walk
 refine _root_.PySem.wpAt_of_wpAny ?_;refine rl F.owner ?_
 repeat (first |with_reducible refine wpAny_madeHere_exc F.canon hC ?_ |with_reducible refine wpAny_loadPart_at hC ?_ | (with_reducible refine wpAny_isSubtype_exc hC ?_;first |rw[MQ] |rw[Oh] |rw[Og]) |wp_step)
 exact rl (Heap.size_push ..)<|hq
end
section
variable {h:Heap}{g:Array GenState}{d:Drawn}{t:Nat}{os:OsState}
theorem uC {Q:Fin->Shared->Prop}(hC:h.get? 72=some Mw)(hi:Looks (model prog w) h (typeLookup (.ref 72) "__init__") (some (.ref 37)))(hb :∀self,Looks (model prog w) h (bindSpecial (.ref 37) self) (.ref 37,[self]))(yT:codeAny (model prog w) A (.call (.ref 37) ⟨[.ref (h.objs.size+1),mm],[]⟩) (λr s'=>match r with |.ok (.ret v)=>v=.none/\Q (.done (.ret (.ref (h.objs.size+1)))) s' |.error e=>E e s' |_=>False)
   ⟨made h mm,g,d,t,os⟩) :
  wpAny (model prog w) A (Builtin.«type.__call__» ⟨[.ref 72,mm],[]⟩) Q E ⟨h,g,d,t,os⟩:=by
 have F:=PySem.F.excBase_Exception
 repeat (first |with_reducible refine wpAny_loadPart_at hC ?_ |with_reducible refine wpAny_madeBy_exc hC ?_ |wp_step)
 refine codeAny_call_builtin_code (Code.quiet_builtin _ F.quiet) (wpAny_check_new_subU F (by decide +kernel:wH.contains _=true) .base hC ?_);refine yS hC ?_;have i1:=hi.keeps (j0 (v:=mm));have b1:=(hb (.ref (h.objs.size+1))).keeps (j0 (v:=mm));have hC1:=j0 (v:=mm) _ _ hC;have hg:=yR (h:=h) (v:=mm)
 repeat (first |with_reducible refine wpAny_loadPart_at hg ?_ | (with_reducible refine wpAny_isSubtype_exc hC1 ?_;rw[Wk]) |wp_step)
 refine i1.at ?_;refine cQ (aY (b1.at ?_));refine wb (wpAny_call (codeAny_mono yT λr s' z=>?_));rcases r with e | (v |_ |_ |_) <;> first |exact z |exact z.elim |skip
 obtain⟨rfl,z⟩:=z;exact aw (aw z)
theorem GK (hC:h.get? 72=some Mw)(hi:Looks (model prog w) h (typeLookup (.ref 72) "__init__") (some (.ref 37)))(hb :∀self,Looks (model prog w) h (bindSpecial (.ref 37) self) (.ref 37,[self]))(yT:codeAny (model prog w) (A.under (.builtin "type.__call__" ⟨[.ref 72,mm],[]⟩)) (.call (.ref 37) ⟨[.ref (h.objs.size+1),mm],[]⟩) (λr s'=>match r with |.ok (.ret v)=>v=.none/\Q (.ref (h.objs.size+1)) s' |.error e=>E e s' |_=>False)
   ⟨made h mm,g,d,t,os⟩) :
  wpAny (model prog w) A (call (.ref 72) [mm]) Q E ⟨h,g,d,t,os⟩:=by
 have f1:=_root_.PySem.tc_lookup;have f2':=_root_.PySem.tc_bind (.ref 72);have hT :(⟨h,g,d,t,os⟩:Shared).TypeIs (.ref 72) "type":=⟨_,hC,rfl⟩;refine wpAny_call (codeAny_of_tree ?_)
 repeat (any_goals (first |assumption |with_reducible refine wpAny_loadPart_at hC ?_ |wp_step))
 refine⟨rfl,?_⟩;refine codeAny_call_builtin_at (Code.quiet_builtin _ (by decide +kernel)) _root_.PySem.entry_typeCall (_root_.PySem.wpAny_check_type_call_sub hC (uC hC hi hb ?_));refine codeAny_mono yT λr s' z=>?_;rcases r with e | (v |_ |_ |_) <;> first |exact z |exact z.elim
end
section
variable {h:Heap}{g:Array GenState}{d:Drawn}{t:Nat}{os:OsState}
abbrev iy (x:Addr):Obj:={cls:=.type "method-wrapper",data:=.fields #[.builtin Rf,.ref x]}
noncomputable abbrev Bk (x:Addr):Obj:={cls:=.type "super",dict:=none,data:=.fields #[.ref 47,.ref x,.ref 72],slots:=#[]}
theorem Bl {x:Addr}{id:String}{Q:Fin->Shared->Prop}(eE:id=Rf)(hx:h.get? x=some ox)(Rg:ox.cls=.ref 72)(sP:Looks (model prog w) h (isSubtype (.ref 72) (.type "Exception")) true)(hq:Q (.done (.ret (.ref h.objs.size))) ⟨h.push (iy x),g,d,t,os⟩) :
  wpAny (model prog w) A (Builtin.«wrapper_descriptor.__get__» ⟨[.builtin id,.ref x,.ref 72],[]⟩) Q E ⟨h,g,d,t,os⟩:=by
 subst eE;have e0 : ".".intercalate ("Exception.__init__".cutAt '.').dropLast = "Exception":=by decide +kernel
 repeat (first
  | (with_reducible refine wpAny_loadPart_at hx ?_;refine rl Rg ?_)
  | (refine rl e0 ?_;with_reducible refine Looks.at sP ?_)
  |wp_step
  |dsimp only)
 all_goals exact hq
theorem xc {so x:Addr}{id:String}{Rh l:List Value}{K:Frag}{name:Str}{Q:Fin->Shared->Prop}(eE:id=Rf)(vg:h.get? so=some (Bk x))(An:Looks (model prog w) h (opaqueClassAbove (.ref 72)) none)(hC:Looks (model prog w) h (mroOf (.ref 72)) Rh)(hl :(Rh.dropWhile (· != .ref 47)).drop 1=l)(X:K.In h)(hf:alongIn K name l=some (some (.builtin id)))(hx:h.get? x=some ox)(Rg:ox.cls=.ref 72)(sP:Looks (model prog w) h (isSubtype (.ref 72) (.type "Exception")) true)(Ri:x≠72)(hn :(name ==("__class__" : Str))=false)(hq:Q (.done (.ret (.ref h.objs.size))) ⟨h.push (iy x),g,d,t,os⟩) :
  wpAny (model prog w) A (Builtin.«super.__getattribute__» ⟨[.ref so,.str name tk],[]⟩) Q E ⟨h,g,d,t,os⟩:=by
 have Wl:=lI.lookup;have dg :(Value.ref x == Value.ref 72)=false:=by simp[Ri]
 have YD :(⟨h,g,d,t,os⟩:Shared).TypeIs (.builtin id) "wrapper_descriptor":=by subst eE;exact xb
 have Dz :(Bk x).data=.fields #[.ref 47,.ref x,.ref 72]:=rfl;have f0 :(#[.ref 47,.ref x,.ref 72]:Array Value)[0]? = some (.ref 47):=rfl;have f1 :(#[.ref 47,.ref x,.ref 72]:Array Value)[1]? = some (.ref x):=rfl;have f2 :(#[.ref 47,.ref x,.ref 72]:Array Value)[2]? = some (.ref 72):=rfl
 repeat (first
  | (with_reducible refine wpAny_field vg Dz f0 ?_) | (with_reducible refine wpAny_field vg Dz f1 ?_) | (with_reducible refine wpAny_field vg Dz f2 ?_)
  | (with_reducible refine ks_wpAny_notOpaque An ?_)
  | (with_reducible refine Looks.at hC ?_;refine rl hl ?_)
  | (refine ks_forIn_along X (λ_ _=>rfl) rfl ?_ hf)
  | (with_reducible refine wpAny_typeOf YD ?_)
  | (with_reducible refine fF lI YD qP ?_ (uB _ _ _))
  | (with_reducible refine Bl eE hx Rg sP ?_)
  | (with_reducible refine⟨_,rfl,?_⟩)
  | (simp only[hn,dg,Bool.or_false,Bool.false_eq_true,if_false])
  |wp_step
  |dsimp only)
 all_goals exact hq
theorem uD {so x:Addr}{K:Frag}{pl:Sem Bool}{Q:Value×List Value->Shared->Prop}(vg:h.get? so=some (Bk x))(An:Looks (model prog w) h (opaqueClassAbove (.ref 72)) none)(hC:Looks (model prog w) h (mroOf (.ref 72)) Bj.mro)(X:K.In h)(hf:alongIn K "__init__" wH.tail=some (some (.builtin Rf)))(hx:h.get? x=some ox)(Rg:ox.cls=.ref 72)(sP:Looks (model prog w) h (isSubtype (.ref 72) (.type "Exception")) true)(Ri:x≠72)(hq:Q (.ref h.objs.size,[]) ⟨h.push (iy x),g,d,t+1,os⟩) :
  wpAny (model prog w) A (getMethod (.ref so) "__init__" pl) Q E ⟨h,g,d,t,os⟩:=by
 have Wl:=PySem.F.ks_slot_super_ga.lookup;have Wm:=PySem.F.ks_canon_super_ga;have hT :∀t',(⟨h,g,d,t',os⟩:Shared).TypeIs (.ref so) "super":=λ_=>⟨_,vg,rfl⟩;refine wb (wpAny_specialOf (hT _) Wl ?_);refine(?_:wpAny _ _ (if (Manifest.canonical "super.__getattribute__" != "object.__getattribute__")=true then _ else _) _ _ _);refine rl (ay Wm)<|wb (wb (wpAny_mkText (cQ (wb (wpAny_typeOf (hT _) (wb (wpAny_of_eq Wl ?_)))))))
 refine wb (wpAny_of_eq (show(if onTheHeap (.type "super") then typeLookup (.type "super") "__getattr__" else pure none)=pure none from rfl) ?_);refine wb (wpAny_attempt (cQ ?_));refine wb (wpAny_of_eq (PySem.F.ks_slot_super_ga.bind _) ?_);refine cB (Q:=λv s'=>v=.ref h.objs.size/\s' =⟨h.push (iy x),g,d,t+1,os⟩) (E:=λ_ _=>False)
  (fF PySem.F.ks_slot_super_ga (hT _) PySem.F.ks_entry_super_ga (xc rfl vg An hC (l:=wH.tail) (by decide +kernel) X hf hx Rg sP Ri (by decide) ⟨_,rfl,rfl,rfl⟩) (PySem.F.ks_gaArgs_super _ _)) (λv s' hv=>?_) λ_ _ z=>z.elim
 obtain⟨rfl,rfl⟩:=hv;exact aw (aw hq)
end
section
variable {h:Heap}{g:Array GenState}{d:Drawn}{t:Nat}{os:OsState}{b m:Addr}
theorem sQ (hC:h.get? 72=some Mw)(hb:h.get? b=some (iy e))(he:h.get? e=some (ja m))(hq:R (.ok (.ret .none)) ⟨(h.push (seqObj mm)).update e (Obj.mapFields λx=>x.setIfInBounds 0 (.ref h.objs.size)),g,d,t,os⟩) :
  codeAny (model prog w) A (.call (.ref b) ⟨[mm],[]⟩) R ⟨h,g,d,t,os⟩:=by
 have F:=PySem.F.excBase_Exception;have Wn:=F.noStar;refine codeAny_of_tree ?_;refine wb (wpAny_load hb ?_);have hch:wpAny (model prog w) (A.under (Code.call (Value.ref b) {pos:=[mm]})) (checkBoundCall Rf {pos:=[Value.ref e,mm]}) (λ_ s'=>s' =⟨h,g,d,t,os⟩) (λ_ _=>False) ⟨h,g,d,t,os⟩:=by
  unfold checkBoundCall;refine rl F.initKind<|rl F.initRow ?_;dsimp only
  refine rl (ay (by rfl)) ?_
  repeat (first |with_reducible refine wpAny_loadPart_at he ?_ |with_reducible refine wpAny_loadPart_at hC ?_ | (with_reducible refine wpAny_isSubtype_exc hC ?_;rw[MQ]) |wp_step)
  rfl
 repeat (first
  | (refine aY (cB hch (λ_ s' z=>?_) λ_ _ z=>z.elim);subst z)
  |wp_step)
 refine⟨plainId_quiet F.init.plain _,?_⟩;refine _root_.PySem.codeAny_builtinAt F.initEntry (_root_.PySem.wpAt_of_wpAny ?_);have Rj :(h.push (seqObj mm)).get? e=some (ja m):=Heap.get?_push_of_some _ he;have YE:[mm].length<=sizeLine:=by size_fits
 wp_walk
 exact hq
end
theorem GL (self:Value):refuseLoop self "__setattr__" Bj.mro=pure ():=by kernel_rfl
section
variable {K:Frag}{x m:Addr}
theorem Kt {name:Str}{v:Value}(X:K.In s.heap)(hx:s.heap.get? x=some (ja m))(hc:clsIn K 72=some Bj)(ht:takerIn K 72 name=some none)(h :∀h' dx,(∀b o,b≠x->s.heap.get? b=some o->h'.get? b=some o)->h'.get? x=some {ja m with dict:=some dx}->R (.ok (.ret .none)) {s with heap:=h',toks:=s.toks+1}) :
  codeAny (model prog w) A (.call (.builtin "object.__setattr__") ⟨[.ref x,.str name tk,v],[]⟩) R s:=by
 have SF:=PySem.F.store_object;have I:InstAt s.heap x (ja m) 72 none:=⟨hx,rfl,rfl,trivial⟩;have sub:Looks (model prog w) s.heap (isInstance (.ref x) (.type "object")) true:=I.type.andThen (looks_mroIn X (by unfold mroIn;exact rl hc rfl));refine codeAny_call_builtin SF.slot.plain SF.entry (@check_slot (model prog w) _ _ s "object.__setattr__" "object" "__setattr__" (.ref x) [.str name tk,v] [] _ SF.kind SF.split sub (SF.args (.ref x) (.str name tk) v) ?_);refine aT ht λattr ha hr=>?_;have hm:Looks (model prog w) s.heap (mroOf (.ref 72)) Bj.mro:=(looks_clsIn X hc).andThen .now;have L3:Looks (model prog w) s.heap (storeTaker? attr) none:=by
  cases attr with
  |none=>exact .now
  |some a=>
   refine dh hr λb hb hr=>?_;refine(looks_takesIn X hb).andThen ?_
   cases b with
   |true=>injection hr
   |false=>exact .now
 refine rl (osa_eq ..)<|rl (refuse_eq ..)<|wb (wb (I.type.here (aY (hm.here ?_))))
 refine rl (GL ..)<|aw (wb (I.type.here (wb ((looks_findIn X ha).here (wb (L3.here ?_))))))
 refine wb (aw (aY (aY (wpAny_loadPart hx (aY ((looks_clsIn X hc).here ?_))))));refine rl (show Bj.hasDict=true from rfl) ?_;obtain⟨hh,g,d,t,os⟩:=s;have PZ:=Heap.get?_push_of_some emptyDict hx;have Wo :((hh.push emptyDict).update x λo=>{o with dict:=some hh.objs.size}).get? x=some {ja m with dict:=some hh.objs.size}:=Heap.get?_update_self _ PZ rfl
 repeat (first |wp_step |dsimp only)
 have dg:x≠hh.objs.size:=Nat.ne_of_lt (Heap.lt_size hx);have Cz :((hh.push {cls:=Value.type "dict",data:=Data.dict #[]}).update x λo=>{o with dict:=some hh.objs.size}).get? hh.objs.size=some emptyDict:=by
  refine(Heap.get?_update_other _ _ dg).trans ?_;exact Heap.get?_push_size _ rfl
 refine wpAny_askSetting (aw (aY (wpAny_mkText (aY (wpAny_loadPart Cz ?_)))));dsimp only;refine rl (av (by rw[aRefKeyMayBeTheName_at];simp))<|wpAny_updatePart Cz ?_
 generalize hhs :(if name.cps.isEmpty=true then 0 else reduceHash ((model prog w).w.params.strHash name.cps))=Wq;refine ct λG hG=>?_;obtain⟨es,n,e',hz⟩ :∃es n,(Obj.putName name Wq (.str name t) v emptyDict).data=.dict es n/\es.size<=1:=by
  refine rl Obj.putName_eq ?_;unfold Obj.putNameByArray emptyDict;dsimp only;exact rl Array.findIdx?_empty<|⟨_,_,rfl,by simp⟩
 have g' :(((hh.push {cls:=Value.type "dict",data:=Data.dict #[]}).update x λo=>{o with dict:=some hh.objs.size}).update hh.objs.size (Obj.putName name Wq (.str name t) v)).get? hh.objs.size=some (Obj.putName name Wq (.str name t) v emptyDict):=
  Heap.get?_update_self _ Cz (Obj.isFreed_of_dict e')
 refine hG ?_;refine wb (wpAny_lookBehind g' (rl e'<|pastItsLine_dict (rl sizeLine_eq<|Nat.le_add_left_of_le hz)) ?_)
 refine aw (h _ hh.objs.size (λb o hb e=>?_) ?_)
 .have NP:b≠hh.objs.size:=Nat.ne_of_lt (Heap.lt_size e)
  refine(Heap.get?_update_other _ _ NP.symm).trans ((Heap.get?_update_other _ _ hb.symm).trans ?_);exact Heap.get?_push_of_some _ e
 .refine(Heap.get?_update_other _ _ dg.symm).trans ?_
  exact Wo
end
section
theorem uE {u:Addr}{args:List (Bool×Sem Value)}(Oj:args.any (·.1)=false)(h:wpAny M A (evalArgs (.ref u) true args []) (λx fS=>fS.heap.get? u=some (iy e)/\wpAny M A (call (.ref u) x.pos x.kw) Q E fS) E s):wpAny M A (callWith pos (.ref u) [] args []) Q E s:=by
 refine wb (cQ (cB h (λx fS gb=>wb (wpAny_standAt ?_)) λ_ _ x=>x));obtain⟨ho,yT⟩:=gb;refine rl Oj<|rl List.any_nil<|rl (Bool.or_false ..)<|wb (m:=keeperOf (.ref u)) ?_
 refine wb (wpAny_load ho ?_);refine aw ?_;exact wb (cB yT (λr yG hr=>wb (cQ (wpAny_point (aw hr)))) λ_ _ x=>x)
end
abbrev Rk (L:Addr):Env:=ksEnv "HeapError.__init__" FH.scope L 37 (.ref 36) 25
theorem GN (env:Env) :∃pl:Sem Bool,eval (.Call (.Attribute JM "__init__" ⟨8,8,8,24⟩) [.Name "what" ⟨8,25,8,29⟩] [] ⟨8,8,8,30⟩) env =(do
 let ov <- attributeBase JM "__init__" env (eval JM env)
 standAt (⟨8,8,8,24⟩:Pos).atName
 let (f,first) <- holding [ov] (getMethod ov "__init__" pl)
 callWith ⟨8,8,8,30⟩ f first (backTo ⟨8,8,8,30⟩ (starEach [.Name "what" ⟨8,25,8,29⟩] env)) []):=⟨_,rfl⟩
theorem Ol (a b:Value):bindArgs Tc ⟨[a,b],[]⟩=pure [(("self" : Str),a),(("what" : Str),b)]:=by kernel_rfl
theorem Rl :(FH.params.posonlyargs++FH.params.args).head? = some ⟨"self",none,⟨7,17,7,21⟩⟩:=by kernel_rfl
theorem ExcAt.YF {K:Frag}(F:ExcAt K):clsIn K 72=some Bj:=by unfold clsIn;exact rl F.Mx rfl
theorem ExcAt.mro {K:Frag}(F:ExcAt K)(b:Value)(e:Bj.mro.contains b=true):mroIn K 72 b=some true:=by unfold mroIn;exact rl F.YF<|aP some e
theorem ExcAt.Rm {K:Frag}(F:ExcAt K) :∃o cd,K.lookup 47=some o/\o.data=.cls cd:=by
 obtain⟨cd,h⟩:=Option.isSome_iff_exists.mp F.c47;unfold clsIn at h
 cases ho:K.lookup 47 with
 |none=>rw[ho] at h;injection h
 |some o=>
  obtain⟨c,d,dat,sl⟩:=o;rw[ho] at h
  cases dat with
  |cls cd=>exact⟨_,cd,rfl,rfl⟩
  |_=>injection h
section
variable {m:Addr}
theorem GO (hb:W.h₀.StaysIn s.heap)(he:s.heap.get? e=some (ja m))(MR:W.h₀.get? e=none)(GP:A.depth<recursionLimit)(O:Td)(F:ExcAt W.K)(h :∀h' t' oe vs a0,(∀b o,b≠e->s.heap.get? b=some o->h'.get? b=some o)->h'.get? e=some oe->oe.cls=.ref 72->oe.data=.fields vs->vs[1]? = some .none->vs[0]? = some a0->R (.ok (.ret .none)) {s with heap:=h',toks:=t'}) :
  codeAny bS A (.call (.ref 37) ⟨[.ref e,mm],[]⟩) R s:=by
 have YG:=F.YF;have Om:FH.scope.names.lookup ("self" : Str)=some .local:=by decide +kernel
 have Wr:FH.scope.names.lookup ("what" : Str)=some .local:=by decide +kernel
 have Rn:FH.scope.names.lookup ("super" : Str)=some .globalImplicit:=by decide +kernel
 have YH:FH.scope.names.lookup ("__class__" : Str)=some .free:=by decide +kernel
 have hk:FH.scope.kind=.function:=by decide +kernel
 obtain⟨vs,tf,h36,QT,YI⟩:=F.o36;refine ks_codeAny_call_defAt (fd:=Tc) (body:=Mv) (binds:=[("self",.ref e),("what",mm)])
  GP (O.X.keeps hb _ _ F.VN) rfl (O.T.nolimit.keeps hb) (codeRec_of (O.X.keeps hb) YI) rfl (.of_eq (Ol _ _)) (show∀x∈FH.scope.names,x.2≠.cell by decide +kernel) (λx hx=>?_) (λgb Gp GQ=>?_) (by decide +kernel) (by decide +kernel) hk
 .simp only[List.mem_cons,List.not_mem_nil,or_false] at hx
  rcases hx with rfl |rfl
  .exact Om
  .exact Wr
 have J5:W.h₀.StaysIn gb:=λb o z=>GQ b o (hb b o z);have Ws:=GQ _ _ he;have YJ:s.heap.objs.size≠e:=(Nat.ne_of_lt (Heap.lt_size he)).symm;have X1:=O.X.keeps J5;obtain⟨oL,es,ep,zL,rL⟩:=Gp;have ns :∀{h':Heap},h'.get? s.heap.objs.size=some oL->h'.Ns s.heap.objs.size λx=>List.lookup x [(("self" : Str),Value.ref e),("what",mm)].reverse:=λz=>⟨oL,es,ep,z,rL⟩;clear rL;generalize s.heap.objs.size=L at YJ ns zL ⊢;have kU:List.lookup ("self" : Str) [(("self" : Str),Value.ref e),("what",mm)].reverse=some (.ref e):=rfl;have YK:List.lookup ("what" : Str) [(("self" : Str),Value.ref e),("what",mm)].reverse=some mm:=rfl;have hie:interactive (Rk L)=false:=by unfold interactive;exact rl (show(Rk L).scope.kind=.function from hk) rfl
 obtain⟨pl,P0⟩:=GN (Rk L);refine ks_wpAt_execs_cons (ks_wpAt_Expr_any (hi:=hie) (ks_wpAt_MethodCall (pl:=pl) (he:=P0) (ks_wpAt_super_base (env:=Rk L) Rn YH (by decide) rfl (X1 _ _ F.VN) rfl Rl rfl (X1 _ _ h36) rfl QT (by refine rl (show W.prog=gn.row.prog from rfl) ?_;decide +kernel) (by refine rl (show W.prog=gn.row.prog from rfl) ?_;decide +kernel) ?_)));refine ks_loadName_global hk Rn (loadGlobal_builtin (env:=Rk L) (O.T.g.keeps J5) (mg_none_of O.X O.T.g F.sup) (O.T.b.keeps J5) ((O.T.builtins _ (by decide +kernel)).trans (by decide +kernel:bootBuiltins "super" = some (.type "super"))) ⟨rfl,?_⟩);refine wpAny_loadName_free hk YH rfl ⟨_,X1 _ _ F.o25,rfl⟩ ?_;refine wpAny_loadName_local hk Om (ns zL) kU ?_;obtain⟨oD,cdD,MT,Ro⟩:=F.Rm;refine ks_wpAny_isType_cls (X1 _ _ MT) Ro ⟨rfl,?_⟩;refine ks_wpAny_call_super (X1 _ _ MT) Ro Ws rfl (λc z=>by cases z) (looks_mroIn X1 (F.mro _ (by decide +kernel))) (λh2 YL k2=>?_);have X2:=X1.keeps k2;have Tw:=k2 _ _ Ws;have Ri:e≠72:=λz=>by have q:=O.X _ _ F.Mx;rw[<- z] at q;replace q:=MR.symm.trans q;injection q
 refine uD YL (looks_opaque X2 F.thr) ((looks_clsIn X2 YG).andThen .now) X2 (by kernel_rfl) Tw rfl (looks_mroIn X2 (F.mro _ (by decide +kernel))) Ri ?_;have k3 :∀b o,gb.get? b=some o->(h2.push (iy e)).get? b=some o:=λb o z=>Heap.get?_push_of_some _ (k2 b o z);have Rp :(h2.push (iy e)).get? h2.objs.size=some (iy e):=Heap.get?_push_size _ rfl;have Wt:=k3 _ _ Ws;clear Tw YL k2;generalize h2.push (iy e)=h3 at Rp k3 Wt ⊢;generalize h2.objs.size=wa at Rp ⊢;refine uE (e:=e) (by rfl) (c7 (by rfl) (args_cons (wpAny_Name (wpAny_loadName_local hk Wr (ns (k3 _ _ zL)) YK ?_) (by decide))));have k4 :∀b o,b≠e->gb.get? b=some o->((h3.push (seqObj mm)).update e (Obj.mapFields λx=>x.setIfInBounds 0 (.ref h3.objs.size))).get? b=some o:=λb o MR z=>by
  refine(Heap.get?_update_other _ _ MR.symm).trans ?_;exact Heap.get?_push_of_some _ (k3 b o z)
 have Wu :((h3.push (seqObj mm)).update e (Obj.mapFields λx=>x.setIfInBounds 0 (.ref h3.objs.size))).get? e=some (ja h3.objs.size):=by
  refine(Heap.get?_update_self _ (Heap.get?_push_of_some _ Wt) rfl).trans ?_;rfl
 refine args_nil ⟨Rp,wpAny_call (sQ (X1.keeps k3 _ _ F.Mx) Rp Wt ?_)⟩;generalize (h3.push (seqObj mm)).update e (Obj.mapFields λx=>x.setIfInBounds 0 (.ref h3.objs.size))=h4 at k4 Wu ⊢;clear Rp;have X4:W.K.In h4:=O.X.keeps λb o z=>k4 b o (λq=>by rw[q] at z;replace z:=MR.symm.trans z;injection z) (J5 b o z);have N4:=ns (k4 _ _ YJ zL);refine ks_wpAt_execs_cons (ks_wpAt_Assign_Attr (wpAt_of_wpAny (wpAny_Name (wpAny_loadName_local hk Wr N4 YK ?_) (by decide))));refine wpAny_Name (wpAny_loadName_local hk Om N4 kU ?_) (by decide);refine set_plain X4 (⟨Wu,rfl,rfl,trivial⟩:InstAt h4 e (ja h3.objs.size) 72 none) F.set (Kt (s:={s with heap:=h4,toks:=_}) X4 Wu YG F.qU λh5 dx k5 he5=>?_);exact _root_.PySem.wpAt_of_wpAny (wpAny_execs_nil (h h5 _ _ _ _ (λb o Rq z=>k5 b o Rq (k4 b o Rq (GQ b o z))) he5 rfl rfl rfl rfl))
end
structure Bm:Prop where
 run :∀(A:Around) (E:iN) (Q:iN) (s:Shared) (mm:Value),W.h₀.StaysIn s.heap->A.depth+2<recursionLimit->
  (∀h' t' e oe vs a0,(∀b o,s.heap.get? b=some o->h'.get? b=some o)->s.heap.get? e=none->h'.get? e=some oe->oe.cls=.ref 72->oe.data=.fields vs->vs[1]? = some .none->vs[0]? = some a0->
   Q (.ref e) {s with heap:=h',toks:=t'})->wpAny bS A (call (.ref 72) [mm]) Q E s
theorem Oo (O:Td)(F:ExcAt W.K):Bm:=by
 refine⟨λA E Q s mm hb GP h=>?_⟩;have X:=O.X.keeps hb;obtain⟨hh,g,d,t,os⟩:=s;have k7:hh.get? (hh.objs.size+1)=none:=by
  cases z:hh.get? (hh.objs.size+1) with
  |none=>rfl
  |some o=>exact absurd (Heap.lt_size z) (Nat.not_lt.mpr (Nat.le_succ _))
 have MR:W.h₀.get? (hh.objs.size+1)=none:=by
  cases z:W.h₀.get? (hh.objs.size+1) with
  |none=>rfl
  |some o=>replace k7:=(hb _ _ z).symm.trans k7;injection k7
 refine GK (X _ _ F.Mx) (looks_findIn X F.ini) (λself=>bind_fn X self (show typeIn W.K (.ref 37)=some (.type "function") by refine(?_ :(W.K.lookup 37).map _=_);exact rl F.VN rfl)) ?_;refine GO (s:=⟨made hh mm,g,d,t,os⟩) (λb o z=>j0 b o (hb b o z)) yR MR (Nat.lt_of_succ_lt GP) O F λh' t' oe vs a0 keep he hc Dz h1 h0=>⟨rfl,?_⟩;exact h h' t' (hh.objs.size+1) oe vs a0 (λb o z=>keep b o (λq=>by rw[q] at z;replace z:=k7.symm.trans z;injection z) (j0 b o z)) k7 he hc Dz h1 h0
section
theorem D4 {x:Sem Value}{Q:Flow->Shared->Prop}(hh:A.handled=none)(h:wpAny M A x (λv fS=>∃e oe,v=.ref e/\fS.heap.get? 72=some Mw/\
   fS.heap.get? e=some oe/\oe.cls=.ref 72/\(∃vs,oe.data=.fields vs/\vs[1]? = some .none)/\E (.ref e) fS) E s) :
  wpAny M A (raiseStmt env (some x) none) Q E s:=by
 refine aY (cB h (λv fS gb=>?_) λ_ _ x=>x);refine ct λG hG=>?_;obtain⟨e,oe,rfl,hC,he,hc,⟨vs,Dz,QK⟩,hE⟩:=gb;obtain⟨hp,g,d,tk,os⟩:=fS;obtain⟨oc,od,oda,osl⟩:=oe;dsimp only at hc Dz;subst hc Dz;refine hG ?_
 repeat (first |with_reducible refine wpAny_loadPart_at he ?_ |with_reducible refine wpAny_loadPart_at hC ?_ | (with_reducible refine wpAny_isSubtype_exc hC ?_;rw[Oi]) |wp_step)
 refine rl QK<|aw ?_
 exact rl (av (by decide))<|aw (wpAny_raiseNew_none hh hE)
end
noncomputable def kq (c:Nat):MS:=λfr U=>.exc c fr U
section
variable {h h':Heap}{D:List Addr}
theorem rn {L:Addr}:L∈nX l ↔∃e∈l,e.frame=some L:=by
 unfold nX;rw[List.mem_filterMap]
theorem iV.mem {L:Addr}(V:iV l Z h)(hm:L∈nX l):L∉bH Z/\W.h₀.get? L=none/\∃o,h.get? L=some o/\bI o=true:=by
 refine ct λG hG=>?_;obtain⟨e,he,hf⟩:=rn.mp hm;obtain⟨_,L',o,vx,hn,hb,ho,hs⟩:=V e he;replace vx:=hf.symm.trans vx;injection vx with vx;subst vx;refine hG ?_;exact⟨hn,hb,o,ho,hs⟩
theorem gP.Rr (S:gP Z U h)(V:iV l Z h):gP Z U (hideAll h (nX l)):=by
 have g :∀b o,h.get? b=some o->b∉nX l->(hideAll h (nX l)).get? b=some o:=λb o e dg=>hideAll_get _ e dg;have soft :∀b o,h.get? b=some o->bI o=false->b∉nX l:=λb o e q hm=>by
  obtain⟨_,_,o',ho,hs⟩:=V.mem hm;replace ho:=e.symm.trans ho;injection ho with ho;subst ho;replace q:=hs.symm.trans q;injection q
 have Ku :∀b,b∈bH Z->b∉nX l:=λb hb hm=>(V.mem hm).1 hb;have vm:hV Z h Z (hideAll h (nX l)):=⟨λ_ _ e=>e,λb o e hn q=>g b o e (soft b o e q),λ_ _ _ hn=>hn⟩;refine⟨λb o e=>g b o (S.base b o e) λhm=>(by replace e:=((V.mem hm).2.1).symm.trans e;injection e),S.ok,S.fresh,λb Kj=>?_,S.nodup,S.len,λi o p e e'=>?_⟩
 .obtain⟨ob,e,c⟩:=S.qG b Kj
  exact⟨ob,g _ _ e (Ku _ (cC.mpr (.inr Kj))),c⟩
 .exact(S.objs i o p e e').mono vm (λob z=>g _ _ z (Ku _ (eB e'))) λob z zs=>⟨ob.slots,g _ _ z (soft _ _ z zs)⟩
end
section
variable {h h':Heap}{D:List Addr}
theorem uF (h:bI o=true) :∀vs,o.data≠.fields vs:=λ_ q=>Bool.noConfusion (show false=true from(aP eJ q).symm.trans h)
theorem sR {h':Heap}{as:List Addr}(keep :∀b o,h.get? b=some o->h'.get? b=some o) :∀{l:List Env},iV l Z h->(∀L∈nX l,L∈as)->h'.FunFrames (hideAll h as) l:=by
 intro y
 induction y with
 |nil=>
  intro _ _;exact trivial
 |cons env l ih=>
  intro V Tx;refine ct λG hG=>?_;obtain⟨hk,L,o,hf,hn,hb,ho,hs⟩:=V env (.head _);refine hG ?_;refine⟨hk,⟨L,o,hf,hideAll_none _ (Tx L (rn.mpr ⟨env,.head _,hf⟩)),keep _ _ ho,uF hs⟩,ih (λe he=>V e (.tail _ he)) λL' hL'=>?_⟩;obtain⟨e,he,DW⟩:=rn.mp hL';exact Tx L' (rn.mpr ⟨e,.tail _ he,DW⟩)
theorem qd {x:Str}{me:Expr}(hx:sc.names.lookup x=some .globalImplicit)(hc4:W.cls c=72)(e:nsIn W.K mainGlobals x=some (some (.ref 72)))(hd :(x ==("__debug__" : Str))=false)(hK:W.K.lookup 72=some Mw)(X:Bm)(hk:keepIn W.K (.ref 72)=true)(hp:dc qF [me])(he :∀env:Env,starEach [me] env =(false,eval me env)::starEach [] env)(hm :∀(a:Act),b9 n a->a.env.scope=sc->∀(Z:dW) (U:bw) (s:Shared),St Z U s->∀(Q:iN) (E:iN),(∀mv tk,Q mv {s with toks:=tk})->wpAny bS a.A (eval me a.env) Q E s) :
  jT n sc (.Raise (some (.Call (.Name x np) [me] [] qF)) none pos) (kq c):=by
 intro a ok bJ Z U fr s S F Q E p;subst bJ;refine rl (arm_exec_Raise ..) ?_;refine wb (wpAny_standAt (D4 ok.hand ?_));refine wb (cB (Q:=λv s'=>∃e oe,v=.ref e/\s'.heap.get? 72=some Mw/\
   s'.heap.get? e=some oe/\oe.cls=.ref 72/\(∃vs,oe.data=.fields vs/\vs[1]? = some .none)/\E (.ref e) s') (Call_Name rfl (i4 ok S hx e hd ?_)) (λv s3 h3=>wb (wpAny_standAt (aw h3))) λ_ _ x=>x)
 refine callWith_of (P:=W.K.In) (rl (hp ..) rfl) (keeps_K hk) (c7 (hp _) (args_cons (hm a ok rfl Z U s S _ _ λmv tk=>?_) (he _)));refine args_nil ⟨S.heap.ok.X.keeps S.heap.base,?_⟩;have S1:St Z U {s with toks:=tk}:=⟨S.heap,S.gens,S.os⟩;refine X.run _ _ _ _ _ S1.heap.base (by have:=ok.depth;exact U8 this) λh' t' ea oe vs a0 keep new Rj hc Dz h1 h0=>?_;have keep :∀b o,s.heap.get? b=some o->h'.get? b=some o:=keep;refine⟨ea,oe,rfl,keep _ _ (S.heap.ok.X.keeps S.heap.base _ _ hK),Rj,hc,⟨vs,Dz,h1⟩,?_⟩;have V:=F.live;have gB :∀b o,s.heap.get? b=some o->b∉nX a.l->(hideAll s.heap (nX a.l)).get? b=some o:=λb o e dg=>hideAll_get _ e dg;refine p Z _ ea (hideAll s.heap (nX a.l)) (.inr ⟨S.gens,S.os,S.heap.Rr V,oe,vs,a0,λb o z=>keep b o (of_hideAll _ z),?_,Rj,hc4▸hc,Dz,h1,h0,?_⟩) ?_ (F.ext (cF.of_keeps keep))
 .cases z :(hideAll s.heap (nX a.l)).get? ea with
  |none=>rfl
  |some o=>have:=of_hideAll _ z;replace this:=(show s.heap.get? ea=none from new).symm.trans this;injection this
 .exact sR keep V λ_ z=>z
 .have Ku :∀b,b∈bH Z->b∉nX a.l:=λb hb hm=>(V.mem hm).1 hb
  refine⟨⟨[],by simp,by simp⟩,rfl,λb hb o z=>gB _ _ z (Ku _ (cC.mpr (.inr hb))),λb o z _ q=>gB _ _ z λhm=>?_,λb o z _ _ _=>⟨o.slots,λhn=>gB _ _ z hn,λ_=>keep _ _ z⟩,
   λb o z _ q=>⟨o,q,λhn=>gB _ _ z hn,λ_=>keep _ _ z⟩,λb o z=>keep b o (of_hideAll _ z)⟩
  obtain⟨_,_,o',ho,hs⟩:=V.mem hm;replace ho:=z.symm.trans ho;injection ho with ho;subst ho;replace q:=hs.symm.trans q;injection q
end
end
section
theorem vB {s1 s2 x:Str}{i:Int}{t:Tok}{k1 k2:Nat}{q1 q2 q3 np pos:Pos}(hx:sc.names.lookup x=some .globalImplicit)(e:nsIn W.K mainGlobals x=some (some (.int i t)))(hd :(x ==("__debug__" : Str))=false)(hi:i.natAbs.log2<1920)(h1 :(Str.empty++s1).length<=sizeLine)(h2 :(Str.empty++s1++(toString i:String)).length<=sizeLine)(h3 :(Str.empty++s1++(toString i:String)++s2).length<=sizeLine) :
  ∀(a:Act),b9 n a->a.env.scope=sc->∀(Z:dW) (U:bw) (s:Shared),St Z U s->∀(Q:iN) (E:iN),(∀mv tk,Q mv {s with toks:=tk})->
   wpAny bS a.A (eval (.JoinedStr [.Constant (.str s1) k1 q1,.FormattedValue (.Name x np) (-1) none q2,.Constant (.str s2) k2 q3] pos) a.env) Q E s:=by
 intro a ok bJ Z U s S Q E h;subst bJ;refine JoinedStr_many (joinParts_cons ?_);refine wpAny_mkText ⟨h1,joinParts_cons (FormattedValue_plain ?_)⟩;have S1:St Z U {s with toks:=s.toks+1}:=⟨S.heap,S.gens,S.os⟩;refine i4 ok S1 hx e hd (formatField_int_small hi ⟨h2,joinParts_cons (wpAny_mkText ⟨h3,joinParts_nil (h _ _) h3⟩)⟩)
end
section
open PySem.SetTable
noncomputable def kY (t:SetTable)(h:Int):Nat->Probe
 |0=>t.probeStart h
 |k+1=>t.advance (kY t h k)
theorem uG (t:SetTable)(p:Probe) :(t.advance p).dummy=p.dummy:=by
 unfold SetTable.advance
 split
 .rfl
 .rfl
theorem D5 (t:SetTable)(h:Int) :∀k,(kY t h k).dummy=none:=by
 intro y
 induction y with
 |zero=>
  exact rfl
 |succ k ih=>
  rw[kY,uG,ih]
theorem vC {h:Int}{hashAt:Nat->Int}{K:Nat}(hK:t.slot (kY t h K).j=.empty) :∀(jI k:Nat),k<=K->K - k<jI->(∀m,k<=m->m<K->∃i,t.slot (kY t h m).j=.live i)->
  SetTable.probe.go t hashAt h jI (kY t h k)=some (.empty (kY t h K).j none)\/
   ∃m i,k<=m/\m<K/\t.slot (kY t h m).j=.live i/\hashAt i=h/\SetTable.probe.go t hashAt h jI (kY t h k)=some (.candidate (kY t h m).j i (kY t h (m+1))):=by
 intro y
 induction y with
 |zero=>
  intro k _ hf _;exact absurd hf (Nat.not_lt_zero _)
 |succ jI ih=>
  intro k hk hf live;by_cases YM:k=K
  .subst YM
   left;rw[SetTable.probe.go,hK];simp only;rw[D5]
  .have eO:k<K:=Nat.lt_of_le_of_ne hk YM
   obtain⟨i,hi⟩:=live k (Nat.le_refl _) eO;by_cases hh:hashAt i=h
   .right
    refine⟨k,i,Nat.le_refl _,eO,hi,hh,?_⟩;rw[SetTable.probe.go,hi];simp only[hh,beq_self_eq_true,if_true];rfl
   .have e:SetTable.probe.go t hashAt h (jI+1) (kY t h k)=SetTable.probe.go t hashAt h jI (kY t h (k+1)):=by
     rw[SetTable.probe.go,hi];have hb :(hashAt i == h)=false:=beq_eq_false_iff_ne.mpr hh;simp only[hb,Bool.false_eq_true,if_false];rfl
    rw[e];rcases ih (k+1) eO (X7 hf eO) (λm h1 h2=>live m (Nat.le_of_succ_le h1) h2) with h1|⟨m,i',h1,h2,h3,h4,h5⟩
    .exact .inl h1
    .exact .inr ⟨m,i',Nat.le_of_succ_le h1,h2,h3,h4,h5⟩
theorem Bn {h:Int}{K:Nat}(hK:t.slot (kY t h K).j=.empty)(nd :∀j,t.slot j≠.dummy) :∃K',K'<=K/\t.slot (kY t h K').j=.empty/\∀m,m<K'->∃i,t.slot (kY t h m).j=.live i:=by
 induction K using Nat.strongRecOn with
 |_ K ih=>
  by_cases hx :∃m,m<K/\t.slot (kY t h m).j=.empty
  .obtain⟨m,hm,he⟩:=hx
   obtain⟨K',h1,h2,h3⟩:=ih m hm he;exact⟨K',q88 ⋯ ⋯,h2,h3⟩
  .refine⟨K,Nat.le_refl _,hK,λm hm=>?_⟩
   cases z:t.slot (kY t h m).j with
   |empty=>exact absurd ⟨m,hm,z⟩ hx
   |dummy=>exact absurd z (nd _)
   |live i=>exact⟨i,rfl⟩
end
section
open PySem.SetTable
noncomputable def eH (t:SetTable)(h:Int):Nat->Nat
 |0=>bits h % (t.mask+1)
 |b+1=>(eH t h b * 5+1+bits h / 32 ^ b / 32) % (t.mask+1)
def kr (t:SetTable)(h:Int)(b r:Nat):Probe:={j:=eH t h b+r,more:=runEnd t.mask (eH t h b) - eH t h b - r,i:=eH t h b,perturb:=bits h / 32 ^ b,dummy:=none}
theorem Oq (mask i:Nat):runEnd mask i - i<=9:=by
 unfold runEnd
 split <;>(first |exact q64 |lia)
theorem yU (t:SetTable)(h:Int)(b r:Nat)(hr:r<runEnd t.mask (eH t h b) - eH t h b):t.advance (kr t h b r)=kr t h b (r+1):=by
 refine(ay (Nat.zero_lt_sub_of_lt hr)).trans ?_;congr 1
theorem xd (t:SetTable)(h:Int)(b:Nat):t.advance (kr t h b (runEnd t.mask (eH t h b) - eH t h b))=kr t h (b+1) 0:=by
 unfold SetTable.advance kr;refine(av (by lia)).trans ?_;simp only[leap,eH,Nat.sub_zero,Nat.add_zero,Nat.pow_succ,Nat.div_div_eq_div_mul]
theorem Kv (t:SetTable)(h:Int)(b k:Nat)(e:kY t h k=kr t h b 0) :∀r,r<=runEnd t.mask (eH t h b) - eH t h b->kY t h (k+r)=kr t h b r:=by
 intro y
 induction y with
 |zero=>
  intro _;exact e
 |succ r ih=>
  intro hr;rw[show k+(r+1) =(k+r)+1 from rfl,kY,ih (Nat.le_of_succ_le hr),yU _ _ _ _ (Nat.lt_of_succ_le hr)]
theorem GR (t:SetTable)(h:Int) :∀b,∃k,k<=10 * b/\kY t h k=kr t h b 0:=by
 intro y
 induction y with
 |zero=>
  exact⟨0,Nat.le_refl _,by simp[kY,SetTable.probeStart,kr,eH]⟩
 |succ b ih=>
  refine ct λG hG=>?_;obtain⟨k,hk,e⟩:=ih;refine hG ?_;refine⟨k+(runEnd t.mask (eH t h b) - eH t h b)+1,?_,?_⟩
  .have:=Oq t.mask (eH t h b);exact q70 ⋯ ⋯
  .rw[kY,Kv t h b k e _ (Nat.le_refl _),xd]
theorem Kw (h:Int):bits h<2 ^ 64:=by
 have h1:=Int.emod_nonneg h (show(2 ^ 64:Int)≠0 by decide);have h2:=Int.emod_lt_of_pos h (show(0:Int)<2 ^ 64 by decide);exact(Int.toNat_lt h1).mpr h2
theorem D6 (h:Int){b:Nat}(hb:13<=b):bits h / 32 ^ b=0:=by
 refine Nat.div_eq_of_lt (Nat.lt_of_lt_of_le (Kw h) ?_)
 calc 2 ^ 64<=32 ^ 13:=by decide
  _<=32 ^ b:=Nat.pow_le_pow_right (by decide) hb
noncomputable def P1 (mask i:Nat):Nat->Nat
 |0=>i
 |m+1=>(P1 mask i m * 5+1) % (mask+1)
theorem D7 (t:SetTable)(h:Int) :∀m,eH t h (13+m)=P1 t.mask (eH t h 13) m:=by
 intro y
 induction y with
 |zero=>
  exact rfl
 |succ m ih=>
  rw[show 13+(m+1) =(13+m)+1 from rfl,eH,D6 h (Nat.le_add_right 13 m),ih,P1]
theorem GS :∀i<8,∀j<8,∃m,m<8/\P1 7 i m=j:=by decide +kernel
theorem D8 :∀i<32,∀j<32,∃m,m<32/\P1 31 i m=j:=by decide +kernel
theorem yV (hd:t.dummies=#[])(hj:j∉t.place.toList):t.slot j=.empty:=by
 unfold SetTable.slot;have h1 :¬((t.place[below t.place j]? == some j)=true):=λe=>by
  rw[beq_iff_eq] at e;exact hj (by rw[<- Array.mem_def];exact Array.mem_of_getElem? e)
 refine rl hd ?_;refine rl (av h1) ?_;exact rl (av (by simp[SetTable.has])) rfl
theorem Kx {mask:Nat} :∀(l:List Nat),l.length<=mask->∃j,j<=mask/\j∉l:=by
 intro l hl;by_cases hx :∃j,j<=mask/\j∉l
 .exact hx
 .exfalso
  have sub:List.range (mask+1) ⊆ l:=λj hj=>by
   by_cases hm:j∈l
   .exact hm
   .exact absurd ⟨j,by have:=List.mem_range.mp hj;exact Nat.le_of_lt_succ this,hm⟩ hx
  have:=(List.nodup_range (n:=mask+1)).length_le_of_subset sub;rw[List.length_range] at this;lia
theorem yW (hm:t.mask=7\/t.mask=31)(hd:t.dummies=#[])(hp:t.place.size<=t.mask)(h:Int) :∃K,K<10 * turns t.mask/\t.slot (kY t h K).j=.empty:=by
 refine ct λG hG=>?_;obtain⟨j,hj,Wv⟩:=Kx t.place.toList (by simpa using hp);have hi:eH t h 13<t.mask+1:=rl (show(13:Nat)=12+1 from rfl)<|Nat.mod_lt _ (Nat.succ_pos _)
 obtain⟨m,hmm,hc⟩ :∃m,m<t.mask+1/\P1 t.mask (eH t h 13) m=j:=by
  rcases hm with e |e
  .rw[e] at hi hj ⊢;exact GS _ hi j (Nat.lt_succ_of_le hj)
  .rw[e] at hi hj ⊢;exact D8 _ hi j (Nat.lt_succ_of_le hj)
 obtain⟨k,hk,e⟩:=GR t h (13+m);refine hG ?_;refine⟨k,?_,?_⟩
 .unfold turns;exact Vk hmm hk
 .refine rl e ?_
  show t.slot (eH t h (13+m)+0)=_;exact rl (Nat.add_zero ..)<|rl (D7 ..)<|rl hc<|yV hd Wv
end
set_option tactic.hygienic true
section
variable {a x:Addr}{k:List V}
theorem D9 (e:t.slot j=.live i):i<t.place.size:=by
 unfold SetTable.slot at e;dsimp only at e
 split at e
 .rename_i hc
  refine ct λG hG=>?_;injection e with e;subst e;rw[beq_iff_eq] at hc;refine hG ?_;exact(Array.getElem?_eq_some_iff.mp hc).1
 .split at e <;> injection e
theorem Bo (ho:s.heap.get? a=some o)(hd:o.data=.set es ep t)(hf:t.place.size=es.size)(hm:t.mask=7\/t.mask=31)(Ww:t.dummies=#[])(hsz:t.place.size<=t.mask)(room :(dX).room A)(hx :(dX).is s.heap k x)(Tz :∀e∈es.toList,∃k' p,e.2=.ref p/\(dX).is s.heap k' p/\k'≠k)(Rt :∀(st:List Value) (Q:Bool->Shared->Prop),(∀v∈st,∃e∈es.toList,e.2=v)->Q false s->wpAny bS A (searchCouldBeSeen (.ref x) st) Q E s){K:Nat}(hK:t.slot (kY t ((dX).hash k) K).j=.empty)(live :∀m,m<K->∃i,t.slot (kY t ((dX).hash k) m).j=.live i)(YN:K<10 * SetTable.turns t.mask){Q:SetFound->Shared->Prop}(hq :∀j,t.slot j=.empty->Q (.free j false) s) :
  ∀(jI m:Nat) (GU:Option SetTable.Probe),m<=K->K - m<jI->GU.getD (t.probeStart ((dX).hash k))=kY t ((dX).hash k) m->
   wpAny bS A (setSearchFrom a (.ref x) ((dX).hash k) true jI GU) Q E s:=by
 intro y
 induction y with
 |zero=>
  intro m _ _ Wx _;exact absurd Wx (Nat.not_lt_zero _)
 |succ jI ih=>
  intro m GU YO Wx Jw;have Ru :¬((t.place.size != es.size||decide (t.fill > t.mask))=true):=by
   simp[hf,SetTable.fill,Ww];exact le_of_eq_of_le (id (Eq.symm hf)) hsz
  have st :∀{P:Array (Int×Value)×Nat×SetTable->Shared->Prop},P (es,ep,t) s->wpAny bS A (setState a) P E s:=λh=>by
   refine aY (wpAny_load ho ?_);refine rl hd ?_;dsimp only;exact rl (av Ru)<|aw h
  have hgw:t.gaveWay=false:=by
   unfold SetTable.gaveWay;rcases hm with e |e <;> rw[e] <;> rfl
  refine(show wpAny _ _ (setState a >>= _) _ _ _ from aY (st ?_));dsimp only;refine rl hgw ?_;simp only[Bool.false_eq_true,if_false,Jw];have go :∀{hashAt:Nat->Int} {Ot:SetTable.Met},t.probe hashAt ((dX).hash k) (kY t ((dX).hash k) m)=some Ot->Ot=.empty (kY t ((dX).hash k) K).j none\/
    ∃m' i,m<=m'/\m'<K/\t.slot (kY t ((dX).hash k) m').j=.live i/\Ot=.candidate (kY t ((dX).hash k) m').j i (kY t ((dX).hash k) (m'+1)):=λ{hashAt Ot} e=>by
   rcases vC (hashAt:=hashAt) hK (10 * SetTable.turns t.mask) m YO (Nat.sub_lt_of_lt YN) (λm' _ h2=>live m' h2) with z|⟨m',i,h1,h2,h3,_,z⟩
   .rw[SetTable.probe,z] at e;injection e with e;subst e;exact .inl rfl
   .rw[SetTable.probe,z] at e;injection e with e;subst e;exact .inr ⟨m',i,h1,h2,h3,rfl⟩
  have no :∀{hashAt:Nat->Int},(∀Ot,t.probe hashAt ((dX).hash k) (kY t ((dX).hash k) m)=some Ot->False)->False:=λ{hashAt} e=>by
   rcases vC (hashAt:=hashAt) hK (10 * SetTable.turns t.mask) m YO (Nat.sub_lt_of_lt YN) (λm' _ h2=>live m' h2) with z|⟨m',i,h1,h2,h3,_,z⟩ <;> exact e _ z
  split
  .rename_i Ot Wy
   rcases go Wy with rfl|⟨m',i,h1,h2,h3,rfl⟩
   .exact aw (hq _ hK)
   .have hi:i<es.size:=rr hf<|D9 h3
    refine ct λG hG=>?_;obtain⟨k',p,e2,hp,dg⟩:=Tz es[i] (by rw[<- Array.mem_def];exact Array.getElem_mem hi);have Wz:es[i]? = some (es[i].1,.ref p):=rl (Array.getElem?_eq_getElem hi)<|rr e2 rfl
    have tail:wpAny bS A (do
      let MU <- holding [Value.ref p] (eqBool (Value.ref p) (Value.ref x))
      let (MM,_,t') <- setState a
      if true&&MU then return .there none
      let some same:=t'.sameMemory t.moves t.mask |unsupported "set.changed-during-lookup:is-the-new-block-at-the-old-address"
      let Rv <- match (if same then t'.slot (kY t ((dX).hash k) m').j else .empty) with
       |.live i'=>match MM[i']? with
        |some (_,y')=>do pure (if <- isSame y' (Value.ref p) then some i' else none)
        |none=>pure none
       |_=>pure none
      match Rv with
      |none=>rule "set.search.anew";setSearchFrom a (.ref x) ((dX).hash k) true jI none
      |some i'=>if MU then return .there (some i') else setSearchFrom a (.ref x) ((dX).hash k) true jI (some (kY t ((dX).hash k) (m'+1)))) Q E s:=by
     refine wb (cQ ((dX).eqBool room hp hx ?_));refine rl (cI dg)<|aY (st ?_)
     have sm:t.sameMemory t.moves t.mask=some true:=by unfold SetTable.sameMemory;exact rl (ay (by simp)) rfl
     dsimp only;refine rl (av (by decide))<|rl sm ?_
     dsimp only;refine rl (ay rfl)<|rl h3 ?_
     dsimp only;refine rl Wz<|wb (m:=isSame (.ref p) (.ref p)) ?_
     unfold isSame;dsimp only;refine rl (ay (by simp))<|aw (wb (aw ?_))
     exact ih (m'+1) (some _) h2 (Up Wx h1 h2) rfl
    refine hG ?_;dsimp only;by_cases hl :(!t.led)=true
    .refine rl (ay hl)<|aY (Rt _ _ (λv hv=>?_) ?_)
     .obtain⟨e,he,rfl⟩:=dz hv
      exact⟨e,by rw[Array.mem_toList_iff] at he ⊢;exact(Array.mem_filter.mp he).1,rfl⟩
     .exact rl (av (by decide))<|rl Wz<|tail
    .exact rl (av hl)<|rl Wz<|tail
  .rename_i An
   exact(no An).elim
end
set_option tactic.hygienic false
section
variable {x:Addr}{xs:Array Value}
theorem pD {y:Str}{t:Tok}{r:List Value}{Q:Bool->Shared->Prop}(ho:s.heap.get? x=some o)(hc:o.cls=.type "tuple")(hd:o.data=.seq xs n)(hx:xs.toList=.str y t::r)(hq:Q false s) :
  wpAny (model prog w) A (hashByValue 8 (.ref x)) Q E s:=by
 have hT:s.TypeIs (.ref x) "tuple":=⟨o,ho,hc⟩;have hl:typeLookup (.type "tuple") "__hash__" = pure (some (.builtin "tuple.__hash__")):=by refine rl (typeLookup_type ..)<|rl builtinLookup_eq_fast ?_;kernel_rfl
 refine wb (wpAny_specialOf hT hl ?_);refine aY (aY (wpAny_load ho ?_));refine rl hd<|aw ?_
 dsimp only[Option.getD];obtain⟨l⟩:=xs;simp only at hx;subst hx;refine rr Array.forIn_toList ?_;refine rl (List.forIn_cons ..)<|wb (wb (wb ?_))
 exact rl (show hashByValue 7 (.str y t)=pure false from rfl)<|aw (aw (aw (aw hq)))
end
section
variable {x:Addr}{xs:Array Value}
theorem Ea (d:Nat){v:Value}(h :∀a,v≠.ref a):ofAClassStatement d v=pure false:=by
 cases v <;> first |exact absurd rfl (h _) | (cases d <;> rfl)
theorem Bp {l:List Value}(h :∀v∈l,∀a,v≠.ref a){Q:Bool->Shared->Prop}(hq:Q false s) :
  wpAny M A (do for y in l do {if <- ofAClassStatement 7 y then return true};return false) Q E s:=by
 induction l with
 |nil=>exact aw hq
 |cons v l ih=>
  exact rl (List.forIn_cons ..)<|rl (Ea 7 (h v (.head _)))<|ih λv hv=>h v (.tail _ hv)
theorem sS {Q:Bool->Shared->Prop}(ho:s.heap.get? x=some o)(hc:o.cls=.type "tuple")(hd:o.data=.seq xs n)(hx :∀v∈xs.toList,∀a,v≠.ref a)(hq:Q false s) :
  wpAny M A (ofAClassStatement 8 (.ref x)) Q E s:=by
 unfold ofAClassStatement;refine aY (wpAny_typeOf (T:="tuple") (show s.TypeIs (.ref x) "tuple" from⟨o,ho,hc⟩) ?_);dsimp only;refine rl (ay (by decide))<|aY (aw ?_)
 refine rl (av (by decide))<|aY (aY (wpAny_load ho ?_))
 refine rl hd<|aw ?_
 dsimp only;exact rr Array.forIn_toList<|Bp hx hq
end
noncomputable def Ou (h:Heap)(p:Addr):Prop:=∃o xs n,h.get? p=some o/\o.cls=.type "tuple"/\o.data=.seq xs n/\∀v∈xs.toList,∀a,v≠Value.ref a
section
variable {x:Addr}{k:List V}
theorem Eb (hx :(dX).is s.heap k x)(fx:Ou s.heap x){st:List Value}(Jw :∀v∈st,∃p k',v=.ref p/\(dX).is s.heap k' p/\Ou s.heap p){Q:Bool->Shared->Prop}(hq:Q false s) :
  wpAny bS A (searchCouldBeSeen (.ref x) st) Q E s:=by
 obtain⟨ox,xs,n,ho,hc,hd,hf⟩:=fx;refine wb ?_;refine cB (Q:=λr s'=>r =(none,())/\s'=s) ?_ (λr s' z=>by obtain⟨rfl,rfl⟩:=z;exact aw hq) λ_ _ z=>z
 induction st with
 |nil=>exact aw ⟨rfl,rfl⟩
 |cons v l ih=>
  refine ct λG hG=>?_;obtain⟨p,k',rfl,hp,op,ys,m,P6,ML,Kf,vx⟩:=Jw v (.head _);have next:=ih λu hu=>Jw u (.tail _ hu);refine hG ?_;refine rl (List.forIn_cons ..) ?_;by_cases hv :(x == p||carriedByValue (.ref x)&&carriedByValue (.ref p))=true
  .exact rl (ay hv)<|next
  .refine rl (av hv)<|wb (aY ((dX).quiet hx ?_))
   refine rl (av (by decide))<|aY ((dX).quiet hp ?_)
   refine rl (av (by decide))<|aY (sS ho hc hd hf ?_)
   refine rl (av (by decide))<|aY (sS P6 ML Kf vx ?_)
   exact rl (av (by decide))<|aw next
end
theorem mM (xs:Array Y)(p:Nat)(x:Y)(hp:p<=xs.size) :(SetTable.insertAt xs p x).size=xs.size+1:=by
 unfold SetTable.insertAt;simp;exact Uy hp
theorem uH (xs:Array Y)(p:Nat)(x:Y) :(SetTable.insertAt xs p x).toList.Perm (xs.toList++[x]):=by
 unfold SetTable.insertAt;have e :((xs.extract 0 p).push x++xs.extract p xs.size).toList=xs.toList.take p++x::xs.toList.drop p:=by
  simp;exact rl (List.take_of_length_le (by simp)) rfl
 refine rl e <| (List.perm_middle).trans ?_
 exact rl (List.take_append_drop ..) <| (List.perm_append_singleton x xs.toList).symm
theorem yX (xs:Array Nat)(j:Nat) :∀(jI lo hi:Nat),lo<=xs.size->hi<=xs.size->SetTable.below.go xs j jI lo hi<=xs.size:=by
 intro y
 induction y with
 |zero=>
  intro lo hi h1 _;rw[SetTable.below.go];exact h1
 |succ jI ih=>
  intro lo hi h1 h2;rw[SetTable.below.go]
  split
  .dsimp only
   split
   .exact ih _ _ (Qt ⋯ ⋯) h2
   .exact ih _ _ h1 (US ⋯ ⋯)
  .exact h1
theorem yY (xs:Array Nat)(j:Nat):SetTable.below xs j<=xs.size:=yX xs j _ _ _ (Nat.zero_le _) (Nat.le_refl _)
theorem xe (j:Nat):SetTable.has #[] j=false:=by
 unfold SetTable.has;simp
def hJ:Bool:=W.w.params.followText "set-order"
structure CE (es:Array (Int×Value))(t:SetTable)(ps:List Addr):Prop where
 fit:t.place.size=es.size
 mask:t.mask=7\/t.mask=31
 P7:t.dummies=#[]
 room:es.size * 5<t.mask * 3
 led:t.led=!hJ
 plain:0<es.size->t.plain=false
 elems :(es.toList.map (·.2)).Perm (ps.map .ref)
noncomputable def Ov (h:Heap)(a:Addr)(ps:List Addr):Prop:=∃o es ep t,h.get? a=some o/\o.ExactSet/\o.data=.set es ep t/\CE es t ps
section
variable {a x:Addr}{k:List V}{ps:List Addr}
theorem CE.len (T:CE es t ps):es.size=ps.length:=by
 have:=T.elems.length_eq
 simpa using this
theorem qe (ho:s.heap.get? a=some o)(hd:o.data=.set es ep t)(T:CE es t ps){P:Array (Int×Value)×Nat×SetTable->Shared->Prop}(h:P (es,ep,t) s) :
  wpAny bS A (setState a) P E s:=by
 refine wpAny_setState_of ho hd ?_ h;have:=T.room;simp only[SetTable.fits,SetTable.fill,T.fit,T.P7,Bool.and_eq_true,beq_iff_eq,decide_eq_true_eq];refine⟨trivial,?_⟩;simp;exact Cm this rfl
theorem sT {h:Heap}(ho:h.get? a=some o)(hd:o.data=.set es ep t)(MM:Array (Int×Value))(t':SetTable) :
  (h.update a (Obj.putSet MM t')).get? a=some {o with data:=.set MM (ep+1) t'}:=by
 have:=Heap.get?_update_self (Obj.putSet MM t') ho (rl (putSet_of MM t' hd) rfl);rw[putSet_of MM t' hd] at this;exact this
end
structure ml (h:Heap)(k:List V)(x:Addr):Prop where
 is :(dX).is h k x
 obj :∃o xs n y t r,h.get? x=some o/\o.cls=.type "tuple"/\o.data=.seq xs n/\xs.toList=.str y t::r/\∀v∈r,∀a,v≠Value.ref a
theorem ml.flat {h:Heap}{k:List V}{x:Addr}(T:ml h k x):Ou h x:=by
 refine ct λG hG=>?_;obtain⟨o,xs,n,y,t,r,ho,hc,hd,hx,hr⟩:=T.obj;refine hG ?_;refine⟨o,xs,n,ho,hc,hd,λv hv a=>?_⟩;rw[hx] at hv;rcases b8 hv with rfl |hv
 .exact λe=>nomatch e
 .exact hr v hv a
section
variable {a x:Addr}{k:List V}{ps:List Addr}
theorem yZ (T:Ov s.heap a ps)(room :(dX).room A)(hx:ml s.heap k x)(hps :∀p∈ps,∃k',ml s.heap k' p/\k'≠k)(hn:ps.length<4){Q:Bool->Shared->Prop}(h :∀h' tk,Heap.SameBut a s.heap h'->Ov h' a (ps++[x])->Q true {s with heap:=h',toks:=tk}):wpAny bS A (setAdd a (.ref x)) Q E s:=by
 refine ct λG hG=>?_;obtain⟨o,es,ep,t,ho,Rw,hd,T⟩:=T;have hlen:=T.len;refine hG ?_;refine cQ (wb ((dX).pyHash room hx.is ?_));generalize htk:s.toks+(dX).draws k=tk;have P6 :({s with toks:=tk}:Shared).heap.get? a=some o:=ho;refine cQ ?_;refine aY (qe P6 hd T ?_);dsimp only;refine rl (av (show¬(byScan (.ref x) es=true) from Bool.false_ne_true))<|ct λG hG=>?_
 obtain⟨K0,YQ,eK0⟩:=yW T.mask T.P7 (Cm T.room T.fit) ((dX).hash k);obtain⟨K,YR,eK,live⟩:=Bn eK0 (λj=>by
  unfold SetTable.slot;dsimp only
  split
  .exact λe=>nomatch e
  .exact rl T.P7<|rl (xe ..)<|λe=>nomatch e)
 have Tz :∀e∈es.toList,∃k' p,e.2=.ref p/\ml s.heap k' p/\k'≠k:=λe he=>by
  have hm:e.2∈ps.map Value.ref:=T.elems.mem_iff.mp (List.mem_map.mpr ⟨e,he,rfl⟩);obtain⟨p,hp,e2⟩:=dz hm;obtain⟨k',h1,h2⟩:=hps p hp;exact⟨k',p,e2.symm,h1,h2⟩
 have Ow:SetTable.turns t.mask<=46:=by
  unfold SetTable.turns;rcases T.mask with e |e <;> rw[e] <;>(first |decide |lia)
 refine hG ?_;refine wb (Bo (s:={s with toks:=tk}) P6 hd T.fit T.mask T.P7 (Cm T.room T.fit) room hx.is
  (λe he=>let ⟨k',p,h1,h2,h3⟩:=Tz e he;⟨k',p,h1,h2.is,h3⟩)
  (λst Q' Jw hq=>Eb (s:={s with toks:=tk}) hx.is hx.flat (λv hv=>by
   refine ct λG hG=>?_;obtain⟨e,he,rfl⟩:=Jw v hv;obtain⟨k',p,h1,h2,_⟩:=Tz e he;refine hG ?_;exact⟨p,k',h1,h2.is,h2.flat⟩) hq)
  eK live (bO YR YQ) (λj hj=>?_) 100000 0 none (Nat.zero_le _) (Vo YQ YR Ow) rfl)
 refine aY (qe P6 hd T ?_);have WA:t.put j =({t with place:=SetTable.insertAt t.place (SetTable.below t.place j) j,dummies:=#[]},SetTable.below t.place j):=by
  unfold SetTable.put;exact rl T.P7<|rl (xe ..)<|rl (av Bool.false_ne_true) rfl
 refine rl WA ?_;have hb:SetTable.below t.place j<=es.size:=rr T.fit<|yY _ _
 have hsz :(SetTable.insertAt es (SetTable.below t.place j) ((dX).hash k,Value.ref x)).size=es.size+1:=mM _ _ _ hb;have WB :(SetTable.insertAt t.place (SetTable.below t.place j) j).size=es.size+1:=rl (mM _ _ _ (by rw[T.fit];exact hb))<|rl T.fit rfl
 have hpm:=uH es (SetTable.below t.place j) ((dX).hash k,Value.ref x);have WC :((SetTable.insertAt es (SetTable.below t.place j) ((dX).hash k,Value.ref x)).toList.map (·.2)).Perm ((ps++[x]).map .ref):=by
  refine(hpm.map _).trans ?_;exact rl List.map_append<|rl List.map_append<|T.elems.append_right _
 have key :∀(t2:SetTable),t2 ={t with place:=SetTable.insertAt t.place (SetTable.below t.place j) j,dummies:=#[],plain:=false}->
   wpAny bS A (do
    storeSet a (SetTable.insertAt es (SetTable.below t.place j) ((dX).hash k,Value.ref x)) t2
    if (!false&&t2.tooFull)=true then do
     setRelay a (SetTable.grown (es.size+1))
     pure true
    else pure true) Q E {s with toks:=tk}:=by
  intro t2 e2;refine wb (wpAny_storeSet_of P6 hd ?_ (by refine rl hsz<|rl sizeLine_eq ?_;exact Qz ⋯ ⋯ (by rfl)))
  have hg:=sT ho hd (SetTable.insertAt es (SetTable.below t.place j) ((dX).hash k,Value.ref x)) t2;have rh:=dP s.heap a (Obj.putSet (SetTable.insertAt es (SetTable.below t.place j) ((dX).hash k,Value.ref x)) t2);by_cases y3:t2.tooFull=true
  .have Bq :(es.size+1) * 5 >= t.mask * 3:=by
    subst e2
    simpa [SetTable.tooFull,SetTable.fill,WB] using y3
   rcases T.mask with e |e <;> rw[e] at Bq <;> lia
  .refine rl (av (by simp[y3]))<|aw (h _ tk rh ⟨_,_,_,_,hg,⟨Rw.1,Rw.2.1,Rw.2.2⟩,rfl,?_⟩)
   have Bq :¬(es.size+1) * 5 >= t.mask * 3:=by
    subst e2
    simpa [SetTable.tooFull,SetTable.fill,WB] using y3
   refine⟨by subst e2;exact rl hsz<|WB,by subst e2;exact T.mask,by subst e2;rfl,?_,by subst e2;exact T.led,λ_=>by subst e2;rfl,WC⟩
   refine rl hsz ?_;subst e2;exact Nat.lt_of_not_le Bq
 by_cases yq:t.plain=true
 .refine rl (ay yq)<|ct λG hG=>?_
  obtain⟨ox,xs,n,y,tt,r,Rx,YS,Cz,Ry,_⟩:=hx.obj;refine hG ?_;refine wb (pD (s:={s with toks:=tk}) Rx YS Cz Ry ?_);exact key _ rfl
 .refine rl (av yq)<|wb (aw ?_)
  refine key _ ?_;have:t.plain=false:=by simpa using yq
  exact rr this rfl
end
section
variable {I:Addr}{h h':Heap}
theorem de.other (x:de Z h I vs)(e:gq S h h')(dg:I≠S):de Z h' I vs:=by
 cases x with
 |list hi hl hm hn r=>
  refine ct λG hG=>?_;obtain⟨o,ho,hc,hd⟩:=hi;obtain⟨ol,kX,rf,k,ph⟩:=hl;refine hG ?_;exact .list ⟨o,e.same _ _ dg ho,hc,hd⟩ ⟨ol,e.get kX (dR rf),rf,k,ph⟩ hm hn (r.side e)
 |tup hi hl hm hn r=>
  refine ct λG hG=>?_;obtain⟨o,ho,hc,hd⟩:=hi;obtain⟨ol,kX,rf,k,ph⟩:=hl;refine hG ?_;exact .tup ⟨o,e.same _ _ dg ho,hc,hd⟩ ⟨ol,e.get kX (kK rf),rf,k,ph⟩ hm hn (r.side e)
 |range hi hv=>exact .range (e.same _ _ dg hi) hv
 |str hi hv=>
  refine ct λG hG=>?_;obtain⟨o,ho,hc,hd⟩:=hi;refine hG ?_;exact .str ⟨o,e.same _ _ dg ho,hc,hd⟩ hv
 |rev hi hl hm hn r hv=>
  refine ct λG hG=>?_;obtain⟨o,ho,hc,hd⟩:=hi;obtain⟨ol,kX,rf,k,ph⟩:=hl;refine hG ?_;exact .rev ⟨o,e.same _ _ dg ho,hc,hd⟩ ⟨ol,e.get kX (dR rf),rf,k,ph⟩ hm hn (r.side e) hv
 |su hi hz hv=>exact .su (e.same _ _ dg hi) hz hv
theorem GV {d7:List V->Heap->Prop}{all:List V}(TA:I≠S)(hh:A.handled=none)(bJ :∀d h,d7 d h->∃o,h.get? S=some o/\fq o)(Ba :∀d h h',d7 d h->gq I h h'->d7 d h')(Ox :∀(d l:List V) (v:V) (s:Shared) (mv:Value) (Q:Bool->Shared->Prop),all=d++v::l->d7 d s.heap->aH Z s.heap v mv->
   (∀b h' tk,Heap.SameBut S s.heap h'->d7 (d++[v]) h'->Q b {s with heap:=h',toks:=tk})->wpAny bS A.in1 (setAdd S mv) Q (λe s'=>R (.error e) s') s) :
  ∀(left done:List V) (s:Shared),all=done++left->de Z s.heap I left->d7 done s.heap->
   (∀h' tk,(∀b o,b≠S->b≠I->s.heap.get? b=some o->h'.get? b=some o)->d7 all h'->R (.ok (.ret .none)) {s with heap:=h',toks:=tk})->
   codeAny bS A (.builtin "set.update.loop" ⟨[.ref S,.ref I],[]⟩) R s:=by
 have Rz:A.in1.handled=none:=by simp[hh]
 intro left
 induction left with
 |nil=>
  intro done s rV hi Br hR;refine codeAny_builtin PyProof.Rows.F.entry_set_update_loop ?_;refine rl (Around.under_plainId PyProof.Rows.F.plain_set_update_loop _)<|wb (sv Rz hi λh' hs=>?_)
  rw[List.append_nil] at rV;exact aw (hR h' s.toks (λb o _ hb e=>hs.same b o hb e) (rV▸Ba _ _ _ Br hs))
 |cons v left ih=>
  intro done s rV hi Br hR;refine codeAny_builtin PyProof.Rows.F.entry_set_update_loop ?_;refine rl (Around.under_plainId PyProof.Rows.F.plain_set_update_loop _)<|wb (pv hi λh1 tk mv Ky YT rv=>?_)
  have MV:=Ba _ _ _ Br YT;refine wb (cQ (Ox done left v _ mv _ rV MV rv λb h2 YU Ti RA=>?_));have RB:gq S h1 h2:=⟨λb o hb e=>(Ti.2 b hb).trans e,bJ _ _ MV⟩;refine aw ⟨plainId_quiet PyProof.Rows.F.plain_set_update_loop _,ih (done++[v]) _ (by refine rV.trans ?_;simp) (Ky.other RB TA) RA λh3 tk3 k3 RC=>?_⟩;exact hR h3 tk3 (λb o J5 NP e=>k3 b o J5 NP ((Ti.2 b J5).trans (YT.same b o NP e))) RC
end
abbrev dG:Obj:={cls:=.type "set",dict:=none,data:=.set #[] 0 (.fresh 0 0 (!hJ))}
section
theorem y4 (a:Value){Q₁:iN}(h:Q₁ (.ref s.heap.objs.size) {s with heap:=s.heap.push (dG)}) :
  codeAny bS A (.call (.builtin "set.__new__") ⟨[.type "set",a],[]⟩) (wants Q₁ E) s:=by
 refine codeAny_of_tree ?_;refine wb (wpAny_of_eq (PySem.F.newCall_set_1 a) (aw ⟨plainId_quiet PySem.F.plain_set_new _,codeAny_builtin PySem.F.entry_set_new ?_⟩));refine rl (Around.under_plainId PySem.F.plain_set_new _) ?_;unfold Builtin.«set.__new__» Builtin.Frozenset.newClass;have sP:=sub_set_self;obtain⟨hp,g,d,tk,os⟩:=s
 wp_walk
 refine wpAny_askSetting (aw ?_);refine wb (wpAny_alloc (aw ?_));exact aw h
set_option maxHeartbeats 3200000 in
theorem ku {l:Addr}{d7:List V->Heap->Prop}(hh:A.handled=none)(r:aH Z s.heap (.list vs) (.ref l))(bJ :∀d h,d7 d h->∃o,h.get? s.heap.objs.size=some o/\fq o)(Ba :∀d h h' I,d7 d h->gq I h h'->I≠s.heap.objs.size->d7 d h')(h0 :∀h',h'.get? s.heap.objs.size=some (dG)->d7 [] h')(Ox :∀(A':Around) (E':iN) (d l:List V) (v:V) (s':Shared) (mv:Value) (Q:Bool->Shared->Prop),A'.units<=A.units+20->vs=d++v::l->d7 d s'.heap->aH Z s'.heap v mv->
   (∀b h' tk,Heap.SameBut s.heap.objs.size s'.heap h'->d7 (d++[v]) h'->Q b {s' with heap:=h',toks:=tk})->wpAny bS A' (setAdd s.heap.objs.size mv) Q E' s')(h :∀(h':Heap) (tk:Nat),d7 vs h'->(∀b o,b<s.heap.objs.size->s.heap.get? b=some o->h'.get? b=some o)->Q (.ref s.heap.objs.size) {s with heap:=h',toks:=tk}) :
  wpAny bS A (call (.type "set") [.ref l]) Q E s:=by
 obtain⟨c,tl,aac⟩:=PySem.F.called_set.mro;have YV:=PySem.F.called_set.made;have sP:=PySem.F.called_set.sub;refine wpAny_call (codeAny_of_tree ?_);refine aw ⟨Code.quiet_builtin _ (by decide +kernel),codeAny_builtin PySem.F.entry_type_call ?_⟩;refine rl (Around.under_plain (weight_type_call_type "set" [.ref l] []) rfl) ?_;have h1:=PySem.F.called_set.notType;have h2:=PySem.F.called_set.canCreate;have hct:=PySem.F.typeCall_set_1 (.ref l)
 repeat (any_goals (first |assumption |wp_step))
 refine codeAny_mono (y4 (.ref l) (E:=E) (Q₁:=λobj fS=>obj=.ref s.heap.objs.size/\fS ={s with heap:=s.heap.push (dG)}) ⟨rfl,rfl⟩) λWD fS hr=>?_
 cases WD with
 |error e=>exact hr
 |ok fl=>
  cases fl with
  |ret obj=>
   obtain⟨rfl,rfl⟩:=hr;have hS :(s.heap.push (dG)).get? s.heap.objs.size=some (dG):=cD _ rfl;have hT:Shared.TypeIs {s with heap:=s.heap.push (dG)} (.ref s.heap.objs.size) "set":=⟨_,hS,rfl⟩;have RD:=PySem.F.called_set.init.lookup;have Oy:=PySem.F.called_set.init.bind (.ref s.heap.objs.size)
   repeat (any_goals (first |assumption |wp_step))
   refine codeAny_mono (codeAny_call_builtin (R:=wants (λr yG=>r=.none/\∃h' tk,yG ={s with heap:=h',toks:=tk}/\d7 vs h'/\
     (∀b o,b<s.heap.objs.size->s.heap.get? b=some o->h'.get? b=some o)) E) PySem.F.called_set.init.plain PySem.F.entry_set_init (check_set_init_1 hT ?_)) λWE yG GW=>?_
   .have hlS:l<s.heap.objs.size:=by cases r with |list ho=>exact cK ho
    have r1:aH Z (s.heap.push (dG)) (.list vs) (.ref l):=r.mono (cF.push (D:=[]) _ _)
    cases r1 with
    |@list _ _ ol items nl kX rf ph hn rv=>
    obtain⟨aad,YW,YX,WG⟩:=ol;simp only at rf ph;subst rf;subst ph;have aae:=PySem.F.sub_list_set;have aaf:=PySem.F.sub_list_frozenset;have dg :(Value.type "list" == Value.type "dict")=false:=by decide
    have xg :(s.heap.push (dG)).IsList l items:=⟨_,kX,rfl,nl,rfl⟩;unfold Builtin.«set.__init__» noKeywords Builtin.Frozenset.updateFrom;generalize hPI:pyIter=PI
    wp_walk
    subst hPI;refine wpAny_pyIter_list xg ?_;refine wb (wpAny_runValue ?_);have WH :(s.heap.push (dG)).objs.size=s.heap.objs.size+1:=Heap.size_push _ _;have TA :(s.heap.push (dG)).objs.size≠s.heap.objs.size:=by exact rl WH<|Ne.symm (Nat.ne_add_one s.heap.objs.size)
    refine GV (d7:=d7) (all:=vs) (Z:=Z) (S:=s.heap.objs.size) (I:=(s.heap.push (dG)).objs.size) TA (by simp[hh]) bJ (λd h h' hi hs=>Ba d h h' _ hi hs TA)
     (λd l v s' mv Q' e hi rv k=>Ox _ _ d l v s' mv Q' (by simp only[Around.in1_units];exact U9) e hi rv k) vs [] _ rfl
     (.list (l:=l) (i:=0) (ms:=items) ⟨_,cD _ rfl,rfl,rfl⟩ (xg.push _) hn (rl WH<|Nat.ne_of_lt (Nat.lt_succ_of_lt hlS)) ?_) (h0 _ (bT _ hS)) λh' tk k Br=>?_
    .exact rv.mono (cF.push (D:=[]) _ _)
    .skip
     refine aw ?_;refine aw ⟨rfl,h',tk,rfl,Br,λb o hb e=>?_⟩;exact k b o (Nat.ne_of_lt hb) (rl WH<|Nat.ne_of_lt (Nat.lt_succ_of_lt hb)) (bT _ (bT _ e))
   .cases WE with
    |error e=>exact GW
    |ok RE=>
     cases RE with
     |ret r=>
      obtain⟨rfl,h',tk,rfl,Br,Gy⟩:=GW
      repeat (any_goals (first |assumption |wp_step))
      exact h _ _ Br Gy
     |_=>exact GW.elim
  |_=>exact hr.elim
end
theorem dC:Slot "set_iterator" "__next__" "set_iterator.__next__":=
 .of (owner:="set_iterator") (n:="__next__") (by rw[typeLookup_type,builtinLookup_eq_fast];kernel_rfl) (by decide +kernel) (by decide +kernel) (by decide +kernel)
  (by first |exact .inl (by decide +kernel) |exact .inr (by decide +kernel)) (by rw[isSubtype_type];kernel_rfl)
theorem jb:entryFor table "set_iterator.__next__" = some Builtin.«set_iterator.__next__»:=entryFor_of_tree (by kernel_rfl)
theorem ju (a:Value):argsOk "set_iterator.__next__" ⟨[a],[]⟩:=by unfold argsOk;kernel_rfl
theorem qQ:entryFor table "set.__iter__" = some Builtin.«frozenset.__iter__»:=
 entryFor_alias (id':="frozenset.__iter__") (by kernel_rfl) rfl (by decide +kernel) (by kernel_rfl)
theorem jv:Slot "set_iterator" "__iter__" "set_iterator.__iter__":=
 .of (owner:="set_iterator") (n:="__iter__") (by rw[typeLookup_type,builtinLookup_eq_fast];kernel_rfl) (by decide +kernel) (by decide +kernel) (by decide +kernel)
  (by first |exact .inl (by decide +kernel) |exact .inr (by decide +kernel)) (by rw[isSubtype_type];kernel_rfl)
theorem nr:entryFor table "set_iterator.__iter__" = some Builtin.«dict_keyiterator.__iter__»:=
 entryFor_alias (id':="dict_keyiterator.__iter__") (by kernel_rfl) rfl (by decide +kernel) (by kernel_rfl)
theorem ot (a:Value):argsOk "set_iterator.__iter__" ⟨[a],[]⟩:=by unfold argsOk;kernel_rfl
noncomputable def lJ (h:Heap)(S:Addr)(es:Array (Int×Value))(ep:Nat)(t:SetTable):Prop:=∃o,h.get? S=some o/\o.ExactSet/\o.data=.set es ep t/\t.fits es.size=true
noncomputable abbrev fK (first:Value)(i:Int)(S:Addr)(n ep:Nat):Obj:={cls:=.type "set_iterator",dict:=none,data:=.fields #[first,rawInt i,.ref S,rawInt n,rawInt ep],slots:=#[]}
section
variable {I:Addr}
theorem lJ.state (H:lJ s.heap S es ep t){P:Array (Int×Value)×Nat×SetTable->Shared->Prop}(h:P (es,ep,t) s):wpAny bS A (setState S) P E s:=by
 obtain⟨o,ho,_,hd,hf⟩:=H;exact wpAny_setState_of ho hd hf h
theorem lJ.entries (H:lJ s.heap S es ep t){P:Array (Int×Value)->Shared->Prop}(h:P es s):wpAny bS A (setEntries S) P E s:=by
 unfold setEntries;exact wb (H.state (aw h))
theorem vD (hh:A.handled=none){Q:Option Value->Shared->Prop}{f:Obj->Obj}(k :∀h',Heap.ExtBut I s.heap h'->Q none {s with heap:=h'}) :
  wpAny bS A (newExc (.type "StopIteration") [] >>= λe=>(raiseNew e:Sem Fin))
   (λ_ _=>False) (λe s'=>wpAny bS A (do if <- isInstance e (.type "StopIteration") then pure none else throw e) Q E s') s:=by
 refine aY ?_;rw[newExc,newTuple];refine aY (wpAny_newObj_type ?_ (by size_fits));refine aY (m:=firstArgMember _ _) (wpAny_of_eq (a:=Value.none) (by first |rfl | (rw[firstArgMember];rfl)) ?_)
 refine wpAny_newObj_type ?_ (by size_fits);rw[raiseNew];refine wb (wpAny_handled ?_);refine rl hh<|wb (aw (wpAny_throw ?_))
 refine wb (wpAny_isInstance (T:="StopIteration") (b:=true) ⟨_,cD _ rfl,rfl⟩ isSubtype_stop ?_);refine aw (k _ ?_);exact λb o hb e=>bT _ (bT _ e)
theorem qf {r:Option (Value×Nat)}(hh:A.handled=none)(hI:s.heap.get? I=some (fK (rawInt first) i S n ep))(H:lJ s.heap S es ep t)(hn:es.size=n)(dg:I≠S)(CF :∀(A:Around) (E:iN) (Q:Option (Value×Nat)->Shared->Prop),Q r s->wpAny bS A (setNext S first i ep) Q E s){Q:Option Value->Shared->Prop}(k:match r with
   |some (v,nx)=>∀h',h'.get? I=some (fK (rawInt nx) (i+1:Nat) S n ep)->Heap.SameBut I s.heap h'->Q (some v) {s with heap:=h'}
   |none=>∀h',Heap.ExtBut I s.heap h'->Q none {s with heap:=h'}):wpAny bS A (pyNext (.ref I)) Q E s:=by
 have hT:s.TypeIs (.ref I) "set_iterator":=⟨_,hI,rfl⟩;unfold pyNext;refine wb (wpAny_attempt (wpAny_callSpecial?_slot (name:=Str.ofString "__next__") hT dC
  (fF dC hT jb ?_ (ju _))))
 show wpAny _ _ (fieldsOf (.ref I) >>= _) _ _ s;refine wb (wpAny_fieldsOf hI rfl ?_);show wpAny _ _ (setEntries S >>= _) _ _ s;refine wb (H.entries ?_);show wpAny _ _ (if ((es.size:Int) !=(n:Int))=true then _ else _) _ _ s;rw[av (by rw[hn];simp)];show wpAny _ _ (setNext S ((first:Int)).toNat ((i:Int)).toNat ((ep:Int)).toNat >>= _) _ _ s;simp only[Int.toNat_natCast];refine aY (CF _ _ _ ?_)
 cases r with
 |some p=>
  obtain⟨v,nx⟩:=p;dsimp only;refine wb (wpAny_setField hI rfl (by simp) ?_);have TB:=Heap.get?_update_self (Obj.mapFields (·.setIfInBounds 0 (rawInt nx))) hI (by rfl);refine wb (wpAny_setField TB rfl (by simp[Obj.mapFields]) (aw ⟨v,rfl,aw (k _ ?_ ?_)⟩))
  .refine(Heap.get?_update_self _ TB (by rfl)).trans ?_
   simp[Obj.mapFields,fK]
  .exact(dP ..).trans (dP ..)
 |none=>
  dsimp only;refine wb (wpAny_setField hI rfl (by simp) ?_);refine cB (vD (I:=I) (A:=A.in1) (f:=id) (by simp[hh]) (Q:=Q) (E:=E) λh' kk=>?_) (λ_ _ x=>x.elim) λe s' x=>wpAny_of_in1 x;exact k _ ((dP ..).extBut.trans kk)
end
set_option tactic.hygienic true
theorem nt {Y:Type} :∀(l:List Y) (i:Nat) (h:i<l.length),(l[i]::l.eraseIdx i).Perm l
 |x::l,0,_=>by simp
 |x::l,i+1,h=>by
  simp only[List.getElem_cons_succ,List.eraseIdx_cons_succ];exact(List.Perm.swap ..).trans ((nt l i (by simpa using h)).cons x)
theorem xh (next:Nat->Nat) :∀(jI k:Nat) (left:List Y) (fP:Array Y),left.length<=jI->(pickOrder.go next jI k left fP).toList.Perm (fP.toList++left):=by
 intro y
 induction y with
 |zero=>
  intro k left fP h;have:left=[]:=List.length_eq_zero_iff.mp (Nat.eq_zero_of_le_zero h);subst this;rw[List.append_nil];exact .refl _
 |succ jI ih=>
  intro k left fP h;have e0:pickOrder.go next (jI+1) k left fP=match left[next k % left.length]? with |some x=>pickOrder.go next jI (k+1) (left.eraseIdx (next k % left.length)) (fP.push x) |none=>fP:=rfl
  rw[e0]
  cases hx:left[next k % left.length]? with
  |some x=>
   have eO:next k % left.length<left.length:=(List.getElem?_eq_some_iff.mp hx).1;have ih:=ih (k+1) (left.eraseIdx (next k % left.length)) (fP.push x) (by rw[List.length_eraseIdx];split <;>(first |exact Vc ⋯ |lia))
   refine ih.trans ?_;rw[Array.toList_push,cW];refine List.Perm.append_left _ ?_;have e2:left[next k % left.length]=x:=(List.getElem?_eq_some_iff.mp hx).2;rw[<- e2];exact nt _ _ eO
  |none=>
   have:left=[]:=by
    cases left with
    |nil=>rfl
    |cons y ys=>
     have eO:next k % (y::ys).length<(y::ys).length:=Nat.mod_lt _ (by simp);rw[List.getElem?_eq_getElem eO] at hx;injection hx
   subst this;rw[List.append_nil]
theorem vE (next:Nat->Nat)(xs:Array Y) :(pickOrder next xs).toList.Perm xs.toList:=by
 unfold pickOrder;have:=xh next xs.size 0 xs.toList #[] (by simp)
 simpa using this
section
variable {I P:Addr}
theorem pE {src:Source}{Q:Nat->Shared->Prop}(hn:n≠0)(h :∀i d,i<n->Q i {s with drawn:=d}):wpAny M A (choose src n) Q E s:=by
 intro Γ p Ju
 first
  |exact⟨hn,h _ _ (Nat.mod_lt _ (Nat.pos_of_ne_zero hn))⟩
  | (rw[Sem.wp.eq_def];simp only;exact⟨hn,h _ _ (Nat.mod_lt _ (Nat.pos_of_ne_zero hn))⟩)
theorem Ed :∀(n:Nat) (l:List Nat) (s:Shared) {Q:List Nat->Shared->Prop},l.length=n->(∀l' d,l'.Perm l->Q l' {s with drawn:=d})->wpAny bS A (drawOrder n l) Q E s:=by
 intro y
 induction y with
 |zero=>
  intro l s Q hl h;refine ct λG hG=>?_;have:l=[]:=List.length_eq_zero_iff.mp hl;subst this;refine hG ?_;exact aw (h [] s.drawn (.refl _))
 |succ n ih=>
  intro l s Q hl h
  cases l with
  |nil=>simp at hl
  |cons x xs=>
   refine aY (pE (by simp) λi d hi=>?_);refine rl (List.getElem?_eq_getElem hi)<|wb (ih _ _ (by refine List.length_eraseIdx.trans ?_;split <;>(first |exact Vb ⋯ |lia)) λl' d' hp=>aw (h _ d' ?_))
   exact(hp.cons _).trans (nt _ _ hi)
theorem sU {oP:Obj}{xi:Array Value}{pe:Nat}(hh:A.handled=none)(hI:s.heap.get? I=some (fK (.ref P) i S n ep))(H:lJ s.heap S es ep t)(hn:es.size=n)(hP:s.heap.get? P=some oP)(TC:oP.data=.seq xi pe){Q:Option Value->Shared->Prop}(hv :∀v,xi[i]? = some v->∃(j:Nat) (y:Value),v=rawInt j/\es[j]?.map (·.2)=some y/\∀h',h'.get? I=some (fK (.ref P) (i+1:Nat) S n ep)->Heap.SameBut I s.heap h'->Q (some y) {s with heap:=h'})(WI:xi[i]? = none->∀h',Heap.ExtBut I s.heap h'->Q none {s with heap:=h'}):wpAny bS A (pyNext (.ref I)) Q E s:=by
 have hT:s.TypeIs (.ref I) "set_iterator":=⟨_,hI,rfl⟩;refine wb (wpAny_attempt (wpAny_callSpecial?_slot (name:=Str.ofString "__next__") hT dC
  (fF dC hT jb ?_ (ju _))))
 refine(?_:wpAny _ _ (fieldsOf (.ref I) >>= _) _ _ s);refine wb (wpAny_fieldsOf hI rfl ?_);refine aY (H.entries ?_);refine rl (av (by rw[hn];simp))<|aY (wpAny_seqItems hP TC ?_)
 simp only[Int.toNat_natCast]
 cases hp:xi[i]? with
 |some v=>
  refine ct λG hG=>?_;obtain⟨j,y,rfl,hy,k⟩:=hv v hp;refine hG ?_;dsimp only[rawInt];simp only[Int.toNat_natCast];refine ct λG hG=>?_;refine dh hy λe he z1=>?_;subst z1;refine hG ?_;refine wb (aY (H.state ?_));dsimp only;refine rl (av (by simp)) ?_;refine rl he<|aw ?_
  refine wb (wpAny_setField hI rfl (by simp) (aw ⟨e.2,rfl,aw (k _ ?_ ?_)⟩))
  .refine(Heap.get?_update_self _ hI (by rfl)).trans ?_
   simp[Obj.mapFields,fK,rawInt]
  .exact dP ..
 |none=>
  refine wb (wpAny_setField hI rfl (by simp) ?_);have TB:=Heap.get?_update_self (Obj.mapFields (·.setIfInBounds 0 (rawInt 0))) hI (by rfl);refine wb (wpAny_setField TB rfl (by simp) ?_);refine cB (vD (I:=I) (A:=A.in1) (f:=id) (by simp[hh]) (Q:=Q) (E:=E) λh' kk=>?_) (λ_ _ x=>x.elim) λe s' x=>wpAny_of_in1 x;exact WI hp _ (((dP ..).extBut.trans (dP ..).extBut).trans kk)
end
set_option tactic.hygienic false
noncomputable def GX (a b:Array GenState):Prop:=b=a
section
variable {I P:Addr}{oP:Obj}
theorem ou {first:Value}{i:Int}(hI:s.heap.get? I=some (fK first i S n ep))(h:Q (.ref I) s):wpAny bS A (pyIter (.ref I)) Q E s:=by
 have hT:s.TypeIs (.ref I) "set_iterator":=⟨_,hI,rfl⟩;refine wpAny_pyIter_slot hT jv (fF jv hT nr ?_ (ot _));exact aw ⟨_,rfl,"set_iterator",_,hT,dC.lookup,h⟩
theorem xj (slotAt:Nat->Nat)(gA:List Value)(hh:A.handled=none)(dg:I≠S)(hx:oS.ExactSet)(hd:oS.data=.set es ep t)(hf:t.fits es.size=true)(hn:gA.length=es.size)(CF :∀(i:Nat) (s:Shared) (A:Around) (E:iN) (Q:Option (Value×Nat)->Shared->Prop),s.heap.get? S=some oS->i<=es.size->Q ((gA[i]?).map λv=>(v,slotAt (i+1))) s->
   wpAny bS A (setNext S (slotAt i) i ep) Q E s) :
  WalksS W.prog W.w A I [I,S] [I] GX es.size (λi v=>gA[i]? = some v) (λi s=>s.heap.get? I=some (fK (rawInt (slotAt i)) i S es.size ep)/\s.heap.get? S=some oS) where
 sub b hb:=List.mem_cons.mpr (.inl (dM hb))
 grefl _:=rfl
 gtrans a b c h1 h2:=Eq.trans h2 h1
 frame i s h' tk st _ k:=⟨k I (by simp) _ st.1,k S (by simp) _ st.2⟩
 item i s Q E hi st hQ:=by
  have eO:i<gA.length:=Nat.lt_of_lt_of_eq hi (id (Eq.symm hn));refine qf (r:=some (gA[i],slotAt (i+1))) hh st.1 ⟨oS,st.2,hx,hd,hf⟩ rfl dg (λA E Q q=>CF i s A E Q st.2 (Nat.le_of_succ_le hi) (rl (List.getElem?_eq_getElem eO)<|q)) ?_
  intro h' e1 sb;exact hQ _ _ (List.getElem?_eq_getElem eO) ⟨e1,(sb.2 S (Ne.symm dg)).trans st.2⟩ ⟨λb o hb e=>(sb.2 b (by simpa using hb)).trans e,rfl,rfl,rfl,Nat.le_refl _⟩
 done s Q E st hQ:=by
  refine qf (r:=none) hh st.1 ⟨oS,st.2,hx,hd,hf⟩ rfl dg (λA E Q q=>CF es.size s A E Q st.2 (Nat.le_refl _) (rl (List.getElem?_eq_none (Nat.le_of_eq hn))<|q)) ?_
  intro h' k;exact hQ _ ⟨λb o hb e=>k b o (by simpa using hb) e,rfl,rfl,rfl,Nat.le_refl _⟩
 self i s Q E st h:=ou st.1 h
theorem y5 (idx:List Nat)(hh:A.handled=none)(dg:I≠S)(hnP:I≠P)(hx:oS.ExactSet)(hd:oS.data=.set es ep t)(hf:t.fits es.size=true)(hp:idx.Perm (List.range es.size))(TC:oP.data=.seq (idx.map λj=>rawInt (j:Nat)).toArray 0) :
  WalksS W.prog W.w A I [I,S,P] [I] GX es.size (λi v=>((idx.map λj=>(es.getD j (0,.none)).2))[i]? = some v)
   (λi s=>s.heap.get? I=some (fK (.ref P) i S es.size ep)/\s.heap.get? S=some oS/\s.heap.get? P=some oP) where
 sub b hb:=List.mem_cons.mpr (.inl (dM hb))
 grefl _:=rfl
 gtrans a b c h1 h2:=Eq.trans h2 h1
 frame i s h' tk st _ k:=⟨k I (by simp) _ st.1,k S (by simp) _ st.2.1,k P (by simp) _ st.2.2⟩
 item i s Q E hi st hQ:=by
  have hl:idx.length=es.size:=by rw[hp.length_eq,List.length_range]
  have eO:i<idx.length:=Nat.lt_of_lt_of_eq hi (id (Eq.symm hl));refine sU hh st.1 ⟨oS,st.2.1,hx,hd,hf⟩ rfl st.2.2 TC (λv hv=>?_) (λhv=>?_)
  .have hj:idx[i]<es.size:=List.mem_range.mp (hp.mem_iff.mp (List.getElem_mem eO))
   refine⟨idx[i],(es.getD idx[i] (0,.none)).2,?_,?_,λh' e1 sb=>?_⟩
   .simp[eO] at hv;exact hv.symm
   .simp[Array.getD,hj]
   .exact hQ _ _ (by simp[eO]) ⟨e1,(sb.2 S (Ne.symm dg)).trans st.2.1,(sb.2 P (Ne.symm hnP)).trans st.2.2⟩ ⟨λb o hb e=>(sb.2 b (by simpa using hb)).trans e,rfl,rfl,rfl,Nat.le_refl _⟩
  .simp at hv;exact VH ⋯ ⋯
 done s Q E st hQ:=by
  have hl:idx.length=es.size:=by rw[hp.length_eq,List.length_range]
  refine sU hh st.1 ⟨oS,st.2.1,hx,hd,hf⟩ rfl st.2.2 TC (λv hv=>?_) (λhv h' k=>?_)
  .simp at hv;obtain⟨a,ha,_⟩:=hv;rw[List.getElem?_eq_none (Nat.le_of_eq hl)] at ha;injection ha
  .exact hQ _ ⟨λb o hb e=>k b o (by simpa using hb) e,rfl,rfl,rfl,Nat.le_refl _⟩
 self i s Q E st h:=ou st.1 h
theorem GY {gA:List Value}{bh:Array Value}(h:ItemsOf (λi v=>gA[i]? = some v) bh n)(hn:gA.length=n):bh.toList=gA:=by
 apply List.ext_getElem?
 intro i;by_cases hi:i<bh.size
 .rw[h.2 i bh[i] (Array.getElem?_eq_getElem hi),Array.getElem?_toList,Array.getElem?_eq_getElem hi]
 .refine(Array.getElem?_toList).trans ((Array.getElem?_eq_none (Nat.le_of_not_lt hi)).trans ?_);rw[List.getElem?_eq_none (by rw[hn,<- h.1];exact Nat.le_of_not_lt hi)]
theorem GZ {idx:List Nat}(hp:idx.Perm (List.range es.size)) :(idx.map λj=>(es.getD j (0,.none)).2).Perm (es.toList.map (·.2)):=by
 refine(hp.map _).trans ?_;have :(List.range es.size).map (λj=>(es.getD j (0,Value.none)).2)=es.toList.map (·.2):=by
  apply List.ext_getElem
  .simp
  .intro i h1 h2
   simp at h1;simp[Array.getD,h1]
 rw[this]
end
noncomputable def jc (es:Array (Int×Value))(t:SetTable):Prop:=hJ=true\/(hJ=false/\es.size<=1/\t.led=true)\/(hJ=false/\2<=es.size/\t.plain=false)
theorem y6 (a:Addr):setDrawn a =(do
 let (es,_,t) <- setState a
 let hJ <- setsByText
 return !hJ&&(!t.plain&&es.size > 1)):=rfl
theorem sV (a:Addr)(slot given vF:Nat):setNext a slot given vF =(do
 let (es,RG,t) <- setState a
 if <- setsByText then
  if RG != vF then unsupported "set_iterator.__next__:elements-changed"
  return ((<- setWalk a)[given]?).map λe=>(e.2,slot)
 if !t.plain&&es.size > 1 then unsupported "set_iterator.__next__:the-table-is-plain-no-more"
 (do if !t.led&&!es.isEmpty then unsupported "set:maker-not-led" : Sem Unit)
 let i:=SetTable.below t.place slot
 return match es[i]?,t.place[i]? with
  |some (_,x),some j=>some (x,j+1)
  |_,_=>none):=rfl
theorem vG (p j:Nat):SetTable.below #[p] j=if p<j then 1 else 0:=by
 show SetTable.below.go #[p] j 1 0 1=_;rw[SetTable.below.go];simp
 split <;> rw[SetTable.below.go]
section
theorem mn {Q:Bool->Shared->Prop}(h:Q (hJ) s):wpAny bS A setsByText Q E s:=by
 exact wb (wpAny_askSetting (aw h))
theorem G0 (hS:s.heap.get? S=some oS)(hx:oS.ExactSet)(hd:oS.data=.set es ep t)(hf:t.fits es.size=true)(hw:jc es t)(hz:es.size<=64)(h :∀(I:Addr) (fp:List Addr) (St:Nat->Shared->Prop) (gA:List Value) (h':Heap) (d:Drawn),(∀A:Around,A.handled=none->WalksS W.prog W.w A I fp [I] GX es.size (λi v=>gA[i]? = some v) St)->St 0 {s with heap:=h',drawn:=d}->gA.Perm (es.toList.map (·.2))->
   (∀b∈fp,b<h'.objs.size/\(b=S\/s.heap.objs.size<=b))->s.heap.objs.size<=I->(∀b o,s.heap.get? b=some o->h'.get? b=some o)->Q (.ref I) {s with heap:=h',drawn:=d}) :
  wpAny bS A (pyIter (.ref S)) Q E s:=by
 have hT:s.TypeIs (.ref S) "set":=⟨oS,hS,hx.1⟩;have HS:lJ s.heap S es ep t:=⟨oS,hS,hx,hd,hf⟩;have eO:S<s.heap.objs.size:=cK hS;refine wpAny_pyIter_slot hT PySem.F.slot_set_iter (fF PySem.F.slot_set_iter hT qQ ?_ (PySem.F.args_set_iter_1 _));unfold Builtin.«frozenset.__iter__» Builtin.Frozenset.slot0 slotArgs;simp only[List.isEmpty_nil,Bool.not_true,Bool.false_eq_true,↓reduceIte,bind_assoc,List.length_nil,bne_self_eq_false];refine wb (aw ?_);refine wb (aw ?_);refine wb (wb (HS.entries (aw ?_)));refine rl (y6 ..) ?_;simp only[bind_assoc];refine wb (HS.state ?_);refine wb (mn ?_);refine aY (aw ?_);have WJ :∀{s':Shared} {Q':Nat->Shared->Prop} {A':Around} {E':iN},lJ s'.heap S es ep t->Q' ep s'->wpAny bS A' (setEpoch S) Q' E' s':=λH q=>by
  exact aY (H.state (aw q))
 have G3 :∀(slotAt:Nat->Nat) (gA:List Value) {A':Around} {E':iN},slotAt 0=0->gA.length=es.size->gA.Perm (es.toList.map (·.2))->
   (∀(i:Nat) (s:Shared) (A:Around) (E:iN) (Q:Option (Value×Nat)->Shared->Prop),s.heap.get? S=some oS->i<=es.size->Q ((gA[i]?).map λv=>(v,slotAt (i+1))) s->
    wpAny bS A (setNext S (slotAt i) i ep) Q E s)->
   wpAny bS A' (newFields "set_iterator" [rawInt 0,rawInt 0,.ref S,rawInt es.size,rawInt ep] >>= λv=>ret v) (λfin s'=>∃r,fin=.done (.ret r)/\(∃T' r_1,s'.TypeIs r T'/\typeLookup (.type T') "__next__" = pure (some r_1)/\Q r s')) E' s:=by
  intro slotAt gA A' E' h0 hl hp hn;refine aY (wpAny_newObj_type (aw ⟨_,rfl,"set_iterator",_,⟨_,cD _ rfl,rfl⟩,dC.lookup,?_⟩));have dg:s.heap.objs.size≠S:=Nat.ne_of_gt eO;refine h s.heap.objs.size [s.heap.objs.size,S] _ gA _ s.drawn (λA hh=>xj slotAt gA hh dg hx hd hf hl hn) ⟨?_,bT _ hS⟩ hp (λb hb=>?_) (Nat.le_refl _) λb o e=>bT _ e
  .exact rl h0<|cD _ rfl
  .refine rl (Heap.size_push ..) ?_
   rcases b8 hb with rfl |hb
   .exact⟨Nat.lt_succ_self _,.inr (Nat.le_refl _)⟩
   .exact rl (dM hb)<|⟨Nat.lt_succ_of_lt eO,.inl rfl⟩
 rcases hw with hb|⟨hb,h1,Ee⟩|⟨hb,h2,yq⟩
 .refine rl hb ?_
  refine aY (aw ?_);refine aY (WJ HS ?_);refine G3 (λ_=>0) ((pickOrder (W.w.params.setOrder S ep) es).toList.map (·.2)) rfl (by
   have:=(vE (W.w.params.setOrder S ep) es).length_eq
   simpa using this) ((vE _ _).map _) λi s' A' E' Q' JA hi q=>?_
  have TF:lJ s'.heap S es ep t:=⟨oS,JA,hx,hd,hf⟩;refine rl (sV ..)<|aY (TF.state ?_)
  refine aY (mn ?_);refine rl hb<|rl (ay rfl)<|rl (av (by simp))<|aY (aY (TF.state ?_))
  refine aY (mn ?_);refine rl hb<|rl (ay rfl)<|aY (wpAny_askSetting (aw (aw ?_)))
  have :((pickOrder (W.w.params.setOrder S ep) es)[i]?).map (λe=>(e.2,0)) =(((pickOrder (W.w.params.setOrder S ep) es).toList.map (·.2))[i]?).map λv=>(v,0):=by
   exact rl List.getElem?_map<|rl Array.getElem?_toList<|rl (Option.map_map ..) rfl
  rw[<- this] at q;exact q
 .refine rl hb ?_
  refine rl (av (by simp;exact λa=>(λ{WK WL}=>String.Pos.Raw.mk_le_mk.mp) h1))<|wb (aw ?_)
  refine wb (WJ HS ?_);have hfs:t.place.size=es.size:=by
   rw[SetTable.fits,Bool.and_eq_true,beq_iff_eq] at hf;exact hf.1
  refine G3 (λi=>if i=0 then 0 else t.place.getD (i - 1) 0+1) (es.toList.map (·.2)) rfl (by simp) (.refl _) λi s' A' E' Q' JA hi q=>?_;have TF:lJ s'.heap S es ep t:=⟨oS,JA,hx,hd,hf⟩;refine rl (sV ..)<|wb (TF.state ?_)
  refine aY (mn ?_);refine rl hb<|rl (av Bool.false_ne_true)<|rl (av (by simp;exact λa=>(λ{WK WL}=>String.Pos.Raw.mk_le_mk.mp) h1))<|rl (av (by simp[Ee])) ?_
  have he:es=#[]\/∃e p,es=#[e]/\t.place=#[p]:=by
   rcases Nat.lt_or_ge es.size 1 with hz |hz
   .exact .inl (Array.eq_empty_of_size_eq_zero (Nat.lt_one_iff.mp hz))
   .obtain⟨e,he⟩:=Array.size_eq_one_iff.mp (show es.size=1 by exact Eq.symm (Nat.le_antisymm hz h1))
    obtain⟨p,hp⟩:=Array.size_eq_one_iff.mp (show t.place.size=1 by lia);exact .inr ⟨e,p,he,hp⟩
  rcases he with rfl|⟨e,p,rfl,hp⟩
  .have TG:i=0:=by simp at hi;exact hi
   subst TG;exact aw (by simpa using q)
  .have Ky:i=0\/i=1:=by simp at hi;exact Nat.le_one_iff_eq_zero_or_eq_one.mp hi
   rw[hp] at q ⊢;rcases Ky with rfl |rfl
   .refine rl (ay rfl)<|rl (vG ..)<|aw ?_
    simpa using q
   .refine rl (av (by decide))<|rl (vG ..)<|aw ?_
    simpa using q
 .refine rl hb ?_
  refine rl (ay (by simp[yq];lia))<|wb (Ed es.size (List.range es.size) s (by simp) λl' d hp=>?_)
  refine wb (wpAny_newTuple ?_ (by refine rl (cJ ..)<|rl hp.length_eq<|rl List.length_range<|rl sizeLine_eq ?_;exact q3 ⋯ (by rfl)))
  have HS2:lJ (s.heap.push {cls:=.type "tuple",data:=.seq (l'.map λi=>rawInt (i:Nat)).toArray}) S es ep t:=⟨oS,bT _ hS,hx,hd,hf⟩;refine wb (WJ HS2 ?_);refine wb (wpAny_newObj_type (aw ⟨_,rfl,"set_iterator",_,⟨_,cD _ rfl,rfl⟩,dC.lookup,?_⟩));refine h _ [(s.heap.push {cls:=.type "tuple",data:=.seq (l'.map λi=>rawInt (i:Nat)).toArray}).objs.size,S,s.heap.objs.size] _ (l'.map λj=>(es.getD j (0,.none)).2) _ d
   (λA hh=>y5 (oP:={cls:=.type "tuple",data:=.seq (l'.map λi=>rawInt (i:Nat)).toArray}) l' hh ?_ ?_ hx hd hf hp rfl) ⟨cD _ rfl,bT _ (bT _ hS),bT _ (cD _ rfl)⟩
   (GZ hp) (λb hb=>?_) ?_ λb o e=>bT _ (bT _ e)
  .exact rl (Heap.size_push ..)<|Nat.ne_of_gt (Nat.lt_succ_of_lt eO)
  .exact rl (Heap.size_push ..)<|Nat.ne_of_gt (Nat.lt_succ_self _)
  .refine rl (Heap.size_push ..)<|rl (Heap.size_push ..) ?_
   rcases b8 hb with rfl |hb
   .exact⟨rl (Heap.size_push ..)<|Nat.lt_succ_self _,.inr (rl (Heap.size_push ..)<|Nat.le_succ _)⟩
   .rcases b8 hb with rfl |hb
    .exact⟨Nat.lt_succ_of_lt (Nat.lt_succ_of_lt eO),.inl rfl⟩
    .exact rl (dM hb)<|⟨Nat.lt_succ_of_lt (Nat.lt_succ_self _),.inr (Nat.le_refl _)⟩
  .exact rl (Heap.size_push ..)<|Nat.le_succ _
end
theorem sW:typeLookup (.type "set") "__len__" = pure (some (.builtin "set.__len__")):=PySem.F.slot_set_len.lookup
section
theorem G4 {Q:Bool->Shared->Prop}(hT:s.TypeIs (.ref S) "set")(h:Q false s):wpAny bS A (Builtin.List.listLengthHint (.ref S)) Q E s:=by
 refine aY (wpAny_specialOf hT sW ?_);refine rl (show splitId "set.__len__" = some ("set","__len__") from by decide +kernel)<|wb (wpAny_isInstance hT sub_set_self ?_)
 refine wb (wpAny_typeOf hT ?_);exact aw h
theorem y7 (hh:A.handled=none)(hS:s.heap.get? S=some oS)(hx:oS.ExactSet)(hd:oS.data=.set es ep t)(hf:t.fits es.size=true)(hw:jc es t)(hz:es.size<=64){Q:List Value->Shared->Prop}(h :∀fP h' tk d,fP.Perm (es.toList.map (·.2))->(∀b o,s.heap.get? b=some o->h'.get? b=some o)->Q fP {s with heap:=h',toks:=tk,drawn:=d}) :
  wpAny bS A (collect (.ref S)) Q E s:=by
 refine wb (wpAny_runValue (codeAny_builtin PySem.F.entry_proto_collect ?_));refine rl (Around.under_plainId PySem.F.plain_proto_collect _)<|wb (wpAny_newObj_type ?_)
 refine aw ⟨plainId_quiet PySem.F.plain_list_iadd _,codeAny_builtin PySem.F.entry_list_iadd ?_⟩;refine rl (Around.under_plainId PySem.F.plain_list_iadd _) ?_;have eO:S<s.heap.objs.size:=cK hS;generalize hL:s.heap.objs.size=L at eO ⊢;have YY:L≠S:=Nat.ne_of_gt eO;have RH :(s.heap.push {cls:=.type "list",data:=.seq ([]:List Value).toArray}).get? L=some {cls:=.type "list",data:=.seq ([]:List Value).toArray}:=hL▸cD _ rfl;have WM :(s.heap.push {cls:=.type "list",data:=.seq ([]:List Value).toArray}).get? S=some oS:=bT _ hS;have h1:Builtin.List.listSameRef (.ref L) (.ref S)=false:=by simp[Builtin.List.listSameRef,YY]
 show wpAny _ A.in1 (Builtin.List.listExtendWith (.ref L) (.ref S) (.ref L)) _ _ _;refine wb (wpAny_typeOf (T:="set") ⟨oS,WM,hx.1⟩ ?_);have h2 :(Value.type "set" == Value.type "list")=false:=by decide
 have h3 :(Value.type "set" == Value.type "tuple")=false:=by decide
 simp only[h1,h2,h3,Bool.or_false,Bool.false_eq_true,if_false];refine wb (G0 (s:={s with heap:=s.heap.push {cls:=.type "list",data:=.seq ([]:List Value).toArray}}) WM hx hd hf hw hz λI fp St gA h' d hW Jw hp hfp hI keep=>?_);have hsz :(s.heap.push {cls:=.type "list",data:=.seq ([]:List Value).toArray}).objs.size=L+1:=rl (Heap.size_push ..)<|rl hL rfl
 refine wb (cQ (G4 (A:=A.in1) ⟨oS,keep _ _ WM,hx.1⟩ ?_));refine wb (wpAny_rule ?_);refine wb ?_;have RI:=keep _ _ RH;refine wb (wpAny_updateSeq RI rfl ?_);have TH:=Heap.get?_update_self (Obj.mapSeq (·.push Value.none)) RI rfl;refine wpAny_updateSeq TH rfl ?_;have KA:=Heap.get?_update_self (Obj.mapSeq (·.pop)) TH rfl;have RJ:L∉fp:=λhm=>by
  rcases (hfp L hm).2 with e |e
  .exact YY e
  .rw[hsz] at e;exact Nat.lt_irrefl _ e
 have YZ :∀b o,b≠L->h'.get? b=some o->((h'.update L (Obj.mapSeq (·.push Value.none))).update L (Obj.mapSeq (·.pop))).get? b=some o:=
  λb o hb e=>(Heap.get?_update_other _ _ (Ne.symm hb)).trans ((Heap.get?_update_other _ _ (Ne.symm hb)).trans e)
 have kX:gA.length=es.size:=by
  have:=hp.length_eq
  simpa using this
 have WN:=(hW A.in1 (by simp[hh])).frame 0 {s with heap:=h',drawn:=d} ((h'.update L (Obj.mapSeq (·.push Value.none))).update L (Obj.mapSeq (·.pop))) s.toks Jw (Nat.le_refl _) λb hb o e=>YZ b o (λz=>RJ (z▸hb)) e;refine aw ⟨plainId_quiet PySem.F.plain_extend_loop _,codeAny_extend_loopS (hW A.in1 (by simp[hh])) (by refine rl sizeLine_eq ?_;exact q3 ⋯ (by rfl)) L RJ _ es.size 0 _ _ _ rfl (Nat.zero_le _)
  WN KA (ItemsOf.nil _) λs' jd c' hm JA sX=>?_⟩
 refine wb (wpAny_load JA ?_);show wpAny _ _ (pure jd.toList) _ _ _;refine rl (GY sX kX) ?_;obtain⟨uj,g',d',tk',os'⟩:=s';have e1:g'=s.gens:=hm.gens;have e2:d'=d:=hm.drawn;have e3:os'=s.os:=hm.os;subst e1;subst e2;subst e3;refine aw (h gA uj tk' d' hp λb o e=>?_);have hb:b<L:=hL▸cK e;have e4:=YZ b o (Nat.ne_of_lt hb) (keep _ _ (bT _ e));refine hm.heap b o (λGu=>?_) e4;rcases b8 Gu with z |z
 .exact absurd hb (z▸Nat.lt_irrefl _)
 .rw[dM z] at hb
  have hI':L+1<=I:=bP (Nat.le_of_eq hsz.symm) hI;exact absurd (Nat.lt_of_lt_of_le (Nat.lt_succ_self L) hI') (Nat.lt_asymm hb)
end
noncomputable def ow (dy:List (Nat×Nat))(i j:Nat):Bool:=dy.any λp=>Nat.beq p.1 i&&Nat.beq p.2 j
noncomputable def WO (dy:List (Nat×Nat))(i:Nat):List Nat:=(dy.filter λp=>Nat.beq p.2 i).map (·.1)
noncomputable def RK (dy:List (Nat×Nat))(i:Nat):List Nat:=(dy.filter λp=>Nat.beq p.1 i).map (·.2)
def Oz (dy:List (Nat×Nat))(i j:Nat):List (Nat×Nat):=(i::WO dy i).flatMap (λa=>(j::RK dy j).map λb=>(a,b))++dy
noncomputable def WQ (dy:List (Nat×Nat)):List Nat->Bool
 |i::j::r=>ow dy i j&&WQ dy (j::r)
 |_=>true
noncomputable def G5 (n:Nat)(p:List Nat):Bool:=p.isPerm (List.range n)
noncomputable def Ef (n:Nat):List (Nat×Nat)->KasT (Array Nat)->Bool
 |dy,.ret p=>G5 n p.toList&&WQ dy p.toList
 |dy,.ask i j k=>Nat.blt i n&&Nat.blt j n&&!Nat.beq i j&&
  (if ow dy i j then Ef n dy (k true) else if ow dy j i then Ef n dy (k false)
   else Ef n (Oz dy i j) (k true)&&Ef n (Oz dy j i) (k false))
theorem KC :∀n,2<=n->n<=4->Ef n [] (kas_sort n)=true
 |2,_,_=>by decide +kernel
 |3,_,_=>by decide +kernel
 |4,_,_=>by decide +kernel
 |0,h,_=>Bool.eq_false_imp_eq_true.mp (congrFun rfl)
 |1,h,_=>Bool.eq_false_imp_eq_true.mp (congrFun rfl)
 |n+5,_,h=>by lia
theorem y8 {p:List Nat}(h:G5 n p=true):p.Perm (List.range n):=List.isPerm_iff.mp h
section
variable {lt:Nat->Nat->Prop}
theorem sY (hf :∀p∈dy,lt p.1 p.2)(h:ow dy i j=true):lt i j:=by
 simp only[ow,List.any_eq_true,Bool.and_eq_true] at h;obtain⟨p,hp,e1,e2⟩:=h;exact rr (Nat.eq_of_beq_eq_true e1)<|rr (Nat.eq_of_beq_eq_true e2)<|hf p hp
theorem CG (Eg :∀i j k,lt i j->lt j k->lt i k)(hf :∀p∈dy,lt p.1 p.2)(h:lt i j) :∀p∈Oz dy i j,lt p.1 p.2:=by
 intro p hp;rcases List.mem_append.mp hp with hp |hp
 .obtain⟨a,ha,hp⟩:=List.mem_flatMap.mp hp
  obtain⟨b,hb,rfl⟩:=dz hp;have WR:a=i\/lt a i:=by
   rcases b8 ha with e |ha
   .exact .inl e
   .obtain⟨q,hq,rfl⟩:=dz ha
    obtain⟨WS,WT⟩:=List.mem_filter.mp hq;exact .inr (Nat.eq_of_beq_eq_true WT▸hf q WS)
  have Kj:b=j\/lt j b:=by
   rcases b8 hb with e |hb
   .exact .inl e
   .obtain⟨q,hq,rfl⟩:=dz hb
    obtain⟨WS,WT⟩:=List.mem_filter.mp hq;exact .inr (Nat.eq_of_beq_eq_true WT▸hf q WS)
  have h1:lt i b:=by
   rcases Kj with rfl |Kj
   .exact h
   .exact Eg _ _ _ h Kj
  rcases WR with rfl |WR
  .exact h1
  .exact Eg _ _ _ WR h1
 .exact hf p hp
theorem G6 (Eg :∀i j k,lt i j->lt j k->lt i k){dy:List (Nat×Nat)}(hf :∀p∈dy,lt p.1 p.2) :∀(l:List Nat),WQ dy l=true->l.Pairwise lt
 |[],_=>.nil
 |[i],_=>by simp
 |i::j::r,h=>by
  replace h:=cM h;have ih:=G6 Eg hf (j::r) h.2;have h1:=sY hf h.1;rw[List.pairwise_cons];refine⟨λk hk=>?_,ih⟩;rcases b8 hk with rfl |hk
  .exact h1
  .exact Eg _ _ _ h1 ((List.pairwise_cons.mp ih).1 k hk)
theorem j1 {n:Nat}{ask:Nat->Nat->(Bool->Shared->Prop)->Shared->Prop}{s:Shared}(Eg :∀i j k,lt i j->lt j k->lt i k)(Eh :∀i j,lt i j->lt j i->False)
  (y9 :∀i j,i<n->j<n->i≠j->∀C:Bool->Shared->Prop,(lt i j->C true s)->(lt j i->C false s)->ask i j C s) {Q:Array Nat->Shared->Prop}
  (hQ :∀p:Array Nat,p.toList.Perm (List.range n)->p.toList.Pairwise lt->Q p s) :
  ∀(t:KasT (Array Nat)) (dy:List (Nat×Nat)),(∀p∈dy,lt p.1 p.2)->Ef n dy t=true->t.kasWp ask Q s
 |.ret p,dy,hf,h=>by
  replace h:=cM h;exact hQ p (y8 h.1) (G6 Eg hf _ h.2)
 |.ask i j k,dy,hf,h=>by
  obtain⟨h,h4⟩:=cM h;obtain⟨h,h3⟩:=cM h;obtain⟨h1,h2⟩:=cM h;rw[Nat.blt_eq] at h1 h2;refine y9 i j h1 h2 (λe=>by rw[e] at h3;simp at h3) _ (λMz=>?_) λJv=>?_
  .by_cases xk:ow dy i j=true
   .rw[ay xk] at h4
    exact j1 Eg Eh y9 hQ (k true) dy hf h4
   .rw[av xk] at h4
    by_cases Fw:ow dy j i=true
    .exact(Eh _ _ Mz (sY hf Fw)).elim
    .rw[av Fw,Bool.and_eq_true] at h4
     exact j1 Eg Eh y9 hQ (k true) _ (CG Eg hf Mz) h4.1
  .by_cases xk:ow dy i j=true
   .exact(Eh _ _ Jv (sY hf xk)).elim
   .rw[av xk] at h4
    by_cases Fw:ow dy j i=true
    .rw[ay Fw] at h4
     exact j1 Eg Eh y9 hQ (k false) dy hf h4
    .rw[av Fw,Bool.and_eq_true] at h4
     exact j1 Eg Eh y9 hQ (k false) _ (CG Eg hf Jv) h4.2
end
noncomputable def dO:V->List Nat
 |.tup (.str s::_)=>s
 |_=>[]
noncomputable def je:List V->Bool
 |[]=>true
 |.int _::r=>je r
 |_=>false
def iz:V->Bool
 |.tup (.str s::r)=>s.all (· < 0x110000)&&je r
 |_=>false
def eO (x y:V):Bool:=decide (dO x<dO y)
noncomputable def Bs (x:V):List V->List V
 |[]=>[x]
 |y::ys=>if eO x y then x::y::ys else y::Bs x ys
noncomputable def jw:List V->List V
 |[]=>[]
 |x::xs=>Bs x (jw xs)
noncomputable def jf:List V->Bool
 |[]=>true
 |x::xs=>xs.all (λy=>!(dO x == dO y))&&jf xs
theorem vH (x:V) :∀l,(Bs x l).Perm (x::l):=by
 intro y
 induction y with
 |nil=>
  exact .refl _
 |cons y ys ih=>
  unfold Bs
  split
  .exact .refl _
  .exact((ih).cons y).trans (.swap ..)
theorem nu :∀l,(jw l).Perm l:=by
 intro y
 induction y with
 |nil=>
  exact .refl _
 |cons x xs ih=>
  exact(vH x _).trans ((ih).cons x)
theorem sZ :∀(l:List V),jf l=true↔(l.map dO).Nodup:=by
 intro y
 induction y with
 |nil=>
  simp[jf]
 |cons x xs ih=>
  simp only[jf,Bool.and_eq_true,List.map_cons,List.nodup_cons,ih,List.all_eq_true,Bool.not_eq_true',beq_eq_false_iff_ne,List.mem_map,not_exists,not_and];exact⟨λ⟨h1,h2⟩=>⟨λy hy e=>h1 y hy e.symm,h2⟩,λ⟨h1,h2⟩=>⟨λy hy e=>h1 y hy e.symm,h2⟩⟩
theorem vI {z:V}(h1:eO x y=true)(h2:eO y z=true):eO x z=true:=by
 simp only[eO,decide_eq_true_eq] at *;exact List.lt_trans h1 h2
theorem vJ (h1:eO x y=true)(h2:eO y x=true):False:=by
 simp only[eO,decide_eq_true_eq] at *;exact List.lt_asymm h1 h2
theorem vK (h1:eO x y=false)(h2:eO y x=false):dO x=dO y:=by
 simp only[eO,decide_eq_false_iff_not] at *;exact List.le_antisymm (List.not_lt.mp h2) (List.not_lt.mp h1)
theorem za (x:V) :∀l:List V,(∀y∈l,dO x≠dO y)->l.Pairwise (λa b=>eO a b=true)->(Bs x l).Pairwise (λa b=>eO a b=true):=by
 intro y
 induction y with
 |nil=>
  intro _ _;simp[Bs]
 |cons y ys ih=>
  intro dg h;rw[List.pairwise_cons] at h;unfold Bs;by_cases nQ:eO x y=true
  .rw[ay nQ,List.pairwise_cons]
   refine⟨λz hz=>?_,List.pairwise_cons.mpr h⟩;rcases b8 hz with rfl |hz
   .exact nQ
   .exact vI nQ (h.1 z hz)
  .rw[av nQ,List.pairwise_cons]
   refine⟨λz hz=>?_,ih (λz hz=>dg z (.tail _ hz)) h.2⟩;rcases b8 ((vH x ys).mem_iff.mp hz) with rfl |hz
   .cases hyx:eO y z with
    |true=>rfl
    |false=>exact absurd (vK (by simpa using nQ) hyx) (dg y (.head _))
   .exact h.1 z hz
theorem oz :∀l:List V,(l.map dO).Nodup->(jw l).Pairwise (λa b=>eO a b=true):=by
 intro y
 induction y with
 |nil=>
  intro _;exact .nil
 |cons x xs ih=>
  intro h;rw[List.map_cons,List.nodup_cons] at h;refine za x _ (λy hy e=>h.1 ?_) (ih h.2);exact rl e<|List.mem_map.mpr ⟨y,(nu xs).mem_iff.mp hy,rfl⟩
theorem oA {l l':List V}(p:l'.Perm l)(hl :(l.map dO).Nodup)(h:l'.Pairwise (λa b=>eO a b=true)):l'=jw l:=
 (p.trans (nu l).symm).eq_of_pairwise (λ_ _ _ _ h1 h2=>(vJ h1 h2).elim) h (oz l hl)
section
variable {h h':Heap}
theorem mN {r:List V}(e:je (v::r)=true) :(∃i,v=.int i)/\je r=true:=by
 revert e;cases v with
 |int i=>intro e;exact⟨⟨i,rfl⟩,e⟩
 |_=>intro e;injection e
theorem Ei :∀(r:List V) {ms:List Value},aD Z h r ms->je r=true->∀v∈ms,∀a,v≠Value.ref a:=by
 intro r
 induction r with
 |nil=>intro ms rs _ v hv;cases rs;cases hv
 |cons x r ih=>
  intro ms rs e v hv
  cases rs with
  |cons r1 r2=>
   obtain⟨⟨i,rfl⟩,e2⟩:=mN e
   cases r1;rcases b8 hv with rfl |hv
   .intro a h;injection h
   .exact ih r2 e2 v hv
theorem xl :∀(r:List V),je r=true->V.k6 r=true/\V.cw r=0:=by
 intro r
 induction r with
 |nil=>exact λ_=>⟨rfl,rfl⟩
 |cons x r ih=>
  intro e;obtain⟨⟨i,rfl⟩,e2⟩:=mN e;obtain⟨h1,h2⟩:=ih e2;exact⟨h1,by show max 0 (V.cw r)=0;exact h2.trans rfl⟩
theorem zb (e:iz v=true) :∃y vs,v=.tup (.str y::vs)/\y.all (· < 0x110000)=true/\je vs=true:=by
 cases v with
 |tup vs=>cases vs with
  |nil=>injection e
  |cons x vs=>cases x with
   |str y=>exact⟨y,vs,rfl,cM e⟩
   |_=>injection e
 |_=>injection e
theorem jg (r:aH Z h v mv)(e:iz v=true) :∃k x,v=.tup k/\mv=.ref x/\ml h k x/\
  ∃o xs n t,h.get? x=some o/\o.cls=.type "tuple"/\o.data=.seq xs n/\xs[0]? = some (.str (cL (dO v)) t)/\∃r,xs.toList=.str (cL (dO v)) t::r:=by
 obtain⟨y,jN,rfl,e1,e2⟩:=zb e;obtain⟨a,o,ms,n,rfl,ho,hc,hd,hn,rs⟩:=r.fV;obtain⟨m,WU,em,r1,r2⟩:=rs.cons_inv;obtain⟨t,rfl⟩:=r1.str_inv;obtain⟨k1,k2⟩:=xl _ e2;have h0:ms[0]? = some (.str (cL y) t):=by refine(Eq.symm (Array.getElem?_toList)).trans ?_;exact rl em rfl
 exact⟨.str y::jN,a,rfl,rfl,⟨⟨.tup ho hc hd (by simp[bH,dW.nil]) (rs.plain0 (fD ⟨e1,V.fG k1⟩)),fD ⟨e1,k1⟩,by show max 0 (V.cw jN)<=6;refine rl k2 ?_;decide⟩,o,ms,n,cL y,t,WU,ho,hc,hd,em,Ei _ r2 e2⟩,o,ms,n,t,ho,hc,hd,h0,WU,em⟩
end
section
variable {h h':Heap}
theorem aD.at_ (r:aD Z h vs ms)(hi:i<vs.length):aH Z h (vs.getD i .none) (ms.getD i .none):=by
 refine ct λG hG=>?_;obtain⟨m,e,r'⟩:=r.get i vs[i] (List.getElem?_eq_getElem hi);have e1:vs.getD i .none=vs[i]:=by simp[hi]
 have e2:ms.getD i .none=m:=by simp[e]
 refine hG ?_;rw[e1,e2];exact r'
theorem aD.zc (r:aD Z h vs ms) :∀(p:List Nat),(∀i∈p,i<vs.length)->aD Z h (p.map λi=>vs.getD i .none) (p.map λi=>ms.getD i .none):=by
 intro y
 induction y with
 |nil=>
  intro _;exact .nil
 |cons i p ih=>
  intro hp;exact .cons (r.at_ (hp i (.head _))) (ih λj hj=>hp j (.tail _ hj))
theorem kat_tups {vs:List Value}(rs:aD Z s.heap dQ vs) :(∀v∈dQ,iz v=true)->∃fs,KatTups s.heap vs fs/\fs.length=vs.length/\∀f∈fs,∃y t,f=Value.str y t:=
 rs.ind (P:=λdQ vs=>(∀v∈dQ,iz v=true)->∃fs,KatTups s.heap vs fs/\fs.length=vs.length/\∀f∈fs,∃y t,f=Value.str y t) (λ_=>⟨[],KatTups.nil,rfl,λ_ h=>nomatch h⟩) λv m vs ms r1 _ ih ht=>by
  obtain⟨fs,h1,h2,h3⟩:=ih λv hv=>ht v (.tail _ hv);obtain⟨k,x,_,rfl,_,o,xs,n,t,ho,hc,hd,hx,_⟩:=jg r1 (ht _ (.head _));exact⟨_,KatTups.cons ho hc hd hx h1,aP (· + 1) h2,λf hf=>(b8 hf).elim (λe=>⟨_,_,e⟩) (h3 f)⟩
theorem G7 (ru:aH Z s.heap u mu)(rv:aH Z s.heap v mv)(hu:iz u=true)(hv:iz v=true)(dg:dO u≠dO v)(hC:C (eO u v) s):wpAny bS A (keyLt' (tuples' true) mu mv) C (λ_ _=>False) s:=by
 refine ct λG hG=>?_;obtain⟨_,x,_,rfl,_,ox,xs,nx,tx,Rx,YS,Cz,hx0,rx,hxl⟩:=jg ru hu;obtain⟨_,y,_,rfl,_,oy,ys,ny,ty,WV,hcy,WW,hy0,ry,hyl⟩:=jg rv hv;refine hG ?_;refine kat_lt Rx Cz WV WW ?_;rw[hxl,hyl,List.zip_cons_cons];refine kat_cons ?_;refine(strKind W.prog W.w).eqBool (strKind_is _ _ _ _) (strKind_is _ _ _ _) ?_;have:cL (dO u)≠cL (dO v):=λe=>dg (by have:=aP Str.cps e;simpa [cL] using this);rw[cI this];refine kat_no ?_;exact oneLt_str hC
theorem s9 {a:Addr}{vs:List Value}{h0:Heap}{P:PySem.Fin->Shared->Prop}(ho:s.heap.get? a=some (cS "list" vs.toArray n))(r0:aD Z h0 dQ vs)(k0 :∀b o,h0.get? b=some o->s.heap.get? b=some o)(ha0:h0.get? a=none)(ht :∀v∈dQ,iz v=true)(hd :(dQ.map dO).Nodup)(h6:vs.length<=4)(hP :∀fP h',aD Z h0 (jw dQ) fP->h'.get? a=some (cS "list" fP.toArray n)\/(∃e,h'.get? a=some (cS "list" fP.toArray e))->(∀b o,b≠a->s.heap.get? b=some o->h'.get? b=some o)->P (.done (.ret .none)) {s with heap:=h'}) :
  wpAny bS A (Builtin.«list.sort» ⟨[.ref a],[]⟩) P E s:=by
 refine ct λG hG=>?_;have ha:a<s.heap.objs.size:=cK ho;have hlen:=r0.length;have s1:=dP s.heap a (Obj.mapSeq λ_=>(#[]:Array Value));obtain⟨e1,RL⟩ :∃e1,(s.heap.update a (Obj.mapSeq λ_=>(#[]:Array Value))).get? a=some (cS "list" #[] e1):=⟨_,get?_update_seq ho λ_=>#[]⟩;refine hG ?_;rw[list_sort_plain];refine wb (listItems_at ho rfl ?_);refine wb (listUpdate_at ho rfl ?_ (by rw[List.size_toArray,sizeLine_eq];exact q3 ⋯ (by rfl)) (Nat.zero_le _));refine wb (seqEpoch_at RL rfl ?_);refine wb (wpAny_newTuple ?_ (by show vs.length<=_;rw[sizeLine_eq];exact q3 ⋯ (by rfl)));refine wb (wpAny_newList ?_ (Nat.zero_le _));refine cQ ?_;show wpAny bS A _ P E {s with heap:=((s.heap.update a (Obj.mapSeq λ_=>(#[]:Array Value))).push (cS "tuple" vs.toArray 0)).push (cS "list" #[] 0)};generalize hH :((s.heap.update a (Obj.mapSeq λ_=>(#[]:Array Value))).push (cS "tuple" vs.toArray 0)).push (cS "list" #[] 0)=H;have OA:H.get? a=some (cS "list" #[] e1):=by rw[<- hH];exact bT _ (bT _ RL)
 have TJ :∀b o,b≠a->s.heap.get? b=some o->H.get? b=some o:=λb o hb e=>by rw[<- hH];exact bT _ (bT _ ((s1.2 b hb).trans e))
 have hH0 :∀b o,h0.get? b=some o->H.get? b=some o:=λb o e=>TJ b o (λz=>by rw[z,ha0] at e;injection e) (k0 b o e);have rH:aD Z H dQ vs:=r0.mono (cF.of_keeps (D:=[]) hH0);have fin :∀(xm:SortSt) (fP:List Value),(arrOf xm).map (·.2)=fP.toArray->failedOf xm=none->aD Z h0 (jw dQ) fP->fP.length<=4->wpAny bS A (do
   let sorted:=(arrOf xm).map (·.2)
   let KD:=(<- seqEpoch a) != e1
   Builtin.List.listUpdate (.ref a) λ_=>sorted
   if let some e:=failedOf xm then rule "list.sort.comparison-raised";throw e
   if KD then rule "list.sort.modified";raiseError "ValueError" "list modified during sort"
   ret .none) P E {s with heap:=H}:=by
  intro xm fP Ej hf ro kX;dsimp only;rw[Ej];refine wb (seqEpoch_at OA rfl ?_);refine wb (listUpdate_at OA rfl ?_ (Nat.zero_le _) (by rw[List.size_toArray,sizeLine_eq];exact q3 ⋯ (by rfl)));rw[hf];simp only[bne_self_eq_false,Bool.false_eq_true,if_false];refine aw (hP fP _ ro (.inr ⟨_,get?_update_seq OA λ_=>fP.toArray⟩) λb o hb e=>?_);exact((dP H a _).2 b hb).trans (TJ b o hb e)
 by_cases h2:vs.toArray.size<2
 .rw[ay h2,ay h2]
  refine aY (aw ?_);dsimp only;rw[StateT.run_pure];refine wb (aw ?_);have OB:jw dQ=dQ:=by
   rw[List.size_toArray] at h2
   match dQ,hlen with
   |[],_=>rfl
   |[x],_=>rfl
   |x::y::r,hl=>simp at hl;lia
  refine fin (SortSt.mk' general' (vs.toArray.zip vs.toArray) #[] 7 none) vs ?_ rfl (by rw[OB];exact r0) h6;show(vs.toArray.zip vs.toArray).map (·.2)=vs.toArray
  apply Array.toList_inj.mp
  simp[List.map_snd_zip]
 .rw[av h2,av h2]
  refine ct λG hG=>?_;rw[List.size_toArray] at h2;obtain⟨fs,xk,Fw,hk3⟩:=kat_tups (s:={s with heap:=H}) rH ht;refine hG ?_;refine wb (kat_kind (T:=.type "str") xk (q84 ⋯ ⋯) (λf hf=>by obtain⟨y,t,rfl⟩:=hk3 f hf;exact Looks.of_pure rfl) rfl ?_);have hb :(Value.type "str" != Value.type "tuple")=true:=by decide
  rw[hb];refine wb (cB (kat_run (s:={s with heap:=H}) (Q:=λxm s'=>s' ={s with heap:=H}/\∃p:Array Nat,p.toList.Perm (List.range vs.length)/\p.toList.Pairwise (λi j=>eO (dQ.getD i .none) (dQ.getD j .none)=true)/\
    arrOf xm=p.map (kas_item (vs.toArray.zip vs.toArray))/\failedOf xm=none) (G:=λp s'=>s' ={s with heap:=H}/\p.toList.Perm (List.range vs.length)/\p.toList.Pairwise (λi j=>eO (dQ.getD i .none) (dQ.getD j .none)=true))
   rfl (Nat.le_of_not_lt h2) (q2 ⋯ (by rfl)) (λp xm s' a1 a2 a3 a4=>⟨a4.1,p,a4.2.1,a4.2.2,a2,a3⟩) ?_) ?_ λ_ _ x=>x)
  .refine j1 (n:=vs.length) (lt:=λi j=>eO (dQ.getD i .none) (dQ.getD j .none)=true) (λi j k=>vI) (λi j=>vJ) (λi j hi hj Mz C h1 h2=>?_) (λp h1 h2=>⟨rfl,h1,h2⟩) _ [] (by simp) (KC _ (Nat.le_of_not_lt h2) h6)
   rw[<- hlen] at hi hj;have Y0:dQ.getD i .none=dQ[i]:=by simp[hi]
   have Y1:dQ.getD j .none=dQ[j]:=by simp[hj]
   have dg:dO (dQ.getD i .none)≠dO (dQ.getD j .none):=λe=>Mz (by
    rw[Y0,Y1] at e;have h1 :(dQ.map dO)[i]? = some (dO dQ[i]):=by simp[hi]
    have h2 :(dQ.map dO)[j]? = some (dO dQ[j]):=by simp[hj]
    rw[e] at h1;exact(List.getElem?_inj (List.getElem?_eq_some_iff.mp h1).1 hd).mp (h1.trans h2.symm))
   refine G7 (s:={s with heap:=H}) (rH.at_ hi) (rH.at_ hj) (by rw[Y0];exact ht _ (List.getElem_mem hi)) (by rw[Y1];exact ht _ (List.getElem_mem hj)) dg ?_
   cases hc:eO (dQ.getD i .none) (dQ.getD j .none) with
   |true=>exact h1 hc
   |false=>
    refine h2 ?_
    cases xY:eO (dQ.getD j .none) (dQ.getD i .none) with
    |true=>rfl
    |false=>exact absurd (vK hc xY) dg
  .rintro⟨⟨⟩,xm⟩ s' ⟨rfl,p,Jz,RM,WX,hf⟩
   have eO :∀i∈p.toList,i<dQ.length:=λi hi=>by rw[hlen];exact List.mem_range.mp (Jz.mem_iff.mp hi)
   have KG :(p.toList.map λi=>dQ.getD i V.none)=jw dQ:=by
    refine oA ?_ hd ?_
    .refine(Jz.map _).trans ?_
     have :(List.range vs.length).map (λi=>dQ.getD i V.none)=dQ:=by
      apply List.ext_getElem
      .simp[hlen]
      .intro i h1 h2
       simp[h2]
     rw[this]
    .rw[List.pairwise_map];exact RM
   refine fin xm (p.toList.map λi=>vs.getD i Value.none) (kat_snds rfl WX) hf ?_ ?_
   .rw[<- KG];exact r0.zc _ eO
   .rw[cJ,Jz.length_eq,List.length_range];exact h6
end
theorem Bt {f m:Nat}{led:Bool}(j:Nat) :(SetTable.fresh f m led).slot j=.empty:=yV rfl (by simp[SetTable.fresh])
theorem tc (f m:Nat)(led:Bool)(h:Int) :(SetTable.fresh f m led).freeSlot h=some (((SetTable.fresh f m led).probeStart h).j,false):=by
 have :(SetTable.fresh f m led).probe (λ_=>h+1) h ((SetTable.fresh f m led).probeStart h)=some (.empty ((SetTable.fresh f m led).probeStart h).j none):=by
  unfold SetTable.probe;rw[show(10 * SetTable.turns (SetTable.fresh f m led).mask:Nat)=219+1 from rfl,SetTable.probe.go,Bt];rfl
 unfold SetTable.freeSlot;exact rl this rfl
theorem xn (led:Bool)(h:Int)(x:Value) :∃t,layNew (.fresh 0 0 led) #[] h x =(#[(h,x)],t,false,false)/\t.fits 1=true/\t.led=led/\t.tooFull=false/\t.plain=true:=by
 unfold layNew;refine rl (tc ..) ?_;generalize ((SetTable.fresh 0 0 led).probeStart h).j=j;have hb:SetTable.below (SetTable.fresh 0 0 led).place j=0:=Nat.le_zero.mp (yY _ _);have hp :(SetTable.fresh 0 0 led).put j =({mask:=7,place:=#[j],dummies:=#[],finger:=0,led:=led,moves:=0,plain:=true},0):=by
  unfold SetTable.put;refine rl hb ?_;show(({mask:=7,place:=SetTable.insertAt #[] 0 j,dummies:=if SetTable.has #[] j then _ else _,finger:=0,led:=led,moves:=0,plain:=true}:SetTable),0)=_;exact rl (xe ..)<|rl (av Bool.false_ne_true) rfl
 dsimp only;refine rl hp<|⟨{mask:=7,place:=#[j],dummies:=#[],finger:=0,led:=led,moves:=0,plain:=true},?_,rfl,rfl,rfl,rfl⟩
 rfl
noncomputable def OC (i:Int)(es:Array (Int×Value))(t:SetTable):Prop:=∃u,es=#[((intKind W.prog W.w).hash i,.int i u)]/\t.fits 1=true/\t.led=!hJ
noncomputable def OD (i:Int)(h:Heap)(S:Addr):Prop:=∃o es ep t,h.get? S=some o/\o.ExactSet/\o.data=.set es ep t/\OC i es t
section
variable {i:Int}
theorem uI {u:Tok}(hS:s.heap.get? S=some (dG)){Q:Bool->Shared->Prop}(k :∀b h' tk,Heap.SameBut S s.heap h'->OD i h' S->Q b {s with heap:=h',toks:=tk}) :
  wpAny bS A (setAdd S (.int i u)) Q E s:=by
 refine cQ (wb ((intKind W.prog W.w).pyHash (k:=i) (intKind_is _ _ _ _) ?_));refine cQ ?_;refine aY (wpAny_setState_of hS rfl rfl ?_);dsimp only;refine rl (ay (fD ⟨rfl,Array.all_toList.symm.trans rfl⟩))<|wb (wb (wpAny_rule ?_))
 refine wb (m:=setScan _ _ _ _ _) (aw (a:=ScanMet.absent) ?_);refine ct λG hG=>?_;obtain⟨t,hl,hf,Ee,y3,yq⟩:=xn (!hJ) ((intKind W.prog W.w).hash i) (.int i u);refine hG ?_;refine rl hl ?_;dsimp only;refine wb (m:=pure ()) (aw ?_);refine rl (ay yq)<|aY (wpAny_of_eq (a:=true) rfl ?_)
 refine rl (ay rfl)<|wb (wpAny_storeSet_of hS rfl ?_ (by show 1<=_;exact rl sizeLine_eq<|Nat.le_of_ble_eq_true rfl))
 refine rl (av (by simp[y3]))<|aw (aw (k true _ _ (dP ..) ⟨_,_,_,_,sT hS rfl _ _,⟨rfl,rfl,rfl⟩,rfl,u,rfl,hf,Ee⟩))
theorem uJ {u:Tok}(H:OD i s.heap S){Q:Bool->Shared->Prop}(k :∀b tk,Q b {s with toks:=tk}):wpAny bS A (setAdd S (.int i u)) Q E s:=by
 refine ct λG hG=>?_;obtain⟨o,es,ep,t,ho,hx,hd,u',rfl,hf,Ee⟩:=H;refine hG ?_;refine cQ (wb ((intKind W.prog W.w).pyHash (k:=i) (intKind_is _ _ _ _) ?_));refine cQ ?_;refine aY (wpAny_setState_of ho hd hf ?_);dsimp only;refine rl (ay (fD ⟨rfl,Array.all_toList.symm.trans rfl⟩))<|wb (wb (wpAny_rule ?_))
 refine wb ?_;show wpAny _ _ (setScanFrom S (.int i u) ((intKind W.prog W.w).hash i) true [((intKind W.prog W.w).hash i,.int i u')] 0) _ _ _;unfold setScanFrom;refine rl (ay (by simp))<|wb (wpAny_setEpoch_of ho hd hf ?_)
 refine aY ((intKind W.prog W.w).eqBool (a:=i) (b:=i) (intKind_is _ _ _ _) (intKind_is _ _ _ _) ?_);exact rl (ay (by simp))<|aw (aw (aw (k false _)))
end
def td:List V->Bool
 |[]=>true
 |.int i::r=>r.all λv=>V.beq v (.int i)
 |_=>false
def oB (v:V):Option V:=match v with
 |.list vs=>if td vs then some (.list (vs.take 1)) else if vs.all iz&&jf vs&&Nat.ble vs.length 4 then some (.list (jw vs)) else .none
 |_=>.none
section
variable {h h':Heap}
theorem aD.CH :∀{d:List V} {ps:List Addr},aD Z h d (ps.map .ref)->∀p∈ps,∃v∈d,aH Z h v (.ref p)
 |[],[],_,p,hp=>nomatch hp
 |v::d,q::ps,.cons r1 r2,p,hp=>by
  rcases b8 hp with rfl |hp
  .exact⟨v,.head _,r1⟩
  .obtain⟨u,hu,r⟩:=aD.CH r2 p hp
   exact⟨u,.tail _ hu,r⟩
 |[],_::_,r,_,_=>nomatch r
 |_::_,[],r,_,_=>nomatch r
theorem iH (hx:o.ExactSet)(hd:o.data=.set es ep t):fq o:=
 ⟨aP eJ hd,by rw[hx.1];decide,by rw[hx.1];decide,by rw[hx.1];decide,by rw[hx.1];simp⟩
theorem mO {a:Addr}{vs:List Value}{P:PySem.Fin->Shared->Prop}(ho:s.heap.get? a=some (cS "list" vs.toArray n))(h1:vs.length<2)(hP :∀h',(∃e,h'.get? a=some (cS "list" vs.toArray e))->(∀b o,b≠a->s.heap.get? b=some o->h'.get? b=some o)->P (.done (.ret .none)) {s with heap:=h'}) :
  wpAny bS A (Builtin.«list.sort» ⟨[.ref a],[]⟩) P E s:=by
 have ha:a<s.heap.objs.size:=cK ho;have s1:=dP s.heap a (Obj.mapSeq λ_=>(#[]:Array Value));obtain⟨e1,RL⟩ :∃e1,(s.heap.update a (Obj.mapSeq λ_=>(#[]:Array Value))).get? a=some (cS "list" #[] e1):=⟨_,get?_update_seq ho λ_=>#[]⟩;refine rl (list_sort_plain ..)<|wb (listItems_at ho rfl ?_)
 refine wb (listUpdate_at ho rfl ?_ (by refine rl List.size_toArray<|rl sizeLine_eq ?_;exact q4 ⋯ (by rfl)) (Nat.zero_le _))
 refine wb (seqEpoch_at RL rfl ?_);refine wb (wpAny_newTuple ?_ (by show vs.length<=_;refine rl sizeLine_eq ?_;exact q4 ⋯ (by rfl)));refine wb (wpAny_newList ?_ (Nat.zero_le _));refine cQ ?_;show wpAny bS A _ P E {s with heap:=((s.heap.update a (Obj.mapSeq λ_=>(#[]:Array Value))).push (cS "tuple" vs.toArray 0)).push (cS "list" #[] 0)};generalize hH :((s.heap.update a (Obj.mapSeq λ_=>(#[]:Array Value))).push (cS "tuple" vs.toArray 0)).push (cS "list" #[] 0)=H;have OA:H.get? a=some (cS "list" #[] e1):=rr hH<|bT _ (bT _ RL)
 have TJ :∀b o,b≠a->s.heap.get? b=some o->H.get? b=some o:=λb o hb e=>rr hH<|bT _ (bT _ ((s1.2 b hb).trans e))
 have h2:vs.toArray.size<2:=rl List.size_toArray<|h1
 refine rl (ay h2)<|rl (ay h2)<|aY (aw ?_)
 dsimp only;refine rl (StateT.run_pure ..)<|aY (aw ?_)
 have Ej :(vs.toArray.zip vs.toArray).map (·.2)=vs.toArray:=by
  apply Array.toList_inj.mp
  simp[List.map_snd_zip]
 dsimp only;refine rl Ej<|wb (seqEpoch_at OA rfl ?_)
 refine wb (listUpdate_at OA rfl ?_ (Nat.zero_le _) (by refine rl List.size_toArray<|rl sizeLine_eq ?_;exact q4 ⋯ (by rfl)))
 simp only[bne_self_eq_false,Bool.false_eq_true,if_false];refine aw (hP _ ⟨_,get?_update_seq OA λ_=>vs.toArray⟩ λb o hb e=>?_);exact((dP H a _).2 b hb).trans (TJ b o hb e)
theorem Bu (hh:A.handled=none)(hS:s.heap.get? S=some oS)(hx:oS.ExactSet)(hd:oS.data=.set es ep t)(hf:t.fits es.size=true)(hw:jc es t)(hz:es.size<=4)(r :∀fP:List Value,fP.Perm (es.toList.map (·.2))->∃lK,lK.Perm dQ/\aD Z s.heap lK fP)(hk:es.size<2\/((∀v∈dQ,iz v=true)/\(dQ.map dO).Nodup))(h :∀L h' tk d fP,h'.get? L=some (cS "list" fP.toArray 0)\/(∃e,h'.get? L=some (cS "list" fP.toArray e))->s.heap.get? L=none->(∀b o,s.heap.get? b=some o->h'.get? b=some o)->
   aD Z s.heap (if es.size<2 then dQ else jw dQ) fP->Q (.ref L) {s with heap:=h',toks:=tk,drawn:=d}) :
  wpAny bS A (call (.builtin "sorted") [.ref S]) Q E s:=by
 refine Calls.call_function_entry kind_sorted plain_sorted entry_sorted (args_sorted1 _) ?_;refine wb (m:=checkCount "sorted" 1 1 _) (aw ?_);refine wb (y7 (by simp[hh]) hS hx hd hf hw (q3 ⋯ (by rfl)) λfP h1 tk d hp k1=>?_);obtain⟨lK,uj,ro⟩:=r fP hp;have kX:fP.length=es.size:=by
  have:=hp.length_eq
  simpa using this
 refine wb (wpAny_newList ?_ (by refine rl kX<|rl sizeLine_eq ?_;exact q3 ⋯ (by rfl)))
 have x8 :(h1.push (cS "list" fP.toArray 0)).get? h1.objs.size=some (cS "list" fP.toArray 0):=cD _ rfl;have A7:s.heap.get? h1.objs.size=none:=by
  cases z:s.heap.get? h1.objs.size with
  |none=>rfl
  |some o=>exact absurd (cK (k1 _ _ z)) (Nat.lt_irrefl _)
 have k2 :∀b o,s.heap.get? b=some o->(h1.push (cS "list" fP.toArray 0)).get? b=some o:=λb o e=>bT _ (k1 b o e);have tail :∀h' Ek,(∃e,h'.get? h1.objs.size=some (cS "list" Ek.toArray e))->(∀b o,b≠h1.objs.size->(h1.push (cS "list" fP.toArray 0)).get? b=some o->h'.get? b=some o)->
   aD Z s.heap (if es.size<2 then dQ else jw dQ) Ek->Q (.ref h1.objs.size) {s with heap:=h',toks:=tk,drawn:=d}:=λh' Ek e k3 WY=>
  h _ h' tk d Ek (.inr e) A7 (λb o eb=>k3 b o (λz=>by rw[z] at eb;replace eb:=A7.symm.trans eb;injection eb) (k2 b o eb)) WY
 show wpAny _ _ _ _ _ {s with heap:=h1.push (cS "list" fP.toArray 0),toks:=tk,drawn:=d};refine wb (cQ (fF slot_list_sort ⟨_,x8,rfl⟩ entry_list_sort ?_ (args_list_sort _)));by_cases h2:es.size<2
 .have ht:lK=dQ:=by
   have l1:=ro.length;replace l1:=l1.trans kX;have l2:=uj.length_eq
   match lK,dQ,uj,l1,l2 with
   |[],[],_,_,_=>rfl
   |[x],[y],uj,_,_=>exact aP (λz=>[z]) (by simpa using uj)
   |x::y::r,_,_,l1,_=>simp at l1;lia
  refine mO x8 (lt_of_eq_of_lt kX h2) λh' e k3=>⟨_,rfl,aw ⟨_,rfl,tail h' fP e k3 ?_⟩⟩;exact rl (ay h2)<|rr ht<|ro
 .obtain⟨xk,Fw⟩:=hk.resolve_left h2
  have OB:jw lK=jw dQ:=oA ((nu lK).trans uj) Fw (oz lK ((uj.map dO).nodup_iff.mpr Fw));refine s9 (h0:=s.heap) x8 ro k2 A7 (λv hv=>xk v (uj.mem_iff.mp hv)) ((uj.map dO).nodup_iff.mpr Fw) (le_of_eq_of_le kX hz) λEk h' WY e k3=>⟨_,rfl,aw ⟨_,rfl,tail h' Ek ?_ k3 ?_⟩⟩
  .rcases e with e |e
   .exact⟨0,e⟩
   .exact e
  .exact rl (av h2)<|rr OB<|WY
end
def te (f:ME V):ME V:=f.bind λv=>λ_ U=>Res.cO (oB v) U
section
variable {h h':Heap}{D:List Addr}
theorem St.MW {tk:Nat}{d:Drawn}(S:St Z U s)(k :∀b o,s.heap.get? b=some o->h'.get? b=some o):St Z U {s with heap:=h',toks:=tk,drawn:=d}/\cF [] Z s.heap Z h':=
 ⟨⟨S.heap.keeps k,S.gens,S.os⟩,cF.of_keeps k⟩
theorem aD.perm {fP:List Value}(p:ms.Perm fP) :∀{vs:List V},aD Z h vs ms->∃jN,jN.Perm vs/\aD Z h jN fP:=by
 induction p with
 |nil=>intro vs r;exact⟨vs,.refl _,r⟩
 |cons x _ ih=>
  intro vs r
  cases r with
  |cons r1 r2=>
   refine ct λG hG=>?_;obtain⟨jN,h1,h2⟩:=ih r2;refine hG ?_;exact⟨_::jN,h1.cons _,.cons r1 h2⟩
 |swap x y l=>
  intro vs r
  cases r with
  |cons r1 r2=>cases r2 with
   |cons r2 r3=>exact⟨_::_::_,.swap ..,.cons r2 (.cons r1 r3)⟩
 |trans _ _ p7 QL=>
  intro vs r;refine ct λG hG=>?_;obtain⟨v1,h1,r1⟩:=p7 r;obtain⟨v2,h2,r2⟩:=QL r1;refine hG ?_;exact⟨v2,h2.trans h1,r2⟩
theorem th (e:td vs=true):vs=[]\/∃i r,vs=.int i::r/\∀v∈vs,v=.int i:=by
 cases vs with
 |nil=>exact .inl rfl
 |cons a r=>
  cases a with
  |int i=>
   refine .inr ⟨i,r,rfl,λv hv=>?_⟩;rcases b8 hv with rfl |hv
   .rfl
   .exact(V.beq_iff _ _).mp (List.all_eq_true.mp e v hv)
  |_=>exact Bool.noConfusion e
theorem Bv {r:V}(ok:b9 n a)(S:St Z U s)(rv:aH Z s.heap v mv)(e:oB v=some r)(p:bt a Z s (.ok r U) Q E) :
  wpAny bS a.A (call (.type "set") [mv]) (λx s1=>wpAny bS a.A (call (.builtin "sorted") [x]) Q E s1) E s:=by
 revert e;cases v with
 |list vs=>
  intro e
  cases rv with
  |@list _ l ol ms nl kX rf ph hnl rvs=>
  have rl:aH Z s.heap (.list vs) (.ref l):=.list kX rf ph hnl rvs;have fin :∀(S0:Addr) (oS:Obj) (es:Array (Int×Value)) (ep:Nat) (t:SetTable) (dQ:List V) (h1:Heap) (JB:Nat),(∀b o,s.heap.get? b=some o->h1.get? b=some o)->h1.get? S0=some oS->oS.ExactSet->oS.data=.set es ep t->t.fits es.size=true->jc es t->es.size<=4->
    (∀fP:List Value,fP.Perm (es.toList.map (·.2))->∃lK,lK.Perm dQ/\aD Z h1 lK fP)->(es.size<2\/((∀v∈dQ,iz v=true)/\(dQ.map dO).Nodup))->r=.list (if es.size<2 then dQ else jw dQ)->
    wpAny bS a.A (call (.builtin "sorted") [.ref S0]) Q E {s with heap:=h1,toks:=JB}:=by
   intro S0 oS es ep t dQ h1 JB k1 hS hx hd hf hw hz hr hk er;obtain⟨S1,x1⟩:=S.MW (tk:=JB) (d:=s.drawn) k1;refine Bu (s:={s with heap:=h1,toks:=JB}) (Z:=Z) ok.hand hS hx hd hf hw hz hr hk λL h2 YU d fP e hn k2 ro=>?_;obtain⟨S2,x2⟩:=S1.MW (tk:=YU) (d:=d) k2;refine bt.val p S2 (x1.trans x2) ?_;obtain⟨e0,he⟩ :∃e,h2.get? L=some (cS "list" fP.toArray e):=by
    rcases e with e |e
    .exact⟨0,e⟩
    .exact e
   rw[er];refine .list he rfl rfl (λhm=>?_) ?_
   .obtain⟨ob,eb,_⟩:=S1.heap.gL hm
    exact absurd (hn.symm.trans eb) (by simp)
   .exact ro.mono x2
  unfold oB at e;by_cases hi:td vs=true
  .simp only[hi,if_true,Option.some.injEq] at e
   subst e;rcases th hi with rfl|⟨i,vr,rfl,rV⟩
   .refine ku (Z:=Z) (vs:=[]) (d7:=λ_ h=>h.get? s.heap.objs.size=some (dG)) ok.hand rl (λd h e=>⟨_,e,iH (o:=dG) ⟨rfl,rfl,rfl⟩ rfl⟩)
     (λd h h' I e hs dg=>hs.same _ _ (Ne.symm dg) e) (λh' e=>e) (λA' E' d l v s' mv Q' _ e _ _ _=>by simp at e) λh1 JB e k=>?_
    refine fin _ _ #[] 0 (.fresh 0 0 (!hJ)) [] h1 JB (λb o e=>k b o (cK e) e) e ⟨rfl,rfl,rfl⟩ rfl rfl ?_ (by simp) (λfP hp=>⟨[],.refl _,?_⟩) (.inl (by simp)) (by simp)
    .unfold jc
     cases hb:hJ with
     |true=>exact .inl rfl
     |false=>exact .inr (.inl ⟨rfl,by simp,rfl⟩)
    .have:fP=[]:=by simpa using hp
     rw[this];exact .nil
   .refine ku (Z:=Z) (vs:=.int i::vr) (d7:=λd h=>match d with |[]=>h.get? s.heap.objs.size=some (dG) |_::_=>OD i h s.heap.objs.size) ok.hand rl (λd h e=>?_)
     (λd h h' I e hs dg=>?_) (λh' e=>e) (λA' E' d l v s' mv Q' _ e RN rv k=>?_) λh1 JB e k=>?_
    .cases d with
     |nil=>exact⟨_,e,iH (o:=dG) ⟨rfl,rfl,rfl⟩ rfl⟩
     |cons x d=>obtain⟨o,es,ep,t,ho,hx,hd,_⟩:=e;exact⟨o,ho,iH hx hd⟩
    .revert e;cases d with
     |nil=>intro e;exact hs.same _ _ (Ne.symm dg) e
     |cons x d=>intro e;obtain⟨o,es,ep,t,ho,r⟩:=e;exact⟨o,es,ep,t,hs.same _ _ (Ne.symm dg) ho,r⟩
    .have hv:v=.int i:=rV v (by rw[e];simp)
     subst hv
     cases rv with
     |int _ u=>
     cases d with
     |nil=>exact uI RN λb h' tk hs hi=>k b h' tk hs hi
     |cons x d=>exact uJ RN λb tk=>k b s'.heap tk (Heap.SameBut.refl _ _) RN
    .obtain⟨o,es,ep,t,ho,hx,hd,u,rfl,hf,Ee⟩:=e
     refine fin _ o _ ep t [.int i] h1 JB (λb o e=>k b o (cK e) e) ho hx hd hf ?_ (by simp) (λfP hp=>⟨[.int i],.refl _,?_⟩) (.inl (by simp)) (by simp)
     .unfold jc
      cases hb:hJ with
      |true=>exact .inl rfl
      |false=>exact .inr (.inl ⟨rfl,by simp,by refine Ee.trans ?_;rw[hb];rfl⟩)
     .have:fP=[.int i u]:=by simpa using hp
      rw[this];exact .cons (.int _ _) .nil
  .simp only[hi,Bool.false_eq_true,if_false] at e
   split at e
   .rename_i hc
    injection e with e;subst e;simp only[Bool.and_eq_true,List.all_eq_true,Nat.ble_eq] at hc;obtain⟨⟨ht,ha⟩,h6⟩:=hc;have WZ:=(sZ vs).mp ha;refine ku (Z:=Z) (vs:=vs) (d7:=λd h=>∃ps,Ov h s.heap.objs.size ps/\aD Z h d (ps.map .ref)) ok.hand rl (λd h e=>?_) (λd h h' I e hs dg=>?_) (λh' e=>?_)
     (λA' E' d l v s' mv Q' hu e RN rv k=>?_) λh1 JB e k=>?_
    .obtain⟨ps,⟨o,es,ep,t,ho,hx,hd,_⟩,_⟩:=e
     exact⟨o,ho,iH hx hd⟩
    .obtain⟨ps,⟨o,es,ep,t,ho,r⟩,rr⟩:=e
     exact⟨ps,⟨o,es,ep,t,hs.same _ _ (Ne.symm dg) ho,r⟩,rr.side hs⟩
    .exact⟨[],⟨_,#[],0,_,e,⟨rfl,rfl,rfl⟩,rfl,rfl,.inl rfl,rfl,by simp[SetTable.fresh],rfl,by simp,by simp⟩,.nil⟩
    .obtain⟨ps,T,rr⟩:=RN
     refine ct λG hG=>?_;have hv:v∈vs:=by rw[e];simp
     obtain⟨kk,x,rfl,rfl,TT,_⟩:=jg rv (ht _ hv);have hlen:ps.length=d.length:=by
      have:=rr.length
      simpa using this.symm
     have ph:d.length+1<=vs.length:=by rw[e];simp
     refine hG ?_;refine yZ T ?_ TT (λp hp=>?_) (q48 ⋯ ⋯ ⋯) λh' tk hs hT=>k true h' tk hs ⟨ps++[x],hT,?_⟩
     .have:=ok.units
      exact Qw hu this
     .obtain⟨w,hw,rw'⟩:=rr.CH p hp
      refine ct λG hG=>?_;obtain⟨k',x',rfl,W0,TT',_⟩:=jg rw' (ht w (by rw[e];simp[hw]));injection W0 with W0;subst W0;refine hG ?_;refine⟨k',TT',λz=>?_⟩;subst z;rw[e,List.map_append,List.nodup_append] at WZ;exact WZ.2.2 _ (List.mem_map.mpr ⟨_,hw,rfl⟩) _ (List.mem_map.mpr ⟨_,.head _,rfl⟩) rfl
     .obtain⟨o,es,ep,t,ho,hx,hd,_⟩:=T
      have sd:gq s.heap.objs.size s'.heap h':=⟨λb o hb e=>(hs.2 b hb).trans e,⟨o,ho,iH hx hd⟩⟩;rw[List.map_append];exact(rr.side sd).append (.cons (rv.side sd) .nil)
    .obtain⟨ps,⟨o,es,ep,t,ho,hx,hd,T⟩,rr⟩:=e
     have hlen:es.size=vs.length:=by
      have:=rr.length;refine T.len.trans ?_
      simpa using this.symm
     refine fin _ o es ep t vs h1 JB (λb o e=>k b o (cK e) e) ho hx hd ?_ ?_ (UU h6 hlen) (λfP hp=>?_) (.inr ⟨ht,WZ⟩) ?_
     .have:=T.room
      simp only[SetTable.fits,SetTable.fill,T.fit,T.P7,Bool.and_eq_true,beq_iff_eq,decide_eq_true_eq];refine⟨trivial,?_⟩;simp;exact Cm this rfl
     .unfold jc
      cases hb:hJ with
      |true=>exact .inl rfl
      |false=>
       rcases Nat.lt_or_ge es.size 2 with hz |hz
       .exact .inr (.inl ⟨rfl,Nat.le_of_lt_succ hz,by refine T.led.trans ?_;rw[hb];rfl⟩)
       .exact .inr (.inr ⟨rfl,hz,T.plain (Nat.zero_lt_of_lt hz)⟩)
     .exact aD.perm (hp.trans T.elems).symm rr
     .split
      .rename_i hz
       rw[hlen] at hz
       match vs,hz with
       |[],_=>rfl
       |[x],_=>rfl
       |x::y::r,hz=>simp at hz;lia
      .rfl
   .injection e
 |_=>intro e;simp[oB] at e
theorem mP {e:Expr}{p0 p1 p2 p3:Pos}{f:ME V}(hf:cm n sc e f)(he :∀env:Env,starEach [e] env =(false,eval e env)::starEach [] env)(Rj :∀env:Env,starEach [.Call (.Name (ofString "set") p1) [e] [] p2] env =(false,eval (.Call (.Name (ofString "set") p1) [e] [] p2) env)::starEach [] env)(hp:dc p2 [e])(uj:dc p3 [.Call (.Name (ofString "set") p1) [e] [] p2])(hx:sc.names.lookup (ofString "sorted")=some .globalImplicit)(e1:nsIn W.K mainGlobals (ofString "sorted")=some Option.none)(hy:sc.names.lookup (ofString "set")=some .globalImplicit)(e2:nsIn W.K mainGlobals (ofString "set")=some Option.none) :
  cm n sc (.Call (.Name (ofString "sorted") p0) [.Call (.Name (ofString "set") p1) [e] [] p2] [] p3) (te f):=by
 intro a ok bJ Z U fr s S F Q E p;subst bJ;have RO :∀{pos:Pos} {s:Shared} {Q:List Value->Shared->Prop},Q [] s->wpAny bS a.A (spliced (backTo pos (starEach [] a.env))) Q E s:=λq=>by
  exact aw q
 refine Call_Name rfl (gE (v:=.builtin "sorted") ok S hx e1 (BK.boot .sorted) (by decide) rfl ?_);refine Calls.callWith_builtin (uj _) (c7 (uj _) (args_cons ?_ (Rj _)));refine Call_Name rfl (gE (v:=.type "set") ok S hy e2 (by decide +kernel) (by decide) rfl ?_);refine PySem.callWith_type (hp _) (c7 (hp _) (args_cons ?_ (he _)));refine hf.bind ok rfl S F p λv bq cG s1 mv S1 F1 x1 r1 p1=>RO ?_;dsimp only at p1;refine cb.opt p1 λr hb p1=>?_;exact cB (Bv ok S1 r1 hb p1) (λx s2 hx=>RO hx) λ_ _ x=>x
end
set_option tactic.hygienic true
section
variable {l:Addr}{items:Array Value}
theorem tj {x:Value}(DT:s.heap.IsTupleIter it l i)(hl:s.heap.IsTuple l items)(hx:items[i]? = some x)(hQ :∀h',h'.IsTupleIter it l (i+1)->Heap.SameBut it s.heap h'->Q x {s with heap:=h'}):wpAny (model prog w) A (Builtin.SmallTypes.nextOf (.ref it)) Q E s:=by
 obtain⟨o,ho,hc,hd⟩:=id DT;obtain⟨ol,kX,_,nl,ph⟩:=hl;unfold Builtin.SmallTypes.nextOf;refine aY (wpAny_callSpecial?_slot (name:=ofString "__next__") DT.typeIs F.slot_tuple_iterator_next (fF F.slot_tuple_iterator_next DT.typeIs F.entry_tuple_iterator_next ?_ (F.args_tuple_iterator_next_1 _)));show wpAny _ _ (field (.ref it) 0 >>= _) _ _ s;refine aY (wpAny_field ho hd (x:=.ref l) rfl ?_);refine rl (av (show¬((Value.ref l == Value.none)=true) from Bool.false_ne_true))<|aY (wpAny_field ho hd (x:=.int i 0) rfl ?_)
 refine aY (wpAny_seqItems kX ph ?_);simp only[Int.toNat_natCast,hx];refine aY (wpAny_setField ho hd (by simp) (aw ⟨x,rfl,aw (hQ _ ?_ (dP ..))⟩));exact⟨_,Heap.get?_update_self _ ho (Obj.isFreed_of_fields (Obj.data_mapFields hd _)),(Obj.cls_mapFields ..).trans hc,by refine rl (Obj.data_mapFields hd ..) ?_;simp[rawInt]⟩
theorem xo (hh:A.handled=none)(DT:s.heap.IsTupleIter it l i)(hl:s.heap.IsTuple l items)(hx:items[i]? = none)(hE :∀h' e,Heap.ExtBut it s.heap h'->(∃o,h'.get? e=some o/\o.cls=.type "StopIteration")->E (.ref e) {s with heap:=h'}):wpAny (model prog w) A (Builtin.SmallTypes.nextOf (.ref it)) Q E s:=by
 obtain⟨o,ho,hc,hd⟩:=id DT;obtain⟨ol,kX,_,nl,ph⟩:=hl;unfold Builtin.SmallTypes.nextOf;refine aY (wpAny_callSpecial?_slot (name:=ofString "__next__") DT.typeIs F.slot_tuple_iterator_next (fF F.slot_tuple_iterator_next DT.typeIs F.entry_tuple_iterator_next ?_ (F.args_tuple_iterator_next_1 _)));show wpAny _ _ (field (.ref it) 0 >>= _) _ _ s;refine aY (wpAny_field ho hd (x:=.ref l) rfl ?_);refine rl (av (show¬((Value.ref l == Value.none)=true) from Bool.false_ne_true))<|aY (wpAny_field ho hd (x:=.int i 0) rfl ?_)
 refine aY (wpAny_seqItems kX ph ?_);simp only[Int.toNat_natCast,hx];refine aY (wpAny_rule (aY (wpAny_setField ho hd (by simp) ?_)));refine vl hh λh' e k he=>hE h' e (λb o hb q=>k b o ((dP ..).extBut b o hb q)) he
theorem zd (hh:A.handled=none)(it l:Addr)(dg:l≠it)(items:Array Value):Draws prog w A it [it,l] items.size (λi x=>items[i]? = some x) (λi h=>h.IsTupleIter it l i/\h.IsTuple l items) where
 live:=λi h x=>by obtain⟨⟨o,ho,_⟩,_⟩:=x;exact⟨o,ho⟩
 frame:=λi h h' x k=>⟨by obtain⟨⟨o,ho,r⟩,_⟩:=x;exact⟨o,k it (by simp) o ho,r⟩,by obtain⟨_,o,ho,r⟩:=x;exact⟨o,k l (by simp) o ho,r⟩⟩
 item:=λi s Q E hi x hQ=>tj x.1 x.2 (Array.getElem?_eq_getElem hi) λh' xZ hs=>hQ _ h' s.toks (Array.getElem?_eq_getElem hi) ⟨xZ,by obtain⟨o,ho,r⟩:=x.2;exact⟨o,(hs.2 l dg).trans ho,r⟩⟩ hs
 done:=λs Q E x hE=>xo hh x.1 x.2 (Array.getElem?_eq_none (Nat.le_refl _)) hE
theorem G8 {x:Y}{Q:Y->Shared->Prop}(h :∀b,Q b s):wpAny (model prog w) A (pure x) Q E s:=aw (h x)
theorem tm (l:Addr)(items:Array Value) :
  Meets (Builtin.«enumerate.__new__» ⟨[.type "enumerate",.ref l],[]⟩) (λ_ R s=>s.heap.IsTuple l items/\
   R (.ok (.ret (.ref (s.heap.push {cls:=.type "tuple_iterator",data:=.fields #[.ref l,.int 0 0]}).objs.size)))
    {s with heap:=(s.heap.push {cls:=.type "tuple_iterator",data:=.fields #[.ref l,.int 0 0]}).push {cls:=.type "enumerate",data:=.fields #[.none,.bool false,.ref s.heap.objs.size,rawInt 0,.none,.none]}}):=
 .of_wp λprog w A R s h=>by
  obtain⟨hp,g,d,tk,os⟩:=s;obtain⟨hl,h⟩:=h;have sP:=sub_enumerate;have hL:Heap.IsTuple (Shared.heap ⟨hp,g,d,tk,os⟩) l items:=hl
  wp_walk
  refine wpAny_stack_any λst=>G8 λb=>?_
  cases b
  .wp_walk using wpAny_pyIter_tuple hL
   exact⟨_,rfl,h⟩
  .wp_walk using wpAny_pyIter_tuple hL
   exact⟨_,rfl,h⟩
theorem uK (hL:s.heap.IsTuple l items)(h :∀h',IsEnum h' (s.heap.objs.size+1) s.heap.objs.size 0 .none->h'.IsTupleIter s.heap.objs.size l 0->(∀b o,s.heap.get? b=some o->h'.get? b=some o)->Q (.ref (s.heap.objs.size+1)) {s with heap:=h'}) :
  wpAny (model prog w) A (call (.type "enumerate") [.ref l]) Q E s:=by
 refine callType_new F.called_enumerate (by decide) (F.typeCall_enumerate_1 _) (F.newCall_enumerate_1 _) (λobj=>F.args_object_init_2 obj _) F.entry_enumerate_new (tm l items) ⟨hL,?_⟩;have hz :(s.heap.push {cls:=.type "tuple_iterator",data:=.fields #[.ref l,.int 0 0]}).objs.size=s.heap.objs.size+1:=Heap.size_push ..;refine rl hz ?_;have he:IsEnum ((s.heap.push {cls:=.type "tuple_iterator",data:=.fields #[.ref l,.int 0 0]}).push {cls:=.type "enumerate",data:=.fields #[.none,.bool false,.ref s.heap.objs.size,rawInt 0,.none,.none]}) (s.heap.objs.size+1) s.heap.objs.size 0 .none:=by
  have:=cD (s.heap.push {cls:=.type "tuple_iterator",data:=.fields #[.ref l,.int 0 0]}) (o:={cls:=.type "enumerate",data:=.fields #[.none,.bool false,.ref s.heap.objs.size,rawInt 0,.none,.none]}) rfl;rw[hz] at this;exact this
 exact⟨⟨_,he,rfl⟩,h _ he ⟨_,bT _ (cD _ rfl),rfl,rfl⟩ λb o y=>bT _ (bT _ y)⟩
end
set_option tactic.hygienic false
mutual
noncomputable def V.iI (n:Nat):V->Bool
 |.tup vs=>V.iJ n vs
 |.list vs=>V.iJ n vs
 |.ref i=>Nat.blt i n
 |_=>true
noncomputable def V.iJ (n:Nat):List V->Bool
 |[]=>true
 |v::vs=>V.iI n v&&V.iJ n vs
end
def oE (n:Nat):O->Bool
 |.list vs=>V.iJ n vs
 |.dict _ az=>V.iJ n (az.map (·.1))&&V.iJ n (az.map (·.2))
 |.inst _ fs=>V.iJ n (fs.map (·.2))
inductive xp (U:bw)(n:Nat):List V->List V->Prop
 |nil:xp U n [] []
 |same {v:V} {vs jN:List V}:V.iI n v=true->xp U n vs jN->xp U n (v::vs) (v::jN)
 |tup {us Fx vs jN:List V}:xp U n us Fx->xp U n vs jN->xp U n (.tup us::vs) (.tup Fx::jN)
 |list {us Fx vs jN:List V}:xp U n us Fx->xp U n vs jN->xp U n (.list us::vs) (.list Fx::jN)
 |cut {i:Nat} {us Fx vs jN:List V}:U[i]? = some (.list us)->n<=i->xp U n us Fx->xp U n vs jN->xp U n (.ref i::vs) (.list Fx::jN)
noncomputable def dW.cut (Z:dW)(n:Nat):dW:=⟨Z.objs.take n,Z.eE⟩
section
theorem oF {a:Addr}(hn:a∉bH Z):a∉bH (Z.cut n):=λhm=>hn (cC.mpr ((cC.mp hm).imp (λq=>by
 obtain⟨p,hp,e⟩:=dz q;exact List.mem_map.mpr ⟨p,List.mem_of_mem_take hp,e⟩) id))
theorem KH (hi:i<n)(e:Z.objs[i]? = some p) :(Z.cut n).objs[i]? = some p:=(List.getElem?_take_of_lt hi).trans e
theorem aD.iI (r:aD Z h vs ms):V.iJ n vs=true->aD (Z.cut n) h vs ms:=
 aD.rec (motive_1:=λv m _=>V.iI n v=true->aH (Z.cut n) h v m) (motive_2:=λvs ms _=>V.iJ n vs=true->aD (Z.cut n) h vs ms)
  (λ_=>.none) (λb _=>.bool b) (λi t _=>.int i t) (λs t _=>.str s t) (λe q=>.ref (KH (Nat.lt_of_succ_le (Nat.le_of_ble_eq_true q)) e))
  (λh1 h2 h3 h4 _ ih q=>.tup h1 h2 h3 (oF h4) (ih q)) (λh1 h2 h3 h4 _ ih q=>.list h1 h2 h3 (oF h4) (ih q)) (λ_=>.nil)
  (λ_ _ ia ib q=>.cons (ia (cM q).1) (ib (cM q).2)) r
theorem aH.iI (r:aH Z h v m)(q:V.iI n v=true):aH (Z.cut n) h v m:=by
 cases aD.iI (n:=n) (.cons r .nil) (fD ⟨q,rfl⟩) with |cons a _=>exact a
theorem aD.frz (S:gP Z U h){jN:List V}(z:xp U n vs jN) :∀{ms:List Value},aD Z h vs ms->aD (Z.cut n) h jN ms:=by
 induction z with
 |nil=>intro ms r;cases r;exact .nil
 |same q _ ih=>intro ms r;cases r with |cons a b=>exact .cons (a.iI q) (ih b)
 |tup _ _ i1 i2=>intro ms r;cases r with |cons a b=>cases a with |tup h1 h2 h3 h4 r=>exact .cons (.tup h1 h2 h3 (oF h4) (i1 r)) (i2 b)
 |list _ _ i1 i2=>intro ms r;cases r with |cons a b=>cases a with |list h1 h2 h3 h4 r=>exact .cons (.list h1 h2 h3 (oF h4) (i1 r)) (i2 b)
 |@cut i us Fx vs jN e hl _ _ i1 i2=>
  intro ms r
  cases r with
  |cons a b=>
  obtain⟨p,hp,rfl⟩:=a.fm;obtain⟨e1,WU,k,g,q⟩:=S.objs _ _ _ e hp;refine rl e1<|.cons (.list g rfl rfl (λhm=>?_) (i1 q)) (i2 b)
  rcases cC.mp hm with hm |hm
  .obtain⟨p',uj,e'⟩:=dz hm
   obtain⟨j,hj⟩:=List.mem_iff_getElem?.mp uj;have Wv:j<n:=(Nat.lt_or_ge j n).elim id λq=>by rw[show(Z.cut n).objs=Z.objs.take n from rfl] at hj;replace hj:=(List.getElem?_take_eq_none q).symm.trans hj;injection hj
   have Tf:Z.objs[j]? = some p':=(List.getElem?_take_of_lt Wv).symm.trans hj;have h1 :(Z.objs.map (·.2))[j]? = some p.2:=by refine(List.getElem?_map).trans ?_;exact rl Tf<|rr e' rfl
   have h2 :(Z.objs.map (·.2))[i]? = some p.2:=by refine(List.getElem?_map).trans ?_;exact rl hp rfl
   have:=(List.getElem?_inj (List.getElem?_eq_some_iff.mp h1).1 S.FZ).mp (h1.trans h2.symm);lia
  .exact S.gM hp hm
theorem d8.G9 {R:Y->β->Prop}{P:Y->Bool}(f:Y->V)(hP :∀a,V.iI n (f a)=P a)(al:d8 R as bs):V.iJ n (as.map f)=true->d8 (λa b=>R a b/\P a=true) as bs:=by
 induction al with
 |nil=>exact λ_=>.nil
 |cons r _ ih=>exact λq=>.cons ⟨r,(hP _)▸(cM q).1⟩ (ih (cM q).2)
theorem mB.cut {o:O}(r:mB Z h o p)(q:oE n o=true):mB (Z.cut n) h o p:=by
 cases o with
 |list vs=>obtain⟨e,ms,k,g,r⟩:=r;exact⟨e,ms,k,g,r.iI q⟩
 |dict kd az=>
  obtain⟨e,r⟩:=r;obtain⟨q1,q2⟩:=cM q;refine⟨e,?_⟩
  cases kd with
  |int=>obtain⟨ks,d,al⟩:=r;exact⟨ks,d,(al.G9 (P:=λkv=>V.iI n kv.2) (·.2) (λ_=>rfl) q2).mono λ_ _ z=>⟨z.1.1,z.1.2.iI z.2⟩⟩
  |str=>obtain⟨ks,d,al⟩:=r;exact⟨ks,d,(al.G9 (P:=λkv=>V.iI n kv.2) (·.2) (λ_=>rfl) q2).mono λ_ _ z=>⟨z.1.1,z.1.2.iI z.2⟩⟩
  |tup=>
   obtain⟨ks,d,al⟩:=r;refine⟨ks,d,((al.G9 (P:=λkv=>V.iI n kv.2) (·.2) (λ_=>rfl) q2).G9 (P:=λkv=>V.iI n kv.1) (·.1) (λ_=>rfl) q1).mono λa b z=>⟨⟨z.1.1.1.1,?_⟩,z.1.1.2.iI z.1.2⟩⟩;have:=z.1.1.1.1;exact z.1.1.1.2.iI (this▸z.2)
 |inst c fs=>
  refine ct λG hG=>?_;obtain⟨x,ks,d,al⟩:=r;refine hG ?_;exact⟨x,ks,d,(al.G9 (n:=n) (P:=λkv:Nat×V=>V.iI n kv.2) (λkv:Nat×V=>kv.2) (λ_=>rfl) q).mono λ_ _ z=>⟨z.1.1,z.1.2.iI z.2⟩⟩
theorem gP.cut (S:gP Z U h)(q :∀o∈U.take n,oE n o=true):gP (Z.cut n) (U.take n) h:=by
 have sub :∀a,a∈bH (Z.cut n)->a∈bH Z:=λa hm=>Classical.byContradiction λz=>oF z hm;refine⟨S.base,S.ok,λa ha=>S.fresh a (sub a ha),S.qG,?_,?_,λi o p e e'=>?_⟩
 .have hn:=S.nodup
  unfold bH at hn ⊢;rw[List.nodup_append] at hn ⊢;refine⟨?_,hn.2.1,λa ha b hb=>hn.2.2 a ?_ b hb⟩
  .exact rl (show(Z.cut n).objs=Z.objs.take n from rfl)<|rl List.map_take<|hn.1.sublist (List.take_sublist _ _)
  .obtain⟨p,hp,e⟩:=dz ha
   exact List.mem_map.mpr ⟨p,List.mem_of_mem_take hp,e⟩
 .show(Z.objs.take n).length=_;refine List.length_take.trans ?_;exact rl List.length_take<|rl S.len rfl
 .have hi:i<n:=(Nat.lt_or_ge i n).elim id λz=>by replace e:=(List.getElem?_take_eq_none z).symm.trans e;cases e
  exact(S.objs i o p ((List.getElem?_take_of_lt hi).symm.trans e) ((List.getElem?_take_of_lt hi).symm.trans e')).cut (q o (List.mem_of_getElem? e))
end
inductive vL (m:Nat)(r:Res V):Res V->Prop
 |same:vL m r r
 |stuck:vL m r .stuck
 |cut {v v':V} {U:bw} (n:Nat):r=.ok v U->m<=n->(∀o∈U.take n,oE n o=true)->xp U n [v] [v']->vL m r (.ok v' (U.take n))
theorem aZ.drops {f:Addr}{g':List V->bw->Res V}(hg:aZ n f g)(hd :∀vs U,vL U.length (g vs U) (g' vs U)):aZ n f g':=by
 intro A l room Z U s vs ms S L r R p;refine hg A l room Z U s vs ms S L r R ?_;have d:=hd vs U;generalize g vs U=r0 at d;generalize g' vs U=r1 at d p;revert p;cases d with
 |same=>intro p;exact p
 |stuck=>intro p;exact p.elim
 |@cut v v' bq k e hm q z=>
  intro p;refine rl e ?_;intro bK s' mv S' x' r';have z':aD (bK.cut k) s'.heap [v'] [mv]:=aD.frz S'.heap z (.cons r' .nil)
  cases z' with
  |cons z1 _=>
  refine p (bK.cut k) s' mv ⟨S'.heap.cut q,S'.gens,S'.os⟩ ⟨?_,x'.eE,x'.held,x'.live,x'.keep,x'.slot,x'.soft⟩ z1;obtain⟨u,e1,hu⟩:=x'.more;refine⟨u.take (k - Z.objs.length),?_,λa ha=>?_⟩
  .show bK.objs.take k=_
   exact rl e1<|rl List.take_append<|rl (List.take_of_length_le (by rw[S.heap.len];exact hm)) rfl
  .obtain⟨p,hp,e2⟩:=dz ha
   exact hu a (List.mem_map.mpr ⟨p,List.mem_of_mem_take hp,e2⟩)
def x9 (g:List V->bw->Option V)(fs:List (ME V)):ME V:=(aS fs).bind λvs=>λ_ U=>Res.cO (g vs U) U
def ip (Bw:bw->V->Bool)(m:V->List V->bw->Option (V×bw))(f:ME V)(fs:List (ME V)):ME V:=
 f.bind λv=>λfr U=>if Bw U v then ((aS fs).bind λvs=>λ_ U=>match m v vs U with |some (r,bB)=>.ok r bB |.none=>.stuck) fr U else .stuck
def ic (U:bw)(v:V):Bool:=(gi U v).isSome
def vM (v:V)(vs:List V)(U:bw):Option ((Nat×DK×List (V×V))×V×V):=(gi U v).bind λq=>match vs with |[x,d]=>some (q,x,d) |_=>.none
def pF (v:V)(vs:List V)(U:bw):Option (V×bw):=(vM v vs U).bind λq=>q.2.1.g6.bind λk=>if q.1.2.1=.tup/\fu .tup (.tup k)=true then some ((cn q.1.2.2 (.tup k)).getD q.2.2,U) else .none
def MX (i:Nat)(az:List (V×V))(k d:V)(U:bw)(o:Option V):V×bw:=match o with
 |some x=>(x,U)
 |.none=>(d,U.set i (.dict .str (gp az k d)))
def tn (v:V)(vs:List V)(U:bw):Option (V×bw):=(vM v vs U).bind λq=>q.2.1.nY.bind λk=>if q.1.2.1=.str/\cE q.1.2.2.length=true then some (MX q.1.1 q.1.2.2 (.str k) q.2.2 U (cn q.1.2.2 (.str k))) else .none
def Ha (vs:List V)(_:bw):Option V:=(lh vs).bind λv=>v.int?.map .int
section
variable {D:List Addr}
noncomputable def Hb (n:Nat)(f:Value)(g:List V->bw->Option V):Prop:=
 ∀(a:Act),b9 n a->∀(Z:dW) (U:bw) (s:Shared) (vs:List V) (ms:List Value) (r:V) (Q:iN) (E:iN),St Z U s->aD Z s.heap vs ms->g vs U=some r->
  bt a Z s (.ok r U) Q E->wpAny bS a.A (call f ms) Q E s
theorem oG {f:Value}{x:Str}{es:List Expr}{g:List V->bw->Option V}(hf :(∃i,f=.builtin i)\/∃i,f=.type i)(H:Hb n f g)(hb:bootBuiltins x=some f)(hn:x≠"__name__")(hd :(x ==("__debug__" : Str))=false)(hs:gz n sc es (aS fs))(hp:dc pos es)(hx:sc.names.lookup x=some .globalImplicit)(e:nsIn W.K mainGlobals x=some Option.none) :
  cm n sc (.Call (.Name x np) es [] pos) (x9 g fs):=by
 intro a ok bJ Z U fr s S F Q E p;subst bJ;refine Call_Name rfl (gE (v:=f) ok S hx e hb hn hd ?_);have fin:wpAny bS a.A (spliced (backTo pos (starEach es a.env))) (λms s1=>wpAny bS a.A (PySem.call f ms) Q E s1) E s:=by
  refine hs.bind ok rfl S F p λvs bU jo s2 ms S2 F2 x2 r2 p2=>?_;dsimp only at p2;refine cb.opt p2 λr hb p2=>?_;exact H a ok _ _ _ _ _ _ _ _ S2 r2 hb p2
 rcases hf with ⟨i,rfl⟩|⟨i,rfl⟩
 .exact Calls.callWith_builtin (hp _) (c7 (hp _) (cB fin (λms s1 h1=>h1) λ_ _ x=>x))
 .exact PySem.callWith_type (hp _) (c7 (hp _) (cB fin (λms s1 h1=>h1) λ_ _ x=>x))
structure Bx (n:Nat)(cls id:String)(x:Str)(Bw:bw->V->Bool)(m:V->List V->bw->Option (V×bw)):Prop where
 attrs:PlainAttrs cls
 slot:Slot cls x id
 typ:typeOf (.builtin id)=pure (.type "method_descriptor")
 at_ :∀{Z:dW} {U:bw} {s:Shared} {v:V} {mv:Value},St Z U s->aH Z s.heap v mv->Bw U v=true->s.TypeIs mv cls/\∀b,mv=.ref b->∃ob,s.heap.get? b=some ob/\ob.dict=none
 ok :∀(a:Act),b9 n a->∀(Z:dW) (U bB:bw) (s:Shared) (v:V) (mv:Value) (vs:List V) (ms:List Value) (r:V) (Q:iN) (E:iN),St Z U s->aH Z s.heap v mv->aD Z s.heap vs ms->
  m v vs U=some (r,bB)->bt a Z s (.ok r bB) Q E->wpAny bS a.A (call (.builtin id) (mv::ms)) Q E s
theorem iK {cls id:String}{x:Str}{Bw:bw->V->Bool}{m:V->List V->bw->Option (V×bw)}{o:Expr}{es:List Expr}{f:ME V}(H:Bx n cls id x Bw m)(ho:cm n sc o f)(hs:gz n sc es (aS fs))(hp:dc pos es)(N0:Cx pos es)(Gr :(Aq.endLine == pos.line)=true)(hb:Gq o x):cm n sc (.Call (.Attribute o x Aq) es [] pos) (ip Bw m f fs):=by
 intro a ok bJ Z U fr s S F Q E p;refine wpAny_Call_method_late (hb _) (N0 _) Gr rfl (ho.bind ok bJ S F p λv bq cG s1 mv S1 F1 x1 r1 p1=>?_);dsimp only at p1;by_cases hr:Bw bq v=true
 .rw[ay hr] at p1
  obtain⟨hT,hd⟩:=H.at_ S1 r1 hr;refine⟨cls,id,H.attrs,H.slot,H.typ,hT,hd,?_⟩;refine Calls.callWith_builtin (hp _) (c7 (hp _) (hs.bind ok bJ S1 F1 p1 λvs bU jo s2 ms S2 F2 x2 r2 p2=>?_));dsimp only at p2
  cases hm:m v vs bU with
  |none=>rw[hm] at p2;exact p2.elim
  |some q=>
   refine ct λG hG=>?_;obtain⟨r,bB⟩:=q;rw[hm] at p2;refine hG ?_;exact H.ok a ok _ _ _ _ _ _ _ _ _ _ _ S2 (r1.mono x2) r2 hm p2
 .rw[av hr] at p1;exact p1.elim
theorem ze {q:(Nat×DK×List (V×V))×V×V}(e:vM v vs U=some q) :∃i kd az x d,q =((i,kd,az),x,d)/\v=.ref i/\U[i]? = some (.dict kd az)/\vs=[x,d]:=by
 refine aT e λq1 hq e1=>?_;obtain⟨i,kd,az⟩:=q1;obtain⟨h1,h2⟩:=jV hq
 cases vs with
 |nil=>injection e1
 |cons x vs=>cases vs with
  |nil=>injection e1
  |cons d vs=>cases vs with
   |nil=>injection e1 with e1;subst e1;exact⟨i,kd,az,x,d,rfl,h1,h2,rfl⟩
   |cons _ _=>injection e1
theorem oH:Bx n "dict" "dict.get" (ofString "get") ic pF:=by
 refine⟨F.plainAttrs_dict,F.slot_dict_get,F.type_dict_get,λS r e=>mh S r e,?_⟩;intro a ok Z U bB s v mv vs ms r Q E S rv rs e0 p;refine aT e0 λq hq e1=>?_;clear e0;obtain⟨i,kd,az,x,dv,rfl,rfl,hi,rfl⟩:=ze hq;clear hq;refine aT e1 λj hj e2=>?_;clear e1;dsimp only at hj e2;obtain rfl:=V.eP hj
 split at e2
 case isFalse=>injection e2
 rename_i hz;obtain⟨rfl,hk⟩:=hz
 cases e2;obtain⟨m1,m2,rfl,r1,r2⟩:=rs.two;obtain⟨pp,hp,rfl⟩:=rv.fm;obtain⟨e1,ks,d,al⟩:=S.heap.objs _ _ _ hi hp;refine rl e1 ?_;obtain⟨b,rfl,hb⟩:=jU r1 hk;have hh:=n0 (k:=j) al;refine call_meetsIn F.slot_dict_get d.typeIs F.entry_dict_get (F.args_dict_get_3 _ _ _) (meetsH_dict_get_default (dX) pp.2 b (nZ S.heap (eB hp)) m2) ⟨(by have:=ok.units;show a.A.in1.units+64<cLine;simp only;exact Qv ⋯),j,ks,hb,d,bt.val (s':={s with toks:=s.toks+(dX).draws j}) p S.fW (.refl ..) ?_⟩;generalize cn az (.tup j)=o1 at hh;generalize atKey ks j=o2 at hh
 cases o1 <;> cases o2 <;> first |exact hh.elim |exact r2 |exact hh
theorem El:Bx n "dict" "dict.setdefault" (ofString "setdefault") ic tn:=by
 refine⟨F.plainAttrs_dict,F.slot_dict_setdefault,F.type_dict_setdefault,λS r e=>mh S r e,?_⟩;intro a ok Z U bB s v mv vs ms r Q E S rv rs e0 p;refine aT e0 λq hq e1=>?_;clear e0;obtain⟨i,kd,az,x,dv,rfl,rfl,hi,rfl⟩:=ze hq;clear hq;refine aT e1 λj hj e2=>?_;clear e1;dsimp only at hj e2;obtain rfl:=V.iW hj
 split at e2
 case isFalse=>injection e2
 rename_i hz;obtain⟨rfl,hz⟩:=hz;obtain⟨m1,m2,rfl,r1,r2⟩:=rs.two;obtain⟨pp,hp,rfl⟩:=rv.fm;obtain⟨e1,ks,d,al⟩:=S.heap.objs _ _ _ hi hp;refine rl e1<|ct λG hG=>?_
 obtain⟨t1,rfl⟩:=r1.str_inv;have hh:=r7 (k:=j) al;refine hG ?_;refine call_meetsIn F.slot_dict_setdefault d.typeIs F.entry_dict_setdefault (F.args_dict_setdefault_3 _ _ _) (kt_meets_setdefault (strKind W.prog W.w) pp.2 (strKind_is _ _ _ _) (nZ S.heap (eB hp)) m2) ⟨ks,d,rr al.length<|dn hz,λu hu=>?_,λhu h' d' hs=>?_⟩
 .rw[hu] at hh
  generalize cn az (.str j)=o1 at hh e2
  cases o1 with
  |none=>exact hh.elim
  |some x=>cases e2;exact bt.val (s':={s with toks:=s.toks+1}) p S.fW (.refl ..) hh
 .rw[hu] at hh
  generalize cn az (.str j)=o1 at hh e2
  cases o1 with
  |some x=>exact hh.elim
  |none=>
   refine ct λG hG=>?_
   cases e2;obtain⟨S',x'⟩:=sf (tk:=s.toks+1) S hp e1 al r2 d' hs;refine hG ?_;exact bt.val p S' x' (r2.mono x')
theorem OE:Hb n (Value.type "int") Ha:=by
 intro a ok Z U s vs ms r Q E S rs e p;refine ct λG hG=>?_;refine aT e λv hv e=>?_;refine dh e λi hi z2=>?_;subst z2;obtain rfl:=iF hv;obtain rfl:=V.fH hi;obtain⟨m1,rfl,r1⟩:=rs.one;obtain⟨t,rfl⟩:=r1.int_inv;refine hG ?_;exact call_int_int (bt.val p S (.refl ..) r1)
end
noncomputable def Hc:List V->Option (List (List Nat))
 |[]=>some []
 |v::r=>v.nY.bind λs=>(Hc r).map (s::·)
noncomputable def Em (x:List Nat):List (List Nat)->List (List Nat)
 |[]=>[x]
 |y::ys=>if decide (y<x) then y::Em x ys else x::y::ys
def zf (l:List (List Nat)):List (List Nat):=l.foldr Em []
def Hd (U:bw)(v:V):Option (List V):=match gi U v with
 |some q=>if q.2.1=.str/\cE q.2.2.length=true then some (q.2.2.map (·.1)) else .none
 |.none=>items? U v
def oI (xs:List V):Option (List V):=if xs.length<2 then some xs else if xs.length<64 then (Hc xs).map λss=>(zf ss).map .str else .none
def kM (vs:List V)(U:bw):Option V:=(lh vs).bind λv=>(Hd U v).bind λxs=>(oI xs).map .list
theorem vN (x:List Nat) :∀l,(Em x l).Perm (x::l):=by
 intro y
 induction y with
 |nil=>
  exact .refl _
 |cons y ys ih=>
  show List.Perm (if decide (y<x) then y::Em x ys else x::y::ys) _
  split
  .exact((ih).cons y).trans (.swap ..)
  .exact .refl _
theorem By :∀l,(zf l).Perm l:=by
 intro y
 induction y with
 |nil=>
  exact .refl _
 |cons x xs ih=>
  exact(vN x _).trans ((ih).cons x)
theorem zg (x:List Nat) :∀l:List (List Nat),l.Pairwise (λa b=>¬b<a)->(Em x l).Pairwise λa b=>¬b<a:=by
 intro y
 induction y with
 |nil=>
  intro _;exact List.pairwise_singleton ..
 |cons y ys ih=>
  intro h;obtain⟨h1,h2⟩:=List.pairwise_cons.mp h;show List.Pairwise _ (if decide (y<x) then y::Em x ys else x::y::ys);by_cases nQ:y<x
  .refine rl (ay (bN nQ))<|List.pairwise_cons.mpr ⟨λz hz=>?_,ih h2⟩
   rcases b8 ((vN x ys).mem_iff.mp hz) with rfl |hz
   .exact λq=>List.lt_asymm q nQ
   .exact h1 z hz
  .refine rl (av (by rw[cI nQ];exact Bool.false_ne_true))<|List.pairwise_cons.mpr ⟨λz hz=>?_,h⟩
   rcases b8 hz with rfl |hz
   .exact nQ
   .exact λq=>List.not_lt.mpr (List.le_trans (List.not_lt.mp nQ) (List.not_lt.mp (h1 z hz))) q
theorem xq :∀l,(zf l).Pairwise λa b=>¬b<a:=by
 intro y
 induction y with
 |nil=>
  exact .nil
 |cons x xs ih=>
  exact zg x _ (ih)
theorem zh :∀(p:Str) (l:List Str),risingS p l=true->(p::l).Pairwise λa b=>¬b.cps.toList<a.cps.toList:=by
 intro y0 y
 induction y generalizing y0 with
 |nil=>
  intro _;exact List.pairwise_singleton ..
 |cons x r ih=>
  intro h;obtain⟨h1,h2⟩:=cM (show(!PySem.Spec.ltCps x.cps.toList y0.cps.toList&&risingS x r)=true from h);have ih:=ih x h2;have h3 :¬x.cps.toList<y0.cps.toList:=λq=>by rw[ltCps_eq,bN q] at h1;injection h1
  refine List.pairwise_cons.mpr ⟨λz hz=>?_,ih⟩;rcases b8 hz with rfl |hz
  .exact h3
  .exact λq=>List.not_lt.mpr (List.le_trans (List.not_lt.mp h3) (List.not_lt.mp ((List.pairwise_cons.mp ih).1 z hz))) q
theorem xr {ss:List (List Nat)}{fP:List Str}(p:fP.Perm (ss.map cL))(h:sortedS fP=true):fP =(zf ss).map cL:=by
 have h1:fP.Pairwise λa b=>¬b.cps.toList<a.cps.toList:=by
  cases fP with
  |nil=>exact .nil
  |cons x r=>exact zh x r h
 have h2 :((zf ss).map cL).Pairwise λa b=>¬b.cps.toList<a.cps.toList:=List.pairwise_map.mpr (xq ss);exact(p.trans ((By ss).map cL).symm).eq_of_pairwise (λa b _ _ q1 q2=>by
  have:=List.le_antisymm (List.not_lt.mp q1) (List.not_lt.mp q2)
  cases a with |mk a=>cases b with |mk b=>exact aP Str.mk (Array.toList_inj.mp this)) h1 h2
section
variable {D:List Addr}
theorem KJ :∀{xs:List V} {ss:List (List Nat)} {ms:List Value},Hc xs=some ss->aD Z h xs ms->StrsAre ms (ss.map cL):=by
 intro xs
 induction xs with
 |nil=>intro ss ms e r;injection e with e;subst e;obtain rfl:=r.nil_inv;exact .nil
 |cons x xs ih=>
  intro ss ms e r;refine aT e λi h1 e1=>?_;refine dh e1 λjs e2 z2=>?_;subst z2;obtain rfl:=V.iW h1;obtain⟨m,ms,rfl,h1,h2⟩:=r.cons_inv;obtain⟨t,rfl⟩:=h1.str_inv;exact .cons _ _ (ih e2 h2)
theorem En :∀{ss:List (List Nat)} {ms:List Value},StrsAre ms (ss.map cL)->aD Z h (ss.map .str) ms:=by
 intro y
 induction y with
 |nil=>
  intro _ q
  cases q;exact .nil
 |cons x xs ih=>
  intro _ q
  cases q with |cons _ t r=>exact .cons (.str x t) (ih r)
theorem KL {l:Addr}{xs:List V}{vs:List Value}{P:PySem.Fin->Shared->Prop}(ho:s.heap.get? l=some (cS "list" vs.toArray k))(r:aD Z h0 xs vs)(e:oI xs=some ys)(hP :∀fP h',aD Z h0 ys fP->(∃e,h'.get? l=some (cS "list" fP.toArray e))->(∀b o,b≠l->s.heap.get? b=some o->h'.get? b=some o)->P (.done (.ret .none)) {s with heap:=h'}) :
  wpAny bS A (Builtin.«list.sort» ⟨[.ref l],[]⟩) P E s:=by
 have hl:=r.length;unfold oI at e
 split at e
 .rename_i h2
  refine ct λG hG=>?_;injection e with e;subst e;refine hG ?_;exact mO ho (lt_of_eq_of_lt (id (Eq.symm hl)) h2) λh' q k=>hP vs h' r q k
 .split at e
  case isFalse=>injection e
  refine ct λG hG=>?_;rename_i yA;refine dh e λss hs z1=>?_;subst z1;have hS:=KJ hs r;refine hG ?_;refine list_sort_treeK strKind_oneLt ho hS.keysOf (λaag aah jR e=>keyKind_strs (rr e<|hS)) (lt_of_eq_of_lt (id (Eq.symm hl)) yA) λxm hp hq=>?_
  refine ct λG hG=>?_;obtain⟨ss',h1,h2,h3⟩:=sorted_out_str hS hp hq;rw[xr h2 h3] at h1;have e1 :((arrOf xm).map (·.2)).toList.toArray =(arrOf xm).map (·.2):=Array.toArray_toList;refine hG ?_;refine hP _ _ (En h1) ?_ λb o hb e=>?_
  .exact rl e1<|sortedHeap_at ho
  .refine(sortedHeap_old hb (cK e)).trans ?_;exact e
theorem KN :∀{az:List (V×V)} {ks:List (Str×Value)},d8 (λkv km=>(∃x,kv.1=.str x/\km.1=cL x)/\aH Z h kv.2 km.2) az ks->∀us:List Value,ks.length=us.length->
  (∀(j:Nat) (u:Value),us[j]? = some u->∃k x,ks[j]? = some (k,x)/\(strKind W.prog W.w).is k u=true)->aD Z h (az.map (·.1)) us:=by
 intro az ks al
 induction al with
 |nil=>intro us e _;obtain rfl:=List.eq_nil_of_length_eq_zero e.symm;exact .nil
 |@cons kv km as bs r al ih=>
  intro us e Gi
  cases us with
  |nil=>injection e
  |cons u us=>
  refine ct λG hG=>?_;obtain⟨⟨x,e2,e3⟩,_⟩:=r;obtain⟨k,y,h1,h2⟩:=Gi 0 u rfl;injection h1 with h1;subst h1;have h3 :(strKind W.prog W.w).is (cL x) u=true:=e3▸h2;refine hG ?_;refine rl List.map_cons<|rl e2<|.cons ?_ (ih us (Nat.succ.inj e) λj u e=>Gi (j+1) u e)
  refine ct λG hG=>?_;obtain⟨t,rfl⟩:=Value.isStrOf_shape h3;refine hG ?_;exact .str x t
theorem zi {xs:List V}{Q:List Value->Shared->Prop}(hh:A.handled=none)(S:St Z U s)(r:aH Z s.heap v m)(e:Hd U v=some xs)(hz:xs.length<=sizeLine)(h :∀h' tk vs,(∀b o,s.heap.get? b=some o->h'.get? b=some o)->aD Z s.heap xs vs->Q vs {s with heap:=h',toks:=tk}):wpAny bS A (collect m) Q E s:=by
 unfold Hd at e
 cases hd:gi U v with
 |none=>
  refine ct λG hG=>?_;rw[hd] at e;obtain⟨b,ik,rfl,l,q⟩:=dY S.heap r e;have hl:=q.length;refine hG ?_;refine collect_list (vs:=ik.toList) (rl Array.toArray_toList<|l) (h _ s.toks _ (λb o e=>?_) q) (rr hl<|hz)
  exact(Heap.get?_update_other _ _ λz=>absurd (cK e) (by exact rl z<|Nat.lt_irrefl _)).trans (bT _ e)
 |some q=>
  refine ct λG hG=>?_;obtain⟨i,kd,az⟩:=q;rw[hd] at e;obtain⟨rfl,hi⟩:=jV hd;dsimp only at e hi;refine hG ?_
  split at e
  case isFalse=>injection e
  refine ct λG hG=>?_;rename_i hk;obtain⟨rfl,hk⟩:=hk;injection e with e;subst e;obtain⟨p,hp,rfl⟩:=r.fm;obtain⟨e1,ks,d,al⟩:=S.heap.objs _ _ _ hi hp;refine hG ?_;refine rl e1<|ct λG hG=>?_
  obtain⟨ep,Gi⟩:=d.dictAt;refine hG ?_;refine kdu_collect (kdl_dict (knd:=strKind W.prog W.w) (nZ S.heap (eB hp))) hh Gi (rr al.length<|dn hk) λh' tk bh Gy sX=>h h' tk _ Gy ?_
  exact KN al _ (by refine eZ.trans ?_;exact sX.1.symm) λj u e=>sX.2 j u (by refine(Eq.symm (Array.getElem?_toList)).trans ?_;exact e)
theorem xt:Hb n (.builtin "sorted") kM:=by
 intro a ok Z U s vs ms r Q E S rs e p;refine ct λG hG=>?_;refine aT e λv hv e=>?_;refine aT e λxs hx e=>?_;refine dh e λys hy z3=>?_;subst z3;obtain rfl:=iF hv;obtain⟨m1,rfl,r1⟩:=rs.one;have yA:xs.length<64:=by
  unfold oI at hy
  split at hy
  .exact q1 ⋯ (by rfl)
  .split at hy
   .assumption
   .injection hy
 refine hG ?_;refine Calls.call_function_entry kind_sorted plain_sorted entry_sorted (args_sorted1 _) ?_;refine wb (m:=checkCount "sorted" 1 1 _) (aw ?_);refine wb (zi (by simp[ok.hand]) S r1 hx (by refine rl sizeLine_eq ?_;exact q4 ⋯ (by rfl)) λh1 tk vs k1 rv=>?_);have hl:=rv.length;refine wb (wpAny_newList ?_ (by refine rr hl<|rl sizeLine_eq ?_;exact q4 ⋯ (by rfl)))
 have x8 :(h1.push (cS "list" vs.toArray 0)).get? h1.objs.size=some (cS "list" vs.toArray 0):=cD _ rfl;have hn:s.heap.get? h1.objs.size=none:=by
  cases z:s.heap.get? h1.objs.size with
  |none=>rfl
  |some o=>exact absurd (cK (k1 _ _ z)) (Nat.lt_irrefl _)
 show wpAny _ _ _ _ _ {s with heap:=h1.push (cS "list" vs.toArray 0),toks:=tk};refine wb (cQ (fF slot_list_sort ⟨_,x8,rfl⟩ entry_list_sort ?_ (args_list_sort _)));refine KL x8 rv hy λfP h' ro ⟨e',he⟩ k3=>⟨_,rfl,aw ⟨_,rfl,?_⟩⟩;refine ct λG hG=>?_;have k :∀b o,s.heap.get? b=some o->h'.get? b=some o:=λb o e=>k3 b o (λz=>by rw[z] at e;replace e:=hn.symm.trans e;injection e) (bT _ (k1 _ _ e));obtain⟨S',x'⟩:=S.kept (tk:=tk) k;refine hG ?_;refine bt.val p S' x' (.list he rfl rfl (λhm=>?_) (ro.mono x'));obtain⟨ob,eb,_⟩:=S.heap.gL hm;replace eb:=hn.symm.trans eb;injection eb
end
def He (i:Nat)(k v:V)(U:bw):Option bw:=(gi U (.ref i)).bind λq=>k.g6.bind λks=>if q.2.1=.tup/\fu .tup (.tup ks)=true/\cE q.2.2.length=true then some (U.set i (.dict .tup (gp q.2.2 (.tup ks) v))) else .none
def xu (f g:ME V):ME V:=λfr U=>(f fr (U++[.dict .tup []])).andThen λk bq=>(g fr bq).andThen λv bU=>match He U.length k v bU with |some bB=>.ok (.ref U.length) bB |.none=>.stuck
section
variable {D:List Addr}
theorem zj {k v:Expr}{f g:ME V}(hk:cm n sc k f)(hv:cm n sc v g):cm n sc (.Dict [some k] [v] pos) (xu f g):=by
 intro a ok bJ Z U fr s S F Q E p;refine wpAny_Dict_any rfl rfl (by simp) (by simp) ?_;show wpAny _ _ (evalPairs [(eval k a.env,do let x <- eval v a.env;standAt pos;pure x)]) _ _ _;refine ct λG hG=>?_;obtain⟨S0,x0,r0⟩:=yP (kd:=.tup) S;have p1:=cb.step (s':={s with heap:=s.heap.push {cls:=.type "dict",data:=.dict #[]}}) x0 (show cb a Z s ((f fr (U++[.dict .tup []])).andThen _) (KV Q) E from p);refine hG ?_;refine evalPairs_cons (hk.bind ok bJ S0 (F.ext x0) p1 λv1 bq cG t1 m1 T1 G1 y1 r1 q1=>?_);refine wb (hv.bind ok bJ T1 G1 q1 λv2 bU jo t2 m2 T2 G2 y2 r2 q2=>wb (wpAny_standAt (aw ?_)));refine evalPairs_nil ?_;have hp:jo.objs[U.length]? = some (s.heap.objs.size,s.heap.objs.size):=by
  refine(y1.trans y2).get ?_;refine rr S.heap.len ?_;simp[dW.add]
 unfold storeAll;refine rl (List.forIn_cons ..) ?_
 cases hd:He U.length v1 v2 bU with
 |none=>rw[hd] at q2;exact q2.elim
 |some bB=>
  refine ct λG hG=>?_;rw[hd] at q2;refine aT hd λq1 hq e1=>?_;obtain⟨i,kd,az⟩:=q1;refine aT e1 λks hk e2=>?_;clear hd e1;obtain⟨hi,hd⟩:=jV hq;obtain rfl:=V.eP hk;injection hi with hi;subst hi;dsimp only at e2 hd;refine hG ?_
  split at e2
  case isFalse=>injection e2
  refine ct λG hG=>?_;rename_i hz;obtain⟨rfl,AS,TK⟩:=hz;injection e2 with e2;subst e2;obtain⟨_,xs,dd,al⟩:=T2.heap.objs _ _ _ hd hp;have RP:=r1.mono y2;obtain⟨b,rfl,hb⟩:=jU RP AS;refine hG ?_;refine wb (wb (wpAny_dictSet_heap (knd:=dX) (by have:=ok.units;show a.A.units+64<cLine;exact Yd ⋯ (by rfl)) hb dd (λh' d' hs=>aw ?_) (rr al.length<|dn TK)))
  refine ct λG hG=>?_;obtain⟨S',x'⟩:=m8 (tk:=t2.toks+(dX).draws ks) T2 hp rfl al RP r2 d' hs;refine hG ?_;exact aw (bt.val q2 S' x' (.ref (p:=(s.heap.objs.size,s.heap.objs.size)) hp))
end
noncomputable def nv (vs:List V):List V:=vs.zipIdx.map λp=>.tup [.int p.2,p.1]
def kO (f:ME V):ME (List V):=f.bind λv=>λ_ U=>Res.cO (v.g6.map nv) U
section
variable {D:List Addr}
theorem gq.two {oe oi Y2:Obj}(he:h.get? e=some oe)(hi:h.get? it=some oi)(se:fq oe)(si:fq oi)(dg:e≠it)(xZ:h'.get? it=some Y2)(k :∀b o,b∉[e,it]->h.get? b=some o->h'.get? b=some o) :
  ∃h1,gq it h h1/\gq e h1 h':=by
 refine⟨h.update it λ_=>Y2,⟨(dP ..).extBut,oi,hi,si⟩,λb o hb q=>?_,oe,((dP h it _).2 e dg).trans he,se⟩;by_cases Oy:b=it
 .subst Oy
  replace q:=(Heap.get?_update_self _ hi (Heap.get?_some_iff.mp xZ).2).symm.trans q;injection q with q;subst q;exact xZ
 .exact k b o (by simp[hb,Oy]) (((dP h it _).2 b Oy).symm.trans q)
theorem xv {i:Int}{JC:Value}(he:IsEnum h e it i JC) :∃o,h.get? e=some o/\fq o:=⟨_,he,rfl,by simp,by simp,by simp,by simp⟩
theorem jJ {l:Addr}(hi:h.IsTupleIter it l i) :∃o,h.get? it=some o/\fq o:=by
 obtain⟨o,ho,hc,hd⟩:=hi;exact⟨o,ho,aP eJ hd,by rw[hc];decide,by rw[hc];decide,by rw[hc];decide,by rw[hc];simp⟩
structure lL (Z:dW)(h:Heap)(e it l:Addr)(items:Array Value)(vs:List V)(i:Nat):Prop where
 en :∃JC,IsEnum h e it i JC
 ti:h.IsTupleIter it l i
 tu:h.IsTuple l items
 ne:e∉bH Z
 ni:it∉bH Z
 nl:l∉bH Z
 ef:aD Z h vs items.toList
theorem lL.ext {l:Addr}{items:Array Value}(x:lL Z h e it l items vs i)(y:cF D Z h bK h'):lL bK h' e it l items vs i:=by
 refine ct λG hG=>?_;obtain⟨⟨JC,he⟩,⟨o,ho,hc,hd⟩,⟨ol,kX,rf,k,ph⟩,n1,n2,n3,r⟩:=x;refine hG ?_;exact⟨⟨JC,y.keep _ _ he n1 rfl⟩,⟨o,y.keep _ _ ho n2 (aP eJ hd),hc,hd⟩,⟨ol,y.keep _ _ kX n3 (aP eJ ph),rf,k,ph⟩,y.eM he n1,y.eM ho n2,y.eM kX n3,r.mono y⟩
theorem Eo {gI:List Expr}{l:Addr}{items:Array Value}(hh:A.handled=none)(RQ:e≠it)(NR:l≠e)(RD:l≠it)(S:St Z U s)(X:lL Z s.heap e it l items vs i)(hv:vs[i]? = some v){P:iN}(hP :∀mv h1 h2 tk,gq it s.heap h1->gq e h1 h2->lL Z h2 e it l items vs (i+1)->aH Z h2 (.tup [.int i,v]) mv->P mv {s with heap:=h2,toks:=tk}) :
  wpAny bS A (pyNext (.ref e)) (λr s1=>match r with |none=>False |some mv=>wpAny bS A (letOwnedTupleGo (.Tuple gI k pos) (.ref e) mv) (λ_ s2=>P mv s2) E s1) E s:=by
 refine ct λG hG=>?_;have wk:=WalksT.enumerateD (zd (prog:=W.prog) (w:=W.w) (A:=A.in1) hh it l RD items) e RQ (by simp[RQ,Ne.symm NR]) (by simp);obtain⟨⟨JC,he⟩,ti,tu,n1,n2,n3,r⟩:=X;obtain⟨x,hx,rx⟩:=r.get i v hv;replace hx:=(Array.getElem?_toList).symm.trans hx;have eO:i<items.size:=(Array.getElem?_eq_some_iff.mp hx).1;refine hG ?_;refine wk.item i s _ _ eO ⟨⟨JC,he⟩,ti,tu⟩ λT W2 h1 tk ⟨t,y,hy,RR⟩ hT W3 RS k1=>?_;refine ct λG hG=>?_;replace hy:=hx.symm.trans hy;injection hy with hy;subst hy;subst RR;have CD:=wk.apart _ _ _ RS;refine hG ?_;refine wk.go gI k pos i T _ _ _ RS λh2 st2 k2=>?_;refine ct λG hG=>?_;have kk :∀b o,b∉[e,it]->s.heap.get? b=some o->h2.get? b=some o:=λb o hb q=>k2 b o hb (k1 b o hb q);obtain⟨oe,hoe,se⟩:=xv he;obtain⟨oi,QZ,si⟩:=jJ ti;obtain⟨⟨W4,Tw⟩,Y3,tu2⟩:=st2;obtain⟨oi2,W5,_⟩:=jJ Y3;obtain⟨hm,s1,s2⟩:=gq.two hoe QZ se si RQ W5 kk;have nT:T∉bH Z:=λhm=>absurd (S.heap.lt hm) (Nat.not_lt.mpr hT);obtain⟨oT,hoT,hcT,kT,hdT⟩:=W3;refine hG ?_;exact hP _ hm h2 tk s1 s2 ⟨⟨W4,Tw⟩,Y3,tu2,n1,n2,n3,(r.side s1).side s2⟩ (.tup (k2 T oT CD hoT) hcT hdT nT (.cons (.int _ t) (.cons ((rx.side s1).side s2) .nil)))
theorem Ep (hv:vs[i]? = some v) :(nv vs).drop i=.tup [.int i,v] ::(nv vs).drop (i+1):=by
 have eO:=(List.getElem?_eq_some_iff.mp hv);have h1 :(nv vs)[i]? = some (.tup [.int i,v]):=by
  refine(List.getElem?_map).trans ?_;refine rl List.getElem?_zipIdx<|rl hv ?_;simp
 exact List.drop_eq_getElem?_toList_append.trans (rl h1 rfl)
inductive CI (a:Act)(e it l:Addr)(items:Array Value)(vs:List V)(t:kR)(fb:MS)(s0:Shared)(mY:dW)(Q:Flow->Shared->Prop)(E:iN)(m:Nat)(s:Shared):Prop
 |mk (i:Nat) (fr:eY) (U:bw) (Z:dW):m+i=vs.length->St Z U s->FS a fr Z s.heap->cF a.D mY s0.heap Z s.heap->lL Z s.heap e it l items vs i->fO a mY s0 (dJ t fb ((nv vs).drop i) fr U) Q E->CI a e it l items vs t fb s0 mY Q E m s
inductive CJ (e it l:Addr)(items:Array Value)(vs:List V)(Z:dW)(v:V)(i:Nat)(s:Shared)(mv:Value)(s2:Shared):Prop
 |mk (h1 h2:Heap) (tk:Nat):s2 ={s with heap:=h2,toks:=tk}->gq it s.heap h1->gq e h1 h2->lL Z h2 e it l items vs (i+1)->aH Z h2 v mv->CJ e it l items vs Z v i s mv s2
theorem Er {gI:List Expr}{t:kR}(ht:yD n sc (.Tuple gI k tp) t)(hb:cf n sc body fb)(ok:b9 n a)(bJ:a.env.scope=sc){l:Addr}{items:Array Value}(RQ:e≠it)(NR:l≠e)(RD:l≠it)(he0:s0.heap.get? e=none)(TG:s0.heap.get? it=none)(MR:W.h₀.get? e=none)(Oy:W.h₀.get? it=none){Q:Flow->Shared->Prop}(hR :∀f s',Q f s'->R (.ok f) s')(S1:St cG xX s1)(F1:FS a Ft cG s1.heap)(x1:cF a.D mY s0.heap cG s1.heap)(X1:lL cG s1.heap e it l items vs 0)(p:fO a mY s0 (dJ t fb (nv vs) Ft xX) Q E) :
  codeAny bS a.A (.forLoop (.Tuple gI k tp) (.ref e) body [] a.env) R s1:=by
 refine codeAny_forLoop_any (CI a e it l items vs t fb s0 mY Q E) ?_ vs.length ⟨0,Ft,xX,cG,rfl,S1,F1,x1,X1,p⟩;rintro m s ⟨i,fr,U,Z,hm,S,F,x,X,p⟩
 cases m with
 |zero=>
  have hi:i=items.size:=by refine rr eZ<|rr X.ef.length ?_;lia
  rw[List.drop_of_length_le (by unfold nv;simp;lia)] at p;obtain⟨⟨JC,he⟩,ti,tu,_⟩:=X;subst hi;refine wpAny_pyNext_enum_endD (zd (prog:=W.prog) (w:=W.w) (A:=a.A.in1) ok.hand it l RD items) he ⟨ti,tu⟩ λh' hx=>wpAny_execs_nil ?_;have d:gq it s.heap h':=⟨hx,jJ ti⟩;exact hR _ _ (p Z _ (S.side (tk:=s.toks) d Oy) (x.side (λb o dg e=>d.same b o dg e) TG) (F.side d))
 |succ m=>
  have eO:i<vs.length:=q49 ⋯;have hv:=List.getElem?_eq_getElem eO;rw[Ep hv] at p;refine cB (Eo (E:=notedBy bS a.A a.env λe s'=>R (.error e) s') (gI:=gI) (k:=k) (pos:=tp) ok.hand RQ NR RD S X hv (P:=CJ e it l items vs Z (.tup [.int i,vs[i]]) i s)
   λmv h1 h2 tk d1 d2 X2 r2=>⟨h1,h2,tk,rfl,d1,d2,X2,r2⟩) (λr s1 q=>?_) λ_ _ e=>e
  cases r with
  |none=>exact q.elim
  |some mv=>
   refine cB q (λ_ s2 q2=>?_) λ_ _ e=>e;obtain⟨h1,h2,tk,rfl,d1,d2,X2,r2⟩:=q2;have x2:=(x.side (λb o dg e=>d1.same b o dg e) TG).side (λb o dg e=>d2.same b o dg e) he0;exact CB ht hb ok bJ (St.side (s:={s with heap:=h1}) (S.side (tk:=s.toks) d1 Oy) d2 MR) ((F.side d1).side d2) x2 r2 hR p λcH bU qI s3 S3 F3 x3 p=>⟨m,Nat.lt_succ_self m,i+1,cH,bU,qI,by lia,S3,F3,x2.trans x3,X2.ext x3,p⟩
theorem mQ {gI:List Expr}{t:kR}{ee:Expr}{f:ME V}(ht:yD n sc (.Tuple gI k tp) t)(hf:gz n sc [ee] (aS [f]))(hp:dc qF [ee])(hb:cf n sc body fb)(hx:sc.names.lookup (ofString "enumerate")=some .globalImplicit)(e1:nsIn W.K mainGlobals (ofString "enumerate")=some none) :
  jT n sc (.For (.Tuple gI k tp) (.Call (.Name (ofString "enumerate") np) [ee] [] qF) body [] pos) (df t (kO f) fb):=by
 intro a ok bJ Z U fr s S F Q E p;refine ct λG hG=>?_;subst bJ;refine hG ?_;refine wpAny_For ?_ (λ_=>rfl);refine Call_Name rfl (gE (v:=.type "enumerate") ok S hx e1 (by decide +kernel) (by decide) rfl ?_);refine PySem.callWith_type (hp _) (c7 (hp _) (hf a ok rfl Z U fr s S F qF _ _ ?_));refine(?_:cb a Z s ((f fr U).andThen λv U=>.ok [v] U) _ _);unfold df cu kO ME.bind at p
 cases hr:f fr U with
 |stuck=>rw[hr] at p;exact p
 |exc c bB=>rw[hr] at p;exact λbK s' e B Ao x=>p bK s' e B (.inl Ao) x.of0 (F.ext (x.ext (Ao.elim (·.2.2.1) (·.2.2.1))))
 |ok v bq=>
  rw[hr] at p;intro cG s1 S1 x1 ms r1;refine ct λG hG=>?_;obtain⟨m,rfl,r0⟩:=r1.one;refine hG ?_
  cases hv:v.g6 with
  |none=>simp only[Res.andThen,hv] at p;exact p.elim
  |some vs=>
   refine ct λG hG=>?_;dsimp only[Res.andThen,hv] at p;obtain rfl:=V.eP hv;obtain⟨l,o,items,kk,rfl,ho,hc,hd,hn,r⟩:=r0.fV;have P9:=cK ho;refine hG ?_;refine uK ⟨o,ho,hc,kk,hd⟩ λh' hE hI hk=>wpAny_pyIter_enum hE ?_;refine ct λG hG=>?_;obtain⟨S',x'⟩:=S1.kept (tk:=s1.toks) hk;have new :∀b,s1.heap.objs.size<=b->s.heap.get? b=none/\b∉bH cG/\W.h₀.get? b=none:=λb hb=>by
    have h0:s1.heap.get? b=none:=by
     cases z:s1.heap.get? b with
     |none=>rfl
     |some o=>exact absurd (cK z) (Nat.not_lt.mpr hb)
    refine⟨?_,λhm=>absurd (S1.heap.lt hm) (Nat.not_lt.mpr hb),?_⟩
    .cases z:s.heap.get? b with
     |none=>rfl
     |some o=>obtain⟨o',e'⟩:=x1.live _ _ z;replace e':=h0.symm.trans e';injection e'
    .cases z:W.h₀.get? b with
     |none=>rfl
     |some o=>have:=S1.heap.base _ _ z;replace this:=h0.symm.trans this;injection this
   obtain⟨a1,a2,a3⟩:=new s1.heap.objs.size (Nat.le_refl _);obtain⟨b1,b2,b3⟩:=new (s1.heap.objs.size+1) (Nat.le_succ _);refine hG ?_;exact Er ht hb ok rfl (Nat.succ_ne_self _) (Nat.ne_of_lt (Nat.lt_succ_of_lt P9)) (Nat.ne_of_lt P9) b1 a1 b3 a3 (λf s' h=>h) S' (F.ext (x1.trans x')) (x1.of0.trans x'.of0) ⟨⟨_,hE⟩,hI,⟨o,hk _ _ ho,hc,kk,hd⟩,b2,a2,hn,r.mono x'⟩ p
end
def W6 (x y:V):Option Bool:=match x.int? with
 |some i=>y.int?.map λj=>decide (i<j)
 |.none=>x.nY.bind λi=>y.nY.map λj=>decide (i<j)
noncomputable def tr:List V->List V->Option Bool
 |[],ys=>some (!ys.isEmpty)
 |_::_,[]=>some false
 |x::xs,y::ys=>if x=y then tr xs ys else W6 x y
def RT (a b:V):Option Bool:=a.g6.bind λxs=>b.g6.bind λys=>if V.cT xs=true/\V.cT ys=true/\V.cw xs<=64 then tr xs ys else .none
def OG (f g:ME V):ME Bool:=f.bind λa=>g.bind λb=>λ_ U=>Res.cO (RT a b) U
section
variable {D:List Addr}
theorem OH {c:Bool}(rx:aH Z s.heap x mx)(ry:aH Z s.heap y my)(e:W6 x y=some c)(hQ:Q (.bool c) s):wpAny bS A (richCompare .Lt mx my) Q E s:=by
 unfold W6 at e
 cases hx:x.int? with
 |some i=>
  refine ct λG hG=>?_;rw[hx] at e;refine dh e λj hy z1=>?_;subst z1;obtain rfl:=V.fH hx;obtain rfl:=V.fH hy;obtain⟨t,rfl⟩:=rx.int_inv;obtain⟨u,rfl⟩:=ry.int_inv;refine hG ?_;exact(show wpAny bS A (compareOp .Lt (.int i t) (.int j u)) Q E s from P.lt_int hQ)
 |none=>
  refine ct λG hG=>?_;rw[hx] at e;refine aT e λi hx e=>?_;refine dh e λj hy z3=>?_;subst z3;obtain rfl:=V.iW hx;obtain rfl:=V.iW hy;obtain⟨t,rfl⟩:=rx.str_inv;obtain⟨u,rfl⟩:=ry.str_inv;refine hG ?_;exact(show wpAny bS A (compareOp .Lt (.str (cL i) t) (.str (cL j) u)) Q E s from P.lt_str hQ)
noncomputable def OI (x:Value×Value)(_:Option PySem.Fin×Unit):Sem (ForInStep (Option PySem.Fin×Unit)):=match x with
 | (x,y)=>do
  let b <- eqBool x y
  if (!b)=true then do
   rule "tuple.compare.by-the-first-pair-that-differs"
   let v <- richCompare .Lt x y
   let f <- ret v
   pure (ForInStep.done (some f,()))
  else pure (ForInStep.yield (none,()))
theorem KO {c:Bool}{R:Option PySem.Fin×Unit->Shared->Prop} :∀{xs ys:List V} {ms xw:List Value},aD Z s.heap xs ms->aD Z s.heap ys xw->V.cT xs=true->V.cT ys=true->A.units+V.cw xs<cLine->tr xs ys=some c->
  R (some (.done (.ret (.bool c))),()) s->(c=decide (xs.length<ys.length)->R (none,()) s)->wpAny bS A (forIn (ms.zip xw) (none,()) OI) R E s:=by
 intro xs
 induction xs with
 |nil=>
  intro ys ms xw r1 r2 _ _ _ e _ h2;refine ct λG hG=>?_;injection e with e;subst e;obtain rfl:=r1.nil_inv;refine hG ?_;exact aw (h2 (by cases ys <;> rfl))
 |cons x xs ih=>
  intro ys ms xw r1 r2 px py hu e h1 h2;refine ct λG hG=>?_;obtain⟨m,ms,rfl,rx,rs⟩:=r1.cons_inv;refine hG ?_;revert e;cases ys with
  |nil=>
   intro e;refine ct λG hG=>?_;injection e with e;subst e;obtain rfl:=r2.nil_inv;refine hG ?_;exact aw (h2 rfl)
  |cons y ys=>
  intro e;refine ct λG hG=>?_;obtain⟨m2,xw,rfl,ry,W7⟩:=r2.cons_inv;obtain⟨px,W8⟩:=cM px;obtain⟨py,W9⟩:=cM py;have JD:x.depth<=V.cw (x::xs):=Nat.le_max_left ..;have qZ:V.cw xs<=V.cw (x::xs):=Nat.le_max_right ..;refine hG ?_;refine rl List.zip_cons_cons<|rl (List.forIn_cons ..)<|wb (aY (nW rx ry px py (Qu hu JD) ?_))
  unfold tr at e;by_cases nQ:x=y
  .rw[ay nQ] at e
   refine rl (bN nQ)<|rl (av (by decide))<|aw (ih rs W7 W8 W9 (U5 hu qZ) e h1 λhc=>h2 ?_)
   refine rl hc ?_;simp
  .rw[av nQ] at e
   refine rl (cI nQ)<|rl (ay (by decide))<|wb (wpAny_rule (wb (OH rx ry e ?_)))
   exact wb (aw (aw (aw h1)))
theorem Hf {xs:List V}{c:Bool}(hu:A.units+70<cLine)(rx:aH Z s.heap (.tup xs) mx)(ry:aH Z s.heap (.tup ys) my)(px:V.cT xs=true)(py:V.cT ys=true)(dx:V.cw xs<=64)(e:tr xs ys=some c)(hQ:Q (.bool c) s):wpAny bS A (richCompare .Lt mx my) Q E s:=by
 refine ct λG hG=>?_;obtain⟨l,o,ms,k,rfl,ho,hc,hd,hn,r⟩:=rx.fV;obtain⟨l2,o2,xw,k2,rfl,wQ,xY,qZ,VT,r2⟩:=ry.fV;have hT:s.TypeIs (.ref l) "tuple":=⟨o,ho,hc⟩;have Y4:s.TypeIs (.ref l2) "tuple":=⟨o2,wQ,xY⟩;refine hG ?_;refine wpAny_richCompare_same_room hT Y4 F.slot_tuple_lt (fF F.slot_tuple_lt hT F.entry_tuple_lt ?_ (F.args_tuple_lt_2 _ _)) (Nat.lt_of_add_right_lt hu);show wpAny _ _ (isInstance (.ref l2) (.type "tuple") >>= _) _ _ _;refine aY (wpAny_isInstance (T:="tuple") (b:=true) Y4 (by refine rl (isSubtype_type ..) ?_;kernel_rfl) ?_);refine rl (av (by decide))<|wb (wpAny_tupleItemsOf ho hd (wb (wpAny_tupleItemsOf wQ qZ (wb ?_))))
 refine KO r r2 px py (by show A.units+1+V.cw xs<cLine;exact Vx hu dx) e (aw ⟨_,rfl,by simp,hQ⟩) λhc=>?_;have hv:Builtin.Tuple.tupleCompareSizes .Lt ms.size xw.size=.bool c:=by
  exact rl hc<|rl r.length<|rl r2.length<|rl eZ<|rl eZ rfl
 exact rl hv<|aw ⟨_,rfl,by simp,hQ⟩
theorem Es {l r:Expr}{f g:ME V}(hl:cm n sc l f)(hr:cm n sc r g)(hm:behindInMarks .Lt r=false):jq n sc (.Compare l [.Lt] [r] pos) (OG f g):=by
 intro a ok bJ Z U fr s S F Q E p;refine wpAny_isTrue_Compare1 (hl.bind ok bJ S F p λv bq cG s1 mv S1 F1 x1 r1 p1=>?_) hm;refine hr.bind ok bJ S1 F1 p1 λv2 bU jo s2 MC S2 F2 x2 r2 p2=>?_;dsimp only at p2
 cases e:RT v v2 with
 |none=>rw[e] at p2;exact p2.elim
 |some b=>
  refine ct λG hG=>?_;rw[e] at p2;refine aT e λxs hx e1=>?_;refine aT e1 λys hy e2=>?_;clear e e1;obtain rfl:=V.eP hx;obtain rfl:=V.eP hy;refine hG ?_;refine di e2 λhc e2=>?_;have:=ok.units;exact(show wpAny bS a.A (richCompare .Lt mv MC) _ _ s2 from Hf (Yd ⋯ (by rfl)) (r1.mono x2) r2 hc.1 hc.2.1 hc.2.2 e2 (wpAny_truthy_bool (p2 jo s2 S2 (.refl ..))))
end
def xy (f g:ME V):ME V:=f.bind λv=>g.bind λu=>λ_ U=>Res.cO (u.int?.bind λk=>if 0<=k then yt k.toNat v U else .none) U
noncomputable def MY (k:Int):List V->Option V
 |[x,y]=>if k=1 then some (.list [x,y]) else if k=-1 then some (.list [y,x]) else .none
 |_=>.none
def CK (f g:ME V):ME V:=f.bind λv=>g.bind λu=>λ_ U=>Res.cO ((items? U v).bind λvs=>u.int?.bind λk=>MY k vs) U
section
variable {D:List Addr}
theorem zk {e i:Expr}{f g:ME V}(hf:cm n sc e f)(hg:cm n sc i g):cm n sc (.Subscript e (.Slice none (some i) none sp) pos) (xy f g):=by
 intro a ok bJ Z U fr s S F Q E p;refine Subscript_ (hf.bind ok bJ S F p λv bq cG s1 mv S1 F1 x1 r1 p1=>?_);refine wpAny_Slice ?_;refine rl (evalPart_some ..)<|rl (evalPart_none ..)<|aw (hg.bind ok bJ S1 F1 p1 λu bU jo s2 mu S2 F2 x2 r2 p2=>aw ?_)
 dsimp only at p2
 cases hu :(u.int?.bind λk=>if 0<=k then yt k.toNat v bU else .none) with
 |none=>rw[hu] at p2;exact p2.elim
 |some r=>
  rw[hu] at p2;refine aT hu λk hk h1=>?_;obtain rfl:=V.fH hk;refine di h1 λh0 h1=>?_;obtain⟨t,rfl⟩:=r2.int_inv;obtain⟨j,rfl⟩:=Int.eq_ofNat_of_zero_le h0;have x3:cF [] jo s2.heap jo (s2.heap.push {cls:=.type "slice",data:=.fields #[.none,.int j t,.none]}):=cF.push _ _;exact vh (S2.lg (tk:=s2.toks) _) ((r1.mono x2).mono x3) (Heap.IsSliceOf.new ..) (λ_=>⟨_,rfl⟩) h1 (cb.step x3 p2)
theorem KP (x y:Value) :(slicePick ⟨[x,y]⟩ none none (some 1)).toList=[x,y]:=by kernel_rfl
theorem Et (x y:Value) :(slicePick ⟨[x,y]⟩ none none (some (-1))).toList=[y,x]:=by kernel_rfl
theorem Eu {k:Int}{r:V}(e:MY k vs=some r) :∃x y,vs=[x,y]/\(k=1/\r=.list [x,y]\/k=-1/\r=.list [y,x]):=by
 match vs,e with
 |[x,y],e=>
  refine⟨x,y,rfl,?_⟩;replace e :(if k=1 then some (V.list [x,y]) else if k=-1 then some (.list [y,x]) else .none)=some r:=e;by_cases h1:k=1
  .rw[ay h1] at e;exact .inl ⟨h1,(Option.some.inj e).symm⟩
  .rw[av h1] at e
   exact di e λh3 e=>.inr ⟨h3,(Option.some.inj e).symm⟩
theorem Bz {e i:Expr}{f g:ME V}(hf:cm n sc e f)(hg:cm n sc i g):cm n sc (.Subscript e (.Slice none none (some i) sp) pos) (CK f g):=by
 intro a ok bJ Z U fr s S F Q E p;refine Subscript_ (hf.bind ok bJ S F p λv bq cG s1 mv S1 F1 x1 r1 p1=>?_);refine wpAny_Slice ?_;refine rl (evalPart_some ..)<|rl (evalPart_none ..)<|aw (aw (hg.bind ok bJ S1 F1 p1 λu bU jo s2 mu S2 F2 x2 r2 p2=>?_))
 refine cb.opt p2 λr hu p3=>aT hu λvs hv h1=>aT h1 λk hk h2=>?_;clear p p1 hu h1 p2;obtain rfl:=V.fH hk;obtain⟨t,rfl⟩:=r2.int_inv;clear hk r2;have RP:=r1.mono x2;clear r1 S F x1 x2 S1 F1 F2;have S3:=S2.lg (tk:=s2.toks) {cls:=.type "slice",data:=.fields #[.none,.none,.int k t]};have x3:cF [] jo s2.heap jo (s2.heap.push {cls:=.type "slice",data:=.fields #[.none,.none,.int k t]}):=cF.push _ _;obtain⟨b,ms,rfl,l,q⟩:=dY S3.heap (RP.mono x3) hv;have q':=cb.step (s':={s2 with heap:=s2.heap.push {cls:=.type "slice",data:=.fields #[.none,.none,.int k t]}}) x3 p3;obtain⟨x,y,rfl,hh⟩:=Eu h2;clear h2;obtain⟨m1,m2,em,q1,q2⟩:=q.two;obtain⟨ms⟩:=ms;obtain rfl:ms=[m1,m2]:=em;clear q hv RP p3;have fin :∀us:List V,k≠0->r=.list us->aD jo (s2.heap.push {cls:=.type "slice",data:=.fields #[.none,.none,.int k t]}) us (slicePick ⟨[m1,m2]⟩ none none (some k)).toList->
   wpAny bS a.A (subscriptTail e (.Slice none none (some i) sp) (.ref b) (.ref s2.heap.objs.size)) Q E {s2 with heap:=s2.heap.push {cls:=.type "slice",data:=.fields #[.none,.none,.int k t]}}:=λus h0 hr qq=>by
  subst hr;obtain⟨S4,x4,r4⟩:=S3.ym qq;rw[Array.toArray_toList] at S4 x4 r4;exact tail_any l.typeIs slot_list_getitem.lookup (wpAny_getItem_list_slice l (Heap.IsSliceOf.new ..) .none .none (.int _ _) (by simpa using h0) (bt.val q' S4 x4 r4) (show(2:Nat)<=sizeLine by decide)) rfl
 rcases hh with ⟨rfl,hr⟩|⟨rfl,hr⟩
 .exact fin _ (by decide) hr (rl (KP ..)<|.cons q1 (.cons q2 .nil))
 .exact fin _ (by decide) hr (rl (Et ..)<|.cons q2 (.cons q1 .nil))
end
noncomputable def nz (h:Heap)(z TI TO:Addr)(f0:Value)(fl:Bool):Prop:=h.get? z=some {cls:=.type "zip",dict:=none,data:=.fields #[f0,.bool fl,.bool false,.ref TI,.ref TO],slots:=#[]}
structure j2 (h:Heap)(z TI TO i1 i2 l1 l2:Addr)(xs ys:Array Value)(k:Nat)(f0:Value)(fl:Bool):Prop where
 obj:nz h z TI TO f0 fl
 ik:IsPair h TI (.ref i1) (.ref i2)
 own :∃a b,IsPair h TO a b
 t1:h.IsListIter i1 l1 k
 t2:h.IsTupleIter i2 l2 k
 s1:h.IsList l1 xs
 s2:h.IsTuple l2 ys
theorem xA {l:Addr}(x:h.IsListIter it l i)(k :∀o,h.get? it=some o->h'.get? it=some o):h'.IsListIter it l i:=by obtain⟨o,ho,r⟩:=x;exact⟨o,k o ho,r⟩
theorem tv {l:Addr}(x:h.IsTupleIter it l i)(k :∀o,h.get? it=some o->h'.get? it=some o):h'.IsTupleIter it l i:=by obtain⟨o,ho,r⟩:=x;exact⟨o,k o ho,r⟩
theorem kz {l:Addr}{xs:Array Value}(x:h.IsTuple l xs)(k :∀o,h.get? l=some o->h'.get? l=some o):h'.IsTuple l xs:=by obtain⟨o,ho,r⟩:=x;exact⟨o,k o ho,r⟩
theorem rq {l:Addr}{xs:Array Value}(x:h.IsList l xs)(k :∀o,h.get? l=some o->h'.get? l=some o):h'.IsList l xs:=by obtain⟨o,ho,r⟩:=x;exact⟨o,k o ho,r⟩
section
variable {z TI TO i1 i2 l1 l2:Addr}{xs ys:Array Value}{f0:Value}{fl:Bool}
theorem Hg {a:Addr}{oa:Obj}{x y:Value}(D:ZipApart z TI TO i1 i2 l1 l2)(X:j2 s.heap z TI TO i1 i2 l1 l2 xs ys k (rawInt a) fl)(ha:s.heap.get? a=some oa)(haz:a≠z)(hx:xs[k]? = some x)(hy:ys[k]? = some y)(hQ :∀h',j2 h' z TI TO i1 i2 l1 l2 xs ys (k+1) (rawInt a) true->IsPair h' s.heap.objs.size x y->(∀c o,c≠z->c≠i1->c≠i2->s.heap.get? c=some o->h'.get? c=some o)->Q (.ref s.heap.objs.size) {s with heap:=h'}) :
  wpAny (model prog w) A (Builtin.«zip.__next__» ⟨[.ref z],[]⟩) (λfin s'=>∃v,fin=.done (.ret v)/\Q v s') E s:=by
 refine ct λG hG=>?_;obtain⟨hz,OJ,⟨p,q,Qa⟩,h1,h2,xg,Ap⟩:=X;refine hG ?_;show wpAny _ _ (field (.ref z) 2 >>= _) _ _ _;refine wb (wpAny_field hz rfl (x:=.bool false) rfl ?_);refine wb (wpAny_field hz rfl (x:=.ref TI) rfl ?_);refine wb (wpAny_seqItems OJ rfl ?_);refine wb ?_;refine wb (wpAny_field hz rfl (x:=rawInt a) rfl ?_);refine(?_:wpAny _ _ (loadIfAlive ((a:Int).toNat) >>= _) _ _ _);refine rl (Int.toNat_natCast ..)<|wb (kdx_alive ha ?_)
 refine wb (wpAny_field hz rfl (x:=.bool fl) rfl ?_);refine cB (Q:=λb fS=>b=false/\∃gb,fS ={s with heap:=gb}/\nz gb z TI TO (rawInt a) true/\Heap.SameBut z s.heap gb) ?_ ?_ (λ_ _ e=>e)
 .cases fl
  .refine wb (wpAny_setField_rec hz (by simp) λgb tw fX=>?_)
   exact aw ⟨rfl,_,rfl,tw,fX⟩
  .exact aw ⟨rfl,_,rfl,hz,.refl ..⟩
 rintro _ _ ⟨rfl,gb,rfl,tw,fX⟩;refine wb ?_;simp only[<- Array.forIn_toList,List.forIn_cons,List.forIn_nil];refine wb (wb (cQ ?_));refine wb (wpAny_nextOf_list_item (h1.extBut fX.extBut D.i1z) (xg.extBut fX.extBut D.l1z) hx λsE Hh kL=>aw (aw ?_));refine wb (wb (cQ ?_));have Ew :∀c o,c≠z->c≠i1->s.heap.get? c=some o->sE.get? c=some o:=λc o c1 c2 e=>kL.extBut _ _ c2 (fX.extBut _ _ c1 e);refine wb (tj (tv h2 λo=>Ew _ o D.i2z D.i12.symm) (kz Ap λo=>Ew _ o D.l2z D.l2i1) hy λng RU oJ=>aw (aw (aw ?_)));refine wb (wpAny_newTuple (hsz:=by change 2<=sizeLine;decide) (aw ⟨_,rfl,?_⟩));have xB :∀c o,c≠z->c≠i1->c≠i2->s.heap.get? c=some o->ng.get? c=some o:=λc o c1 c2 c3 e=>oJ.extBut _ _ c3 (Ew c o c1 c2 e);have PY:ng.objs.size=s.heap.objs.size:=rl oJ.1<|rl kL.1<|rl fX.1 rfl
 have up :∀c o,ng.get? c=some o->(ng.push {cls:=.type "tuple",data:=.seq #[x,y]}).get? c=some o:=λc o e=>bT _ e;have hT:=cD ng (o:={cls:=.type "tuple",data:=.seq #[x,y]}) rfl;rw[PY] at hT;exact rl PY<|hQ _ ⟨up _ _ (oJ.extBut _ _ D.i2z.symm (kL.extBut _ _ D.i1z.symm tw)),up _ _ (xB _ _ D.TIz D.TIi1 D.TIi2 OJ),⟨p,q,up _ _ (xB _ _ D.TOz D.TOi1 D.TOi2 Qa)⟩,
  xA Hh λo e=>up _ o (oJ.extBut _ _ D.i12 e),tv RU (up _),rq xg λo e=>up _ o (xB _ o D.l1z D.l1i1 D.l1i2 e),kz Ap λo e=>up _ o (xB _ o D.l2z D.l2i1 D.l2i2 e)⟩ hT λc o c1 c2 c3 e=>up c o (xB c o c1 c2 c3 e)
theorem xC {a:Addr}{oa:Obj}{Q:Fin->Shared->Prop}(hh:A.handled=none)(D:ZipApart z TI TO i1 i2 l1 l2)(X:j2 s.heap z TI TO i1 i2 l1 l2 xs ys k (rawInt a) fl)(ha:s.heap.get? a=some oa)(hx:xs[k]? = none)(hE :∀h' e,(∀c o,c≠z->c≠i1->c≠i2->s.heap.get? c=some o->h'.get? c=some o)->(∃o,h'.get? e=some o/\o.cls=.type "StopIteration")->E (.ref e) {s with heap:=h'}) :
  wpAny (model prog w) A (Builtin.«zip.__next__» ⟨[.ref z],[]⟩) Q E s:=by
 refine ct λG hG=>?_;obtain⟨hz,OJ,⟨p,q,Qa⟩,h1,h2,xg,Ap⟩:=X;refine hG ?_;show wpAny _ _ (field (.ref z) 2 >>= _) _ _ _;refine wb (wpAny_field hz rfl (x:=.bool false) rfl ?_);refine wb (wpAny_field hz rfl (x:=.ref TI) rfl ?_);refine wb (wpAny_seqItems OJ rfl ?_);refine wb ?_;refine wb (wpAny_field hz rfl (x:=rawInt a) rfl ?_);show wpAny _ _ (loadIfAlive ((a:Int).toNat) >>= _) _ _ _;rw[Int.toNat_natCast];refine wb (kdx_alive ha ?_);dsimp only[Option.isNone_some,Bool.false_eq_true,if_false];refine wb (wpAny_field hz rfl (x:=.bool fl) rfl ?_);refine cB (Q:=λb fS=>b=false/\∃gb,fS ={s with heap:=gb}/\Heap.SameBut z s.heap gb) ?_ ?_ (λ_ _ e=>e)
 .cases fl
  .exact wb (wpAny_setField_rec hz (by simp) λgb _ fX=>aw ⟨rfl,_,rfl,fX⟩)
  .exact aw ⟨rfl,_,rfl,.refl ..⟩
 rintro _ _ ⟨rfl,gb,rfl,fX⟩;refine wb ?_;simp only[<- Array.forIn_toList,List.forIn_cons,List.forIn_nil];refine wb (wb (cQ ?_));exact wb (wpAny_nextOf_list_end hh (h1.extBut fX.extBut D.i1z) (xg.extBut fX.extBut D.l1z) hx λsE e kL he=>hE sE e (λc o c1 c2 c3 x=>kL _ _ c2 (fX.extBut _ _ c1 x)) he)
theorem Hi {x y:Value}(D:ZipApart z TI TO i1 i2 l1 l2)(X:j2 s.heap z TI TO i1 i2 l1 l2 xs ys k .none false)(hx:xs[k]? = some x)(hy:ys[k]? = some y)(hQ :∀h',j2 h' z TI TO i1 i2 l1 l2 xs ys (k+1) (rawInt s.heap.objs.size) false->IsPair h' s.heap.objs.size x y->(∀c o,c≠z->c≠TO->c≠i1->c≠i2->s.heap.get? c=some o->h'.get? c=some o)->Q (.ref s.heap.objs.size) {s with heap:=h'}) :
  wpAny (model prog w) A (Builtin.«zip.__next__» ⟨[.ref z],[]⟩) (λfin s'=>∃v,fin=.done (.ret v)/\Q v s') E s:=by
 refine ct λG hG=>?_;obtain⟨hz,OJ,⟨a,b,Qa⟩,h1,h2,xg,Ap⟩:=X;refine hG ?_;refine(?_:wpAny _ _ (field (.ref z) 2 >>= _) _ _ _);refine wb (wpAny_field hz rfl (x:=.bool false) rfl ?_);refine wb (wpAny_field hz rfl (x:=.ref TI) rfl ?_);refine wb (wpAny_seqItems OJ rfl ?_);refine wb ?_;refine wb (wpAny_field hz rfl (x:=.none) rfl (aw ?_));simp only[if_true];refine wb (wpAny_rule ?_);refine wb (wpAny_field hz rfl (x:=.ref TO) rfl ?_);refine wb (wpAny_setField_rec hz (by simp) λgb tw fX=>?_);replace tw:nz gb z TI TO .ellipsis false:=tw;refine wb ?_;simp only[List.zipIdx_cons,List.zipIdx_nil,List.forIn_cons,List.forIn_nil];refine wb (wb (wpAny_onRaise ?_));refine wb (wpAny_nextOf_list_item (h1.extBut fX.extBut D.i1z) (xg.extBut fX.extBut D.l1z) hx λsE Hh kL=>aw ?_);have Hj:IsPair sE TO a b:=kL.extBut _ _ D.TOi1 (fX.extBut _ _ D.TOz Qa);refine wb (wpAny_seqItems Hj rfl ?_);refine wb (wpAny_updateSeq_pair Hj λng BA oJ=>?_);replace BA:IsPair ng TO x b:=BA;refine wb (wpAny_letGo (aw ?_));refine wb (wb (wpAny_onRaise ?_));have xB :∀c o,c≠z->c≠TO->c≠i1->s.heap.get? c=some o->ng.get? c=some o:=λc o c1 c2 c3 e=>oJ.extBut _ _ c2 (kL.extBut _ _ c3 (fX.extBut _ _ c1 e));refine wb (tj (tv h2 λo=>xB _ o D.i2z D.TOi2.symm D.i12.symm) (kz Ap λo=>xB _ o D.l2z D.l2TO D.l2i1) hy λBc RV zl=>aw ?_);have Hk:IsPair Bc TO x b:=zl.extBut _ _ D.TOi2 BA;refine wb (wpAny_seqItems Hk rfl ?_);refine wb (wpAny_updateSeq_pair Hk λqN xD zm=>?_);replace xD:IsPair qN TO x y:=xD;refine wb (wpAny_letGo (aw (aw ?_)));refine wb (wpAny_seqItems xD rfl ?_);refine wb (wpAny_newTuple ?_);have hsz:qN.objs.size=s.heap.objs.size:=rl zm.1<|rl zl.1<|rl oJ.1<|rl kL.1<|rl fX.1 rfl
 have CL :∀c o,c≠z->c≠TO->c≠i1->c≠i2->s.heap.get? c=some o->qN.get? c=some o:=λc o c1 c2 c3 c4 e=>zm.extBut _ _ c2 (zl.extBut _ _ c4 (xB c o c1 c2 c3 e));have MZ:nz qN z TI TO .ellipsis false:=zm.extBut _ _ D.TOz.symm (zl.extBut _ _ D.i2z.symm (oJ.extBut _ _ D.TOz.symm (kL.extBut _ _ D.i1z.symm tw)));have RW:z<qN.objs.size:=cK MZ;refine wb ?_;have RX:nz (qN.push {cls:=.type "tuple",data:=.seq #[x,y]}) z TI TO .ellipsis false:=bT _ MZ;refine wb (wpAny_setField_rec RX (by simp) λXa Hl M0=>?_);replace Hl:nz Xa z TI TO (rawInt qN.objs.size) false:=Hl;refine wpAny_setField_rec Hl (by simp) λKQ CM M1=>?_;replace CM:nz KQ z TI TO (rawInt qN.objs.size) false:=CM;have up :∀c o,c≠z->qN.get? c=some o->KQ.get? c=some o:=λc o c1 e=>M1.extBut _ _ c1 (M0.extBut _ _ c1 (bT _ e));have M3:IsPair KQ qN.objs.size x y:=M1.extBut _ _ (Nat.ne_of_gt RW) (M0.extBut _ _ (Nat.ne_of_gt RW) (cD _ rfl));rw[hsz] at CM M3;refine aw ⟨_,rfl,?_⟩;refine rl hsz<|hQ KQ ⟨CM,up _ _ D.TIz (CL _ _ D.TIz D.TITO D.TIi1 D.TIi2 OJ),⟨x,y,up _ _ D.TOz xD⟩,xA Hh λo e=>up _ o D.i1z (zm.extBut _ _ D.TOi1.symm (zl.extBut _ _ D.i12 (oJ.extBut _ _ D.TOi1.symm e))),
  tv RV λo e=>up _ o D.i2z (zm.extBut _ _ D.TOi2.symm e),rq xg λo e=>up _ o D.l1z (CL _ o D.l1z D.l1TO D.l1i1 D.l1i2 e),kz Ap λo e=>up _ o D.l2z (CL _ o D.l2z D.l2TO D.l2i1 D.l2i2 e)⟩ M3 λc o c1 c2 c3 c4 e=>up c o c1 (CL c o c1 c2 c3 c4 e)
noncomputable def KR (h:Heap)(z TI TO i1 i2 l1 l2:Addr)(xs ys:Array Value)(S:Addr)(i:Nat):Prop:=
 (i=0/\j2 h z TI TO i1 i2 l1 l2 xs ys 0 .none false)\/∃(a:Addr) (fl:Bool) (oa:Obj),j2 h z TI TO i1 i2 l1 l2 xs ys i (rawInt a) fl/\h.get? a=some oa/\S<a
theorem KR.typ (X:KR s.heap z TI TO i1 i2 l1 l2 xs ys S i):s.TypeIs (.ref z) "zip":=by
 rcases X with ⟨_,ae⟩|⟨_,_,_,ae,_⟩ <;> exact⟨_,ae.obj,rfl⟩
theorem j2.keep (X:j2 h z TI TO i1 i2 l1 l2 xs ys k f0 fl)(hk :∀b∈[z,TI,TO,i1,i2,l1,l2],∀o,h.get? b=some o->h'.get? b=some o):j2 h' z TI TO i1 i2 l1 l2 xs ys k f0 fl:=by
 refine ct λG hG=>?_;obtain⟨q1,q2,⟨a,b,q3⟩,q4,q5,q6,q7⟩:=X;refine hG ?_;exact⟨hk _ (by simp) _ q1,hk _ (by simp) _ q2,⟨a,b,hk _ (by simp) _ q3⟩,xA q4 (hk _ (by simp)),tv q5 (hk _ (by simp)),rq q6 (hk _ (by simp)),kz q7 (hk _ (by simp))⟩
theorem KR.keep (X:KR h z TI TO i1 i2 l1 l2 xs ys S i)(hS :∀b∈[z,TI,TO,i1,i2,l1,l2],b≠S)(hk :∀b,b≠S->∀o,h.get? b=some o->h'.get? b=some o):KR h' z TI TO i1 i2 l1 l2 xs ys S i:=by
 rcases X with ⟨e,ae⟩|⟨a,fl,oa,ae,ha,hl⟩
 .exact .inl ⟨e,ae.keep λb hb=>hk b (hS b hb)⟩
 .exact .inr ⟨a,fl,oa,ae.keep λb hb=>hk b (hS b hb),hk a (Nat.ne_of_gt hl) _ ha,hl⟩
theorem Hm {x y:Value}{Q:Option Value->Shared->Prop}(D:ZipApart z TI TO i1 i2 l1 l2)(ya :∀b∈[z,TI,TO,i1,i2,l1,l2],b<S)(hSs:S<s.heap.objs.size)(X:KR s.heap z TI TO i1 i2 l1 l2 xs ys S i)(hx:xs[i]? = some x)(hy:ys[i]? = some y)(hQ :∀h',KR h' z TI TO i1 i2 l1 l2 xs ys S (i+1)->IsPair h' s.heap.objs.size x y->(∀c o,c≠z->c≠TO->c≠i1->c≠i2->s.heap.get? c=some o->h'.get? c=some o)->Q (some (.ref s.heap.objs.size)) {s with heap:=h'}) :
  wpAny (model prog w) A (pyNext (.ref z)) Q E s:=by
 have hT:=X.typ;refine wb (wpAny_attempt (wpAny_callSpecial?_slot (name:=ofString "__next__") hT F.slot_zip_next (fF F.slot_zip_next hT F.entry_zip_next ?_ (F.args_zip_next_1 _))));rcases X with ⟨rfl,ae⟩|⟨a,fl,oa,ae,ha,hl⟩
 .exact Hi D ae hx hy λh' X' hp hk=>aw (hQ h' (.inr ⟨_,_,_,X',hp,hSs⟩) hp hk)
 .have n1 :∀b∈[z,TI,TO,i1,i2,l1,l2],a≠b:=λb hb e=>absurd (ya b hb) (by lia)
  exact Hg D ae ha (n1 _ (by simp)) hx hy λh' X' hp hk=>aw (hQ h' (.inr ⟨a,true,oa,X',hk a _ (n1 _ (by simp)) (n1 _ (by simp)) (n1 _ (by simp)) ha,hl⟩) hp λc o c1 _ c3 c4 e=>hk c o c1 c3 c4 e)
theorem Hn {Q:Option Value->Shared->Prop}(hh:A.handled=none)(D:ZipApart z TI TO i1 i2 l1 l2)(X:KR s.heap z TI TO i1 i2 l1 l2 xs ys S i)(hx:xs[i]? = none)(hi:i≠0)(hQ :∀h',(∀c o,c≠z->c≠i1->c≠i2->s.heap.get? c=some o->h'.get? c=some o)->Q none {s with heap:=h'}):wpAny (model prog w) A (pyNext (.ref z)) Q E s:=by
 have hT:=X.typ;rcases X with ⟨e,_⟩|⟨a,fl,oa,ae,ha,hl⟩
 .exact absurd e hi
 refine wb (wpAny_attempt (wpAny_callSpecial?_slot (name:=ofString "__next__") hT F.slot_zip_next (fF F.slot_zip_next hT F.entry_zip_next (xC hh D ae ha hx λh' e hk he=>?_) (F.args_zip_next_1 _))));obtain⟨o,ho,hc⟩:=he;refine wb (wpAny_isInstance (T:="StopIteration") (b:=true) ⟨o,ho,hc⟩ isSubtype_stop ?_);exact aw (hQ _ hk)
noncomputable def iA (h:Heap)(xs ys:Array Value)(S:Addr)(bh:Array Value):Prop:=
 ∀(j:Nat) (v:Value),bh[j]? = some v->∃(a:Addr) (x y:Value),v=.ref a/\S<a/\xs[j]? = some x/\ys[j]? = some y/\IsPair h a x y
theorem iA.keep {bh:Array Value}(P:iA h xs ys S bh)(hk :∀b o,S<b->h.get? b=some o->h'.get? b=some o):iA h' xs ys S bh:=
 λj v e=>let ⟨a,x,y,e1,e2,e3,e4,e5⟩:=P j v e;⟨a,x,y,e1,e2,e3,e4,hk _ _ e2 e5⟩
theorem iA.push {a:Addr}{bh:Array Value}{x y:Value}(P:iA h xs ys S bh)(ha:S<a)(hx:xs[bh.size]? = some x)(hy:ys[bh.size]? = some y)(hp:IsPair h a x y):iA h xs ys S (bh.push (.ref a)):=λj v e=>by
 rw[Array.getElem?_push] at e;by_cases hj:j=bh.size
 .rw[ay hj] at e;injection e with e;subst e;subst hj;exact⟨a,x,y,rfl,ha,hx,hy,hp⟩
 .rw[av hj] at e;exact P j v e
theorem Ho {R:Result->Shared->Prop}(hh:A.handled=none)(D:ZipApart z TI TO i1 i2 l1 l2)(ya :∀b∈[z,TI,TO,i1,i2,l1,l2],b<S)(hl:xs.size=ys.size)(h0:xs.size≠0)(hn:xs.size<=1000000)(res:Value){gb:Heap} :
  ∀(k i:Nat) (h:Heap) (tk c:Nat) (bh:Array Value),xs.size - i=k->i<=xs.size->KR h z TI TO i1 i2 l1 l2 xs ys S i->(∀b o,b≠S->b≠z->b≠TO->b≠i1->b≠i2->gb.get? b=some o->h.get? b=some o)->
   h.get? S=some {cls:=.type "list",dict:=none,data:=.seq bh c,slots:=#[]}->bh.size=i->iA h xs ys S bh->
   (∀h' tk bh c,(∀b o,b≠S->b≠z->b≠TO->b≠i1->b≠i2->gb.get? b=some o->h'.get? b=some o)->h'.get? S=some {cls:=.type "list",dict:=none,data:=.seq bh c,slots:=#[]}->bh.size=xs.size->iA h' xs ys S bh->
    R (.ok (.ret res)) {s with heap:=h',toks:=tk})->
   codeAny (model prog w) A (.builtin "list.extend.loop" ⟨[.ref S,.ref z,res],[]⟩) R {s with heap:=h,toks:=tk}:=by
 have hz:=ya z (by simp);have Qa:=ya TO (by simp);have Ky:=ya i1 (by simp);have TL:=ya i2 (by simp);intro k
 induction k with
 |zero=>
  intro i h tk c bh hk hi X Hp hS sX hP hR;refine codeAny_builtin F.entry_extend_loop ?_;refine rl (Around.under_plainId F.plain_extend_loop _)<|wb (Hn (s:={s with heap:=h,toks:=tk}) (A:=A.in1) hh D X (Array.getElem?_eq_none (Nat.le_of_sub_eq_zero hk)) (UY h0 hk) λh' he=>?_)
  exact aw (hR h' tk bh c (λb o b0 b1 b2 b3 b4 e=>he b o b1 b3 b4 (Hp b o b0 b1 b2 b3 b4 e)) (he S _ (Ne.symm (Nat.ne_of_lt hz)) (Ne.symm (Nat.ne_of_lt Ky)) (Ne.symm (Nat.ne_of_lt TL)) hS) (UX hk hi sX) (hP.keep λb o hb e=>he b o (Nt ⋯ ⋯) (Nt ⋯ ⋯) (Nt ⋯ ⋯) e))
 |succ k ih=>
  intro i h tk c bh hk hi X Hp hS sX hP hR;have eO:i<xs.size:=Nat.lt_of_sub_eq_succ hk;refine codeAny_builtin F.entry_extend_loop ?_;refine rl (Around.under_plainId F.plain_extend_loop _) ?_;have Xb:S<h.objs.size:=cK hS;refine wb (Hm (s:={s with heap:=h,toks:=tk}) (S:=S) (x:=xs[i]) (y:=ys[i]'(hl▸eO)) D ya Xb X (by simp) (by simp) λh' X' hp TM=>?_);dsimp only at hp TM ⊢;have JA:=TM S _ (Ne.symm (Nat.ne_of_lt hz)) (Ne.symm (Nat.ne_of_lt Qa)) (Ne.symm (Nat.ne_of_lt Ky)) (Ne.symm (Nat.ne_of_lt TL)) hS;have up :∀b o,b≠S->h'.get? b=some o->(h'.update S (Obj.mapSeq (·.push (Value.ref h.objs.size)))).get? b=some o:=λb o hb e=>(Heap.get?_update_other _ _ (Ne.symm hb)).trans e;refine wb ?_;refine wpAny_updateSeq JA rfl (aw ⟨plainId_quiet F.plain_extend_loop _,ih (i+1) _ tk _ (bh.push (Value.ref h.objs.size)) (Z1 hk) eO (X'.keep (λb hb=>Nat.ne_of_lt (ya b hb)) λb hb o=>up b o hb)
   (λb o b0 b1 b2 b3 b4 e=>up b o b0 (TM b o b1 b2 b3 b4 (Hp b o b0 b1 b2 b3 b4 e))) (Heap.get?_update_self _ JA rfl) (rl (Array.size_push ..)<|rl sX rfl) ?_ hR⟩) (rl sX<|bP (Nat.le_of_lt eO) (bP hn (by decide))) (rl (Array.size_push ..)<|rl sX<|Nat.succ_le_succ (bP (Nat.le_of_lt eO) (bP hn (by decide))))
  subst sX;exact(hP.keep λb o hb e=>up b o (Ne.symm (Nat.ne_of_lt hb)) (TM b o (Nt ⋯ ⋯) (Nt ⋯ ⋯) (Nt ⋯ ⋯) (Nt ⋯ ⋯) e)).push Xb (by simp[eO]) (by simp[hl▸eO]) (up _ _ (Nat.ne_of_gt Xb) hp)
end
noncomputable abbrev Qb (h:Heap)(l1:Addr):Heap:=h.push {cls:=.type "list_iterator",data:=.fields #[.ref l1,.int 0 0]}
abbrev RY (h:Heap)(l1 l2:Addr):Heap:=(Qb h l1).push {cls:=.type "tuple_iterator",data:=.fields #[.ref l2,.int 0 0]}
abbrev RZ (h:Heap)(l1 l2:Addr):Heap:=(RY h l1 l2).push {cls:=.type "tuple",data:=.seq #[.ref h.objs.size,.ref (Qb h l1).objs.size]}
abbrev R0 (h:Heap)(l1 l2:Addr):Heap:=(RZ h l1 l2).push {cls:=.type "tuple",data:=.seq #[.none,.none]}
abbrev M4 (h:Heap)(l1 l2:Addr):Heap:=(R0 h l1 l2).push {cls:=.type "zip",data:=.fields #[.none,.bool false,.bool false,.ref (RY h l1 l2).objs.size,.ref (RZ h l1 l2).objs.size]}
theorem xE (l1 l2:Addr)(xs ys:Array Value) :
  Meets (Builtin.«zip.__new__» ⟨[.type "zip",.ref l1,.ref l2],[]⟩) (λ_ R s=>s.heap.IsList l1 xs/\s.heap.IsTuple l2 ys/\
   R (.ok (.ret (.ref (R0 s.heap l1 l2).objs.size))) {s with heap:=M4 s.heap l1 l2}):=
 .of_wp λprog w A R s h=>by
  obtain⟨hp,g,d,tk,os⟩:=s;obtain⟨xg,Ap,h⟩:=h;have sP:=sub_zip;have RI:Heap.IsList (Shared.heap ⟨hp,g,d,tk,os⟩) l1 xs:=xg;have TH:Heap.IsTuple (Shared.heap ⟨hp.push {cls:=.type "list_iterator",data:=.fields #[.ref l1,.int 0 0]},g,d,tk,os⟩) l2 ys:=kz Ap λo e=>bT _ e
  wp_walk using wpAny_pyIter_list RI,wpAny_pyIter_tuple TH
  exact⟨_,rfl,h⟩
section
variable {l1 l2:Addr}{xs ys:Array Value}
theorem zo (xg:s.heap.IsList l1 xs)(Ap:s.heap.IsTuple l2 ys)(h :∀h',j2 h' (s.heap.objs.size+4) (s.heap.objs.size+2) (s.heap.objs.size+3) s.heap.objs.size (s.heap.objs.size+1) l1 l2 xs ys 0 .none false->h'.objs.size=s.heap.objs.size+5->
   (∀c o,s.heap.get? c=some o->h'.get? c=some o)->Q (.ref (s.heap.objs.size+4)) {s with heap:=h'}) :
  wpAny (model prog w) A (call (.type "zip") [.ref l1,.ref l2]) Q E s:=by
 refine callType_new F.called_zip (by decide) (F.typeCall_zip_2 _ _) (F.newCall_zip_2 _ _) (λobj=>F.args_object_init_3 obj _ _) F.entry_zip_new (xE l1 l2 xs ys) ⟨xg,Ap,?_⟩;have z1 :(Qb s.heap l1).objs.size=s.heap.objs.size+1:=Heap.size_push ..;have z2 :(RY s.heap l1 l2).objs.size=s.heap.objs.size+2:=rl (Heap.size_push ..)<|rl z1 rfl
 have z3 :(RZ s.heap l1 l2).objs.size=s.heap.objs.size+3:=rl (Heap.size_push ..)<|rl z2 rfl
 have z4 :(R0 s.heap l1 l2).objs.size=s.heap.objs.size+4:=rl (Heap.size_push ..)<|rl z3 rfl
 have z5 :(M4 s.heap l1 l2).objs.size=s.heap.objs.size+5:=rl (Heap.size_push ..)<|rl z4 rfl
 have Rc :∀c o,(R0 s.heap l1 l2).get? c=some o->(M4 s.heap l1 l2).get? c=some o:=λc o=>bT _;have Tv :∀c o,(RZ s.heap l1 l2).get? c=some o->(M4 s.heap l1 l2).get? c=some o:=λc o e=>Rc c o (bT _ e);have Y5 :∀c o,(RY s.heap l1 l2).get? c=some o->(M4 s.heap l1 l2).get? c=some o:=λc o e=>Tv c o (bT _ e);have Y6 :∀c o,(Qb s.heap l1).get? c=some o->(M4 s.heap l1 l2).get? c=some o:=λc o e=>Y5 c o (bT _ e);have up1 :∀c o,s.heap.get? c=some o->(M4 s.heap l1 l2).get? c=some o:=λc o e=>Y6 c o (bT _ e);have g5 :(M4 s.heap l1 l2).get? (R0 s.heap l1 l2).objs.size=some _:=cD _ rfl;have g4:=Rc _ _ (cD (RZ s.heap l1 l2) (o:={cls:=.type "tuple",data:=.seq #[.none,.none]}) rfl);have g3:=Tv _ _ (cD (RY s.heap l1 l2) (o:={cls:=.type "tuple",data:=.seq #[.ref s.heap.objs.size,.ref (Qb s.heap l1).objs.size]}) rfl);have g2:=Y5 _ _ (cD (Qb s.heap l1) (o:={cls:=.type "tuple_iterator",data:=.fields #[.ref l2,.int 0 0]}) rfl);have g1:=Y6 _ _ (cD s.heap (o:={cls:=.type "list_iterator",data:=.fields #[.ref l1,.int 0 0]}) rfl);show _/\_;rw[z2,z3,z4] at g5;rw[z1,z2] at g3;rw[z3] at g4;rw[z1] at g2;exact rl z4<|⟨⟨_,g5,rfl⟩,h _ ⟨g5,g3,⟨_,_,g4⟩,⟨_,g1,rfl,rfl⟩,⟨_,g2,rfl,rfl⟩,rq xg (up1 _),kz Ap (up1 _)⟩ z5 up1⟩
theorem BB:typeLookup (.type "zip") "__len__" = pure none:=by rw[typeLookup_type,builtinLookup_eq_fast];kernel_rfl
theorem zp:typeLookup (.type "zip") "__length_hint__" = pure none:=by rw[typeLookup_type,builtinLookup_eq_fast];kernel_rfl
variable {z TI TO i1 i2:Addr}
theorem Hq (hh:A.handled=none)(D:ZipApart z TI TO i1 i2 l1 l2)(ya :∀b∈[z,TI,TO,i1,i2,l1,l2],b<S)(hl:xs.size=ys.size)(h0:xs.size≠0)(hn:xs.size<=1000000)(X:j2 s.heap z TI TO i1 i2 l1 l2 xs ys 0 .none false)(hS:s.heap.get? S=some {cls:=.type "list",data:=.seq #[]})(hR :∀h' tk bh c,(∀b o,b≠S->b≠z->b≠TO->b≠i1->b≠i2->s.heap.get? b=some o->h'.get? b=some o)->h'.get? S=some {cls:=.type "list",dict:=none,data:=.seq bh c,slots:=#[]}->bh.size=xs.size->iA h' xs ys S bh->
    R (.ok (.ret .none)) {s with heap:=h',toks:=tk}) :
  wpAny (model prog w) A.in1 (Builtin.«list.__init__» ⟨[.ref S,.ref z],[]⟩)
   (λfin s'=>match fin with |.done f=>R (.ok f) s' |.again c'=>c'.quiet=true/\codeAny (model prog w) A c' R s') (λe s'=>R (.error e) s') s:=by
 have hSz:S≠z:=Ne.symm (Nat.ne_of_lt (ya z (by simp)));have nS :∀b∈[z,TI,TO,i1,i2,l1,l2],b≠S:=λb hb=>Nat.ne_of_lt (ya b hb);show wpAny _ _ (do let JC <- Builtin.List.listItems (.ref S);Builtin.List.listUpdate (.ref S) (λ_=>#[]);letGo JC.toList.reverse;Builtin.List.listExtendWith (.ref S) (.ref z) .none) _ _ s;refine wb ?_;refine wb (wpAny_seqItems hS rfl (aw ?_));refine wb (wpAny_updateSeq hS rfl ?_);have Hr:=Heap.get?_update_self (Obj.mapSeq (λ_=>(#[]:Array Value))) hS rfl;have OK :∀b o,b≠S->s.heap.get? b=some o->(s.heap.update S (Obj.mapSeq (λ_=>(#[]:Array Value)))).get? b=some o:=λb o hb e=>(Heap.get?_update_other _ _ (Ne.symm hb)).trans e;have KS:=X.keep λb hb o e=>OK b o (nS b hb) e;generalize s.heap.update S (Obj.mapSeq (λ_=>(#[]:Array Value)))=Hs at Hr OK KS;refine wb (wpAny_letGo ?_);have hT :∀tk,Shared.TypeIs {s with heap:=Hs,toks:=tk} (.ref z) "zip":=λ_=>⟨_,KS.obj,rfl⟩;refine wb (wpAny_typeOf (T:="zip") (hT _) ?_);have h1:Builtin.List.listSameRef (.ref S) (.ref z)=false:=by simp[Builtin.List.listSameRef,hSz]
 have h2 :(Value.type "zip" == Value.type "list")=false:=by decide
 have h3 :(Value.type "zip" == Value.type "tuple")=false:=by decide
 simp only[h1,h2,h3,Bool.or_false,Bool.false_eq_true,if_false];refine wb (wpAny_pyIter_zip KS.obj ?_);refine wb (cQ ?_);refine wb (wpAny_specialOf (hT _) BB ?_);refine wb (wpAny_specialOf (hT _) zp ?_);refine aw ?_;refine wb (wpAny_rule ?_);refine wb ?_;refine wb (wpAny_updateSeq Hr rfl ?_);have M5:=Heap.get?_update_self (Obj.mapSeq (·.push Value.none)) Hr rfl;refine wpAny_updateSeq (hz:=by seq_fits) M5 rfl ?_;have R7:=Heap.get?_update_self (Obj.mapSeq (·.pop)) M5 rfl;have Ew :∀b o,b≠S->Hs.get? b=some o->((Hs.update S (Obj.mapSeq (·.push Value.none))).update S (Obj.mapSeq (·.pop))).get? b=some o:=λb o hb e=>(Heap.get?_update_other _ _ (Ne.symm hb)).trans ((Heap.get?_update_other _ _ (Ne.symm hb)).trans e);have Xc:=KS.keep λb hb o e=>Ew b o (nS b hb) e;refine aw ⟨plainId_quiet F.plain_extend_loop _,Ho (s:=s) (gb:=s.heap) hh D ya hl h0 hn .none xs.size 0 _ _ _ #[] (Nat.sub_zero _) (Nat.zero_le _) (.inl ⟨rfl,Xc⟩) (λb o hb _ _ _ _ e=>Ew b o hb (OK b o hb e)) R7 rfl (λj v e=>by simp at e) hR⟩
theorem uL (hh:A.handled=none)(D:ZipApart z TI TO i1 i2 l1 l2)(ya :∀b∈[z,TI,TO,i1,i2,l1,l2],b<s.heap.objs.size)(hl:xs.size=ys.size)(h0:xs.size≠0)(hn:xs.size<=1000000)(X:j2 s.heap z TI TO i1 i2 l1 l2 xs ys 0 .none false)(hQ :∀h' tk bh c,(∀b o,b≠z->b≠TO->b≠i1->b≠i2->s.heap.get? b=some o->h'.get? b=some o)->h'.get? s.heap.objs.size=some {cls:=.type "list",dict:=none,data:=.seq bh c,slots:=#[]}->bh.size=xs.size->
   iA h' xs ys s.heap.objs.size bh->Q (.ref s.heap.objs.size) {s with heap:=h',toks:=tk}) :
  wpAny (model prog w) A (call (.type "list") [.ref z]) Q E s:=by
 refine callType_codes (Q₁:=λobj fS=>obj=.ref s.heap.objs.size/\fS ={s with heap:=s.heap.push {cls:=.type "list",data:=.seq #[]}}) F.called_list (F.typeCall_list_1 _) F.entry_list_init
  (code_list_new _ ⟨rfl,rfl⟩) λobj fS gb=>?_
 obtain⟨rfl,rfl⟩:=gb;have hS :(s.heap.push {cls:=.type "list",data:=.seq #[]}).get? s.heap.objs.size=some {cls:=.type "list",data:=.seq #[]}:=cD _ rfl;refine⟨⟨_,hS,rfl⟩,F.args_list_init_2 _ _,Hq (A:=A.in1) (xs:=xs) (ys:=ys) hh D ya hl h0 hn (X.keep λb _ o e=>bT _ e) hS λh' tk bh c hk JA hz hp=>⟨rfl,hQ h' tk bh c (λb o b1 b2 b3 b4 e=>hk b o (Nat.ne_of_lt (cK e)) b1 b2 b3 b4 (bT _ e)) JA hz hp⟩⟩
end
noncomputable def CN (xs ys:List V):List V:=List.zipWith (λa b=>V.tup [a,b]) xs ys
def KU (xs ys:List V):Option V:=if xs.length=ys.length/\xs.length≠0/\xs.length<=1000000 then some (.list (CN xs ys)) else .none
def KY (vs:List V)(U:bw):Option V:=match vs with
 |[v,u]=>(items? U v).bind λxs=>u.g6.bind λys=>KU xs ys
 |_=>.none
def Ex (f:ME (List V)):ME V:=f.bind λvs=>λ_ U=>Res.cO (KY vs U) U
section
variable {D:List Addr}
theorem BC :∀{xs ys:List V} {mx my ms:List Value},aD Z h xs mx->aD Z h ys my->ms.length=mx.length->
  (∀(j:Nat) (v:Value),ms[j]? = some v->∃(a:Addr) (x y:Value),v=.ref a/\a∉bH Z/\mx[j]? = some x/\my[j]? = some y/\IsPair h a x y)->aD Z h (CN xs ys) ms:=by
 intro xs
 induction xs with
 |nil=>
  intro ys mx my ms r q hl _;obtain rfl:=r.nil_inv;obtain rfl:=List.eq_nil_of_length_eq_zero hl;exact .nil
 |cons x xs ih=>
  intro ys mx my ms r q hl hp;obtain⟨m1,mx,rfl,r1,r2⟩:=r.cons_inv
  cases ms with
  |nil=>injection hl
  |cons m ms=>
  obtain⟨a,u,v,rfl,na,e1,e2,e3⟩:=hp 0 m rfl
  cases ys with
  |nil=>obtain rfl:=q.nil_inv;injection e2
  |cons y ys=>
  refine ct λG hG=>?_;obtain⟨m2,my,rfl,q1,q2⟩:=q.cons_inv;injection e1 with e1;subst e1;injection e2 with e2;subst e2;refine hG ?_;exact .cons (.tup e3 rfl rfl na (.cons r1 (.cons q1 .nil))) (ih r2 q2 (Nat.succ.inj hl) λj w e=>hp (j+1) w e)
theorem Ht {r:V}(e:KY vs U=some r) :∃v u xs ys,vs=[v,u]/\items? U v=some xs/\u.g6 = some ys/\KU xs ys=some r:=by
 match vs,e with
 |[v,u],e=>exact aT (o:=items? U v) e λxs hx e=>aT e λys hy e=>⟨v,u,xs,ys,rfl,hx,hy,e⟩
theorem uM {e1 e2:Expr}{mp:Pos}{f:ME (List V)}(hs:gz n sc [e1,e2] f)(hp:dc qF [e1,e2])(uj:dc pos [.Call (.Name (ofString "zip") np) [e1,e2] [] qF])(he :∀env:Env,starEach [.Call (.Name (ofString "zip") np) [e1,e2] [] qF] env =(false,eval (.Call (.Name (ofString "zip") np) [e1,e2] [] qF) env)::starEach [] env)(hx:sc.names.lookup (ofString "zip")=some .globalImplicit)(h1:nsIn W.K mainGlobals (ofString "zip")=some none)(Kg:sc.names.lookup (ofString "list")=some .globalImplicit)(Oe:nsIn W.K mainGlobals (ofString "list")=some none) :
  cm n sc (.Call (.Name (ofString "list") mp) [.Call (.Name (ofString "zip") np) [e1,e2] [] qF] [] pos) (Ex f):=by
 intro a ok bJ Z U fr s S F Q E p;subst bJ;refine Call_Name rfl (gE (v:=.type "list") ok S Kg Oe (by decide +kernel) (by decide) rfl ?_);refine PySem.callWith_type (uj _) (c7 (uj _) (args_cons (M:=model W.prog W.w) ?_ (he _)));refine Call_Name rfl (gE (v:=.type "zip") ok S hx h1 (by decide +kernel) (by decide) rfl ?_);refine PySem.callWith_type (hp _) (c7 (hp _) (hs.bind ok rfl S F p λvs bU jo s2 ms S2 F2 x2 r2 p2=>?_));refine cb.opt p2 λrz hz p3=>?_;clear p p2;obtain⟨v,u,xs,ys,rfl,hv,hu,hz⟩:=Ht hz;obtain⟨m,k,rfl,rm,rk⟩:=r2.two;clear r2;refine di hz λhc hr=>?_;injection hr with hr;subst hr;obtain⟨z1,z2,z3⟩:=hc;clear hz F2;obtain⟨b,ik,rfl,lb,qx⟩:=dY S2.heap rm hv;obtain rfl:=V.eP hu;clear hu;obtain⟨l,o,items,kk,rfl,ho,hc,hd,hn,qy⟩:=rk.fV;clear rm rk hv;have lx:xs.length=ik.size:=qx.length.trans eZ;have ly:ys.length=items.size:=qy.length.trans eZ;have hbl:b<s2.heap.objs.size:=let ⟨_,ho,_⟩:=lb;cK ho
 have P9:=cK ho;refine zo lb ⟨o,ho,hc,kk,hd⟩ λh3 X hsz k3=>?_;have D:ZipApart (s2.heap.objs.size+4) (s2.heap.objs.size+2) (s2.heap.objs.size+3) s2.heap.objs.size (s2.heap.objs.size+1) b l:=by constructor <;>(first |exact Nat.ne_of_lt ⋯ |lia)
 refine args_nil ?_;refine uL (s:={s2 with heap:=h3}) ok.hand D (λc hc=>?_) (by lia) (Ne.symm (Eq.mpr_not (aP (Eq 0) (id (Eq.symm lx))) (id (Ne.symm z2)))) (by lia) X λh4 tk bh c k4 hS R8 hP=>?_
 .simp only[List.mem_cons,List.not_mem_nil,or_false] at hc
  rw[hsz];rcases hc with rfl |rfl |rfl |rfl |rfl |rfl |rfl <;> lia
 refine ct λG hG=>?_;have k5 :∀b o,s2.heap.get? b=some o->h4.get? b=some o:=λb o e=>k4 b o (by have:=cK e;exact ktu_ne 4 this) (by have:=cK e;exact ktu_ne 3 this) (by have:=cK e;exact Nat.ne_of_lt this) (by have:=cK e;exact ktu_ne 1 this) (k3 b o e);obtain⟨S5,x5⟩:=S2.kept (tk:=tk) k5;have new :∀c,s2.heap.objs.size<=c->c∉bH jo:=λc hc hm=>absurd (S2.heap.lt hm) (Nat.not_lt.mpr hc);refine hG ?_;dsimp only at hP hS R8 ⊢;rw[hsz] at hP hS ⊢;refine p3 jo _ S5 x5 _ (.list hS rfl rfl (new _ (Nat.le_add_right s2.heap.objs.size 5)) (BC (qx.mono x5) (qy.mono x5) (by simpa using R8) λj v e=>?_));refine ct λG hG=>?_;replace e:=(Array.getElem?_toList).symm.trans e;obtain⟨a,x,y,e1,e2,e3,e4,e5⟩:=hP j v e;refine hG ?_;exact⟨a,x,y,e1,new _ (by lia),by refine(Array.getElem?_toList).trans ?_;exact e3,by refine(Array.getElem?_toList).trans ?_;exact e4,e5⟩
noncomputable def KZ (v:V):Option (List V):=match v with
 |.list vs=>some vs.reverse
 |.str cs=>if cs.length<=1000000 then some (cs.reverse.map λc=>V.str [c]) else .none
 |_=>.none
def qR (f:ME V):ME (List V):=f.bind λv=>λ_ U=>Res.cO (KZ v) U
theorem vO {ee:Expr}{f:ME V}(hs:gz n sc [ee] (aS [f]))(hp:dc pos [ee])(hx:sc.names.lookup (ofString "reversed")=some .globalImplicit)(h1:nsIn W.K mainGlobals (ofString "reversed")=some none) :
  pg n sc (.Call (.Name (ofString "reversed") np) [ee] [] pos) (qR f):=by
 intro a ok bJ Z U fr s S F Q E p;subst bJ;refine Call_Name rfl (gE (v:=.type "reversed") ok S hx h1 (by decide +kernel) (by decide) rfl ?_);have Xd :(qR f fr U) =((aS [f]) fr U).andThen λvs U=>Res.cO ((lh vs).bind KZ) U:=by
  unfold qR aS aS ME.bind ah
  cases f fr U <;> rfl
 rw[Xd] at p;refine PySem.callWith_type (hp _) (c7 (hp _) (hs.bind ok rfl S F p λvs bU jo s2 ms S2 F2 x2 r2 p2=>?_))
 cases BD:lh vs with
 |none=>rw[BD] at p2;exact p2.elim
 |some v=>
 rw[BD] at p2;obtain rfl:=iF BD;obtain⟨m,rfl,r⟩:=r2.one;have vn:=x2.end_none;have eM:=S2.heap.jS;simp only[Option.bind_some] at p2;revert p2;cases r with
 |@list us l o ms k ho hc hd hn r=>
  intro p2;have eO:=cK ho;have hz:us.length=ms.size:=r.length.trans eZ;refine call_reversed_list ⟨o,ho,hc,k,hd⟩ ?_;have x3:cF [] jo s2.heap jo (s2.heap.push (revObj l ((ms.size:Int) - 1))):=cF.push _ _;refine wpAny_pyIter_revIter (l:=l) (i:=(ms.size:Int) - 1) ⟨_,cD _ rfl,rfl,rfl⟩ ?_;refine p2 jo _ (S2.lg _) x3 s2.heap.objs.size vn eM (.rev (l:=l) (ms:=ms) (us:=us) ⟨_,cD _ rfl,rfl,rl hz rfl⟩ ⟨o,bT _ ho,hc,k,hd⟩ hn (Nat.ne_of_lt eO) ?_ rfl);exact rl hz<|rr eZ<|rl List.take_length<|r.mono x3
 |str cs t=>
  intro p2;unfold KZ at p2;dsimp only at p2;by_cases hz:cs.length<=1000000
  .rw[ay hz] at p2
   refine wY (by show(cs.toArray).size<_;refine rl List.size_toArray ?_;exact q2 ⋯ (by rfl)) λh' hi e=>og hi ?_;subst e;have x3:cF [] jo s2.heap jo (s2.heap.push {cls:=.type "reversed",data:=.fields #[.str (cL cs) t,rawInt (((cL cs).length:Int) - 1)]}):=cF.push _ _;refine p2 jo _ (S2.lg _) x3 s2.heap.objs.size vn eM (.su (cs:=[]) (ds:=cs) (t:=t) ?_ hz rfl);exact rl (List.append_nil ..)<|hi
  .rw[av hz] at p2;exact p2.elim
 |_=>intro p2;exact p2.elim
end
noncomputable def tA (g:List V->bw->Res V):List V->bw->List V->Res (List V)
 |[],U,bh=>.ok bh U
 |x::xs,U,bh=>match g [x] U with
  |.ok k bB=>tA g xs bB (bh++[k])
  |_=>.stuck
noncomputable def K5:List V->List V->Option Bool
 |[],ys=>some (!ys.isEmpty)
 |_::_,[]=>some false
 |x::xs,y::ys=>if x=y then K5 xs ys else RT x y
def vP (v:V):Option (Int×List V):=v.g6.bind λl=>match l with
 |x::r=>x.int?.map λi=>(i,r)
 |[]=>.none
def CO (u v:V):Option Bool:=(vP u).bind λp=>(vP v).bind λq=>if p.1=q.1/\V.cT p.2=true/\V.cT q.2=true/\V.cw p.2<=64 then K5 p.2 q.2 else .none
def R9 (ks:List V)(i j:Nat):Option Bool:=(ks[i]?).bind λu=>(ks[j]?).bind λv=>CO u v
noncomputable def OL {Y:Type}(lt:Nat->Nat->Option Bool):KasT Y->Option Y
 |.ret a=>some a
 |.ask i j k=>(lt i j).bind λb=>OL lt (k b)
def lM (ks:List V):Option (List Nat):=
 if ks.length<2 then some (List.range ks.length) else if ks.all (λk=>(vP k).isSome) then (OL (R9 ks) (kas_sort ks.length)).bind λp=>if p.toList.all (λi=>Nat.blt i ks.length) then some p.toList else .none else .none
def tB (g:List V->bw->Res V)(xs:List V)(U:bw):Res V:=if xs.length<64 then (tA g xs U []).andThen λks bU=>Res.cO ((lM ks).map λp=>.list (p.map λi=>xs.getD i .none)) bU else .stuck
def j3 (f:ME V)(g:List V->bw->Res V):ME V:=f.bind λv=>λ_ U=>match items? U v with
 |some xs=>tB g xs U
 |.none=>.stuck
theorem tC {p:Int×List V}(e:vP v=some p):v=.tup (.int p.1::p.2):=by
 refine aT e λl h1 h2=>?_;obtain rfl:=V.eP h1
 cases l with
 |nil=>injection h2
 |cons x r=>
  refine dh h2 λi h3 z2=>?_;subst z2;obtain rfl:=V.fH h3;rfl
theorem vQ {Y:Type}{lt:Nat->Nat->Option Bool}{cmp:Nat->Nat->(Bool->Shared->Prop)->Shared->Prop}{Q:Y->Shared->Prop}{s:Shared}(hc :∀i j b,lt i j=some b->∀C:Bool->Shared->Prop,C b s->cmp i j C s) :
  ∀(t:KasT Y) (p:Y),OL lt t=some p->Q p s->t.kasWp cmp Q s
 |.ret a,p,e,h=>by injection e with e;subst e;exact h
 |.ask i j k,p,e,h=>by
  refine aT e λb h1 h2=>?_;exact hc i j b h1 _ (vQ hc (k b) p h2 h)
section
variable {D:List Addr}
theorem OM {c:Bool}{Q:Bool->Shared->Prop}(hu:A.units+71<cLine)(rx:aH Z s.heap x mx)(ry:aH Z s.heap y my)(e:RT x y=some c)(hQ:Q c s) :
  wpAny bS A (oneLt' false mx my) Q E s:=by
 refine ct λG hG=>?_;refine aT e λxs hx e1=>?_;refine aT e1 λys hy e2=>?_;obtain rfl:=V.eP hx;obtain rfl:=V.eP hy;refine hG ?_;by_cases hc:V.cT xs=true/\V.cT ys=true/\V.cw xs<=64
 .rw[ay hc] at e2
  exact kat_one _ _ (Hf (Nat.lt_of_succ_lt hu) rx ry hc.1 hc.2.1 hc.2.2 e2 hQ)
 .rw[av hc] at e2;injection e2
theorem ON {c:Bool}{Q:Bool->Shared->Prop} :∀{xs ys:List V} {ms xw:List Value} (i:Nat),aD Z s.heap xs ms->aD Z s.heap ys xw->V.cT xs=true->V.cT ys=true->A.units+V.cw xs+71<cLine->K5 xs ys=some c->Q c s->
  KatLex W.prog W.w A b (decide (ms.length<xw.length)) Q (ms.zip xw) (i+1) s:=by
 intro xs
 induction xs with
 |nil=>
  intro ys ms xw i r1 r2 _ _ _ e hQ;refine ct λG hG=>?_;injection e with e;subst e;obtain rfl:=r1.nil_inv;refine hG ?_
  cases ys with
  |nil=>obtain rfl:=r2.nil_inv;exact kat_nil hQ
  |cons y ys=>obtain⟨_,_,rfl,_,_⟩:=r2.cons_inv;exact kat_nil hQ
 |cons x xs ih=>
  intro ys ms xw i r1 r2 px py hu e hQ;obtain⟨m,ms,rfl,rx,rs⟩:=r1.cons_inv
  cases ys with
  |nil=>
   injection e with e;subst e;obtain rfl:=r2.nil_inv;exact kat_nil hQ
  |cons y ys=>
  refine ct λG hG=>?_;obtain⟨m2,xw,rfl,ry,W7⟩:=r2.cons_inv;obtain⟨px,W8⟩:=cM px;obtain⟨py,W9⟩:=cM py;have JD:x.depth<=V.cw (x::xs):=Nat.le_max_left ..;have qZ:V.cw xs<=V.cw (x::xs):=Nat.le_max_right ..;refine hG ?_;refine rl List.zip_cons_cons<|kat_cons (nW rx ry px py (Vu hu JD) ?_)
  have Xe:decide ((m::ms).length<(m2::xw).length)=decide (ms.length<xw.length):=by simp
  unfold K5 at e;by_cases nQ:x=y
  .rw[ay nQ] at e
   refine rl (bN nQ)<|kat_yes ?_
   exact rl Xe<|ih (i+1) rs W7 W8 W9 (q37 ⋯ ⋯) e hQ
  .rw[av nQ] at e
   refine rl (cI nQ)<|kat_no ?_
   exact rl (show(b&&(i+1 == 0))=false by simp)<|OM (Vv hu) rx ry e hQ
theorem BE {c:Bool}(hu:A.units+200<cLine)(ru:aH Z s.heap u mu)(rv:aH Z s.heap v mv)(e:CO u v=some c)(hC:C c s) :
  wpAny bS A (keyLt' (tuples' true) mu mv) C (λ_ _=>False) s:=by
 refine aT e λq1 hp e1=>?_;obtain⟨i,xs⟩:=q1;clear e;refine aT e1 λq2 hq e=>?_;obtain⟨j,ys⟩:=q2;clear e1;obtain rfl:=tC hp;obtain rfl:=tC hq;dsimp only at e ru rv;by_cases hc:i=j/\V.cT xs=true/\V.cT ys=true/\V.cw xs<=64
 .replace e:=(ay hc).symm.trans e
  refine ct λG hG=>?_;obtain⟨rfl,px,py,hd⟩:=hc;obtain⟨x,ox,ms,nx,rfl,Rx,_,Cz,_,rx⟩:=ru.fV;obtain⟨y,oy,xw,ny,rfl,WV,_,WW,_,ry⟩:=rv.fV;refine hG ?_;refine kat_lt Rx Cz WV WW ?_;generalize hm:ms.toList=l at rx;generalize Tu:xw.toList=l2 at ry
  cases rx with
  |cons r1 rx=>
  cases ry with
  |cons r2 ry=>
  rw[List.zip_cons_cons];refine kat_cons (nW r1 r2 rfl rfl (Nat.lt_of_add_right_lt hu) ?_);rw[bN rfl];refine kat_yes ?_;rw[<- eZ (xs:=ms),<- eZ (xs:=xw),hm,Tu,List.length_cons,List.length_cons,show∀p q:Nat,decide (p+1<q+1)=decide (p<q) from λp q=>by simp];exact ON 0 rx ry px py (Vw hu hd) e hC
 .rw[av hc] at e;injection e
theorem iV.hide (L:iV l Z h)(k :∀b o,h.get? b=some o->h'.get? b=some o)(hd:h.get? d=none):iV l (Z.hide d) h':=by
 intro e he;obtain⟨kk,L,o,hf,hn,hb,ho,hs⟩:=L e he;refine⟨kk,L,o,hf,λhm=>?_,hb,k _ _ ho,hs⟩;rcases lB.mp hm with z |z
 .rw[z,hd] at ho;injection ho
 .exact hn z
theorem iV.grown (L:iV l Z h)(x:lC d Z h h'):iV l Z h':=by
 intro e he;obtain⟨kk,L,o,hf,hn,hb,ho,hs⟩:=L e he;exact⟨kk,L,o,hf,hn,hb,x.soft ho hs,hs⟩
structure Qc (Z:dW)(s0:Shared)(l:List Env)(D kS:Addr)(e1:Nat)(CP:List V)(wG:List Value)(f9:dW)(U:bw)(bh:List V)(s:Shared):Prop where
 hh:f9.eE=kS::D::Z.eE
 S:St f9 U s
 L:iV l f9 s.heap
 xx:cF [] Z s0.heap ((f9.un (D::Z.eE)).un Z.eE) s.heap
 hk :∃ks c,s.heap.get? kS=some (cS "list" (List.toArray ks) c)/\aD f9 s.heap bh ks
 hD:s.heap.get? D=some (cS "list" #[] e1)
 rv:aD f9 s.heap CP wG
theorem Ey {D kS:Addr}{e1:Nat}{CP:List V}{kk:List V->bw->Res β}{E':iN}{body:Value->PUnit->Sem (ForInStep PUnit)}{R:PUnit->Shared->Prop}(hg:aZ n fa g)(room:rW n A l)(TN:s0.heap.get? kS=none)(JE:kS≠D)(hb :∀x (s:Shared) (C:PUnit->Shared->Prop),wpAny bS A (call (.ref fa) [x]) (λk s'=>wpAny bS A (Builtin.List.listUpdate (.ref kS) (·.push k)) C E s') (λ_ _=>False) s->wpAny bS A (body x ⟨⟩) (λr s'=>r=.yield ⟨⟩/\C ⟨⟩ s') E s) :
  ∀(xs:List V) (vs:List Value) (bh:List V) (U:bw) (f9:dW) (s:Shared),Qc Z s0 l D kS e1 CP wG f9 U bh s->aD f9 s.heap xs vs->bh.length+xs.length<64->cb a Z s0 ((tA g xs U bh).andThen kk) K E'->
   (∀f9 U ks s',Qc Z s0 l D kS e1 CP wG f9 U ks s'->cb a Z s0 (kk ks U) K E'->ks.length=bh.length+xs.length->R ⟨⟩ s')->wpAny bS A (forIn vs PUnit.unit body) R E s:=by
 intro xs
 induction xs with
 |nil=>
  intro vs bh U f9 s X r _ p fin;obtain rfl:=r.nil_inv;exact rl List.forIn_nil<|aw (fin f9 U bh s X p rfl)
 |cons x xs ih=>
  intro vs bh U f9 s X r hz p fin;refine ct λG hG=>?_;obtain⟨m,ms,rfl,r1,r2⟩:=r.cons_inv;refine hG ?_;refine rl (List.forIn_cons ..)<|aY (cB (hb _ s (λ_ s'=>∃k bB bK,Qc Z s0 l D kS e1 CP wG bK bB (bh++[k]) s'/\aD bK s'.heap xs ms/\cb a Z s0 ((tA g xs bB (bh++[k])).andThen kk) K E') (wpAny_call (hg A l room f9 U s [x] _ X.S X.L (.cons r1 .nil) _ ?_))) (λr s' hr=>?_) λ_ _ e=>e)
  .replace p:cb a Z s0 ((match g [x] U with |.ok k bB=>tA g xs bB (bh++[k]) |_=>.stuck).andThen kk) K E':=p
   cases hr:g [x] U with
   |exc c bB=>rw[hr] at p;exact p.elim
   |stuck=>rw[hr] at p;exact p.elim
   |ok k bB=>
    rw[hr] at p;intro bK s' mv S' x' rk;refine ct λG hG=>?_;obtain⟨ks,c,gk,Y7⟩:=X.hk;have Y8:bK.eE=kS::D::Z.eE:=x'.eE.trans X.hh;have hm:kS∈f9.eE:=rl X.hh<|eG ..
    have hm':kS∈bK.eE:=rl Y8<|eG ..
    have hmD:D∈f9.eE:=rl X.hh<|fE _ (eG ..)
    have Xf:=x'.held kS hm _ gk;have gD':=x'.held D hmD _ X.hD;have hl:=Y7.length;have PY:ks.length<64:=rr hl<|Nat.lt_of_add_right_lt hz
    have sb:=dP s'.heap kS (Obj.mapSeq (·.push mv));have Xg:=get?_update_seq Xf (·.push mv);have gr:lC kS bK s'.heap (s'.heap.update kS (Obj.mapSeq (·.push mv))):=⟨sb,hm',⟨_,Xf,rfl,rfl⟩,⟨_,Xg,rfl⟩⟩;have rem:=(r2.mono x').eN gr.jQ;have ea :(List.toArray ks).push mv=List.toArray (ks++[mv]):=by simp
    refine hG ?_;refine listUpdate_at Xf rfl ⟨k,bB,bK,⟨Y8,St.mk (S'.heap.grown gr) S'.gens S'.os,(X.L.ext x').grown gr,?_,⟨ks++[mv],_,by rw[ea] at Xg;exact Xg,?_⟩,SameBut.get sb gD' (Ne.symm JE),(X.rv.mono x').eN gr.jQ⟩,rem,p⟩ (by refine rl List.size_toArray<|rl sizeLine_eq ?_;exact q4 ⋯ (by rfl)) (by refine rl (Array.size_push ..)<|rl List.size_toArray<|rl sizeLine_eq ?_;exact q1 ⋯ (by rfl))
    .have e1:=(x'.un X.hh).un (H:=Z.eE) (d:=D) rfl
     exact(X.xx.trans e1).side (λb o dg e=>SameBut.get sb e dg) TN
    .exact((Y7.mono x').eN gr.jQ).append (.cons (rk.eN gr.jQ) .nil)
  .obtain⟨rfl,k,bB,bK,X',r',p'⟩:=hr
   exact ih _ (bh++[k]) bB bK s' X' r' (by refine rl bY<|rl gC ?_;simp only[List.length_cons] at hz;exact yf hz) p' λf9 U ks s' X hp hl=>fin f9 U ks s' X hp (rl hl<|rl bY<|rl gC<|rl List.length_cons<|Nat.succ_add_eq_add_succ bh.length xs.length)
end
section
variable {D kS:Addr}{e1:Nat}{CP:List V}{fP:List Value}{P:PySem.Fin->Shared->Prop}
theorem vR {st:SortSt}(X:Qc Z s0 l D kS e1 CP wG f9 U bh s)(TP:s0.heap.get? D=none)(TQ:s0.heap.get? kS=none)(JE:kS≠D)(Ej :(arrOf st).map (·.2)=List.toArray fP)(hf:failedOf st=none)(hz:fP.length<64)(hza:bh.length<64)(ro:aD f9 s.heap us fP)(hP :∀bK s',St bK U s'->cF [] Z s0.heap bK s'.heap->aH bK s'.heap (.list us) (.ref D)->P (.done (.ret .none)) s'):wpAny bS A (ksk_tail D false e1 (.ref kS) st) P E s:=by
 refine ct λG hG=>?_;obtain⟨hh,S,L,xx,⟨ks,c,hk,rk⟩,hD,rv⟩:=X;have hl:=rk.length;have mk:kS∈f9.eE:=rl hh<|eG ..
 have mD:D∈f9.eE:=rl hh<|fE _ (eG ..)
 have s1:=dP s.heap kS (Obj.mapSeq λ_=>(#[]:Array Value));have xk:=get?_update_seq hk λ_=>(#[]:Array Value);have g1:lC kS f9 s.heap _:=⟨s1,mk,⟨_,hk,rfl,rfl⟩,⟨_,xk,rfl⟩⟩;have MT:=SameBut.get s1 hD (Ne.symm JE);refine hG ?_;generalize hH1:s.heap.update kS (Obj.mapSeq λ_=>(#[]:Array Value))=H1 at s1 xk g1 MT;have s2:=dP H1 D (Obj.mapSeq λ_=>List.toArray fP);have Ro:=get?_update_seq MT λ_=>List.toArray fP;have g2:lC D f9 H1 _:=⟨s2,mD,⟨_,MT,rfl,rfl⟩,⟨_,Ro,rfl⟩⟩;refine wb (listUpdate_at hk rfl ?_ (by refine rl List.size_toArray<|rl sizeLine_eq ?_;exact VL ⋯ ⋯ (by rfl)) (Nat.zero_le _))
 refine rl hH1<|wb (wpAny_letGo ?_)
 refine wb (seqEpoch_at MT rfl ?_);refine wb (listUpdate_at MT rfl ?_ (Nat.zero_le _) (by refine rl (av (by decide))<|rl Ej<|rl List.size_toArray<|rl sizeLine_eq ?_;exact q4 ⋯ (by rfl)))
 refine rl hf ?_;simp only[bne_self_eq_false,Bool.false_eq_true,if_false,Ej];have S2:=((S.heap.grown g1).grown g2);have Rz :(f9.un (D::Z.eE)).eE=D::Z.eE:=rfl;refine aw (hP ((f9.un (D::Z.eE)).un Z.eE) _ (St.mk ((S2.un hh).un Rz) S.gens S.os) ?_ ?_)
 .exact(xx.side (λb o dg e=>SameBut.get s1 e dg) TQ).side (λb o dg e=>SameBut.get s2 e dg) TP
 .exact .list Ro rfl rfl (pC (S2.un hh) Rz) ((((ro.eN g1.jQ).eN g2.jQ).un hh).un Rz)
theorem BF :∀{ks:List V} {ms:List Value},aD Z s.heap ks ms->(∀k∈ks,(vP k).isSome=true)->∃fs,KatTups s.heap ms fs/\fs.length=ms.length/\∀f∈fs,∃i t,f=Value.int i t:=by
 intro ks
 induction ks with
 |nil=>intro ms r _;obtain rfl:=r.nil_inv;exact⟨[],KatTups.nil,rfl,λ_ h=>nomatch h⟩
 |cons k ks ih=>
  intro ms r ht;refine ct λG hG=>?_;obtain⟨m,ms,rfl,r1,r2⟩:=r.cons_inv;obtain⟨fs,h1,h2,h3⟩:=ih r2 λv hv=>ht v (.tail _ hv);obtain⟨p,hp⟩:=Option.isSome_iff_exists.mp (ht k (.head _));obtain rfl:=tC hp;obtain⟨x,o,xs,m,rfl,ho,hc,hd,_,rx⟩:=r1.fV;obtain⟨y,hy,ry⟩:=rx.get 0 _ rfl;obtain⟨t,rfl⟩:=ry.int_inv;rw[Array.getElem?_toList] at hy;refine hG ?_;exact⟨_,KatTups.cons ho hc hd hy h1,aP (· + 1) h2,λf hf=>(b8 hf).elim (λe=>⟨_,_,e⟩) (h3 f)⟩
theorem Hu {ks:List Value}{p:List Nat}(hA:A.units+200<cLine)(X:Qc Z s0 l D kS e1 CP wG f9 U bh s)(hk:s.heap.get? kS=some (cS "list" (List.toArray ks) c))(rk:aD f9 s.heap bh ks)(TP:s0.heap.get? D=none)(TQ:s0.heap.get? kS=none)(JE:kS≠D)(hl:bh.length=CP.length)(yA:CP.length<64)(hs:lM bh=some p)(hP :∀bK s',St bK U s'->cF [] Z s0.heap bK s'.heap->aH bK s'.heap (.list (p.map λi=>CP.getD i .none)) (.ref D)->P (.done (.ret .none)) s') :
  wpAny bS A (ksk_end D false wG.toArray e1 (.ref kS) (List.toArray ks)) P E s:=by
 have lk:=rk.length;have lv:=X.rv.length;have TS:ks.length=wG.length:=by lia
 unfold ksk_end;simp only[Bool.false_eq_true,if_false,List.size_toArray];by_cases h2:wG.length<2
 .refine rl (ay h2)<|rl (ay h2)<|ct λG hG=>?_
  replace hs:=(ay (q83 ⋯ ⋯ ⋯)).symm.trans hs;injection hs with hs;subst hs;refine hG ?_;refine aY (aw ?_);refine rl (StateT.run_pure ..)<|wb (aw ?_)
  refine vR X TP TQ JE (fP:=wG) ?_ rfl (lt_of_eq_of_lt (id (Eq.symm lv)) yA) (lt_of_eq_of_lt hl yA) ?_ hP
  .apply Array.toList_inj.mp
   simp[List.map_snd_zip,TS]
  .have e :(List.range bh.length).map (λi=>CP.getD i .none)=CP:=by
    refine rl hl ?_
    apply List.ext_getElem
    .simp
    .intro i h1 h2
     simp[h2]
   exact rl e<|X.rv
 .refine rl (av h2)<|rl (av h2) ?_
  replace hs:=(av (by lia)).symm.trans hs;by_cases ha:bh.all (λk=>(vP k).isSome)=true
  .replace hs:=(ay ha).symm.trans hs
   refine ct λG hG=>?_;refine aT hs λOO WX hs=>?_;refine hG ?_;by_cases hb:OO.toList.all (λi=>Nat.blt i bh.length)=true
   .replace hs:=(ay hb).symm.trans hs
    refine ct λG hG=>?_;injection hs with hs;subst hs;obtain⟨fs,hf1,Yy,hf3⟩:=BF rk (List.all_eq_true.mp ha);refine hG ?_;refine wb (kat_kind (T:=.type "int") hf1 (by lia) (λf hf=>by obtain⟨y,t,rfl⟩:=hf3 f hf;exact Looks.of_pure rfl) rfl ?_);refine rl (show(Value.type "int" != Value.type "tuple")=true by decide)<|wb (cB (kat_run (s:=s) (Q:=λxm s'=>s'=s/\OO.size=wG.length/\arrOf xm=OO.map (kas_item (ks.toArray.zip wG.toArray))/\failedOf xm=none) (G:=λp s'=>s'=s/\p=OO)
     TS (Nat.le_of_not_lt h2) (lt_of_eq_of_lt (id (Eq.symm lv)) yA) (λp xm s' a1 a2 a3 a4=>⟨a4.1,a4.2▸a1,a4.2▸a2,a3⟩) ?_) ?_ λ_ _ x=>x)
    .refine rr TS<|rr lk<|vQ (lt:=R9 bh) (λi j b hb C hC=>?_) _ OO WX ⟨rfl,rfl⟩
     refine ct λG hG=>?_;refine aT hb λu hu hb=>?_;refine aT hb λv hv hb=>?_;obtain⟨mu,eu,ru⟩:=rk.get i u hu;obtain⟨mv,ev,rv⟩:=rk.get j v hv;refine hG ?_;unfold kas_ask;exact rl List.getD_eq_getElem?_getD<|rl List.getD_eq_getElem?_getD<|rl eu<|rl ev<|BE hA ru rv hb hC
    .rintro⟨⟨⟩,xm⟩ s' ⟨rfl,hsz,Xh,hf⟩
     have eO :∀i∈OO.toList,i<CP.length:=λi hi=>by
      have:=List.all_eq_true.mp hb i hi;rw[Nat.blt_eq] at this;exact Nat.lt_of_lt_of_eq this hl
     refine vR X TP TQ JE (fP:=OO.toList.map λi=>wG.getD i Value.none) (kat_snds TS Xh) hf (by refine rl (cJ ..)<|rl eZ<|rl hsz ?_;exact Dv yA lv) (Dv yA (id (Eq.symm hl))) (X.rv.zc _ eO) hP
   .replace hs:=(av hb).symm.trans hs;injection hs
  .replace hs:=(av ha).symm.trans hs;injection hs
theorem uN {xs:List V}(ok:b9 (n+1) a)(hg:aZ n fa g)(S:St Z U s)(F:FS a fr Z s.heap)(rv:aH Z s.heap v m)(hx:items? U v=some xs)(p:bt a Z s (tB g xs U) Q E):wpAny bS a.A (call (.builtin "sorted") [m] [(ofString "key",.ref fa)]) Q E s:=by
 unfold tB at p;by_cases yA:xs.length<64
 case neg=>rw[av yA] at p;exact p.elim
 refine ct λG hG=>?_;rw[ay yA] at p;obtain⟨b,ik,rfl,lb,q⟩:=dY S.heap rv hx;have hl:=q.length;have hu:=ok.units;have hd:=ok.depth;refine hG ?_;refine call_function_entry_kw kind_sorted plain_sorted entry_sorted (ksk_s1 _ _) ?_;refine wb (m:=checkCount "sorted" 1 1 _) (aw ?_);refine wb (collect_list (vs:=ik.toList) (rl Array.toArray_toList<|lb) ?_ (by refine rr hl<|rl sizeLine_eq ?_;exact q4 ⋯ (by rfl)))
 refine wb (wpAny_newList ?_ (by refine rr hl<|rl sizeLine_eq ?_;exact q4 ⋯ (by rfl)))
 have k1 :∀b o,s.heap.get? b=some o->((s.heap.push (cS "list" #[] 0)).update s.heap.objs.size (Obj.mapSeq (·++ik.toList.toArray))).get? b=some o:=λb o e=>
  (Heap.get?_update_other _ _ λz=>absurd (cK e) (by exact rl z<|Nat.lt_irrefl _)).trans (bT _ e)
 generalize (s.heap.push (cS "list" #[] 0)).update s.heap.objs.size (Obj.mapSeq (·++ik.toList.toArray))=h1 at k1 ⊢;have x8 :(h1.push (cS "list" ik.toList.toArray 0)).get? h1.objs.size=some (cS "list" ik.toList.toArray 0):=cD _ rfl;have hn:s.heap.get? h1.objs.size=none:=by
  cases z:s.heap.get? h1.objs.size with
  |none=>rfl
  |some o=>exact absurd (cK (k1 _ _ z)) (Nat.lt_irrefl _)
 have k2 :∀b o,s.heap.get? b=some o->(h1.push (cS "list" ik.toList.toArray 0)).get? b=some o:=λb o e=>bT _ (k1 b o e);generalize h1.push (cS "list" ik.toList.toArray 0)=h2 at x8 k2;generalize h1.objs.size=D at x8 hn;refine wb (cQ (wpAny_call_entry_kw slot_list_sort ⟨_,x8,rfl⟩ entry_list_sort ?_ (ksk_l1 _ _)));refine rl (ksk_t1 ..) ?_;have u1:=dP h2 D (Obj.mapSeq λ_=>(#[]:Array Value));have g1:=get?_update_seq x8 λ_=>(#[]:Array Value);generalize (if (#[]:Array Value).size == ik.toList.toArray.size then 0 else 0+1:Nat)=e1 at g1;refine wb (listItems_at x8 rfl ?_);refine wb (listUpdate_at x8 rfl ?_ (by refine rl List.size_toArray<|rr hl<|rl sizeLine_eq ?_;exact q4 ⋯ (by rfl)) (Nat.zero_le _))
 have k3 :∀b o,s.heap.get? b=some o->(h2.update D (Obj.mapSeq λ_=>(#[]:Array Value))).get? b=some o:=λb o e=>(u1.2 b λz=>by rw[z,hn] at e;injection e).trans (k2 b o e);generalize h2.update D (Obj.mapSeq λ_=>(#[]:Array Value))=h3 at g1 k3 ⊢;refine wb (seqEpoch_at g1 rfl ?_);refine wb (wpAny_newTuple ?_ (by refine rr hl<|rl sizeLine_eq ?_;exact q4 ⋯ (by rfl)))
 refine wb (wpAny_newList ?_ (Nat.zero_le _));refine cQ ?_;have k4 :∀b o,h3.get? b=some o->(h3.push (cS "tuple" ik.toList.toArray 0)).get? b=some o:=λb o e=>bT _ e;generalize h3.push (cS "tuple" ik.toList.toArray 0)=h4 at k4 ⊢;have TU :(h4.push (cS "list" #[] 0)).get? h4.objs.size=some (cS "list" #[] 0):=cD _ rfl;have k5 :∀b o,h4.get? b=some o->(h4.push (cS "list" #[] 0)).get? b=some o:=λb o e=>bT _ e;have M6:h4.get? h4.objs.size=none:=iX h4;have Xi:h4.get? D=some (cS "list" #[] e1):=k4 _ _ g1;have JE:h4.objs.size≠D:=λz=>by rw[z,Xi] at M6;injection M6
 generalize h4.objs.size=kS at TU M6 JE ⊢;generalize h4.push (cS "list" #[] 0)=h5 at TU k5 ⊢;have k05 :∀b o,s.heap.get? b=some o->h5.get? b=some o:=λb o e=>k5 b o (k4 b o (k3 b o e));have TN:s.heap.get? kS=none:=by
  cases z:s.heap.get? kS with
  |none=>rfl
  |some o=>rw[k4 _ _ (k3 _ _ z)] at M6;injection M6
 have S4:gP (Z.hide D) U h4:=S.heap.hide (λb o e=>k4 b o (k3 b o e)) hn ⟨_,Xi,rfl⟩;have S5:gP ((Z.hide D).hide kS) U h5:=S4.hide k5 M6 ⟨_,TU,rfl⟩;have L5:iV a.l ((Z.hide D).hide kS) h5:=(F.live.hide (λb o e=>k4 b o (k3 b o e)) hn).hide k5 M6;have r5:aD ((Z.hide D).hide kS) h5 xs ik.toList:=(q.eN (hV.hide (λb o e=>k4 b o (k3 b o e)) hn)).eN (hV.hide k5 M6);have X:Qc Z s a.l D kS e1 xs ik.toList ((Z.hide D).hide kS) U [] {s with heap:=h5}:=⟨rfl,St.mk S5 S.gens S.os,L5,cF.of_keeps (D:=[]) k05,⟨[],0,TU,.nil⟩,k5 _ _ Xi,r5⟩;refine wb (wpAny_rule ?_);refine rl (List.forIn_toArray ..) ?_;have room:rW n a.A.in1.in1 a.l:=⟨ok.hand,ok.frames,Nat.le_of_succ_le hd,Z8 ⋯⟩;refine wb (Ey (a:=a) hg room TN JE (λx s2 C hC=>?_) xs ik.toList [] U _ _ X r5 (by simpa using yA) p λf9 bU ks s2 X2 p2 hlen=>?_)
 .refine wb (wpAny_attempt (cB hC (λk s' hk=>?_) λ_ _ hF=>hF.elim))
  exact wb (cB hk (λ_ u9 h=>aw ⟨rfl,h⟩) λ_ _ e=>e)
 .obtain⟨kms,c,hk,rk⟩:=id X2.hk
  refine wb (listItems_at hk rfl ?_)
  cases rh:lM ks with
  |none=>rw[rh] at p2;exact p2.elim
  |some pp=>
  rw[rh] at p2;refine Hu (by lia) X2 hk rk hn TN JE (by simpa using hlen) yA rh λbK s' S' x' r'=>⟨_,rfl,aw ⟨_,rfl,?_⟩⟩;exact p2 bK s' S' x' _ r'
theorem uO {e:Expr}{kn:Str}{Sa:Pos}{f:ME V}(hs:gz (n+1) sc [e] (aS [f]))(hp :∀env:Env,backTo pos (starEach [e] env) =(false,eval e env)::backTo pos (starEach [] env))(RM:dc pos [e])(hg:aZ n fa g)(hx:sc.names.lookup (ofString "sorted")=some .globalImplicit)(h1:nsIn W.K mainGlobals (ofString "sorted")=some none)(Kg:sc.names.lookup kn=some .globalImplicit)(Oe:nsIn W.K mainGlobals kn=some (some (.ref fa)))(hd :(kn ==("__debug__" : Str))=false) :
  cm (n+1) sc (.Call (.Name (ofString "sorted") np) [e] [⟨some (ofString "key"),.Name kn kp,Sa⟩] pos) (j3 f g):=by
 intro a ok bJ Z U fr s S F Q E p;refine ct λG hG=>?_;subst bJ;refine hG ?_;refine(show wpAny _ _ (eval (.Name (ofString "sorted") np) a.env >>= λf=>callWith pos f [] (backTo pos (starEach [e] a.env)) (backToKw pos (keywordEach [⟨some (ofString "key"),.Name kn kp,Sa⟩] a.env))) Q E s from wb ?_);refine gE (v:=.builtin "sorted") ok S hx h1 (by decide +kernel) (by decide) rfl ?_;have Xd :(j3 f g fr U) =((aS [f]) fr U).andThen λvs U=>match lh vs with |some v=>(match items? U v with |some xs=>tB g xs U |.none=>.stuck) |.none=>.stuck:=by
  unfold j3 aS aS ME.bind ah
  cases f fr U <;> rfl
 rw[Xd] at p;refine callWith_kw (hs.bind ok rfl S F p λvs bU jo s2 ms S2 F2 x2 r2 p2=>?_) (hp _) (RM _)
 cases BD:lh vs with
 |none=>rw[BD] at p2;exact p2.elim
 |some v=>
 refine ct λG hG=>?_;rw[BD] at p2;obtain rfl:=iF BD;obtain⟨m,rfl,r⟩:=r2.one;dsimp only at p2;refine hG ?_
 cases hi:items? bU v with
 |none=>rw[hi] at p2;exact p2.elim
 |some xs=>
 rw[hi] at p2;exact kws_cons (i4 ok S2 Kg Oe hd (kws_nil (uN ok hg S2 F2 r hi p2)))
end
set_option tactic.hygienic true
noncomputable def pG:MS:=λfr U=>.brk fr U
def cZ (fs:List (ME V)):ME V:=(aS fs).bind λvs=>if cE vs.length then ah (.list vs) else ie
def qg (f g:ME V):ME V:=f.bind λa=>g.bind λb=>λ_ U=>match JV a b U with
 |some q=>if cE (q.1.length+q.2.length) then .ok (.list (q.1++q.2)) U else .stuck
 |.none=>.stuck
def BG (f g:ME V):ME V:=f.bind λv=>match v with |.bool b=>if b then ah (.bool true) else g |_=>ie
section
variable {D:List Addr}
theorem pH:jT n sc (.Break pos) pG:=by
 intro a ok bJ Z U fr s S F Q E p;exact wpAny_Break (p Z s S (.refl ..) F)
theorem dm {es:List Expr}(hs:gz n sc es (aS fs)):cm n sc (.List es pos) (cZ fs):=by
 intro a ok bJ Z U fr s S F Q E p;refine List_ (hs.bind ok bJ S F p λvs bU jo s2 ms S2 F2 x2 r2 p2=>?_);dsimp only at p2;by_cases hz:cE vs.length=true
 .rw[ay hz] at p2
  refine ct λG hG=>?_;obtain⟨S3,x3,r3⟩:=S2.ym r2;refine hG ?_;exact wpAny_newObj_type (bt.val p2 S3 x3 r3) (by show ms.toArray.size<=sizeLine;exact rl List.size_toArray<|rr r2.length<|dn hz)
 .rw[av hz] at p2;exact p2.elim
theorem nA {l r:Expr}{f g:ME V}(hl:cm n sc l f)(hr:cm n sc r g):cm n sc (.BinOp l .Add r pos) (qg f g):=by
 intro a ok bJ Z U fr s S F Q E p;refine wpAny_BinOp (hl.bind ok bJ S F p λx bq cG s1 mv S1 F1 x1 r1 p1=>?_);refine hr.bind ok bJ S1 F1 p1 λy bU jo s2 MC S2 F2 x2 r2 p2=>?_;dsimp only at p2
 cases hq:JV x y bU with
 |none=>rw[hq] at p2;exact p2.elim
 |some q=>
 refine ct λG hG=>?_;rw[hq] at p2;dsimp only at p2;refine aT hq λxs ex hq=>?_;refine dh hq λys ey z2=>?_;subst z2;refine hG ?_;by_cases hz:cE (xs.length+ys.length)=true
 case neg=>rw[av hz] at p2;exact p2.elim
 refine ct λG hG=>?_;rw[ay hz] at p2;obtain⟨b1,m1,rfl,l1,q1⟩:=dY S2.heap (r1.mono x2) ex;obtain⟨b2,m2,rfl,l2,q2⟩:=dY S2.heap r2 ey;obtain⟨⟨cls,dd,data,sl⟩,ho,hc,k,hd⟩:=l1;obtain⟨⟨QQ,F7,data2,F8⟩,wQ,xY,k2,qZ⟩:=l2;simp only at hc hd xY qZ;subst hc hd xY qZ;have lx:=q1.length;have ly:=q2.length;obtain⟨S3,x3,r3⟩:=S2.ym (q1.append q2);have e :(m1++m2) =(m1.toList++m2.toList).toArray:=by simp
 refine hG ?_;refine concat_meets ⟨_,ho,rfl⟩ ⟨_,wQ,rfl⟩ noFill_list_add seq_list_add PySem.F.slot_list_add PySem.F.entry_list_add (PySem.F.args_list_add_2 _ _)
  (list_addW b1 b2 m1 m2 k k2 dd F7 sl F8 (rr eZ<|rr eZ<|rr lx<|rr ly<|dn hz)) ⟨ho,wQ,?_⟩
 exact rl e<|bt.val p2 S3 x3 r3
theorem Ez {x y:Expr}{f g:ME V}(hf:cm n sc x f)(hg:cm n sc y g):cm n sc (.BoolOp .Or [x,y] pos) (BG f g):=by
 intro a ok bJ Z U fr s S F Q E p;refine BoolOp_or (hf.bind ok bJ S F p λv bq cG s1 mv S1 F1 x1 r1 p1=>?_);refine ct λG hG=>?_
 cases v <;> first |exact p1.elim |skip
 rename_i b
 cases r1;refine hG ?_;refine wpAny_truthy_bool ?_
 cases b with
 |true=>exact bt.val p1 S1 (.refl ..) (.bool true)
 |false=>exact BoolOp_one (hg a ok bJ cG bq fr s1 S1 F1 Q E p1)
end
noncomputable def closed (U:bw):Prop:=∀o∈U,oE U.length o=true
section
theorem vS (r:aD Z h vs ms):V.iJ Z.objs.length vs=true:=
 aD.rec (motive_1:=λv m _=>V.iI Z.objs.length v=true) (motive_2:=λvs ms _=>V.iJ Z.objs.length vs=true)
  rfl (λ_=>rfl) (λ_ _=>rfl) (λ_ _=>rfl) (λe=>Nat.ble_eq_true_of_le (List.getElem?_eq_some_iff.mp e).1) (λ_ _ _ _ _ ih=>ih) (λ_ _ _ _ _ ih=>ih) rfl (λ_ _ a b=>fD ⟨a,b⟩) r
theorem lN (r:aH Z h v m):V.iI Z.objs.length v=true:=(cM (vS (.cons r .nil))).1
theorem gW {Y β:Type}{R:Y->β->Prop}{n:Nat}(f:Y->V)(hR :∀a b,R a b->V.iI n (f a)=true) :∀{as:List Y} {bs:List β},d8 R as bs->V.iJ n (as.map f)=true
 |_,_,.nil=>rfl
 |_,_,.cons r rs=>fD ⟨hR _ _ r,gW f hR rs⟩
theorem gP.closed (S:gP Z U h):closed U:=by
 intro o ho;refine rr S.len ?_;obtain⟨i,hi⟩:=List.mem_iff_getElem?.mp ho;obtain⟨p,hp⟩ :∃p,Z.objs[i]? = some p:=⟨Z.objs[i]'(S.len▸(List.getElem?_eq_some_iff.mp hi).1),List.getElem?_eq_getElem _⟩;have r:=S.objs i o p hi hp
 cases o with
 |list vs=>obtain⟨_,ms,k,_,r⟩:=r;exact vS r
 |dict kd az=>
  obtain⟨_,r⟩:=r
  cases kd with
  |int=>obtain⟨ks,_,al⟩:=r;exact fD ⟨gW _ (λa b q=>by exact rl q.1 rfl) al,gW _ (λa b q=>lN q.2) al⟩
  |str=>obtain⟨ks,_,al⟩:=r;exact fD ⟨gW _ (λa b q=>by obtain⟨⟨x,e,_⟩,_⟩:=q;exact rl e rfl) al,gW _ (λa b q=>lN q.2) al⟩
  |tup=>obtain⟨ks,_,al⟩:=r;exact fD ⟨gW _ (λa b q=>by exact rl q.1.1<|lN q.1.2) al,gW _ (λa b q=>lN q.2) al⟩
 |inst c fs=>obtain⟨_,ks,_,al⟩:=r;exact gW (λkv:Nat×V=>kv.2) (λa b q=>lN q.2) al
end
open Classical in
theorem aZ.OP {f:Addr}{g':List V->bw->Res V}(hg:aZ n f g)(hd :∀vs U,closed U->vL U.length (g vs U) (g' vs U)):aZ n f g':=by
 intro A l room Z U s vs ms S L r R p;have hg':aZ n f (λjN bB=>if jN=vs/\bB=U then g' jN bB else g jN bB):=hg.drops λjN bB=>by
  by_cases hq:jN=vs/\bB=U
  .exact rl (ay hq)<|hd _ _ (hq.2▸S.heap.closed)
  .exact rl (av hq)<|.same
 exact hg' A l room Z U s vs ms S L r R (by simp only[and_self,if_true];exact p)
set_option tactic.hygienic false
noncomputable def jK {Y:Type}(f:V->Option Y):List V->Option (List Y)
 |[]=>some []
 |v::vs=>(f v).bind λa=>(jK f vs).map (a::·)
noncomputable def gQ:Nat->bw->Nat->V->Option V
 |0,_,_,_=>.none
 |f+1,U,n,v=>match v with
  |.tup us=>(jK (gQ f U n) us).map .tup
  |.list us=>(jK (gQ f U n) us).map .list
  |.ref i=>if Nat.blt i n then some (.ref i) else match U[i]? with
   |some (.list us)=>(jK (gQ f U n) us).map .list
   |_=>.none
  |v=>some v
theorem xF {g:V->Option V}(hg :∀v v' vs jN,g v=some v'->xp U n vs jN->xp U n (v::vs) (v'::jN)) :∀{vs jN:List V},jK g vs=some jN->xp U n vs jN:=by
 intro y
 induction y with
 |nil=>
  intro _ e;injection e with e;subst e;exact .nil
 |cons v vs ih=>
  intro _ e;refine aT e λa h1 e=>?_;refine dh e λr h2 z2=>?_;subst z2;exact hg _ _ _ _ h1 (ih h2)
theorem K6 :∀(f:Nat) (v v':V) (vs jN:List V),gQ f U n v=some v'->xp U n vs jN->xp U n (v::vs) (v'::jN):=by
 intro y
 induction y with
 |zero=>
  intro _ _ _ _ e _;exact nomatch e
 |succ f ih=>
  intro v v' vs jN e r;revert e;cases v with
  |tup us=>intro e;obtain⟨Fx,h,rfl⟩:=Option.map_eq_some_iff.mp e;exact .tup (xF (ih) h) r
  |list us=>intro e;obtain⟨Fx,h,rfl⟩:=Option.map_eq_some_iff.mp e;exact .list (xF (ih) h) r
  |ref i=>
   intro e;replace e :(if Nat.blt i n then some (V.ref i) else match U[i]? with |some (.list us)=>(jK (gQ f U n) us).map .list |_=>.none)=some v':=e
   by_cases hi:Nat.blt i n=true
   .replace e:=(ay hi).symm.trans e;injection e with e;subst e;exact .same hi r
   .replace e:=(av hi).symm.trans e
    cases hs:U[i]? with
    |none=>rw[hs] at e;injection e
    |some o=>
     rw[hs] at e;revert e;cases o with
     |list us=>
      intro e;refine dh e λFx h z1=>?_;subst z1;exact .cut hs (Nat.le_of_not_lt λq=>hi (Nat.blt_eq.mpr q)) (xF (ih) h) r
     |_=>intro e;injection e
  |_=>intro e;injection e with e;subst e;exact .same rfl r
open Classical in
def uP (U:bw)(r:Res V):Res V:=match r with
 |.ok v bq=>match gQ 40 bq U.length v with
  |some v'=>if closed U->∀o∈bq.take U.length,oE U.length o=true then .ok v' (bq.take U.length) else .ok v bq
  |.none=>.ok v bq
 |r=>r
theorem EA {r:Res V}(hc:closed U):vL U.length r (uP U r):=by
 unfold uP
 cases r with
 |ok v bq=>
  dsimp only
  cases hf:gQ 40 bq U.length v with
  |none=>exact .same
  |some v'=>
   dsimp only;by_cases hq:closed U->∀o∈bq.take U.length,oE U.length o=true
   .exact rl (ay hq)<|.cut U.length rfl (Nat.le_refl _) (hq hc) (K6 40 v v' [] [] hf .nil)
   .exact rl (av hq)<|.same
 |_=>exact .same
theorem Hv (hf:gQ 40 bq U.length v=some v')(hq:closed U->∀o∈bq.take U.length,oE U.length o=true):uP U (.ok v bq)=.ok v' (bq.take U.length):=by
 unfold uP;simp only[hf];exact ay hq
theorem tD (hf:gQ 40 (U++J) U.length v=some v'):uP U (.ok v (U++J))=.ok v' U:=by
 refine(Hv hf (rl List.take_left<|id)).trans ?_;exact rl List.take_left rfl
def tE (ps:List Nat)(m:MS)(vs:List V)(U:bw):Res V:=uP U (cy ps m vs U)
theorem aZ.cut {f:Addr}{ps:List Nat}{m:MS}(h:aZ n f (cy ps m)):aZ n f (tE ps m):=h.OP λ_ _ hc=>EA hc
section
open PySem.Calls
noncomputable abbrev zq:Arguments:=⟨[],[],none,[],[],none,[]⟩
section
theorem zr (S:St Z U s)(L:iV l Z s.heap)(room:rW (n+1) A l){m:Str->Option Value}{tk:Nat}(Gp:h1.Ns s.heap.objs.size m)(rh:Heap.SameBut s.heap.objs.size (s.heap.push {cls:=.type "frame",data:=.dict #[]}) h1)(e1:env.locals=s.heap.objs.size)(e2:env.frame=some env.locals)(hk:env.scope.kind=.function)(e4:env.globals=mainGlobals)(e5:env.builtins=builtinsNs)(nj :∀x c,(x,c)∈env.cells->c∉bH Z/\W.h₀.get? c=none/\∃v,s.heap.IsCell c v)(CD:env.cells.Pairwise λx y=>x.2≠y.2)(An :∀x,env.scope.names.lookup x≠some .cell)(hv :∀i v,cH.lookup i=some v->i<W.nN/\env.kindOf (W.nm i)=some .free/\∃c mv,env.cells.lookup (W.nm i)=some c/\s.heap.IsCell c (some mv)/\aH Z s.heap v mv) :
  b9 n ⟨A.deeper env,env,env::l⟩/\St Z U {s with heap:=h1,toks:=tk}/\cF [] Z s.heap Z h1/\FS ⟨A.deeper env,env,env::l⟩ cH Z h1/\(∀b o,s.heap.get? b=some o->h1.get? b=some o)/\s.heap.get? env.locals=none:=by
 refine ct λG hG=>?_;have xk :∀b o,s.heap.get? b=some o->h1.get? b=some o:=λb o e=>rh.extBut b o (Nat.ne_of_lt (cK e)) (bT _ e);have Jy:s.heap.get? env.locals=none:=rl e1<|iX _
 obtain⟨S1,x1⟩:=S.kept (tk:=tk) xk;have nL:env.locals∉bH Z/\W.h₀.get? env.locals=none:=by
  refine⟨λhm=>?_,?_⟩
  .obtain⟨ob,e,_⟩:=S.heap.gL hm;replace e:=Jy.symm.trans e;injection e
  .cases z:W.h₀.get? env.locals with
   |none=>rfl
   |some o=>have:=S.heap.base _ _ z;replace this:=Jy.symm.trans this;injection this
 obtain⟨oL,eL,qL⟩:=Ns.soft Gp;have lz :∀{c:Addr} {v:Option Value},s.heap.IsCell c v->h1.IsCell c v:=λ{c v} ⟨o,ho,hd⟩=>⟨o,xk _ _ ho,hd⟩;refine hG ?_;refine⟨⟨⟨room.hand,Around.frames_deeper room.frames,?_,?_⟩,⟨env,l,env.locals,rfl,e2,e2⟩,hk,e4,e5⟩,S1,x1,⟨λe he=>?_,⟨m,rl e1<|Gp,λi v ei=>?_⟩,nL.1,nL.2,λx c hx=>?_,CD,λx hx=>absurd hx (An x)⟩,xk,Jy⟩
 .have:=room.depth;show A.depth+1+n<=990;exact QA ⋯
 .have:=room.units;show A.units+3+40 * n+400<=cLine;exact Np ⋯
 .rcases b8 he with rfl |he
  .exact⟨by refine rl hk ?_;decide,e.locals,oL,e2,nL.1,nL.2,rl e1<|eL,qL⟩
  .obtain⟨k,L',o,hf,hn,hb,ho,hs⟩:=L e he
   exact⟨k,L',o,hf,hn,hb,xk _ _ ho,hs⟩
 .obtain⟨Oe,h2',c,mv,h3',h4',h5'⟩:=hv i v ei
  refine⟨Oe,?_⟩;unfold iD;exact rl h2'<|⟨c,mv,h3',lz h4',h5'.mono x1⟩
 .obtain⟨q1,q2,v,q3⟩:=nj x c hx
  exact⟨q1,q2,v,lz q3⟩
theorem Hw {body:Expr}{c P:Addr}(ok:b9 n a)(S:St Z U s)(F:FS a fr Z s.heap)(vT:a.env.code=.ref c)(C:CodeHd s.heap c P)(hP:s.heap.get? P=some (tabObj ps))(ht:TriplesOk ps.toList)(MP:codeAmong pos ps.toList=none)(TV:W.h₀.get? P=none)(HB:W.h₀.BuiltinsAt W.mg P)(yN :∀x∈jP.names,x.2=.free->a.env.scope.names.lookup x.1=some .cell)(h :∀c' OQ tk H1 yb,H1.get? yb=some (kla_obj "<lambda>" (a.env.qual++"<lambda>") zq body jP (jX a.env.cells jP.names []) ((W.mg "__name__").getD .none) c' OQ)->H1.CodeRec (.ref c') (a.env.qual++"<lambda>")->H1.get? P=some (tabObj (ps++#[rawInt pos.line,rawInt pos.col,.ref c']))->CodeHd H1 c P->
   St Z U {s with heap:=H1,toks:=tk}->FS a fr Z H1->gq P s.heap H1->Q (.ref yb) {s with heap:=H1,toks:=tk}) :
  wpAny bS a.A (eval (.Lambda zq body jP pos) a.env) Q E s:=by
 have hg:=S.heap.ok.T.g.keeps S.heap.base;have hgP:mainGlobals≠P:=λq=>by
  obtain⟨o,_,_,e,_⟩:=S.heap.ok.T.g;rw[q] at e;replace e:=TV.symm.trans e;injection e
 have hb:s.heap.BuiltinsAt W.mg P:=by
  obtain⟨bm,o,b1,b2,b3,b4,b5,b6⟩:=HB;exact⟨bm,o,b1,b2,b3,b4,S.heap.base _ _ b5,b6⟩
 refine kla_eval rfl (kla_makeFunction (mg:=W.mg) (jG λx hx hk=>F.laid _ (yN x hx hk)) ok.glob hg vT C hP ht MP hgP hb λc' OQ h1 tk hx hge eO Hx htb=>?_);refine ct λG hG=>?_;have sd:gq P s.heap (h1.push (kla_obj "<lambda>" (a.env.qual++"<lambda>") zq body jP (jX a.env.cells jP.names []) ((W.mg "__name__").getD .none) c' OQ)):=
  ⟨λb o hb e=>bT _ (hx b o hb e),_,hP,rfl,by simp,by simp,by simp,λc=>by simp⟩
 obtain⟨o,vs,Hy,tf,zt,tg,Sb,Hz,tt,q1,q2,q3,q4,q5,q6,q7,q8,q9,Y9⟩:=C;obtain⟨c2,oc,vc,tq,r1,r2,r3⟩:=Hx;refine hG ?_;exact h c' OQ tk _ _ (cD _ rfl) ⟨c2,oc,vc,tq,r1,bT _ r2,r3⟩ (bT _ htb) ⟨o,vs,Hy,tf,zt,tg,Sb,Hz,tt,sd.same _ _ Y9 q1,q2,q3,q4,q5,q6,q7,q8,q9,Y9⟩
  (S.side sd TV) (F.side sd) sd
theorem HA {body:Expr}{qual:Str}{HC:List (Str×Addr)}{pm OQ:Value}{c' yb:Addr}(room:rW (n+1) A l)(S:St Z U s)(L:iV l Z s.heap)(hl:s.heap.get? yb=some (kla_obj "<lambda>" qual zq body jP HC pm c' OQ))(Hx:s.heap.CodeRec (.ref c') qual)(Xj:jP.isCoroutine=false)(OR:jP.isGenerator=false)(hk:jP.kind=.function)(An :∀x∈jP.names,x.2≠.cell)(OS :∀x,jP.names.lookup x≠some .cell)(nj :∀x c,(x,c)∈HC->c∉bH Z/\W.h₀.get? c=none/\∃v,s.heap.IsCell c v)(CD:HC.Pairwise λx y=>x.2≠y.2)(hv :∀i v,cH.lookup i=some v->i<W.nN/\jP.names.lookup (W.nm i)=some .free/\∃c mv,HC.lookup (W.nm i)=some c/\s.heap.IsCell c (some mv)/\aH Z s.heap v mv)(hE:cm n jP body fe)(he:fe cH U=.exc c bB)(hR :∀bK s' e B,p8 l c bK bB s' e B->gY [] (nX l) Z s.heap bK B s'.heap->R (.error (.ref e)) s'):codeAny bS A (.call (.ref yb) ⟨[],[]⟩) R s:=by
 refine kla_callFunE (by have:=room.depth;exact Nq this) hl rfl Xj OR rfl Hx ?_;refine wpAny_of_eq (a:=[]) rfl ?_;refine wpAny_newFunctionEnv An (λx hx=>nomatch hx) (λh1 Gp rh=>⟨(S.heap.ok.T.nolimit.keeps S.heap.base).fresh _ rh,?_⟩) hk;refine ct λG hG=>?_;obtain⟨ok2,S2,x2,F2,k2,n2⟩:=zr (n:=n) (A:=A) (l:=l) (env:=newEnv jP s.heap.objs.size mainGlobals HC (qual++".<locals>.") (some yb) (.ref c') none builtinsNs) (cH:=cH) (tk:=s.toks+([]:List (Str×Value)).length) S L room Gp rh rfl rfl hk rfl rfl nj CD OS hv;refine hG ?_;refine kla_codeExpr (hE ⟨_,_,_⟩ ok2 rfl Z U cH _ S2 F2 _ _ ?_);refine rl he ?_;intro bK s' e B T x;refine yO (Around.frames_deeper room.frames) rfl (.inl T) λh' T' st up=>hR bK _ e B T' ?_;refine((x.pre x2).up up st).drop λb o e=>⟨λhm=>(nomatch hm),?_⟩;unfold nX;refine rl List.filterMap_cons ?_;simp only[newEnv,List.mem_cons];exact⟨λz=>z.elim (λy=>by rw[y] at e;exact absurd (cK e) (Nat.lt_irrefl _)) id,.inr⟩
variable {nm qn:Str}{N:Addr}{bs bm:List Value}{sn:List Str}{sub:List Value}{ab:Bool}{k0 k1 k2 k3 k5:Option Value}
theorem BH {fR yb:Addr}{ask xL:Str}{q1 q2 q3 q4 q5 q6 q7 q8:Pos}{jR:List Stmt}(hf:W.K.lookup fR=some o)(hd:o.data=.func fd)(e1:fd.body=.stmts (.Try [.Expr (.Call (.Name ask q1) [] [] q2) q3] [.ExceptHandler (some (.Name xL q4)) none [.Return (some (.Constant (.bool true) kk q5)) q6] q7] [] [] q8::jR))(e2:fd.scope=sc)(e4:fd.globals=mainGlobals)(e5:fd.closure=[])(e6:fd.builtins=builtinsNs)(e9:codeIn W.K fd.code fd.qualname=true)(hb :∀(M:Model) (A:Around) (Q:List (Str×Value)->Shared->Prop) (E:iN) (s:Shared),Q [(ask,.ref yb)] s->wpAny M A (bindArgs fd ⟨[.ref yb],[]⟩) Q E s)(Xj:sc.isCoroutine=false)(OR:sc.isGenerator=false)(hk:sc.kind=.function)(An :∀x∈sc.names,x.2≠.cell)(OS :∀x,sc.names.lookup x≠some .cell)(y9:sc.names.lookup ask=some .local)(hx:sc.names.lookup xL=some .globalImplicit)(eL:nsIn W.K mainGlobals xL=some (some (.ref (W.cls c))))(hdL :(xL ==("__debug__" : Str))=false)(hdA :(ask ==("__debug__" : Str))=false)(Wb :∀env:Env,swapsWith (.Call (.Name ask q1) [] [] q2) none q3.line env=pure false)(hK:W.K.lookup (W.cls c)=some (excClassObj nm qn (W.cls c) N bs bm Nm sn sub ab col dd k0 k1 k2 k3 k5 FF))(mK:bm.contains (.type "BaseException")=true)(room:rW (n+2) A l)(S:St Z U s)(L:iV l Z s.heap){ol:Obj}{fl:FuncData}(ya:s.heap.get? yb=some ol)(hld:ol.data=.func fl)(K7 :∀(A':Around) (l':List Env) (s1:Shared) (R:Result->Shared->Prop),rW (n+1) A' l'->St Z U s1->iV l' Z s1.heap->(∀b o,s.heap.get? b=some o->s1.heap.get? b=some o)->
   (∀bK s' e B,p8 l' c bK bB s' e B->gY [] (nX l') Z s1.heap bK B s'.heap->R (.error (.ref e)) s')->codeAny bS A' (.call (.ref yb) ⟨[],[]⟩) R s1)(hR :∀bK s',St bK bB s'->cF [] Z s.heap bK s'.heap->R (.ok (.ret (.bool true))) s'):codeAny bS A (.call (.ref fR) ⟨[.ref yb],[]⟩) R s:=by
 have X:=S.heap.ok.X.keeps S.heap.base;refine codeAny_call_function (by have:=room.depth;show A.depth<1000;exact Nq this) (X _ _ hf) hd (rl e2<|Xj) (rl e2<|OR) e1 (codeRec_of X e9) ?_
 refine rl e5<|hb _ _ _ _ _ ?_
 refine wpAny_newFunctionEnv (rl e2<|An) (λx hx=>?_) (λh1 Gp rh=>⟨(S.heap.ok.T.nolimit.keeps S.heap.base).fresh _ rh,?_⟩) (rl e2<|hk)
 .exact rl (dM hx)<|rl e2<|y9
 refine ct λG hG=>?_;obtain⟨TX,S1,x1,F1,Za,n1⟩:=zr (n:=n+1) (A:=A) (l:=l) (env:=newEnv fd.scope s.heap.objs.size fd.globals [] (fd.qualname++".<locals>.") (some fR) fd.code none fd.builtins) (cH:=[]) (tk:=s.toks + [(ask,Value.ref yb)].length) S L room Gp rh rfl rfl
  (by show fd.scope.kind=_;exact rl e2<|hk) e4 e6 (λx c hx=>nomatch hx) .nil (λx=>by show fd.scope.names.lookup x≠_;exact rl e2<|OS x) (λi v e=>nomatch e)
 have bJ :(newEnv fd.scope s.heap.objs.size fd.globals [] (fd.qualname++".<locals>.") (some fR) fd.code none fd.builtins).scope=sc:=e2;have Kp :(newEnv fd.scope s.heap.objs.size fd.globals [] (fd.qualname++".<locals>.") (some fR) fd.code none fd.builtins).locals=s.heap.objs.size:=rfl;have rf :(newEnv fd.scope s.heap.objs.size fd.globals [] (fd.qualname++".<locals>.") (some fR) fd.code none fd.builtins).cells=[]:=rfl;have hB :(newEnv fd.scope s.heap.objs.size fd.globals [] (fd.qualname++".<locals>.") (some fR) fd.code none fd.builtins).frame=some s.heap.objs.size:=rfl;refine hG ?_;generalize newEnv fd.scope s.heap.objs.size fd.globals [] (fd.qualname++".<locals>.") (some fR) fd.code none fd.builtins=env at TX F1 n1 bJ Kp rf hB ⊢;have newD :∀b o,s.heap.get? b=some o->b∉Act.D ⟨A.deeper env,env,env::l⟩:=λb o e hm=>by
  rw[Act.D,rf,List.map_nil,List.mem_singleton] at hm;rw[hm] at e;replace e:=n1.symm.trans e;injection e
 refine codeAny_func (wpAny_execs_cons (GI (a:=⟨A.deeper env,env,env::l⟩) (Z:=Z) (r:=.exc c [] bB) TX (λQ E p=>wpAny_execs_cons (wpAny_Expr ?_ (vp TX) (Wb _))) uz (by show env.scope.names.lookup xL=_;exact rl bJ<|hx) eL hdL hK mK ?_))
 .refine Call_Name0 (wpAny_Name (wpAny_loadName_local (rl bJ<|hk) (by refine(?_:env.scope.names.lookup ask=_);exact rl bJ<|y9) (m:=λx=>[(ask,Value.ref yb)].reverse.lookup x) (rl Kp<|Gp) (v:=.ref yb) (by refine List.lookup_cons.trans ?_;exact rl (beq_self_eq_true ..) rfl) ?_) hdA)
  refine Calls.callWith_function (evalArgs_empty ⟨⟨Za _ _ ya,hld⟩,?_⟩);refine wpAny_call (K7 _ _ _ _ TX.torW S1 F1.live Za λbK s' e B T x=>?_);exact p bK s' e B (.inl (.inl T)) x.of0 (F1.ext (x.ext T.2.2.1))
 .unfold Kr
  dsimp only;refine rl (ay rfl) ?_;intro bK s' mv S' x' r';refine ct λG hG=>?_
  cases r';refine hG ?_;exact hR bK s' S' ((x1.of0.trans x').drop λb o e hm=>absurd hm (newD b o e))
end
end
theorem aZ.le {m:Nat}{f:Addr}(h:aZ m f g)(hl:m<=n):aZ n f g:=
 λA l r=>h A l ⟨r.hand,r.frames,by have:=r.depth;exact Z9 ⋯ ⋯,by have:=r.units;exact U7 hl this⟩
section
theorem HD {xs:List Str}{ys:List Y} :∀{x:Str},x∈xs->xs.length=ys.length->((xs.zip ys).lookup x).isSome=true:=by
 induction xs generalizing ys with
 |nil=>intro x h;cases h
 |cons a xs ih=>
  intro x h hl
  cases ys with
  |nil=>injection hl
  |cons b ys=>
   refine rl List.zip_cons_cons<|rl List.lookup_cons ?_
   by_cases hx:x=a
   .simp[hx]
   .simp only[beq_eq_false_iff_ne.mpr hx]
    exact ih ((b8 h).resolve_left hx) (Nat.succ.inj hl)
theorem K8 {xs:List Str} :∀{ys:List Y},xs.Nodup->xs.length=ys.length->xs.filterMap (λn=>((xs.zip ys).lookup n).map (n,·))=xs.zip ys:=by
 induction xs with
 |nil=>intro ys _ _;rfl
 |cons a xs ih=>
  intro ys hn hl;obtain⟨h1,h2⟩:=List.nodup_cons.mp hn
  cases ys with
  |nil=>injection hl
  |cons b ys=>
   refine rl List.zip_cons_cons<|rl List.filterMap_cons<|rl List.lookup_cons ?_
   simp only[beq_self_eq_true,Option.map_some];congr 1;refine Eq.trans ?_ (ih h2 (Nat.succ.inj hl));have key :∀l:List Str,(∀n∈l,n≠a)->l.filterMap (λn=>(List.lookup n ((a,b)::xs.zip ys)).map (n,·))=l.filterMap (λn=>(List.lookup n (xs.zip ys)).map (n,·)):=by
    intro l
    induction l with
    |nil=>intro _;rfl
    |cons n l il=>
     intro hq;refine rl List.filterMap_cons<|rl List.filterMap_cons<|rl (il λm hm=>hq m (.tail _ hm))<|rl List.lookup_cons ?_
     simp only[beq_eq_false_iff_ne.mpr (hq n (.head _))]
   exact key xs λn QS z=>h1 (z▸QS)
end
theorem tF {as:List Arg}{Q:List (Str×Value)->Shared->Prop}(hp:fd.params =⟨[],as,none,[],[],none,[]⟩)(hd:fd.defaults=.none)(hn :(as.map (·.arg)).Nodup)(hl:ms.length=as.length)(h:Q ((as.map (·.arg)).zip ms) s):wpAny M A (bindArgs fd ⟨ms,[]⟩) Q E s:=by
 have Fv :(as.map (·.arg)).length=ms.length:=rl (cJ ..)<|rl hl rfl
 have e1 :¬ms.length >(as.map (·.arg)).length:=by lia
 have e2 :((as.map (·.arg)).filter λn=>(((as.map (·.arg)).zip ms).lookup n).isNone)=[]:=by
  rw[List.filter_eq_nil_iff];intro n h;have:=HD h Fv
  cases z :(List.zip (as.map (·.arg)) ms).lookup n with
  |none=>rw[z] at this;injection this
  |some _=>simp
 cases fd;subst hp;subst hd;unfold bindArgs;refine wb (aw ?_);refine wb (aw ?_);dsimp only;refine wpAny_ite_split (λOT=>absurd OT (by simp;exact Nat.le_of_eq hl)) (λ_=>?_);refine wpAny_ite_split (λOT=>?_) (λ_=>?_)
 .have et:List.take ((as.map (·.arg)).length - (List.drop (0 - (as.map (·.arg)).length) ([]:List Value)).length) (as.map (·.arg))=as.map (·.arg):=rl List.drop_nil<|rl List.length_nil<|rl (Nat.sub_zero ..)<|rl List.take_length rfl
  change (!(List.filter (λn=>(List.lookup n ((as.map (·.arg)).zip ms)).isNone) (List.take ((as.map (·.arg)).length - (List.drop (0 - (as.map (·.arg)).length) ([]:List Value)).length) (as.map (·.arg)))).isEmpty)=true at OT;rw[et,e2] at OT;injection OT
 have ez :∀{Y β:Type} (l:List Y) (k:Nat),l.zip (List.drop k ((none:Option (Array β)).getD #[]).toList)=[]:=λl k=>by simp
 refine rl (ez ..)<|wb (aw ?_)
 refine wb (aw (wpAny_ite_split (λOT=>(nomatch OT)) (λ_=>aw ?_)));show Q (List.filterMap (λn=>(((as.map (·.arg)).zip ms).lookup n).map (n,·)) (as.map (·.arg)++[])) s;exact rl (List.append_nil ..)<|rl (K8 hn Fv)<|h
theorem Sd :∀i<nT,(yh i ==("__debug__" : Str))=false/\(yh i ==("__classdict__" : Str))=false:=by decide +kernel
theorem br {a b:Nat}(h:Nat.blt a b=true):a<b:=Nat.lt_of_succ_le (Nat.le_of_ble_eq_true h)
theorem dI.ns (x:dI)(i:Nat)(h:Nat.blt i gN=true:=by rfl):nsIn W.K mainGlobals (gT i).1=some (gT i).2:=x.F.ns i (br h)
theorem dI.find (x:dI)(i:Nat)(h:Nat.blt i fN=true:=by rfl):findIn W.K (.ref (fT i).1) (fT i).2.1=some (fT i).2.2:=x.F.find i (br h)
theorem dI.qU (x:dI)(i:Nat)(h:Nat.blt i tN=true:=by rfl):takerIn W.K (tT i).1 (tT i).2=some Option.none:=x.F.qU i (br h)
theorem dI.fn (x:dI)(i:Nat)(h:Nat.blt i kN=true:=by rfl):As W.K (kA i) (kP i):=x.F.fn i (br h)
theorem dI.cl (x:dI)(k:Nat)(h:Nat.blt k 4=true:=by rfl):FK W.K (Dw k) (FJ k):=x.F.cls k (br h)
theorem dI.cg (x:dI)(k:Nat)(h:Nat.blt k 4=true:=by rfl):AL k:=⟨(x.cl k h).dict,(x.cl k h).get⟩
theorem dI.cs (x:dI)(k:Nat)(h:Nat.blt k 4=true:=by rfl):A3 k:=⟨(x.cl k h).set,(x.cl k h).over,(x.cl k h).dict⟩
theorem dI.ck (x:dI)(k:Nat)(h:Nat.blt k 4=true:=by rfl):keepIn W.K (.ref (Dw k))=true:=(x.cl k h).keep
theorem CQ:[Value.ref 47,.type "Exception",.type "BaseException",.type "object"].contains (.type "BaseException")=true:=by decide +kernel
theorem dI.cc (x:dI)(k:Nat){m:Nat}(hm:m+1<=n)(hg:aZ m (FJ k) g)(hf:typeIn W.K (.ref (FJ k))=some (.type "function"))(h:Nat.blt k 4=true:=by rfl):aZ n (Dw k) (sO k g):=
 (GH (c:=k) (x.cl k h).makes (x.cl k h).init hf hg).le hm
section
variable {x:dI}
theorem eV (x:dI)(i:Nat)(h:Nat.blt i nT=true:=by rfl):cm n sc (.Name (yh i) pos) (ai i):=
 DF rfl (Sd i (br h)).1 (Sd i (br h)).2
def CR (fj sc:Scope)(dq:List Nat):Bool:=
 decide (fj.kind=.function)&&fj.names.all (λy=>!decide (y.2=.local)||decide (fj.names.lookup y.1=some .local))&&fj.names.all (λy=>!decide (y.2=.cell))&&decide (fj.names.map (·.1)).Nodup&&
  fj.names.all (λy=>!decide (y.2=.free)||decide (sc.names.lookup y.1=some .cell))&&dq.all λj=>decide ((yh j,NameKind.free)∈fj.names)&&decide ((iP fj sc).names.lookup (yh j)=some .cell)
theorem d0 (h:CR fj sc dq=true):jY fj sc dq:=by
 simp only[CR,Bool.and_eq_true,decide_eq_true_eq,List.all_eq_true,Bool.or_eq_true,Bool.not_eq_true',decide_eq_false_iff_not] at h;obtain⟨⟨⟨⟨⟨h1,h2⟩,h3⟩,h4⟩,h5⟩,h6⟩:=h;exact⟨h1,λy hy e=>(h2 y hy).resolve_left λq=>q e,h3,h4,λy hy e=>(h5 y hy).resolve_left λq=>q e,h6⟩
theorem eD (h :(is.all λi=>Nat.blt i nT&&gH sc (yh i))=true):mj sc is:=by
 simp only[List.all_eq_true,Bool.and_eq_true] at h;exact λi hi=>⟨br (h i hi).1,(h i hi).2⟩
theorem pI (h :(is.all λi=>Nat.blt i nT&&decide (sc.names.lookup (yh i)=some .local))=true) :∀i∈is,i<W.nN/\sc.names.lookup (W.nm i)=some .local:=by
 simp only[List.all_eq_true,Bool.and_eq_true,decide_eq_true_eq] at h;exact λi hi=>⟨br (h i hi).1,(h i hi).2⟩
def HE (P:Arguments)(ps:List Nat):Bool:=P.posonlyargs.isEmpty&&P.vararg.isNone&&P.kwonlyargs.isEmpty&&P.kw_defaults.isEmpty&&P.kwarg.isNone&&P.defaults.isEmpty&&decide (P.args.map (·.arg)=ps.map yh)
def CS (sc:Scope)(P:Arguments)(ps:List Nat):Bool:=
 !sc.isCoroutine&&!sc.isGenerator&&decide (sc.kind=.function)&&decide (sc.names.map (·.1)).Nodup&&decide ps.Nodup&&(ps.all λi=>Nat.blt i nT&&gH sc (yh i))&&HE P ps
theorem CT (ps:List Nat)(h:CS (kP i).scope (kP i).params ps=true)(e1:fd.body=.stmts (kP i).body)(e2:fd.scope =(kP i).scope)(e3:fd.params =(kP i).params)(e4:fd.globals=mainGlobals)(e5:fd.closure=[])(e6:fd.builtins=builtinsNs)(e7:fd.defaults=.none)(e9:codeIn W.K fd.code fd.qualname=true):Od fd (kP i).body (kP i).scope ps:=by
 simp only[CS,Bool.and_eq_true,Bool.not_eq_true',decide_eq_true_eq,List.all_eq_true] at h;obtain⟨⟨⟨⟨⟨⟨h1,h2⟩,h3⟩,h4⟩,h5⟩,h6⟩,h7⟩:=h;refine⟨e1,e2,e4,e5,e6,e9,h1,h2,h3,h4,λp hp=>br (h6 p hp).1,h5,λp hp=>(h6 p hp).2,λms hl M A Q E s h=>?_⟩;generalize (kP i).params=P at h7 e3;obtain⟨a1,a2,a3,a4,a5,a6,a7⟩:=P;simp only[HE,Bool.and_eq_true,decide_eq_true_eq,List.isEmpty_iff,Option.isNone_iff_eq_none] at h7;obtain⟨⟨⟨⟨⟨⟨rfl,rfl⟩,rfl⟩,rfl⟩,rfl⟩,rfl⟩,h8⟩:=h7;have hn :(a2.map (·.arg)).Nodup:=by
  exact rl h8<|List.nodup_iff_pairwise_ne.mpr (List.pairwise_map.mpr ((List.nodup_iff_pairwise_ne.mp h5).imp_of_mem λ{a b} ha hb dg z=>dg (FI a b (br (h6 a ha).1) (br (h6 b hb).1) z)))
 refine tF e3 e7 hn (rl hl<|rr (cJ (f:=yh) (as:=ps))<|rr h8<|rl (cJ ..) rfl) ?_
 exact rl h8<|h
theorem kB {g:MS}(F:As W.K (kA i) (kP i))(ps:List Nat)(h:CS (kP i).scope (kP i).params ps=true)(hd:cf n (kP i).scope (kP i).body g):aZ (n+1) (kA i) (cy ps g):=by
 obtain⟨o,fd,ho,GD,e1,e2,e3,e4,e5,e6,e7,e8,e9⟩:=F.fd;exact Kq ho GD (CT ps h e1 e2 e3 e4 e5 e6 e7 e9) hd
theorem bX {g:MS}{ps:List Nat}(hn:k+1<=n)(F:As W.K (kA i) (kP i))(h:CS (kP i).scope (kP i).params ps=true)(hd :∀m,k<=m->cf m (kP i).scope (kP i).body g):aZ n (kA i) (cy ps g):=
 match n,hn with
 |m+1,hn=>kB F ps h (hd m (Nat.le_of_succ_le_succ hn))
theorem mo {s:Str}{f:Addr}{P:iU}(h:findIn W.K (.ref (W.cls c)) s=some (some (.ref f)))(F:As W.K f P):GG c s f:=⟨h,F.typ,F.keep⟩
end
theorem vU (x:dI):Bm:=Oo x.O x.F.ex
theorem zu (x:dI){q1 q2 q3 q4 Xk:Pos}{k1 k2:Nat}(hx:sc.names.lookup (ofString "LimitFault")=some .globalImplicit:=by kernel_rfl)(hy:sc.names.lookup (ofString "MOST_SIZE")=some .globalImplicit:=by kernel_rfl) :
  jT n sc (.Raise (some (.Call (.Name (ofString "LimitFault") np) [.JoinedStr [.Constant (.str (ofString "terms of more than ")) k1 q1,.FormattedValue (.Name (ofString "MOST_SIZE") Xk) (-1) none q2,.Constant (.str (ofString " nodes are not counted")) k2 q3] q4] [] qF)) none pos) (kq 4):=
 qd (x:=ofString "LimitFault") (c:=4) hx rfl (x.ns 20) (by decide +kernel) x.F.ex.Mx (vU x) x.F.QD (λ_=>rfl) (λ_=>rfl)
  (vB hy (x.ns 15) (by decide +kernel) (by decide +kernel) (by rw[sizeLine_eq];decide +kernel) (by rw[sizeLine_eq];decide +kernel) (by rw[sizeLine_eq];decide +kernel))
theorem xG (x:dI){q1 q2 q3 q4 Xk:Pos}{k1 k2:Nat}(hx:sc.names.lookup (ofString "LimitFault")=some .globalImplicit:=by kernel_rfl)(hy:sc.names.lookup (ofString "MOST_LISTED")=some .globalImplicit:=by kernel_rfl) :
  jT n sc (.Raise (some (.Call (.Name (ofString "LimitFault") np) [.JoinedStr [.Constant (.str (ofString "more than ")) k1 q1,.FormattedValue (.Name (ofString "MOST_LISTED") Xk) (-1) none q2,.Constant (.str (ofString " terms are not listed")) k2 q3] q4] [] qF)) none pos) (kq 4):=
 qd (x:=ofString "LimitFault") (c:=4) hx rfl (x.ns 20) (by decide +kernel) x.F.ex.Mx (vU x) x.F.QD (λ_=>rfl) (λ_=>rfl)
  (vB hy (x.ns 16) (by decide +kernel) (by decide +kernel) (by rw[sizeLine_eq];decide +kernel) (by rw[sizeLine_eq];decide +kernel) (by rw[sizeLine_eq];decide +kernel))
section
local macro_rules | `(⋯)=>`(λ_=>rfl)
local macro_rules | `(())=>`(by kernel_rfl)
local macro_rules | `(nofun)=>`(λ_=>⟨_,rfl⟩)
def CU:MS:=
 (cp (va (iE .NotEq (ai 0) (ah (.str []))) (iE .Eq (bQ [] (aA 1) (bl (ai 0)) (some (rY [(o9 (c6 .isspace (ai 1) [])),(bx .In (ai 1) (ah (.str [40,41,91,93,123,125,44,58])))])) (ai 1)) (cZ []))))
def CV:List V->bw->Res V:=cy [0] CU
theorem K9 (x:dI)(hn:0<=n):cf n (kP 0).scope (kP 0).body CU:=by
 conv=>arg 2;whnf
 conv=>arg 3;whnf
 exact(ar (aQ (r8 (gS (eV x 0) (cY ()) rfl) (gS (cq (bf (eV x 0)) (d0 ()) (cj (br rfl) rfl ()) (bu (by decide)) (eQ (mf (bW (eV x 1) aj ⋯ ⋯ rfl ⋯) (λ_ _=>rfl)) (eQ (aW (eV x 1) (cY ()) rfl) fJ)) (eV x 1) (λ_ _=>rfl)) (dm aj) rfl))))
theorem La (x:dI)(hn:1<=n):aZ n 79 CV:=bX hn (x.fn 0) () λ_ h=>K9 x h
def mq (r:List V->bw->Res V):MS:=
 (aL (aB (aA 2) (dj [(bj [(bj []),(ai 3)])]))
 (aL (df (bp [4,7]) (kO (dU 1 (ai 3))) (bM (c6 .extend (ai 2) [(bQ [4] (bp [5,6]) (bl (bZ r [(ai 7)])) none (bj [(aU .Add (bj [(ai 4)]) (ai 5)),(ai 6)]))])))
 (cp (ai 2))))
noncomputable def eS:Nat->List V->bw->Res V
 |0=>λ_ _=>.stuck
 |d+1=>tE [3] (mq (eS d))
theorem Lb (x:dI)(hn:0<=n)(hr:aZ n 84 r):cf n (kP 1).scope (kP 1).body (mq r):=by
 conv=>arg 2;whnf
 conv=>arg 3;whnf
 exact(ak (aN (cz (ag ⋯ (aM (ag ⋯ (aM aj) (ag ⋯ (eV x 3) aj))) aj)) (br rfl) rfl () ⋯)
  (ak (mQ (dK (eD ()) (λ_=>(.cons (aG rfl) (.cons (aG rfl) .nil))) ⋯) (ag ⋯ (dk (eV x 3) (by decide)) aj) ⋯ (ar (bE (bW (eV x 2) (ag ⋯ (cq (bf (cx (ag ⋯ (eV x 7) aj) ⋯ hr (x.fn 1).keep () (x.ns 0) ())) (d0 ()) (gw (pI ()) (λ_=>(.cons (aG rfl) (.cons (aG rfl) .nil))) ⋯) (eI (by decide)) trivial (aM (ag ⋯ (aI (aM (ag ⋯ (eV x 4) aj)) (eV x 5)) (ag ⋯ (eV x 6) aj))) (λ_ _=>rfl)) aj) ⋯ ⋯ rfl ⋯) ⋯)) () (x.ns 1))
  (ar (aQ (eV x 2)))))
theorem Lc (x:dI) :∀(d:Nat) {n:Nat},d+0+1<=n->aZ n 84 (eS d):=by
 intro y
 induction y with
 |zero=>
  intro _ _;exact λ_ _ _ _ _ _ _ _ _ _ _ _ p=>p.elim
 |succ d ih=>
  intro n hn;obtain⟨m,rfl⟩ :∃m,n=m+1:=⟨n - 1,FG hn⟩;exact(kB (x.fn 1) [3] () (Lb x (Nat.zero_le m) (ih (Nat.le_of_lt_succ hn)))).cut
def oK:MS:=
 (aL (aB (aA 8) (bQ [] (bp [5,6]) (bl (bZ (eS 8) [(ai 3)])) none (ai 6)))
 (cp (bj [(bV .len [(ai 8)]),(bV .tuple [(bQ [] (aA 6) (bl (ai 8)) none (cv (ai 6) (ah (.int 0))))]),(bV .tuple [(bQ [] (aA 6) (bl (ai 8)) none (aU .Sub (bV .len [(ai 6)]) (ah (.int 1))))])])))
def gJ:List V->bw->Res V:=cy [3] oK
theorem HF (x:dI)(hn:9<=n):cf n (kP 2).scope (kP 2).body oK:=by
 conv=>arg 2;whnf
 conv=>arg 3;whnf
 exact(ak (gx (bf (cx (ag ⋯ (eV x 3) aj) ⋯ (Lc x 8 (dN hn)) (x.fn 1).keep () (x.ns 0) ())) (d0 ()) (gw (pI ()) (λ_=>(.cons (aG rfl) (.cons (aG rfl) .nil))) ⋯) (eI (by decide)) trivial (eV x 6) (λ_ _=>rfl) (br rfl) rfl () (λenv h=>by cases env;cases h;kernel_rfl))
  (ar (aQ (aM (ag ⋯ (ba (ag ⋯ (eV x 8) aj) ⋯ () (x.ns 2)) (ag ⋯ (ba (ag ⋯ (cq (bf (eV x 8)) (d0 ()) (cj (br rfl) rfl ()) (bu (by decide)) trivial (bb (eV x 6) aq (λ_ _=>⟨_,rfl⟩)) (λ_ _=>rfl)) aj) ⋯ () (x.ns 3)) (ag ⋯ (ba (ag ⋯ (cq (bf (eV x 8)) (d0 ()) (cj (br rfl) rfl ()) (bu (by decide)) trivial (aI (ba (ag ⋯ (eV x 6) aj) ⋯ () (x.ns 2)) aq) (λ_ _=>rfl)) aj) ⋯ () (x.ns 3)) aj)))))))
theorem zv (x:dI)(hn:10<=n):aZ n 89 gJ:=bX hn (x.fn 2) () λ_ h=>HF x h
def qh:MS:=
 (aL (cU 0 9 (ai 10) (dj []))
 (aL (cU 0 11 (ai 10) (lG .tup))
 (aL (cU 0 12 (ai 10) (dj []))
 (cU 0 13 (ai 10) (dj [])))))
def qi:List V->bw->Res V:=cy [10] qh
theorem zw (x:dI)(hn:0<=n):cf n (kP 3).scope (kP 3).body qh:=by
 conv=>arg 2;whnf
 conv=>arg 3;whnf
 exact(ak (bG (eV x 10) (cz aj) (x.cs 0) (br rfl) rfl (x.qU 0) ⋯ ⋯)
  (ak (bG (eV x 10) (gV .tup) (x.cs 0) (br rfl) rfl (x.qU 1) ⋯ ⋯)
  (ak (bG (eV x 10) (cz aj) (x.cs 0) (br rfl) rfl (x.qU 2) ⋯ ⋯)
  (ar (bG (eV x 10) (cz aj) (x.cs 0) (br rfl) rfl (x.qU 3) ⋯ ⋯)))))
theorem zx (x:dI)(hn:1<=n):aZ n 103 qi:=bX hn (x.fn 3) () λ_ h=>zw x h
def qj:MS:=
 (cp (bV .len [(bc 0 9 (ai 10))]))
def qk:List V->bw->Res V:=cy [10] qj
theorem zy (x:dI)(hn:0<=n):cf n (kP 4).scope (kP 4).body qj:=by
 conv=>arg 2;whnf
 conv=>arg 3;whnf
 exact(ar (aQ (ba (ag ⋯ (aF (eV x 10) (x.cg 0) (br rfl) rfl (x.find 0)) aj) ⋯ () (x.ns 2))))
theorem zz (x:dI)(hn:1<=n):aZ n 110 qk:=bX hn (x.fn 4) () λ_ h=>zy x h
def vV:MS:=
 (fw (rY [(rX (o9 (bZ CV [(ai 14)]))),(bx .Eq (cv (ai 14) (ah (.int 0))) (ah (.str [63])))]) w9 bF)
def vW:List V->bw->Res V:=cy [10,14] vV
theorem EB (x:dI)(hn:1<=n):cf n (kP 5).scope (kP 5).body vV:=by
 conv=>arg 2;whnf
 conv=>arg 3;whnf
 exact(ar (bz (eQ (md (mf (cx (ag ⋯ (eV x 14) aj) ⋯ (La x (Nat.one_le_of_lt hn)) (x.fn 0).keep () (x.ns 4) ()) (λ_ _=>rfl))) (eQ (aW (bb (eV x 14) aq (λ_ _=>⟨_,rfl⟩)) (cY ()) rfl) fJ)) (ar lH) bg))
theorem EC (x:dI)(hn:2<=n):aZ n 122 vW:=bX hn (x.fn 5) () λ_ h=>EB x h
def HG:MS:=
 (aL (aB (aA 15) (aU .Add (bj [(ai 14)]) (bV .tuple [(ai 16)])))
 (aL (fw (bx .In (ai 15) (bc 0 11 (ai 10))) (cp (cv (bc 0 11 (ai 10)) (ai 15))) bF)
 (aL (bM (ax 0 17 vW (ai 10) [(ai 14)]))
 (aL (df (aA 7) (bl (dU 1 (ai 15))) (fw (rX (jE .LtE .Lt (ah (.int 0)) (ai 7) (bV .len [(bc 0 9 (ai 10))]))) w9 bF))
 (aL (eR (bc 0 11 (ai 10)) (ai 15) (bV .len [(bc 0 9 (ai 10))]))
 (aL (bM (c6 .append (bc 0 9 (ai 10)) [(ai 15)]))
 (aL (bM (c6 .append (bc 0 12 (ai 10)) [(aU .Add (ah (.int 1)) (bV .sum [(bQ [10] (aA 7) (bl (dU 1 (ai 15))) none (cv (bc 0 12 (ai 10)) (ai 7)))]))]))
 (aL (bM (c6 .append (bc 0 13 (ai 10)) [(aU .Add (ah (.int 1)) (bV .max [(qg (bQ [10] (aA 7) (bl (dU 1 (ai 15))) none (cv (bc 0 13 (ai 10)) (ai 7))) (cZ [(ah (.int 0))]))]))]))
 (cp (aU .Sub (bV .len [(bc 0 9 (ai 10))]) (ah (.int 1))))))))))))
def HH:List V->bw->Res V:=cy [10,14,16] HG
theorem OU (x:dI)(hn:2<=n):cf n (kP 6).scope (kP 6).body HG:=by
 conv=>arg 2;whnf
 conv=>arg 3;whnf
 exact(ak (aN (aI (aM (ag ⋯ (eV x 14) aj)) (ba (ag ⋯ (eV x 16) aj) ⋯ () (x.ns 3))) (br rfl) rfl () ⋯)
  (ak (bz (aW (eV x 15) (aF (eV x 10) (x.cg 0) (br rfl) rfl (x.find 1)) rfl) (ar (aQ (bb (aF (eV x 10) (x.cg 0) (br rfl) rfl (x.find 1)) (eV x 15) (λ_ _=>⟨_,rfl⟩)))) bg)
  (ak (bE (au (eV x 10) (ag ⋯ (eV x 14) aj) ⋯ (EC x (dN hn)) (x.cg 0) (br rfl) rfl (mo (x.find 2) (x.fn 5)) nofun) ⋯)
  (ak (cN (dA (br rfl) rfl ()) (bf (dk (eV x 15) (by decide))) (ar (bz (md (k9 aq (eV x 7) (ba (ag ⋯ (aF (eV x 10) (x.cg 0) (br rfl) rfl (x.find 0)) aj) ⋯ () (x.ns 2)) rfl)) (ar lH) bg)) (λ_ _=>rfl))
  (ak (fc (aF (eV x 10) (x.cg 0) (br rfl) rfl (x.find 1)) (eV x 15) (ba (ag ⋯ (aF (eV x 10) (x.cg 0) (br rfl) rfl (x.find 0)) aj) ⋯ () (x.ns 2)) ⋯)
  (ak (bE (bW (aF (eV x 10) (x.cg 0) (br rfl) rfl (x.find 0)) (ag ⋯ (eV x 15) aj) ⋯ ⋯ rfl ⋯) ⋯)
  (ak (bE (bW (aF (eV x 10) (x.cg 0) (br rfl) rfl (x.find 3)) (ag ⋯ (aI aq (ba (ag ⋯ (cq (bf (dk (eV x 15) (by decide))) (d0 ()) (cj (br rfl) rfl ()) (bu (by decide)) trivial (bb (aF (eV x 10) (x.cg 0) (br rfl) rfl (x.find 3)) (eV x 7) (λ_ _=>⟨_,rfl⟩)) (λ_ _=>rfl)) aj) ⋯ () (x.ns 5))) aj) ⋯ ⋯ rfl ⋯) ⋯)
  (ak (bE (bW (aF (eV x 10) (x.cg 0) (br rfl) rfl (x.find 4)) (ag ⋯ (aI aq (ba (ag ⋯ (nA (cq (bf (dk (eV x 15) (by decide))) (d0 ()) (cj (br rfl) rfl ()) (bu (by decide)) trivial (bb (aF (eV x 10) (x.cg 0) (br rfl) rfl (x.find 4)) (eV x 7) (λ_ _=>⟨_,rfl⟩)) (λ_ _=>rfl)) (dm (ag ⋯ aq aj))) aj) ⋯ () (x.ns 6))) aj) ⋯ ⋯ rfl ⋯) ⋯)
  (ar (aQ (aI (ba (ag ⋯ (aF (eV x 10) (x.cg 0) (br rfl) rfl (x.find 0)) aj) ⋯ () (x.ns 2)) aq)))))))))))
theorem OV (x:dI)(hn:3<=n):aZ n 115 HH:=bX hn (x.fn 6) () λ_ h=>OU x h
def vX:MS:=
 (cp (cv (cv (bc 0 9 (ai 10)) (ai 18)) (ah (.int 0))))
def vY:List V->bw->Res V:=cy [10,18] vX
theorem ED (x:dI)(hn:0<=n):cf n (kP 7).scope (kP 7).body vX:=by
 conv=>arg 2;whnf
 conv=>arg 3;whnf
 exact(ar (aQ (bb (bb (aF (eV x 10) (x.cg 0) (br rfl) rfl (x.find 0)) (eV x 18) (λ_ _=>⟨_,rfl⟩)) aq (λ_ _=>⟨_,rfl⟩))))
theorem EE (x:dI)(hn:1<=n):aZ n 148 vY:=bX hn (x.fn 7) () λ_ h=>ED x h
def HI:MS:=
 (cp (dU 1 (cv (bc 0 9 (ai 10)) (ai 18))))
def HJ:List V->bw->Res V:=cy [10,18] HI
theorem OW (x:dI)(hn:0<=n):cf n (kP 8).scope (kP 8).body HI:=by
 conv=>arg 2;whnf
 conv=>arg 3;whnf
 exact(ar (aQ (dk (bb (aF (eV x 10) (x.cg 0) (br rfl) rfl (x.find 0)) (eV x 18) (λ_ _=>⟨_,rfl⟩)) (by decide))))
theorem OX (x:dI)(hn:1<=n):aZ n 155 HJ:=bX hn (x.fn 8) () λ_ h=>OW x h
def mR:MS:=
 (aL (cU 2 19 (ai 10) (dj []))
 (aL (cU 2 20 (ai 10) (dj []))
 (cU 2 21 (ai 10) (dj []))))
def mS:List V->bw->Res V:=cy [10] mR
theorem uQ (x:dI)(hn:0<=n):cf n (kP 9).scope (kP 9).body mR:=by
 conv=>arg 2;whnf
 conv=>arg 3;whnf
 exact(ak (bG (eV x 10) (cz aj) (x.cs 2) (br rfl) rfl (x.qU 4) ⋯ ⋯)
  (ak (bG (eV x 10) (cz aj) (x.cs 2) (br rfl) rfl (x.qU 5) ⋯ ⋯)
  (ar (bG (eV x 10) (cz aj) (x.cs 2) (br rfl) rfl (x.qU 6) ⋯ ⋯))))
theorem uR (x:dI)(hn:1<=n):aZ n 291 mS:=bX hn (x.fn 9) () λ_ h=>uQ x h
def HK:MS:=
 (aL (bM (c6 .append (bc 2 19 (ai 10)) [(bV .len [(bc 2 19 (ai 10))])]))
 (aL (bM (c6 .append (bc 2 20 (ai 10)) [(dj [(bV .len [(bc 2 20 (ai 10))])])]))
 (cp (aU .Sub (bV .len [(bc 2 19 (ai 10))]) (ah (.int 1))))))
def HL:List V->bw->Res V:=cy [10] HK
theorem OY (x:dI)(hn:0<=n):cf n (kP 10).scope (kP 10).body HK:=by
 conv=>arg 2;whnf
 conv=>arg 3;whnf
 exact(ak (bE (bW (aF (eV x 10) (x.cg 2) (br rfl) rfl (x.find 5)) (ag ⋯ (ba (ag ⋯ (aF (eV x 10) (x.cg 2) (br rfl) rfl (x.find 5)) aj) ⋯ () (x.ns 2)) aj) ⋯ ⋯ rfl ⋯) ⋯)
  (ak (bE (bW (aF (eV x 10) (x.cg 2) (br rfl) rfl (x.find 6)) (ag ⋯ (cz (ag ⋯ (ba (ag ⋯ (aF (eV x 10) (x.cg 2) (br rfl) rfl (x.find 6)) aj) ⋯ () (x.ns 2)) aj)) aj) ⋯ ⋯ rfl ⋯) ⋯)
  (ar (aQ (aI (ba (ag ⋯ (aF (eV x 10) (x.cg 2) (br rfl) rfl (x.find 5)) aj) ⋯ () (x.ns 2)) aq)))))
theorem OZ (x:dI)(hn:1<=n):aZ n 298 HL:=bX hn (x.fn 10) () λ_ h=>OY x h
def mT:MS:=
 (cp (bV .len [(bc 2 19 (ai 10))]))
def mU:List V->bw->Res V:=cy [10] mT
theorem uS (x:dI)(hn:0<=n):cf n (kP 11).scope (kP 11).body mT:=by
 conv=>arg 2;whnf
 conv=>arg 3;whnf
 exact(ar (aQ (ba (ag ⋯ (aF (eV x 10) (x.cg 2) (br rfl) rfl (x.find 5)) aj) ⋯ () (x.ns 2))))
theorem uT (x:dI)(hn:1<=n):aZ n 305 mU:=bX hn (x.fn 11) () λ_ h=>uS x h
def mV:MS:=
 (aL (A6 60 (bx .NotEq (cv (bc 2 19 (ai 10)) (ai 22)) (ai 22)) (aB (aA 22) (cv (bc 2 19 (ai 10)) (ai 22))))
 (cp (ai 22)))
def gK:List V->bw->Res V:=cy [10,22] mV
theorem uU (x:dI)(hn:0<=n):cf n (kP 12).scope (kP 12).body mV:=by
 conv=>arg 2;whnf
 conv=>arg 3;whnf
 exact(ak (oo 60 (aW (bb (aF (eV x 10) (x.cg 2) (br rfl) rfl (x.find 5)) (eV x 22) (λ_ _=>⟨_,rfl⟩)) (eV x 22) rfl) (ar (aN (bb (aF (eV x 10) (x.cg 2) (br rfl) rfl (x.find 5)) (eV x 22) (λ_ _=>⟨_,rfl⟩)) (br rfl) rfl () ⋯)))
  (ar (aQ (eV x 22))))
theorem iB (x:dI)(hn:1<=n):aZ n 312 gK:=bX hn (x.fn 12) () λ_ h=>uU x h
def lO:MS:=
 (aL (cP (bp [23,24]) (bV .sorted [(cZ [(ax 2 25 gK (ai 10) [(ai 22)]),(ax 2 25 gK (ai 10) [(ai 26)])])]))
 (aL (fw (bx .Eq (ai 23) (ai 24)) (cp (ah .none)) bF)
 (aL (eR (bc 2 19 (ai 10)) (ai 24) (ai 23))
 (aL (bM (c6 .extend (cv (bc 2 20 (ai 10)) (ai 23)) [(cv (bc 2 20 (ai 10)) (ai 24))]))
 (aL (bM (c6 .append (bc 2 21 (ai 10)) [(bj [(ai 23),(ai 24)])]))
 (cp (bj [(ai 23),(ai 24)])))))))
def lP:List V->bw->Res V:=cy [10,22,26] lO
theorem tG (x:dI)(hn:1<=n):cf n (kP 13).scope (kP 13).body lO:=by
 conv=>arg 2;whnf
 conv=>arg 3;whnf
 exact(ak (gv (dK (eD ()) (λ_=>(.cons (aG rfl) (.cons (aG rfl) .nil))) ⋯) (ba (ag ⋯ (dm (ag ⋯ (au (eV x 10) (ag ⋯ (eV x 22) aj) ⋯ (iB x (Nat.one_le_of_lt hn)) (x.cg 2) (br rfl) rfl (mo (x.find 7) (x.fn 12)) nofun) (ag ⋯ (au (eV x 10) (ag ⋯ (eV x 26) aj) ⋯ (iB x (Nat.one_le_of_lt hn)) (x.cg 2) (br rfl) rfl (mo (x.find 7) (x.fn 12)) nofun) aj))) aj) ⋯ () (x.ns 7)) ⋯ (λ_ _=>rfl))
  (ak (bz (aW (eV x 23) (eV x 24) rfl) (ar (aQ eo)) bg)
  (ak (fc (aF (eV x 10) (x.cg 2) (br rfl) rfl (x.find 5)) (eV x 24) (eV x 23) ⋯)
  (ak (bE (bW (bb (aF (eV x 10) (x.cg 2) (br rfl) rfl (x.find 6)) (eV x 23) (λ_ _=>⟨_,rfl⟩)) (ag ⋯ (bb (aF (eV x 10) (x.cg 2) (br rfl) rfl (x.find 6)) (eV x 24) (λ_ _=>⟨_,rfl⟩)) aj) ⋯ ⋯ rfl ⋯) ⋯)
  (ak (bE (bW (aF (eV x 10) (x.cg 2) (br rfl) rfl (x.find 8)) (ag ⋯ (aM (ag ⋯ (eV x 23) (ag ⋯ (eV x 24) aj))) aj) ⋯ ⋯ rfl ⋯) ⋯)
  (ar (aQ (aM (ag ⋯ (eV x 23) (ag ⋯ (eV x 24) aj))))))))))
theorem tH (x:dI)(hn:2<=n):aZ n 319 lP:=bX hn (x.fn 13) () λ_ h=>tG x h
def j4:MS:=
 (cp (bV .sorted [(cv (bc 2 20 (ai 10)) (ax 2 25 gK (ai 10) [(ai 22)]))]))
def j5:List V->bw->Res V:=cy [10,22] j4
theorem pJ (x:dI)(hn:1<=n):cf n (kP 14).scope (kP 14).body j4:=by
 conv=>arg 2;whnf
 conv=>arg 3;whnf
 exact(ar (aQ (ba (ag ⋯ (bb (aF (eV x 10) (x.cg 2) (br rfl) rfl (x.find 6)) (au (eV x 10) (ag ⋯ (eV x 22) aj) ⋯ (iB x (Nat.one_le_of_lt hn)) (x.cg 2) (br rfl) rfl (mo (x.find 7) (x.fn 12)) nofun) (λ_ _=>⟨_,rfl⟩)) aj) ⋯ () (x.ns 7))))
theorem pK (x:dI)(hn:2<=n):aZ n 326 j5:=bX hn (x.fn 14) () λ_ h=>pJ x h
def ql:MS:=
 (aL (cU 3 27 (ai 10) (bZ (sO 0 qi) []))
 (aL (cU 3 28 (ai 10) (bZ (sO 2 mS) []))
 (aL (cU 3 29 (ai 10) (dj []))
 (aL (cU 3 30 (ai 10) (dj []))
 (aL (cU 3 31 (ai 10) (lG .tup))
 (aL (cU 3 19 (ai 10) (lG .int))
 (aL (cU 3 32 (ai 10) (dj []))
 (cU 3 33 (ai 10) (ah (.int 0))))))))))
def jx:List V->bw->Res V:=cy [10] ql
theorem zA (x:dI)(hn:2<=n):cf n (kP 15).scope (kP 15).body ql:=by
 conv=>arg 2;whnf
 conv=>arg 3;whnf
 exact(ak (bG (eV x 10) (cx aj ⋯ (x.cc 0 (Nat.one_add_le_iff.mpr hn) (zx x (n:=1) (Nat.le_of_ble_eq_true rfl)) (x.fn 3).typ) (x.ck 0) () (x.ns 8) ()) (x.cs 3) (br rfl) rfl (x.qU 7) ⋯ ⋯)
  (ak (bG (eV x 10) (cx aj ⋯ (x.cc 2 (Nat.one_add_le_iff.mpr hn) (uR x (n:=1) (Nat.le_of_ble_eq_true rfl)) (x.fn 9).typ) (x.ck 2) () (x.ns 9) ()) (x.cs 3) (br rfl) rfl (x.qU 8) ⋯ ⋯)
  (ak (bG (eV x 10) (cz aj) (x.cs 3) (br rfl) rfl (x.qU 9) ⋯ ⋯)
  (ak (bG (eV x 10) (cz aj) (x.cs 3) (br rfl) rfl (x.qU 10) ⋯ ⋯)
  (ak (bG (eV x 10) (gV .tup) (x.cs 3) (br rfl) rfl (x.qU 11) ⋯ ⋯)
  (ak (bG (eV x 10) (gV .int) (x.cs 3) (br rfl) rfl (x.qU 12) ⋯ ⋯)
  (ak (bG (eV x 10) (cz aj) (x.cs 3) (br rfl) rfl (x.qU 13) ⋯ ⋯)
  (ar (bG (eV x 10) aq (x.cs 3) (br rfl) rfl (x.qU 14) ⋯ ⋯)))))))))
theorem zB (x:dI)(hn:3<=n):aZ n 373 jx:=bX hn (x.fn 15) () λ_ h=>zA x h
def qm:MS:=
 (cp (ax 0 34 qk (bc 3 27 (ai 10)) []))
def lQ:List V->bw->Res V:=cy [10] qm
theorem zC (x:dI)(hn:1<=n):cf n (kP 16).scope (kP 16).body qm:=by
 conv=>arg 2;whnf
 conv=>arg 3;whnf
 exact(ar (aQ (au (aF (eV x 10) (x.cg 3) (br rfl) rfl (x.find 9)) aj ⋯ (zz x (Nat.one_le_of_lt hn)) (x.cg 0) (br rfl) rfl (mo (x.find 10) (x.fn 4)) nofun)))
theorem zD (x:dI)(hn:2<=n):aZ n 380 lQ:=bX hn (x.fn 16) () λ_ h=>zC x h
def qo:MS:=
 (cp (ax 2 25 gK (bc 3 28 (ai 10)) [(ai 18)]))
def bR:List V->bw->Res V:=cy [10,18] qo
theorem zE (x:dI)(hn:1<=n):cf n (kP 17).scope (kP 17).body qo:=by
 conv=>arg 2;whnf
 conv=>arg 3;whnf
 exact(ar (aQ (au (aF (eV x 10) (x.cg 3) (br rfl) rfl (x.find 11)) (ag ⋯ (eV x 18) aj) ⋯ (iB x (Nat.one_le_of_lt hn)) (x.cg 2) (br rfl) rfl (mo (x.find 7) (x.fn 12)) nofun)))
theorem eU (x:dI)(hn:2<=n):aZ n 409 bR:=bX hn (x.fn 17) () λ_ h=>zE x h
def qp:MS:=
 (cp (aU .Add (bj [(ax 0 14 vY (bc 3 27 (ai 10)) [(ai 18)])]) (bV .tuple [(bQ [10] (aA 7) (bl (ax 0 16 HJ (bc 3 27 (ai 10)) [(ai 18)])) none (ax 3 25 bR (ai 10) [(ai 7)]))])))
def lR:List V->bw->Res V:=cy [10,18] qp
theorem zF (x:dI)(hn:2<=n):cf n (kP 18).scope (kP 18).body qp:=by
 conv=>arg 2;whnf
 conv=>arg 3;whnf
 exact(ar (aQ (aI (aM (ag ⋯ (au (aF (eV x 10) (x.cg 3) (br rfl) rfl (x.find 9)) (ag ⋯ (eV x 18) aj) ⋯ (EE x (Nat.one_le_of_lt hn)) (x.cg 0) (br rfl) rfl (mo (x.find 12) (x.fn 7)) nofun) aj)) (ba (ag ⋯ (cq (bf (au (aF (eV x 10) (x.cg 3) (br rfl) rfl (x.find 9)) (ag ⋯ (eV x 18) aj) ⋯ (OX x (Nat.one_le_of_lt hn)) (x.cg 0) (br rfl) rfl (mo (x.find 13) (x.fn 8)) nofun)) (d0 ()) (cj (br rfl) rfl ()) (bu (by decide)) trivial (au (eV x 10) (ag ⋯ (eV x 7) aj) ⋯ (eU x (dN hn)) (x.cg 3) (br rfl) rfl (mo (x.find 14) (x.fn 17)) nofun) (λ_ _=>rfl)) aj) ⋯ () (x.ns 3)))))
theorem qr (x:dI)(hn:3<=n):aZ n 385 lR:=bX hn (x.fn 18) () λ_ h=>zF x h
def HM:MS:=
 (aL (bM (c6 .append (bc 3 29 (ai 10)) [(bj [(ai 22),(ai 26),(ai 35)])]))
 (aL (aB (aA 21) (ax 2 36 lP (bc 3 28 (ai 10)) [(ai 22),(ai 26)]))
 (aL (fw (bx .Is (ai 21) (ah .none)) (cp (ah (.bool false))) bF)
 (aL (cP (bp [23,24]) (ai 21))
 (aL (bM (c6 .append (bc 3 30 (ai 10)) [(aU .Sub (bV .len [(bc 3 29 (ai 10))]) (ah (.int 1)))]))
 (aL (bM (c6 .extend (bc 3 32 (ai 10)) [(cv (bc 3 19 (ai 10)) (ai 24))]))
 (aL (eR (bc 3 19 (ai 10)) (ai 23) (aU .Add (cv (bc 3 19 (ai 10)) (ai 23)) (c6 .sg (bc 3 19 (ai 10)) [(ai 24)])))
 (cp (ah (.bool true))))))))))
def BI:List V->bw->Res V:=cy [10,22,26,35] HM
theorem O0 (x:dI)(hn:2<=n):cf n (kP 19).scope (kP 19).body HM:=by
 conv=>arg 2;whnf
 conv=>arg 3;whnf
 exact(ak (bE (bW (aF (eV x 10) (x.cg 3) (br rfl) rfl (x.find 15)) (ag ⋯ (aM (ag ⋯ (eV x 22) (ag ⋯ (eV x 26) (ag ⋯ (eV x 35) aj)))) aj) ⋯ ⋯ rfl ⋯) ⋯)
  (ak (aN (au (aF (eV x 10) (x.cg 3) (br rfl) rfl (x.find 11)) (ag ⋯ (eV x 22) (ag ⋯ (eV x 26) aj)) ⋯ (tH x (dN hn)) (x.cg 2) (br rfl) rfl (mo (x.find 16) (x.fn 13)) nofun) (br rfl) rfl () ⋯)
  (ak (bz (aW (eV x 21) eo rfl) (ar (aQ gf)) bg)
  (ak (gv (dK (eD ()) (λ_=>(.cons (aG rfl) (.cons (aG rfl) .nil))) ⋯) (eV x 21) ⋯ (λ_ _=>rfl))
  (ak (bE (bW (aF (eV x 10) (x.cg 3) (br rfl) rfl (x.find 17)) (ag ⋯ (aI (ba (ag ⋯ (aF (eV x 10) (x.cg 3) (br rfl) rfl (x.find 15)) aj) ⋯ () (x.ns 2)) aq) aj) ⋯ ⋯ rfl ⋯) ⋯)
  (ak (bE (bW (aF (eV x 10) (x.cg 3) (br rfl) rfl (x.find 18)) (ag ⋯ (bb (aF (eV x 10) (x.cg 3) (br rfl) rfl (x.find 19)) (eV x 24) (λ_ _=>⟨_,rfl⟩)) aj) ⋯ ⋯ rfl ⋯) ⋯)
  (ak (fc (aF (eV x 10) (x.cg 3) (br rfl) rfl (x.find 19)) (eV x 23) (aI (bb (aF (eV x 10) (x.cg 3) (br rfl) rfl (x.find 19)) (eV x 23) (λ_ _=>⟨_,rfl⟩)) (bW (aF (eV x 10) (x.cg 3) (br rfl) rfl (x.find 19)) (ag ⋯ (eV x 24) aj) ⋯ ⋯ rfl ⋯)) ⋯)
  (ar (aQ gf)))))))))
theorem HN (x:dI)(hn:3<=n):aZ n 430 BI:=bX hn (x.fn 19) () λ_ h=>O0 x h
def vZ:MS:=
 (aL (aB (aA 37) (c6 .i8 (bc 3 31 (ai 10)) [(ax 3 15 lR (ai 10) [(ai 18)]),(ai 18)]))
 (fw (bx .NotEq (ax 3 25 bR (ai 10) [(ai 37)]) (ax 3 25 bR (ai 10) [(ai 18)])) (bM (ax 3 38 BI (ai 10) [(ai 37),(ai 18),(bj [(ah (.str [108,105,107,101]))])])) bF))
def pL:List V->bw->Res V:=cy [10,18] vZ
theorem EF (x:dI)(hn:3<=n):cf n (kP 20).scope (kP 20).body vZ:=by
 conv=>arg 2;whnf
 conv=>arg 3;whnf
 exact(ak (aN (bW (aF (eV x 10) (x.cg 3) (br rfl) rfl (x.find 20)) (ag ⋯ (au (eV x 10) (ag ⋯ (eV x 18) aj) ⋯ (qr x (dN hn)) (x.cg 3) (br rfl) rfl (mo (x.find 21) (x.fn 18)) nofun) (ag ⋯ (eV x 18) aj)) ⋯ ⋯ rfl ⋯) (br rfl) rfl () ⋯)
  (ar (bz (aW (au (eV x 10) (ag ⋯ (eV x 37) aj) ⋯ (eU x (cX hn)) (x.cg 3) (br rfl) rfl (mo (x.find 14) (x.fn 17)) nofun) (au (eV x 10) (ag ⋯ (eV x 18) aj) ⋯ (eU x (cX hn)) (x.cg 3) (br rfl) rfl (mo (x.find 14) (x.fn 17)) nofun) rfl) (ar (bE (au (eV x 10) (ag ⋯ (eV x 37) (ag ⋯ (eV x 18) (ag ⋯ (aM (ag ⋯ (cY ()) aj)) aj))) ⋯ (HN x (dN hn)) (x.cg 3) (br rfl) rfl (mo (x.find 22) (x.fn 19)) nofun) ⋯)) bg)))
theorem v7 (x:dI)(hn:4<=n):aZ n 402 pL:=bX hn (x.fn 20) () λ_ h=>EF x h
def M7:MS:=
 (aL (aB (aA 18) (ax 0 39 HH (bc 3 27 (ai 10)) [(ai 14),(ai 11)]))
 (aL (fw (bx .Lt (ai 18) (ax 2 34 mU (bc 3 28 (ai 10)) [])) (cp (ai 18)) bF)
 (aL (bM (ax 2 40 HL (bc 3 28 (ai 10)) []))
 (aL (eR (bc 3 19 (ai 10)) (ai 18) (dj []))
 (aL (df (aA 41) (bl (te (bQ [10] (aA 7) (bl (ai 11)) none (ax 3 25 bR (ai 10) [(ai 7)])))) (bM (c6 .append (cv (bc 3 19 (ai 10)) (ai 41)) [(ai 18)])))
 (aL (bM (ax 3 42 pL (ai 10) [(ai 18)]))
 (cp (ai 18))))))))
def CW:List V->bw->Res V:=cy [10,14,11] M7
theorem Se (x:dI)(hn:4<=n):cf n (kP 21).scope (kP 21).body M7:=by
 conv=>arg 2;whnf
 conv=>arg 3;whnf
 exact(ak (aN (au (aF (eV x 10) (x.cg 3) (br rfl) rfl (x.find 9)) (ag ⋯ (eV x 14) (ag ⋯ (eV x 11) aj)) ⋯ (OV x (cX hn)) (x.cg 0) (br rfl) rfl (mo (x.find 23) (x.fn 6)) nofun) (br rfl) rfl () ⋯)
  (ak (bz (aW (eV x 18) (au (aF (eV x 10) (x.cg 3) (br rfl) rfl (x.find 11)) aj ⋯ (uT x (Nat.one_le_of_lt hn)) (x.cg 2) (br rfl) rfl (mo (x.find 24) (x.fn 11)) nofun) rfl) (ar (aQ (eV x 18))) bg)
  (ak (bE (au (aF (eV x 10) (x.cg 3) (br rfl) rfl (x.find 11)) aj ⋯ (OZ x (Nat.one_le_of_lt hn)) (x.cg 2) (br rfl) rfl (mo (x.find 25) (x.fn 10)) nofun) ⋯)
  (ak (fc (aF (eV x 10) (x.cg 3) (br rfl) rfl (x.find 19)) (eV x 18) (cz aj) ⋯)
  (ak (cN (dA (br rfl) rfl ()) (bf (mP (cq (bf (eV x 11)) (d0 ()) (cj (br rfl) rfl ()) (bu (by decide)) trivial (au (eV x 10) (ag ⋯ (eV x 7) aj) ⋯ (eU x (cX hn)) (x.cg 3) (br rfl) rfl (mo (x.find 14) (x.fn 17)) nofun) (λ_ _=>rfl)) ⋯ ⋯ ⋯ ⋯ () (x.ns 7) () (x.ns 10))) (ar (bE (bW (bb (aF (eV x 10) (x.cg 3) (br rfl) rfl (x.find 19)) (eV x 41) (λ_ _=>⟨_,rfl⟩)) (ag ⋯ (eV x 18) aj) ⋯ ⋯ rfl ⋯) ⋯)) (λ_ _=>rfl))
  (ak (bE (au (eV x 10) (ag ⋯ (eV x 18) aj) ⋯ (v7 x (dN hn)) (x.cg 3) (br rfl) rfl (mo (x.find 26) (x.fn 20)) nofun) ⋯)
  (ar (aQ (eV x 18)))))))))
theorem M8 (x:dI)(hn:5<=n):aZ n 390 CW:=bX hn (x.fn 21) () λ_ h=>Se x h
def M9 (r:List V->bw->Res V):MS:=
 (cp (ax 3 45 CW (ai 10) [(cv (ai 43) (ah (.int 0))),(bV .tuple [(bQ [10] (aA 6) (bl (dU 1 (ai 43))) none (ax 3 44 r (ai 10) [(ai 6)]))])]))
noncomputable def lS:Nat->List V->bw->Res V
 |0=>λ_ _=>.stuck
 |d+1=>cy [10,43] (M9 (lS d))
theorem Sf (x:dI)(hn:5<=n)(hr:aZ n 395 r):cf n (kP 22).scope (kP 22).body (M9 r):=by
 conv=>arg 2;whnf
 conv=>arg 3;whnf
 exact(ar (aQ (au (eV x 10) (ag ⋯ (bb (eV x 43) aq (λ_ _=>⟨_,rfl⟩)) (ag ⋯ (ba (ag ⋯ (cq (bf (dk (eV x 43) (by decide))) (d0 ()) (cj (br rfl) rfl ()) (bu (by decide)) trivial (au (eV x 10) (ag ⋯ (eV x 6) aj) ⋯ hr (x.cg 3) (br rfl) rfl (mo (x.find 27) (x.fn 22)) nofun) (λ_ _=>rfl)) aj) ⋯ () (x.ns 3)) aj)) ⋯ (M8 x (dN hn)) (x.cg 3) (br rfl) rfl (mo (x.find 28) (x.fn 21)) nofun)))
theorem HO (x:dI) :∀(d:Nat) {n:Nat},d+5+1<=n->aZ n 395 (lS d):=by
 intro y
 induction y with
 |zero=>
  intro _ _;exact λ_ _ _ _ _ _ _ _ _ _ _ _ p=>p.elim
 |succ d ih=>
  intro n hn;obtain⟨m,rfl⟩ :∃m,n=m+1:=⟨n - 1,FG hn⟩;exact kB (x.fn 22) [10,43] () (Sf x (Tb ‹_›) (ih (Nat.le_of_lt_succ hn)))
def oM:MS:=
 (cp (ax 3 38 BI (ai 10) [(ai 22),(ai 26),(ai 35)]))
def eW:List V->bw->Res V:=cy [10,22,26,35] oM
theorem xH (x:dI)(hn:3<=n):cf n (kP 23).scope (kP 23).body oM:=by
 conv=>arg 2;whnf
 conv=>arg 3;whnf
 exact(ar (aQ (au (eV x 10) (ag ⋯ (eV x 22) (ag ⋯ (eV x 26) (ag ⋯ (eV x 35) aj))) ⋯ (HN x (dN hn)) (x.cg 3) (br rfl) rfl (mo (x.find 22) (x.fn 19)) nofun)))
theorem oN (x:dI)(hn:4<=n):aZ n 423 eW:=bX hn (x.fn 23) () λ_ h=>xH x h
def zG:MS:=
 (A6 60 (bx .Gt (bV .len [(bc 3 32 (ai 10))]) (ah (.int 0))) (bM (ax 3 42 pL (ai 10) [(c6 .pop (bc 3 32 (ai 10)) [])])))
def j6:List V->bw->Res V:=cy [10] zG
theorem HP (x:dI)(hn:4<=n):cf n (kP 24).scope (kP 24).body zG:=by
 conv=>arg 2;whnf
 conv=>arg 3;whnf
 exact(ar (oo 60 (aW (ba (ag ⋯ (aF (eV x 10) (x.cg 3) (br rfl) rfl (x.find 18)) aj) ⋯ () (x.ns 2)) aq rfl) (ar (bE (au (eV x 10) (ag ⋯ (bW (aF (eV x 10) (x.cg 3) (br rfl) rfl (x.find 18)) aj ⋯ ⋯ rfl ⋯) aj) ⋯ (v7 x (dN hn)) (x.cg 3) (br rfl) rfl (mo (x.find 26) (x.fn 20)) nofun) ⋯))))
theorem zH (x:dI)(hn:5<=n):aZ n 437 j6:=bX hn (x.fn 24) () λ_ h=>HP x h
def lT:MS:=
 (cp (ax 2 46 j5 (bc 3 28 (ai 10)) [(ai 41)]))
def lU:List V->bw->Res V:=cy [10,41] lT
theorem tI (x:dI)(hn:2<=n):cf n (kP 25).scope (kP 25).body lT:=by
 conv=>arg 2;whnf
 conv=>arg 3;whnf
 exact(ar (aQ (au (aF (eV x 10) (x.cg 3) (br rfl) rfl (x.find 11)) (ag ⋯ (eV x 41) aj) ⋯ (pK x (dN hn)) (x.cg 2) (br rfl) rfl (mo (x.find 29) (x.fn 14)) nofun)))
theorem tJ (x:dI)(hn:3<=n):aZ n 458 lU:=bX hn (x.fn 25) () λ_ h=>tI x h
def tK:MS:=
 (cp (te (bQ [10] (aA 18) (bl (ax 3 46 lU (ai 10) [(ai 41)])) none (ax 3 15 lR (ai 10) [(ai 18)]))))
def c8:List V->bw->Res V:=cy [10,41] tK
theorem BJ (x:dI)(hn:3<=n):cf n (kP 26).scope (kP 26).body tK:=by
 conv=>arg 2;whnf
 conv=>arg 3;whnf
 exact(ar (aQ (mP (cq (bf (au (eV x 10) (ag ⋯ (eV x 41) aj) ⋯ (tJ x (dN hn)) (x.cg 3) (br rfl) rfl (mo (x.find 30) (x.fn 25)) nofun)) (d0 ()) (cj (br rfl) rfl ()) (bu (by decide)) trivial (au (eV x 10) (ag ⋯ (eV x 18) aj) ⋯ (qr x (dN hn)) (x.cg 3) (br rfl) rfl (mo (x.find 21) (x.fn 18)) nofun) (λ_ _=>rfl)) ⋯ ⋯ ⋯ ⋯ () (x.ns 7) () (x.ns 10))))
theorem nB (x:dI)(hn:4<=n):aZ n 463 c8:=bX hn (x.fn 26) () λ_ h=>BJ x h
def qt:MS:=
 (aL (aB (aA 18) (ip ic pF (bc 3 31 (ai 10)) [(aU .Add (bj [(ai 14)]) (bV .tuple [(bQ [10] (aA 41) (bl (ai 47)) none (ax 3 25 bR (ai 10) [(ai 41)]))])),(gZ (ah (.int 1)))]))
 (cp (rd (bx .Lt (ai 18) (ah (.int 0))) (gZ (ah (.int 1))) (ax 3 25 bR (ai 10) [(ai 18)]))))
def ew:List V->bw->Res V:=cy [10,14,47] qt
theorem zI (x:dI)(hn:2<=n):cf n (kP 27).scope (kP 27).body qt:=by
 conv=>arg 2;whnf
 conv=>arg 3;whnf
 exact(ak (aN (iK oH (aF (eV x 10) (x.cg 3) (br rfl) rfl (x.find 20)) (ag ⋯ (aI (aM (ag ⋯ (eV x 14) aj)) (ba (ag ⋯ (cq (bf (eV x 47)) (d0 ()) (cj (br rfl) rfl ()) (bu (by decide)) trivial (au (eV x 10) (ag ⋯ (eV x 41) aj) ⋯ (eU x (dN hn)) (x.cg 3) (br rfl) rfl (mo (x.find 14) (x.fn 17)) nofun) (λ_ _=>rfl)) aj) ⋯ () (x.ns 3))) (ag ⋯ (eA aq) aj)) ⋯ ⋯ rfl ⋯) (br rfl) rfl () ⋯)
  (ar (aQ (gh (aW (eV x 18) aq rfl) (eA aq) (au (eV x 10) (ag ⋯ (eV x 18) aj) ⋯ (eU x (dN hn)) (x.cg 3) (br rfl) rfl (mo (x.find 14) (x.fn 17)) nofun)))))
theorem zJ (x:dI)(hn:3<=n):aZ n 475 ew:=bX hn (x.fn 27) () λ_ h=>zI x h
def oO:MS:=
 (aL (aB (aA 48) (dj []))
 (aL (df (bp [14,50]) (qR (Ex (aS [(ai 51),(ai 52)]))) (aL (aB (aA 16) (bQ [48] (aA 49) (iY (ai 50)) none (c6 .pop (ai 48) [])))
 (bM (c6 .append (ai 48) [(aU .Add (bj [(ai 14)]) (bV .tuple [(ai 16)]))]))))
 (cp (cv (ai 48) (ah (.int 0))))))
def kC:List V->bw->Res V:=tE [51,52] oO
theorem Ld (x:dI)(hn:0<=n):cf n (kP 28).scope (kP 28).body oO:=by
 conv=>arg 2;whnf
 conv=>arg 3;whnf
 exact(ak (aN (cz aj) (br rfl) rfl () ⋯)
  (ak (cN (dK (eD ()) (λ_=>(.cons (aG rfl) (.cons (aG rfl) .nil))) ⋯) (vO (ag ⋯ (uM (ag ⋯ (eV x 51) (ag ⋯ (eV x 52) aj)) ⋯ ⋯ ⋯ () (x.ns 13) () (x.ns 14)) aj) ⋯ () (x.ns 12)) (ak (gx (kl (ag ⋯ (eV x 50) aj) ⋯ () (x.ns 11)) (d0 ()) (cj (br rfl) rfl ()) (bu (by decide)) trivial (bW (eV x 48) aj ⋯ ⋯ rfl ⋯) (λ_ _=>rfl) (br rfl) rfl () (λenv h=>by cases env;cases h;kernel_rfl))
  (ar (bE (bW (eV x 48) (ag ⋯ (aI (aM (ag ⋯ (eV x 14) aj)) (ba (ag ⋯ (eV x 16) aj) ⋯ () (x.ns 3))) aj) ⋯ ⋯ rfl ⋯) ⋯))) (λ_ _=>rfl))
  (ar (aQ (bb (eV x 48) aq (λ_ _=>⟨_,rfl⟩))))))
theorem Le (x:dI)(hn:1<=n):aZ n 200 kC:=(bX hn (x.fn 28) () λ_ h=>Ld x h).cut
def mW:MS:=
 (aL (cU 1 53 (ai 10) (ai 53))
 (aL (cU 1 54 (ai 10) (ah .none))
 (cU 1 31 (ai 10) (lG .tup))))
def iC:List V->bw->Res V:=cy [10,53] mW
theorem uV (x:dI)(hn:0<=n):cf n (kP 29).scope (kP 29).body mW:=by
 conv=>arg 2;whnf
 conv=>arg 3;whnf
 exact(ak (bG (eV x 10) (eV x 53) (x.cs 1) (br rfl) rfl (x.qU 15) ⋯ ⋯)
  (ak (bG (eV x 10) eo (x.cs 1) (br rfl) rfl (x.qU 16) ⋯ ⋯)
  (ar (bG (eV x 10) (gV .tup) (x.cs 1) (br rfl) rfl (x.qU 17) ⋯ ⋯))))
theorem uW (x:dI)(hn:1<=n):aZ n 214 iC:=bX hn (x.fn 29) () λ_ h=>uV x h
def v8:MS:=
 (aL (fw (bx .Gt (ai 34) (ah (.int 200))) (kq 4) bF)
 (aL (aB (aA 54) (bj [(ax 3 34 lQ (bc 1 53 (ai 10)) []),(bV .len [(bc 3 29 (bc 1 53 (ai 10)))]),(bc 3 33 (bc 1 53 (ai 10)))]))
 (fw (bx .NotEq (ai 54) (bc 1 54 (ai 10))) (aL (cU 1 54 (ai 10) (ai 54))
 (cU 1 31 (ai 10) (lG .tup))) bF)))
def d6:List V->bw->Res V:=cy [10,34] v8
theorem EG (x:dI)(hn:2<=n):cf n (kP 30).scope (kP 30).body v8:=by
 conv=>arg 2;whnf
 conv=>arg 3;whnf
 exact(ak (bz (aW (eV x 34) (m5 () (x.ns 15) ()) rfl) (ar (zu x)) bg)
  (ak (aN (aM (ag ⋯ (au (aF (eV x 10) (x.cg 1) (br rfl) rfl (x.find 31)) aj ⋯ (zD x (dN hn)) (x.cg 3) (br rfl) rfl (mo (x.find 32) (x.fn 16)) nofun) (ag ⋯ (ba (ag ⋯ (aF (aF (eV x 10) (x.cg 1) (br rfl) rfl (x.find 31)) (x.cg 3) (br rfl) rfl (x.find 15)) aj) ⋯ () (x.ns 2)) (ag ⋯ (aF (aF (eV x 10) (x.cg 1) (br rfl) rfl (x.find 31)) (x.cg 3) (br rfl) rfl (x.find 33)) aj)))) (br rfl) rfl () ⋯)
  (ar (bz (aW (eV x 54) (aF (eV x 10) (x.cg 1) (br rfl) rfl (x.find 34)) rfl) (ak (bG (eV x 10) (eV x 54) (x.cs 1) (br rfl) rfl (x.qU 16) ⋯ ⋯)
  (ar (bG (eV x 10) (gV .tup) (x.cs 1) (br rfl) rfl (x.qU 17) ⋯ ⋯))) bg))))
theorem v9 (x:dI)(hn:3<=n):aZ n 221 d6:=bX hn (x.fn 30) () λ_ h=>EG x h
def tL (r:List V->bw->Res V):MS:=
 (aL (fw (rY [(bx .Eq (bV .len [(ai 47)]) (ah (.int 0))),(bx .Lt (ai 34) (bV .len [(ai 47)]))]) (cp (rd (jF [(bx .Eq (ai 34) (ah (.int 0))),(bx .Eq (bV .len [(ai 47)]) (ah (.int 0)))]) (ah (.int 1)) (ah (.int 0)))) bF)
 (aL (aB (aA 55) (bj [(ai 47),(ai 34)]))
 (aL (fw (bx .NotIn (ai 55) (bc 1 31 (ai 10))) (aL (fw (bx .Eq (bV .len [(ai 47)]) (ah (.int 1))) (aB (aA 2) (bV .sum [(bQ [10,34] (aA 15) (bl (ax 3 56 c8 (bc 1 53 (ai 10)) [(cv (ai 47) (ah (.int 0)))])) none (ax 1 57 r (ai 10) [(dU 1 (ai 15)),(aU .Sub (ai 34) (ah (.int 1)))]))])) (aL (aB (aA 2) (ah (.int 0)))
 (df (aA 59) (iZ (ah (.int 1)) (aU .Add (aU .Sub (ai 34) (bV .len [(ai 47)])) (ah (.int 2)))) (aL (aB (aA 58) (ax 1 57 r (ai 10) [(iO 1 (ai 47)),(ai 59)]))
 (fw (bx .Gt (ai 58) (ah (.int 0))) (aB (aA 2) (aU .Add (ai 2) (aU .Mult (ai 58) (ax 1 57 r (ai 10) [(dU 1 (ai 47)),(aU .Sub (ai 34) (ai 59))])))) bF)))))
 (eR (bc 1 31 (ai 10)) (ai 55) (ai 2))) bF)
 (cp (cv (bc 1 31 (ai 10)) (ai 55))))))
noncomputable def d4:Nat->List V->bw->Res V
 |0=>λ_ _=>.stuck
 |d+1=>cy [10,47,34] (tL (d4 d))
theorem O1 (x:dI)(hn:4<=n)(hr:aZ n 240 r):cf n (kP 31).scope (kP 31).body (tL r):=by
 conv=>arg 2;whnf
 conv=>arg 3;whnf
 exact(ak (bz (eQ (aW (ba (ag ⋯ (eV x 47) aj) ⋯ () (x.ns 2)) aq rfl) (eQ (aW (eV x 34) (ba (ag ⋯ (eV x 47) aj) ⋯ () (x.ns 2)) rfl) fJ)) (ar (aQ (gh (gU (aW (eV x 34) aq rfl) (gU (aW (ba (ag ⋯ (eV x 47) aj) ⋯ () (x.ns 2)) aq rfl) ix)) aq aq))) bg)
  (ak (aN (aM (ag ⋯ (eV x 47) (ag ⋯ (eV x 34) aj))) (br rfl) rfl () ⋯)
  (ak (bz (aW (eV x 55) (aF (eV x 10) (x.cg 1) (br rfl) rfl (x.find 35)) rfl) (ak (bz (aW (ba (ag ⋯ (eV x 47) aj) ⋯ () (x.ns 2)) aq rfl) (ar (aN (ba (ag ⋯ (cq (bf (au (aF (eV x 10) (x.cg 1) (br rfl) rfl (x.find 31)) (ag ⋯ (bb (eV x 47) aq (λ_ _=>⟨_,rfl⟩)) aj) ⋯ (nB x (dN hn)) (x.cg 3) (br rfl) rfl (mo (x.find 36) (x.fn 26)) nofun)) (d0 ()) (cj (br rfl) rfl ()) (bu (by decide)) trivial (au (eV x 10) (ag ⋯ (dk (eV x 15) (by decide)) (ag ⋯ (aI (eV x 34) aq) aj)) ⋯ hr (x.cg 1) (br rfl) rfl (mo (x.find 37) (x.fn 31)) nofun) (λ_ _=>rfl)) aj) ⋯ () (x.ns 5)) (br rfl) rfl () ⋯)) (ak (aN aq (br rfl) rfl () ⋯)
  (ar (cN (dA (br rfl) rfl ()) (i0 (ag ⋯ aq (ag ⋯ (aI (aI (eV x 34) (ba (ag ⋯ (eV x 47) aj) ⋯ () (x.ns 2))) aq) aj)) ⋯ () (x.ns 11)) (ak (aN (au (eV x 10) (ag ⋯ (m7 (eV x 47)) (ag ⋯ (eV x 59) aj)) ⋯ hr (x.cg 1) (br rfl) rfl (mo (x.find 37) (x.fn 31)) nofun) (br rfl) rfl () ⋯)
  (ar (bz (aW (eV x 58) aq rfl) (ar (aN (aI (eV x 2) (aI (eV x 58) (au (eV x 10) (ag ⋯ (dk (eV x 47) (by decide)) (ag ⋯ (aI (eV x 34) (eV x 59)) aj)) ⋯ hr (x.cg 1) (br rfl) rfl (mo (x.find 37) (x.fn 31)) nofun))) (br rfl) rfl () ⋯)) bg))) (λ_ _=>rfl)))))
  (ar (fc (aF (eV x 10) (x.cg 1) (br rfl) rfl (x.find 35)) (eV x 55) (eV x 2) ⋯))) bg)
  (ar (aQ (bb (aF (eV x 10) (x.cg 1) (br rfl) rfl (x.find 35)) (eV x 55) (λ_ _=>⟨_,rfl⟩)))))))
theorem pM (x:dI) :∀(d:Nat) {n:Nat},d+4+1<=n->aZ n 240 (d4 d):=by
 intro y
 induction y with
 |zero=>
  intro _ _;exact λ_ _ _ _ _ _ _ _ _ _ _ _ p=>p.elim
 |succ d ih=>
  intro n hn;obtain⟨m,rfl⟩ :∃m,n=m+1:=⟨n - 1,FG hn⟩;exact kB (x.fn 31) [10,47,34] () (O1 x (Tb ‹_›) (ih (Nat.le_of_lt_succ hn)))
def pN:MS:=
 (aL (bM (ax 1 60 d6 (ai 10) [(ai 34)]))
 (cp (ax 1 57 (d4 30) (ai 10) [(bj [(ax 3 25 bR (bc 1 53 (ai 10)) [(ai 41)])]),(ai 34)])))
def dS:List V->bw->Res V:=cy [10,41,34] pN
theorem O3 (x:dI)(hn:35<=n):cf n (kP 32).scope (kP 32).body pN:=by
 conv=>arg 2;whnf
 conv=>arg 3;whnf
 exact(ak (bE (au (eV x 10) (ag ⋯ (eV x 34) aj) ⋯ (v9 x (cX hn)) (x.cg 1) (br rfl) rfl (mo (x.find 38) (x.fn 30)) nofun) ⋯)
  (ar (aQ (au (eV x 10) (ag ⋯ (aM (ag ⋯ (au (aF (eV x 10) (x.cg 1) (br rfl) rfl (x.find 31)) (ag ⋯ (eV x 41) aj) ⋯ (eU x (cX hn)) (x.cg 3) (br rfl) rfl (mo (x.find 14) (x.fn 17)) nofun) aj)) (ag ⋯ (eV x 34) aj)) ⋯ (pM x 30 (dN hn)) (x.cg 1) (br rfl) rfl (mo (x.find 37) (x.fn 31)) nofun))))
theorem pO (x:dI)(hn:36<=n):aZ n 228 dS:=bX hn (x.fn 32) () λ_ h=>O3 x h
def j7 (r:List V->bw->Res V):MS:=
 (aL (fw (bx .Eq (ax 1 57 (d4 30) (ai 10) [(ai 47),(ai 34)]) (ah (.int 0))) (cp (cZ [])) bF)
 (aL (fw (bx .Eq (bV .len [(ai 47)]) (ah (.int 0))) (cp (cZ [(bj [])])) bF)
 (aL (aB (aA 2) (dj []))
 (aL (df (aA 59) (iZ (ah (.int 1)) (aU .Add (aU .Sub (ai 34) (bV .len [(ai 47)])) (ah (.int 2)))) (aL (aB (aA 61) (BG (iE .Eq (bV .len [(ai 47)]) (ah (.int 1))) (iE .Gt (ax 1 57 (d4 30) (ai 10) [(iO 1 (ai 47)),(ai 59)]) (ah (.int 0)))))
 (aL (aB (aA 62) (rd (o9 (ai 61)) (ax 1 63 r (ai 10) [(dU 1 (ai 47)),(aU .Sub (ai 34) (ai 59))]) (cZ [])))
 (fw (bx .NotEq (ai 62) (cZ [])) (df (aA 15) (bl (ax 3 56 c8 (bc 1 53 (ai 10)) [(cv (ai 47) (ah (.int 0)))])) (df (aA 16) (bl (ax 1 63 r (ai 10) [(dU 1 (ai 15)),(aU .Sub (ai 59) (ah (.int 1)))])) (bM (c6 .extend (ai 2) [(bQ [16,15] (aA 64) (bl (ai 62)) none (aU .Add (bj [(aU .Add (bj [(cv (ai 15) (ah (.int 0)))]) (ai 16))]) (ai 64)))])))) bF))))
 (cp (ai 2))))))
noncomputable def gj:Nat->List V->bw->Res V
 |0=>λ_ _=>.stuck
 |d+1=>tE [10,47,34] (j7 (gj d))
theorem HQ (x:dI)(hn:35<=n)(hr:aZ n 250 r):cf n (kP 33).scope (kP 33).body (j7 r):=by
 conv=>arg 2;whnf
 conv=>arg 3;whnf
 exact(ak (bz (aW (au (eV x 10) (ag ⋯ (eV x 47) (ag ⋯ (eV x 34) aj)) ⋯ (pM x 30 (dN hn)) (x.cg 1) (br rfl) rfl (mo (x.find 37) (x.fn 31)) nofun) aq rfl) (ar (aQ (dm aj))) bg)
  (ak (bz (aW (ba (ag ⋯ (eV x 47) aj) ⋯ () (x.ns 2)) aq rfl) (ar (aQ (dm (ag ⋯ (aM aj) aj)))) bg)
  (ak (aN (cz aj) (br rfl) rfl () ⋯)
  (ak (cN (dA (br rfl) rfl ()) (i0 (ag ⋯ aq (ag ⋯ (aI (aI (eV x 34) (ba (ag ⋯ (eV x 47) aj) ⋯ () (x.ns 2))) aq) aj)) ⋯ () (x.ns 11)) (ak (aN (Ez (gS (ba (ag ⋯ (eV x 47) aj) ⋯ () (x.ns 2)) aq rfl) (gS (au (eV x 10) (ag ⋯ (m7 (eV x 47)) (ag ⋯ (eV x 59) aj)) ⋯ (pM x 30 (dN hn)) (x.cg 1) (br rfl) rfl (mo (x.find 37) (x.fn 31)) nofun) aq rfl)) (br rfl) rfl () ⋯)
  (ak (aN (gh (mf (eV x 61) (λ_ _=>rfl)) (au (eV x 10) (ag ⋯ (dk (eV x 47) (by decide)) (ag ⋯ (aI (eV x 34) (eV x 59)) aj)) ⋯ hr (x.cg 1) (br rfl) rfl (mo (x.find 39) (x.fn 33)) nofun) (dm aj)) (br rfl) rfl () ⋯)
  (ar (bz (aW (eV x 62) (dm aj) rfl) (ar (cN (dA (br rfl) rfl ()) (bf (au (aF (eV x 10) (x.cg 1) (br rfl) rfl (x.find 31)) (ag ⋯ (bb (eV x 47) aq (λ_ _=>⟨_,rfl⟩)) aj) ⋯ (nB x (cX hn)) (x.cg 3) (br rfl) rfl (mo (x.find 36) (x.fn 26)) nofun)) (ar (cN (dA (br rfl) rfl ()) (bf (au (eV x 10) (ag ⋯ (dk (eV x 15) (by decide)) (ag ⋯ (aI (eV x 59) aq) aj)) ⋯ hr (x.cg 1) (br rfl) rfl (mo (x.find 39) (x.fn 33)) nofun)) (ar (bE (bW (eV x 2) (ag ⋯ (cq (bf (eV x 62)) (d0 ()) (cj (br rfl) rfl ()) (bu (by decide)) trivial (aI (aM (ag ⋯ (aI (aM (ag ⋯ (bb (eV x 15) aq (λ_ _=>⟨_,rfl⟩)) aj)) (eV x 16)) aj)) (eV x 64)) (λ_ _=>rfl)) aj) ⋯ ⋯ rfl ⋯) ⋯)) (λ_ _=>rfl))) (λ_ _=>rfl))) bg)))) (λ_ _=>rfl))
  (ar (aQ (eV x 2)))))))
theorem HR (x:dI) :∀(d:Nat) {n:Nat},d+35+1<=n->aZ n 250 (gj d):=by
 intro y
 induction y with
 |zero=>
  intro _ _;exact λ_ _ _ _ _ _ _ _ _ _ _ _ p=>p.elim
 |succ d ih=>
  intro n hn;obtain⟨m,rfl⟩ :∃m,n=m+1:=⟨n - 1,FG hn⟩;exact(kB (x.fn 33) [10,47,34] () (HQ x (Tb ‹_›) (ih (Nat.le_of_lt_succ hn)))).cut
def zK:MS:=
 (aL (fw (bx .Gt (ax 1 50 dS (ai 10) [(ai 41),(ai 34)]) (ah (.int 10000))) (kq 4) bF)
 (cp (j3 (bQ [] (aA 16) (bl (ax 1 63 (gj 30) (ai 10) [(bj [(ax 3 25 bR (bc 1 53 (ai 10)) [(ai 41)])]),(ai 34)])) none (cv (ai 16) (ah (.int 0)))) gJ)))
def hM:List V->bw->Res V:=cy [10,41,34] zK
theorem HT (x:dI)(hn:66<=n):cf (n+1) (kP 34).scope (kP 34).body zK:=by
 conv=>arg 2;whnf
 conv=>arg 3;whnf
 exact(ak (bz (aW (au (eV x 10) (ag ⋯ (eV x 41) (ag ⋯ (eV x 34) aj)) ⋯ (pO x (by lia)) (x.cg 1) (br rfl) rfl (mo (x.find 40) (x.fn 32)) nofun) (m5 () (x.ns 16) ()) rfl) (ar (xG x)) bg)
  (ar (aQ (uO (n:=n) (ag ⋯ (cq (bf (au (eV x 10) (ag ⋯ (aM (ag ⋯ (au (aF (eV x 10) (x.cg 1) (br rfl) rfl (x.find 31)) (ag ⋯ (eV x 41) aj) ⋯ (eU x (by lia)) (x.cg 3) (br rfl) rfl (mo (x.find 14) (x.fn 17)) nofun) aj)) (ag ⋯ (eV x 34) aj)) ⋯ (HR x 30 (Nat.le_add_right_of_le hn)) (x.cg 1) (br rfl) rfl (mo (x.find 39) (x.fn 33)) nofun)) (d0 ()) (cj (br rfl) rfl ()) (bu (by decide)) trivial (bb (eV x 16) aq (λ_ _=>⟨_,rfl⟩)) (λ_ _=>rfl)) aj) ⋯ ⋯ (zv x (cX hn)) () (x.ns 7) () (x.ns 17) ()))))
theorem HU (x:dI)(hn:68<=n):aZ n 245 hM:=by
 obtain⟨m,rfl⟩ :∃m,n=m+1+1:=⟨n - 2,Nr hn⟩;exact kB (x.fn 34) [10,41,34] () (HT x (q78 ‹_›))
def jh:MS:=
 (aL (fw (bx .Gt (bV .len [(ai 65)]) (ah (.int 10000))) w9 bF)
 (aL (aB (aA 2) (lG .str))
 (aL (df (bp [47,52]) (bl (ai 65)) (df (aA 15) (bl (ax 3 56 c8 (bc 1 53 (ai 10)) [(cv (ai 47) (ah (.int 0)))])) (aL (aB (aA 62) (aU .Add (dU 1 (ai 15)) (dU 1 (ai 47))))
 (fw (bx .Gt (ax 1 57 (d4 30) (ai 10) [(ai 62),(aU .Sub (ai 34) (ah (.int 1)))]) (ah (.int 0))) (bM (c6 .append (ip ic tn (ai 2) [(cv (ai 15) (ah (.int 0))),(dj [])]) [(bj [(ai 62),(aU .Add (ai 52) (bj [(aU .Sub (bV .len [(ai 15)]) (ah (.int 1)))]))])])) bF))))
 (cp (bQ [2] (aA 14) (bl (x9 kM [(ai 2)])) none (bj [(ai 14),(cv (ai 2) (ai 14))]))))))
def iq:List V->bw->Res V:=tE [10,65,34] jh
theorem BL (x:dI)(hn:35<=n):cf n (kP 35).scope (kP 35).body jh:=by
 conv=>arg 2;whnf
 conv=>arg 3;whnf
 exact(ak (bz (aW (ba (ag ⋯ (eV x 65) aj) ⋯ () (x.ns 2)) (m5 () (x.ns 18) ()) rfl) (ar lH) bg)
  (ak (aN (gV .str) (br rfl) rfl () ⋯)
  (ak (cN (dK (eD ()) (λ_=>(.cons (aG rfl) (.cons (aG rfl) .nil))) ⋯) (bf (eV x 65)) (ar (cN (dA (br rfl) rfl ()) (bf (au (aF (eV x 10) (x.cg 1) (br rfl) rfl (x.find 31)) (ag ⋯ (bb (eV x 47) aq (λ_ _=>⟨_,rfl⟩)) aj) ⋯ (nB x (cX hn)) (x.cg 3) (br rfl) rfl (mo (x.find 36) (x.fn 26)) nofun)) (ak (aN (aI (dk (eV x 15) (by decide)) (dk (eV x 47) (by decide))) (br rfl) rfl () ⋯)
  (ar (bz (aW (au (eV x 10) (ag ⋯ (eV x 62) (ag ⋯ (aI (eV x 34) aq) aj)) ⋯ (pM x 30 (dN hn)) (x.cg 1) (br rfl) rfl (mo (x.find 37) (x.fn 31)) nofun) aq rfl) (ar (bE (bW (iK El (eV x 2) (ag ⋯ (bb (eV x 15) aq (λ_ _=>⟨_,rfl⟩)) (ag ⋯ (cz aj) aj)) ⋯ ⋯ rfl ⋯) (ag ⋯ (aM (ag ⋯ (eV x 62) (ag ⋯ (aI (eV x 52) (aM (ag ⋯ (aI (ba (ag ⋯ (eV x 15) aj) ⋯ () (x.ns 2)) aq) aj))) aj))) aj) ⋯ ⋯ rfl ⋯) ⋯)) bg))) (λ_ _=>rfl))) (λ_ _=>rfl))
  (ar (aQ (cq (bf (oG (.inl ⟨_,rfl⟩) xt (by decide +kernel) (by decide) rfl (ag ⋯ (eV x 2) aj) ⋯ () (x.ns 7))) (d0 ()) (cj (br rfl) rfl ()) (bu (by decide)) trivial (aM (ag ⋯ (eV x 14) (ag ⋯ (bb (eV x 2) (eV x 14) (λ_ _=>⟨_,rfl⟩)) aj))) (λ_ _=>rfl)))))))
theorem tM (x:dI)(hn:36<=n):aZ n 255 iq:=(bX hn (x.fn 35) () λ_ h=>BL x h).cut
def Na:MS:=
 (aL (fw (rX (jE .LtE .Lt (ah (.int 0)) (ai 4) (ax 1 50 dS (ai 10) [(ai 41),(ai 34)]))) (cp (ah .none)) bF)
 (aL (cP (dZ [65,51]) (bj [(cZ [(bj [(bj [(ax 3 25 bR (bc 1 53 (ai 10)) [(ai 41)])]),(bj [])])]),(dj [])]))
 (aL (df (aA 66) (jr (ai 34) (ah (.int 0)) (gZ (ah (.int 1)))) (df (bp [14,62]) (bl (ax 1 67 iq (ai 10) [(ai 65),(ai 66)])) (aL (aB (aA 50) (bV .sum [(bQ [66,10] (bp [47,52]) (bl (ai 62)) none (ax 1 57 (d4 30) (ai 10) [(ai 47),(aU .Sub (ai 66) (ah (.int 1)))]))]))
 (aL (fw (bx .Lt (ai 4) (ai 50)) (aL (bM (c6 .append (ai 51) [(ai 14)]))
 (aL (aB (aA 65) (ai 62))
 pG)) bF)
 (aB (aA 4) (aU .Sub (ai 4) (ai 50)))))))
 (cp (bZ kC [(ai 51),(cv (x9 kM [(bQ [] (bp [47,52]) (bl (ai 65)) none (ai 52))]) (ai 4))])))))
def iQ:List V->bw->Res V:=cy [10,41,34,4] Na
theorem Sg (x:dI)(hn:36<=n):cf n (kP 36).scope (kP 36).body Na:=by
 conv=>arg 2;whnf
 conv=>arg 3;whnf
 exact(ak (bz (md (k9 aq (eV x 4) (au (eV x 10) (ag ⋯ (eV x 41) (ag ⋯ (eV x 34) aj)) ⋯ (pO x (dN hn)) (x.cg 1) (br rfl) rfl (mo (x.find 40) (x.fn 32)) nofun) rfl)) (ar (aQ eo)) bg)
  (ak (dE (aM (ag ⋯ (dm (ag ⋯ (aM (ag ⋯ (aM (ag ⋯ (au (aF (eV x 10) (x.cg 1) (br rfl) rfl (x.find 31)) (ag ⋯ (eV x 41) aj) ⋯ (eU x (cX hn)) (x.cg 3) (br rfl) rfl (mo (x.find 14) (x.fn 17)) nofun) aj)) (ag ⋯ (aM aj) aj))) aj)) (ag ⋯ (cz aj) aj))) (eD ()) ⋯ (λenv h=>by cases env;cases h;kernel_rfl))
  (ak (cN (dA (br rfl) rfl ()) (oj (ag ⋯ (eV x 34) (ag ⋯ aq (ag ⋯ (eA aq) aj))) ⋯ () (x.ns 11)) (ar (cN (dK (eD ()) (λ_=>(.cons (aG rfl) (.cons (aG rfl) .nil))) ⋯) (bf (au (eV x 10) (ag ⋯ (eV x 65) (ag ⋯ (eV x 66) aj)) ⋯ (tM x (dN hn)) (x.cg 1) (br rfl) rfl (mo (x.find 41) (x.fn 35)) nofun)) (ak (aN (ba (ag ⋯ (cq (bf (eV x 62)) (d0 ()) (gw (pI ()) (λ_=>(.cons (aG rfl) (.cons (aG rfl) .nil))) ⋯) (eI (by decide)) trivial (au (eV x 10) (ag ⋯ (eV x 47) (ag ⋯ (aI (eV x 66) aq) aj)) ⋯ (pM x 30 (cX hn)) (x.cg 1) (br rfl) rfl (mo (x.find 37) (x.fn 31)) nofun) (λ_ _=>rfl)) aj) ⋯ () (x.ns 5)) (br rfl) rfl () ⋯)
  (ak (bz (aW (eV x 4) (eV x 50) rfl) (ak (bE (bW (eV x 51) (ag ⋯ (eV x 14) aj) ⋯ ⋯ rfl ⋯) ⋯)
  (ak (aN (eV x 62) (br rfl) rfl () ⋯)
  (ar pH))) bg)
  (ar (aN (aI (eV x 4) (eV x 50)) (br rfl) rfl () ⋯)))) (λ_ _=>rfl))) (λ_ _=>rfl))
  (ar (aQ (cx (ag ⋯ (eV x 51) (ag ⋯ (bb (oG (.inl ⟨_,rfl⟩) xt (by decide +kernel) (by decide) rfl (ag ⋯ (cq (bf (eV x 65)) (d0 ()) (gw (pI ()) (λ_=>(.cons (aG rfl) (.cons (aG rfl) .nil))) ⋯) (eI (by decide)) trivial (eV x 52) (λ_ _=>rfl)) aj) ⋯ () (x.ns 7)) (eV x 4) (λ_ _=>⟨_,rfl⟩)) aj)) ⋯ (Le x (Nat.one_le_of_lt hn)) (x.fn 28).keep () (x.ns 19) ()))))))
theorem zM (x:dI)(hn:37<=n):aZ n 260 iQ:=bX hn (x.fn 36) () λ_ h=>Sg x h
def kD (r:List V->bw->Res V):MS:=
 (aL (aB (aA 16) (bQ [10] (aA 7) (bl (dU 1 (ai 43))) none (ax 1 68 r (ai 10) [(ai 7)])))
 (cp (rd (bx .In (gZ (ah (.int 1))) (ai 16)) (gZ (ah (.int 1))) (ax 3 69 ew (bc 1 53 (ai 10)) [(cv (ai 43) (ah (.int 0))),(bV .tuple [(ai 16)])]))))
noncomputable def fg:Nat->List V->bw->Res V
 |0=>λ_ _=>.stuck
 |d+1=>cy [10,43] (kD (fg d))
theorem BM (x:dI)(hn:3<=n)(hr:aZ n 265 r):cf n (kP 37).scope (kP 37).body (kD r):=by
 conv=>arg 2;whnf
 conv=>arg 3;whnf
 exact(ak (gx (bf (dk (eV x 43) (by decide))) (d0 ()) (cj (br rfl) rfl ()) (bu (by decide)) trivial (au (eV x 10) (ag ⋯ (eV x 7) aj) ⋯ hr (x.cg 1) (br rfl) rfl (mo (x.find 42) (x.fn 37)) nofun) (λ_ _=>rfl) (br rfl) rfl () (λenv h=>by cases env;cases h;kernel_rfl))
  (ar (aQ (gh (aW (eA aq) (eV x 16) rfl) (eA aq) (au (aF (eV x 10) (x.cg 1) (br rfl) rfl (x.find 31)) (ag ⋯ (bb (eV x 43) aq (λ_ _=>⟨_,rfl⟩)) (ag ⋯ (ba (ag ⋯ (eV x 16) aj) ⋯ () (x.ns 3)) aj)) ⋯ (zJ x (dN hn)) (x.cg 3) (br rfl) rfl (mo (x.find 43) (x.fn 27)) nofun)))))
theorem BN (x:dI) :∀(d:Nat) {n:Nat},d+3+1<=n->aZ n 265 (fg d):=by
 intro y
 induction y with
 |zero=>
  intro _ _;exact λ_ _ _ _ _ _ _ _ _ _ _ _ p=>p.elim
 |succ d ih=>
  intro n hn;obtain⟨m,rfl⟩ :∃m,n=m+1:=⟨n - 1,FG hn⟩;exact kB (x.fn 37) [10,43] () (BM x (Tb ‹_›) (ih (Nat.le_of_lt_succ hn)))
def oQ:MS:=
 (aL (cP (bp [34,51,16]) (bZ gJ [(ai 43)]))
 (aL (bM (ax 1 60 d6 (ai 10) [(ai 34)]))
 (aL (aB (aA 41) (ax 1 68 (fg 8) (ai 10) [(ai 43)]))
 (aL (fw (bx .Lt (ai 41) (ah (.int 0))) (cp (ah .none)) bF)
 (aL (cP (dZ [65,4]) (bj [(cZ [(bj [(bj [(ai 41)]),(bj [])])]),(ah (.int 0))]))
 (aL (df (bp [70,58]) (kO (ai 51)) (aL (aB (aA 66) (aU .Sub (ai 34) (ai 70)))
 (df (bp [14,62]) (bl (ax 1 67 iq (ai 10) [(ai 65),(ai 66)])) (aL (fw (bx .Eq (ai 14) (ai 58)) (aL (aB (aA 65) (ai 62))
 pG) bF)
 (aB (aA 4) (aU .Add (ai 4) (bV .sum [(bQ [66,10] (bp [47,52]) (bl (ai 62)) none (ax 1 57 (d4 30) (ai 10) [(ai 47),(aU .Sub (ai 66) (ah (.int 1)))]))])))))))
 (cp (bj [(ai 34),(aU .Add (ai 4) (bV .len [(bQ [16] (bp [47,52]) (bl (ai 65)) (some (OG (ai 52) (ai 16))) (ai 52))]))]))))))))
def j8:List V->bw->Res V:=cy [10,43] oQ
theorem HV (x:dI)(hn:36<=n):cf n (kP 38).scope (kP 38).body oQ:=by
 conv=>arg 2;whnf
 conv=>arg 3;whnf
 exact(ak (gv (dK (eD ()) (λ_=>(.cons (aG rfl) (.cons (aG rfl) (.cons (aG rfl) .nil)))) ⋯) (cx (ag ⋯ (eV x 43) aj) ⋯ (zv x (cX hn)) (x.fn 2).keep () (x.ns 17) ()) ⋯ (λ_ _=>rfl))
  (ak (bE (au (eV x 10) (ag ⋯ (eV x 34) aj) ⋯ (v9 x (cX hn)) (x.cg 1) (br rfl) rfl (mo (x.find 38) (x.fn 30)) nofun) ⋯)
  (ak (aN (au (eV x 10) (ag ⋯ (eV x 43) aj) ⋯ (BN x 8 (cX hn)) (x.cg 1) (br rfl) rfl (mo (x.find 42) (x.fn 37)) nofun) (br rfl) rfl () ⋯)
  (ak (bz (aW (eV x 41) aq rfl) (ar (aQ eo)) bg)
  (ak (dE (aM (ag ⋯ (dm (ag ⋯ (aM (ag ⋯ (aM (ag ⋯ (eV x 41) aj)) (ag ⋯ (aM aj) aj))) aj)) (ag ⋯ aq aj))) (eD ()) ⋯ (λenv h=>by cases env;cases h;kernel_rfl))
  (ak (mQ (dK (eD ()) (λ_=>(.cons (aG rfl) (.cons (aG rfl) .nil))) ⋯) (ag ⋯ (eV x 51) aj) ⋯ (ak (aN (aI (eV x 34) (eV x 70)) (br rfl) rfl () ⋯)
  (ar (cN (dK (eD ()) (λ_=>(.cons (aG rfl) (.cons (aG rfl) .nil))) ⋯) (bf (au (eV x 10) (ag ⋯ (eV x 65) (ag ⋯ (eV x 66) aj)) ⋯ (tM x (dN hn)) (x.cg 1) (br rfl) rfl (mo (x.find 41) (x.fn 35)) nofun)) (ak (bz (aW (eV x 14) (eV x 58) rfl) (ak (aN (eV x 62) (br rfl) rfl () ⋯)
  (ar pH)) bg)
  (ar (aN (aI (eV x 4) (ba (ag ⋯ (cq (bf (eV x 62)) (d0 ()) (gw (pI ()) (λ_=>(.cons (aG rfl) (.cons (aG rfl) .nil))) ⋯) (eI (by decide)) trivial (au (eV x 10) (ag ⋯ (eV x 47) (ag ⋯ (aI (eV x 66) aq) aj)) ⋯ (pM x 30 (cX hn)) (x.cg 1) (br rfl) rfl (mo (x.find 37) (x.fn 31)) nofun) (λ_ _=>rfl)) aj) ⋯ () (x.ns 5))) (br rfl) rfl () ⋯))) (λ_ _=>rfl)))) () (x.ns 1))
  (ar (aQ (aM (ag ⋯ (eV x 34) (ag ⋯ (aI (eV x 4) (ba (ag ⋯ (cq (bf (eV x 65)) (d0 ()) (gw (pI ()) (λ_=>(.cons (aG rfl) (.cons (aG rfl) .nil))) ⋯) (eI (by decide)) (Es (eV x 52) (eV x 16) rfl) (eV x 52) (λ_ _=>rfl)) aj) ⋯ () (x.ns 2))) aj)))))))))))
theorem zN (x:dI)(hn:37<=n):aZ n 270 j8:=bX hn (x.fn 38) () λ_ h=>HV x h
def CX:MS:=
 (aL (eR (ai 71) (ah (.int 1)) (aU .Add (cv (ai 71) (ah (.int 1))) (ah (.int 1))))
 (aL (fw (bx .LtE (cv (ai 71) (ah (.int 1))) (bV .len [(cv (ai 71) (ah (.int 0)))])) (cp (aU .Mod (cv (cv (ai 71) (ah (.int 0))) (aU .Sub (cv (ai 71) (ah (.int 1))) (ah (.int 1)))) (ai 50))) bF)
 (cp (aU .Mod (aU .FloorDiv (aU .Add (aU .Add (aU .Add (aU .Mult (aU .Mult (ah (.int 6)) (cv (ai 71) (ah (.int 1)))) (cv (ai 71) (ah (.int 1)))) (aU .Mult (ah (.int 7)) (cv (ai 71) (ah (.int 1))))) (ah (.int 5))) (aU .Mult (ah (.int 3)) (bV .len [(cv (ai 71) (ah (.int 0)))]))) (ah (.int 4))) (ai 50)))))
def jy:List V->bw->Res V:=cy [71,50] CX
theorem Lf (x:dI)(hn:0<=n):cf n (kP 39).scope (kP 39).body CX:=by
 conv=>arg 2;whnf
 conv=>arg 3;whnf
 exact(ak (fc (eV x 71) aq (aI (bb (eV x 71) aq (λ_ _=>⟨_,rfl⟩)) aq) ⋯)
  (ak (bz (aW (bb (eV x 71) aq (λ_ _=>⟨_,rfl⟩)) (ba (ag ⋯ (bb (eV x 71) aq (λ_ _=>⟨_,rfl⟩)) aj) ⋯ () (x.ns 2)) rfl) (ar (aQ (aI (bb (bb (eV x 71) aq (λ_ _=>⟨_,rfl⟩)) (aI (bb (eV x 71) aq (λ_ _=>⟨_,rfl⟩)) aq) (λ_ _=>⟨_,rfl⟩)) (eV x 50)))) bg)
  (ar (aQ (aI (aI (aI (aI (aI (aI (aI aq (bb (eV x 71) aq (λ_ _=>⟨_,rfl⟩))) (bb (eV x 71) aq (λ_ _=>⟨_,rfl⟩))) (aI aq (bb (eV x 71) aq (λ_ _=>⟨_,rfl⟩)))) aq) (aI aq (ba (ag ⋯ (bb (eV x 71) aq (λ_ _=>⟨_,rfl⟩)) aj) ⋯ () (x.ns 2)))) aq) (eV x 50))))))
theorem rC (x:dI)(hn:1<=n):aZ n 496 jy:=bX hn (x.fn 39) () λ_ h=>Lf x h
def wc:MS:=
 (aL (aB (aA 2) (xu (bj [(ah (.int 0)),(ah (.int 0))]) (ah (.int 1))))
 (aL (df (aA 9) (iZ (ah (.int 1)) (aU .Add (ai 75) (ah (.int 1)))) (df (aA 73) (iZ (ah (.int 1)) (aU .Add (ai 75) (ah (.int 2)))) (aL (aB (aA 72) (ip ic pF (ai 2) [(bj [(aU .Add (ai 73) (ah (.int 1))),(aU .Sub (ai 9) (ah (.int 1)))]),(ah (.int 0))]))
 (eR (ai 2) (bj [(ai 73),(ai 9)]) (aU .Add (aU .Mult (ai 74) (ip ic pF (ai 2) [(bj [(aU .Sub (ai 73) (ah (.int 1))),(aU .Sub (ai 9) (ah (.int 1)))]),(ah (.int 0))])) (ai 72))))))
 (cp (ai 2))))
def gX:List V->bw->Res V:=cy [74,75] wc
theorem EH (x:dI)(hn:0<=n):cf n (kP 40).scope (kP 40).body wc:=by
 conv=>arg 2;whnf
 conv=>arg 3;whnf
 exact(@ak _ _ _ _ _ _ (@aN _ _ _ _ _ _ _ _ (@zj _ _ _ _ _ _ _ (aM (ag ⋯ aq (ag ⋯ aq aj))) aq) (br rfl) rfl () ⋯)
  (ak (cN (dA (br rfl) rfl ()) (i0 (ag ⋯ aq (ag ⋯ (aI (eV x 75) aq) aj)) ⋯ () (x.ns 11)) (ar (cN (dA (br rfl) rfl ()) (i0 (ag ⋯ aq (ag ⋯ (aI (eV x 75) aq) aj)) ⋯ () (x.ns 11)) (ak (aN (iK oH (eV x 2) (ag ⋯ (aM (ag ⋯ (aI (eV x 73) aq) (ag ⋯ (aI (eV x 9) aq) aj))) (ag ⋯ aq aj)) ⋯ ⋯ rfl ⋯) (br rfl) rfl () ⋯)
  (ar (fc (eV x 2) (aM (ag ⋯ (eV x 73) (ag ⋯ (eV x 9) aj))) (aI (aI (eV x 74) (iK oH (eV x 2) (ag ⋯ (aM (ag ⋯ (aI (eV x 73) aq) (ag ⋯ (aI (eV x 9) aq) aj))) (ag ⋯ aq aj)) ⋯ ⋯ rfl ⋯)) (eV x 72)) ⋯))) (λ_ _=>rfl))) (λ_ _=>rfl))
  (ar (aQ (eV x 2)))))
theorem wd (x:dI)(hn:1<=n):aZ n 503 gX:=bX hn (x.fn 40) () λm h=>@EH m x h
def rD:MS:=
 (aL (cP (bp [76,73]) (bj [(ah (.str [])),(ah (.int 1))]))
 (aL (df (aA 66) (jr (aU .Sub (ai 9) (ah (.int 1))) (gZ (ah (.int 1))) (gZ (ah (.int 1)))) (df (aA 1) (bl (qg (x9 kM [(ai 74)]) (cZ [(ah (.str [112]))]))) (aL (aB (aA 62) (ip ic pF (ai 77) [(bj [(aU .Add (ai 73) (rd (bx .Eq (ai 1) (ah (.str [112]))) (ah (.int 1)) (gZ (ah (.int 1))))),(ai 66)]),(ah (.int 0))]))
 (aL (fw (bx .Lt (ai 49) (ai 62)) (aL (cP (dZ [76,73]) (bj [(aU .Add (ai 76) (ai 1)),(aU .Add (ai 73) (rd (bx .Eq (ai 1) (ah (.str [112]))) (ah (.int 1)) (gZ (ah (.int 1)))))]))
 pG) bF)
 (aB (aA 49) (aU .Sub (ai 49) (ai 62)))))))
 (cp (ai 76))))
def jz:List V->bw->Res V:=cy [74,77,9,49] rD
theorem Lg (x:dI)(hn:0<=n):cf n (kP 41).scope (kP 41).body rD:=by
 conv=>arg 2;whnf
 conv=>arg 3;whnf
 exact(ak (gv (dK (eD ()) (λ_=>(.cons (aG rfl) (.cons (aG rfl) .nil))) ⋯) (aM (ag ⋯ (cY ()) (ag ⋯ aq aj))) ⋯ (λenv h=>by cases env;cases h;kernel_rfl))
  (ak (cN (dA (br rfl) rfl ()) (oj (ag ⋯ (aI (eV x 9) aq) (ag ⋯ (eA aq) (ag ⋯ (eA aq) aj))) ⋯ () (x.ns 11)) (ar (cN (dA (br rfl) rfl ()) (bf (nA (oG (.inl ⟨_,rfl⟩) xt (by decide +kernel) (by decide) rfl (ag ⋯ (eV x 74) aj) ⋯ () (x.ns 7)) (dm (ag ⋯ (cY ()) aj)))) (ak (aN (iK oH (eV x 77) (ag ⋯ (aM (ag ⋯ (aI (eV x 73) (gh (aW (eV x 1) (cY ()) rfl) aq (eA aq))) (ag ⋯ (eV x 66) aj))) (ag ⋯ aq aj)) ⋯ ⋯ rfl ⋯) (br rfl) rfl () ⋯)
  (ak (bz (aW (eV x 49) (eV x 62) rfl) (ak (dE (aM (ag ⋯ (aI (eV x 76) (eV x 1)) (ag ⋯ (aI (eV x 73) (gh (aW (eV x 1) (cY ()) rfl) aq (eA aq))) aj))) (eD ()) ⋯ (λenv h=>by cases env;cases h;kernel_rfl))
  (ar pH)) bg)
  (ar (aN (aI (eV x 49) (eV x 62)) (br rfl) rfl () ⋯)))) (λ_ _=>rfl))) (λ_ _=>rfl))
  (ar (aQ (eV x 76)))))
theorem CY (x:dI)(hn:1<=n):aZ n 510 jz:=bX hn (x.fn 41) () λ_ h=>Lg x h
def tO:MS:=
 (aL (aB (aA 48) (dj []))
 (aL (df (aA 1) (qR (ai 76)) (bM (c6 .append (ai 48) [(rd (bx .Eq (ai 1) (ah (.str [112]))) (bj [(ai 1),(c6 .pop (ai 48) []),(c6 .pop (ai 48) [])]) (bj [(ai 1)]))])))
 (cp (cv (ai 48) (ah (.int 0))))))
def lV:List V->bw->Res V:=tE [76] tO
theorem O4 (x:dI)(hn:0<=n):cf n (kP 42).scope (kP 42).body tO:=by
 conv=>arg 2;whnf
 conv=>arg 3;whnf
 exact(ak (aN (cz aj) (br rfl) rfl () ⋯)
  (ak (cN (dA (br rfl) rfl ()) (vO (ag ⋯ (eV x 76) aj) ⋯ () (x.ns 12)) (ar (bE (bW (eV x 48) (ag ⋯ (gh (aW (eV x 1) (cY ()) rfl) (aM (ag ⋯ (eV x 1) (ag ⋯ (bW (eV x 48) aj ⋯ ⋯ rfl ⋯) (ag ⋯ (bW (eV x 48) aj ⋯ ⋯ rfl ⋯) aj)))) (aM (ag ⋯ (eV x 1) aj))) aj) ⋯ ⋯ rfl ⋯) ⋯)) (λ_ _=>rfl))
  (ar (aQ (bb (eV x 48) aq (λ_ _=>⟨_,rfl⟩))))))
theorem HW (x:dI)(hn:1<=n):aZ n 517 lV:=(bX hn (x.fn 42) () λ_ h=>O4 x h).cut
def HX:MS:=
 (aL (aB (aA 2) (ah .none))
 (aL (D3 4 (aB (aA 2) (ax 1 80 hM (ai 78) [(ai 41),(ai 79)])) λfr U=>.next (aE fr 2 .none) U)
 (cp (ai 2))))
def nC:List V->bw->Res V:=cy [78,41,79] HX
theorem O5 (x:dI)(hn:68<=n):cf n (kP 43).scope (kP 43).body HX:=by
 conv=>arg 2;whnf
 conv=>arg 3;whnf
 exact(ak (aN eo (br rfl) rfl () ⋯)
  (ak (Bi (ar (aN (au (eV x 78) (ag ⋯ (eV x 41) (ag ⋯ (eV x 79) aj)) ⋯ (HU x (dN hn)) (x.cg 1) (br rfl) rfl (mo (x.find 44) (x.fn 34)) nofun) (br rfl) rfl () ⋯)) (uA (br rfl) rfl ()) () (x.ns 20) () x.F.ex.Mx CQ)
  (ar (aQ (eV x 2)))))
theorem O6 (x:dI)(hn:69<=n):aZ n 524 nC:=bX hn (x.fn 43) () λ_ h=>O5 x h
def CZ:MS:=
 (aL (aB (aA 77) (bZ gX [(bV .len [(ai 74)]),(ah (.int 11))]))
 (aL (aB (aA 50) (cv (ai 77) (bj [(ah (.int 1)),(ai 79)])))
 (aL (aB (aA 81) (bZ lV [(bZ jz [(ai 74),(ai 77),(ai 79),(ai 49)])]))
 (aL (fw (jF [(bx .Eq (ai 82) (ah (.int 1))),(bx .NotEq (ax 1 83 j8 (ai 78) [(ai 81)]) (bj [(ai 79),(ai 49)]))]) (cp (ah (.bool false))) bF)
 (aL (fw (bx .Eq (ai 82) (ah (.int 2))) (aL (aB (aA 84) (bZ nC [(ai 78),(ai 41),(ai 79)]))
 (fw (rY [(bx .NotEq (iE .Is (ai 84) (ah .none)) (iE .Gt (ai 50) (ah (.int 10000)))),(jF [(bx .LtE (ai 50) (ah (.int 60))),(bx .NotEq (ai 84) (bQ [77,74,79] (aA 4) (iY (ai 50)) none (bZ lV [(bZ jz [(ai 74),(ai 77),(ai 79),(ai 4)])])))])]) (cp (ah (.bool false))) bF)) bF)
 (aL (fw (rY [(bx .NotEq (ax 1 85 iQ (ai 78) [(ai 41),(ai 79),(ai 49)]) (ai 81)),(bx .NotEq (ax 1 83 j8 (ai 78) [(ai 81)]) (bj [(ai 79),(ai 49)]))]) (cp (ah (.bool false))) bF)
 (aL (fw (rY [(bx .NotEq (ax 1 50 dS (ai 78) [(ai 41),(ai 79)]) (ai 50)),(bx .NotEq (ax 1 50 dS (ai 78) [(ai 41),(aU .Add (ai 79) (ah (.int 1)))]) (ah (.int 0)))]) (cp (ah (.bool false))) bF)
 (aL (aB (aA 86) (bQ [41,78,79] (aA 4) (bl (bj [(gZ (ah (.int 1))),(gZ (ah (.int 2))),(gZ (ai 50)),(aU .Sub (gZ (ai 50)) (ah (.int 5))),(ai 50),(aU .Add (ai 50) (ah (.int 7)))])) none (ax 1 85 iQ (ai 78) [(ai 41),(ai 79),(ai 4)])))
 (cp (va (iE .Eq (bQ [] (aA 62) (bl (ai 86)) (some (bx .IsNot (ai 62) (ah .none))) (ai 62)) (cZ [])) (iE .Is (ax 1 85 iQ (ai 78) [(ai 41),(ah (.int 0)),(ah (.int 0))]) (ah .none))))))))))))
def kE:List V->bw->Res V:=cy [78,41,74,79,49,82] CZ
theorem Lh (x:dI)(hn:69<=n):cf n (kP 44).scope (kP 44).body CZ:=by
 conv=>arg 2;whnf
 conv=>arg 3;whnf
 exact(ak (aN (cx (ag ⋯ (ba (ag ⋯ (eV x 74) aj) ⋯ () (x.ns 2)) (ag ⋯ aq aj)) ⋯ (wd x (Nat.one_le_of_lt hn)) (x.fn 40).keep () (x.ns 21) ()) (br rfl) rfl () ⋯)
  (ak (aN (bb (eV x 77) (aM (ag ⋯ aq (ag ⋯ (eV x 79) aj))) (λ_ _=>⟨_,rfl⟩)) (br rfl) rfl () ⋯)
  (ak (aN (cx (ag ⋯ (cx (ag ⋯ (eV x 74) (ag ⋯ (eV x 77) (ag ⋯ (eV x 79) (ag ⋯ (eV x 49) aj)))) ⋯ (CY x (Nat.one_le_of_lt hn)) (x.fn 41).keep () (x.ns 22) ()) aj) ⋯ (HW x (Nat.one_le_of_lt hn)) (x.fn 42).keep () (x.ns 23) ()) (br rfl) rfl () ⋯)
  (ak (bz (gU (aW (eV x 82) aq rfl) (gU (aW (au (eV x 78) (ag ⋯ (eV x 81) aj) ⋯ (zN x (cX hn)) (x.cg 1) (br rfl) rfl (mo (x.find 45) (x.fn 38)) nofun) (aM (ag ⋯ (eV x 79) (ag ⋯ (eV x 49) aj))) rfl) ix)) (ar (aQ gf)) bg)
  (ak (bz (aW (eV x 82) aq rfl) (ak (aN (cx (ag ⋯ (eV x 78) (ag ⋯ (eV x 41) (ag ⋯ (eV x 79) aj))) ⋯ (O6 x (dN hn)) (x.fn 43).keep () (x.ns 24) ()) (br rfl) rfl () ⋯)
  (ar (bz (eQ (aW (gS (eV x 84) eo rfl) (gS (eV x 50) aq rfl) rfl) (eQ (gU (aW (eV x 50) aq rfl) (gU (aW (eV x 84) (cq (kl (ag ⋯ (eV x 50) aj) ⋯ () (x.ns 11)) (d0 ()) (cj (br rfl) rfl ()) (bu (by decide)) trivial (cx (ag ⋯ (cx (ag ⋯ (eV x 74) (ag ⋯ (eV x 77) (ag ⋯ (eV x 79) (ag ⋯ (eV x 4) aj)))) ⋯ (CY x (Nat.one_le_of_lt hn)) (x.fn 41).keep () (x.ns 22) ()) aj) ⋯ (HW x (Nat.one_le_of_lt hn)) (x.fn 42).keep () (x.ns 23) ()) (λ_ _=>rfl)) rfl) ix)) fJ)) (ar (aQ gf)) bg))) bg)
  (ak (bz (eQ (aW (au (eV x 78) (ag ⋯ (eV x 41) (ag ⋯ (eV x 79) (ag ⋯ (eV x 49) aj))) ⋯ (zM x (cX hn)) (x.cg 1) (br rfl) rfl (mo (x.find 46) (x.fn 36)) nofun) (eV x 81) rfl) (eQ (aW (au (eV x 78) (ag ⋯ (eV x 81) aj) ⋯ (zN x (cX hn)) (x.cg 1) (br rfl) rfl (mo (x.find 45) (x.fn 38)) nofun) (aM (ag ⋯ (eV x 79) (ag ⋯ (eV x 49) aj))) rfl) fJ)) (ar (aQ gf)) bg)
  (ak (bz (eQ (aW (au (eV x 78) (ag ⋯ (eV x 41) (ag ⋯ (eV x 79) aj)) ⋯ (pO x (cX hn)) (x.cg 1) (br rfl) rfl (mo (x.find 40) (x.fn 32)) nofun) (eV x 50) rfl) (eQ (aW (au (eV x 78) (ag ⋯ (eV x 41) (ag ⋯ (aI (eV x 79) aq) aj)) ⋯ (pO x (cX hn)) (x.cg 1) (br rfl) rfl (mo (x.find 40) (x.fn 32)) nofun) aq rfl) fJ)) (ar (aQ gf)) bg)
  (ak (gx (bf (aM (ag ⋯ (eA aq) (ag ⋯ (eA aq) (ag ⋯ (eA (eV x 50)) (ag ⋯ (aI (eA (eV x 50)) aq) (ag ⋯ (eV x 50) (ag ⋯ (aI (eV x 50) aq) aj)))))))) (d0 ()) (cj (br rfl) rfl ()) (bu (by decide)) trivial (au (eV x 78) (ag ⋯ (eV x 41) (ag ⋯ (eV x 79) (ag ⋯ (eV x 4) aj))) ⋯ (zM x (cX hn)) (x.cg 1) (br rfl) rfl (mo (x.find 46) (x.fn 36)) nofun) (λ_ _=>rfl) (br rfl) rfl () (λenv h=>by cases env;cases h;kernel_rfl))
  (ar (aQ (r8 (gS (cq (bf (eV x 86)) (d0 ()) (cj (br rfl) rfl ()) (bu (by decide)) (aW (eV x 62) eo rfl) (eV x 62) (λ_ _=>rfl)) (dm aj) rfl) (gS (au (eV x 78) (ag ⋯ (eV x 41) (ag ⋯ aq (ag ⋯ aq aj))) ⋯ (zM x (cX hn)) (x.cg 1) (br rfl) rfl (mo (x.find 46) (x.fn 36)) nofun) eo rfl))))))))))))
theorem Li (x:dI)(hn:70<=n):aZ n 536 kE:=bX hn (x.fn 44) () λ_ h=>Lh x h
def C0:MS:=
 (aL (cP (dZ [71,53]) (bj [(dj [(bQ [] (aA 87) (bl (iO 40 (ai 88))) none (aU .Mod (x9 Ha [(ai 87)]) (ah (.int 5040)))),(ah (.int 0))]),(bZ (sO 3 jx) [])]))
 (aL (cP (bp [89,90]) (bj [(ax 3 44 (lS 2) (ai 53) [(bj [(ah (.str [97]))])]),(ax 3 44 (lS 2) (ai 53) [(bj [(ah (.str [122]))])])]))
 (aL (bM (ax 3 36 eW (ai 53) [(ai 89),(ax 3 45 CW (ai 53) [(ah (.str [112])),(bj [(ai 89),(ai 89)])]),(bj [(ah (.str [116,111,108,100])),(ah (.str [116]))])]))
 (aL (bM (ax 3 91 j6 (ai 53) []))
 (aL (cP (bp [78,92]) (bj [(bZ (sO 1 iC) [(ai 53)]),(CK (cZ [(ah (.str [98])),(ah (.str [99]))]) (aU .Sub (ah (.int 1)) (aU .Mult (ah (.int 2)) (bZ jy [(ai 71),(ah (.int 2))]))))]))
 (aL (df (aA 93) (iY (ah (.int 3))) (aL (fw (bx .Gt (ai 93) (ah (.int 0))) (aL (bM (ax 3 36 eW (ai 53) [(ax 3 44 (lS 2) (ai 53) [(bj [(cv (ai 92) (aU .Sub (ai 93) (ah (.int 1))))])]),(ai 89),(bj [(ah (.str [116,111,108,100])),(ah (.str [116]))])]))
 (bM (ax 3 91 j6 (ai 53) []))) bF)
 (aL (cP (dZ [74,79]) (bj [(qg (cZ [(ah (.str [97]))]) (xy (ai 92) (ai 93))),(aU .Add (ah (.int 1)) (aU .Mult (ah (.int 2)) (bZ jy [(ai 71),(ah (.int 6))])))]))
 (aL (aB (aA 50) (cv (bZ gX [(bV .len [(ai 74)]),(ah (.int 11))]) (bj [(ah (.int 1)),(ai 79)])))
 (aL (cP (dZ [49,82]) (bj [(bZ jy [(ai 71),(ai 50)]),(bZ jy [(ai 71),(ah (.int 3))])]))
 (aL (fw (jF [(bx .Eq (ai 82) (ah (.int 2))),(jE .Lt .LtE (ah (.int 60)) (ai 50) (ah (.int 10000)))]) (aB (aA 82) (ah (.int 0))) bF)
 (fw (rX (o9 (bZ kE [(ai 78),(ai 89),(ai 74),(ai 79),(ai 49),(ai 82)]))) (cp (ah (.bool false))) bF)))))))
 (fw (rY [(bx .NotEq (ax 1 50 dS (ai 78) [(ai 90),(ah (.int 200))]) (ah (.int 0))),(bx .IsNot (ax 1 85 iQ (ai 78) [(ai 90),(ah (.int 200)),(ah (.int 0))]) (ah .none))]) (cp (ah (.bool false))) bF)))))))
theorem Si (x:dI)(hn:70<=n):cf n (kP 45).scope (kP 45).body.dropLast C0:=by
 conv=>arg 2;whnf
 conv=>arg 3;whnf
 exact(ak (dE (aM (ag ⋯ (cz (ag ⋯ (cq (bf (m7 (eV x 88))) (d0 ()) (cj (br rfl) rfl ()) (bu (by decide)) trivial (aI (oG (.inr ⟨_,rfl⟩) OE (by decide +kernel) (by decide) rfl (ag ⋯ (eV x 87) aj) ⋯ () (x.ns 25)) aq) (λ_ _=>rfl)) (ag ⋯ aq aj))) (ag ⋯ (cx aj ⋯ (x.cc 3 (cX hn) (zB x (n:=3) (Nat.le_of_ble_eq_true rfl)) (x.fn 15).typ) (x.ck 3) () (x.ns 26) ()) aj))) (eD ()) ⋯ (λenv h=>by cases env;cases h;kernel_rfl))
  (ak (gv (dK (eD ()) (λ_=>(.cons (aG rfl) (.cons (aG rfl) .nil))) ⋯) (aM (ag ⋯ (au (eV x 53) (ag ⋯ (aM (ag ⋯ (cY ()) aj)) aj) ⋯ (HO x 2 (cX hn)) (x.cg 3) (br rfl) rfl (mo (x.find 27) (x.fn 22)) nofun) (ag ⋯ (au (eV x 53) (ag ⋯ (aM (ag ⋯ (cY ()) aj)) aj) ⋯ (HO x 2 (cX hn)) (x.cg 3) (br rfl) rfl (mo (x.find 27) (x.fn 22)) nofun) aj))) ⋯ (λenv h=>by cases env;cases h;kernel_rfl))
  (ak (bE (au (eV x 53) (ag ⋯ (eV x 89) (ag ⋯ (au (eV x 53) (ag ⋯ (cY ()) (ag ⋯ (aM (ag ⋯ (eV x 89) (ag ⋯ (eV x 89) aj))) aj)) ⋯ (M8 x (cX hn)) (x.cg 3) (br rfl) rfl (mo (x.find 28) (x.fn 21)) nofun) (ag ⋯ (aM (ag ⋯ (cY ()) (ag ⋯ (cY ()) aj))) aj))) ⋯ (oN x (cX hn)) (x.cg 3) (br rfl) rfl (mo (x.find 47) (x.fn 23)) nofun) ⋯)
  (ak (bE (au (eV x 53) aj ⋯ (zH x (cX hn)) (x.cg 3) (br rfl) rfl (mo (x.find 48) (x.fn 24)) nofun) ⋯)
  (ak (gv (dK (eD ()) (λ_=>(.cons (aG rfl) (.cons (aG rfl) .nil))) ⋯) (aM (ag ⋯ (cx (ag ⋯ (eV x 53) aj) ⋯ (x.cc 1 (cX hn) (uW x (n:=1) (Nat.le_of_ble_eq_true rfl)) (x.fn 29).typ) (x.ck 1) () (x.ns 27) ()) (ag ⋯ (Bz (dm (ag ⋯ (cY ()) (ag ⋯ (cY ()) aj))) (aI aq (aI aq (cx (ag ⋯ (eV x 71) (ag ⋯ aq aj)) ⋯ (rC x (Nat.one_le_of_lt hn)) (x.fn 39).keep () (x.ns 28) ())))) aj))) ⋯ (λenv h=>by cases env;cases h;kernel_rfl))
  (ak (cN (dA (br rfl) rfl ()) (kl (ag ⋯ aq aj) ⋯ () (x.ns 11)) (ak (bz (aW (eV x 93) aq rfl) (ak (bE (au (eV x 53) (ag ⋯ (au (eV x 53) (ag ⋯ (aM (ag ⋯ (bb (eV x 92) (aI (eV x 93) aq) (λ_ _=>⟨_,rfl⟩)) aj)) aj) ⋯ (HO x 2 (cX hn)) (x.cg 3) (br rfl) rfl (mo (x.find 27) (x.fn 22)) nofun) (ag ⋯ (eV x 89) (ag ⋯ (aM (ag ⋯ (cY ()) (ag ⋯ (cY ()) aj))) aj))) ⋯ (oN x (cX hn)) (x.cg 3) (br rfl) rfl (mo (x.find 47) (x.fn 23)) nofun) ⋯)
  (ar (bE (au (eV x 53) aj ⋯ (zH x (cX hn)) (x.cg 3) (br rfl) rfl (mo (x.find 48) (x.fn 24)) nofun) ⋯))) bg)
  (ak (dE (aM (ag ⋯ (nA (dm (ag ⋯ (cY ()) aj)) (zk (eV x 92) (eV x 93))) (ag ⋯ (aI aq (aI aq (cx (ag ⋯ (eV x 71) (ag ⋯ aq aj)) ⋯ (rC x (Nat.one_le_of_lt hn)) (x.fn 39).keep () (x.ns 28) ()))) aj))) (eD ()) ⋯ (λenv h=>by cases env;cases h;kernel_rfl))
  (ak (aN (bb (cx (ag ⋯ (ba (ag ⋯ (eV x 74) aj) ⋯ () (x.ns 2)) (ag ⋯ aq aj)) ⋯ (wd x (Nat.one_le_of_lt hn)) (x.fn 40).keep () (x.ns 21) ()) (aM (ag ⋯ aq (ag ⋯ (eV x 79) aj))) (λ_ _=>⟨_,rfl⟩)) (br rfl) rfl () ⋯)
  (ak (dE (aM (ag ⋯ (cx (ag ⋯ (eV x 71) (ag ⋯ (eV x 50) aj)) ⋯ (rC x (Nat.one_le_of_lt hn)) (x.fn 39).keep () (x.ns 28) ()) (ag ⋯ (cx (ag ⋯ (eV x 71) (ag ⋯ aq aj)) ⋯ (rC x (Nat.one_le_of_lt hn)) (x.fn 39).keep () (x.ns 28) ()) aj))) (eD ()) ⋯ (λenv h=>by cases env;cases h;kernel_rfl))
  (ak (bz (gU (aW (eV x 82) aq rfl) (gU (k9 aq (eV x 50) aq rfl) ix)) (ar (aN aq (br rfl) rfl () ⋯)) bg)
  (ar (bz (md (mf (cx (ag ⋯ (eV x 78) (ag ⋯ (eV x 89) (ag ⋯ (eV x 74) (ag ⋯ (eV x 79) (ag ⋯ (eV x 49) (ag ⋯ (eV x 82) aj)))))) ⋯ (Li x (dN hn)) (x.fn 44).keep () (x.ns 29) ()) (λ_ _=>rfl))) (ar (aQ gf)) bg))))))) (λ_ _=>rfl))
  (ar (bz (eQ (aW (au (eV x 78) (ag ⋯ (eV x 90) (ag ⋯ aq aj)) ⋯ (pO x (cX hn)) (x.cg 1) (br rfl) rfl (mo (x.find 40) (x.fn 32)) nofun) aq rfl) (eQ (aW (au (eV x 78) (ag ⋯ (eV x 90) (ag ⋯ aq (ag ⋯ aq aj))) ⋯ (zM x (cX hn)) (x.cg 1) (br rfl) rfl (mo (x.find 46) (x.fn 36)) nofun) eo rfl) fJ)) (ar (aQ gf)) bg))))))))
end
structure zO (jP sc:Scope)(dq:List Nat):Prop where
 co:jP.isCoroutine=false
 gen:jP.isGenerator=false
 kind:jP.kind=.function
 sG :∀y∈jP.names,y.2≠.cell
 nodup :(jP.names.map (·.1)).Nodup
 free :∀y∈jP.names,y.2=.free->sc.names.lookup y.1=some .cell
 dq :∀j∈dq,(W.nm j,NameKind.free)∈jP.names/\jP.names.lookup (W.nm j)=some .free
def HY (jP sc:Scope)(dq:List Nat):Bool:=
 !jP.isCoroutine&&!jP.isGenerator&&decide (jP.kind=.function)&&jP.names.all (λy=>!decide (y.2=.cell))&&decide (jP.names.map (·.1)).Nodup&&
  jP.names.all (λy=>!decide (y.2=.free)||decide (sc.names.lookup y.1=some .cell))&&dq.all λj=>decide ((yh j,NameKind.free)∈jP.names)&&decide (jP.names.lookup (yh j)=some .free)
theorem zP (dq:List Nat)(h:HY jP sc dq=true):zO jP sc dq:=by
 refine ct λG hG=>?_;simp only[HY,Bool.and_eq_true,decide_eq_true_eq,List.all_eq_true,Bool.or_eq_true,Bool.not_eq_true',decide_eq_false_iff_not] at h;obtain⟨⟨⟨⟨⟨⟨h0,h1⟩,h2⟩,h3⟩,h4⟩,h5⟩,h6⟩:=h;refine hG ?_;exact⟨h0,h1,h2,h3,h4,λy hy e=>(h5 y hy).resolve_left λq=>q e,h6⟩
theorem zQ (h :∀y∈jP.names,y.2≠.cell)(x:Str):jP.names.lookup x≠some .cell:=λe=>h _ (mem_of_lookup e) rfl
noncomputable def HZ (P:Arguments)(n:Str):Bool:=P.posonlyargs.isEmpty&&P.vararg.isNone&&P.kwonlyargs.isEmpty&&P.kw_defaults.isEmpty&&P.kwarg.isNone&&P.defaults.isEmpty&&decide (P.args.map (·.arg)=[n])
section
variable {x:dI}
theorem tP (x:dI){body:Expr}{Lj:Pos}(ok:b9 (n+2) a)(S:St Z U s)(F:FS a fr Z s.heap)(hx:a.env.scope.names.lookup (ofString "_law_is_refused")=some .globalImplicit)(hr:nsIn W.K mainGlobals (ofString "_law_is_refused")=some (some (.ref 531)))(hl:nsIn W.K mainGlobals (ofString "LimitFault")=some (some (.ref 72)))(vT:a.env.code=.ref 540)(C:CodeHd s.heap 540 538)(hP:s.heap.get? 538=some (tabObj ps))(ht:TriplesOk ps.toList)(MP:codeAmong Lj ps.toList=none)(TV:W.h₀.get? 538=none)(HB:W.h₀.BuiltinsAt W.mg 538)(ls:zO jP a.env.scope dq)(hE:cm n jP body fe)(he:fe (jO fr dq) U=.exc 4 bB)(FN:As W.K 531 (hY 26))(h :∀bK s' c',St bK bB s'->FS a fr bK s'.heap->s'.heap.get? 538=some (tabObj (ps++#[rawInt Lj.line,rawInt Lj.col,.ref c']))->CodeHd s'.heap 540 538->Q (.bool true) s') :
  wpAny bS a.A (eval (.Call (.Name (ofString "_law_is_refused") np) [.Lambda zq body jP Lj] [] pos) a.env) Q E s:=by
 refine Call_Name rfl (i4 ok S hx hr (by kernel_rfl) ?_);refine callWith_of (P:=W.K.In) rfl (keeps_K FN.keep) (c7 rfl (args_cons (Hw ok S F vT C hP ht MP TV HB ls.free λc' OQ tk H1 yb K7 Hx Zb C1 S1 F1 sd=>args_nil ⟨x.O.X.keeps S1.heap.base,?_⟩) rfl));refine ct λG hG=>?_;obtain⟨o,fd,ho,GD,e1,e2,e3,e4,e5,e6,e7,e8,e9⟩:=FN.fd;have sJ :∀y c,(y,c)∈jX a.env.cells jP.names []->(y,c)∈a.env.cells:=λy c hm=>by
  rcases sH hm with z|⟨z1,z2⟩
  .cases z
  .obtain⟨c2,xY⟩:=F.laid y (ls.free _ z1 rfl)
   rw[xY] at z2;exact rl z2<|mem_of_lookup xY
 have hb:=(rfl :(hY 26).body =(hY 26).body);refine hG ?_
 conv at hb=>rhs;whnf
 rw[hb] at e1;have q1 :((hY 26).scope.names.all λy=>!decide (y.2=.cell))=true:=by kernel_rfl
 simp only[List.all_eq_true,Bool.not_eq_true',decide_eq_false_iff_not] at q1;have q2:HZ (hY 26).params (ofString "ask")=true:=by kernel_rfl
 have Sj :∀(M:Model) (A:Around) (Q:List (Str×Value)->Shared->Prop) (E:iN) (s:Shared),Q [(ofString "ask",.ref yb)] s->wpAny M A (bindArgs fd ⟨[.ref yb],[]⟩) Q E s:=λM A Q E s hq=>by
  generalize (hY 26).params=P at q2 e3;obtain⟨a1,a2,a3,a4,a5,a6,a7⟩:=P;simp only[HZ,Bool.and_eq_true,decide_eq_true_eq,List.isEmpty_iff,Option.isNone_iff_eq_none] at q2;obtain⟨⟨⟨⟨⟨⟨rfl,rfl⟩,rfl⟩,rfl⟩,rfl⟩,rfl⟩,h8⟩:=q2;refine tF e3 e7 (rl h8<|List.nodup_cons.mpr ⟨λh=>(nomatch h),.nil⟩) (by have:=aP List.length h8;rw[cJ] at this;exact this.symm) ?_
  exact rl h8<|hq
 refine PySem.wpAny_call (BH (n:=n) (c:=4) (bB:=bB) ho GD e1 e2 e4 e5 e6 e9 Sj (by kernel_rfl) (by kernel_rfl) (by kernel_rfl) q1 (zQ q1) (by kernel_rfl) (by kernel_rfl) hl (by kernel_rfl) (by kernel_rfl) (λ_=>rfl) (x.F.ex.Mx:W.K.lookup (W.cls 4)=_) CQ ok.torW S1 F1.live K7 rfl
  (λA' l' s1 R room S1' L1' k hR=>?_) λbK s' S' x'=>?_)
 .have lz :∀{c:Addr} {v:Option Value},H1.IsCell c v->s1.heap.IsCell c v:=λ{c v} ⟨o,ho,hd⟩=>⟨o,k _ _ ho,hd⟩
  refine ct λG hG=>?_;obtain⟨c2,oc,vc,tq,r1,r2,r3⟩:=Hx;refine hG ?_;refine HA (cH:=jO fr dq) room S1' L1' (k _ _ K7) ⟨c2,oc,vc,tq,r1,k _ _ r2,r3⟩ ls.co ls.gen ls.kind ls.sG (zQ ls.sG) (λy c hy=>?_) ?_ (λi v ei=>?_) hE he hR
  .obtain⟨w1,w2,v,w3⟩:=F1.cells y c (sJ y c hy)
   exact⟨w1,w2,v,lz w3⟩
  .have h1:=sI (cells:=a.env.cells) (bh:=[]) ls.nodup .nil (by simp)
   exact List.Pairwise.imp_of_mem (λ{x y} hx hy dg=>vv F.apart (sJ x.1 x.2 hx) (sJ y.1 y.2 hy) dg) h1
  .obtain⟨hj,hl⟩:=ko ei
   refine ct λG hG=>?_;obtain⟨Q3,V2⟩:=ls.dq i hj;obtain⟨_,_,hv⟩:=F1.ns;obtain⟨hi,rv⟩:=hv i v hl;have hk:a.env.kindOf (W.nm i)=some .cell:=ls.free _ Q3 rfl;unfold iD at rv;rw[hk] at rv;obtain⟨c,mv,w1,w2,w3⟩:=rv;refine hG ?_;refine⟨hi,V2,c,mv,?_,lz w2,w3.eN (cF.of_keeps (D:=[]) k).jQ⟩;exact rl (lA Q3)<|rl w1 rfl
 .have nP:538∉bH Z:=λhm=>by
   obtain⟨ob,e,q⟩:=S1.heap.gL hm;rw[Zb] at e;injection e with e;subst e;rcases q with q |q <;> simp at q
  refine ct λG hG=>?_;obtain⟨o',vs,Hy,tf,zt,tg,Sb,Hz,tt,z1,z2,z3,z4⟩:=C1;have Xl:540∉bH Z:=λhm=>by
   obtain⟨ob,e,q⟩:=S1.heap.gL hm;rw[z1] at e;injection e with e;subst e;rw[z2] at q;rcases q with q |q <;> simp at q
  refine hG ?_;exact h bK s' c' S' (F1.ext x') (x'.keep _ _ Zb nP rfl) ⟨o',vs,Hy,tf,zt,tg,Sb,Hz,tt,x'.keep _ _ z1 Xl (aP eJ z3),z2,z3,z4⟩
end
set_option tactic.hygienic true
theorem Lk (h:Heap) :(Au h).In h:=by
 have :∀l:List Addr,∀a o,(l.filterMap λa=>(h.get? a).map λo=>(a,o)).lookup a=some o->h.get? a=some o:=by
  intro l
  induction l with
  |nil=>intro a o e;injection e
  |cons b l ih=>
   intro a o e;rw[List.filterMap_cons] at e
   cases hb:h.get? b with
   |none=>rw[hb] at e;exact ih a o e
   |some x=>
    rw[hb] at e;simp only[Option.map_some,List.lookup_cons] at e
    split at e
    .rename_i q;injection e with e;subst e;exact rl (beq_iff_eq.mp q)<|hb
    .exact ih a o e
 exact this _
theorem Sk {K:Frag}{a:Addr}{P:iU}(e:FP K a=FQ P):As K a P:=by
 unfold FP FQ at e;simp only[Prod.mk.injEq] at e;obtain⟨e1,e2,e3⟩:=e;refine⟨e1,e2,?_⟩
 split at e3
 .rename_i c d fd sl ho
  simp only[Option.some.injEq,Prod.mk.injEq] at e3;obtain⟨h1,h2,h3,h4,h5,h6,h7,h8,h9⟩:=e3;exact⟨_,fd,ho,rfl,h1,h2,h3,h4,h5,h6,h7,h8,h9⟩
 .injection e3
theorem O7 {K:Frag}{c f:Addr}(e:Aw K c=Ax f):FK K c f:=by
 unfold Aw Ax at e;simp only[Prod.mk.injEq,List.cons.injEq,and_true] at e;obtain⟨⟨h1,h2,h3,h4,h5⟩,h6,h7⟩:=e;exact⟨h1,h2,h3,h4,h5,h6,h7⟩
theorem EI {K:Frag}(e:Az K=AA):keepIn K (.ref 72)=true/\ExcAt K:=by
 unfold Az AA at e;simp only[Prod.mk.injEq,List.cons.injEq,and_true] at e;obtain⟨⟨h2,h3,h4⟩,⟨h5,h6,h7⟩,h8,h9,uk,h11,h12,h13,Xm⟩:=e;refine⟨h2,h5,h6,?_,h7,h4,h9,uk,h11,h12,h13,Xm⟩
 split at h8
 .rename_i c d vs sl ho
  simp only[Option.some.injEq,Prod.mk.injEq] at h8;obtain⟨rfl,rfl,rfl,q⟩:=h8;exact⟨vs,_,ho,q,h3⟩
 .injection h8
theorem H0 {K:Frag}(e:AB K=AD):u6 K:=by
 unfold AB AD at e;simp only[Prod.mk.injEq,List.map_inj_left,List.mem_range] at e;obtain⟨h1,h2,h3,h4,h5,h6⟩:=e;obtain⟨b,c⟩:=EI h6;exact⟨h1,h2,h3,λk hk=>O7 (h4 k hk),λi hi=>Sk (h5 i hi),b,c⟩
theorem Ll (h:Heap) :(Au h).lookup 538=none:=by
 have :∀l:List Addr,538∉l->(l.filterMap λa=>(h.get? a).map λo=>(a,o)).lookup 538=none:=by
  intro l
  induction l with
  |nil=>intro _;rfl
  |cons b l ih=>
   intro hn;have h1:538≠b:=λz=>hn (z▸.head _);have h2:538∉l:=λz=>hn (.tail _ z);refine rl List.filterMap_cons ?_
   cases hb:h.get? b with
   |none=>exact ih h2
   |some x=>
    simp only[Option.map_some,List.lookup_cons];exact rl (show((538:Addr) == b)=false from beq_eq_false_iff_ne.mpr h1)<|ih h2
 exact this _ (by decide +kernel)
theorem Lm {h:Heap}(e:wJ h=wK):CodeHd h 540 538:=by
 unfold wJ wK at e
 split at e
 .rename_i c d vs sl ho
  simp only[Option.some.injEq,Prod.mk.injEq,List.cons.injEq,and_true] at e;obtain⟨h1,h2,h3,h4,h5,h6,h7⟩:=e;exact⟨_,vs,_,_,_,_,_,_,_,ho,h1,rfl,h2,h3,h4,h5,h6,h7,by decide⟩
 .injection e
theorem BO {h:Heap}{v:Value}(e:wL h=some v) :∃o fd,h.get? 541=some o/\o.data=.func fd/\fd.code=v:=by
 unfold wL at e
 split at e
 .rename_i c d fd sl ho
  exact⟨_,fd,ho,rfl,Option.some.inj e⟩
 .injection e
theorem Xn (w:World)(s:Shared)(e:Yf s=Ya w):YP w s.heap:=by
 unfold Yf Ya at e;simp only[Prod.mk.injEq] at e;exact⟨⟨_,Lk _,H0 e.1,Ll _⟩,Option.isSome_iff_exists.mp e.2.1,Lm e.2.2.1,e.2.2.2.1,BO e.2.2.2.2⟩
theorem Ln (w:World)(h h':Heap)(y:YP w h)(k :∀b o,h.get? b=some o->h'.get? b=some o):YP w h':=by
 obtain⟨⟨K,x,F,n⟩,⟨o,ho⟩,c,t,ol,fd,hl,r⟩:=y;exact⟨⟨K,x.keeps k,F,n⟩,⟨o,k _ _ ho⟩,c.keeps k,k _ _ t,ol,fd,k _ _ hl,r⟩
set_option tactic.hygienic false
noncomputable def fo (L:Nat):Nat->Nat->Nat
 |0,t=>if t=0 then 1 else 0
 |n+1,t=>if t=0 then 0 else L * fo L n (t - 1)+fo L n (t+1)
noncomputable def fY (w:Nat):List Nat->Nat->Option Nat×Nat
 |[],k=>(none,k)
 |l::ls,k=>if k<w then (some l,k) else fY w ls (k - w)
noncomputable def aX (ls:List Nat):Nat->Nat->Nat->List Nat
 |0,_,_=>[]
 |n+1,t,k=>match fY (fo ls.length n (t - 1)) ls k with
  | (some l,k')=>l::aX ls n (t - 1) k'
  | (none,k')=>112::aX ls n (t+1) k'
inductive T where
 |leaf (l:Nat)
 |node (a b:T)
noncomputable def T.pre:T->List Nat
 |.leaf l=>[l]
 |.node a b=>112 ::(a.pre++b.pre)
def H3 (ts:List T):List Nat:=ts.flatMap T.pre
noncomputable def fZ (s:Nat)(st:List T):List T:=if s=112 then (match st with |a::b::r=>.node a b::r |_=>[]) else .leaf s::st
def gm (ss:List Nat):List T:=ss.foldr fZ []
theorem ji {w:Nat} :∀{ls:List Nat} {k l k':Nat},fY w ls k =(some l,k')->l∈ls/\k'<w:=by
 intro y
 induction y with
 |nil=>
  intro _ _ _ e
  cases e
 |cons a ls ih=>
  intro k l k' e;replace e :(if k<w then (some a,k) else fY w ls (k - w)) =(some l,k'):=e;by_cases hk:k<w
  .rw[ay hk] at e;injection e with e1 e2;injection e1 with e1;subst e1;subst e2;exact⟨.head _,hk⟩
  .rw[av hk] at e;exact⟨.tail _ (ih e).1,(ih e).2⟩
theorem kF {w:Nat} :∀{k k':Nat},fY w ls k =(none,k')->k=k'+ls.length * w:=by
 induction ls with
 |nil=>intro k k' e;injection e with _ e;subst e;exact(aP (k + ·) (Nat.zero_mul w)).symm
 |cons a ls ih=>
  intro k k' e;replace e :(if k<w then (some a,k) else fY w ls (k - w)) =(none,k'):=e;by_cases h:k<w
  .rw[ay h] at e;injection e with e _;injection e
  .rw[av h] at e
   have:=ih e;rw[List.length_cons,Nat.succ_mul];exact Uw h (ih e)
theorem rE (L n:Nat):fo L n 0=if n=0 then 1 else 0:=by cases n <;> simp[fo]
theorem oR (hO:112∉ls) :∀(n t k:Nat),k<fo ls.length n t->∃ts:List T,ts.length=t/\gm (aX ls n t k)=ts/\H3 ts=aX ls n t k:=by
 intro y
 induction y with
 |zero=>
  intro t k h;have ht:t=0:=by
   replace h:k<(if t=0 then 1 else 0):=h;by_cases ht:t=0
   .exact ht
   .rw[av ht] at h;exact absurd h (Nat.not_lt_zero _)
  subst ht;exact⟨[],rfl,rfl,rfl⟩
 |succ n ih=>
  intro t k h;have ht:t≠0:=λz=>absurd (Nat.lt_of_lt_of_eq h (ay z)) (Nat.not_lt_zero _);have h':k<ls.length * fo ls.length n (t - 1)+fo ls.length n (t+1):=by
   exact Nat.lt_of_lt_of_eq h (av ht)
  unfold aX
  cases hp:fY (fo ls.length n (t - 1)) ls k with
  |mk o k'=>
  cases o with
  |some l=>
   obtain⟨h1,h2⟩:=ji hp;obtain⟨ts,e1,e2,e3⟩:=ih (t - 1) k' h2;have hl:l≠112:=λz=>hO (z▸h1);refine⟨.leaf l::ts,by rw[List.length_cons];exact Uz ht e1,?_,?_⟩
   .show fZ l (gm (aX ls n (t - 1) k'))=_
    rw[e2];unfold fZ;rw[av hl]
   .show [l]++H3 ts=_
    rw[e3];rfl
  |none=>
   have h1:=kF hp;obtain⟨ts,e1,e2,e3⟩:=ih (t+1) k' (Dv h' h1)
   match ts,e1 with
   |a::b::r,e1=>
    refine⟨.node a b::r,by simp only[List.length_cons] at e1 ⊢;exact Nat.add_right_cancel e1,?_,?_⟩
    .show fZ 112 (gm (aX ls n (t+1) k'))=_
     rw[e2];rfl
    .show 112 ::(a.pre++b.pre)++H3 r=112::aX ls n (t+1) k'
     rw[<- e3];show _=112 ::(a.pre++(b.pre++H3 r));simp
   |[a],e1=>simp only[List.length_cons,List.length_nil] at e1;lia
   |[],e1=>simp only[List.length_nil] at e1;lia
theorem j9 (ls:List Nat) :∀(n t k:Nat),(aX ls n t k).length=n:=by
 intro y
 induction y with
 |zero=>
  intro _ _;exact rfl
 |succ n ih=>
  intro t k;unfold aX
  cases fY (fo ls.length n (t - 1)) ls k with
  |mk o k'=>cases o <;> simp[ih]
theorem Lo (L:Nat)(f g:Y->Nat) :∀l:List Y,(l.map λx=>L * f x+g x).sum=L * (l.map f).sum+(l.map g).sum:=by
 intro y
 induction y with
 |nil=>
  exact rfl
 |cons x l ih=>
  simp only[List.map_cons,List.sum_cons,ih,Nat.mul_add];exact Nat.add_add_add_comm (L * f x) (g x) (L * (List.map f l).sum) (List.map g l).sum
theorem pP {f g:Y->Nat} :∀{l:List Y},(∀x∈l,f x=g x)->(l.map f).sum =(l.map g).sum:=by
 intro y
 induction y with
 |nil=>
  intro _;exact rfl
 |cons x l ih=>
  intro h;simp only[List.map_cons,List.sum_cons,h x (.head _),ih λy hy=>h y (.tail _ hy)]
theorem conv (L:Nat) :∀(n a b:Nat),((List.range (n+1)).map λf=>fo L f a * fo L (n - f) b).sum=fo L n (a+b):=by
 intro y
 induction y with
 |zero=>
  intro a b
  cases a <;> cases b <;> simp[fo,List.range_succ]
 |succ n ih=>
  intro a b;rw[List.range_succ_eq_map,List.map_cons,List.sum_cons,List.map_map];have e :((List.range (n+1)).map ((λf=>fo L f a * fo L (n+1 - f) b)∘Nat.succ)).sum =((List.range (n+1)).map λf=>fo L (f+1) a * fo L (n - f) b).sum:=
   pP λf _=>by show fo L (f+1) a * fo L (n+1 - (f+1)) b=_;rw[Nat.add_sub_add_right]
  rw[e]
  cases a with
  |zero=>
   have e2 :((List.range (n+1)).map λf=>fo L (f+1) 0 * fo L (n - f) b).sum =((List.range (n+1)).map λ_=>0).sum:=pP λf _=>by simp[fo]
   have e3 :∀l:List Nat,(l.map λ_=>0).sum=0:=λl=>by induction l with |nil=>rfl |cons x l ih=>simpa using ih
   rw[e2,e3];simp[rE]
  |succ a=>
   have e2 :((List.range (n+1)).map λf=>fo L (f+1) (a+1) * fo L (n - f) b).sum=L * ((List.range (n+1)).map λf=>fo L f a * fo L (n - f) b).sum+((List.range (n+1)).map λf=>fo L f (a+2) * fo L (n - f) b).sum:=by
    rw[<- Lo];refine pP λf _=>?_;show(if a+1=0 then 0 else L * fo L f (a+1 - 1)+fo L f (a+1+1)) * _=_;rw[av (Nat.succ_ne_zero _),Nat.add_mul,Nat.mul_assoc];rfl
   rw[e2,ih a b,ih (a+2) b];show(if a+1=0 then 1 else 0) * _+_ =(if a+1+b=0 then 0 else L * fo L n (a+1+b - 1)+fo L n (a+1+b+1));rw[av (Nat.succ_ne_zero _),av (NeZero.ne (a+1+b)),Nat.zero_mul,Nat.zero_add,show a+1+b - 1=a+b by exact Nat.succ_add_sub_one b a,show a+1+b+1=a+2+b by lia]
theorem rF (L:Nat) :∀(n t:Nat),n<t->fo L n t=0:=by
 intro y
 induction y with
 |zero=>
  intro t h;unfold fo;rw[av (Nat.ne_zero_of_lt h)]
 |succ n ih=>
  intro t h;unfold fo;rw[av (Nat.ne_zero_of_lt h),ih (t - 1) (Ut h),ih (t+1) (q71 ⋯)];simp
theorem rG (L n t:Nat)(h:1<=t):fo L (n+1) t=L * fo L n (t - 1)+fo L n (t+1):=by
 show(if t=0 then 0 else _)=_;rw[av (Nat.ne_zero_of_lt h)]
theorem H5 (h:L<=3) :∀(n t:Nat),fo L n t<=4 ^ n:=by
 intro y
 induction y with
 |zero=>
  intro t;unfold fo;split <;> simp
 |succ n ih=>
  intro t;show(if t=0 then 0 else _)<=_
  split
  .exact Nat.zero_le _
  .have h1:=ih (t - 1)
   have h2:=ih (t+1);have h3:L * fo L n (t - 1)<=3 * 4 ^ n:=Nat.mul_le_mul h h1;rw[Nat.pow_succ];exact UT (ih (t+1)) h3
theorem BP (L s t:Nat)(h1:1<=t)(h:t<=s) :((List.range (s - t)).map λi=>fo L (i+1) 1 * fo L (s - (i+1)) t).sum=fo L s (t+1):=by
 rw[Nat.add_comm t 1,<- conv L s 1 t,List.range_succ_eq_map,List.map_cons,List.sum_cons,List.map_map];have e0:fo L 0 1=0:=rfl;rw[e0,Nat.zero_mul,Nat.zero_add];show _ =((List.range s).map λi=>fo L (i+1) 1 * fo L (s - (i+1)) t).sum;obtain⟨d,rfl⟩ :∃d,s=d+t:=⟨s - t,Uu h⟩;have key :∀m,((List.range (d+m)).map λi=>fo L (i+1) 1 * fo L (d+t - (i+1)) t).sum =((List.range d).map λi=>fo L (i+1) 1 * fo L (d+t - (i+1)) t).sum:=by
  intro m
  induction m with
  |zero=>rfl
  |succ m ih=>
   rw[<- Nat.add_assoc,List.range_succ,List.map_append,List.sum_append,ih];simp only[List.map_cons,List.map_nil,List.sum_cons,List.sum_nil,Nat.add_zero];rw[rF L (d+t - (d+m+1)) t (Uv h1),Nat.mul_zero,Nat.add_zero]
 rw[Nat.add_sub_cancel];exact(key t).symm
noncomputable def tQ:List Nat->Prop
 |[]=>True
 |s::r=>tQ r/\(s=112->2<=(gm r).length)
theorem qu (hO:112∉ls) :∀(n t k:Nat),k<fo ls.length n t->tQ (aX ls n t k):=by
 intro y
 induction y with
 |zero=>
  intro t k h;exact trivial
 |succ n ih=>
  intro t k h;have ht:t≠0:=λz=>by subst z;simp[fo] at h
  have h':k<ls.length * fo ls.length n (t - 1)+fo ls.length n (t+1):=by
   unfold fo at h;rw[av ht] at h;exact h
  unfold aX
  cases hp:fY (fo ls.length n (t - 1)) ls k with
  |mk o k'=>
  cases o with
  |some l=>
   obtain⟨h1,h2⟩:=ji hp;exact⟨ih (t - 1) k' h2,λz=>absurd (z▸h1) hO⟩
  |none=>
   have h1:=kF hp;have hk:k'<fo ls.length n (t+1):=Dv h' h1;refine⟨ih (t+1) k' hk,λ_=>?_⟩;obtain⟨ts,e1,e2,_⟩:=oR hO n (t+1) k' hk;rw[e2,e1];exact VJ ⋯
theorem BQ (hO:112∉ls)(h:k<fo ls.length n 1) :∃t:T,gm (aX ls n 1 k)=[t]/\t.pre=aX ls n 1 k:=by
 obtain⟨ts,e1,e2,e3⟩:=oR hO n 1 k h
 match ts,e1 with
 |[t],_=>exact⟨t,e2,by rw[<- e3];simp[H3]⟩
noncomputable def bo (s:Nat):Nat:=if s=112 then 2 else 0
theorem nD {x:Nat}(h:112∉ls)(hx:x∈ls):bo x=0:=av λz=>h (by rw[<- z];exact hx)
noncomputable def jA (w:Nat->Nat):List Nat->Nat->Option (Nat×Nat)
 |[],_=>none
 |s::r,k=>if k<w s then some (s,k) else jA w r (k - w s)
noncomputable def qS (w:Nat->Nat)(x:Nat):List Nat->Nat
 |[]=>0
 |a::r=>if a=x then 0 else w a+qS w x r
theorem qv (w:Nat->Nat) :∀(xs:List Nat) (k:Nat),jA w (xs.filter λs=>decide (0<w s)) k=jA w xs k:=by
 intro y
 induction y with
 |nil=>
  intro _;exact rfl
 |cons s r ih=>
  intro k;by_cases h:0<w s
  .rw[List.filter_cons_of_pos (by simpa using h)]
   show(if k<w s then some (s,k) else jA w (r.filter _) (k - w s))=if k<w s then some (s,k) else jA w r (k - w s);rw[ih]
  .rw[List.filter_cons_of_neg (by simpa using h),ih k]
   show _=if k<w s then some (s,k) else jA w r (k - w s);rw[av (Z4 ⋯),show k - w s=k by exact Z3 ⋯]
theorem H6 {w:Nat->Nat} :∀{xs:List Nat} {k s k':Nat},xs.Nodup->jA w xs k=some (s,k')->s∈xs/\k'<w s/\qS w s xs+k'=k:=by
 intro y
 induction y with
 |nil=>intros;first |contradiction | (injection ‹_=some _›)
 |cons a r ih=>
  intro k s k' nd h;unfold jA at h;rw[List.nodup_cons] at nd;by_cases hk:k<w a
  .rw[ay hk] at h
   cases h;exact⟨.head _,hk,by unfold qS;rw[ay rfl,Nat.zero_add]⟩
  .rw[av hk] at h
   obtain⟨h1,h2,h3⟩:=ih nd.2 h;refine⟨.tail _ h1,h2,?_⟩;unfold qS;rw[av (show¬a=s from λz=>nd.1 (by rw[z];exact h1))];exact Ux hk h3
theorem H7 {w:Nat->Nat}{v:Nat}(y:Nat) :∀(xs:List Nat) (k:Nat),(∀x∈xs,w x=v)->jA w (xs++[y]) k=match fY v xs k with
  | (some l,k')=>some (l,k')
  | (none,k')=>if k'<w y then some (y,k') else none:=by
 intro y
 induction y with
 |nil=>
  intro k _;exact rfl
 |cons x xs ih=>
  intro k h;show(if k<w x then some (x,k) else jA w (xs++[y]) (k - w x))=_;rw[h x (.head _),ih (k - v) λz hz=>h z (.tail _ hz)];unfold fY;by_cases hk:k<v
  .rw[ay hk,ay hk]
  .rw[av hk,av hk]
   conv=>rhs;unfold fY
theorem we (hO:112∉ls){t:Nat}(hk:k<fo ls.length (n+1) (t+1)) :
  ∃s k',jA (λs=>fo ls.length n (t+bo s)) (ls++[112]) k=some (s,k')/\aX ls (n+1) (t+1) k=s::aX ls n (t+bo s) k'/\k'<fo ls.length n (t+bo s):=by
 rw[rG _ _ _ (Nat.le_add_left 1 t)] at hk;have e:=H7 (w:=λs=>fo ls.length n (t+bo s)) (v:=fo ls.length n t) 112 ls k λx hx=>by
  have:=nD hO hx;show fo _ n (t+bo x)=_;rw[this,Nat.add_zero]
 rw[e];rw[Nat.add_sub_cancel] at hk;have es:aX ls (n+1) (t+1) k=match fY (fo ls.length n t) ls k with
  | (some l,k')=>l::aX ls n t k'
  | (none,k')=>112::aX ls n (t+2) k':=rfl
 rw[es]
 cases hp:fY (fo ls.length n t) ls k with
 |mk o k'=>
  cases o with
  |some l=>
   obtain⟨h1,h2⟩:=ji hp;have ha:=nD hO h1;exact⟨l,k',rfl,by rw[ha];rfl,by rw[ha];exact h2⟩
  |none=>
   have h1:=kF hp;have h2:k'<fo ls.length n (t+2):=by rw[show t+1+1=t+2 from rfl] at hk;exact Dv hk h1
   exact⟨112,k',ay h2,rfl,h2⟩
inductive fk {mX:Type}(p0 p1:mX->Prop):Prop
 |mk (a0:mX) (h0:p0 a0) (h1:p1 a0):fk p0 p1
inductive O8 {mX:Type}(p0 p1 p2:mX->Prop):Prop
 |mk (a0:mX) (h0:p0 a0) (h1:p1 a0) (h2:p2 a0):O8 p0 p1 p2
inductive Sl {mX:Type}(p0 p1 p2 p3 p4:mX->Prop):Prop
 |mk (a0:mX) (h0:p0 a0) (h1:p1 a0) (h2:p2 a0) (h3:p3 a0) (h4:p4 a0):Sl p0 p1 p2 p3 p4
inductive Lp {mX tR:Type}(p0 p1:mX->tR->Prop):Prop
 |mk (a0:mX) (a1:tR) (h0:p0 a0 a1) (h1:p1 a0 a1):Lp p0 p1
inductive qT {mX tR:Type}(p0 p1 p2:mX->tR->Prop):Prop
 |mk (a0:mX) (a1:tR) (h0:p0 a0 a1) (h1:p1 a0 a1) (h2:p2 a0 a1):qT p0 p1 p2
inductive O9 {mX tR:Type}(p0 p1 p2 p3:mX->tR->Prop):Prop
 |mk (a0:mX) (a1:tR) (h0:p0 a0 a1) (h1:p1 a0 a1) (h2:p2 a0 a1) (h3:p3 a0 a1):O9 p0 p1 p2 p3
inductive Pa {mX tR:Type}(p0 p1 p2 p3 p4:mX->tR->Prop):Prop
 |mk (a0:mX) (a1:tR) (h0:p0 a0 a1) (h1:p1 a0 a1) (h2:p2 a0 a1) (h3:p3 a0 a1) (h4:p4 a0 a1):Pa p0 p1 p2 p3 p4
inductive Pb {mX tR H8:Type}(p0:mX->tR->H8->Prop):Prop
 |mk (a0:mX) (a1:tR) (a2:H8) (h0:p0 a0 a1 a2):Pb p0
inductive Pc {mX tR H8:Type}(p0 p1 p2:mX->tR->H8->Prop):Prop
 |mk (a0:mX) (a1:tR) (a2:H8) (h0:p0 a0 a1 a2) (h1:p1 a0 a1 a2) (h2:p2 a0 a1 a2):Pc p0 p1 p2
inductive Sm {mX tR H8 Sn:Type}(p0 p1 p2:mX->tR->H8->Sn->Prop):Prop
 |mk (a0:mX) (a1:tR) (a2:H8) (a3:Sn) (h0:p0 a0 a1 a2 a3) (h1:p1 a0 a1 a2 a3) (h2:p2 a0 a1 a2 a3):Sm p0 p1 p2
inductive So {mX tR H8 Sn Zc Zd Ze:Type}(p0:mX->tR->H8->Sn->Zc->Zd->Ze->Prop):Prop
 |mk (a0:mX) (a1:tR) (a2:H8) (a3:Sn) (a4:Zc) (a5:Zd) (a6:Ze) (h0:p0 a0 a1 a2 a3 a4 a5 a6):So p0
theorem bL {m:ME Y}{k:Y->ME β}{a:Y}(e:m fr U=.ok a bB):ME.bind m k fr U=k a fr bB:=aP (λr:Res Y=>r.andThen λa bB=>k a fr bB) e
theorem aC (a:Y)(U:bw)(f:Y->bw->Res β) :(Res.ok a U).andThen f=f a U:=rfl
theorem Lq {is:List Int}{k:Int}(h0:0<=k)(h:k<is.length):uu (is.map .int) k=some (.int (is[k.toNat]'((Int.toNat_lt h0).mpr h))):=by
 have h1:k.toNat<is.length:=(Int.toNat_lt h0).mpr h;unfold uu seqIndex?;refine rl (cJ ..) ?_;simp only[show¬k<0 by exact Int.not_lt_of_ge h0,if_false,h0,h,decide_true,Bool.and_self,if_true,Option.bind_some,List.getElem?_map,List.getElem?_eq_getElem h1,Option.map_some]
noncomputable def vi:V->Int |.int i=>i |_=>0
theorem tS :∀{az:List (V×V)} {k v:V},cn az k=some v->(k,v)∈az:=by
 intro y
 induction y with
 |nil=>intros;first |contradiction | (injection ‹_=some _›)
 |cons z0 r ih=>
  obtain⟨k',v'⟩:=z0;intro k v h;replace h :(if V.beq k' k=true then some v' else cn r k)=some v:=h;by_cases hb:V.beq k' k=true
  .rw[ay hb] at h
   obtain rfl:=(V.beq_iff _ _).mp hb;injection h with h;subst h;exact .head _
  .rw[av hb] at h;exact .tail _ (ih h)
theorem wg :∀{az:List (V×V)} {k:V},cn az k=none->∀kv∈az,kv.1≠k:=by
 intro y
 induction y with
 |nil=>intros;first |contradiction | (injection ‹_=some _›)
 |cons z0 r ih=>
  obtain⟨k',v'⟩:=z0;intro k h kv hm;replace h :(if V.beq k' k=true then some v' else cn r k)=none:=h;by_cases hb:V.beq k' k=true
  .rw[ay hb] at h;injection h
  .rw[av hb] at h
   rcases b8 hm with rfl |hm
   .exact λz=>hb ((V.beq_iff _ _).mpr z)
   .exact ih h kv hm
theorem tU {k:V}(h:cn az k=none)(v:V):gp az k v=az++[(k,v)]:=by
 unfold gp;rw[av];intro z;rw[List.any_eq_true] at z;obtain⟨kv,hm,hb⟩:=z;exact wg h kv hm ((V.beq_iff _ _).mp hb)
theorem zR {k:V}(h:cn az k=none)(v:V):cn (az++[(k,v)]) k=some v:=by
 induction az with
 |nil=>
  refine(?_ :(if V.beq k k=true then some v else cn [] k)=some v);rw[ay ((V.beq_iff _ _).mpr rfl)]
 |cons a r ih=>
  replace h :(if V.beq a.1 k=true then some a.2 else cn r k)=none:=h;by_cases hb:V.beq a.1 k=true
  .rw[ay hb] at h;injection h
  .rw[av hb] at h
   refine(av hb).trans ?_;exact ih h
theorem EJ [BEq Y][LawfulBEq Y] :∀{l m:List Y},l.Nodup->(∀x∈l,x∈m)->l.length<=m.length:=by
 intro y
 induction y with
 |nil=>
  intro m _ _;exact Nat.zero_le _
 |cons x l ih=>
  intro m h hs;rw[List.nodup_cons] at h;have hx:=hs x (.head _);have:=ih h.2 λy hy=>(List.mem_erase_of_ne (by intro z;subst z;exact h.1 hy)).mpr (hs y (.tail _ hy));rw[List.length_erase_of_mem hx] at this;have h0:0<m.length:=List.length_pos_of_mem hx;simp only[List.length_cons];exact Nat.add_le_of_le_sub h0 this
theorem jj {t:kR}(h1:t v jD=some cA)(h2:iw cA U=.ok u bq)(hz:bh.length<1000000):fz t none iw jD (v::vs) U bh=fz t none iw jD vs bq (bh++[u]):=by
 refine rl yI<|rl h1 ?_
 show(if true=true then (if cE bh.length=true then (N6 (iw cA U)).andThen (λu bU=>fz t none iw jD vs bU (bh++[u])) else Res.stuck) else fz t none iw jD vs U bh)=_;have ez:cE bh.length=true:=bN (Nat.le_of_succ_le hz);refine(ay rfl).trans ((ay ez).trans ?_);refine rl h2 ?_;rfl
theorem wh {t:kR}(val:V->V) :∀(vs:List V) (U:bw) (bh:List V),I U->bh.length+vs.length<=1000000->
  (∀v∈vs,fk (λcA=>t v jD=some cA) (λcA=>∀U,I U->fk (λbB=>I bB) (λbB=>iw cA U=.ok (val v) bB)))->
  ∀{G:Prop},(∀bB,I bB->fz t none iw jD vs U bh=.ok (bh++vs.map val) bB->G)->G:=by
 intro y
 induction y with
 |nil=>
  intro U bh h _ _ G kG;exact kG U h (rl List.map_nil<|rl (List.append_nil ..) rfl)
 |cons v vs ih=>
  intro U bh h hz he G kG;obtain⟨cA,h1,h2⟩:=he v (.head _);obtain⟨bq,h3,h4⟩:=h2 U h;rw[List.length_cons] at hz;refine ih bq (bh++[val v]) h3 (by refine rl bY<|rl gC ?_;exact QA ⋯) (λu hu=>he u (.tail _ hu)) λbU h5 h6=>?_
  refine kG bU h5 ?_;refine(jj h1 h4 (Nat.lt_of_add_right_lt hz)).trans (h6.trans ?_);exact rl (cW ..) rfl
theorem tV {t:kR}(val:V->Int)(vs:List V)(U:bw)(bh:List V)(h:I U)(hz:bh.length+vs.length<=1000000)(he :∀v∈vs,fk (λcA=>t v jD=some cA) (λcA=>∀U,I U->fk (λbB=>I bB) (λbB=>iw cA U=.ok (.int (val v)) bB)))(kG :∀bB,I bB->(fz t none iw jD vs U bh=.ok (bh++vs.map λv=>.int (val v)) bB)->G):G:=wh (λv=>.int (val v)) vs U bh h hz he kG
theorem EK (f:Y->Int) :∀vs:List Y,k8 (vs.map λv=>.int (f v))=some (vs.map f):=by
 intro y
 induction y with
 |nil=>
  exact rfl
 |cons v vs ih=>
  simp only[List.map_cons,k8,V.int?,ih,Option.bind_some,Option.map_some]
theorem H9 {t:kR}{body:MS}{aa:Int->eY->bw->Prop}(val:V->Int) :∀(vs:List V) (bh:Int) (fr:eY) (U:bw),aa bh fr U->
  (∀v∈vs,∀bh fr U,aa bh fr U->fk (λcA=>t v fr=some cA) (λcA=>Lp (λcH bU=>body cA U=.next cH bU) (λcH bU=>aa (bh+val v) cH bU)))->
  Lp (λbC bB=>dJ t body vs fr U=.next bC bB) (λbC bB=>aa (bh+(vs.map val).sum) bC bB):=by
 intro y
 induction y with
 |nil=>
  intro bh fr U h _;exact⟨fr,U,rfl,by simpa using h⟩
 |cons v vs ih=>
  intro bh fr U h hs;obtain⟨cA,h1,cH,bU,h2,h3⟩:=hs v (.head _) bh fr U h;obtain⟨ka,qH,h4,h5⟩:=ih _ cH bU h3 λu hu=>hs u (.tail _ hu);refine⟨ka,qH,?_,?_⟩
  .refine rl sz<|rl h1 ?_;dsimp only;exact rl h2<|h4
  .exact rl List.map_cons<|rl List.sum_cons<|rr (Int.add_assoc ..)<|h5
theorem aK {f g:MS}(h:f fr U=.next bC bB):aL f g fr U=g bC bB:=by simp only[aL,h]
theorem rI {f g:MS}(h:f fr U=.ret v bB):aL f g fr U=.ret v bB:=by simp only[aL,h]
theorem fQ {t:ME Bool}{f g:MS}(h:t fr U=.ok b bB):fw t f g fr U =(if b then f else g) fr bB:=by simp only[fw,cu,h]
theorem EL {k:V}(h :(cn az k).isSome=true)(hv :∀kv∈az,kv.1=k->kv.2=v):gp az k v=az:=by
 unfold gp;rw[ay]
 .conv=>rhs;rw[<- List.map_id az]
  refine List.map_congr_left λkv hm=>?_
  split
  .rename_i hb
   exact rr (hv kv hm ((V.beq_iff _ _).mp hb)) rfl
  .rfl
 .obtain⟨v',h'⟩:=Option.isSome_iff_exists.mp h
  exact List.any_eq_true.mpr ⟨_,tS h',(V.beq_iff _ _).mpr rfl⟩
theorem fU (h:dq.contains j=true) :∀fr:eY,(jO fr dq).lookup j=fr.lookup j:=by
 intro y
 induction y with
 |nil=>
  exact rfl
 |cons z0 fr ih=>
  obtain⟨k,u⟩:=z0;have ih:=ih;unfold jO at ih ⊢;refine rl List.filter_cons<|rl List.lookup_cons ?_
  by_cases hj:j=k
  .subst hj;simp only[h,if_true,List.lookup_cons,beq_self_eq_true]
  .simp only[beq_eq_false_iff_ne.mpr hj]
   split
   .refine List.lookup_cons.trans ?_;simp only[beq_eq_false_iff_ne.mpr hj];exact ih
   .exact ih
theorem oU (b:Int):d9 1 b 1 =(List.range (b - 1).toNat).map λi:Nat=>V.int (1+(i:Int) * 1):=by
 unfold d9;refine rl (rangeSize_one ..) ?_
 split
 .rfl
 .exact rl (UB ⋯) rfl
theorem zS {b:Int}(h:v∈d9 1 b 1)(kG :∀(k:Nat),v=.int k->1<=k->(k:Int)<b->G):G:=by
 rw[oU,List.mem_map] at h;obtain⟨i,hi,rfl⟩:=h;rw[List.mem_range] at hi;exact kG (i+1) (rl (Int.mul_one ..)<|rl (Int.add_comm ..) rfl) (Nat.le_add_left 1 i) (UA hi)
theorem bk {op:Operator}{f g:ME V}{a b:V}(h1:f fr U=.ok a bq)(h2:g fr bq=.ok b bU):aU op f g fr U=AJ op a b fr bU:=by
 simp only[aU,ME.bind,h1,h2,aC]
theorem c9 (a:Y)(U:bw):Res.cO (some a) U=.ok a U:=rfl
theorem ao (h:fr.lookup i=some v):ai i fr U=.ok v U:=aP (Res.cO · U) h
theorem b7 {o:Option V}(h:j≠k)(e:fr.lookup j=o) :(aE fr k v).lookup j=o:=rl (aV ..)<|rl (av h)<|e
theorem cV (fr:eY)(k:Nat)(v:V) :(aE fr k v).lookup k=some v:=by rw[aV,ay rfl]
theorem dT {f:ME V}(h:f fr U=.ok v bq):aB (aA i) f fr U=.next (aE fr i v) bq:=by unfold aB cu;exact rl h rfl
theorem oV {f:ME V}(h:f fr U=.ok v bq)(hv:v.isRef=false):bM f fr U=.next fr bq:=by unfold bM cu;refine rl h ?_;dsimp only;exact rl hv rfl
theorem ir {f:ME V}(h:f fr U=.ok v bq):cp f fr U=.ret v bq:=by unfold cp cu;exact rl h rfl
theorem iu {t:kR}{it:ME (List V)}{b:MS}{r:ur}(h:it fr U=.ok vs bq)(k:dJ t b vs fr bq=r):df t it b fr U=r:=by unfold df cu;exact rl h<|k
theorem iv {t:kR}{f:ME V}(h:f fr U=.ok v bq)(k:t v fr=some cA):cP t f fr U=.next cA bq:=by unfold cP cu;refine rl h ?_;dsimp only;exact rl k rfl
theorem kH {f:ME V}(h:f fr U=.ok v bq)(k:Cy v=some vs):bl f fr U=.ok vs bq:=by refine(bL h).trans ?_;exact rl k rfl
theorem Sp {g:List V->bw->Option V}{f:ME V}(h:f fr U=.ok v bq)(k:g [v] bq=some u):x9 g [f] fr U=.ok u bq:=by
 unfold x9 aS aS;rw[ME.bind,ME.bind,h];show Res.cO (g [v] bq) bq=_;exact rl k rfl
theorem pQ {f g:ME V}{a b:V}{c:Bool}(hf:f fr U=.ok a bq)(hg:g fr bq=.ok b bU)(h:ig op a b bU=some c):bx op f g fr U=.ok c bU:=by
 refine(bL hf).trans ((bL hg).trans ?_);exact rl h rfl
theorem nE {t:ME Bool}{f g:MS}(h:t fr U=.ok b bq)(hb:b=true):fw t f g fr U=f fr bq:=by refine(fQ h).trans ?_;exact rl hb rfl
theorem qw {t:ME Bool}{f g:MS}(h:t fr U=.ok b bq)(hb:b=false):fw t f g fr U=g fr bq:=by refine(fQ h).trans ?_;exact rl hb rfl
theorem rJ {m:MS}(h:m fr U=.ret v bq):dB (m fr U)=.ok v bq:=rl h rfl
theorem C6 {f:ME V}{fs:List (Nat×V)}(h:f fr U=.ok (.ref k) U)(hg:U[k]? = some (.inst c fs))(hl:fs.lookup i=some v):bc c i f fr U=.ok v U:=by
 have hi:ij U c (.ref k)=some (k,fs):=by unfold ij;dsimp only;exact rl hg<|ay rfl
 refine(bL h).trans ?_;exact rl hi<|rl (Option.bind_some ..)<|rl hl rfl
theorem qz:aS [] fr U=.ok [] U:=rfl
theorem qA {f:ME V}(h:f fr U=.ok v bq)(k:aS fs fr bq=.ok vs bU):aS (f::fs) fr U=.ok (v::vs) bU:=(bL h).trans (bL k)
theorem kb {m:Nat}{f:ME V}{F:List (Nat×V)}(h:f fr U=.ok (.ref k) bq)(hg:bq[k]? = some (.inst c F))(hl :(F.lookup m).isNone=true)(hs:aS fs fr bq=.ok vs bU) :
  ax c m g f fs fr U=g (.ref k::vs) bU:=by
 have hi:ij bq c (.ref k)=some (k,F):=by unfold ij;dsimp only;exact rl hg<|ay rfl
 refine(bL h).trans ?_;exact rl hi <| (ay hl).trans (bL hs)
theorem rK {m:MK}{f:ME V}{qH:bw}{r:V}(h:f fr U=.ok v bq)(hr:wV m v bq=true)(hs:aS fs fr bq=.ok vs bU)(hm:Cu m v vs bU=some (r,qH)):c6 m f fs fr U=.ok r qH:=by
 refine(bL h).trans ((ay hr).trans ((bL hs).trans ?_));exact rl hm rfl
theorem Pd {kd:DK}{k:V}(hd:U[i]? = some (.dict kd az))(hk:fu kd k=true):ig .NotIn k (.ref i) U=some (!(cn az k).isSome):=by
 show(NL k (.ref i) U).map (!·)=_;unfold NL;dsimp only;refine rl hd ?_;dsimp only;exact rl (ay hk) rfl
theorem Lr {kd:DK}{k:V}(hd:U[i]? = some (.dict kd az))(hk:fu kd k=true):mE (.ref i) k U=cn az k:=by
 unfold mE;dsimp only;exact rl hd<|ay hk
theorem Lu {kd:DK}{k:V}(hd:U[i]? = some (.dict kd az))(hk:fu kd k=true)(hz:az.length<=1000000):g8 (.ref i) k u U=some (U.set i (.dict kd (gp az k u))):=by
 unfold g8;dsimp only;refine rl hd ?_;dsimp only;exact rl hk<|rl (show cE az.length=true from bN hz) rfl
theorem Lv {fo fi fv:ME V}{o i:V}(hv:fv fr U=.ok u U)(ho:fo fr U=.ok o U)(hi:fi fr U=.ok i U)(h:g8 o i u U=some bq):eR fo fi fv fr U=.next fr bq:=by
 unfold eR cu;refine rl hv ?_;dsimp only;refine rl ho ?_;dsimp only;refine rl hi ?_;dsimp only;exact rl h rfl
theorem BR {f g:ME V}{a b c:V}(h:f fr U=.ok a bq)(k:g fr bq=.ok b bU)(e:mE a b bU=some c):cv f g fr U=.ok c bU:=by
 refine(bL h).trans ((bL k).trans ?_);exact rl e rfl
theorem rM {f:ME V}(h:f fr U=.ok (.tup vs) U)(hz:vs.length<1000):bV .len [f] fr U=.ok (.int vs.length) U:=by
 have ez:cE vs.length=true:=bN (q4 ⋯ (by rfl));unfold bV aS aS;rw[ME.bind,ME.bind,h];show Res.cO (if cE vs.length then some (V.int vs.length) else .none) U=_;exact rl (ay ez) rfl
theorem rN {a b:ME Bool}(h1:a fr U=.ok true bq)(h2:b fr bq=.ok false bU):jF [a,b] fr U=.ok false bU:=by
 refine(bL h1).trans ?_;show jF [b] fr bq=_;unfold jF;rw[ME.bind,h2];rfl
theorem rO {a b:ME Bool}(h1:a fr U=.ok false bq):jF [a,b] fr U=.ok false bq:=by
 unfold jF;rw[ME.bind,h1];rfl
theorem Pe {a b:ME Bool}{c:Bool}(h1:a fr U=.ok false bq)(h2:b fr bq=.ok c bU):rY [a,b] fr U=.ok c bU:=by
 refine(bL h1).trans ?_;show rY [b] fr bq=_;unfold rY;rw[ME.bind,h2]
 cases c <;> rfl
theorem Pf {t:ME Bool}{f g:ME V}(h:t fr U=.ok false bq):rd t f g fr U=g fr bq:=by
 unfold rd;rw[ME.bind,h];rfl
theorem BS {x y z:Int}(hz:z=1\/z=-1)(hx:g7 x=true)(hy:g7 y=true):yB x y z=some (d9 x y z):=ay ⟨hz,hx,hy⟩
theorem pR {es:ME (List V)}(he:es fr U=.ok vs bq)(h :(k8 vs).bind N1=some us):oh es fr U=.ok us bq:=by
 refine(bL he).trans ?_;exact rl h rfl
theorem zT {f g:ME V}{a b:V}(hf:f fr U=.ok a bq)(hg:g fr bq=.ok b bU):aS [f,g] fr U=.ok [a,b] bU:=by
 refine(bL hf).trans ?_;unfold aS;rw[ME.bind,ME.bind,hg];rfl
theorem pS {f:ME V}{b:Int}(hf:f fr U=.ok (.int b) U)(hb:g7 b=true):iY f fr U=.ok (d9 0 b 1) U:=
 pR (vs:=[.int b]) (by unfold aS;rw[ME.bind,hf];rfl) (BS (.inl rfl) rfl hb)
theorem pT {f g:ME V}{a b:Int}(hf:f fr U=.ok (.int a) U)(hg:g fr U=.ok (.int b) U)(ha:g7 a=true)(hb:g7 b=true):iZ f g fr U=.ok (d9 a b 1) U:=
 pR (zT hf hg) (BS (.inl rfl) ha hb)
theorem wi {f g k:ME V}{a b:Int}(hf:f fr U=.ok (.int a) U)(hg:g fr U=.ok (.int b) U)(hk:k fr U=.ok (.int (-1)) U)(ha:g7 a=true)(hb:g7 b=true):jr f g k fr U=.ok (d9 a b (-1)) U:=
 pR (vs:=[.int a,.int b,.int (-1)]) (by refine(bL hf).trans ?_;rw[ME.bind,zT hg hk];rfl) (BS (.inr rfl) ha hb)
theorem kc {f:ME V}(h:f fr U=.ok (.tup (x::vs)) U)(hz:vs.length<1000):dU 1 f fr U=.ok (.tup vs) U:=by
 have ez:cE (x::vs).length=true:=bN (by refine rl List.length_cons ?_;exact q1 ⋯ (by rfl));refine(bL h).trans ?_;show Res.cO (if cE (x::vs).length&&decide (1<=(x::vs).length) then some (V.tup vs) else none) U=_;exact rl ez<|rl (bN (by rw[List.length_cons];exact Nat.le_add_left 1 vs.length)) rfl
theorem Ia {f:ME V}(h:f fr U=.ok (.tup (x::vs)) U)(hz:vs.length<1000):iO 1 f fr U=.ok (.tup [x]) U:=by
 have ez:cE (x::vs).length=true:=bN (by refine rl List.length_cons ?_;exact q1 ⋯ (by rfl));refine(bL h).trans ?_;show Res.cO (if cE (x::vs).length then some (V.tup [x]) else none) U=_;exact rl ez rfl
theorem oW {f g:ME V}{a b:Int}(hf:f fr U=.ok (.int a) bq)(hg:g fr bq=.ok (.int b) bU)(h0:a.natAbs<2 ^ 64):aU .Mult f g fr U=.ok (.int (a * b)) bU:=by
 refine(bk hf hg).trans ?_;show(if a.natAbs<2 ^ 64\/b.natAbs<2 ^ 64 then Res.ok (V.int (a * b)) bU else Res.stuck)=_;rw[ay (.inl h0)]
theorem rP {f:ME V}(h:f fr U=.ok (.tup (x::vs)) U):cv f (ah (.int 0)) fr U=.ok x U:=by
 have e:uu (x::vs) 0=some x:=by
  unfold uu seqIndex?;simp
 refine(bL h).trans ?_;show Res.cO (uu (x::vs) 0) U=_;exact rl e rfl
theorem Lw {t:kR}{f:ME (List V)}(hf:f fr U=.ok vs bq)(h:fz t none iw (jO fr dq) vs bq []=.ok us bU):bQ dq t f none iw fr U=.ok (.list us) bU:=by
 unfold bQ;exact rl hf<|rl (aC ..)<|rl h rfl
theorem Pg {f:ME V}{g:Y->Int}{vs:List Y}(h:f fr U=.ok (.list (vs.map λv=>.int (g v))) bq):bV .sum [f] fr U=.ok (.int (vs.map g).sum) bq:=by
 unfold bV aS aS;rw[ME.bind,ME.bind,h];show Res.cO ((k8 (vs.map λv=>.int (g v))).map λis=>V.int is.sum) bq=_;rw[EK];rfl
inductive Cl |x (t:Nat) |z
variable {um:Cl}
noncomputable def Cl.ints:Cl->List V
 |.x t=>List.replicate t (.int 0)
 |.z=>[.int 1]
def Cl.val (L:Nat)(cl:Cl)(s:Nat):Int:=match cl with
 |.x t=>(fo L s t:Nat)
 |.z=>if s=1 then 1 else 0
noncomputable def Cl.ok (cl:Cl)(s:Nat):Prop:=match cl with
 |.x t=>1<=t/\t<=s/\s<=12
 |.z=>s=200
abbrev key (cl:Cl)(s:Nat):V:=.tup [.tup cl.ints,.int s]
theorem Ib {cl:Cl}(h:cl.ints=um.ints):cl=um:=by
 cases cl with
 |x t=>
  cases um with
  |x t'=>
   have:=aP List.length h;simp only[Cl.ints,List.length_replicate] at this;rw[this]
  |z=>
   have h1:=aP List.length h;simp only[Cl.ints,List.length_replicate,List.length_cons,List.length_nil] at h1;subst h1;simp[Cl.ints] at h
 |z=>
  cases um with
  |x t'=>
   have h1:=aP List.length h;simp only[Cl.ints,List.length_replicate,List.length_cons,List.length_nil] at h1;subst h1;simp[Cl.ints] at h
  |z=>rfl
theorem C7 {cl:Cl}{s s':Nat}(h:key cl s=key um s'):cl=um/\s=s':=by
 have h1:cl.ints=um.ints:=by injection h with h;injection h with h _;injection h
 have h2 :(s:Int)=s':=by injection h with h;injection h with _ h;injection h with h _;injection h
 exact⟨Ib h1,Int.ofNat_inj.mp h2⟩
structure d7 (L:Nat)(az:List (V×V)):Prop where
 good :∀kv∈az,Lp (λ(cl:Cl) (s:Nat)=>cl.ok s) (λ(cl:Cl) (s:Nat)=>kv =(key cl s,.int (cl.val L s)))
 nd :(az.map (·.1)).Nodup
def Lx:List V:=key .z 200 ::(List.range 13).flatMap λt=>(List.range 13).map λs=>key (.x t) s
theorem d7.len (I:d7 L az):az.length<=170:=by
 have:=EJ (m:=Lx) I.nd λx hx=>by
  obtain⟨kv,hk,rfl⟩:=dz hx;obtain⟨cl,s,hs,rfl⟩:=I.good kv hk
  cases cl with
  |x t=>
   obtain⟨h1,h2,h3⟩:=hs;exact .tail _ (List.mem_flatMap.mpr ⟨t,List.mem_range.mpr (VD ⋯ ⋯ (by rfl)),List.mem_map.mpr ⟨s,List.mem_range.mpr (Nat.lt_succ_of_le h3),rfl⟩⟩)
  |z=>obtain rfl:s=200:=hs;exact .head _
 rw[cJ] at this;exact this
theorem d7.get (I:d7 L az){cl:Cl}{s:Nat}(h:cn az (key cl s)=some v):v=.int (cl.val L s):=by
 obtain⟨um,s',_,e⟩:=I.good _ (tS h);obtain⟨rfl,rfl⟩:=C7 (aP Prod.fst e);exact aP Prod.snd e
theorem d7.one (I:d7 L az){cl:Cl}{s:Nat}{kv:V×V}(hm:kv∈az)(hk:kv.1=key cl s):kv.2=.int (cl.val L s):=by
 obtain⟨um,s',_,rfl⟩:=I.good kv hm;obtain⟨rfl,rfl⟩:=C7 hk;rfl
theorem d7.add (I:d7 L az){cl:Cl}{s:Nat}(hs:cl.ok s)(h:cn az (key cl s)=none):d7 L (az++[(key cl s,.int (cl.val L s))]):=by
 refine⟨λkv hm=>?_,?_⟩
 .rcases List.mem_append.mp hm with hm |hm
  .exact I.good kv hm
  .obtain rfl:=dM hm
   exact⟨cl,s,hs,rfl⟩
 .rw[List.map_append,List.nodup_append]
  refine⟨I.nd,by simp,λa ha b hb=>?_⟩;obtain⟨kv,hk,rfl⟩:=dz ha;obtain rfl:=dM hb;exact wg h kv hk
theorem d7.nil:d7 L []:=⟨(λ_ h=>by cases h),List.nodup_nil⟩
noncomputable def nF (ls:List Nat):List V:=ls.map (λl=>V.tup [.str [l]])++[.tup [.str [112],.int 0,.int 0]]
structure uo (aO kd L:Nat)(ls:List Nat)(P:List (V×V)->bw):Prop where
 hL:ls.length=L
 h3:1<=L/\L<=3
 get :∃mk,∀az,(P az)[aO]? = some (.inst 1 [(53,.ref 1),(54,mk),(31,.ref kd)])
 heap:So (λa b c d e f g=>∀az,(P az)[1]? = some (.inst 3 [(27,a),(28,b),(29,c),(30,d),(31,e),(19,f),(32,g),(33,.int 0)]))
 dict :∀az,(P az)[kd]? = some (.dict .tup az)
 set :∀az aJ,(P az).set kd (.dict .tup aJ)=P aJ
 Qd :∀az (s:Int),s<=200->d6 [.ref aO,.int s] (P az)=.ok .none (P az)
 tW :∀az,c8 [.ref 1,.int 0] (P az)=.ok (.list (nF ls)) (P az)
 xI :∀az,c8 [.ref 1,.int 1] (P az)=.ok (.list [.tup [.str [122]]]) (P az)
 wj :∀az,bR [.ref 1,.int 0] (P az)=.ok (.int 0) (P az)
 C8 :∀az,bR [.ref 1,.int 1] (P az)=.ok (.int 1) (P az)
 C9 :∀l∈ls,∀az,ew [.ref 1,.str [l],.tup []] (P az)=.ok (.int 0) (P az)
 Dc :∀az,ew [.ref 1,.str [112],.tup [.int 0,.int 0]] (P az)=.ok (.int 0) (P az)
 zU:112∉ls
section
variable {aO:Nat}
noncomputable def nG (aO:Nat)(L:Nat)(P:List (V×V)->bw)(r:List V->bw->Res V)(cl:Cl)(s:Nat):Prop:=
 ∀az,d7 L az->fk (λaJ=>d7 L aJ) (λaJ=>r [.ref aO,.tup (cl.ints),.int s] (P az)=.ok (.int (cl.val L s)) (P aJ))
theorem zV (d k:Nat)(m:Int)(hm:m=k)(U:bw):d4 (d+1) [.ref aO,.tup [],.int m] U=.ok (.int (if k=0 then 1 else 0)) U:=by
 subst hm
 cases k with
 |zero=>rfl
 |succ k=>rfl
def rA (r:List V->bw->Res V):MS:=(aB (aA 2) (bV .sum [(bQ [10,34] (aA 15) (bl (ax 3 56 c8 (bc 1 53 (ai 10)) [(cv (ai 47) (ah (.int 0)))])) none (ax 1 57 r (ai 10) [(dU 1 (ai 15)),(aU .Sub (ai 34) (ah (.int 1)))]))]))
def Ic (r:List V->bw->Res V):MS:=(aL (aB (aA 58) (ax 1 57 r (ai 10) [(iO 1 (ai 47)),(ai 59)]))
 (fw (bx .Gt (ai 58) (ah (.int 0))) (aB (aA 2) (aU .Add (ai 2) (aU .Mult (ai 58) (ax 1 57 r (ai 10) [(dU 1 (ai 47)),(aU .Sub (ai 34) (ai 59))])))) bF))
def rB (r:List V->bw->Res V):MS:=(aL (aB (aA 2) (ah (.int 0)))
 (df (aA 59) (iZ (ah (.int 1)) (aU .Add (aU .Sub (ai 34) (bV .len [(ai 47)])) (ah (.int 2)))) (Ic r)))
def r0:MS:=(fw (rY [(bx .Eq (bV .len [(ai 47)]) (ah (.int 0))),(bx .Lt (ai 34) (bV .len [(ai 47)]))]) (cp (rd (jF [(bx .Eq (ai 34) (ah (.int 0))),(bx .Eq (bV .len [(ai 47)]) (ah (.int 0)))]) (ah (.int 1)) (ah (.int 0)))) bF)
def r1:MS:=(aB (aA 55) (bj [(ai 47),(ai 34)]))
def r2:ME Bool:=(bx .NotIn (ai 55) (bc 1 31 (ai 10)))
def r3:ME Bool:=(bx .Eq (bV .len [(ai 47)]) (ah (.int 1)))
def r4:MS:=(eR (bc 1 31 (ai 10)) (ai 55) (ai 2))
def r5:MS:=(cp (cv (bc 1 31 (ai 10)) (ai 55)))
structure Fr (aO:Nat)(cl:Cl)(s:Nat)(fr:eY):Prop where
 self:fr.lookup 10=some (.ref aO)
 classes:fr.lookup 47=some (.tup (cl.ints))
 size:fr.lookup 34=some (.int s)
 key:fr.lookup 55=some (key cl s)
theorem Fr.set {cl:Cl}{s:Nat}(F:Fr aO cl s fr)(i:Nat)(v:V)(h3:i≠10)(h40:i≠47)(h28:i≠34)(Zf:i≠55):Fr aO cl s (aE fr i v):=by
 constructor <;> rw[aV,av (by lia)]
 all_goals first |exact F.self |exact F.classes |exact F.size |exact F.key
theorem tX (C:uo aO kd L ls P)(h:fr.lookup 10=some (.ref aO)):bc 1 31 (ai 10) fr (P az)=.ok (.ref kd) (P az):=by
 obtain⟨mk,hg⟩:=C.get;exact C6 (ao h) (hg az) rfl
theorem Ie :∀t:Nat,V.k6 (List.replicate t (.int 0))=true/\V.cw (List.replicate t (V.int 0))=0:=by
 intro y
 induction y with
 |zero=>
  exact⟨rfl,rfl⟩
 |succ t ih=>
  obtain⟨h1,h2⟩:=ih;refine⟨h1,?_⟩;show max 0 (V.cw (List.replicate t (V.int 0)))=0;exact h2.trans rfl
theorem pU (cl:Cl)(s:Nat):fu .tup (key cl s)=true:=by
 cases cl with
 |z=>rfl
 |x t=>
  obtain⟨h1,h2⟩:=Ie t;show(V.k6 [.tup (List.replicate t (.int 0)),.int s]&&decide (V.cw [.tup (List.replicate t (.int 0)),.int s]<=6))=true;have e1:V.k6 [.tup (List.replicate t (.int 0)),.int s]=true:=by
   show(V.k6 (List.replicate t (.int 0))&&true)=true;exact rl h1 rfl
  have e2:V.cw [.tup (List.replicate t (.int 0)),.int s]=1:=by
   show max (V.cw (List.replicate t (.int 0))+1) 0=1;exact rl h2 rfl
  exact rl e1<|rl e2 rfl
theorem Sq (C:uo aO kd L ls P){cl:Cl}{s:Nat}(F:Fr aO cl s fr):r2 fr (P az)=.ok (!(cn az (key cl s)).isSome) (P az):=pQ (ao F.key) (tX C F.self) (Pd (C.dict az) (pU cl s))
theorem Sr (C:uo aO kd L ls P){cl:Cl}{s:Nat}(F:Fr aO cl s fr)(h:fr.lookup 2=some v)(hz:az.length<=1000000):r4 fr (P az)=.next fr (P (gp az (key cl s) v)):=
 Lv (ao h) (tX C F.self) (ao F.key) ((Lu (C.dict az) (pU cl s) hz).trans (aP some (C.set az _)))
theorem Ss (C:uo aO kd L ls P){cl:Cl}{s:Nat}(F:Fr aO cl s fr)(h:cn az (key cl s)=some v):r5 fr (P az)=.ret v (P az):=
 ir (BR (tX C F.self) (ao F.key) ((Lr (C.dict az) (pU cl s)).trans h))
noncomputable def xJ (aO:Nat)(L:Nat)(P:List (V×V)->bw)(g:MS)(cl:Cl)(s:Nat):Prop:=
 ∀az fr,d7 L az->Fr aO cl s fr->O9 (λaJ bC=>d7 L aJ) (λaJ bC=>g fr (P az)=.next bC (P aJ)) (λaJ bC=>Fr aO cl s bC) (λaJ bC=>bC.lookup 2=some (.int (cl.val L s)))
noncomputable def Cl.good:Cl->Prop
 |.x t=>1<=t/\t<=20
 |.z=>True
theorem zW {cl:Cl}(h:cl.good):1<=cl.ints.length/\cl.ints.length<=20:=by
 cases cl with
 |x t=>simp only[Cl.ints,List.length_replicate];exact h
 |z=>exact⟨Nat.le_refl _,by decide⟩
theorem Ig {cl:Cl}(g:cl.good)(h:fr.lookup 47=some (.tup cl.ints)):bV .len [(ai 47)] fr U=.ok (.int cl.ints.length) U:=rM (ao h) (by have:=zW g;exact q72 ⋯ (by rfl))
theorem Su {cl:Cl}{s:Nat}(g:cl.good)(F:Fr aO cl s fr):r3 fr U=.ok (decide (cl.ints.length=1)) U:=
 pQ (Ig g F.classes) rfl (aP some (show decide ((cl.ints.length:Int)=1)=_ from decide_eq_decide.mpr (q79)))
def JF (aO:Nat)(cl:Cl)(s:Nat):eY:=[(10,.ref aO),(47,.tup cl.ints),(34,.int s)]
def Xo (aO:Nat)(cl:Cl)(s:Nat):eY:=(55,key cl s)::JF aO cl s
theorem Ph (aO:Nat)(cl:Cl)(s:Nat):Fr aO cl s (Xo aO cl s):=⟨rfl,rfl,rfl,rfl⟩
theorem Sv {cl:Cl}{s:Nat}(g:cl.good):r0 (JF aO cl s) U=if decide ((s:Int)<cl.ints.length) then .ret (.int 0) U else .next (JF aO cl s) U:=by
 have hl:=zW g;have el:bV .len [(ai 47)] (JF aO cl s) U=.ok (.int cl.ints.length) U:=Ig g rfl;have c0:bx .Eq (bV .len [(ai 47)]) (ah (.int 0)) (JF aO cl s) U=.ok false U:=pQ el rfl (aP some (show decide ((cl.ints.length:Int)=0)=false from cI (by lia)));have c1:bx .Lt (ai 34) (bV .len [(ai 47)]) (JF aO cl s) U=.ok (decide ((s:Int)<cl.ints.length)) U:=pQ (ao rfl) el rfl;refine(fQ (Pe c0 c1)).trans ?_;by_cases h :(s:Int)<cl.ints.length
 .refine rl (bN h) ?_
  have t1:bx .Eq (ai 34) (ah (.int 0)) (JF aO cl s) U=.ok (decide ((s:Int)=0)) U:=rfl;have t2:jF [(bx .Eq (ai 34) (ah (.int 0))),(bx .Eq (bV .len [(ai 47)]) (ah (.int 0)))] (JF aO cl s) U=.ok false U:=by
   by_cases Zg :(s:Int)=0
   .exact rN (t1.trans (rl (bN Zg) rfl)) c0
   .exact rO (t1.trans (rl (cI Zg) rfl))
  exact ir (Pf t2)
 .exact rl (cI h) rfl
theorem Dd (C:uo aO kd L ls P){cl:Cl}{s:Nat}(g:cl.good)(hs :(cl.ints.length:Int)<=s->cl.ok s)(Xp :(s:Int)<cl.ints.length->cl.val L s=0)(hf :(cl.ints.length:Int)<=s->xJ aO L P (if decide (cl.ints.length=1) then rA r else rB r) cl s) :
  nG aO L P (cy [10,47,34] (tL r)) cl s:=by
 intro az I;have e0:cy [10,47,34] (tL r) [.ref aO,.tup (cl.ints),.int s] (P az)=dB (aL r0 (aL r1 (aL (fw r2 (aL (fw r3 (rA r) (rB r)) r4) bF) r5)) (JF aO cl s) (P az)):=rfl;have er:=Sv (aO:=aO) (U:=P az) (s:=s) g;by_cases h :(s:Int)<cl.ints.length
 .rw[bN h] at er
  refine⟨az,I,e0.trans ?_⟩;exact rl (rI er)<|rl (Xp h) rfl
 .rw[cI h] at er
  have F:=Ph aO cl s;have e1:r1 (JF aO cl s) (P az)=.next (Xo aO cl s) (P az):=rfl;have e3:=Sq (az:=az) C F;have go :∀aJ bC v,fw r2 (aL (fw r3 (rA r) (rB r)) r4) bF (Xo aO cl s) (P az)=.next bC (P aJ)->Fr aO cl s bC->cn aJ (key cl s)=some v->cy [10,47,34] (tL r) [.ref aO,.tup (cl.ints),.int s] (P az)=.ok v (P aJ):=λaJ bC v e6 F' hd=>
   e0.trans (rJ ((aK er).trans ((aK e1).trans ((aK e6).trans (Ss C F' hd)))))
  cases hd:cn az (key cl s) with
  |some v=>
   have hv:=I.get hd;subst hv;exact⟨az,I,go az _ _ ((qw e3 (rl hd rfl)).trans rfl) F hd⟩
  |none=>
   obtain⟨bA,cA,I1,h1,F1,Sw⟩:=hf (Int.not_lt.mp h) az _ I F;have e4:=(fQ (f:=rA r) (g:=rB r) (Su (U:=P az) g F)).trans h1;have e6:=(nE (g:=bF) e3 (rl hd rfl)).trans ((aK (g:=r4) e4).trans (Sr C F1 Sw (by have:=I1.len;exact q3 ⋯ (by rfl))))
   cases JD:cn bA (key cl s) with
   |none=>
    rw[tU JD] at e6;exact⟨_,I1.add (hs (Int.not_lt.mp h)) JD,go _ _ _ e6 F1 (zR JD _)⟩
   |some v=>
    have hv:=I1.get JD;subst hv;rw[EL (v:=.int (cl.val L s)) (rl JD rfl) λkv hm hk=>I1.one hm hk] at e6;exact⟨bA,I1,go _ _ _ e6 F1 JD⟩
end
section
variable {aO:Nat}
theorem xK (C:uo aO kd L ls P)(h:fr.lookup 10=some (.ref aO)):bc 1 53 (ai 10) fr (P az)=.ok (.ref 1) (P az):=by
 obtain⟨mk,hg⟩:=C.get;exact C6 (ao h) (hg az) rfl
theorem ke (C:uo aO kd L ls P){f1 f2:ME V}{v1 v2:V}(h:fr.lookup 10=some (.ref aO))(h1:f1 fr (P az)=.ok v1 (P az))(h2:f2 fr (P az)=.ok v2 (P az)) :
  ax 1 57 r (ai 10) [f1,f2] fr (P az)=r [.ref aO,v1,v2] (P az):=by
 obtain⟨mk,hg⟩:=C.get;exact kb (ao h) (hg az) rfl (qA h1 (qA h2 qz))
theorem tY (C:uo aO kd L ls P){c0:Int}{rr:List V}(uk:fr.lookup 10=some (.ref aO))(EM:fr.lookup 47=some (.tup (.int c0::rr)))(hn:c8 [.ref 1,.int c0] (P az)=.ok (.list vs) (P az)) :
  bl (ax 3 56 c8 (bc 1 53 (ai 10)) [(cv (ai 47) (ah (.int 0)))]) fr (P az)=.ok vs (P az):=by
 obtain⟨a,b,c,d,e,f,g',hh⟩:=C.heap;have e0:=rP (U:=P az) (ao EM);have e1:ax 3 56 c8 (bc 1 53 (ai 10)) [(cv (ai 47) (ah (.int 0)))] fr (P az)=.ok (.list vs) (P az):=by
  rw[<- hn];exact kb (xK C uk) (hh az) rfl (qA e0 qz)
 exact kH e1 rfl
theorem Nb (C:uo aO kd L ls P){cl:Cl}{s:Nat}{c0:Int}(h1:cl.ints=[.int c0])(hn :∀az,c8 [.ref 1,.int c0] (P az)=.ok (.list vs) (P az))(hlen:vs.length<=10)(g:V->Int)(hv :∀v∈vs,qT (λx jR=>v=.tup (x::jR)) (λx jR=>jR.length<=10) (λx jR=>∀az,d7 L az->fk (λaJ=>d7 L aJ) (λaJ=>r [.ref aO,.tup jR,.int (s - 1)] (P az)=.ok (.int (g v)) (P aJ))))(Xq :(vs.map g).sum=cl.val L s):xJ aO L P (rA r) cl s:=by
 intro az fr I F;have DT:=tY C (az:=az) F.self (F.classes.trans (rl h1 rfl)) (hn az);refine tV (I:=λU=>fk (λaz=>d7 L az) (λaz=>U=P az)) (t:=aA 15) (iw:=ax 1 57 r (ai 10) [(dU 1 (ai 15)),(aU .Sub (ai 34) (ah (.int 1)))]) (jD:=jO fr [10,34]) g vs (P az) [] ⟨az,I,rfl⟩ (by simp;exact q3 ⋯ (by rfl)) (λv hm=>?_) ?_
 .obtain⟨x,jR,rfl,hr,hk⟩:=hv v hm
  refine⟨_,rfl,λU ⟨az,I,e⟩=>?_⟩;subst e;obtain⟨aJ,I',h⟩:=hk az I;exact⟨_,⟨aJ,I',rfl⟩,(ke C (b7 (by decide) ((fU (by decide) fr).trans F.self)) (kc (ao (cV _ _ _)) (q2 ⋯ (by rfl))) ((bk (ao (b7 (by decide) ((fU (by decide) fr).trans F.size))) rfl).trans rfl)).trans h⟩
 rintro bB ⟨aJ,I',rfl⟩ hc;exact⟨aJ,_,I',dT ((Pg (Lw DT hc)).trans (rl Xq rfl)),F.set _ _ (by decide) (by decide) (by decide) (by decide),cV _ _ _⟩
end
theorem Pj (h:L<=3)(hk:k<=12) :((fo L k 1:Nat):Int).natAbs<18446744073709551616:=by
 have h1:=H5 h k 1;have h2:4 ^ k<=4 ^ 12:=Nat.pow_le_pow_right (by decide) hk;have h3 :(4:Nat) ^ 12<18446744073709551616:=by decide
 refine rl (Int.natAbs_natCast ..) ?_;exact VD ⋯ ⋯ (by rfl)
section
variable {aO:Nat}
theorem Ih (C:uo aO kd L ls P){cl:Cl}{s:Nat}{bh:Int}(h1:cl.ints=.int 0::um.ints)(hl:um.ints.length<=20)(hk:k<s)(Xr:s<=12)(I:d7 L az)(F:Fr aO cl s fr)(h2:fr.lookup 2=some (.int bh))(Ii:fr.lookup 59=some (.int k))(TY:nG aO L P r (.x 1) k)(Xs:nG aO L P r um (s - k))(kG :∀aJ bC,d7 L aJ->Fr aO cl s bC->bC.lookup 2=some (.int (bh+((fo L k 1:Nat):Int) * um.val L (s - k)))->Ic r fr (P az)=.next bC (P aJ)->G):G:=by
 obtain⟨bA,I1,e1⟩:=TY az I;have hz:um.ints.length<1000:=q2 ⋯ (by rfl);have s1:=dT (i:=58) (v:=.int ((fo L k 1:Nat):Int)) ((ke C (r:=r) F.self (Ia (ao (F.classes.trans (rl h1 rfl))) hz) (ao Ii)).trans e1);have F2:=F.set 58 (.int ((fo L k 1:Nat):Int)) (by decide) (by decide) (by decide) (by decide);have JG:=cV fr 58 (.int ((fo L k 1:Nat):Int));have Sx :(aE fr 58 (.int ((fo L k 1:Nat):Int))).lookup 59=some (.int k):=b7 (by decide) Ii;have l2 :(aE fr 58 (.int ((fo L k 1:Nat):Int))).lookup 2=some (.int bh):=b7 (by decide) h2;generalize aE fr 58 (.int ((fo L k 1:Nat):Int))=cH at s1 F2 JG Sx l2;have et:bx .Gt (ai 58) (ah (.int 0)) cH (P bA)=.ok (decide (((fo L k 1:Nat):Int) > 0)) (P bA):=pQ (ao JG) rfl rfl;by_cases hp :((fo L k 1:Nat):Int) > 0
 .obtain⟨du,I2,e2⟩:=Xs bA I1
  have es:aU .Sub (ai 34) (ai 59) cH (P bA)=.ok (.int ((s - k:Nat):Int)) (P bA):=by
   refine(bk (ao F2.size) (ao Sx)).trans ?_;exact rl (show((s - k:Nat):Int) =(s:Int) - k by exact Uq hk) rfl
  have m:=oW (ao JG) ((ke C (r:=r) F2.self (kc (ao (F2.classes.trans (rl h1 rfl))) hz) es).trans e2) (Pj C.h3.2 (VC ⋯ ⋯));exact kG du _ I2 (F2.set 2 _ (by decide) (by decide) (by decide) (by decide)) (cV _ _ _) ((aK s1).trans ((nE et (bN hp)).trans (dT ((bk (op:=.Add) (ao l2) m).trans rfl))))
 .have h0 :((fo L k 1:Nat):Int)=0:=by lia
  exact kG bA cH I1 F2 (by refine l2.trans ?_;exact rl h0<|rl (Int.zero_mul ..)<|rl (Int.add_zero ..) rfl) ((aK s1).trans ((qw et (cI hp)).trans rfl))
theorem Sy (C:uo aO kd L ls P){cl:Cl}{s:Nat}(h1:cl.ints=.int 0::um.ints)(xg:1<=um.ints.length)(hl:um.ints.length<=20)(Xr:s<=12)(Xu:cl.val L s =((d9 1 (s - cl.ints.length+2) 1).map λv=>((fo L (vi v).toNat 1:Nat):Int) * um.val L (s - vi v).toNat).sum)(TY :∀k,k<s->nG aO L P r (.x 1) k)(Xs :∀k,k<s->nG aO L P r um k)(hs :(cl.ints.length:Int)<=s):xJ aO L P (rB r) cl s:=by
 intro az fr I F;have zX:cl.ints.length=um.ints.length+1:=rl h1 rfl;have F0:Fr aO cl s (aE fr 2 (.int 0)):=F.set _ _ (by decide) (by decide) (by decide) (by decide);have hrg:=pT (f:=ah (.int 1)) (U:=P az) rfl ((bk (op:=.Add) (g:=ah (.int 2)) ((bk (op:=.Sub) (ao F0.size) (rM (ao F0.classes) (by lia))).trans rfl) rfl).trans rfl) (by decide) (show g7 ((s:Int) - cl.ints.length+2)=true from bN (U2 Xr hs));obtain⟨bC,bB,hc,F',Sw,aJ,I',rfl⟩:=H9 (t:=aA 59) (body:=Ic r) (aa:=λbh fr U=>Fr aO cl s fr/\fr.lookup 2=some (.int bh)/\fk (λaz=>d7 L az) (λaz=>U=P az)) (λv=>((fo L (vi v).toNat 1:Nat):Int) * um.val L (s - vi v).toNat)
  (d9 1 (s - cl.ints.length+2) 1) 0 (aE fr 2 (.int 0)) (P az) ⟨F0,cV _ _ _,az,I,rfl⟩ λv hm bh fr U ⟨F,Sw,az,I,e⟩=>by
   subst e;refine zS hm ?_;rintro k rfl xk Fw;have Rn:k<s:=U4 xg zX Fw;refine Ih C h1 hl Rn Xr I (F.set 59 (.int k) (by decide) (by decide) (by decide) (by decide)) (b7 (by decide) Sw) (cV _ _ _) (TY k Rn) (Xs (s - k) (U3 hs zX xk)) λdu cH I2 F2 l2 e=>?_;refine⟨_,rfl,cH,P du,e,F2,?_,du,I2,rfl⟩;refine l2.trans ?_;exact rl (show vi (.int (k:Int)) =(k:Int) from rfl)<|rl (Int.toNat_natCast ..)<|rl (show((s:Int) - (k:Int)).toNat=s - k by exact Int.toNat_sub s k) rfl
 exact⟨aJ,bC,I',(aK (f:=aB (aA 2) (ah (.int 0))) rfl).trans (iu hrg hc),F',by refine Sw.trans ?_;exact rl Xu<|rl (Int.zero_add ..) rfl⟩
end
theorem Ij (f:Y->Nat) :∀l:List Y,(l.map λx=>((f x:Nat):Int)).sum =(((l.map f).sum:Nat):Int):=by
 intro y
 induction y with
 |nil=>
  exact rfl
 |cons x l ih=>
  simp only[List.map_cons,List.sum_cons,ih,Int.natCast_add]
theorem EN {s t:Nat}(h1:1<=t)(h:t+1<=s) :
  ((fo L s (t+1):Nat):Int) =((d9 1 ((s:Int) - ((t+1:Nat):Int)+2) 1).map λv=>((fo L (vi v).toNat 1:Nat):Int) * ((fo L ((s:Int) - vi v).toNat t:Nat):Int)).sum:=by
 refine rl (oU ..)<|rl List.map_map<|rl (show((s:Int) - ((t+1:Nat):Int)+2 - 1).toNat=s - t by exact ZZ)<|rr (BP L s t h1 (Nat.le_of_succ_le h))<|rr (Ij ..) ?_
 congr 1;refine List.map_congr_left λi hi=>?_;show _ =((fo L (1+(i:Int) * 1).toNat 1:Nat):Int) * ((fo L ((s:Int) - (1+(i:Int) * 1)).toNat t:Nat):Int);exact rl (show(1+(i:Int) * 1).toNat=i+1 by exact ZY)<|rl (show((s:Int) - (1+(i:Int) * 1)).toNat=s - (i+1) by exact ZX)<|rl (Int.natCast_mul ..) rfl
section
variable {aO:Nat}
theorem EO (L w v:Nat)(ls:List Nat)(h:ls.length=L)(g:V->Int)(g1 :∀l,g (.tup [.str [l]])=w)(g2:g (.tup [.str [112],.int 0,.int 0])=v) :((nF ls).map g).sum =((L * w+v:Nat):Int):=by
 subst h;unfold nF;rw[List.map_append,List.sum_append,List.map_map];have e :∀l:List Nat,(l.map (g∘λl=>V.tup [.str [l]])).sum =((l.length * w:Nat):Int):=λl=>by
  induction l with
  |nil=>simp
  |cons a l ih=>
   rw[List.map_cons,List.sum_cons,ih];show g (.tup [.str [a]])+_=_;rw[g1,List.length_cons,Nat.succ_mul,Int.natCast_add];exact Int.add_comm ↑w ↑(l.length * w)
 refine rl (e ..) ?_;show _+(g (.tup [.str [112],.int 0,.int 0])+0)=_;refine rl g2 ?_;lia
theorem Pk (C:uo aO kd L ls P) :∀(d t s:Nat),1<=t->t<=20->s<=12->s+1<=d->nG aO L P (d4 d) (.x t) s:=by
 intro d
 induction d with
 |zero=>intro t s _ _ _ h;exact absurd h (Nat.not_succ_le_zero _)
 |succ d ih=>
  intro t s ht TZ hs hd;have hlen :(Cl.x t).ints.length=t:=List.length_replicate;refine Dd C ⟨ht,TZ⟩ (λh=>⟨ht,by rw[hlen] at h;exact Int.ofNat_le.mp h,hs⟩) (λh=>?_) λh=>?_
  .rw[hlen] at h
   show((fo L s t:Nat):Int)=0;exact rl (rF L s t (Int.ofNat_lt.mp h)) rfl
  .rw[hlen] at h ⊢
   obtain⟨s,rfl⟩ :∃u,s=u+1:=⟨s - 1,Z5 ⋯ ⋯⟩;obtain⟨d,rfl⟩ :∃u,d=u+1:=⟨d - 1,UQ hd⟩;by_cases h1:t=1
   .subst h1
    refine Nb C (c0:=0) rfl C.tW (by unfold nF;refine rl bY<|rl (cJ ..)<|rl C.hL ?_;have:=C.h3;simp;lia) (λv=>if v=.tup [.str [112],.int 0,.int 0] then ((fo L s 2:Nat):Int) else (((if s=0 then 1 else 0:Nat)):Int)) (λv hm=>?_) ?_
    .skip
     rcases List.mem_append.mp hm with hm |hm
     .obtain⟨l,_,rfl⟩:=dz hm
      refine⟨.str [l],[],rfl,by simp,λaz I=>⟨az,I,?_⟩⟩;refine rl (av (by simp) ..)<|rl (zV d s _ (by exact Int.sub_eq_iff_eq_add.mpr rfl) ..) ?_
      split <;> rfl
     .obtain rfl:=dM hm
      refine⟨.str [112],[.int 0,.int 0],rfl,by simp,λaz I=>?_⟩;refine rl (ay rfl) ?_;have:=ih 2 s (Nat.le_of_ble_eq_true rfl) (Nat.le_of_ble_eq_true rfl) (Nat.le_of_succ_le hs) (Nat.le_of_lt_succ hd) az I;exact rl (show((s+1:Nat):Int) - 1 =(s:Int) by exact Int.sub_eq_iff_eq_add.mpr rfl)<|this
    .refine(EO L (if s=0 then 1 else 0) (fo L s 2) ls C.hL _ (λl=>by exact rl (av (by simp)) rfl) (by exact rl (ay rfl) rfl)).trans ?_
     show _ =((fo L (s+1) 1:Nat):Int);exact rl (rG L s 1 (Nat.le_refl _))<|rl (rE ..) rfl
   .obtain⟨t,rfl⟩ :∃u,t=u+1:=⟨t - 1,(Nat.sub_eq_iff_eq_add ht).mp rfl⟩
    refine rl (cI h1)<|rl (av (by decide)) ?_
    have Fv :(Cl.x t).ints.length=t:=List.length_replicate;refine Sy C (cl:=.x (t+1)) (um:=.x t) rfl (by refine rl Fv ?_;lia) (rl Fv<|Nat.le_of_succ_le TZ) hs ?_ (λk hk=>ih 1 k (Nat.le_of_ble_eq_true rfl) (Nat.one_le_of_lt TZ) (VC ⋯ ⋯) (Yo ⋯ ⋯)) (λk hk=>ih t k (by lia) (Nat.le_of_succ_le TZ) (VC ⋯ ⋯) (Yo ⋯ ⋯)) (rl hlen<|Int.le_of_neg_le_neg h)
    exact rl hlen<|EN (by lia) (Int.ofNat_le.mp h)
theorem Pl (C:uo aO kd L ls P)(d:Nat):nG aO L P (d4 (d+2)) .z 200:=by
 refine Dd C trivial (λ_=>rfl) (λh=>absurd h (by decide)) λh=>?_;refine Nb C (c0:=1) rfl C.xI (by decide) (λv=>0) (λv hm=>?_) (by rfl);obtain rfl:=dM hm;exact⟨.str [122],[],rfl,by simp,λaz I=>⟨az,I,rfl⟩⟩
end
section
variable {aO:Nat}
theorem pV (C:uo aO kd L ls P){c:Int}(h:fr.lookup 10=some (.ref aO))(hi:fr.lookup i=some (.int c))(hc:bR [.ref 1,.int c] (P az)=.ok (.int c) (P az)) :
  ax 3 25 bR (bc 1 53 (ai 10)) [ai i] fr (P az)=.ok (.int c) (P az):=by
 obtain⟨a,b,c',d,e,f,g',hh⟩:=C.heap;exact rr hc<|kb (xK C h) (hh az) rfl (qA (ao hi) qz)
theorem Ik (C:uo aO kd L ls P){c s:Int}(h:fr.lookup 10=some (.ref aO))(Zf:fr.lookup 41=some (.int c))(Qe:fr.lookup 34=some (.int s))(hc:bR [.ref 1,.int c] (P az)=.ok (.int c) (P az)) :
  ax 1 57 r (ai 10) [bj [ax 3 25 bR (bc 1 53 (ai 10)) [ai 41]],ai 34] fr (P az)=r [.ref aO,.tup [.int c],.int s] (P az):=by
 refine ke C h (v1:=.tup [.int c]) (v2:=.int s) ?_ (ao Qe);simp only[bj,aS,ME.bind,pV C h Zf hc,aC,ah];rfl
end
noncomputable def hX (aO kd L:Nat)(ls:List Nat)(P:List (V×V)->bw):Prop:=∀J:bw,uo aO kd L ls λaz=>P az++J
theorem wm :∀{vs:List V},(∀v∈vs,V.iI n v=true)->V.iJ n vs=true:=by
 intro y
 induction y with
 |nil=>
  intro _;exact rfl
 |cons v vs ih=>
  intro h;exact fD ⟨h v (.head _),ih λu hu=>h u (.tail _ hu)⟩
theorem EP (n:Nat) :∀t:Nat,V.iJ n (List.replicate t (.int 0))=true:=by
 intro y
 induction y with
 |zero=>
  exact rfl
 |succ t ih=>
  exact ih
theorem d7.iI (I:d7 L az):oE n (.dict .tup az)=true:=by
 refine fD ⟨wm λv hv=>?_,wm λv hv=>?_⟩
 .obtain⟨kv,hk,rfl⟩:=dz hv
  obtain⟨cl,s,_,rfl⟩:=I.good kv hk;show(V.iJ n cl.ints&&(true&&true))=true
  cases cl with
  |x t=>show(V.iJ n (List.replicate t (.int 0))&&(true&&true))=true;exact rl (EP ..) rfl
  |z=>rfl
 .obtain⟨kv,hk,rfl⟩:=dz hv
  obtain⟨cl,s,_,rfl⟩:=I.good kv hk;rfl
theorem zY {aO:Nat}(C:hX aO kd L ls P)(I:d7 L aJ)(h:closed (P az++J)) :∀o∈P aJ++J,oE (P az++J).length o=true:=by
 intro o ho;rw[<- (C J).set az aJ] at ho;rcases List.mem_or_eq_of_mem_set ho with ho |rfl
 .exact h o ho
 .exact I.iI
theorem fA {aO:Nat}(C:hX aO kd L ls P)(az aJ:List (V×V)) :(P aJ).length =(P az).length:=by
 have:=aP List.length ((C []).set az aJ);simp only[List.length_set,List.append_nil] at this;exact this.symm
theorem oX {aO:Nat}(C:hX aO kd L ls P){υ:bw}(I:d7 L aJ)(hf:gQ 40 (P aJ++J++υ) (P az++J).length v=some v') :
  uP (P az++J) (.ok v (P aJ++J++υ))=.ok v' (P aJ++J):=by
 have hl :(P az++J).length =(P aJ++J).length:=by refine bY.trans ?_;exact rl bY<|rl (fA C aJ az) rfl
 have ht :(P aJ++J++υ).take (P az++J).length=P aJ++J:=rl hl<|rl List.take_left rfl
 refine(Hv hf (rl ht<|zY C I)).trans ?_;exact rl ht rfl
theorem f7 (U:bw)(o:O) :(U++[o])[U.length]? = some o:=by simp
theorem De (U:bw)(vs:List V)(i:V):mE (.ref U.length) i (U++[.list vs])=AK vs i:=by unfold mE;dsimp only;rw[f7]
theorem mr (U:bw)(o o':O) :(U++[o]).set U.length o'=U++[o']:=by simp
theorem rQ {D:List V}{a:V}(h:fr.lookup i=some (.ref U.length))(hz:D.length<1000):c6 .pop (ai i) [] fr (U++[.list (D++[a])])=.ok a (U++[.list D]):=by
 have AS:cE (D++[a]).length=true:=bN (by refine rl bY<|rl gC ?_;exact q1 ⋯ (by rfl))
 have hl:gF (U++[.list (D++[a])]) (.ref U.length)=some (U.length,D++[a]):=by unfold gF;dsimp only;exact rl (f7 ..) rfl
 refine rK (m:=.pop) (ao h) (aP Option.isSome hl) qz ?_;show(gF (U++[.list (D++[a])]) (.ref U.length)).bind _=_;refine rl hl<|rl (Option.bind_some ..) <| (ay (fD ⟨rfl,AS⟩)).trans ?_
 simp only[List.getLast?_append,List.getLast?_singleton,Option.map_some,Option.some_or,List.dropLast_concat,mr]
theorem nH {D D':List V}{f:ME V}(h:fr.lookup i=some (.ref U.length))(hf:f fr (U++[.list D])=.ok v (U++[.list D']))(hz:D'.length<1000):c6 .append (ai i) [f] fr (U++[.list D])=.ok .none (U++[.list (D'++[v])]):=by
 have AS:cE D'.length=true:=bN (q4 ⋯ (by rfl));have hl :∀D:List V,gF (U++[.list D]) (.ref U.length)=some (U.length,D):=λD=>by unfold gF;dsimp only;rw[f7]
 refine rK (m:=.append) (ao h) (aP Option.isSome (hl D)) (qA hf qz) ?_;show(gF (U++[.list D']) (.ref U.length)).bind _=_;rw[hl,Option.bind_some];refine(ay AS).trans ?_;rw[mr]
noncomputable def aR:T->V
 |.leaf l=>.tup [.str [l]]
 |.node a b=>.tup [.str [112],aR a,aR b]
noncomputable def wo:List Nat->List T->Prop
 |[],_=>True
 |s::r,st=>(s=112->2<=st.length)/\wo r (fZ s st)
def ER (rs:List Nat)(st:List T):List T:=rs.foldl (λst s=>fZ s st) st
theorem ES {s:Nat} :∀(rs:List Nat) (st:List T),wo rs st->(s=112->2<=(ER rs st).length)->wo (rs++[s]) st:=by
 intro y
 induction y with
 |nil=>
  intro _ _ h;exact⟨h,trivial⟩
 |cons a rs ih=>
  intro st h h2;exact⟨h.1,ih _ h.2 h2⟩
theorem oY (ss:List Nat):ER ss.reverse []=gm ss:=by
 unfold ER gm;exact rl List.foldl_reverse rfl
theorem wq :∀{ss:List Nat},tQ ss->wo ss.reverse []:=by
 intro y
 induction y with
 |nil=>
  intro _;exact trivial
 |cons s r ih=>
  intro h;exact rl List.reverse_cons<|ES _ _ (ih h.1) λz=>rl (oY ..)<|h.2 z
theorem zZ (s:Nat)(st:List T) :(fZ s st).length<=st.length+1:=by
 unfold fZ
 split
 .match st with
  |[]=>exact Nat.zero_le _
  |[a]=>exact Nat.zero_le _
  |a::b::r=>simp only[List.length_cons];lia
 .simp
theorem xM {s:Nat}(hs:s<1000)(hc:c<1000){f:ME V}(h:f fr U=.ok (.str [s]) U):bx .Eq f (ah (.str [c])) fr U=.ok (decide (s=c)) U:=by
 have e1:ig .Eq (.str [s]) (.str [c]) U=some (decide (s=c)):=by
  have p1 :(V.str [s]).plain=true:=by show([s].all λx=>decide (x<1114112))=true;simp;exact q1 ⋯ (by rfl)
  have p2 :(V.str [c]).plain=true:=by show([c].all λx=>decide (x<1114112))=true;simp;exact q1 ⋯ (by rfl)
  have f1:flat U (.str [s])=some (.str [s]):=by unfold flat;dsimp only;rw[ay p1]
  have f2:flat U (.str [c])=some (.str [c]):=by unfold flat;dsimp only;rw[ay p2]
  show J0 (.str [s]) (.str [c]) U=_;unfold J0;rw[f1,f2];show some (V.beq (.str [s]) (.str [c]))=_;by_cases bJ:s=c
  .subst bJ;rw[(V.beq_iff _ _).mpr rfl,bN rfl]
  .rw[cI bJ]
   congr 1
   cases z:V.beq (.str [s]) (.str [c]) with
   |false=>rfl
   |true=>have:=(V.beq_iff _ _).mp z;injection this with q;injection q with q _;exact absurd q bJ
 simp only[bx,ME.bind,h,aC,ah,e1,c9]
def qB:MS:=(bM (c6 .append (ai 48) [(rd (bx .Eq (ai 1) (ah (.str [112]))) (bj [(ai 1),(c6 .pop (ai 48) []),(c6 .pop (ai 48) [])]) (bj [(ai 1)]))]))
theorem ET {s:Nat}{st:List T}(Ly:fr.lookup 48=some (.ref U.length))(h1:fr.lookup 1=some (.str [s]))(hs:s<1000)(hz:st.length<900)(Il:s=112->2<=st.length) :
  qB fr (U++[.list (st.map aR).reverse])=.next fr (U++[.list ((fZ s st).map aR).reverse]):=by
 have ht:=xM (fr:=fr) (U:=U++[.list (st.map aR).reverse]) (f:=ai 1) (c:=112) hs (by decide) (ao h1);have key :∀D',(rd (bx .Eq (ai 1) (ah (.str [112]))) (bj [(ai 1),(c6 .pop (ai 48) []),(c6 .pop (ai 48) [])]) (bj [(ai 1)])) fr (U++[.list (st.map aR).reverse])=.ok (aR ((fZ s st).headD (.leaf 0))) (U++[.list D'])->D'++[aR ((fZ s st).headD (.leaf 0))] =((fZ s st).map aR).reverse->D'.length<1000->
   qB fr (U++[.list (st.map aR).reverse])=.next fr (U++[.list ((fZ s st).map aR).reverse]):=λD' e1 e2 e3=>by
  unfold qB bM;simp only[cu,nH Ly e1 e3,e2];rfl
 by_cases h:s=112
 .subst h
  obtain⟨a,b,r,q⟩:Pb (λa b r=>st=a::b::r):=by
   cases st with
   |nil=>exact absurd (Il rfl) (by simp)
   |cons a t=>
    cases t with
    |nil=>exact absurd (Il rfl) (by simp)
    |cons b r=>exact⟨a,b,r,rfl⟩
  clear Il;subst q
  .refine key (r.map aR).reverse ?_ (by show _++[aR (.node a b)] =((T.node a b::r).map aR).reverse;exact rl List.map_cons<|rl List.reverse_cons rfl) (by refine rl List.length_reverse<|rl (cJ ..) ?_;simp only[List.length_cons] at hz;exact q5 ⋯ (by rfl))
   have hr:r.length<900:=by simp only[List.length_cons] at hz;exact Nat.lt_of_add_right_lt hz
   have e0 :((a::b::r).map aR).reverse =((r.map aR).reverse++[aR b])++[aR a]:=by simp
   rw[e0] at ht ⊢;have p1:=rQ (i:=48) (fr:=fr) (U:=U) (D:=(r.map aR).reverse++[aR b]) (a:=aR a) Ly (by simp;exact q2 ⋯ (by rfl));have p2:=rQ (i:=48) (fr:=fr) (U:=U) (D:=(r.map aR).reverse) (a:=aR b) Ly (by simp;exact q1 ⋯ (by rfl));simp only[rd,ME.bind,ht,aC,decide_true,if_true,bj,aS,ai,h1,c9,p1,p2,ah];rfl
 .refine key (st.map aR).reverse ?_ (by unfold fZ;refine rl (av h) ?_;show _++[aR (.leaf s)] =((T.leaf s::st).map aR).reverse;exact rl List.map_cons<|rl List.reverse_cons rfl) (by refine rl List.length_reverse<|rl (cJ ..) ?_;exact q1 ⋯ (by rfl))
  simp only[rd,ME.bind,ht,aC,decide_eq_false h,Bool.false_eq_true,if_false,bj,aS,ai,h1,c9,ah];unfold fZ;exact rl (av h) rfl
theorem EU :∀(rs:List Nat) (st:List T) (fr:eY) (U:bw),fr.lookup 48=some (.ref U.length)->(∀s∈rs,s<1000)->st.length+rs.length<900->wo rs st->
  ∀{G:Prop},(∀bC,bC.lookup 48=some (.ref U.length)->(dJ (aA 1) qB (rs.map λc=>V.str [c]) fr (U++[.list (st.map aR).reverse])=.next bC (U++[.list ((ER rs st).map aR).reverse]))->G)->G:=by
 intro y
 induction y with
 |nil=>
  intro st fr U h _ _ _ G kG;exact kG fr h rfl
 |cons s rs ih=>
  intro st fr U h hs hz ok G kG;rw[List.length_cons] at hz;have EV :(aE fr 1 (.str [s])).lookup 48=some (.ref U.length):=b7 (by decide) h;have l1 :(aE fr 1 (.str [s])).lookup 1=some (.str [s]):=cV _ _ _;have e:=ET (U:=U) (st:=st) EV l1 (hs s (.head _)) (Nat.lt_of_add_right_lt hz) ok.1;refine ih (fZ s st) _ U EV (λu hu=>hs u (.tail _ hu)) (by have:=zZ s st;exact Qx hz this) ok.2 λbC h' e'=>?_;refine kG bC h' ?_;show dJ (aA 1) qB (V.str [s]::_) fr _=_;show(match qB (aE fr 1 (.str [s])) _ with |.next cH bU=>_ |.brk cH bU=>_ |.ret v bU=>_ |.exc c cH bU=>_ |.stuck=>_)=_
  exact rl e<|e'
theorem kg {f:V->Option V}{w:V}(h:f v=some w)(k:jK f us=some ws):jK f (v::us)=some (w::ws):=by
 show(f v).bind (λa=>(jK f us).map (a::·))=_;exact rl h<|rl k rfl
theorem kI {g:V->Option V} :∀(us:List V),(∀v∈us,g v=some v)->jK g us=some us:=by
 intro y
 induction y with
 |nil=>
  intro _;exact rfl
 |cons v us ih=>
  intro h;show(g v).bind (λa=>(jK g us).map (a::·))=_;exact rl (h v (.head _))<|rl (ih λu hu=>h u (.tail _ hu)) rfl
theorem tZ :∀(t:T) (f:Nat),t.pre.length+1<f->gQ f U n (aR t)=some (aR t):=by
 intro y
 induction y with
 |leaf l=>
  intro f h;obtain⟨g,rfl⟩ :∃g,f=g+2:=⟨f - 2,Nr h⟩;rfl
 |node a b wu p7=>
  intro f h;have e :(T.node a b).pre.length=a.pre.length+b.pre.length+1:=by simp[T.pre]
  rw[e] at h;obtain⟨g,rfl⟩ :∃g,f=g+2:=⟨f - 2,Nr h⟩;have ha:=wu (g+1) (Yg ⋯);have hb:=p7 (g+1) (q38 ⋯);exact aP (Option.map V.tup) (kI [.str [112],aR a,aR b] λv hv=>by
   rcases b8 hv with rfl |hv
   .rfl
   .rcases b8 hv with rfl |hv
    .exact ha
    .exact dM hv▸hb)
theorem Lz {t:T}(hb:gm ss=[t])(hp:t.pre.length<30)(hs :∀s∈ss,s<1000)(hz:ss.length<30)(hv:tQ ss):lV [.str ss] U=.ok (aR t) U:=by
 have key:cy [76] tO [.str ss] U=.ok (aR t) (U++[.list [aR t]]):=by
  have EV :(aE [(76,V.str ss)] 48 (.ref U.length)).lookup 48=some (.ref U.length):=cV _ _ _;have LA :(aE [(76,V.str ss)] 48 (.ref U.length)).lookup 76=some (.str ss):=rl (aV ..)<|rl (av (by decide)) rfl
  refine EU ss.reverse [] _ U EV (λs h=>hs s (List.mem_reverse.mp h)) (by simp;exact q1 ⋯ (by rfl)) (wq hv) λbC h' e=>?_;rw[oY,hb] at e;have er:qR (ai 76) (aE [(76,V.str ss)] 48 (.ref U.length)) (U++[.list []])=.ok (ss.reverse.map λc=>V.str [c]) (U++[.list []]):=by
   exact(bL (ao LA)).trans (aP (λo=>Res.cO o _) (ay (q4 ⋯ (by rfl))))
  have ei:cv (ai 48) (ah (.int 0)) bC (U++[.list [aR t]])=.ok (aR t) (U++[.list [aR t]]):=by
   exact BR (ao h') rfl ((De U _ _).trans rfl)
  have e2:df (aA 1) (qR (ai 76)) qB (aE [(76,V.str ss)] 48 (.ref U.length)) (U++[.list []])=.next bC (U++[.list [aR t]]):=by
   exact iu er e
  have e1:aB (aA 48) (dj []) [(76,V.str ss)] U=.next (aE [(76,V.str ss)] 48 (.ref U.length)) (U++[.list []]):=rfl;have em:tO [(76,V.str ss)] U=.ret (aR t) (U++[.list [aR t]]):=by
   show aL _ (aL (df (aA 1) (qR (ai 76)) qB) (cp (cv (ai 48) (ah (.int 0))))) _ _=_;unfold aL;refine rl e1 ?_;dsimp only;exact rl e2<|ir ei
  refine(ay (rfl:[V.str ss].length=[76].length)).trans ?_;show dB (tO [(76,V.str ss)] U)=_;exact rl em rfl
 unfold lV tE;exact rl (key ..)<|tD (tZ t 40 (q2 ⋯ (by rfl)))
def pW:MS:=(aL (aB (aA 16) (bQ [48] (aA 49) (iY (ai 50)) none (c6 .pop (ai 48) [])))
 (bM (c6 .append (ai 48) [(aU .Add (bj [(ai 14)]) (bV .tuple [(ai 16)]))])))
def fh (s:Nat)(st:List T):List V:=if s=112 then (st.take 2).map aR else []
noncomputable def restOf (s:Nat)(st:List T):List T:=if s=112 then st.drop 2 else st
theorem z6 {st:List Y}(h:2<=st.length)(kG :∀a b r,st=a::b::r->G):G:=by
 cases st with
 |nil=>exact absurd h (by simp)
 |cons a t=>
  cases t with
  |nil=>exact absurd h (by simp)
  |cons b r=>exact kG a b r rfl
theorem LB {s:Nat}{st:List T}(Ly:fr.lookup 48=some (.ref U.length))(T3:fr.lookup 50=some (.int (bo s)))(hz:st.length<900)(Il:s=112->2<=st.length) :
  bQ [48] (aA 49) (iY (ai 50)) none (c6 .pop (ai 48) []) fr (U++[.list (st.map aR).reverse])=.ok (.list (fh s st)) (U++[.list ((restOf s st).map aR).reverse]):=by
 unfold bQ;by_cases h:s=112
 .subst h
  refine z6 (Il rfl) λa b r q=>?_;clear Il;subst q;have hr:r.length<900:=by simp only[List.length_cons] at hz;exact Nat.lt_of_add_right_lt hz
  have e0 :((a::b::r).map aR).reverse =((r.map aR).reverse++[aR b])++[aR a]:=by simp
  rw[e0];have EV :∀v,(aE (jO fr [48]) 49 v).lookup 48=some (.ref U.length):=λv=>by rw[aV,av (by decide),fU (by decide)];exact Ly
  have p1:=rQ (i:=48) (fr:=aE (jO fr [48]) 49 (.int 0)) (U:=U) (D:=(r.map aR).reverse++[aR b]) (a:=aR a) (EV _) (by simp;exact q2 ⋯ (by rfl));have p2:=rQ (i:=48) (fr:=aE (jO fr [48]) 49 (.int 1)) (U:=U) (D:=(r.map aR).reverse) (a:=aR b) (EV _) (by simp;exact q1 ⋯ (by rfl));exact rl ((pS (ao T3) (by decide)).trans (by rw[show d9 0 ((bo 112:Nat):Int) 1=[.int 0,.int 1] by decide]))<|rl (aC ..)<|rl (jj rfl p1 (by decide))<|rl (jj rfl p2 (by simp)) rfl
 .have ha:bo s=0:=av h
  refine rl ((pS (ao T3) (by rw[ha];decide)).trans (by rw[ha,show d9 0 ((0:Nat):Int) 1=[] by decide]))<|rl (aC ..) ?_
  unfold fh restOf;exact rl (av h)<|rl (av h) rfl
theorem EW {s:Nat}{st:List T}(Il:s=112->2<=st.length):fZ s st =(fZ s st).headD (.leaf 0)::restOf s st/\V.tup (.str [s]::fh s st)=aR ((fZ s st).headD (.leaf 0)):=by
 by_cases h:s=112
 .subst h
  refine z6 (Il rfl) λa b r q=>?_;subst q;exact⟨rfl,rfl⟩
 .unfold fZ fh restOf
  exact rl (av h)<|rl (av h)<|rl (av h)<|⟨rfl,rfl⟩
theorem Im (s:Nat)(st:List T) :(fh s st).length<=2:=by
 unfold fh
 split
 .simp;exact Nat.min_le_left 2 st.length
 .simp
theorem Io (s:Nat)(st:List T) :(restOf s st).length<=st.length:=by
 unfold restOf
 split
 .simp
 .exact Nat.le_refl _
theorem BU {s:Nat}{st:List T}(Ly:fr.lookup 48=some (.ref U.length))(Xm:fr.lookup 14=some (.str [s]))(T3:fr.lookup 50=some (.int (bo s)))(hz:st.length<900)(Il:s=112->2<=st.length)(kG :∀bC,bC.lookup 48=some (.ref U.length)->pW fr (U++[.list (st.map aR).reverse])=.next bC (U++[.list ((fZ s st).map aR).reverse])->G):G:=by
 have hk:=Im s st;have hl:=Io s st;refine kG (aE fr 16 (.list (fh s st))) (b7 (by decide) Ly) ?_;refine(aK (bC:=aE fr 16 (.list (fh s st))) (bB:=U++[.list ((restOf s st).map aR).reverse]) (by unfold aB cu;exact rl (LB Ly T3 hz Il) rfl)).trans ?_;have EV :(aE fr 16 (.list (fh s st))).lookup 48=some (.ref U.length):=b7 (by decide) Ly;have Fy :(aE fr 16 (.list (fh s st))).lookup 14=some (.str [s]):=b7 (by decide) Xm;have Nc :(aE fr 16 (.list (fh s st))).lookup 16=some (.list (fh s st)):=cV _ _ _;have ez:cE (fh s st).length=true:=bN (q3 ⋯ (by rfl));have ez1:cE (1+(fh s st).length)=true:=bN (by lia);have e:aU .Add (bj [(ai 14)]) (bV .tuple [(ai 16)]) (aE fr 16 (.list (fh s st))) (U++[.list ((restOf s st).map aR).reverse])=.ok (.tup (.str [s]::fh s st)) (U++[.list ((restOf s st).map aR).reverse]):=by
  refine(bk (a:=.tup [.str [s]]) (b:=.tup (fh s st)) (bq:=U++[.list ((restOf s st).map aR).reverse]) (bU:=U++[.list ((restOf s st).map aR).reverse]) ?_ ?_).trans ?_
  .unfold bj
   simp only[ME.bind,aS,ai,Fy,c9,aC,ah];rfl
  .unfold bV
   dsimp only[ME.bind,aS,ai,Nc,c9,aC,ah];show Res.cO (if cE (fh s st).length then some (V.tup (fh s st)) else .none) _=_;exact rl (ay ez) rfl
  .show(if cE (1+(fh s st).length) then Res.ok (V.tup ([.str [s]]++fh s st)) _ else Res.stuck)=_
   refine(ay ez1).trans ?_;rfl
 unfold bM cu;refine rl (nH EV e (by rw[List.length_reverse,cJ];exact Ym ⋯ ⋯ (by rfl))) ?_;dsimp only;have v:=EW Il;refine rl v.2 ?_
 conv=>rhs;rw[v.1,List.map_cons,List.reverse_cons]
 rfl
def z7 (s:Nat):V:=.tup [.str [s],.int (bo s)]
theorem BV :∀(rs:List Nat) (st:List T) (fr:eY) (U:bw),fr.lookup 48=some (.ref U.length)->st.length+rs.length<900->wo rs st->
  ∀{G:Prop},(∀bC,bC.lookup 48=some (.ref U.length)->dJ (bp [14,50]) pW (rs.map z7) fr (U++[.list (st.map aR).reverse])=.next bC (U++[.list ((ER rs st).map aR).reverse])->G)->G:=by
 intro y
 induction y with
 |nil=>
  intro st fr U h _ _ G kG;exact kG fr h rfl
 |cons s rs ih=>
  intro st fr U h hz ok G kG;rw[List.length_cons] at hz;have EV :(aE (aE fr 14 (.str [s])) 50 (.int (bo s))).lookup 48=some (.ref U.length):=b7 (by decide) (b7 (by decide) h);have Fy :(aE (aE fr 14 (.str [s])) 50 (.int (bo s))).lookup 14=some (.str [s]):=b7 (by decide) (cV _ _ _);have Fz :(aE (aE fr 14 (.str [s])) 50 (.int (bo s))).lookup 50=some (.int (bo s)):=cV _ _ _;refine BU (U:=U) (st:=st) EV Fy Fz (Nat.lt_of_add_right_lt hz) ok.1 λcA h1 e=>?_;refine ih (fZ s st) cA U h1 (by have:=zZ s st;exact Qx hz this) ok.2 λbC h' e'=>?_;refine kG bC h' ?_;show dJ (bp [14,50]) pW (z7 s::_) fr _=_;show(match pW (aE (aE fr 14 (.str [s])) 50 (.int (bo s))) _ with |.next cH bU=>_ |.brk cH bU=>_ |.ret v bU=>_ |.exc c cH bU=>_ |.stuck=>_)=_
  exact rl e<|e'
theorem EX (h:items? U v=some vs):items? (U++J) v=some vs:=by
 cases v with
 |ref i=>
  unfold items? at h ⊢;dsimp only at h ⊢
  cases hs:U[i]? with
  |none=>rw[hs] at h;injection h
  |some o=>
   have hi:i<U.length:=(List.getElem?_eq_some_iff.mp hs).1;rw[hs] at h;exact rl (List.getElem?_append_left hi)<|rl hs<|h
 |list us=>exact h
 |_=>injection h
theorem EY :∀ss:List Nat,CN (ss.map λs=>V.str [s]) (ss.map λs=>V.int (bo s))=ss.map z7:=by
 intro y
 induction y with
 |nil=>
  exact rfl
 |cons s ss ih=>
  show V.tup [.str [s],.int (bo s)]::CN _ _=_;exact rl ih rfl
theorem Ip {t:T}(h:items? U v=some (ss.map λs=>.str [s]))(hb:gm ss=[t])(hp:t.pre.length<30)(hz:ss.length<30)(hv:tQ ss):kC [v,.tup (ss.map λs=>.int (bo s))] U=.ok (aR t) U:=by
 have dg:ss.length≠0:=λz=>by
  cases ss with
  |nil=>injection hb
  |cons a r=>injection z
 have key:cy [51,52] oO [v,.tup (ss.map λs=>.int (bo s))] U=.ok (aR t) (U++[.list [aR t]]):=by
  generalize hu:V.tup (ss.map λs=>.int (bo s))=u;have EV :(aE [(51,v),(52,u)] 48 (.ref U.length)).lookup 48=some (.ref U.length):=cV _ _ _;have Pm :(aE [(51,v),(52,u)] 48 (.ref U.length)).lookup 51=some v:=rl (aV ..)<|rl (av (by decide)) rfl
  have T4 :(aE [(51,v),(52,u)] 48 (.ref U.length)).lookup 52=some u:=rl (aV ..)<|rl (av (by decide)) rfl
  refine BV ss.reverse [] _ U EV (by simp;exact q1 ⋯ (by rfl)) (wq hv) λbC h' e=>?_;rw[oY,hb] at e;have er:qR (Ex (aS [ai 51,ai 52])) (aE [(51,v),(52,u)] 48 (.ref U.length)) (U++[.list []])=.ok (ss.reverse.map z7) (U++[.list []]):=by
   have ez:KY [v,u] (U++[.list []])=some (.list (ss.map z7)):=by
    unfold KY;dsimp only;refine rl (EX h)<|rr hu ?_
    show KU _ _=_;unfold KU;refine(ay ⟨rl (cJ ..)<|rl (cJ ..) rfl,rl (cJ ..)<|dg,by refine rl (cJ ..) ?_;exact q4 ⋯ (by rfl)⟩).trans ?_;exact rl (EY ..) rfl
   unfold qR Ex;simp only[ME.bind,aS,ai,Pm,T4,c9,aC,ah,ez,KZ,List.map_reverse]
  have ei:cv (ai 48) (ah (.int 0)) bC (U++[.list [aR t]])=.ok (aR t) (U++[.list [aR t]]):=by
   exact BR (ao h') rfl ((De U _ _).trans rfl)
  have e2:df (bp [14,50]) (qR (Ex (aS [ai 51,ai 52]))) pW (aE [(51,v),(52,u)] 48 (.ref U.length)) (U++[.list []])=.next bC (U++[.list [aR t]]):=by
   exact iu er e
  have e1:aB (aA 48) (dj []) [(51,v),(52,u)] U=.next (aE [(51,v),(52,u)] 48 (.ref U.length)) (U++[.list []]):=rfl;have em:oO [(51,v),(52,u)] U=.ret (aR t) (U++[.list [aR t]]):=by
   show aL _ (aL (df (bp [14,50]) (qR (Ex (aS [ai 51,ai 52]))) pW) (cp (cv (ai 48) (ah (.int 0))))) _ _=_;refine(aK e1).trans ((aK e2).trans ?_);exact ir ei
  refine(ay (rfl:[v,u].length=[51,52].length)).trans ?_;show dB (oO [(51,v),(52,u)] U)=_;exact rl em rfl
 unfold kC tE;exact rl (key ..)<|tD (tZ t 40 (q2 ⋯ (by rfl)))
noncomputable def under (k:Nat)(p:List V×T):List V×T:=(.int k::p.1,p.2)
noncomputable def da:T->List (List V×T)
 |.leaf l=>[([],.leaf l)]
 |.node a b=>([],.node a b) ::((da a).map (under 0)++(da b).map (under 1))
def eF (p:List V×T):V:=.tup [.tup p.1,aR p.2]
noncomputable def mF:T->Nat
 |.leaf _=>0
 |.node a b=>max (mF a) (mF b)+1
theorem pX :∀t:T,(da t).length=t.pre.length:=by
 intro y
 induction y with
 |leaf _=>
  exact rfl
 |node a b wu p7=>
  simp[da,T.pre,wu,p7]
theorem BW :∀(t:T) (p:List V×T),p∈da t->p.1.length<t.pre.length:=by
 intro y
 induction y with
 |leaf l=>
  intro p h
  cases dM h;exact Nat.zero_lt_one
 |node a b wu p7=>
  intro p h;have e :(T.node a b).pre.length=a.pre.length+b.pre.length+1:=by simp[T.pre]
  refine rl e ?_;rcases b8 h with rfl |h
  .exact Nat.zero_lt_succ _
  .rcases List.mem_append.mp h with h |h
   .obtain⟨q,hq,rfl⟩:=dz h
    have:=wu q hq;show q.1.length+1<_;exact q66 ⋯
   .obtain⟨q,hq,rfl⟩:=dz h
    have:=p7 q hq;show q.1.length+1<_;exact VF ⋯
theorem t4 {D xs:List V}{f:ME V}(h:fr.lookup i=some (.ref U.length))(hf:f fr (U++[.list D])=.ok (.list xs) (U++[.list D]))(hz:D.length+xs.length<1000):c6 .extend (ai i) [f] fr (U++[.list D])=.ok .none (U++[.list (D++xs)]):=by
 have AS:cE (D.length+xs.length)=true:=bN (q4 ⋯ (by rfl));have hl :∀D:List V,gF (U++[.list D]) (.ref U.length)=some (U.length,D):=λD=>by unfold gF;dsimp only;rw[f7]
 refine rK (m:=.extend) (ao h) (aP Option.isSome (hl D)) (qA hf qz) ?_;show(gF (U++[.list D]) (.ref U.length)).bind _=_;rw[hl,Option.bind_some];refine(ay AS).trans ?_;rw[mr]
theorem gO {f g:ME V}{a b:V}(hf:f fr U=.ok a U)(hg:g fr U=.ok b U):bj [f,g] fr U=.ok (.tup [a,b]) U:=by
 unfold bj;simp only[ME.bind,aS,hf,hg,aC,ah];rfl
def t5:ME V:=bj [(aU .Add (bj [(ai 4)]) (ai 5)),(ai 6)]
theorem Iq {p:List V×T}(h4:jD.lookup 4=some (.int k))(hp:p.1.length<100):t5 (aE (aE jD 5 (.tup p.1)) 6 (aR p.2)) U=.ok (eF (under k p)) U:=by
 have l4 :(aE (aE jD 5 (.tup p.1)) 6 (aR p.2)).lookup 4=some (.int k):=b7 (by decide) (b7 (by decide) h4);have l5 :(aE (aE jD 5 (.tup p.1)) 6 (aR p.2)).lookup 5=some (.tup p.1):=b7 (by decide) (cV _ _ _);have l6 :(aE (aE jD 5 (.tup p.1)) 6 (aR p.2)).lookup 6=some (aR p.2):=cV _ _ _;have e:aU .Add (bj [(ai 4)]) (ai 5) (aE (aE jD 5 (.tup p.1)) 6 (aR p.2)) U=.ok (.tup (.int k::p.1)) U:=by
  refine(bk (a:=.tup [.int k]) (b:=.tup p.1) (bq:=U) (bU:=U) ?_ (ao l5)).trans ?_
  .unfold bj
   simp only[ME.bind,aS,ai,l4,c9,aC,ah];rfl
  .show(if cE (1+p.1.length) then Res.ok (V.tup ([.int k]++p.1)) _ else Res.stuck)=_
   have ez:cE (1+p.1.length)=true:=bN (q86 ⋯ (by rfl));refine(ay ez).trans ?_;rfl
 exact gO e (ao l6)
theorem BX (h4:jD.lookup 4=some (.int k)) :∀(ps:List (List V×T)) (bh:List V),(∀p∈ps,p.1.length<100)->bh.length+ps.length<1000->
  fz (bp [5,6]) none t5 jD (ps.map eF) U bh=.ok (bh++(ps.map (under k)).map eF) U:=by
 intro y
 induction y with
 |nil=>
  intro bh _ _;rw[List.map_nil,List.map_nil,List.map_nil,List.append_nil];rfl
 |cons p ps ih=>
  intro bh hp hz;rw[List.length_cons] at hz;have ih:=ih (bh++[eF (under k p)]) (λq hq=>hp q (.tail _ hq)) (by refine rl bY<|rl gC ?_;exact yf hz)
  show fz (bp [5,6]) none t5 jD (eF p::_) U bh=_;exact rl (jj (cA:=aE (aE jD 5 (.tup p.1)) 6 (aR p.2)) rfl (Iq h4 (hp p (.head _))) (q5 ⋯ (by rfl)))<|rl ih<|rl (cW ..) rfl
def nI (r:List V->bw->Res V):MS:=bM (c6 .extend (ai 2) [(bQ [4] (bp [5,6]) (bl (bZ r [(ai 7)])) none t5)])
theorem t6 {D:List V}{t:T}(h2:fr.lookup 2=some (.ref U.length))(h4:fr.lookup 4=some (.int k))(h7:fr.lookup 7=some (aR t))(hr :∀U,r [aR t] U=.ok (.list ((da t).map eF)) U)(hz:D.length+t.pre.length<100) :
  nI r fr (U++[.list D])=.next fr (U++[.list (D++((da t).map (under k)).map eF)]):=by
 have hl:=pX t;have e:bQ [4] (bp [5,6]) (bl (bZ r [(ai 7)])) none t5 fr (U++[.list D])=.ok (.list (((da t).map (under k)).map eF)) (U++[.list D]):=by
  have ei:bl (bZ r [(ai 7)]) fr (U++[.list D])=.ok ((da t).map eF) (U++[.list D]):=by
   unfold bl bZ;simp only[ME.bind,aS,ai,h7,c9,aC,ah,hr];rfl
  unfold bQ;exact rl ei<|rl (aC ..)<|rl (BX (by rw[fU (by decide)];exact h4) _ [] (λp hp=>by have:=BW t p hp;exact q67 ⋯ ⋯) (by simp;exact q68 ⋯ ⋯ (by rfl)))<|rl (aC ..) rfl
 unfold nI bM cu;exact rl (t4 h2 e (by rw[cJ,cJ];exact q69 ⋯ ⋯ (by rfl))) rfl
theorem BY :∀(t:T) (p:List V×T),p∈da t->(∀v∈p.1,∃i:Int,v=.int i)/\p.2.pre.length<=t.pre.length:=by
 intro y
 induction y with
 |leaf l=>
  intro p h
  cases dM h;exact⟨λv hv=>(nomatch hv),Nat.le_refl _⟩
 |node a b wu p7=>
  intro p h;have e :(T.node a b).pre.length=a.pre.length+b.pre.length+1:=by simp[T.pre]
  rcases b8 h with rfl |h
  .exact⟨λv hv=>(nomatch hv),Nat.le_refl _⟩
  .rcases List.mem_append.mp h with h |h
   .obtain⟨q,hq,rfl⟩:=dz h
    obtain⟨h1,h2⟩:=wu q hq;refine⟨λv hv=>?_,by rw[e];show q.2.pre.length<=_;lia⟩;rcases b8 hv with rfl |hv
    .exact⟨_,rfl⟩
    .exact h1 v hv
   .obtain⟨q,hq,rfl⟩:=dz h
    obtain⟨h1,h2⟩:=p7 q hq;refine⟨λv hv=>?_,by rw[e];show q.2.pre.length<=_;lia⟩;rcases b8 hv with rfl |hv
    .exact⟨_,rfl⟩
    .exact h1 v hv
theorem Ir {p:List V×T}{f:Nat}(hi :∀v∈p.1,∃i:Int,v=.int i)(hf:p.2.pre.length+3<f):gQ f U n (eF p)=some (eF p):=by
 obtain⟨g,rfl⟩ :∃g,f=g+3:=⟨f - 3,UR hf⟩;have h1:gQ (g+2) U n (.tup p.1)=some (.tup p.1):=by
  show(jK (gQ (g+1) U n) p.1).map V.tup=_;exact rl (kI p.1 λv hv=>by obtain⟨i,rfl⟩:=hi v hv;rfl) rfl
 exact aP (Option.map V.tup) (kI [.tup p.1,aR p.2] λv hv=>by
  rcases b8 hv with rfl |hv
  .exact h1
  .exact dM hv▸tZ p.2 (g+2) (Yg ⋯))
theorem It :∀(d:Nat) (t:T) (U:bw),mF t<d->t.pre.length<30->eS d [aR t] U=.ok (.list ((da t).map eF)) U:=by
 intro y
 induction y with
 |zero=>
  intro t U h _;exact absurd h (Nat.not_lt_zero _)
 |succ d ih=>
  intro t U h hp;have key:cy [3] (mq (eS d)) [aR t] U=.ok (.ref U.length) (U++[.list ((da t).map eF)]):=by
   have e1:aB (aA 2) (dj [(bj [(bj []),(ai 3)])]) [(3,aR t)] U=.next (aE [(3,aR t)] 2 (.ref U.length)) (U++[.list [eF ([],t)]]):=rfl;have l2 :(aE [(3,aR t)] 2 (.ref U.length)).lookup 2=some (.ref U.length):=cV _ _ _;have l3 :(aE [(3,aR t)] 2 (.ref U.length)).lookup 3=some (aR t):=rl (aV ..)<|rl (av (by decide)) rfl
   generalize aE [(3,aR t)] 2 (.ref U.length)=fr at e1 l2 l3;have e2:fk (λbC=>bC.lookup 2=some (.ref U.length)) (λbC=>df (bp [4,7]) (kO (dU 1 (ai 3))) (nI (eS d)) fr (U++[.list [eF ([],t)]])=.next bC (U++[.list ((da t).map eF)])):=by
    cases t with
    |leaf l=>
     refine⟨fr,l2,?_⟩;have er:kO (dU 1 (ai 3)) fr (U++[.list [eF ([],.leaf l)]])=.ok [] (U++[.list [eF ([],.leaf l)]]):=by
      unfold kO dU;simp only[ME.bind,ai,l3,c9,aC];rfl
     unfold df cu;exact rl er rfl
    |node a b=>
     have e :(T.node a b).pre.length=a.pre.length+b.pre.length+1:=by simp[T.pre]
     have hh:mF (.node a b)=max (mF a) (mF b)+1:=rfl;rw[e] at hp;rw[hh] at h;have er:kO (dU 1 (ai 3)) fr (U++[.list [eF ([],.node a b)]])=.ok [.tup [.int 0,aR a],.tup [.int 1,aR b]] (U++[.list [eF ([],.node a b)]]):=by
      unfold kO dU;simp only[ME.bind,ai,l3,c9,aC];rfl
     have la:=pX a;have s1:=t6 (r:=eS d) (fr:=aE (aE fr 4 (.int 0)) 7 (aR a)) (U:=U) (D:=[eF ([],.node a b)]) (k:=0) (t:=a) (b7 (by decide) (b7 (by decide) l2)) (rl (aV ..)<|rl (av (by decide))<|rl (aV ..)<|rl (ay rfl) rfl) (cV _ _ _) (λU=>ih a U (Qp h) (by lia)) (by simp;exact q36 ⋯ (by rfl))
     have s2:=t6 (r:=eS d) (fr:=aE (aE (aE (aE fr 4 (.int 0)) 7 (aR a)) 4 (.int 1)) 7 (aR b)) (U:=U) (D:=[eF ([],.node a b)]++((da a).map (under 0)).map eF) (k:=1) (t:=b)
      (rl (aV ..)<|rl (av (by decide))<|rl (aV ..)<|rl (av (by decide))<|rl (aV ..)<|rl (av (by decide))<|rl (aV ..)<|rl (av (by decide))<|l2) (rl (aV ..)<|rl (av (by decide))<|rl (aV ..)<|rl (ay rfl) rfl) (cV _ _ _) (λU=>ih b U (Qo h) (by lia)) (by simp;exact q74 ⋯ ⋯ (by rfl))
     refine⟨aE (aE (aE (aE fr 4 (.int 0)) 7 (aR a)) 4 (.int 1)) 7 (aR b),rl (aV ..)<|rl (av (by decide))<|rl (aV ..)<|rl (av (by decide))<|rl (aV ..)<|rl (av (by decide))<|rl (aV ..)<|rl (av (by decide))<|l2,?_⟩
     unfold df cu;refine rl er ?_;show dJ (bp [4,7]) (nI (eS d)) [.tup [.int 0,aR a],.tup [.int 1,aR b]] fr _=_;show(match nI (eS d) (aE (aE fr 4 (.int 0)) 7 (aR a)) _ with |.next cH bU=>_ |.brk cH bU=>_ |.ret v bU=>_ |.exc c cH bU=>_ |.stuck=>_)=_
     refine rl s1 ?_;dsimp only;show(match nI (eS d) (aE (aE (aE (aE fr 4 (.int 0)) 7 (aR a)) 4 (.int 1)) 7 (aR b)) _ with |.next cH bU=>_ |.brk cH bU=>_ |.ret v bU=>_ |.exc c cH bU=>_ |.stuck=>_)=_
     refine rl s2 ?_;show ur.next _ _=_;exact rl (show(da (.node a b)).map eF=[eF ([],.node a b)]++((da a).map (under 0)).map eF++((da b).map (under 1)).map eF from by simp[da]) rfl
   obtain⟨bC,l2',e2⟩:=e2;have em:mq (eS d) [(3,aR t)] U=.ret (.ref U.length) (U++[.list ((da t).map eF)]):=by
    show aL _ (aL (df (bp [4,7]) (kO (dU 1 (ai 3))) (nI (eS d))) (cp (ai 2))) _ _=_;refine(aK e1).trans ((aK e2).trans ?_);exact ir (ao l2')
   refine(ay (rfl:[aR t].length=[3].length)).trans ?_;show dB (mq (eS d) [(3,aR t)] U)=_;exact rl em rfl
  show tE [3] (mq (eS d)) [aR t] U=_;unfold tE;refine rl (key ..)<|tD ?_
  unfold gQ;dsimp only;refine(av (by simp)).trans ?_;refine rl (f7 ..) ?_;show(jK (gQ 39 _ _) ((da t).map eF)).map V.list=_;exact rl (kI _ λv hv=>by
   obtain⟨p,uj,rfl⟩:=dz hv;obtain⟨h1,h2⟩:=BY t p uj;exact Ir h1 (q97 ⋯ ⋯ (by rfl))) rfl
noncomputable def EZ:T->Prop
 |.leaf l=>l≠112
 |.node a b=>EZ a/\EZ b
noncomputable def t7:T->Nat
 |.leaf l=>l
 |.node _ _=>112
theorem Iu {s:Nat}{st:List T}(h :∀t∈st,EZ t) :∀t∈fZ s st,EZ t:=by
 unfold fZ;by_cases hs:s=112
 .refine rl (ay hs) ?_
  match st,h with
  |[],_=>exact λt ht=>nomatch ht
  |[a],_=>exact λt ht=>nomatch ht
  |a::b::r,h=>
   intro t ht;rcases b8 ht with rfl |ht
   .exact⟨h a (.head _),h b (.tail _ (.head _))⟩
   .exact h t (.tail _ (.tail _ ht))
 .refine rl (av hs) ?_
  intro t ht;rcases b8 ht with rfl |ht
  .exact hs
  .exact h t ht
theorem LC :∀(rs:List Nat) (st:List T),(∀t∈st,EZ t)->∀t∈ER rs st,EZ t:=by
 intro y
 induction y with
 |nil=>
  intro _ h;exact h
 |cons s rs ih=>
  intro st h;exact ih _ (Iu h)
theorem E0 {t:T}(hb:gm ss=[t]):EZ t:=by
 have:=LC ss.reverse [] (λt h=>nomatch h) t;rw[oY,hb] at this;exact this (.head _)
theorem qD :∀t:T,(da t).map (λp=>t7 p.2)=t.pre:=by
 intro y
 induction y with
 |leaf l=>
  exact rfl
 |node a b wu p7=>
  show 112 ::((da a).map (under 0)++(da b).map (under 1)).map (λp=>t7 p.2)=112 ::(a.pre++b.pre);exact rl List.map_append<|rl List.map_map<|rl List.map_map<|rr wu<|rr p7 rfl
theorem E1 :∀(t:T),EZ t->∀p∈da t,EZ p.2:=by
 intro y
 induction y with
 |leaf l=>
  intro h p hp
  cases dM hp;exact h
 |node a b wu p7=>
  intro h p hp;rcases b8 hp with rfl |hp
  .exact h
  .rcases List.mem_append.mp hp with hp |hp
   .obtain⟨q,hq,rfl⟩:=dz hp;exact wu h.1 q hq
   .obtain⟨q,hq,rfl⟩:=dz hp;exact p7 h.2 q hq
theorem z8 {t:kR}(Qf val:Y->V) :∀(xs:List Y) (bh:List V),(∀x∈xs,fk (λcA=>t (Qf x) jD=some cA) (λcA=>iw cA U=.ok (val x) U))->bh.length+xs.length<1000->
  fz t none iw jD (xs.map Qf) U bh=.ok (bh++xs.map val) U:=by
 intro y
 induction y with
 |nil=>
  intro bh _ _;rw[List.map_nil,List.map_nil,List.append_nil];rfl
 |cons x xs ih=>
  intro bh h hz;rw[List.length_cons] at hz;obtain⟨cA,h1,h2⟩:=h x (.head _);have ih:=ih (bh++[val x]) (λy hy=>h y (.tail _ hy)) (by refine rl bY<|rl gC ?_;exact yf hz)
  exact rl List.map_cons<|rl (jj h1 h2 (q5 ⋯ (by rfl)))<|rl ih<|rl (cW ..) rfl
theorem gy {t:kR}{f:ME (List V)}(Qf val:Y->V)(xs:List Y)(hf:f fr U=.ok (xs.map Qf) U)(h :∀x∈xs,fk (λcA=>t (Qf x) (jO fr dq)=some cA) (λcA=>iw cA U=.ok (val x) U))(hz:xs.length<1000) :
  bQ dq t f none iw fr U=.ok (.list (xs.map val)) U:=by
 unfold bQ;exact rl hf<|rl (aC ..)<|rl (z8 Qf val xs [] h (by simp;omega))<|rl (aC ..) rfl
theorem Iv {t:T}(h:EZ t):AV .len [aR t] U=some (.int (bo (t7 t)+1)):=by
 cases t with
 |leaf l=>
  have e:bo l=0:=av h;show some (V.int 1)=some (.int ((bo l:Nat)+1));exact rl e rfl
 |node a b=>rfl
theorem lW {f:ME V}(h:f fr U=.ok (.list vs) U)(hz:vs.length<1000):bV .tuple [f] fr U=.ok (.tup vs) U/\bV .len [f] fr U=.ok (.int vs.length) U:=by
 have ez:cE vs.length=true:=bN (q4 ⋯ (by rfl));constructor
 .unfold bV
  simp only[ME.bind,aS,h,aC,ah];show Res.cO (if cE vs.length then some (V.tup vs) else .none) U=_;exact rl (ay ez) rfl
 .unfold bV
  simp only[ME.bind,aS,h,aC,ah];show Res.cO (if cE vs.length then some (V.int vs.length) else .none) U=_;exact rl (ay ez) rfl
theorem LD {f g h:ME V}{a b c:V}(hf:f fr U=.ok a U)(hg:g fr U=.ok b U)(hh:h fr U=.ok c U):bj [f,g,h] fr U=.ok (.tup [a,b,c]) U:=by
 unfold bj;simp only[ME.bind,aS,hf,hg,hh,aC,ah];rfl
def E2 (t:T):V:=.tup [.int t.pre.length,.tup (t.pre.map λs=>.str [s]),.tup (t.pre.map λs=>.int (bo s))]
theorem wx {t:T}(ok:EZ t)(hp:t.pre.length<30)(hh:mF t<8):gJ [aR t] U=.ok (E2 t) U:=by
 have hl:=pX t;have e1:bQ [] (bp [5,6]) (bl (bZ (eS 8) [(ai 3)])) none (ai 6) [(3,aR t)] U=.ok (.list ((da t).map λp=>aR p.2)) U:=by
  refine gy eF (λp=>aR p.2) (da t) ?_ (λp _=>⟨_,rfl,rfl⟩) (Qz ⋯ ⋯ (by rfl));have e3:ai 3 [(3,aR t)] U=.ok (aR t) U:=rfl;unfold bl bZ;simp only[ME.bind,aS,e3,aC,ah,It 8 t U hh hp];rfl
 have l8 :(aE [(3,aR t)] 8 (.list ((da t).map λp=>aR p.2))).lookup 8=some (.list ((da t).map λp=>aR p.2)):=cV _ _ _;have s1:aB (aA 8) (bQ [] (bp [5,6]) (bl (bZ (eS 8) [(ai 3)])) none (ai 6)) [(3,aR t)] U=.next (aE [(3,aR t)] 8 (.list ((da t).map λp=>aR p.2))) U:=by
  exact dT e1
 generalize aE [(3,aR t)] 8 (.list ((da t).map λp=>aR p.2))=fr at l8 s1;have ei:bl (ai 8) fr U=.ok ((da t).map λp=>aR p.2) U:=by
  unfold bl;simp only[ME.bind,ai,l8,c9,aC];rfl
 have h2:bQ [] (aA 6) (bl (ai 8)) none (cv (ai 6) (ah (.int 0))) fr U=.ok (.list (t.pre.map λs=>.str [s])) U:=by
  rw[gy (λp:List V×T=>aR p.2) (λp=>.str [t7 p.2]) (da t) ei (λp _=>?_) (Qz ⋯ ⋯ (by rfl))]
  .rw[<- qD t,List.map_map];rfl
  .refine⟨_,rfl,?_⟩
   have l6 :(aE (jO fr []) 6 (aR p.2)).lookup 6=some (aR p.2):=cV _ _ _;unfold cv;simp only[ME.bind,ai,l6,c9,aC,ah]
   cases p.2 <;> rfl
 have h3:bQ [] (aA 6) (bl (ai 8)) none (aU .Sub (bV .len [(ai 6)]) (ah (.int 1))) fr U=.ok (.list (t.pre.map λs=>.int (bo s))) U:=by
  rw[gy (λp:List V×T=>aR p.2) (λp=>.int (bo (t7 p.2))) (da t) ei (λp uj=>?_) (Qz ⋯ ⋯ (by rfl))]
  .rw[<- qD t,List.map_map];rfl
  .refine⟨_,rfl,?_⟩
   have l6 :(aE (jO fr []) 6 (aR p.2)).lookup 6=some (aR p.2):=cV _ _ _;have el:bV .len [(ai 6)] (aE (jO fr []) 6 (aR p.2)) U=.ok (.int (bo (t7 p.2)+1)) U:=by
    unfold bV;simp only[ME.bind,aS,ai,l6,c9,aC,ah,Iv (E1 t ok p uj)]
   refine(bk el rfl).trans ?_;show Res.ok (V.int (_ - 1)) U=_;exact rl (Int.add_sub_cancel ..) rfl
 have r1:=(lW (U:=U) (f:=ai 8) (ao l8) (by refine rl (cJ ..) ?_;exact Qz ⋯ ⋯ (by rfl))).2;have r2:=(lW h2 (by refine rl (cJ ..) ?_;exact q1 ⋯ (by rfl))).1;have r3:=(lW h3 (by refine rl (cJ ..) ?_;exact q1 ⋯ (by rfl))).1;rw[cJ,hl] at r1;have em:oK [(3,aR t)] U=.ret (E2 t) U:=by
  refine(aK s1).trans ?_;unfold cp cu;exact rl (LD r1 r2 r3) rfl
 show dB (oK [(3,aR t)] U)=_;exact rl em rfl
noncomputable def Sz (ls:List Nat):T->Prop
 |.leaf l=>l∈ls
 |.node a b=>Sz ls a/\Sz ls b
noncomputable def t8:T->List T
 |.leaf _=>[]
 |.node a b=>[a,b]
theorem z9 :∀t:T,2 * mF t+1<=t.pre.length:=by
 intro y
 induction y with
 |leaf _=>
  exact Nat.le_refl _
 |node a b wu p7=>
  have:=wu;have:=p7;have e :(T.node a b).pre.length=a.pre.length+b.pre.length+1:=by simp[T.pre]
  have e2:mF (.node a b)=max (mF a) (mF b)+1:=rfl;exact U1 wu p7 e e2
section
variable {aO:Nat}
theorem Aa (C:uo aO kd L ls P) :∀(d:Nat) (t:T),mF t<d->Sz ls t->fg d [.ref aO,aR t] (P az)=.ok (.int 0) (P az):=by
 intro y
 induction y with
 |zero=>
  intro t h _;exact absurd h (Nat.not_lt_zero _)
 |succ d ih=>
  intro t h ok;obtain⟨mk,hg⟩:=C.get;obtain⟨a,b,c',d',e,f,g',hh⟩:=C.heap;have s1:aB (aA 16) (bQ [10] (aA 7) (bl (dU 1 (ai 43))) none (ax 1 68 (fg d) (ai 10) [(ai 7)])) [(10,.ref aO),(43,aR t)] (P az)=.next (aE [(10,.ref aO),(43,aR t)] 16 (.list ((t8 t).map λ_=>.int 0))) (P az):=by
   unfold aB cu;rw[gy aR (λ_=>.int 0) (t8 t) ?_ (λk hk=>?_) (by cases t <;> simp[t8])]
   .rfl
   .cases t <;> rfl
   .refine⟨_,rfl,?_⟩
    have hr:fg d [.ref aO,aR k] (P az)=.ok (.int 0) (P az):=by
     cases t with
     |leaf l=>exact nomatch hk
     |node x y=>
      have e2:mF (.node x y)=max (mF x) (mF y)+1:=rfl;rw[e2] at h;rcases b8 hk with rfl |hk
      .exact ih _ (Qp h) ok.1
      .cases dM hk
       exact ih _ (Qo h) ok.2
    have xN :(aE (jO [(10,V.ref aO),(43,aR t)] [10]) 7 (aR k)).lookup 10=some (.ref aO):=by rw[aV,av (by decide),fU (by decide)];rfl
    have l7 :(aE (jO [(10,V.ref aO),(43,aR t)] [10]) 7 (aR k)).lookup 7=some (aR k):=cV _ _ _;exact rr hr<|kb (ao xN) (hg az) rfl (qA (ao l7) qz)
  have em:kD (fg d) [(10,.ref aO),(43,aR t)] (P az)=.ret (.int 0) (P az):=by
   refine(aK s1).trans ?_;have xN :(aE [(10,.ref aO),(43,aR t)] 16 (.list ((t8 t).map λ_=>V.int 0))).lookup 10=some (.ref aO):=rfl;have hs:ew [.ref 1,.str [t7 t],.tup ((t8 t).map λ_=>.int 0)] (P az)=.ok (.int 0) (P az):=by
    cases t with
    |leaf l=>exact C.C9 l ok az
    |node x y=>exact C.Dc az
   have e2:ax 3 69 ew (bc 1 53 (ai 10)) [(cv (ai 43) (ah (.int 0))),(bV .tuple [(ai 16)])] (aE [(10,.ref aO),(43,aR t)] 16 (.list ((t8 t).map λ_=>V.int 0))) (P az)=.ok (.int 0) (P az):=by
    exact rr hs<|kb (xK C xN) (hh az) rfl (by cases t <;> rfl)
   have e3:bx .In (gZ (ah (.int 1))) (ai 16) (aE [(10,.ref aO),(43,aR t)] 16 (.list ((t8 t).map λ_=>V.int 0))) (P az)=.ok false (P az):=by
    cases t <;> rfl
   unfold cp cu rd;simp only[ME.bind,e3,aC,Bool.false_eq_true,if_false,e2]
  show dB (kD (fg d) [(10,.ref aO),(43,aR t)] (P az))=_;exact rl em rfl
end
def wy:ME V:=aU .Add (ai 73) (rd (bx .Eq (ai 1) (ah (.str [112]))) (ah (.int 1)) (gZ (ah (.int 1))))
def Ab:ME V:=ip ic pF (ai 77) [(bj [wy,(ai 66)]),(ah (.int 0))]
noncomputable def iR (x:Nat):Int:=if x=112 then 1 else -1
theorem Df {t:Int}{x:Nat}(h1:fr.lookup 1=some (.str [x]))(Pn:fr.lookup 73=some (.int t))(hx:x<1000):wy fr U=.ok (.int (t+iR x)) U:=by
 have ht:=xM (fr:=fr) (U:=U) (f:=ai 1) (c:=112) hx (by decide) (ao h1);have e:rd (bx .Eq (ai 1) (ah (.str [112]))) (ah (.int 1)) (gZ (ah (.int 1))) fr U=.ok (.int (iR x)) U:=by
  unfold rd iR;simp only[ME.bind,ht,aC];by_cases h:x=112
  .exact rl (bN h)<|rl (ay rfl)<|rl (ay h) rfl
  .exact rl (cI h)<|rl (av (by decide))<|rl (av h) rfl
 exact(bk (ao Pn) e).trans rfl
theorem Dg {f x:Nat}{t n:Int}{F:List (V×V)}{w:V}(h1:fr.lookup 1=some (.str [x]))(Pn:fr.lookup 73=some (.int t))(LG:fr.lookup 66=some (.int n))(Xv:fr.lookup 77=some (.ref f))(hx:x<1000)(hF:U[f]? = some (.dict .tup F))(hw :(cn F (.tup [.int (t+iR x),.int n])).getD (.int 0)=w):Ab fr U=.ok w U:=by
 have e:=gO (Df (U:=U) h1 Pn hx) (ao LG);have hd:gi U (.ref f)=some (f,.tup,F):=by unfold gi;dsimp only;exact rl hF rfl
 have hi:ic U (.ref f)=true:=by unfold ic;exact rl hd rfl
 have hg:pF (.ref f) [.tup [.int (t+iR x),.int n],.int 0] U=some (w,U):=by
  unfold pF vM;refine rl hd ?_;show(if DK.tup=.tup/\fu .tup (.tup [.int (t+iR x),.int n])=true then some ((cn F (.tup [.int (t+iR x),.int n])).getD (.int 0),U) else Option.none)=_;refine(ay ⟨rfl,rfl⟩).trans ?_;exact rl hw rfl
 unfold Ab ip;simp only[ME.bind,ai,Xv,c9,aC,hi,if_true,aS,e,ah,hg]
def oZ:MS:=(aL (aB (aA 62) Ab)
 (aL (fw (bx .Lt (ai 49) (ai 62)) (aL (cP (dZ [76,73]) (bj [(aU .Add (ai 76) (ai 1)),wy]))
 pG) bF)
 (aB (aA 49) (aU .Sub (ai 49) (ai 62)))))
structure SF (f:Nat)(hi ls:V)(ss:List Nat)(t:Int)(k n:Int)(fr:eY):Prop where
 LH:fr.lookup 74=some ls
 Qg:fr.lookup 77=some (.ref f)
 l9:fr.lookup 9=some hi
 LA:fr.lookup 76=some (.str ss)
 Qh:fr.lookup 73=some (.int t)
 Iw:fr.lookup 49=some (.int k)
 xO:fr.lookup 66=some (.int n)
theorem SF.other {f:Nat}{ls:V}{t k n:Int}(S:SF f hi ls ss t k n fr)(i:Nat)(v:V)(h:i∉[74,77,9,76,73,49,66]):SF f hi ls ss t k n (aE fr i v):=by
 simp only[List.mem_cons,List.not_mem_nil,or_false,not_or] at h;obtain⟨a,b,c,d,e,g,j⟩:=h;exact⟨rl (aV ..)<|rl (av (Ne.symm a))<|S.LH,rl (aV ..)<|rl (av (Ne.symm b))<|S.Qg,rl (aV ..)<|rl (av (Ne.symm c))<|S.l9,rl (aV ..)<|rl (av (Ne.symm d))<|S.LA,
  by exact rl (aV ..)<|rl (av (Ne.symm e))<|S.Qh,rl (aV ..)<|rl (av (Ne.symm g))<|S.Iw,rl (aV ..)<|rl (av (Ne.symm j))<|S.xO⟩
theorem E3 {f x:Nat}{ls:V}{t k n w:Int}{F:List (V×V)}(S:SF f hi ls ss t k n fr)(h1:fr.lookup 1=some (.str [x]))(hx:x<1000)(hF:U[f]? = some (.dict .tup F))(hw :(cn F (.tup [.int (t+iR x),.int n])).getD (.int 0)=.int w)(hk:w<=k)(kG :∀bC,SF f hi ls ss t (k - w) n bC->oZ fr U=.next bC U->G):G:=by
 have s1:aB (aA 62) Ab fr U=.next (aE fr 62 (.int w)) U:=by
  exact dT (Dg h1 S.Qh S.xO S.Qg hx hF hw)
 have S2:=S.other 62 (.int w) (by decide);have uq :(aE fr 62 (.int w)).lookup 62=some (.int w):=cV _ _ _;generalize aE fr 62 (.int w)=cH at s1 S2 uq;have ht:bx .Lt (ai 49) (ai 62) cH U=.ok (decide (k<w)) U:=by
  unfold bx;simp only[ME.bind,ai,S2.Iw,uq,c9,aC];rfl
 have s2:fw (bx .Lt (ai 49) (ai 62)) (aL (cP (dZ [76,73]) (bj [(aU .Add (ai 76) (ai 1)),wy])) pG) bF cH U=.next cH U:=by
  exact(qw ht (cI (Int.not_lt_of_ge hk))).trans rfl
 refine kG (aE cH 49 (.int (k - w))) ⟨b7 (by decide) S2.LH,b7 (by decide) S2.Qg,b7 (by decide) S2.l9,b7 (by decide) S2.LA,
  b7 (by decide) S2.Qh,cV _ _ _,b7 (by decide) S2.xO⟩ ?_
 refine(aK s1).trans ((aK s2).trans ?_);unfold aB cu;exact rl (bk (ao S2.Iw) (ao uq)) rfl
theorem wz {f x:Nat}{ls:V}{t k n w:Int}{F:List (V×V)}(S:SF f hi ls ss t k n fr)(h1:fr.lookup 1=some (.str [x]))(hx:x<1000)(hF:U[f]? = some (.dict .tup F))(hw :(cn F (.tup [.int (t+iR x),.int n])).getD (.int 0)=.int w)(hk:k<w)(ha :∀fr,AJ .Add (.str ss) (.str [x]) fr U=.ok (.str (ss++[x])) U)(kG :∀bC,SF f hi ls (ss++[x]) (t+iR x) k n bC->oZ fr U=.brk bC U->G):G:=by
 have s1:aB (aA 62) Ab fr U=.next (aE fr 62 (.int w)) U:=by
  exact dT (Dg h1 S.Qh S.xO S.Qg hx hF hw)
 have S2:=S.other 62 (.int w) (by decide);have uq :(aE fr 62 (.int w)).lookup 62=some (.int w):=cV _ _ _;have l1 :(aE fr 62 (.int w)).lookup 1=some (.str [x]):=b7 (by decide) h1;generalize aE fr 62 (.int w)=cH at s1 S2 uq l1;have ht:bx .Lt (ai 49) (ai 62) cH U=.ok (decide (k<w)) U:=by
  unfold bx;simp only[ME.bind,ai,S2.Iw,uq,c9,aC];rfl
 have e:=gO ((bk (op:=.Add) (ao S2.LA) (ao l1)).trans (ha cH)) (Df (U:=U) l1 S2.Qh hx);have s2:fw (bx .Lt (ai 49) (ai 62)) (aL (cP (dZ [76,73]) (bj [(aU .Add (ai 76) (ai 1)),wy])) pG) bF cH U=.brk (aE (aE cH 73 (.int (t+iR x))) 76 (.str (ss++[x]))) U:=by
  refine(nE ht (bN hk)).trans ?_;have s3:cP (dZ [76,73]) (bj [(aU .Add (ai 76) (ai 1)),wy]) cH U=.next (aE (aE cH 73 (.int (t+iR x))) 76 (.str (ss++[x]))) U:=by
   exact iv e rfl
  refine(aK s3).trans ?_;rfl
 refine kG (aE (aE cH 73 (.int (t+iR x))) 76 (.str (ss++[x]))) ⟨b7 (by decide) (b7 (by decide) S2.LH),b7 (by decide) (b7 (by decide) S2.Qg),b7 (by decide) (b7 (by decide) S2.l9),cV _ _ _,
  b7 (by decide) (cV _ _ _),b7 (by decide) (b7 (by decide) S2.Iw),b7 (by decide) (b7 (by decide) S2.xO)⟩ ?_
 refine(aK s1).trans ?_;unfold aL at s2 ⊢;exact rl s2 rfl
theorem Ac {x:Nat}(hz:ss.length<1000)(fr:eY):AJ .Add (.str ss) (.str [x]) fr U=.ok (.str (ss++[x])) U:=by
 have ez:cE (ss.length+1)=true:=bN (q1 ⋯ (by rfl));show(if cE (ss.length+1) then Res.ok (V.str (ss++[x])) U else Res.stuck)=_;rw[ay ez]
theorem dH {t:kR}{body:MS}(h:t v fr=some cA)(hb:body cA U=.next cH bU):dJ t body (v::vs) fr U=dJ t body vs cH bU:=by
 conv=>lhs;unfold dJ
 simp only[h,hb]
theorem o3 {t:kR}{body:MS}(h:t v fr=some cA)(hb:body cA U=.brk cH bU):dJ t body (v::vs) fr U=.next cH bU:=by
 conv=>lhs;unfold dJ
 simp only[h,hb]
theorem Iy {f:Nat}{t n:Int}{w w':Nat}{F:List (V×V)}(hF:U[f]? = some (.dict .tup F))(hz:ss.length<1000)(hw' :(cn F (.tup [.int (t+1),.int n])).getD (.int 0)=.int w')(hw :(cn F (.tup [.int (t - 1),.int n])).getD (.int 0)=.int w) :
  ∀(xs:List Nat) (k:Nat) (fr:eY),SF f hi lv ss t k n fr->(∀x∈xs,x<1000/\x≠112)->(∀k',fY w xs k =(none,k')->k'<w')->
   ∀{G:Prop},(∀bC,SF f hi lv (ss++[(fY w xs k).1.getD 112]) (t+iR ((fY w xs k).1.getD 112)) ((fY w xs k).2:Nat) n bC->(dJ (aA 1) oZ ((xs.map λx=>V.str [x])++[.str [112]]) fr U=.next bC U)->G)->G:=by
 intro y
 induction y with
 |nil=>
  intro k fr S _ hk G kG;have S1:=S.other 1 (.str [112]) (by decide);refine wz (x:=112) (w:=w') S1 (cV _ _ _) (by decide) hF hw' (by have:=hk k rfl;exact Int.ofNat_lt.mpr (hk k rfl)) (Ac hz) λbC S' e=>?_;exact kG bC S' (o3 rfl e)
 |cons x xs ih=>
  intro k fr S hx hk G kG;obtain⟨PZ,Wo⟩:=hx x (.head _);have hs:iR x=-1:=av Wo;have S1:=S.other 1 (.str [x]) (by decide);have l1 :(aE fr 1 (.str [x])).lookup 1=some (.str [x]):=cV _ _ _;by_cases h:k<w
  .have ep:fY w (x::xs) k =(some x,k):=ay h
   refine wz (x:=x) (w:=w) S1 l1 PZ hF (rl hs<|hw) (Int.ofNat_lt.mpr h) (Ac hz) λbC S' e=>?_
   rw[ep] at kG;exact kG bC S' (o3 rfl e)
  .have ep:fY w (x::xs) k=fY w xs (k - w):=av h
   refine E3 (x:=x) (w:=w) S1 l1 PZ hF (rl hs<|hw) (q61 ⋯) λcH S2 e=>?_
   rw[ep] at hk kG;have ek :((k:Int) - w) =((k - w:Nat):Int):=Qn h;rw[ek] at S2;refine ih (k - w) cH S2 (λy hy=>hx y (.tail _ hy)) hk λbC S' e'=>?_;exact kG bC S' ((dH rfl e).trans e')
noncomputable def E4:Nat->List V
 |0=>[]
 |n+1=>.int n::E4 n
def pY:ME (List V):=bl (qg (x9 kM [(ai 74)]) (cZ [(ah (.str [112]))]))
theorem SF.left {f:Nat}{ls:V}{t k m:Int}(S:SF f hi ls ss t k m fr)(n:Int):SF f hi ls ss t k n (aE fr 66 (.int n)):=⟨b7 (by decide) S.LH,b7 (by decide) S.Qg,b7 (by decide) S.l9,b7 (by decide) S.LA,b7 (by decide) S.Qh,b7 (by decide) S.Iw,cV _ _ _⟩
theorem E5 {f:Nat}{F:List (V×V)}(hF:U[f]? = some (.dict .tup F))(kU :∀x∈ls,x<1000/\x≠112)(hN :∀n t:Nat,n<=11->t<=12->(cn F (.tup [.int t,.int n])).getD (.int 0)=.int (fo ls.length n t))(uX :∀fr:eY,fr.lookup 74=some lv->pY fr U=.ok ((ls.map λx=>V.str [x])++[.str [112]]) U) :
  ∀(n t k:Nat) (ss:List Nat) (fr:eY),(∀m:Int,SF f hi lv ss t k m (aE fr 66 (.int m)))->k<fo ls.length n t->n+t<=12->ss.length+n<1000->
   ∀{G:Prop},(∀bC,bC.lookup 76=some (.str (ss++aX ls n t k))->dJ (aA 66) (df (aA 1) pY oZ) (E4 n) fr U=.next bC U->G)->G:=by
 intro y
 induction y with
 |zero=>
  intro t k ss fr S _ _ _ G kG;exact kG fr (by unfold aX;refine rl (List.append_nil ..) ?_;have:=(S 0).LA;rw[aV,av (by decide)] at this;exact this) rfl
 |succ n ih=>
  intro t k ss fr S hk hb hz G kG;have ht:t≠0:=λz=>by subst z;simp[fo] at hk
  have hf:fo ls.length (n+1) t=ls.length * fo ls.length n (t - 1)+fo ls.length n (t+1):=rG _ _ _ (Nat.one_le_iff_ne_zero.mpr ht);rw[hf] at hk;have S1:=S n;have e1 :((t:Int) - 1) =((t - 1:Nat):Int):=Us ht;have e2 :((t:Int)+1) =((t+1:Nat):Int):=Int.ofNat_add_one_out t;have hp :∀k',fY (fo ls.length n (t - 1)) ls k =(none,k')->k'<fo ls.length n (t+1):=λk' e=>by
   have:=kF e;exact Dv hk this
  refine Iy (w:=fo ls.length n (t - 1)) (w':=fo ls.length n (t+1)) hF (Nat.lt_of_add_right_lt hz) (rl e2<|hN n (t+1) (Vz ⋯) (VM ⋯)) (rl e1<|hN n (t - 1) (Vz ⋯) (Yi ⋯)) ls k _ S1 kU hp λcH S2 e=>?_
  have er:df (aA 1) pY oZ (aE fr 66 (.int n)) U=.next cH U:=by
   exact iu (uX _ S1.LH) e
  have el:dJ (aA 66) (df (aA 1) pY oZ) (E4 (n+1)) fr U=dJ (aA 66) (df (aA 1) pY oZ) (E4 n) cH U:=dH rfl er
  cases SA:fY (fo ls.length n (t - 1)) ls k with
  |mk o k'=>
   rw[SA] at S2
   cases o with
   |some l=>
    obtain⟨h1,h2⟩:=ji SA;have hs:iR l=-1:=av (kU l h1).2;have S3:SF f hi lv (ss++[l]) ((t - 1:Nat):Int) k' n cH:=by refine rr e1 ?_;have:=S2;simp only[Option.getD_some,hs] at this;exact this
    refine ih (t - 1) k' (ss++[l]) cH S3.left h2 (Yh ⋯) (by refine rl bY<|rl gC ?_;exact yf hz) λbC S' e'=>?_
    refine kG bC ?_ (el.trans e');rw[cW] at S';unfold aX;exact rl SA<|S'
   |none=>
    have S3:SF f hi lv (ss++[112]) ((t+1:Nat):Int) k' n cH:=rr e2<|S2
    refine ih (t+1) k' (ss++[112]) cH S3.left (hp k' SA) (QC ⋯) (by refine rl bY<|rl gC ?_;exact yf hz) λbC S' e'=>?_
    refine kG bC ?_ (el.trans e');rw[cW] at S';unfold aX;exact rl SA<|S'
theorem BZ :∀n:Nat,n<=12->d9 ((n:Int) - 1) (-1) (-1)=E4 n:=by decide +kernel
theorem Iz {f:Nat}{F:List (V×V)}(hF:U[f]? = some (.dict .tup F))(kU :∀x∈ls,x<1000/\x≠112)(hN :∀n t:Nat,n<=11->t<=12->(cn F (.tup [.int t,.int n])).getD (.int 0)=.int (fo ls.length n t))(uX :∀fr:eY,fr.lookup 74=some lv->pY fr U=.ok ((ls.map λx=>V.str [x])++[.str [112]]) U)(hk:k<fo ls.length n 1)(hn:n<=11) :
  jz [lv,.ref f,.int n,.int k] U=.ok (.str (aX ls n 1 k)) U:=by
 have s1:cP (bp [76,73]) (bj [(ah (.str [])),(ah (.int 1))]) [(74,lv),(77,.ref f),(9,.int n),(49,.int k)] U=.next (aE (aE [(74,lv),(77,.ref f),(9,.int n),(49,.int k)] 76 (.str [])) 73 (.int 1)) U:=rfl;generalize Ba:aE (aE [(74,lv),(77,.ref f),(9,.int n),(49,.int k)] 76 (.str [])) 73 (.int 1)=fr at s1;have S :∀m:Int,SF f (.int n) lv [] (1:Nat) k m (aE fr 66 (.int m)):=λm=>by subst Ba;exact⟨rfl,rfl,rfl,rfl,rfl,rfl,rfl⟩
 have l9:fr.lookup 9=some (.int n):=by subst Ba;rfl
 refine E5 hF kU hN uX n 1 k [] fr S hk (Nat.succ_le_succ hn) (by simp;exact q2 ⋯ (by rfl)) λbC LA e=>?_;have er:jr (aU .Sub (ai 9) (ah (.int 1))) (gZ (ah (.int 1))) (gZ (ah (.int 1))) fr U=.ok (E4 n) U:=by
  have e1:aU .Sub (ai 9) (ah (.int 1)) fr U=.ok (.int ((n:Int) - 1)) U:=(bk (ao l9) rfl).trans rfl;have e2:gZ (ah (.int 1)) fr U=.ok (.int (-1)) U:=rfl;have es:g7 ((n:Int) - 1)=true:=bN (UM hn);exact(wi e1 e2 e2 es rfl).trans (rl (BZ n (Nat.le_succ_of_le hn)) rfl)
 have s2:df (aA 66) (jr (aU .Sub (ai 9) (ah (.int 1))) (gZ (ah (.int 1))) (gZ (ah (.int 1)))) (df (aA 1) pY oZ) fr U=.next bC U:=by
  exact iu er e
 have em:rD [(74,lv),(77,.ref f),(9,.int n),(49,.int k)] U=.ret (.str (aX ls n 1 k)) U:=by
  show aL _ (aL (df (aA 66) (jr (aU .Sub (ai 9) (ah (.int 1))) (gZ (ah (.int 1))) (gZ (ah (.int 1)))) (df (aA 1) pY oZ)) (cp (ai 76))) _ _=_;refine(aK s1).trans ((aK s2).trans ?_);unfold cp cu;exact rl (ao LA) rfl
 show dB (rD [(74,lv),(77,.ref f),(9,.int n),(49,.int k)] U)=_;exact rl em rfl
noncomputable def ef (t:Nat):List V:=List.replicate t (.int 0)
def gd (ss:List Nat):List V:=ss.map λs=>.int (bo s)
def d5 (t:Nat)(sh:List V):V:=.tup [.tup (ef t),.tup sh]
def iS (s:Nat):V:=.tup (.str [s]::ef (bo s))
theorem Ad (h:112∉ls):nF ls =(ls++[112]).map iS:=by
 refine rl List.map_append<|aP (·++_) (List.map_congr_left λl hl=>?_)
 have:=nD h hl;unfold iS;exact rl this rfl
noncomputable def dw:Nat->List Nat->List (V×V)
 |_,[]=>[]
 |i,s::r=>(.str [s],.ref i)::dw (i+1) r
theorem B0 (s:Nat) :∀(os:List Nat) (i:Nat),dw i (os++[s])=dw i os++[(.str [s],.ref (i+os.length))]:=by
 intro y
 induction y with
 |nil=>
  intro _;exact rfl
 |cons a os ih=>
  intro i;show(V.str [a],V.ref i)::dw (i+1) (os++[s]) =(V.str [a],V.ref i) ::(dw (i+1) os++_);rw[ih,List.length_cons,Nat.add_assoc,Nat.add_comm 1]
theorem jB :∀(os:List Nat) (i:Nat),(dw i os).map (·.1)=os.map λs=>V.str [s]:=by
 intro y
 induction y with
 |nil=>
  intro _;exact rfl
 |cons a os ih=>
  intro i;exact aP (V.str [a]::·) (ih (i+1))
theorem nJ (os:List Nat)(i:Nat) :(dw i os).length=os.length:=by
 have:=aP List.length (jB os i);rw[cJ,cJ] at this;exact this
theorem wA :∀{az:List (V×V)} {k:V},k∉az.map (·.1)->cn az k=none:=by
 intro y
 induction y with
 |nil=>
  intro _ _;exact rfl
 |cons z0 r ih=>
  obtain⟨k',v⟩:=z0;intro k h;refine(av (show¬V.beq k' k=true from λz=>h ((V.beq_iff _ _).mp z▸eG))).trans ?_;exact ih λz=>h (.tail _ z)
theorem LI :∀{az:List (V×V)},(az.map (·.1)).Nodup->∀kv∈az,cn az kv.1=some kv.2:=by
 intro y
 induction y with
 |nil=>intros;first |contradiction | (injection ‹_=some _›)
 |cons z0 r ih=>
  obtain⟨k,v⟩:=z0;intro h kv hm;rw[List.map_cons,List.nodup_cons] at h;rcases b8 hm with rfl |hm
  .exact ay ((V.beq_iff _ _).mpr rfl)
  .skip
   refine(av (show¬V.beq k kv.1=true from λz=>h.1 (List.mem_map.mpr ⟨kv,hm,((V.beq_iff _ _).mp z).symm⟩))).trans ?_;exact ih h.2 kv hm
theorem Ae {os:List Nat}{s:Nat}(h:s∉os):V.str [s]∉os.map λs=>V.str [s]:=λz=>by
 obtain⟨a,ha,e⟩:=dz z;injection e with e;injection e with e _;exact h (e▸ha)
theorem IA :∀{os:List Nat},os.Nodup->(os.map λs=>V.str [s]).Nodup:=by
 intro y
 induction y with
 |nil=>
  intro _;exact .nil
 |cons s r ih=>
  intro h;rw[List.nodup_cons] at h;exact List.nodup_cons.mpr ⟨Ae h.1,ih h.2⟩
theorem IB {Ls:bw}{D:List (V×V)}{k:List Nat}{d:V}(h:V.str k∉D.map (·.1))(hz:D.length<1000) :
  tn (.ref U.length) [.str k,d] (U++[O.dict .str D]++Ls)=some (d,U++[O.dict .str (D++[(.str k,d)])]++Ls):=by
 have hd:gi (U++[O.dict .str D]++Ls) (.ref U.length)=some (U.length,.str,D):=by
  unfold gi;dsimp only;exact rl (cW ..)<|rl (List.getElem?_append_right (Nat.le_refl _))<|rl (Nat.sub_self ..) rfl
 have hs :(U++[O.dict .str D]++Ls).set U.length (.dict .str (gp D (.str k) d))=U++[O.dict .str (D++[(.str k,d)])]++Ls:=by
  rw[tU (wA h),cW,List.set_append_right _ _ (Nat.le_refl _),Nat.sub_self,cW];rfl
 have ez:cE D.length=true:=bN (q4 ⋯ (by rfl));unfold tn vM;refine rl hd<|rl (Option.bind_some ..)<|rl (Option.bind_some ..) ?_
 show(if DK.str=.str/\cE D.length=true then some (MX U.length D (.str k) d _ (cn D (.str k))) else .none)=_;refine(ay ⟨rfl,ez⟩).trans ?_;refine rl (wA h) ?_;show some (d,(U++[O.dict .str D]++Ls).set U.length (.dict .str (gp D (.str k) d)))=_;exact rl hs rfl
theorem E6 {f g:ME V}{D:List V}(hf:f fr U=.ok (.ref bq.length) (bq++[.list D]))(hg:g fr (bq++[.list D])=.ok v (bq++[.list D]))(hz:D.length<1000) :
  c6 .append f [g] fr U=.ok .none (bq++[.list (D++[v])]):=by
 have AS:cE D.length=true:=bN (q4 ⋯ (by rfl));have hl:gF (bq++[.list D]) (.ref bq.length)=some (bq.length,D):=by unfold gF;dsimp only;exact rl (f7 ..) rfl
 refine rK (m:=.append) hf (aP Option.isSome hl) (qA hg qz) ?_;show(gF (bq++[.list D]) (.ref bq.length)).bind _=_;refine rl hl<|rl (Option.bind_some ..) <| (ay AS).trans ?_
 exact rl (mr ..) rfl
theorem rR {f g:ME V}{a b:List V}(hf:f fr U=.ok (.tup a) U)(hg:g fr U=.ok (.tup b) U)(hz:a.length+b.length<1000):aU .Add f g fr U=.ok (.tup (a++b)) U:=by
 have ez:cE (a.length+b.length)=true:=bN (q4 ⋯ (by rfl));refine(bk hf hg).trans ?_;show(if cE (a.length+b.length) then Res.ok (V.tup (a++b)) U else Res.stuck)=_;exact rl (ay ez) rfl
theorem IC (a b:Nat):ef a++ef b=ef (a+b):=List.replicate_append_replicate
theorem fB (t:Nat) :(ef t).length=t:=List.length_replicate
section
variable {aO:Nat}
theorem t9 (C:uo aO kd L ls P){u:Nat}(hu:u<=20)(hn:n<=12)(I:d7 L az):fk (λaJ=>d7 L aJ) (λaJ=>d4 30 [.ref aO,.tup (ef u),.int n] (P az)=.ok (.int (fo L n u:Nat)) (P aJ)):=by
 cases u with
 |zero=>
  refine⟨az,I,?_⟩;refine rl (rE ..) <| (zV 29 n n rfl (P az)).trans ?_
  by_cases h:n=0
  .exact rl (ay h)<|rl (ay h) rfl
  .exact rl (av h)<|rl (av h) rfl
 |succ u=>exact Pk C 30 (u+1) n (Nat.le_add_left 1 u) hu hn (q2 ⋯ (by rfl)) az I
theorem Af (C:uo aO kd L ls P){r:List V}(uk:fr.lookup 10=some (.ref aO))(EM:fr.lookup 47=some (.tup (.int 0::r))) :
 bl (ax 3 56 c8 (bc 1 53 (ai 10)) [(cv (ai 47) (ah (.int 0)))]) fr (P az)=.ok (nF ls) (P az):=tY C uk EM (C.tW az)
end
def ID:MS:=(aL (aB (aA 62) (aU .Add (dU 1 (ai 15)) (dU 1 (ai 47))))
 (fw (bx .Gt (ax 1 57 (d4 30) (ai 10) [(ai 62),(aU .Sub (ai 34) (ah (.int 1)))]) (ah (.int 0))) (bM (c6 .append (ip ic tn (ai 2) [(cv (ai 15) (ah (.int 0))),(dj [])]) [(bj [(ai 62),(aU .Add (ai 52) (bj [(aU .Sub (bV .len [(ai 15)]) (ah (.int 1)))]))])])) bF))
structure OF (aO t n i:Nat)(ss:List Nat)(fr:eY):Prop where
 xN:fr.lookup 10=some (.ref aO)
 Xw:fr.lookup 47=some (.tup (ef (t+1)))
 T4:fr.lookup 52=some (.tup (gd ss))
 Nd:fr.lookup 34=some (.int ((n:Int)+1))
 l2:fr.lookup 2=some (.ref i)
theorem OF.set {aO t:Nat}(F:OF aO t n i ss fr)(j:Nat)(v:V)(h:j=15\/j=62):OF aO t n i ss (aE fr j v):=by
 constructor <;> rw[aV,av (by lia)]
 all_goals first |exact F.xN |exact F.Xw |exact F.T4 |exact F.Nd |exact F.l2
def jk (t:Nat)(ss:List Nat)(s:Nat):O:=.list [d5 (t+bo s) (gd (ss++[s]))]
def rS (L n t:Nat)(xs:List Nat):List Nat:=xs.filter λs=>decide (0<fo L n (t+bo s))
def eX (U:bw)(t:Nat)(ss os:List Nat):bw:=U++[O.dict .str (dw (U.length+1) os)]++os.map (jk t ss)
theorem i5 (U:bw)(t:Nat)(ss os:List Nat):eX U t ss os=U++(O.dict .str (dw (U.length+1) os)::os.map (jk t ss)):=by unfold eX;exact rl (cW ..) rfl
theorem kh (s:Nat):bo s<=2:=by unfold bo;split <;>(first |decide |lia)
section
variable {aO:Nat}
theorem E7 (C:hX aO kd L ls P){t s:Nat}{os:List Nat}(I:d7 L az)(F:OF aO t n i ss fr)(Po:fr.lookup 15=some (iS s))(hi:i =(P az++J).length)(ht:t<=12)(hn:n<=11)(hz:ss.length<50)(hs:s∉os)(ho:os.length<50) :
  qT (λaJ bC=>d7 L aJ) (λaJ bC=>OF aO t n i ss bC) (λaJ bC=>ID fr (eX (P az++J) t ss os)=.next bC (eX (P aJ++J) t ss (os++rS L n t [s]))):=by
 have ha:=kh s;obtain⟨aJ,I',hr⟩:=t9 (C (J++(O.dict .str (dw ((P az++J).length+1) os)::os.map (jk t ss)))) (u:=t+bo s) (n:=n) (VB ⋯ ⋯ (by rfl)) (Nat.le_succ_of_le hn) I;have hl :(P aJ++J).length =(P az++J).length:=by refine bY.trans ?_;exact rl bY<|rl (fA C az aJ) rfl
 simp only[<- List.append_assoc] at hr;rw[<- i5] at hr;have es:P aJ++J++(O.dict .str (dw ((P az++J).length+1) os)::os.map (jk t ss))=eX (P aJ++J) t ss os:=rl (i5 ..)<|rl hl rfl
 rw[es] at hr;have Zh:i =(P aJ++J).length:=rl hl<|hi
 refine⟨aJ,aE fr 62 (.tup (ef (t+bo s))),I',F.set 62 _ (.inr rfl),?_⟩;have e15 :∀U,dU 1 (ai 15) fr U=.ok (.tup (ef (bo s))) U:=λU=>kc (ao Po) (by refine rl (fB ..) ?_;exact q2 ⋯ (by rfl));have e47 :∀U,dU 1 (ai 47) fr U=.ok (.tup (ef t)) U:=λU=>kc (x:=.int 0) (ao F.Xw) (by refine rl (fB ..) ?_;exact q2 ⋯ (by rfl));have s1 :∀U,aB (aA 62) (aU .Add (dU 1 (ai 15)) (dU 1 (ai 47))) fr U=.next (aE fr 62 (.tup (ef (t+bo s)))) U:=λU=>by
  unfold aB cu;exact rl (rR (e15 U) (e47 U) (by rw[fB,fB];exact q54 ⋯ ⋯ (by rfl)))<|rl (IC ..)<|rl (Nat.add_comm ..) rfl
 refine(aK (s1 _)).trans ?_;have F1:=F.set 62 (.tup (ef (t+bo s))) (.inr rfl);have uq :(aE fr 62 (.tup (ef (t+bo s)))).lookup 62=some (.tup (ef (t+bo s))):=cV _ _ _;have LJ :(aE fr 62 (.tup (ef (t+bo s)))).lookup 15=some (iS s):=b7 (by decide) Po;generalize aE fr 62 (.tup (ef (t+bo s)))=cA at F1 uq LJ;have e34 :∀U,aU .Sub (ai 34) (ah (.int 1)) cA U=.ok (.int n) U:=λU=>by
  refine(bk (ao F1.Nd) rfl).trans ?_;show Res.ok (V.int ((n:Int)+1 - 1)) U=_;exact rl (Int.add_sub_cancel ..) rfl
 have htc:bx .Gt (ax 1 57 (d4 30) (ai 10) [(ai 62),(aU .Sub (ai 34) (ah (.int 1)))]) (ah (.int 0)) cA (eX (P az++J) t ss os)=.ok (decide (0<fo L n (t+bo s))) (eX (P aJ++J) t ss os):=by
  have e0:ax 1 57 (d4 30) (ai 10) [(ai 62),(aU .Sub (ai 34) (ah (.int 1)))] cA (eX (P az++J) t ss os)=.ok (.int (fo L n (t+bo s):Nat)) (eX (P aJ++J) t ss os):=by
   exact rr hr<|rl (i5 ..)<|rl (cW ..)<|ke (C _) (v1:=.tup (ef (t+bo s))) (v2:=.int n) F1.xN (ao uq) (e34 _)
  refine(bL e0).trans ?_;show Res.ok (decide ((fo L n (t+bo s):Int) > 0)) _=_;congr 1;exact decide_eq_decide.mpr (Int.natCast_pos)
 refine(fQ htc).trans ?_;unfold rS;by_cases hp:0<fo L n (t+bo s)
 .refine rl (List.filter_cons_of_pos (by simpa using hp))<|rl List.filter_nil<|rl (bN hp)<|rl (ay rfl) ?_
  have hd:ip ic tn (ai 2) [(cv (ai 15) (ah (.int 0))),(dj [])] cA (eX (P aJ++J) t ss os)=.ok (.ref (P aJ++J++[O.dict .str (dw ((P aJ++J).length+1) (os++[s]))]++os.map (jk t ss)).length) (P aJ++J++[O.dict .str (dw ((P aJ++J).length+1) (os++[s]))]++os.map (jk t ss)++[.list []]):=by
   have en :(P aJ++J++[O.dict .str (dw ((P aJ++J).length+1) (os++[s]))]++os.map (jk t ss)).length =(eX (P aJ++J) t ss os).length:=by unfold eX;simp only[List.length_append,List.length_cons]
   have ec:ic (eX (P aJ++J) t ss os) (.ref i)=true:=by
    subst Zh;unfold ic gi;dsimp only;exact rl (i5 ..)<|rl (List.getElem?_append_right (Nat.le_refl _))<|rl (Nat.sub_self ..) rfl
   have e1:aS [(cv (ai 15) (ah (.int 0))),(dj [])] cA (eX (P aJ++J) t ss os)=.ok [.str [s],.ref (eX (P aJ++J) t ss os).length] (eX (P aJ++J) t ss os++[.list []]):=by
    unfold aS;have:cv (ai 15) (ah (.int 0)) cA (eX (P aJ++J) t ss os)=.ok (.str [s]) (eX (P aJ++J) t ss os):=by
     exact rP (ao LJ)
    rw[ME.bind,this];rfl
   have e2:tn (.ref i) [.str [s],.ref (eX (P aJ++J) t ss os).length] (eX (P aJ++J) t ss os++[.list []])=some (.ref (eX (P aJ++J) t ss os).length,P aJ++J++[O.dict .str (dw ((P aJ++J).length+1) (os++[s]))]++(os.map (jk t ss)++[.list []])):=by
    subst Zh;have:=IB (U:=P aJ++J) (Ls:=os.map (jk t ss)++[.list []]) (D:=dw ((P aJ++J).length+1) os) (k:=[s]) (d:=.ref (eX (P aJ++J) t ss os).length) (rl (jB ..)<|Ae hs) (by refine rl (nJ ..) ?_;exact q1 ⋯ (by rfl))
    refine rl (B0 ..) ?_;unfold eX at this ⊢;rw[<- cW] at this;refine this.trans ?_;congr 6;simp only[List.length_append,List.length_cons,List.length_nil,List.length_map]
   refine(bL (ao F1.l2)).trans ((ay ec).trans ((bL e1).trans ?_));refine rl e2<|rl en ?_
   exact rr (cW ..) rfl
  have hg :∀U,bj [(ai 62),(aU .Add (ai 52) (bj [(aU .Sub (bV .len [(ai 15)]) (ah (.int 1)))]))] cA U=.ok (d5 (t+bo s) (gd (ss++[s]))) U:=λU=>by
   have g0:aU .Sub (bV .len [(ai 15)]) (ah (.int 1)) cA U=.ok (.int (bo s)) U:=by
    have ez:cE (ef (bo s)).length.succ=true:=bN (by refine rl (fB ..) ?_;exact q2 ⋯ (by rfl));have g1:bV .len [(ai 15)] cA U=.ok (.int ((bo s:Nat)+1)) U:=by
     unfold bV aS;rw[ME.bind,ME.bind,ao LJ];show Res.cO (if cE (ef (bo s)).length.succ then some (V.int ((ef (bo s)).length.succ:Nat)) else none) U=_;exact rl (ay ez)<|rl (fB ..) rfl
    refine(bk g1 rfl).trans ?_;show Res.ok (V.int ((bo s:Int)+1 - 1)) U=_;exact rl (Int.add_sub_cancel ..) rfl
   have g2:bj [(aU .Sub (bV .len [(ai 15)]) (ah (.int 1)))] cA U=.ok (.tup [.int (bo s)]) U:=by
    unfold bj aS;rw[ME.bind,ME.bind,g0];rfl
   have g3:=rR (ao (U:=U) F1.T4) g2 (by unfold gd;refine rl (cJ ..)<|rl gC ?_;exact q2 ⋯ (by rfl))
   refine gO (ao uq) (g3.trans ?_);unfold gd;exact rl List.map_append rfl
  have:=E6 hd (hg _) (by decide);unfold bM cu;refine rl this ?_;unfold eX;exact rl List.map_append<|rl (cW ..) rfl
 .exact rl (List.filter_cons_of_neg (by simpa using hp))<|rl List.filter_nil<|rl (cI hp)<|rl (List.append_nil ..) rfl
end
def qE (t:Nat)(ss:List Nat)(s:Nat):V:=.tup [.str [s],.list [d5 (t+bo s) (gd (ss++[s]))]]
theorem IE (L n t s:Nat)(xs:List Nat):rS L n t [s]++rS L n t xs=rS L n t (s::xs):=by
 unfold rS;exact rr (List.filter_append ..) rfl
theorem LK {t s:Nat}{xs:List Nat}(h:s∈rS L n t xs):s∈xs:=(List.mem_filter.mp h).1
section
variable {aO:Nat}
theorem IF (C:hX aO kd L ls P){t:Nat}(ht:t<=12)(hn:n<=11)(hz:ss.length<50) :
  ∀(xs os:List Nat) (az:List (V×V)) (fr:eY),d7 L az->OF aO t n i ss fr->i =(P az++J).length->(os++xs).Nodup->os.length+xs.length<50->
   qT (λaJ bC=>d7 L aJ) (λaJ bC=>OF aO t n i ss bC) (λaJ bC=>dJ (aA 15) ID (xs.map iS) fr (eX (P az++J) t ss os)=.next bC (eX (P aJ++J) t ss (os++rS L n t xs))):=by
 intro y
 induction y with
 |nil=>
  intro os az fr I F _ _ _;exact⟨az,fr,I,F,rl (show rS L n t []=[] from rfl)<|rl (List.append_nil ..) rfl⟩
 |cons s xs ih=>
  intro os az fr I F hi nd hl;rw[List.length_cons] at hl;have hs:s∉os:=λz=>(List.nodup_append.mp nd).2.2 s z s (.head _) rfl;obtain⟨bA,cA,I1,F1,e1⟩:=E7 C I (F.set 15 (iS s) (.inl rfl)) (cV _ _ _) hi ht hn hz hs (Nat.lt_of_add_right_lt hl);have hlen :(rS L n t [s]).length<=1:=List.length_filter_le _ [s];have nd1 :(os++rS L n t [s]++xs).Nodup:=by
   have sP :(os++rS L n t [s]++xs).Sublist (os++s::xs):=by
    refine rl (cW ..)<|List.Sublist.append (List.Sublist.refl _) ?_
    exact List.Sublist.append (l₂:=[s]) List.filter_sublist (List.Sublist.refl _)
   exact nd.sublist sP
  obtain⟨du,cH,I2,F2,e2⟩:=ih (os++rS L n t [s]) bA cA I1 F1 (by refine hi.trans (bY.trans ?_);exact rl bY<|rl (fA C bA az) rfl) nd1 (by refine rl bY ?_;exact Vm hl hlen)
  refine⟨du,cH,I2,F2,?_⟩;rw[cW,IE] at e2;exact(dH rfl e1).trans e2
theorem Ag {f:Nat}(h :∀v∈vs,∃i:Int,v=.int i):gQ (f+2) U n (.tup vs)=some (.tup vs):=by
 show(jK (gQ (f+1) U n) vs).map V.tup=_;exact rl (kI vs λv hv=>by obtain⟨i,rfl⟩:=h v hv;rfl) rfl
theorem IG (t:Nat) :∀v∈ef t,∃i:Int,v=.int i:=λv hv=>⟨0,(List.mem_replicate.mp hv).2⟩
theorem LL (ss:List Nat) :∀v∈gd ss,∃i:Int,v=.int i:=λv hv=>by
 obtain⟨s,_,rfl⟩:=dz hv;exact⟨_,rfl⟩
theorem LM {t f:Nat}:gQ (f+3) U n (d5 t (gd ss))=some (d5 t (gd ss)):=by
 exact aP (Option.map V.tup) (kg (Ag (IG t)) (kg (Ag (LL ss)) rfl))
theorem IH {t:Nat} :∀(os:List Nat) (U:bw),n<=U.length->jK (gQ 39 (U++os.map (jk t ss)) n) ((dw U.length os).map λkv=>.tup [kv.1,kv.2])=some (os.map (qE t ss)):=by
 intro y
 induction y with
 |nil=>
  intro _ _;exact rfl
 |cons s os ih=>
  intro U hn;have e1:gQ 39 (U++(s::os).map (jk t ss)) n (.tup [.str [s],.ref U.length])=some (qE t ss s):=by
   have hb:Nat.blt U.length n=false:=by cases z:Nat.blt U.length n with |false=>rfl |true=>have:=Nat.blt_eq.mp z;lia
   have hg :(U++(s::os).map (jk t ss))[U.length]? = some (jk t ss s):=by refine(List.getElem?_append_right (Nat.le_refl _)).trans ?_;exact rl (Nat.sub_self ..) rfl
   have e2:gQ 38 (U++(s::os).map (jk t ss)) n (.ref U.length)=some (.list [d5 (t+bo s) (gd (ss++[s]))]):=by
    show(if Nat.blt U.length n then some (V.ref U.length) else match (U++(s::os).map (jk t ss))[U.length]? with |some (.list us)=>(jK (gQ 37 (U++(s::os).map (jk t ss)) n) us).map .list |_=>.none)=_
    exact rl hb<|rl hg<|aP (Option.map V.list) (kg LM rfl)
   exact aP (Option.map V.tup) (kg (f:=gQ 38 (U++(s::os).map (jk t ss)) n) (v:=.str [s]) (w:=.str [s]) rfl (kg e2 rfl))
  have ih:=ih (U++[jk t ss s]) (rl bY<|Nat.le_add_right_of_le hn)
  rw[bY,gC,cW] at ih;show(gQ 39 (U++(s::os).map (jk t ss)) n (.tup [.str [s],.ref U.length])).bind (λa=>(jK (gQ 39 (U++(s::os).map (jk t ss)) n) ((dw (U.length+1) os).map λkv=>.tup [kv.1,kv.2])).map (a::·))=_;refine rl e1 ?_;show(jK (gQ 39 (U++([jk t ss s]++os.map (jk t ss))) n) _).map _=_;exact rl ih rfl
noncomputable def iT:List (List Nat):=[[97],[97,98],[97,98,99],[97,99]]
theorem Dh (h:ls∈iT) :(ls++[112]).Nodup:=by revert ls;decide
theorem B1 {t:Nat}(h:ls∈iT):oI ((rS L n t (ls++[112])).map λs=>.str [s])=some ((rS L n t (ls++[112])).map λs=>.str [s]):=by
 have key :∀b1 b2:Bool,∀ls∈iT,oI (((ls++[112]).filter λs=>if s=112 then b2 else b1).map λs=>V.str [s])=some (((ls++[112]).filter λs=>if s=112 then b2 else b1).map λs=>.str [s]):=by decide
 have e:rS L n t (ls++[112]) =(ls++[112]).filter λs=>if s=112 then decide (0<fo L n (t+2)) else decide (0<fo L n t):=by
  refine List.filter_congr λs _=>?_;unfold bo
  split <;> rfl
 exact rl e<|key _ _ ls h
end
theorem B2 :∀(os:List Nat) (i:Nat) (kv:V×V),kv∈dw i os->∃s,kv.1=.str [s]:=by
 intro y
 induction y with
 |nil=>intros;first |contradiction | (injection ‹_=some _›)
 |cons s os ih=>
  intro i kv h;rcases b8 h with rfl |h
  .exact⟨s,rfl⟩
  .exact ih (i+1) kv h
theorem LN (h:ls∈iT) :(ls++[112]).length<=5:=by revert ls;decide
section
variable {aO:Nat}
theorem Ah (C:hX aO kd L ls P)(kU:ls∈iT){t:Nat}(I:d7 L az)(ht:t<=12)(hn:n<=11)(hz:ss.length<50) :
  fk (λaJ=>d7 L aJ) (λaJ=>iq [.ref aO,.list [d5 (t+1) (gd ss)],.int ((n:Int)+1)] (P az++J)=.ok (.list ((rS L n t (ls++[112])).map (qE t ss))) (P aJ++J)):=by
 have nd:=Dh kU;have hO:112∉ls:=(C []).zU;have hz5:=LN kU;have F :∀Ft:eY,Ft=aE (aE (aE [(10,.ref aO),(65,.list [d5 (t+1) (gd ss)]),(34,.int ((n:Int)+1))] 2 (.ref (P az++J).length)) 47 (.tup (ef (t+1)))) 52 (.tup (gd ss))->OF aO t n (P az++J).length ss Ft:=λ_ e=>by subst e;exact⟨rfl,rfl,rfl,rfl,rfl⟩
 obtain⟨aJ,bC,I',F',e⟩:=IF C (i:=(P az++J).length) (J:=J) ht hn hz (ls++[112]) [] az _ I (F _ rfl) rfl (by rw[List.nil_append];exact nd) (by rw[List.length_nil];exact Vy ⋯ (by rfl));rw[List.nil_append,<- Ad hO] at e;have hl :(P aJ++J).length =(P az++J).length:=by refine bY.trans ?_;rw[bY,fA C az aJ]
 refine⟨aJ,I',?_⟩;generalize J6:rS L n t (ls++[112])=os at e;have Nf:=B1 (L:=L) (n:=n) (t:=t) kU;have aai:os.length<=5:=by rw[<- J6];exact bP (List.length_filter_le _ _) hz5
 have Xx:os.Nodup:=by rw[<- J6];exact nd.sublist List.filter_sublist
 rw[J6] at Nf;have s2:df (bp [47,52]) (bl (ai 65)) (df (aA 15) (bl (ax 3 56 c8 (bc 1 53 (ai 10)) [(cv (ai 47) (ah (.int 0)))])) ID) (aE [(10,.ref aO),(65,.list [d5 (t+1) (gd ss)]),(34,.int ((n:Int)+1))] 2 (.ref (P az++J).length)) (P az++J++[O.dict .str []])
   = .next bC (eX (P aJ++J) t ss os):=by
  show dJ (bp [47,52]) _ [d5 (t+1) (gd ss)] _ _=_;refine(dH (t:=bp [47,52]) (cA:=aE (aE (aE [(10,.ref aO),(65,.list [d5 (t+1) (gd ss)]),(34,.int ((n:Int)+1))] 2 (.ref (P az++J).length)) 47 (.tup (ef (t+1)))) 52 (.tup (gd ss))) (vs:=[]) rfl ?_).trans rfl;have F0:=F _ rfl;have en:=Af (C (J++[O.dict .str []])) (az:=az) F0.xN F0.Xw;unfold df cu;rw[cW,en];have ec:eX (P az++J) t ss []=P az++(J++[O.dict .str []]):=by rw[<- cW];exact List.append_nil _
  rw[ec] at e;exact e
 generalize Zi:eX (P aJ++J) t ss os=qH at s2;have hg:qH[(P az++J).length]? = some (O.dict .str (dw ((P az++J).length+1) os)):=by
  rw[<- Zi,i5,<- hl,List.getElem?_append_right (Nat.le_refl _),Nat.sub_self];rfl
 have hd:gi qH (.ref (P az++J).length)=some ((P az++J).length,.str,dw ((P az++J).length+1) os):=by unfold gi;dsimp only;rw[hg]
 have es:bl (x9 kM [(ai 2)]) bC qH=.ok ((dw ((P az++J).length+1) os).map (·.1)) qH:=by
  have ez:cE (dw ((P az++J).length+1) os).length=true:=bN (by rw[nJ];exact q3 ⋯ (by rfl));have e0:x9 kM [(ai 2)] bC qH=.ok (.list ((dw ((P az++J).length+1) os).map (·.1))) qH:=by
   have e1:kM [.ref (P az++J).length] qH=some (.list ((dw ((P az++J).length+1) os).map (·.1))):=by
    show(Hd qH (.ref (P az++J).length)).bind (λxs=>(oI xs).map V.list)=_;unfold Hd;rw[hd];dsimp only;rw[ay ⟨rfl,ez⟩,Option.bind_some,jB,Nf];rfl
   unfold x9 aS;rw[ME.bind,ME.bind,ao F'.l2];show Res.cO (kM [.ref (P az++J).length] qH) qH=_;rw[e1];rfl
  exact kH e0 rfl
 have ec:=gy (t:=aA 14) (dq:=[2]) (iw:=bj [(ai 14),(cv (ai 2) (ai 14))]) (·.1) (λkv:V×V=>.tup [kv.1,kv.2]) (dw ((P az++J).length+1) os) es (λkv Tn=>by
  obtain⟨s,hs⟩:=B2 os _ kv Tn;have Fy :(aE (jO bC [2]) 14 kv.1).lookup 14=some kv.1:=cV _ _ _;have l2 :(aE (jO bC [2]) 14 kv.1).lookup 2=some (.ref (P az++J).length):=by rw[aV,av (by decide),fU (by decide)];exact F'.l2
  refine⟨aE (jO bC [2]) 14 kv.1,rfl,gO (ao Fy) ?_⟩;have ei:mE (.ref (P az++J).length) kv.1 qH=some kv.2:=by
   unfold mE;dsimp only;rw[hg];dsimp only;rw[show fu .str kv.1=true by rw[hs];rfl,ay rfl];exact LI (by rw[jB];exact IA Xx) kv Tn
  refine(bL (ao l2)).trans ((bL (ao Fy)).trans ?_);rw[ei];rfl) (by rw[nJ];exact q2 ⋯ (by rfl))
 have em:jh [(10,.ref aO),(65,.list [d5 (t+1) (gd ss)]),(34,.int ((n:Int)+1))] (P az++J)=.ret (.list ((dw ((P az++J).length+1) os).map λkv=>.tup [kv.1,kv.2])) qH:=by
  refine(aK (bC:=[(10,.ref aO),(65,.list [d5 (t+1) (gd ss)]),(34,.int ((n:Int)+1))]) (bB:=P az++J) rfl).trans ((aK rfl).trans ((aK s2).trans ?_));exact ir ec
 have hc:cy [10,65,34] jh [.ref aO,.list [d5 (t+1) (gd ss)],.int ((n:Int)+1)] (P az++J)=.ok (.list ((dw ((P az++J).length+1) os).map λkv=>.tup [kv.1,kv.2])) (P aJ++J++(O.dict .str (dw ((P aJ++J).length+1) os)::os.map (jk t ss))):=by
  refine(ay rfl).trans ?_;show dB (jh [(10,.ref aO),(65,.list [d5 (t+1) (gd ss)]),(34,.int ((n:Int)+1))] (P az++J))=_;rw[em,<- Zi,i5];rfl
 unfold iq tE;rw[hc];refine oX C I' ?_;have P9 :∀x:O,(P aJ++J++[x]).length =(P az++J).length+1:=λx=>by refine(bY (as:=P aJ++J)).trans ?_;rw[hl];rfl
 have Zj:=IH (t:=t) (n:=(P az++J).length) (ss:=ss) os (P aJ++J++[O.dict .str (dw ((P aJ++J).length+1) os)]) (by rw[P9];exact Nat.le_add_right (List.length (P az++J)) 1);rw[P9,cW (P aJ++J)] at Zj;exact aP (Option.map V.list) Zj
end
def wB:ME V:=bV .sum [(bQ [66,10] (bp [47,52]) (bl (ai 62)) none (ax 1 57 (d4 30) (ai 10) [(ai 47),(aU .Sub (ai 66) (ah (.int 1)))]))]
def E8:MS:=(aL (aB (aA 50) wB)
 (aL (fw (bx .Lt (ai 4) (ai 50)) (aL (bM (c6 .append (ai 51) [(ai 14)]))
 (aL (aB (aA 65) (ai 62))
 pG)) bF)
 (aB (aA 4) (aU .Sub (ai 4) (ai 50)))))
def B3:ME (List V):=bl (ax 1 67 iq (ai 10) [(ai 65),(ai 66)])
def wt (L n t s:Nat):Nat:=fo L n (t+bo s)
structure NF (aO i:Nat)(W:V)(k:Nat)(fr:eY):Prop where
 xN:fr.lookup 10=some (.ref aO)
 LO:fr.lookup 65=some W
 Pm:fr.lookup 51=some (.ref i)
 l4:fr.lookup 4=some (.int k)
theorem NF.other {aO:Nat}{W:V}(F:NF aO i W k fr)(j:Nat)(v:V)(h:j=14\/j=62\/j=50\/j=66):NF aO i W k (aE fr j v):=by
 constructor <;> rw[aV,av (by lia)]
 all_goals first |exact F.xN |exact F.LO |exact F.Pm |exact F.l4
noncomputable def lX (aO:Nat)(U:bw):Prop:=Pb (λa b c=>U[aO]? = some (.inst 1 [(53,a),(54,b),(31,c)]))
theorem jl {aO m:Nat}{f:ME V}{a b c:V}(hg:U[aO]? = some (.inst 1 [(53,a),(54,b),(31,c)]))(hm :∀a b c:V,([(53,a),(54,b),(31,c)]:List (Nat×V)).lookup m=none)(h:f fr U=.ok (.ref aO) U)(h1:aS fs fr U=.ok vs bB) :
  ax 1 m r f fs fr U=r (.ref aO::vs) bB:=by
 exact kb h hg (rl (hm ..) rfl) h1
section
variable {aO:Nat}
theorem ua (C:uo aO kd L ls P){m:Nat}(hm :∀a b c:V,([(53,a),(54,b),(31,c)]:List (Nat×V)).lookup m=none)(h:fr.lookup 10=some (.ref aO))(h1:aS fs fr (P az)=.ok vs (P az)) :
  ax 1 m r (ai 10) fs fr (P az)=r (.ref aO::vs) (P az):=by
 obtain⟨mk,hg⟩:=C.get;exact jl (hg az) hm (ao h) h1
theorem wC (C:uo aO kd L ls P){u:Nat}{x:List V}(I:d7 L az)(uk:fr.lookup 10=some (.ref aO))(LP:fr.lookup 62=some (.list [d5 u x]))(LG:fr.lookup 66=some (.int ((n:Int)+1)))(hu:u<=20)(hn:n<=12) :
  fk (λaJ=>d7 L aJ) (λaJ=>wB fr (P az)=.ok (.int (fo L n u:Nat)) (P aJ)):=by
 refine tV (I:=λU=>fk (λaz=>d7 L az) (λaz=>U=P az)) (t:=bp [47,52]) (iw:=ax 1 57 (d4 30) (ai 10) [(ai 47),(aU .Sub (ai 66) (ah (.int 1)))]) (jD:=jO fr [66,10]) (λ_=>((fo L n u:Nat):Int)) [d5 u x] (P az) [] ⟨az,I,rfl⟩ (by simp) (λv hm=>?_) ?_
 .cases dM hm
  refine⟨aE (aE (jO fr [66,10]) 47 (.tup (ef u))) 52 (.tup x),rfl,λU ⟨az,I,e⟩=>?_⟩;subst e;obtain⟨aJ,I',h⟩:=t9 C hu hn I;refine⟨_,⟨aJ,I',rfl⟩,?_⟩;rw[ke C (v1:=.tup (ef u)) (v2:=.int n) (b7 (by decide) (b7 (by decide) (by rw[fU (by decide)];exact uk))) (ao (b7 (by decide) (cV _ _ _))),h];refine(bk (ao (b7 (by decide) (b7 (by decide) (rl (fU (by decide) ..)<|LG)))) rfl).trans ?_
  show Res.ok (V.int ((n:Int)+1 - 1)) _=_;exact rl (Int.add_sub_cancel ..) rfl
 rintro bB ⟨aJ,I',e⟩ hc;subst e;refine⟨aJ,I',?_⟩;have hi:bl (ai 62) fr (P az)=.ok [d5 u x] (P az):=kH (ao LP) rfl;have e1:bQ [66,10] (bp [47,52]) (bl (ai 62)) none (ax 1 57 (d4 30) (ai 10) [(ai 47),(aU .Sub (ai 66) (ah (.int 1)))]) fr (P az)=.ok (.list [.int (fo L n u:Nat)]) (P aJ):=by
  unfold bQ;exact rl hi<|rl (aC ..)<|rl hc rfl
 unfold wB bV aS;rw[ME.bind,ME.bind,e1];show Res.ok (V.int (((fo L n u:Nat):Int)+0)) _=_;exact rl (Int.add_zero ..) rfl
theorem LQ (C:hX aO kd L ls P){t:Nat}{D:List V}(hn:n<=11)(ht:t<=12)(hD:D.length<50) :∀(os:List Nat) (k s k':Nat) (W:V) (az:List (V×V)) (fr:eY),d7 L az->NF aO i W k fr->fr.lookup 66=some (.int ((n:Int)+1))->i =(P az++J).length->jA (wt L n t) os k=some (s,k')->
  qT (λaJ bC=>d7 L aJ) (λaJ bC=>NF aO i (.list [d5 (t+bo s) (gd (ss++[s]))]) k' bC) (λaJ bC=>dJ (bp [14,62]) E8 (os.map (qE t ss)) fr (P az++J++[.list D])=.next bC (P aJ++J++[.list (D++[.str [s]])])):=by
 intro y
 induction y with
 |nil=>intros;first |contradiction | (injection ‹_=some _›)
 |cons x os ih=>
  intro k s k' W az fr I F LG hi hp;have ha:=kh x;have F1:=(F.other 14 (.str [x]) (.inl rfl)).other 62 (.list [d5 (t+bo x) (gd (ss++[x]))]) (.inr (.inl rfl));have uq :(aE (aE fr 14 (.str [x])) 62 (.list [d5 (t+bo x) (gd (ss++[x]))])).lookup 62=some (.list [d5 (t+bo x) (gd (ss++[x]))]):=cV _ _ _;have Fy :(aE (aE fr 14 (.str [x])) 62 (.list [d5 (t+bo x) (gd (ss++[x]))])).lookup 14=some (.str [x]):=b7 (by decide) (cV _ _ _);have xO :(aE (aE fr 14 (.str [x])) 62 (.list [d5 (t+bo x) (gd (ss++[x]))])).lookup 66=some (.int ((n:Int)+1)):=b7 (by decide) (b7 (by decide) LG);have ht:bp [14,62] (qE t ss x) fr=some (aE (aE fr 14 (.str [x])) 62 (.list [d5 (t+bo x) (gd (ss++[x]))])):=rfl;generalize aE (aE fr 14 (.str [x])) 62 (.list [d5 (t+bo x) (gd (ss++[x]))])=cA at F1 uq Fy xO ht;obtain⟨bA,I1,e1⟩:=wC (C (J++[.list D])) I F1.xN uq xO (VB ⋯ ⋯ (by rfl)) (Nat.le_succ_of_le hn);rw[<- cW,<- cW] at e1;have Ky:i =(P bA++J).length:=by refine hi.trans (bY.trans ?_);exact rl bY<|rl (fA C bA az) rfl
  have s1:aB (aA 50) wB cA (P az++J++[.list D])=.next (aE cA 50 (.int (wt L n t x))) (P bA++J++[.list D]):=by
   exact dT e1
  have F2:=F1.other 50 (.int (wt L n t x)) (.inr (.inr (.inl rfl)));have Fz :(aE cA 50 (.int (wt L n t x))).lookup 50=some (.int (wt L n t x)):=cV _ _ _;have Zk :(aE cA 50 (.int (wt L n t x))).lookup 62=some (.list [d5 (t+bo x) (gd (ss++[x]))]):=b7 (by decide) uq;have Zl :(aE cA 50 (.int (wt L n t x))).lookup 14=some (.str [x]):=b7 (by decide) Fy;have Zm :(aE cA 50 (.int (wt L n t x))).lookup 66=some (.int ((n:Int)+1)):=b7 (by decide) xO;generalize aE cA 50 (.int (wt L n t x))=cH at s1 F2 Fz Zk Zl Zm;have II:bx .Lt (ai 4) (ai 50) cH (P bA++J++[.list D])=.ok (decide ((k:Int)<wt L n t x)) (P bA++J++[.list D]):=by
   exact pQ (ao F2.l4) (ao Fz) rfl
  by_cases hk:k<wt L n t x
  .replace hp:=(ay hk).symm.trans hp
   injection hp with hp;injection hp with Jz RM;subst Jz RM;refine⟨bA,aE cH 65 (.list [d5 (t+bo x) (gd (ss++[x]))]),I1,⟨b7 (by decide) F2.xN,cV _ _ _,b7 (by decide) F2.Pm,b7 (by decide) F2.l4⟩,?_⟩;have s2:fw (bx .Lt (ai 4) (ai 50)) (aL (bM (c6 .append (ai 51) [(ai 14)])) (aL (aB (aA 65) (ai 62)) pG)) bF cH (P bA++J++[.list D])=.brk (aE cH 65 (.list [d5 (t+bo x) (gd (ss++[x]))])) (P bA++J++[.list (D++[.str [x]])]):=by
    refine(nE II (bN (Int.ofNat_lt.mpr hk))).trans ?_;have s3:bM (c6 .append (ai 51) [(ai 14)]) cH (P bA++J++[.list D])=.next cH (P bA++J++[.list (D++[.str [x]])]):=by
     exact oV (nH (by refine F2.Pm.trans ?_;exact rl Ky rfl) (ao Zl) (q1 ⋯ (by rfl))) rfl
    refine(aK s3).trans ?_;unfold aL aB cu;exact rl (ao Zk) rfl
   refine o3 ht ?_;refine(aK s1).trans ?_;unfold aL at s2 ⊢;exact rl s2 rfl
  .replace hp:=(av hk).symm.trans hp
   have s2:fw (bx .Lt (ai 4) (ai 50)) (aL (bM (c6 .append (ai 51) [(ai 14)])) (aL (aB (aA 65) (ai 62)) pG)) bF cH (P bA++J++[.list D])=.next cH (P bA++J++[.list D]):=by
    exact(qw II (cI (Ta ⋯))).trans rfl
   have s4:aB (aA 4) (aU .Sub (ai 4) (ai 50)) cH (P bA++J++[.list D])=.next (aE cH 4 (.int ((k - wt L n t x:Nat):Int))) (P bA++J++[.list D]):=by
    unfold aB cu;exact rl (bk (ao F2.l4) (ao Fz))<|rl (show((k - wt L n t x:Nat):Int) =(k:Int) - wt L n t x by exact Eq.symm (Qn hk)) rfl
   have hb:E8 cA (P az++J++[.list D])=.next (aE cH 4 (.int ((k - wt L n t x:Nat):Int))) (P bA++J++[.list D]):=by
    exact(aK s1).trans ((aK s2).trans s4)
   obtain⟨du,bC,I2,F',e⟩:=ih (k - wt L n t x) s k' W bA _ I1 (show NF aO i W (k - wt L n t x) (aE cH 4 (.int ((k - wt L n t x:Nat):Int))) from⟨b7 (by decide) F2.xN,b7 (by decide) F2.LO,b7 (by decide) F2.Pm,cV _ _ _⟩) (b7 (by decide) Zm) Ky hp;exact⟨du,bC,I2,F',(dH ht hb).trans e⟩
end
noncomputable def T5:Nat->List V
 |0=>[]
 |n+1=>.int ((n:Int)+1)::T5 n
noncomputable def gR (ss:List Nat):List V:=ss.map λs=>.str [s]
section
variable {aO:Nat}
theorem Ai (C:hX aO kd L ls P)(kU:ls∈iT){t:Nat}(I:d7 L az)(ht:t<=12)(hn:n<=11)(hz:ss.length<50)(uk:fr.lookup 10=some (.ref aO))(h65:fr.lookup 65=some (.list [d5 (t+1) (gd ss)]))(LG:fr.lookup 66=some (.int ((n:Int)+1))) :
  fk (λaJ=>d7 L aJ) (λaJ=>B3 fr (P az++J)=.ok ((rS L n t (ls++[112])).map (qE t ss)) (P aJ++J)):=by
 obtain⟨aJ,I',e⟩:=Ah C kU (J:=J) I ht hn hz;refine⟨aJ,I',?_⟩;have el:aS [(ai 65),(ai 66)] fr (P az++J)=.ok [.list [d5 (t+1) (gd ss)],.int ((n:Int)+1)] (P az++J):=by
  unfold aS aS aS;refine(bL (ao h65)).trans ?_;rw[ME.bind,ME.bind,ao LG];rfl
 unfold B3 bl;rw[ME.bind,ua (C J) (λ_ _ _=>rfl) uk el,e];rfl
theorem IJ (C:hX aO kd L ls P)(kU:ls∈iT) :∀(n t k:Nat) (ss:List Nat) (az:List (V×V)) (fr:eY),d7 L az->NF aO i (.list [d5 t (gd ss)]) k fr->i =(P az++J).length->k<fo L n t->n+t<=12->ss.length+n<50->
  qT (λaJ bC=>d7 L aJ) (λaJ bC=>NF aO i (.list [d5 0 (gd (ss++aX ls n t k))]) 0 bC) (λaJ bC=>dJ (aA 66) (df (bp [14,62]) B3 E8) (T5 n) fr (P az++J++[.list (gR ss)])=.next bC (P aJ++J++[.list (gR (ss++aX ls n t k))])):=by
 intro y
 induction y with
 |zero=>
  intro t k ss az fr I F _ hk _ _;have h0:t=0/\k=0:=by
   unfold fo at hk
   split at hk <;>(first |exact Yq ⋯ ⋯ |lia)
  obtain⟨rfl,rfl⟩:=h0;have e0:ss++aX ls 0 0 0=ss:=List.append_nil ss;exact rl e0<|⟨az,fr,I,F,rfl⟩
 |succ n ih=>
  intro t k ss az fr I F hi hk hb hz;have ht:t≠0:=λz=>by subst z;simp[fo] at hk
  obtain⟨t,rfl⟩ :∃u,t=u+1:=⟨t - 1,Eq.symm (Nat.succ_pred_eq_of_ne_zero ht)⟩;have hL:=(C []).hL;have hO:112∉ls:=(C []).zU;obtain⟨s,k',hp,hs,Gy⟩:=we hO (n:=n) (t:=t) (k:=k) (rl hL<|hk)
  rw[hL] at hp Gy;have F1:=F.other 66 (.int ((n:Int)+1)) (.inr (.inr (.inr rfl)));have xO:=cV fr 66 (.int ((n:Int)+1));obtain⟨bA,I1,e1⟩:=Ai C kU (J:=J++[.list (gR ss)]) I (by lia) (by lia) (Nat.lt_of_add_right_lt hz) F1.xN F1.LO xO;rw[<- cW,<- cW] at e1;have Jz:jA (wt L n t) (rS L n t (ls++[112])) k=some (s,k'):=(qv (wt L n t) (ls++[112]) k).trans hp;obtain⟨du,cH,I2,F2,e2⟩:=LQ C (ss:=ss) (J:=J) (D:=gR ss) (by lia) (by lia) (by unfold gR;exact rl (cJ ..)<|Nat.lt_of_add_right_lt hz) _ k s k' _ bA _ I1 F1 xO (by refine hi.trans (bY.trans ?_);exact rl bY<|rl (fA C bA az) rfl) Jz
  have er:df (bp [14,62]) B3 E8 (aE fr 66 (.int ((n:Int)+1))) (P az++J++[.list (gR ss)])=.next cH (P du++J++[.list (gR (ss++[s]))]):=by
   unfold df cu;refine rl e1 ?_;have:gR (ss++[s])=gR ss++[.str [s]]:=List.map_append.trans rfl;exact rl this<|e2
  obtain⟨aJ,bC,I',F',e'⟩:=ih (t+bo s) k' (ss++[s]) du cH I2 F2 (by refine hi.trans (bY.trans ?_);exact rl bY<|rl (fA C du az) rfl) Gy (by have:=kh s;exact Yk ⋯ ⋯) (by refine rl bY<|rl gC ?_;exact yf hz)
  refine rl hs ?_;rw[cW ss] at F' e';exact⟨aJ,bC,I',F',(dH rfl er).trans e'⟩
end
theorem IK :∀n:Nat,n<=12->d9 (n:Int) 0 (-1)=T5 n:=by decide +kernel
theorem o4 {f g:ME V}{a b:V}(hf:f fr U=.ok a bq)(hg:g fr bq=.ok b bU):bj [f,g] fr U=.ok (.tup [a,b]) bU:=by
 unfold bj;simp only[ME.bind,aS,hf,hg,aC,ah];rfl
theorem o5 {f:ME V}{a:V}(hf:f fr U=.ok a bq):bj [f] fr U=.ok (.tup [a]) bq:=by
 unfold bj;simp only[ME.bind,aS,hf,aC,ah];rfl
theorem IL {f:ME V}{a:V}(hf:f fr U=.ok a bq):cZ [f] fr U=.ok (.list [a]) bq:=by
 unfold cZ;simp only[ME.bind,aS,hf,aC,ah];rfl
def uY:ME Bool:=rX (jE .LtE .Lt (ah (.int 0)) (ai 4) (ax 1 50 dS (ai 10) [(ai 41),(ai 34)]))
noncomputable def nK (aO:Nat)(c s k:Int):eY:=[(10,.ref aO),(41,.int c),(34,.int s),(4,.int k)]
theorem Aj {aO:Nat}{s k v c:Int}(hg:lX aO U)(h:dS [.ref aO,.int c,.int s] U=.ok (.int v) bB) :
  uY (nK aO c s k) U=if 0<=k then .ok (!(decide (k<v))) bB else .ok true U:=by
 obtain⟨x,y,z,hg⟩:=hg;have e:ax 1 50 dS (ai 10) [(ai 41),(ai 34)] (nK aO c s k) U=.ok (.int v) bB:=(jl hg (λ_ _ _=>rfl) rfl rfl).trans h;unfold uY rX jE;skip;show((if decide ((0:Int)<=k) then (ax 1 50 dS (ai 10) [(ai 41),(ai 34)]).bind (λd=>λ_ U=>Res.cO (ig .Lt (.int k) d U) U) _ U else Res.ok false U).andThen λb U=>Res.ok (!b) U)=_;by_cases h0:0<=k
 .rw[bN h0,ay rfl,ay h0,ME.bind,e];rfl
 .rw[cI h0,av h0];rfl
theorem ub {aO:Nat}{s k v c:Int}(hg:lX aO U)(h:dS [.ref aO,.int c,.int s] U=.ok (.int v) bB)(hk:k<0\/v<=k):iQ [.ref aO,.int c,.int s,.int k] U=.ok .none (if 0<=k then bB else U):=by
 have e:uY (nK aO c s k) U=.ok true (if 0<=k then bB else U):=by
  refine(Aj hg h).trans ?_;by_cases h0:0<=k
  .refine(ay h0).trans ?_;exact rl (ay h0)<|rl (cI (q60 ⋯ ⋯)) rfl
  .refine(av h0).trans ?_;exact rl (av h0) rfl
 have e1:fw uY (cp (ah .none)) bF (nK aO c s k) U=.ret .none (if 0<=k then bB else U):=(fQ e).trans rfl;show dB (aL (fw uY (cp (ah .none)) bF) _ (nK aO c s k) U)=_;exact rl (rI e1) rfl
section
variable {aO:Nat}
def SD:MS:=cP (dZ [65,51]) (bj [(cZ [(bj [(bj [(ax 3 25 bR (bc 1 53 (ai 10)) [(ai 41)])]),(bj [])])]),(dj [])])
def Pp:ME (List V):=jr (ai 34) (ah (.int 0)) (gZ (ah (.int 1)))
def LR:ME V:=cv (x9 kM [(bQ [] (bp [47,52]) (bl (ai 65)) none (ai 52))]) (ai 4)
def LS (aO i:Nat)(c s k:Int):eY:=(65,.list [d5 1 (gd [])]) ::(51,.ref i)::nK aO c s k
theorem LU (C:hX aO kd L ls P)(kU:ls∈iT){t:T}(hg:lX aO U)(e1:dS [.ref aO,.int 0,.int n] U=.ok (.int (fo L n 1:Nat)) (P bA++J))(I1:d7 L bA)(hn:n<=11)(hk:k<fo L n 1)(hb:gm (aX ls n 1 k)=[t])(hp:t.pre=aX ls n 1 k) :
  fk (λaJ=>d7 L aJ) (λaJ=>iQ [.ref aO,.int 0,.int n,.int k] U=.ok (aR t) (P aJ++J++[.list (gR (aX ls n 1 k))])):=by
 have hL:=(C []).hL;have hO:112∉ls:=(C []).zU;have et:=Aj (k:=k) hg e1;rw[ay (Int.natCast_nonneg k),bN (Int.ofNat_lt.mpr hk)] at et;have s1:fw uY (cp (ah .none)) bF (nK aO 0 n k) U=.next (nK aO 0 n k) (P bA++J):=(fQ et).trans rfl;have s2:SD (nK aO 0 n k) (P bA++J)=.next (LS aO (P bA++J).length 0 n k) (P bA++J++[.list (gR [])]):=by
  have eh:=pV (C J) (fr:=nK aO 0 n k) (az:=bA) (i:=41) (c:=0) rfl rfl ((C J).wj bA);exact iv (o4 (IL (gO (o5 eh) rfl)) rfl) rfl
 obtain⟨du,cH,I2,F2,e2⟩:=IJ C kU (i:=(P bA++J).length) (J:=J) n 1 k [] bA (LS aO (P bA++J).length 0 n k) I1 ⟨rfl,rfl,rfl,rfl⟩ rfl hk (Nat.succ_le_succ hn) (by refine rl List.length_nil ?_;exact Vy ⋯ (by rfl));rw[List.nil_append] at F2 e2;have Ap :(P du++J).length =(P bA++J).length:=by refine bY.trans ?_;exact rl bY<|rl (fA C bA du) rfl
 have er:Pp (LS aO (P bA++J).length 0 n k) (P bA++J++[.list (gR [])])=.ok (T5 n) (P bA++J++[.list (gR [])]):=by
  have es:g7 (n:Int)=true:=bN (UI hn);exact rr (IK n (Nat.le_succ_of_le hn))<|wi (ao rfl) rfl rfl es rfl
 have s3:df (aA 66) Pp (df (bp [14,62]) B3 E8) (LS aO (P bA++J).length 0 n k) (P bA++J++[.list (gR [])])
   = .next cH (P du++J++[.list (gR (aX ls n 1 k))]):=by
  exact iu er e2
 have DN:=j9 ls n 1 k;generalize uv:P du++J++[O.list (gR (aX ls n 1 k))]=bU at s3;have ei:LR cH bU=.ok (.tup (gd (aX ls n 1 k))) bU:=by
  have e0:bQ [] (bp [47,52]) (bl (ai 65)) none (ai 52) cH bU=.ok (.list [.tup (gd (aX ls n 1 k))]) bU:=by
   refine gy (λ_=>d5 0 (gd (aX ls n 1 k))) (λ_=>.tup (gd (aX ls n 1 k))) [0] ?_ (λx _=>⟨_,rfl,ao (cV _ _ _)⟩) (by decide);exact kH (ao F2.LO) rfl
  have e1:x9 kM [(bQ [] (bp [47,52]) (bl (ai 65)) none (ai 52))] cH bU=.ok (.list [.tup (gd (aX ls n 1 k))]) bU:=by
   exact Sp e0 rfl
  refine(bL e1).trans ?_;rw[ME.bind,ao F2.l4];rfl
 have eg:=Ip (U:=bU) (v:=.ref (P bA++J).length) (by refine rr uv ?_;unfold items?;dsimp only;exact rr Ap<|rl (f7 ..) rfl) hb (by refine rl hp<|rl DN ?_;exact q2 ⋯ (by rfl)) (by refine rl DN ?_;exact q2 ⋯ (by rfl)) (qu hO n 1 k (rl hL<|hk))
 have e4:bZ kC [(ai 51),LR] cH bU=.ok (aR t) bU:=by
  refine rr eg ?_;unfold bZ aS aS aS;rw[ME.bind,ME.bind,ao F2.Pm,aC,ME.bind,ME.bind,ei];rfl
 have s4:cp (bZ kC [(ai 51),LR]) cH bU=.ret (aR t) bU:=by
  exact ir e4
 refine⟨du,I2,?_⟩;refine rl uv ?_;show dB (aL (fw uY (cp (ah .none)) bF) (aL SD (aL (df (aA 66) Pp (df (bp [14,62]) B3 E8)) (cp (bZ kC [(ai 51),LR])))) (nK aO 0 n k) U)=_;exact rl (aK s1)<|rl (aK s2)<|rl (aK s3)<|rl s4 rfl
end
def Di:MS:=(aL (fw (bx .Eq (ai 14) (ai 58)) (aL (aB (aA 65) (ai 62))
 pG) bF)
 (aB (aA 4) (aU .Add (ai 4) wB)))
def IM:MS:=(aL (aB (aA 66) (aU .Sub (ai 34) (ai 70)))
 (df (bp [14,62]) B3 Di))
structure RF (aO N:Nat)(Sh W:V)(k:Nat)(fr:eY):Prop where
 xN:fr.lookup 10=some (.ref aO)
 LO:fr.lookup 65=some W
 Nd:fr.lookup 34=some (.int N)
 Nc:fr.lookup 16=some Sh
 l4:fr.lookup 4=some (.int k)
theorem RF.other {aO:Nat}{Sh W:V}(F:RF aO N Sh W k fr)(j:Nat)(v:V)(h:j=14\/j=62\/j=58\/j=70\/j=66):RF aO N Sh W k (aE fr j v):=by
 constructor <;> rw[aV,av (by lia)]
 all_goals first |exact F.xN |exact F.LO |exact F.Nd |exact F.Nc |exact F.l4
theorem Pq {x s:Nat}(h1:fr.lookup i=some (.str [x]))(h2:fr.lookup j=some (.str [s]))(hx:x<1000)(hs:s<1000):bx .Eq (ai i) (ai j) fr U=.ok (decide (x=s)) U:=by
 refine(bL (ao h1)).trans ((bL (ao h2)).trans ?_);exact xM (f:=ah (.str [x])) (fr:=fr) hx hs rfl
noncomputable def Dj:Nat->List Nat->List V
 |_,[]=>[]
 |p,s::r=>.tup [.int p,.str [s]]::Dj (p+1) r
section
variable {aO:Nat}
theorem IP (C:hX aO kd L ls P){t s:Nat}{Sh W:V}(hn:n<=11)(ht:t<=12)(hs:s<1000) :∀(os:List Nat) (k:Nat) (az:List (V×V)) (fr:eY),d7 L az->RF aO N Sh W k fr->fr.lookup 66=some (.int ((n:Int)+1))->fr.lookup 58=some (.str [s])->s∈os->(∀x∈os,x<1000)->
  qT (λaJ bC=>d7 L aJ) (λaJ bC=>RF aO N Sh (.list [d5 (t+bo s) (gd (ss++[s]))]) (k+qS (wt L n t) s os) bC) (λaJ bC=>dJ (bp [14,62]) Di (os.map (qE t ss)) fr (P az++J)=.next bC (P aJ++J)):=by
 intro y
 induction y with
 |nil=>intros;first |contradiction | (injection ‹_=some _›)
 |cons x os ih=>
  intro k az fr I F LG h58 hm hx;have ha:=kh x;have F1:=(F.other 14 (.str [x]) (.inl rfl)).other 62 (.list [d5 (t+bo x) (gd (ss++[x]))]) (.inr (.inl rfl));have uq :(aE (aE fr 14 (.str [x])) 62 (.list [d5 (t+bo x) (gd (ss++[x]))])).lookup 62=some (.list [d5 (t+bo x) (gd (ss++[x]))]):=cV _ _ _;have Fy :(aE (aE fr 14 (.str [x])) 62 (.list [d5 (t+bo x) (gd (ss++[x]))])).lookup 14=some (.str [x]):=b7 (by decide) (cV _ _ _);have xO :(aE (aE fr 14 (.str [x])) 62 (.list [d5 (t+bo x) (gd (ss++[x]))])).lookup 66=some (.int ((n:Int)+1)):=b7 (by decide) (b7 (by decide) LG);have JG :(aE (aE fr 14 (.str [x])) 62 (.list [d5 (t+bo x) (gd (ss++[x]))])).lookup 58=some (.str [s]):=b7 (by decide) (b7 (by decide) h58);have FA:bp [14,62] (qE t ss x) fr=some (aE (aE fr 14 (.str [x])) 62 (.list [d5 (t+bo x) (gd (ss++[x]))])):=rfl;generalize aE (aE fr 14 (.str [x])) 62 (.list [d5 (t+bo x) (gd (ss++[x]))])=cA at F1 uq Fy xO JG FA;have II:=Pq (U:=P az++J) Fy JG (hx x (.head _)) hs;by_cases h:x=s
  .subst h
   have s2:fw (bx .Eq (ai 14) (ai 58)) (aL (aB (aA 65) (ai 62)) pG) bF cA (P az++J)=.brk (aE cA 65 (.list [d5 (t+bo x) (gd (ss++[x]))])) (P az++J):=by
    refine(nE II (bN rfl)).trans ?_;unfold aL aB cu;exact rl (ao uq) rfl
   refine⟨az,aE cA 65 (.list [d5 (t+bo x) (gd (ss++[x]))]),I,?_,o3 FA ?_⟩
   .have:k+qS (wt L n t) x (x::os)=k:=by unfold qS;exact rl (ay rfl) rfl
    exact rl this<|⟨b7 (by decide) F1.xN,cV _ _ _,b7 (by decide) F1.Nd,b7 (by decide) F1.Nc,b7 (by decide) F1.l4⟩
   .unfold Di
    unfold aL at s2 ⊢;exact rl s2 rfl
  .have DR:s∈os:=(b8 hm).resolve_left λz=>h z.symm
   have s2:fw (bx .Eq (ai 14) (ai 58)) (aL (aB (aA 65) (ai 62)) pG) bF cA (P az++J)=.next cA (P az++J):=by
    exact(qw II (cI h)).trans rfl
   obtain⟨bA,I1,e1⟩:=wC (C J) I F1.xN uq xO (VB ⋯ ⋯ (by rfl)) (Nat.le_succ_of_le hn);have s4:aB (aA 4) (aU .Add (ai 4) wB) cA (P az++J)=.next (aE cA 4 (.int ((k+wt L n t x:Nat):Int))) (P bA++J):=by
    exact dT ((bk (ao F1.l4) e1).trans rfl)
   have hb:Di cA (P az++J)=.next (aE cA 4 (.int ((k+wt L n t x:Nat):Int))) (P bA++J):=by
    exact(aK s2).trans s4
   obtain⟨du,bC,I2,F',e⟩:=ih (k+wt L n t x) bA _ I1 (show RF aO N Sh W (k+wt L n t x) (aE cA 4 (.int ((k+wt L n t x:Nat):Int))) from⟨b7 (by decide) F1.xN,b7 (by decide) F1.LO,b7 (by decide) F1.Nd,b7 (by decide) F1.Nc,cV _ _ _⟩) (b7 (by decide) xO) (b7 (by decide) JG) DR λy hy=>hx y (.tail _ hy);refine⟨du,bC,I2,?_,(dH FA hb).trans e⟩;have:k+qS (wt L n t) s (x::os)=k+wt L n t x+qS (wt L n t) s os:=by
    show k+(if x=s then 0 else wt L n t x+qS (wt L n t) s os)=_;refine rl (av h) ?_;exact Eq.symm (Nat.add_assoc k (wt L n t x) (qS (wt L n t) s os))
   exact rl this<|F'
theorem law_small (h:ls∈iT) :∀x∈ls++[112],x<1000:=by revert ls;decide
theorem E9 (C:hX aO kd L ls P)(kU:ls∈iT){Sh:V} :∀(n t k p a:Nat) (ss:List Nat) (az:List (V×V)) (fr:eY),d7 L az->RF aO N Sh (.list [d5 t (gd ss)]) a fr->k<fo L n t->p+n=N->n+t<=12->ss.length+n<50->
  qT (λaJ bC=>d7 L aJ) (λaJ bC=>RF aO N Sh (.list [d5 0 (gd (ss++aX ls n t k))]) (a+k) bC) (λaJ bC=>dJ (bp [70,58]) IM (Dj p (aX ls n t k)) fr (P az++J)=.next bC (P aJ++J)):=by
 intro y
 induction y with
 |zero=>
  intro t k p a ss az fr I F hk _ _ _;have h0:t=0/\k=0:=by
   unfold fo at hk
   split at hk <;>(first |exact Yq ⋯ ⋯ |lia)
  obtain⟨rfl,rfl⟩:=h0;have e0:ss++aX ls 0 0 0=ss:=List.append_nil ss;exact rl e0<|⟨az,fr,I,F,rfl⟩
 |succ n ih=>
  intro t k p a ss az fr I F hk hN hb hz;have ht:t≠0:=λz=>by subst z;simp[fo] at hk
  obtain⟨t,rfl⟩ :∃u,t=u+1:=⟨t - 1,Eq.symm (Nat.succ_pred_eq_of_ne_zero ht)⟩;have hL:=(C []).hL;have hO:112∉ls:=(C []).zU;obtain⟨s,k',hp,hs,Gy⟩:=we hO (n:=n) (t:=t) (k:=k) (rl hL<|hk)
  rw[hL] at hp Gy;have Jz:jA (wt L n t) (rS L n t (ls++[112])) k=some (s,k'):=(qv (wt L n t) (ls++[112]) k).trans hp;have nd :(rS L n t (ls++[112])).Nodup:=(Dh kU).sublist List.filter_sublist;obtain⟨q1,q2,q3⟩:=H6 nd Jz;have Zn :∀x∈rS L n t (ls++[112]),x<1000:=λx hx=>law_small kU x (LK hx);have F1:=(F.other 70 (.int p) (by decide)).other 58 (.str [s]) (by decide);have Zo :(aE (aE fr 70 (.int p)) 58 (.str [s])).lookup 70=some (.int p):=b7 (by decide) (cV _ _ _);have JG :(aE (aE fr 70 (.int p)) 58 (.str [s])).lookup 58=some (.str [s]):=cV _ _ _;have FA:bp [70,58] (.tup [.int p,.str [s]]) fr=some (aE (aE fr 70 (.int p)) 58 (.str [s])):=rfl;generalize aE (aE fr 70 (.int p)) 58 (.str [s])=cA at F1 Zo JG FA;have s1:aB (aA 66) (aU .Sub (ai 34) (ai 70)) cA (P az++J)=.next (aE cA 66 (.int ((n:Int)+1))) (P az++J):=by
   unfold aB cu;refine rl (bk (ao F1.Nd) (ao Zo)) ?_;show ur.next (aE cA 66 (.int ((N:Int) - p))) _=_;exact rl (show(N:Int) - p =(n:Int)+1 by exact Int.sub_eq_iff_eq_add'.mpr (aP Nat.cast (id (Eq.symm hN)))) rfl
  have F2:=F1.other 66 (.int ((n:Int)+1)) (by decide);have xO:=cV cA 66 (.int ((n:Int)+1));have m58 :(aE cA 66 (.int ((n:Int)+1))).lookup 58=some (.str [s]):=b7 (by decide) JG;obtain⟨bA,I1,e1⟩:=Ai C kU (J:=J) I (by lia) (by lia) (Nat.lt_of_add_right_lt hz) F2.xN F2.LO xO;obtain⟨du,cH,I2,F3,e2⟩:=IP C (n:=n) (t:=t) (N:=N) (ss:=ss) (J:=J) (Vz ⋯) (Yi ⋯) (Zn s q1) _ a bA _ I1 F2 xO m58 q1 Zn;have er:IM cA (P az++J)=.next cH (P du++J):=by
   refine(aK s1).trans ?_;exact iu e1 e2
  obtain⟨aJ,bC,I',F',e'⟩:=ih (t+bo s) k' (p+1) (a+qS (wt L n t) s (rS L n t (ls++[112]))) (ss++[s]) du cH I2 F3 Gy (by lia) (by have:=kh s;exact Yk ⋯ ⋯) (by refine rl bY<|rl gC ?_;exact yf hz)
  refine rl hs ?_;rw[cW ss,Nat.add_assoc,q3] at F';exact⟨aJ,bC,I',F',(dH FA er).trans e'⟩
end
theorem mz :∀(n t k:Nat),∀x∈aX ls n t k,x∈ls\/x=112:=by
 intro y
 induction y with
 |zero=>
  intro _ _ _ h;exact nomatch h
 |succ n ih=>
  intro t k x h;unfold aX at h
  cases hp:fY (fo ls.length n (t - 1)) ls k with
  |mk o k'=>
   rw[hp] at h
   cases o with
   |some l=>
    rcases b8 h with rfl |h
    .exact .inl (ji hp).1
    .exact ih _ _ x h
   |none=>
    rcases b8 h with rfl |h
    .exact .inr rfl
    .exact ih _ _ x h
theorem Pr :∀t:T,EZ t->(∀x∈t.pre,x∈ls\/x=112)->Sz ls t:=by
 intro y
 induction y with
 |leaf l=>
  intro h hx;exact(hx l (.head _)).resolve_right h
 |node a b wu p7=>
  intro h hx;exact⟨wu h.1 λx q=>hx x (.tail _ (List.mem_append.mpr (.inl q))),p7 h.2 λx q=>hx x (.tail _ (List.mem_append.mpr (.inr q)))⟩
theorem LV :∀(ss:List Nat) (p:Nat),((gR ss).zipIdx p).map (λq=>V.tup [.int q.2,q.1])=Dj p ss:=by
 intro y
 induction y with
 |nil=>
  intro _;exact rfl
 |cons s ss ih=>
  intro p;exact aP (V.tup [.int p,.str [s]]::·) (ih (p+1))
theorem IQ :∀xs:List V,tr xs xs=some false:=by
 intro y
 induction y with
 |nil=>
  exact rfl
 |cons x xs ih=>
  refine(ay rfl).trans ?_;exact ih
theorem IS :∀ss:List Nat,V.cT (gd ss)=true/\V.cw (gd ss)=0:=by
 intro y
 induction y with
 |nil=>
  exact⟨rfl,rfl⟩
 |cons s ss ih=>
  exact⟨(ih).1,(Nat.max_eq_right (Nat.zero_le _)).trans (ih).2⟩
section
variable {aO:Nat}
theorem Fb (C:hX aO kd L ls P)(kU:ls∈iT){t:T}(hg:lX aO U)(e3:d6 [.ref aO,.int n] U=.ok .none (P az++J))(I:d7 L az)(hn:n<=11)(hk:k<fo L n 1)(hb:gm (aX ls n 1 k)=[t])(hp:t.pre=aX ls n 1 k) :
  fk (λaJ=>d7 L aJ) (λaJ=>j8 [.ref aO,aR t] U=.ok (.tup [.int n,.int k]) (P aJ++J)):=by
 have DN:=j9 ls n 1 k;have yq:t.pre.length=n:=rl hp<|rl DN rfl
 have ok:=E0 hb;have hh:mF t<8:=by have:=z9 t;exact q46 ⋯ ⋯ ⋯
 have Tx:Sz ls t:=Pr t ok λx hx=>mz n 1 k x (rr hp<|hx)
 have e1:=wx (U:=U) ok (Z2 ⋯ ⋯ (by rfl)) hh;have e2:=Aa (C J) (az:=az) 8 t hh Tx;obtain⟨x,y,z,hg⟩:=hg
 let cA:eY:=[(16,.tup (gd t.pre)),(51,.tup (gR t.pre)),(34,.int t.pre.length),(10,.ref aO),(43,aR t)]
 have s1:cP (bp [34,51,16]) (bZ gJ [(ai 43)]) [(10,.ref aO),(43,aR t)] U=.next cA U:=by
  have:bZ gJ [(ai 43)] [(10,.ref aO),(43,aR t)] U=.ok (E2 t) U:=rr e1 rfl;exact iv this rfl
 have s2:bM (ax 1 60 d6 (ai 10) [(ai 34)]) cA U=.next cA (P az++J):=by
  have:ax 1 60 d6 (ai 10) [(ai 34)] cA U=.ok .none (P az++J):=by
   exact rr e3<|rr yq<|jl hg (λ_ _ _=>rfl) rfl rfl
  exact oV this rfl
 have s3:aB (aA 41) (ax 1 68 (fg 8) (ai 10) [(ai 43)]) cA (P az++J)=.next ((41,.int 0)::cA) (P az++J):=by
  have:ax 1 68 (fg 8) (ai 10) [(ai 43)] cA (P az++J)=.ok (.int 0) (P az++J):=by
   exact rr e2<|ua (C J) (λ_ _ _=>rfl) rfl rfl
  exact dT this
 have s4:fw (bx .Lt (ai 41) (ah (.int 0))) (cp (ah .none)) bF ((41,.int 0)::cA) (P az++J)=.next ((41,.int 0)::cA) (P az++J):=rfl
 let cH:eY:=(65,.list [d5 1 (gd [])]) ::(4,.int 0) ::(41,.int 0)::cA
 have s5:cP (dZ [65,4]) (bj [(cZ [(bj [(bj [(ai 41)]),(bj [])])]),(ah (.int 0))]) ((41,.int 0)::cA) (P az++J)=.next cH (P az++J):=rfl;have F:RF aO n (.tup (gd t.pre)) (.list [d5 1 (gd [])]) 0 cH:=⟨rfl,rfl,rr yq rfl,rfl,rfl⟩;obtain⟨aJ,bC,I',F',e⟩:=E9 C kU (J:=J) n 1 k 0 0 [] az cH I F hk (Nat.zero_add n) (Nat.succ_le_succ hn) (by refine rl List.length_nil ?_;exact Vy ⋯ (by rfl));rw[List.nil_append,<- hp,Nat.zero_add] at F';have s6:df (bp [70,58]) (kO (ai 51)) IM cH (P az++J)=.next bC (P aJ++J):=by
  have:kO (ai 51) cH (P az++J)=.ok (Dj 0 (aX ls n 1 k)) (P az++J):=by
   show Res.ok (((gR t.pre).zipIdx 0).map λq=>V.tup [.int q.2,q.1]) _=_;exact rl (LV ..)<|rl hp rfl
  exact iu this e
 have ec:bQ [16] (bp [47,52]) (bl (ai 65)) (some (OG (ai 52) (ai 16))) (ai 52) bC (P aJ++J)=.ok (.list []) (P aJ++J):=by
  have ei:bl (ai 65) bC (P aJ++J)=.ok [d5 0 (gd t.pre)] (P aJ++J):=kH (ao F'.LO) rfl;have et:OG (ai 52) (ai 16) (aE (aE (jO bC [16]) 47 (.tup (ef 0))) 52 (.tup (gd t.pre))) (P aJ++J)=.ok false (P aJ++J):=by
   have hl:RT (.tup (gd t.pre)) (.tup (gd t.pre))=some false:=by
    show(if V.cT (gd t.pre)=true/\V.cT (gd t.pre)=true/\V.cw (gd t.pre)<=64 then tr (gd t.pre) (gd t.pre) else .none)=_;obtain⟨p1,p2⟩:=IS t.pre;refine(ay ⟨p1,p1,by lia⟩).trans ?_;exact rl (IQ ..) rfl
   refine(bL (ao (cV _ _ _))).trans ((bL (ao (b7 (by decide) (b7 (by decide) (rl (fU (by decide) ..)<|F'.Nc))))).trans ?_);exact rl hl rfl
  unfold bQ;refine rl ei<|rl (aC ..) ?_
  have:fz (bp [47,52]) (some (OG (ai 52) (ai 16))) (ai 52) (jO bC [16]) [d5 0 (gd t.pre)] (P aJ++J) []=.ok [] (P aJ++J):=by
   show((N6 (OG (ai 52) (ai 16) (aE (aE (jO bC [16]) 47 (.tup (ef 0))) 52 (.tup (gd t.pre))) (P aJ++J))).andThen _)=_;exact rl et rfl
  exact rl this rfl
 have s7:bj [(ai 34),(aU .Add (ai 4) (bV .len [(bQ [16] (bp [47,52]) (bl (ai 65)) (some (OG (ai 52) (ai 16))) (ai 52))]))] bC (P aJ++J)=.ok (.tup [.int n,.int k]) (P aJ++J):=by
  refine gO (ao F'.Nd) ((bk (ao F'.l4) ((lW ec (by decide)).2)).trans ?_);show Res.ok (V.int ((k:Int)+0)) _=_;exact rl (Int.add_zero ..) rfl
 refine⟨aJ,I',?_⟩;show dB (oQ [(10,.ref aO),(43,aR t)] U)=_;have em:oQ [(10,.ref aO),(43,aR t)] U=.ret (.tup [.int n,.int k]) (P aJ++J):=by
  refine(aK s1).trans ((aK s2).trans ((aK s3).trans ((aK s4).trans ((aK s5).trans ((aK s6).trans ?_)))));exact ir s7
 exact rl em rfl
end
noncomputable abbrev For:=List (List V)
variable {gD:For}{r':Nat->Nat->Option For}
noncomputable def bD (l:For):List V:=l.map .tup
def SE (l:For):Bool:=V.cT (bD l)&&Nat.blt (V.cw (bD l)) 30&&l.all λf=>Nat.blt f.length 50
noncomputable def IT (x:Nat)(gD:For):For->For->Option For
 |[],bh=>some bh
 |k::ks,bh=>if bh.length+gD.length<900/\k.length<50 then IT x gD ks (bh++gD.map λjR=>.tup (.str [x]::k)::jR) else none
noncomputable def B4 (r:Nat->Nat->Option For)(first:Nat)(gD:For):List Nat->For->Option For
 |[],bh=>some bh
 |x::xs,bh=>(r (bo x) (first - 1)).bind λks=>(IT x gD ks bh).bind (B4 r first gD xs)
def Ng (L:Nat)(ls:List Nat)(r:Nat->Nat->Option For)(t s first:Nat)(bh:For):Option For:=
 (if t=1\/0<fo L first 1 then r (t - 1) (s - first) else some []).bind λgD=>if gD=[] then some bh else B4 r first gD (ls++[112]) bh
noncomputable def xP (L:Nat)(ls:List Nat)(r:Nat->Nat->Option For)(t s:Nat):List Nat->For->Option For
 |[],bh=>some bh
 |i::is,bh=>(Ng L ls r t s (i+1) bh).bind (xP L ls r t s is)
noncomputable def LW (L:Nat)(ls:List Nat):Nat->Nat->Nat->Option For
 |0,_,_=>none
 |d+1,t,s=>if 11<s\/12<t then none else if fo L s t=0 then some [] else if t=0 then some [[]] else (xP L ls (LW L ls d) t s (List.range (s+1 - t)) []).bind λl=>if SE l then some l else none
noncomputable def B5:V->T
 |.tup [.str [x],a,b]=>.node (B5 a) (B5 b)
 |.tup [.str [x]]=>.leaf x
 |_=>.leaf 0
noncomputable def fM (js:List Nat)(fr bC:eY):Prop:=∀j,j∉js->bC.lookup j=fr.lookup j
theorem fM.set {js:List Nat}(j:Nat)(v:V)(h:j∈js):fM js fr (aE fr j v):=λk hk=>by rw[aV,av λz=>hk (by rw[z];exact h)]
theorem fM.trans {js:List Nat}{a b c:eY}(h:fM js a b)(k:fM js b c):fM js a c:=λj hj=>(k j hj).trans (h j hj)
theorem fM.refl {js:List Nat}{a:eY}:fM js a a:=λ_ _=>rfl
theorem fM.more {js ks:List Nat}{a b:eY}(h:fM js a b)(hs :∀j∈js,j∈ks):fM ks a b:=λj hj=>h j λz=>hj (hs j z)
theorem fM.at {js:List Nat}{a b:eY}(h:fM js a b)(e:a.lookup j=some v)(hj:j∉js):b.lookup j=some v:=(h j hj).trans e
def Zp:ME V:=aU .Add (bj [(aU .Add (bj [(cv (ai 15) (ah (.int 0)))]) (ai 16))]) (ai 64)
def T6:MS:=bM (c6 .extend (ai 2) [(bQ [16,15] (aA 64) (bl (ai 62)) none Zp)])
def Xy (r:List V->bw->Res V):MS:=df (aA 16) (bl (ax 1 63 r (ai 10) [(dU 1 (ai 15)),(aU .Sub (ai 59) (ah (.int 1)))])) T6
theorem IU {x:Nat}{k:List V}{bh:For}(h2:fr.lookup 2=some (.ref U.length))(Po:fr.lookup 15=some (iS x))(h16:fr.lookup 16=some (.tup k))(LP:fr.lookup 62=some (.list (bD gD)))(hz:bh.length+gD.length<900)(hk:k.length<50)(hl :∀f∈gD,f.length<50) :
  T6 fr (U++[.list (bD bh)])=.next fr (U++[.list (bD (bh++gD.map λjR=>.tup (.str [x]::k)::jR))]):=by
 have ec:bQ [16,15] (aA 64) (bl (ai 62)) none Zp fr (U++[.list (bD bh)])=.ok (.list (gD.map λjR=>.tup (.tup (.str [x]::k)::jR))) (U++[.list (bD bh)]):=by
  refine gy V.tup (λjR=>.tup (.tup (.str [x]::k)::jR)) gD ?_ (λf hf=>⟨_,rfl,?_⟩) (q6 ⋯ (by rfl))
  .exact kH (ao LP) rfl
  .have LJ :(aE (jO fr [16,15]) 64 (.tup f)).lookup 15=some (iS x):=b7 (by decide) (rl (fU (by decide) ..)<|Po)
   have Nc :(aE (jO fr [16,15]) 64 (.tup f)).lookup 16=some (.tup k):=b7 (by decide) (rl (fU (by decide) ..)<|h16)
   exact rR (a:=[.tup (.str [x]::k)]) (o5 (rR (o5 (rP (ao LJ))) (ao Nc) (by refine rl gC ?_;exact Yc ⋯ (by rfl)))) (ao (cV _ _ _)) (by refine rl gC ?_;have:=hl f hf;exact Yc ⋯ (by rfl))
 have:=t4 h2 ec (by unfold bD;refine rl (cJ ..)<|rl (cJ ..) ?_;exact q1 ⋯ (by rfl))
 unfold T6 bM cu;refine rl this ?_;unfold bD;exact rl List.map_append<|rl List.map_map rfl
theorem IV {x:Nat}(hl :∀f∈gD,f.length<50) :∀(ks bh jd:For) (fr:eY),fr.lookup 2=some (.ref U.length)->fr.lookup 15=some (iS x)->fr.lookup 62=some (.list (bD gD))->IT x gD ks bh=some jd->
  fk (λbC=>fM [16] fr bC) (λbC=>dJ (aA 16) T6 (bD ks) fr (U++[.list (bD bh)])=.next bC (U++[.list (bD jd)])):=by
 intro y
 induction y with
 |nil=>
  intro bh jd fr _ _ _ h;injection h with h;subst h;exact⟨fr,.refl,rfl⟩
 |cons k ks ih=>
  intro bh jd fr h2 Po LP h;by_cases hc:bh.length+gD.length<900/\k.length<50
  .replace h:=(ay hc).symm.trans h
   have K0:fM [16] fr (aE fr 16 (.tup k)):=.set _ _ (.head _);have e:=IU (U:=U) (K0.at h2 (by decide)) (K0.at Po (by decide)) (cV _ _ _) (K0.at LP (by decide)) hc.1 hc.2 hl;obtain⟨bC,K',e'⟩:=ih _ jd (aE fr 16 (.tup k)) (K0.at h2 (by decide)) (K0.at Po (by decide)) (K0.at LP (by decide)) h;exact⟨bC,K0.trans K',(dH rfl e).trans e'⟩
  .replace h:=(av hc).symm.trans h;injection h
section
variable {aO:Nat}
noncomputable def LX (aO L:Nat)(P:List (V×V)->bw)(r:List V->bw->Res V)(t s:Nat)(l:For):Prop:=
 (∀f∈l,f.length<50)/\V.cT (bD l)=true/\V.cw (bD l)<30/\∀az J,d7 L az->fk (λaJ=>d7 L aJ) (λaJ=>r [.ref aO,.tup (ef t),.int s] (P az++J)=.ok (.list (bD l)) (P aJ++J))
theorem jm (C:uo aO kd L ls P){m:Nat}{f g:ME V}{a b:V}(hm :∀a b c:V,([(53,a),(54,b),(31,c)]:List (Nat×V)).lookup m=none)(h:fr.lookup 10=some (.ref aO))(hf:f fr (P az)=.ok a (P az))(hg:g fr (P az)=.ok b (P az)) :
  ax 1 m r (ai 10) [f,g] fr (P az)=r [.ref aO,a,b] (P az):=by
 refine ua C hm h ?_;unfold aS aS aS;refine(bL hf).trans ?_;rw[ME.bind,ME.bind,hg];rfl
theorem Fc (C:hX aO kd L ls P)(hl :∀f∈gD,f.length<50)(hr :∀t s l,r' t s=some l->LX aO L P r t s l)(h1:1<=first) :
  ∀(xs:List Nat) (bh jd:For) (az:List (V×V)) (fr:eY),d7 L az->fr.lookup 10=some (.ref aO)->fr.lookup 2=some (.ref (P az++J).length)->fr.lookup 59=some (.int first)->fr.lookup 62=some (.list (bD gD))->B4 r' first gD xs bh=some jd->
  qT (λaJ bC=>d7 L aJ) (λaJ bC=>fM [15,16] fr bC) (λaJ bC=>dJ (aA 15) (Xy r) (xs.map iS) fr (P az++J++[.list (bD bh)])=.next bC (P aJ++J++[.list (bD jd)])):=by
 intro y
 induction y with
 |nil=>
  intro bh jd az fr I _ _ _ _ h;injection h with h;subst h;exact⟨az,fr,I,.refl,rfl⟩
 |cons x xs ih=>
  intro bh jd az fr I uk h2 Ii LP h;obtain⟨ks,q1,h⟩:=Option.bind_eq_some_iff.mp h;obtain⟨IW,q2,h⟩:=Option.bind_eq_some_iff.mp h;obtain⟨_,_,_,hs⟩:=hr _ _ _ q1;have K0:fM [15,16] fr (aE fr 15 (iS x)):=.set _ _ (.head _);have LJ :(aE fr 15 (iS x)).lookup 15=some (iS x):=cV _ _ _;have FA:aA 15 (iS x) fr=some (aE fr 15 (iS x)):=rfl;generalize aE fr 15 (iS x)=cA at K0 LJ FA;obtain⟨bA,I1,e1⟩:=hs az (J++[.list (bD bh)]) I;have ei:bl (ax 1 63 r (ai 10) [(dU 1 (ai 15)),(aU .Sub (ai 59) (ah (.int 1)))]) cA (P az++(J++[.list (bD bh)]))=.ok (bD ks) (P bA++(J++[.list (bD bh)])):=by
   have ha:=kh x;have e0:aU .Sub (ai 59) (ah (.int 1)) cA (P az++(J++[.list (bD bh)]))=.ok (.int ((first - 1:Nat):Int)) (P az++(J++[.list (bD bh)])):=by
    refine(bk (ao (K0.at Ii (by decide))) rfl).trans ?_;rw[show((first - 1:Nat):Int) =(first:Int) - 1 by exact X8 ⋯];rfl
   unfold bl;rw[ME.bind,jm (C _) (λ_ _ _=>rfl) (K0.at uk (by decide)) (kc (ao LJ) (by rw[fB];lia)) e0,e1];rfl
  rw[<- cW,<- cW] at ei;have hlen :(P bA++J).length =(P az++J).length:=by refine bY.trans ?_;exact rl bY<|rl (fA C az bA) rfl
  obtain⟨cH,K2,e2⟩:=IV (U:=P bA++J) (x:=x) hl ks bh IW cA (rl hlen<|K0.at h2 (by decide)) LJ (K0.at LP (by decide)) q2
  have K3:fM [15,16] fr cH:=K0.trans (K2.more λj hj=>.tail _ hj);have er:Xy r cA (P az++J++[.list (bD bh)])=.next cH (P bA++J++[.list (bD IW)]):=by
   exact iu ei e2
  obtain⟨du,ka,I3,K4,e3⟩:=ih IW jd bA cH I1 (K3.at uk (by decide)) (rl hlen<|K3.at h2 (by decide)) (K3.at Ii (by decide)) (K3.at LP (by decide)) h
  exact⟨du,ka,I3,K3.trans K4,(dH FA er).trans e3⟩
end
def SG (r:List V->bw->Res V):MS:=(aL (aB (aA 61) (BG (iE .Eq (bV .len [(ai 47)]) (ah (.int 1))) (iE .Gt (ax 1 57 (d4 30) (ai 10) [(iO 1 (ai 47)),(ai 59)]) (ah (.int 0)))))
 (aL (aB (aA 62) (rd (o9 (ai 61)) (ax 1 63 r (ai 10) [(dU 1 (ai 47)),(aU .Sub (ai 34) (ai 59))]) (cZ [])))
 (fw (bx .NotEq (ai 62) (cZ [])) (df (aA 15) (bl (ax 3 56 c8 (bc 1 53 (ai 10)) [(cv (ai 47) (ah (.int 0)))])) (Xy r)) bF)))
theorem dD {f g:ME V}{a b:V}{c:Bool}(hf:f fr U=.ok a bq)(hg:g fr bq=.ok b bU)(h:ig op a b bU=some c):bx op f g fr U=.ok c bU/\iE op f g fr U=.ok (.bool c) bU:=by
 unfold bx iE;rw[ME.bind,hf,aC,ME.bind,hg,aC,h,ME.bind,hf,aC,ME.bind,hg,aC,h];exact⟨rfl,rfl⟩
theorem Pt {l:For}(hp:V.cT (bD l)=true)(hd:V.cw (bD l)<30):ig .NotEq (.list (bD l)) (.list []) U=some (decide (l≠[])):=by
 have f1:flat U (.list (bD l))=some (.list (bD l)):=by unfold flat;dsimp only;exact rl (ay (show V.plain (.list (bD l))=true from hp)) rfl
 have h1:V.depth (.list (bD l))<=64:=by show V.cw (bD l)+1<=64;exact q1 ⋯ (by rfl)
 have e:J0 (.list (bD l)) (.list []) U=some (V.beq (.list (bD l)) (.list [])):=by
  unfold J0;refine rl f1 ?_;show(if decide (V.depth (.list (bD l))<=64)&&true then some (V.beq (.list (bD l)) (.list [])) else .none)=_;exact rl (bN h1) rfl
 show(J0 (.list (bD l)) (.list []) U).map (!·)=_;refine rl e ?_
 cases l with
 |nil=>rfl
 |cons a r=>rfl
section
variable {aO:Nat}
theorem IX (C:hX aO kd L ls P){t:Nat}(I:d7 L az)(uk:fr.lookup 10=some (.ref aO))(EM:fr.lookup 47=some (.tup (ef (t+1))))(Ii:fr.lookup 59=some (.int first))(ht:t<=12)(hf:first<=12) :
  fk (λaJ=>d7 L aJ) (λaJ=>BG (iE .Eq (bV .len [(ai 47)]) (ah (.int 1))) (iE .Gt (ax 1 57 (d4 30) (ai 10) [(iO 1 (ai 47)),(ai 59)]) (ah (.int 0))) fr (P az++J)=.ok (.bool (decide (t+1=1\/0<fo L first 1))) (P aJ++J)):=by
 have e1:iE .Eq (bV .len [(ai 47)]) (ah (.int 1)) fr (P az++J)=.ok (.bool (decide (t+1=1))) (P az++J):=by
  refine(dD (rM (ao EM) (by rw[fB];exact X9 ⋯ (by rfl))) rfl ?_).2;rw[fB];show some (decide (((t+1:Nat):Int)=1))=_;congr 1;exact decide_eq_decide.mpr (Vs)
 by_cases h:t+1=1
 .refine⟨az,I,?_⟩
  rw[bN (.inl h)];unfold BG;rw[ME.bind,e1,bN h];rfl
 .obtain⟨aJ,I',e2⟩:=t9 (C J) (u:=1) (n:=first) (Nat.le_of_ble_eq_true rfl) hf I
  refine⟨aJ,I',?_⟩;have eu:iO 1 (ai 47) fr (P az++J)=.ok (.tup (ef 1)) (P az++J):=by
   have ez:cE (ef (t+1)).length=true:=bN (by rw[fB];exact q2 ⋯ (by rfl));unfold iO;rw[ME.bind,ao EM];show Res.cO (if cE (ef (t+1)).length then some (V.tup ((ef (t+1)).take 1)) else .none) _=_;rw[ay ez];rfl
  have e3:iE .Gt (ax 1 57 (d4 30) (ai 10) [(iO 1 (ai 47)),(ai 59)]) (ah (.int 0)) fr (P az++J)=.ok (.bool (decide (0<fo L first 1))) (P aJ++J):=by
   refine(dD ((jm (C J) (λ_ _ _=>rfl) uk eu (ao Ii)).trans e2) rfl ?_).2;show some (decide ((fo L first 1:Int) > 0))=_;congr 1;exact decide_eq_decide.mpr (Int.natCast_pos)
  unfold BG;rw[ME.bind,e1,cI h,aC];show iE .Gt _ _ fr (P az++J)=_;refine e3.trans ?_;rw[show decide (t+1=1\/0<fo L first 1)=decide (0<fo L first 1) from decide_eq_decide.mpr ⟨λq=>q.resolve_left h,.inr⟩]
theorem LY (C:hX aO kd L ls P){t s:Nat}{bh jd:For}(hr :∀t s l,r' t s=some l->LX aO L P r t s l)(h1:1<=first)(hf:first<=s)(hs:s<=11)(ht:t<=12)(I:d7 L az)(uk:fr.lookup 10=some (.ref aO))(EM:fr.lookup 47=some (.tup (ef (t+1))))(Qe:fr.lookup 34=some (.int s))(h2:fr.lookup 2=some (.ref (P az++J).length))(Ii:fr.lookup 59=some (.int first))(h:Ng L ls r' (t+1) s first bh=some jd) :
  qT (λaJ bC=>d7 L aJ) (λaJ bC=>fM [15,16,61,62] fr bC) (λaJ bC=>SG r fr (P az++J++[.list (bD bh)])=.next bC (P aJ++J++[.list (bD jd)])):=by
 obtain⟨gD,q1,h⟩:=Option.bind_eq_some_iff.mp h;rw[Nat.add_sub_cancel] at q1;obtain⟨bA,I1,e1⟩:=IX C (J:=J++[.list (bD bh)]) I uk EM Ii ht (Yp ⋯ ⋯ (by rfl));rw[<- cW,<- cW] at e1;have s1:aB (aA 61) (BG (iE .Eq (bV .len [(ai 47)]) (ah (.int 1))) (iE .Gt (ax 1 57 (d4 30) (ai 10) [(iO 1 (ai 47)),(ai 59)]) (ah (.int 0)))) fr (P az++J++[.list (bD bh)])=.next (aE fr 61 (.bool (decide (t+1=1\/0<fo L first 1)))) (P bA++J++[.list (bD bh)]):=by
  exact dT e1
 have K1:fM [15,16,61,62] fr (aE fr 61 (.bool (decide (t+1=1\/0<fo L first 1)))):=.set _ _ (by decide);have Zq:=cV fr 61 (.bool (decide (t+1=1\/0<fo L first 1)));generalize aE fr 61 (.bool (decide (t+1=1\/0<fo L first 1)))=cA at s1 K1 Zq;have et :∀U,o9 (ai 61) cA U=.ok (decide (t+1=1\/0<fo L first 1)) U:=λU=>by
  unfold o9;rw[ME.bind,ao Zq];rfl
 have key:Sl (λdu=>d7 L du) (λdu=>(∀f∈gD,f.length<50)) (λdu=>V.cT (bD gD)=true) (λdu=>V.cw (bD gD)<30) (λdu=>rd (o9 (ai 61)) (ax 1 63 r (ai 10) [(dU 1 (ai 47)),(aU .Sub (ai 34) (ai 59))]) (cZ []) cA (P bA++J++[.list (bD bh)])=.ok (.list (bD gD)) (P du++J++[.list (bD bh)])):=by
  by_cases hc:t+1=1\/0<fo L first 1
  .rw[ay hc] at q1
   obtain⟨p1,p2,p3,hs⟩:=hr _ _ _ q1;obtain⟨du,I2,e2⟩:=hs bA (J++[.list (bD bh)]) I1;refine⟨du,I2,p1,p2,p3,?_⟩;unfold rd;rw[ME.bind,et,bN hc,aC,ay rfl,cW,cW,<- e2];refine jm (C _) (λ_ _ _=>rfl) (K1.at uk (by decide)) (kc (x:=.int 0) (ao (K1.at EM (by decide))) (by refine rl (fB ..) ?_;exact q2 ⋯ (by rfl))) ?_;rw[bk (ao (K1.at Qe (by decide))) (ao (K1.at Ii (by decide))),show((s - first:Nat):Int) =(s:Int) - first by exact X8 ⋯];rfl
  .rw[av hc] at q1
   injection q1 with q1;subst q1;refine⟨bA,I1,(λ_ z=>nomatch z),rfl,by decide,?_⟩;unfold rd;rw[ME.bind,et,cI hc];rfl
 obtain⟨du,I2,p1,p2,p3,e2⟩:=key;have s2:aB (aA 62) (rd (o9 (ai 61)) (ax 1 63 r (ai 10) [(dU 1 (ai 47)),(aU .Sub (ai 34) (ai 59))]) (cZ [])) cA (P bA++J++[.list (bD bh)])=.next (aE cA 62 (.list (bD gD))) (P du++J++[.list (bD bh)]):=by
  exact dT e2
 have K2:fM [15,16,61,62] fr (aE cA 62 (.list (bD gD))):=K1.trans (.set _ _ (by decide));have uq:=cV cA 62 (.list (bD gD));generalize aE cA 62 (.list (bD gD))=cH at s2 K2 uq;have e3:=(dD (op:=.NotEq) (f:=ai 62) (g:=cZ []) (U:=P du++J++[.list (bD bh)]) (ao uq) rfl (Pt p2 p3)).1;have hlen :(P du++J).length =(P az++J).length:=rl bY<|rl bY<|rl (fA C az du) rfl
 unfold SG;refine rl (aK s1)<|rl (aK s2)<|rl (fQ e3) ?_
 by_cases hn:gD=[]
 .rw[ay hn] at h
  injection h with h;subst h;exact rl (cI (λz=>z hn))<|⟨du,cH,I2,K2,rfl⟩
 .rw[av hn] at h
  refine rl (bN hn)<|rl (ay rfl) ?_
  have en:=Af (C (J++[.list (bD bh)])) (az:=du) (K2.at uk (by decide)) (K2.at (v:=.tup (.int 0::ef t)) EM (by decide));rw[Ad (C []).zU,<- cW] at en;obtain⟨Xz,ka,I3,K3,e4⟩:=Fc C (J:=J) p1 hr h1 (ls++[112]) bh jd du cH I2 (K2.at uk (by decide)) (rl hlen<|K2.at h2 (by decide)) (K2.at Ii (by decide)) uq h
  refine⟨Xz,ka,I3,K2.trans (K3.more (by decide)),?_⟩;exact iu en e4
end
theorem uc :∀{vs:List V} {v:V},V.cT vs=true->v∈vs->V.plain v=true:=by
 intro y
 induction y with
 |nil=>intros;first |contradiction | (injection ‹_=some _›)
 |cons u vs ih=>
  intro v h hm;obtain⟨h1,h2⟩:=cM h;rcases b8 hm with rfl |hm
  .exact h1
  .exact ih h2 hm
theorem ud :∀{vs:List V} {v:V},v∈vs->V.depth v<=V.cw vs:=by
 intro y
 induction y with
 |nil=>intros;first |contradiction | (injection ‹_=some _›)
 |cons u vs ih=>
  intro v hm;rcases b8 hm with rfl |hm
  .exact Nat.le_max_left _ _
  .exact bP (ih hm) (Nat.le_max_right _ _)
theorem Fd :∀(f:Nat) (v:V),V.plain v=true->V.depth v<f->gQ f U n v=some v:=by
 intro y
 induction y with
 |zero=>
  intro _ _ h;exact absurd h (Nat.not_lt_zero _)
 |succ f ih=>
  intro v hp hd;have key :∀us:List V,V.cT us=true->V.cw us+1<f+1->jK (gQ f U n) us=some us:=λus h1 h2=>kI us λu hu=>ih u (uc h1 hu) (by have:=ud hu;exact q50 ⋯ ⋯)
  cases v with
  |tup us=>exact aP (Option.map V.tup) (key us hp hd)
  |list us=>exact aP (Option.map V.list) (key us hp hd)
  |ref i=>injection hp
  |_=>rfl
section
variable {aO:Nat}
noncomputable def kW (i:Nat):V:=.int ((i+1:Nat):Int)
theorem B6 (C:hX aO kd L ls P){t s:Nat}(hr :∀t s l,r' t s=some l->LX aO L P r t s l)(hs:s<=11)(ht:t<=12) :
  ∀(is:List Nat) (bh jd:For) (az:List (V×V)) (fr:eY),(∀i∈is,i+1<=s)->d7 L az->fr.lookup 10=some (.ref aO)->fr.lookup 47=some (.tup (ef (t+1)))->fr.lookup 34=some (.int s)->fr.lookup 2=some (.ref (P az++J).length)->xP L ls r' (t+1) s is bh=some jd->
  qT (λaJ bC=>d7 L aJ) (λaJ bC=>fM [15,16,61,62,59] fr bC) (λaJ bC=>dJ (aA 59) (SG r) (is.map kW) fr (P az++J++[.list (bD bh)])=.next bC (P aJ++J++[.list (bD jd)])):=by
 intro y
 induction y with
 |nil=>
  intro bh jd az fr _ I _ _ _ _ h;injection h with h;subst h;exact⟨az,fr,I,.refl,rfl⟩
 |cons i is ih=>
  intro bh jd az fr hi I uk EM Qe h2 h;obtain⟨IW,q1,h⟩:=Option.bind_eq_some_iff.mp h;have K0:fM [15,16,61,62,59] fr (aE fr 59 (kW i)):=.set _ _ (by decide);have Sx:=cV fr 59 (kW i);have FA:aA 59 (kW i) fr=some (aE fr 59 (kW i)):=rfl;generalize aE fr 59 (kW i)=cA at K0 Sx FA;obtain⟨bA,cH,I1,K1,e1⟩:=LY C (J:=J) hr (Nat.le_add_left 1 i) (hi i (.head _)) hs ht I (K0.at uk (by decide)) (K0.at EM (by decide)) (K0.at Qe (by decide)) (K0.at h2 (by decide)) Sx q1;have K2:fM [15,16,61,62,59] fr cH:=K0.trans (K1.more (by decide));obtain⟨du,ka,I3,K3,e3⟩:=ih IW jd bA cH (λj hj=>hi j (.tail _ hj)) I1 (K2.at uk (by decide)) (K2.at EM (by decide)) (K2.at Qe (by decide)) (by rw[bY,fA C az bA,<- bY];exact K2.at h2 (by decide)) h;exact⟨du,ka,I3,K2.trans K3,(dH FA e1).trans e3⟩
theorem B7 {s t:Nat}(h:t<=s):d9 1 ((s:Int) - t+2) 1 =(List.range (s+1 - t)).map kW:=by
 rw[oU,show((s:Int) - t+2 - 1).toNat=s+1 - t by exact Z0];refine List.map_congr_left λi _=>?_;unfold kW;rw[show 1+(i:Int) * 1 =((i+1:Nat):Int) by exact S9]
def T7:MS:=fw (bx .Eq (ax 1 57 (d4 30) (ai 10) [(ai 47),(ai 34)]) (ah (.int 0))) (cp (cZ [])) bF
def Zr:MS:=fw (bx .Eq (bV .len [(ai 47)]) (ah (.int 0))) (cp (cZ [(bj [])])) bF
def XA:ME (List V):=(iZ (ah (.int 1)) (aU .Add (aU .Sub (ai 34) (bV .len [(ai 47)])) (ah (.int 2))))
def Zs (r:List V->bw->Res V):MS:=aL (aB (aA 2) (dj [])) (aL (df (aA 59) XA (SG r)) (cp (ai 2)))
def B8 (aO t s:Nat):eY:=[(10,.ref aO),(47,.tup (ef t)),(34,.int s)]
theorem lY (r:List V->bw->Res V)(aO t s:Nat)(U:bw):cy [10,47,34] (j7 r) [.ref aO,.tup (ef t),.int s] U=dB (aL T7 (aL Zr (Zs r)) (B8 aO t s) U):=rfl
theorem Fe (C:hX aO kd L ls P) :∀(d t s:Nat) (l:For),LW L ls d t s=some l->LX aO L P (gj d) t s l:=by
 intro y
 induction y with
 |zero=>
  intro t s l h;exact nomatch h
 |succ d ih=>
  intro t s l h;by_cases hb:11<s\/12<t
  .replace h:=(ay hb).symm.trans h;cases h
  replace h:=(av hb).symm.trans h;have hs:s<=11:=q92 ⋯;have ht:t<=12:=q93 ⋯;have XB :∀az J,d7 L az->fk (λbA=>d7 L bA) (λbA=>bx .Eq (ax 1 57 (d4 30) (ai 10) [(ai 47),(ai 34)]) (ah (.int 0)) (B8 aO t s) (P az++J)=.ok (decide (fo L s t=0)) (P bA++J)):=λaz J I=>by
   obtain⟨bA,I1,e1⟩:=t9 (C J) (u:=t) (n:=s) (q3 ⋯ (by rfl)) (Nat.le_succ_of_le hs) I;refine⟨bA,I1,(dD ((jm (C J) (λ_ _ _=>rfl) rfl rfl rfl).trans e1) rfl ?_).1⟩;show some (decide ((fo L s t:Int)=0))=_;congr 1;exact decide_eq_decide.mpr (Int.ofNat_eq_zero)
  by_cases h0:fo L s t=0
  .replace h:=(ay h0).symm.trans h
   injection h with h;subst h;refine⟨(λ_ z=>nomatch z),rfl,by decide,λaz J I=>?_⟩;obtain⟨bA,I1,e1⟩:=XB az J I;rw[bN h0] at e1;refine⟨bA,I1,?_⟩;have ec:cy [10,47,34] (j7 (gj d)) [.ref aO,.tup (ef t),.int s] (P az++J)=.ok (.list []) (P bA++J++[]):=by
    have:T7 (B8 aO t s) (P az++J)=.ret (.list []) (P bA++J):=(fQ e1).trans rfl;rw[lY,rI this,List.append_nil];rfl
   show uP _ _=_;rw[ec];exact oX C I1 rfl
  replace h:=(av h0).symm.trans h
  cases t with
  |zero=>
   injection h with h;subst h;refine⟨(λf z=>by cases dM z;decide),rfl,by decide,λaz J I=>?_⟩;obtain⟨bA,I1,e1⟩:=XB az J I;rw[cI h0] at e1;refine⟨bA,I1,?_⟩;have ec:cy [10,47,34] (j7 (gj d)) [.ref aO,.tup (ef 0),.int s] (P az++J)=.ok (.list [.tup []]) (P bA++J++[]):=by
    have:T7 (B8 aO 0 s) (P az++J)=.next (B8 aO 0 s) (P bA++J):=(fQ e1).trans rfl;rw[lY,aK this,List.append_nil];rfl
   show uP _ _=_;rw[ec];exact oX C I1 rfl
  |succ t=>
   replace h:=(av (Nat.succ_ne_zero t)).symm.trans h;obtain⟨l',q,h⟩:=Option.bind_eq_some_iff.mp h;by_cases hc:SE l'=true
   .replace h:=(ay hc).symm.trans h
    cases h;obtain⟨hc,c3⟩:=cM hc;obtain⟨c1,c2⟩:=cM hc;have c2:=Nat.blt_eq.mp c2;refine⟨λf hf=>Nat.blt_eq.mp (List.all_eq_true.mp c3 f hf),c1,c2,λaz J I=>?_⟩;obtain⟨bA,I1,e1⟩:=XB az J I;rw[cI h0] at e1;have OB:t+1<=s:=by
     by_cases z:s<t+1
     .exact absurd (rF L s (t+1) z) h0
     .exact Nat.le_of_not_lt z
    have s1:T7 (B8 aO (t+1) s) (P az++J)=.next (B8 aO (t+1) s) (P bA++J):=(fQ e1).trans rfl;have el :∀fr U,List.lookup 47 fr=some (.tup (ef (t+1)))->bV .len [(ai 47)] fr U=.ok (.int ((t+1:Nat):Int)) U:=λfr U z=>by
     refine(rM (ao z) (by rw[fB];exact VD ⋯ ⋯ (by rfl))).trans ?_;rw[fB]
    have s2:Zr (B8 aO (t+1) s) (P bA++J)=.next (B8 aO (t+1) s) (P bA++J):=by
     have:=(dD (op:=.Eq) (g:=ah (.int 0)) (c:=false) (el (B8 aO (t+1) s) (P bA++J) rfl) rfl (by show some (decide (((t+1:Nat):Int)=0))=_;rw[cI (PyProof.Rows.bi_ine.mp rfl)])).1;exact(fQ this).trans rfl
    obtain⟨du,cH,I2,K2,e2⟩:=B6 C (J:=J) (r:=gj d) (ih) hs (Nat.le_of_succ_le ht) (List.range (s+1 - (t+1))) [] l bA ((2,.ref (P bA++J).length)::B8 aO (t+1) s) (λi hi=>by have:=List.mem_range.mp hi;exact UO OB this) I1 rfl rfl rfl rfl q;have er:XA ((2,.ref (P bA++J).length)::B8 aO (t+1) s) (P bA++J++[.list (bD [])])=.ok ((List.range (s+1 - (t+1))).map kW) (P bA++J++[.list (bD [])]):=by
     have eb:aU .Add (aU .Sub (ai 34) (bV .len [(ai 47)])) (ah (.int 2)) ((2,.ref (P bA++J).length)::B8 aO (t+1) s) (P bA++J++[.list (bD [])])=.ok (.int ((s:Int) - (t+1:Nat)+2)) (P bA++J++[.list (bD [])]):=
      (bk ((bk (ao rfl) (el _ _ rfl)).trans rfl) rfl).trans rfl
     have es:g7 ((s:Int) - (t+1:Nat)+2)=true:=bN (UN hs OB);rw[<- B7 OB];exact pT rfl eb rfl es
    have s4:df (aA 59) XA (SG (gj d)) ((2,.ref (P bA++J).length)::B8 aO (t+1) s) (P bA++J++[.list (bD [])])=.next cH (P du++J++[.list (bD l)]):=by
     exact iu er e2
    have xg :(P bA++J).length =(P az++J).length:=by refine bY.trans ?_;rw[bY,fA C az bA]
    have Ap :(P du++J).length =(P az++J).length:=by refine bY.trans ?_;rw[bY,fA C az du]
    have ec:cy [10,47,34] (j7 (gj d)) [.ref aO,.tup (ef (t+1)),.int s] (P az++J)=.ok (.ref (P az++J).length) (P du++J++[.list (bD l)]):=by
     rw[lY,aK s1,aK s2];unfold Zs;rw[aK (f:=aB (aA 2) (dj [])) (bC:=((2,.ref (P bA++J).length)::B8 aO (t+1) s)) (bB:=P bA++J++[.list (bD [])]) rfl,aK s4];unfold cp cu;rw[ao (K2.at rfl (by decide)),xg];rfl
    refine⟨du,I2,?_⟩;show uP _ _=_;rw[ec];refine oX C I2 ?_;have hb:Nat.blt (P az++J).length (P az++J).length=false:=by cases z:Nat.blt (P az++J).length (P az++J).length with |false=>rfl |true=>have:=Nat.blt_eq.mp z;lia
    show(if Nat.blt (P az++J).length (P az++J).length then some (V.ref (P az++J).length) else match (P du++J++[.list (bD l)])[(P az++J).length]? with |some (O.list us)=>(jK (gQ 39 (P du++J++[O.list (bD l)]) (P az++J).length) us).map V.list |_=>Option.none)=_
    rw[hb,<- Ap,f7];show(jK (gQ 39 _ _) (bD l)).map V.list=_;rw[kI (bD l) λv hv=>Fd 39 v (uc c1 hv) (by have:=ud hv;exact Ym ⋯ ⋯ (by rfl))];rfl
   .replace h:=(av hc).symm.trans h;injection h
end
noncomputable def SH:T->Bool
 |.leaf l=>!Nat.beq l 112
 |.node a b=>SH a&&SH b
theorem Pu :∀t:T,SH t=true->EZ t:=by
 intro y
 induction y with
 |leaf l=>
  intro h;exact λz=>by subst z;injection h
 |node a b wu p7=>
  intro h;exact⟨wu (cM h).1,p7 (cM h).2⟩
def o6 (ls:List Nat)(n k:Nat):T:=(gm (aX ls n 1 k)).headD (.leaf 0)
def kQ (ls:List Nat)(n:Nat):List V:=(List.range (fo ls.length n 1)).map λk=>aR (o6 ls n k)
def Ff (l:For):List T:=l.map λf=>B5 (f.headD .none)
def XC (ls:List Nat)(n:Nat)(l:For):Bool:=V.yd (bD l) (bD ((Ff l).map λt=>[aR t]))&&(Ff l).all (λt=>SH t&&Nat.blt t.pre.length 16)&&Nat.blt (Ff l).length 64&&
 (match lM ((Ff l).map E2) with
 |some p=>V.yd (p.map λi=>((Ff l).map aR).getD i .none) (kQ ls n)
 |.none=>false)
def LZ (ls:List Nat)(n:Nat):Bool:=match LW ls.length ls 30 1 n with
 |some l=>XC ls n l
 |.none=>false
theorem Dk {a b:List V}(h:V.yd a b=true):a=b:=by
 have:=(V.beq_iff (.list a) (.list b)).mp h;injection this
theorem IY :∀(ts:List T) (bh:List V),(∀t∈ts,SH t=true/\t.pre.length<16)->tA gJ (ts.map aR) U bh=.ok (bh++ts.map E2) U:=by
 intro y
 induction y with
 |nil=>
  intro bh _;rw[List.map_nil,List.map_nil,List.append_nil];rfl
 |cons t ts ih=>
  intro bh h;obtain⟨h1,h2⟩:=h t (.head _);have e:=wx (U:=U) (Pu t h1) (q1 ⋯ (by rfl)) (by have:=z9 t;exact Yj ⋯ ⋯);refine rl List.map_cons ?_;unfold tA;refine rl e ?_;dsimp only;refine(ih _ λu hu=>h u (.tail _ hu)).trans ?_;exact rl (cW ..) rfl
section
variable {aO:Nat}
def XD:ME Bool:=bx .Gt (ax 1 50 dS (ai 10) [(ai 41),(ai 34)]) (ah (.int 10000))
def T8:ME V:=bQ [] (aA 16) (bl (ax 1 63 (gj 30) (ai 10) [(bj [(ax 3 25 bR (bc 1 53 (ai 10)) [(ai 41)])]),(ai 34)])) none (cv (ai 16) (ah (.int 0)))
noncomputable def Nh (aO n:Nat):eY:=[(10,.ref aO),(41,.int 0),(34,.int n)]
theorem Dl (aO n:Nat)(U:bw):hM [.ref aO,.int 0,.int n] U=dB (aL (fw XD (kq 4) bF) (cp (j3 T8 gJ)) (Nh aO n) U):=rfl
theorem Dm {v:Int}(hg:lX aO U)(e:dS [.ref aO,.int 0,.int n] U=.ok (.int v) bB):XD (Nh aO n) U=.ok (decide (v > 10000)) bB:=by
 obtain⟨x,y,z,hg⟩:=hg;exact(dD ((jl hg (λ_ _ _=>rfl) rfl rfl).trans e) rfl rfl).1
theorem ue {v:Int}(hg:lX aO U)(e:dS [.ref aO,.int 0,.int n] U=.ok (.int v) bB)(hm:v > 10000):hM [.ref aO,.int 0,.int n] U=.exc 4 bB:=by
 refine rl (Dl ..) ?_;unfold aL;exact rl (fQ (Dm hg e))<|rl (bN hm) rfl
theorem Fg (C:hX aO kd L ls P)(hg:lX aO U)(e:dS [.ref aO,.int 0,.int n] U=.ok (.int (fo L n 1:Nat)) (P bA++J))(I1:d7 L bA)(hm:fo L n 1<=10000)(hc:LZ ls n=true):fk (λaJ=>d7 L aJ) (λaJ=>hM [.ref aO,.int 0,.int n] U=.ok (.list (kQ ls n)) (P aJ++J)):=by
 have e1:=Dm hg e;rw[cI (VI ⋯)] at e1;unfold LZ at hc;rw[(C []).hL] at hc
 cases hs:LW L ls 30 1 n with
 |none=>rw[hs] at hc;injection hc
 |some l=>
  rw[hs] at hc;obtain⟨_,_,_,hsp⟩:=Fe C 30 1 n l hs;obtain⟨du,I2,e2⟩:=hsp bA J I1;obtain⟨hc,c4⟩:=cM hc;obtain⟨hc,c3⟩:=cM hc;obtain⟨c1,c2⟩:=cM hc;have c3:=Nat.blt_eq.mp c3;rw[Dk c1] at e2;generalize Ff l=ts at c1 c2 c3 c4 e2;have el:T8 (Nh aO n) (P bA++J)=.ok (.list (ts.map aR)) (P du++J):=by
   have ei:bl (ax 1 63 (gj 30) (ai 10) [(bj [(ax 3 25 bR (bc 1 53 (ai 10)) [(ai 41)])]),(ai 34)]) (Nh aO n) (P bA++J)=.ok (ts.map λt=>.tup [aR t]) (P du++J):=by
    have eh:=pV (C J) (fr:=Nh aO n) (az:=bA) (i:=41) (c:=0) rfl rfl ((C J).wj bA);unfold bl;rw[ME.bind,jm (C J) (λ_ _ _=>rfl) rfl (o5 eh) (ao rfl),show [V.int 0]=ef 1 from rfl,e2];show Res.ok (bD (ts.map λt=>[aR t])) _=_;unfold bD;exact rl List.map_map rfl
   unfold T8 bQ;exact rl ei<|rl (aC ..)<|rl (z8 (λt=>.tup [aR t]) aR ts [] (λt _=>⟨_,rfl,rP (ao (cV _ _ _))⟩) (by rw[List.length_nil];exact Vt c3)) rfl
  have ek:=IY (U:=P du++J) ts [] λt ht=>by
   obtain⟨h1,h2⟩:=cM (List.all_eq_true.mp c2 t ht);exact⟨h1,Nat.blt_eq.mp h2⟩
  rw[List.nil_append] at ek
  cases hp:lM (ts.map E2) with
  |none=>rw[hp] at c4;injection c4
  |some p=>
   rw[hp] at c4;have c4:=Dk c4;have es:j3 T8 gJ (Nh aO n) (P bA++J)=.ok (.list (kQ ls n)) (P du++J):=by
    refine(bL el).trans ?_;show tB gJ (ts.map aR) (P du++J)=_;refine(ay (rl (cJ ..)<|c3)).trans ?_;refine rl ek<|rl (aC ..)<|rl hp ?_
    show Res.ok (V.list (p.map λi=>(ts.map aR).getD i .none)) _=_;exact rl c4 rfl
   refine⟨du,I2,?_⟩;have e0:fw XD (kq 4) bF (Nh aO n) U=.next (Nh aO n) (P bA++J):=(fQ e1).trans rfl;exact rl (Dl ..)<|rl (aK e0)<|rJ (ir es)
end
noncomputable abbrev kV (t n:Int):V:=.tup [.int t,.int n]
def o7 (L:Nat)(n t:Nat)(D:List (V×V)):Option (List (V×V)):=match (cn D (kV ((t:Int)+1) ((n:Int) - 1))).getD (.int 0),(cn D (kV ((t:Int) - 1) ((n:Int) - 1))).getD (.int 0) with
 |.int a,.int b=>if D.length<900 then some (gp D (kV t n) (.int ((L:Int) * b+a))) else none
 |_,_=>none
noncomputable def xQ (L n:Nat):List Nat->List (V×V)->Option (List (V×V))
 |[],D=>some D
 |i::is,D=>(o7 L n (i+1) D).bind (xQ L n is)
noncomputable def pZ (L:Nat):List Nat->List (V×V)->Option (List (V×V))
 |[],D=>some D
 |i::is,D=>(xQ L (i+1) (List.range 12) D).bind (pZ L is)
def FD (L:Nat):List (V×V):=(pZ L (List.range 11) [(kV 0 0,.int 1)]).getD []
theorem jn (a v:V)(r:List (V×V))(k:V):cn ((a,v)::r) k=if a=k then some v else cn r k:=by
 show(if V.beq a k=true then some v else cn r k)=_;by_cases h:a=k
 .rw[ay h,ay ((V.beq_iff _ _).mpr h)]
 .rw[av h,av λz=>h ((V.beq_iff _ _).mp z)]
theorem get_map {k k':V}(D:List (V×V)):cn (D.map λkv=>if V.beq kv.1 k then (kv.1,v) else kv) k'=if k=k' then (cn D k').map (λ_=>v) else cn D k':=by
 induction D with
 |nil=>exact(ite_self _).symm
 |cons kv r ih=>
  obtain⟨a,x⟩:=kv;rw[List.map_cons,jn a x r k'];by_cases h:a=k
  .rw[ay ((V.beq_iff _ _).mpr h),jn,ih];subst h
   by_cases h2:a=k'
   .rw[ay h2,ay h2,ay h2];rfl
   .simp only[if_neg h2]
  .rw[av (λz=>h ((V.beq_iff _ _).mp z)),jn,ih]
   by_cases h2:a=k'
   .rw[ay h2,ay h2,av (λz=>h (h2.trans z.symm))]
   .rw[av h2,av h2]
theorem L0 {k k':V}(h:k≠k')(D:List (V×V)):cn (D++[(k,v)]) k'=cn D k':=by
 induction D with
 |nil=>exact(jn k v [] k').trans (av h)
 |cons kv r ih=>exact(jn kv.1 kv.2 _ k').trans ((aP (λz=>if kv.1=k' then some kv.2 else z) ih).trans (jn kv.1 kv.2 r k').symm)
theorem xR (D:List (V×V))(k v k':V):cn (gp D k v) k'=if k=k' then some v else cn D k':=by
 cases e:cn D k with
 |none=>
  rw[tU e];by_cases h:k=k'
  .rw[ay h,<- h];exact zR e v
  .rw[av h];exact L0 h D
 |some x=>
  unfold gp;rw[ay (List.any_eq_true.mpr ⟨_,tS e,(V.beq_iff _ _).mpr rfl⟩),get_map];by_cases h:k=k'
  .rw[ay h,ay h,<- h,e];rfl
  .rw[av h,av h]
theorem L2 (D:List (V×V))(k v:V) :(gp D k v).length<=D.length+1:=by
 unfold gp;by_cases h :(D.any λkv=>V.beq kv.1 k)=true
 .rw[ay h,cJ];exact Nat.le_succ _
 .rw[av h,bY];exact Nat.le_refl _
theorem IZ {a b d:Nat}(h:a=c->b=d->False):kV a b≠kV c d:=λz=>by
 injection z with z;injection z with z1 z2;injection z1 with z1;injection z2 with z2;injection z2 with z2;exact h (Int.ofNat_inj.mp z1) (Int.ofNat_inj.mp z2)
theorem L4 {m:Nat}{D:List (V×V)}(R :∀a≤13,(cn D (kV (a:Nat) (m:Nat))).getD (.int 0)=.int (fo L m a:Nat))(hi:i<12)(hz:D.length<900) :
  o7 L (m+1) (i+1) D=some (gp D (kV (i+1:Nat) (m+1:Nat)) (.int (fo L (m+1) (i+1):Nat))):=by
 unfold o7;rw[show((m+1:Nat):Int) - 1=m from VA,show((i+1:Nat):Int) - 1=i from VA,show((i+1:Nat):Int)+1 =(i+2:Nat) from rfl,R (i+2) (Nat.add_le_add_right (Nat.le_of_lt_succ hi) 2),R i (Nat.le_of_lt (Nat.lt_succ_of_lt hi))];refine(ay hz).trans ?_;rw[rG L m (i+1) (Nat.succ_pos i)];rfl
theorem Pw {m:Nat}(is:List Nat) :∀(D:List (V×V)),(∀i∈is,i<12)->(∀a≤13,(cn D (kV (a:Nat) (m:Nat))).getD (.int 0)=.int (fo L m a:Nat))->D.length+is.length<900->
  ∃D',xQ L (m+1) is D=some D'/\D'.length<=D.length+is.length/\(∀a b:Nat,(b=m+1->∀i∈is,a≠i+1)->cn D' (kV a b)=cn D (kV a b))/\∀i∈is,cn D' (kV (i+1:Nat) (m+1:Nat))=some (.int (fo L (m+1) (i+1):Nat)):=by
 induction is with
 |nil=>exact λD _ _ _=>⟨D,rfl,Nat.le_refl _,λ_ _ _=>rfl,λi h=>nomatch h⟩
 |cons j js ih=>
  intro D hi R hz;have e:=L4 R (hi j (.head _)) (bO (Nat.le_add_right ..) hz);have TK :(gp D (kV (j+1:Nat) (m+1:Nat)) (.int (fo L (m+1) (j+1):Nat))).length+js.length<=D.length+(j::js).length:=bP (Nat.add_le_add_right (L2 ..) _) (Nat.le_of_eq (Nat.add_right_comm _ 1 js.length));obtain⟨D',e1,l1,k1,v1⟩:=ih _ (λi h=>hi i (.tail _ h)) (λa ha=>(aP (Option.getD · _) ((xR ..).trans (av (IZ λ_ z=>Nat.succ_ne_self m z)))).trans (R a ha)) (bO TK hz);refine⟨D',(aP (Option.bind · _) e).trans e1,bP l1 TK,λa b h=>(k1 a b λz i hm=>h z i (.tail _ hm)).trans ((xR ..).trans (av (IZ λz1 z2=>h z2.symm j (.head _) z1.symm))),λi hm=>?_⟩;by_cases hj:i∈js
  .exact v1 i hj
  .rcases b8 hm with rfl |h
   .exact(k1 _ _ λ_ x hx z=>hj (Nat.succ.inj (show i+1=x+1 from z)▸hx)).trans ((xR ..).trans (ay rfl))
   .exact absurd h hj
theorem Px (k:Nat) :∀(m:Nat) (D:List (V×V)),m+k<=11->(∀b≤m,∀a≤13,(cn D (kV (a:Nat) (b:Nat))).getD (.int 0)=.int (fo L b a:Nat))->(∀b,m<b->∀a:Nat,cn D (kV a (b:Nat))=none)->
  (∀b≤m,1<=b->cn D (kV (1:Nat) (b:Nat))=some (.int (fo L b 1:Nat)))->D.length+12 * k<900->
  ∃D',pZ L (List.range' m k) D=some D'/\(∀b≤m+k,∀a≤13,(cn D' (kV (a:Nat) (b:Nat))).getD (.int 0)=.int (fo L b a:Nat))/\∀b≤m+k,1<=b->cn D' (kV (1:Nat) (b:Nat))=some (.int (fo L b 1:Nat)):=by
 induction k with
 |zero=>exact λm D _ R _ O _=>⟨D,rfl,R,O⟩
 |succ k ih=>
  intro m D hm R N O hz;obtain⟨D1,e1,l1,k1,v1⟩:=Pw (List.range 12) D (λi h=>List.mem_range.mp h) (R m (Nat.le_refl m)) (bO (Nat.add_le_add_left (Nat.le_add_left 12 (12 * k)) _) hz);have DR:m+1+k<=11:=Nat.add_right_comm m 1 k▸hm;have new :∀a:Nat,a=0\/12<a->cn D1 (kV a (m+1:Nat))=none:=λa h=>(k1 a (m+1) λ_ i hi z=>by
   have:=List.mem_range.mp hi;exact h.elim (λh=>Nat.succ_ne_zero i (z.symm.trans h)) λh=>absurd (Nat.lt_of_lt_of_eq h z) (Nat.not_lt_of_le this)).trans (N (m+1) (Nat.lt_succ_self m) a)
  obtain⟨D',e2,R2,O2⟩:=ih (m+1) D1 DR (λb hb a ha=>by
    rcases Nat.lt_or_eq_of_le hb with h |rfl
    .rw[k1 a b λz=>absurd z (Nat.ne_of_lt h)];exact R b (Nat.le_of_lt_succ h) a ha
    .cases a with
     |zero=>rw[new 0 (.inl rfl),rE,av (Nat.succ_ne_zero m)];rfl
     |succ a=>
      rcases Nat.lt_or_eq_of_le ha with h |h
      .rw[v1 a (List.mem_range.mpr (Nat.lt_of_succ_lt_succ h))];rfl
      .rw[new _ (.inr (h▸Nat.lt_succ_self 12)),rF L (m+1) (a+1) (h▸bO (bP (Nat.le_add_right ..) DR) (by decide))];rfl)
   (λb hb a=>(k1 a b λz=>absurd z (Nat.ne_of_gt hb)).trans (N b (Nat.lt_of_succ_lt hb) a))
   (λb hb h1=>by
    rcases Nat.lt_or_eq_of_le hb with h |rfl
    .rw[k1 1 b λz=>absurd z (Nat.ne_of_lt h)];exact O b (Nat.le_of_lt_succ h) h1
    .exact v1 0 (List.mem_range.mpr (by decide)))
   (bO (bP (Nat.add_le_add_right l1 _) (Nat.le_of_eq ((Nat.add_assoc ..).trans (aP (D.length + ·) (Nat.add_comm ..))))) hz)
  rw[Nat.add_right_comm m 1 k] at R2 O2;exact⟨D',(aP (Option.bind · _) e1).trans e2,R2,O2⟩
theorem B9 (L:Nat):pZ L (List.range 11) [(kV 0 0,.int 1)]=some (FD L)/\(∀n≤11,∀t≤13,(cn (FD L) (kV (t:Nat) (n:Nat))).getD (.int 0)=.int (fo L n t:Nat))/\∀n≤11,1<=n->cn (FD L) (kV 1 (n:Nat))=some (.int (fo L n 1:Nat)):=by
 obtain⟨D',e,R,O⟩:=Px (L:=L) 11 0 [(kV 0 0,.int 1)] (Nat.le_refl _) (λb hb a ha=>by
   obtain rfl:=Nat.eq_zero_of_le_zero hb
   cases a with
   |zero=>rfl
   |succ a=>rfl)
  (λb hb a=>(jn _ _ _ _).trans (av (IZ (a:=0) (b:=0) λ_ z=>Nat.ne_of_lt hb z)))
  (λb hb h1=>absurd h1 (Nat.not_le_of_lt (Nat.lt_succ_of_le hb))) (by decide)
 rw[<- List.range_eq_range'] at e;have e0:FD L=D':=aP (Option.getD · []) e;rw[e0];exact⟨e,Nat.zero_add 11▸R,Nat.zero_add 11▸O⟩
theorem SI (L:Nat)(h:L∈[1,2,3]):pZ L (List.range 11) [(kV 0 0,.int 1)]=some (FD L):=(B9 L).1
theorem Py (L:Nat)(h:L∈[1,2,3]) :∀n<12,∀t<13,(cn (FD L) (kV (t:Nat) (n:Nat))).getD (.int 0)=.int (fo L n t:Nat):=λn hn t ht=>(B9 L).2.1 n (Nat.le_of_lt_succ hn) t (Nat.le_of_lt ht)
theorem I0 (L:Nat)(h:L∈[1,2,3]) :∀n<12,1<=n->cn (FD L) (kV 1 (n:Nat))=some (.int (fo L n 1:Nat)):=λn hn=>(B9 L).2.2 n (Nat.le_of_lt_succ hn)
theorem I4 {f:Nat}{e:ME V}{D:List (V×V)}{a b:Int}(hf:fr.lookup i=some (.ref f))(hF:U[f]? = some (O.dict .tup D))(he:e fr U=.ok (kV a b) U):ip ic pF (ai i) [e,(ah (.int 0))] fr U=.ok ((cn D (kV a b)).getD (.int 0)) U:=by
 have hd:gi U (.ref f)=some (f,.tup,D):=by unfold gi;dsimp only;rw[hF]
 have hi:ic U (.ref f)=true:=by unfold ic;rw[hd];rfl
 have hg:pF (.ref f) [kV a b,.int 0] U=some ((cn D (kV a b)).getD (.int 0),U):=by
  unfold pF vM;rw[hd];show(if DK.tup=.tup/\fu .tup (kV a b)=true then some ((cn D (kV a b)).getD (.int 0),U) else Option.none)=_;rw[ay ⟨rfl,rfl⟩]
 unfold ip;refine(bL (ao hf)).trans ((ay hi).trans ?_);unfold aS aS aS;rw[ME.bind,ME.bind,he,aC];show(match pF (.ref f) [kV a b,.int 0] U with |some (r,bB)=>Res.ok r bB |Option.none=>Res.stuck)=_
 rw[hg]
def lZ (op:Operator):ME V:=ip ic pF (ai 2) [(bj [(aU op (ai 73) (ah (.int 1))),(aU .Sub (ai 9) (ah (.int 1)))]),(ah (.int 0))]
def Ca:MS:=aL (aB (aA 72) (lZ .Add)) (eR (ai 2) (bj [(ai 73),(ai 9)]) (aU .Add (aU .Mult (ai 74) (lZ .Sub)) (ai 72)))
theorem I5 {t:Nat}{D D':List (V×V)}(h2:fr.lookup 2=some (.ref U.length))(Pn:fr.lookup 73=some (.int t))(h9:fr.lookup 9=some (.int n))(L6:fr.lookup 74=some (.int L))(hL:L<=3)(h:o7 L n t D=some D') :
  fk (λbC=>fM [72] fr bC) (λbC=>Ca fr (U++[O.dict .tup D])=.next bC (U++[O.dict .tup D'])):=by
 unfold o7 at h
 cases ha :(cn D (kV ((t:Int)+1) ((n:Int) - 1))).getD (.int 0) with
 |int a=>
  rw[ha] at h
  cases hb :(cn D (kV ((t:Int) - 1) ((n:Int) - 1))).getD (.int 0) with
  |int b=>
   rw[hb] at h;dsimp only at h;by_cases hz:D.length<900
   .replace h:=(ay hz).symm.trans h
    injection h with h;subst h;have K0:fM [72] fr (aE fr 72 (.int a)):=.set _ _ (.head _);have Zt:=cV fr 72 (.int a);have s1:aB (aA 72) (lZ .Add) fr (U++[O.dict .tup D])=.next (aE fr 72 (.int a)) (U++[O.dict .tup D]):=by
     unfold aB cu lZ;rw[I4 h2 (f7 _ _) (gO ((bk (op:=.Add) (ao Pn) rfl).trans rfl) ((bk (ao h9) rfl).trans rfl)),ha];rfl
    generalize aE fr 72 (.int a)=cA at K0 Zt s1;have e1:lZ .Sub cA (U++[O.dict .tup D])=.ok (.int b) (U++[O.dict .tup D]):=by
     unfold lZ;refine(I4 (K0.at h2 (by decide)) (f7 _ _) (gO ((bk (op:=.Sub) (ao (K0.at Pn (by decide))) rfl).trans rfl) ((bk (ao (K0.at h9 (by decide))) rfl).trans rfl))).trans ?_;rw[hb]
    have e2:aU .Mult (ai 74) (lZ .Sub) cA (U++[O.dict .tup D])=.ok (.int ((L:Int) * b)) (U++[O.dict .tup D]):=by
     refine(bk (ao (K0.at L6 (by decide))) e1).trans ?_;show(if (L:Int).natAbs<2 ^ 64\/b.natAbs<2 ^ 64 then Res.ok (V.int ((L:Int) * b)) _ else Res.stuck)=_;rw[ay (.inl (by rw[Int.natAbs_natCast];exact q2 ⋯ (by rfl)))]
    have e3:aU .Add (aU .Mult (ai 74) (lZ .Sub)) (ai 72) cA (U++[O.dict .tup D])=.ok (.int ((L:Int) * b+a)) (U++[O.dict .tup D]):=(bk e2 (ao Zt)).trans rfl;have e4:=gO (ao (U:=U++[O.dict .tup D]) (K0.at Pn (by decide))) (ao (K0.at h9 (by decide)));refine⟨cA,K0,?_⟩;have es:g8 (.ref U.length) (kV t n) (.int ((L:Int) * b+a)) (U++[O.dict .tup D])=some (U++[O.dict .tup (gp D (kV t n) (.int ((L:Int) * b+a)))]):=by
     have ez:cE D.length=true:=bN (q4 ⋯ (by rfl));unfold g8;dsimp only;rw[f7];show(if fu .tup (kV t n)&&cE D.length then some ((U++[O.dict .tup D]).set U.length (O.dict .tup (gp D (kV t n) (.int ((L:Int) * b+a))))) else Option.none)=_;rw[ez,mr];rfl
    unfold Ca;refine(aK s1).trans ?_;unfold eR cu;rw[e3];dsimp only;rw[ao (K0.at h2 (by decide))];dsimp only;rw[e4];dsimp only;rw[es]
   .replace h:=(av hz).symm.trans h;injection h
  |_=>rw[hb] at h;injection h
 |_=>rw[ha] at h;injection h
theorem L7 (hL:L<=3) :∀(is:List Nat) (D D':List (V×V)) (fr:eY),fr.lookup 2=some (.ref U.length)->fr.lookup 9=some (.int n)->fr.lookup 74=some (.int L)->xQ L n is D=some D'->
  fk (λbC=>fM [72,73] fr bC) (λbC=>dJ (aA 73) Ca (is.map kW) fr (U++[O.dict .tup D])=.next bC (U++[O.dict .tup D'])):=by
 intro y
 induction y with
 |nil=>
  intro D D' fr _ _ _ h;injection h with h;subst h;exact⟨fr,.refl,rfl⟩
 |cons i is ih=>
  intro D D' fr h2 h9 L6 h;obtain⟨D1,q,h⟩:=Option.bind_eq_some_iff.mp h;have K0:fM [72,73] fr (aE fr 73 (kW i)):=.set _ _ (by decide);obtain⟨cA,K1,e1⟩:=I5 (U:=U) (K0.at h2 (by decide)) (cV _ _ _) (K0.at h9 (by decide)) (K0.at L6 (by decide)) hL q;have K2:=K0.trans (K1.more (by decide));obtain⟨cH,K3,e2⟩:=ih D1 D' cA (K2.at h2 (by decide)) (K2.at h9 (by decide)) (K2.at L6 (by decide)) h;exact⟨cH,K2.trans K3,(dH rfl e1).trans e2⟩
def Cb (k:Nat):ME (List V):=iZ (ah (.int 1)) (aU .Add (ai 75) (ah (.int k)))
theorem Dn (h:fr.lookup 75=some (.int 11))(hk:k<9):Cb k fr U=.ok ((List.range (10+k)).map kW) U:=by
 have e:aU .Add (ai 75) (ah (.int k)) fr U=.ok (.int (11+k)) U:=(bk (ao h) rfl).trans rfl;have er:d9 1 (11+k) 1 =(List.range (10+k)).map kW:=by
  rw[oU,show(11+(k:Int) - 1).toNat=10+k by exact UD];refine List.map_congr_left λi _=>?_;unfold kW;rw[show 1+(i:Int) * 1 =((i+1:Nat):Int) by exact S9]
 rw[<- er];exact pT rfl e rfl (bN (UK hk))
theorem L8 (hL:L<=3) :∀(is:List Nat) (D D':List (V×V)) (fr:eY),fr.lookup 2=some (.ref U.length)->fr.lookup 75=some (.int 11)->fr.lookup 74=some (.int L)->pZ L is D=some D'->
  fk (λbC=>fM [72,73,9] fr bC) (λbC=>dJ (aA 9) (df (aA 73) (Cb 2) Ca) (is.map kW) fr (U++[O.dict .tup D])=.next bC (U++[O.dict .tup D'])):=by
 intro y
 induction y with
 |nil=>
  intro D D' fr _ _ _ h;injection h with h;subst h;exact⟨fr,.refl,rfl⟩
 |cons i is ih=>
  intro D D' fr h2 Zu L6 h;obtain⟨D1,q,h⟩:=Option.bind_eq_some_iff.mp h;have K0:fM [72,73,9] fr (aE fr 9 (kW i)):=.set _ _ (by decide);obtain⟨cA,K1,e1⟩:=L7 (U:=U) hL (List.range 12) D D1 (aE fr 9 (kW i)) (K0.at h2 (by decide)) (cV _ _ _) (K0.at L6 (by decide)) q;have er:df (aA 73) (Cb 2) Ca (aE fr 9 (kW i)) (U++[O.dict .tup D])=.next cA (U++[O.dict .tup D1]):=by
   exact iu (Dn (k:=2) (K0.at Zu (by decide)) (by decide)) e1
  have K2:=K0.trans (K1.more (by decide));obtain⟨cH,K3,e2⟩:=ih D1 D' cA (K2.at h2 (by decide)) (K2.at Zu (by decide)) (K2.at L6 (by decide)) h;exact⟨cH,K2.trans K3,(dH rfl er).trans e2⟩
theorem uf (hL:L∈[1,2,3]):gX [.int L,.int 11] U=.ok (.ref U.length) (U++[O.dict .tup (FD L)]):=by
 have KA:L<=3:=by revert L;decide
 obtain⟨bC,K,e⟩:=L8 (U:=U) KA (List.range 11) _ _ [(2,.ref U.length),(74,.int L),(75,.int 11)] rfl rfl rfl (SI L hL);have s1:aB (aA 2) (xu (bj [(ah (.int 0)),(ah (.int 0))]) (ah (.int 1))) [(74,.int L),(75,.int 11)] U=.next [(2,.ref U.length),(74,.int L),(75,.int 11)] (U++[O.dict .tup [(kV 0 0,.int 1)]]):=by
  have ep:He U.length (kV 0 0) (.int 1) (U++[O.dict .tup []])=some (U++[O.dict .tup [(kV 0 0,.int 1)]]):=by
   have hd:gi (U++[O.dict .tup []]) (.ref U.length)=some (U.length,.tup,[]):=by unfold gi;dsimp only;rw[f7]
   unfold He;rw[hd];show some ((U++[O.dict .tup []]).set U.length (O.dict .tup [(kV 0 0,.int 1)]))=_;rw[mr]
  have ed:xu (bj [(ah (.int 0)),(ah (.int 0))]) (ah (.int 1)) [(74,.int L),(75,.int 11)] U=.ok (.ref U.length) (U++[O.dict .tup [(kV 0 0,.int 1)]]):=by
   show(match He U.length (kV 0 0) (.int 1) (U++[O.dict .tup []]) with |some bB=>Res.ok (V.ref U.length) bB |Option.none=>Res.stuck)=_
   rw[ep]
  exact dT ed
 have s2:df (aA 9) (Cb 1) (df (aA 73) (Cb 2) Ca) [(2,.ref U.length),(74,.int L),(75,.int 11)] (U++[O.dict .tup [(kV 0 0,.int 1)]])=.next bC (U++[O.dict .tup (FD L)]):=by
  exact iu (Dn (k:=1) rfl (by decide)) e
 show dB (aL _ (aL (df (aA 9) (Cb 1) (df (aA 73) (Cb 2) Ca)) (cp (ai 2))) [(74,.int L),(75,.int 11)] U)=_;rw[aK s1,aK s2];exact rJ (ir (ao (K.at rfl (by decide))))
noncomputable def fC (js:List Int)(c:Int):O:=.list [.list (js.map .int),.int c]
def Zv:MS:=(eR (ai 71) (ah (.int 1)) (aU .Add (cv (ai 71) (ah (.int 1))) (ah (.int 1))))
def T9:ME Bool:=(bx .LtE (cv (ai 71) (ah (.int 1))) (bV .len [(cv (ai 71) (ah (.int 0)))]))
def SJ:ME V:=(cv (cv (ai 71) (ah (.int 0))) (aU .Sub (cv (ai 71) (ah (.int 1))) (ah (.int 1))))
def Zw:ME V:=(aU .FloorDiv (aU .Add (aU .Add (aU .Add (aU .Mult (aU .Mult (ah (.int 6)) (cv (ai 71) (ah (.int 1)))) (cv (ai 71) (ah (.int 1)))) (aU .Mult (ah (.int 7)) (cv (ai 71) (ah (.int 1))))) (ah (.int 5))) (aU .Mult (ah (.int 3)) (bV .len [(cv (ai 71) (ah (.int 0)))]))) (ah (.int 4)))
theorem I6 {f g:ME V}{a m:Int}(hf:f fr U=.ok (.int a) U)(hg:g fr U=.ok (.int m) U)(h0:0<m)(h1:m<1000000):O8 (λ(r:Int)=>0<=r) (λ(r:Int)=>r<m) (λ(r:Int)=>aU .Mod f g fr U=.ok (.int r) U):=by
 refine⟨a.fmod m,Int.fmod_nonneg_of_pos _ h0,Int.fmod_lt_of_pos _ h0,(bk hf hg).trans ?_⟩;show(if m≠0/\m.natAbs<2 ^ 30 then Res.ok (V.int (a.fmod m)) U else Res.stuck)=_;exact rl (ay ⟨Ne.symm (Int.ne_of_lt h0),Vf h0 h1⟩) rfl
theorem I8 {m:Int}(hj:js.length<=40)(hc:c<1000)(h0:0<m)(h1:m<1000000)(U:bw):O8 (λ(r:Int)=>0<=r) (λ(r:Int)=>r<m) (λ(r:Int)=>jy [.ref 0,.int m] (fC js c::U)=.ok (.int r) (fC js (c+1:Nat)::U)):=by
 have s0:Zv [(71,.ref 0),(50,.int m)] (fC js c::U)=.next [(71,.ref 0),(50,.int m)] (fC js (c+1:Nat)::U):=rfl;have e1:cv (ai 71) (ah (.int 1)) [(71,.ref 0),(50,.int m)] (fC js (c+1:Nat)::U)=.ok (.int (c+1:Nat)) (fC js (c+1:Nat)::U):=rfl;have e0:cv (ai 71) (ah (.int 0)) [(71,.ref 0),(50,.int m)] (fC js (c+1:Nat)::U)=.ok (.list (js.map .int)) (fC js (c+1:Nat)::U):=rfl;have el:bV .len [(cv (ai 71) (ah (.int 0)))] [(71,.ref 0),(50,.int m)] (fC js (c+1:Nat)::U)=.ok (.int js.length) (fC js (c+1:Nat)::U):=by
  refine((lW e0 (by rw[cJ];exact q2 ⋯ (by rfl))).2).trans ?_;rw[cJ]
 have et:T9 [(71,.ref 0),(50,.int m)] (fC js (c+1:Nat)::U)=.ok (decide (((c+1:Nat):Int)<=js.length)) (fC js (c+1:Nat)::U):=(dD e1 el rfl).1;have em:ai 50 [(71,.ref 0),(50,.int m)] (fC js (c+1:Nat)::U)=.ok (.int m) (fC js (c+1:Nat)::U):=rfl;have call:jy [.ref 0,.int m] (fC js c::U)=dB (aL Zv (aL (fw T9 (cp (aU .Mod SJ (ai 50))) bF) (cp (aU .Mod Zw (ai 50)))) [(71,.ref 0),(50,.int m)] (fC js c::U)):=rfl;rw[call,aK s0];by_cases h:c+1<=js.length
 .have e2:SJ [(71,.ref 0),(50,.int m)] (fC js (c+1:Nat)::U)=.ok (.int js[c]) (fC js (c+1:Nat)::U):=by
   have e3:aU .Sub (cv (ai 71) (ah (.int 1))) (ah (.int 1)) [(71,.ref 0),(50,.int m)] (fC js (c+1:Nat)::U)=.ok (.int c) (fC js (c+1:Nat)::U):=by
    refine(bk e1 rfl).trans ?_;show Res.ok (V.int (((c+1:Nat):Int) - 1)) _=_;rw[show((c+1:Nat):Int) - 1=c by exact VA]
   have en:mE (.list (js.map .int)) (.int c) (fC js (c+1:Nat)::U)=some (.int js[c]):=by
    show(if decide ((c:Int).natAbs<1000000000) then uu (js.map .int) c else .none)=_;rw[bN (UP hc),ay rfl,Lq (Int.natCast_nonneg c) (Int.ofNat_lt.mpr h)];rfl
   unfold SJ cv;rw[ME.bind];unfold cv at e0;rw[e0,aC,ME.bind];unfold cv at e3;exact rl e3<|rl (aC ..)<|rl en rfl
  obtain⟨r,r0,r1,e⟩:=I6 e2 em h0 h1;refine⟨r,r0,r1,?_⟩;have s1:fw T9 (cp (aU .Mod SJ (ai 50))) bF [(71,.ref 0),(50,.int m)] (fC js (c+1:Nat)::U)=.ret (.int r) (fC js (c+1:Nat)::U):=by
   refine(nE et (bN (Int.ofNat_le.mpr h))).trans ?_;exact ir e
  exact rl (rI s1) rfl
 .have s1:fw T9 (cp (aU .Mod SJ (ai 50))) bF [(71,.ref 0),(50,.int m)] (fC js (c+1:Nat)::U)=.next [(71,.ref 0),(50,.int m)] (fC js (c+1:Nat)::U):=by
   exact(qw et (cI (Ta ⋯))).trans rfl
  have e3 :∃a,Zw [(71,.ref 0),(50,.int m)] (fC js (c+1:Nat)::U)=.ok (.int a) (fC js (c+1:Nat)::U):=by
   have m1:=oW (f:=ah (.int 6)) rfl e1 (by decide);have m2:=oW m1 e1 (Vg hc);have m3:=oW (f:=ah (.int 7)) rfl e1 (by decide);have m4:=oW (f:=ah (.int 3)) rfl el (by decide);exact⟨_,(bk ((bk ((bk ((bk m2 m3).trans rfl) rfl).trans rfl) m4).trans rfl) rfl).trans rfl⟩
  obtain⟨a,e3⟩:=e3;obtain⟨r,r0,r1,e⟩:=I6 e3 em h0 h1;refine⟨r,r0,r1,?_⟩;exact rl (aK s1)<|rJ (ir e)
structure Ak (aO f L:Nat)(P:List (V×V)->bw)(J U:bw):Prop where
 get:lX aO U
 Qd :∀s:Int,s<=200->fk (λaz=>d7 L az) (λaz=>d6 [.ref aO,.int s] U=.ok .none (P az++J))
 XE:U[f]? = some (.dict .tup (FD L))
theorem ug :∀t:T,(∀x∈t.pre,x<1000)->V.plain (aR t)=true/\V.depth (aR t)<=t.pre.length:=by
 intro y
 induction y with
 |leaf l=>
  intro h;refine⟨?_,Nat.le_refl _⟩;show((decide (l<0x110000)&&true)&&true)=true;exact rl (bN (by have:=h l (.head _);exact q1 ⋯ (by rfl))) rfl
 |node a b wu p7=>
  intro h;have e :(T.node a b).pre.length=a.pre.length+b.pre.length+1:=by simp[T.pre]
  obtain⟨a1,a2⟩:=wu λx hx=>h x (.tail _ (List.mem_append.mpr (.inl hx)));obtain⟨b1,b2⟩:=p7 λx hx=>h x (.tail _ (List.mem_append.mpr (.inr hx)));refine⟨?_,?_⟩
  .show(true&&(V.plain (aR a)&&(V.plain (aR b)&&true)))=true
   exact rl a1<|rl b1 rfl
  .show max 0 (max (V.depth (aR a)) (max (V.depth (aR b)) 0))+1<=_
   exact U0 e a2 b2
theorem mA (hb:v.bool? = none)(hf:flat U v=some v)(hd:V.depth v<=64):ig .NotEq v v U=some false:=by
 have e:J0 v v U=some true:=by
  unfold J0;refine rl hf ?_;show(if decide (V.depth v<=64)&&decide (V.depth v<=64) then some (V.beq v v) else .none)=_;exact rl (bN hd)<|rl ((V.beq_iff v v).mpr rfl) rfl
 show(NM v v U).map (!·)=_;unfold NM;refine rl hb ?_;dsimp only;exact rl e rfl
theorem Fh {t:T}(hx :∀x∈t.pre,x<1000)(hl:t.pre.length<=60):ig .NotEq (aR t) (aR t) U=some false:=by
 obtain⟨h1,h2⟩:=ug t hx
 cases t with
 |leaf l=>exact mA rfl (ay h1) (Nat.le_of_ble_eq_true rfl)
 |node a b=>exact mA rfl (ay h1) (Yp ⋯ ⋯ (by rfl))
section
variable {aO f:Nat}
theorem p5 (C:hX aO kd L ls P)(hf :∀az J,(P az++J)[f]? = some (.dict .tup (FD L)))(I:d7 L az)(J:bw):Ak aO f L P J (P az++J):=by
 obtain⟨mk,hg⟩:=(C J).get;exact⟨⟨_,_,_,hg az⟩,λs hs=>⟨az,I,(C J).Qd az s hs⟩,hf az J⟩
theorem Dp (C:hX aO kd L ls P){c s v:Int}(hg:lX aO U)(hr:d6 [.ref aO,.int s] U=.ok .none (P az++J))(hc:bR [.ref 1,.int c] (P az++J)=.ok (.int c) (P az++J))(h:d4 30 [.ref aO,.tup [.int c],.int s] (P az++J)=.ok (.int v) (P aJ++J)) :
  dS [.ref aO,.int c,.int s] U=.ok (.int v) (P aJ++J):=by
 obtain⟨x,y,z,hg⟩:=hg;have e1:bM (ax 1 60 d6 (ai 10) [ai 34]) [(10,.ref aO),(41,.int c),(34,.int s)] U=.next [(10,.ref aO),(41,.int c),(34,.int s)] (P az++J):=by
  exact oV ((jl hg (λ_ _ _=>rfl) rfl rfl).trans hr) rfl
 show dB (pN [(10,.ref aO),(41,.int c),(34,.int s)] U)=_;unfold pN;refine rl (aK e1) ?_;unfold cp cu;exact rl (Ik (C J) (r:=d4 30) (fr:=[(10,.ref aO),(41,.int c),(34,.int s)]) (az:=az) rfl rfl rfl hc)<|rl h rfl
theorem ki (C:hX aO kd L ls P)(R:Ak aO f L P J U)(hn:n<=12):fk (λaJ=>d7 L aJ) (λaJ=>dS [.ref aO,.int 0,.int n] U=.ok (.int (fo L n 1:Nat)) (P aJ++J)):=by
 obtain⟨az,I,e⟩:=R.Qd n (by lia);obtain⟨aJ,I',h⟩:=t9 (C J) (u:=1) (n:=n) (by decide) hn I;exact⟨aJ,I',Dp C R.get e ((C J).wj az) h⟩
theorem Cc (C:hX aO kd L ls P)(kU:ls∈iT)(R:Ak aO f L P J U){t:T}(hn:n<=11)(hk:k<fo L n 1)(hb:gm (aX ls n 1 k)=[t])(hp:t.pre=aX ls n 1 k):fk (λaJ=>d7 L aJ) (λaJ=>j8 [.ref aO,aR t] U=.ok (.tup [.int n,.int k]) (P aJ++J)):=by
 obtain⟨az,I,e⟩:=R.Qd n (by lia);exact Fb C kU R.get e I hn hk hb hp
def toT:MS:=D3 4 (aB (aA 2) (ax 1 80 hM (ai 78) [(ai 41),(ai 79)])) λfr U=>.next (aE fr 2 .none) U
noncomputable def toF (aO n:Nat):eY:=[(2,.none),(78,.ref aO),(41,.int 0),(79,.int n)]
theorem L9 (C:hX aO kd L ls P)(R:Ak aO f L P J U)(hn:n<=11)(h :(fo L n 1<=60/\LZ ls n=true)\/10000<fo L n 1) :
  fk (λaJ=>d7 L aJ) (λaJ=>nC [.ref aO,.int 0,.int n] U=.ok (if 10000<fo L n 1 then .none else .list (kQ ls n)) (P aJ++J)):=by
 obtain⟨az,I,em⟩:=ki C R (n:=n) (Nat.le_succ_of_le hn);have key :∀v bB,D3 4 (aB (aA 2) (ax 1 80 hM (ai 78) [(ai 41),(ai 79)])) (λfr U=>.next (aE fr 2 .none) U) (toF aO n) U=.next (aE (toF aO n) 2 v) bB->nC [.ref aO,.int 0,.int n] U=.ok v bB:=λv bB e=>by
  show dB (aL _ (aL toT (cp (ai 2))) [(78,.ref aO),(41,.int 0),(79,.int n)] U)=_;refine rl (aK (show aB (aA 2) (ah .none) [(78,.ref aO),(41,.int 0),(79,.int n)] U=.next (toF aO n) U from rfl)) ?_;unfold toT;exact rl (aK e) rfl
 obtain⟨x,y,z,hg⟩:=R.get;have ec:ax 1 80 hM (ai 78) [(ai 41),(ai 79)] (toF aO n) U=hM [.ref aO,.int 0,.int n] U:=jl hg (λ_ _ _=>rfl) rfl rfl;rcases h with ⟨h1,h2⟩ |h1
 .obtain⟨aJ,I',e⟩:=Fg C R.get em I (q3 ⋯ (by rfl)) h2
  refine⟨aJ,I',key _ _ ?_⟩;refine rl (av (QB ⋯ (by rfl))) ?_;unfold D3 aB cu;exact rl ec<|rl e rfl
 .refine⟨az,I,key _ _ ?_⟩
  refine rl (ay h1) ?_;unfold D3 aB cu;exact rl ec<|rl (ue R.get em (Int.lt_of_toNat_lt h1)) rfl
end
noncomputable def JH (aO:Nat)(lv:V)(n k w:Nat):eY:=[(78,.ref aO),(41,.int 0),(74,lv),(79,.int n),(49,.int k),(82,.int w)]
def af (aO:Nat)(lv:V)(n k w f m:Nat)(v:V):eY:=(81,v) ::(50,.int m) ::(77,.ref f)::JH aO lv n k w
theorem I9 {g:ME V}{a:V}(h:g fr U=.ok a bq):bZ r [g] fr U=r [a] bq:=by simp only[bZ,aS,ME.bind,h,aC,ah]
theorem Ja {f:Nat}{t:T}(hF:U[f]? = some (.dict .tup (FD ls.length)))(hL:ls.length∈[1,2,3])(hx :∀x∈ls,x<1000/\x≠112)(uX :∀fr:eY,fr.lookup 74=some lv->pY fr U=.ok ((ls.map λx=>V.str [x])++[.str [112]]) U)(hk:k<fo ls.length n 1)(hn:n<=11)(hb:gm (aX ls n 1 k)=[t])(hp:t.pre=aX ls n 1 k)(L6:fr.lookup 74=some lv)(Xv:fr.lookup 77=some (.ref f))(XF:fr.lookup 79=some (.int n))(hi:fr.lookup i=some (.int k)) :
  bZ lV [(bZ jz [(ai 74),(ai 77),(ai 79),(ai i)])] fr U=.ok (aR t) U:=by
 have hO:112∉ls:=λz=>(hx 112 z).2 rfl;have DN:=j9 ls n 1 k;have e1:=Iz (n:=n) (k:=k) hF hx (λn t h1 h2=>Py _ hL n (Nat.lt_succ_of_le h1) t (Nat.lt_succ_of_le h2)) uX hk hn;have e2:=Lz (U:=U) hb (by rw[hp,DN];exact q2 ⋯ (by rfl)) (λs hs=>(mz n 1 k s hs).elim (λh=>(hx s h).1) (λh=>VG ⋯ (by rfl))) (by rw[DN];exact q2 ⋯ (by rfl)) (qu hO n 1 k hk);have e3:bZ jz [(ai 74),(ai 77),(ai 79),(ai i)] fr U=.ok (.str (aX ls n 1 k)) U:=by
  rw[<- e1];unfold bZ;simp only[ME.bind,aS,ao L6,ao Xv,ao XF,ao hi,aC,ah]
 exact(I9 e3).trans e2
section
variable {aO f:Nat}
def Jb:ME Bool:=bx .NotEq (ax 1 83 j8 (ai 78) [(ai 81)]) (bj [(ai 79),(ai 49)])
theorem Fi {a b:Int}:ig .NotEq (.tup [.int a,.int b]) (.tup [.int a,.int b]) U=some false:=mA rfl rfl (show 1<=64 by decide)
theorem Dq (C:hX aO kd L ls P)(kU:ls∈iT)(hf :∀az J,(P az++J)[f]? = some (.dict .tup (FD L)))(R:Ak aO f L P J U){t:T}(hn:n<=11)(hk:k<fo L n 1)(hb:gm (aX ls n 1 k)=[t])(hp:t.pre=aX ls n 1 k)(Ni:fr.lookup 78=some (.ref aO))(h81:fr.lookup 81=some (aR t))(XF:fr.lookup 79=some (.int n))(h49:fr.lookup 49=some (.int k)):fk (λbB=>Ak aO f L P J bB) (λbB=>Jb fr U=.ok false bB):=by
 obtain⟨az,I,e⟩:=Cc C kU R hn hk hb hp;obtain⟨x,y,z,hg⟩:=R.get;refine⟨_,p5 C hf I J,(dD ?_ (gO (ao XF) (ao h49)) Fi).1⟩;rw[<- e];refine jl hg (λ_ _ _=>rfl) (ao Ni) ?_;unfold aS aS;rw[ME.bind,ao h81];rfl
theorem hU {m:Nat}{g1 g2 g3:ME V}{a b c:V}(hg:lX aO U)(hm :∀a b c:V,([(53,a),(54,b),(31,c)]:List (Nat×V)).lookup m=none)(Ni:fr.lookup 78=some (.ref aO))(h1:g1 fr U=.ok a U)(h2:g2 fr U=.ok b U)(h3:g3 fr U=.ok c U) :
  ax 1 m r (ai 78) [g1,g2] fr U=r [.ref aO,a,b] U/\ax 1 m r (ai 78) [g1,g2,g3] fr U=r [.ref aO,a,b,c] U:=by
 obtain⟨x,y,z,hg⟩:=hg;constructor
 .refine jl hg hm (ao Ni) ?_
  simp only[aS,ME.bind,h1,h2,aC,ah]
 .refine jl hg hm (ao Ni) ?_
  simp only[aS,ME.bind,h1,h2,h3,aC,ah]
theorem Ma (C:hX aO kd L ls P)(hf :∀az J,(P az++J)[f]? = some (.dict .tup (FD L)))(R:Ak aO f L P J U){k:Int}(hn:n<=12)(hk:k<0\/(fo L n 1:Int)<=k):fk (λbB=>Ak aO f L P J bB) (λbB=>iQ [.ref aO,.int 0,.int n,.int k] U=.ok .none bB):=by
 obtain⟨az,I,e⟩:=ki C R hn;refine⟨_,?_,ub R.get e hk⟩
 split
 .exact p5 C hf I J
 .exact R
end
theorem or_false {a b:ME Bool}{X:MS}(h1:a fr U=.ok false bq)(h2:b fr bq=.ok false bU):fw (rY [a,b]) X bF fr U=.next fr bU:=by
 have:rY [a,b] fr U=.ok false bU:=by
  refine(bL h1).trans ?_;show rY [b] fr bq=_;unfold rY;rw[ME.bind,h2];rfl
 exact(fQ this).trans rfl
theorem Cd (m:Nat):d9 0 (m:Int) 1 =(List.range m).map λk:Nat=>V.int k:=by
 unfold d9;refine rl (rangeSize_one ..) ?_
 split
 .refine rl (show((m:Int) - 0).toNat=m by exact PyProof.Rows.lenZ m)<|List.map_congr_left λi _=>?_
  exact rl (show 0+(i:Int) * 1 =(i:Int) by lia) rfl
 .exact rl (show m=0 by exact q91 ⋯) rfl
theorem Ce :∀{vs:List V},(∀v∈vs,V.plain v=true)->V.cT vs=true:=by
 intro y
 induction y with
 |nil=>
  intro _;exact rfl
 |cons v vs ih=>
  intro h;exact fD ⟨h v (.head _),ih λu hu=>h u (.tail _ hu)⟩
theorem Cf {d:Nat} :∀{vs:List V},(∀v∈vs,V.depth v<=d)->V.cw vs<=d:=by
 intro y
 induction y with
 |nil=>
  intro _;exact Nat.zero_le _
 |cons v vs ih=>
  intro h;exact Nat.max_le.mpr ⟨h v (.head _),ih λu hu=>h u (.tail _ hu)⟩
theorem xS (hO:112∉ls)(hk:k<fo ls.length n 1):gm (aX ls n 1 k)=[o6 ls n k]/\(o6 ls n k).pre=aX ls n 1 k:=by
 obtain⟨t,h1,h2⟩:=BQ hO hk;unfold o6;exact rl h1<|⟨rfl,h2⟩
theorem Fj (hx :∀x∈ls,x<1000/\x≠112)(hn:n<=11):ig .NotEq (.list (kQ ls n)) (.list (kQ ls n)) U=some false:=by
 have hO:112∉ls:=λz=>(hx 112 z).2 rfl;have key :∀v∈kQ ls n,V.plain v=true/\V.depth v<=11:=λv hv=>by
  obtain⟨k,hk,rfl⟩:=dz hv;obtain⟨_,hp⟩:=xS hO (List.mem_range.mp hk);have hl:=j9 ls n 1 k;rw[<- hp] at hl;obtain⟨p1,p2⟩:=ug (o6 ls n k) λx Ry=>(mz n 1 k x (hp▸Ry)).elim (λh=>(hx x h).1) (λh=>VG ⋯ (by rfl));exact⟨p1,VK ⋯ ⋯ ⋯⟩
 refine mA rfl (ay (Ce λv hv=>(key v hv).1)) ?_;have:=Cf λv hv=>(key v hv).2;show V.cw (kQ ls n)+1<=64;exact q2 ⋯ (by rfl)
theorem uh {a:Int}:ig .NotEq (.int a) (.int a) U=some false:=mA rfl rfl (show 0<=64 by decide)
structure XG (aO kd f L:Nat)(ls:List Nat)(P:List (V×V)->bw)(lv:V)(n k w:Nat):Prop where
 C:hX aO kd L ls P
 kU:ls∈iT
 hf :∀az J,(P az++J)[f]? = some (.dict .tup (FD L))
 hL:L∈[1,2,3]
 hlen :∀U,AV .len [lv] U=some (.int L)
 uX :∀(fr:eY) (U:bw),fr.lookup 74=some lv->pY fr U=.ok ((ls.map λx=>V.str [x])++[.str [112]]) U
 hn:1<=n/\n<=11
 hk:k<fo L n 1
 P0:fo L (n+1) 1=0
 hw:w=2->(fo L n 1<=60/\LZ ls n=true)\/10000<fo L n 1
theorem xT (h:ls∈iT) :∀x∈ls,x<1000/\x≠112:=by revert ls;decide
section
variable {aO f:Nat}{w:Nat}
def Dr:MS:=(fw (bx .Eq (ai 82) (ah (.int 2))) (aL (aB (aA 84) (bZ nC [(ai 78),(ai 41),(ai 79)]))
 (fw (rY [(bx .NotEq (iE .Is (ai 84) (ah .none)) (iE .Gt (ai 50) (ah (.int 10000)))),(jF [(bx .LtE (ai 50) (ah (.int 60))),(bx .NotEq (ai 84) (bQ [77,74,79] (aA 4) (iY (ai 50)) none (bZ lV [(bZ jz [(ai 74),(ai 77),(ai 79),(ai 4)])])))])]) (cp (ah (.bool false))) bF)) bF)
theorem Jc (A:XG aO kd f L ls P lv n k w)(R:Ak aO f L P [] U) :
  qT (λbB bC=>Ak aO f L P [] bB) (λbB bC=>fM [84] (af aO lv n k w f (fo L n 1) v) bC) (λbB bC=>Dr (af aO lv n k w f (fo L n 1) v) U=.next bC bB):=by
 have hL:=(A.C []).hL;have hx:=xT A.kU;have hO:112∉ls:=(A.C []).zU;have e0:bx .Eq (ai 82) (ah (.int 2)) (af aO lv n k w f (fo L n 1) v) U=.ok (decide ((w:Int)=2)) U:=rfl;by_cases hw:w=2
 .have h2:=A.hw hw
  obtain⟨az,I,e⟩:=L9 A.C R A.hn.2 h2;have ec:bZ nC [(ai 78),(ai 41),(ai 79)] (af aO lv n k w f (fo L n 1) v) U=.ok (if 10000<fo L n 1 then .none else .list (kQ ls n)) (P az++[]):=e;have R1:=p5 A.C A.hf I [];refine⟨_,(84,if 10000<fo L n 1 then .none else .list (kQ ls n))::af aO lv n k w f (fo L n 1) v,R1,.set (fr:=af aO lv n k w f (fo L n 1) v) 84 _ (.head _),?_⟩;refine(nE e0 (bN (Int.neg_inj.mp (aP Neg.neg (aP Nat.cast hw))))).trans ?_;have s1:aB (aA 84) (bZ nC [(ai 78),(ai 41),(ai 79)]) (af aO lv n k w f (fo L n 1) v) U=.next ((84,if 10000<fo L n 1 then .none else .list (kQ ls n))::af aO lv n k w f (fo L n 1) v) (P az++[]):=by
   exact dT ec
  refine(aK s1).trans ?_;have g1 :∀u,iE .Gt (ai 50) (ah (.int 10000)) ((84,u)::af aO lv n k w f (fo L n 1) v) (P az++[])=.ok (.bool (decide ((fo L n 1:Int) > 10000))) (P az++[]):=λ_=>rfl;have g2 :∀u,bx .LtE (ai 50) (ah (.int 60)) ((84,u)::af aO lv n k w f (fo L n 1) v) (P az++[])=.ok (decide ((fo L n 1:Int)<=60)) (P az++[]):=λ_=>rfl;by_cases h:10000<fo L n 1
  .refine rl (ay h)<|or_false (bq:=P az++[]) (dD rfl (g1 _) ?_).1 (rO ((g2 _).trans (rl (cI (by lia)) rfl)))
   exact rl (bN (by exact Int.lt_of_toNat_lt h)) rfl
  .refine rl (av h) ?_
   have hm:fo L n 1<=60:=(h2.resolve_right h).1;refine or_false (bq:=P az++[]) (dD (a:=.bool false) rfl (g1 _) ?_).1 (rN ((g2 _).trans (rl (bN (Nat.ToInt.of_le rfl rfl hm)) rfl)) (dD rfl (bU:=P az++[]) ?_ (Fj hx A.hn.2)).1)
   .exact rl (cI (Ta ⋯)) rfl
   .unfold kQ
    refine rl hL<|gy (λk:Nat=>.int k) (λk=>aR (o6 ls n k)) (List.range (fo L n 1)) ?_ (λj hj=>?_) (by refine rl List.length_range ?_;exact q2 ⋯ (by rfl))
    .exact rr (Cd ..)<|pS (b:=((fo L n 1:Nat):Int)) rfl (bN (UJ hm))
    .have hj:=List.mem_range.mp hj
     obtain⟨b1,b2⟩:=xS hO (n:=n) (k:=j) (rl hL<|hj)
     exact⟨_,rfl,Ja (i:=4) (f:=f) (lv:=lv) (rl hL<|R1.XE) (rl hL<|A.hL) hx (λfr=>A.uX fr _) (rl hL<|hj) A.hn.2 b1 b2 rfl rfl rfl rfl⟩
 .refine⟨U,_,R,.refl,?_⟩
  exact(qw e0 (cI (Nat.ToInt.of_diseq rfl rfl hw))).trans rfl
end
def a1:MS:=(aB (aA 77) (bZ gX [(bV .len [(ai 74)]),(ah (.int 11))]))
def a2:MS:=(aB (aA 50) (cv (ai 77) (bj [(ah (.int 1)),(ai 79)])))
def a3:MS:=(aB (aA 81) (bZ lV [(bZ jz [(ai 74),(ai 77),(ai 79),(ai 49)])]))
def a4:MS:=(fw (jF [(bx .Eq (ai 82) (ah (.int 1))),Jb]) (cp (ah (.bool false))) bF)
def a6:MS:=(fw (rY [(bx .NotEq (ax 1 85 iQ (ai 78) [(ai 41),(ai 79),(ai 49)]) (ai 81)),Jb]) (cp (ah (.bool false))) bF)
def a7:MS:=(fw (rY [(bx .NotEq (ax 1 50 dS (ai 78) [(ai 41),(ai 79)]) (ai 50)),(bx .NotEq (ax 1 50 dS (ai 78) [(ai 41),(aU .Add (ai 79) (ah (.int 1)))]) (ah (.int 0)))]) (cp (ah (.bool false))) bF)
def Pz:ME (List V):=(bl (bj [(gZ (ah (.int 1))),(gZ (ah (.int 2))),(gZ (ai 50)),(aU .Sub (gZ (ai 50)) (ah (.int 5))),(ai 50),(aU .Add (ai 50) (ah (.int 7)))]))
def a8:MS:=(aB (aA 86) (bQ [41,78,79] (aA 4) Pz none (ax 1 85 iQ (ai 78) [(ai 41),(ai 79),(ai 4)])))
def a9:MS:=(cp (va (iE .Eq (bQ [] (aA 62) (bl (ai 86)) (some (bx .IsNot (ai 62) (ah .none))) (ai 62)) (cZ [])) (iE .Is (ax 1 85 iQ (ai 78) [(ai 41),(ah (.int 0)),(ah (.int 0))]) (ah .none))))
theorem Mb {f g:ME V}(hf:f fr U=.ok (.bool true) bq)(hg:g fr bq=.ok v bU):va f g fr U=.ok v bU:=by unfold va;rw[ME.bind,hf];exact hg
theorem Cg (aO n k w:Nat)(lv:V)(U:bw):kE [.ref aO,.int 0,lv,.int n,.int k,.int w] U=dB (aL a1 (aL a2 (aL a3 (aL a4 (aL Dr (aL a6 (aL a7 (aL a8 a9))))))) (JH aO lv n k w) U):=rfl
section
variable {aO f:Nat}{w:Nat}
theorem Jd (A:XG aO kd f L ls P lv n k w)(hf:xX.length=f)(R:Ak aO f L P [] (xX++[O.dict .tup (FD L)])):fk (λaJ=>d7 L aJ) (λaJ=>kE [.ref aO,.int 0,lv,.int n,.int k,.int w] xX=.ok (.bool true) (P aJ++[.list (gR (aX ls n 1 k))])):=by
 have hL:=(A.C []).hL;have hx:=xT A.kU;have hO:112∉ls:=(A.C []).zU;obtain⟨A7,hn⟩:=A.hn;obtain⟨hb,hp⟩:=xS hO (n:=n) (k:=k) (by exact rl hL<|A.hk)
 have yq :(o6 ls n k).pre.length=n:=by exact rl hp<|rl (j9 ..) rfl
 have Zy :∀x∈(o6 ls n k).pre,x<1000:=λx Ry=>(mz n 1 k x (hp▸Ry)).elim (λh=>(hx x h).1) (λh=>by exact VG ⋯ (by rfl));generalize o6 ls n k=t at hb hp yq Zy;generalize XH:xX++[O.dict .tup (FD L)]=bq at R;refine rl (Cg ..) ?_;have s1:a1 (JH aO lv n k w) xX=.next ((77,.ref f)::JH aO lv n k w) bq:=by
  have e0:bV .len [(ai 74)] (JH aO lv n k w) xX=.ok (.int L) xX:=by
   unfold bV aS aS;rw[ME.bind,ME.bind,ao rfl];show Res.cO (AV .len [lv] xX) xX=_;exact rl (A.hlen ..) rfl
  have e1:bZ gX [(bV .len [(ai 74)]),(ah (.int 11))] (JH aO lv n k w) xX=.ok (.ref f) bq:=by
   refine rr XH<|rr hf<|rr (uf A.hL) ?_
   simp only[bZ,aS,ME.bind,e0,aC,ah]
  exact dT e1
 have s2:a2 ((77,.ref f)::JH aO lv n k w) bq=.next ((50,.int (fo L n 1:Nat)) ::(77,.ref f)::JH aO lv n k w) bq:=by
  have ei:mE (.ref f) (kV 1 n) bq=some (.int (fo L n 1:Nat)):=by
   unfold mE;dsimp only;refine rl R.XE ?_;show(if fu .tup (kV 1 n) then cn (FD L) (kV 1 n) else .none)=_;exact rl (ay (show fu .tup (kV 1 n)=true from rfl))<|rl (I0 L A.hL n (by exact Nat.lt_succ_of_le hn) A7) rfl
  unfold a2 aB cu;have:cv (ai 77) (bj [(ah (.int 1)),(ai 79)]) ((77,.ref f)::JH aO lv n k w) bq=.ok (.int (fo L n 1:Nat)) bq:=by
   show Res.cO (mE (.ref f) (kV 1 n) bq) bq=_;exact rl ei rfl
  exact rl this rfl
 have s3:a3 ((50,.int (fo L n 1:Nat)) ::(77,.ref f)::JH aO lv n k w) bq=.next (af aO lv n k w f (fo L n 1) (aR t)) bq:=by
  exact dT (Ja (i:=49) (f:=f) (lv:=lv) (by exact rl hL<|R.XE) (by exact rl hL<|A.hL) hx (λfr=>A.uX fr _) (by exact rl hL<|A.hk) hn hb hp rfl rfl rfl rfl)
 refine rl (aK s1)<|rl (aK s2)<|rl (aK s3) ?_
 have s4:fk (λbU=>Ak aO f L P [] bU) (λbU=>a4 (af aO lv n k w f (fo L n 1) (aR t)) bq=.next (af aO lv n k w f (fo L n 1) (aR t)) bU):=by
  have e0:bx .Eq (ai 82) (ah (.int 1)) (af aO lv n k w f (fo L n 1) (aR t)) bq=.ok (decide ((w:Int)=1)) bq:=rfl;by_cases hw:w=1
  .obtain⟨bU,R2,e⟩:=Dq A.C A.kU A.hf R hn A.hk hb hp (fr:=af aO lv n k w f (fo L n 1) (aR t)) rfl rfl rfl rfl
   refine⟨bU,R2,?_⟩;exact(fQ (rN (e0.trans (by exact rl (bN (by exact Int.neg_inj.mp (aP Neg.neg (aP Nat.cast hw)))) rfl)) e)).trans rfl
  .refine⟨bq,R,?_⟩
   exact(fQ (rO (e0.trans (by exact rl (cI (by exact Nat.ToInt.of_diseq rfl rfl hw)) rfl)))).trans rfl
 obtain⟨bU,R2,s4⟩:=s4;obtain⟨qH,ka,R3,K3,s5⟩:=Jc A (v:=aR t) R2;refine rl (aK s4)<|rl (aK s5) ?_
 have Ci:ka.lookup 78=some (.ref aO):=K3.at rfl (by decide);have SK:ka.lookup 41=some (.int 0):=K3.at rfl (by decide);have Mc:ka.lookup 79=some (.int n):=K3.at rfl (by decide);have Iw:ka.lookup 49=some (.int k):=K3.at rfl (by decide);have Fz:ka.lookup 50=some (.int (fo L n 1:Nat)):=K3.at rfl (by decide);have Zz:ka.lookup 81=some (aR t):=K3.at rfl (by decide);have hm :∀i∈[50,85],∀a b c:V,([(53,a),(54,b),(31,c)]:List (Nat×V)).lookup i=none:=λi hi a b c=>by
  rcases b8 hi with rfl |hi
  .rfl
  .cases dM hi;rfl
 have s6:fk (λx7=>Ak aO f L P [.list (gR (aX ls n 1 k))] x7) (λx7=>a6 ka qH=.next ka x7):=by
  obtain⟨bA,I1,em⟩:=ki A.C R3 (n:=n) (by exact Nat.le_succ_of_le hn);obtain⟨du,I2,en⟩:=LU A.C A.kU R3.get em I1 hn A.hk hb hp;rw[List.append_nil] at en;have e1:=(dD (((hU R3.get (hm 85 (by decide)) Ci (ao SK) (ao Mc) (ao Iw)).2).trans en) (ao Zz) (Fh Zy (Ye ⋯ ⋯ (by rfl)))).1;obtain⟨x7,R4,e2⟩:=Dq A.C A.kU A.hf (p5 A.C A.hf I2 [.list (gR (aX ls n 1 k))]) hn A.hk hb hp Ci Zz Mc Iw;exact⟨x7,R4,or_false e1 e2⟩
 obtain⟨x7,R4,s6⟩:=s6;have s7:fk (λGA=>Ak aO f L P [.list (gR (aX ls n 1 k))] GA) (λGA=>a7 ka x7=.next ka GA):=by
  obtain⟨bA,I1,e1⟩:=ki A.C R4 (n:=n) (by exact Nat.le_succ_of_le hn);have R5:=p5 A.C A.hf I1 [.list (gR (aX ls n 1 k))];obtain⟨du,I2,e2⟩:=ki A.C R5 (n:=n+1) (by exact Nat.succ_le_succ hn);rw[A.P0] at e2;have e3:aU .Add (ai 79) (ah (.int 1)) ka (P bA++[.list (gR (aX ls n 1 k))])=.ok (.int ((n+1:Nat):Int)) (P bA++[.list (gR (aX ls n 1 k))]):=(bk (ao Mc) rfl).trans rfl;exact⟨_,p5 A.C A.hf I2 _,or_false (dD (((hU (g3:=ai 49) R4.get (hm 50 (by decide)) Ci (ao SK) (ao Mc) (ao Iw)).1).trans e1) (ao Fz) uh).1 (dD (((hU (g3:=ai 49) R5.get (hm 50 (by decide)) Ci (ao SK) e3 (ao Iw)).1).trans e2) rfl uh).1⟩
 obtain⟨GA,R5,s7⟩:=s7;have s8:fk (λFl=>Ak aO f L P [.list (gR (aX ls n 1 k))] Fl) (λFl=>a8 ka GA=.next (aE ka 86 (.list [.none,.none,.none,.none,.none,.none])) Fl):=by
  have hk:=A.hk;have ei:Pz ka GA=.ok ([(-1:Int),-2,-(fo L n 1:Nat),-(fo L n 1:Nat) - 5,(fo L n 1:Nat),(fo L n 1:Nat)+7].map .int) GA:=by
   unfold Pz;simp only[bl,bj,aS,gZ,aU,ME.bind,ao Fz,aC,ah];rfl
  refine wh (I:=Ak aO f L P [.list (gR (aX ls n 1 k))]) (t:=aA 4) (iw:=ax 1 85 iQ (ai 78) [(ai 41),(ai 79),(ai 4)]) (jD:=jO ka [41,78,79]) (λ_=>.none) ([(-1:Int),-2,-(fo L n 1:Nat),-(fo L n 1:Nat) - 5,(fo L n 1:Nat),(fo L n 1:Nat)+7].map .int) GA [] R5 (show 6<=1000000 by decide) (λv hv=>?_) ?_
  .obtain⟨i,hi,rfl⟩:=dz hv
   refine⟨aE (jO ka [41,78,79]) 4 (.int i),rfl,λU R=>?_⟩;have TL:i<0\/(fo L n 1:Int)<=i:=by
    simp only[List.mem_cons,List.not_mem_nil,or_false] at hi;rcases hi with h |h |h |h |h |h |h <;> first | (subst h;(first |exact q52 |exact q53 |lia)) |exact h.elim
   obtain⟨bB,R',e⟩:=Ma A.C A.hf R (n:=n) (k:=i) (by exact Nat.le_succ_of_le hn) TL;refine⟨bB,R',((hU R.get (hm 85 (by decide)) ?_ (ao ?_) (ao ?_) (ao (cV _ _ _))).2).trans e⟩
   .exact b7 (by decide) (by exact rl (fU (by decide) ..)<|Ci)
   .exact b7 (by decide) (by exact rl (fU (by decide) ..)<|SK)
   .exact b7 (by decide) (by exact rl (fU (by decide) ..)<|Mc)
  rintro Fl R6 e;refine⟨Fl,R6,?_⟩;unfold a8 aB cu bQ;exact rl ei<|rl (aC ..)<|rl e rfl
 obtain⟨Fl,R6,s8⟩:=s8;obtain⟨SM,I7,em⟩:=ki A.C R6 (n:=0) (by exact Nat.zero_le 12);have en:=ub (k:=0) R6.get em (.inr (by refine rl (show fo L 0 1=0 from rfl) ?_;decide));rw[ay (by decide)] at en;refine⟨SM,I7,?_⟩;have ZA:=cV ka 86 (.list [.none,.none,.none,.none,.none,.none]);have ZC :(aE ka 86 (.list [.none,.none,.none,.none,.none,.none])).lookup 78=some (.ref aO):=b7 (by decide) Ci;have ZD :(aE ka 86 (.list [.none,.none,.none,.none,.none,.none])).lookup 41=some (.int 0):=b7 (by decide) SK;refine rl (aK s6)<|rl (aK s7)<|rl (aK s8) ?_
 generalize aE ka 86 (.list [.none,.none,.none,.none,.none,.none])=xU at ZA ZC ZD;have e1:iE .Eq (bQ [] (aA 62) (bl (ai 86)) (some (bx .IsNot (ai 62) (ah .none))) (ai 62)) (cZ []) xU Fl=.ok (.bool true) Fl:=by
  have ei:bl (ai 86) xU Fl=.ok [.none,.none,.none,.none,.none,.none] Fl:=by exact kH (ao ZA) rfl
  have ec:bQ [] (aA 62) (bl (ai 86)) (some (bx .IsNot (ai 62) (ah .none))) (ai 62) xU Fl=.ok (.list []) Fl:=by
   unfold bQ;exact rl ei rfl
  exact(dD ec rfl rfl).2
 have e2:=(dD (op:=.Is) (g:=ah .none) (b:=.none) (c:=true) (((hU R6.get (hm 85 (by decide)) ZC (ao ZD) (g2:=ah (.int 0)) rfl (g3:=ah (.int 0)) rfl).2).trans en) rfl rfl).2;have e3:a9 xU Fl=.ret (.bool true) (P SM++[.list (gR (aX ls n 1 k))]):=by
  exact ir (Mb e1 e2)
 exact rl e3 rfl
end
noncomputable def rt:V:=.tup [.str [116,111,108,100],.str [116]]
noncomputable def lt (x:Nat):V:=.tup [.str [x]]
def XI (es:List Nat):List V:=[lt 97,lt 122,.tup [.str [112],.int 0,.int 0]]++es.map lt
noncomputable def ZE (vs:List V):List (V×V):=vs.zipIdx.map λp=>(p.1,.int p.2)
noncomputable def SN (n:Nat)(vs:List Int):List V:=vs.map .int++List.replicate n (.int 1)
def Je (es:List Nat):bw:=[.inst 3 [(27,.ref 2),(28,.ref 7),(29,.ref 11),(30,.ref 12),(31,.ref 13),(19,.ref 14),(32,.ref 15),(33,.int 0)],
 .inst 0 [(9,.ref 3),(11,.ref 4),(12,.ref 5),(13,.ref 6)],.list (XI es),.dict .tup (ZE (XI es)),.list (SN es.length [1,1,3]),.list (SN es.length [1,1,2]),.inst 2 [(19,.ref 8),(20,.ref 9),(21,.ref 10)],
 .list ([.int 0,.int 1]++List.replicate (es.length+1) (.int 0)),.list ([V.ref 16,.ref 18,.ref 20,.ref 29,.ref 36].take (3+es.length)),.list ([kV 0 2,kV 0 3,kV 0 4].take (1+es.length)),
 .list ([V.tup [.int 0,.int 2,rt],.tup [.int 3,.int 0,rt],.tup [.int 4,.int 0,rt]].take (1+es.length)),.list ([V.int 0,.int 1,.int 2].take (1+es.length)),.dict .tup (ZE (XI es)),.dict .int [(.int 0,[V.ref 22,.ref 31,.ref 38].getD es.length .none),(.int 1,.ref 19)],
 .list [],.list ([V.int 0,.int 2,.int 3,.int 4].take (2+es.length)),.list [.int 2],.list [.int 1],.list [],.list [.int 2],.list [],.list [.int 2]]
noncomputable def ZF (mk:V)(kd:Nat):O:=.inst 1 [(53,.ref 1),(54,mk),(31,.ref kd)]
def dp (h:O)(es:List Nat)(mk:V)(kd:Nat)(J:bw):bw:=h ::(Je es++ZF mk kd::J)
noncomputable def jL (n:Nat):V:=.tup [.int (3+n),.int (1+n),.int 0]
structure nM (es ls:List Nat):Prop where
 tW :∀h mk kd J,c8 [.ref 1,.int 0] (dp h es mk kd J)=.ok (.list (nF ls)) (dp h es mk kd J)
 xI :∀h mk kd J,c8 [.ref 1,.int 1] (dp h es mk kd J)=.ok (.list [lt 122]) (dp h es mk kd J)
 wj :∀h mk kd J,bR [.ref 1,.int 0] (dp h es mk kd J)=.ok (.int 0) (dp h es mk kd J)
 C8 :∀h mk kd J,bR [.ref 1,.int 1] (dp h es mk kd J)=.ok (.int 1) (dp h es mk kd J)
 C9 :∀l∈ls,∀h mk kd J,ew [.ref 1,.str [l],.tup []] (dp h es mk kd J)=.ok (.int 0) (dp h es mk kd J)
 Dc :∀h mk kd J,ew [.ref 1,.str [112],.tup [.int 0,.int 0]] (dp h es mk kd J)=.ok (.int 0) (dp h es mk kd J)
theorem rT {P:Nat->Prop}{a b:Nat}(ha:P a)(hb:P b) :∀l∈[a,b],P l:=λl h=>by
 rcases b8 h with rfl |h
 .exact ha
 .cases dM h;exact hb
theorem PA:nM [] [97]:=⟨λ_ _ _ _=>by kernel_rfl,λ_ _ _ _=>by kernel_rfl,λ_ _ _ _=>by kernel_rfl,λ_ _ _ _=>by kernel_rfl,λl h=>by cases dM h;exact λ_ _ _ _=>by kernel_rfl,λ_ _ _ _=>by kernel_rfl⟩
theorem PB:nM [98] [97,98]:=⟨λ_ _ _ _=>by kernel_rfl,λ_ _ _ _=>by kernel_rfl,λ_ _ _ _=>by kernel_rfl,λ_ _ _ _=>by kernel_rfl,rT (λ_ _ _ _=>by kernel_rfl) (λ_ _ _ _=>by kernel_rfl),λ_ _ _ _=>by kernel_rfl⟩
theorem PC:nM [99] [97,99]:=⟨λ_ _ _ _=>by kernel_rfl,λ_ _ _ _=>by kernel_rfl,λ_ _ _ _=>by kernel_rfl,λ_ _ _ _=>by kernel_rfl,rT (λ_ _ _ _=>by kernel_rfl) (λ_ _ _ _=>by kernel_rfl),λ_ _ _ _=>by kernel_rfl⟩
theorem Md:nM [98,99] [97,98,99]:=⟨λ_ _ _ _=>by kernel_rfl,λ_ _ _ _=>by kernel_rfl,λ_ _ _ _=>by kernel_rfl,λ_ _ _ _=>by kernel_rfl,λl h=>(b8 h).elim (λh=>by subst h;exact λ_ _ _ _=>by kernel_rfl) (rT (P:=λl=>∀h mk kd J,ew [.ref 1,.str [l],.tup []] (dp h [98,99] mk kd J)=.ok (.int 0) (dp h [98,99] mk kd J)) (λ_ _ _ _=>by kernel_rfl) (λ_ _ _ _=>by kernel_rfl) l),λ_ _ _ _=>by kernel_rfl⟩
theorem Me:nM [99,98] [97,98,99]:=⟨λ_ _ _ _=>by kernel_rfl,λ_ _ _ _=>by kernel_rfl,λ_ _ _ _=>by kernel_rfl,λ_ _ _ _=>by kernel_rfl,λl h=>(b8 h).elim (λh=>by subst h;exact λ_ _ _ _=>by kernel_rfl) (rT (P:=λl=>∀h mk kd J,ew [.ref 1,.str [l],.tup []] (dp h [99,98] mk kd J)=.ok (.int 0) (dp h [99,98] mk kd J)) (λ_ _ _ _=>by kernel_rfl) (λ_ _ _ _=>by kernel_rfl) l),λ_ _ _ _=>by kernel_rfl⟩
theorem jC (h:O)(es:List Nat)(mk:V)(kd:Nat)(U J:bw):dp h es mk kd U++J=dp h es mk kd (U++J):=by
 refine List.cons_append.trans ?_;exact rl (cW ..) rfl
def PD:ME V:=(bj [(ax 3 34 lQ (bc 1 53 (ai 10)) []),(bV .len [(bc 3 29 (bc 1 53 (ai 10)))]),(bc 3 33 (bc 1 53 (ai 10)))])
noncomputable def jM (es:List Nat):Prop:=∀h mk kd J s,PD [(10,.ref 23),(34,s)] (dp h es mk kd J)=.ok (jL es.length) (dp h es mk kd J)
theorem PE:jM []:=λ_ _ _ _ _=>by kernel_rfl
theorem PF:jM [98]:=λ_ _ _ _ _=>by kernel_rfl
theorem PG:jM [99]:=λ_ _ _ _ _=>by kernel_rfl
theorem Mf:jM [98,99]:=λ_ _ _ _ _=>by kernel_rfl
theorem Mg:jM [99,98]:=λ_ _ _ _ _=>by kernel_rfl
theorem Mh (n:Nat)(U:bw):ig .NotEq (jL n) (jL n) U=some false:=mA rfl rfl (show 1<=64 by decide)
def SO:MS:=(fw (bx .NotEq (ai 54) (bc 1 54 (ai 10))) (aL (cU 1 54 (ai 10) (ai 54)) (cU 1 31 (ai 10) (lG .tup))) bF)
theorem Jf {es:List Nat}(M:jM es){s:Int}(hs:s<=200)(h:O)(mk:V)(kd:Nat)(J bB:bw)(e:SO [(54,jL es.length),(10,.ref 23),(34,.int s)] (dp h es mk kd J)=.next [(54,jL es.length),(10,.ref 23),(34,.int s)] bB):d6 [.ref 23,.int s] (dp h es mk kd J)=.ok .none bB:=by
 have e1:fw (bx .Gt (ai 34) (ah (.int 200))) (kq 4) bF [(10,.ref 23),(34,.int s)] (dp h es mk kd J)=.next [(10,.ref 23),(34,.int s)] (dp h es mk kd J):=by
  have:bx .Gt (ai 34) (ah (.int 200)) [(10,.ref 23),(34,.int s)] (dp h es mk kd J)=.ok (decide (s > 200)) (dp h es mk kd J):=rfl;exact(qw this (cI (Int.not_lt_of_ge hs))).trans rfl
 have e2:aB (aA 54) PD [(10,.ref 23),(34,.int s)] (dp h es mk kd J)=.next [(54,jL es.length),(10,.ref 23),(34,.int s)] (dp h es mk kd J):=by
  unfold aB cu;exact rl (M ..) rfl
 show dB (aL (fw (bx .Gt (ai 34) (ah (.int 200))) (kq 4) bF) (aL (aB (aA 54) PD) SO) [(10,.ref 23),(34,.int s)] (dp h es mk kd J))=_;exact rl (aK e1)<|rl (aK e2)<|rl e rfl
theorem Jg {es:List Nat}(M:jM es){s:Int}(hs:s<=200)(h:O)(kd:Nat)(J:bw):d6 [.ref 23,.int s] (dp h es (jL es.length) kd J)=.ok .none (dp h es (jL es.length) kd J):=by
 refine Jf M hs h _ kd J _ ?_;have et:=(dD (op:=.NotEq) (f:=ai 54) (g:=bc 1 54 (ai 10)) (fr:=[(54,jL es.length),(10,.ref 23),(34,.int s)]) (U:=dp h es (jL es.length) kd J) rfl (show bc 1 54 (ai 10) _ _=.ok (jL es.length) (dp h es (jL es.length) kd J) from rfl) (Mh _ _)).1;exact(fQ et).trans rfl
theorem Mi {es:List Nat}(M:jM es){s:Int}(hs:s<=200)(h:O)(mk:V)(kd:Nat)(J:bw)(dg :∀U,ig .NotEq (jL es.length) mk U=some true):d6 [.ref 23,.int s] (dp h es mk kd J)=.ok .none (dp h es (jL es.length) (J.length+24) (J++[.dict .tup []])):=by
 refine Jf M hs h _ kd J _ ?_;have et:=(dD (op:=.NotEq) (f:=ai 54) (g:=bc 1 54 (ai 10)) (fr:=[(54,jL es.length),(10,.ref 23),(34,.int s)]) (U:=dp h es mk kd J) rfl (show bc 1 54 (ai 10) _ _=.ok mk (dp h es mk kd J) from rfl) (dg _)).1;refine(fQ et).trans ?_;refine rl (ay rfl) ?_;refine(aK (bC:=[(54,jL es.length),(10,.ref 23),(34,.int s)]) (bB:=dp h es (jL es.length) kd J) rfl).trans ?_;rfl
theorem Jh {es:List Nat}(H:nM es ls)(M:jM es)(h:O)(tl:bw)(h3:1<=ls.length/\ls.length<=3)(hO:112∉ls):hX 23 (tl.length+24) ls.length ls (λaz=>dp h es (jL es.length) (tl.length+24) (tl++[.dict .tup az])):=by
 intro J;have e :(λaz=>dp h es (jL es.length) (tl.length+24) (tl++[.dict .tup az])++J)=λaz=>dp h es (jL es.length) (tl.length+24) (tl++[.dict .tup az]++J):=funext λaz=>jC _ _ _ _ _ _;exact rl e <| {
  hL:=rfl,h3:=h3,get:=⟨_,λaz=>rfl⟩,heap:=⟨_,_,_,_,_,_,_,λaz=>rfl⟩,
  dict:=λaz=>by
   show(tl++[O.dict .tup az]++J)[tl.length]? = _;exact rl (cW ..)<|rl (List.getElem?_append_right (Nat.le_refl _))<|rl (Nat.sub_self ..) rfl,
  set:=λaz aJ=>by
   have :(tl++[O.dict .tup az]++J).set tl.length (.dict .tup aJ)=tl++[O.dict .tup aJ]++J:=by
    exact rl (cW ..)<|rl (List.set_append_right _ _ (Nat.le_refl _))<|rl (Nat.sub_self ..)<|rl (cW ..) rfl
   show dp h es _ _ ((tl++[O.dict .tup az]++J).set tl.length (.dict .tup aJ))=_;exact rl this rfl,
  Qd:=λaz s hs=>Jg M hs h _ _,
  tW:=λaz=>H.tW _ _ _ _,xI:=λaz=>H.xI _ _ _ _,wj:=λaz=>H.wj _ _ _ _,C8:=λaz=>H.C8 _ _ _ _,C9:=λl hl az=>H.C9 l hl _ _ _ _,Dc:=λaz=>H.Dc _ _ _ _,zU:=hO}
def PH:ME V:=qg (cZ [(ah (.str [97]))]) (xy (ai 92) (ai 93))
def uZ (m:ME V):ME V:=bZ jy [(ai 71),m]
def XJ:MS:=(cP (dZ [74,79]) (bj [PH,(aU .Add (ah (.int 1)) (aU .Mult (ah (.int 2)) (uZ (ah (.int 6)))))]))
def Ub:MS:=(aB (aA 50) (cv (bZ gX [(bV .len [(ai 74)]),(ah (.int 11))]) (bj [(ah (.int 1)),(ai 79)])))
def XK:MS:=(cP (dZ [49,82]) (bj [uZ (ai 50),uZ (ah (.int 3))]))
def XM:MS:=(fw (jF [(bx .Eq (ai 82) (ah (.int 2))),(jE .Lt .LtE (ah (.int 60)) (ai 50) (ah (.int 10000)))]) (aB (aA 82) (ah (.int 0))) bF)
def ZG:MS:=(fw (rX (o9 (bZ kE [(ai 78),(ai 89),(ai 74),(ai 79),(ai 49),(ai 82)]))) (cp (ah (.bool false))) bF)
noncomputable def nO (x y i:Nat):V:=.list (.str [97]::[V.str [x],V.str [y]].take i)
structure LF (x y:Nat)(fr:eY):Prop where
 Uc:fr.lookup 71=some (.ref 0)
 Ud:fr.lookup 53=some (.ref 1)
 Ci:fr.lookup 78=some (.ref 23)
 Qi:fr.lookup 89=some (.int 0)
 PJ:fr.lookup 90=some (.int 1)
 XN:fr.lookup 92=some (.list [.str [x],.str [y]])
theorem LF.keep {x y:Nat}(F:LF x y fr)(K:fM [74,79,50,49,82,93] fr bC):LF x y bC:=
 ⟨K.at F.Uc (by decide),K.at F.Ud (by decide),K.at F.Ci (by decide),K.at F.Qi (by decide),K.at F.PJ (by decide),K.at F.XN (by decide)⟩
theorem PK {x y:Nat}(h92:fr.lookup 92=some (.list [.str [x],.str [y]]))(Nj:fr.lookup 93=some (.int i))(hi:i<=2):PH fr U=.ok (nO x y i) U:=by
 have hc:i=0\/i=1\/i=2:=VE ⋯;unfold PH qg;refine(bL (show cZ [(ah (.str [97]))] fr U=.ok (.list [.str [97]]) U from rfl)).trans ?_;rw[ME.bind];unfold xy;rw[ME.bind,ao h92,aC,ME.bind,ao Nj];rcases hc with rfl |rfl |rfl <;> rfl
theorem xV {es:List Nat}{mk:V}{f:ME V}{m:Int}(hj:js.length<=40)(hc:c<1000)(h71:fr.lookup 71=some (.ref 0))(hf :∀U,f fr U=.ok (.int m) U)(h0:0<m)(h1:m<1000000) :
  fk (λ(r:Nat)=>(r:Int)<m) (λ(r:Nat)=>uZ f fr (dp (fC js c) es mk kd J)=.ok (.int r) (dp (fC js (c+1:Nat)) es mk kd J)):=by
 obtain⟨r,r0,r1,e⟩:=I8 hj hc h0 h1 (Je es++ZF mk kd::J);refine⟨r.toNat,UZ h0 r1,?_⟩;rw[show((r.toNat:Nat):Int)=r by exact Int.toNat_of_nonneg ⋯];unfold uZ bZ aS aS aS;rw[ME.bind,ME.bind,ao h71,aC,ME.bind,ME.bind,hf];exact e
theorem PL :∀L∈[1,2,3],∀n<12,fo L n 1<1000000:=by decide +kernel
theorem PM :∀L∈[1,2,3],∀r<6,0<fo L (1+2 * r) 1/\fo L (1+2 * r+1) 1=0:=by decide +kernel
theorem SP :∀n<12,fo 1 n 1<=60->n % 2=1->LZ [97] n=true:=by decide +kernel
theorem SQ :∀n<12,fo 2 n 1<=60->n % 2=1->LZ [97,98] n=true:=by decide +kernel
theorem SR :∀n<12,fo 2 n 1<=60->n % 2=1->LZ [97,99] n=true:=by decide +kernel
theorem Ji :∀n<12,fo 3 n 1<=60->n % 2=1->LZ [97,98,99] n=true:=by decide +kernel
structure FE (x y i:Nat)(es ls:List Nat):Prop where
 H:nM es ls
 M:jM es
 kU:ls∈iT
 hL:ls.length=i+1
 hi:i<=2
 uX :∀(fr:eY) (U:bw),fr.lookup 74=some (nO x y i)->pY fr U=.ok ((ls.map λx=>V.str [x])++[.str [112]]) U
 PN :∀n<12,fo ls.length n 1<=60->n % 2=1->LZ ls n=true
theorem ui {x y:Nat}(h:fr.lookup 74=some (nO x y i))(hs:oI (.str [97]::[V.str [x],V.str [y]].take i)=some us)(hz:us.length<100):pY fr U=.ok (us++[.str [112]]) U:=by
 have e1:x9 kM [(ai 74)] fr U=.ok (.list us) U:=by
  unfold x9 aS;rw[ME.bind,ME.bind,ao h];show Res.cO ((oI (.str [97]::[V.str [x],V.str [y]].take i)).map V.list) U=_;rw[hs];rfl
 have ez:cE (us.length+1)=true:=bN (q1 ⋯ (by rfl));unfold pY bl qg;rw[ME.bind,ME.bind,e1,aC,ME.bind,show cZ [(ah (.str [112]))] fr U=.ok (.list [.str [112]]) U from rfl,aC];show((if cE (us.length+1) then Res.ok (V.list (us++[.str [112]])) U else Res.stuck).andThen λa bB=>Res.cO (Cy a) bB)=_;exact rl (ay ez) rfl
theorem Jj {f1 f2 f3 f4 f5 f6:ME V}{v1 v2 v3 v4 v5 v6:V}(h1:f1 fr U=.ok v1 U)(h2:f2 fr U=.ok v2 U)(h3:f3 fr U=.ok v3 U)(h4:f4 fr U=.ok v4 U)(h5:f5 fr U=.ok v5 U)(h6:f6 fr U=.ok v6 U) :
  bZ g [f1,f2,f3,f4,f5,f6] fr U=g [v1,v2,v3,v4,v5,v6] U:=by
 simp only[bZ,aS,ME.bind,h1,h2,h3,h4,h5,h6,aC,ah]
abbrev dF (L:Nat):O:=.dict .tup (FD L)
theorem Jk {x y:Nat}{es:List Nat}(D:FE x y i es ls)(hj:js.length<=40)(hc:c<900){mk:V}(dg :∀U,ig .NotEq (jL es.length) mk U=some true)(F:LF x y fr)(Nj:fr.lookup 93=some (.int i)) :
  Pc (λbC az us=>fM [74,79,50,49,82] fr bC) (λbC az us=>d7 (i+1) az) (λbC az us=>aL XJ (aL Ub (aL XK (aL XM ZG))) fr (dp (fC js c) es mk kd tl)=.next bC (dp (fC js (c+3:Nat)) es (jL es.length) (tl.length+26) (tl++[dF (i+1),dF (i+1),.dict .tup az,.list us]))):=by
 have KA:i+1∈[1,2,3]:=by have:=D.hi;have h:i=0\/i=1\/i=2:=(VE ⋯);rcases h with rfl |rfl |rfl <;> decide
 obtain⟨r,hr,e1⟩:=xV (es:=es) (mk:=mk) (kd:=kd) (J:=tl) (f:=ah (.int 6)) (m:=6) (c:=c) hj (q1 ⋯ (by rfl)) F.Uc (λ_=>rfl) (by decide) (by decide);have hr6:r<6:=by exact Int.ofNat_lt.mp hr
 obtain⟨uw,P0⟩:=PM (i+1) KA r hr6;obtain⟨n,hn⟩ :∃n,n=1+2 * r:=⟨_,rfl⟩;rw[<- hn] at uw P0;have XO:=PL (i+1) KA n (by lia);have s1:XJ fr (dp (fC js c) es mk kd tl)=.next (aE (aE fr 79 (.int n)) 74 (nO x y i)) (dp (fC js (c+1:Nat)) es mk kd tl):=by
  have e2:aU .Add (ah (.int 1)) (aU .Mult (ah (.int 2)) (uZ (ah (.int 6)))) fr (dp (fC js c) es mk kd tl)=.ok (.int n) (dp (fC js (c+1:Nat)) es mk kd tl):=by
   have e3:aU .Mult (ah (.int 2)) (uZ (ah (.int 6))) fr (dp (fC js c) es mk kd tl)=.ok (.int (2 * r)) (dp (fC js (c+1:Nat)) es mk kd tl):=(bk rfl e1).trans rfl;refine(bk rfl e3).trans ?_;show Res.ok (V.int (1+2 * (r:Int))) _=_;exact rl (show 1+2 * (r:Int) =(n:Int) by exact Eq.symm ((λ{a b}=>Int.neg_inj.mp) (aP Neg.neg (aP Nat.cast hn)))) rfl
  exact iv (o4 (PK F.XN Nj D.hi) e2) rfl
 have K1:fM [74,79,50,49,82] fr (aE (aE fr 79 (.int n)) 74 (nO x y i)):=(fM.set 79 _ (by decide)).trans (.set 74 _ (by decide));have LH :(aE (aE fr 79 (.int n)) 74 (nO x y i)).lookup 74=some (nO x y i):=cV _ _ _;have Mc :(aE (aE fr 79 (.int n)) 74 (nO x y i)).lookup 79=some (.int n):=b7 (by decide) (cV _ _ _);generalize aE (aE fr 79 (.int n)) 74 (nO x y i)=cA at s1 K1 LH Mc;refine rl (aK s1) ?_;have hlen :∀U,AV .len [nO x y i] U=some (.int (i+1:Nat)):=λU=>by
  have:=D.hi;have h:i=0\/i=1\/i=2:=by exact VE ⋯
  rcases h with rfl |rfl |rfl <;> rfl
 have s2:Ub cA (dp (fC js (c+1:Nat)) es mk kd tl)=.next (aE cA 50 (.int (fo (i+1) n 1:Nat))) (dp (fC js (c+1:Nat)) es mk kd (tl++[dF (i+1)])):=by
  have e2:bV .len [(ai 74)] cA (dp (fC js (c+1:Nat)) es mk kd tl)=.ok (.int (i+1:Nat)) (dp (fC js (c+1:Nat)) es mk kd tl):=by
   unfold bV aS aS;rw[ME.bind,ME.bind,ao LH];show Res.cO (AV .len [nO x y i] _) _=_;exact rl (hlen ..) rfl
  have e3:bZ gX [(bV .len [(ai 74)]),(ah (.int 11))] cA (dp (fC js (c+1:Nat)) es mk kd tl)=.ok (.ref (dp (fC js (c+1:Nat)) es mk kd tl).length) (dp (fC js (c+1:Nat)) es mk kd tl++[dF (i+1)]):=by
   refine rr (uf KA) ?_;simp only[bZ,aS,ME.bind,e2,aC,ah]
  have e4:=gO (U:=dp (fC js (c+1:Nat)) es mk kd tl++[dF (i+1)]) (f:=ah (.int 1)) (fr:=cA) rfl (ao Mc);have ei:mE (.ref (dp (fC js (c+1:Nat)) es mk kd tl).length) (kV 1 n) (dp (fC js (c+1:Nat)) es mk kd tl++[dF (i+1)])=some (.int (fo (i+1) n 1:Nat)):=by
   unfold mE;dsimp only;refine rl (f7 ..) ?_;show(if fu .tup (kV 1 n) then cn (FD (i+1)) (kV 1 n) else .none)=_;exact rl (ay (show fu .tup (kV 1 n)=true from rfl))<|rl (I0 (i+1) KA n (by lia) (by exact Nat.le.intro (id (Eq.symm hn)))) rfl
  unfold Ub aB cu cv;rw[ME.bind,e3,aC,ME.bind,e4,aC,ei,<- jC];rfl
 have K2:=K1.trans (fM.set (js:=[74,79,50,49,82]) (fr:=cA) 50 (.int (fo (i+1) n 1:Nat)) (by decide));have Fz:=cV cA 50 (.int (fo (i+1) n 1:Nat));have ZH :(aE cA 50 (.int (fo (i+1) n 1:Nat))).lookup 74=some (nO x y i):=b7 (by decide) LH;have ZI :(aE cA 50 (.int (fo (i+1) n 1:Nat))).lookup 79=some (.int n):=b7 (by decide) Mc;generalize aE cA 50 (.int (fo (i+1) n 1:Nat))=cH at s2 K2 Fz ZH ZI;refine rl (aK s2) ?_;obtain⟨k,hk,e5⟩:=xV (es:=es) (mk:=mk) (kd:=kd) (J:=tl++[dF (i+1)]) (f:=ai 50) (m:=(fo (i+1) n 1:Nat)) (c:=c+1) (fr:=cH) hj (q2 ⋯ (by rfl)) (K2.at F.Uc (by decide)) (λ_=>ao Fz) (by exact Int.natCast_pos.mpr uw) (by exact Int.lt_toNat.mp XO);obtain⟨w,hw,e6⟩:=xV (es:=es) (mk:=mk) (kd:=kd) (J:=tl++[dF (i+1)]) (f:=ah (.int 3)) (m:=3) (c:=c+1+1) (fr:=cH) hj (X9 ⋯ (by rfl)) (K2.at F.Uc (by decide)) (λ_=>rfl) (by decide) (by decide);have s3:XK cH (dp (fC js (c+1:Nat)) es mk kd (tl++[dF (i+1)]))=.next (aE (aE cH 82 (.int w)) 49 (.int k)) (dp (fC js (c+3:Nat)) es mk kd (tl++[dF (i+1)])):=by
  exact iv (o4 e5 e6) rfl
 have K3:=K2.trans ((fM.set (js:=[74,79,50,49,82]) (fr:=cH) 82 (.int w) (by decide)).trans (.set 49 (.int k) (by decide)));have ZJ :(aE (aE cH 82 (.int w)) 49 (.int k)).lookup 50=some (.int (fo (i+1) n 1:Nat)):=b7 (by decide) (b7 (by decide) Fz);have ZK :(aE (aE cH 82 (.int w)) 49 (.int k)).lookup 74=some (nO x y i):=b7 (by decide) (b7 (by decide) ZH);have ZL :(aE (aE cH 82 (.int w)) 49 (.int k)).lookup 79=some (.int n):=b7 (by decide) (b7 (by decide) ZI);have ZM :(aE (aE cH 82 (.int w)) 49 (.int k)).lookup 49=some (.int k):=cV _ _ _;have Ue :(aE (aE cH 82 (.int w)) 49 (.int k)).lookup 82=some (.int w):=b7 (by decide) (cV _ _ _);generalize aE (aE cH 82 (.int w)) 49 (.int k)=ka at s3 K3 ZJ ZK ZL ZM Ue;refine rl (aK s3) ?_;generalize uv:dp (fC js (c+3:Nat)) es mk kd (tl++[dF (i+1)])=U;have s4:O9 (λ(w':Nat) (xU:eY)=>fM [82] ka xU) (λ(w':Nat) (xU:eY)=>xU.lookup 82=some (.int w')) (λ(w':Nat) (xU:eY)=>(w'=2->fo (i+1) n 1<=60\/10000<fo (i+1) n 1)) (λ(w':Nat) (xU:eY)=>XM ka U=.next xU U):=by
  have t1:bx .Eq (ai 82) (ah (.int 2)) ka U=.ok (decide ((w:Int)=2)) U:=(dD (ao Ue) rfl rfl).1;by_cases h2:w=2
  .have t2:jE .Lt .LtE (ah (.int 60)) (ai 50) (ah (.int 10000)) ka U=.ok (decide (60<fo (i+1) n 1/\fo (i+1) n 1<=10000)) U:=by
    refine(bL (show ah (V.int 60) ka U=.ok (.int 60) U from rfl)).trans ((bL (ao ZJ)).trans ?_);show(Res.ok (decide ((60:Int)<(fo (i+1) n 1:Nat))) U).andThen _=_;refine rl (aC ..) ?_;by_cases h:60<fo (i+1) n 1
    .refine rl (bN (by exact(Int.toNat_lt' uw).mp h))<|rl (ay rfl) ?_
     show Res.ok (decide (((fo (i+1) n 1:Nat):Int)<=10000)) U=_;congr 1;exact decide_eq_decide.mpr (by exact Vh h)
    .exact rl (cI (Ta ⋯))<|rl (cI (by exact not_and.mpr λa a_1=>h a)) rfl
   by_cases h:60<fo (i+1) n 1/\fo (i+1) n 1<=10000
   .refine⟨0,aE ka 82 (.int 0),.set _ _ (by decide),cV _ _ _,(λz=>absurd z (by decide)),?_⟩
    have ta:jF [(bx .Eq (ai 82) (ah (.int 2))),(jE .Lt .LtE (ah (.int 60)) (ai 50) (ah (.int 10000)))] ka U=.ok true U:=by
     unfold jF;rw[ME.bind,t1,bN (by exact Int.neg_inj.mp (aP Neg.neg (aP Nat.cast h2))),aC,ay rfl];unfold jF;rw[ME.bind,t2,bN h];rfl
    exact(fQ ta).trans rfl
   .refine⟨w,ka,.refl,Ue,(λ_=>by exact Vi h),?_⟩
    exact(fQ (rN (t1.trans (by exact rl (bN (by exact Int.neg_inj.mp (aP Neg.neg (aP Nat.cast h2)))) rfl)) (t2.trans (by exact rl (cI h) rfl)))).trans rfl
  .refine⟨w,ka,.refl,Ue,(λz=>absurd z h2),?_⟩
   exact(fQ (rO (t1.trans (by exact rl (cI (by exact Nat.ToInt.of_diseq rfl rfl h2)) rfl)))).trans rfl
 obtain⟨w',xU,K4,o82,hw2,s4⟩:=s4;refine rl (aK s4) ?_;have zX :(tl++[dF (i+1)]++[dF (i+1)]).length=tl.length+2:=by refine bY.trans ?_;exact rl bY rfl
 have C:=Jh D.H D.M (fC js (c+3:Nat)) (tl++[dF (i+1)]++[dF (i+1)]) (by refine rl D.hL ?_;have:=D.hi;exact q98 ⋯) (λz=>(xT D.kU 112 z).2 rfl);rw[zX,D.hL] at C;have SS:U.length=tl.length+25:=by
  refine rr uv ?_;show(tl++[dF (i+1)]).length+24=_;exact rl bY rfl
 have A:XG 23 (tl.length+2+24) (tl.length+25) (i+1) ls (λaz=>dp (fC js (c+3:Nat)) es (jL es.length) (tl.length+2+24) (tl++[dF (i+1)]++[dF (i+1)]++[.dict .tup az])) (nO x y i) n k w':=by
  refine⟨C,D.kU,λaz J=>?_,KA,hlen,D.uX,⟨by exact Nat.le.intro (id (Eq.symm hn)),by exact q80 ⋯ ⋯⟩,by exact Int.ofNat_lt.mp hk,P0,λz=>?_⟩
  .refine rl (jC ..) ?_
   show(tl++[dF (i+1)]++[dF (i+1)]++[.dict .tup az]++J)[tl.length+1]? = _;exact rl (cW ..)<|rl (cW ..)<|rl (cW ..)<|rl (List.getElem?_append_right (by exact Nat.le_add_right (List.length tl) 1))<|rl (Nat.add_sub_cancel_left ..) rfl
  .rcases hw2 z with h |h
   .exact .inl ⟨h,D.PN n (by lia) (by exact rl D.hL<|h) (by exact Vj hn)⟩
   .exact .inr h
 have R:Ak 23 (tl.length+25) (i+1) (λaz=>dp (fC js (c+3:Nat)) es (jL es.length) (tl.length+2+24) (tl++[dF (i+1)]++[dF (i+1)]++[.dict .tup az])) [] (U++[dF (i+1)]):=by
  refine⟨?_,λs hs=>⟨[],d7.nil,?_⟩,by exact rr SS<|f7 _ _⟩
  .exact rr uv<|rl (jC ..)<|⟨_,_,_,rfl⟩
  .exact rr uv<|rl (jC ..)<|rl (Mi D.M hs _ _ _ _ dg)<|rl zX<|aP _ (List.append_nil _).symm
 obtain⟨az,I,e⟩:=Jd A SS R;refine⟨xU,az,gR (aX ls n 1 k),K3.trans (K4.more (by decide)),I,?_⟩;have o74:xU.lookup 74=some (nO x y i):=K4.at ZK (by decide);have o79:xU.lookup 79=some (.int n):=K4.at ZL (by decide);have o49:xU.lookup 49=some (.int k):=K4.at ZM (by decide);have o78:xU.lookup 78=some (.ref 23):=K4.at (K3.at F.Ci (by decide)) (by decide);have o89:xU.lookup 89=some (.int 0):=K4.at (K3.at F.Qi (by decide)) (by decide);have ec:=(Jj (g:=kE) (ao (U:=U) o78) (ao o89) (ao o74) (ao o79) (ao o49) (ao o82)).trans e;have et:rX (o9 (bZ kE [(ai 78),(ai 89),(ai 74),(ai 79),(ai 49),(ai 82)])) xU U=.ok false (dp (fC js (c+3:Nat)) es (jL es.length) (tl.length+2+24) (tl++[dF (i+1)]++[dF (i+1)]++[.dict .tup az])++[.list (gR (aX ls n 1 k))]):=by
  unfold rX o9;rw[ME.bind,ME.bind,ec];rfl
 refine(fQ et).trans ?_;refine rl (jC ..) ?_;exact rl (cW ..)<|rl (cW ..)<|rl (cW ..) rfl
def ZN:MS:=(cP (dZ [71,53]) (bj [(dj [(bQ [] (aA 87) (bl (iO 40 (ai 88))) none (aU .Mod (x9 Ha [(ai 87)]) (ah (.int 5040)))),(ah (.int 0))]),(bZ (sO 3 jx) [])]))
def XQ:MS:=(cP (bp [89,90]) (bj [(ax 3 44 (lS 2) (ai 53) [(bj [(ah (.str [97]))])]),(ax 3 44 (lS 2) (ai 53) [(bj [(ah (.str [122]))])])]))
def XR:MS:=(bM (ax 3 36 eW (ai 53) [(ai 89),(ax 3 45 CW (ai 53) [(ah (.str [112])),(bj [(ai 89),(ai 89)])]),(bj [(ah (.str [116,111,108,100])),(ah (.str [116]))])]))
def Ug:MS:=(bM (ax 3 91 j6 (ai 53) []))
def ZO:MS:=(cP (bp [78,92]) (bj [(bZ (sO 1 iC) [(ai 53)]),(CK (cZ [(ah (.str [98])),(ah (.str [99]))]) (aU .Sub (ah (.int 1)) (aU .Mult (ah (.int 2)) (uZ (ah (.int 2))))))]))
def Mj:ME V:=(ax 3 44 (lS 2) (ai 53) [(bj [(cv (ai 92) (aU .Sub (ai 93) (ah (.int 1))))])])
def XS:ME V:=(bj [(ah (.str [116,111,108,100])),(ah (.str [116]))])
def PO:MS:=(fw (bx .Gt (ai 93) (ah (.int 0))) (aL (bM (ax 3 36 eW (ai 53) [Mj,(ai 89),XS])) Ug) bF)
def Fm:MS:=aL PO (aL XJ (aL Ub (aL XK (aL XM ZG))))
def XT:MS:=(df (aA 93) (iY (ah (.int 3))) Fm)
def ZP:MS:=(fw (rY [(bx .NotEq (ax 1 50 dS (ai 78) [(ai 90),(ah (.int 200))]) (ah (.int 0))),(bx .IsNot (ax 1 85 iQ (ai 78) [(ai 90),(ah (.int 200)),(ah (.int 0))]) (ah .none))]) (cp (ah (.bool false))) bF)
theorem Jl:C0=aL ZN (aL XQ (aL XR (aL Ug (aL ZO (aL XT ZP))))):=rfl
noncomputable def Jm:bw:=[.inst 3 [(27,.ref 2),(28,.ref 7),(29,.ref 11),(30,.ref 12),(31,.ref 13),(19,.ref 14),(32,.ref 15),(33,.int 0)],.inst 0 [(9,.ref 3),(11,.ref 4),(12,.ref 5),(13,.ref 6)],.list [],.dict .tup [],.list [],.list [],.inst 2 [(19,.ref 8),(20,.ref 9),(21,.ref 10)],
 .list [],.list [],.list [],.list [],.list [],.dict .tup [],.dict .int [],.list []]
theorem Jn (fr:eY)(h:O):bZ (sO 3 jx) [] fr [h]=.ok (.ref 1) (h::Jm):=by kernel_rfl
noncomputable def XU (Nk:V):eY:=[(71,.ref 0),(53,.ref 1),(88,Nk)]
def Mk (Nk:V):eY:=(90,.int 1) ::(89,.int 0)::XU Nk
theorem PQ (h:O)(Nk:V):aL XQ (aL XR Ug) (XU Nk) (h::Jm)=.next (Mk Nk) (h::Je []):=by kernel_rfl
theorem wD (a b c:MS):aL (aL a b) c=aL a (aL b c):=by
 funext fr U;unfold aL
 cases a fr U <;> rfl
theorem Cj (h:O)(Nk:V):bZ (sO 1 iC) [(ai 53)] (Mk Nk) (h::Je [])=.ok (.ref 23) (dp h [] .none 24 [.dict .tup []]):=by kernel_rfl
noncomputable def kJ (es:List Nat)(x:Nat)(os:bw):Prop:=∀h mk kd,(lS 2 [.ref 1,lt x] (dp h es mk kd os)).andThen (λv U=>eW [.ref 1,v,.int 0,rt] U)=.ok (.bool true) (dp h (es++[x]) mk kd (os++[.list [.int (3+es.length:Nat)],.list [],.list [.int 2]]))
noncomputable def i3 (es:List Nat):Prop:=∀h mk kd J,j6 [.ref 1] (dp h es mk kd J)=.ok .none (dp h es mk kd J)
theorem PR (a b c d e:O):kJ [] 98 [a,b,c,d,e]:=λ_ _ _=>by kernel_rfl
theorem PS (a b c d e:O):kJ [] 99 [a,b,c,d,e]:=λ_ _ _=>by kernel_rfl
theorem Ml (a b c d e d1 e1 f1 g1:O):kJ [98] 99 [a,b,c,d,e,.list [.int 3],.list [],.list [.int 2],d1,e1,f1,g1]:=λ_ _ _=>by kernel_rfl
theorem Mm (a b c d e d1 e1 f1 g1:O):kJ [99] 98 [a,b,c,d,e,.list [.int 3],.list [],.list [.int 2],d1,e1,f1,g1]:=λ_ _ _=>by kernel_rfl
theorem Mn:i3 [98]:=λ_ _ _ _=>by kernel_rfl
theorem Mo:i3 [99]:=λ_ _ _ _=>by kernel_rfl
theorem Jo:i3 [98,99]:=λ_ _ _ _=>by kernel_rfl
theorem Jp:i3 [99,98]:=λ_ _ _ _=>by kernel_rfl
theorem p6 {m:Nat}{h:O}{es:List Nat}{mk:V}(hm :([(27,.ref 2),(28,.ref 7),(29,.ref 11),(30,.ref 12),(31,.ref 13),(19,.ref 14),(32,.ref 15),(33,.int 0)]:List (Nat×V)).lookup m=none)(h53:fr.lookup 53=some (.ref 1)) :
  ax 3 m r (ai 53) fs fr (dp h es mk kd J) =(aS fs fr (dp h es mk kd J)).andThen λvs U=>r (.ref 1::vs) U:=by
 have hi:ij (dp h es mk kd J) 3 (.ref 1)=some (1,[(27,.ref 2),(28,.ref 7),(29,.ref 11),(30,.ref 12),(31,.ref 13),(19,.ref 14),(32,.ref 15),(33,.int 0)]):=rfl;simp only[ax,ME.bind,ao h53,aC,hi,hm,Option.isNone_none,if_true]
theorem Jq {x y z:Nat}{es:List Nat}{h:O}{mk:V}{os:bw}(F:LF x y fr)(Nj:fr.lookup 93=some (.int (j+1:Nat)))(hz:[x,y][j]? = some z)(T:kJ es z os)(S:i3 (es++[z])) :
  PO fr (dp h es mk kd os)=.next fr (dp h (es++[z]) mk kd (os++[.list [.int (3+es.length:Nat)],.list [],.list [.int 2]])):=by
 have t1:bx .Gt (ai 93) (ah (.int 0)) fr (dp h es mk kd os)=.ok (decide (((j+1:Nat):Int) > 0)) (dp h es mk kd os):=(dD (ao Nj) rfl rfl).1;have ea:bj [(cv (ai 92) (aU .Sub (ai 93) (ah (.int 1))))] fr (dp h es mk kd os)=.ok (lt z) (dp h es mk kd os):=by
  refine o5 ?_;refine(bL (ao F.XN)).trans ?_;rw[ME.bind,(bk (ao Nj) rfl),show AJ .Sub (.int (j+1:Nat)) (.int 1) fr (dp h es mk kd os)=.ok (.int (((j+1:Nat):Int) - 1)) (dp h es mk kd os) from rfl,show((j+1:Nat):Int) - 1 =(j:Int) by exact Int.sub_eq_iff_eq_add.mpr rfl,aC];have hj:j=0\/j=1:=by
   have:j<2:=by
    cases h2:decide (j<2) with
    |true=>exact of_decide_eq_true h2
    |false=>replace hz:=(List.getElem?_eq_none (by have:=of_decide_eq_false h2;simp only[List.length_cons,List.length_nil];exact Nat.le_of_not_lt this)).symm.trans hz;injection hz
   exact Yl ⋯
  rcases hj with rfl |rfl <;>(injection hz with hz;subst hz;rfl)
 have ep:Mj fr (dp h es mk kd os)=lS 2 [.ref 1,lt z] (dp h es mk kd os):=by
  refine(p6 rfl F.Ud).trans ?_;unfold aS aS;rw[ME.bind,ea];rfl
 have em:ax 3 36 eW (ai 53) [Mj,(ai 89),XS] fr (dp h es mk kd os)=.ok (.bool true) (dp h (es++[z]) mk kd (os++[.list [.int (3+es.length:Nat)],.list [],.list [.int 2]])):=by
  refine(p6 rfl F.Ud).trans ?_;rw[<- T h mk kd];unfold aS aS aS aS;rw[ME.bind,ep]
  cases lS 2 [.ref 1,lt z] (dp h es mk kd os) with
  |ok v U=>
   rw[aC,aC,ME.bind,ME.bind,ao F.Qi,aC,ME.bind,ME.bind];rfl
  |exc c U=>rfl
  |stuck=>rfl
 have s1:bM (ax 3 36 eW (ai 53) [Mj,(ai 89),XS]) fr (dp h es mk kd os)=.next fr (dp h (es++[z]) mk kd (os++[.list [.int (3+es.length:Nat)],.list [],.list [.int 2]])):=by
  exact oV em rfl
 have s2:Ug fr (dp h (es++[z]) mk kd (os++[.list [.int (3+es.length:Nat)],.list [],.list [.int 2]]))=.next fr (dp h (es++[z]) mk kd (os++[.list [.int (3+es.length:Nat)],.list [],.list [.int 2]])):=by
  have:ax 3 91 j6 (ai 53) [] fr (dp h (es++[z]) mk kd (os++[.list [.int (3+es.length:Nat)],.list [],.list [.int 2]]))=.ok .none (dp h (es++[z]) mk kd (os++[.list [.int (3+es.length:Nat)],.list [],.list [.int 2]])):=by
   refine(p6 rfl F.Ud).trans ?_;exact S _ _ _ _
  exact oV this rfl
 unfold PO;exact rl (fQ t1)<|rl (bN (by exact Int.ofNat_succ_pos j))<|rl (ay rfl)<|rl (aK s1)<|rl s2 rfl
theorem PT {x y:Nat}(Nj:fr.lookup 93=some (.int 0)):PO fr U=.next fr U:=by
 have t1:bx .Gt (ai 93) (ah (.int 0)) fr U=.ok false U:=(dD (ao Nj) rfl rfl).1;exact(fQ t1).trans rfl
theorem SV (x y:Nat):FE x y 0 [] [97]:=⟨PA,PE,by decide,rfl,by decide,λ_ _ h=>ui (us:=[.str [97]]) h rfl (by decide),SP⟩
theorem SW:FE 98 99 1 [98] [97,98]:=⟨PB,PF,by decide,rfl,by decide,λ_ _ h=>ui (us:=[.str [97],.str [98]]) h rfl (by decide),SQ⟩
theorem SX:FE 99 98 1 [99] [97,99]:=⟨PC,PG,by decide,rfl,by decide,λ_ _ h=>ui (us:=[.str [97],.str [99]]) h rfl (by decide),SR⟩
theorem PU:FE 98 99 2 [98,99] [97,98,99]:=⟨Md,Mf,by decide,rfl,by decide,λ_ _ h=>ui (us:=[.str [97],.str [98],.str [99]]) h rfl (by decide),Ji⟩
theorem PV:FE 99 98 2 [99,98] [97,98,99]:=⟨Me,Mg,by decide,rfl,by decide,λ_ _ h=>ui (us:=[.str [97],.str [98],.str [99]]) h rfl (by decide),Ji⟩
theorem xW {x y:Nat}{es:List Nat}(D:FE x y i es ls)(hj:js.length<=40)(hc:c<900){mk:V}(dg :∀U,ig .NotEq (jL es.length) mk U=some true)(F:LF x y fr)(h0:PO (aE fr 93 (.int i)) U=.next (aE fr 93 (.int i)) (dp (fC js c) es mk kd tl)) :
  Pc (λbC az us=>LF x y bC) (λbC az us=>Fm (aE fr 93 (.int i)) U=.next bC (dp (fC js (c+3:Nat)) es (jL es.length) (tl.length+26) (tl++[dF (i+1),dF (i+1),.dict .tup az,.list us]))) (λbC az us=>d7 (i+1) az):=by
 have K0:fM [74,79,50,49,82,93] fr (aE fr 93 (.int i)):=.set _ _ (by decide);have F0:=F.keep K0;obtain⟨bC,az,us,K,I,e⟩:=Jk D hj hc dg (kd:=kd) (tl:=tl) F0 (cV _ _ _);exact⟨bC,az,us,F0.keep (K.more (by decide)),by refine(aK h0).trans ?_;exact e,I⟩
theorem Mp {x y:Nat}{Uh Ui:List Nat}(D1:FE x y 1 [x] Uh)(D2:FE x y 2 [x,y] Ui)(T1 :∀a b c d e,kJ [] x [a,b,c,d,e])(T2 :∀a b c d e d1 e1 f1 g1,kJ [x] y [a,b,c,d,e,.list [.int 3],.list [],.list [.int 2],d1,e1,f1,g1])(S1:i3 [x])(S2:i3 [x,y])(hj:js.length<=40)(hc:c<100)(F:LF x y fr) :
  Sm (λbC tl az us=>LF x y bC) (λbC tl az us=>d7 3 az) (λbC tl az us=>XT fr (dp (fC js c) [] .none 24 [.dict .tup []])=.next bC (dp (fC js (c+9:Nat)) [x,y] (jL 2) (tl.length+24) (tl++[.dict .tup az]++[.list us]))):=by
 obtain⟨cA,k1,u1,F1,e1,_⟩:=xW (SV x y) hj (show c<900 by exact q1 ⋯ (by rfl)) (mk:=.none) (λ_=>rfl) (kd:=24) (tl:=[.dict .tup []]) F (PT (x:=x) (y:=y) (cV _ _ _));have e1:Fm (aE fr 93 (.int (0:Nat))) (dp (fC js c) [] .none 24 [.dict .tup []])=.next cA (dp (fC js (c+3:Nat)) [] (jL 0) 27 [.dict .tup [],dF 1,dF 1,.dict .tup k1,.list u1]):=e1;have b1:PO (aE cA 93 (.int (1:Nat))) (dp (fC js (c+3:Nat)) [] (jL 0) 27 [.dict .tup [],dF 1,dF 1,.dict .tup k1,.list u1])=.next (aE cA 93 (.int (1:Nat))) (dp (fC js (c+3:Nat)) [x] (jL 0) 27 [.dict .tup [],dF 1,dF 1,.dict .tup k1,.list u1,.list [.int 3],.list [],.list [.int 2]]):=
  Jq (z:=x) (j:=0) (F1.keep (.set _ _ (by decide))) (cV _ _ _) rfl (T1 (.dict .tup []) (dF 1) (dF 1) (.dict .tup k1) (.list u1)) S1
 obtain⟨cH,k2,u2,F2,e2,_⟩:=xW D1 hj (show c+3<900 by exact Yb ⋯ (by rfl)) (λ_=>rfl) F1 b1;have e2:Fm (aE cA 93 (.int (1:Nat))) (dp (fC js (c+3:Nat)) [] (jL 0) 27 [.dict .tup [],dF 1,dF 1,.dict .tup k1,.list u1])=.next cH (dp (fC js (c+6:Nat)) [x] (jL 1) 34 [.dict .tup [],dF 1,dF 1,.dict .tup k1,.list u1,.list [.int 3],.list [],.list [.int 2],dF 2,dF 2,.dict .tup k2,.list u2]):=e2;have b2:PO (aE cH 93 (.int (2:Nat))) (dp (fC js (c+6:Nat)) [x] (jL 1) 34 [.dict .tup [],dF 1,dF 1,.dict .tup k1,.list u1,.list [.int 3],.list [],.list [.int 2],dF 2,dF 2,.dict .tup k2,.list u2])=.next (aE cH 93 (.int (2:Nat))) (dp (fC js (c+6:Nat)) [x,y] (jL 1) 34 [.dict .tup [],dF 1,dF 1,.dict .tup k1,.list u1,.list [.int 3],.list [],.list [.int 2],dF 2,dF 2,.dict .tup k2,.list u2,.list [.int 4],.list [],.list [.int 2]]):=
  Jq (z:=y) (j:=1) (F2.keep (.set _ _ (by decide))) (cV _ _ _) rfl (T2 (.dict .tup []) (dF 1) (dF 1) (.dict .tup k1) (.list u1) (dF 2) (dF 2) (.dict .tup k2) (.list u2)) S2
 obtain⟨ka,k3,u3,F3,e3,I3⟩:=xW D2 hj (show c+6<900 by exact Yb ⋯ (by rfl)) (λ_=>rfl) F2 b2;have e3:Fm (aE cH 93 (.int (2:Nat))) (dp (fC js (c+6:Nat)) [x] (jL 1) 34 [.dict .tup [],dF 1,dF 1,.dict .tup k1,.list u1,.list [.int 3],.list [],.list [.int 2],dF 2,dF 2,.dict .tup k2,.list u2])=.next ka (dp (fC js (c+9:Nat)) [x,y] (jL 2) 41 [.dict .tup [],dF 1,dF 1,.dict .tup k1,.list u1,.list [.int 3],.list [],.list [.int 2],dF 2,dF 2,.dict .tup k2,.list u2,.list [.int 4],.list [],.list [.int 2],dF 3,dF 3,.dict .tup k3,.list u3]):=e3;refine⟨ka,[.dict .tup [],dF 1,dF 1,.dict .tup k1,.list u1,.list [.int 3],.list [],.list [.int 2],dF 2,dF 2,.dict .tup k2,.list u2,.list [.int 4],.list [],.list [.int 2],dF 3,dF 3],k3,u3,F3,I3,?_⟩;have el:XT fr (dp (fC js c) [] .none 24 [.dict .tup []])=dJ (aA 93) Fm [.int (0:Nat),.int (1:Nat),.int (2:Nat)] fr (dp (fC js c) [] .none 24 [.dict .tup []]):=rfl;refine el.trans ((dH rfl e1).trans ((dH rfl e2).trans ((dH rfl e3).trans ?_)));rfl
theorem Jr {x y:Nat}(D:FE x y 2 [x,y] ls){h:O}(F:LF x y fr)(I:d7 3 az) :
  fk (λaJ=>d7 3 aJ) (λaJ=>ZP fr (dp h [x,y] (jL 2) (tl.length+24) (tl++[.dict .tup az]++[.list us]))=.next fr (dp h [x,y] (jL 2) (tl.length+24) (tl++[.dict .tup aJ]++[.list us]))):=by
 have C:=Jh D.H D.M h tl (by refine rl D.hL ?_;decide) (λz=>(xT D.kU 112 z).2 rfl);rw[D.hL] at C;have key :∀az,d7 3 az->fk (λaJ=>d7 3 aJ) (λaJ=>dS [.ref 23,.int 1,.int 200] (dp h [x,y] (jL 2) (tl.length+24) (tl++[.dict .tup az]++[.list us]))=.ok (.int 0) (dp h [x,y] (jL 2) (tl.length+24) (tl++[.dict .tup aJ]++[.list us]))):=λaz I=>by
  have C1:=C [.list us];obtain⟨aJ,I',e⟩:=Pl C1 28 az I;obtain⟨mk,hg⟩:=C1.get;refine⟨aJ,I',?_⟩;have:=Dp C (J:=[.list us]) ⟨_,_,_,hg az⟩ (C1.Qd az 200 (by decide)) (C1.C8 az) e;rw[jC,jC] at this;exact this
 obtain⟨k1,I1,e1⟩:=key az I;obtain⟨k2,I2,e2⟩:=key k1 I1;have hg :∀az,lX 23 (dp h [x,y] (jL 2) (tl.length+24) (tl++[.dict .tup az]++[.list us])):=λaz=>⟨_,_,_,rfl⟩;refine⟨k2,I2,?_⟩;have n1:=ub (k:=0) (hg k1) e2 (.inr (by decide));rw[ay (by decide)] at n1;refine or_false (dD (((hU (g3:=ai 90) (hg az) (λ_ _ _=>rfl) F.Ci (ao F.PJ) rfl (ao F.PJ)).1).trans e1) rfl uh).1 ?_;exact(dD (op:=.IsNot) (g:=ah .none) (b:=.none) (c:=false) (((hU (g2:=ah (.int 200)) (g3:=ah (.int 0)) (hg k1) (λ_ _ _=>rfl) F.Ci (ao F.PJ) rfl rfl).2).trans n1) rfl rfl).1
theorem Fn {is:List Int}(hl:is.length<=63):Pa (λfr U=>C0 [(88,.list (is.map .int))] []=.next fr U) (λfr U=>fr.lookup 78=some (.ref 23)) (λfr U=>fr.lookup 89=some (.int 0)) (λfr U=>fr.lookup 90=some (.int 1)) (λfr U=>lX 23 U):=by
 obtain⟨js,ZQ⟩ :∃js,js =(is.take 40).map λi=>i.fmod 5040:=⟨_,rfl⟩;have hj:js.length<=40:=by rw[ZQ,cJ,List.length_take];exact Nat.min_le_left 40 is.length
 have w0:ZN [(88,.list (is.map .int))] []=.next (XU (.list (is.map .int))) (fC js 0::Jm):=by
  have ec:bQ [] (aA 87) (bl (iO 40 (ai 88))) none (aU .Mod (x9 Ha [(ai 87)]) (ah (.int 5040))) [(88,.list (is.map .int))] []=.ok (.list (js.map .int)) []:=by
   rw[ZQ,List.map_map];refine gy V.int (λi=>.int (i.fmod 5040)) (is.take 40) ?_ (λi _=>⟨_,rfl,rfl⟩) (by rw[List.length_take];exact Vn);have ez:cE (is.map V.int).length=true:=bN (by rw[cJ];exact q3 ⋯ (by rfl));have eu:iO 40 (ai 88) [(88,.list (is.map .int))] []=.ok (.list ((is.map .int).take 40)) []:=by
    show Res.cO (if cE (is.map V.int).length then some (V.list ((is.map .int).take 40)) else .none) _=_;rw[ez];rfl
   unfold bl;rw[ME.bind,eu,List.map_take];rfl
  have e1:dj [(bQ [] (aA 87) (bl (iO 40 (ai 88))) none (aU .Mod (x9 Ha [(ai 87)]) (ah (.int 5040)))),(ah (.int 0))] [(88,.list (is.map .int))] []=.ok (.ref 0) [fC js 0]:=by
   unfold dj aS aS;rw[ME.bind,ME.bind,ec];rfl
  exact iv (o4 e1 (Jn _ _)) rfl
 obtain⟨r,hr,e4⟩:=xV (es:=[]) (mk:=.none) (kd:=24) (J:=[.dict .tup []]) (f:=ah (.int 2)) (m:=2) (c:=0) (fr:=Mk (.list (is.map .int))) hj (by decide) rfl (λ_=>rfl) (by decide) (by decide);have w4 :∀x y,[x,y] =(if r=0 then [98,99] else [99,98])->ZO (Mk (.list (is.map .int))) (fC js 0::Je [])=.next ((92,.list [.str [x],.str [y]]) ::(78,.ref 23)::Mk (.list (is.map .int))) (dp (fC js (1:Nat)) [] .none 24 [.dict .tup []]):=λx y nQ=>by
  have e5:aU .Sub (ah (.int 1)) (aU .Mult (ah (.int 2)) (uZ (ah (.int 2)))) (Mk (.list (is.map .int))) (dp (fC js 0) [] .none 24 [.dict .tup []])=.ok (.int (1 - 2 * r)) (dp (fC js (1:Nat)) [] .none 24 [.dict .tup []]):=(bk rfl ((bk rfl e4).trans rfl)).trans rfl;have e6:CK (cZ [(ah (.str [98])),(ah (.str [99]))]) (aU .Sub (ah (.int 1)) (aU .Mult (ah (.int 2)) (uZ (ah (.int 2))))) (Mk (.list (is.map .int))) (dp (fC js 0) [] .none 24 [.dict .tup []])=.ok (.list [.str [x],.str [y]]) (dp (fC js (1:Nat)) [] .none 24 [.dict .tup []]):=by
   refine(bL (show cZ [(ah (.str [98])),(ah (.str [99]))] (Mk (.list (is.map .int))) (dp (fC js 0) [] .none 24 [.dict .tup []])=.ok (.list [.str [98],.str [99]]) (dp (fC js 0) [] .none 24 [.dict .tup []]) from rfl)).trans ((bL e5).trans ?_);have h2:r=0\/r=1:=q89 ⋯;rcases h2 with rfl |rfl <;>(cases nQ;rfl)
  exact iv (o4 (Cj _ _) e6) rfl
 have go :∀x y (Uh Ui:List Nat),[x,y] =(if r=0 then [98,99] else [99,98])->FE x y 1 [x] Uh->FE x y 2 [x,y] Ui->(∀a b c d e,kJ [] x [a,b,c,d,e])->(∀a b c d e d1 e1 f1 g1,kJ [x] y [a,b,c,d,e,.list [.int 3],.list [],.list [.int 2],d1,e1,f1,g1])->i3 [x]->i3 [x,y]->
   Pa (λfr U=>C0 [(88,.list (is.map .int))] []=.next fr U) (λfr U=>fr.lookup 78=some (.ref 23)) (λfr U=>fr.lookup 89=some (.int 0)) (λfr U=>fr.lookup 90=some (.int 1)) (λfr U=>lX 23 U):=λx y Uh Ui nQ D1 D2 T1 T2 S1 S2=>by
  obtain⟨fr5,tl,az,us,F,I,e7⟩:=Mp D1 D2 T1 T2 S1 S2 hj (show 1<100 by decide) (fr:=(92,.list [.str [x],.str [y]]) ::(78,.ref 23)::Mk (.list (is.map .int))) ⟨rfl,rfl,rfl,rfl,rfl,rfl⟩;obtain⟨aJ,_,e8⟩:=Jr D2 (h:=fC js (1+9:Nat)) (tl:=tl) (us:=us) F I;refine⟨fr5,dp (fC js (1+9:Nat)) [x,y] (jL 2) (tl.length+24) (tl++[.dict .tup aJ]++[.list us]),?_,F.Ci,F.Qi,F.PJ,⟨_,_,_,rfl⟩⟩;rw[Jl,aK w0,<- wD XR,<- wD XQ,aK (PQ (fC js 0) _),aK (w4 x y nQ),aK e7];exact e8
 by_cases h:r=0
 .exact go 98 99 _ _ (by rw[ay h]) SW PU PR Ml Mn Jo
 .exact go 99 98 _ _ (by rw[av h]) SX PV PS Mm Mo Jp
theorem Al {aO:Nat}{c:Int}(hg:lX aO U):dS [.ref aO,.int c,.int 201] U=.exc 4 U:=by
 obtain⟨x,y,z,hg⟩:=hg;have e:ax 1 60 d6 (ai 10) [(ai 34)] [(10,.ref aO),(41,.int c),(34,.int 201)] U=.exc 4 U:=(jl hg (λ_ _ _=>rfl) rfl rfl).trans rfl;show dB (pN [(10,.ref aO),(41,.int c),(34,.int 201)] U)=_;unfold pN aL bM cu;exact rl e rfl
theorem Mq {aO:Nat}{c:Int}(hg:lX aO U):iQ [.ref aO,.int c,.int 201,.int 0] U=.exc 4 U:=by
 have em:=Al (c:=c) hg;obtain⟨x,y,z,hg⟩:=hg;have e:ax 1 50 dS (ai 10) [(ai 41),(ai 34)] (nK aO c 201 0) U=.exc 4 U:=(jl hg (λ_ _ _=>rfl) rfl rfl).trans em;have et:uY (nK aO c 201 0) U=.exc 4 U:=by
  unfold uY rX jE;skip;show(((ax 1 50 dS (ai 10) [(ai 41),(ai 34)]).bind (λd=>λ_ U=>Res.cO (ig .Lt (.int 0) d U) U) (nK aO c 201 0) U).andThen λb U=>Res.ok (!b) U)=_;rw[ME.bind,e];rfl
 show dB (aL (fw uY (cp (ah .none)) bF) _ (nK aO c 201 0) U)=_;unfold aL fw cu;exact rl et rfl
theorem Mr {aO:Nat}(hg:lX aO U)(Ni:fr.lookup 78=some (.ref aO))(h89:fr.lookup 89=some (.int 0)):ax 1 85 iQ (ai 78) [(ai 89),(ah (.int 201)),(ah (.int 0))] fr U=.exc 4 U:=
 ((hU (g2:=ah (.int 201)) (g3:=ah (.int 0)) hg (λ_ _ _=>rfl) Ni (ao h89) rfl rfl).2).trans (Mq hg)
theorem Js {aO:Nat}(hg:lX aO U)(Ni:fr.lookup 78=some (.ref aO))(ZR:fr.lookup 90=some (.int 1)):ax 1 50 dS (ai 78) [(ai 90),(ah (.int 201))] fr U=.exc 4 U:=by
 refine((hU (g3:=ai 90) hg (λ_ _ _=>rfl) Ni (ao ZR) rfl (ao ZR)).1).trans ?_;exact Al hg
set_option tactic.hygienic true
theorem Fo {r:List Stmt}{Q:Flow->Shared->Prop} :∀(l:List Stmt) {Γ:Ctx} (Ju:Γ.In A) (p:Pos) (s:Shared),
  Sem.wp M Γ (execs l env) (λf p' s'=>match f with |.next=>wpAny M A (execs r env) Q E s' |f=>Q f s') (λe _ s'=>E e s') p s->Sem.wp M Γ (execs (l++r) env) (λf _ s'=>Q f s') (λe _ s'=>E e s') p s:=by
 intro y
 induction y with
 |nil=>
  intro _ Ju p s h;exact h _ p Ju
 |cons st l ih=>
  intro Γ Ju p s h;rw[List.cons_append,execs_cons,Sem.wp_bind'];rw[execs_cons,Sem.wp_bind'] at h;refine Sem.wp_mono M Γ _ (λf p' s' h'=>?_) (λ_ _ _ h'=>h') _ _ h
  cases f <;> first |exact ih Ju p' s' h' |exact h'
theorem Fp {l r:List Stmt}{Q:Flow->Shared->Prop}(h:wpAny M A (execs l env) (λf s'=>match f with |.next=>wpAny M A (execs r env) Q E s' |f=>Q f s') E s):wpAny M A (execs (l++r) env) Q E s:=
 λΓ p Ju=>Fo l Ju p s (h Γ p Ju)
theorem Ms :(kP 45).body =(kP 45).body.dropLast++(kP 45).body.drop 7:=by kernel_rfl
theorem wF {h h':Heap}(C:CodeHd h 540 538)(k :∀b o,h.get? b=some o->bI o=false->h'.get? b=some o):CodeHd h' 540 538:=by
 obtain⟨o,vs,Hy,tf,zt,tg,Sb,Hz,tt,q1,q2,q3,q⟩:=C;exact⟨o,vs,Hy,tf,zt,tg,Sb,Hz,tt,k _ _ q1 (aP eJ q3),q2,q3,q⟩
theorem Ds:W.h₀=hideAll dt.2.1.heap [538]:=by show hW=_;unfold hW;rfl
theorem SY (hn:iL.name = "law") :∀nR,FL dt.1 nR dt.2.1 dt.2.2.1 dt.2.2.2:=by
 intro nR G ae fa o pm cd doc dV kV ho hd YI hD ZS hg args W2 as XW XX hrd Yt ya;obtain⟨Rw,⟨os,XY⟩,vT,PW,oL,fL,x8,hfL,hcL⟩:=ae;obtain⟨KX,F,hKn⟩:=JO Rw
 wrow_args XW XX hrd Yt ya
 rename_i is hs Nl RI TY Ap w4 w3 a ms w0 hL ra w1 r0 hI hr hlen ZT;have hfa :(541:Addr)=fa:=by
  rw[hn,mg_of KX G.T.g F.ex.law] at ZS;injection ZS with e;injection e
 subst hfa;have gk :∀b o,dt.2.1.heap.get? b=some o->b≠538->(hideAll dt.2.1.heap [538]).get? b=some o:=λb o e hb=>hideAll_get [538] e λz=>hb (dM z);have QV :∀{b:Addr} {m:Str->Option Value},dt.2.1.heap.Ns b m->b≠538->(hideAll dt.2.1.heap [538]).Ns b m:=λ⟨o,es,ep,e,r⟩ hb=>⟨o,es,ep,gk _ _ e hb,r⟩;have ZU:KW.In (hideAll dt.2.1.heap [538]):=λb o e=>gk b o (KX b o e) λz=>by rw[z,hKn] at e;injection e
 have TR:TopRead i6 (looseW i6 []) dt.2.2.1 dt.2.2.2 (hideAll dt.2.1.heap [538]):=by
  have T:=topRead_of G.T;obtain⟨mc,q1,q2⟩:=T.nolimit;exact⟨QV T.g (by decide),QV T.b (by decide),⟨mc,QV q1 (by decide),q2⟩,T.builtins,T.free⟩
 have HB :(hideAll dt.2.1.heap [538]).BuiltinsAt dt.2.2.1 538:=by
  obtain⟨bm,ob,b1,b2,b3,b4,b5,b6⟩:=G.T.bmain;have n1:bm≠538:=λz=>by rw[z,PW] at b3;injection b3 with b3;subst b3;injection b4
  refine⟨bm,ob,b1,b2,λz=>?_,n1,gk _ _ b3 n1,b4,b5,b6⟩;obtain⟨o,es,ep,e,r,_⟩:=G.T.g;rw[<- z,b3] at e;injection e with e;subst e;rw[b6] at r;injection r
 rw[<- Ds] at gk ZU TR HB;have x:dI:=⟨⟨ZU,⟨os,gk _ _ XY (by decide)⟩,TR⟩,F⟩;obtain⟨bC,bB,XZ,Ci,Qi,PJ,hC⟩:=Fn (is:=is) (q65 ⋯);have room:rW (213+1) callerA []:=⟨rfl,rfl,by decide,by decide⟩;have S:St dW.nil [] dt.2.1:=⟨⟨λb o e=>of_hideAll _ (Ds▸e),x.O,λb h=>(by cases h),λb h=>(by cases h),List.nodup_nil,rfl,λi o p h=>(by cases i <;> cases h)⟩,rfl,rfl⟩
 have live:iV [] dW.nil dt.2.1.heap:=λe h=>(by cases h);obtain⟨ob,Wi,X0,ne,Oa⟩:=hL;have rv:aD dW.nil dt.2.1.heap [.list (is.map .int)] [.ref a]:=.cons (.list Wi X0 Oa (λh=>by cases h) (pb hI)) .nil;obtain⟨ol,fd,kX,GD,e1,e2,e3,e4,e5,e6,e7,e8,e9⟩:=(x.fn 45).fd;have H:=CT (i:=45) [88] (by kernel_rfl) e1 e2 e3 e4 e5 e6 e7 e9;have S6:fd.code=.ref 540:=by
  have:=KX _ _ kX;rw[show kA 45=541 from rfl,x8] at this;injection this with this;subst this;rw[hfL] at GD;injection GD with GD;subst GD;exact hcL
 refine enter_call (kn_post (tabs:=[(540,538)]) (λq hq=>by cases dM hq;exact⟨vT,PW⟩) (λ_ _=>rfl) (sM kX GD H room S live rv rfl λenv s2 ok bJ ZV Ba S1 F1 x1 newD Uj=>codeAny_func ?_));have C2:CodeHd s2.heap 540 538:=wF vT λb o e q=>x1.keep b o e (λz=>by cases z) q;have P2:s2.heap.get? 538=some (tabObj #[]):=x1.keep _ _ PW (λz=>by cases z) rfl;rw[Ms];refine Fp (Si x (n:=213) (by decide) ⟨callerA.deeper env,env,[env]⟩ ok bJ dW.nil [] [(88,.list (is.map .int))] s2 S1 F1 _ _ ?_);rw[XZ];intro qI s3 S3 x3 F3;have C3:CodeHd s3.heap 540 538:=wF C2 λb o e q=>x3.keep b o e (λz=>by cases z) q;have P3:s3.heap.get? 538=some (tabObj #[]):=x3.keep _ _ P2 (λz=>by cases z) rfl;have ZW:W.h₀.get? 538=none:=by rw[Ds];exact hideAll_none [538] (.head _)
 have hx:env.scope.names.lookup (ofString "_law_is_refused")=some .globalImplicit:=by rw[bJ];kernel_rfl
 have hl:=(rfl :(kP 45).body.drop 7 =(kP 45).body.drop 7)
 conv at hl=>rhs;whnf
 rw[hl];refine wpAny_execs_cons (wpAny_Return_some (BoolOp_and (tP (x:=x) (n:=211) (dq:=[78,90]) (fe:=ax 1 50 dS (ai 78) [(ai 90),(ah (.int 201))]) ok S3 F3 hx (x.ns 30) (x.ns 20) (ZV.trans S6) C3 P3 trivial rfl ZW HB (zP _ ?_)
  (au (c:=1) (m:=50) (eV x 78) (ag (λ_=>rfl) (eV x 90) (ag (λ_=>rfl) aq aj)) (λ_=>rfl) (pO x (Nat.le_of_ble_eq_true Nl)) (x.cg 1) (br rfl) rfl (mo (x.find 40) (x.fn 32)) (λ_=>⟨_,rfl⟩))
  (Js hC (by rw[fU (by decide)];exact Ci) (by rw[fU (by decide)];exact PJ)) (x.fn 46) λyK s4 c4 S4 F4 P4 C4=>?_)))
 .rw[bJ];kernel_rfl
 refine wpAny_truthy_bool ?_;refine BoolOp_one (tP (x:=x) (n:=211) (dq:=[78,89]) (fe:=ax 1 85 iQ (ai 78) [(ai 89),(ah (.int 201)),(ah (.int 0))]) ok S4 F4 hx (x.ns 30) (x.ns 20) (ZV.trans S6) C4 P4 ?_ ?_ ZW HB (zP _ ?_)
  (au (c:=1) (m:=85) (eV x 78) (ag (λ_=>rfl) (eV x 89) (ag (λ_=>rfl) aq (ag (λ_=>rfl) aq aj))) (λ_=>rfl) (zM x (Nat.le_of_ble_eq_true Nl)) (x.cg 1) (br rfl) rfl (mo (x.find 46) (x.fn 36)) (λ_=>⟨_,rfl⟩))
  (Mr hC (by rw[fU (by decide)];exact Ci) (rl (fU (by decide) ..)<|Qi)) (x.fn 46) λGz s5 c5 S5 F5 P5 C5=>?_)
 .exact trivial
 .kernel_rfl
 .refine rl bJ ?_;kernel_rfl
 refine⟨⟨.inl ⟨.bool true,.bool true,[],rfl,λcls=>?_,.bool true,?_,λ_=>⟨List.nodup_nil,λa h=>by cases h⟩⟩,λb o e=>S5.heap.base b o (rl Ds<|e),S5.os,S5.gens.trans hg⟩,⟨_,P5⟩,trivial⟩
 .rfl
 .wrow_post
theorem S7 (hn:iL.name = "law"):WalkO i6 [] (XL i6 []) YP gn.row.toRowW iL [] λf vs=>PySem.call f vs:=Nu (SY hn)
theorem X3:gn.wellSaid=true:=by kernel_rfl
theorem Fq:defOf i6 gn.row.name=some (iL,[]):=by kernel_rfl
theorem Am:iL.name = "law":=by kernel_rfl
theorem hp_:gn.row.prog.theDef gn.row.name=some (iL.params,iL.body,iL.scope):=by kernel_rfl
theorem hk_:kwWritten? iL.params.kwonlyargs iL.params.kw_defaults=some []:=by kernel_rfl
theorem ok_ :(chainsOk i6&&opensWell gn.row.prog&&(frees gn.row.toRowW&&gn.row.within.isEmpty))=true:=by decide +kernel
theorem S8:gn.row.prog.bare:=⟨rfl,rfl,rfl,rfl,rfl,by decide +kernel⟩
theorem hw_:gn.row.toRowW.promised:=by w_witness2
theorem Jt (left:LeftO gn.row.prog i6 [] (λs=>xlAt i6 [] s&&recOk (RowW.records gn.row.toRowW) s) Yf Ya 7214):gn.Holds:=
 holds_law X3 λs=>holds_open (q:=i6) (loose:=[]) (Xt:=λs=>xlAt i6 [] s&&recOk (RowW.records gn.row.toRowW) s) (XP:=XL i6 []) (Yf:=Yf) (Ya:=Ya) (YP:=YP) (N:=7214) left Xn Ln
  (λs e=>xl_of s (cM e).1) XL.keeps Fq hp_ hk_ (λs e=>recFacts_of (cM e).2) rfl s ok_ S8 hw_ (S7 Am)
theorem Mt {p:Program}{x:Option (Flow×SharedT×Code×Pos)}{r:Shared}(h:NC p w x=some r) :
  ∃s' c' p',x=some (.next,s',c',p')/\topRun treeTable p w 11 (some (.ref 6)) 2 s'.abs ⟨doneF .next,c',p',[topFrame q0]⟩=some r:=by
 unfold NC at h
 split at h
 .rename_i s' c' p';exact⟨s',c',p',rfl,h⟩
 .cases h
theorem Fs:LeftO gn.row.prog i6 [] (λs=>xlAt i6 [] s&&recOk (RowW.records gn.row.toRowW) s) Yf Ya 7214:=JP QH λw os=>by
 obtain⟨fS,hs,X5⟩:=Option.map_eq_some_iff.mp (QJ w os);obtain⟨r,hr,PN⟩:=Option.bind_eq_some_iff.mp hs;obtain⟨s',c',p',e1,e2⟩:=Mt hr;have h4:=topRun_mono (7214 - (12+(1+(4000+2)))) _ _ _ _ (go_top (VQ w os) (piece_block (NB w os) (Dx (segRun_of e1) e2)));rw[show 12+(1+(4000+2))+(7214 - (12+(1+(4000+2))))=7214 from rfl] at h4;have hz:=QI w os;simp only[Prod.mk.injEq] at hz;obtain⟨z1,z2,z3⟩:=hz;have t:topFrom treeTable kZ w 7214 (SB w os)=some fS:=by
  unfold topFrom;rw[z1,z2,z3,h4];exact PN
 exact(aP (Option.map _) t).trans (aP some X5)
theorem X6:gn.Holds:=Jt Fs
end Mine
end
theorem PySem.Challenge.cw_sa0043_01_holds : PySem.Challenge.rw_sa0043_01.Holds :=
  Mine.X6
