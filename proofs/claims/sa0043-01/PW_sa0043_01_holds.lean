import PyProof.Rows.All
import Wide.All
import OpenK.AllK
import Wide.FinOn
import KE.KLam
import PySem.Challenge.RW_sa0043_01
set_option Elab.async false
set_option linter.all false
set_option autoImplicit false
set_option maxRecDepth 100000
set_option maxHeartbeats 8000000
noncomputable section
namespace Mine
open PySem PySem.W PyProof.Rows
open PySem.Str (ofString)
variable {b Ng:Bool}{Y β:Type}{l:List Env}{G:Prop}{o ox oS:Obj}{c i k n N kd j kk L nn ep first:Nat}{d e it S fa:Addr}{m mv mx my mi mu mm:Value}{p:Addr×Addr}{s s' s1 s0:Shared}{t:SetTable}{w:World}{env:Env}{pos kp sp np Am tp qD:Pos}{h h' B h1 h0:Heap}{ms wz:List Value}{D' F H:List Addr}{A:Around}{R:Result->Shared->Prop}{as:List Y}{bs:List β}{ks:List (Int×Value)}{sc fj jO:Scope}{op:CmpOp}{prog:Program}{tk:Tok}{is dq params ss ls:List Nat}{M:Model}{body x8:List Stmt}{QF:Flow->Shared->Prop}{C:Bool->Shared->Prop}{dd:Option Addr}{fd:FuncData}{col:Option Bool}{Fz:String}{es:Array (Int×Value)}{ps:Array Value}{dy:List (Nat×Nat)}{js:List Int}
abbrev av:=@wpAny_pure
abbrev bR:=@Heap.get?_push_of_some
theorem cK {a:Bool}(h:(a&&b)=true):a=true/\b=true:=Bool.and_eq_true_iff.mp h
abbrev cR:=@PyProof.Rows.seqObj
theorem b7 {a b:Y}{l:List Y}(h:a∈b::l):a=b\/a∈l:=List.mem_cons.mp h
abbrev ax:=@if_neg
abbrev bN:=@decide_eq_true
abbrev aA:=@if_pos
abbrev cW:=@List.append_assoc
abbrev aR:=@congrArg
abbrev cC:=@Heap.get?_push_size
abbrev aY:=@wpAny_bind
abbrev cX:=@Nat.le_of_add_left_le
abbrev bY:=@List.length_append
abbrev cj:=@Nat.lt_of_le_of_lt
theorem dM {a b:Y}(h:a∈[b]):a=b:=List.mem_singleton.mp h
abbrev cH:=@decide_eq_false
abbrev cL:=@List.length_map
abbrev dP:=@Heap.SameBut.update
abbrev dN:=@Nat.succ_le_of_lt
abbrev cP:=@wpAny_holding
abbrev cI:=@Heap.lt_size
theorem fD {a:Bool}(h:a=true/\b=true):(a&&b)=true:=Bool.and_eq_true_iff.mpr h
theorem dz {f:Y->β}{b:β}{l:List Y}(h:b∈l.map f):∃a,a∈l/\f a=b:=List.mem_map.mp h
abbrev eG:=@List.mem_cons_self
abbrev fE:=@List.mem_cons_of_mem
abbrev cA:=@wpAny_mono
abbrev eZ:=@Array.length_toList
abbrev fF:=@wpAny_call_entry
abbrev gA:=@List.length_singleton
abbrev bZ:=@Nat.le_trans
noncomputable abbrev iN:=Value->Shared->Prop
variable {E Q:iN}
set_option tactic.hygienic false
theorem cq {P:Prop}(h :∀G:Prop,(P->G)->G):P:=h P id
@[elab_as_elim] theorem rl.{u} {Y:Sort u} {a b:Y} {P:Y->Prop} (h:a=b) (k:P b):P a:=Eq.ndrec (motive:=P) k h.symm
@[elab_as_elim] theorem rr.{u} {Y:Sort u} {a b:Y} {P:Y->Prop} (h:b=a) (k:P b):P a:=Eq.ndrec (motive:=P) k h
noncomputable def Nx (M:PySem.Model)(A:PySem.Around)(f:Y->PySem.Sem β)(Q:β->PySem.Shared->Prop)(E:PySem.Value->PySem.Shared->Prop)(a:Y)(s:PySem.Shared):Prop:=PySem.wpAny M A (f a) Q E s
theorem wb {M:PySem.Model}{A:PySem.Around}{E:PySem.Value->PySem.Shared->Prop}{s:PySem.Shared}{m:PySem.Sem Y}{f:Y->PySem.Sem β}{Q:β->PySem.Shared->Prop}(h:PySem.wpAny M A m (Nx M A f Q E) E s):PySem.wpAny M A (m >>= f) Q E s:=PySem.wpAny_bind h
section
theorem aT {o:Option Y}{f:Y->Option β}{b:β}(e:o.bind f=some b)(k :∀a,o=some a->f a=some b->G):G:=
 match o,e,k with
 |some a,e,k=>k a rfl e
theorem dh {o:Option Y}{f:Y->β}{b:β}(e:o.map f=some b)(k :∀a,o=some a->f a=b->G):G:=
 match o,e,k with
 |some a,e,k=>k a rfl (Option.some.inj e)
theorem di {c:Prop}[h:Decidable c]{o:Option Y}{b:Y}(e :(if c then o else none)=some b)(k:c->o=some b->G):G:=
 match h,e,k with
 |.isTrue hc,e,k=>k hc e
end
inductive V where
 |none |bool (b:Bool) |int (i:Int) |str (s:List Nat)
 |tup (vs:List V) |list (vs:List V) |ref (i:Nat)
 deriving Inhabited
variable {u x y v v' hi lv:V}{vs ws ys us bh dQ:List V}{xs:List (List V×Addr×Value)}{ay aJ bA:List (V×V)}
noncomputable def V.P8:V->Bool |.none=>true |_=>false
noncomputable def V.P9 (a:Bool):V->Bool |.bool b=>a == b |_=>false
noncomputable def V.T8 (a:Int):V->Bool |.int b=>decide (a=b) |_=>false
noncomputable def V.T9 (a:List Nat):V->Bool |.str b=>a == b |_=>false
noncomputable def V.Ua (f:List V->Bool):V->Bool |.tup b=>f b |_=>false
noncomputable def V.Qa (f:List V->Bool):V->Bool |.list b=>f b |_=>false
noncomputable def V.Ub (a:Nat):V->Bool |.ref b=>Nat.beq a b |_=>false
noncomputable def V.Uc:List V->Bool |[]=>true |_::_=>false
noncomputable def V.Qb (f:V->Bool)(g:List V->Bool):List V->Bool |[]=>false |b::bs=>f b&&g bs
mutual
noncomputable def V.beq:V->V->Bool
 |.none=>V.P8
 |.bool a=>V.P9 a
 |.int a=>V.T8 a
 |.str a=>V.T9 a
 |.tup a=>V.Ua (V.x9 a)
 |.list a=>V.Qa (V.x9 a)
 |.ref a=>V.Ub a
noncomputable def V.x9:List V->List V->Bool
 |[]=>V.Uc
 |a::as=>V.Qb (V.beq a) (V.x9 as)
end
theorem V.beq_iff (a:V) :∀b:V,V.beq a b=true↔a=b:=
 V.rec (motive_1:=λa=>∀b:V,V.beq a b=true↔a=b) (motive_2:=λa=>∀b:List V,V.x9 a b=true↔a=b)
  (λb=>⟨λh=>(by cases b <;> first |rfl |injection h),λh=>h▸rfl⟩)
  (λa b=>⟨λh=>(by cases b <;> first |exact aR V.bool (beq_iff_eq.mp h) |injection h),λh=>h▸beq_self_eq_true a⟩)
  (λa b=>⟨λh=>(by cases b <;> first |exact aR V.int (of_decide_eq_true h) |injection h),λh=>h▸bN rfl⟩)
  (λa b=>⟨λh=>(by cases b <;> first |exact aR V.str (beq_iff_eq.mp h) |injection h),λh=>h▸beq_self_eq_true a⟩)
  (λa ih b=>⟨λh=>(by cases b <;> first |exact aR V.tup ((ih _).mp h) |injection h),λh=>h▸(ih a).mpr rfl⟩)
  (λa ih b=>⟨λh=>(by cases b <;> first |exact aR V.list ((ih _).mp h) |injection h),λh=>h▸(ih a).mpr rfl⟩)
  (λa b=>⟨λh=>(by cases b <;> first |exact aR V.ref (Nat.eq_of_beq_eq_true h) |injection h),λh=>h▸Nat.beq_refl a⟩)
  (λb=>⟨λh=>(by cases b <;> first |rfl |injection h),λh=>h▸rfl⟩)
  (λa as ia Nh b=>⟨λh=>(by
   cases b with
   |nil=>injection h
   |cons b bs=>exact(ia b).mp (cK h).1▸(Nh bs).mp (cK h).2▸rfl),λh=>h▸fD ⟨(ia a).mpr rfl,(Nh as).mpr rfl⟩⟩) a
theorem V.Cg (a b:Int):V.beq (.int a) (.int b)=decide (a=b):=rfl
theorem V.JF (a b:List Nat):V.beq (.str a) (.str b) =(a == b):=rfl
instance V.decEq:DecidableEq V:=λa b=>
 match h:V.beq a b with
 |true=>isTrue ((V.beq_iff a b).mp h)
 |false=>isFalse λe=>by rw[(V.beq_iff a b).mpr e] at h;cases h
noncomputable def V.fold (n:Y)(b:Bool->Y)(i:Int->Y)(s:List Nat->Y)(t l:β->Y)(r:Nat->Y)(e:β)(c:Y->β->β)(v:V):Y:=
 V.rec (motive_1:=λ_=>Y) (motive_2:=λ_=>β) n b i s (λ_=>t) (λ_=>l) r e (λ_ _=>c) v
noncomputable def V.uT (n:Y)(b:Bool->Y)(i:Int->Y)(s:List Nat->Y)(t l:β->Y)(r:Nat->Y)(e:β)(c:Y->β->β)(vs:List V):β:=
 V.rec_1 (motive_1:=λ_=>Y) (motive_2:=λ_=>β) n b i s (λ_=>t) (λ_=>l) r e (λ_ _=>c) vs
def V.plain:V->Bool:=V.fold true (λ_=>false) (λ_=>true) (·.all (· < 0x110000)) id id (λ_=>false) true (·&&·)
def V.cS:List V->Bool:=V.uT true (λ_=>false) (λ_=>true) (·.all (· < 0x110000)) id id (λ_=>false) true (·&&·)
def V.depth:V->Nat:=V.fold 0 (λ_=>0) (λ_=>0) (λ_=>0) (· + 1) (· + 1) (λ_=>0) 0 max
def V.cv:List V->Nat:=V.uT 0 (λ_=>0) (λ_=>0) (λ_=>0) (· + 1) (· + 1) (λ_=>0) 0 max
theorem V.ya (v:V)(vs:List V):V.cv (v::vs)=max (V.depth v) (V.cv vs):=rfl
theorem V.Dr (v:V)(vs:List V):V.depth v<=V.cv (v::vs)/\V.cv vs<=V.cv (v::vs):=⟨Nat.le_max_left ..,Nat.le_max_right ..⟩
theorem V.lZ (vs:List V):V.depth (.tup vs)=V.cv vs+1:=rfl
inductive DK where |int |str |tup
 deriving DecidableEq
inductive O where
 |list (vs:List V)
 |dict (k:DK) (ay:List (V×V))
 |inst (c:Nat) (fs:List (Nat×V))
 deriving Inhabited
noncomputable abbrev eY:=List (Nat×V)
variable {fr Fp bC jC cz cG:eY}
noncomputable abbrev bw:=List O
variable {P:List (V×V)->bw}{U bB bq xT J bS tl:bw}{I:bw->Prop}
inductive Res (Y:Type) where
 |ok (a:Y) (U:bw)
 |exc (c:Nat) (U:bw)
 |stuck
variable {g r:List V->bw->Res V}
noncomputable abbrev ME (Y:Type):=eY->bw->Res Y
variable {fs:List (ME V)}{ft:ME Bool}{fi:ME (List V)}{test:Option (ME Bool)}{iw fe:ME V}
noncomputable def ah (a:Y):ME Y:=λ_ U=>.ok a U
noncomputable def ie:ME Y:=λ_ _=>.stuck
noncomputable def Res.andThen (r:Res Y)(f:Y->bw->Res β):Res β:=match r with
 |.ok a U=>f a U
 |.exc c U=>.exc c U
 |.stuck=>.stuck
def ME.bind (m:ME Y)(f:Y->ME β):ME β:=λfr U=>(m fr U).andThen λa bB=>f a fr bB
noncomputable def Res.cN (o:Option Y)(U:bw):Res Y:=match o with |some a=>.ok a U |.none=>.stuck
inductive uh where
 |next (fr:eY) (U:bw)
 |brk (fr:eY) (U:bw)
 |ret (v:V) (U:bw)
 |exc (c:Nat) (fr:eY) (U:bw)
 |stuck
noncomputable abbrev MS:=eY->bw->uh
variable {fb:MS}
section
variable {a b d e f g l m p q r s t u w x y z K:Nat}
theorem SR:1+(i:Int) * 1 =((i+1:Nat):Int):=(aR (1 + ·) (Int.mul_one _)).trans (Int.add_comm _ _)
theorem ZM :((s:Int) - (1+(i:Int) * 1)).toNat=s - (i+1):=(aR (λz=>((s:Int) - z).toNat) SR).trans (Int.toNat_sub s (i+1))
theorem ZN :(1+(i:Int) * 1).toNat=i+1:=aR Int.toNat SR
theorem ZO :((s:Int) - ((t+1:Nat):Int)+2 - 1).toNat=s - t:=
 (aR Int.toNat ((Int.add_sub_assoc _ 2 1).trans ((aR (· + 1) (Int.sub_sub (s:Int) t 1).symm).trans (Int.sub_add_cancel ((s:Int) - t) 1)))).trans (Int.toNat_sub s t)
theorem ZP :((s:Int) - (t:Int)+2 - 1).toNat=s+1 - t:=(aR Int.toNat ((Int.add_sub_assoc _ 2 1).trans (Int.add_right_comm (s:Int) (-t) 1))).trans (Int.toNat_sub (s+1) t)
theorem ZQ (h:a - b=k+1):a - (b+1)=k:=(Nat.sub_sub a b 1).symm.trans (aR Nat.pred h)
theorem XS (h:K - m<f+1)(h2:m<K):K - (m+1)<f:=Nat.lt_of_lt_of_le (Nat.sub_succ_lt_self _ _ h2) (Nat.le_of_lt_succ h)
theorem Ud (h:K - m<f+1)(h0:m<=p)(h2:p<K):K - (p+1)<f:=XS (cj (Nat.sub_le_sub_left h0 K) h) h2
theorem XT (h:n<=s) :((s - n:Nat):Int) =(s:Int) - n:=Int.ofNat_sub h
theorem Ue (h:n<s) :((s - n:Nat):Int) =(s:Int) - n:=Int.ofNat_sub (Nat.le_of_lt h)
theorem Ug (h :¬s<n) :((s - n:Nat):Int) =(s:Int) - n:=Int.ofNat_sub (Nat.le_of_not_lt h)
theorem Qc (h :¬s<n) :(s:Int) - n =((s - n:Nat):Int):=(Ug h).symm
theorem Uh (h:t≠0) :(t:Int) - 1 =((t - 1:Nat):Int):=(Int.ofNat_sub (Nat.pos_of_ne_zero h)).symm
theorem Ui (h:n+1<t):n<t - 1:=Nat.lt_sub_of_add_lt h
theorem Uj (h:t<=s):s=s - t+t:=(Nat.sub_add_cancel h).symm
theorem Uk (h:1<=t):d+t - (d+m+1)<t:=cj (Nat.le_of_eq ((aR (d+t - ·) (Nat.add_assoc d m 1)).trans (Nat.add_sub_add_left ..))) (Nat.sub_lt h (Nat.succ_pos _))
theorem Ul (h :¬k<w)(e:k - w=a+l):k=a+(l+w):=((Nat.sub_add_cancel (Nat.le_of_not_lt h)).symm.trans (aR (· + w) e)).trans (Nat.add_assoc ..)
theorem Um (h :¬k<w)(e:p+a=k - w):w+p+a=k:=(Nat.add_assoc ..).trans ((aR (w + ·) e).trans (Nat.add_sub_cancel' (Nat.le_of_not_lt h)))
theorem Un (h:p<=n):min p n+1+(n - p)=n+1:=(aR (· + 1+(n - p)) (Nat.min_eq_left h)).trans ((Nat.add_right_comm ..).trans (aR (· + 1) (Nat.add_sub_cancel' h)))
theorem Uo (h:t≠0)(e:n=t - 1):n+1=t:=e▸Nat.succ_pred h
theorem Up {b:Int}(h:i<(b - 1).toNat) :((i+1:Nat):Int)<b:=Int.add_lt_of_lt_sub_right (Int.lt_toNat.mp h)
theorem Uq {b:Int}(h :¬1<b) :(b - 1).toNat=0:=Int.toNat_of_nonpos (Int.sub_nonpos_of_le (Int.not_lt.mp h))
theorem Ur :((0:Int)+(k:Int) * 1).toNat=0+k:=aR Int.toNat (aR (0 + ·) (Int.mul_one _))
theorem Us :((11:Int)+n - 1).toNat=10+n:=(aR (λz:Nat=>((z:Int) - 1).toNat) (Nat.add_right_comm 10 1 n)).trans (aR Int.toNat (Int.add_sub_cancel ((10+n:Nat):Int) 1))
theorem Qd (h:max a b+1<d+1):b<d:=cj (Nat.le_max_right ..) (Nat.lt_of_succ_lt_succ h)
theorem Qe (h:max a b+1<d+1):a<d:=cj (Nat.le_max_left ..) (Nat.lt_of_succ_lt_succ h)
theorem Qf {x:Int}(h:x.natAbs<1000000000):x<2 ^ 63:=Int.lt_of_le_of_lt Int.le_natAbs (Int.lt_trans (Int.ofNat_lt.mpr h) (by decide))
theorem JG {x:Int}(h:x.natAbs<n):-(n:Int)<x:=Int.lt_of_lt_of_le (Int.neg_lt_neg (Int.ofNat_lt.mpr h)) (Int.neg_le_of_neg_le (Int.natAbs_neg x▸Int.le_natAbs))
theorem Qg {x:Int}(h:x.natAbs<1000000000):-2 ^ 63<=x:=Int.le_of_lt (Int.lt_trans (by decide) (JG h))
theorem Ut {x:Int}(h:x.natAbs<2 ^ 64):-2 ^ 64<x:=JG h
theorem Uu {x:Int}(h:x.natAbs<2 ^ 64):x<2 ^ 64:=Int.lt_of_le_of_lt Int.le_natAbs (Int.ofNat_lt.mpr h)
theorem Uv {x:Int}(h:x.natAbs<1000000000000):-2 ^ 62<=x/\x<2 ^ 62:=⟨Int.le_of_lt (Int.lt_trans (by decide) (JG h)),Int.lt_of_le_of_lt Int.le_natAbs (Int.lt_trans (Int.ofNat_lt.mpr h) (by decide))⟩
theorem Uw (h:n<=11) :(n:Int).natAbs<1000000000000:=cj h (by decide)
theorem Ux (h:n<=60) :(n:Int).natAbs<1000000000000:=cj h (by decide)
theorem Uy (h:k<9) :((11:Int)+k).natAbs<1000000000000:=Nat.lt_trans (Nat.add_lt_add_left h 11) (by decide)
theorem Uz {z:Int}(h:0<=z)(h2:z<k):z.natAbs<k:=Int.ofNat_lt.mp ((Int.natAbs_of_nonneg h).symm▸h2)
theorem UA (h:n<=11) :((n:Int) - 1).natAbs<1000000000000:=cj (Int.natAbs_sub_le ..) (cj (Nat.add_le_add_right h 1) (by decide))
theorem Qh {x y:Int}(h:x.natAbs<=n)(h2:y.natAbs<=m)(h3:n+m+2<k) :(x - y+2).natAbs<k:=cj (Int.natAbs_add_le ..) (cj (Nat.add_le_add_right (bZ (Int.natAbs_sub_le ..) (Nat.add_le_add h h2)) 2) h3)
theorem UB (h:s<=11)(h2:t+1<=s) :((s:Int) - ((t+1:Nat):Int)+2).natAbs<1000000000000:=Qh (n:=11) (m:=11) h (bZ h2 h) (by decide)
theorem UC (h:t+1<=s)(h2:i<s+1 - (t+1)):i+1<=s:=bZ h2 (Nat.add_sub_add_right s 1 t▸Nat.sub_le ..)
theorem UD (h:c<1000) :(c:Int).natAbs<1000000000:=Nat.lt_trans h (by decide)
theorem FA (h:d+1+0+1<=n):n=n - 1+1:=(Nat.sub_add_cancel (bZ (Nat.le_add_left ..) h)).symm
theorem UE (h:s+1+1<=d+1):d=d - 1+1:=(Nat.sub_add_cancel (bZ (Nat.le_add_left ..) (Nat.le_of_succ_le_succ h))).symm
theorem UG (h:p+3<f):f=f - 3+3:=(Nat.sub_add_cancel (Nat.le_of_lt (cj (Nat.le_add_left ..) h))).symm
theorem yb (h:l+(n+1)<u):l+1+n<u:=Nat.add_right_comm l n 1▸h
theorem Ds (h:k<m+p)(e:k=c+m):c<p:=Nat.lt_of_add_lt_add_right (n:=m) (Nat.add_comm m p▸e▸h)
theorem Qi (h:b<=n)(h2:a<b) :(a+b) / 2<n:=Nat.lt_of_lt_of_le (Nat.div_lt_of_lt_mul (Nat.two_mul b▸Nat.add_lt_add_right h2 b)) h
theorem UH (h:b<=n)(h2:a<b) :(a+b) / 2<=n:=Nat.le_of_lt (Qi h h2)
theorem UI (h:x<=4 ^ n)(h2:y<=3 * 4 ^ n):y+x<=4 ^ n * 4:=bZ (Nat.add_le_add h2 h) (Nat.le_of_eq ((Nat.succ_mul 3 _).symm.trans (Nat.mul_comm ..)))
theorem UJ (h:n<=u)(h2:m=n):m<=u:=h2▸h
theorem UK:-((n:Nat):Int) - 5<0:=Int.lt_of_lt_of_le (Int.sub_lt_self _ (by decide)) (Int.neg_nonpos_of_nonneg (Int.natCast_nonneg n))
theorem UL (h:a - b=0)(h2:b<=a)(h3:c=b):c=a:=h3.trans (Nat.le_antisymm h2 (Nat.sub_eq_zero_iff_le.mp h))
theorem UM (h:a≠0)(h2:a - b=0):b≠0:=λz=>h (by subst z;exact h2)
theorem UN {m r:Int}(h:0<m)(h2:r<m) :(r.toNat:Int)<m:=Int.ofNat_toNat r▸Int.max_lt.mpr ⟨h2,h⟩
theorem UO (e:c=p+q+1)(h1:x<=p)(h2:y<=q):max 0 (max x (max y 0))+1<=c:=
 e▸Nat.succ_le_succ (Nat.max_le.mpr ⟨Nat.zero_le _,Nat.max_le.mpr ⟨bZ h1 (Nat.le_add_right ..),Nat.max_le.mpr ⟨bZ h2 (Nat.le_add_left ..),Nat.zero_le _⟩⟩⟩)
theorem UP (h1:2 * a+1<=p)(h2:2 * b+1<=q)(e:c=p+q+1)(e2:m=max a b+1):2 * m+1<=c:=
 e▸e2▸Nat.succ_le_succ ((Nat.le_total a b).elim (λh=>(Nat.max_eq_right h).symm▸(Nat.add_comm 1 (2 * b+1)▸Nat.add_le_add (bZ (Nat.le_add_left 1 _) h1) h2:2 * b+1+1<=p+q)) λh=>(Nat.max_eq_left h).symm▸(Nat.add_le_add h1 (bZ (Nat.le_add_left 1 _) h2):2 * a+1+1<=p+q))
theorem UQ (h:s<=12)(h2 :(a:Int)<=s) :((s:Int) - a+2).natAbs<1000000000000:=Qh (n:=12) (m:=12) h (bZ (Int.ofNat_le.mp h2) h) (by decide)
theorem UR (h :(a:Int)<=s)(e:a=b+1)(hk:1<=k):s - k<s:=Nat.sub_lt (Nat.lt_of_lt_of_le (e▸Nat.succ_pos b) (Int.ofNat_le.mp h)) hk
theorem US (h1:1<=b)(e:a=b+1)(hk :(k:Int)<s - a+2):k<s:=Int.ofNat_lt.mp (Int.lt_of_lt_of_le hk (Int.le_trans (Int.add_le_add_left (c:=(s:Int) - a) (Int.ofNat_le.mpr (e▸Nat.succ_le_succ h1:2<=a))) (Int.le_of_eq (Int.sub_add_cancel ..))))
theorem Qj (h:u+d<c)(hx:x<=d):u+min x y<c:=cj (Nat.add_le_add_left (bZ (Nat.min_le_left ..) hx) u) h
theorem UT (h:u+d<c)(hx:x<=d):u+x<c:=cj (Nat.add_le_add_left hx u) h
theorem UU (h:u+4 * d+4<c)(hx:x<=d):u+4 * x+4<c:=cj (Nat.add_le_add_right (Nat.add_le_add_left (Nat.mul_le_mul_left 4 hx) u) 4) h
theorem Mo (h:u+4 * d+4<c)(hx:x<=d/\y<=d):u+4 * y+4<c:=UU h hx.2
theorem JH (h:u+40 * n+400<=c)(k:Nat)(hk:k<400):u+k<c:=Nat.lt_of_lt_of_le (Nat.add_lt_add_of_le_of_lt (Nat.le_add_right u (40 * n)) hk) h
theorem Qk (h:u+40 * n+400<=c):u+1+64<c:=JH h 65 (by decide)
theorem yc (h:u+40 * n+400<=c):u+65<c:=JH h 65 (by decide)
theorem Ql (h0:m<=u+20)(h:u+40 * n+400<=c):m+64<c:=cj (Nat.add_le_add_right h0 64) (JH h 84 (by decide))
theorem UW (h:m<=n)(h2:u+40 * n+400<=c):u+40 * m+400<=c:=bZ (Nat.add_le_add_right (Nat.add_le_add_left (Nat.mul_le_mul_left 40 h) u) 400) h2
theorem Ni (h:u+40 * (n+1)+400<=c):u+3+40 * n+400<=c:=bZ (Nat.add_le_add_right (Nat.add_right_comm u 3 (40 * n)▸Nat.add_le_add_left (show 3<=40 by decide) (u+40 * n)) 400) h
theorem Nj (h:d+(n+1)<=990):d<1000:=cj (bZ (Nat.le_add_right ..) h) (by decide)
theorem UX (h:d+n<=990):d+2<1000:=cj (Nat.add_le_add_right (bZ (Nat.le_add_right ..) h) 2) (by decide)
theorem UY:u+1+1+1<=u+20:=Nat.add_le_add_left (show 3<=20 by decide) u
theorem UZ:x<=x - 1+1:=Nat.le_add_of_sub_le (Nat.le_refl _)
theorem U0 (h:a=n+1):a - 1=n:=h▸rfl
theorem U1 (h:l<=f+1):l - 1<=f:=Nat.sub_le_of_le_add h
theorem U2 (h:u+64<c)(hk:d<=6)(hm:m<=x)(e:x=d+1):u+m<c:=Nat.lt_trans (Nat.add_lt_add_left (cj (bZ hm (e▸Nat.succ_le_succ hk)) (show 7<64 by decide)) u) h
theorem U3 (h:u+64<c)(hk:d<=6):u+4 * (d+1)+4<c:=cj (Nat.add_le_add_right (Nat.add_le_add_left (Nat.mul_le_mul_left 4 (Nat.succ_le_succ hk)) u) 4) (Nat.lt_trans (Nat.add_lt_add_left (show 32<64 by decide) u) h)
theorem U4 {m:Int}(h:0<m)(h2:m<1000000):m.natAbs<2 ^ 30:=Uz (Int.le_of_lt h) (Int.lt_trans h2 (by decide))
theorem U5 (h:c<1000) :((6:Int) * ((c+1:Nat):Int)).natAbs<2 ^ 64:=cj (Nat.mul_le_mul_left 6 h) (show 6 * 1000<2 ^ 64 by decide)
theorem U6 (h:60<x) :(x:Int)<=10000↔60<x/\x<=10000:=⟨λh2=>⟨h,Int.ofNat_le.mp h2⟩,λh2=>Int.ofNat_le.mpr h2.2⟩
theorem U7 (h :¬(60<x/\x<=10000)):x<=60\/10000<x:=(Nat.lt_or_ge 10000 x).elim .inr λh2=>.inl (Nat.le_of_not_lt λh3=>h ⟨h3,h2⟩)
theorem U8 (h:n=1+2 * r):n % 2=1:=h▸Nat.add_mul_mod_self_left 1 2 r
theorem U9 (h:m<s+1)(h2:k<=10 * (13+m)):k<10 * (s+15):=cj h2 (Nat.mul_lt_mul_of_pos_left (Nat.add_comm 13 m▸Nat.add_lt_add_of_le_of_lt (Nat.le_of_lt_succ h) (by decide)) (by decide))
theorem Va {i:Int}(h:i.natAbs<1000000000):-9223372036854775808<=i/\i<9223372036854775808:=⟨Int.le_of_lt (Int.lt_trans (by decide) (JG h)),Int.lt_of_le_of_lt Int.le_natAbs (Int.lt_trans (Int.ofNat_lt.mpr h) (by decide))⟩
theorem Vb (h:a+(b+1)<k)(h2:c<=1):a+c+b<k:=cj (Nat.add_assoc a c b▸Nat.add_le_add_left (Nat.add_comm b 1▸Nat.add_le_add_right h2 b) a) h
theorem Vc:min 40 x<1000:=cj (Nat.min_le_left ..) (by decide)
theorem Qm (h:a+(b+1)<k)(h2:c<=a+1):c+b<k:=cj (Nat.add_le_add_right h2 b) (yb h)
theorem Vd (h:k<10 * t)(h2:K<=k)(h3:t<=46):K - 0<100000:=cj h2 (Nat.lt_trans h (cj (Nat.mul_le_mul_left 10 h3) (by decide)))
theorem Ve (h:n * 5<m * 3):n<=m:=Nat.le_of_not_lt λz=>absurd h (Nat.not_lt_of_le (Nat.mul_le_mul (Nat.le_of_lt z) (by decide)))
theorem Ci (h:n * 5<m * 3)(e:p=n):p<=m:=e▸Ve h
theorem Vf (h :¬x<=b) :¬min b x=x:=λe=>h (e▸Nat.min_le_left b x)
theorem Vg (h:u+4 * (d+1)+4<c):u+1+4 * d+4<c:=cj (Nat.add_le_add_right (Nat.add_right_comm u 1 (4 * d)▸Nat.add_le_add_left (show 1<=4 by decide) (u+4 * d)) 4) h
theorem Qn (h:u+4 * (d+1)+4<c):u<c:=cj (bZ (Nat.le_add_right ..) (Nat.le_add_right ..)) h
theorem Nk (h:p+1+1<f):f=f - 2+2:=(Nat.sub_add_cancel (Nat.le_of_lt (cj (Nat.le_add_left 2 p) h))).symm
theorem Vh :((t+1:Nat):Int)=1↔t+1=1:=Int.ofNat_inj
theorem Vi (h:n<64):0+n<1000:=(Nat.zero_add n).symm▸Nat.lt_trans h (by decide)
theorem Vj (h:u+d+71<c)(hx:x<=d):u+min x y<c:=Qj (cj (Nat.le_add_right ..) h) hx
theorem Vk (h:u+d+71<c):u+71<c:=cj (Nat.add_le_add_right (Nat.le_add_right ..) 71) h
theorem Vl (h:u+200<c)(h2:d<=64):u+d+71<c:=Nat.lt_trans (cj (Nat.add_le_add_right (Nat.add_le_add_left h2 u) 71) (Nat.add_lt_add_left (show 135<200 by decide) u)) h
theorem Vm (h:u+70<c)(h2:d<=64):u+1+d<c:=Nat.lt_trans (cj (Nat.add_le_add_left h2 (u+1)) (Nat.add_lt_add_left (show 65<70 by decide) u)) h
theorem q1 (h:a<b)(d:Nat.ble b c=true):a<c:=Nat.lt_of_lt_of_le h (Nat.le_of_ble_eq_true d)
theorem q2 (h:a<=b)(d:Nat.blt b c=true):a<c:=cj h (Nat.le_of_ble_eq_true d)
theorem q3 (h:a<=b)(d:Nat.ble b c=true):a<=c:=bZ h (Nat.le_of_ble_eq_true d)
theorem q4 (h:a<b)(d:Nat.ble b c=true):a<=c:=Nat.le_of_lt (q1 h d)
theorem q5 (h:a+x<b)(d:Nat.ble b c=true):a<c:=q1 (cj (Nat.le_add_right ..) h) d
theorem q6 (h:x+a<b)(d:Nat.ble b c=true):a<c:=q1 (cj (Nat.le_add_left ..) h) d
theorem XU (h:a<=b)(d:Nat.blt (b+k) c=true):a+k<c:=q2 (Nat.add_le_add_right h k) d
theorem XW (h:a<b)(d:Nat.ble (b+k) c=true):a+k<c:=q1 (Nat.add_lt_add_right h k) d
theorem Vn (h:a<=b)(d:Nat.blt (k+b) c=true):k+a<c:=q2 (Nat.add_le_add_left h k) d
theorem XX (h:a<b)(d:Nat.ble (k+b) c=true):k+a<c:=q1 (Nat.add_lt_add_left h k) d
theorem XY (h:u+40 * n+400<=c)(d:Nat.blt k 400=true):u+k<c:=JH h k (Nat.le_of_ble_eq_true d)
theorem Qo (e:a=b)(h:b<k)(d:Nat.ble k c=true):a<c:=q1 (e▸h) d
theorem ZR (e:a=b)(h:b<=k)(d:Nat.blt k c=true):a<c:=q2 (e▸h) d
theorem XZ (e:a=b)(h:b<=k)(d:Nat.ble k c=true):a<=c:=q3 (e▸h) d
theorem ZS (h :¬0<a):k - a=k:=aR (k - ·) (Nat.eq_zero_of_not_pos h)
theorem ZT (h :¬0<a) :¬k<a:=λz=>h (Nat.zero_lt_of_lt z)
theorem ZU (h:1<=t)(h2 :(t:Int)<=s):s=s - 1+1:=(Nat.sub_add_cancel (bZ h (Int.ofNat_le.mp h2))).symm
theorem ZV:min (b:Int) (n:Int) =((min b n:Nat):Int):=(Nat.le_total b n).elim (λh=>(Int.min_eq_left (Int.ofNat_le.mpr h)).trans (aR Nat.cast (Nat.min_eq_left h).symm)) λh=>(Int.min_eq_right (Int.ofNat_le.mpr h)).trans (aR Nat.cast (Nat.min_eq_right h).symm)
theorem ZW (h:b<=c):min a b<=c:=bZ (Nat.min_le_right ..) h
theorem ZX (h:u+40 * (n+1)+400<=c):u+1+1+40 * n+400<=c:=bZ (Nat.add_le_add_right (Nat.add_le_add_right (show u+1+1<=u+3 from Nat.le_succ _) _) 400) (Ni h)
theorem Qp (h:a+(n+1)<=c):a+1+n<=c:=Nat.add_right_comm a n 1▸h
theorem ZY (h:m<=n)(h2:a+n<=c):a+m<=c:=bZ (Nat.add_le_add_left h a) h2
theorem ZZ (h:a+b+1<c)(d:Nat.ble c k=true):1+a<k:=q1 (cj (Nat.add_comm a 1▸Nat.add_le_add_right (Nat.le_add_right a b) 1) h) d
theorem Z0 (h:u+d+k<c)(h2:x<=d):u+x+k<c:=cj (Nat.add_le_add_right (Nat.add_le_add_left h2 u) k) h
theorem Z1 (h:a+b+1+1<g+2):b+1<g+1:=cj (Nat.add_le_add_right (Nat.le_add_left b a) 1) (Nat.lt_of_succ_lt_succ h)
theorem X0 (h:a+b+1+1<g+2):a+1<g+1:=cj (Nat.add_le_add_right (Nat.le_add_right a b) 1) (Nat.lt_of_succ_lt_succ h)
theorem X3 (h:n+1+t<=c):n+(t - 1)<=c:=bZ (Nat.add_le_add (Nat.le_succ n) (Nat.sub_le t 1)) h
theorem X5 (h:n+1+t<=c):t - 1<=c:=bZ (Nat.le_add_left ..) (X3 h)
theorem Vo (h:n+1+t<=k+1):n<=k:=Nat.le_of_succ_le_succ (bZ (Nat.le_add_right ..) h)
theorem SS (h :¬a<=b) :¬(a:Int)<=(b:Int):=λz=>h (Int.ofNat_le.mp z)
theorem Z2 :((c+1:Nat):Int) - 1 =(c:Int):=Int.add_sub_cancel (c:Int) 1
theorem X6 (h:2 * m+1<=p)(h2:p<16):m<8:=Nat.lt_of_mul_lt_mul_left (a:=2) (Nat.lt_of_succ_le h |> λz=>Nat.lt_of_lt_of_le z (Nat.le_of_lt h2))
theorem Z3 (h:2 * m+1<=p)(e:p=n)(h2:n<=11):m<8:=X6 h (e▸q2 h2 rfl)
theorem Z4 (h:u<=4)(e:p=d)(h2:d+1<=u):p<4:=e▸bZ h2 h
theorem Z5 (e:m+1+i=l):i<l:=e▸Nat.lt_add_of_pos_left (Nat.succ_pos m)
theorem Z6 (h:d+1<f+1)(h2:u<=d):u<f:=cj h2 (Nat.lt_of_succ_lt_succ h)
theorem Z7:-(x:Int)<0\/(x:Int)<=-(x:Int):=(Nat.eq_zero_or_pos x).elim (λh=>.inr (by subst h;decide)) λh=>.inl (Int.neg_neg_of_pos (Int.ofNat_lt.mpr h))
theorem Z8:-(x:Int) - 5<0\/(x:Int)<=-(x:Int) - 5:=.inl UK
theorem Z9 (h:t<=b)(h2:a<=c)(d:Nat.blt (c+b) k=true):a+t<k:=q2 (Nat.add_le_add h2 h) d
theorem Vp (h:t<=b)(h2:a<=c)(d:Nat.ble (b+c) k=true):t+a<=k:=q3 (Nat.add_le_add h h2) d
theorem X7 (h:n+1+(t+1)<=k)(h2:a<=2):n+(t+a)<=k:=bZ (bZ (Nat.add_le_add_left (Nat.add_le_add_left h2 t) n) (Nat.le_of_eq (Nat.add_right_comm n (t+1) 1))) h
theorem Vq (h:k<s)(h2:s<=c):k<=c:=Nat.le_of_lt (Nat.lt_of_lt_of_le h h2)
theorem Vr (h:t<=s)(h2:s<=c)(d:Nat.blt c k=true):t<k:=q2 (bZ h h2) d
theorem q60 {k v:Int}(h:k<0\/v<=k)(h2:0<=k) :¬k<v:=h.elim (λz=>absurd h2 (Int.not_le.mpr z)) Int.not_lt.mpr
theorem q61 (h :¬k<w) :(w:Int)<=(k:Int):=Int.ofNat_le.mpr (Nat.le_of_not_lt h)
theorem Vs (h:i<=2):i=0\/i=1\/i=2:=match i,h with |0,_=>.inl rfl |1,_=>.inr (.inl rfl) |2,_=>.inr (.inr rfl)
theorem X8 (h:i<2):i=0\/i=1:=(Nat.le_one_iff_eq_zero_or_eq_one).mp (Nat.le_of_lt_succ h)
theorem q64:i+k - i<=k:=Nat.le_of_eq (Nat.add_sub_cancel_left ..)
theorem q65 (h :¬(a:Int)<(b:Int)):b<=a:=Nat.le_of_not_lt λz=>h (Int.ofNat_lt.mpr z)
theorem q66 (h:q<a):q+1<a+b+1:=Nat.succ_lt_succ (Nat.lt_of_lt_of_le h (Nat.le_add_right ..))
theorem Vt (h:q<b):q+1<a+b+1:=Nat.succ_lt_succ (Nat.lt_of_lt_of_le h (Nat.le_add_left ..))
theorem q67 (h:d+p<c)(h2:q<p):q<c:=Nat.lt_trans (Nat.lt_of_lt_of_le h2 (Nat.le_add_left ..)) h
theorem q68 (h:b+p<c)(e:x=p)(d:Nat.ble c k=true):x<k:=q1 (e▸cj (Nat.le_add_left ..) h) d
theorem q69 (h:b+p<c)(e:x=p)(d:Nat.ble c k=true):b+x<k:=q1 (e▸h) d
theorem q70 (h:k<=10 * b)(h2:r<=9):k+r+1<=10 * (b+1):=show k+(r+1)<=10 * b+10 from Nat.add_le_add h (Nat.succ_le_succ h2)
theorem q71 (h:n+1<t):n<t+1:=Nat.lt_trans (Nat.lt_of_succ_lt h) (Nat.lt_succ_self t)
theorem q72 {X:Prop}(h:X/\a<=b)(d:Nat.blt b c=true):a<c:=q2 h.2 d
theorem q74 (h:p+q+1<c)(e:x=p)(d:Nat.ble c k=true):x+1+q<k:=q1 (e▸Nat.add_right_comm p q 1▸h) d
theorem X9 (h:a<=b)(h2:b<c)(d:Nat.ble c k=true):a<k:=q1 (cj h h2) d
theorem Nl (h:z<s)(h2:s<b):b≠z:=Nat.ne_of_gt (Nat.lt_trans h h2)
theorem SV (h:d+1+k+1<=m+1):k<=m:=bZ (Nat.le_add_left ..) (Nat.le_of_succ_le_succ h)
theorem q78 (h:k+2<=m+1+1):k<=m:=Nat.le_of_succ_le_succ (Nat.le_of_succ_le_succ h)
theorem q79 :(x:Int)=1↔x=1:=Int.ofNat_inj (n:=1)
theorem q80 (h :(r:Int)<6)(e:n=1+2 * r):n<=11:=e▸Nat.add_le_add_left (Nat.mul_le_mul_left 2 (Nat.le_of_lt_succ (Int.ofNat_lt.mp h))) 1
theorem Yb (h:n<=1000000) :(n:Int)<2 ^ 63:=Int.lt_of_le_of_lt (Int.ofNat_le.mpr h) (by decide)
theorem q82 (h:n<1000000000) :(n:Int)<9223372036854775808:=Int.lt_trans (Int.ofNat_lt.mpr h) (by decide)
theorem q83 (e:a=b)(e2:b=c)(h:c<k):a<k:=e▸e2▸h
theorem q84 (e:a=b)(h :¬b<2):0<a:=e▸Nat.lt_of_lt_of_le (Nat.succ_pos 1) (Nat.le_of_not_lt h)
theorem q86 (h:a<b)(d:Nat.ble (k+b) c=true):k+a<=c:=q4 (Nat.add_lt_add_left h k) d
theorem Yc (h:s+1+1<=d+1+1)(h2:k<s+1):k+1<=d+1:=bZ h2 (Nat.le_of_succ_le_succ h)
theorem q88 (h:m<k)(h2:a<=m):a<=k:=bZ h2 (Nat.le_of_lt h)
theorem q89 (h :(r:Int)<2):r=0\/r=1:=X8 (Int.ofNat_lt.mp h)
theorem Vu (e:a=b)(d:Nat.blt b c=true):a<c:=e▸Nat.le_of_ble_eq_true d
theorem q91 (h :¬0<(m:Int)):m=0:=Nat.eq_zero_of_not_pos λz=>h (Int.ofNat_lt.mpr z)
theorem q92 (h :¬(a<s\/b<t)):s<=a:=Nat.le_of_not_lt λz=>h (.inl z)
theorem q93 (h :¬(a<s\/b<t)):t<=b:=Nat.le_of_not_lt λz=>h (.inr z)
theorem Yd (h:a<=b)(h2:b<=c)(d:Nat.ble c k=true):a<=k:=q3 (bZ h h2) d
theorem q95 (h:a<=b+k)(h2:b<=c)(d:Nat.ble (c+k) m=true):a<=m:=q3 (bZ h (Nat.add_le_add_right h2 k)) d
theorem q97 (h:q<=p)(h2:p<c)(d:Nat.ble (c+k) m=true):q+k<m:=q1 (Nat.add_lt_add_right (cj h h2) k) d
theorem q98 (h:i<=2):1<=i+1/\i+1<=3:=⟨Nat.succ_pos _,Nat.succ_le_succ h⟩
theorem Ye (h:t=0)(h2:k<1):t=0/\k=0:=⟨h,Nat.lt_one_iff.mp h2⟩
theorem Vv {X:Prop}(h:n<=l)(h2:l<n):X:=absurd h2 (Nat.not_lt_of_le h)
theorem Vw (h:x<=10000) :¬(10000:Int)<(x:Int):=λz=>absurd (Int.ofNat_lt.mp z) (Nat.not_lt_of_le h)
theorem Vx (h:t≠0):2<=t+1:=Nat.succ_le_succ (Nat.pos_of_ne_zero h)
theorem Qq (h:a<=b)(d:Nat.ble b c=true) :¬c<a:=Nat.not_lt_of_le (q3 h d)
theorem Vy (e:p=n)(h:n<=k)(h2:x<=p):x<=k:=bZ h2 (e▸h)
theorem Vz (h:a<b)(e:a=c)(d:Nat.ble b k=true):c<=k:=q4 (e▸h) d
theorem Qr (h:n+1+t<=12):n+(t+1)<=12:=bZ (Nat.le_of_eq (Nat.add_right_comm n t 1▸(Nat.add_assoc n t 1).symm)) h
theorem VA (h:n+1+t<=12):t+1<=12:=bZ (Nat.le_add_left ..) (Qr h)
end
set_option tactic.hygienic true
abbrev gn:OpenLaw:=PySem.Challenge.rw_sa0043_01
set_option genInjectivity false in
set_option genSizeOfSpec false in
structure iU where
 params:Arguments
 body:List Stmt
 scope:Scope
noncomputable def An:Arguments:=⟨[],[],none,[],[],none,[]⟩
def Cj:Option Stmt->iU
 |some (.FunctionDef _ args body _ _ _ scope _ _ _)=>⟨args,body,scope⟩
 |_=>⟨An,[],gn.prog.main.scope⟩
def hY (i:Nat):iU:=Cj gn.prog.main.body[i]?
noncomputable def JI:Option Stmt->List Stmt
 |some (.ClassDef _ _ _ body _ _ _ _ _ _ _)=>body
 |_=>[]
def cQ (i j:Nat):iU:=Cj (JI gn.prog.main.body[i]?)[j]?
def FE:iU:=cQ 2 0
noncomputable abbrev JJ:Expr:=.Call (.Name "super" ⟨8,8,8,13⟩) [] [] ⟨8,8,8,15⟩
abbrev Mp:List Stmt:=
 [.Expr (.Call (.Attribute JJ "__init__" ⟨8,8,8,24⟩) [.Name "what" ⟨8,25,8,29⟩] [] ⟨8,8,8,30⟩) ⟨8,8,8,30⟩,.Assign [.Attribute (.Name "self" ⟨9,8,9,12⟩) "what" ⟨9,8,9,17⟩] (.Name "what" ⟨9,20,9,24⟩) ⟨9,8,9,24⟩]
abbrev SW:FuncData:=ksFn "__init__" "HeapError.__init__" FE.params Mp FE.scope .none .none .none (.str "alikeheap.errors" 194) none (.ref 36) (.ref 30) 25
noncomputable abbrev wA:List Value:=[.ref 47,.type "Exception",.type "BaseException",.type "object"]
abbrev Mq:Obj:=excClassObj "LimitFault" "LimitFault" 72 71 [.ref 47] wA true [] [] false none none (some (.ref 63)) none (some (.str "LimitFault" 250)) (some (.str "LimitFault" 258)) (some (.bool true)) "Exception.__new__"
noncomputable def i6:Program:={gn.prog with main:={gn.prog.main with body:=[0,2,3,4,6,7,8,9,11,12,13,14,15,17,19,21,22,23,24,25,26,27,28].filterMap (gn.prog.main.body[·]?)}}
structure Ao (K:Frag)(a:Addr)(P:iU):Prop where
 keep:keepIn K (.ref a)=true
 typ:typeIn K (.ref a)=some (.type "function")
 fd :∃o fd,K.lookup a=some o/\o.data=.func fd/\fd.body=.stmts P.body/\fd.scope=P.scope/\fd.params=P.params/\fd.globals=mainGlobals/\fd.closure=[]/\fd.builtins=builtinsNs/\fd.defaults=.none/\fd.kwdefaults=.none/\codeIn K fd.code fd.qualname=true
noncomputable def JK {Y:Type}(d:Y):List Y->Nat->Y
 |[],_=>d
 |x::_,0=>x
 |_::l,n+1=>JK d l n
structure ExcAt (K:Frag):Prop where
 Mr:K.lookup 72=some Mq
 VB:K.lookup 37=some ⟨.type "function",none,.func SW,#[]⟩
 o36 :∃vs tf,K.lookup 36=some ⟨.type "code",none,.fields vs,#[]⟩/\vs[2]? = some (.str "/claim/cut.py" tf)/\codeIn K (.ref 36) "HeapError.__init__" = true
 o25:K.lookup 25=some ⟨.type "cell",none,.cell (some (.ref 47)),#[]⟩
 c47 :(clsIn K 47).isSome=true
 sup:nsIn K mainGlobals "super" = some none
 thr:nsIn K cStatics "thirdparty.any" = some none
 qS:takerIn K 72 "what" = some none
 set:findIn K (.ref 72) "__setattr__" = some (some (.builtin "object.__setattr__"))
 ini:findIn K (.ref 72) "__init__" = some (some (.ref 37))
 law:nsIn K mainGlobals "law" = some (some (.ref 541))
def yd:Nat->Str:=JK (ofString "") [ofString "text",ofString "sign",ofString "found",ofString "t",ofString "k",ofString "path",ofString "part",ofString "kid",ofString "some",ofString "nodes",ofString "self",ofString "numbers",ofString "weights",ofString "depths",ofString "op",ofString "node",ofString "kids",ofString "require",ofString "n",ofString "above",ofString "lots",ofString "merged",ofString "a",ofString "kept",ofString "gone",ofString "find",ofString "b",ofString "bank",ofString "unions",ofString "edges",ofString "forest",ofString "known",ofString "waiting",ofString "backs",ofString "size",ofString "reason",ofString "merge",ofString "other",ofString "join",ofString "take",ofString "make",ofString "c",ofString "look_at",ofString "term",ofString "put",ofString "add",ofString "members",ofString "classes",ofString "done",ofString "place",ofString "many",ofString "ops",ofString "shape",ofString "heap",ofString "mark",ofString "key",ofString "nodes_of",ofString "rows",ofString "here",ofString "first",ofString "renewed",ofString "is_there",ofString "late",ofString "spread",ofString "rest",ofString "ways",ofString "left",ofString "openings",ofString "class_of",ofString "seek",ofString "spot",ofString "pot",ofString "grown_up",ofString "trees",ofString "letters",ofString "high",ofString "signs",ofString "forests",ofString "counts",ofString "size_now",ofString "listed",ofString "due",ofString "way",ofString "ranked",ofString "told",ofString "nth",ofString "beyond",ofString "cell",ofString "script",ofString "x",ofString "alone",ofString "settle",ofString "order",ofString "lap"]
noncomputable abbrev nT:Nat:=94
def gT:Nat->Str×Option Value:=JK ((ofString "",Option.none)) [(ofString "parts",(some (.ref 84))),(ofString "enumerate",Option.none),(ofString "len",Option.none),(ofString "tuple",Option.none),(ofString "is_op",(some (.ref 79))),(ofString "sum",Option.none),(ofString "max",Option.none),(ofString "sorted",Option.none),(ofString "Bank",(some (.ref 191))),(ofString "Unions",(some (.ref 355))),(ofString "set",Option.none),(ofString "range",Option.none),(ofString "reversed",Option.none),(ofString "zip",Option.none),(ofString "list",Option.none),(ofString "MOST_SIZE",(some (.int 200 423))),(ofString "MOST_LISTED",(some (.int 10000 419))),(ofString "key_of",(some (.ref 89))),(ofString "MOST_WAYS",(some (.int 10000 421))),(ofString "grown",(some (.ref 200))),(ofString "LimitFault",(some (.ref 72))),(ofString "_law_forests",(some (.ref 503))),(ofString "_law_signs",(some (.ref 510))),(ofString "_law_tree",(some (.ref 517))),(ofString "_law_listed",(some (.ref 524))),(ofString "int",Option.none),(ofString "Heap",(some (.ref 485))),(ofString "Counts",(some (.ref 273))),(ofString "_law_ladle",(some (.ref 496))),(ofString "_law_asked_right",(some (.ref 536))),(ofString "_law_is_refused",(some (.ref 531)))]
noncomputable abbrev gN:Nat:=31
def fT:Nat->Addr×Str×Option Value:=JK ((0,ofString "",Option.none)) [(191,ofString "nodes",Option.none),(191,ofString "numbers",Option.none),(191,ofString "require",(some (.ref 122))),(191,ofString "weights",Option.none),(191,ofString "depths",Option.none),(355,ofString "above",Option.none),(355,ofString "lots",Option.none),(355,ofString "find",(some (.ref 312))),(355,ofString "merged",Option.none),(485,ofString "bank",Option.none),(191,ofString "size",(some (.ref 110))),(485,ofString "unions",Option.none),(191,ofString "op",(some (.ref 148))),(191,ofString "kids",(some (.ref 155))),(485,ofString "find",(some (.ref 409))),(485,ofString "edges",Option.none),(355,ofString "merge",(some (.ref 319))),(485,ofString "forest",Option.none),(485,ofString "waiting",Option.none),(485,ofString "above",Option.none),(485,ofString "known",Option.none),(485,ofString "node",(some (.ref 385))),(485,ofString "join",(some (.ref 430))),(191,ofString "take",(some (.ref 115))),(355,ofString "size",(some (.ref 305))),(355,ofString "make",(some (.ref 298))),(485,ofString "look_at",(some (.ref 402))),(485,ofString "put",(some (.ref 395))),(485,ofString "add",(some (.ref 390))),(355,ofString "members",(some (.ref 326))),(485,ofString "members",(some (.ref 458))),(273,ofString "heap",Option.none),(485,ofString "size",(some (.ref 380))),(485,ofString "backs",Option.none),(273,ofString "mark",Option.none),(273,ofString "known",Option.none),(485,ofString "nodes_of",(some (.ref 463))),(273,ofString "rows",(some (.ref 240))),(273,ofString "renewed",(some (.ref 221))),(273,ofString "spread",(some (.ref 250))),(273,ofString "many",(some (.ref 228))),(273,ofString "openings",(some (.ref 255))),(273,ofString "class_of",(some (.ref 265))),(485,ofString "seek",(some (.ref 475))),(273,ofString "listed",(some (.ref 245))),(273,ofString "ranked",(some (.ref 270))),(273,ofString "nth",(some (.ref 260))),(485,ofString "merge",(some (.ref 423))),(485,ofString "settle",(some (.ref 437)))]
noncomputable abbrev fN:Nat:=49
def tT:Nat->Addr×Str:=JK ((0,ofString "")) [(191,ofString "nodes"),(191,ofString "numbers"),(191,ofString "weights"),(191,ofString "depths"),(355,ofString "above"),(355,ofString "lots"),(355,ofString "merged"),(485,ofString "bank"),(485,ofString "unions"),(485,ofString "edges"),(485,ofString "forest"),(485,ofString "known"),(485,ofString "above"),(485,ofString "waiting"),(485,ofString "backs"),(273,ofString "heap"),(273,ofString "mark"),(273,ofString "known")]
noncomputable abbrev tN:Nat:=18
def kA:Nat->Addr:=JK (0) [79,84,89,103,110,122,115,148,155,291,298,305,312,319,326,373,380,409,385,430,402,390,395,423,437,458,463,475,200,214,221,240,228,250,245,255,260,265,270,496,503,510,517,524,536,541,531]
def kP:Nat->iU:=JK ⟨An,[],gn.prog.main.scope⟩ [hY 6,hY 7,hY 8,cQ 9 0,cQ 9 1,cQ 9 3,cQ 9 2,cQ 9 7,cQ 9 8,cQ 17 0,cQ 17 1,cQ 17 2,cQ 17 3,cQ 17 4,cQ 17 5,cQ 19 0,cQ 19 1,cQ 19 6,cQ 19 2,cQ 19 9,cQ 19 5,cQ 19 3,cQ 19 4,cQ 19 8,cQ 19 10,cQ 19 13,cQ 19 14,cQ 19 16,hY 14,cQ 15 0,cQ 15 1,cQ 15 4,cQ 15 2,cQ 15 6,cQ 15 5,cQ 15 7,cQ 15 8,cQ 15 9,cQ 15 10,hY 21,hY 22,hY 23,hY 24,hY 25,hY 27,hY 28,hY 26]
noncomputable abbrev kN:Nat:=47
theorem FF :∀i j,i<nT->j<nT->yd i=yd j->i=j:=by
 have :∀i<nT,∀j<nT,yd i=yd j->i=j:=by decide +kernel
 exact λi j hi hj e=>this i hi j hj e
def Du:Nat->Addr:=JK 0 [191,273,355,485,72]
def FG:Nat->Addr:=JK 0 [103,214,291,373]
structure FH (K:Frag)(c f:Addr):Prop where
 dict:hasDictIn K c=true
 get:plainGet K c (ofString "")=true
 over:plainOver K c=true
 makes:makesIn K c=true
 keep:keepIn K (.ref c)=true
 set:findIn K (.ref c) "__setattr__" = some (some (.builtin "object.__setattr__"))
 init:findIn K (.ref c) "__init__" = some (some (.ref f))
structure uU (K:Frag):Prop where
 ns :∀i,i<gN->nsIn K mainGlobals (gT i).1=some (gT i).2
 find :∀i,i<fN->findIn K (.ref (fT i).1) (fT i).2.1=some (fT i).2.2
 qS :∀i,i<tN->takerIn K (tT i).1 (tT i).2=some Option.none
 cls :∀k,k<4->FH K (Du k) (FG k)
 fn :∀i,i<kN->Ao K (kA i) (kP i)
 Qs:keepIn K (.ref 72)=true
 ex:ExcAt K
structure YP (_w:World)(h:Heap):Prop where
 aaa :∃K:Frag,K.In h/\uU K/\K.lookup 538=none
 sys :∃o,h.get? sysModules=some o
 code:CodeHd h 540 538
 tab:h.get? 538=some (tabObj #[])
 aab :∃o fd,h.get? 541=some o/\o.data=.func fd/\fd.code=.ref 540
def iL:DefRec:=match defOf i6 gn.row.name with
 |some p=>p.1
 |none=>⟨gn.name,An,[],gn.prog.main.scope,⟨0,0,0,0⟩⟩
noncomputable def VC {P:Prop}{B:World->Shared->Shared->(Str->Option Value)->(Str->Option Value)->Prop}(_:P =∀w nQ fS mg mb,B w nQ fS mg mb):World->Shared->Shared->(Str->Option Value)->(Str->Option Value)->Prop:=B
noncomputable def FI:World->Shared->Shared->(Str->Option Value)->(Str->Option Value)->Prop:=VC (P:=WalkO i6 [] (XL i6 []) YP gn.row.toRowW iL [] λf vs=>PySem.call f vs) (Eq.refl _)
noncomputable abbrev Dt:=World×Shared×(Str->Option Value)×(Str->Option Value)
@[irreducible] noncomputable def dt:Dt:=@Classical.epsilon Dt ⟨⟨⟨λ_ _=>0,{strHash:=λ_=>0,shareClass:=λ_=>0,mergeTok:=id,idOf:=λ_=>0,idOfShared:=λ_ _=>0,followText:=λ_=>false,idOfImm:=λ_=>0}⟩,{},λ_=>none,λ_=>none⟩⟩ λd=>¬∀nQ,FI d.1 nQ d.2.1 d.2.2.1 d.2.2.2
theorem Nm (h :∀nQ,FI dt.1 nQ dt.2.1 dt.2.2.1 dt.2.2.2):WalkO i6 [] (XL i6 []) YP gn.row.toRowW iL [] λf vs=>PySem.call f vs:=
 show∀w nQ fS mg mb,FI w nQ fS mg mb from λw nQ fS mg mb=>Classical.byContradiction λhn=>Classical.epsilon_spec (p:=λd:Dt=>¬∀nQ,FI d.1 nQ d.2.1 d.2.2.1 d.2.2.2) ⟨(w,fS,mg,mb),λq=>hn (q nQ)⟩ (by unfold dt at h;exact h)
@[irreducible] noncomputable def KW:Frag:=@Classical.epsilon Frag ⟨[]⟩ λK=>K.In dt.2.1.heap/\uU K/\K.lookup 538=none
set_option genInjectivity false in
set_option genSizeOfSpec false in
structure Wd where
 prog:Program
 w:World
 h₀:Heap
 K:Frag
 p:Program
 loose:List Str
 mg:Str->Option Value
 mb:Str->Option Value
 cls:Nat->Addr
 nm:Nat->Str
 nN:Nat
 gens:Array GenState
 os:OsState
theorem JL (h :∃K:Frag,K.In dt.2.1.heap/\uU K/\K.lookup 538=none):KW.In dt.2.1.heap/\uU KW/\KW.lookup 538=none:=by unfold KW;exact Classical.epsilon_spec h
@[irreducible] noncomputable def hW:Heap:=hideAll dt.2.1.heap [538]
def W:Wd:=⟨gn.row.prog,dt.1,hW,KW,i6,looseW i6 [],dt.2.2.1,dt.2.2.2,Du,yd,nT,dt.2.1.gens,dt.2.1.os⟩
noncomputable abbrev bQ:=model W.prog W.w
theorem ye :∀i j,i<W.nN->j<W.nN->W.nm i=W.nm j->i=j:=FF
structure SX:Prop where
 X:W.K.In W.h₀
 sys :∃o,W.h₀.get? sysModules=some o
 T:TopRead W.p W.loose W.mg W.mb W.h₀
structure dI:Prop where
 O:SX
 F:uU W.K
def addrs:List Addr:=[3,2,25,36,37,46,47,71,72,190,191,272,273,354,355,484,485]++((List.range kN).flatMap λi=>[kA i,kA i - 1])
def Ap (h:Heap):Frag:=addrs.filterMap λa=>(h.get? a).map λo=>(a,o)
noncomputable abbrev FJ:=Bool×Option Value×Option (FuncBody×Scope×Arguments×Addr×List (Str×Addr)×Addr×Value×Value×Bool)
noncomputable def FK (K:Frag)(a:Addr):FJ:=(keepIn K (.ref a),typeIn K (.ref a),match K.lookup a with
 |some ⟨_,_,.func fd,_⟩=>some (fd.body,fd.scope,fd.params,fd.globals,fd.closure,fd.builtins,fd.defaults,fd.kwdefaults,codeIn K fd.code fd.qualname)
 |_=>none)
noncomputable def FL (P:iU):FJ:=(true,some (.type "function"),some (.stmts P.body,P.scope,P.params,mainGlobals,[],builtinsNs,.none,.none,true))
noncomputable abbrev Aq:=List Bool×Option (Option Value)×Option (Option Value)
noncomputable def Ar (K:Frag)(c:Addr):Aq:=([hasDictIn K c,plainGet K c (ofString ""),plainOver K c,makesIn K c,keepIn K (.ref c)],findIn K (.ref c) "__setattr__",findIn K (.ref c) "__init__")
noncomputable def As (f:Addr):Aq:=([true,true,true,true,true],some (some (.builtin "object.__setattr__")),some (some (.ref f)))
noncomputable abbrev Au:=List Bool×List (Option Obj)×Option (Value×Option Addr×Array (Option Value)×Option Value)×List (Option (Option Value))
noncomputable def Av (K:Frag):Au:=([keepIn K (.ref 72),codeIn K (.ref 36) "HeapError.__init__",(clsIn K 47).isSome],[K.lookup 72,K.lookup 37,K.lookup 25],
 (match K.lookup 36 with |some ⟨c,d,.fields vs,sl⟩=>some (c,d,sl,vs[2]?) |_=>none),
 [nsIn K mainGlobals "super",nsIn K cStatics "thirdparty.any",takerIn K 72 "what",findIn K (.ref 72) "__setattr__",findIn K (.ref 72) "__init__",nsIn K mainGlobals "law"])
def Aw:Au:=([true,true,true],[some (excClassObj "LimitFault" "LimitFault" 72 71 [.ref 47] [.ref 47,.type "Exception",.type "BaseException",.type "object"] true [] [] false none none (some (.ref 63)) none (some (.str "LimitFault" 250)) (some (.str "LimitFault" 258)) (some (.bool true)) "Exception.__new__"),
  some ⟨.type "function",none,.func SW,#[]⟩,some ⟨.type "cell",none,.cell (some (.ref 47)),#[]⟩],
 some (.type "code",none,#[],some (.str "/claim/cut.py" 210)),
 [some none,some none,some none,some (some (.builtin "object.__setattr__")),some (some (.ref 37)),some (some (.ref 541))])
noncomputable abbrev wB:=List (Option (Option Value))×List (Option (Option Value))×List (Option (Option Value))×List Aq×List FJ×Au
def Ax (K:Frag):wB:=((List.range gN).map λi=>nsIn K mainGlobals (gT i).1,(List.range fN).map λi=>findIn K (.ref (fT i).1) (fT i).2.1,(List.range tN).map λi=>takerIn K (tT i).1 (tT i).2,
 (List.range 4).map λk=>Ar K (Du k),(List.range kN).map λi=>FK K (kA i),Av K)
def Ay:wB:=((List.range gN).map λi=>some (gT i).2,(List.range fN).map λi=>some (fT i).2.2,(List.range tN).map λ_=>some Option.none,
 (List.range 4).map λk=>As (FG k),(List.range kN).map λi=>FL (kP i),Aw)
noncomputable abbrev qT:=Option (Value×Option Value×List Value)
noncomputable def wC (h:Heap):qT:=match h.get? 540 with
 |some ⟨c,_,.fields vs,_⟩=>some (c,vs[11]?,[vs.getD 11 .none,vs.getD 18 .none,vs.getD 7 .none,vs.getD 9 .none,vs.getD 10 .none])
 |_=>none
noncomputable def wD:qT:=some (.type "code",some (.ref 538),[.ref 538,.str "/claim/cut.py" 875,.int 3 0,.bool true,.int 181 0])
noncomputable def wF (h:Heap):Option Value:=match h.get? 541 with
 |some ⟨_,_,.func fd,_⟩=>some fd.code
 |_=>none
def Yf (s:Shared):wB×Bool×qT×Option Obj×Option Value:=(Ax (Ap s.heap),(s.heap.get? sysModules).isSome,wC s.heap,s.heap.get? 538,wF s.heap)
def Ya (_w:World):wB×Bool×qT×Option Obj×Option Value:=(Ay,true,wD,some (tabObj #[]),some (.ref 540))
set_option tactic.hygienic false
theorem JM {p q:Program}{loose:List Str}{Xt:Shared->Bool}{Yf:Shared->Y}{Ya:World->Y}{Nn:Params->Heap}{FO:Array GenState}{Np:Drawn}{Nq:Nat}(Qt :∀w:World,(fencedOpening treeTable p w N).map (λs=>(s.heap,s.gens,s.drawn,s.toks))=some (Nn w.params,FO,Np,Nq))(h :∀(w:World) (os:OsState),(topFrom treeTable p w N ⟨Nn w.params,FO,Np,Nq,os⟩).map (λs=>(openSeen q loose (importedModules p.main.body) Xt true s,Yf s))=some (openGood q loose,Ya w)):LeftO p q loose Xt Yf Ya N:=λw=>by
 obtain⟨⟨h0,gs,d,k,os⟩,e,e'⟩:=Option.map_eq_some_iff.mp (Qt w);obtain⟨rfl,rfl,rfl,rfl⟩:h0=Nn w.params/\gs=FO/\d=Np/\k=Nq:=by simpa using e'
 unfold openEnds;exact rl e<|h w os
section
variable {tb:String->Option Builtin}{p:Program}{JN:Nat}{VD:Option Value}{q:Pos}
theorem Dv {r:Shared}{l:List Stmt}{c c':Code}{p':Pos}(h:segRun tb p w JN VD 1 n s (piecesOf l env c pos [topFrame q])=some (.next,s',c',p'))(k:topRun tb p w JN VD N s' ⟨doneF .next,c',p',[topFrame q]⟩=some r):topRun tb p w JN VD (n+N) s (restOf l env c pos [topFrame q])=some r:=by
 obtain⟨a,ha,hN⟩:=seg_top (res:=id) (K':=λf=>match f with |.next=>(execs [] env).wrap doneF (leaveH env) id id |f=>doneF f) (H':=leaveH env) (B:=[topFrame q]) rfl n s (piecesOf l env c pos [topFrame q])
  ⟨(execs l env).wrap (λf=>match f with |.next=>(execs [] env).wrap doneF (leaveH env) id id |f=>doneF f) (leaveH env) id id,c,pos,[topFrame q]⟩ _ _ _ _ ⟨rfl,rfl,.inl ⟨rfl,rfl,_,rfl,rfl⟩⟩ h
 obtain rfl:a=.next:=ha;have:=hN N r k;unfold restOf;exact rr (List.append_nil l)<|rl (execs_app_wrap ..)<|this
end
noncomputable abbrev jP:Program:=gn.row.prog
noncomputable abbrev q0:Pos:=⟨0,0,0,0⟩
def JO:Env:={scope:=jP.main.scope,locals:=mainNs,globals:=mainNs,cells:=[],code:=.ref 13,frame:=some 14}
def Ck:List Stmt:=behindTheImports jP
abbrev uV:Code:=.body Ck JO
noncomputable def Qu (P:Params):List Obj:=[boot_o_0 P,boot_o_1 P,boot_o_2 P,boot_o_3 P,boot_o_4 P,boot_o_5 P,boot_o_6 P,boot_o_7 P,boot_o_8 P,boot_o_9 P,boot_o_10 P,
 {cls:=.type "tuple",data:=.seq #[]},{cls:=.none,data:=.fields #[]},
 {cls:=.type "code",data:=.fields #[.str "<module>" 182,.str "<module>" 183,.str "/claim/cut.py" 184,.int 1 0,.int 0 0,.int 0 0,.int 0 0,.int 0 0,.ref 11,.bool false,.int 181 0,.ref 12,.none,.none,.none,.none,.int 185 0,.int 1 0,.str "/claim/cut.py" 186]},
 {cls:=.type "frame",slots:=#[some (.ref 13),some (.ref 3),some (.ref 3),none,some (.str "__main__" 164),none,some (.ref 0)]}]
noncomputable def Nr (l:List Obj):BT:=(l.foldl (λ(x:BT×Nat) o=>(x.1.ins x.2 o,x.2+1)) (.nil,0)).1
def Qv (w:World)(os:OsState):SharedT:=⟨Nr (Qu w.params),15,{},#[],{},187,os⟩
noncomputable def SB (w:World)(os:OsState):Shared:=⟨boot_heap w.params,Array.mk [],boot_drawn,boot_toks,os⟩
theorem Qw :∀w:World,(fencedOpening treeTable jP w 7214).map (λs=>(s.heap,s.gens,s.drawn,s.toks))=some (boot_heap w.params,Array.mk [],boot_drawn,boot_toks):=
 boot_open (by kernel_rfl) (by kernel_rfl) (λ_=>by kernel_rfl)
theorem Qx (w:World)(os:OsState) :((SB w os).heap.isNs mainGlobals&&(SB w os).gens.size == 0,(SB w os).heap.objs.size,(SB w os).heap.nsMap mainGlobals "__annotations__") =(true,11,some (.ref 6)):=by kernel_rfl
theorem VE (w:World)(os:OsState):topGo treeTable jP w 11 (some (.ref 6)) 12 (SB w os) (topStub jP)=some ((Qv w os).abs,⟨denote treeTable uV,uV,q0,[topFrame q0]⟩):=by kernel_rfl
theorem Nt (w:World)(os:OsState):segRun treeTable jP w 11 (some (.ref 6)) 1 1 (Qv w os).abs (blockOf Ck JO uV q0 [topFrame q0])=some (.next,(Qv w os).abs,uV,q0):=by kernel_rfl
set_option tactic.hygienic true
def Qy (p:Program)(w:World)(r:Option (Flow×SharedT×Code×Pos)):Option Shared:=match r with
 |some (.next,s',c',p')=>topRun treeTable p w 11 (some (.ref 6)) 2 s'.abs ⟨doneF .next,c',p',[topFrame q0]⟩
 |_=>none
noncomputable def Nu (p:Program)(h₀:Heap)(fS:Shared):Option Shared:=match staticsOk (importedModules p.main.body) h₀ fS.heap&&namesBound p fS.heap&&gensDone fS&&laidKept h₀ fS.heap with
 |true=>some fS
 |false=>none
def VF (s:Shared):=(openSeen i6 [] (importedModules jP.main.body) (λs=>xlAt i6 [] s&&recOk (RowW.records gn.row.toRowW) s) true s,Yf s)
theorem Qz (w:World)(os:OsState) :((Qy jP w (segRunT treeTable jP w 11 (some (.ref 6)) 1 4000 (Qv w os) (piecesOf Ck JO uV q0 [topFrame q0]))).bind (Nu jP (boot_heap w.params))).map VF=some (openGood i6 [],Ya w):=by kernel_rfl
set_option tactic.hygienic false
structure dW where
 objs:List (Addr×Addr)
 eE:List Addr
variable {K:β->dW->Shared->Prop}{Z bK cF mX f9:dW}
noncomputable def dW.nil:dW:=⟨[],[]⟩
noncomputable def dW.add (Z:dW)(p:Addr×Addr):dW:=⟨Z.objs++[p],Z.eE⟩
noncomputable def bH (Z:dW):List Addr:=Z.objs.map (·.2)++Z.eE
theorem cB {a:Addr}:a∈bH Z↔a∈Z.objs.map (·.2)\/a∈Z.eE:=List.mem_append
noncomputable def cJ (s:List Nat):Str:=⟨s.toArray⟩
mutual
inductive aH (Z:dW)(h:Heap):V->Value->Prop
 |none:aH Z h .none .none
 |bool (b:Bool):aH Z h (.bool b) (.bool b)
 |int (i:Int) (t:Tok):aH Z h (.int i) (.int i t)
 |str (s:List Nat) (t:Tok):aH Z h (.str s) (.str (cJ s) t)
 |ref {i:Nat} {p:Addr×Addr}:Z.objs[i]? = some p->aH Z h (.ref i) (.ref p.1)
 |tup {vs:List V} {a:Addr} {o:Obj} {ms:Array Value} {n:Nat}:h.get? a=some o->o.cls=.type "tuple"->o.data=.seq ms n->a∉bH Z->
  aD Z h vs ms.toList->aH Z h (.tup vs) (.ref a)
 |list {vs:List V} {a:Addr} {o:Obj} {ms:Array Value} {n:Nat}:h.get? a=some o->o.cls=.type "list"->o.data=.seq ms n->a∉bH Z->
  aD Z h vs ms.toList->aH Z h (.list vs) (.ref a)
inductive aD (Z:dW)(h:Heap):List V->List Value->Prop
 |nil:aD Z h [] []
 |cons {v:V} {m:Value} {vs:List V} {ms:List Value}:aH Z h v m->aD Z h vs ms->aD Z h (v::vs) (m::ms)
end
section
theorem aH.fm (r:aH Z h (.ref i) m) :∃p,Z.objs[i]? = some p/\m=.ref p.1:=by
 cases r with |@ref _ p hp=>exact⟨p,hp,rfl⟩
theorem aH.int_inv {i:Int}(r:aH Z h (.int i) m) :∃t,m=.int i t:=by
 cases r with |int _ t=>exact⟨t,rfl⟩
theorem aH.str_inv {c:List Nat}(r:aH Z h (.str c) m) :∃t,m=.str (cJ c) t:=by
 cases r with |str _ t=>exact⟨t,rfl⟩
theorem aH.fV (r:aH Z h (.tup vs) m) :∃a o ms n,m=.ref a/\h.get? a=some o/\o.cls=.type "tuple"/\o.data=.seq ms n/\a∉bH Z/\aD Z h vs ms.toList:=by
 cases r with |@tup _ a o ms n h1 h2 h3 h4 h5=>exact⟨a,o,ms,n,rfl,h1,h2,h3,h4,h5⟩
theorem aH.eT {G:Value->Prop}(r:aH Z h (.tup vs) m)(k :∀a o ms n,h.get? a=some o->o.cls=.type "tuple"->o.data=.seq ms n->a∉bH Z->aD Z h vs ms.toList->G (.ref a)):G m:=
 by cases r with |@tup _ a o ms n h1 h2 h3 h4 h5=>exact k a o ms n h1 h2 h3 h4 h5
theorem aH.eL {G:Value->Prop}(r:aH Z h (.list vs) m)(k :∀a o ms n,h.get? a=some o->o.cls=.type "list"->o.data=.seq ms n->a∉bH Z->aD Z h vs ms.toList->G (.ref a)):G m:=by
 cases r with |@list _ a o ms n h1 h2 h3 h4 h5=>exact k a o ms n h1 h2 h3 h4 h5
theorem aD.nil_inv (r:aD Z h [] ms):ms=[]:=by cases r;rfl
theorem aD.cons_inv (r:aD Z h (v::vs) ms) :∃m ns,ms=m::ns/\aH Z h v m/\aD Z h vs ns:=by cases r with |cons a b=>exact⟨_,_,rfl,a,b⟩
theorem aD.eC {G:List Value->Prop}(r:aD Z h (v::vs) ms)(k :∀m ns,aH Z h v m->aD Z h vs ns->G (m::ns)):G ms:=by cases r with |cons a b=>exact k _ _ a b
theorem aD.ind {P:List V->List Value->Prop}(h0:P [] [])(h1 :∀v m vs ms,aH Z h v m->aD Z h vs ms->P vs ms->P (v::vs) (m::ms))(r:aD Z h vs ms):P vs ms:=
 aD.rec (motive_1:=λ_ _ _=>True) (motive_2:=λvs ms _=>P vs ms) trivial (λ_=>trivial) (λ_ _=>trivial) (λ_ _=>trivial) (λ_=>trivial) (λ_ _ _ _ _ _=>trivial) (λ_ _ _ _ _ _=>trivial) h0 (λa b _ ih=>h1 _ _ _ _ a b ih) r
theorem aD.length (r:aD Z h vs ms):vs.length=ms.length:=r.ind (P:=λvs ms=>vs.length=ms.length) rfl λ_ _ _ _ _ _ ih=>aR (· + 1) ih
theorem aD.get (r:aD Z h vs ms) :∀(i:Nat) (v:V),vs[i]? = some v->∃m,ms[i]? = some m/\aH Z h v m:=by
 refine r.ind (P:=λvs ms=>∀(i:Nat) (v:V),vs[i]? = some v->∃m,ms[i]? = some m/\aH Z h v m) (λi v e=>by simp at e) λv m vs ms hv _ ih i u e=>?_
 cases i with
 |zero=>injection e with e;subst e;exact⟨m,rfl,hv⟩
 |succ i=>exact ih i u (by simpa using e)
theorem aD.append {ns:List Value}(r:aD Z h vs ms)(q:aD Z h ws ns):aD Z h (vs++ws) (ms++ns):=
 r.ind (P:=λvs ms=>aD Z h (vs++ws) (ms++ns)) q λ_ _ _ _ hv _ ih=>.cons hv ih
theorem aD.drop (r:aD Z h vs ms) :∀n,aD Z h (vs.drop n) (ms.drop n):=by
 refine r.ind (P:=λvs ms=>∀n,aD Z h (vs.drop n) (ms.drop n)) (λn=>by simp;exact .nil) λv m vs ms hv r ih n=>?_
 cases n with
 |zero=>exact .cons hv r
 |succ n=>exact ih n
theorem aD.take (r:aD Z h vs ms) :∀n,aD Z h (vs.take n) (ms.take n):=by
 refine r.ind (P:=λvs ms=>∀n,aD Z h (vs.take n) (ms.take n)) (λn=>by simp;exact .nil) λv m vs ms hv r ih n=>?_
 cases n with
 |zero=>exact .nil
 |succ n=>exact .cons hv (ih n)
end
noncomputable def eJ:Data->Bool |.dict ..=>true |.cell _=>true |_=>false
def bI (o:Obj):Bool:=eJ o.data
structure cE (D:List Addr)(Z:dW)(h:Heap)(bK:dW)(h':Heap):Prop where
 more :∃x,bK.objs=Z.objs++x/\∀a∈x.map (·.2),h.get? a=Option.none
 eE:bK.eE=Z.eE
 held :∀a∈Z.eE,∀o,h.get? a=some o->h'.get? a=some o
 live :∀b o,h.get? b=some o->∃o',h'.get? b=some o'
 keep :∀b o,h.get? b=some o->b∉bH Z->bI o=false->h'.get? b=some o
 slot :∀b o,h.get? b=some o->b∉bH Z->b∉D->bI o=true->∃sl,h'.get? b=some {o with slots:=sl}
 soft :∀b o,h.get? b=some o->b∉bH Z->bI o=true->∃o',h'.get? b=some o'/\bI o'=true
section
variable {D:List Addr}{nR:dW}{Dw:Heap}
theorem cE.of_keeps (k :∀b o,h.get? b=some o->h'.get? b=some o):cE D Z h Z h':=
 ⟨⟨[],by simp,by simp⟩,rfl,λb _ o e=>k b o e,λb o e=>⟨o,k b o e⟩,λb o e _ _=>k b o e,λb o e _ _ _=>⟨o.slots,k b o e⟩,λb o e _ q=>⟨o,k b o e,q⟩⟩
theorem cE.refl (D:List Addr)(Z:dW)(h:Heap):cE D Z h Z h:=.of_keeps λ_ _ e=>e
theorem cE.eM {a:Addr}(x:cE D Z h bK h')(ho:h.get? a=some o)(hn:a∉bH Z):a∉bH bK:=by
 obtain⟨⟨u,JP,hu⟩,hh,_,_,_⟩:=x;rw[cB,not_or] at hn;rw[cB,JP,hh,List.map_append,List.mem_append,not_or,not_or];exact⟨⟨hn.1,λhm=>by replace ho:=(hu a hm)▸ho;injection ho⟩,hn.2⟩
theorem cE.get (x:cE D Z h bK h')(e:Z.objs[i]? = some p):bK.objs[i]? = some p:=by
 obtain⟨⟨u,JP,_⟩,_,_,_⟩:=x;exact rl JP<|rl (List.getElem?_append_left (List.getElem?_eq_some_iff.mp e).1)<|e
theorem cE.trans (x:cE D Z h bK h')(y:cE D bK h' nR Dw):cE D Z h nR Dw:=by
 have x0:=x;obtain⟨⟨u,JP,hu⟩,hx,ex,sx,kx,lx,fx⟩:=x;obtain⟨⟨v,QA,hv⟩,hy,ey,sy,ky,ly,fy⟩:=y;refine⟨⟨u++v,by refine QA.trans ?_;rw[JP];simp,?_⟩,hy.trans hx,λa ha o e=>ey a (hx▸ha) o (ex a ha o e),λb o e=>(let ⟨o1,e1⟩:=sx b o e;sy b o1 e1),λb o e hb q=>ky b o (kx b o e hb q) (x0.eM e hb) q,?_,λb o e hb hs=>?_⟩
 .intro a ha
  replace ha:=List.map_append▸ha;rcases List.mem_append.mp ha with ha |ha
  .exact hu a ha
  .cases z:h.get? a with
   |none=>rfl
   |some o=>obtain⟨o1,e1⟩:=sx a o z;replace e1:=(hv a ha)▸e1;injection e1
 .intro b o e hb hd hs
  obtain⟨sl,e'⟩:=lx b o e hb hd hs;obtain⟨JQ,VG⟩:=ly b _ e' (x0.eM e hb) hd (hs);exact⟨JQ,VG⟩
 .obtain⟨o',e',PL⟩:=fx b o e hb hs
  exact fy b o' e' (x0.eM e hb) PL
theorem cE.weaken (x:cE D Z h bK h')(hd :∀a∈D,a∈D'):cE D' Z h bK h':=
 ⟨x.more,x.eE,x.held,x.live,x.keep,λb o e hb q=>x.slot b o e hb λhm=>q (hd b hm),x.soft⟩
theorem cE.of0 (x:cE [] Z h bK h'):cE D Z h bK h':=x.weaken (by simp)
theorem cE.push (h:Heap)(o:Obj):cE D Z h Z (h.push o):=.of_keeps (λ_ _ e=>bR _ e)
theorem cE.sameBut {a:Addr}(k:Heap.SameBut a h h')(ha:a∈bH Z)(hh:a∉Z.eE)(hl :∃o,h'.get? a=some o):cE D Z h Z h':=
 have g :∀b o,h.get? b=some o->b∉bH Z->h'.get? b=some o:=λb o e hb=>(k.2 b λq=>hb (q▸ha)).trans e
 ⟨⟨[],by simp,by simp⟩,rfl,λb hb o e=>(k.2 b λq=>hh (q▸hb)).trans e,λb o e=>by
  by_cases Cm:b=a
  .subst Cm;exact hl
  .exact⟨o,(k.2 b Cm).trans e⟩,λb o e hb _=>g b o e hb,λb o e hb _ _=>⟨o.slots,g b o e hb⟩,λb o e hb q=>⟨o,g b o e hb,q⟩⟩
theorem cE.FP {a:Addr}(k:Heap.SameBut a h h')(ha:a∈D)(hh:a∉Z.eE)(hs :∀o,h.get? a=some o->bI o=true)(PL :∃o',h'.get? a=some o'/\bI o'=true):cE D Z h Z h':=
 ⟨⟨[],by simp,by simp⟩,rfl,λb hb o e=>(k.2 b λq=>hh (q▸hb)).trans e,λb o e=>by
  by_cases Cm:b=a
  .subst Cm;obtain⟨o',e',_⟩:=PL;exact⟨o',e'⟩
  .exact⟨o,(k.2 b Cm).trans e⟩,λb o e hb q=>by
  by_cases Cm:b=a
  .subst Cm;replace q:=(hs o e)▸q;injection q
  .exact(k.2 b Cm).trans e,λb o e hb q _=>by
  by_cases Cm:b=a
  .subst Cm;exact absurd ha q
  .exact⟨o.slots,(k.2 b Cm).trans e⟩,λb o e hb q=>by
  by_cases Cm:b=a
  .subst Cm;exact PL
  .exact⟨o,(k.2 b Cm).trans e,q⟩⟩
theorem cE.side {a:Addr}(x:cE D Z h bK h')(k :∀b o,b≠a->h'.get? b=some o->Dw.get? b=some o)(ha:h.get? a=none):cE D Z h bK Dw:=by
 have g :∀b o o',h.get? b=some o->h'.get? b=some o'->Dw.get? b=some o':=λb o o' e e'=>k b o' (λz=>by replace e:=ha▸z▸e;injection e) e';refine⟨x.more,x.eE,λb hb o e=>g b o o e (x.held b hb o e),λb o e=>(let ⟨o1,e1⟩:=x.live b o e;⟨o1,g b o o1 e e1⟩),λb o e hb q=>g b o o e (x.keep b o e hb q),λb o e hb hd q=>?_,λb o e hb q=>?_⟩
 .obtain⟨sl,e'⟩:=x.slot b o e hb hd q;exact⟨sl,g b o _ e e'⟩
 .obtain⟨o',e',q'⟩:=x.soft b o e hb q;exact⟨o',g b o _ e e',q'⟩
structure hU (Z:dW)(h:Heap)(bK:dW)(h':Heap):Prop where
 get :∀(i:Nat) (p:Addr×Addr),Z.objs[i]? = some p->bK.objs[i]? = some p
 keep :∀b o,h.get? b=some o->b∉bH Z->bI o=false->h'.get? b=some o
 eM :∀b o,h.get? b=some o->b∉bH Z->b∉bH bK
theorem cE.jQ (x:cE D Z h bK h'):hU Z h bK h':=⟨λ_ _ e=>x.get e,x.keep,λ_ _ e q=>x.eM e q⟩
theorem aH.map (ho :∀(i:Nat) (p:Addr×Addr),Z.objs[i]? = some p->bK.objs[i]? = some p)(hk :∀a o ms n,h.get? a=some o->o.data=.seq ms n->a∉bH Z->h'.get? a=some o/\a∉bH bK)(r:aH Z h v m):aH bK h' v m:=
 aH.rec (motive_1:=λv m _=>aH bK h' v m) (motive_2:=λvs ms _=>aD bK h' vs ms) .none .bool .int .str (λe=>.ref (ho _ _ e)) (λh1 h2 h3 h4 _ ih=>.tup (hk _ _ _ _ h1 h3 h4).1 h2 h3 (hk _ _ _ _ h1 h3 h4).2 ih) (λh1 h2 h3 h4 _ ih=>.list (hk _ _ _ _ h1 h3 h4).1 h2 h3 (hk _ _ _ _ h1 h3 h4).2 ih) .nil (λ_ _ a b=>.cons a b) r
theorem aD.map (ho :∀(i:Nat) (p:Addr×Addr),Z.objs[i]? = some p->bK.objs[i]? = some p)(hk :∀a o ms n,h.get? a=some o->o.data=.seq ms n->a∉bH Z->h'.get? a=some o/\a∉bH bK) :∀{vs:List V} {ms:List Value},aD Z h vs ms->aD bK h' vs ms:=by
 intro vs
 induction vs with
 |nil=>intro ms r;cases r;exact .nil
 |cons v vs ih=>intro ms r;cases r with |cons a b=>exact .cons (a.map ho hk) (ih b)
theorem hU.seq (x:hU Z h bK h') :∀a o ms n,h.get? a=some o->o.data=.seq ms n->a∉bH Z->h'.get? a=some o/\a∉bH bK:=λ_ _ _ _ ho hd hn=>⟨x.keep _ _ ho hn (aR eJ hd),x.eM _ _ ho hn⟩
theorem aH.eN (x:hU Z h bK h')(r:aH Z h v m):aH bK h' v m:=r.map x.get x.seq
theorem aD.eN (x:hU Z h bK h')(r:aD Z h vs ms):aD bK h' vs ms:=r.map x.get x.seq
theorem aH.mono (x:cE D Z h bK h')(r:aH Z h v m):aH bK h' v m:=r.eN x.jQ
theorem aD.mono (x:cE D Z h bK h')(r:aD Z h vs ms):aD bK h' vs ms:=r.eN x.jQ
end
theorem JR (hs:Heap.SameBut d h h')(hd :∀o,h.get? d=some o->bI o=true) :∀a o ms n,h.get? a=some o->o.data=.seq ms n->a∉bH Z->h'.get? a=some o/\a∉bH Z:=
 λ_ _ _ _ ho Dx hn=>⟨(hs.2 _ (λz=>by have:=hd _ (z▸ho);exact Bool.noConfusion (show false=true from(aR eJ Dx).symm.trans this))).trans ho,hn⟩
theorem aH.FQ (hs:Heap.SameBut d h h')(hd :∀o,h.get? d=some o->bI o=true)(r:aH Z h v m):aH Z h' v m:=r.map (λ_ _ e=>e) (JR hs hd)
theorem aD.plain0 (r:aD Z h vs ms):V.cS vs=true->aD .nil h vs ms:=
 aD.rec (motive_1:=λv m _=>v.plain=true->aH .nil h v m) (motive_2:=λvs ms _=>V.cS vs=true->aD .nil h vs ms) (λ_=>.none) (λb _=>.bool b) (λi t _=>.int i t) (λs t _=>.str s t) (λ_ p=>by injection p)
  (λho hc hd _ _ ih p=>.tup ho hc hd (by simp[bH,dW.nil]) (ih p)) (λho hc hd _ _ ih p=>.list ho hc hd (by simp[bH,dW.nil]) (ih p)) (λ_=>.nil)
  (λ_ _ p5 QB p=>.cons (p5 (cK p).1) (QB (cK p).2)) r
theorem aH.plain0 (r:aH Z h v m)(p:v.plain=true):aH .nil h v m:=by
 cases aD.plain0 (.cons r .nil) (fD ⟨p,rfl⟩) with |cons a b=>exact a
def Cn:V->PyData:=V.fold .none .bool .int (λs=>.str (cJ s)) .tuple .list (λ_=>.none) [] (·::·)
def Dy:List V->List PyData:=V.uT .none .bool .int (λs=>.str (cJ s)) .tuple .list (λ_=>.none) [] (·::·)
theorem aD.reads (r:aD Z h vs ms):V.cS vs=true->∃as,ReadsAll h ms (Dy vs) as:=
 aD.rec (motive_1:=λv m _=>v.plain=true->∃as,Reads h m (Cn v) as) (motive_2:=λvs ms _=>V.cS vs=true->∃as,ReadsAll h ms (Dy vs) as) (λ_=>⟨_,.none⟩) (λ_ p=>by injection p) (λi t _=>⟨_,.int i t⟩) (λs t _=>⟨_,.str _ t⟩) (λ_ p=>by injection p)
  (λho hc hd _ _ ih p=>let ⟨_,q⟩:=ih p;⟨_,.tuple ho hc hd q⟩) (λho hc hd _ _ ih p=>let ⟨_,q⟩:=ih p;⟨_,.list ho hc hd q⟩) (λ_=>⟨_,.nil⟩)
  (λ_ _ p5 QB p=>let ⟨_,q⟩:=p5 (cK p).1;let ⟨_,q'⟩:=QB (cK p).2;⟨_,.cons q q'⟩) r
theorem aH.reads (r:aH Z h v m)(p:v.plain=true) :∃as,Reads h m (Cn v) as:=by
 obtain⟨as,q⟩:=aD.reads (.cons r .nil) (fD ⟨p,rfl⟩)
 cases q with |cons a b=>exact⟨_,a⟩
theorem qU (v:V):v.plain=true->(Cn v).canLay0=true/\(Cn v).depth=v.depth:=
 V.rec (motive_1:=λv=>v.plain=true->(Cn v).canLay0=true/\(Cn v).depth=v.depth)
  (motive_2:=λvs=>V.cS vs=true->PyData.canLayAll0 (Dy vs)=true/\PyData.depthAll (Dy vs)=V.cv vs)
  (λ_=>⟨rfl,rfl⟩) (λ_ p=>by injection p) (λ_ _=>⟨rfl,rfl⟩)
  (λs p=>⟨by have q:s.all (· < 0x110000)=true:=p;show PyData.canLay0 (.str (cJ s))=true;simpa [PyData.canLay0,PyData.strOk,cJ] using q,rfl⟩)
  (λvs ih p=>⟨(ih p).1,aR (· + 1) (ih p).2⟩) (λvs ih p=>⟨(ih p).1,aR (· + 1) (ih p).2⟩) (λ_ p=>by injection p) (λ_=>⟨rfl,rfl⟩)
  (λa as ia Nh p=>⟨fD ⟨(ia (cK p).1).1,(Nh (cK p).2).1⟩,
   congr (aR max (ia (cK p).1).2) (Nh (cK p).2).2⟩) v
theorem nU (a:V) :∀b:V,a.plain=true->b.plain=true->PyData.eqv (Cn a) (Cn b)=V.beq a b:=
 V.rec (motive_1:=λa=>∀b:V,a.plain=true->b.plain=true->PyData.eqv (Cn a) (Cn b)=V.beq a b)
  (motive_2:=λa=>∀b:List V,V.cS a=true->V.cS b=true->PyData.eqvAll (Dy a) (Dy b)=V.x9 a b)
  (λb _ q=>by cases b <;> first |rfl |injection q) (λ_ _ p _=>by injection p) (λi b _ q=>by cases b <;> first |rfl |injection q)
  (λs b _ q=>by
   cases b with
   |str t=>
    show(cJ s == cJ t) =(s == t);by_cases h:s=t
    .rw[h,beq_self_eq_true,beq_self_eq_true]
    .exact(beq_eq_false_iff_ne.mpr λe:cJ s=cJ t=>h (aR Array.toList (aR Str.cps e))).trans (beq_eq_false_iff_ne.mpr h).symm
   |_=>first |rfl |injection q)
  (λvs ih b p q=>by cases b with |tup ws=>exact ih ws p q |_=>first |rfl |injection q)
  (λvs ih b p q=>by cases b with |list ws=>exact ih ws p q |_=>first |rfl |injection q)
  (λ_ _ p _=>by injection p) (λb _ _=>by cases b <;> rfl)
  (λa as ia Nh b p q=>by
   cases b with
   |nil=>rfl
   |cons b bs=>exact congr (aR and (ia b (cK p).1 (cK q).1)) (Nh bs (cK p).2 (cK q).2)) a
theorem V.rP (a b:V):V.beq a b=decide (a=b):=by
 by_cases h:a=b
 .exact rl (bN h)<|rl ((V.beq_iff a b).mpr h) rfl
 .exact rl (cH h)<|Bool.eq_false_iff.mpr λe=>h ((V.beq_iff a b).mp e)
theorem aH.inj (a:aH Z h v m)(b:aH Z h v' m)(p:v.plain=true)(q:v'.plain=true):v=v':=by
 obtain⟨as,ra⟩:=a.reads p;obtain⟨bs,rb⟩:=b.reads q;refine(V.beq_iff v v').mp ((nU v v' p q).symm.trans ?_);exact rr ((ra.unique _ _ rb).1) <| (nU v v p p).trans ((V.beq_iff v v).mpr rfl)
def V.FR:V->Bool:=V.fold false (λ_=>false) (λ_=>true) (·.all (· < 0x110000)) id (λ_=>false) (λ_=>false) true (·&&·)
def V.kZ:List V->Bool:=V.uT false (λ_=>false) (λ_=>true) (·.all (· < 0x110000)) id (λ_=>false) (λ_=>false) true (·&&·)
theorem V.Az:v.FR=true->v.plain=true:=
 V.rec (motive_1:=λv=>v.FR=true->v.plain=true) (motive_2:=λvs=>V.kZ vs=true->V.cS vs=true) (λh=>by injection h) (λ_ h=>by injection h) (λ_ _=>rfl) (λ_ h=>h) (λ_ ih h=>ih h) (λ_ _ h=>by injection h) (λ_ h=>by injection h) (λ_=>rfl)
  (λ_ _ a b h=>fD ⟨a (cK h).1,b (cK h).2⟩) v
theorem V.fG (h:V.kZ vs=true):V.cS vs=true:=V.Az (v:=.tup vs) h
section
def Ms:V->Int:=V.fold 0 (λ_=>0) (intKind W.prog W.w).hash (λs=>(strKind W.prog W.w).hash (cJ s)) (λl=>reduceHash (Builtin.Tuple.tupleHashOf l)) (λ_=>0) (λ_=>0) [] (·::·)
def Nv:List V->List Int:=V.uT 0 (λ_=>0) (intKind W.prog W.w).hash (λs=>(strKind W.prog W.w).hash (cJ s)) (λl=>reduceHash (Builtin.Tuple.tupleHashOf l)) (λ_=>0) (λ_=>0) [] (·::·)
def AA:V->Nat:=V.fold 1 (λ_=>1) (λ_=>1) (λ_=>1) (· + 1) (λ_=>1) (λ_=>1) 0 (· + ·)
def wG:List V->Nat:=V.uT 1 (λ_=>1) (λ_=>1) (λ_=>1) (· + 1) (λ_=>1) (λ_=>1) 0 (· + ·)
noncomputable def wH (v:V):Prop:=∀(A:Around) (E:iN) (s:Shared) (mv:Value) (Q:Int->Shared->Prop),
 A.units+4 * V.depth v+4<cLine->aH .nil s.heap v mv->Q (Ms v) {s with toks:=s.toks+AA v}->wpAny bQ A (pyHash mv) Q E s
noncomputable def qV (vs:List V):Prop:=∀(A:Around) (E:iN) (s:Shared) (ms:List Value) (b:Array Int) (Q:Array Int->Shared->Prop),
 A.units+4 * V.cv vs+4<cLine->aD .nil s.heap vs ms->(∀b',b'.toList=b.toList++Nv vs->Q b' {s with toks:=s.toks+wG vs})->
  wpAny bQ A (forIn ms b λx r=>do let h <- pyHash x;pure PUnit.unit;pure (ForInStep.yield (r.push h))) Q E s
theorem FT (rQ:qV vs):wH (.tup vs):=by
 intro A E s mv Q hu hr h;refine aH.eT (G:=λmv=>wpAny bQ A (pyHash mv) Q E s) hr λa o ms n ho hc hd hn r=>?_;rw[V.lZ] at hu;refine pyHash_slot (T:="tuple") ⟨o,ho,hc⟩ F.slot_tuple_hash F.entry_tuple_hash (F.args_tuple_hash_1 _) (beq_builtin_none _) (.inr (Qn hu)) ?_;show wpAny _ _ (Builtin.Tuple.tupleItemsOf (.ref a) >>= _) _ _ s;refine wb (wpAny_tupleItemsOf ho hd (wb ?_));refine rr Array.forIn_toList<|rQ A.in1 E s ms.toList #[] _ (by refine rl (Around.in1_units ..) ?_;exact Vg hu) r λb hb=>?_
 show wpAny _ _ (retInt (Builtin.Tuple.tupleHashOf b.toList)) _ _ _;exact rl hb<|wb (wpAny_mkInt (av ⟨_,_,rfl,h⟩))
theorem Dz (hv:wH v)(hs:qV vs):qV (v::vs):=by
 intro A E s ms b Q hu hr h;have d:=V.Dr v vs;refine aD.eC (G:=λms=>wpAny bQ A (forIn ms b λx r=>do let h <- pyHash x;pure PUnit.unit;pure (ForInStep.yield (r.push h))) Q E s) hr λm ns r1 r2=>?_;refine rl (List.forIn_cons ..)<|wb (wb (hv _ _ _ _ _ (Mo hu (id (And.symm d))) r1 (av ?_)))
 refine hs A E _ ns _ Q (Mo hu d) r2 λb' hb=>?_;have q:=h b' (by refine hb.trans ?_;exact rl Array.toList_push<|rl (cW ..) rfl)
 rw[show s.toks+wG (v::vs)=s.toks+AA v+wG vs from(Nat.add_assoc ..).symm] at q;exact q
theorem JS (v:V):v.FR=true->wH v:=
 V.rec (motive_1:=λv=>v.FR=true->wH v) (motive_2:=λvs=>V.kZ vs=true->qV vs) (λh=>by injection h) (λ_ h=>by injection h)
  (λi _ A E s mv Q _ hr h=>by obtain⟨t,rfl⟩:=hr.int_inv;exact(intKind W.prog W.w).pyHash (by simp[intKind,Value.isInt]) h)
  (λx _ A E s mv Q _ hr h=>by obtain⟨t,rfl⟩:=hr.str_inv;exact(strKind W.prog W.w).pyHash (strKind_is _ _ _ _) h)
  (λ_ ih h=>FT (ih h)) (λ_ _ h=>by injection h) (λ_ h=>by injection h)
  (λ_ A E s ms b Q _ hr h=>by exact rl hr.nil_inv<|av (h b (List.append_nil _).symm))
  (λ_ _ a b h=>Dz (a (cK h).1) (b (cK h).2)) v
end
section
theorem nV {a b:V}{ma mb:Value}{Q:Bool->Shared->Prop}(ra:aH Z s.heap a ma)(rb:aH Z s.heap b mb)(ha:a.plain=true)(hb:b.plain=true)(hu:A.units+min a.depth b.depth<cLine)(h:Q (decide (a=b)) s):wpAny bQ A (eqBool ma mb) Q E s:=by
 obtain⟨as,qa⟩:=ra.reads ha;obtain⟨bs,qb⟩:=rb.reads hb;have la:=qU a ha;have lb:=qU b hb;refine SeqAt.eqAt_reads _ _ A s ma mb as bs qa qb la.1 lb.1 (rl la.2<|rl lb.2<|hu) W.prog W.w E Q ?_
 exact rl (nU a b ha hb)<|rl (V.rP ..)<|h
noncomputable def yf (n:Nat)(vs:List V):Prop:=V.kZ vs=true->V.cv vs<=n->∀(ms:List Value),aD .nil s.heap vs ms->∀m∈ms,∀(Q:Bool->Shared->Prop),Q true s->wpAny bQ A (eqIsQuiet n m) Q E s
noncomputable def wI (v:V):Prop:=v.FR=true->∀(n:Nat),v.depth<=n->∀(m:Value),aH .nil s.heap v m->∀(Q:Bool->Shared->Prop),Q true s->wpAny bQ A (eqIsQuiet n m) Q E s
theorem DA (ih :∀n,yf (A:=A) (E:=E) (s:=s) n vs):wI (A:=A) (E:=E) (s:=s) (.tup vs):=by
 intro hk n hd m r Q h
 cases n with
 |zero=>exact absurd hd (Nat.not_succ_le_zero _)
 |succ n=>
 refine aH.eT (G:=λm=>wpAny bQ A (eqIsQuiet (n+1) m) Q E s) r λa o ms k ho hc hda hn r=>?_;have hT:s.TypeIs (.ref a) "tuple":=⟨o,ho,hc⟩;unfold eqIsQuiet;refine wb (wpAny_specialOf hT F.slot_tuple_eq.lookup ?_);refine wb (wpAny_isInstance hT isSubtype_tuple_tuple ?_);dsimp only[Bool.not_true,Bool.false_eq_true,if_false];refine wb (wpAny_seqItems ho hda (wb ?_));refine rr Array.forIn_toList<|wpAny_forIn_list _ (λjR r s'=>r.1=none/\s'=s/\∀m∈jR,m∈ms.toList) _ ?_ ?_ _ _ ⟨rfl,rfl,λ_ h=>h⟩
 .rintro v jR r s' ⟨hr,rfl,hm⟩
  refine aY (ih n hk (Nat.le_of_succ_le_succ hd) _ r v (hm v (.head _)) _ ?_);simp only[Bool.not_true,Bool.false_eq_true,if_false];exact av ⟨rfl,rfl,λm h=>hm m (.tail _ h)⟩
 .rintro⟨r1,r2⟩ s' ⟨hr,rfl,_⟩
  subst hr;exact av h
theorem AB (v:V):wI (A:=A) (E:=E) (s:=s) v:=
 V.rec (motive_1:=λv=>wI (A:=A) (E:=E) (s:=s) v) (motive_2:=λvs=>∀n,yf (A:=A) (E:=E) (s:=s) n vs) (λh=>by injection h) (λ_ h=>by injection h)
  (λi _ n _ m r Q h=>by obtain⟨t,rfl⟩:=r.int_inv;exact rl (eqIsQuiet_byValue n rfl)<|av h)
  (λi _ n _ m r Q h=>by obtain⟨t,rfl⟩:=r.str_inv;exact rl (eqIsQuiet_byValue n rfl)<|av h)
  (λ_ ih=>DA ih) (λ_ _ h=>by injection h) (λ_ h=>by injection h)
  (λn _ _ ms r m hm=>by rw[r.nil_inv] at hm;exact nomatch hm)
  (λ_ _ a b n hk hd ms r m hm Q h=>by
   rw[V.ya] at hd;obtain⟨m1,ns,rfl,r1,r2⟩:=r.cons_inv;have k:=cK hk;rcases b7 hm with rfl |hm
   .exact a k.1 n (bZ (Nat.le_max_left ..) hd) _ r1 Q h
   .exact b n k.2 (bZ (Nat.le_max_right ..) hd) _ r2 m hm Q h) v
end
def dX:HeapKind W.prog W.w (List V) where
 is h vs a:=aH .nil h (.tup vs) (.ref a)/\V.kZ vs=true/\V.cv vs<=6
 hash vs:=Ms (.tup vs)
 draws vs:=AA (.tup vs)
 room A:=A.units+64<cLine
 inj hx hy:=by
  have:=hx.1.inj hy.1 (V.fG hx.2.1) (V.fG hy.2.1);exact V.tup.inj this
 keeps {h h' k a d o es ep} x ho hd hs:=by
  exact⟨x.1.FQ hs λo' e=>by rw[ho] at e;cases e;exact aR eJ hd,x.2⟩
 pyHash {A E s k a Q} hu hk h:=by
  refine JS (.tup k) hk.2.1 A E s (.ref a) Q ?_ hk.1 h;have:=hk.2.2;rw[V.lZ];exact U3 hu this
 eqBool {A E s x y a b Q} hu hx hy h:=by
  refine nV hx.1 hy.1 (V.fG hx.2.1) (V.fG hy.2.1) ?_ ?_
  .have:=hx.2.2
   have h2:min (V.tup x).depth (V.tup y).depth<=(V.tup x).depth:=Nat.min_le_left _ _;have h3:=V.lZ x;exact U2 hu this h2 h3
  .have e:decide (V.tup x=V.tup y)=decide (x=y):=by simp
   rw[e];exact h
 quiet {A E s k a Q} hk h:=AB (.tup k) hk.2.1 8 (by have:=hk.2.2;rw[V.lZ];exact q2 ‹_› (by rfl)) _ hk.1 Q h
inductive d8 {Y β:Type}(R:Y->β->Prop):List Y->List β->Prop
 |nil:d8 R [] []
 |cons {a:Y} {b:β} {as:List Y} {bs:List β}:R a b->d8 R as bs->d8 R (a::as) (b::bs)
theorem d8.mono {R R':Y->β->Prop}(h :∀a b,R a b->R' a b)(r:d8 R as bs):d8 R' as bs:=by
 induction r with
 |nil=>exact .nil
 |cons a _ ih=>exact .cons (h _ _ a) ih
theorem d8.length {R:Y->β->Prop}(r:d8 R as bs):as.length=bs.length:=by
 induction r with
 |nil=>rfl
 |cons _ _ ih=>exact aR (· + 1) ih
theorem d8.append {R:Y->β->Prop}{Yg:List Y}{Yh:List β}(r:d8 R as bs)(q:d8 R Yg Yh):d8 R (as++Yg) (bs++Yh):=by
 induction r with
 |nil=>exact q
 |cons a _ ih=>exact .cons a ih
section
noncomputable def qW (Z:dW)(h:Heap)(k:DK)(ay:List (V×V))(a:Addr):Prop:=match k with
 |.int=>∃ks:List (Int×Value),h.DictOf (intKind W.prog W.w) a ks/\d8 (λkv km=>kv.1=.int km.1/\aH Z h kv.2 km.2) ay ks
 |.str=>∃ks:List (Str×Value),h.DictOf (strKind W.prog W.w) a ks/\d8 (λkv km=>(∃x,kv.1=.str x/\km.1=cJ x)/\aH Z h kv.2 km.2) ay ks
 |.tup=>∃xs:List (List V×Addr×Value),h.DictOfH (dX) a xs/\d8 (λkv km=>(kv.1=.tup km.1/\aH Z h (.tup km.1) (.ref km.2.1))/\aH Z h kv.2 km.2.2) ay xs
noncomputable def mA (Z:dW)(h:Heap):O->Addr×Addr->Prop
 |.list vs,p=>p.1=p.2/\∃ms n,h.get? p.2=some ⟨.type "list",none,.seq ms n,#[]⟩/\aD Z h vs ms.toList
 |.dict k ay,p=>p.1=p.2/\qW Z h k ay p.2
 |.inst c fs,p=>(∃sl,h.get? p.1=some ⟨.ref (W.cls c),some p.2,.plain,sl⟩)/\
  ∃ks:List (Str×Value),h.DictOf (strKind W.prog W.w) p.2 ks/\d8 (λkv km=>(kv.1<W.nN/\km.1=W.nm kv.1)/\aH Z h kv.2 km.2) fs ks
structure gO (Z:dW)(U:bw)(h:Heap):Prop where
 base:W.h₀.StaysIn h
 ok:SX
 fresh :∀a∈bH Z,W.h₀.get? a=none
 qE :∀a∈Z.eE,∃ob,h.get? a=some ob/\ob.cls=.type "list"
 nodup :(bH Z).Nodup
 len:Z.objs.length=U.length
 objs :∀(i:Nat) (o:O) (p:Addr×Addr),U[i]? = some o->Z.objs[i]? = some p->mA Z h o p
structure St (Z:dW)(U:bw)(s:Shared):Prop where
 heap:gO Z U s.heap
 gens:s.gens=W.gens
 os:s.os=W.os
theorem mA.mut {o:O}(r:mA Z h o p) :∃ob,h.get? p.2=some ob/\(ob.cls=.type "list"\/ob.cls=.type "dict"):=by
 cases o with
 |list vs=>obtain⟨_,ms,n,e,_⟩:=r;exact⟨_,e,.inl rfl⟩
 |dict k ay=>
  obtain⟨_,r⟩:=r
  cases k with
  |int=>obtain⟨ks,⟨o,es,ep,ho,hx,_⟩,_⟩:=r;exact⟨o,ho,.inr hx.1⟩
  |str=>obtain⟨ks,⟨o,es,ep,ho,hx,_⟩,_⟩:=r;exact⟨o,ho,.inr hx.1⟩
  |tup=>obtain⟨ks,⟨o,es,ep,ho,hx,_⟩,_⟩:=r;exact⟨o,ho,.inr hx.1⟩
 |inst c fs=>obtain⟨_,ks,⟨o,es,ep,ho,hx,_⟩,_⟩:=r;exact⟨o,ho,.inr hx.1⟩
theorem DictOf.at_ {K:Type}[DecidableEq K]{knd:KeyKind W.prog W.w K}{a:Addr}{ks:List (K×Value)}(d:h.DictOf knd a ks)(k :∀ob,h.get? a=some ob->h'.get? a=some ob):h'.DictOf knd a ks:=by
 refine cq λG hG=>?_;obtain⟨o,es,ep,ho,r⟩:=d;refine hG ?_;exact⟨o,es,ep,k _ ho,r⟩
theorem d8.right {R:Y->β->Prop}{P:β->Prop}(h :∀a b,R a b->P b)(r:d8 R as bs) :∀b∈bs,P b:=by
 induction r with
 |nil=>intro b hm;cases hm
 |cons a _ ih=>
  intro b hm;rcases b7 hm with e |hm
  .exact rl e<|h _ _ a
  .exact ih b hm
theorem DB {k:List V}{a:Addr}(x:hU Z h bK h')(hk :(dX).is h k a)(r:aH Z h (.tup k) (.ref a)) :(dX).is h' k a:=
 ⟨(r.eN x).plain0 (V.fG hk.2.1),hk.2⟩
theorem DictOfH.mono {a:Addr}(d:h.DictOfH (dX) a xs)(x:hU Z h bK h')(hr :∀y∈xs,aH Z h (.tup y.1) (.ref y.2.1))(k :∀ob,h.get? a=some ob->h'.get? a=some ob):h'.DictOfH (dX) a xs:=by
 refine cq λG hG=>?_;obtain⟨o,es,ep,ho,he,hd,hl,Nw,hn⟩:=d;refine hG ?_;exact⟨o,es,ep,k _ ho,he,hd,hl,λy hy=>DB x (Nw y hy) (hr y hy),hn⟩
theorem qW.mono {kd:DK}{a:Addr}(r:qW Z h kd ay a)(x:hU Z h bK h')(k :∀ob,h.get? a=some ob->h'.get? a=some ob) :
  qW bK h' kd ay a:=by
 cases kd with
 |int=>obtain⟨ks,d,al⟩:=r;exact⟨ks,DictOf.at_ d k,al.mono λ_ _ q=>⟨q.1,q.2.eN x⟩⟩
 |str=>obtain⟨ks,d,al⟩:=r;exact⟨ks,DictOf.at_ d k,al.mono λ_ _ q=>⟨q.1,q.2.eN x⟩⟩
 |tup=>
  obtain⟨ks,d,al⟩:=r;exact⟨ks,DictOfH.mono d x (al.right λ_ _ q=>q.1.2) k,al.mono λ_ _ q=>⟨⟨q.1.1,q.1.2.eN x⟩,q.2.eN x⟩⟩
theorem mA.mono {o:O}(r:mA Z h o p)(x:hU Z h bK h')(k :∀ob,h.get? p.2=some ob->h'.get? p.2=some ob)(hp :∀ob,h.get? p.1=some ob->bI ob=false->∃sl,h'.get? p.1=some {ob with slots:=sl}):mA bK h' o p:=by
 cases o with
 |list vs=>obtain⟨e,ms,n,g,q⟩:=r;exact⟨e,ms,n,k _ g,q.eN x⟩
 |dict kd ay=>exact⟨r.1,r.2.mono x k⟩
 |inst c fs=>
  refine cq λG hG=>?_;obtain⟨⟨sl,e⟩,ks,d,al⟩:=r;obtain⟨JQ,e'⟩:=hp _ e rfl;refine hG ?_;exact⟨⟨JQ,e'⟩,ks,DictOf.at_ d k,al.mono λ_ _ q=>⟨q.1,q.2.eN x⟩⟩
theorem gO.at (S:gO Z U h)(hp:p∈Z.objs) :∃(i:Nat) (o:O),U[i]? = some o/\Z.objs[i]? = some p/\mA Z h o p:=by
 obtain⟨i,hi⟩:=List.mem_iff_getElem?.mp hp;have eO:i<U.length:=by exact rr S.len <| (List.getElem?_eq_some_iff.mp hi).1
 exact⟨i,U[i],by simp[eO],hi,S.objs i _ p (by simp[eO]) hi⟩
theorem gO.gK (S:gO Z U h){a:Addr}(ha:a∈bH Z) :∃ob,h.get? a=some ob/\(ob.cls=.type "list"\/ob.cls=.type "dict"):=by
 rcases cB.mp ha with ha |ha
 .obtain⟨p,hp,rfl⟩:=dz ha
  obtain⟨i,o,_,_,r⟩:=S.at hp;exact r.mut
 .obtain⟨ob,e,c⟩:=S.qE a ha;exact⟨ob,e,.inl c⟩
theorem gO.lt (S:gO Z U h){a:Addr}(ha:a∈bH Z):a<h.objs.size:=by
 obtain⟨ob,e,_⟩:=S.gK ha;exact cI e
theorem gO.jS (S:gO Z U h):h.objs.size∉bH Z:=λhm=>Nat.lt_irrefl _ (S.lt hm)
theorem gO.mY (S:gO Z U h){a:Addr}(e:W.h₀.get? a=some o):a∉bH Z:=λhm=>by
 replace e:=(S.fresh a hm)▸e;injection e
theorem gO.keeps (S:gO Z U h)(k :∀b o,h.get? b=some o->h'.get? b=some o):gO Z U h':=by
 refine⟨λb o e=>k _ _ (S.base b o e),S.ok,S.fresh,λa ha=>(let ⟨ob,e,c⟩:=S.qE a ha;⟨ob,k _ _ e,c⟩),S.nodup,S.len,λi o p e e'=>?_⟩;exact(S.objs i o p e e').mono (cE.of_keeps (D:=[]) k).jQ (λob q=>k _ _ q) λob q _=>⟨ob.slots,k _ _ q⟩
theorem gO.FV (S:gO Z U h) :(Z.objs.map (·.2)).Nodup:=(List.nodup_append.mp S.nodup).1
theorem gO.gL (S:gO Z U h)(hi:Z.objs[i]? = some p):p.2∉Z.eE:=λhm=>
 (List.nodup_append.mp S.nodup).2.2 p.2 (List.mem_map.mpr ⟨p,List.mem_of_getElem? hi,rfl⟩) p.2 hm rfl
theorem gO.set (S:gO Z U h){o':O}(hi:Z.objs[i]? = some p)(hs:Heap.SameBut p.2 h h')(r:mA Z h' o' p):gO Z (U.set i o') h':=by
 have hm:p.2∈bH Z:=cB.mpr (.inl (List.mem_map.mpr ⟨p,List.mem_of_getElem? hi,rfl⟩));have hh:=S.gL hi;refine⟨λb o e=>?_,S.ok,S.fresh,λa ha=>(let ⟨ob,e,c⟩:=S.qE a ha;⟨ob,(hs.2 a λz=>hh (z▸ha)).trans e,c⟩),S.nodup,by simp[S.len],λj o q e e'=>?_⟩
 .exact(hs.2 b λz=>S.mY e (z▸hm)).trans (S.base b o e)
 .by_cases Mt:i=j
  .subst Mt
   replace e':=hi▸e';injection e' with e';subst e';replace e:=(List.getElem?_set)▸e;simp only[if_pos] at e
   split at e
   .injection e with e;subst e;exact r
   .injection e
  .replace e:=(ax Mt)▸(List.getElem?_set)▸e
   have dg:q.2≠p.2:=by
    intro z;have h1 :(Z.objs.map (·.2))[j]? = some q.2:=by simp[e']
    have h2 :(Z.objs.map (·.2))[i]? = some p.2:=by simp[hi]
    replace h1:=z▸h1;exact Mt ((List.getElem?_inj (List.getElem?_eq_some_iff.mp h2).1 S.FV).mp (h2.trans h1.symm))
   refine(S.objs j o q e e').mono (cE.sameBut (D:=[]) hs hm hh (let ⟨ob,e,_⟩:=r.mut;⟨ob,e⟩)).jQ (λob z=>(hs.2 _ dg).trans z) λob z zs=>?_;by_cases hq:q.1=p.2
   .have ro:=S.objs j o q e e'
    revert e;cases o with
    |list vs=>intro e;exact absurd (ro.1.symm.trans hq) dg
    |dict k ay=>intro e;exact absurd (ro.1.symm.trans hq) dg
    |inst c fs=>
     intro e;obtain⟨⟨sl,e1⟩,_⟩:=ro;obtain⟨ob',e2,hc⟩:=S.gK hm;replace e1:=e2▸hq▸e1;injection e1 with e1;subst e1;simp at hc
   .exact⟨ob.slots,(hs.2 _ hq).trans z⟩
theorem gO.alloc (S:gO Z U h){o':O}(k :∀b o,h.get? b=some o->h'.get? b=some o)(hp:h.get? p.2=none)(r:mA (Z.add p) h' o' p) :
  gO (Z.add p) (U++[o']) h'/\cE [] Z h (Z.add p) h':=by
 have x:cE [] Z h (Z.add p) h':=⟨⟨[p],rfl,by simpa using hp⟩,rfl,λb _ o e=>k b o e,λb o e=>⟨o,k _ _ e⟩,λb o e _ _=>k _ _ e,λb o e _ _ _=>⟨o.slots,k _ _ e⟩,λb o e _ q=>⟨o,k _ _ e,q⟩⟩;have k6:p.2∉bH Z:=λhm=>by obtain⟨ob,e,_⟩:=S.gK hm;replace e:=hp▸e;injection e
 have mem :∀a,a∈bH (Z.add p)↔a=p.2\/a∈bH Z:=λa=>by
  simp only[cB,dW.add,List.map_append,List.mem_append,List.map_cons,List.map_nil,List.mem_singleton];constructor
  .rintro((h |h) |h)
   .exact .inr (.inl h)
   .exact .inl h
   .exact .inr (.inr h)
  .rintro(h |h |h)
   .exact .inl (.inr h)
   .exact .inl (.inl h)
   .exact .inr h
 refine⟨⟨λb o e=>k _ _ (S.base b o e),S.ok,λa ha=>?_,λa ha=>(let ⟨ob,e,c⟩:=S.qE a ha;⟨ob,k _ _ e,c⟩),?_,by simp[S.len,dW.add],λj o q e e'=>?_⟩,x⟩
 .rcases (mem a).mp ha with rfl |ha
  .cases z:W.h₀.get? p.2 with
   |none=>rfl
   |some o=>have:=S.base _ _ z;replace this:=hp▸this;injection this
  .exact S.fresh a ha
 .have hn:=S.nodup
  unfold bH at hn ⊢;rw[List.nodup_append] at hn;obtain⟨n1,n2,n3⟩:=hn;rw[cB,not_or] at k6;simp only[dW.add,List.map_append,List.map_cons,List.map_nil];rw[List.nodup_append];refine⟨?_,n2,λa ha b hb=>?_⟩
  .rw[List.nodup_append]
   refine⟨n1,by simp,λa ha b hb=>?_⟩;exact rl (dM hb)<|λz=>k6.1 (z▸ha)
  .rcases List.mem_append.mp ha with ha |ha
   .exact n3 a ha b hb
   .exact rl (dM ha)<|λz=>k6.2 (z▸hb)
 .by_cases hj:j<U.length
  .replace e:=(List.getElem?_append_left hj)▸e
   simp only[dW.add] at e';replace e':=(List.getElem?_append_left (rl S.len<|hj))▸e'
   exact(S.objs j o q e e').mono x.jQ (λob z=>k _ _ z) λob z _=>⟨ob.slots,k _ _ z⟩
  .have SY:U.length<=j:=by exact Nat.le_of_not_lt hj
   replace e:=(List.getElem?_append_right SY)▸e;simp only[dW.add] at e';replace e':=(List.getElem?_append_right (rl S.len<|SY))▸e'
   replace e':=S.len▸e'
   cases z:j - U.length with
   |zero=>rw[z] at e e';simp at e e';subst e e';exact r
   |succ n=>replace e:=z▸e;simp at e
end
structure Act where
 A:Around
 env:Env
 l:List Env
variable {a:Act}
noncomputable def Act.D (a:Act):List Addr:=a.env.locals::a.env.cells.map (·.2)
section
structure rR (n:Nat)(A:Around)(l:List Env):Prop where
 hand:A.handled=none
 frames:A.frames=some l
 depth:A.depth+n<=990
 units:A.units+40 * n+400<=cLine
structure b8 (n:Nat)(a:Act):Prop extends rR n a.A a.l where
 head :∃fe mF L,a.l=fe::mF/\fe.frame=some L/\a.env.frame=some L
 kind:a.env.scope.kind=.function
 glob:a.env.globals=mainGlobals
 blt:a.env.builtins=builtinsNs
noncomputable def iV (l:List Env)(Z:dW)(h:Heap):Prop:=
 ∀e∈l,e.scope.kind≠.module/\∃L o,e.frame=some L/\L∉bH Z/\W.h₀.get? L=none/\h.get? L=some o/\bI o=true
noncomputable def iD (a:Act)(Z:dW)(h:Heap)(m:Str->Option Value)(x:Str)(v:V):Prop:=
 match a.env.kindOf x with
 |some .local=>∃mv,m x=some mv/\aH Z h v mv
 |some .cell |some .free=>∃c mv,a.env.cells.lookup x=some c/\h.IsCell c (some mv)/\aH Z h v mv
 |_=>False
structure FS (a:Act)(fr:eY)(Z:dW)(h:Heap):Prop where
 live:iV a.l Z h
 ns :∃m,h.Ns a.env.locals m/\∀i v,fr.lookup i=some v->i<W.nN/\iD a Z h m (W.nm i) v
 o6:a.env.locals∉bH Z
 uW:W.h₀.get? a.env.locals=none
 cells :∀x c,(x,c)∈a.env.cells->c∉bH Z/\W.h₀.get? c=none/\∃v,h.IsCell c v
 apart:a.env.cells.Pairwise λx y=>x.2≠y.2
 laid :∀x,a.env.kindOf x=some .cell->∃c,a.env.cells.lookup x=some c
noncomputable def nW (l:List Env):List Addr:=l.filterMap (·.frame)
structure gX (D F:List Addr)(Z:dW)(h:Heap)(bK:dW)(B h':Heap):Prop where
 more :∃x,bK.objs=Z.objs++x/\∀a∈x.map (·.2),h.get? a=Option.none
 eE:bK.eE=Z.eE
 held :∀a∈Z.eE,∀o,h.get? a=some o->B.get? a=some o
 keep :∀b o,h.get? b=some o->b∉bH Z->bI o=false->B.get? b=some o
 slot :∀b o,h.get? b=some o->b∉bH Z->b∉D->bI o=true->∃sl,(b∉F->B.get? b=some {o with slots:=sl})/\(b∈F->h'.get? b=some {o with slots:=sl})
 soft :∀b o,h.get? b=some o->b∉bH Z->bI o=true->∃o',bI o'=true/\(b∉F->B.get? b=some o')/\(b∈F->h'.get? b=some o')
 stays:B.StaysIn h'
noncomputable def p6 (l:List Env)(c:Nat)(Z:dW)(U:bw)(s:Shared)(e:Addr)(B:Heap):Prop:=
 s.gens=W.gens/\s.os=W.os/\gO Z U B/\∃a0,Heap.FlyingW B l e (.ref (W.cls c)) a0 s.heap
noncomputable def AD (l:List Env)(c:Nat)(Z:dW)(U:bw)(s:Shared)(e:Addr)(B:Heap):Prop:=
 s.gens=W.gens/\s.os=W.os/\gO Z U B/\∃env mF L a0,l=env::mF/\env.frame=some L/\Heap.HeldW B l e (.ref (W.cls c)) a0 L s.heap
noncomputable def AE (l:List Env)(c:Nat)(Z:dW)(U:bw)(s:Shared)(e:Addr)(B:Heap):Prop:=
 s.gens=W.gens/\s.os=W.os/\gO Z U B/\∃oe vs a0,B.StaysIn s.heap/\B.get? e=none/\
  s.heap.get? e=some oe/\oe.cls=.ref (W.cls c)/\oe.data=.fields vs/\vs[1]? = some .none/\vs[0]? = some a0/\s.heap.FunFrames B l
noncomputable def b9 (a:Act)(Z:dW)(s:Shared)(r:Res β)(K:β->dW->Shared->Prop)(E:iN):Prop:=match r with
 |.ok v bB=>∀bK s',St bK bB s'->cE [] Z s.heap bK s'.heap->K v bK s'
 |.exc c bB=>∀bK s' e B,(p6 a.l c bK bB s' e B\/AD a.l c bK bB s' e B)->gX [] (nW a.l) Z s.heap bK B s'.heap->E (.ref e) s'
 |.stuck=>False
noncomputable def KV (Q:iN)(v:V)(Z:dW)(s:Shared):Prop:=∀mv,aH Z s.heap v mv->Q mv s
noncomputable def KVs (Q:List Value->Shared->Prop)(vs:List V)(Z:dW)(s:Shared):Prop:=∀ms,aD Z s.heap vs ms->Q ms s
noncomputable def KB (Q:Bool->Shared->Prop)(b:Bool)(_ρ:dW)(s:Shared):Prop:=Q b s
noncomputable abbrev bt (a:Act)(Z:dW)(s:Shared)(r:Res V)(Q:iN)(E:iN):Prop:=b9 a Z s r (KV Q) E
noncomputable def cm (n:Nat)(sc:Scope)(e:Expr)(f:ME V):Prop:=
 ∀(a:Act),b8 n a->a.env.scope=sc->∀(Z:dW) (U:bw) (fr:eY) (s:Shared),St Z U s->FS a fr Z s.heap->
  ∀(Q:iN) (E:iN),bt a Z s (f fr U) Q E->wpAny bQ a.A (eval e a.env) Q E s
noncomputable def gy (n:Nat)(sc:Scope)(es:List Expr)(f:ME (List V)):Prop:=
 ∀(a:Act),b8 n a->a.env.scope=sc->∀(Z:dW) (U:bw) (fr:eY) (s:Shared),St Z U s->FS a fr Z s.heap->
  ∀(pos:Pos) (Q:List Value->Shared->Prop) (E:iN),b9 a Z s (f fr U) (KVs Q) E->
   wpAny bQ a.A (spliced (backTo pos (starEach es a.env))) Q E s
noncomputable def jo (n:Nat)(sc:Scope)(e:Expr)(f:ME Bool):Prop:=
 ∀(a:Act),b8 n a->a.env.scope=sc->∀(Z:dW) (U:bw) (fr:eY) (s:Shared),St Z U s->FS a fr Z s.heap->
  ∀(Q:Bool->Shared->Prop) (E:iN),b9 a Z s (f fr U) (KB Q) E->wpAny bQ a.A (isTrue e a.env (eval e a.env)) Q E s
noncomputable def fO (a:Act)(Z:dW)(s:Shared)(r:uh)(Q:Flow->Shared->Prop)(E:iN):Prop:=match r with
 |.next bC bB=>∀bK s',St bK bB s'->cE a.D Z s.heap bK s'.heap->FS a bC bK s'.heap->Q .next s'
 |.brk bC bB=>∀bK s',St bK bB s'->cE a.D Z s.heap bK s'.heap->FS a bC bK s'.heap->Q .brk s'
 |.ret v bB=>∀bK s' mv,St bK bB s'->cE a.D Z s.heap bK s'.heap->aH bK s'.heap v mv->Q (.ret mv) s'
 |.exc c bC bB=>∀bK s' e B,((p6 a.l c bK bB s' e B\/AD a.l c bK bB s' e B)\/AE a.l c bK bB s' e B)->gX a.D (nW a.l) Z s.heap bK B s'.heap->FS a bC bK s'.heap->E (.ref e) s'
 |.stuck=>False
noncomputable def jT (n:Nat)(sc:Scope)(st:Stmt)(f:MS):Prop:=
 ∀(a:Act),b8 n a->a.env.scope=sc->∀(Z:dW) (U:bw) (fr:eY) (s:Shared),St Z U s->FS a fr Z s.heap->
  ∀(Q:Flow->Shared->Prop) (E:iN),fO a Z s (f fr U) Q E->wpAny bQ a.A (exec st a.env) Q E s
noncomputable def cb (n:Nat)(sc:Scope)(st:List Stmt)(f:MS):Prop:=
 ∀(a:Act),b8 n a->a.env.scope=sc->∀(Z:dW) (U:bw) (fr:eY) (s:Shared),St Z U s->FS a fr Z s.heap->
  ∀(Q:Flow->Shared->Prop) (E:iN),fO a Z s (f fr U) Q E->wpAny bQ a.A (execs st a.env) Q E s
noncomputable def QC (l:List Env)(Z:dW)(s:Shared)(r:Res V)(R:Result->Shared->Prop):Prop:=match r with
 |.ok v bB=>∀bK s' mv,St bK bB s'->cE [] Z s.heap bK s'.heap->aH bK s'.heap v mv->R (.ok (.ret mv)) s'
 |.exc c bB=>∀bK s' e B,p6 l c bK bB s' e B->gX [] (nW l) Z s.heap bK B s'.heap->R (.error (.ref e)) s'
 |.stuck=>False
noncomputable def aZ (n:Nat)(f:Addr)(g:List V->bw->Res V):Prop:=
 ∀(A:Around) (l:List Env),rR n A l->∀(Z:dW) (U:bw) (s:Shared) (vs:List V) (ms:List Value),St Z U s->iV l Z s.heap->aD Z s.heap vs ms->
  ∀(R:Result->Shared->Prop),QC l Z s (g vs U) R->codeAny bQ A (.call (.ref f) ⟨ms,[]⟩) R s
end
section
variable {D:List Addr}
theorem gX.sub {a:Addr}(x:gX D F Z h bK B h')(hm:a∈bH Z):a∈bH bK:=by
 refine cq λG hG=>?_;obtain⟨u,JP,hu⟩:=x.more;refine hG ?_;rw[cB] at hm ⊢;rw[JP,x.eE,List.map_append,List.mem_append];exact hm.imp .inl id
theorem gX.ext (x:gX D F Z h bK B h')(S:gO bK U B):cE D Z h bK h':=by
 have slot :∀b o,h.get? b=some o->b∉bH Z->b∉D->bI o=true->∃sl,h'.get? b=some {o with slots:=sl}:=λb o e hb hd hs=>by
  obtain⟨sl,h1,h2⟩:=x.slot b o e hb hd hs;by_cases hF:b∈F
  .exact⟨sl,h2 hF⟩
  .exact⟨sl,x.stays _ _ (h1 hF)⟩
 have soft :∀b o,h.get? b=some o->b∉bH Z->bI o=true->∃o',h'.get? b=some o'/\bI o'=true:=λb o e hb hs=>by
  obtain⟨o',q,h1,h2⟩:=x.soft b o e hb hs;by_cases hF:b∈F
  .exact⟨o',h2 hF,q⟩
  .exact⟨o',x.stays _ _ (h1 hF),q⟩
 refine⟨x.more,x.eE,λa ha o e=>x.stays _ _ (x.held a ha o e),λb o e=>?_,λb o e hb hs=>x.stays _ _ (x.keep b o e hb hs),slot,soft⟩;by_cases hb:b∈bH Z
 .obtain⟨ob,e',_⟩:=S.gK (x.sub hb)
  exact⟨ob,x.stays _ _ e'⟩
 .cases hs:bI o with
  |false=>exact⟨o,x.stays _ _ (x.keep b o e hb hs)⟩
  |true=>obtain⟨o',e',_⟩:=soft b o e hb hs;exact⟨o',e'⟩
theorem gX.pre (y:gX D F cF h1 bK B h')(x:cE D Z h cF h1):gX D F Z h bK B h':=by
 refine cq λG hG=>?_;obtain⟨u,JP,hu⟩:=x.more;obtain⟨v,QA,hv⟩:=y.more;refine hG ?_;refine⟨⟨u++v,by refine QA.trans ?_;rw[JP];simp,λa ha=>?_⟩,y.eE.trans x.eE,λa ha o e=>y.held a (x.eE▸ha) o (x.held a ha o e),λb o e hb q=>y.keep b o (x.keep b o e hb q) (x.eM e hb) q,λb o e hb hd q=>?_,λb o e hb q=>?_,y.stays⟩
 .replace ha:=List.map_append▸ha
  rcases List.mem_append.mp ha with ha |ha
  .exact hu a ha
  .cases z:h.get? a with
   |none=>rfl
   |some o=>obtain⟨o1,e1⟩:=x.live a o z;replace e1:=(hv a ha)▸e1;injection e1
 .obtain⟨sl,e'⟩:=x.slot b o e hb hd q
  refine cq λG hG=>?_;obtain⟨JQ,h1,h2⟩:=y.slot b _ e' (x.eM e hb) hd (q);refine hG ?_;exact⟨JQ,h1,h2⟩
 .obtain⟨o1,e1,q1⟩:=x.soft b o e hb q
  exact y.soft b o1 e1 (x.eM e hb) q1
theorem gX.up (x:gX D F Z h bK B h1)(k:h1.UpToSlots h')(st:B.StaysIn h'):gX D F Z h bK B h':=by
 have nf :∀{o:Obj},bI o=true->∀vs,o.data≠.fields vs:=λ{o} q vs z=>Bool.noConfusion (show false=true from(aR eJ z).symm.trans q);refine⟨x.more,x.eE,x.held,x.keep,λb o e hb hd q=>?_,λb o e hb q=>?_,st⟩
 .obtain⟨sl,h1,h2⟩:=x.slot b o e hb hd q
  by_cases hF:b∈F
  .obtain⟨JQ,e'⟩:=k b _ (h2 hF) (nf (q))
   exact⟨JQ,λz=>absurd hF z,λ_=>e'⟩
  .exact⟨sl,h1,λz=>absurd z hF⟩
 .obtain⟨o1,q1,h1,h2⟩:=x.soft b o e hb q
  by_cases hF:b∈F
  .obtain⟨JQ,e'⟩:=k b _ (h2 hF) (nf q1)
   exact⟨{o1 with slots:=JQ},q1,λz=>absurd hF z,λ_=>e'⟩
  .exact⟨o1,q1,h1,λz=>absurd z hF⟩
theorem gX.weaken (x:gX D F Z h bK B h')(hd :∀a∈D,a∈D'):gX D' F Z h bK B h':=
 ⟨x.more,x.eE,x.held,x.keep,λb o e hb q=>x.slot b o e hb λhm=>q (hd b hm),x.soft,x.stays⟩
theorem gX.of0 (x:gX [] F Z h bK B h'):gX D F Z h bK B h':=x.weaken (by simp)
theorem gX.drop {F':List Addr}(x:gX D F Z h bK B h')(hd :∀b o,h.get? b=some o->(b∈D->b∈D')/\(b∈F↔b∈F')):gX D' F' Z h bK B h':=by
 refine⟨x.more,x.eE,x.held,x.keep,λb o e hb q s=>?_,λb o e hb s=>?_,x.stays⟩
 .obtain⟨sl,h1,h2⟩:=x.slot b o e hb (λz=>q ((hd b o e).1 z)) s
  exact⟨sl,λz=>h1 λy=>z ((hd b o e).2.mp y),λz=>h2 ((hd b o e).2.mpr z)⟩
 .obtain⟨o',q',h1,h2⟩:=x.soft b o e hb s
  exact⟨o',q',λz=>h1 λy=>z ((hd b o e).2.mp y),λz=>h2 ((hd b o e).2.mpr z)⟩
theorem iV.ext (x:cE D Z h bK h')(L:iV l Z h):iV l bK h':=by
 intro e he;refine cq λG hG=>?_;obtain⟨k,L,o,hf,hn,hb,ho,hs⟩:=L e he;obtain⟨o',e',PL⟩:=x.soft _ _ ho hn hs;refine hG ?_;exact⟨k,L,o',hf,x.eM ho hn,hb,e',PL⟩
theorem IsCell.soft {c:Addr}{v:Option Value}(N:h.IsCell c v) :∃o,h.get? c=some o/\bI o=true:=by
 refine cq λG hG=>?_;obtain⟨o,ho,hd⟩:=N;refine hG ?_;exact⟨o,ho,aR eJ hd⟩
theorem Ns.soft {c:Addr}{m:Str->Option Value}(N:h.Ns c m) :∃o,h.get? c=some o/\bI o=true:=by
 refine cq λG hG=>?_;obtain⟨o,_,_,ho,hd,_⟩:=N;refine hG ?_;exact⟨o,ho,aR eJ hd⟩
theorem DC (sl:Array (Option Value))(q:bI o=true):bI {o with slots:=sl}=true:=q
structure Carry (a:Act)(Z bK:dW)(h h':Heap):Prop where
 own :∀b o,(b=a.env.locals\/∃x,(x,b)∈a.env.cells)->h.get? b=some o->bI o=true->b∉bH Z->b∉bH bK/\∃sl,h'.get? b=some {o with slots:=sl}
 fr :∀b o,b∈nW a.l->h.get? b=some o->bI o=true->b∉bH Z->b∉bH bK/\∃o',h'.get? b=some o'/\bI o'=true
 val :∀v mv,aH Z h v mv->aH bK h' v mv
theorem Carry.of (k :∀b o,h.get? b=some o->bI o=true->b∉bH Z->b∉bH bK/\∃sl,h'.get? b=some {o with slots:=sl})(v :∀v mv,aH Z h v mv->aH bK h' v mv):Carry a Z bK h h':=
 ⟨λb o _ e q n=>k b o e q n,λb o _ e q n=>let ⟨n',sl,e'⟩:=k b o e q n;⟨n',_,e',DC sl q⟩,v⟩
theorem Carry.cell (x:Carry a Z bK h h'){y:Str}{c:Addr}{v:Option Value}(hy :(y,c)∈a.env.cells)(hn:c∉bH Z)(N:h.IsCell c v):c∉bH bK/\h'.IsCell c v:=
 let ⟨o,ho,hd⟩:=N
 let ⟨n,_,e⟩:=x.own c o (.inr ⟨y,hy⟩) ho (aR eJ hd) hn
 ⟨n,_,e,hd⟩
theorem iD.Mu {m:Str->Option Value}{y:Str}(r:iD a Z h m y v)(l:a.env.kindOf y=some .local->∀mv,m y=some mv->aH Z h v mv->G)(c :∀c mv,a.env.kindOf y=some .cell->a.env.cells.lookup y=some c->h.IsCell c (some mv)->aH Z h v mv->G)(f :∀c mv,a.env.kindOf y=some .free->a.env.cells.lookup y=some c->h.IsCell c (some mv)->aH Z h v mv->G):G:=by
 unfold iD at r
 cases hk:a.env.kindOf y with
 |none=>rw[hk] at r;exact r.elim
 |some k=>
  rw[hk] at r
  cases k with
  | «local»=>exact let ⟨mv,hm,hv⟩:=r;l hk mv hm hv
  |cell=>exact let ⟨d,mv,hl,hc,hv⟩:=r;c d mv hk hl hc hv
  |free=>exact let ⟨d,mv,hl,hc,hv⟩:=r;f d mv hk hl hc hv
  |_=>exact r.elim
theorem iD.map {m m':Str->Option Value}{y:Str}(r:iD a Z h m y v)(l :∀mv,m y=some mv->m' y=some mv)(c :∀c mv,a.env.cells.lookup y=some c->h.IsCell c (some mv)->h'.IsCell c (some mv))(x :∀mv,aH Z h v mv->aH bK h' v mv):iD a bK h' m' y v:=by
 refine r.Mu (λhk mv hm hv=>?_) (λd mv hk hl hc hv=>?_) (λd mv hk hl hc hv=>?_) <;>(unfold iD;rw[hk])
 .exact⟨mv,l mv hm,x mv hv⟩
 .exact⟨d,mv,hl,c d mv hl hc,x mv hv⟩
 .exact⟨d,mv,hl,c d mv hl hc,x mv hv⟩
theorem iD.carry {m:Str->Option Value}{y:Str}(x:Carry a Z bK h h')(hc :∀y c,(y,c)∈a.env.cells->c∉bH Z)(r:iD a Z h m y v):iD a bK h' m y v:=
 r.map (λ_ e=>e) (λc mv hl QD=>(x.cell (mem_of_lookup hl) (hc _ _ (mem_of_lookup hl)) QD).2) (x.val _)
theorem FS.carry (F:FS a fr Z h)(x:Carry a Z bK h h'):FS a fr bK h':=by
 refine cq λG hG=>?_;obtain⟨m,⟨oL,es,ep,eL,dL,rL⟩,hv⟩:=F.ns;obtain⟨n,_,e⟩:=x.own _ _ (.inl rfl) eL (aR eJ dL) F.o6;refine hG ⟨λe he=>?_,⟨m,⟨_,es,ep,e,dL,rL⟩,λi v e=>⟨(hv i v e).1,(hv i v e).2.carry x λy c hy=>(F.cells y c hy).1⟩⟩,n,F.uW,λy c hy=>?_,F.apart,F.laid⟩
 .exact let ⟨q,L,o,hf,hn,hb,ho,hs⟩:=F.live e he;let ⟨n,o',e',q'⟩:=x.fr L o (List.mem_filterMap.mpr ⟨e,he,hf⟩) ho hs hn;⟨q,L,o',hf,n,hb,e',q'⟩
 .exact let ⟨h1,h2,v,h3⟩:=F.cells y c hy;let ⟨n,h4⟩:=x.cell hy h1 h3;⟨n,h2,v,h4⟩
theorem FS.ext (F:FS a fr Z h)(x:cE [] Z h bK h'):FS a fr bK h':=
 F.carry ⟨λb o _ e q n=>⟨x.eM e n,x.slot b o e n (by simp) q⟩,λb o _ e q n=>⟨x.eM e n,x.soft b o e n q⟩,λ_ _ r=>r.mono x⟩
theorem b9.opt {o:Option Y}{K:Y->dW->Shared->Prop}(p:b9 a Z s (Res.cN o U) K E)(k :∀v,o=some v->b9 a Z s (.ok v U) K E->G):G:=
 match o,p,k with
 |some v,p,k=>k v rfl p
 |none,p,_=>p.elim
theorem b9.Ny {c:Prop}[h:Decidable c]{r:Res Y}{K:Y->dW->Shared->Prop}(p:b9 a Z s (if c then r else .stuck) K E)(k:c->b9 a Z s r K E->G):G:=
 match h,p with
 |.isTrue hc,p=>k hc p
 |.isFalse _,p=>p.elim
theorem b9.step {r:Res β}(x:cE [] Z s.heap bK s'.heap)(p:b9 a Z s r K E):b9 a bK s' r K E:=by
 cases r with
 |ok v bB=>exact λnR uX hs hx=>p nR uX hs (x.trans hx)
 |exc c bB=>exact λnR uX e B hf hx=>p nR uX e B hf (hx.pre x)
 |stuck=>exact p
section
theorem cm.bind {e:Expr}{f:ME V}(hE:cm n sc e f)(ok:b8 n a)(bJ:a.env.scope=sc)(S:St Z U s)(F:FS a fr Z s.heap){k:V->bw->Res β}(p:b9 a Z s ((f fr U).andThen k) K E)(h :∀v bq cF s1 mv,St cF bq s1->FS a fr cF s1.heap->cE [] Z s.heap cF s1.heap->aH cF s1.heap v mv->b9 a cF s1 (k v bq) K E->Q mv s1) :
  wpAny bQ a.A (eval e a.env) Q E s:=by
 refine hE a ok bJ Z U fr s S F Q E ?_
 cases hf:f fr U with
 |ok v bq=>replace p:=hf▸p;exact λcF s1 S1 x1 mv r1=>h v bq cF s1 mv S1 (F.ext x1) x1 r1 (b9.step x1 p)
 |exc c bq=>replace p:=hf▸p;exact p
 |stuck=>replace p:=hf▸p;exact p
theorem gy.bind {es:List Expr}{f:ME (List V)}(hE:gy n sc es f)(ok:b8 n a)(bJ:a.env.scope=sc)(S:St Z U s)(F:FS a fr Z s.heap){k:List V->bw->Res β}{Q:List Value->Shared->Prop}(p:b9 a Z s ((f fr U).andThen k) K E)(h :∀vs bq cF s1 ms,St cF bq s1->FS a fr cF s1.heap->cE [] Z s.heap cF s1.heap->aD cF s1.heap vs ms->b9 a cF s1 (k vs bq) K E->Q ms s1) :
  wpAny bQ a.A (spliced (backTo pos (starEach es a.env))) Q E s:=by
 refine hE a ok bJ Z U fr s S F pos Q E ?_
 cases hf:f fr U with
 |ok v bq=>replace p:=hf▸p;exact λcF s1 S1 x1 mv r1=>h v bq cF s1 mv S1 (F.ext x1) x1 r1 (b9.step x1 p)
 |exc c bq=>replace p:=hf▸p;exact p
 |stuck=>replace p:=hf▸p;exact p
theorem jo.bind {e:Expr}{f:ME Bool}(hE:jo n sc e f)(ok:b8 n a)(bJ:a.env.scope=sc)(S:St Z U s)(F:FS a fr Z s.heap){k:Bool->bw->Res β}{Q:Bool->Shared->Prop}(p:b9 a Z s ((f fr U).andThen k) K E)(h :∀v bq cF s1,St cF bq s1->FS a fr cF s1.heap->cE [] Z s.heap cF s1.heap->b9 a cF s1 (k v bq) K E->Q v s1) :
  wpAny bQ a.A (isTrue e a.env (eval e a.env)) Q E s:=by
 refine hE a ok bJ Z U fr s S F Q E ?_
 cases hf:f fr U with
 |ok v bq=>replace p:=hf▸p;exact λcF s1 S1 x1=>h v bq cF s1 S1 (F.ext x1) x1 (b9.step x1 p)
 |exc c bq=>replace p:=hf▸p;exact p
 |stuck=>replace p:=hf▸p;exact p
theorem bt.val (p:bt a Z s (.ok v U) Q E)(S:St bK U s')(x:cE [] Z s.heap bK s'.heap)(r:aH bK s'.heap v mv):Q mv s':=
 p bK s' S x mv r
end
theorem fO.step {r:uh}{Q:Flow->Shared->Prop}(x:cE a.D Z s.heap bK s'.heap)(p:fO a Z s r Q E):fO a bK s' r Q E:=by
 revert p;cases r with
 |next bC bB=>intro p;exact λnR uX hs hx hv=>p nR uX hs (x.trans hx) hv
 |brk bC bB=>intro p;exact λnR uX hs hx hv=>p nR uX hs (x.trans hx) hv
 |ret v bB=>intro p;exact λnR uX mv hs hx hv=>p nR uX mv hs (x.trans hx) hv
 |exc c bC bB=>intro p;exact λnR uX e B hf hx hv=>p nR uX e B hf (hx.pre x) hv
 |stuck=>intro p;exact p
end
def flat (U:bw)(v:V):Option V:=match v with
 |.ref i=>match U[i]? with
  |some (.list vs)=>if V.cS vs then some (.list vs) else .none
  |_=>.none
 |v=>if v.plain then some v else .none
noncomputable def items? (U:bw)(v:V):Option (List V):=match v with
 |.ref i=>match U[i]? with
  |some (.list vs)=>some vs
  |_=>.none
 |.list vs=>some vs
 |_=>.none
noncomputable def cD (n:Nat):Bool:=decide (n<=1000000)
noncomputable def V.int? : V->Option Int
 |.int i=>some i
 |_=>Option.none
noncomputable def V.gZ : V->Option (List V)
 |.tup vs=>some vs
 |_=>Option.none
noncomputable def V.nX : V->Option (List Nat)
 |.str cs=>some cs
 |_=>Option.none
theorem V.fH {i:Int}(e:v.int? = some i):v=.int i:=by cases v <;> cases e;rfl
theorem V.eP {i:List V}(e:v.gZ = some i):v=.tup i:=by cases v <;> cases e;rfl
theorem V.iW {i:List Nat}(e:v.nX = some i):v=.str i:=by cases v <;> cases e;rfl
noncomputable def QE (op:Operator)(x y:Int)(U:bw):Res V:=match op with
 |.Add=>.ok (.int (x+y)) U
 |.Sub=>.ok (.int (x - y)) U
 |.Mult=>if x.natAbs<2 ^ 64\/y.natAbs<2 ^ 64 then .ok (.int (x * y)) U else .stuck
 |.FloorDiv=>if y≠0/\y.natAbs<2 ^ 30 then .ok (.int (x.fdiv y)) U else .stuck
 |.Mod=>if y≠0/\y.natAbs<2 ^ 30 then .ok (.int (x.fmod y)) U else .stuck
 |_=>.stuck
def JT (a b:V)(U:bw):Option (List V×List V):=(items? U a).bind λx=>(items? U b).map λy=>(x,y)
def Nz (a b:V)(U:bw):Res V:=match a.nX with
 |some x=>match b.nX with
  |some y=>if cD (x.length+y.length) then .ok (.str (x++y)) U else .stuck
  |.none=>.stuck
 |.none=>.stuck
def QG (a b:V)(U:bw):Res V:=match a.gZ with
 |some x=>match b.gZ with
  |some y=>if cD (x.length+y.length) then .ok (.tup (x++y)) U else .stuck
  |.none=>.stuck
 |.none=>match JT a b U with
  |some q=>if cD (q.1.length+q.2.length) then .ok (.ref U.length) (U++[.list (q.1++q.2)]) else .stuck
  |.none=>Nz a b U
def AF (op:Operator)(a b:V):ME V:=λ_ U=>match a.int? with
 |some x=>match b.int? with
  |some y=>QE op x y U
  |.none=>.stuck
 |.none=>match op with
  |.Add=>QG a b U
  |_=>.stuck
def aU (op:Operator)(f g:ME V):ME V:=f.bind λa=>g.bind λb=>AF op a b
def ai (i:Nat):ME V:=λfr U=>Res.cN (fr.lookup i) U
noncomputable def aS:List (ME V)->ME (List V)
 |[]=>ah []
 |f::fs=>f.bind λv=>(aS fs).bind λvs=>ah (v::vs)
def bj (fs:List (ME V)):ME V:=(aS fs).bind λvs=>if cD vs.length then ah (.tup vs) else ie
def dj (fs:List (ME V)):ME V:=(aS fs).bind λvs=>if cD vs.length then (λ_ U=>.ok (.ref U.length) (U++[.list vs])) else ie
section
variable {D:List Addr}
theorem St.fW {tk:Nat}(S:St Z U s):St Z U {s with toks:=tk}:=⟨S.heap,S.gens,S.os⟩
theorem aq {i:Int}:cm n sc (.Constant (.int i) k pos) (ah (.int i)):=by
 intro a ok bJ Z U fr s S F Q E p;exact wpAny_mkInt (bt.val (s':={s with toks:=s.toks+1}) p S.fW (.refl ..) (.int i _))
theorem cY {x:String}{cs:List Nat}(hx:ofString x=cJ cs):cm n sc (.Constant (.str (ofString x)) k pos) (ah (.str cs)):=by
 intro a ok bJ Z U fr s S F Q E p;exact rl hx<|wpAny_mkText (bt.val (s':={s with toks:=s.toks+1}) p S.fW (.refl ..) (.str cs _))
theorem gf:cm n sc (.Constant (.bool b) k pos) (ah (.bool b)):=by
 intro a ok bJ Z U fr s S F Q E p;exact av (bt.val p S (.refl ..) (.bool b))
theorem eo:cm n sc (.Constant .none k pos) (ah .none):=by
 intro a ok bJ Z U fr s S F Q E p;exact av (bt.val p S (.refl ..) .none)
theorem FW (ok:b8 n a)(F:FS a fr Z s.heap)(e:fr.lookup i=some v)(hc :(W.nm i ==("__classdict__" : Str))=false)(h :∀mv,aH Z s.heap v mv->Q mv s):wpAny bQ a.A (loadName a.env (W.nm i)) Q E s:=by
 obtain⟨m,hm,hv⟩:=F.ns;have r:=(hv i v e).2;exact r.Mu (λhk mv e1 e2=>wpAny_loadName_local ok.kind hk hm e1 (h mv e2)) (λc mv hk e1 e2 e3=>wpAny_loadName_cell ok.kind hk e1 e2 (h mv e3)) (λc mv hk e1 e2 e3=>wpAny_loadName_free ok.kind hk e1 e2 (h mv e3) hc)
theorem DD {x:Str}(hx:W.nm i=x)(hd :(x ==("__debug__" : Str))=false)(hc :(x ==("__classdict__" : Str))=false) :
  cm n sc (.Name x pos) (ai i):=by
 intro a ok bJ Z U fr s S F Q E p;subst hx;refine wpAny_Name ?_ hd;unfold ai at p;refine b9.opt p λv e p=>?_;exact FW ok F e hc λmv r=>bt.val p S (.refl ..) r
theorem i4 {x:Str}{v:Value}(ok:b8 n a)(S:St Z U s)(hx:a.env.scope.names.lookup x=some .globalImplicit)(e:nsIn W.K mainGlobals x=some (some v))(hd :(x ==("__debug__" : Str))=false)(h:Q v s):wpAny bQ a.A (eval (.Name x pos) a.env) Q E s:=
 Calls.Name_function_global ok.kind hx (Calls.loadGlobal_global (rl ok.glob<|S.heap.ok.T.g.keeps S.heap.base) (mg_of S.heap.ok.X S.heap.ok.T.g e) h) hd
theorem gD {x:Str}{v:Value}(ok:b8 n a)(S:St Z U s)(hx:a.env.scope.names.lookup x=some .globalImplicit)(e:nsIn W.K mainGlobals x=some none)(hv:bootBuiltins x=some v)(hn:x≠"__name__")(hd :(x ==("__debug__" : Str))=false)(h:Q v s):wpAny bQ a.A (eval (.Name x pos) a.env) Q E s:=
 Calls.Name_function_global ok.kind hx (Calls.loadGlobal_builtin (rl ok.glob<|S.heap.ok.T.g.keeps S.heap.base) (mg_none_of S.heap.ok.X S.heap.ok.T.g e) (rl ok.blt<|S.heap.ok.T.b.keeps S.heap.base) ((S.heap.ok.T.builtins x hn).trans hv) h) hd
theorem mZ {x:Str}{i:Int}{t:Tok}(hx:sc.names.lookup x=some .globalImplicit)(e:nsIn W.K mainGlobals x=some (some (.int i t)))(hd :(x ==("__debug__" : Str))=false):cm n sc (.Name x pos) (ah (.int i)):=by
 intro a ok bJ Z U fr s S F Q E p;subst bJ;exact i4 ok S hx e hd (bt.val p S (.refl ..) (.int i t))
theorem iX (h:Heap):h.get? h.objs.size=none:=by
 cases z:h.get? h.objs.size with
 |none=>rfl
 |some o=>exact absurd (cI z) (Nat.lt_irrefl _)
theorem St.tuple {vs:List V}{ms:List Value}(S:St Z U s)(r:aD Z s.heap vs ms) :
  St Z U {s with heap:=s.heap.push {cls:=.type "tuple",data:=.seq ms.toArray}}/\cE [] Z s.heap Z (s.heap.push {cls:=.type "tuple",data:=.seq ms.toArray})/\
   aH Z (s.heap.push {cls:=.type "tuple",data:=.seq ms.toArray}) (.tup vs) (.ref s.heap.objs.size):=by
 have x:cE [] Z s.heap Z (s.heap.push {cls:=.type "tuple",data:=.seq ms.toArray}):=cE.push _ _;refine⟨⟨S.heap.keeps (λ_ _ e=>bR _ e),S.gens,S.os⟩,x,?_⟩;exact .tup (cC _ rfl) rfl rfl S.heap.jS (by simpa using r.mono x)
theorem St.yg (S:St Z U s)(r:aD Z s.heap vs ms) :
  St Z U {s with heap:=s.heap.push {cls:=.type "list",data:=.seq ms.toArray}}/\cE [] Z s.heap Z (s.heap.push {cls:=.type "list",data:=.seq ms.toArray})/\
   aH Z (s.heap.push {cls:=.type "list",data:=.seq ms.toArray}) (.list vs) (.ref s.heap.objs.size):=by
 have x:cE [] Z s.heap Z (s.heap.push {cls:=.type "list",data:=.seq ms.toArray}):=cE.push _ _;refine⟨⟨S.heap.keeps (λ_ _ e=>bR _ e),S.gens,S.os⟩,x,?_⟩;exact .list (cC _ rfl) rfl rfl S.heap.jS (by simpa using r.mono x)
theorem St.Mv (S:St Z U s)(r:aD Z s.heap vs ms) :
  St (Z.add (s.heap.objs.size,s.heap.objs.size)) (U++[.list vs]) {s with heap:=s.heap.push {cls:=.type "list",data:=.seq ms.toArray}}/\
   cE [] Z s.heap (Z.add (s.heap.objs.size,s.heap.objs.size)) (s.heap.push {cls:=.type "list",data:=.seq ms.toArray})/\
   aH (Z.add (s.heap.objs.size,s.heap.objs.size)) (s.heap.push {cls:=.type "list",data:=.seq ms.toArray}) (.ref U.length) (.ref s.heap.objs.size):=by
 have k :∀b o,s.heap.get? b=some o->(s.heap.push {cls:=.type "list",data:=.seq ms.toArray}).get? b=some o:=λ_ _ e=>bR _ e;have x:cE [] Z s.heap (Z.add (s.heap.objs.size,s.heap.objs.size)) (s.heap.push {cls:=.type "list",data:=.seq ms.toArray}):=
  ⟨⟨[_],rfl,by simp[iX]⟩,rfl,λb _ o e=>k b o e,λb o e=>⟨o,k b o e⟩,λb o e _ _=>k b o e,λb o e _ _ _=>⟨o.slots,k b o e⟩,λb o e _ q=>⟨o,k b o e,q⟩⟩
 obtain⟨S',_⟩:=S.heap.alloc (p:=(s.heap.objs.size,s.heap.objs.size)) (o':=.list vs) k (iX _)
  ⟨rfl,_,_,cC _ rfl,by simpa using r.mono x⟩
 refine⟨⟨S',S.gens,S.os⟩,x,?_⟩;have :(Z.add (s.heap.objs.size,s.heap.objs.size)).objs[U.length]? = some (s.heap.objs.size,s.heap.objs.size):=by
  refine rr S.heap.len ?_;simp[dW.add]
 exact .ref (p:=(s.heap.objs.size,s.heap.objs.size)) this
theorem dn (h:cD k=true):k<=sizeLine:=by
 have:=of_decide_eq_true h;refine rl sizeLine_eq ?_;exact q3 ‹_› (by rfl)
theorem aj:gy n sc [] (aS []):=by
 intro a ok bJ Z U fr s S F pos Q E p;exact args_nil (p Z s S (.refl ..) [] .nil)
theorem ag {e:Expr}{es:List Expr}{f:ME V}(he :∀env:Env,starEach (e::es) env =(false,eval e env)::starEach es env)(hf:cm n sc e f)(hs:gy n sc es (aS fs)):gy n sc (e::es) (aS (f::fs)):=by
 intro a ok bJ Z U fr s S F pos Q E p;refine args_cons (hf.bind ok bJ S F p λv bq cF s1 mv S1 F1 x1 r1 p1=>?_) (he _);refine hs.bind ok bJ S1 F1 p1 λvs bS jn s2 ms S2 F2 x2 r2 p2=>?_;exact p2 jn s2 S2 (.refl ..) (mv::ms) (.cons (r1.mono x2) r2)
theorem aM {es:List Expr}(hs:gy n sc es (aS fs)):cm n sc (.Tuple es k pos) (bj fs):=by
 intro a ok bJ Z U fr s S F Q E p;refine Tuple_ (hs.bind ok bJ S F p λvs bS jn s2 ms S2 F2 x2 r2 p2=>?_);dsimp only at p2;by_cases hz:cD vs.length=true
 .replace p2:=(aA hz)▸p2
  obtain⟨S3,x3,r3⟩:=S2.tuple r2;exact wpAny_newObj_type (bt.val p2 S3 x3 r3) (by show ms.toArray.size<=sizeLine;exact rl List.size_toArray<|rr r2.length<|dn hz)
 .rw[ax hz] at p2;exact p2.elim
theorem cy {es:List Expr}(hs:gy n sc es (aS fs)):cm n sc (.List es pos) (dj fs):=by
 intro a ok bJ Z U fr s S F Q E p;refine List_ (hs.bind ok bJ S F p λvs bS jn s2 ms S2 F2 x2 r2 p2=>?_);dsimp only at p2;by_cases hz:cD vs.length=true
 .rw[aA hz] at p2
  obtain⟨S3,x3,r3⟩:=S2.Mv r2;exact wpAny_newObj_type (bt.val p2 S3 x3 r3) (by show ms.toArray.size<=sizeLine;exact rl List.size_toArray<|rr r2.length<|dn hz)
 .rw[ax hz] at p2;exact p2.elim
theorem dY (S:gO Z U h)(r:aH Z h v mv)(e:items? U v=some vs) :
  ∃b ms,mv=.ref b/\h.IsList b ms/\aD Z h vs ms.toList:=by
 revert e;cases v with
 |ref i=>
  intro e;obtain⟨p_,hp,rfl⟩:=r.fm;unfold items? at e;dsimp only at e
  cases ho:U[i]? with
  |none=>replace e:=ho▸e;injection e
  |some o=>cases o with
   |list jM=>
    replace e:=ho▸e;injection e with e;subst e;obtain⟨e1,ms,k,g,q⟩:=S.objs _ _ _ ho hp;exact⟨_,ms,rfl,by exact rl e1<|⟨_,g,rfl,k,rfl⟩,q⟩
   |_=>replace e:=ho▸e;injection e
 |list jM=>
  intro e;injection e with e;subst e
  cases r with
  |list ho hc hd hn q=>exact⟨_,_,rfl,⟨_,ho,hc,_,hd⟩,q⟩
 |_=>intro e;injection e
theorem i7 {vs:Array Y}(h:vs.size=k):vs.isEmpty=decide (k=0):=by subst h;simp[Array.isEmpty]
theorem JU {x y:List V}(hz:cD (x.length+y.length)=true)(S:St Z U s)(rx:aH Z s.heap (.tup x) mx)(ry:aH Z s.heap (.tup y) my)(p:bt a Z s (.ok (.tup (x++y)) U) Q E):wpAny bQ a.A (binaryOp .Add mx my) Q E s:=by
 have rx0:=rx;have ry0:=ry
 cases rx with
 |@tup _ t o vs k ho hc hd hn rx=>
 cases ry with
 |@tup _ b o2 ws k2 wJ xU qX VH ry=>
 obtain⟨cls,dd,data,sl⟩:=o;obtain⟨QH,FX,data2,FY⟩:=o2;simp only at hc hd xU qX;subst hc hd xU qX;have lx:=rx.length;have ly:=ry.length;have S6:vs.size=x.length:=by refine rl lx ?_;simp
 have VI:ws.size=y.length:=by refine rl ly ?_;simp
 by_cases hv:x=[]
 .subst hv
  exact concat_meets ⟨_,ho,rfl⟩ ⟨_,wJ,rfl⟩ noFill_tuple_add seq_tuple_add PySem.F.slot_tuple_add PySem.F.entry_tuple_add (PySem.F.args_tuple_add_2 _ _)
   (tuple_addW0 t b vs ws k k2 dd FX sl FY ((i7 S6).trans rfl)) ⟨ho,wJ,bt.val p S (.refl ..) ry0⟩
 .have hvl:0<x.length:=List.length_pos_iff.mpr hv
  by_cases hw:y=[]
  .subst hw
   rw[List.append_nil] at p;exact concat_meets ⟨_,ho,rfl⟩ ⟨_,wJ,rfl⟩ noFill_tuple_add seq_tuple_add PySem.F.slot_tuple_add PySem.F.entry_tuple_add (PySem.F.args_tuple_add_2 _ _)
    (tuple_addW1 t b vs ws k k2 dd FX sl FY (by refine rl (i7 S6) ?_;simp;exact hv) ((i7 VI).trans rfl)) ⟨ho,wJ,bt.val p S (.refl ..) rx0⟩
  .have Yi:0<y.length:=List.length_pos_iff.mpr hw
   obtain⟨S3,x3,r3⟩:=S.tuple (rx.append ry);have e :(vs++ws) =(vs.toList++ws.toList).toArray:=by simp
   exact concat_meets ⟨_,ho,rfl⟩ ⟨_,wJ,rfl⟩ noFill_tuple_add seq_tuple_add PySem.F.slot_tuple_add PySem.F.entry_tuple_add (PySem.F.args_tuple_add_2 _ _)
    (tuple_addW2 t b vs ws k k2 dd FX sl FY (by refine rl (i7 S6) ?_;simp;exact hv) (by refine rl (i7 VI) ?_;simp;exact hw) (rl S6<|rl VI<|dn hz)) ⟨ho,wJ,by exact rl e<|bt.val p S3 x3 r3⟩
theorem JV {xs:List V}(hz:cD (xs.length+ys.length)=true)(S:St Z U s)(rx:aH Z s.heap x mx)(ry:aH Z s.heap y my)(ex:items? U x=some xs)(ey:items? U y=some ys)(p:bt a Z s (.ok (.ref U.length) (U++[.list (xs++ys)])) Q E):wpAny bQ a.A (binaryOp .Add mx my) Q E s:=by
 obtain⟨b1,m1,rfl,l1,q1⟩:=dY S.heap rx ex;obtain⟨b2,m2,rfl,l2,q2⟩:=dY S.heap ry ey;obtain⟨⟨cls,dd,data,sl⟩,ho,hc,k,hd⟩:=l1;obtain⟨⟨QH,FX,data2,FY⟩,wJ,xU,k2,qX⟩:=l2;simp only at hc hd xU qX;subst hc hd xU qX;have lx:=q1.length;have ly:=q2.length;obtain⟨S3,x3,r3⟩:=S.Mv (q1.append q2);have e :(m1++m2) =(m1.toList++m2.toList).toArray:=by simp
 refine concat_meets ⟨_,ho,rfl⟩ ⟨_,wJ,rfl⟩ noFill_list_add seq_list_add PySem.F.slot_list_add PySem.F.entry_list_add (PySem.F.args_list_add_2 _ _)
  (list_addW b1 b2 m1 m2 k k2 dd FX sl FY (rr eZ<|rr eZ<|rr lx<|rr ly<|dn hz)) ⟨ho,wJ,?_⟩
 exact rl e<|bt.val p S3 x3 r3
theorem JW (S:St Z U s)(rx:aH Z s.heap x mx)(ry:aH Z s.heap y my)(p:bt a Z s (Nz x y U) Q E):wpAny bQ a.A (binaryOp .Add mx my) Q E s:=by
 unfold Nz at p
 cases hx:x.nX with
 |none=>rw[hx] at p;exact p.elim
 |some i=>
  cases hy:y.nX with
  |none=>rw[hx,hy] at p;exact p.elim
  |some j=>
   replace p:=hy▸hx▸p;obtain rfl:=V.iW hx;obtain rfl:=V.iW hy;obtain⟨t1,rfl⟩:=rx.str_inv;obtain⟨t2,rfl⟩:=ry.str_inv;by_cases hz:cD (i.length+j.length)=true
   .simp only[hz,if_true] at p
    refine P.add_str ?_;have e :∀l:List Nat,(cJ l).length=l.length:=λl=>List.size_toArray;refine rl (e ..)<|rl (e ..) ?_
    revert p;cases i with
    |nil=>intro p;exact bt.val p S (.refl ..) (.str j t2)
    |cons c i=>
     intro p
     cases j with
     |nil=>exact bt.val p S (.refl ..) (rl (List.append_nil ..)<|.str _ t1)
     |cons d j=>
      have e2:cJ (c::i)++cJ (d::j)=cJ (c::i++d::j):=aR Str.mk (List.append_toArray (c::i) (d::j));refine⟨?_,?_⟩
      .exact rl (e2 ..)<|rl (e ..)<|rl (bY ..)<|dn hz
      .exact rl e2<|bt.val (s':={s with toks:=s.toks+1}) p S.fW (.refl ..) (.str _ _)
   .simp only[hz] at p;exact p.elim
theorem FZ {x:Int}(h:x.natAbs<2 ^ 64):Builtin.Int.intBits x<=64:=intBits_le_64 (Ut h) (Uu h)
theorem JX {op:Operator}{x y:Int}{t u:Tok}(S:St Z U s)(p:bt a Z s (QE op x y U) Q E):wpAny bQ a.A (binaryOp op (.int x t) (.int y u)) Q E s:=by
 have key :∀(z:Int) (v:Tok),bt a Z s (.ok (.int z) U) Q E->Q (.int z v) {s with toks:=s.toks+1}:=λz v p=>bt.val (s':={s with toks:=s.toks+1}) p S.fW (.refl ..) (.int _ _);revert p;cases op with
 |Add=>intro p;exact P.add_int (key _ _ p)
 |Sub=>intro p;exact P.sub_int (key _ _ p)
 |Mult=>exact λp=>b9.Ny p λhb p=>P.mul_int (key _ _ p) (hb.elim (λhb=>.of_left (FZ hb)) λhb=>.of_right (FZ hb))
 |FloorDiv=>exact λp=>b9.Ny p λhb p=>floordiv_int hb.1 (key _ _ p) (.inl (PyProof.noPylong_small (Nat.lt_of_lt_of_le hb.2 (by decide))))
 |Mod=>exact λp=>b9.Ny p λhb p=>mod_int' hb.1 (key _ _ p)
 |_=>intro p;exact p.elim
theorem NA {op:Operator}(S:St Z U s)(rx:aH Z s.heap x mx)(ry:aH Z s.heap y my)(p:bt a Z s (AF op x y fr U) Q E):wpAny bQ a.A (binaryOp op mx my) Q E s:=by
 unfold AF at p
 cases hx:x.int? with
 |some i=>
  obtain rfl:=V.fH hx
  cases hy:y.int? with
  |some j=>
   obtain rfl:=V.fH hy;simp only[hx,hy] at p;obtain⟨t1,rfl⟩:=rx.int_inv;obtain⟨t2,rfl⟩:=ry.int_inv;exact JX S p
  |none=>simp only[hx,hy] at p;exact p.elim
 |none=>
  simp only[hx] at p
  cases op with
  |Add=>
   simp only[QG] at p
   cases tx:x.gZ with
   |some xs=>
    obtain rfl:=V.eP tx
    cases ty:y.gZ with
    |some ys=>
     obtain rfl:=V.eP ty;simp only[tx,ty] at p;by_cases hz:cD (xs.length+ys.length)=true
     .rw[aA hz] at p;exact JU hz S rx ry p
     .rw[ax hz] at p;exact p.elim
    |none=>simp only[tx,ty] at p;exact p.elim
   |none=>
    simp only[tx] at p
    cases hq:JT x y U with
    |none=>rw[hq] at p;exact JW S rx ry p
    |some q=>
     rw[hq] at p;refine aT hq λxs ex hq=>?_;refine dh hq λys ey z2=>?_;subst z2;by_cases hz:cD (xs.length+ys.length)=true
     .simp only[hz,if_true] at p;exact JV hz S rx ry ex ey p
     .simp only[hz] at p;exact p.elim
  |_=>exact p.elim
theorem aI {l r:Expr}{op:Operator}{f g:ME V}(hl:cm n sc l f)(hr:cm n sc r g):cm n sc (.BinOp l op r pos) (aU op f g):=by
 intro a ok bJ Z U fr s S F Q E p;refine wpAny_BinOp (hl.bind ok bJ S F p λv bq cF s1 mv S1 F1 x1 r1 p1=>?_);refine hr.bind ok bJ S1 F1 p1 λv2 bS jn s2 Mw S2 F2 x2 r2 p2=>?_;exact NA S2 (r1.mono x2) r2 p2
end
set_option tactic.hygienic true
noncomputable def cT (ay:List (V×V))(k:V):Option V:=match ay with
 |[]=>none
 |kv::r=>if V.beq kv.1 k then some kv.2 else cT r k
def hV (ay:List (V×V))(k v:V):List (V×V):=
 if ay.any (λkv=>V.beq kv.1 k) then ay.map (λkv=>if V.beq kv.1 k then (kv.1,v) else kv) else ay++[(k,v)]
def DE (ay:List (V×V))(k:V):List (V×V):=ay.filter λkv=>!V.beq kv.1 k
def fu (k:DK)(x:V):Bool:=match k,x with
 |.int,.int _=>true
 |.str,.str _=>true
 |.tup,.tup ks=>V.kZ ks&&decide (V.cv ks<=6)
 |_,_=>false
noncomputable def k7:List V->Option (List Int)
 |[]=>some []
 |v::vs=>v.int?.bind λi=>(k7 vs).map (i::·)
def NB (x c:V)(U:bw):Option Bool:=match c with
 |.ref i=>match U[i]? with
  |some (.dict k ay)=>if fu k x then some (cT ay x).isSome else .none
  |_=>.none
 |.str t=>x.nX.map λu=>!(Builtin.Str.occurrences (cJ t) (cJ u) 0 (cJ t).length 1).isEmpty
 |.list vs=>x.int?.bind λk=>(k7 vs).map λks=>ks.any (· == k)
 |_=>.none
noncomputable def V.bool? : V->Option Bool
 |.bool b=>some b
 |_=>Option.none
theorem V.yh {i:Bool}(e:v.bool? = some i):v=.bool i:=by cases v <;> cases e;rfl
def JY (a b:V)(U:bw):Option Bool:=(flat U a).bind λp=>(flat U b).bind λq=>if decide (p.depth<=64)&&decide (q.depth<=64) then some (V.beq p q) else .none
def NC (a b:V)(U:bw):Option Bool:=match a.bool? with
 |some x=>b.bool?.map λy=>x == y
 |.none=>JY a b U
def JZ (f:Int->Int->Bool)(a b:V):Option Bool:=a.int?.bind λx=>b.int?.map λy=>f x y
def ig (op:CmpOp)(a b:V)(U:bw):Option Bool:=match op with
 |.Eq=>NC a b U
 |.NotEq=>(NC a b U).map (!·)
 |.Lt=>JZ (λx y=>decide (x<y)) a b
 |.LtE=>JZ (λx y=>decide (x<=y)) a b
 |.Gt=>JZ (λx y=>decide (x > y)) a b
 |.Is=>match b with |.none=>some (V.beq a .none) |_=>.none
 |.IsNot=>match b with |.none=>some (!V.beq a .none) |_=>.none
 |.In=>NB a b U
 |.NotIn=>(NB a b U).map (!·)
 |_=>.none
def iE (op:CmpOp)(f g:ME V):ME V:=f.bind λa=>g.bind λb=>λ_ U=>(Res.cN (ig op a b U) U).andThen λc U=>.ok (.bool c) U
def bx (op:CmpOp)(f g:ME V):ME Bool:=f.bind λa=>g.bind λb=>λ_ U=>Res.cN (ig op a b U) U
def jD (o1 o2:CmpOp)(f g h:ME V):ME Bool:=f.bind λa=>g.bind λb=>λfr U=>(Res.cN (ig o1 a b U) U).andThen λc U=>
 if c then (h.bind λd=>λ_ U=>Res.cN (ig o2 b d U) U) fr U else .ok false U
def rS (f:ME Bool):ME Bool:=f.bind λb=>ah (!b)
noncomputable def jE:List (ME Bool)->ME Bool
 |[]=>ah true
 |f::fs=>f.bind λb=>if b then jE fs else ah false
noncomputable def rT:List (ME Bool)->ME Bool
 |[]=>ah false
 |f::fs=>f.bind λb=>if b then ah true else rT fs
def o7 (f:ME V):ME Bool:=f.bind λv=>match v with |.bool b=>ah b |_=>ie
def qY (t:ME Bool)(f g:ME V):ME V:=t.bind λb=>if b then f else g
def uY (f g:ME V):ME V:=f.bind λv=>match v with |.bool b=>if b then g else ah (.bool false) |_=>ie
section
variable {D:List Addr}
theorem nY (S:gO Z U h)(hd:d∈bH Z) :(d == sysModules)=false:=by
 obtain⟨o,e⟩:=S.ok.sys;rw[beq_eq_false_iff_ne];intro z;exact S.mY e (z▸hd)
theorem eB (e:Z.objs[i]? = some p):p.2∈bH Z:=cB.mpr (.inl (List.mem_map.mpr ⟨p,List.mem_of_getElem? e,rfl⟩))
theorem rU {p:V}(S:gO Z U h)(r:aH Z h v mv)(e:flat U v=some p):p.plain=true/\∃as,Reads h mv (Cn p) as:=by
 have key :∀v:V,aH Z h v mv->(if v.plain then some v else .none)=some p->p.plain=true/\∃as,Reads h mv (Cn p) as:=λv r e=>by
  by_cases hp:v.plain=true
  .replace e:=(aA hp)▸e;injection e with e;subst e;exact⟨hp,r.reads hp⟩
  .replace e:=(ax hp)▸e;injection e
 cases v with
 |ref i=>
  obtain⟨p_,hp,rfl⟩:=r.fm;unfold flat at e;dsimp only at e
  cases ho:U[i]? with
  |none=>replace e:=ho▸e;injection e
  |some o=>cases o with
   |list vs=>
    replace e:=ho▸e;dsimp only at e;by_cases yi:V.cS vs=true
    .replace e:=(aA yi)▸e
     injection e with e;subst e;obtain⟨e1,ms,k,g,q⟩:=S.objs _ _ _ ho hp;obtain⟨as,q'⟩:=q.reads yi;exact rl e1<|⟨yi,_,.list g rfl rfl q'⟩
    .replace e:=(ax yi)▸e;injection e
   |_=>replace e:=ho▸e;injection e
 |_=>exact key _ r e
theorem rV {k:Int}(al:d8 (λkv km=>kv.1=.int km.1/\aH Z h kv.2 km.2) ay ks) :
  match cT ay (.int k),valueAt ks k with |some v,some m=>aH Z h v m |none,none=>True |_,_=>False:=by
 induction al with
 |nil=>exact trivial
 |@cons kv km as bs r _ ih=>
  obtain⟨e,q⟩:=r;by_cases hk:km.1=k
  .have h1:cT (kv::as) (.int k)=some kv.2:=aA (rl e<|rl hk <| (V.beq_iff _ _).mpr rfl)
   have h2:valueAt (km::bs) k=some km.2:=by unfold valueAt;exact rl (List.find?_cons_of_pos (by simpa using hk)) rfl
   exact rl h1<|rl h2<|q
  .have h1:cT (kv::as) (.int k)=cT as (.int k):=ax (by exact rl e<|λz=>hk (by have:=(V.beq_iff _ _).mp z;injection this))
   have h2:valueAt (km::bs) k=valueAt bs k:=by unfold valueAt;exact rl (List.find?_cons_of_neg (by simpa using hk)) rfl
   exact rl h1<|rl h2<|ih
theorem rW {ks:List (Str×Value)}{k:List Nat}(al:d8 (λkv km=>(∃x,kv.1=.str x/\km.1=cJ x)/\aH Z h kv.2 km.2) ay ks) :
  match cT ay (.str k),valueAt ks (cJ k) with |some v,some m=>aH Z h v m |none,none=>True |_,_=>False:=by
 induction al with
 |nil=>exact trivial
 |@cons kv km as bs r _ ih=>
  obtain⟨⟨x,e,e'⟩,q⟩:=r;by_cases hk:x=k
  .have h1:cT (kv::as) (.str k)=some kv.2:=aA (rl e<|rl hk <| (V.beq_iff _ _).mpr rfl)
   have h2:valueAt (km::bs) (cJ k)=some km.2:=by unfold valueAt;exact rl (List.find?_cons_of_pos (by rw[e'];simpa [cJ] using hk)) rfl
   exact rl h1<|rl h2<|q
  .have h1:cT (kv::as) (.str k)=cT as (.str k):=ax (by exact rl e<|λz=>hk (by have:=(V.beq_iff _ _).mp z;injection this))
   have h2:valueAt (km::bs) (cJ k)=valueAt bs (cJ k):=by unfold valueAt;exact rl (List.find?_cons_of_neg (by rw[e'];simpa [cJ] using hk)) rfl
   exact rl h1<|rl h2<|ih
theorem nZ {k:List V}(al:d8 (λkv km=>(kv.1=.tup km.1/\aH Z h (.tup km.1) (.ref km.2.1))/\aH Z h kv.2 km.2.2) ay xs) :
  match cT ay (.tup k),atKey xs k with |some v,some m=>aH Z h v m.2 |none,none=>True |_,_=>False:=by
 induction al with
 |nil=>exact trivial
 |@cons kv km as bs r _ ih=>
  obtain⟨⟨e,_⟩,q⟩:=r;by_cases hk:km.1=k
  .have h1:cT (kv::as) (.tup k)=some kv.2:=aA (rl e<|rl hk <| (V.beq_iff _ _).mpr rfl)
   have h2:atKey (km::bs) k=some km.2:=by unfold atKey;exact rl (List.find?_cons_of_pos (by simpa using hk)) rfl
   exact rl h1<|rl h2<|q
  .have h1:cT (kv::as) (.tup k)=cT as (.tup k):=ax (by exact rl e<|λz=>hk (by have:=(V.beq_iff _ _).mp z;injection this))
   have h2:atKey (km::bs) k=atKey bs k:=by unfold atKey;exact rl (List.find?_cons_of_neg (by simpa using hk)) rfl
   exact rl h1<|rl h2<|ih
theorem p7 {o:Option V}{o':Option Value}(h1:match o,o' with |some v,some m=>aH Z h v m |none,none=>True |_,_=>False):o.isSome=o'.isSome:=by
 cases o <;> cases o' <;> simp_all
theorem uZ (h:fu .int x=true) :∃j,x=.int j:=by
 cases x with
 |int j=>exact⟨j,rfl⟩
 |_=>injection h
theorem u5 (h:fu .str x=true) :∃j,x=.str j:=by
 cases x with
 |str j=>exact⟨j,rfl⟩
 |_=>injection h
theorem u6 (h:fu .tup x=true) :∃j,x=.tup j:=by
 cases x with
 |tup j=>exact⟨j,rfl⟩
 |_=>injection h
theorem jU {ks:List V}(r:aH Z h (.tup ks) mv)(hk:fu .tup (.tup ks)=true) :∃b,mv=.ref b/\(dX).is h ks b:=by
 have h:=cK hk;obtain⟨b,_,_,_,rfl,_⟩:=r.fV;exact⟨b,rfl,r.plain0 (V.fG h.1),h.1,of_decide_eq_true h.2⟩
theorem J0 {kd:DK}(ok:b8 n a)(S:St Z U s)(hi:U[i]? = some (.dict kd ay))(hp:Z.objs[i]? = some p)(rx:aH Z s.heap x mx)(hk:fu kd x=true)(k :∀tk,Q (.bool (cT ay x).isSome) {s with toks:=tk}):wpAny bQ a.A (compareOp .In mx (.ref p.1)) Q E s:=by
 obtain⟨e1,r⟩:=S.heap.objs _ _ _ hi hp;refine rl e1 ?_;have hs:=nY S.heap (eB hp)
 cases kd with
 |int=>
  obtain⟨j,rfl⟩:=uZ hk;obtain⟨t1,rfl⟩:=rx.int_inv;obtain⟨ks,d,al⟩:=r;refine wpAny_in_of (knd:=intKind W.prog W.w) (k:=j) (by simp[intKind,Value.isInt]) hs d.mapOf ?_;have:=p7 (rV (k:=j) al);exact rr this<|k _
 |str=>
  obtain⟨j,rfl⟩:=u5 hk;obtain⟨t1,rfl⟩:=rx.str_inv;obtain⟨ks,d,al⟩:=r;refine wpAny_in_of (knd:=strKind W.prog W.w) (k:=cJ j) (strKind_is _ _ _ _) hs d.mapOf ?_;have:=p7 (rW (k:=j) al);exact rr this<|k _
 |tup=>
  obtain⟨j,rfl⟩:=u6 hk;obtain⟨ks,d,al⟩:=r;obtain⟨b,rfl,hb⟩:=jU rx hk;refine wpAny_in_heap (knd:=dX) (by have:=ok.units;refine(?_:a.A.in1.units+64<cLine);simp only;exact yc this) hb hs d ?_;have h1:=nZ (k:=j) al;have :(cT ay (.tup j)).isSome =(atKey ks j).isSome:=by
   cases h2:cT ay (.tup j) <;> cases h3:atKey ks j <;> rw[h2,h3] at h1 <;> simp_all
  exact rr this<|k _
theorem n0 :∀{xs:List V} {is:List Int} {ms:List Value},k7 xs=some is->aD Z h xs ms->IntsAre ms is:=by
 intro y
 induction y with
 |nil=>
  intro _ _ e r
  cases e;cases r;exact .nil
 |cons x xs ih=>
  intro is _ e r;refine aT e λi h1 e=>?_;refine dh e λjs e2 z2=>?_;subst z2;obtain rfl:=V.fH h1
  cases r with
  |cons h1 h2=>obtain⟨t,rfl⟩:=h1.int_inv;exact .cons _ _ (ih e2 h2)
theorem Mx {c:V}{mc:Value}(ok:b8 n a)(S:St Z U s)(rx:aH Z s.heap x mx)(rc:aH Z s.heap c mc)(e:NB x c U=some b)(k :∀tk,Q (.bool b) {s with toks:=tk}):wpAny bQ a.A (compareOp .In mx mc) Q E s:=by
 revert e;cases c with
 |ref i=>
  intro e;refine cq λG hG=>?_;obtain⟨p,hp,rfl⟩:=rc.fm;unfold NB at e;dsimp only at e;refine hG ?_
  cases hi:U[i]? with
  |none=>replace e:=hi▸e;injection e
  |some o=>cases o with
   |dict kd ay=>
    replace e:=hi▸e;dsimp only at e;by_cases hk:fu kd x=true
    .replace e:=(aA hk)▸e;injection e with e;subst e;exact J0 ok S hi hp rx hk k
    .replace e:=(ax hk)▸e;injection e
   |_=>replace e:=hi▸e;injection e
 |str t=>
  intro e;refine cq λG hG=>?_;refine dh (show x.nX.map _=some b from e) λu hu z1=>?_;subst z1;obtain rfl:=V.iW hu;obtain⟨t1,rfl⟩:=rx.str_inv;obtain⟨t2,rfl⟩:=rc.str_inv;refine hG ?_;exact P.in_str (k s.toks)
 |list vs=>
  intro e;refine cq λG hG=>?_;refine aT (show x.int?.bind _=some b from e) λu hu e=>?_;refine dh e λks hk z3=>?_;subst z3;obtain rfl:=V.fH hu;obtain⟨t1,rfl⟩:=rx.int_inv;refine hG ?_
  cases rc with
  |@list _ l o ms m ho hc hd hn q=>exact in_list_ints (vs:=ms.toList) ⟨o,ho,hc,m,by exact rl Array.toArray_toList<|hd⟩ (n0 hk q) (k s.toks)
 |_=>intro e;injection e
theorem DF {mc:Value}(h:wpAny bQ A (compareOp .In mx mc) (λv s'=>match v with |.bool b=>Q (.bool (!b)) s' |_=>False) E s):wpAny bQ A (compareOp .NotIn mx mc) Q E s:=by
 have h':wpAny bQ A (do return Value.bool (<- contains mc mx)) (λv s'=>match v with |.bool b=>Q (.bool (!b)) s' |_=>False) E s:=h
 intro Γ p Jq;have q:=h' Γ p Jq;rw[Sem.wp_bind'] at q;exact rl (Sem.wp_bind' ..)<|q
theorem ND (ok:b8 n a)(S:St Z U s)(rx:aH Z s.heap x mx)(ry:aH Z s.heap y my)(e:JY x y U=some b) :
  (Q (.bool b) s->wpAny bQ a.A (compareOp .Eq mx my) Q E s)/\(Q (.bool (!b)) s->wpAny bQ a.A (compareOp .NotEq mx my) Q E s):=by
 refine cq λG hG=>?_;refine aT e λp ep e=>?_;refine aT e λq eq e=>?_;obtain⟨pp,as,qx⟩:=rU S.heap rx ep;obtain⟨pq,bs,qy⟩:=rU S.heap ry eq;have lp:=qU p pp;have lq:=qU q pq;refine hG ?_;refine di e λhd e=>?_;refine cq λG hG=>?_;injection e with e;subst e;rw[Bool.and_eq_true,decide_eq_true_eq] at hd;have hu:=ok.units;have sp:SeqAt.shaped (Cn p)=true:=by unfold SeqAt.shaped;refine rl lp.1<|rl lp.2 ?_;simp[hd.1]
 have sq:SeqAt.shaped (Cn q)=true:=by unfold SeqAt.shaped;refine rl lq.1<|rl lq.2 ?_;simp[hd.2]
 have hz:a.A.units+65<cLine:=by exact yc hu
 refine hG ?_;exact⟨λk=>eq_dataH qx qy sp sq (Nat.lt_of_succ_lt hz) (rl (nU p q pp pq)<|k),λk=>ne_dataH qx qy sp sq (Nat.lt_of_succ_lt hz) (rl (nU p q pp pq)<|k)⟩
theorem My (ok:b8 n a)(S:St Z U s)(rx:aH Z s.heap x mx)(ry:aH Z s.heap y my)(e:NC x y U=some b) :
  (Q (.bool b) s->wpAny bQ a.A (compareOp .Eq mx my) Q E s)/\(Q (.bool (!b)) s->wpAny bQ a.A (compareOp .NotEq mx my) Q E s):=by
 unfold NC at e
 cases hx:x.bool? with
 |none=>rw[hx] at e;exact ND ok S rx ry e
 |some c=>
  refine cq λG hG=>?_;rw[hx] at e;refine dh e λd hy z1=>?_;subst z1;obtain rfl:=V.yh hx;obtain rfl:=V.yh hy
  cases rx
  cases ry;refine hG ?_;exact⟨eq_bool,ne_bool⟩
theorem aH.yj (r:aH Z h v mv) :(mv == .none)=V.beq v .none:=by
 cases r <;> rfl
theorem wK {f:Int->Int->Bool}(e:JZ f x y=some b) :∃i j,x=.int i/\y=.int j/\b=f i j:=by
 refine cq λG hG=>?_;refine aT e λi hi e=>?_;refine dh e λj hj z2=>?_;subst z2;refine hG ?_;exact⟨i,j,V.fH hi,V.fH hj,rfl⟩
theorem NG (ok:b8 n a)(S:St Z U s)(rx:aH Z s.heap x mx)(ry:aH Z s.heap y my)(e:ig op x y U=some b)(k :∀tk,Q (.bool b) {s with toks:=tk}):wpAny bQ a.A (compareOp op mx my) Q E s:=by
 revert e;cases op with
 |Eq=>intro e;exact(My ok S rx ry e).1 (k s.toks)
 |NotEq=>
  intro e;refine dh (o:=NC x y U) (f:=(!·)) e λc e2 h=>?_;subst h;exact(My ok S rx ry e2).2 (k s.toks)
 |Lt=>intro e;obtain⟨i,j,rfl,rfl,rfl⟩:=wK e;obtain⟨t1,rfl⟩:=rx.int_inv;obtain⟨t2,rfl⟩:=ry.int_inv;exact P.lt_int (k s.toks)
 |LtE=>intro e;obtain⟨i,j,rfl,rfl,rfl⟩:=wK e;obtain⟨t1,rfl⟩:=rx.int_inv;obtain⟨t2,rfl⟩:=ry.int_inv;exact P.le_int (k s.toks)
 |Gt=>intro e;obtain⟨i,j,rfl,rfl,rfl⟩:=wK e;obtain⟨t1,rfl⟩:=rx.int_inv;obtain⟨t2,rfl⟩:=ry.int_inv;exact P.gt_int (k s.toks)
 |GtE=>intro e;injection e
 |IsNot=>
  intro e;revert e;cases y with
  |none=>intro e;cases e;cases ry;exact isnot_none_gen (rl rx.yj<|k s.toks)
  |_=>intro e;injection e
 |Is=>
  intro e;revert e;cases y with
  |none=>intro e;cases e;cases ry;exact is_none_gen (rl rx.yj<|k s.toks)
  |_=>intro e;injection e
 |In=>intro e;exact Mx ok S rx ry e k
 |NotIn=>
  intro e;refine dh (o:=NB x y U) (f:=(!·)) e λc e2 h=>?_;subst h;exact DF (Mx ok S rx ry e2 λtk=>k tk)
theorem n4 {k:Bool->bw->Res β}(ok:b8 n a)(S:St Z U s)(F:FS a fr Z s.heap)(rx:aH Z s.heap x mx)(ry:aH Z s.heap y my)(p:b9 a Z s ((Res.cN (ig op x y U) U).andThen k) K E)(h :∀b s',s'.heap=s.heap->St Z U s'->FS a fr Z s'.heap->b9 a Z s' (k b U) K E->Q (.bool b) s'):wpAny bQ a.A (compareOp op mx my) Q E s:=by
 cases e:ig op x y U with
 |none=>rw[e] at p;exact p.elim
 |some b=>
  replace p:=e▸p;exact NG ok S rx ry e λtk=>h b {s with toks:=tk} rfl S.fW F (b9.step (s':={s with toks:=tk}) (cE.refl ..) p)
theorem gR {l r:Expr}{f g:ME V}(hl:cm n sc l f)(hr:cm n sc r g)(hm:behindInMarks op r=false):cm n sc (.Compare l [op] [r] pos) (iE op f g):=by
 intro a ok bJ Z U fr s S F Q E p;refine wpAny_Compare1 (hl.bind ok bJ S F p λv bq cF s1 mv S1 F1 x1 r1 p1=>?_) hm;refine hr.bind ok bJ S1 F1 p1 λv2 bS jn s2 Mw S2 F2 x2 r2 p2=>?_;exact n4 ok S2 F2 (r1.mono x2) r2 p2 λb s' e S' F' p'=>bt.val p' S' (.refl ..) (.bool b)
theorem aW {l r:Expr}{f g:ME V}(hl:cm n sc l f)(hr:cm n sc r g)(hm:behindInMarks op r=false):jo n sc (.Compare l [op] [r] pos) (bx op f g):=by
 intro a ok bJ Z U fr s S F Q E p;refine wpAny_isTrue_Compare1 (hl.bind ok bJ S F p λv bq cF s1 mv S1 F1 x1 r1 p1=>?_) hm;refine hr.bind ok bJ S1 F1 p1 λv2 bS jn s2 Mw S2 F2 x2 r2 p2=>?_;have p2':b9 a jn s2 ((Res.cN (ig op v v2 bS) bS).andThen λb U=>.ok b U) (KB Q) E:=by
  dsimp only at p2
  cases e:ig op v v2 bS <;> rw[e] at p2 <;> exact p2
 exact n4 ok S2 F2 (r1.mono x2) r2 p2' λb s' e S' F' p'=>wpAny_truthy_bool (p' jn s' S' (.refl ..))
theorem k8 {l r1 r2:Expr}{o1 o2:CmpOp}{f g h:ME V}(hl:cm n sc l f)(h1:cm n sc r1 g)(h2:cm n sc r2 h)(hm:lastMarks [o1,o2] [r1,r2]=false) :
  jo n sc (.Compare l [o1,o2] [r1,r2] pos) (jD o1 o2 f g h):=by
 intro a ok bJ Z U fr s S F Q E p;refine isTrue_chain (hl.bind ok bJ S F p λv bq cF s1 mv S1 F1 x1 r1 p1=>?_) hm;refine test_link (h1.bind ok bJ S1 F1 p1 λv2 bS jn s2 Mw S2 F2 x2 r2 p2=>?_);refine n4 ok S2 F2 (r1.mono x2) r2 p2 λb s' e S' F' p'=>wpAny_truthy_bool ?_
 cases b with
 |false=>exact p' jn s' S' (.refl ..)
 |true=>
  refine test_last (h2.bind ok bJ S' F' p' λv3 qF qG s3 mv3 S3 F3 x3 r3 p3=>?_);have p3':b9 a qG s3 ((Res.cN (ig o2 v2 v3 qF) qF).andThen λb U=>.ok b U) (KB Q) E:=by
   dsimp only at p3
   cases e:ig o2 v2 v3 qF <;> rw[e] at p3 <;> exact p3
  have r2':aH jn s'.heap v2 Mw:=by exact rl e<|r2
  exact n4 ok S3 F3 (r2'.mono x3) r3 p3' λb s' e S' F' p'=>wpAny_truthy_bool (p' qG s' S' (.refl ..))
theorem l0 {x:Expr}{f:ME Bool}(hf:jo n sc x f):jo n sc (.UnaryOp .Not x pos) (rS f):=by
 intro a ok bJ Z U fr s S F Q E p;exact isTrue_not (hf.bind ok bJ S F p λb bq cF s1 S1 F1 x1 p1=>p1 cF s1 S1 (.refl ..))
theorem ix:jo n sc (.BoolOp .And [] pos) (jE []):=by
 intro a ok bJ Z U fr s S F Q E p;exact isTrue_and_nil (p Z s S (.refl ..))
theorem fJ:jo n sc (.BoolOp .Or [] pos) (rT []):=by
 intro a ok bJ Z U fr s S F Q E p;exact isTrue_or_nil (p Z s S (.refl ..))
theorem gS {x:Expr}{xs:List Expr}{f:ME Bool}{fs:List (ME Bool)}(hf:jo n sc x f)(hs:jo n sc (.BoolOp .And xs pos) (jE fs)):jo n sc (.BoolOp .And (x::xs) pos) (jE (f::fs)):=by
 intro a ok bJ Z U fr s S F Q E p;refine isTrue_and (hf.bind ok bJ S F p λb bq cF s1 S1 F1 x1 p1=>?_);revert p1;cases b with
 |false=>intro p1;exact p1 cF s1 S1 (.refl ..)
 |true=>intro p1;exact hs a ok bJ cF bq fr s1 S1 F1 Q E p1
theorem eQ {x:Expr}{xs:List Expr}{f:ME Bool}{fs:List (ME Bool)}(hf:jo n sc x f)(hs:jo n sc (.BoolOp .Or xs pos) (rT fs)):jo n sc (.BoolOp .Or (x::xs) pos) (rT (f::fs)):=by
 intro a ok bJ Z U fr s S F Q E p;refine isTrue_or (hf.bind ok bJ S F p λb bq cF s1 S1 F1 x1 p1=>?_);revert p1;cases b with
 |true=>intro p1;exact p1 cF s1 S1 (.refl ..)
 |false=>intro p1;exact hs a ok bJ cF bq fr s1 S1 F1 Q E p1
theorem md {e:Expr}{f:ME V}(hf:cm n sc e f)(he :∀(env:Env) (Mz:Sem Value),isTrue e env Mz =(do let v <- Mz;standAt e.pos;holding [v] (truthy v))):jo n sc e (o7 f):=by
 intro a ok bJ Z U fr s S F Q E p;refine isTrue_plain (hf.bind ok bJ S F p λv bq cF s1 mv S1 F1 x1 r1 p1=>?_) (he _ _);refine cq λG hG=>?_
 cases v <;> first |exact p1.elim |skip
 cases r1;refine hG ?_;exact wpAny_truthy_bool (p1 cF s1 S1 (.refl ..))
theorem gh {t b o:Expr}{f g:ME V}(ht:jo n sc t ft)(hb:cm n sc b f)(ho:cm n sc o g):cm n sc (.IfExp t b o pos) (qY ft f g):=by
 intro a ok bJ Z U fr s S F Q E p;refine IfExp_ (ht.bind ok bJ S F p λc bq cF s1 S1 F1 x1 p1=>?_);revert p1;cases c with
 |true=>intro p1;exact hb a ok bJ cF bq fr s1 S1 F1 Q E p1
 |false=>intro p1;exact ho a ok bJ cF bq fr s1 S1 F1 Q E p1
theorem rX {x y:Expr}{f g:ME V}(hf:cm n sc x f)(hg:cm n sc y g):cm n sc (.BoolOp .And [x,y] pos) (uY f g):=by
 intro a ok bJ Z U fr s S F Q E p;refine BoolOp_and (hf.bind ok bJ S F p λv bq cF s1 mv S1 F1 x1 r1 p1=>?_);refine cq λG hG=>?_
 cases v <;> first |exact p1.elim |skip
 rename_i b
 cases r1;refine hG ?_;refine wpAny_truthy_bool ?_
 cases b with
 |true=>exact BoolOp_one (hg a ok bJ cF bq fr s1 S1 F1 Q E p1)
 |false=>exact bt.val p1 S1 (.refl ..) (.bool false)
end
set_option tactic.hygienic false
noncomputable def ij (U:bw)(c:Nat)(v:V):Option (Nat×List (Nat×V)):=match v with
 |.ref i=>match U[i]? with
  |some (.inst c' fs)=>if c'=c then some (i,fs) else .none
  |_=>.none
 |_=>.none
def bc (c x:Nat)(f:ME V):ME V:=f.bind λv=>λ_ U=>Res.cN ((ij U c v).bind λp=>p.2.lookup x) U
noncomputable def ui (vs:List V)(i:Int):Option V:=(seqIndex? i vs.length).bind λj=>vs[j]?
def AG (vs:List V)(i:V):Option V:=i.int?.bind λi=>if decide (i.natAbs<1000000000) then ui vs i else .none
def QI (cs:List Nat)(i:V):Option V:=i.int?.bind λi=>if decide (i.natAbs<1000000000)&&decide (0<=i)&&decide (i<cs.length) then (cs[i.toNat]?).map λc=>V.str [c] else .none
def mB (v i:V)(U:bw):Option V:=match v with
 |.ref j=>match U[j]? with
  |some (.dict k ay)=>if fu k i then cT ay i else .none
  |some (.list vs)=>AG vs i
  |_=>.none
 |.list vs=>AG vs i
 |.tup vs=>AG vs i
 |.str cs=>QI cs i
 |_=>.none
def cu (f g:ME V):ME V:=f.bind λv=>g.bind λi=>λ_ U=>Res.cN (mB v i U) U
def F6 (k:Nat)(v:V)(U:bw):Option V:=match v.gZ with
 |some vs=>if cD vs.length&&decide (k<=vs.length) then some (.tup (vs.drop k)) else .none
 |.none=>(items? U v).bind λvs=>if cD vs.length then some (.list (vs.drop k)) else .none
def yl (k:Nat)(v:V)(U:bw):Option V:=match v.gZ with
 |some vs=>if cD vs.length then some (.tup (vs.take k)) else .none
 |.none=>(items? U v).bind λvs=>if cD vs.length then some (.list (vs.take k)) else .none
def dU (k:Nat)(f:ME V):ME V:=f.bind λv=>λ_ U=>Res.cN (F6 k v U) U
def iO (k:Nat)(f:ME V):ME V:=f.bind λv=>λ_ U=>Res.cN (yl k v U) U
section
variable {D:List Addr}
theorem u7 {name:Str}{ks:List (Str×Value)}(d:o.IsDictOf (strKind W.prog W.w) ks):lookIn name o=some (valueAt ks name):=by
 refine cq λG hG=>?_;obtain⟨es,ep,hx,hd,hk,hp,hn⟩:=d;have hr:es.toList.any (·.refKey)=false:=by
  rw[List.any_eq_false];intro e he;obtain⟨k,h1,_⟩:=hk e (Array.mem_toList_iff.mp he);obtain⟨t,e1⟩:=Value.isStrOf_shape h1;simp[DictEntry.refKey,e1]
 have hf:=hp.find name;have e :(λe:DictEntry=>(strKind W.prog W.w).is name e.key)=λe=>e.key.isStr name:=by
  funext e
  cases e.key <;> rfl
 replace hf:=e▸hf;refine hG ?_;unfold lookIn;refine rl hd ?_;dsimp only
 cases hq:es.toList.find? λe=>e.key.isStr name with
 |some x=>replace hf:=hq▸hf;simpa using hf
 |none=>replace hf:=hq▸hf;simp only[Option.map_none] at hf;refine rr hf<|rl hr ?_;simp
theorem F7 {fs:List (Nat×V)}{ks:List (Str×Value)}{x:Nat}(hx:x<W.nN)(al:d8 (λkv km=>(kv.1<W.nN/\km.1=W.nm kv.1)/\aH Z h kv.2 km.2) fs ks) :
  match fs.lookup x,valueAt ks (W.nm x) with |some v,some m=>aH Z h v m |none,none=>True |_,_=>False:=by
 induction al with
 |nil=>exact trivial
 |@cons kv km as bs r _ ih=>
  obtain⟨⟨e0,e⟩,q⟩:=r;by_cases hk:x=kv.1
  .have h1 :(kv::as).lookup x=some kv.2:=by subst hk;exact List.lookup_cons_self
   have h2:valueAt (km::bs) (W.nm x)=some km.2:=by unfold valueAt;exact rl (List.find?_cons_of_pos (by rw[e,hk];simp)) rfl
   exact rl h1<|rl h2<|q
  .have h1 :(kv::as).lookup x=as.lookup x:=by exact rl List.lookup_cons<|rl (beq_eq_false_iff_ne.mpr hk) rfl
   have h2:valueAt (km::bs) (W.nm x)=valueAt bs (W.nm x):=by unfold valueAt;exact rl (List.find?_cons_of_neg (by rw[e];simpa using λz=>hk (ye _ _ e0 hx z).symm)) rfl
   exact rl h1<|rl h2<|ih
noncomputable def AH (c:Nat):Prop:=hasDictIn W.K (W.cls c)=true/\plainGet W.K (W.cls c) (ofString "")=true
theorem ym (r:aH Z h v mv):handedIn mv=true:=by cases r <;> rfl
theorem AI {fs:List (Nat×V)}(e:ij U c v=some (i,fs)):v=.ref i/\U[i]? = some (.inst c fs):=by
 cases v with
 |ref j=>
  replace e :(match U[j]? with |some (.inst c' fs)=>if c'=c then some (j,fs) else .none |_=>.none)=some (i,fs):=e
  cases ho:U[j]? with
  |none=>rw[ho] at e;injection e
  |some x=>cases x with
   |inst c' fs'=>
    rw[ho] at e;refine di e λhc e=>?_;injection e with e;injection e with e1 e2;subst e1 e2 hc;exact⟨rfl,ho⟩
   |_=>rw[ho] at e;injection e
 |_=>injection e
theorem wL {fs:List (Nat×V)}(S:gO Z U h)(r:aH Z h v mv)(e:ij U c v=some (i,fs)) :
  ∃p,v=.ref i/\Z.objs[i]? = some p/\U[i]? = some (.inst c fs)/\mv=.ref p.1/\∃sl o ks,h.get? p.1=some ⟨.ref (W.cls c),some p.2,.plain,sl⟩/\h.get? p.2=some o/\o.IsDictOf (strKind W.prog W.w) ks/\
   d8 (λkv km=>(kv.1<W.nN/\km.1=W.nm kv.1)/\aH Z h kv.2 km.2) fs ks:=by
 obtain⟨rfl,hi⟩:=AI e;obtain⟨p,hp,rfl⟩:=r.fm;obtain⟨⟨sl,g⟩,ks,d,al⟩:=S.objs _ _ _ hi hp;obtain⟨o,ho,d'⟩:=Heap.dictOf_iff.mp d;exact⟨p,rfl,hp,hi,rfl,sl,o,ks,g,ho,d',al⟩
theorem aF {e:Expr}{x:Str}{f:ME V}(hf:cm n sc e f)(hc:AH c)(hi:i<W.nN)(hx:W.nm i=x)(hn:findIn W.K (.ref (W.cls c)) x=some Option.none)(he :∀env:Env,eval (.Attribute e x pos) env =(do
   let o <- eval e env
   standAt pos.atName
   let r <- holding [o] (getAttr o x true)
   letTemporaryGo e o r
   pure r):=by intro _;with_unfolding_all rfl):cm n sc (.Attribute e x pos) (bc c i f):=by
 intro a ok bJ Z U fr s S F Q E p;refine Attribute_any_ (hf.bind ok bJ S F p λv bq cF s1 mv S1 F1 x1 r1 p1=>?_) (he _);dsimp only at p1
 cases F8:ij bq c v with
 |none=>rw[F8] at p1;exact p1.elim
 |some q=>
  refine cq λG hG=>?_;obtain⟨j,fs⟩:=q;rw[F8,Option.bind_some] at p1;dsimp only at p1;obtain⟨pp,rfl,hp,uj,rfl,sl,o,ks,g1,g2,d,al⟩:=wL S1.heap r1 F8;have hg:=F7 hi al;refine hG ?_
  cases hl:fs.lookup i with
  |none=>rw[hl] at p1;exact p1.elim
  |some v'=>
   rw[hl] at p1 hg
   cases hv:valueAt ks (W.nm i) with
   |none=>rw[hv] at hg;exact hg.elim
   |some m'=>
    rw[hv] at hg;have I:InstAt s1.heap pp.1 ⟨.ref (W.cls c),some pp.2,.plain,sl⟩ (W.cls c) (some o):=⟨g1,rfl,rfl,g2⟩;refine get_value (v:=m') (S.heap.ok.X.keeps S1.heap.base) I (plainGet_of hc.2).1 (findObj_own hc.1 hn rfl ?_) (ym hg) ?_
    .refine(u7 d).trans ?_;exact rr hx<|rl hv rfl
    .exact bt.val (s':={s1 with toks:=s1.toks+1}) p1 S1.fW (.refl ..) hg
theorem F9 {kd:DK}(hA:A.units+65<cLine)(S:St Z U s)(hi:U[i]? = some (.dict kd ay))(hp:Z.objs[i]? = some p)(rx:aH Z s.heap x mx)(hk:fu kd x=true)(hv:cT ay x=some v)(k :∀tk m,aH Z s.heap v m->Q m {s with toks:=tk}):wpAny bQ A (getItem (.ref p.1) mx) Q E s/\s.TypeIs (.ref p.1) "dict":=by
 refine cq λG hG=>?_;obtain⟨e1,r⟩:=S.heap.objs _ _ _ hi hp;refine hG ?_;refine rl e1 ?_
 cases kd with
 |int=>
  refine cq λG hG=>?_;obtain⟨j,rfl⟩:=uZ hk;obtain⟨t1,rfl⟩:=rx.int_inv;obtain⟨ks,d,al⟩:=r;have hg:=rV (k:=j) al;replace hg:=hv▸hg;refine hG ?_
  cases hm:valueAt ks j with
  |none=>rw[hm] at hg;exact hg.elim
  |some m=>
   replace hg:=hm▸hg;exact⟨wpAny_getItem_of (knd:=intKind W.prog W.w) (k:=j) (by simp[intKind,Value.isInt]) d.mapOf hm (k _ _ hg),d.typeIs⟩
 |str=>
  refine cq λG hG=>?_;obtain⟨j,rfl⟩:=u5 hk;obtain⟨t1,rfl⟩:=rx.str_inv;obtain⟨ks,d,al⟩:=r;have hg:=rW (k:=j) al;replace hg:=hv▸hg;refine hG ?_
  cases hm:valueAt ks (cJ j) with
  |none=>rw[hm] at hg;exact hg.elim
  |some m=>
   replace hg:=hm▸hg;exact⟨wpAny_getItem_of (knd:=strKind W.prog W.w) (k:=cJ j) (strKind_is _ _ _ _) d.mapOf hm (k _ _ hg),d.typeIs⟩
 |tup=>
  refine cq λG hG=>?_;obtain⟨j,rfl⟩:=u6 hk;obtain⟨ks,d,al⟩:=r;obtain⟨b,rfl,hb⟩:=jU rx hk;have hg:=nZ (k:=j) al;replace hg:=hv▸hg;refine hG ?_
  cases hm:atKey ks j with
  |none=>rw[hm] at hg;exact hg.elim
  |some m=>
   replace hg:=hm▸hg;exact⟨wpAny_getItem_heap (knd:=dX) (by show A.in1.units+64<cLine;simp only;exact Nat.lt_of_succ_le hA) hb d hm (k _ _ hg),d.typeIs⟩
theorem rY {i:Int}(e:seqIndex? i k=some j) :(0<=i/\j=i.toNat/\j<k)\/(i<0/\-(k:Int)<=i/\j =(i+k).toNat/\j<k):=by
 refine di e λhc e=>?_;have hc:=cK hc;have h1:=of_decide_eq_true hc.1;have h2:=of_decide_eq_true hc.2;injection e with e;subst e;clear hc;by_cases h:i<0
 .rw[aA h] at h1 h2 ⊢
  exact .inr ⟨h,by exact Int.add_nonneg_iff_neg_le.mp h1,rfl,by exact(Int.toNat_lt h1).mpr h2⟩
 .rw[ax h] at h1 h2 ⊢
  exact .inl ⟨h1,rfl,by exact(Int.toNat_lt h1).mpr h2⟩
theorem DG {l:Addr}{ms:Array Value}{i:Int}{t:Tok}(hl:s.heap.IsList l ms)(r:aD Z s.heap vs ms.toList)(hb:i.natAbs<1000000000)(e:ui vs i=some v)(k :∀m,aH Z s.heap v m->Q m s):wpAny bQ A (getItem (.ref l) (.int i t)) Q E s:=by
 unfold ui at e;have hsz:vs.length=ms.size:=by refine r.length.trans ?_;simp
 cases hj:seqIndex? i vs.length with
 |none=>replace e:=hj▸e;injection e
 |some j=>
  rw[hj,Option.bind_some] at e;obtain⟨m,hm,rm⟩:=r.get _ _ e;replace hm:=(Array.getElem?_toList)▸hm;rcases rY hj with ⟨h0,rfl,_⟩|⟨h0,h1,rfl,_⟩
  .exact wpAny_getItem_list hl h0 (Qf hb) hm (k m rm)
  .exact wpAny_getItem_list_neg hl h0 (le_of_eq_of_le (aR Neg.neg (aR Nat.cast (id (Eq.symm hsz)))) h1) (Qg hb) (rr hsz<|hm) (k m rm)
noncomputable def yo (hZ:Expr):Prop:=∀o i,∃DH,subscripted hZ false o i=operate DH (getItem o i)
theorem Co {i:V}(e:AG vs i=some u) :∃k,i=.int k/\k.natAbs<1000000000/\ui vs k=some u:=by
 refine cq λG hG=>?_;refine aT e λk hk e=>?_;refine hG ?_;refine di e λh e=>?_;exact⟨k,V.fH hk,of_decide_eq_true h,e⟩
theorem Ga {i:V}{mG hZ:Expr}(u9:yo hZ)(S:St Z U s)(r:aH Z s.heap v mv)(ri:aH Z s.heap i mi)(e:items? U v=some vs)(hn:AG vs i=some u)(k :∀m,aH Z s.heap u m->Q m s):wpAny bQ a.A (subscriptTail mG hZ mv mi) Q E s:=by
 refine cq λG hG=>?_;obtain⟨i,rfl,hb,hn⟩:=Co hn;obtain⟨ti,rfl⟩:=ri.int_inv;obtain⟨b,ms,rfl,l,q⟩:=dY S.heap r e;obtain⟨DH,hs⟩:=u9 (.ref b) (.int i _);refine hG ?_;exact tail_any l.typeIs slot_list_getitem.lookup (DG l q hb hn k) hs
theorem J1 {i:V}{mG hZ:Expr}(u9:yo hZ)(rv:aH Z s.heap (.tup vs) mv)(ri:aH Z s.heap i mi)(hn:AG vs i=some u)(k :∀tk m,aH Z s.heap u m->Q m {s with toks:=tk}):wpAny bQ a.A (subscriptTail mG hZ mv mi) Q E s:=by
 refine cq λG hG=>?_;obtain⟨i,rfl,hb,hn⟩:=Co hn;obtain⟨ti,rfl⟩:=ri.int_inv;obtain⟨b,o,ms,kk,rfl,ho,hc,hd,QJ,r⟩:=rv.fV;obtain⟨DH,hs⟩:=u9 (.ref b) (.int i _);have ht:IsTup s.heap b ms:=⟨o,ho,hc,kk,hd⟩;have hsz:vs.length=ms.size:=by refine r.length.trans ?_;simp
 refine aT hn λj hj e=>?_;obtain⟨m,hm,rm⟩:=r.get _ _ e;replace hm:=(Array.getElem?_toList).symm.trans hm;refine hG ?_;exact tail_any ht.typeIs slot_tuple_getitem.lookup (PyProof.Rows.getItem_tuple ht (Qg hb) (Qf hb) (rr hsz<|hj) hm (k s.toks m rm)) hs
theorem Gb {cs:List Nat}{i:Int}(h0:0<=i)(h1:i<cs.length)(hc:cs[i.toNat]? = some c):Txt.item (cJ cs) i=cJ [c]:=by
 have hlen :(cJ cs).length=cs.length:=by simp[cJ,Str.length]
 have e1:seqIndex? i (cJ cs).length=some i.toNat:=by
  unfold seqIndex?;simp only[show¬i<0 from Int.not_lt.mpr h0,if_false];exact rl (aA (by rw[hlen];simp only[Bool.and_eq_true,decide_eq_true_eq];exact⟨h0,h1⟩)) rfl
 have e2 :(cJ cs).cps[i.toNat]? = some c:=by simpa [cJ] using hc
 unfold Txt.item Txt.charAt;exact rl e1<|rl (Option.bind_some ..)<|rl e2 rfl
theorem J2 {cs:List Nat}{i:V}{mG hZ:Expr}(u9:yo hZ)(rv:aH Z s.heap (.str cs) mv)(ri:aH Z s.heap i mi)(e:QI cs i=some u)(k :∀tk m,aH Z s.heap u m->Q m {s with toks:=tk}):wpAny bQ a.A (subscriptTail mG hZ mv mi) Q E s:=by
 refine aT e λi hi e1=>?_;clear e;obtain rfl:=V.fH hi;refine di e1 λhb e1=>?_;simp only[Bool.and_eq_true,decide_eq_true_eq] at hb;obtain⟨⟨hb0,J3⟩,NH⟩:=hb;refine dh e1 λc hc z3=>?_;subst z3;obtain⟨t,rfl⟩:=ri.int_inv;obtain⟨tt,rfl⟩:=rv.str_inv;obtain⟨DH,hs⟩:=u9 (.str (cJ cs) tt) (.int i t);have hlen :(cJ cs).length=cs.length:=by simp[cJ,Str.length]
 obtain⟨T,id,hl,hT,hg⟩:=SB.item (prog:=W.prog) (w:=W.w) (A:=a.A) (E:=E) (s:=s) (x:=cJ cs) (t:=tt) (i:=i) (u:=t) (Q:=Q) (by simp[fitsSsize];exact Va hb0) (charAt_isSome (by lia) (rl hlen<|Int.lt_of_add_one_le NH))
  (rl (Gb J3 NH hc)<|k _ _ (.str [c] _))
 exact tail_any hT hl hg hs
theorem NI {i:V}{mG hZ:Expr}(u9:yo hZ)(ok:b8 n a)(S:St Z U s)(rv:aH Z s.heap v mv)(ri:aH Z s.heap i mi)(e:mB v i U=some u)(k :∀tk m,aH Z s.heap u m->Q m {s with toks:=tk}):wpAny bQ a.A (subscriptTail mG hZ mv mi) Q E s:=by
 cases v with
 |ref j=>
  unfold mB at e;dsimp only at e
  cases uj:U[j]? with
  |none=>replace e:=uj▸e;injection e
  |some x=>cases x with
   |dict kd ay=>
    replace e:=uj▸e;dsimp only at e;by_cases hk:fu kd i=true
    .replace e:=(aA hk)▸e
     obtain⟨p,hp,rfl⟩:=rv.fm;obtain⟨DH,hs⟩:=u9 (.ref p.1) mi;have:=F9 (Q:=Q) (E:=E) (A:=a.A) (by have:=ok.units;exact yc this) S uj hp ri hk e k;exact tail_any this.2 slot_dict_getitem.lookup this.1 hs
    .replace e:=(ax hk)▸e;injection e
   |list vs=>replace e:=uj▸e;exact Ga u9 S rv ri (by unfold items?;dsimp only;exact rl uj rfl) e (k s.toks)
   |inst=>replace e:=uj▸e;injection e
 |list vs=>exact Ga u9 S rv ri rfl e (k s.toks)
 |tup vs=>exact J1 u9 rv ri e k
 |str cs=>exact J2 u9 rv ri e k
 |_=>injection e
theorem bb {e i:Expr}{f g:ME V}(hf:cm n sc e f)(hg:cm n sc i g)(u9:yo i):cm n sc (.Subscript e i pos) (cu f g):=by
 intro a ok bJ Z U fr s S F Q E p;refine Subscript_ (hf.bind ok bJ S F p λv bq cF s1 mv S1 F1 x1 r1 p1=>?_);refine hg.bind ok bJ S1 F1 p1 λv2 bS jn s2 Mw S2 F2 x2 r2 p2=>?_;dsimp only at p2;refine b9.opt p2 λu hi p2=>?_;exact NI u9 ok S2 (r1.mono x2) r2 hi λtk m r=>bt.val (s':={s2 with toks:=tk}) p2 S2.fW (.refl ..) r
theorem yq (b n:Nat):Builtin.Slice.sliceAdjust none (some (b:Int)) 1 (n:Int) =(0,((min b n:Nat):Int)):=by
 unfold Builtin.Slice.sliceAdjust;have h1 :¬((1:Int)<0):=by exact Std.Rxo.size_eq_zero_iff_not_le.mp rfl
 have h2 :¬((b:Int)<0):=by exact Int.not_ofNat_neg b
 simp only[h1,h2,if_false];congr 1;exact ZV
theorem yr (c:Nat):Builtin.Slice.slicePlaces 0 (c:Int) 1=c:=by
 unfold Builtin.Slice.slicePlaces;have h1 :(1:Int) > 0:=by lia
 simp only[h1,if_true,Int.ediv_one]
 split <;> lia
section
theorem n5 {sl:Addr}{b:Nat}{u:Tok}{Q:Int×Int×Nat->Shared->Prop}(hs:s.heap.IsSliceOf sl .none (.int b u) .none)(h:Q (0,1,min b n) s) :
  wpAny (model prog w) A (Builtin.Slice.sliceApplied (.ref sl) (pure (n:Int))) Q E s:=by
 refine cq λG hG=>?_;obtain⟨os,J4,rZ,S7⟩:=id hs;refine hG ?_;refine wb (wb (wpAny_field J4 S7 (x:=.none) rfl (wb (wpAny_field J4 S7 (x:=.int b u) rfl (wb (wpAny_field J4 S7 (x:=.none) rfl (av ?_)))))));refine aY (slicePart_none ?_);refine rl (ax (by decide))<|wb (slicePart_none (wb (slicePart_int (wb (av ?_)))))
 show wpAny _ _ (match Builtin.Slice.sliceAdjust none (some (b:Int)) 1 (n:Int) with | (lo,hi)=>pure (lo,(1:Int),Builtin.Slice.slicePlaces lo hi 1)) _ _ s
 refine rl (yq b n) ?_;show wpAny _ _ (pure ((0:Int),(1:Int),Builtin.Slice.slicePlaces 0 ((min b n:Nat):Int) 1)) _ _ s;exact rl (yr ..)<|av h
theorem DI (xs:Array Value)(c:Nat) :((List.range c).filterMap λ(k:Nat)=>xs[((0:Int)+(k:Int) * 1).toNat]?).toArray =(xs.toList.take c).toArray:=by
 have e :(λ(k:Nat)=>xs[((0:Int)+(k:Int) * 1).toNat]?)=λk=>xs[0+k]?:=by
  funext k;have :((0:Int)+(k:Int) * 1).toNat=0+k:=by exact Ur
  exact rl this rfl
 refine rl e ?_;have:=pick_run xs 0 c;replace this:=List.filterMap_map.symm.trans this;have e2 :((λx=>xs[x]?)∘λx=>0+x)=λk=>xs[0+k]?:=rfl;rw[e2] at this;refine rl this ?_;simp
theorem m5 {t sl:Addr}{items:Array Value}{b:Nat}{u:Tok}(ht:IsTup s.heap t items)(hs:s.heap.IsSliceOf sl .none (.int b u) .none)(h0:items.size<=b->Q (.ref t) s)(h:Q (.ref s.heap.objs.size) {s with heap:=s.heap.push {cls:=.type "tuple",data:=.seq (items.toList.take b).toArray}})(hsz:items.size<=sizeLine):wpAny (model prog w) A (getItem (.ref t) (.ref sl)) Q E s:=by
 refine cq λG hG=>?_;have VJ :(items.toList.take (min b items.size)).toArray =(items.toList.take b).toArray:=by
  congr 1;refine rr eZ ?_;by_cases hb:items.toList.length<=b
  .exact rl (Nat.min_eq_right hb)<|rl List.take_length<|rl (List.take_of_length_le hb) rfl
  .exact rl (Nat.min_eq_left (Nat.le_of_not_ge hb)) rfl
 have Cp:sizeOk (.seq (items.toList.take b).toArray):=by
  show(items.toList.take b).toArray.size<=sizeLine;refine rl List.size_toArray<|rl List.length_take<|rl eZ ?_
  exact ZW ‹_›
 obtain⟨os,J4,rZ,S7⟩:=id hs;have hTs:s.TypeIs (.ref sl) "slice":=⟨os,J4,rZ⟩;refine hG ?_;unfold getItem
 try with_reducible refine cP ?_
 first |refine wb (av ?_) |skip
 refine wb (wpAny_sequenceKey ht.typeIs (by decide) ?_);refine wb (wpAny_callSpecial?_slot (name:=Str.ofString "__getitem__") ht.typeIs slot_tuple_getitem
  (fF slot_tuple_getitem ht.typeIs entry_tuple_getitem ?_ (args_tuple_getitem _ _)))
 show wpAny _ _ (Builtin.Tuple.tupleItemsOf (.ref t) >>= _) _ _ s;refine wb (tupleItemsOf_ ht ?_);refine aY (wpAny_typeOf hTs ?_);refine rl (aA (by decide))<|wb (n5 hs ?_)
 show wpAny _ _ (if ((0:Int) == 0&&(1:Int) == 1&&(min b items.size) == items.size)=true then _ else _) _ _ s;by_cases hb:items.size<=b
 .refine rl (aA (by rw[Nat.min_eq_right hb];simp))<|aY (aY (wpAny_typeOf ht.typeIs (av ?_)))
  exact rl (aA (by simp))<|wb (wpAny_rule (av ⟨_,rfl,av (h0 hb)⟩))
 .have Aj :((min b items.size) == items.size)=false:=by rw[beq_eq_false_iff_ne];exact Vf hb
  refine rl (ax (by rw[Aj];simp))<|rl (DI items (min b items.size))<|rl VJ ?_
  first
  |exact wb (m:=Builtin.Tuple.tupleExact _) (wpAny_newObj_type (av ⟨_,rfl,av h⟩) Cp)
  |exact wb (m:=Builtin.Tuple.tupleExact _) (wpAny_newObj_type (wb (av (av ⟨_,rfl,av h⟩))) Cp)
  |exact wb (wb (m:=Builtin.Tuple.tupleExact _) (wpAny_newObj_type (av (av ⟨_,rfl,av h⟩)) Cp))
  |exact wb (wb (m:=Builtin.Tuple.tupleExact _) (wpAny_newObj_type (av ⟨_,rfl,av h⟩) Cp))
end
theorem St.k9 (S:St Z U s)(o:Obj){tk:Nat}:St Z U {s with heap:=s.heap.push o,toks:=tk}:=
 St.mk (S.heap.keeps (λ_ _ e=>bR _ e)) S.gens S.os
section
variable {sl:Addr}{t:Tok}{mG hZ:Expr}
theorem DJ (S:St Z U s)(r:aH Z s.heap v mv)(DL:s.heap.IsSliceOf sl (.int k t) .none .none)(hk:1<=k)(hs :∀o,∃DH,subscripted hZ false o (.ref sl)=operate DH (getItem o (.ref sl)))(e:F6 k v U=some u)(p:bt a Z s (.ok u U) Q E):wpAny bQ a.A (subscriptTail mG hZ mv (.ref sl)) Q E s:=by
 unfold F6 at e
 cases ht:v.gZ with
 |some vs=>
  obtain rfl:=V.eP ht;simp only[ht] at e
  split at e
  case isFalse=>injection e
  rename_i hz;injection e with e;subst e;simp only[Bool.and_eq_true,decide_eq_true_eq] at hz;obtain⟨b,o,ms,kk,rfl,ho,hc,hd,hn,r⟩:=r.fV;have hsz:vs.length=ms.size:=by refine r.length.trans ?_;simp
  have ht:IsTup s.heap b ms:=⟨o,ho,hc,kk,hd⟩;obtain⟨S3,x3,r3⟩:=S.tuple (r.drop k);obtain⟨DH,hs⟩:=hs (.ref b);exact tail_any ht.typeIs slot_tuple_getitem.lookup (getItem_tuple_from ht DL hk (rr hsz<|hz.2) (bt.val p S3 x3 r3) (rr hsz<|dn hz.1)) hs
 |none=>
  simp only[ht] at e;obtain⟨vs,QK,e⟩:=Option.bind_eq_some_iff.mp e
  split at e
  case isFalse=>injection e
  rename_i hz;injection e with e;subst e;obtain⟨b,ms,rfl,l,q⟩:=dY S.heap r QK;have hsz:vs.length=ms.size:=by refine q.length.trans ?_;simp
  obtain⟨S3,x3,r3⟩:=S.yg (q.drop k);obtain⟨DH,hs⟩:=hs (.ref b);refine tail_any l.typeIs slot_list_getitem.lookup (wpAny_getItem_list_slice l DL (.int _ _) .none .none (by simp) ?_ (rr hsz<|dn hz)) hs
  exact rl (slicePick_from' ..)<|bt.val p S3 x3 r3
theorem va (S:St Z U s)(r:aH Z s.heap v mv)(DL:s.heap.IsSliceOf sl .none (.int k t) .none)(hs :∀o,∃DH,subscripted hZ false o (.ref sl)=operate DH (getItem o (.ref sl)))(e:yl k v U=some u)(p:bt a Z s (.ok u U) Q E):wpAny bQ a.A (subscriptTail mG hZ mv (.ref sl)) Q E s:=by
 unfold yl at e
 cases ht:v.gZ with
 |some vs=>
  obtain rfl:=V.eP ht;rw[ht] at e;dsimp only at e
  split at e
  case isFalse=>injection e
  rename_i hz;injection e with e;subst e;have r0:=r;obtain⟨b,o,ms,kk,rfl,ho,hc,hd,hn,r⟩:=r.fV;have hsz:vs.length=ms.size:=by refine r.length.trans ?_;simp
  have ht:IsTup s.heap b ms:=⟨o,ho,hc,kk,hd⟩;obtain⟨S3,x3,r3⟩:=S.tuple (r.take k);obtain⟨DH,hs⟩:=hs (.ref b);refine tail_any ht.typeIs slot_tuple_getitem.lookup (m5 ht DL (λNJ=>?_) (bt.val p S3 x3 r3) (rr hsz<|dn hz)) hs
  replace p:=(List.take_of_length_le (rl hsz<|NJ))▸p
  exact bt.val (s':=s) p S (.refl ..) r0
 |none=>
  rw[ht] at e;obtain⟨vs,QK,e⟩:=Option.bind_eq_some_iff.mp e
  split at e
  case isFalse=>injection e
  rename_i hz;injection e with e;subst e;obtain⟨b,ms,rfl,l,q⟩:=dY S.heap r QK;have hsz:vs.length=ms.size:=by refine q.length.trans ?_;simp
  obtain⟨S3,x3,r3⟩:=S.yg (q.take k);obtain⟨DH,hs⟩:=hs (.ref b);refine tail_any l.typeIs slot_list_getitem.lookup (wpAny_getItem_list_slice l DL .none (.int _ _) .none (by simp) ?_ (rr hsz<|dn hz)) hs
  exact rl (slicePick_upto' ..)<|bt.val p S3 x3 r3
end
theorem dk {e:Expr}{f:ME V}(hf:cm n sc e f)(hk:1<=k) :
  cm n sc (.Subscript e (.Slice (some (.Constant (.int k) kk kp)) none none sp) pos) (dU k f):=by
 intro a ok bJ Z U fr s S F Q E p;refine Subscript_ (hf.bind ok bJ S F p λv bq cF s1 mv S1 F1 x1 r1 p1=>?_);refine wpAny_Slice ?_;refine rl (evalPart_some ..)<|rl (evalPart_none ..)<|wpAny_mkInt (av (av ?_))
 refine b9.opt p1 λu hu p1=>?_;have x2:cE [] cF s1.heap cF (s1.heap.push {cls:=.type "slice",data:=.fields #[.int k s1.toks,.none,.none]}):=cE.push _ _;exact DJ (S1.k9 (tk:=s1.toks+1) _) (r1.mono x2) (Heap.IsSliceOf.new ..) hk (λ_=>⟨_,rfl⟩) hu (b9.step x2 p1)
theorem m6 {e:Expr}{f:ME V}(hf:cm n sc e f) :
  cm n sc (.Subscript e (.Slice none (some (.Constant (.int k) kk kp)) none sp) pos) (iO k f):=by
 intro a ok bJ Z U fr s S F Q E p;refine Subscript_ (hf.bind ok bJ S F p λv bq cF s1 mv S1 F1 x1 r1 p1=>?_);refine wpAny_Slice ?_;refine rl (evalPart_some ..)<|rl (evalPart_none ..)<|av (wpAny_mkInt (av ?_))
 refine b9.opt p1 λu hu p1=>?_;have x2:cE [] cF s1.heap cF (s1.heap.push {cls:=.type "slice",data:=.fields #[.none,.int k s1.toks,.none]}):=cE.push _ _;exact va (S1.k9 (tk:=s1.toks+1) _) (r1.mono x2) (Heap.IsSliceOf.new ..) (λ_=>⟨_,rfl⟩) hu (b9.step x2 p1)
end
set_option tactic.hygienic true
section
variable {D:List Addr}
theorem St.DM {o':O}{tk:Nat}(S:St Z U s)(hi:Z.objs[i]? = some p)(hs:Heap.SameBut p.2 s.heap h')(r:mA Z h' o' p) :
  St Z (U.set i o') {s with heap:=h',toks:=tk}/\cE [] Z s.heap Z h':=
 ⟨St.mk (S.heap.set hi hs r) S.gens S.os,cE.sameBut hs (eB hi) (S.heap.gL hi) (let ⟨ob,e,_⟩:=r.mut;⟨ob,e⟩)⟩
theorem n6 {ms:Array Value}{g:Array Value->Array Value}{tk:Nat}(S:St Z U s)(hi:Z.objs[i]? = some p)(e1:p.1=p.2)(ho:s.heap.get? p.2=some ⟨.type "list",none,.seq ms k,#[]⟩)(hw:aD Z s.heap ws (g ms).toList) :
  St Z (U.set i (.list ws)) {s with heap:=s.heap.update p.2 (Obj.mapSeq g),toks:=tk}/\cE [] Z s.heap Z (s.heap.update p.2 (Obj.mapSeq g)):=by
 have hs:Heap.SameBut p.2 s.heap (s.heap.update p.2 (Obj.mapSeq g)):=dP ..;exact S.DM hi hs ⟨e1,_,_,IsL.update ho g,hw.mono (cE.sameBut (D:=[]) hs (eB hi) (S.heap.gL hi) ⟨_,IsL.update ho g⟩)⟩
theorem d8.hV {β:Type}{R:V×V->β->Prop}{q:β->Bool}{f:β->β}{new:β}{k v:V} :∀{ay:List (V×V)} {ks:List β},d8 R ay ks->(∀kv km,R kv km->V.beq kv.1 k=q km)->
  (∀kv km,R kv km->q km=true->R (kv.1,v) (f km))->R (k,v) new->d8 R (hV ay k v) (if ks.any q then ks.map (λkm=>if q km then f km else km) else ks++[new]):=by
 intro ay ks al h1 h2 h3;have ha:ay.any (λkv=>V.beq kv.1 k)=ks.any q:=by
  clear h2 h3
  induction al with
  |nil=>rfl
  |cons r _ ih=>simp only[List.any_cons,ih,h1 _ _ r]
 unfold Mine.hV;refine rl ha ?_;by_cases hb:ks.any q=true
 .refine rl (aA hb)<|rl (aA hb) ?_
  clear ha hb h3
  induction al with
  |nil=>exact .nil
  |@cons kv km as bs r _ ih=>
   simp only[List.map_cons];refine .cons ?_ ih;refine rl (h1 _ _ r) ?_;by_cases hq:q km=true
   .exact rl (aA hq)<|rl (aA hq)<|h2 _ _ r hq
   .exact rl (ax hq)<|rl (ax hq)<|r
 .exact rl (ax hb)<|rl (ax hb)<|al.append (.cons h3 .nil)
theorem d8.DE {β:Type}{R:V×V->β->Prop}{q:β->Bool}{k:V} :∀{ay:List (V×V)} {ks:List β},d8 R ay ks->(∀kv km,R kv km->V.beq kv.1 k=q km)->d8 R (DE ay k) (ks.filter λkm=>!q km):=by
 intro ay ks al h1;unfold Mine.DE
 induction al with
 |nil=>exact .nil
 |@cons kv km as bs r _ ih=>
  simp only[List.filter_cons,h1 _ _ r]
  split
  .exact .cons r ih
  .exact ih
theorem AJ (xs:List (List V×Addr×Value))(k:List V)(b:Addr)(v:Value):storedH xs k b v=if xs.any (λx=>decide (x.1=k)) then xs.map (λx=>if decide (x.1=k) then (x.1,x.2.1,v) else x) else xs++[(k,b,v)]:=by
 unfold storedH;have :(atKey xs k).isSome=xs.any λx=>decide (x.1=k):=by
  unfold atKey;exact rl Option.isSome_map<|rl List.isSome_find? rfl
 refine rl this ?_;congr 1;congr 1;funext x;unfold putAt;by_cases hx:x.1=k <;> simp[hx]
theorem vb {K:Type}[DecidableEq K](ks:List (K×Value))(k:K)(v:Value):stored ks k v=if ks.any (λkm=>decide (km.1=k)) then ks.map (λkm=>if decide (km.1=k) then (km.1,v) else km) else ks++[(k,v)]:=by
 simp only[stored,decide_eq_true_eq]
section
variable {tk:Nat}
theorem AK {j:Int}(S:St Z U s)(hp:Z.objs[i]? = some p)(e1:p.1=p.2)(al:d8 (λkv km=>kv.1=.int km.1/\aH Z s.heap kv.2 km.2) ay ks)(rv:aH Z s.heap v mv)(d:h'.DictOf (intKind W.prog W.w) p.2 (stored ks j mv))(hs:Heap.SameBut p.2 s.heap h'):St Z (U.set i (.dict .int (hV ay (.int j) v))) {s with heap:=h',toks:=tk}/\cE [] Z s.heap Z h':=by
 have x0:cE [] Z s.heap Z h':=cE.sameBut hs (eB hp) (S.heap.gL hp) (let ⟨o,_,_,e,_⟩:=d;⟨o,e⟩);have NK:=d8.hV (R:=λ(kv:V×V) (km:Int×Value)=>kv.1=.int km.1/\aH Z h' kv.2 km.2) (al.mono λ_ _ q=>⟨q.1,q.2.mono x0⟩) (q:=λkm=>decide (km.1=j)) (f:=λkm=>(km.1,mv)) (new:=(j,mv)) (k:=.int j) (v:=v)
  (λkv km q=>(aR (V.beq · (.int j)) q.1).trans (V.Cg ..)) (λkv km q _=>⟨q.1,rv.mono x0⟩) ⟨rfl,rv.mono x0⟩
 exact S.DM (tk:=tk) (o':=.dict .int (hV ay (.int j) v)) hp hs ⟨e1,_,d,by exact rl (vb ..)<|NK⟩
theorem r6 {j:List Nat}{ks:List (Str×Value)}(S:St Z U s)(hp:Z.objs[i]? = some p)(e1:p.1=p.2)(al:d8 (λkv km=>(∃x,kv.1=.str x/\km.1=cJ x)/\aH Z s.heap kv.2 km.2) ay ks)(rv:aH Z s.heap v mv)(d:h'.DictOf (strKind W.prog W.w) p.2 (stored ks (cJ j) mv))(hs:Heap.SameBut p.2 s.heap h'):St Z (U.set i (.dict .str (hV ay (.str j) v))) {s with heap:=h',toks:=tk}/\cE [] Z s.heap Z h':=by
 have x0:cE [] Z s.heap Z h':=cE.sameBut hs (eB hp) (S.heap.gL hp) (let ⟨o,_,_,e,_⟩:=d;⟨o,e⟩);have NK:=d8.hV (R:=λ(kv:V×V) (km:Str×Value)=>(∃x,kv.1=.str x/\km.1=cJ x)/\aH Z h' kv.2 km.2) (al.mono λ_ _ q=>⟨q.1,q.2.mono x0⟩) (q:=λkm=>decide (km.1=cJ j)) (f:=λkm=>(km.1,mv)) (new:=(cJ j,mv)) (k:=.str j) (v:=v)
  (λkv km q=>by
   obtain⟨⟨x,e,e'⟩,_⟩:=q;refine rl e<|rl e'<|rl (V.JF ..) ?_
   by_cases hx:x=j
   .exact rl hx<|rl (bN rfl)<|rl (beq_self_eq_true ..) rfl
   .exact(beq_eq_false_iff_ne.mpr hx).trans (cH λz:cJ x=cJ j=>hx (aR Array.toList (aR Str.cps z))).symm) (λkv km q _=>⟨q.1,rv.mono x0⟩) ⟨⟨j,rfl,rfl⟩,rv.mono x0⟩
 exact S.DM (tk:=tk) (o':=.dict .str (hV ay (.str j) v)) hp hs ⟨e1,_,d,by exact rl (vb ..)<|NK⟩
theorem m7 {j:List V}{b:Addr}(S:St Z U s)(hp:Z.objs[i]? = some p)(e1:p.1=p.2)(al:d8 (λkv km=>(kv.1=.tup km.1/\aH Z s.heap (.tup km.1) (.ref km.2.1))/\aH Z s.heap kv.2 km.2.2) ay xs)(rx:aH Z s.heap (.tup j) (.ref b))(rv:aH Z s.heap v mv)(d:h'.DictOfH (dX) p.2 (storedH xs j b mv))(hs:Heap.SameBut p.2 s.heap h'):St Z (U.set i (.dict .tup (hV ay (.tup j) v))) {s with heap:=h',toks:=tk}/\cE [] Z s.heap Z h':=by
 have x0:cE [] Z s.heap Z h':=cE.sameBut hs (eB hp) (S.heap.gL hp) (let ⟨o,_,_,e,_⟩:=d;⟨o,e⟩);have NK:=d8.hV (R:=λ(kv:V×V) (km:List V×Addr×Value)=>(kv.1=.tup km.1/\aH Z h' (.tup km.1) (.ref km.2.1))/\aH Z h' kv.2 km.2.2) (al.mono λ_ _ q=>⟨⟨q.1.1,q.1.2.mono x0⟩,q.2.mono x0⟩) (q:=λkm=>decide (km.1=j)) (f:=λkm=>(km.1,km.2.1,mv)) (new:=(j,b,mv))
  (k:=.tup j) (v:=v) (λkv km q=>by
   exact rl q.1.1<|rl (V.rP ..)<|decide_eq_decide.mpr ⟨V.tup.inj,aR V.tup⟩) (λkv km q _=>⟨q.1,rv.mono x0⟩) ⟨⟨rfl,rx.mono x0⟩,rv.mono x0⟩
 refine S.DM (tk:=tk) (o':=.dict .tup (hV ay (.tup j) v)) hp hs ⟨e1,_,d,?_⟩;exact rl (AJ ..)<|NK
end
theorem Gd {kd:DK}{Q:Unit->Shared->Prop}(hA:A.units+65<cLine)(S:St Z U s)(hi:U[i]? = some (.dict kd ay))(hp:Z.objs[i]? = some p)(rx:aH Z s.heap x mx)(rv:aH Z s.heap v mv)(hk:fu kd x=true)(hz:cD ay.length=true)(k :∀s',s'.heap.objs.size=s.heap.objs.size->St Z (U.set i (.dict kd (hV ay x v))) s'->cE [] Z s.heap Z s'.heap->Q () s'):wpAny bQ A (setItem (.ref p.1) mx mv) Q E s:=by
 obtain⟨e1,r⟩:=S.heap.objs _ _ _ hi hp;refine rl e1 ?_
 cases kd with
 |int=>
  cases x <;> first |cases hk |skip
  obtain⟨t1,rfl⟩:=rx.int_inv;obtain⟨ks,d,al⟩:=r;refine wpAny_setItem_pairs (knd:=intKind W.prog W.w) (beq_self_eq_true _) d (λh' d' hs=>?_) (rr al.length<|dn hz)
  obtain⟨S',x'⟩:=AK (tk:=s.toks+1) S hp e1 al rv d' hs;exact k _ hs.1 S' x'
 |str=>
  cases x <;> first |cases hk |skip
  obtain⟨t1,rfl⟩:=rx.str_inv;obtain⟨ks,d,al⟩:=r;refine wpAny_setItem_pairs (knd:=strKind W.prog W.w) (strKind_is _ _ _ _) d (λh' d' hs=>?_) (rr al.length<|dn hz)
  obtain⟨S',x'⟩:=r6 (tk:=s.toks+1) S hp e1 al rv d' hs;exact k _ hs.1 S' x'
 |tup=>
  cases x <;> first |cases hk |skip
  rename_i j;obtain⟨ks,d,al⟩:=r;obtain⟨b,rfl,hb⟩:=jU rx hk;refine wpAny_setItem_heap (knd:=dX) (by show A.in1.units+64<cLine;simp only;omega) hb d (λh' d' hs=>?_) (rr al.length<|dn hz)
  obtain⟨S',x'⟩:=m7 (tk:=s.toks+(dX).draws j) S hp e1 al rx rv d' hs;exact k _ hs.1 S' x'
end
inductive MK where |append |extend |pop |r7 |i8 |isspace
 deriving DecidableEq
noncomputable def MK.cls:MK->String
 |.append |.extend |.pop=>"list"
 |.r7 |.i8=>"dict"
 |.isspace=>"str"
noncomputable def gE (U:bw)(v:V):Option (Nat×List V):=match v with
 |.ref i=>match U[i]? with
  |some (.list ws)=>some (i,ws)
  |_=>none
 |_=>none
noncomputable def gi (U:bw)(v:V):Option (Nat×DK×List (V×V)):=match v with
 |.ref i=>match U[i]? with
  |some (.dict k ws)=>some (i,k,ws)
  |_=>none
 |_=>none
noncomputable def lg (vs:List V):Option V:=match vs with
 |[x]=>some x
 |_=>none
def wM (m:MK)(v:V)(U:bw):Bool:=match m with
 |.append=>(gE U v).isSome
 |.extend=>(gE U v).isSome
 |.pop=>(gE U v).isSome
 |.r7=>(gi U v).isSome
 |.i8=>(gi U v).isSome
 |.isspace=>v.nX.isSome
def Cq (v:V)(vs:List V)(U:bw):Option (V×bw):=(gE U v).bind λq=>(lg vs).bind λx=>if cD q.2.length then some (.none,U.set q.1 (.list (q.2++[x]))) else .none
def Cr (v:V)(vs:List V)(U:bw):Option (V×bw):=(gE U v).bind λq=>(lg vs).bind λx=>(items? U x).bind λxs=>if cD (q.2.length+xs.length) then some (.none,U.set q.1 (.list (q.2++xs))) else .none
def QL (v:V)(vs:List V)(U:bw):Option (V×bw):=(gE U v).bind λq=>if vs.isEmpty&&cD q.2.length then q.2.getLast?.map λx=>(x,U.set q.1 (.list q.2.dropLast)) else .none
def MA (v:V)(vs:List V)(U:bw):Option (V×bw):=(gi U v).bind λq=>(lg vs).bind λx=>x.int?.bind λk=>if q.2.1=.int/\cD q.2.2.length=true then (cT q.2.2 (.int k)).map λx=>(x,U.set q.1 (.dict .int (DE q.2.2 (.int k)))) else .none
def MB (v:V)(vs:List V)(U:bw):Option (V×bw):=(gi U v).bind λq=>vs.head?.bind λx=>(lg vs.tail).bind λd=>x.gZ.bind λk=>
 if q.2.1=.tup/\fu .tup (.tup k)=true/\cD q.2.2.length=true then (match cT q.2.2 (.tup k) with |some x=>some (x,U) |.none=>some (d,U.set q.1 (.dict .tup (hV q.2.2 (.tup k) d)))) else .none
def MC (v:V)(vs:List V)(U:bw):Option (V×bw):=v.nX.bind λcs=>if vs.isEmpty then some (.bool (Txt.isspace (cJ cs)),U) else .none
def Cs (m:MK)(v:V)(vs:List V)(U:bw):Option (V×bw):=match m with
 |.append=>Cq v vs U
 |.extend=>Cr v vs U
 |.pop=>QL v vs U
 |.r7=>MA v vs U
 |.i8=>MB v vs U
 |.isspace=>MC v vs U
def c6 (m:MK)(f:ME V)(fs:List (ME V)):ME V:=f.bind λv=>λfr U=>if wM m v U then ((aS fs).bind λvs=>λ_ U=>match Cs m v vs U with |some (r,bB)=>.ok r bB |.none=>.stuck) fr U else .stuck
section
variable {K:Type}[DecidableEq K]{knd:HeapKind prog w K}
theorem qH {a:Addr}{xs:List (K×Addr×Value)}{k:K}{v:Value}(hu:knd.room A)(yt:knd.is s.heap k a)(hm:s.heap.DictOfH knd d xs)(AL :∀p,atKey xs k=some p->Q p.2 {s with toks:=s.toks+knd.draws k})(k6:atKey xs k=none->∀h',h'.DictOfH knd d (storedH xs k a v)->Heap.SameBut d s.heap h'->Q v {s with heap:=h',toks:=s.toks+knd.draws k})(hsz:xs.length<=sizeLine) :
  wpAny (model prog w) A (dictSetDefault d (.ref a) v) Q E s:=by
 refine cq λG hG=>?_;obtain⟨o,es,ep,ho,hc,hd,he,Nw,hn⟩:=hm;refine hG ?_;unfold dictSetDefault
 try with_reducible refine cP ?_
 refine wb (knd.pyHash hu yt ?_);refine wb (wpAny_dictFind_heap (s:={s with toks:=s.toks+knd.draws k}) hu yt ho hd he Nw hn ?_ ?_)
 .intro Aj
  have Ge:=atKey_none_of_get Aj;have AM:k∉xs.map (·.1):=not_mem_keys_of_get Aj;refine wb (wpAny_rule (wb (wpAny_updateDictKeys (hz:=by have e:=size_of_entries he;exact XZ ‹_› ‹_› (by rfl)) (s:={s with toks:=s.toks+knd.draws k}) ho hd (av (k6 Ge _ ⟨_,_,ep+1,Heap.get?_update_self _ ho (Obj.isFreed_of_dict (Obj.data_mapDictKeys hd _)),
   hc.mapDictKeys _,Obj.data_mapDictKeys hd _,?_,?_,?_⟩ (dP ..))))))
  .refine rl (storedH_new Ge ..) ?_
   simp[he,entryOfKey]
  .refine rl (storedH_new Ge ..) ?_
   intro x hx;rcases List.mem_append.mp hx with hx |hx
   .exact knd.keeps (Nw x hx) ho hd (dP ..)
   .rw[List.mem_singleton] at hx
    subst hx;exact knd.keeps yt ho hd (dP ..)
  .refine rl (storedH_new Ge ..) ?_
   rw[List.map_append,List.nodup_append];refine⟨hn,by simp,?_⟩;intro x hx y hy;rw[List.map_cons,List.map_nil,List.mem_singleton] at hy;subst hy;exact λe=>AM (e▸hx)
 .intro j p hj
  have Ge:=atKey_of_get hn hj;refine aY (wpAny_dictEntries (s:={s with toks:=s.toks+knd.draws k}) ho hd ?_);exact rl (entry_at he j)<|rl hj<|wb (wpAny_rule (av (AL p Ge)))
theorem lh {a:Addr}{xs:List (K×Addr×Value)}{k:K}{v:Value}(hu:knd.room A.in1)(yt:knd.is s.heap k a)(hm:s.heap.DictOfH knd d xs)(hd :(d == sysModules)=false)(AL :∀p,atKey xs k=some p->Q p.2 {s with toks:=s.toks+knd.draws k})(k6:atKey xs k=none->∀h',h'.DictOfH knd d (storedH xs k a v)->Heap.SameBut d s.heap h'->Q v {s with heap:=h',toks:=s.toks+knd.draws k})(hsz:xs.length<=sizeLine):wpAny (model prog w) A (call (.builtin "dict.setdefault") [.ref d,.ref a,v]) Q E s:=by
 have hT:=hm.typeIs;refine fF F.slot_dict_setdefault hT F.entry_dict_setdefault ?_ (F.args_dict_setdefault_3 _ _ _);refine wb ?_;refine wb (wpAny_notOrdered_dict hT ?_);refine av ?_;show wpAny _ _ (if (d == sysModules)=true then _ else (dictSetDefault d (.ref a) v >>= _)) _ _ s;exact rl (ax (by rw[hd];exact Bool.false_ne_true))<|wb (qH hu yt hm (λp hp=>av ⟨_,rfl,AL p hp⟩) (λhp h' d' hs=>av ⟨_,rfl,k6 hp h' d' hs⟩) hsz)
end
theorem wN (l b:Addr)(items:Array Value)(n:Nat)(r8:Array Value)(n2:Nat)(FX:Option Addr)(FY:Array (Option Value))(hc0 :¬(!items.isEmpty&&Builtin.List.listTooLong (items.size+r8.size))=true)(hc1:items.size<=sizeLine)(S8:items.size+r8.size<=sizeLine+1) :
  Meets (Builtin.«list.extend» ⟨[.ref l,.ref b],[]⟩) (λ_ R s=>s.heap.get? l=some {cls:=.type "list",dict:=none,data:=.seq items n,slots:=#[]}/\s.heap.get? b=some {cls:=.type "list",dict:=FX,data:=.seq r8 n2,slots:=FY}/\R (.ok (.ret Value.none)) {s with heap:=s.heap.update l (Obj.mapSeq λx=>x++r8),toks:=s.toks}):=
 .of_wp λprog w A R s h=>by
  refine cq λG hG=>?_;obtain⟨hp,g,d,tk,os⟩:=s;obtain⟨hl,hb,h⟩:=h;have f1:=AutoSeq1.idx_int;have f2:=AutoSeq1.sub_tuple_tuple;have f3:=AutoSeq1.sub_list_list;have f4:=AutoSeq1.sub_tuple_list;have f5:=AutoSeq1.sub_list_tuple;have PM :(items++r8).size<=sizeLine+1:=by exact rl Array.size_append<|S8
  refine hG ?_
  wp_walk using (wpAny_updateSeq hl rfl (hz:=hc1) (_hz':=PM)),AutoSeq1.wpAny_loadPart' hl,AutoSeq1.wpAny_loadPart' hb;exact⟨_,rfl,h⟩
section
variable {D:List Addr}
noncomputable def MK.id (m:MK):String:=match m with
 |.append=>"list.append" |.extend=>"list.extend" |.pop=>"list.pop" |.r7=>"dict.pop" |.i8=>"dict.setdefault" |.isspace=>"str.isspace"
noncomputable def MK.name (m:MK):String:=match m with
 |.append=>"append" |.extend=>"extend" |.pop=>"pop" |.r7=>"pop" |.i8=>"setdefault" |.isspace=>"isspace"
theorem AN (h:cD (i+j)=true):Builtin.List.listTooLong (i+j)=false:=by
 have:=of_decide_eq_true h;unfold Builtin.List.listTooLong;rw[decide_eq_false_iff_not]
 try rw[sizeLine_eq]
 exact Qq ‹_› (by rfl)
theorem MK.attrs :∀m:MK,PlainAttrs m.cls
 |.append=>F.plainAttrs_list |.extend=>F.plainAttrs_list |.pop=>F.plainAttrs_list
 |.r7=>F.plainAttrs_dict |.i8=>F.plainAttrs_dict
 |.isspace=>F.plainAttrs_str
theorem MK.slot :∀m:MK,Slot m.cls (ofString m.name) m.id
 |.append=>F.slot_list_append |.extend=>F.slot_list_extend |.pop=>F.slot_list_pop
 |.r7=>F.slot_dict_pop |.i8=>F.slot_dict_setdefault
 |.isspace=>F.slot_str_isspace
theorem MK.typ :∀m:MK,typeOf (.builtin m.id)=pure (.type "method_descriptor")
 |.append=>F.type_list_append |.extend=>F.type_list_extend |.pop=>F.type_list_pop
 |.r7=>F.type_dict_pop |.i8=>F.type_dict_setdefault
 |.isspace=>F.type_str_isspace
theorem n7 {q:Nat×List V}(e:gE U v=some q):v=.ref q.1/\U[q.1]? = some (.list q.2):=by
 revert e;cases v with
 |ref i=>
  intro e;unfold gE at e;dsimp only at e
  cases hi:U[i]? with
  |none=>replace e:=hi▸e;injection e
  |some o=>cases o with
   |list ws=>replace e:=hi▸e;injection e with e;subst e;exact⟨rfl,hi⟩
   |_=>replace e:=hi▸e;injection e
 |_=>intro e;injection e
theorem jV {q:Nat×DK×List (V×V)}(e:gi U v=some q):v=.ref q.1/\U[q.1]? = some (.dict q.2.1 q.2.2):=by
 revert e;cases v with
 |ref i=>
  intro e;unfold gi at e;dsimp only at e
  cases hi:U[i]? with
  |none=>replace e:=hi▸e;injection e
  |some o=>cases o with
   |dict k ws=>replace e:=hi▸e;injection e with e;subst e;exact⟨rfl,hi⟩
   |_=>replace e:=hi▸e;injection e
 |_=>intro e;injection e
theorem iF (e:lg vs=some x):vs=[x]:=by
 cases vs with
 |nil=>injection e
 |cons y r=>cases r with
  |nil=>injection e with e;subst e;rfl
  |cons=>injection e
theorem o8 (S:St Z U s)(r:aH Z s.heap v mv)(e :(gE U v).isSome=true):s.TypeIs mv "list"/\∀b,mv=.ref b->∃ob,s.heap.get? b=some ob/\ob.dict=none:=by
 refine cq λG hG=>?_;obtain⟨q,hq⟩:=Option.isSome_iff_exists.mp e;obtain⟨rfl,hi⟩:=n7 hq;obtain⟨p,hp,rfl⟩:=r.fm;obtain⟨e1,ms,k,g,_⟩:=S.heap.objs _ _ _ hi hp;refine hG ?_;exact rl e1<|⟨⟨_,g,rfl⟩,λb hb=>by injection hb with hb;subst hb;exact⟨_,g,rfl⟩⟩
theorem mf (S:St Z U s)(r:aH Z s.heap v mv)(e :(gi U v).isSome=true):s.TypeIs mv "dict"/\∀b,mv=.ref b->∃ob,s.heap.get? b=some ob/\ob.dict=none:=by
 refine cq λG hG=>?_;obtain⟨⟨i,kd,ws⟩,hq⟩:=Option.isSome_iff_exists.mp e;obtain⟨rfl,hi⟩:=jV hq;obtain⟨p,hp,rfl⟩:=r.fm;obtain⟨e1,r⟩:=S.heap.objs _ _ _ hi hp;have key :∃o,s.heap.get? p.2=some o/\o.ExactDict:=by
  cases kd with
  |int=>obtain⟨ks,⟨o,es,ep,ho,hx,_⟩,_⟩:=r;exact⟨o,ho,hx⟩
  |str=>obtain⟨ks,⟨o,es,ep,ho,hx,_⟩,_⟩:=r;exact⟨o,ho,hx⟩
  |tup=>obtain⟨ks,⟨o,es,ep,ho,hx,_⟩,_⟩:=r;exact⟨o,ho,hx⟩
 obtain⟨o,ho,hx⟩:=key;refine hG ?_;exact rl e1<|⟨⟨o,ho,hx.1⟩,λb hb=>by injection hb with hb;subst hb;exact⟨o,ho,hx.2.1⟩⟩
theorem J5 {m:MK}(S:St Z U s)(r:aH Z s.heap v mv)(e:wM m v U=true) :
  s.TypeIs mv m.cls/\∀b,mv=.ref b->∃ob,s.heap.get? b=some ob/\ob.dict=none:=by
 cases m with
 |append=>exact o8 S r e
 |extend=>exact o8 S r e
 |pop=>exact o8 S r e
 |r7=>exact mf S r e
 |i8=>exact mf S r e
 |isspace=>
  refine cq λG hG=>?_;obtain⟨q,hq⟩:=Option.isSome_iff_exists.mp (show v.nX.isSome=true from e);obtain rfl:=V.iW hq
  cases r;refine hG ?_;exact⟨typeIs_str ..,λb hb=>nomatch hb⟩
theorem aD.one (r:aD Z h [v] ms) :∃m,ms=[m]/\aH Z h v m:=by
 cases r with |cons h1 h2=>cases h2;exact⟨_,rfl,h1⟩
theorem aD.two (r:aD Z h [v,u] ms) :∃m k,ms=[m,k]/\aH Z h v m/\aH Z h u k:=by
 cases r with |cons h1 h2=>obtain⟨k,rfl,h3⟩:=h2.one;exact⟨_,_,rfl,h1,h3⟩
section
variable {r:V}
theorem DN (S:St Z U s)(rv:aH Z s.heap v mv)(rs:aD Z s.heap vs ms)(e0:Cq v vs U=some (r,bB))(p:bt a Z s (.ok r bB) Q E):wpAny bQ a.A (call (.builtin "list.append") (mv::ms)) Q E s:=by
 refine aT e0 λq1 hq e1=>?_;obtain⟨i,ws⟩:=q1;clear e0;refine aT e1 λx hx e2=>?_;clear e1;obtain⟨rfl,hi⟩:=n7 hq;obtain rfl:=iF hx;refine di e2 λhz e2=>?_;refine cq λG hG=>?_
 cases e2;obtain⟨m1,rfl,r1⟩:=rs.one;obtain⟨pp,hp,rfl⟩:=rv.fm;obtain⟨e1,ik,k,g,q⟩:=S.heap.objs _ _ _ hi hp;refine hG ?_;refine rl e1<|cq λG hG=>?_
 have hsz:ws.length=ik.size:=by refine q.length.trans ?_;simp
 obtain⟨S',x'⟩:=n6 (tk:=s.toks) (g:=λxs=>xs.push m1) (ws:=ws++[x]) S hp e1 g (by simpa using q.append (.cons r1 .nil));refine hG ?_;exact call_meets F.slot_list_append ⟨_,g,rfl⟩ F.entry_list_append (F.args_list_append_2 _ _) (list_append _ ik k m1 (rr hsz<|dn hz)) ⟨g,bt.val p S' x' .none⟩
theorem DO (S:St Z U s)(rv:aH Z s.heap v mv)(rs:aD Z s.heap vs ms)(e0:Cr v vs U=some (r,bB))(p:bt a Z s (.ok r bB) Q E):wpAny bQ a.A (call (.builtin "list.extend") (mv::ms)) Q E s:=by
 refine aT e0 λq1 hq e1=>?_;obtain⟨i,ws⟩:=q1;clear e0;refine aT e1 λx hx e2=>?_;clear e1;refine aT e2 λxs hxs e3=>?_;clear e2;obtain⟨rfl,hi⟩:=n7 hq;obtain rfl:=iF hx;refine di e3 λhz e3=>?_;refine cq λG hG=>?_
 cases e3;obtain⟨m1,rfl,r1⟩:=rs.one;obtain⟨pp,hp,rfl⟩:=rv.fm;obtain⟨e1,ik,k,g,q⟩:=S.heap.objs _ _ _ hi hp;obtain⟨b,NL,rfl,l,q2⟩:=dY S.heap r1 hxs;obtain⟨⟨c2,FX,da2,FY⟩,g2,xU,k2,qX⟩:=l;simp only at xU qX;subst xU qX;refine hG ?_;refine rl e1 ?_;have hsz:ws.length=ik.size:=by refine q.length.trans ?_;simp
 have VK:xs.length=NL.size:=by refine q2.length.trans ?_;simp
 have AO:=dn hz;obtain⟨S',x'⟩:=n6 (tk:=s.toks) (g:=λxs=>xs++NL) (ws:=ws++xs) S hp e1 g (by simpa using q.append q2);simp only[hsz,VK] at hz AO;exact call_meets F.slot_list_extend ⟨_,g,rfl⟩ F.entry_list_extend (F.args_list_extend_2 _ _) (wN _ _ ik k NL k2 FX FY (by refine rl (AN hz) ?_;simp) (Nat.le_of_add_right_le AO) (Nat.le_add_right_of_le AO)) ⟨g,g2,bt.val p S' x' .none⟩
theorem AP {ik:Array Value}(hm:ik[ik.size - 1]? = some m) :(ik.eraseIdxIfInBounds (ik.size - 1)).toList=ik.toList.take (ik.size - 1):=by
 have uk:ik.size - 1<ik.size:=by
  rcases Nat.lt_or_ge (ik.size - 1) ik.size with h |h
  .exact h
  .replace hm:=(Array.getElem?_eq_none h)▸hm;injection hm
 unfold Array.eraseIdxIfInBounds;exact rl (dif_pos uk)<|rl Array.toList_eraseIdx<|rl (List.eraseIdx_eq_take_drop_succ ..)<|rl (List.drop_eq_nil_of_le (by rw[eZ];exact UZ))<|rl (List.append_nil ..) rfl
theorem NM (S:St Z U s)(rv:aH Z s.heap v mv)(rs:aD Z s.heap vs ms)(e0:QL v vs U=some (r,bB))(p:bt a Z s (.ok r bB) Q E):wpAny bQ a.A (call (.builtin "list.pop") (mv::ms)) Q E s:=by
 refine aT e0 λq1 hq e1=>?_;obtain⟨i,ws⟩:=q1;clear e0;obtain⟨rfl,hi⟩:=n7 hq
 split at e1
 case isFalse=>injection e1
 refine cq λG hG=>?_;rename_i hz;obtain⟨hz0,hz⟩:=cK hz;obtain rfl:=List.isEmpty_iff.mp hz0;refine dh e1 λx Gf e2=>?_;clear e1
 cases e2
 cases rs;obtain⟨pp,hp,rfl⟩:=rv.fm;obtain⟨e1,ik,k,g,q⟩:=S.heap.objs _ _ _ hi hp;refine hG ?_;refine rl e1<|cq λG hG=>?_
 have hsz:ws.length=ik.size:=by refine q.length.trans ?_;simp
 replace Gf:=(List.getLast?_eq_getElem?)▸Gf;obtain⟨m1,Jr,rm1⟩:=q.get _ _ Gf;replace Jr:=(Array.getElem?_toList)▸hsz▸Jr;obtain⟨S',x'⟩:=n6 (tk:=s.toks) (g:=λxs=>xs.eraseIdxIfInBounds (ik.size - 1)) (ws:=ws.dropLast) S hp e1 g (rl (AP Jr)<|rl List.dropLast_eq_take<|rl hsz<|q.take _)
 refine hG ?_;exact call_meets F.slot_list_pop ⟨_,g,rfl⟩ F.entry_list_pop (F.args_list_pop_1 _) (MeetsSeq.list_pop_last _ ik k m1 Jr (rr hsz<|dn hz)) ⟨g,bt.val p S' x' (rm1.mono x')⟩
theorem J6 (S:St Z U s)(rv:aH Z s.heap v mv)(rs:aD Z s.heap vs ms)(e0:MA v vs U=some (r,bB))(p:bt a Z s (.ok r bB) Q E):wpAny bQ a.A (call (.builtin "dict.pop") (mv::ms)) Q E s:=by
 refine aT e0 λq1 hq e1=>?_;obtain⟨i,kd,ay⟩:=q1;clear e0;refine aT e1 λx hx e2=>?_;clear e1;refine aT e2 λj hj e3=>?_;clear e2;obtain⟨rfl,hi⟩:=jV hq;obtain rfl:=iF hx;obtain rfl:=V.fH hj;refine di e3 λhz e3=>?_;obtain⟨rfl,hz⟩:=hz;refine dh e3 λy hg e4=>?_;clear e3
 cases e4;obtain⟨m1,rfl,r1⟩:=rs.one
 cases rv with
 |@ref _ pp hp=>
 obtain⟨e1,ks,d,al⟩:=S.heap.objs _ _ _ hi hp;refine rl e1<|cq λG hG=>?_
 cases r1;have hh:=rV (k:=j) al;replace hh:=hg▸hh;refine hG ?_
 cases hm:valueAt ks j with
 |none=>rw[hm] at hh;exact hh.elim
 |some m=>
  replace hh:=hm▸hh;refine call_meetsIn F.slot_dict_pop d.typeIs F.entry_dict_pop (F.args_dict_pop_2 _ _) (meets_dict_pop_there (intKind W.prog W.w) (k:=j) pp.2 (by simp[intKind,Value.isInt]) [] (.inl rfl) rfl) ⟨ks,m,d,by exact rr al.length<|dn hz,hm,λh' d' hs=>?_⟩
  refine cq λG hG=>?_;have x0:cE [] Z s.heap Z h':=cE.sameBut hs (eB hp) (S.heap.gL hp) (let ⟨o,_,_,e,_⟩:=d';⟨o,e⟩);obtain⟨S',x'⟩:=S.DM (tk:=s.toks+1) (o':=.dict .int (DE ay (.int j))) hp hs ⟨e1,_,d',by
   have NK:=(al.mono (R':=λkv km=>kv.1=.int km.1/\aH Z h' kv.2 km.2) λ_ _ q=>⟨q.1,q.2.mono x0⟩);have:=NK.DE (q:=λkm=>decide (km.1=j)) (k:=.int j) (λkv km q=>by refine rl q.1 ?_;simp[V.Cg])
   simpa [without] using this⟩
  refine hG ?_;exact bt.val p S' x' (hh.mono x0)
theorem J7 (ok:b8 n a)(S:St Z U s)(rv:aH Z s.heap v mv)(rs:aD Z s.heap vs ms)(e0:MB v vs U=some (r,bB))(p:bt a Z s (.ok r bB) Q E):wpAny bQ a.A (call (.builtin "dict.setdefault") (mv::ms)) Q E s:=by
 refine aT e0 λq1 hq e1=>?_;obtain⟨i,kd,ay⟩:=q1;clear e0;refine aT e1 λx hx e2=>?_;clear e1;refine aT e2 λdv hd e3=>?_;clear e2;refine aT e3 λj hj e4=>?_;clear e3;obtain⟨rfl,hi⟩:=jV hq;obtain rfl:=V.eP hj
 cases vs with
 |nil=>injection hx
 |cons x0 vs=>
 injection hx with hx;subst hx;obtain rfl:=iF hd;refine di e4 λhz e4=>?_;obtain⟨rfl,hk,hz⟩:=hz;obtain⟨m1,m2,rfl,r1,r2⟩:=rs.two;obtain⟨pp,hp,rfl⟩:=rv.fm;obtain⟨e1,ks,d,al⟩:=S.heap.objs _ _ _ hi hp;refine rl e1 ?_;obtain⟨b,rfl,hb⟩:=jU r1 hk;have hh:=nZ (k:=j) al;refine lh (knd:=dX) (by have:=ok.units;show a.A.in1.units+64<cLine;simp only;exact yc this) hb d (nY S.heap (eB hp)) (λq hq=>?_) (λhq h' d' hs=>?_) (rr al.length<|dn hz)
 .replace hh:=hq▸hh
  cases hg:cT ay (.tup j) with
  |none=>rw[hg] at hh;exact hh.elim
  |some x=>
   refine cq λG hG=>?_;simp only[hg] at hh e4
   cases e4;refine hG ?_;exact bt.val (s':={s with toks:=s.toks+(dX).draws j}) p S.fW (.refl ..) hh
 .replace hh:=hq▸hh
  cases hg:cT ay (.tup j) with
  |some x=>rw[hg] at hh;exact hh.elim
  |none=>
   refine cq λG hG=>?_;simp only[hg] at e4
   cases e4;obtain⟨S',x'⟩:=m7 (tk:=s.toks+(dX).draws j) S hp e1 al r1 r2 d' hs;refine hG ?_;exact bt.val p S' x' (r2.mono x')
theorem J8 (S:St Z U s)(rv:aH Z s.heap v mv)(rs:aD Z s.heap vs ms)(e0:MC v vs U=some (r,bB))(p:bt a Z s (.ok r bB) Q E):wpAny bQ a.A (call (.builtin "str.isspace") (mv::ms)) Q E s:=by
 refine aT e0 λcs hq e1=>?_;clear e0;obtain rfl:=V.iW hq;refine di e1 λhz e1=>?_;refine cq λG hG=>?_;obtain rfl:=List.isEmpty_iff.mp hz
 cases e1
 cases rs
 cases rv;rename_i t;refine hG ?_;exact call_gives F.slot_str_isspace (typeIs_str ..) F.entry_str_isspace (F.args_str_isspace_1 _) (gives_str_isspace (cJ cs) t) (bt.val p S (.refl ..) (.bool _))
end
theorem J9 {m:MK}{r:V}(ok:b8 n a)(S:St Z U s)(rv:aH Z s.heap v mv)(rs:aD Z s.heap vs ms)(e:Cs m v vs U=some (r,bB))(p:bt a Z s (.ok r bB) Q E):wpAny bQ a.A (call (.builtin m.id) (mv::ms)) Q E s:=by
 revert e;cases m with
 |append=>intro e;exact DN S rv rs e p
 |extend=>intro e;exact DO S rv rs e p
 |pop=>intro e;exact NM S rv rs e p
 |r7=>intro e;exact J6 S rv rs e p
 |i8=>intro e;exact J7 ok S rv rs e p
 |isspace=>intro e;exact J8 S rv rs e p
end
set_option tactic.hygienic false
noncomputable def qI:List Int->Int
 |[]=>0
 |[a]=>a
 |a::as=>if a<qI as then qI as else a
noncomputable def ins (x:Int):List Int->List Int
 |[]=>[x]
 |y::ys=>if x<=y then x::y::ys else y::ins x ys
noncomputable def vd:List Int->List Int
 |[]=>[]
 |x::xs=>ins x (vd xs)
inductive BK where |len |sum |max |abs |sorted |tuple
 deriving DecidableEq
noncomputable def Gg : V->Option (List V)
 |.tup xs=>some xs
 |_=>none
def r9 (b:BK)(x:V)(U:bw):Option V:=match b with
 |.len=>match Gg x with
  |some xs=>if cD xs.length then some (.int xs.length) else .none
  |.none=>(items? U x).bind λxs=>if cD xs.length then some (.int xs.length) else .none
 |.sum=>(items? U x).bind λxs=>(k7 xs).map λis=>.int is.sum
 |.max=>(items? U x).bind λxs=>(k7 xs).bind λis=>if is.isEmpty then .none else some (.int (qI is))
 |.abs=>match x with
  |.int i=>some (.int (if i<0 then -i else i))
  |_=>.none
 |.sorted=>(items? U x).bind λxs=>if decide (xs.length<64) then (k7 xs).map λis=>.list ((vd is).map .int) else .none
 |.tuple=>match Gg x with
  |some xs=>some x
  |.none=>(items? U x).bind λxs=>if cD xs.length then some (.tup xs) else .none
def AQ (b:BK)(vs:List V)(U:bw):Option V:=match vs with
 |[x]=>r9 b x U
 |_=>.none
def bT (b:BK)(fs:List (ME V)):ME V:=(aS fs).bind λvs=>λ_ U=>Res.cN (AQ b vs U) U
theorem yu (x:Int) :∀l,(ins x l).Perm (x::l):=by
 intro y
 induction y with
 |nil=>
  exact .refl _
 |cons y ys ih=>
  show List.Perm (if x<=y then x::y::ys else y::ins x ys) _
  split
  .exact .refl _
  .exact((ih).cons y).trans (List.Perm.swap x y ys)
theorem AR :∀l,(vd l).Perm l:=by
 intro y
 induction y with
 |nil=>
  exact .refl _
 |cons x xs ih=>
  exact(yu x (vd xs)).trans ((ih).cons x)
theorem AS (x:Int) :∀l,l.Pairwise (·<=·)->(ins x l).Pairwise (·<=·):=by
 intro y
 induction y with
 |nil=>
  intro _;exact List.pairwise_singleton ..
 |cons y ys ih=>
  intro h;show List.Pairwise _ (if x<=y then x::y::ys else y::ins x ys);rw[List.pairwise_cons] at h
  split
  .rename_i nO
   rw[List.pairwise_cons];refine⟨λz hz=>?_,by rw[List.pairwise_cons];exact h⟩;rcases b7 hz with rfl |hz
   .exact nO
   .exact Int.le_trans nO (h.1 z hz)
  .rename_i nO
   rw[List.pairwise_cons];refine⟨λz hz=>?_,ih h.2⟩;rcases b7 ((yu x ys).mem_iff.mp hz) with rfl |hz
   .exact Int.le_of_not_le nO
   .exact h.1 z hz
theorem wO :∀l,(vd l).Pairwise (·<=·):=by
 intro y
 induction y with
 |nil=>
  exact .nil
 |cons x xs ih=>
  exact AS x _ (ih)
theorem um {l l':List Int}(p:l.Perm l')(h:l.Pairwise (·<=·))(h':l'.Pairwise (·<=·)):l=l':=
 p.eq_of_pairwise (λ_ _ _ _ h1 h2=>Int.le_antisymm h1 h2) h h'
theorem Gh :∀l,l≠[]->qI l∈l:=by
 intro l
 induction l with
 |nil=>exact λh=>absurd rfl h
 |cons a as ih=>
  intro _
  cases as with
  |nil=>exact List.mem_singleton.mpr rfl
  |cons b as=>
   show(if a<qI (b::as) then qI (b::as) else a)∈_;by_cases eO:a<qI (b::as)
   .exact rl (aA eO)<|fE _ (ih (List.cons_ne_nil _ _))
   .exact rl (ax eO)<|eG
theorem Ka :∀l,∀x∈l,x<=qI l:=by
 intro l
 induction l with
 |nil=>exact λx h=>absurd h List.not_mem_nil
 |cons a as ih=>
  intro x h
  cases as with
  |nil=>rw[dM h];exact Int.le_refl _
  |cons b as=>
   show x<=(if a<qI (b::as) then qI (b::as) else a);by_cases eO:a<qI (b::as)
   .rw[aA eO]
    rcases b7 h with rfl |h
    .exact Int.le_of_lt eO
    .exact ih x h
   .rw[ax eO]
    rcases b7 h with rfl |h
    .exact Int.le_refl x
    .exact Int.le_trans (ih x h) (Int.not_lt.mp eO)
section
variable {D:List Addr}
theorem o9 :∀{is:List Int} {ms:List Value},IntsAre ms is->aD Z h (is.map .int) ms
 |_,_,.nil=>.nil
 |_,_,.cons i t r=>.cons (.int i t) (o9 r)
theorem St.kept {tk:Nat}(S:St Z U s)(k :∀b o,s.heap.get? b=some o->h'.get? b=some o):St Z U {s with heap:=h',toks:=tk}/\cE [] Z s.heap Z h':=
 ⟨St.mk (S.heap.keeps k) S.gens S.os,.of_keeps k⟩
noncomputable def BK.f (b:BK):Value:=match b with
 |.len=>.builtin "len" |.sum=>.builtin "sum" |.max=>.builtin "max" |.abs=>.builtin "abs" |.sorted=>.builtin "sorted" |.tuple=>.type "tuple"
noncomputable def BK.name (b:BK):String:=match b with
 |.len=>"len" |.sum=>"sum" |.max=>"max" |.abs=>"abs" |.sorted=>"sorted" |.tuple=>"tuple"
theorem BK.boot :∀b:BK,bootBuiltins (ofString b.name)=some b.f
 |.len=>boot_len |.sum=>by decide +kernel |.max=>by decide +kernel |.abs=>by decide +kernel |.sorted=>by decide +kernel |.tuple=>by decide +kernel
theorem qJ {vs:List Value}{fP:Array Value} :(∀b o,h.get? b=some o->(sortedAll h vs fP).get? b=some o)/\(sortedAll h vs fP).IsList (h.objs.size+1) fP:=by
 obtain⟨e,he⟩:=sortedAll_at h vs fP;exact⟨λb o hb=>sortedAll_old hb,_,he,rfl,e,rfl⟩
theorem Ct {xs:List V}(e:Gg x=some xs):x=.tup xs:=by cases x <;> cases e;rfl
section
variable {r:V}
theorem lj {vs:Option (List V)}{g:List V->Option V}(e:vs.bind g=some r) :∃xs,vs=some xs/\g xs=some r:=Option.bind_eq_some_iff.mp e
theorem NN (S:St Z U s)(r1:aH Z s.heap x m)(e:r9 .len x U=some r)(p:bt a Z s (.ok r U) Q E):wpAny bQ a.A (call (.builtin "len") [m]) Q E s:=by
 cases ht:Gg x with
 |some xs=>
  unfold r9 at e;dsimp only at e;rw[ht] at e;obtain rfl:=Ct ht;refine di e λhz e=>?_;injection e with e;subst e;have AO:=of_decide_eq_true hz;obtain⟨t,o,ik,k,rfl,ho,hc,hd,hn,q⟩:=r1.fV;have hsz:xs.length=ik.size:=by refine q.length.trans ?_;simp
  refine PyProof.Rows.len_tuple ⟨o,ho,hc,k,hd⟩ (by refine rr hsz ?_;exact Yb ‹_›) (bt.val (s':={s with toks:=s.toks+1+1}) p S.fW (.refl ..) ?_);exact rl hsz<|.int _ _
 |none=>
  unfold r9 at e;dsimp only at e;rw[ht] at e;obtain⟨xs,hx,e⟩:=lj e;refine di e λhz e=>?_;injection e with e;subst e;have AO:=of_decide_eq_true hz;obtain⟨b,ik,rfl,l,q⟩:=dY S.heap r1 hx;have hsz:xs.length=ik.size:=by refine q.length.trans ?_;simp
  refine PyProof.Rows.len_list l (by refine rr hsz ?_;exact Yb ‹_›) (bt.val (s':={s with toks:=s.toks+1+1}) p S.fW (.refl ..) ?_);exact rl hsz<|.int _ _
theorem Gi (S:St Z U s)(r1:aH Z s.heap x m)(e:r9 .tuple x U=some r)(p:bt a Z s (.ok r U) Q E):wpAny bQ a.A (call (.type "tuple") [m]) Q E s:=by
 cases ht:Gg x with
 |some xs=>
  unfold r9 at e;dsimp only at e;rw[ht] at e;obtain rfl:=Ct ht;injection e with e;subst e;obtain⟨t,o,ik,k,rfl,ho,hc,hd,hn,q⟩:=r1.fV;exact call_tuple_same ⟨o,ho,hc,k,hd⟩ (bt.val (s':=s) p S (.refl ..) r1)
 |none=>
  unfold r9 at e;dsimp only at e;rw[ht] at e;obtain⟨xs,hx,e⟩:=lj e;refine di e λhz e=>?_;injection e with e;subst e;obtain⟨b,ik,rfl,l,q⟩:=dY S.heap r1 hx;have hsz:xs.length=ik.size:=by refine q.length.trans ?_;simp
  refine call_tuple_list l (λh' hk=>?_) (rr hsz<|dn hz)
  obtain⟨S',x'⟩:=S.kept (tk:=s.toks) hk;obtain⟨S3,x3,r3⟩:=S'.tuple (q.mono x');rw[Array.toArray_toList] at S3 x3 r3;exact bt.val p S3 (x'.trans x3) r3
theorem NO (ok:b8 n a)(S:St Z U s)(r1:aH Z s.heap x m)(e:r9 .sum x U=some r)(p:bt a Z s (.ok r U) Q E):wpAny bQ a.A (call (.builtin "sum") [m]) Q E s:=by
 obtain⟨xs,hx,e⟩:=lj (show(items? U x).bind _=some r from e);refine dh e λis hi z1=>?_;subst z1;obtain⟨b,ik,rfl,l,q⟩:=dY S.heap r1 hx;have I:=n0 hi q;obtain⟨ys,rfl⟩:=(show AllInts ik from by have:=I.allInts;simpa using this).items;have hn:=I.numsOf;refine sum_intListG ok.hand l λh' tk t' hk=>?_;obtain⟨S',x'⟩:=S.kept (tk:=tk) hk;refine bt.val p S' x' ?_;exact rl (preSum_eq ..)<|rl (List.take_of_length_le (by simp))<|rr (nums_intItems ..)<|rl hn<|.int _ _
theorem NP {is:List Int}{ys:Array (Int×Tok)}(hn:ys.toList.map (·.1)=is)(hsz:0<ys.size):numAt ys (argBest (λi j=>decide (numAt ys i > numAt ys j)) (ys.size - 1))=qI is:=by
 obtain⟨h1,h2⟩:=argBest_gt (numAt ys) (ys.size - 1)
 apply Int.le_antisymm
 .refine Ka is _ ?_
  exact rr hn<|rl (numAt_eq ..)<|getD_mem (rl (cL ..)<|rl eZ<|Nat.lt_of_le_pred hsz h1)
 .have hm:=Gh is (by intro z;have q:=aR List.length (hn.trans z);rw[cL,eZ] at q;exact absurd q (Nat.ne_of_gt hsz))
  rw[<- hn] at hm;obtain⟨j,hj,e⟩:=mem_getD hm;rw[cL,eZ] at hj;exact rr hn<|rr e<|rr (numAt_eq ..)<|h2 j ((Nat.le_sub_one_iff_lt hsz).mpr hj)
theorem NQ (ok:b8 n a)(S:St Z U s)(r1:aH Z s.heap x m)(e:r9 .max x U=some r)(p:bt a Z s (.ok r U) Q E):wpAny bQ a.A (call (.builtin "max") [m]) Q E s:=by
 obtain⟨xs,hx,e⟩:=lj (show(items? U x).bind _=some r from e);refine aT e λis hi e=>?_
 split at e
 case isTrue=>injection e
 rename_i dg;injection e with e;subst e;obtain⟨b,ik,rfl,l,q⟩:=dY S.heap r1 hx;have I:=n0 hi q;have hlen:is.length=ik.size:=by refine(Eq.symm (I.length)).trans ?_;simp
 obtain⟨ys,rfl⟩:=(show AllInts ik from by have:=I.allInts;simpa using this).items;have hn:=I.numsOf;rw[nums_intItems] at hn;have hsz:0<ys.size:=by
  rcases Nat.eq_zero_or_pos ys.size with h0 |h0
  .rw[intItems,Array.size_map,h0] at hlen
   exact absurd (List.length_eq_zero_iff.mp hlen▸rfl) dg
  .exact h0
 refine max_intList ok.hand l hsz λv h' tk hv hk=>?_;obtain⟨t,rfl⟩:=intItems_at hv;obtain⟨S',x'⟩:=S.kept (tk:=tk) hk;refine bt.val p S' x' ?_;exact rl (NP hn hsz)<|.int _ _
theorem Gj (S:St Z U s)(r1:aH Z s.heap x m)(e:r9 .sorted x U=some r)(p:bt a Z s (.ok r U) Q E):wpAny bQ a.A (call (.builtin "sorted") [m]) Q E s:=by
 obtain⟨xs,hx,e⟩:=lj (show(items? U x).bind _=some r from e);refine di e λyv e=>?_;refine dh e λis hi z2=>?_;subst z2;obtain⟨b,ik,rfl,l,q⟩:=dY S.heap r1 hx;have I:=n0 hi q;have hsz:xs.length=ik.toList.length:=by exact rl q.length rfl
 have yv:=of_decide_eq_true yv;refine sorted_ints (vs:=ik.toList) (by simpa using l) I (lt_of_eq_of_lt (id (Eq.symm hsz)) yv) λfP ns' hI hp hs=>?_;have Gk:ns'=vd is:=um (hp.trans (AR is).symm) hs (wO is);obtain⟨hk,hl⟩:=qJ (h:=s.heap) (vs:=ik.toList) (fP:=fP);obtain⟨S',x'⟩:=S.kept (tk:=s.toks) hk;refine bt.val p S' x' ?_;obtain⟨o,ho,hc,k,hd⟩:=hl;refine .list ho hc hd (λhm=>absurd (S.heap.lt hm) (Nat.not_lt.mpr (Nat.le_succ _))) ?_;exact rr Gk<|o9 hI
end
theorem Kb {b:BK}{r:V}(ok:b8 n a)(S:St Z U s)(r1:aH Z s.heap x m)(e:r9 b x U=some r)(p:bt a Z s (.ok r U) Q E):wpAny bQ a.A (call b.f [m]) Q E s:=by
 cases b with
 |len=>exact NN S r1 e p
 |sum=>exact NO ok S r1 e p
 |max=>exact NQ ok S r1 e p
 |sorted=>exact Gj S r1 e p
 |tuple=>exact Gi S r1 e p
 |abs=>
  cases x with
  |int i=>
   injection e with e;subst e;obtain⟨t,rfl⟩:=r1.int_inv;exact call_abs_int λu tk=>bt.val (s':={s with toks:=tk}) p S.fW (.refl ..) (.int _ _)
  |_=>injection e
theorem NR {b:BK}{r:V}(ok:b8 n a)(S:St Z U s)(rs:aD Z s.heap vs ms)(e:AQ b vs U=some r)(p:bt a Z s (.ok r U) Q E):wpAny bQ a.A (call b.f ms) Q E s:=by
 cases rs with
 |nil=>injection e
 |cons r1 r2=>
  cases r2 with
  |nil=>exact Kb ok S r1 e p
  |cons r2 r3=>injection e
end
section
theorem c7 {f:Value}{Cu:List (Bool×Sem Value)}{Q:Args->Shared->Prop}(hp:Cu.any (·.1)=false)(h:wpAny M A (spliced Cu) (λvs s'=>Q ⟨vs,[]⟩ s') E s):wpAny M A (evalArgs f true Cu []) Q E s:=by
 cases Cu with
 |nil=>
  refine wb (cA h (λvs s' h'=>?_) λ_ _ x=>x);refine wb (av ?_);refine cP ?_;exact wb (av (wb (av (av h'))))
 |cons t r=>
  obtain⟨b,x⟩:=t;simp only[List.any_cons,Bool.or_eq_false_iff] at hp;obtain⟨hb,_⟩:=hp;subst hb;exact Calls.evalArgs_plain h
end
section
variable {D:List Addr}
noncomputable def dc (pos:Pos)(es:List Expr):Prop:=∀env:Env,(backTo pos (starEach es env)).any (·.1)=false
theorem ba {es:List Expr}{b:BK}(hs:gy n sc es (aS fs))(hp:dc pos es)(hx:sc.names.lookup (ofString b.name)=some .globalImplicit)(e:nsIn W.K mainGlobals (ofString b.name)=some Option.none) :
  cm n sc (.Call (.Name (ofString b.name) np) es [] pos) (bT b fs):=by
 intro a ok bJ Z U fr s S F Q E p;subst bJ;refine Call_Name rfl (gD (v:=b.f) ok S hx e b.boot (by cases b <;> decide) (by cases b <;> rfl) ?_)
 have fin:wpAny bQ a.A (spliced (backTo pos (starEach es a.env))) (λms s1=>wpAny bQ a.A (call b.f ms) Q E s1) E s:=by
  refine hs.bind ok rfl S F p λvs bS jn s2 ms S2 F2 x2 r2 p2=>?_;dsimp only at p2;refine b9.opt p2 λr hb p2=>?_;exact NR ok S2 r2 hb p2
 revert p;cases b with
 |tuple=>intro p;exact PySem.callWith_type (hp _) (c7 (hp _) (cA fin (λms s1 h1=>h1) λ_ _ x=>x))
 |len=>intro p;exact Calls.callWith_builtin (hp _) (c7 (hp _) (cA fin (λms s1 h1=>h1) λ_ _ x=>x))
 |sum=>intro p;exact Calls.callWith_builtin (hp _) (c7 (hp _) (cA fin (λms s1 h1=>h1) λ_ _ x=>x))
 |max=>intro p;exact Calls.callWith_builtin (hp _) (c7 (hp _) (cA fin (λms s1 h1=>h1) λ_ _ x=>x))
 |abs=>intro p;exact Calls.callWith_builtin (hp _) (c7 (hp _) (cA fin (λms s1 h1=>h1) λ_ _ x=>x))
 |sorted=>intro p;exact Calls.callWith_builtin (hp _) (c7 (hp _) (cA fin (λms s1 h1=>h1) λ_ _ x=>x))
noncomputable def Cv (pos:Pos)(es:List Expr):Prop:=∀env:Env,((backTo pos (starEach es env)).all (λx=>!x.1)&&(backToKw pos (keywordEach [] env)).all (λx=>x.1.isSome)
 && decide (es.length+([]:List Keyword).length+(if ([]:List Keyword).isEmpty then 0 else 1)<30))=true
noncomputable def Gl (o:Expr)(name:Str):Prop:=∀env:Env,attributeBase o name env (eval o env)=eval o env
theorem bU {o:Expr}{es:List Expr}{m:MK}{f:ME V}(ho:cm n sc o f)(hs:gy n sc es (aS fs))(hp:dc pos es)(NS:Cv pos es)(Gm :(Am.endLine == pos.line)=true)(hb:Gl o (ofString m.name)) :
  cm n sc (.Call (.Attribute o (ofString m.name) Am) es [] pos) (c6 m f fs):=by
 intro a ok bJ Z U fr s S F Q E p;refine wpAny_Call_method_late (hb _) (NS _) Gm rfl (ho.bind ok bJ S F p λv bq cF s1 mv S1 F1 x1 r1 p1=>?_);dsimp only at p1;by_cases hr:wM m v bq=true
 .rw[aA hr] at p1
  obtain⟨hT,hd⟩:=J5 S1 r1 hr;refine⟨m.cls,m.id,m.attrs,m.slot,m.typ,hT,hd,?_⟩;refine Calls.callWith_builtin (hp _) (c7 (hp _) (hs.bind ok bJ S1 F1 p1 λvs bS jn s2 ms S2 F2 x2 r2 p2=>?_));dsimp only at p2
  cases hm:Cs m v vs bS with
  |none=>rw[hm] at p2;exact p2.elim
  |some q=>
   obtain⟨r,bB⟩:=q;rw[hm] at p2;exact J9 ok S2 (r1.mono x2) r2 hm p2
 .rw[ax hr] at p1;exact p1.elim
end
theorem gF:Slot "reversed" "__next__" "reversed.__next__":=
 .of (owner:="reversed") (n:="__next__") (by rw[typeLookup_type,builtinLookup_eq_fast];kernel_rfl) (by decide +kernel) (by decide +kernel) (by decide +kernel)
  (by first |exact .inl (by decide +kernel) |exact .inr (by decide +kernel)) (by rw[isSubtype_type];kernel_rfl)
theorem ll:entryFor table "reversed.__next__" = some Builtin.«reversed.__next__»:=entryFor_of_tree (by kernel_rfl)
theorem mH (a:Value):argsOk "reversed.__next__" ⟨[a],[]⟩:=by unfold argsOk;kernel_rfl
theorem mI:Slot "reversed" "__iter__" "reversed.__iter__":=
 .of (owner:="reversed") (n:="__iter__") (by rw[typeLookup_type,builtinLookup_eq_fast];kernel_rfl) (by decide +kernel) (by decide +kernel) (by decide +kernel)
  (by first |exact .inl (by decide +kernel) |exact .inr (by decide +kernel)) (by rw[isSubtype_type];kernel_rfl)
theorem sa:entryFor table "reversed.__iter__" = some Builtin.«dict_keyiterator.__iter__»:=
 entryFor_alias (id':="dict_keyiterator.__iter__") (by kernel_rfl) (by first |rfl |decide +kernel | (unfold String.splitOn;simp +decide [String.splitOnAux])) (by decide +kernel) (by kernel_rfl)
theorem AU:PySem.TypeCalled "reversed" "reversed.__new__" "object.__init__":=
 ⟨by decide +kernel,by decide +kernel,⟨_,_,F.mro_reversed⟩,F.made_reversed,by decide +kernel,by rw[isSubtype_type];kernel_rfl,by
  exact .of (owner:="object") (n:="__init__") (by rw[typeLookup_type,builtinLookup_eq_fast];kernel_rfl) (by decide +kernel) (by decide +kernel) (by decide +kernel)
   (by first |exact .inl (by decide +kernel) |exact .inr (by decide +kernel)) (by rw[isSubtype_type];kernel_rfl)⟩
theorem uo (x:Str)(t:Tok) :
  Meets (Builtin.«reversed.__new__» ⟨[.type "reversed",.str x t],[]⟩) (λ_ R s=>x.length<2 ^ 63/\R (.ok (.ret (.ref s.heap.objs.size))) {s with heap:=s.heap.push {cls:=.type "reversed",data:=.fields #[.str x t,rawInt ((x.length:Int) - 1)]},toks:=s.toks+2}):=
 .of_wp λprog w A R s ⟨hz,h⟩=>by
  unfold Builtin.«reversed.__new__»;refine wb (wpAny_of_eq (newClass_reversed _) ?_);refine wb (wpAny_of_eq (a:=()) (by first |rfl |kernel_rfl) ?_)
  refine wb (wpAny_of_eq (a:=()) (by first |rfl |kernel_rfl) ?_)
  refine wb (wpAny_specialOf (r:=none) (typeIs_str s x t) (by refine rl (typeLookup_type ..)<|rl builtinLookup_eq_fast ?_;kernel_rfl) ?_)
  refine aY (wpAny_of_eq (a:=true) (by kernel_rfl) ?_);refine rl (ax (by decide))<|wb (P.len_str (by omega) ?_)
  refine wb (wpAny_of_eq (a:=some (x.length:Int)) rfl ?_);refine wb ?_;unfold Builtin.SmallTypes.newRecord;exact wpAny_newObj_type (av ⟨_,rfl,h⟩)
noncomputable def pb (h:Heap)(it:Addr)(x:Str)(t:Tok)(i:Int):Prop:=h.get? it=some {cls:=.type "reversed",data:=.fields #[.str x t,rawInt i]}
section
variable {x:Str}{t:Tok}
theorem wQ (hz:x.length<2 ^ 63)(h :∀h',pb h' s.heap.objs.size x t ((x.length:Int) - 1)->h'=s.heap.push {cls:=.type "reversed",data:=.fields #[.str x t,rawInt ((x.length:Int) - 1)]}->Q (.ref s.heap.objs.size) {s with heap:=h',toks:=s.toks+2}) :
  wpAny (model prog w) A (call (.type "reversed") [.str x t]) Q E s:=by
 refine callType_new AU (by decide) (F.typeCall_reversed_1 _) (F.newCall_reversed_1 _) (λobj=>by unfold argsOk;kernel_rfl) F.entry_reversed_new (uo x t) ⟨hz,?_⟩;have g:=cC (o:={cls:=.type "reversed",data:=.fields #[.str x t,rawInt ((x.length:Int) - 1)]}) s.heap rfl;exact⟨⟨_,g,rfl⟩,h _ g rfl⟩
theorem n9 {i:Int}(hi:pb s.heap it x t i)(h:Q (.ref it) s):wpAny (model prog w) A (pyIter (.ref it)) Q E s:=by
 have hT:s.TypeIs (.ref it) "reversed":=⟨_,hi,rfl⟩;refine wpAny_pyIter_slot hT mI (fF mI hT sa ?_ (by unfold argsOk;kernel_rfl));exact av ⟨_,rfl,"reversed",_,hT,gF.lookup,h⟩
theorem wR {Q:Option Value->Shared->Prop}(hi:pb s.heap it x t (k:Int))(hc:x.cps[k]? = some c)(hz:k<1000000000)(hQ :∀h' tk,pb h' it x t ((k:Int) - 1)->Heap.SameBut it s.heap h'->Q (some (.str ⟨#[c]⟩ tk)) {s with heap:=h',toks:=s.toks+2}):wpAny (model prog w) A (pyNext (.ref it)) Q E s:=by
 have hT:s.TypeIs (.ref it) "reversed":=⟨_,hi,rfl⟩;unfold pyNext;refine wb (wpAny_attempt (wpAny_callSpecial?_slot (name:=ofString "__next__") hT gF (fF gF hT ll ?_ (mH _))));unfold Builtin.«reversed.__next__»;refine wb (wpAny_of_eq (a:=(Value.ref it,[])) rfl ?_);refine wb (wpAny_field hi rfl (x:=.str x t) rfl ?_);refine wb (wpAny_field hi rfl (x:=rawInt (k:Int)) rfl ?_);show wpAny _ _ (if (k:Int)<0 then _ else _) _ _ s;refine rl (ax (Int.not_ofNat_neg k))<|aY (wpAny_specialOf (typeIs_str s x t) F.slot_str_getitem.lookup ?_)
 refine rl (ax (by decide))<|wb (wpAny_mkInt ?_)
 have eO:k<x.length:=by
  rcases Nat.lt_or_ge k x.cps.size with q |q
  .exact q
  .rw[Array.getElem?_eq_none q] at hc;injection hc
 have hsi :(seqIndex? (k:Int) x.length).bind (x.cps[·]?)=some c:=by
  unfold seqIndex?;simp only[show¬(k:Int)<0 by exact Int.not_ofNat_neg k,if_false,show(0:Int)<=k by exact Int.natCast_nonneg k,show(k:Int)<x.length by exact Int.ofNat_lt.mpr eO,decide_true,Bool.and_self,if_true,Option.bind_some,Int.toNat_natCast];exact hc
 refine wb (wpAny_attempt (P.getItem_str (by simp;exact q82 ‹_›) hsi ?_));refine wb (wpAny_field (s:={s with toks:=s.toks+1+1}) hi rfl (x:=rawInt (k:Int)) rfl ?_);refine wb (wpAny_setField_rec (s:={s with toks:=s.toks+1+1}) hi (by simp) λh' g' s'=>?_);exact av ⟨_,rfl,av (hQ h' _ g' s')⟩
theorem ve {Q:Y->Shared->Prop}(hh:A.handled=none)(hE :∀h' e,(∀b o,s.heap.get? b=some o->h'.get? b=some o)->(∃o,h'.get? e=some o/\o.cls=.type "StopIteration")->E (.ref e) {s with heap:=h'}) :
  wpAny (model prog w) A (Builtin.SmallTypes.stopIteration:Sem Y) Q E s:=by
 unfold Builtin.SmallTypes.stopIteration;refine aY ?_;rw[newExc,newTuple];refine aY (wpAny_newObj_type ?_ (by size_fits));refine aY (m:=firstArgMember _ _) (wpAny_of_eq (a:=Value.none) (by first |rfl | (rw[firstArgMember];rfl)) ?_)
 refine wpAny_newObj_type ?_ (by size_fits);rw[raiseNew];refine wb (wpAny_handled ?_);refine rl hh<|wb (av (wpAny_throw ?_))
 exact hE _ _ (λb o e=>bR _ (bR _ e)) ⟨_,cC _ rfl,rfl⟩
theorem wU {Q:Option Value->Shared->Prop}(hh:A.handled=none)(hi:pb s.heap it x t (-1))(hQ :∀h',Heap.ExtBut it s.heap h'->Q none {s with heap:=h'}):wpAny (model prog w) A (pyNext (.ref it)) Q E s:=by
 have hT:s.TypeIs (.ref it) "reversed":=⟨_,hi,rfl⟩;unfold pyNext;refine wb (wpAny_attempt (wpAny_callSpecial?_slot (name:=ofString "__next__") hT gF (fF gF hT ll ?_ (mH _))));unfold Builtin.«reversed.__next__»;refine wb (wpAny_of_eq (a:=(Value.ref it,[])) rfl ?_);refine wb (wpAny_field hi rfl (x:=.str x t) rfl ?_);refine wb (wpAny_field hi rfl (x:=rawInt (-1)) rfl ?_);show wpAny _ _ (if (-1:Int)<0 then _ else _) _ _ s;refine rl (aA (by decide))<|wb (wpAny_rule ?_)
 refine wb (wb (wpAny_setField_rec hi (by simp) λh1 g1 s1=>wpAny_setField_rec g1 (by simp) λh2 g2 s2=>?_));refine wb (ve hh λh' e k ⟨o,ho,hc⟩=>?_);refine wb (wpAny_isInstance (T:="StopIteration") (b:=true) ⟨o,ho,hc⟩ isSubtype_stop ?_);exact av (hQ h' λb o hb e=>k b o (s2.extBut b o hb (s1.extBut b o hb e)))
end
inductive de (Z:dW)(h:Heap)(it:Addr):List V->Prop
 |list {l:Addr} {i:Nat} {ms:Array Value} {vs:List V}:h.IsListIter it l i->h.IsList l ms->l∉bH Z->l≠it->aD Z h vs (ms.toList.drop i)->de Z h it vs
 |tup {l:Addr} {i:Nat} {ms:Array Value} {vs:List V}:h.IsTupleIter it l i->h.IsTuple l ms->l∉bH Z->l≠it->aD Z h vs (ms.toList.drop i)->de Z h it vs
 |range {x step:Int} {k:Nat} {vs:List V}:IsRangeIter h it x k step->vs =(List.range k).map (λi:Nat=>V.int (x+(i:Int) * step))->de Z h it vs
 |str {cs:List Nat} {t:Tok} {i:Nat} {vs:List V}:h.IsStrIter it "str_ascii_iterator" (cJ cs) t i->vs =(cs.drop i).map (λc=>V.str [c])->de Z h it vs
 |rev {l:Addr} {ms:Array Value} {us vs:List V}:Heap.IsRevIter h it l ((us.length:Int) - 1)->h.IsList l ms->l∉bH Z->l≠it->aD Z h us (ms.toList.take us.length)->vs=us.reverse->de Z h it vs
 |sf {cs ds:List Nat} {t:Tok} {vs:List V}:pb h it (cJ (ds++cs)) t ((ds.length:Int) - 1)->ds.length<=1000000->vs=ds.reverse.map (λc=>V.str [c])->de Z h it vs
noncomputable def d9 (a b c:Int):List V:=(List.range (Builtin.Range.rangeSize a b c).toNat).map λi:Nat=>V.int (a+(i:Int) * c)
noncomputable def Cw (v:V):Option (List V):=match v with
 |.list vs=>some vs
 |.tup vs=>some vs
 |.str cs=>if cs.all (· < 128) then some (cs.map λc=>V.str [c]) else .none
 |_=>.none
def bl (f:ME V):ME (List V):=f.bind λv=>λ_ U=>Res.cN (Cw v) U
noncomputable def g6 (i:Int):Bool:=decide (i.natAbs<1000000000000)
def yw (x y z:Int):Option (List V):=if (z=1\/z=-1)/\g6 x=true/\g6 y=true then some (d9 x y z) else .none
def NT:List Int->Option (List V)
 |[b]=>yw 0 b 1
 |[a,b]=>yw a b 1
 |[a,b,c]=>yw a b c
 |_=>.none
def og (es:ME (List V)):ME (List V):=es.bind λvs=>λ_ U=>Res.cN ((k7 vs).bind NT) U
abbrev iY (f:ME V):ME (List V):=og (aS [f])
abbrev iZ (f g:ME V):ME (List V):=og (aS [f,g])
abbrev jq (f g h:ME V):ME (List V):=og (aS [f,g,h])
section
noncomputable def KI (s0:Heap)(Q:iN)(vs:List V)(Z:dW)(s:Shared):Prop:=∀it,s0.get? it=none->it∉bH Z->de Z s.heap it vs->Q (.ref it) s
noncomputable def pd (n:Nat)(sc:Scope)(e:Expr)(f:ME (List V)):Prop:=
 ∀(a:Act),b8 n a->a.env.scope=sc->∀(Z:dW) (U:bw) (fr:eY) (s:Shared),St Z U s->FS a fr Z s.heap->
  ∀(Q:iN) (E:iN),b9 a Z s (f fr U) (KI s.heap Q) E->wpAny bQ a.A (eval e a.env) (λx s1=>wpAny bQ a.A (pyIter x) Q E s1) E s
end
section
variable {D:List Addr}
noncomputable def fq (o:Obj):Prop:=bI o=false/\o.cls≠.type "list"/\o.cls≠.type "dict"/\o.cls≠.type "tuple"/\∀c,o.cls≠.ref c
theorem de.fields (x:de Z h it vs) :∃o,h.get? it=some o/\fq o:=by
 cases x with
 |list hi=>obtain⟨o,ho,hc,hd⟩:=hi;exact⟨o,ho,aR eJ hd,by rw[hc];decide,by rw[hc];decide,by rw[hc];decide,by rw[hc];simp⟩
 |tup hi=>obtain⟨o,ho,hc,hd⟩:=hi;exact⟨o,ho,aR eJ hd,by rw[hc];decide,by rw[hc];decide,by rw[hc];decide,by rw[hc];simp⟩
 |range hi=>exact⟨_,hi,rfl,by simp,by simp,by simp,by simp⟩
 |str hi=>obtain⟨o,ho,hc,hd⟩:=hi;exact⟨o,ho,aR eJ hd,by rw[hc];decide,by rw[hc];decide,by rw[hc];decide,by rw[hc];simp⟩
 |rev hi=>obtain⟨o,ho,hc,hd⟩:=hi;exact⟨o,ho,aR eJ hd,by rw[hc];decide,by rw[hc];decide,by rw[hc];decide,by rw[hc];simp⟩
 |sf hi=>exact⟨_,hi,rfl,by simp,by simp,by simp,by simp⟩
theorem de.vm (x:de Z h it vs)(hn:it∉bH Z)(e:hU Z h bK h'):de bK h' it vs:=by
 cases x with
 |list hi hl hm dg r=>
  obtain⟨o,ho,hc,hd⟩:=hi;obtain⟨ol,kX,qZ,k,pf⟩:=hl;exact .list ⟨o,e.keep _ _ ho hn (aR eJ hd),hc,hd⟩ ⟨ol,e.keep _ _ kX hm (aR eJ pf),qZ,k,pf⟩ (e.eM _ _ kX hm) dg (r.eN e)
 |tup hi hl hm dg r=>
  obtain⟨o,ho,hc,hd⟩:=hi;obtain⟨ol,kX,qZ,k,pf⟩:=hl;exact .tup ⟨o,e.keep _ _ ho hn (aR eJ hd),hc,hd⟩ ⟨ol,e.keep _ _ kX hm (aR eJ pf),qZ,k,pf⟩ (e.eM _ _ kX hm) dg (r.eN e)
 |range hi hv=>exact .range (e.keep _ _ hi hn rfl) hv
 |str hi hv=>
  obtain⟨o,ho,hc,hd⟩:=hi;exact .str ⟨o,e.keep _ _ ho hn (aR eJ hd),hc,hd⟩ hv
 |rev hi hl hm dg r hv=>
  obtain⟨o,ho,hc,hd⟩:=hi;obtain⟨ol,kX,qZ,k,pf⟩:=hl;exact .rev ⟨o,e.keep _ _ ho hn (aR eJ hd),hc,hd⟩ ⟨ol,e.keep _ _ kX hm (aR eJ pf),qZ,k,pf⟩ (e.eM _ _ kX hm) dg (r.eN e) hv
 |sf hi hz hv=>exact .sf (e.keep _ _ hi hn rfl) hz hv
theorem de.ext (x:de Z h it vs)(hn:it∉bH Z)(e:cE D Z h bK h'):de bK h' it vs:=x.vm hn e.jQ
structure gp (it:Addr)(h h':Heap):Prop where
 same:Heap.ExtBut it h h'
 S9 :∃o,h.get? it=some o/\fq o
theorem gp.ne {b:Addr}(x:gp it h h')(e:h.get? b=some o)(q :¬fq o):b≠it:=λz=>by
 obtain⟨o',e',s⟩:=x.S9;replace e:=e'▸z▸e;injection e with e;subst e;exact q s
theorem gp.get {b:Addr}(x:gp it h h')(e:h.get? b=some o)(q :¬fq o):h'.get? b=some o:=x.same b o (x.ne e q) e
theorem dR (h:o.cls=.type "list") :¬fq o:=λx=>x.2.1 h
theorem jW (h:o.cls=.type "dict") :¬fq o:=λx=>x.2.2.1 h
theorem kK (h:o.cls=.type "tuple") :¬fq o:=λx=>x.2.2.2.1 h
theorem pg {c:Addr}(h:o.cls=.ref c) :¬fq o:=λx=>x.2.2.2.2 c h
theorem ph (h:bI o=true) :¬fq o:=λx=>by replace h:=x.1▸h;injection h
theorem aD.side (x:gp it h h')(r:aD Z h vs ms):aD Z h' vs ms:=
 aD.rec (motive_1:=λv m _=>aH Z h' v m) (motive_2:=λvs ms _=>aD Z h' vs ms) .none .bool .int .str .ref
  (λh1 h2 h3 h4 _ ih=>.tup (x.get h1 (kK h2)) h2 h3 h4 ih) (λh1 h2 h3 h4 _ ih=>.list (x.get h1 (dR h2)) h2 h3 h4 ih) .nil (λ_ _ a b=>.cons a b) r
theorem aH.side (x:gp it h h')(r:aH Z h v m):aH Z h' v m:=by
 cases aD.side x (.cons r .nil) with |cons a _=>exact a
theorem DictOf.AV {K:Type}[DecidableEq K]{knd:KeyKind W.prog W.w K}{ks:List (K×Value)}(x:gp it h h')(r:h.DictOf knd d ks):h'.DictOf knd d ks:=by
 refine cq λG hG=>?_;obtain⟨o,es,ep,ho,hx,r⟩:=r;refine hG ?_;exact⟨o,es,ep,x.get ho (jW hx.1),hx,r⟩
theorem mA.side {o:O}(x:gp it h h')(r:mA Z h o p):mA Z h' o p:=by
 cases o with
 |list vs=>obtain⟨e,ms,k,g,q⟩:=r;exact⟨e,ms,k,x.get g (dR rfl),q.side x⟩
 |dict kd ay=>
  obtain⟨e,r⟩:=r;refine⟨e,?_⟩
  cases kd with
  |int=>obtain⟨ks,d,al⟩:=r;exact⟨ks,DictOf.AV x d,al.mono λ_ _ q=>⟨q.1,q.2.side x⟩⟩
  |str=>obtain⟨ks,d,al⟩:=r;exact⟨ks,DictOf.AV x d,al.mono λ_ _ q=>⟨q.1,q.2.side x⟩⟩
  |tup=>
   refine cq λG hG=>?_;obtain⟨ks,⟨o,es,ep,ho,hx,hd,hl,Nw,hn⟩,al⟩:=r;refine hG ?_;exact⟨ks,⟨o,es,ep,x.get ho (jW hx.1),hx,hd,hl,λy hy=>⟨(Nw y hy).1.side x,(Nw y hy).2⟩,hn⟩,al.mono λ_ _ q=>⟨⟨q.1.1,q.1.2.side x⟩,q.2.side x⟩⟩
 |inst c fs=>
  refine cq λG hG=>?_;obtain⟨⟨sl,e⟩,ks,d,al⟩:=r;refine hG ?_;exact⟨⟨sl,x.get e (pg rfl)⟩,ks,DictOf.AV x d,al.mono λ_ _ q=>⟨q.1,q.2.side x⟩⟩
theorem St.side {tk:Nat}(S:St Z U s)(x:gp it s.heap h')(hb:W.h₀.get? it=none):St Z U {s with heap:=h',toks:=tk}:=by
 refine St.mk (gO.mk (λb o e=>?_) S.heap.ok S.heap.fresh (λa ha=>(let ⟨ob,e,c⟩:=S.heap.qE a ha;⟨ob,x.get e (dR c),c⟩)) S.heap.nodup S.heap.len λi o p e e'=>(S.heap.objs i o p e e').side x) S.gens S.os;exact x.same b o (λz=>by replace e:=hb▸z▸e;injection e) (S.heap.base b o e)
theorem FS.side (F:FS a fr Z h)(x:gp it h h'):FS a fr Z h':=F.carry (.of (λb o e q n=>⟨n,o.slots,x.get e (ph q)⟩) λ_ _ r=>r.side x)
theorem pj {l:List Y}{x:Y}{xs:List Y}(e:l.drop i=x::xs):l[i]? = some x/\l.drop (i+1)=xs:=by
 have h1 :(l.drop i)[0]? = some x:=by exact rl e rfl
 rw[List.getElem?_drop] at h1;refine⟨by simpa using h1,?_⟩;exact rr List.drop_drop<|rl e rfl
theorem AW {x step:Int}(e:v::vs =(List.range k).map (λi:Nat=>V.int (x+(i:Int) * step))) :
  ∃k',k=k'+1/\v=.int x/\vs =(List.range k').map (λi:Nat=>V.int (x+step+(i:Int) * step)):=by
 cases k with
 |zero=>simp at e
 |succ k=>
  rw[List.range_succ_eq_map,List.map_cons,List.map_map] at e;injection e with e1 e2;refine⟨k,rfl,by refine e1.trans ?_;simp,?_⟩;refine e2.trans ?_
  apply List.map_congr_left
  intro i _;simp only[Function.comp];congr 1;have :((i.succ:Nat):Int) =(i:Int)+1:=by simp
  refine rl this<|rl (Int.add_mul ..)<|rl (Int.one_mul ..) ?_
  lia
theorem pk {Q:Option Value->Shared->Prop}(x:de Z s.heap it (v::vs))(k :∀h' tk mv,de Z h' it vs->gp it s.heap h'->aH Z h' v mv->Q (some mv) {s with heap:=h',toks:=tk}):wpAny bQ A (pyNext (.ref it)) Q E s:=by
 have xf:=x.fields
 cases x with
 |@list l i ms _ hi hl hm dg r=>
  generalize hd:ms.toList.drop i=ds at r
  cases r with
  |cons r1 r2=>
   obtain⟨h1,h2⟩:=pj hd;refine wpAny_pyNext_list_item hi hl (by simpa using h1) λh' xV hs=>?_;have S:gp it s.heap h':=⟨hs.extBut,xf⟩;exact k h' s.toks _ (.list xV (hl.extBut hs.extBut dg) hm dg (h2▸r2.side S)) S (r1.side S)
 |@tup l i ms _ hi hl hm dg r=>
  generalize hd:ms.toList.drop i=ds at r
  cases r with
  |cons r1 r2=>
   obtain⟨h1,h2⟩:=pj hd;refine wpAny_pyNext_tuple_item hi hl (by simpa using h1) λh' xV hs=>?_;have S:gp it s.heap h':=⟨hs.extBut,xf⟩;exact k h' s.toks _ (.tup xV (hl.extBut hs.extBut dg) hm dg (h2▸r2.side S)) S (r1.side S)
 |@range x step kk _ hi hv=>
  refine cq λG hG=>?_;obtain⟨k',rfl,rfl,rfl⟩:=AW hv;refine hG ?_;refine wpAny_pyNext_range_item hi (Int.ofNat_succ_pos k') λh' xV hs=>?_;have S:gp it s.heap h':=⟨hs.extBut,xf⟩;exact k h' _ _ (.range (k:=k') (by have e :((k'+1:Nat):Int) - 1 =(k':Int):=(Int.sub_eq_iff_eq_add.mpr rfl);replace xV:=e▸xV;exact xV) rfl) S (.int _ _)
 |@str cs t i _ hi hv=>
  cases hd:cs.drop i with
  |nil=>replace hv:=hd▸hv;injection hv
  |cons c cs'=>
   refine cq λG hG=>?_;replace hv:=List.map_cons▸hd▸hv;injection hv with e1 e2;subst e1 e2;obtain⟨h1,h2⟩:=pj hd;refine hG ?_;refine wpAny_pyNext_ascii_item hi (c:=c) (by simpa [cJ] using h1) λh' xV hs=>?_;have S:gp it s.heap h':=⟨hs.extBut,xf⟩;exact k h' _ _ (.str xV (rl h2 rfl)) S (.str [c] _)
 |@rev l ms us _ hi hl hm dg r hv=>
  refine cq λG hG=>?_;obtain⟨ws,rfl⟩ :∃ws,us=ws++[v]:=⟨vs.reverse,by refine(Eq.symm (List.reverse_reverse us)).trans ?_;exact rr hv<|rl List.reverse_cons rfl⟩
  replace hv:=List.singleton_append▸List.reverse_singleton▸List.reverse_append▸hv;injection hv with _ e2;rw[bY,gA] at hi r;replace hi:=(show((ws.length+1:Nat):Int) - 1 =(ws.length:Int) by exact Int.sub_eq_iff_eq_add.mpr rfl)▸hi;obtain⟨m,Jr,rm⟩:=r.get ws.length v (by simp);replace Jr:=(Array.getElem?_toList)▸(List.getElem?_take_of_lt (Nat.lt_succ_self _))▸Jr;have r1:=r.take ws.length;replace r1:=(Nat.min_eq_left (Nat.le_succ _))▸List.take_take▸List.take_left▸r1;refine hG ?_;refine wpAny_pyNext_rev_item hi hl Jr λh' xV hs=>?_;have S:gp it s.heap h':=⟨hs.extBut,xf⟩;exact k h' s.toks _ (.rev xV (hl.extBut hs.extBut dg) hm dg (r1.side S) e2) S (rm.side S)
 |@sf cs ds t _ hi hz hv=>
  obtain⟨ws,c,rfl,e1,e2⟩ :∃ws c,ds=ws++[c]/\v=.str [c]/\vs=ws.reverse.map λc=>V.str [c]:=by
   cases hd:ds.reverse with
   |nil=>replace hv:=hd▸hv;injection hv
   |cons c r=>replace hv:=hd▸hv;injection hv with h1 h2;exact⟨r.reverse,c,by refine(Eq.symm (List.reverse_reverse ds)).trans ?_;exact rl hd<|rl List.reverse_cons rfl,h1,by exact rl (List.reverse_reverse ..)<|h2⟩
  subst e1;rw[bY,gA] at hi hz;rw[show((ws.length+1:Nat):Int) - 1 =(ws.length:Int) by exact Int.sub_eq_iff_eq_add.mpr rfl,cW] at hi;refine wR (c:=c) hi (by simp[cJ]) (q1 ‹_› (by rfl)) λh' tk xV hs=>?_;have S:gp it s.heap h':=⟨hs.extBut,xf⟩;exact k h' _ _ (.sf (ds:=ws) xV (Nat.le_of_succ_le hz) e2) S (.str [c] _)
theorem de.lets {kj:Expr}{v:Value}{Q:Unit->Shared->Prop}(x:de Z s.heap it vs)(h:Q () s):wpAny bQ A (letOwnedTupleGo kj (.ref it) v) Q E s:=by
 have key :∃o T us,s.heap.get? it=some o/\o.cls=.type T/\o.data=.fields us/\["enumerate","zip","dict_itemiterator","dict_reverseitemiterator","odict_iterator","itertools.zip_longest","itertools.pairwise"].contains T=false:=by
  cases x with
  |list hi=>obtain⟨o,ho,hc,hd⟩:=hi;exact⟨o,_,_,ho,hc,hd,by decide⟩
  |tup hi=>obtain⟨o,ho,hc,hd⟩:=hi;exact⟨o,_,_,ho,hc,hd,by decide⟩
  |range hi=>exact⟨_,_,_,hi,rfl,rfl,by decide⟩
  |str hi=>obtain⟨o,ho,hc,hd⟩:=hi;exact⟨o,_,_,ho,hc,hd,by decide⟩
  |rev hi=>obtain⟨o,ho,hc,hd⟩:=hi;exact⟨o,_,_,ho,hc,hd,by decide⟩
  |sf hi=>exact⟨_,_,_,hi,rfl,rfl,by decide⟩
 obtain⟨o,T,us,ho,hc,hd,hT⟩:=key
 cases kj <;> first
  |exact av h
  | (cases v <;> first
   |exact av h
   | (show wpAny _ _ (load it >>= _) _ _ _;refine aY (wpAny_load ho ?_);refine rl hc<|rl hd ?_;dsimp only;exact rl hT<|av h))
theorem sg {Q:Option Value->Shared->Prop}(hh:A.handled=none)(x:de Z s.heap it [])(k :∀h',gp it s.heap h'->Q none {s with heap:=h'}):wpAny bQ A (pyNext (.ref it)) Q E s:=by
 have xf:=x.fields
 cases x with
 |@list l i ms _ hi hl hm dg r=>
  generalize hd:ms.toList.drop i=ds at r
  cases r;exact wpAny_pyNext_list_end hh hi hl (by have:=List.drop_eq_nil_iff.mp hd;simpa using this) λh' hs=>k h' ⟨hs,xf⟩
 |@tup l i ms _ hi hl hm dg r=>
  generalize hd:ms.toList.drop i=ds at r
  cases r;exact wpAny_pyNext_tuple_end hh hi hl (by have:=List.drop_eq_nil_iff.mp hd;simpa using this) λh' hs=>k h' ⟨hs,xf⟩
 |@range x step kk _ hi hv=>
  have:kk=0:=by cases kk with |zero=>rfl |succ k=>rw[List.range_succ_eq_map] at hv;simp at hv
  subst this;exact wpAny_pyNext_range_end hh hi (by simp) λh' hs=>k h' ⟨hs,xf⟩
 |@str cs t i _ hi hv=>
  have hd:cs.drop i=[]:=by simpa using hv.symm
  exact wpAny_pyNext_ascii_end hh hi (by have:=List.drop_eq_nil_iff.mp hd;simpa [cJ] using this) λh' hs=>k h' ⟨hs,xf⟩
 |@rev l ms us _ hi hl hm dg r hv=>
  obtain rfl:us=[]:=List.reverse_eq_nil_iff.mp hv.symm;exact wpAny_pyNext_rev_end hh hi λh' hs=>k h' ⟨hs,xf⟩
 |@sf cs ds t _ hi hz hv=>
  obtain rfl:ds=[]:=List.reverse_eq_nil_iff.mp (List.map_eq_nil_iff.mp hv.symm);exact wU hh hi λh' hs=>k h' ⟨hs,xf⟩
end
section
variable {D:List Addr}
theorem cE.end_none (x:cE D Z h bK h'):h.get? h'.objs.size=none:=by
 cases z:h.get? h'.objs.size with
 |none=>rfl
 |some o=>obtain⟨o',e⟩:=x.live _ _ z;rw[iX] at e;injection e
theorem yx {G:V->Prop}(e:Cw v=some vs)(h1:G (.list vs))(h2:G (.tup vs))(h3 :∀cs,cs.all (· < 128)=true->vs=cs.map (λc=>V.str [c])->G (.str cs)):G v:=by
 cases v with
 |list us=>injection e with e;subst e;exact h1
 |tup us=>injection e with e;subst e;exact h2
 |str cs=>exact di e λha e=>h3 cs ha (Option.some.inj e).symm
 |_=>injection e
theorem bf {e:Expr}{f:ME V}(hf:cm n sc e f):pd n sc e (bl f):=by
 intro a ok bJ Z U fr s S F Q E p;refine hf.bind ok bJ S F p λv bq cF s1 mv S1 F1 x1 r1 p1=>b9.opt p1 λvs hi p2=>?_;have vf:=x1.end_none;have eM:=S1.heap.jS;refine yx (G:=λv=>aH cF s1.heap v mv->wpAny bQ a.A (pyIter mv) Q E s1) hi (λr=>?_) (λr=>?_) (λcs ha e r=>?_) r1
 .refine aH.eL (G:=λmv=>wpAny bQ a.A (pyIter mv) Q E s1) r λl o ms k ho hc hd hn r=>?_
  refine wpAny_pyIter_list ⟨o,ho,hc,k,hd⟩ (p2 cF _ (S1.k9 _) (cE.push _ _) s1.heap.objs.size vf eM (.list (l:=l) (i:=0) (ms:=ms) ⟨_,cC _ rfl,rfl,rfl⟩ ⟨o,bR _ ho,hc,k,hd⟩ hn (Nat.ne_of_lt (cI ho)) ?_));exact r.mono (cE.push (D:=[]) (Z:=cF) _ _)
 .refine aH.eT (G:=λmv=>wpAny bQ a.A (pyIter mv) Q E s1) r λl o ms k ho hc hd hn r=>?_
  refine wpAny_pyIter_tuple ⟨o,ho,hc,k,hd⟩ (p2 cF _ (S1.k9 _) (cE.push _ _) s1.heap.objs.size vf eM (.tup (l:=l) (i:=0) (ms:=ms) ⟨_,cC _ rfl,rfl,rfl⟩ ⟨o,bR _ ho,hc,k,hd⟩ hn (Nat.ne_of_lt (cI ho)) ?_));exact r.mono (cE.push (D:=[]) (Z:=cF) _ _)
 .subst e
  obtain⟨t,rfl⟩:=r.str_inv;exact wpAny_pyIter_ascii (by simpa [cJ] using ha) (p2 cF _ (S1.k9 _) (cE.push _ _) s1.heap.objs.size vf eM (.str (cs:=cs) (t:=t) (i:=0) ⟨_,cC _ rfl,rfl,rfl⟩ (by simp)))
theorem vg {x:Int}(h:g6 x=true):-(2 ^ 62)<=x/\x<2 ^ 62:=by
 have:=of_decide_eq_true h;exact Uv this
theorem m8 {x y z:Int}{t u w:Tok}{tk:Nat}(hr:yw x y z=some us)(S1:St cF bq s1)(x1:cE [] Z s.heap cF s1.heap)(p1:b9 a cF s1 (.ok us bq) (KI s.heap Q) E) :
  wpAny bQ a.A (pyIter (.ref s1.heap.objs.size)) Q E {s1 with heap:=s1.heap.push {cls:=.type "range",data:=.fields #[.int x t,.int y u,.int z w]},toks:=tk}:=by
 refine di hr λhc hu=>?_;injection hu with hu;subst hu;have b:=vg hc.2.1;have b':=vg hc.2.2;have hsz:Builtin.Range.small x y z=true/\0<=Builtin.Range.rangeSize x y z:=by
  rcases hc.1 with rfl |rfl
  .exact⟨small_one b.1 b.2 b'.1 b'.2,by rw[rangeSize_one];split <;> lia⟩
  .exact⟨small_down b.1 b.2 b'.1 b'.2,by exact rl (rangeSize_downNat ..)<|Int.natCast_nonneg _⟩
 refine wpAny_pyIter_range (IsRange.new ..) hsz.1 ?_;have S2:=S1.k9 (tk:=tk) {cls:=.type "range",data:=.fields #[.int x t,.int y u,.int z w]};have x2:=x1.trans (cE.push (D:=[]) (Z:=cF) s1.heap {cls:=.type "range",data:=.fields #[.int x t,.int y u,.int z w]});refine p1 cF _ (S2.k9 _) ((cE.push _ _).trans (cE.push _ _)) _ x2.end_none S2.heap.jS (.range (x:=x) (step:=z) (k:=(Builtin.Range.rangeSize x y z).toNat) ?_ rfl);exact rl (Int.toNat_of_nonneg hsz.2)<|cC _ rfl
theorem Gn {is:List Int}{G:List Value->Prop}(e:NT is=some us)(I:IntsAre ms is)(h1 :∀b t,yw 0 b 1=some us->G [.int b t])(h2 :∀a t b u,yw a b 1=some us->G [.int a t,.int b u])(h3 :∀a t b u c w,yw a b c=some us->G [.int a t,.int b u,.int c w]):G ms:=by
 cases I with
 |nil=>injection e
 |cons b t I=>cases I with
  |nil=>exact h1 b t e
  |cons c u I=>cases I with
   |nil=>exact h2 b t c u e
   |cons d w I=>cases I with
    |nil=>exact h3 b t c u d w e
    |cons _ _ _=>injection e
theorem AX (ok:b8 n a)(S:St Z U s)(hx:a.env.scope.names.lookup (ofString "range")=some .globalImplicit)(e:nsIn W.K mainGlobals (ofString "range")=some none)(h:Q (.type "range") s):wpAny bQ a.A (eval (.Name (ofString "range") pos) a.env) Q E s:=
 gD ok S hx e boot_range (by decide) rfl h
theorem lr {es:List Expr}{np pos:Pos}{f:ME (List V)}(hs:gy n sc es f)(hp:dc pos es)
  (hx:sc.names.lookup (ofString "range")=some .globalImplicit) (e:nsIn W.K mainGlobals (ofString "range")=some none) :
  pd n sc (.Call (.Name (ofString "range") np) es [] pos) (og f):=by
 intro a ok bJ Z U fr s S F Q E p;subst bJ;refine Call_Name rfl (AX ok S hx e ?_);refine PySem.callWith_type (hp _) (c7 (hp _) (hs.bind ok rfl S F p λvs bS jn s2 ms S2 F2 x2 r2 p2=>?_));refine b9.opt p2 λus hu p3=>aT hu λis hi hr=>Gn (G:=λm=>wpAny bQ a.A (call (.type "range") m) (λx s1=>wpAny bQ a.A (pyIter x) Q E s1) E s2) hr (n0 hi r2) (λb t h=>?_) (λa t b u h=>?_) λa t b u c w h=>?_
 .exact call_range_1 (m8 h S2 x2 p3)
 .exact call_range_2 (m8 h S2 x2 p3)
 .exact call_range_3 (di h λz _=>by rcases z.1 with rfl |rfl <;> decide) (m8 h S2 x2 p3) (.inl (di h λz _=>by rcases z.1 with rfl |rfl <;> exact PyProof.noPylong_small (by decide)))
theorem kl {e1:Expr}{f:ME V}(hs:gy n sc [e1] (aS [f]))(hp:dc pos [e1])(hx:sc.names.lookup (ofString "range")=some .globalImplicit)(e:nsIn W.K mainGlobals (ofString "range")=some none) :
 pd n sc (.Call (.Name (ofString "range") np) [e1] [] pos) (iY f):=lr hs hp hx e
theorem i0 {e1 e2:Expr}{f g:ME V}(hs:gy n sc [e1,e2] (aS [f,g]))(hp:dc pos [e1,e2])(hx:sc.names.lookup (ofString "range")=some .globalImplicit)(e:nsIn W.K mainGlobals (ofString "range")=some none) :
 pd n sc (.Call (.Name (ofString "range") np) [e1,e2] [] pos) (iZ f g):=lr hs hp hx e
theorem oh {e1 e2 e3:Expr}{f g k:ME V}(hs:gy n sc [e1,e2,e3] (aS [f,g,k]))(hp:dc pos [e1,e2,e3])(hx:sc.names.lookup (ofString "range")=some .globalImplicit)(e:nsIn W.K mainGlobals (ofString "range")=some none) :
 pd n sc (.Call (.Name (ofString "range") np) [e1,e2,e3] [] pos) (jq f g k):=lr hs hp hx e
end
noncomputable def aE (fr:eY)(i:Nat)(v:V):eY:=(i,v)::fr.filter (λp=>!(p.1 == i))
theorem aV (fr:eY)(i j:Nat)(v:V) :(aE fr i v).lookup j=if j=i then some v else fr.lookup j:=by
 refine List.lookup_cons.trans ?_;by_cases h:j=i
 .simp[h]
 .simp only[beq_eq_false_iff_ne.mpr h,h,if_false]
  induction fr with
  |nil=>rfl
  |cons p fr ih=>
   refine rl List.filter_cons ?_;obtain⟨k,u⟩:=p;by_cases hk:k=i
   .subst hk;simp[List.lookup_cons,beq_eq_false_iff_ne.mpr h,ih]
   .simp only[beq_eq_false_iff_ne.mpr hk,Bool.not_false,if_true,List.lookup_cons,ih]
noncomputable def ct (f:ME Y)(k:Y->MS):MS:=λfr U=>match f fr U with
 |.ok v bB=>k v fr bB |.exc c bB=>.exc c fr bB |.stuck=>.stuck
def cn (f:ME V):MS:=ct f λv _ U=>.ret v U
def fw (t:ME Bool)(f g:MS):MS:=ct t λb=>if b then f else g
noncomputable def aL (f g:MS):MS:=λfr U=>match f fr U with |.next bC bB=>g bC bB |r=>r
noncomputable def bF:MS:=λfr U=>.next fr U
noncomputable abbrev kR:=V->eY->Option eY
def az (i:Nat):kR:=λv fr=>some (aE fr i v)
def aB (t:kR)(f:ME V):MS:=ct f λv fr U=>match t v fr with |some bC=>.next bC U |none=>.stuck
noncomputable def dJ (t:kR)(body:MS):List V->MS
 |[],fr,U=>.next fr U
 |v::vs,fr,U=>match t v fr with
  |none=>.stuck
  |some cz=>match body cz U with
   |.next cG bS=>dJ t body vs cG bS
   |.brk cG bS=>.next cG bS
   |.ret v bS=>.ret v bS
   |.exc _ _ _=>.stuck
   |.stuck=>.stuck
theorem sj {t:kR}{body:MS}:dJ t body (v::vs) fr U=match t v fr with
 |none=>.stuck
 |some cz=>match body cz U with
  |.next cG bS=>dJ t body vs cG bS
  |.brk cG bS=>.next cG bS
  |.ret v bS=>.ret v bS
  |.exc _ _ _=>.stuck
  |.stuck=>.stuck:=rfl
def df (t:kR)(it:ME (List V))(body:MS):MS:=ct it λvs=>dJ t body vs
section
noncomputable def yy (n:Nat)(sc:Scope)(kj:Expr)(t:kR):Prop:=
 ∀(a:Act),b8 n a->a.env.scope=sc->∀(Z:dW) (U:bw) (fr:eY) (s:Shared),St Z U s->FS a fr Z s.heap->∀(v:V) (mv:Value) (bC:eY),aH Z s.heap v mv->t v fr=some bC->
  ∀(Q:Unit->Shared->Prop) (E:iN),(∀s',St Z U s'->cE a.D Z s.heap Z s'.heap->FS a bC Z s'.heap->Q () s')->wpAny bQ a.A (assign kj a.env mv) Q E s
noncomputable def gG (sc:Scope)(x:Str):Bool:=sc.names.lookup x == some .local||sc.names.lookup x == some .cell
end
section
variable {D:List Addr}
theorem SameBut.get {b L:Addr}(hs:Heap.SameBut L h h')(e:h.get? b=some o)(dg:b≠L):h'.get? b=some o:=(hs.2 b dg).trans e
theorem gO.own {L:Addr}(S:gO Z U h)(hs:Heap.SameBut L h h')(hn:L∉bH Z)(hb:W.h₀.get? L=none)(hD:L∈D)(h1 :∃o,h.get? L=some o/\bI o=true)(h2 :∃o,h'.get? L=some o/\bI o=true) :
  gO Z U h'/\cE D Z h Z h':=by
 obtain⟨o0,e0,q0⟩:=h1;have hh:L∉Z.eE:=λhm=>hn (cB.mpr (.inr hm));have x:cE D Z h Z h':=cE.FP hs hD hh (λo e=>by replace e:=e0▸e;injection e with e;subst e;exact q0) h2;refine⟨gO.mk (λb o e=>SameBut.get hs (S.base b o e) λz=>by replace e:=hb▸z▸e;injection e) S.ok S.fresh (λa ha=>(let ⟨ob,e,c⟩:=S.qE a ha;⟨ob,x.held a ha ob e,c⟩)) S.nodup S.len λi o p e e'=>?_,x⟩;refine(S.objs i o p e e').mono x.jQ (λob q=>SameBut.get hs q λz=>hn (z▸eB e')) λob q qs=>⟨ob.slots,SameBut.get hs q λz=>?_⟩;replace q:=e0▸z▸q;injection q with q;subst q;replace qs:=q0▸qs;injection qs
theorem iG {x:Str}{Q:Unit->Shared->Prop}(VL:a.env.scope.kind=.function)(bJ:a.env.scope=sc)(S:St Z U s)(F:FS a fr Z s.heap)(hi:i<W.nN)(hx:W.nm i=x)(hk:sc.names.lookup x=some .local)(r:aH Z s.heap v mv)(k :∀s',St Z U s'->cE [a.env.locals] Z s.heap Z s'.heap->FS a (aE fr i v) Z s'.heap->Q () s'):wpAny bQ A (storeName a.env x mv) Q E s:=by
 subst hx;obtain⟨m,hm,hv⟩:=F.ns;have Yj:=Ns.soft hm;have Fq:a.env.kindOf (W.nm i)=some .local:=by replace hk:=(Eq.symm (bJ))▸hk;exact hk
 refine wpAny_storeName_local Fq hm (λh' QJ hs=>?_) (rl VL rfl);obtain⟨S',x'⟩:=S.heap.own (D:=[a.env.locals]) hs F.o6 F.uW (by simp) Yj (Ns.soft QJ);have lu :∀y c,(y,c)∈a.env.cells->∀u,s.heap.IsCell c u->h'.IsCell c u:=λy c hy u hc=>by
  obtain⟨o,ho,hd⟩:=hc;refine⟨o,SameBut.get hs ho λz=>?_,hd⟩;obtain⟨o2,_,_,wJ,qX,_⟩:=hm;replace ho:=wJ▸z▸ho;injection ho with ho;subst ho;replace qX:=hd▸qX;injection qX
 refine k _ (St.mk S' S.gens S.os) x' ⟨F.live.ext x',⟨_,QJ,λj u e=>?_⟩,F.o6,F.uW,λy c hy=>?_,F.apart,F.laid⟩
 .rw[aV] at e
  by_cases Js:j=i
  .subst Js
   replace e:=(aA rfl)▸e;injection e with e;subst e;refine⟨hi,?_⟩;unfold iD;exact rl Fq<|⟨mv,by simp,r.mono x'⟩
  .replace e:=(ax Js)▸e
   obtain⟨hj,rj⟩:=hv j u e;refine⟨hj,?_⟩;exact rj.map (λw e1=>(ax λz=>Js (ye _ _ hj hi z)).trans e1) (λc w e1 e2=>lu _ _ (mem_of_lookup e1) _ e2) (λw q=>q.mono x')
 .obtain⟨c1,c2,u,c3⟩:=F.cells y c hy
  exact⟨c1,c2,u,lu y c hy u c3⟩
theorem sk {x:Str}{Q:Unit->Shared->Prop}(ok:b8 n a)(bJ:a.env.scope=sc)(S:St Z U s)(F:FS a fr Z s.heap)(hi:i<W.nN)(hx:W.nm i=x)(hk:gG sc x=true)(r:aH Z s.heap v mv)(k :∀s',St Z U s'->cE a.D Z s.heap Z s'.heap->FS a (aE fr i v) Z s'.heap->Q () s'):wpAny bQ a.A (storeName a.env x mv) Q E s:=by
 subst hx;obtain⟨m,hm,hv⟩:=F.ns;have Yj:=Ns.soft hm;simp only[gG,Bool.or_eq_true,beq_iff_eq] at hk;rcases hk with hk |hk
 .exact iG ok.kind bJ S F hi rfl hk r λs' S' x' F'=>k s' S' (x'.weaken (by simp[Act.D])) F'
 .have Fq:a.env.kindOf (W.nm i)=some .cell:=by replace hk:=(Eq.symm (bJ))▸hk;exact hk
  obtain⟨c,hc⟩:=F.laid _ Fq;have Gp:=mem_of_lookup hc;obtain⟨c1,c2,u0,c3⟩:=F.cells _ _ Gp;refine wpAny_storeName_cell ok.kind Fq hc c3 λh' MD hs=>?_;obtain⟨S',x'⟩:=S.heap.own (D:=a.D) hs c1 c2 (by rw[Act.D,List.mem_cons,List.mem_map];exact .inr ⟨_,Gp,rfl⟩) (IsCell.soft c3) (IsCell.soft MD);have lu :∀y d,(y,d)∈a.env.cells->d≠c->∀u,s.heap.IsCell d u->h'.IsCell d u:=λy d hy dg u hc=>by
   obtain⟨o,ho,hd⟩:=hc;exact⟨o,SameBut.get hs ho dg,hd⟩
  have QM:h'.Ns a.env.locals m:=by
   obtain⟨o,es,ep,ho,hd,q⟩:=hm;refine⟨o,es,ep,SameBut.get hs ho λz=>?_,hd,q⟩;obtain⟨o2,wJ,qX⟩:=c3;replace ho:=wJ▸z▸ho;injection ho with ho;subst ho;replace qX:=hd▸qX;injection qX
  have other :∀y d,a.env.cells.lookup y=some d->y≠W.nm i->d≠c:=by
   intro y d hy dg z;subst z;have h1:=mem_of_lookup hy;obtain⟨p1,e1⟩:=List.mem_iff_getElem.mp h1;obtain⟨p2,e2⟩:=List.mem_iff_getElem.mp Gp;obtain⟨l1,e1⟩:=e1;obtain⟨l2,e2⟩:=e2;have ap:=List.pairwise_iff_getElem.mp F.apart;rcases Nat.lt_trichotomy p1 p2 with eO |heq |eO
   .have:=ap p1 p2 l1 l2 eO;replace this:=e2▸e1▸this;exact this rfl
   .subst heq;replace e2:=e1▸e2;exact dg (aR Prod.fst e2)
   .have:=ap p2 p1 l2 l1 eO;replace this:=e2▸e1▸this;exact this rfl
  refine k _ (St.mk S' S.gens S.os) x' ⟨F.live.ext x',⟨_,QM,λj u e=>?_⟩,F.o6,F.uW,λy d hy=>?_,F.apart,F.laid⟩
  .rw[aV] at e
   by_cases Js:j=i
   .subst Js
    replace e:=(aA rfl)▸e;injection e with e;subst e;refine⟨hi,?_⟩;unfold iD;exact rl Fq<|⟨c,mv,hc,MD,r.mono x'⟩
   .replace e:=(ax Js)▸e
    obtain⟨hj,rj⟩:=hv j u e;refine⟨hj,?_⟩;have dg:W.nm j≠W.nm i:=λz=>Js (ye _ _ hj hi z);exact rj.map (λ_ e1=>e1) (λd w e1 e2=>lu _ _ (mem_of_lookup e1) (other _ _ e1 dg) _ e2) (λw q=>q.mono x')
  .obtain⟨d1,d2,u,d3⟩:=F.cells y d hy
   by_cases Yk:d=c
   .subst Yk;exact⟨d1,d2,_,MD⟩
   .exact⟨d1,d2,u,lu y d hy Yk u d3⟩
theorem dA {x:Str}(hi:i<W.nN)(hx:W.nm i=x)(hk:gG sc x=true):yy n sc (.Name x pos) (az i):=by
 intro a ok bJ Z U fr s S F v mv bC r e Q E k;injection e with e;subst e;exact wpAny_assign_Name (sk ok bJ S F hi hx hk r k)
theorem cm.i9 {e:Expr}{f:ME V}(hE:cm n sc e f)(ok:b8 n a)(bJ:a.env.scope=sc)(S:St Z U s)(F:FS a fr Z s.heap){k:V->MS}(p:fO a Z s (ct f k fr U) QF E)(h :∀v bq cF s1 mv,St cF bq s1->FS a fr cF s1.heap->cE [] Z s.heap cF s1.heap->aH cF s1.heap v mv->fO a cF s1 (k v fr bq) QF E->Q mv s1) :
  wpAny bQ a.A (eval e a.env) Q E s:=by
 unfold ct at p;refine hE a ok bJ Z U fr s S F Q E ?_
 cases hf:f fr U with
 |ok v bq=>replace p:=hf▸p;exact λcF s1 S1 x1 mv r1=>h v bq cF s1 mv S1 (F.ext x1) x1 r1 (fO.step x1.of0 p)
 |exc c bq=>replace p:=hf▸p;exact λbK s' e B Ak x=>p bK s' e B (.inl Ak) x.of0 (F.ext (x.ext (Ak.elim (·.2.2.1) (·.2.2.1))))
 |stuck=>replace p:=hf▸p;exact p
theorem jo.i9 {e:Expr}{f:ME Bool}(hE:jo n sc e f)(ok:b8 n a)(bJ:a.env.scope=sc)(S:St Z U s)(F:FS a fr Z s.heap){k:Bool->MS}{Q:Bool->Shared->Prop}(p:fO a Z s (ct f k fr U) QF E)(h :∀v bq cF s1,St cF bq s1->FS a fr cF s1.heap->cE [] Z s.heap cF s1.heap->fO a cF s1 (k v fr bq) QF E->Q v s1) :
  wpAny bQ a.A (isTrue e a.env (eval e a.env)) Q E s:=by
 unfold ct at p;refine hE a ok bJ Z U fr s S F Q E ?_
 cases hf:f fr U with
 |ok v bq=>replace p:=hf▸p;exact λcF s1 S1 x1=>h v bq cF s1 S1 (F.ext x1) x1 (fO.step x1.of0 p)
 |exc c bq=>replace p:=hf▸p;exact λbK s' e B Ak x=>p bK s' e B (.inl Ak) x.of0 (F.ext (x.ext (Ak.elim (·.2.2.1) (·.2.2.1))))
 |stuck=>replace p:=hf▸p;exact p
theorem pd.i9 {e:Expr}{f:ME (List V)}(hE:pd n sc e f)(ok:b8 n a)(bJ:a.env.scope=sc)(S:St Z U s)(F:FS a fr Z s.heap){k:List V->MS}(p:fO a Z s (ct f k fr U) QF E)(h :∀vs bq cF s1 it,St cF bq s1->FS a fr cF s1.heap->cE [] Z s.heap cF s1.heap->s.heap.get? it=none->it∉bH cF->de cF s1.heap it vs->fO a Z s (k vs fr bq) QF E->Q (.ref it) s1) :
  wpAny bQ a.A (eval e a.env) (λx s1=>wpAny bQ a.A (pyIter x) Q E s1) E s:=by
 unfold ct at p;refine hE a ok bJ Z U fr s S F Q E ?_
 cases hf:f fr U with
 |ok v bq=>replace p:=hf▸p;exact λcF s1 S1 x1 it h0 hn hI=>h v bq cF s1 it S1 (F.ext x1) x1 h0 hn hI p
 |exc c bq=>replace p:=hf▸p;exact λbK s' e B Ak x=>p bK s' e B (.inl Ak) x.of0 (F.ext (x.ext (Ak.elim (·.2.2.1) (·.2.2.1))))
 |stuck=>replace p:=hf▸p;exact p
theorem bg:cb n sc [] bF:=by
 intro a ok bJ Z U fr s S F Q E p;exact wpAny_execs_nil (p Z s S (.refl ..) F)
theorem ak {st:Stmt}{NU:List Stmt}{f g:MS}(hf:jT n sc st f)(hg:cb n sc NU g):cb n sc (st::NU) (aL f g):=by
 intro a ok bJ Z U fr s S F Q E p;unfold aL at p;refine wpAny_execs_cons (hf a ok bJ Z U fr s S F _ E ?_)
 cases hr:f fr U with
 |next bC bB=>replace p:=hr▸p;exact λcF s1 S1 x1 F1=>hg a ok bJ cF bB bC s1 S1 F1 Q E (fO.step x1 p)
 |brk bC bB=>replace p:=hr▸p;exact p
 |ret v bB=>replace p:=hr▸p;exact p
 |exc c bC bB=>replace p:=hr▸p;exact p
 |stuck=>replace p:=hr▸p;exact p
theorem ar {st:Stmt}{f:MS}(hf:jT n sc st f):cb n sc [st] f:=by
 intro a ok bJ Z U fr s S F Q E p;refine wpAny_execs_cons (hf a ok bJ Z U fr s S F _ E ?_)
 cases hr:f fr U with
 |next bC bB=>replace p:=hr▸p;exact λcF s1 S1 x1 F1=>wpAny_execs_nil (p cF s1 S1 x1 F1)
 |brk bC bB=>replace p:=hr▸p;exact p
 |ret v bB=>replace p:=hr▸p;exact p
 |exc c bC bB=>replace p:=hr▸p;exact p
 |stuck=>replace p:=hr▸p;exact p
theorem bz {t:Expr}{b o:List Stmt}{f g:MS}(ht:jo n sc t ft)(hb:cb n sc b f)(ho:cb n sc o g):jT n sc (.If t b o pos) (fw ft f g):=by
 intro a ok bJ Z U fr s S F Q E p;refine wpAny_If (ht.i9 ok bJ S F p λv bq cF s1 S1 F1 x1 p1=>?_)
 cases v with
 |true=>exact hb a ok bJ cF bq fr s1 S1 F1 Q E p1
 |false=>exact ho a ok bJ cF bq fr s1 S1 F1 Q E p1
theorem aP {e:Expr}{f:ME V}(hf:cm n sc e f):jT n sc (.Return (some e) pos) (cn f):=by
 intro a ok bJ Z U fr s S F Q E p;exact wpAny_Return_some (hf.i9 ok bJ S F p λv bq cF s1 mv S1 F1 x1 r1 p1=>p1 cF s1 mv S1 (.refl ..) r1)
theorem aN {x:Str}{e:Expr}{f:ME V}(hf:cm n sc e f)(hi:i<W.nN)(hx:W.nm i=x)(hk:gG sc x=true)(hs :∀env:Env,swapsWith e (some (.Name x tp)) pos.line env=pure false):jT n sc (.Assign [.Name x tp] e pos) (aB (az i) f):=by
 intro a ok bJ Z U fr s S F Q E p;refine wpAny_Assign_Name (hf.i9 ok bJ S F p λv bq cF s1 mv S1 F1 x1 r1 p1=>?_) (hs _);exact sk ok bJ S1 F1 hi hx hk r1 λs' S' x' F'=>p1 cF s' S' x' F'
end
set_option tactic.hygienic true
section
theorem sr {name:Str}{v:Value}{ks:List (Str×Value)}(d:o.IsDictOf (strKind W.prog W.w) ks) :
  (Obj.putName name (hashStr W.w name) (.str name tk) v o).IsDictOf (strKind W.prog W.w) (stored ks name v)/\bI (Obj.putName name (hashStr W.w name) (.str name tk) v o)=true/\
   (∃es n,(Obj.putName name (hashStr W.w name) (.str name tk) v o).data=.dict es n/\es.size<=ks.length+1):=by
 obtain⟨es,ep,hc,hd,hk,hp,hn⟩:=d;obtain⟨c,dd,dt,sl⟩:=o;simp only at hd;subst hd;refine rl Obj.putName_eq ?_;have yt :(strKind W.prog W.w).is name (.str name tk)=true:=strKind_is _ _ _ _;have VM :(λe:DictEntry=>e.key.isStr name)=λe=>(strKind W.prog W.w).is name e.key:=by
  funext e
  cases e.key <;> rfl
 have NV :(es.findIdx? λe=>(strKind W.prog W.w).is name e.key)=ks.findIdx? λkv=>decide (kv.1=name):=by
  refine rr (hp.findIdx name) ?_;obtain⟨l⟩:=es;simp
 have hlen:es.size=ks.length:=by have:=hp.length;simpa using this
 unfold Obj.putNameByArray;simp only;refine rl VM ?_
 cases hi:es.findIdx? λe=>(strKind W.prog W.w).is name e.key with
 |some i=>
  refine⟨⟨_,_,hc,rfl,hk.modify _ _,?_,?_⟩,rfl,_,_,rfl,by simp[hlen]⟩
  .rw[stored,aA (any_of_findIdx_some (NV▸hi))]
   have hl :(es.toList.findIdx? λe=>(strKind W.prog W.w).is name e.key)=some i:=by refine rr hi ?_;obtain⟨l⟩:=es;simp
   have:=hp.modify hn hl v;obtain⟨l⟩:=es
   simpa using this
  .rw[stored,aA (any_of_findIdx_some (NV▸hi)),keys_map_store];exact hn
 |none=>
  have AM:name∉ks.map (·.1):=not_mem_of_findIdx_none (NV▸hi);have QN :¬(ks.any λkv=>decide (kv.1=name))=true:=by
   rw[List.any_eq_true];rintro⟨kv,Ta,he⟩;exact AM (List.mem_map.mpr ⟨kv,Ta,of_decide_eq_true he⟩)
  refine⟨⟨_,_,hc,rfl,hk.push yt _,?_,?_⟩,rfl,_,_,rfl,by simp[hlen]⟩
  .rw[stored,ax QN]
   have:=hp.append yt (hashStr W.w name) v;obtain⟨l⟩:=es
   simpa using this
  .rw[stored,ax QN,List.map_append,List.nodup_append]
   refine⟨hn,by simp,?_⟩;intro a ha b hb;rw[List.map_cons,List.map_nil,List.mem_singleton] at hb;subst hb;exact λe=>AM (e▸ha)
theorem AY {ks:List (Str×Value)}(d:o.IsDictOf (strKind W.prog W.w) ks){P:Prop}(k :∀es ep,o.data=.dict es ep->es.any (·.refKey)=false->P):P:=by
 obtain⟨es,ep,hx,hd,hk,hp,hn⟩:=d;refine k es ep hd ?_;rw[<- Array.any_toList,List.any_eq_false];intro e he;obtain⟨k,h1,_⟩:=hk e (Array.mem_toList_iff.mp he);obtain⟨t,e1⟩:=Value.isStrOf_shape h1;simp[DictEntry.refKey,e1]
theorem Kc {x C dx:Addr}{od:Obj}{sl:Array (Option Value)}{name:Str}{v:Value}{ks:List (Str×Value)}(X:W.K.In s.heap)(hx:s.heap.get? x=some ⟨.ref C,some dx,.plain,sl⟩)(Cx:s.heap.get? dx=some od)(d:od.IsDictOf (strKind W.prog W.w) ks)(hp:plainOver W.K C=true)(ht:takerIn W.K C name=some none)(hh:hasDictIn W.K C=true)(hz:ks.length<=1000)(h :∀h' VN,h'.get? dx=some VN->VN.IsDictOf (strKind W.prog W.w) (stored ks name v)->Heap.SameBut dx s.heap h'->R (.ok (.ret .none)) {s with heap:=h',toks:=s.toks+1}) :
  codeAny bQ A (.call (.builtin "object.__setattr__") ⟨[.ref x,.str name tk,v],[]⟩) R s:=by
 have I:InstAt s.heap x ⟨.ref C,some dx,.plain,sl⟩ C (some od):=⟨hx,rfl,rfl,Cx⟩;refine osa_open X I hp ht λb=>?_;obtain⟨cd,hc,Kd⟩:=any_some hh;refine wb (av (wb (wb (wpAny_loadPart hx (aY ((looks_clsIn X hc).here ?_))))));refine rl Kd<|av (a:=some dx) (wb (av (wb ?_)))
 refine wb (wb (wpAny_askSetting (av (wb (wpAny_mkText (aY (wpAny_loadPart Cx ?_)))))));obtain⟨d',_,MF,n',e',PM⟩:=sr (name:=name) (tk:=s.toks) (v:=v) d;refine AY d λMG JN q hr=>?_;refine rl q ?_;dsimp only;have c :(!MG.any (·.key.isStr name)&&MG.any (·.refKey))=false:=by exact rl hr<|rl (Bool.and_false ..) rfl
 refine rl (aRefKeyMayBeTheName_at ..)<|rl c ?_
 have g' :(s.heap.update dx (Obj.putName name (hashStr W.w name) (.str name s.toks) v)).get? dx=some (Obj.putName name (hashStr W.w name) (.str name s.toks) v od):=
  Heap.get?_update_self _ Cx (Obj.isFreed_of_dict e')
 refine wpAny_updatePart Cx ?_;refine wb (wpAny_lookBehind g' (by exact rl e'<|pastItsLine_dict (by refine rl sizeLine_eq ?_;exact q95 ‹_› ‹_› (by rfl))) ?_)
 exact av (h _ _ g' d' (dP ..))
end
noncomputable def Cy (fs:List (Nat×V))(x:Nat)(v:V):List (Nat×V):=if fs.any (λp=>p.1 == x) then fs.map (λp=>if p.1 == x then (p.1,v) else p) else fs++[(x,v)]
structure AZ (c:Nat):Prop where
 set:findIn W.K (.ref (W.cls c)) "__setattr__" = some (some (.builtin "object.__setattr__"))
 plain:plainOver W.K (W.cls c)=true
 dict:hasDictIn W.K (W.cls c)=true
def oj (c x:Nat)(v u:V)(U:bw):Option bw:=(ij U c v).bind λp=>if decide (p.2.length<=1000) then some (U.set p.1 (.inst c (Cy p.2 x u))) else .none
def cU (c x:Nat)(fo fv:ME V):MS:=ct fv λu=>ct fo λo fr U=>match oj c x o u U with |some bB=>.next fr bB |none=>.stuck
def g7 (o i u:V)(U:bw):Option bw:=match o with
 |.ref j=>match U[j]? with
  |some (.dict kd ay)=>if fu kd i&&cD ay.length then some (U.set j (.dict kd (hV ay i u))) else .none
  |some (.list vs)=>match i with
   |.int k=>if decide (0<=k)&&decide (k<vs.length)&&cD vs.length then some (U.set j (.list (vs.set k.toNat u))) else .none
   |_=>.none
  |_=>.none
 |_=>.none
def eR (fo fi fv:ME V):MS:=ct fv λu=>ct fo λo=>ct fi λi fr U=>match g7 o i u U with |some bB=>.next fr bB |none=>.stuck
section
variable {D:List Addr}
theorem d8.aE {fs:List (Nat×V)}{ks:List (Str×Value)}{x:Nat}(hx:x<W.nN)(al:d8 (λkv km=>(kv.1<W.nN/\km.1=W.nm kv.1)/\aH Z h kv.2 km.2) fs ks)(r:aH Z h v m) :
  d8 (λkv km=>(kv.1<W.nN/\km.1=W.nm kv.1)/\aH Z h kv.2 km.2) (Cy fs x v) (stored ks (W.nm x) m):=by
 have key :∀(kv:Nat×V) (km:Str×Value),((kv.1<W.nN/\km.1=W.nm kv.1)/\aH Z h kv.2 km.2)->(kv.1 == x)=decide (km.1=W.nm x):=by
  intro kv km q;refine rl q.1.2 ?_;by_cases hk:kv.1=x
  .refine rl hk ?_;simp
  .have:W.nm kv.1≠W.nm x:=λz=>hk (ye _ _ q.1.1 hx z)
   simp[hk,this]
 have ha:fs.any (λp=>p.1 == x)=ks.any (λkm=>decide (km.1=W.nm x)):=by
  induction al with
  |nil=>rfl
  |cons r _ ih=>simp only[List.any_cons,ih,key _ _ r]
 unfold Cy stored;refine rl ha ?_;by_cases hb:ks.any (λkm=>decide (km.1=W.nm x))=true
 .refine rl (aA hb)<|rl (aA hb) ?_
  clear ha hb
  induction al with
  |nil=>exact .nil
  |@cons kv km as bs q _ ih=>
   simp only[List.map_cons];refine .cons ?_ ih;refine rl (key _ _ q) ?_;by_cases hq:km.1=W.nm x
   .simp only[hq,decide_true,if_true];exact⟨⟨q.1.1,by refine(Eq.symm (hq)).trans ?_;exact q.1.2⟩,r⟩
   .simp only[hq,decide_false,if_false];exact q
 .exact rl (ax hb)<|rl (ax hb)<|al.append (.cons ⟨⟨hx,rfl⟩,r⟩ .nil)
theorem A0 {x:Nat}{o:V}{mo:Value}{Q:Unit->Shared->Prop}(hc:AZ c)(hx:x<W.nN)(ht:takerIn W.K (W.cls c) (W.nm x)=some none)(S:St Z U s)(ro:aH Z s.heap o mo)(ru:aH Z s.heap u mu)(e:oj c x o u U=some bB)(k :∀s',St Z bB s'->cE [] Z s.heap Z s'.heap->Q () s'):wpAny bQ a.A (setAttr mo (W.nm x) mu) Q E s:=by
 unfold oj at e
 cases F8:ij U c o with
 |none=>rw[F8] at e;injection e
 |some q=>
  obtain⟨j,fs⟩:=q;rw[F8,Option.bind_some] at e
  split at e
  .rename_i hz
   injection e with e;subst e;have hz:=of_decide_eq_true hz;obtain⟨pp,rfl,hp,uj,rfl,sl,od,ks,g1,g2,d,al⟩:=wL S.heap ro F8;have I:InstAt s.heap pp.1 ⟨.ref (W.cls c),some pp.2,.plain,sl⟩ (W.cls c) (some od):=⟨g1,rfl,rfl,g2⟩;have X:=S.heap.ok.X.keeps S.heap.base;refine set_plain X I hc.set (Kc (s:={s with toks:=s.toks+1}) X g1 g2 d hc.plain ht hc.dict (rr al.length<|hz) λh' VN g' d' hs=>?_)
   have x0:cE [] Z s.heap Z h':=cE.sameBut hs (eB hp) (S.heap.gL hp) ⟨_,g'⟩;have dg:pp.1≠pp.2:=λz=>by
    rw[z,g2] at g1;injection g1 with g1;subst g1;obtain⟨_,_,_,hd,_⟩:=d;injection hd
   obtain⟨S',x'⟩:=S.DM (tk:=s.toks+1+1) (o':=.inst c (Cy fs x u)) hp hs ⟨⟨sl,SameBut.get hs g1 dg⟩,_,Heap.dictOf_iff.mpr ⟨_,g',d'⟩,
    d8.aE hx (al.mono λ_ _ q=>⟨q.1,q.2.mono x0⟩) (ru.mono x0)⟩
   exact k _ S' x'
  .injection e
theorem yz {o:Expr}{x:Str}{ap:Pos}{v:Value}{Q:Flow->Shared->Prop}(h:wpAny M A (eval o env) (λov s2=>wpAny M A (PySem.setAttr ov x v) (λ_=>Q .next) E s2) E s) :
  wpAny M A (assignAll v ((assignEach [.Attribute o x ap] env).map (·.2))) (λ_=>Q .next) E s:=by
 show wpAny M A (assign (.Attribute o x ap) env v) (λ_=>Q .next) E s;refine rl (arm_assign_Attribute ..)<|wb (cP (cA h (λov s2 h2=>wb (wpAny_standAt (wb (cP (cA h2 (λ_ s3 h3=>wpAny_release h3) λ_ _ x=>x))))) λ_ _ x=>x))
theorem bG {o e:Expr}{x:Str}{ap:Pos}{fo fv:ME V}(ho:cm n sc o fo)(hv:cm n sc e fv)(hc:AZ c)(hi:i<W.nN)(hx:W.nm i=x)(ht:takerIn W.K (W.cls c) x=some none)(hs :∀env:Env,swapsWithSole [.Attribute o x ap] e pos.line env=pure false)(hw :∀env:Env,swappedStores [.Attribute o x ap] e env=pure none) :
  jT n sc (.Assign [.Attribute o x ap] e pos) (cU c i fo fv):=by
 intro a ok bJ Z U fr s S F Q E p;subst hx;refine wpAny_Assign_stores (hv.i9 ok bJ S F p λu bq cF s1 mu S1 F1 x1 r1 p1=>?_) (hs _) (hw _);refine yz (ho.i9 ok bJ S1 F1 p1 λv bS jn s2 mv S2 F2 x2 r2 p2=>?_)
 cases hm:oj c i v u bS with
 |none=>rw[hm] at p2;exact p2.elim
 |some bB=>
  rw[hm] at p2;exact A0 hc hi ht S2 r2 (r1.mono x2) hm λs' S' x'=>p2 jn s' S' x'.of0 (F2.ext x')
theorem m9 {l:Addr}{items:Array Value}{k:Int}{t:Tok}{v:Value}{Q:Unit->Shared->Prop}(ho:s.heap.get? l=some ⟨.type "list",none,.seq items n,#[]⟩)(h0:0<=k)(QO:k<2 ^ 63)(hn:k<items.size)(hQ:Q () {s with heap:=s.heap.update l (Obj.mapSeq (·.setIfInBounds k.toNat v))}) :
  wpAny (model prog w) A (setItem (.ref l) (.int k t) v) Q E s:=by
 have hl:s.heap.IsList l items:=⟨_,ho,rfl,n,rfl⟩;unfold setItem
 try with_reducible refine cP ?_
 first |refine wb (av ?_) |skip
 refine wb (wpAny_sequenceKey hl.typeIs (by decide) ?_);refine wb (wpAny_callSpecial?_slot (name:=Str.ofString "__setitem__") hl.typeIs slot_list_setitem
  (fF slot_list_setitem hl.typeIs entry_list_setitem ?_ (args_list_setitem _ _ _)))
 refine(?_:wpAny _ _ (Builtin.List.listSubscript? (.int k t) >>= _) _ _ s);refine wb (wpAny_listSubscript_int (fitsIndex_of h0 QO) ?_);clear QO;obtain⟨j,rfl⟩:=Int.eq_ofNat_of_zero_le h0;have hj:j<items.size:=by exact Int.ofNat_lt.mp hn
 have Ke:items[j]? = some items[j]:=Array.getElem?_eq_getElem hj;refine wb (wb (wpAny_seqItemAt ho rfl (av ?_)));refine rl Ke<|wb (wpAny_setSeqItemAt ho rfl ?_)
 first
  |exact wb (av (av ⟨.none,rfl,av hQ⟩))
  |exact av ⟨.none,rfl,av hQ⟩
theorem aD.set (r:aD Z h vs ms)(j:Nat)(rv:aH Z h v m):aD Z h (vs.set j v) (ms.set j m):=by
 induction j generalizing vs ms with
 |zero=>cases r with
  |nil=>exact .nil
  |cons a b=>exact .cons rv b
 |succ j ih=>cases r with
  |nil=>exact .nil
  |cons a b=>exact .cons a (ih b)
theorem A1 {o i:V}{mo:Value}{Q:Unit->Shared->Prop}(ok:b8 n a)(S:St Z U s)(ro:aH Z s.heap o mo)(ri:aH Z s.heap i mi)(ru:aH Z s.heap u mu)(e:g7 o i u U=some bB)(k :∀s',St Z bB s'->cE [] Z s.heap Z s'.heap->Q () s'):wpAny bQ a.A (setItem mo mi mu) Q E s:=by
 unfold g7 at e
 cases o with
 |ref j=>
  obtain⟨p,hp,rfl⟩:=ro.fm;dsimp only at e
  cases uj:U[j]? with
  |none=>rw[uj] at e;injection e
  |some ob=>
  rw[uj] at e
  cases ob with
  |dict kd ay=>
   refine di e λhz e=>?_;injection e with e;subst e;rw[Bool.and_eq_true] at hz;exact Gd (by have:=ok.units;exact yc this) S uj hp ri ru hz.1 hz.2 λs' _ S' x'=>k s' S' x'
  |list vs=>
   cases i with
   |int kk=>
    refine di e λhz e=>?_;injection e with e;subst e;simp only[Bool.and_eq_true,decide_eq_true_eq] at hz
    cases ri;obtain⟨e1,ms,n,g,q⟩:=S.heap.objs _ _ _ uj hp;have hsz:vs.length=ms.size:=by refine q.length.trans ?_;simp
    have:=of_decide_eq_true hz.2;refine rl e1<|m9 g hz.1.1 (by lia) (rr hsz<|hz.1.2) ?_
    obtain⟨S',x'⟩:=n6 (tk:=s.toks) (g:=λxs=>xs.setIfInBounds kk.toNat mu) (ws:=vs.set kk.toNat u) S hp e1 g (rl Array.toList_setIfInBounds<|aD.set q _ ru)
    exact k _ S' x'
   |_=>injection e
  |_=>injection e
 |_=>injection e
theorem fc {o i e:Expr}{fo fi fv:ME V}(ho:cm n sc o fo)(hi:cm n sc i fi)(hv:cm n sc e fv)(hs :∀env:Env,swapsWith e (some (.Subscript o i tp)) pos.line env=pure false):jT n sc (.Assign [.Subscript o i tp] e pos) (eR fo fi fv):=by
 intro a ok bJ Z U fr s S F Q E p;refine wpAny_Assign_Subscript (hv.i9 ok bJ S F p λu bq cF s1 mu S1 F1 x1 r1 p1=>?_) (hs _);refine ho.i9 ok bJ S1 F1 p1 λv bS jn s2 mv S2 F2 x2 r2 p2=>?_;refine hi.i9 ok bJ S2 F2 p2 λw qF qG s3 mw S3 F3 x3 r3 p3=>?_
 cases hm:g7 v w u qF with
 |none=>rw[hm] at p3;exact p3.elim
 |some bB=>
  rw[hm] at p3;exact A1 ok S3 (r2.mono x3) r3 (r1.mono (x2.trans x3)) hm λs' S' x'=>p3 qG s' S' x'.of0 (F3.ext x')
end
set_option tactic.hygienic false
noncomputable def V.isRef:V->Bool
 |.ref _=>true |.tup _=>true |.list _=>true |_=>false
def bM (f:ME V):MS:=ct f λv fr U=>if v.isRef then .stuck else .next fr U
noncomputable def su (t:ME Bool)(body:MS):Nat->MS
 |0,_,_=>.stuck
 |k+1,fr,U=>match t fr U with
  |.ok true bq=>(match body fr bq with
   |.next cG bS=>su t body k cG bS
   |.brk cG bS=>.next cG bS
   |.ret v bS=>.ret v bS
   |.exc _ _ _=>.stuck
   |.stuck=>.stuck)
  |.ok false bq=>.next fr bq
  |.exc _ _=>.stuck
  |.stuck=>.stuck
theorem yA {t:ME Bool}{body:MS}:su t body (k+1) fr U=match t fr U with
 |.ok true bq=>(match body fr bq with
  |.next cG bS=>su t body k cG bS
  |.brk cG bS=>.next cG bS
  |.ret v bS=>.ret v bS
  |.exc _ _ _=>.stuck
  |.stuck=>.stuck)
 |.ok false bq=>.next fr bq
 |.exc _ _=>.stuck
 |.stuck=>.stuck:=rfl
def A2 (k:Nat)(t:ME Bool)(body:MS):MS:=su t body k
def cO (t:kR)(f:ME V):MS:=ct f λv fr U=>match t v fr with |some bC=>.next bC U |none=>.stuck
section
variable {D:List Addr}
theorem vh (ok:b8 n a):interactive a.env=false:=by unfold interactive;exact rl ok.kind rfl
theorem bE {e:Expr}{f:ME V}(hf:cm n sc e f)(hs :∀env:Env,swapsWith e none pos.line env=pure false):jT n sc (.Expr e pos) (bM f):=by
 intro a ok bJ Z U fr s S F Q E p;refine wpAny_Expr (hf.i9 ok bJ S F p λv bq cF s1 mv S1 F1 x1 r1 p1=>?_) (vh ok) (hs _);by_cases hr:v.isRef=true
 .rw[aA hr] at p1;exact p1.elim
 .rw[ax hr] at p1
  have:=p1 cF s1 S1 (.refl ..) F1
  cases r1 <;> first |exact this |exact(hr rfl).elim
theorem Cz {kj:Expr}{t:kR}(ht:yy n sc kj t)(hb:cb n sc body fb)(ok:b8 n a)(bJ:a.env.scope=sc)(S:St Z U s)(F:FS a fr Z s.heap)(x:cE a.D mX s0.heap Z s.heap)(rv:aH Z s.heap v mv){Q:Flow->Shared->Prop}(hR :∀f s',Q f s'->R (.ok f) s'){I:Nat->Shared->Prop}{E':iN}(p:fO a mX s0 (dJ t fb (v::vs) fr U) Q E)(again :∀cG bS qG s3,St qG bS s3->FS a cG qG s3.heap->cE a.D Z s.heap qG s3.heap->fO a mX s0 (dJ t fb vs cG bS) Q E->∃m,m<k/\I m s3) :
  wpAny bQ a.A (PySem.assign kj a.env mv) (λ_ yB=>wpAny bQ a.A (execs body a.env) (λf pn=>match f with
   |.next |.cont=>∃m,m<k/\I m pn
   |.brk=>R (.ok .next) pn
   |.ret v=>R (.ok (.ret v)) pn) E' yB) E' s:=by
 rw[sj] at p
 cases hf:t v fr with
 |none=>rw[hf] at p;exact p.elim
 |some cz=>
  rw[hf] at p;refine ht a ok bJ Z U fr _ S F v mv cz rv hf _ _ λs2 S2 x2 F2=>hb a ok bJ Z U cz s2 S2 F2 _ _ ?_;dsimp only at p
  cases hr:fb cz U with
  |next cG bS=>rw[hr] at p;exact λqG s3 S3 x3 F3=>again cG bS qG s3 S3 F3 (x2.trans x3) p
  |brk cG bS=>rw[hr] at p;exact λqG s3 S3 x3 F3=>hR _ _ (p qG s3 S3 ((x.trans x2).trans x3) F3)
  |ret v bS=>rw[hr] at p;exact λqG s3 mv S3 x3 r3=>hR _ _ (p qG s3 mv S3 ((x.trans x2).trans x3) r3)
  |exc c cG bS=>rw[hr] at p;exact p.elim
  |stuck=>rw[hr] at p;exact p.elim
inductive MH (a:Act)(it:Addr)(t:kR)(fb:MS)(s0:Shared)(mX:dW)(Q:Flow->Shared->Prop)(E:iN)(k:Nat)(s:Shared):Prop
 |mk (vs:List V) (fr:eY) (U:bw) (Z:dW):k=vs.length->St Z U s->FS a fr Z s.heap->cE a.D mX s0.heap Z s.heap->it∉bH Z->de Z s.heap it vs->fO a mX s0 (dJ t fb vs fr U) Q E->MH a it t fb s0 mX Q E k s
theorem Kf {kj:Expr}{t:kR}(ht:yy n sc kj t)(hb:cb n sc body fb)(ok:b8 n a)(bJ:a.env.scope=sc)(it:Addr)(s0:Shared)(mX:dW)(QP:s0.heap.get? it=none)(mJ:W.h₀.get? it=none){Q:Flow->Shared->Prop}(hR :∀f s',Q f s'->R (.ok f) s'){wz:List V}(S1:St cF xT s1)(F1:FS a Fp cF s1.heap)(x1:cE a.D mX s0.heap cF s1.heap)(A3:it∉bH cF)(I1:de cF s1.heap it wz)(p:fO a mX s0 (dJ t fb wz Fp xT) Q E) :
  codeAny bQ a.A (.forLoop kj (.ref it) body [] a.env) R s1:=by
 refine codeAny_forLoop_any (MH a it t fb s0 mX Q E) ?_ wz.length ⟨wz,Fp,xT,cF,rfl,S1,F1,x1,A3,I1,p⟩;rintro k s ⟨vs,fr,U,Z,rfl,S,F,x,hn,I,p⟩
 cases vs with
 |nil=>
  exact sg ok.hand I λh' sd=>wpAny_execs_nil (hR _ _ (p Z _ (S.side (tk:=s.toks) sd mJ) (x.side (λb o dg e=>sd.same b o dg e) QP) (F.side sd)))
 |cons v vs=>
  refine pk I λh' tk mv I' sd rv=>?_;have x':cE a.D mX s0.heap Z h':=x.side (λb o dg e=>sd.same b o dg e) QP;obtain⟨oi,QQ,_⟩:=I'.fields;exact I'.lets (Cz ht hb ok bJ (S.side (tk:=tk) sd mJ) (F.side sd) x' rv hR p λcG bS qG s3 S3 F3 x3 p=>⟨vs.length,Nat.lt_succ_self _,vs,cG,bS,qG,rfl,S3,F3,x'.trans x3,x3.eM QQ hn,I'.ext hn x3,p⟩)
theorem cM {kj it:Expr}{t:kR}(ht:yy n sc kj t)(hi:pd n sc it fi)(hb:cb n sc body fb)(hs :∀(env:Env) x,foldedSetIterable it env x=pure x):jT n sc (.For kj it body [] pos) (df t fi fb):=by
 intro a ok bJ Z U fr s S F Q E p;refine wpAny_For (hi.i9 ok bJ S F p λvs bq cF s1 VO S1 F1 x1 h0 hn I p1=>?_) (hs _);have mJ:W.h₀.get? VO=none:=by
  cases z:W.h₀.get? VO with
  |none=>rfl
  |some o=>have:=S.heap.base _ _ z;replace this:=h0.symm.trans this;injection this
 exact Kf ht hb ok bJ VO s Z h0 mJ (λf s' h=>h) S1 F1 x1.of0 hn I p1
inductive CA (a:Act)(ft:ME Bool)(fb:MS)(s0:Shared)(mX:dW)(Q:Flow->Shared->Prop)(E:iN)(k:Nat)(s:Shared):Prop
 |mk (fr:eY) (U:bw) (Z:dW):St Z U s->FS a fr Z s.heap->cE a.D mX s0.heap Z s.heap->fO a mX s0 (su ft fb k fr U) Q E->CA a ft fb s0 mX Q E k s
theorem om {t:Expr}(k:Nat)(ht:jo n sc t ft)(hb:cb n sc body fb):jT n sc (.While t body [] pos) (A2 k ft fb):=by
 intro a ok bJ mX xT Fp s0 S0 F0 Q E p;refine wpAny_While (codeAny_whileLoop (CA a ft fb s0 mX Q E) ?_ k ⟨Fp,xT,mX,S0,F0,.refl ..,p⟩);rintro k s ⟨fr,U,Z,S,F,x,p⟩
 cases k with
 |zero=>exact p.elim
 |succ k=>
  rw[yA] at p;refine ht a ok bJ Z U fr s S F _ _ ?_
  cases hf:ft fr U with
  |exc c bq=>rw[hf] at p;exact p.elim
  |stuck=>rw[hf] at p;exact p.elim
  |ok b bq=>
   rw[hf] at p;intro cF s1 S1 x1;have F1:=F.ext x1;have Tb:=x.trans (x1.of0 (D:=a.D));clear S F x x1 hf
   cases b with
   |false=>exact wpAny_execs_nil (p cF s1 S1 Tb F1)
   |true=>
    refine hb a ok bJ cF bq fr s1 S1 F1 _ _ ?_;dsimp only at p
    cases hr:fb fr bq with
    |next cG bS=>rw[hr] at p;exact λqG s3 S3 x3 F3=>⟨k,Nat.lt_succ_self k,cG,bS,qG,S3,F3,Tb.trans x3,p⟩
    |brk cG bS=>rw[hr] at p;exact λqG s3 S3 x3 F3=>p qG s3 S3 (Tb.trans x3) F3
    |ret v bS=>rw[hr] at p;exact λqG s3 mv S3 x3 r3=>p qG s3 mv S3 (Tb.trans x3) r3
    |exc c cG bS=>rw[hr] at p;exact p.elim
    |stuck=>rw[hr] at p;exact p.elim
end
section
theorem DP {t:Addr}{items:Array Value}(dg:t≠it) :∀(n i:Nat) (s:Shared) (Q:List Value->Shared->Prop),s.heap.IsListIter it t i->s.heap.IsList t items->i+n<=items.size->
  (∀h',h'.IsListIter it t (i+n)->Heap.SameBut it s.heap h'->Q ((items.toList.drop i).take n) {s with heap:=h'})->wpAny (model prog w) A (draw (.ref it) n) Q E s:=by
 intro y
 induction y with
 |zero=>
  intro i s Q DQ _ _ hQ;exact av (by simpa using hQ s.heap DQ (Heap.SameBut.refl ..))
 |succ n ih=>
  intro i s Q DQ ht NJ hQ;have eO:i<items.size:=by exact Nat.lt_of_add_right_lt NJ
  refine wb (wpAny_pyNext_list_item DQ ht (x:=items[i]) (by simp[eO]) λgb A4 fX=>?_);refine wb (cP (ih (i+1) _ _ A4 (ht.extBut fX.extBut dg) (Qp ‹_›) λsv NW kL=>av ?_));have hd:items.toList.drop i=items[i]::items.toList.drop (i+1):=by simp[List.drop_eq_getElem_cons,eO]
  have:=hQ sv (rl (show i+(n+1)=i+1+n by exact Eq.symm (Nat.succ_add_eq_add_succ i n))<|NW) (fX.trans kL)
  rw[hd,List.take_succ_cons] at this;exact this
theorem pv {t:Addr}{items:Array Value}{Q:List Value->Shared->Prop}(hh:A.handled=none)(ht:s.heap.IsList t items)(hQ :∀h',Heap.ExtBut s.heap.objs.size s.heap h'->Q items.toList {s with heap:=h'}):wpAny (model prog w) A (unpackItems (.ref t) items.size none) Q E s:=by
 have eO:t≠s.heap.objs.size:=by obtain⟨o,ho,_⟩:=ht;exact Nat.ne_of_lt (cI ho)
 refine wb ?_
 .skip
  refine wb (wpAny_specialOf ht.typeIs slot_list_iter.lookup ?_);refine av ?_;dsimp only[Bool.false_eq_true,if_false];refine wb (cP (wpAny_pyIter_list ht ?_));refine aY (cP (DP eO items.size 0 _ _ ⟨_,cC _ rfl,rfl,rfl⟩ (ht.push _) (by lia) λgb A4 fX=>?_));have rQ:List.take items.size (List.drop 0 items.toList)=items.toList:=by
   exact rl List.drop_zero<|List.take_of_length_le (by simp)
  refine rl rQ ?_;refine rl (ax (by simp)) ?_;have QR:gb.IsList t items:=(ht.push _).extBut fX.extBut eO;refine wb (cP (wpAny_pyNext_list_end hh A4 QR (by simp) λsv QS=>?_));dsimp only[Option.isSome_none,Bool.false_eq_true,if_false];refine av (hQ sv λb o hb e=>QS b o hb (fX.extBut b o hb (bR _ e)))
end
noncomputable def Kg (v:V):Option (List V):=match v with |.list vs=>some vs |.tup vs=>some vs |_=>.none
def bp (is:List Nat):kR:=λv fr=>(Kg v).bind λvs=>if vs.length=is.length then some ((is.zip vs).foldl (λfr p=>aE fr p.1 p.2) fr) else none
def dZ (is:List Nat):kR:=λv fr=>(Kg v).bind λvs=>if vs.length=is.length then some ((is.reverse.zip vs.reverse).foldl (λfr p=>aE fr p.1 p.2) fr) else none
section
variable {D:List Addr}
theorem vj {Q:List Value->Shared->Prop}(ok:b8 n a)(S:St Z U s)(r:aH Z s.heap v mv)(e:Kg v=some vs)(hk:vs.length=k)(hQ :∀s' ms,St Z U s'->cE [] Z s.heap Z s'.heap->aD Z s'.heap vs ms->Q ms s'):wpAny bQ a.A (unpackItems mv k none) Q E s:=by
 subst hk;have keep :∀h':Heap,Heap.ExtBut s.heap.objs.size s.heap h'->∀b o,s.heap.get? b=some o->h'.get? b=some o:=λh' x b o e=>x b o (Nat.ne_of_lt (cI e)) e
 cases r with
 |@list xs l o ms kk ho hc hd hn r=>
  injection (show some _=some _ from e) with e;subst e;have:xs.length=ms.size:=by refine rl r.length ?_;simp
  refine rl this<|pv ok.hand ⟨o,ho,hc,kk,hd⟩ λh' x=>?_
  obtain⟨S',x'⟩:=S.kept (tk:=s.toks) (keep h' x);exact hQ _ _ S' x' (r.mono x')
 |@tup xs l o ms kk ho hc hd hn r=>
  injection (show some _=some _ from e) with e;subst e;have:xs.length=ms.size:=by refine rl r.length ?_;simp
  refine rl this<|wpAny_unpackItems_tuple ok.hand ⟨o,ho,hc,kk,hd⟩ λh' x=>?_
  obtain⟨S',x'⟩:=S.kept (tk:=s.toks) (keep h' x);exact hQ _ _ S' x' (r.mono x')
 |_=>injection (show none=some _ from e)
noncomputable def mh (sc:Scope)(is:List Nat):Prop:=∀i∈is,i<W.nN/\gG sc (W.nm i)=true
noncomputable def gq (env:Env)(i:Nat)(st:Value->Sem Unit):Prop:=∀(A:Around) (E:iN) (mv:Value) (Q:Unit->Shared->Prop) (s:Shared),wpAny bQ A (storeName env (W.nm i) mv) Q E s->wpAny bQ A (st mv) Q E s
noncomputable def sz (n:Nat)(sc:Scope)(D:Act->List Addr)(i:Nat):Prop:=∀(a:Act),b8 n a->a.env.scope=sc->∀(Z:dW) (U:bw) (fr:eY) (s:Shared),St Z U s->FS a fr Z s.heap->∀(v:V) (mv:Value),aH Z s.heap v mv->
 ∀(Q:Unit->Shared->Prop) (E:iN),(∀s',St Z U s'->cE (D a) Z s.heap Z s'.heap->FS a (aE fr i v) Z s'.heap->Q () s')->wpAny bQ a.A (storeName a.env (W.nm i) mv) Q E s
theorem mh.Yl (hN:mh sc is) :∀i∈is,sz n sc Act.D i:=λi hi _ ok bJ _ _ _ _ S F _ _ r _ _ k=>sk ok bJ S F (hN i hi).1 rfl (hN i hi).2 r k
theorem vk {D:Act->List Addr} :∀(is:List Nat) (NU:List (Value->Sem Unit)) (vs:List V) (ms:List Value) (fr:eY) (s:Shared),b8 n a->a.env.scope=sc->(∀i∈is,sz n sc D i)->d8 (gq a.env) is NU->vs.length=is.length->St Z U s->FS a fr Z s.heap->aD Z s.heap vs ms->
  ∀(Q:Unit->Shared->Prop),(∀s',St Z U s'->cE (D a) Z s.heap Z s'.heap->FS a ((is.zip vs).foldl (λfr p=>aE fr p.1 p.2) fr) Z s'.heap->Q () s')->wpAny bQ a.A (assignInOrder NU ms) Q E s:=by
 intro is
 induction is with
 |nil=>
  intro NU vs ms fr s ok bJ hN hA hl S F r Q k
  cases hA;obtain rfl:=List.eq_nil_of_length_eq_zero hl;obtain rfl:=r.nil_inv;exact av (k s S (.refl ..) F)
 |cons i is ih=>
  intro NU vs ms fr s ok bJ hN hA hl S F r Q k
  cases hA with
  |cons Jt VP=>
  cases vs with
  |nil=>injection hl
  |cons v vs=>
  obtain⟨m,ms,rfl,r1,r2⟩:=r.cons_inv;refine wb (cP (Jt _ _ m _ s (hN i (eG ..) a ok bJ Z U fr s S F v m r1 _ _ λs1 S1 x1 F1=>?_)));exact ih _ vs ms _ s1 ok bJ (λj hj=>hN j (fE _ hj)) VP (Nat.succ.inj hl) S1 F1 (r2.mono x1) Q λs2 S2 x2 F2=>k s2 S2 (x1.trans x2) F2
theorem aG {x:Str}{p:Pos}(hx:W.nm i=x):gq env i (assign (.Name x p) env):=by
 intro A E mv Q s h;subst hx;exact wpAny_assign_Name h
theorem gq.bind {x:Str}(hx:W.nm i=x):gq env i (λv=>bindName env x v):=by
 intro A E mv Q s h;subst hx;exact wpAny_bindName h
theorem vl {D:Act->List Addr}{gH:List Expr}(hN :∀i∈is,sz n sc D i)(hA :∀env:Env,d8 (gq env) is ((assignEach gH env).map (·.2)))(yC :∀env:Env,(assignEach gH env).findIdx? (·.1)=none)(ok:b8 n a)(bJ:a.env.scope=sc)(S:St Z U s)(F:FS a fr Z s.heap)(r:aH Z s.heap v mv)(e:bp is v fr=some bC){Q:Unit->Shared->Prop}(k' :∀s',St Z U s'->cE (D a) Z s.heap Z s'.heap->FS a bC Z s'.heap->Q () s'):wpAny bQ a.A (assign (.Tuple gH k pos) a.env mv) Q E s:=by
 refine aT e λvs hv e=>?_;refine di e λhl e=>?_;injection e with e;subst e;have hlen :(assignEach gH a.env).length=is.length:=by
  have:=(hA a.env).length
  simpa using this.symm
 rw[arm_assign_Tuple];refine wb (wpAny_standAt ?_);unfold unpack;refine rl (hlen ..)<|rl (yC ..)<|wb (cP (vj ok S r hv hl λs1 ms S1 x1 r1=>?_))
 exact vk is _ vs ms fr s1 ok bJ hN (hA _) hl S1 (F.ext x1) r1 Q λs2 S2 x2 F2=>k' s2 S2 (x1.of0.trans x2) F2
theorem dK {gH:List Expr}(hN:mh sc is)(hA :∀env:Env,d8 (gq env) is ((assignEach gH env).map (·.2)))(yC :∀env:Env,(assignEach gH env).findIdx? (·.1)=none):yy n sc (.Tuple gH k pos) (bp is):=
 λ_ ok bJ _ _ _ _ S F _ _ _ r e _ _ k'=>vl (D:=Act.D) hN.Yl hA yC ok bJ S F r e k'
theorem gu {gH:List Expr}{e:Expr}{f:ME V}{t:kR}(ht:yy n sc (.Tuple gH k tp) t)(hf:cm n sc e f)(hs :∀env:Env,swapsWithSole [.Tuple gH k tp] e pos.line env=pure false)(hw :∀env:Env,env.scope=sc->swappedStores [.Tuple gH k tp] e env=pure none) :
  jT n sc (.Assign [.Tuple gH k tp] e pos) (cO t f):=by
 intro a ok bJ Z U fr s S F Q E p;refine Assign_Tuple (hf.i9 ok bJ S F p λv bq cF s1 mv S1 F1 x1 r1 p1=>?_) (hs _) (hw _ bJ)
 cases hm:t v fr with
 |none=>rw[hm] at p1;exact p1.elim
 |some bC=>
  rw[hm] at p1;exact ht a ok bJ cF bq fr s1 S1 F1 v mv bC r1 hm _ _ λs' S' x' F'=>p1 cF s' S' x' F'
theorem aD.reverse (r:aD Z h vs ms):aD Z h vs.reverse ms.reverse:=by
 have key :∀{vs:List V} {ms:List Value},aD Z h vs ms->∀{us:List V} {ns:List Value},aD Z h us ns->aD Z h (vs.reverseAux us) (ms.reverseAux ns):=by
  intro vs
  induction vs with
  |nil=>intro ms r us ns q;cases r;exact q
  |cons v vs ih=>intro ms r us ns q;cases r with |cons a b=>exact ih b (.cons a q)
 exact key r .nil
theorem dE {gH:List Expr}{e:Expr}{f:ME V}(hf:cm n sc e f)(hN:mh sc is)(hs :∀env:Env,swapsWithSole [.Tuple gH k tp] e pos.line env=pure false)(hw :∀env:Env,env.scope=sc->swappedStores [.Tuple gH k tp] e env=pure (some (is.map W.nm))) :
  jT n sc (.Assign [.Tuple gH k tp] e pos) (cO (dZ is) f):=by
 intro a ok bJ Z U fr s S F Q E p;refine Assign_Tuple_swapped (names:=is.map W.nm) (hf.i9 ok bJ S F p λv bq cF s1 mv S1 F1 x1 r1 p1=>?_) (hs _) (hw _ bJ);unfold dZ at p1
 cases hv:Kg v with
 |none=>rw[hv] at p1;exact p1.elim
 |some vs=>
  rw[hv,Option.bind_some] at p1;by_cases hl:vs.length=is.length
  .rw[aA hl] at p1
   refine vj ok S1 r1 hv (by simpa using hl) λs2 ms S2 x2 r2=>?_;refine vk (n:=n) (D:=Act.D) is.reverse _ vs.reverse ms.reverse fr s2 ok bJ (λi hi=>mh.Yl hN i (List.mem_reverse.mp hi)) ?_ (by simpa using hl) S2 (F1.ext x2) r2.reverse _ λs3 S3 x3 F3=>p1 cF s3 S3 (x2.of0.trans x3) F3;refine rr List.map_reverse<|rl List.map_map ?_
   have :∀js:List Nat,d8 (gq a.env) js (js.map ((λn=>bindName a.env n)∘W.nm)):=by
    intro js
    induction js with
    |nil=>exact .nil
    |cons j js ih=>exact .cons (gq.bind rfl) ih
   exact this _
  .rw[ax hl] at p1;exact p1.elim
end
noncomputable def jN (fr:eY)(dq:List Nat):eY:=fr.filter λp=>dq.contains p.1
theorem ko (e :(jN fr dq).lookup j=some v):j∈dq/\fr.lookup j=some v:=by
 induction fr with
 |nil=>simp[jN] at e
 |cons p fr ih=>
  obtain⟨k,u⟩:=p;unfold jN at e;rw[List.filter_cons] at e;by_cases hk:dq.contains k=true
  .simp only[hk,if_true,List.lookup_cons] at e ⊢
   by_cases hj:j=k
   .subst hj;simp at e;subst e;exact⟨by simpa using hk,by simp⟩
   .simp only[beq_eq_false_iff_ne.mpr hj] at e ⊢;exact ih e
  .simp only[hk,Bool.false_eq_true,if_false] at e
   have:=ih e;refine⟨this.1,?_⟩;refine List.lookup_cons.trans ?_;have hj:j≠k:=λz=>hk (by simpa [z] using this.1);exact rl (beq_eq_false_iff_ne.mpr hj)<|this.2
noncomputable def NX:Res Y->Res Y
 |.ok a U=>.ok a U
 |_=>.stuck
noncomputable def Ju:Value->Shared->Prop:=λ_ _=>False
noncomputable def fz (t:kR)(test:Option (ME Bool))(iw:ME V)(jC:eY):List V->bw->List V->Res (List V)
 |[],U,bh=>.ok bh U
 |v::vs,U,bh=>match t v jC with
  |none=>.stuck
  |some cz=>(NX (match test with |none=>Res.ok true U |some tt=>tt cz U)).andThen λb bq=>
   if b then (if cD bh.length then (NX (iw cz bq)).andThen λu bS=>fz t test iw jC vs bS (bh++[u]) else .stuck)
   else fz t test iw jC vs bq bh
theorem yD {t:kR}:fz t test iw jC (v::vs) U bh=match t v jC with
 |none=>.stuck
 |some cz=>(NX (match test with |none=>Res.ok true U |some tt=>tt cz U)).andThen λb bq=>
  if b then (if cD bh.length then (NX (iw cz bq)).andThen λu bS=>fz t test iw jC vs bS (bh++[u]) else .stuck)
  else fz t test iw jC vs bq bh:=rfl
def bO (dq:List Nat)(t:kR)(fi:ME (List V))(test:Option (ME Bool))(iw:ME V):ME V:=λfr U=>(fi fr U).andThen λvs bq=>(fz t test iw (jN fr dq) vs bq []).andThen λus bS=>.ok (.list us) bS
noncomputable def iP (fj sc:Scope):Scope:={fj with names:=fj.names.map λ(n,k)=>if (k == .free&&sc.kind == .function&&sc.names.lookup n == some .cell) then (n,.cell) else (n,k)}
noncomputable def jX (cells:List (Str×Addr)):List (Str×NameKind)->List (Str×Addr)->List (Str×Addr)
 |[],bh=>bh
 |x::r,bh=>jX cells r (if x.2 == .free then (x.1,(cells.lookup x.1).getD 0)::bh else bh)
structure jY (fj sc:Scope)(dq:List Nat):Prop where
 kind:fj.kind=.function
 locals :∀x∈fj.names,x.2=.local->fj.names.lookup x.1=some .local
 sA :∀x∈fj.names,x.2≠.cell
 nodup :(fj.names.map (·.1)).Nodup
 free :∀x∈fj.names,x.2=.free->sc.names.lookup x.1=some .cell
 dq :∀j∈dq,(W.nm j,NameKind.free)∈fj.names/\(iP fj sc).names.lookup (W.nm j)=some .cell
theorem A5 :∀(names:List (Str×NameKind)) (bh:List (Str×Addr)),(∀x∈names,x.2=.free->∃c,env.cells.lookup x.1=some c)->
  (forIn names bh λx cs=>if x.2 == NameKind.free then do let a <- cellOf env x.1;pure (ForInStep.yield ((x.1,a)::cs)) else (pure (ForInStep.yield cs):Sem (ForInStep (List (Str×Addr)))))=pure (jX env.cells names bh):=by
 intro y
 induction y with
 |nil=>
  intro bh _;exact rfl
 |cons x r ih=>
  intro bh h;refine rl (List.forIn_cons ..) ?_;have hr:=λy hy=>h y (fE _ hy);by_cases hx:x.2=.free
  .obtain⟨c,hc⟩:=h x (eG ..) hx
   have hb :(x.2 == NameKind.free)=true:=by exact rl hx rfl
   have h1:cellOf env x.1=pure c:=by unfold cellOf;exact rl hc rfl
   simp only[hb,if_true,h1,pure_bind];refine(ih _ hr).trans ?_;show _=pure (jX env.cells r (if x.2 == .free then _ else bh));exact rl hb<|rl (aA rfl)<|rl hc rfl
  .have hb :(x.2 == NameKind.free)=false:=by simpa using hx
   simp only[hb,Bool.false_eq_true,if_false,pure_bind];refine(ih _ hr).trans ?_;show _=pure (jX env.cells r (if x.2 == .free then _ else bh));exact rl hb rfl
theorem jF (h :∀x∈fj.names,x.2=.free->∃c,env.cells.lookup x.1=some c):closureFor fj env=pure (jX env.cells fj.names []):=by
 exact(aR (· >>= λcs=>pure cs) (A5 fj.names [] h)).trans (by simp)
theorem sC {cells:List (Str×Addr)} :∀{names:List (Str×NameKind)} {bh:List (Str×Addr)} {x:Str} {c:Addr},(x,c)∈jX cells names bh->(x,c)∈bh\/((x,NameKind.free)∈names/\c =(cells.lookup x).getD 0):=by
 intro y
 induction y with
 |nil=>
  intro _ _ _ h;exact .inl h
 |cons y r ih=>
  intro bh x c h;rcases ih h with h|⟨h1,h2⟩
  .by_cases hy :(y.2 == NameKind.free)=true
   .rw[aA hy] at h
    rcases b7 h with h |h
    .injection h with e1 e2
     refine .inr ⟨?_,by refine e2.trans ?_;exact rl e1 rfl⟩;have:y.2=.free:=by simpa using hy
     exact rl e1<|rr this<|eG ..
    .exact .inl h
   .rw[ax hy] at h;exact .inl h
  .exact .inr ⟨fE _ h1,h2⟩
theorem Gq {cells:List (Str×Addr)} :∀{names:List (Str×NameKind)} {bh:List (Str×Addr)} {x:Str},((∃c,(x,c)∈bh)\/(x,NameKind.free)∈names)->∃c,(x,c)∈jX cells names bh:=by
 intro y
 induction y with
 |nil=>
  intro _ _ h;exact h.elim id λz=>nomatch z
 |cons y r ih=>
  intro bh x h;refine ih ?_;rcases h with ⟨c,h⟩ |h
  .left
   by_cases hy :(y.2 == NameKind.free)=true
   .exact rl (aA hy)<|⟨c,fE _ h⟩
   .exact rl (ax hy)<|⟨c,h⟩
  .rcases b7 h with h |h
   .left;subst h;exact⟨(cells.lookup x).getD 0,by simp⟩
   .exact .inr h
theorem mK {l:List (Str×Addr)}{x:Str}{c:Addr}(h :(x,c)∈l) :∃d,l.lookup x=some d:=by
 induction l with
 |nil=>cases h
 |cons p l ih=>
  obtain⟨y,d⟩:=p;refine rl List.lookup_cons ?_;by_cases hx:x=y
  .exact⟨d,by simp[hx]⟩
  .refine rl (beq_eq_false_iff_ne.mpr hx) ?_
   rcases b7 h with h |h
   .injection h with e1 _;exact absurd e1 hx
   .exact ih h
theorem lz {cells:List (Str×Addr)}{names:List (Str×NameKind)}{x:Str}(h :(x,NameKind.free)∈names) :(jX cells names []).lookup x=some ((cells.lookup x).getD 0):=by
 obtain⟨c,hc⟩:=Gq (cells:=cells) (bh:=[]) (.inr h);obtain⟨d,hd⟩:=mK hc;refine hd.trans ?_;rcases sC (mem_of_lookup hd) with h|⟨_,h⟩
 .cases h
 .exact rl h rfl
theorem sD {cells:List (Str×Addr)} :∀{names:List (Str×NameKind)} {bh:List (Str×Addr)},(names.map (·.1)).Nodup->bh.Pairwise (λx y=>x.1≠y.1)->(∀x∈bh,x.1∉names.map (·.1))->
  (jX cells names bh).Pairwise λx y=>x.1≠y.1:=by
 intro y
 induction y with
 |nil=>
  intro _ _ h _;exact h
 |cons y r ih=>
  intro bh hn h hd;rw[List.map_cons,List.nodup_cons] at hn;have Kd :∀x∈bh,x.1∉r.map (·.1):=λx hx z=>hd x hx (fE _ z);refine ih hn.2 ?_ ?_
  .by_cases hy :(y.2 == NameKind.free)=true
   .rw[aA hy,List.pairwise_cons]
    exact⟨λx hx z=>hd x hx (by refine rr z ?_;simp),h⟩
   .exact rl (ax hy)<|h
  .by_cases hy :(y.2 == NameKind.free)=true
   .refine rl (aA hy) ?_
    intro x hx;rcases b7 hx with rfl |hx
    .exact hn.1
    .exact Kd x hx
   .exact rl (ax hy)<|Kd
theorem vn {cells:List (Str×Addr)}(h:cells.Pairwise λx y=>x.2≠y.2){x y:Str×Addr}(hx:x∈cells)(hy:y∈cells)(dg:x.1≠y.1):x.2≠y.2:=by
 induction cells with
 |nil=>cases hx
 |cons p l ih=>
  rw[List.pairwise_cons] at h;rcases b7 hx with ex |hx <;> rcases b7 hy with ey |hy
  .exact absurd (rl ex<|rl ey rfl) dg
  .exact rl ex<|h.1 _ hy
  .exact rl ey <| (h.1 _ hx).symm
  .exact ih h.2 hx hy
noncomputable def dW.hide (Z:dW)(d:Addr):dW:=⟨Z.objs,d::Z.eE⟩
noncomputable def dW.un (Z:dW)(H:List Addr):dW:=⟨Z.objs,H⟩
section
variable {D:List Addr}
theorem lA {b:Addr}:b∈bH (Z.hide d)↔b=d\/b∈bH Z:=by
 simp only[cB,dW.hide,List.mem_cons];constructor
 .rintro(h |h |h)
  .exact .inr (.inl h)
  .exact .inl h
  .exact .inr (.inr h)
 .rintro(h |h |h)
  .exact .inr (.inl h)
  .exact .inl h
  .exact .inr (.inr h)
theorem hU.hide (k :∀b o,h.get? b=some o->h'.get? b=some o)(hd:h.get? d=none):hU Z h (Z.hide d) h':=
 ⟨λ_ _ e=>e,λb o e _ _=>k b o e,λb o e hn hm=>by
  rcases lA.mp hm with z |z
  .rw[z] at e;replace e:=hd.symm.trans e;injection e
  .exact hn z⟩
theorem gO.hide (S:gO Z U h)(k :∀b o,h.get? b=some o->h'.get? b=some o)(hd:h.get? d=none)(hl :∃ob,h'.get? d=some ob/\ob.cls=.type "list"):gO (Z.hide d) U h':=by
 have k6:d∉bH Z:=λhm=>by obtain⟨ob,e,_⟩:=S.gK hm;replace e:=hd.symm.trans e;injection e
 refine⟨λb o e=>k _ _ (S.base b o e),S.ok,λa ha=>?_,λa ha=>?_,?_,S.len,λi o p e e'=>?_⟩
 .rcases lA.mp ha with rfl |ha
  .cases z:W.h₀.get? a with
   |none=>rfl
   |some o=>have:=S.base _ _ z;replace this:=hd.symm.trans this;injection this
  .exact S.fresh a ha
 .rcases b7 ha with rfl |ha
  .exact hl
  .obtain⟨ob,e,c⟩:=S.qE a ha;exact⟨ob,k _ _ e,c⟩
 .have hn:=S.nodup
  unfold bH at hn ⊢;rw[List.nodup_append] at hn ⊢;obtain⟨n1,n2,n3⟩:=hn;rw[cB,not_or] at k6;refine⟨n1,List.nodup_cons.mpr ⟨k6.2,n2⟩,λx hx y hy=>?_⟩;rcases b7 hy with rfl |hy
  .exact λz=>k6.1 (z▸hx)
  .exact n3 x hx y hy
 .exact(S.objs i o p e e').mono (hU.hide k hd) (λob z=>k _ _ z) λob z _=>⟨ob.slots,k _ _ z⟩
theorem wV (hh:Z.eE=d::H){b:Addr}(hm:b∈bH (Z.un H)):b∈bH Z:=by
 rw[cB] at hm ⊢;exact rl hh<|hm.imp id λz=>fE _ z
theorem NY (hh:Z.eE=d::H){b:Addr}:b∈bH Z↔b=d\/b∈bH (Z.un H):=by
 refine cB.trans ?_;rw[cB,hh,List.mem_cons];constructor
 .rintro(h |h |h)
  .exact .inr (.inl h)
  .exact .inl h
  .exact .inr (.inr h)
 .rintro(h |h |h)
  .exact .inr (.inl h)
  .exact .inl h
  .exact .inr (.inr h)
theorem gO.un (S:gO Z U h)(hh:Z.eE=d::H):gO (Z.un H) U h:=by
 have vm:hU Z h (Z.un H) h:=⟨λ_ _ e=>e,λ_ _ e _ _=>e,λb o e hn hm=>hn (wV hh hm)⟩;refine⟨S.base,S.ok,λa ha=>S.fresh a (wV hh ha),λa ha=>S.qE a (rl hh<|fE _ ha),?_,S.len,λi o p e e'=>(S.objs i o p e e').mono vm (λob z=>z) λob z _=>⟨ob.slots,z⟩⟩
 have hn:=S.nodup;unfold bH at hn ⊢;rw[hh] at hn;rw[List.nodup_append] at hn ⊢;obtain⟨n1,n2,n3⟩:=hn;exact⟨n1,(List.nodup_cons.mp n2).2,λx hx y hy=>n3 x hx y (fE _ hy)⟩
theorem aD.un (hh:Z.eE=d::H)(r:aD Z h vs ms):aD (Z.un H) h vs ms:=
 r.eN (show hU Z h (Z.un H) h from⟨λ_ _ e=>e,λ_ _ e _ _=>e,λb o e hn hm=>hn (wV hh hm)⟩)
theorem cE.un (x:cE D Z h bK h')(hh:Z.eE=d::H):cE D (Z.un H) h (bK.un H) h':=by
 have dg :∀b,b∉bH (Z.un H)->b≠d->b∉bH Z:=λb hb hd hm=>by
  rcases (NY hh).mp hm with z |z
  .exact hd z
  .exact hb z
 refine⟨x.more,rfl,λa ha o e=>x.held a (rl hh<|fE _ ha) o e,x.live,λb o e hb q=>?_,λb o e hb hD q=>?_,λb o e hb q=>?_⟩
 .by_cases hd:b=d
  .exact x.held b (rl hh<|rl hd<|eG ..) o e
  .exact x.keep b o e (dg b hb hd) q
 .by_cases hd:b=d
  .exact⟨o.slots,x.held b (rl hh<|rl hd<|eG ..) o e⟩
  .exact x.slot b o e (dg b hb hd) hD q
 .by_cases hd:b=d
  .exact⟨o,x.held b (rl hh<|rl hd<|eG ..) o e,q⟩
  .exact x.soft b o e (dg b hb hd) q
theorem cE.drop (x:cE D Z h bK h')(hd :∀b o,h.get? b=some o->b∈D->b∈D'):cE D' Z h bK h':=
 ⟨x.more,x.eE,x.held,x.live,x.keep,λb o e hb q s=>x.slot b o e hb (λz=>q (hd b o e z)) s,x.soft⟩
structure lB (d:Addr)(Z:dW)(h h':Heap):Prop where
 same:Heap.SameBut d h h'
 mem:d∈Z.eE
 S9 :∃o,h.get? d=some o/\o.cls=.type "list"/\bI o=false
 is :∃o,h'.get? d=some o/\o.cls=.type "list"
theorem lB.jQ (x:lB d Z h h'):hU Z h Z h':=
 ⟨λ_ _ e=>e,λb o e hn _=>SameBut.get x.same e λz=>hn (cB.mpr (.inr (z▸x.mem))),λ_ _ _ hn=>hn⟩
theorem lB.soft {b:Addr}(x:lB d Z h h')(e:h.get? b=some o)(q:bI o=true):h'.get? b=some o:=SameBut.get x.same e λz=>by
 obtain⟨o',e',_,q'⟩:=x.S9;rw[z] at e;replace e:=e'.symm.trans e;injection e with e;subst e;replace q:=q'.symm.trans q;injection q
theorem gO.grown (S:gO Z U h)(x:lB d Z h h'):gO Z U h':=by
 have hm:d∈bH Z:=cB.mpr (.inr x.mem);refine⟨λb o e=>SameBut.get x.same (S.base b o e) λz=>S.mY e (z▸hm),S.ok,S.fresh,λa ha=>?_,S.nodup,S.len,λi o p e e'=>?_⟩
 .by_cases hz:a=d
  .exact rl hz<|x.is
  .obtain⟨ob,e,c⟩:=S.qE a ha;exact⟨ob,SameBut.get x.same e hz,c⟩
 .have ro:=S.objs i o p e e'
  refine ro.mono x.jQ (λob z=>SameBut.get x.same z λy=>S.gL e' (y▸x.mem)) λob z zs=>⟨ob.slots,SameBut.get x.same z λy=>?_⟩
  cases o with
  |list vs=>exact S.gL e' (ro.1▸y▸x.mem)
  |dict k ay=>exact S.gL e' (ro.1▸y▸x.mem)
  |inst c fs=>
   obtain⟨⟨sl,e1⟩,_⟩:=ro;obtain⟨o',e2,c2,_⟩:=x.S9;rw[y,e2] at e1;injection e1 with e1;subst e1;injection c2
theorem FS.grown (F:FS a fr Z h)(x:lB d Z h h'):FS a fr Z h':=F.carry (.of (λb o e q n=>⟨n,o.slots,x.soft e q⟩) λ_ _ r=>r.eN x.jQ)
theorem FS.sub (F:FS a fr Z h)(k :∀j u,bC.lookup j=some u->fr.lookup j=some u):FS a bC Z h:=by
 refine cq λG hG=>?_;obtain⟨m,hm,hv⟩:=F.ns;refine hG ?_;exact⟨F.live,⟨m,hm,λi v e=>hv i v (k i v e)⟩,F.o6,F.uW,F.cells,F.apart,F.laid⟩
theorem pd.bind {e:Expr}{f:ME (List V)}(hE:pd n sc e f)(ok:b8 n a)(bJ:a.env.scope=sc)(S:St Z U s)(F:FS a fr Z s.heap){k:List V->bw->Res β}(p:b9 a Z s ((f fr U).andThen k) K E)(h :∀vs bq cF s1 it,St cF bq s1->FS a fr cF s1.heap->cE [] Z s.heap cF s1.heap->s.heap.get? it=none->it∉bH cF->de cF s1.heap it vs->b9 a Z s (k vs bq) K E->Q (.ref it) s1) :
  wpAny bQ a.A (eval e a.env) (λx s1=>wpAny bQ a.A (pyIter x) Q E s1) E s:=by
 refine hE a ok bJ Z U fr s S F Q E ?_
 cases hf:f fr U with
 |ok v bq=>rw[hf] at p;exact λcF s1 S1 x1 it h0 hn hI=>h v bq cF s1 it S1 (F.ext x1) x1 h0 hn hI p
 |exc c bq=>rw[hf] at p;exact p
 |stuck=>rw[hf] at p;exact p
noncomputable def vo (n:Nat)(sc:Scope)(kj:Expr)(t:kR):Prop:=
 ∀(a:Act),b8 n a->a.env.scope=sc->∀(Z:dW) (U:bw) (fr:eY) (s:Shared),St Z U s->FS a fr Z s.heap->∀(v:V) (mv:Value) (bC:eY),aH Z s.heap v mv->t v fr=some bC->
  ∀(Q:Unit->Shared->Prop) (E:iN),(∀s',St Z U s'->cE [a.env.locals] Z s.heap Z s'.heap->FS a bC Z s'.heap->Q () s')->wpAny bQ a.A (assign kj a.env mv) Q E s
theorem cf {x:Str}(hi:i<W.nN)(hx:W.nm i=x)(hk:sc.names.lookup x=some .local):vo n sc (.Name x pos) (az i):=by
 intro a ok bJ Z U fr s S F v mv bC r e Q E k;refine cq λG hG=>?_;injection e with e;subst e;refine hG ?_;exact wpAny_assign_Name (iG ok.kind bJ S F hi hx hk r k)
noncomputable def lC (t:kR)(dq:List Nat):Prop:=∀fr v cz,t v (jN fr dq)=some cz->∀j u,(jN fr dq).lookup j=some u->cz.lookup j=some u
theorem bu (h:i∉dq):lC (az i) dq:=by
 intro fr v cz e j u hj;injection e with e;subst e;have dg:j≠i:=λz=>h (rr z <| (ko hj).1)
 exact rl (aV ..)<|rl (ax dg)<|hj
theorem gv {gH:List Expr}(hN :∀i∈is,i<W.nN/\sc.names.lookup (W.nm i)=some .local)(hA :∀env:Env,d8 (gq env) is ((assignEach gH env).map (·.2)))(yC :∀env:Env,(assignEach gH env).findIdx? (·.1)=none):vo n sc (.Tuple gH k pos) (bp is):=
 λ_ ok bJ _ _ _ _ S F _ _ _ r e _ _ k'=>vl (D:=λa=>[a.env.locals]) (λi hi _ ok bJ _ _ _ _ S F _ _ r _ _ k=>iG ok.kind bJ S F (hN i hi).1 rfl (hN i hi).2 r k) hA yC ok bJ S F r e k'
theorem DR :∀(ps:List (Nat×V)) (fr:eY),(∀p∈ps,p.1≠j)->(ps.foldl (λfr p=>aE fr p.1 p.2) fr).lookup j=fr.lookup j:=by
 intro y
 induction y with
 |nil=>
  intro _ _;exact rfl
 |cons p ps ih=>
  intro fr h;exact(ih _ λq hq=>h q (.tail _ hq)).trans (by rw[aV,ax (Ne.symm (h p (.head _)))])
theorem eI (h :∀i∈is,i∉dq):lC (bp is) dq:=by
 intro fr v cz e j u hj;refine aT e λvs hv e=>?_
 split at e
 case isFalse=>injection e
 injection e with e;subst e;refine(DR _ _ λp hp z=>h p.1 (List.of_mem_zip hp).1 (z▸(ko hj).1)).trans ?_;exact hj
theorem DS (x:de Z s.heap it vs)(hq:Q (.ref it) s):wpAny bQ A (pyIter (.ref it)) Q E s:=by
 cases x with
 |list hi=>exact wpAny_pyIter_listiter hi hq
 |tup hi=>exact wpAny_pyIter_tupleiter hi hq
 |range hi=>exact wpAny_pyIter_rangeiter hi hq
 |str hi=>exact wpAny_pyIter_striter_ascii hi hq
 |rev hi=>exact wpAny_pyIter_revIter hi hq
 |sf hi=>exact n9 hi hq
end
section
variable {D:List Addr}
noncomputable def NZ (l:List Env)(c:Nat)(Z:dW)(U:bw)(s:Shared)(e:Addr)(B:Heap):Prop:=p6 l c Z U s e B\/AD l c Z U s e B
theorem Gr {D:List Addr}{Q:Unit->Shared->Prop}(ok:b8 n a)(hf:env.frame=a.env.frame)(t:NZ a.l c Z U s e B)(x:gX D F mX h0 Z B s.heap)(k :∀s',AD a.l c Z U s' e B->gX D F mX h0 Z B s'.heap->s.heap.UpToSlots s'.heap->Q () s'):wpAny bQ a.A (noteFrame (.ref e) env) Q E s:=by
 obtain⟨fe,mF,L,hl,DT,hL⟩:=ok.head;have A6:a.A.frames=some (fe::mF):=by exact rr hl<|ok.frames
 have MI:noteFrame (.ref e) env=noteFrame (.ref e) fe:=by
  unfold noteFrame PySem.frameOf;exact rl hf<|rl hL<|rl DT rfl
 rcases t with ⟨g,o,S,a0,R⟩|⟨g,o,S,QT,Gs,L',a0,Fs,vp,R⟩
 .refine rl MI ?_
  rw[hl] at R;refine wpAny_looks_onW A6 DT R λh' H up=>?_;exact k _ ⟨g,o,S,fe,mF,L,a0,hl,DT,by exact rl hl<|H⟩ (x.up up H.1) up
 .replace Fs:=hl.symm.trans Fs
  refine cq λG hG=>?_;injection Fs with e1 e2;subst e1 e2;replace vp:=DT.symm.trans vp;injection vp with vp;subst vp;refine hG ?_;exact rl MI<|wpAny_noteFrame_againW DT R.2.2.2 (k s ⟨g,o,S,fe,mF,L,a0,hl,DT,R⟩ x (.refl _))
end
section
variable {D:List Addr}
theorem hU.but {C:Addr}(hs:Heap.SameBut C h h')(hq :∀o,h.get? C=some o->bI o=true):hU Z h Z h':=
 ⟨λ_ _ e=>e,λb o e _ q=>SameBut.get hs e λz=>(by replace q:=(hq o (z▸e)).symm.trans q;injection q),λ_ _ _ hn=>hn⟩
theorem gO.but {C:Addr}(S:gO Z U h)(hC:C∉bH Z)(hb:W.h₀.get? C=none)(hq :∀o,h.get? C=some o->bI o=true)(hs:Heap.SameBut C h h'):gO Z U h':=by
 refine⟨λb o e=>SameBut.get hs (S.base b o e) λz=>(by rw[z] at e;replace e:=hb.symm.trans e;injection e),S.ok,S.fresh,λb Kh=>?_,S.nodup,S.len,λi o p e e'=>?_⟩
 .obtain⟨ob,e,c⟩:=S.qE b Kh
  exact⟨ob,SameBut.get hs e λz=>hC (cB.mpr (.inr (z▸Kh))),c⟩
 .refine(S.objs i o p e e').mono (hU.but hs hq) (λob z=>SameBut.get hs z λy=>hC (y▸eB e')) λob z zs=>⟨ob.slots,SameBut.get hs z λy=>?_⟩
  replace zs:=(hq ob (y▸z)).symm.trans zs;injection zs
theorem A7 {C dd:Addr}{m:Str->Option Value}(ok:b8 n a)(rZ:jY fj a.env.scope dq)(S:gO Z U h)(F:FS a fr Z h)(k :∀b o,h.get? b=some o->h'.get? b=some o)(hC:h.get? C=none)(hd:h.get? dd=none)(hCd:C≠dd)(hN:h'.Ns C m) :
  FS ⟨a.A,compEnvC fj (jX a.env.cells fj.names []) C a.env,a.l⟩ (jN fr dq) (Z.hide dd) h':=by
 have vm:hU Z h (Z.hide dd) h':=hU.hide k hd;have Tc:C∉bH (Z.hide dd):=λhm=>by
  rcases lA.mp hm with z |z
  .exact hCd z
  .obtain⟨ob,e,_⟩:=S.gK z;replace e:=hC.symm.trans e;injection e
 have N0 :∀x,(x,NameKind.free)∈fj.names->∃c,a.env.cells.lookup x=some c:=λx hx=>F.laid x (rZ.free _ hx rfl);have sE :∀x c,(x,c)∈jX a.env.cells fj.names []->(x,c)∈a.env.cells:=λx c hm=>by
  rcases sC hm with z|⟨z1,z2⟩
  .cases z
  .obtain⟨c',MD⟩:=N0 x z1
   rw[MD] at z2;exact rl z2<|mem_of_lookup MD
 refine⟨λe he=>?_,⟨m,hN,λj v e=>?_⟩,Tc,?_,λx c hx=>?_,?_,λx hx=>?_⟩
 .obtain⟨kk,L,o,hf,hn,hb,ho,hs⟩:=F.live e he
  exact⟨kk,L,o,hf,vm.eM _ _ ho hn,hb,k _ _ ho,hs⟩
 .obtain⟨hj,hl⟩:=ko e
  refine cq λG hG=>?_;obtain⟨QU,VQ⟩:=rZ.dq j hj;obtain⟨_,_,hv⟩:=F.ns;obtain⟨hi,rv⟩:=hv j v hl;refine hG ?_;refine⟨hi,?_⟩;have hk:a.env.kindOf (W.nm j)=some .cell:=rZ.free _ QU rfl;unfold iD at rv ⊢;refine cq λG hG=>?_;rw[hk] at rv;obtain⟨c,mv,e1,e2,e3⟩:=rv;have Gu :(compEnvC fj (jX a.env.cells fj.names []) C a.env).kindOf (W.nm j)=some .cell:=VQ;refine hG ?_;refine rl Gu<|⟨c,mv,?_,?_,e3.eN vm⟩
  .refine(lz QU).trans ?_;exact rl e1 rfl
  .obtain⟨o,ho,hd⟩:=e2
   exact⟨o,k _ _ ho,hd⟩
 .cases z:W.h₀.get? C with
  |none=>exact z
  |some o=>have:=S.base _ _ z;replace this:=hC.symm.trans this;injection this
 .obtain⟨c1,c2,v,o,ho,N1⟩:=F.cells x c (sE x c hx)
  exact⟨vm.eM _ _ ho c1,c2,v,o,k _ _ ho,N1⟩
 .have h1:=sD (cells:=a.env.cells) (bh:=[]) rZ.nodup .nil (by simp)
  exact List.Pairwise.imp_of_mem (λ{x y} hx hy dg=>vn F.apart (sE x.1 x.2 hx) (sE y.1 y.2 hy) dg) h1
 .have Ke :(iP fj a.env.scope).names.lookup x=some .cell:=hx
  refine cq λG hG=>?_;have hm :(x,NameKind.cell)∈(iP fj a.env.scope).names:=mem_of_lookup Ke;obtain⟨y,hy,ey⟩:=dz hm;obtain⟨yn,yk⟩:=y;simp only at ey;refine hG ?_;by_cases hc :(yk == NameKind.free&&a.env.scope.kind == .function&&a.env.scope.names.lookup yn == some .cell)=true
  .replace ey:=(aA hc).symm.trans ey
   refine cq λG hG=>?_;simp only[Bool.and_eq_true] at hc;have VR:yk=.free:=by simpa using hc.1.1
   injection ey with e1 _;subst e1 VR;refine hG ?_;exact⟨_,lz hy⟩
  .replace ey:=(ax hc).symm.trans ey
   refine cq λG hG=>?_;injection ey with e1 e2;refine hG ?_;exact absurd e2 (rZ.sA _ hy)
theorem Ki {dd:Addr}(e:cF.eE=H) :(cF.hide dd).un H=cF:=by
 refine cq λG hG=>?_;obtain⟨o,hd⟩:=cF;refine hG ?_;simp only[dW.hide,dW.un] at e ⊢;rw[e]
noncomputable def wW (n:Nat)(sc:Scope)(test:Option (ME Bool))(p8:List Expr):Prop:=match test,p8 with
 |none,[]=>True
 |some tt,[c]=>jo n sc c tt
 |_,_=>False
structure CompEnd (a:Act)(Z:dW)(s:Shared)(C dd:Addr)(f9:dW)(us:List V)(bB:bw)(s':Shared)(items:Array Value)(nn:Nat):Prop where
 eE:f9.eE=dd::Z.eE
 st:St f9 bB s'
 apart:C∉bH f9
 base:W.h₀.get? C=none
 ns :∃m,s'.heap.Ns C m
 DU:s.heap.get? C=none
 ne:dd≠C
 newD:s.heap.get? dd=none
 at_:s'.heap.get? dd=some ⟨.type "list",none,.seq items nn,#[]⟩
 ef:aD f9 s'.heap us items.toList
 ext:cE [C] Z s.heap (f9.un Z.eE) s'.heap
def yE (a:Act)(fj:Scope)(C:Addr):Env:=compEnvC fj (jX a.env.cells fj.names []) C a.env
def DV (a:Act)(fj:Scope)(C:Addr):Act:=⟨a.A,yE a fj C,a.l⟩
set_option genInjectivity false in
set_option genSizeOfSpec false in
structure g8 where
 a:Act
 Z:dW
 s:Shared
 fj:Scope
 C:Addr
 dd:Addr
 it:Addr
 jC:eY
 t:kR
 test:Option (ME Bool)
 fe:ME V
 K:List V×bw->dW->Shared->Prop
 E:Value->Shared->Prop
noncomputable def g8.post (X:g8)(vs:List V)(U:bw)(bh:List V):Prop:=b9 X.a X.Z X.s ((fz X.t X.test X.fe X.jC vs U bh).andThen λus bS=>.ok (us,bS) bS) X.K X.E
structure N2 (X:g8)(vs:List V)(U:bw)(f9:dW)(bh:List V)(items:Array Value)(nn:Nat)(s':Shared):Prop where
 hh:f9.eE=X.dd::X.Z.eE
 S:St f9 U s'
 F:FS (DV X.a X.fj X.C) X.jC f9 s'.heap
 xx:cE [X.C] X.Z X.s.heap (f9.un X.Z.eE) s'.heap
 hn:X.it∉bH f9
 I:de f9 s'.heap X.it vs
 hD:s'.heap.get? X.dd=some ⟨.type "list",none,.seq items nn,#[]⟩
 r:aD f9 s'.heap bh items.toList
 p:X.post vs U bh
noncomputable def oo (X:g8)(k:Nat)(s':Shared):Prop:=∃vs U f9 bh items nn,k=vs.length/\N2 X vs U f9 bh items nn s'
noncomputable def sF (X:g8)(n:Nat)(s':Shared):Prop:=∃m,m<n/\oo X m s'
structure rd (n:Nat)(X:g8)(iw kj:Expr)(p8:List Expr):Prop where
 ok:b8 n X.a
 QV:b8 n (DV X.a X.fj X.C)
 VS:X.s.heap.get? X.C=none
 Td:X.s.heap.get? X.dd=none
 Kj:W.h₀.get? X.it=none
 h0:X.s.heap.get? X.it=none
 N3:X.dd≠X.C
 ht:vo n (iP X.fj X.a.env.scope) kj X.t
 CB :∀v cz,X.t v X.jC=some cz->∀j u,X.jC.lookup j=some u->cz.lookup j=some u
 jr:wW n (iP X.fj X.a.env.scope) X.test p8
 he:cm n (iP X.fj X.a.env.scope) iw X.fe
section
variable {X:g8}{iw kj:Expr}{p8:List Expr}
structure pw (X:g8)(cz:eY)(yF:dW)(xW:bw)(vs bh:List V)(items:Array Value)(nn:Nat)(s4:Shared):Prop where
 hh:yF.eE=X.dd::X.Z.eE
 S:St yF xW s4
 F:FS (DV X.a X.fj X.C) cz yF s4.heap
 xx:cE [X.C] X.Z X.s.heap (yF.un X.Z.eE) s4.heap
 hn:X.it∉bH yF
 I:de yF s4.heap X.it vs
 hD:s4.heap.get? X.dd=some ⟨.type "list",none,.seq items nn,#[]⟩
 r:aD yF s4.heap bh items.toList
theorem pw.ext {yF Gv:dW}{xW Gw:bw}{items:Array Value}{s4 s5:Shared}(c:pw X cz yF xW vs bh items nn s4)(S:St Gv Gw s5)(x:cE [] yF s4.heap Gv s5.heap):pw X cz Gv Gw vs bh items nn s5:=by
 refine cq λG hG=>?_;have VT:X.dd∈yF.eE:=by exact rl c.hh<|eG ..
 obtain⟨oi,QQ,_⟩:=c.I.fields;refine hG ?_;exact⟨x.eE.trans c.hh,S,c.F.ext x,c.xx.trans ((x.un c.hh).of0),x.eM QQ c.hn,c.I.ext c.hn x,x.held _ VT _ c.hD,c.r.mono x⟩
theorem Gx (H:rd n X iw kj p8){Gv:dW}{items:Array Value}{s5:Shared}(hf:X.t v X.jC=some cz)(c:pw X cz Gv bB vs bh items nn s5)(ru:aH Gv s5.heap u mu)(hz:cD bh.length=true)(p:X.post vs bB (bh++[u])):wpAny bQ X.a.A (call (.builtin "list.append") [.ref X.dd,mu]) (λ_ s=>sF X (v::vs).length s) Ju s5:=by
 have VU:X.dd∈Gv.eE:=by exact rl c.hh<|eG ..
 have hsz:bh.length=items.size:=by refine c.r.length.trans ?_;simp
 refine call_meets PySem.F.slot_list_append ⟨_,c.hD,rfl⟩ PySem.F.entry_list_append (PySem.F.args_list_append_2 _ _) (list_append _ items nn mu (rr hsz<|dn hz)) ⟨c.hD,?_⟩
 have Ym:=IsL.update c.hD (λxs=>xs.push mu);have gr:lB X.dd Gv s5.heap (s5.heap.update X.dd (Obj.mapSeq λxs=>xs.push mu)):=⟨dP ..,VU,⟨_,c.hD,rfl,rfl⟩,⟨_,Ym,rfl⟩⟩;refine⟨vs.length,Nat.lt_succ_self _,vs,bB,Gv,bh++[u],items.push mu,_,rfl,c.hh,St.mk (c.S.heap.grown gr) c.S.gens c.S.os,(c.F.grown gr).sub (H.CB v cz hf),c.xx.side (λb o dg e=>SameBut.get gr.same e dg) H.Td,c.hn,c.I.vm c.hn gr.jQ,Ym,?_,p⟩;have:=(c.r.eN gr.jQ).append (.cons (ru.eN gr.jQ) .nil)
 simpa using this
theorem vq (H:rd n X iw kj p8){yF:dW}{xW:bw}{items:Array Value}{s4:Shared}(hf:X.t v X.jC=some cz)(c:pw X cz yF xW vs bh items nn s4)(p:b9 X.a X.Z X.s ((if b then (if cD bh.length then (NX (X.fe cz xW)).andThen λu bS=>fz X.t X.test X.fe X.jC vs bS (bh++[u]) else .stuck) else fz X.t X.test X.fe X.jC vs xW bh).andThen λus bS=>.ok (us,bS) bS) X.K X.E) :
  if b=true then wpAny bQ X.a.A (eval iw (yE X.a X.fj X.C)) (λx yG=>wpAny bQ X.a.A (call (.builtin "list.append") [.ref X.dd,x]) (λ_ Kk=>sF X (v::vs).length Kk) Ju yG) Ju s4
  else sF X (v::vs).length s4:=by
 cases b with
 |false=>
  rw[ax (by decide)];simp only[Bool.false_eq_true,if_false] at p;exact⟨vs.length,Nat.lt_succ_self _,vs,xW,yF,bh,items,nn,rfl,c.hh,c.S,c.F.sub (H.CB v cz hf),c.xx,c.hn,c.I,c.hD,c.r,p⟩
 |true=>
  rw[aA rfl];simp only[if_true] at p;by_cases hz:cD bh.length=true
  .rw[aA hz] at p
   refine H.he (DV X.a X.fj X.C) H.QV rfl yF xW cz s4 c.S c.F _ _ ?_
   cases hr:X.fe cz xW with
   |stuck=>rw[hr] at p;exact p.elim
   |exc k bB=>rw[hr] at p;exact p.elim
   |ok u bB=>
    rw[hr] at p;exact λGv s5 S5 x5 mu ru=>Gx H hf (c.ext S5 x5) ru hz p
  .rw[ax hz] at p;exact p.elim
noncomputable def yH (X:g8)(iw kj:Expr)(p8:List Expr)(fin:Shared->Prop)(k:Nat)(r:Option Value)(fS:Shared):Prop:=match r with
 |none=>fin fS
 |some v=>wpAny bQ X.a.A (letOwnedTupleGo kj (.ref X.it) v) (λ_ QW=>wpAny bQ X.a.A (PySem.assign kj (yE X.a X.fj X.C) v) (λ_ yB=>
  wpAny bQ X.a.A (forIn p8 true λc r=>if r=true then do let ok <- isTrue c (yE X.a X.fj X.C) (eval c (yE X.a X.fj X.C));pure (ForInStep.yield ok) else pure (ForInStep.yield r)) (λok pn=>
   if ok=true then wpAny bQ X.a.A (eval iw (yE X.a X.fj X.C)) (λx yG=>wpAny bQ X.a.A (call (.builtin "list.append") [.ref X.dd,x]) (λ_ Kk=>sF X k Kk) Ju yG) Ju pn
   else sF X k pn) Ju yB) Ju QW) Ju fS
theorem DW {iter:Expr}(VV :∀n s,oo X n s->wpAny bQ X.a.A (pyNext (.ref X.it)) (yH X iw kj p8 (R (.ok .next)) n) Ju s)(n:Nat)(h:oo X n s):codeAny bQ X.a.A (.compLoop (.ListComp iw [⟨kj,iter,p8,0⟩] X.fj pos) 0 (.ref X.it) (.ref X.dd) (yE X.a X.fj X.C)) R s:=by
 refine codeAny_loop rfl (oo X) (λn s hI=>?_) n h;refine wpAny_noted ?_;refine rl (compTurn_list ..)<|wb (wpAny_standAt (wb (cA (VV n s hI) (λr fS gb=>?_) λ_ _ z=>z.elim)))
 cases r with
 |none=>exact av gb
 |some v=>
  refine wb (cA gb (λ_ s1 h1=>wb (cA h1 (λ_ yB sv=>wb (cA sv (λok pn nc=>?_) λ_ _ z=>z.elim)) λ_ _ z=>z.elim)) λ_ _ z=>z.elim)
  cases ok with
  |false=>exact av ⟨rfl,nc⟩
  |true=>exact wb (wb (cA nc (λx yG A8=>wb (cA A8 (λ_ Kk qK=>av (av ⟨rfl,qK⟩)) λ_ _ z=>z.elim)) λ_ _ z=>z.elim))
theorem DX (H:rd n X iw kj p8){fin:Shared->Prop}(hG :∀f9 us bB s' items nn,CompEnd X.a X.Z X.s X.C X.dd f9 us bB s' items nn->b9 X.a X.Z X.s (.ok (us,bB) bB) X.K X.E->fin s')(k:Nat)(s':Shared)(h:oo X k s') :
  wpAny bQ X.a.A (pyNext (.ref X.it)) (yH X iw kj p8 fin k) Ju s':=by
 obtain⟨vs,U,f9,bh,items,nn,rfl,hh,S,FC,x4,hn,I,hD,r,p⟩:=h;revert p;cases vs with
 |nil=>
  intro p;refine sg H.ok.hand I λh' sd=>?_;have F':=FC.side sd;obtain⟨m,hm,_⟩:=F'.ns;exact hG f9 bh U {s' with heap:=h'} items nn ⟨hh,S.side (tk:=s'.toks) sd H.Kj,F'.o6,F'.uW,⟨m,hm⟩,H.VS,H.N3,H.Td,sd.get hD (dR rfl),r.side sd,x4.side (λb o dg e=>sd.same b o dg e) H.h0⟩ p
 |cons v vs=>
  intro p;refine pk I λh' tk mv I' sd rv=>?_;unfold g8.post at p;rw[yD] at p
  cases hf:X.t v X.jC with
  |none=>rw[hf] at p;exact p.elim
  |some cz=>
  rw[hf] at p;simp only at p;refine I'.lets (H.ht (DV X.a X.fj X.C) H.QV rfl f9 U X.jC _ (S.side (tk:=tk) sd H.Kj) (FC.side sd) v mv cz rv hf _ _ λs3 S3 x3 F3=>?_);have VT:X.dd∈f9.eE:=by exact rl hh<|eG ..
  have c3:pw X cz f9 U vs bh items nn s3:=⟨hh,S3,F3,(x4.side (λb o dg e=>sd.same b o dg e) H.h0).trans (x3.un hh),hn,I'.ext hn x3,x3.held _ VT _ (sd.get hD (dR rfl)),(r.side sd).mono x3⟩;have VW :∀{Y:Type} (r:Res Y) (f:Y->bw->Res (List V)),(r.andThen f).andThen (λus bS=>Res.ok (us,bS) bS)=r.andThen λx U=>(f x U).andThen λus bS=>.ok (us,bS) bS:=by
   intro Y r f;cases r <;> rfl
  rw[VW] at p;have jr:=H.jr
  cases Te:X.test with
  |none=>
   rw[Te] at jr p
   cases p8 with
   |nil=>exact wpAny_tests_nil (vq H (b:=true) hf c3 (rl Te<|p))
   |cons c cs=>exact jr.elim
  |some tt=>
   rw[Te] at jr p
   cases p8 with
   |nil=>exact jr.elim
   |cons c cs=>
    revert p;cases cs with
    |cons _ _=>intro p;exact jr.elim
    |nil=>
     intro p;refine wpAny_tests_one (jr (DV X.a X.fj X.C) H.QV rfl f9 U cz s3 S3 F3 _ _ ?_)
     cases hr:tt cz U with
     |stuck=>simp only[hr] at p;exact p.elim
     |exc c bB=>simp only[hr] at p;exact p.elim
     |ok b bB=>simp only[hr] at p;exact λyF s4 S4 x4=>vq H (b:=b) hf (c3.ext S4 x4) (rl Te<|p)
end
theorem vt {iw iter kj:Expr}{p8:List Expr}{t:kR}{Q:iN}{K:List V×bw->dW->Shared->Prop}{G:Value->Addr->Shared->Prop}(rZ:jY fj a.env.scope dq)(ht:vo n (iP fj a.env.scope) kj t)(CB:lC t dq)(jr:wW n (iP fj a.env.scope) test p8)(he:cm n (iP fj a.env.scope) iw fe)(ok:b8 n a)(S:St Z U s)(F:FS a fr Z s.heap)(S1:St cF bq s1)(F1:FS a fr cF s1.heap)(x1:cE [] Z s.heap cF s1.heap)(h0:s.heap.get? it=none)(A3:it∉bH cF)(I1:de cF s1.heap it vs)(p1:b9 a Z s ((fz t test fe (jN fr dq) vs bq []).andThen λus bS=>.ok (us,bS) bS) K E)(hG :∀C dd f9 us bB s' items nn,CompEnd a Z s C dd f9 us bB s' items nn->b9 a Z s (.ok (us,bB) bB) K E->G (.ref dd) C s') :
  wpAny bQ a.A (newList []) (λbh pn=>wpAny bQ a.A (newFunctionEnv fj a.env.globals (jX a.env.cells fj.names []) [] a.env.qual none .none (some a.env)) (λKl yG=>
   codeAny bQ a.A (.compStart (.ListComp iw [⟨kj,iter,p8,0⟩] fj pos) 0 (.ref it) bh {Kl with scope:=relabel fj a.env}) (λr s'=>match r with
    |.ok _=>G bh Kl.locals s'
    |.error _=>False) yG) E pn) E s1:=by
 refine wpAny_newObj_type (wpAny_newFunctionEnv rZ.sA (by intro y hy;simp at hy) (λgb wX pz=>?_) rZ.kind);dsimp only at wX pz ⊢;generalize Tf:s1.heap.push {cls:=.type "list",dict:=none,data:=.seq ([]:List Value).toArray}=H2 at wX pz ⊢;have hC:H2.objs.size=s1.heap.objs.size+1:=by exact rr Tf<|rl (Heap.size_push ..) rfl
 have N3:s1.heap.objs.size≠H2.objs.size:=by exact rl hC<|Nat.ne_of_lt (Nat.lt_succ_self _)
 have hk :∀b o,s1.heap.get? b=some o->gb.get? b=some o:=λb o e=>
  pz.extBut b o (rl hC<|Nat.ne_of_lt (Nat.lt_succ_of_lt (cI e))) (bR _ (Tf▸bR _ e))
 have VX:gb.get? s1.heap.objs.size=some ⟨.type "list",none,.seq #[] 0,#[]⟩:=pz.extBut _ _ N3 (bR _ (Tf▸cC _ rfl));have ng:=iX s1.heap;have A9:s1.heap.get? H2.objs.size=none:=by
  cases z:s1.heap.get? H2.objs.size with
  |none=>rfl
  |some o=>exact absurd (cI z) (rl hC<|Nat.not_lt.mpr (Nat.le_succ _))
 generalize hCC:H2.objs.size=C at wX pz N3 A9 ⊢;generalize hDD:s1.heap.objs.size=dd at VX ng N3 ⊢;clear pz Tf;have VS:s.heap.get? C=none:=by
  cases z:s.heap.get? C with
  |none=>rfl
  |some o=>obtain⟨o',e'⟩:=x1.live _ _ z;replace e':=A9.symm.trans e';injection e'
 have Td:s.heap.get? dd=none:=by
  cases z:s.heap.get? dd with
  |none=>rfl
  |some o=>obtain⟨o',e'⟩:=x1.live _ _ z;replace e':=ng.symm.trans e';injection e'
 have Kj:W.h₀.get? it=none:=by
  cases z:W.h₀.get? it with
  |none=>rfl
  |some o=>have:=S.heap.base _ _ z;replace this:=h0.symm.trans this;injection this
 have QV:b8 n ⟨a.A,compEnvC fj (jX a.env.cells fj.names []) C a.env,a.l⟩:=⟨⟨ok.hand,ok.frames,ok.depth,ok.units⟩,ok.head,rZ.kind,ok.glob,ok.blt⟩;have F2:=A7 ok rZ S1.heap F1 hk A9 ng (Ne.symm N3) wX;obtain⟨oit,Km,_⟩:=I1.fields;have VH:it∉bH (cF.hide dd):=λhm=>by
  rcases lA.mp hm with z |z
  .rw[z] at Km;replace Km:=ng.symm.trans Km;injection Km
  .exact A3 z
 let X:g8:=⟨a,Z,s,fj,C,dd,it,jN fr dq,t,test,fe,K,E⟩
 have H:rd n X iw kj p8:=⟨ok,QV,VS,Td,Kj,h0,N3,ht,CB fr,jr,he⟩;have QX :∀s4:Shared,s4.heap=gb->s4.gens=s1.gens->s4.os=s1.os->
   codeAny bQ a.A (.compLoop (.ListComp iw [⟨kj,iter,p8,0⟩] fj pos) 0 (.ref it) (.ref dd) (yE a fj C))
    (λr s'=>match r with |.ok _=>G (.ref dd) C s' |.error _=>False) s4:=λs4 QY hg4 ho4=>
  DW (X:=X) (DX H (hG C dd)) vs.length
   ⟨vs,bq,cF.hide dd,[],#[],0,rfl,by exact rr x1.eE rfl,St.mk (rl QY<|S1.heap.hide hk ng ⟨_,VX,rfl⟩) (hg4.trans S1.gens) (ho4.trans S1.os),by exact rl QY<|F2,
    by exact rl (Ki x1.eE)<|rl QY<|x1.of0.trans (cE.of_keeps hk),VH,by exact rl QY<|I1.vm A3 (hU.hide hk ng),by exact rl QY<|VX,.nil,p1⟩
 exact codeAny_compStart_list (QX _ rfl rfl rfl) (DS (I1.vm A3 (hU.hide hk ng)) (QX _ rfl rfl rfl))
theorem CompEnd.fin {C dd:Addr}{items:Array Value}(c:CompEnd a Z s C dd f9 us bB s' items nn){Dw:Heap}(rf:Heap.SameBut C s'.heap Dw) :
  gO f9 bB Dw/\cE [] Z s.heap (f9.un Z.eE) Dw/\Dw.get? dd=some ⟨.type "list",none,.seq items nn,#[]⟩/\aD f9 Dw us items.toList:=by
 refine cq λG hG=>?_;obtain⟨m,hm⟩:=c.ns;obtain⟨oC,eC,qC⟩:=Ns.soft hm;have hq :∀o,s'.heap.get? C=some o->bI o=true:=λo e=>by rw[eC] at e;injection e with e;subst e;exact qC
 have Tg:=c.st.heap.but c.apart c.base hq rf;refine hG ?_;refine⟨Tg,(c.ext.side (λb o dg e=>SameBut.get rf e dg) c.DU).drop λb o e hm=>?_,SameBut.get rf c.at_ c.ne,c.ef.eN (hU.but rf hq)⟩;rw[dM hm,c.DU] at e;injection e
theorem pA {dd:Addr}(S:gO f9 U h)(hh:f9.eE=dd::H):dd∉bH (f9.un H):=by
 have nd:=S.nodup;unfold bH at nd;rw[hh] at nd;rw[List.nodup_append] at nd;intro hm;rcases cB.mp hm with z |z
 .exact nd.2.2 dd z dd (eG ..) rfl
 .exact(List.nodup_cons.mp nd.2.1).1 z
theorem cp {iw iter kj:Expr}{p8:List Expr}{t:kR}(hi:pd n sc iter fi)(rZ:jY fj sc dq)(ht:vo n (iP fj sc) kj t)(CB:lC t dq)(jr:wW n (iP fj sc) test p8)(he:cm n (iP fj sc) iw fe)(hs :∀(env:Env) x,foldedSetIterable iter env x=pure x) :
  cm n sc (.ListComp iw [⟨kj,iter,p8,0⟩] fj pos) (bO dq t fi test fe):=by
 intro a ok bJ Z U fr s S F Q E p;subst bJ;have yI :∀x∈fj.names,x.2=.free->∃c,a.env.cells.lookup x.1=some c:=λx hx hk=>F.laid _ (rZ.free x hx hk);refine rl (eval_ListComp ..)<|wpAny_comprehension_free (use:=none) (cl:=jX a.env.cells fj.names []) rfl (hs a.env) (jF yI) rZ.kind rZ.locals (hi.bind ok rfl S F p λvs bq cF s1 it S1 F1 x1 h0 A3 I1 p1=>?_)
 have p2:b9 a Z s ((fz t test fe (jN fr dq) vs bq []).andThen λus bS=>.ok (us,bS) bS) (λu Z s=>KV Q (.list u.1) Z s) E:=by
  cases hr:fz t test fe (jN fr dq) vs bq [] with
  |ok us bB=>rw[hr] at p1;exact p1
  |exc c bB=>rw[hr] at p1;exact p1
  |stuck=>rw[hr] at p1;exact p1
 refine cA (vt (Q:=Q) (G:=λbh C s'=>∃m,s'.heap.Ns C m/\∀h',Heap.SameBut C s'.heap h'->Q bh {s' with heap:=h'}) rZ ht CB jr he ok S F S1 F1 x1 h0 A3 I1 p2 λC dd f9 us bB s' items nn c q=>?_) (λbh pn nc=>cA nc (λKl yG A8=>codeAny_mono A8 λr s' hr=>?_) λ_ _ h=>h) λ_ _ h=>h
 .obtain⟨m,hm⟩:=c.ns
  refine⟨m,hm,λDw rf=>?_⟩;obtain⟨Tg,X'',VY,r''⟩:=c.fin rf;exact q (f9.un Z.eE) {s' with heap:=Dw} (St.mk (Tg.un c.eE) c.st.gens c.st.os) X'' _ (.list VY rfl rfl (pA Tg c.eE) (r''.un c.eE))
 .cases r with
  |ok f=>exact hr
  |error x=>exact hr.elim
end
section
variable {D:List Addr}
theorem FS.but {C:Addr}(F0:FS a Fp mX h0)(hC:h0.get? C=none)(F:FS a fr Z h)(hs:Heap.SameBut C h h')(hq :∀o,h.get? C=some o->bI o=true):FS a fr Z h':=by
 have ne :∀b o,h0.get? b=some o->b≠C:=λb o e z=>by rw[z] at e;replace e:=hC.symm.trans e;injection e
 refine F.carry ⟨λb o hb e q n=>⟨n,o.slots,SameBut.get hs e ?_⟩,λb o hb e q n=>⟨n,o,SameBut.get hs e ?_,q⟩,λ_ _ r=>r.eN (hU.but hs hq)⟩
 .rcases hb with rfl|⟨x,hx⟩
  .exact let ⟨_,⟨_,_,_,e,_⟩,_⟩:=F0.ns;ne _ _ e
  .exact let ⟨_,_,_,_,e,_⟩:=F0.cells x b hx;ne _ _ e
 .obtain⟨e1,he,hf⟩:=List.mem_filterMap.mp hb
  exact let ⟨_,L,_,Yn,_,_,e,_⟩:=F0.live e1 he;Option.some.inj (Yn.symm.trans hf)▸ne L _ e
theorem gw {iw iter kj:Expr}{p8:List Expr}{t:kR}{y:Str}{py QZ:Pos}(hi:pd n sc iter fi)(rZ:jY fj sc dq)(ht:vo n (iP fj sc) kj t)(CB:lC t dq)(jr:wW n (iP fj sc) test p8)(he:cm n (iP fj sc) iw fe)(hs :∀(env:Env) x,foldedSetIterable iter env x=pure x)(hyi:i<W.nN)(hy:W.nm i=y)(VR:sc.names.lookup y=some .local)(VZ :∀env:Env,env.scope=sc->swapsWith (.ListComp iw [⟨kj,iter,p8,0⟩] fj pos) (some (.Name y py)) QZ.line env=pure true) :
  jT n sc (.Assign [.Name y py] (.ListComp iw [⟨kj,iter,p8,0⟩] fj pos) QZ) (aB (az i) (bO dq t fi test fe)):=by
 intro a ok bJ Z U fr s S F Q E p;refine cq λG hG=>?_;have V0:=VZ a.env bJ;subst bJ;have yI :∀x∈fj.names,x.2=.free->∃c,a.env.cells.lookup x.1=some c:=λx hx hk=>F.laid _ (rZ.free x hx hk);refine hG ?_;refine rl (exec_Assign_Name_used _ _ _ _ V0)<|wb (wpAny_standAt (wb ?_))
 have p0:fO a Z s (ct fi (λvs fr bq=>match fz t test fe (jN fr dq) vs bq [] with |.ok us bB=>.next (aE fr i (.list us)) bB |.exc c bB=>.exc c fr bB |.stuck=>.stuck) fr U) Q E:=by
  unfold aB ct bO az at p;unfold ct
  cases hf:fi fr U with
  |stuck=>rw[hf] at p;exact p
  |exc c bB=>rw[hf] at p;exact p
  |ok vs bq=>
   rw[hf] at p;simp only[Res.andThen] at p ⊢
   cases hr:fz t test fe (jN fr dq) vs bq [] with
   |ok us bB=>simp only[hr] at p ⊢;exact p
   |exc c bB=>simp only[hr] at p ⊢;exact p
   |stuck=>simp only[hr] at p ⊢;exact p
 refine wb (cA (wpAny_comprehension_free (use:=some (PySem.assign (.Name y py) a.env)) (Q:=λ_ s'=>Q .next s') (cl:=jX a.env.cells fj.names []) rfl (hs a.env) (jF yI) rZ.kind rZ.locals
  (hi.i9 ok rfl S F p0 λvs bq cF s1 it S1 F1 x1 h0 A3 I1 p1=>?_)) (λ_ s' hq=>av (av hq)) λ_ _ e=>e)
 have p2:b9 a Z s ((fz t test fe (jN fr dq) vs bq []).andThen λus bS=>.ok (us,bS) bS)
   (λu bK _=>∀s3,St bK u.2 s3->cE a.D Z s.heap bK s3.heap->FS a (aE fr i (.list u.1)) bK s3.heap->Q .next s3) E:=by
  cases hr:fz t test fe (jN fr dq) vs bq [] with
  |ok us bB=>
   rw[hr] at p1;exact λbK s' _ _ s3 S' x' F'=>p1 bK s3 S' x' F'
  |exc c bB=>rw[hr] at p1;exact λbK s' e B T x=>p1 bK s' e B (.inl T) x.of0 (F.ext (x.ext (T.elim (·.2.2.1) (·.2.2.1))))
  |stuck=>rw[hr] at p1;exact p1
 refine cA (vt (Q:=λ_ s'=>Q .next s') (G:=λbh C s'=>wpAny bQ a.A (PySem.assign (.Name y py) a.env bh) (λ_ uX=>∃m,uX.heap.Ns C m/\∀h',Heap.SameBut C uX.heap h'->Q .next {uX with heap:=h'}) E s') rZ ht CB jr he ok S F S1 F1 x1 h0 A3 I1 p2
  λC dd f9 us bB s' items nn c q=>?_) (λbh pn nc=>cA nc (λKl yG A8=>codeAny_mono A8 λr s' hr=>(by cases r with |ok f=>exact hr |error x=>exact hr.elim)) λ_ _ h=>h) λ_ _ h=>h
 refine cq λG hG=>?_;have x0:cE [] Z s.heap (f9.un Z.eE) s'.heap:=c.ext.drop λb o e hm=>by rw[dM hm,c.DU] at e;injection e
 have SU:St (f9.un Z.eE) bB s':=St.mk (c.st.heap.un c.eE) c.st.gens c.st.os;have FU:=F.ext x0;have rv:aH (f9.un Z.eE) s'.heap (.list us) (.ref dd):=.list c.at_ rfl rfl (pA c.st.heap c.eE) (c.ef.un c.eE);obtain⟨mC,hmC⟩:=c.ns;have Tc:C∉bH (f9.un Z.eE):=λhm=>c.apart (wV c.eE hm);refine hG ?_;refine wpAny_assign_Name (iG ok.kind rfl SU FU hyi hy VR rv λs2 S2 x2 F2=>?_);refine cq λG hG=>?_;obtain⟨m0,⟨oL,_,_,xX,_⟩,_⟩:=F.ns;have hCL:C≠a.env.locals:=λz=>by rw[<- z,c.DU] at xX;injection xX
 have Th:s2.heap.Ns C mC:=by
  obtain⟨o,es,ep,ho,hd,r⟩:=hmC;obtain⟨sl,e⟩:=x2.slot _ _ ho Tc (by simpa using hCL) (aR eJ hd);exact⟨_,es,ep,e,hd,r⟩
 refine hG ?_;refine⟨mC,Th,λh' rf=>?_⟩;refine cq λG hG=>?_;obtain⟨oC,eC,qC⟩:=Ns.soft Th;have hq :∀o,s2.heap.get? C=some o->bI o=true:=λo e=>by rw[eC] at e;injection e with e;subst e;exact qC
 have x3:cE a.D Z s.heap (f9.un Z.eE) h':=(x0.of0.trans (x2.weaken (by simp[Act.D]))).side (λb o dg e=>SameBut.get rf e dg) c.DU;refine hG ?_;exact q (f9.un Z.eE) s' SU x0 {s2 with heap:=h'} (St.mk (S2.heap.but Tc c.base hq rf) S2.gens S2.os) x3 (F.but c.DU F2 rf hq)
end
noncomputable def dB (r:uh):Res V:=match r with
 |.next _ U=>.ok .none U |.ret v U=>.ok v U |.exc c _ U=>.exc c U |.brk _ _=>.stuck |.stuck=>.stuck
def cx (params:List Nat)(g:MS)(vs:List V)(U:bw):Res V:=if vs.length=params.length then dB (g (params.zip vs) U) else .stuck
theorem Ba {kindOf:Str->Option NameKind}{x:Str} :∀(r:List (Str×Value)) (m:Str->Option Value),(∀y∈r,y.1≠x)->bindL kindOf r m x=m x:=by
 intro y
 induction y with
 |nil=>
  intro _ _;exact rfl
 |cons z0 r ih=>
  obtain⟨n,v⟩:=z0;intro m h;refine(ih _ λy hy=>h y (fE _ hy)).trans ?_;have hn:x≠n:=λz=>h (n,v) (eG ..) z.symm
  split
  .show(if x=n then some v else m x)=m x
   rw[ax hn]
  .rfl
theorem Bb {kindOf:Str->Option NameKind}{x:Str} :∀(r:List (Str×Value)) (m:Str->Option Value),(∀y∈r,y.1≠x)->bindC kindOf r m x=m x:=by
 intro y
 induction y with
 |nil=>
  intro _ _;exact rfl
 |cons z0 r ih=>
  obtain⟨n,v⟩:=z0;intro m h;refine(ih _ λy hy=>h y (fE _ hy)).trans ?_;have hn:x≠n:=λz=>h (n,v) (eG ..) z.symm
  split
  .rfl
  .show(if x=n then some v else m x)=m x
   rw[ax hn]
section
variable {D:List Addr}
theorem Gy {kindOf:Str->Option NameKind} :∀{ps:List Nat} {vs:List V} {ms:List Value} {j:Nat} {v:V},aD Z h vs ms->ps.Nodup->(∀p∈ps,p<W.nN)->(ps.zip vs).lookup j=some v->
  ∃mv,aH Z h v mv/\j∈ps/\(kindOf (W.nm j)=some .local->∀m,bindL kindOf ((ps.map W.nm).zip ms) m (W.nm j)=some mv)/\(kindOf (W.nm j)≠some .local->∀m,bindC kindOf ((ps.map W.nm).zip ms) m (W.nm j)=some mv):=by
 intro ps
 induction ps with
 |nil=>intro vs ms j v _ _ _ e;simp at e
 |cons p ps ih=>
  intro vs ms j v r hn hp e;revert e;cases vs with
  |nil=>intro e;simp at e
  |cons u vs=>
  intro e;obtain⟨mu,ms,rfl,r1,r2⟩:=r.cons_inv;rw[List.nodup_cons] at hn;have AM :∀q∈(ps.map W.nm).zip ms,q.1≠W.nm p:=λq hq z=>by
   have:=(List.of_mem_zip hq).1;obtain⟨i,hi,ei⟩:=dz this;replace ei:=ei.trans z;exact hn.1 (ye _ _ (hp i (fE _ hi)) (hp p (eG ..)) ei▸hi)
  rw[List.zip_cons_cons] at e;replace e:=List.lookup_cons.symm.trans e;by_cases hj:j=p
  .subst hj
   simp at e;subst e;refine⟨mu,r1,eG ..,λhk m=>?_,λhk m=>?_⟩
   .simp only[List.map_cons,List.zip_cons_cons]
    refine(Ba _ _ AM).trans ?_;rw[aA hk];simp
   .simp only[List.map_cons,List.zip_cons_cons]
    refine(Bb _ _ AM).trans ?_;rw[ax hk];simp
  .simp only[beq_eq_false_iff_ne.mpr hj] at e
   obtain⟨mv,h1,h2,h3,h4⟩:=ih r2 hn.2 (λq hq=>hp q (fE _ hq)) e;exact⟨mv,h1,fE _ h2,λhk m=>by simp only[List.map_cons,List.zip_cons_cons];exact h3 hk _,λhk m=>by simp only[List.map_cons,List.zip_cons_cons];exact h4 hk _⟩
theorem jG :∀{names:List (Str×NameKind)} {k:Nat} {bh:List (Str×Addr)} {x:Str},((∃c,(x,c)∈bh)\/(x,NameKind.cell)∈names)->∃c,(x,c)∈cellsFrom k names bh:=by
 intro y
 induction y with
 |nil=>
  intro _ _ _ h;exact h.elim id λz=>nomatch z
 |cons z0 r ih=>
  obtain⟨y,kd⟩:=z0;intro k bh x h;unfold cellsFrom;by_cases hy :(kd == NameKind.cell)=true
  .refine rl (aA hy)<|ih ?_
   rcases h with ⟨c,h⟩ |h
   .exact .inl ⟨c,fE _ h⟩
   .rcases b7 h with h |h
    .injection h with e1 _;left;exact⟨k,by exact rl e1<|eG ..⟩
    .exact .inr h
  .refine rl (ax hy)<|ih ?_
   rcases h with h |h
   .exact .inl h
   .rcases b7 h with h |h
    .injection h with _ e2;rw[<- e2] at hy;exact absurd rfl hy
    .exact .inr h
theorem qM :∀{names:List (Str×NameKind)} {k:Nat} {bh:List (Str×Addr)},(names.map (·.1)).Nodup->bh.Pairwise (λx y=>x.1≠y.1)->(∀x∈bh,x.1∉names.map (·.1))->
  (cellsFrom k names bh).Pairwise λx y=>x.1≠y.1:=by
 intro y
 induction y with
 |nil=>
  intro _ _ _ h _;exact h
 |cons z0 r ih=>
  obtain⟨y,kd⟩:=z0;intro k bh hn h hd;rw[List.map_cons,List.nodup_cons] at hn;have Kd :∀x∈bh,x.1∉r.map (·.1):=λx hx z=>hd x hx (fE _ z);unfold cellsFrom;by_cases hy :(kd == NameKind.cell)=true
  .rw[aA hy]
   refine ih hn.2 ?_ ?_
   .rw[List.pairwise_cons]
    exact⟨λx hx z=>hd x hx (by rw[<- z];simp),h⟩
   .intro x hx
    rcases b7 hx with rfl |hx
    .exact hn.1
    .exact Kd x hx
  .rw[ax hy]
   exact ih hn.2 h Kd
theorem iM {l:List (Str×Addr)}(h:l.Pairwise λx y=>x.1≠y.1){x:Str}{c:Addr}(hm :(x,c)∈l):l.lookup x=some c:=by
 induction l with
 |nil=>cases hm
 |cons p l ih=>
  obtain⟨y,d⟩:=p;rw[List.pairwise_cons] at h;refine List.lookup_cons.trans ?_;rcases b7 hm with e |hm
  .injection e with e1 e2;subst e1 e2;simp
  .have:x≠y:=λz=>h.1 _ hm z.symm
   simp only[beq_eq_false_iff_ne.mpr this];exact ih h.2 hm
structure N5 (fd:FuncData)(body:List Stmt)(sc:Scope)(params:List Nat):Prop where
 body:fd.body=.stmts body
 scope:fd.scope=sc
 globals:fd.globals=mainGlobals
 closure:fd.closure=[]
 builtins:fd.builtins=builtinsNs
 code:codeIn W.K fd.code fd.qualname=true
 co:sc.isCoroutine=false
 gen:sc.isGenerator=false
 kind:sc.kind=.function
 names :(sc.names.map (·.1)).Nodup
 small :∀p∈params,p<W.nN
 nodup:params.Nodup
 kinds :∀p∈params,gG sc (W.nm p)=true
 bind :∀ms:List Value,ms.length=params.length->∀(M:Model) (A:Around) (Q:List (Str×Value)->Shared->Prop) (E:iN) (s:Shared),Q ((params.map W.nm).zip ms) s->wpAny M A (bindArgs fd ⟨ms,[]⟩) Q E s
theorem lD {x:Str}(h:gG sc x=true):sc.names.lookup x=some .local\/sc.names.lookup x=some .cell:=by
 simpa [gG] using h
theorem yJ (A6 :(A.deeper env).frames=some (env::l))(g9:env.frame=some env.locals)(T :(p6 (env::l) c bK bB s' e B\/AD (env::l) c bK bB s' e B)\/AE (env::l) c bK bB s' e B)(k :∀h',p6 l c bK bB {s' with heap:=h'} e B->B.StaysIn h'->s'.heap.UpToSlots h'->R (.error (.ref e)) {s' with heap:=h'}) :
  wpAny bQ (A.deeper env) (leaving env (.ref e)) (λ_ uX=>R (.error (.ref e)) uX) (λVG uX=>R (.error VG) uX) s':=by
 rcases T with (⟨g1,o1,SB,a0,R1⟩|⟨g1,o1,SB,QT,Gs,L',a0,Fs,vp,R1⟩)|⟨g1,o1,SB,oe,jM,a0,st,Q0,he,hc,Gz,N6,V1,ff⟩
 .exact wpAny_leaves_onW A6 g9 R1 λh' R' up=>k _ ⟨g1,o1,SB,a0,R'⟩ R'.1 up
 .injection Fs with e1 e2
  subst e1 e2;replace vp:=g9.symm.trans vp;injection vp with vp;subst vp;refine wb (wpAny_noteFrame_againW g9 R1.2.2.2 (wpAny_landsW R1 λh' R' up=>?_));refine cq λG hG=>?_;obtain⟨k1,k2,⟨_,_,k3⟩,k4⟩:=R';refine hG ?_;exact k _ ⟨g1,o1,SB,a0,k1,k2,k3,k4⟩ k1 up
 .refine wpAny_leaving_firstW A6 ff g9 he st Q0 Gz N6 V1 λh' hL=>?_
  refine cq λG hG=>?_;obtain⟨k1,⟨_,_,k2⟩,k3,k4⟩:=hL;rw[hc] at k3;refine hG ?_;exact k _ ⟨g1,o1,SB,a0,k1,Q0,k2,k3⟩ k1 k4
theorem sG {f:Addr}(hf:W.K.lookup f=some o)(hd:o.data=.func fd)(H:N5 fd body sc params)(room:rR (n+1) A l)(S:St Z U s)(L:iV l Z s.heap)(r:aD Z s.heap vs ms)(hlen:vs.length=params.length)(h :∀(env:Env) (s1:Shared),b8 n ⟨A.deeper env,env,env::l⟩->env.scope=sc->env.code=fd.code->env.frame=some env.locals->St Z U s1->FS ⟨A.deeper env,env,env::l⟩ (params.zip vs) Z s1.heap->cE [] Z s.heap Z s1.heap->
   (∀b o,s.heap.get? b=some o->b∉Act.D ⟨A.deeper env,env,env::l⟩)->(∀b o,s.heap.get? b=some o->(b∈nW (env::l)↔b∈nW l))->codeAny bQ A (.func body env) R s1):codeAny bQ A (.call (.ref f) ⟨ms,[]⟩) R s:=by
 have X:=S.heap.ok.X.keeps S.heap.base;have hms:ms.length=params.length:=by refine(Eq.symm (r.length)).trans ?_;exact hlen
 refine codeAny_call_function (by have:=room.depth;exact Nj this) (X _ _ hf) hd (rl H.scope<|H.co) (rl H.scope<|H.gen) H.body (codeRec_of X H.code) ?_
 refine rl H.closure<|H.bind ms hms _ _ _ _ _ ?_
 refine wpAny_newFunctionEnv_cells (rl H.scope<|H.kind) (λx hx=>?_) (λenv Bc s1 x1=>?_)
 .have PN:=(List.of_mem_zip hx).1
  obtain⟨i,hi,ei⟩:=dz PN;refine rl H.scope<|rr ei ?_
  rcases lD (H.kinds i hi) with h1 |h1
  .exact .inl h1
  .refine .inr ⟨h1,?_⟩
   obtain⟨c,hc⟩:=jG (k:=s.heap.objs.size+1) (bh:=[]) (.inr (mem_of_lookup h1));obtain⟨d,hd⟩:=mK hc;exact rl hd rfl
 .obtain⟨h1,tk,rfl⟩:=x1.toInCall.same
  have hk :∀b o,s.heap.get? b=some o->h1.get? b=some o:=x1.toInCall.keep;refine⟨S.heap.ok.T.nolimit.keeps λb o e=>hk _ _ (S.heap.base b o e),?_⟩;have nh:env.cells=cellsFrom (s.heap.objs.size+1) fd.scope.names []:=by exact rl Bc rfl
  have Kn:env.locals=s.heap.objs.size:=by exact rl Bc rfl
  have lE:env.scope=sc:=by exact rl Bc<|H.scope
  have g9:env.frame=some env.locals:=by exact rl Bc rfl
  have Q1:env.globals=mainGlobals:=by exact rl Bc<|H.globals
  have V2:env.builtins=builtinsNs:=by exact rl Bc<|H.builtins
  have Jv:s.heap.get? env.locals=none:=by exact rl Kn<|iX _
  have sH :∀x c,(x,c)∈env.cells->s.heap.get? c=none:=λx c hx=>by
   have h2:=x1.above x c hx
   cases z:s.heap.get? c with
   |none=>rfl
   |some o=>exact absurd (cI z) (Nat.not_lt.mpr (Nat.le_of_lt (cj x1.toInCall.fresh h2)))
  have jZ :∀b,s.heap.get? b=none->b∉bH Z/\W.h₀.get? b=none:=λb hb=>by
   refine⟨λhm=>?_,?_⟩
   .obtain⟨ob,e,_⟩:=S.heap.gK hm;replace e:=hb.symm.trans e;injection e
   .cases z:W.h₀.get? b with
    |none=>rfl
    |some o=>have:=S.heap.base _ _ z;replace this:=hb.symm.trans this;injection this
  obtain⟨S1,e1⟩:=S.kept (tk:=tk) hk;have Yo:=x1.toInCall.ns;obtain⟨oL,eL,qL⟩:=Ns.soft Yo;have Bd:env.cells.Pairwise λx y=>x.1≠y.1:=by
   exact rl nh<|qM (rl H.scope<|H.names) .nil (by simp)
  have L1:iV (env::l) Z h1:=λe he=>by
   rcases b7 he with rfl |he
   .exact⟨by refine rl lE<|rl H.kind ?_;decide,e.locals,oL,g9,(jZ _ Jv).1,(jZ _ Jv).2,eL,qL⟩
   .obtain⟨k,L',o,hf,hn,hb,ho,hs⟩:=L e he
    exact⟨k,L',o,hf,hn,hb,hk _ _ ho,hs⟩
  have ok:b8 n ⟨A.deeper env,env,env::l⟩:=by
   refine⟨⟨?_,Around.frames_deeper room.frames,?_,?_⟩,⟨env,l,env.locals,rfl,g9,g9⟩,?_,Q1,V2⟩
   .exact room.hand
   .have:=room.depth;refine(?_:A.depth+1+n<=990);exact Qp ‹_›
   .have:=room.units;refine(?_:A.units+3+40 * n+400<=cLine);exact Ni this
   .skip
    exact rl lE<|H.kind
  have F1:FS ⟨A.deeper env,env,env::l⟩ (params.zip vs) Z h1:=by
   refine⟨L1,⟨_,Yo,λj v ej=>?_⟩,(jZ _ Jv).1,(jZ _ Jv).2,λx c hx=>?_,x1.apart,λx hx=>?_⟩
   .obtain⟨mv,rv,hj,k1,k2⟩:=Gy (kindOf:=env.kindOf) (r.mono e1) H.nodup H.small ej
    refine⟨H.small j hj,?_⟩;unfold iD;rcases lD (H.kinds j hj) with h2 |h2
    .have Fq:env.kindOf (W.nm j)=some .local:=by rw[<- lE] at h2;exact h2
     exact rl Fq<|⟨mv,k1 Fq _,rv⟩
    .have Fq:env.kindOf (W.nm j)=some .cell:=by rw[<- lE] at h2;exact h2
     refine rl Fq ?_;obtain⟨c,hc⟩:=jG (k:=s.heap.objs.size+1) (bh:=[]) (.inr (mem_of_lookup h2));have hl:env.cells.lookup (W.nm j)=some c:=iM Bd (rl nh<|rl H.scope<|hc)
     refine⟨c,mv,hl,?_,rv⟩;have:=x1.cell _ c hl;rw[k2 (by refine rl Fq ?_;decide)] at this;exact this
   .have hl:=iM Bd hx
    exact⟨(jZ _ (sH x c hx)).1,(jZ _ (sH x c hx)).2,_,x1.cell _ c hl⟩
   .have Ke:sc.names.lookup x=some .cell:=by exact rr lE<|hx
    obtain⟨c,hc⟩:=jG (k:=s.heap.objs.size+1) (bh:=[]) (.inr (mem_of_lookup Ke));exact⟨c,iM Bd (rl nh<|rl H.scope<|hc)⟩
  have newD :∀b o,s.heap.get? b=some o->b∉Act.D ⟨A.deeper env,env,env::l⟩:=λb o e hm=>by
   rw[Act.D,List.mem_cons,List.mem_map] at hm;rcases hm with rfl|⟨q,hq,rfl⟩
   .replace e:=Jv.symm.trans e;injection e
   .replace e:=(sH q.1 q.2 hq).symm.trans e;injection e
  have nj :∀b o,s.heap.get? b=some o->(b∈nW (env::l)↔b∈nW l):=λb o e=>by
   unfold nW;refine rl List.filterMap_cons<|rl g9<|List.mem_cons.trans ?_
   exact⟨λz=>z.elim (λy=>by rw[y] at e;replace e:=Jv.symm.trans e;injection e) id,.inr⟩
  exact h env _ ok lE (rl Bc rfl) g9 S1 F1 e1 newD nj
theorem Ko {f:Addr}{g:MS}(hf:W.K.lookup f=some o)(hd:o.data=.func fd)(H:N5 fd body sc params)(hb:cb n sc body g) :
  aZ (n+1) f (cx params g):=by
 intro A l room Z U s vs ms S L r R p;unfold cx at p;by_cases hlen:vs.length=params.length
 case neg=>rw[ax hlen] at p;exact p.elim
 rw[aA hlen] at p;refine sG hf hd H room S L r hlen λenv s1 ok lE _ g9 S1 F1 e1 newD nj=>?_;refine codeAny_func (hb ⟨A.deeper env,env,env::l⟩ ok lE Z U (params.zip vs) _ S1 F1 _ _ ?_)
 cases hr:g (params.zip vs) U with
 |stuck=>rw[hr] at p;exact p.elim
 |brk bC bB=>rw[hr] at p;exact p.elim
 |next bC bB=>rw[hr] at p;exact λbK s' S' x' F'=>p bK s' .none S' ((e1.of0.trans x').drop λb o e hm=>absurd hm (newD b o e)) .none
 |ret v bB=>rw[hr] at p;exact λbK s' mv S' x' r'=>p bK s' mv S' ((e1.of0.trans x').drop λb o e hm=>absurd hm (newD b o e)) r'
 |exc c bC bB=>
  rw[hr] at p;intro bK s' e B T x' F';have fin :∀h',B.StaysIn h'->s'.heap.UpToSlots h'->gX [] (nW l) Z s.heap bK B h':=λh' st up=>((x'.pre e1.of0).up up st).drop λb o e=>⟨λhm=>absurd hm (newD b o e),nj b o e⟩;exact yJ (Around.frames_deeper room.frames) g9 T λh' T' st up=>p bK _ e B T' (fin h' st up)
end
def bW (g:List V->bw->Res V)(fs:List (ME V)):ME V:=(aS fs).bind λvs _ U=>g vs U
def aw (c m:Nat)(g:List V->bw->Res V)(fo:ME V)(fs:List (ME V)):ME V:=fo.bind λv fr U=>match ij U c v with
 |some (_,V3)=>if (V3.lookup m).isNone then ((aS fs).bind λvs _ U=>g (v::vs) U) fr U else .stuck
 |none=>.stuck
def sI (c:Nat)(g:List V->bw->Res V)(vs:List V)(U:bw):Res V:=(g (.ref U.length::vs) (U++[.inst c []])).andThen λv bB=>match v with |.none=>.ok (.ref U.length) bB |_=>.stuck
section
variable {D:List Addr}
theorem vu {f:Addr}(ok:b8 n a)(hg:aZ n f g)(S:St Z U s)(F:FS a fr Z s.heap)(r:aD Z s.heap vs ms)(p:bt a Z s (g vs U) Q E):wpAny bQ a.A (call (.ref f) ms) Q E s:=by
 refine wpAny_call (hg a.A a.l ok.torR Z U s vs ms S F.live r _ ?_)
 cases hr:g vs U with
 |ok v bB=>rw[hr] at p;exact λbK s' mv S' x' r'=>p bK s' S' x' mv r'
 |exc c bB=>rw[hr] at p;exact λbK s' e B T x=>p bK s' e B (.inl T) x
 |stuck=>rw[hr] at p;exact p
theorem cw {x:Str}{es:List Expr}{f:Addr}(hs:gy n sc es (aS fs))(hp:dc pos es)(hg:aZ n f g)(hk:keepIn W.K (.ref f)=true)(hx:sc.names.lookup x=some .globalImplicit)(e:nsIn W.K mainGlobals x=some (some (.ref f)))(hd :(x ==("__debug__" : Str))=false) :
  cm n sc (.Call (.Name x np) es [] pos) (bW g fs):=by
 intro a ok bJ Z U fr s S F Q E p;refine cq λG hG=>?_;subst bJ;refine hG ?_;refine Call_Name rfl (i4 ok S hx e hd ?_);refine callWith_of (P:=W.K.In) (rl (hp ..) rfl) (keeps_K hk) (c7 (hp _) (hs.bind ok rfl S F p λvs bS jn s2 ms S2 F2 x2 r2 p2=>⟨S.heap.ok.X.keeps S2.heap.base,?_⟩));exact vu ok hg S2 F2 r2 p2
structure GB (c:Nat)(x:Str)(f:Addr):Prop where
 find:findIn W.K (.ref (W.cls c)) x=some (some (.ref f))
 typ:typeIn W.K (.ref f)=some (.type "function")
 keep:keepIn W.K (.ref f)=true
theorem au {o:Expr}{x:Str}{es:List Expr}{fo:ME V}{f:Addr}{m:Nat}(ho:cm n sc o fo)(hs:gy n sc es (aS fs))(hp:dc pos es)(hg:aZ n f g)(hc:AH c)(hm:m<W.nN)(hx:W.nm m=x)(hf:GB c x f)(he :∀env:Env,∃pl:Sem Bool,eval (.Call (.Attribute o x Am) es [] pos) env =(do
   let ov <- eval o env
   standAt Am.atName
   let (f,first) <- holding [ov] (getMethod ov x pl)
   callWith pos f first (backTo pos (starEach es env)) [])) :
  cm n sc (.Call (.Attribute o x Am) es [] pos) (aw c m g fo fs):=by
 intro a ok bJ Z U fr s S F Q E p;refine cq λG hG=>?_;obtain⟨pl,he⟩:=he a.env;refine hG ?_;refine MethodCall_ (pl:=pl) (ho.bind ok bJ S F p λv bq cF s1 mv S1 F1 x1 r1 p1=>?_) he;dsimp only at p1
 cases F8:ij bq c v with
 |none=>rw[F8] at p1;exact p1.elim
 |some q=>
  refine cq λG hG=>?_;obtain⟨j,V3⟩:=q;rw[F8] at p1;dsimp only at p1;refine hG ?_;by_cases hl :(V3.lookup m).isNone=true
  .rw[aA hl] at p1
   refine cq λG hG=>?_;obtain⟨pp,rfl,Jw,uj,rfl,sl,od,ks,g1,g2,dd,al⟩:=wL S1.heap r1 F8;have I:InstAt s1.heap pp.1 ⟨.ref (W.cls c),some pp.2,.plain,sl⟩ (W.cls c) (some od):=⟨g1,rfl,rfl,g2⟩;have V4:=F7 hm al;rw[Option.isNone_iff_eq_none] at hl;rw[hl] at V4;have hv:valueAt ks (W.nm m)=none:=by
    cases z:valueAt ks (W.nm m) with
    |none=>rfl
    |some _=>rw[z] at V4;exact V4.elim
   refine hG ?_;refine method_fn (S.heap.ok.X.keeps S1.heap.base) I (plainGet_of hc.2).1 (plainGet_of hc.2).2 hf.find hf.typ (by show(lookIn x od).map _=_;exact rl (u7 dd)<|rr hx<|rl hv rfl) ?_
   refine callWith_of (P:=W.K.In) (rl (hp ..) rfl) (keeps_K hf.keep) (c7 (hp _) (hs.bind ok bJ S1 F1 p1 λvs bS jn s2 ms S2 F2 x2 r2 p2=>⟨S.heap.ok.X.keeps S2.heap.base,?_⟩));exact vu ok hg S2 F2 (.cons (r1.mono x2) r2) p2
  .rw[ax hl] at p1;exact p1.elim
theorem GC {fI:Addr}(hm:makesIn W.K (W.cls c)=true)(hi:findIn W.K (.ref (W.cls c)) "__init__" = some (some (.ref fI)))(hf:typeIn W.K (.ref fI)=some (.type "function"))(hg:aZ n fI g) :
  aZ (n+1) (W.cls c) (sI c g):=by
 intro A l room Z U s vs ms S L r R p;refine cq λG hG=>?_;have X:=S.heap.ok.X.keeps S.heap.base;obtain⟨hh,gg,dr,tk,os⟩:=s;refine hG ?_;refine make_core (makes_of X hm) (looks_findIn X hi) (λself=>bind_fn X self hf) (.inl rfl) ?_;refine cq λG hG=>?_;have k :∀b o,hh.get? b=some o->((hh.push emptyDict).push (instObj (W.cls c) hh.objs.size)).get? b=some o:=λb o e=>bR _ (bR _ e);have hx :((hh.push emptyDict).push (instObj (W.cls c) hh.objs.size)).get? (hh.objs.size+1)=some (instObj (W.cls c) hh.objs.size):=by
  have:=cC (o:=instObj (W.cls c) hh.objs.size) (hh.push emptyDict) rfl
  rwa [Heap.size_push] at this
 have hd :((hh.push emptyDict).push (instObj (W.cls c) hh.objs.size)).get? hh.objs.size=some emptyDict:=bR _ (cC _ rfl);have dd :((hh.push emptyDict).push (instObj (W.cls c) hh.objs.size)).DictOf (strKind W.prog W.w) hh.objs.size []:=
  ⟨emptyDict,#[],0,hd,⟨rfl,rfl,rfl⟩,rfl,λe he=>by simp at he,.nil,List.nodup_nil⟩
 obtain⟨S1,x1⟩:=S.heap.alloc (p:=(hh.objs.size+1,hh.objs.size)) (o':=.inst c []) k (iX _) ⟨⟨#[],hx⟩,[],dd,.nil⟩;have Q2:rR n (A.under (.builtin "type.__call__" ⟨.ref (W.cls c)::ms,[]⟩)) l:=by
  refine⟨room.hand,room.frames,?_,?_⟩
  .have:=room.depth;show A.depth+1+n<=990;exact Qp ‹_›
  .have:=room.units;show A.units+1+40 * n+400<=cLine;lia
 have hr :(Z.add (hh.objs.size+1,hh.objs.size)).objs[U.length]? = some (hh.objs.size+1,hh.objs.size):=by
  refine rr S.heap.len ?_;simp[dW.add]
 refine hG ?_;refine hg _ l Q2 _ (U++[.inst c []]) ⟨(hh.push emptyDict).push (instObj (W.cls c) hh.objs.size),gg,dr,tk,os⟩ (.ref U.length::vs) (.ref (hh.objs.size+1)::ms) (St.mk S1 S.gens S.os) (L.ext x1) (.cons (.ref (p:=(hh.objs.size+1,hh.objs.size)) hr) (r.mono x1)) _ ?_;unfold sI at p
 cases N7:g (.ref U.length::vs) (U++[.inst c []]) with
 |stuck=>rw[N7] at p;exact p.elim
 |exc c' bB=>rw[N7] at p;exact λbK s' e B T x=>p bK s' e B T (x.pre x1)
 |ok v bB=>
  rw[N7] at p;intro bK s' mv S' x' r';refine cq λG hG=>?_
  cases v <;> first |exact p.elim |skip
  cases r';refine hG ?_;exact⟨rfl,p bK s' _ S' (x1.trans x') (.ref (p:=(hh.objs.size+1,hh.objs.size)) (x'.get hr))⟩
end
def gY (f:ME V):ME V:=f.bind λv=>match v with |.int i=>ah (.int (-i)) |_=>ie
noncomputable def lF (k:DK):ME V:=λ_ U=>.ok (.ref U.length) (U++[.dict k []])
noncomputable def wY:MS:=λ_ _=>.stuck
section
variable {D:List Addr}
theorem lG {st:Stmt}:jT n sc st wY:=λ_ _ _ _ _ _ _ _ _ _ _ p=>p.elim
theorem eA {e:Expr}{f:ME V}(hf:cm n sc e f):cm n sc (.UnaryOp .USub e pos) (gY f):=by
 intro a ok bJ Z U fr s S F Q E p;refine wpAny_UnaryOp (hf.bind ok bJ S F p λv bq cF s1 mv S1 F1 x1 r1 p1=>?_);refine cq λG hG=>?_
 cases v <;> first |exact p1.elim |skip
 cases r1;refine hG ?_;exact P.neg_int (bt.val (s':={s1 with toks:=s1.toks+1}) p1 S1.fW (.refl ..) (.int _ _))
theorem yK {kd:DK}(S:St Z U s):St (Z.add (s.heap.objs.size,s.heap.objs.size)) (U++[.dict kd []]) {s with heap:=s.heap.push {cls:=.type "dict",data:=.dict #[]}}/\
   cE [] Z s.heap (Z.add (s.heap.objs.size,s.heap.objs.size)) (s.heap.push {cls:=.type "dict",data:=.dict #[]})/\
   aH (Z.add (s.heap.objs.size,s.heap.objs.size)) (s.heap.push {cls:=.type "dict",data:=.dict #[]}) (.ref U.length) (.ref s.heap.objs.size):=by
 have k :∀b o,s.heap.get? b=some o->(s.heap.push {cls:=.type "dict",data:=.dict #[]}).get? b=some o:=λ_ _ e=>bR _ e;have g :(s.heap.push {cls:=.type "dict",data:=.dict #[]}).get? s.heap.objs.size=some {cls:=.type "dict",data:=.dict #[]}:=cC _ rfl;obtain⟨S',x⟩:=S.heap.alloc (p:=(s.heap.objs.size,s.heap.objs.size)) (o':=.dict kd []) k (iX _) (by
  refine⟨rfl,?_⟩
  cases kd with
  |int=>exact⟨[],⟨_,#[],0,g,⟨rfl,rfl,rfl⟩,rfl,λe he=>by simp at he,.nil,List.nodup_nil⟩,.nil⟩
  |str=>exact⟨[],⟨_,#[],0,g,⟨rfl,rfl,rfl⟩,rfl,λe he=>by simp at he,.nil,List.nodup_nil⟩,.nil⟩
  |tup=>exact⟨[],⟨_,#[],0,g,⟨rfl,rfl,rfl⟩,rfl,rfl,λe he=>(nomatch he),List.nodup_nil⟩,.nil⟩)
 refine⟨St.mk S' S.gens S.os,x,.ref (p:=(s.heap.objs.size,s.heap.objs.size)) ?_⟩;refine rr S.heap.len ?_;simp[dW.add]
theorem gU (kd:DK):cm n sc (.Dict [] [] pos) (lF kd):=by
 intro a ok bJ Z U fr s S F Q E p;obtain⟨S',x',r'⟩:=yK (kd:=kd) S;exact wpAny_Dict_empty (bt.val p S' x' r')
end
noncomputable def Kp (c:Nat)(g:MS)(r:uh):uh:=match r with
 |.exc c' bC bB=>if c'=c then g bC bB else .stuck
 |r=>r
def DY (c:Nat)(f g:MS):MS:=λfr U=>Kp c g (f fr U)
section
variable {D:List Addr}
theorem yL {D:List Addr}{Q:Unit->Shared->Prop}(ok:b8 n a)(t:AE a.l c Z U s e B)(x:gX D F mX h0 Z B s.heap)(k :∀s',AD a.l c Z U s' e B->gX D F mX h0 Z B s'.heap->s.heap.UpToSlots s'.heap->Q () s'):wpAny bQ a.A (noteFrame (.ref e) a.env) Q E s:=by
 refine cq λG hG=>?_;obtain⟨fe,mF,L,hl,DT,hL⟩:=ok.head;have A6:a.A.frames=some (fe::mF):=by exact rr hl<|ok.frames
 have MI:noteFrame (.ref e) a.env=noteFrame (.ref e) fe:=by
  unfold noteFrame PySem.frameOf;exact rl hL<|rl DT rfl
 obtain⟨g,o,S,oe,vs,a0,st,Q0,he,hc,hd,h1,V1,ff⟩:=t;refine hG ?_;refine rl MI ?_;unfold noteFrame;refine rl DT<|aY (wpAny_field he hd h1 ?_)
 refine rl (ax (by decide)) ?_;rw[hl] at ff;refine wpAny_entryW A6 ff DT he st Q0 hd (Array.getElem?_eq_some_iff.mp h1).1 V1 λh' hN=>?_;refine cq λG hG=>?_;obtain⟨k1,k2,k3,k4⟩:=hN;rw[hc] at k3;refine hG ?_;exact k _ ⟨g,o,S,fe,mF,L,a0,hl,DT,by exact rl hl<|⟨k1,Q0,k2,k3⟩⟩ (x.up k4 k1) k4
theorem aD.up (k:h.UpToSlots h')(r:aD Z h vs ms):aD Z h' vs ms:=
 aD.rec (motive_1:=λv m _=>aH Z h' v m) (motive_2:=λvs ms _=>aD Z h' vs ms) .none .bool .int .str .ref
  (λh1 h2 h3 h4 _ ih=>let ⟨_,e⟩:=k _ _ h1 (λus z=>by rw[h3] at z;injection z);.tup e h2 h3 h4 ih) (λh1 h2 h3 h4 _ ih=>let ⟨_,e⟩:=k _ _ h1 (λus z=>by rw[h3] at z;injection z);.list e h2 h3 h4 ih) .nil (λ_ _ a b=>.cons a b) r
theorem aH.up (k:h.UpToSlots h')(r:aH Z h v m):aH Z h' v m:=by
 cases aD.up k (.cons r .nil) with |cons a _=>exact a
theorem Kq (k:h.UpToSlots h'){b:Addr}(e:h.get? b=some o)(q:bI o=true) :∃sl,h'.get? b=some {o with slots:=sl}:=k b o e λvs z=>Bool.noConfusion (show false=true from(aR eJ z).symm.trans q)
theorem FS.up (F:FS a fr Z h)(k:h.UpToSlots h'):FS a fr Z h':=F.carry (.of (λ_ _ e q n=>⟨n,Kq k e q⟩) λ_ _ r=>r.up k)
variable {nm qn:Str}{N:Addr}{bs bm:List Value}{sn:List Str}{sub:List Value}{ab:Bool}{k0 k1 k2 k3 k5:Option Value}
noncomputable def wZ (sc:Scope)(hs:List Stmt)(g:MS):Prop:=∀(a:Act) (A:Around) (Z:dW) (U:bw) (fr:eY) (s:Shared) (Q:Flow->Shared->Prop) (E E':iN),a.env.scope=sc->a.env.scope.kind=.function->St Z U s->FS a fr Z s.heap->
 fO a Z s (g fr U) Q E->wpAny bQ A (execs hs a.env) Q E' s
theorem uq {rp:Pos}:wZ sc [.Return (some (.Constant (.bool true) kk kp)) rp] (λ_ U=>.ret (.bool true) U):=
 λ_ _ Z _ _ s _ _ _ _ _ S _ p=>wpAny_execs_cons (wpAny_Return_some (av (p Z s (.bool true) S (.refl ..) (.bool true))))
theorem ur {y:Str}{yp:Pos}(hi:i<W.nN)(hy:W.nm i=y)(hk:sc.names.lookup y=some .local):wZ sc [.Assign [.Name y yp] (.Constant .none kk kp) pos] (λfr U=>.next (aE fr i .none) U):=
 λ_ _ Z _ _ s _ _ _ bJ VL S F p=>wpAny_execs_cons (wpAny_Assign_Name (av (iG VL bJ S F hi hy hk .none λs' S' x' F'=>wpAny_execs_nil (p Z s' S' (x'.weaken (by simp[Act.D])) F'))) rfl)
theorem GD {b0:Stmt}{g:MS}{r:uh}{x:Str}{uk:Pos}{Q:Flow->Shared->Prop}(ok:b8 n a)(hb :∀(Q:Flow->Shared->Prop) (E:iN),fO a Z s r Q E->wpAny bQ a.A (execs body a.env) Q E s)(hg:wZ a.env.scope (b0::x8) g)(hx:a.env.scope.names.lookup x=some .globalImplicit)(e:nsIn W.K mainGlobals x=some (some (.ref (W.cls c))))(hd :(x ==("__debug__" : Str))=false)(hK:W.K.lookup (W.cls c)=some (excClassObj nm qn (W.cls c) N bs bm Ng sn sub ab col dd k0 k1 k2 k3 k5 Fz))(mJ:bm.contains (.type "BaseException")=true)(p:fO a Z s (Kp c g r) Q E) :
  wpAny bQ a.A (exec (.Try body [.ExceptHandler (some (.Name x np)) none (b0::x8) uk] [] [] pos) a.env) Q E s:=by
 unfold Kp at p;refine wpAny_Try_except (hb _ _ ?_);revert p;cases r with
 |next bC bB=>intro p;exact λbK s' S' x' F'=>wpAny_execs_nil (p bK s' S' x' F')
 |brk bC bB=>intro p;exact p
 |ret v bB=>intro p;exact p
 |stuck=>intro p;exact p
 |exc c' bC bB=>
  intro p;dsimp only at p;by_cases hc:c'=c
  .subst hc
   rw[aA rfl] at p;intro bK s' ea B T x' F';have GF :∀s4,AD a.l c' bK bB s4 ea B->gX a.D (nW a.l) Z s.heap bK B s4.heap->s'.heap.UpToSlots s4.heap->wpAny bQ a.A (setFlight (.ref ea) none) (λ_ pn=>wpAny bQ a.A
     (handleBy (.ref ea) a.env [.ExceptHandler (some (.Name x np)) none (b0::x8) uk]) Q E pn) E s4:=by
    rintro s4 ⟨g,o,SB,QT,Gs,L',a0,Fs,vp,R⟩ x4 Ti;refine wpAny_landsW R λh5 Ak Q3=>?_;have x5:=x4.up Q3 Ak.1;obtain⟨ob,V5,V6⟩:=Ak.there;have st:W.h₀.StaysIn h5:=λb o e=>Ak.1 _ _ (SB.base b o e);refine wpAny_handleBy_cons (codeAny_handlers_test (Calls.Name_function_global ok.kind hx (Calls.loadGlobal_global (rl ok.glob<|SB.ok.T.g.keeps st) (mg_of SB.ok.X SB.ok.T.g e) ?_) hd)) (by intro q;injection q)
    have hC:=(SB.ok.X.keeps st) _ _ hK;refine wpAny_excMatches_sub_self hC V5 V6 mJ (codeAny_handlers_suite ?_);refine lands_againW Ak λh6 Q4 Yp=>?_;have x6:=(x5.up Yp Q4.1).ext SB;exact hg a _ bK bB bC {s4 with heap:=h6} _ E _ rfl ok.kind (St.mk (SB.keeps Q4.1) g o) (((F'.up Ti).up Q3).up Yp) (p.step x6)
   rcases T with T |T
   .exact Gr ok rfl T x' λs4 H4 x4 u4=>GF s4 H4 x4 u4
   .exact yL ok T x' λs4 H4 x4 u4=>GF s4 H4 x4 u4
  .rw[ax hc] at p;exact p.elim
theorem Be {b0:Stmt}{f g:MS}{x:Str}{uk:Pos}(hb:cb n sc body f)(hg:wZ sc (b0::x8) g)(hx:sc.names.lookup x=some .globalImplicit)(e:nsIn W.K mainGlobals x=some (some (.ref (W.cls c))))(hd :(x ==("__debug__" : Str))=false)(hK:W.K.lookup (W.cls c)=some (excClassObj nm qn (W.cls c) N bs bm Ng sn sub ab col dd k0 k1 k2 k3 k5 Fz))(mJ:bm.contains (.type "BaseException")=true) :
  jT n sc (.Try body [.ExceptHandler (some (.Name x np)) none (b0::x8) uk] [] [] pos) (DY c f g):=by
 intro a ok bJ Z U fr s S F Q E p;refine cq λG hG=>?_;subst bJ;refine hG ?_;exact GD ok (hb a ok rfl Z U fr s S F) hg hx e hd hK mJ p
end
section
open PySem.Calls PySem.Builtin.ObjectAttr
theorem lH:Slot "wrapper_descriptor" "__get__" "wrapper_descriptor.__get__":=.of (owner:="wrapper_descriptor") (n:="__get__") (by rw[typeLookup_type,builtinLookup_eq_fast];kernel_rfl) (by decide +kernel) (by decide +kernel) (by decide +kernel)
 (by first |exact .inl (by decide +kernel) |exact .inr (by decide +kernel)) (by rw[isSubtype_type];kernel_rfl)
theorem qN:entryFor table "wrapper_descriptor.__get__" = some Builtin.«wrapper_descriptor.__get__»:=entryFor_of_tree (by kernel_rfl)
theorem uu (a b c:Value):argsOk "wrapper_descriptor.__get__" ⟨[a,b,c],[]⟩:=by kernel_rfl
theorem w5:typeOf (.builtin "Exception.__init__")=pure (.type "wrapper_descriptor"):=by kernel_rfl
noncomputable def Bf:ClassData:={name:="LimitFault",bases:=[.ref 47],mro:=[.ref 72,.ref 47,.type "Exception",.type "BaseException",.type "object"],ns:=71,qualname:="LimitFault"}
noncomputable abbrev Q5:String:="Exception.__init__"
theorem MJ :(Value.ref 72::wA).contains (.type "Exception")=true:=by decide +kernel
theorem N8 :(Value.ref 72::wA).contains (.type "NameError")=false:=by decide +kernel
theorem N9 :(Value.ref 72::wA).contains (.type "AttributeError")=false:=by decide +kernel
theorem Oa :(Value.ref 72::wA).contains (.type "BaseException")=true:=by decide +kernel
theorem V7 :(Value.ref 72::wA).contains (.ref 72)=true:=by decide +kernel
noncomputable abbrev ja (m:Addr):Obj:={cls:=.ref 72,data:=.fields #[.ref m,.none,.none,.none,.bool false,.none]}
noncomputable abbrev seqObj (v:Value):Obj:={cls:=.type "tuple",data:=.seq [v].toArray}
def made (h:Heap)(v:Value):Heap:=(h.push (seqObj v)).push (ja h.objs.size)
theorem j0 {h:Heap}{v:Value}(b:Addr)(o:Obj)(e:h.get? b=some o) :(made h v).get? b=some o:=Heap.get?_push_of_some _ (Heap.get?_push_of_some _ e)
theorem yM {h:Heap}{v:Value} :(made h v).get? (h.objs.size+1)=some (ja h.objs.size):=by unfold made;heap_get
section
variable {h:Heap}{g:Array GenState}{d:Drawn}{t:Nat}{os:OsState}
theorem yN (hC:h.get? 72=some Mq)(hq:R (.ok (.ret (.ref (h.objs.size+1)))) ⟨made h mm,g,d,t,os⟩) :
  codeAny (model prog w) A (.builtin "Exception.__new__" ⟨[.ref 72,mm],[]⟩) R ⟨h,g,d,t,os⟩:=by
 have F:=PySem.F.excBase_Exception;have Yq:=F.ends;refine codeAny_builtinAt F.entry ?_;refine _root_.PySem.wpAt_bind ?_;refine _root_.PySem.wpAt_bind (_root_.PySem.wpAt_stack λp below=>_root_.PySem.wpAt_of_wpAny ?_)
 wp_walk
 refine _root_.PySem.wpAt_of_wpAny ?_;refine rl F.owner ?_
 repeat (first |with_reducible refine wpAny_madeHere_exc F.canon hC ?_ |with_reducible refine wpAny_loadPart_at hC ?_ | (with_reducible refine wpAny_isSubtype_exc hC ?_;first |rw[MJ] |rw[N9] |rw[N8]) |wp_step)
 exact rl (Heap.size_push ..)<|hq
end
section
variable {h:Heap}{g:Array GenState}{d:Drawn}{t:Nat}{os:OsState}
theorem uv {Q:Fin->Shared->Prop}(hC:h.get? 72=some Mq)(hi:Looks (model prog w) h (typeLookup (.ref 72) "__init__") (some (.ref 37)))(hb :∀self,Looks (model prog w) h (bindSpecial (.ref 37) self) (.ref 37,[self]))(yO:codeAny (model prog w) A (.call (.ref 37) ⟨[.ref (h.objs.size+1),mm],[]⟩) (λr s'=>match r with |.ok (.ret v)=>v=.none/\Q (.done (.ret (.ref (h.objs.size+1)))) s' |.error e=>E e s' |_=>False)
   ⟨made h mm,g,d,t,os⟩) :
  wpAny (model prog w) A (Builtin.«type.__call__» ⟨[.ref 72,mm],[]⟩) Q E ⟨h,g,d,t,os⟩:=by
 have F:=PySem.F.excBase_Exception
 repeat (first |with_reducible refine wpAny_loadPart_at hC ?_ |with_reducible refine wpAny_madeBy_exc hC ?_ |wp_step)
 refine codeAny_call_builtin_code (Code.quiet_builtin _ F.quiet) (wpAny_check_new_subU F (by decide +kernel:wA.contains _=true) .base hC ?_);refine yN hC ?_;have i1:=hi.keeps (j0 (v:=mm));have b1:=(hb (.ref (h.objs.size+1))).keeps (j0 (v:=mm));have hC1:=j0 (v:=mm) _ _ hC;have hg:=yM (h:=h) (v:=mm)
 repeat (first |with_reducible refine wpAny_loadPart_at hg ?_ | (with_reducible refine wpAny_isSubtype_exc hC1 ?_;rw[V7]) |wp_step)
 refine i1.at ?_;refine cP (aY (b1.at ?_));refine wb (wpAny_call (codeAny_mono yO λr s' z=>?_));rcases r with e | (v |_ |_ |_) <;> first |exact z |exact z.elim |skip
 obtain⟨rfl,z⟩:=z;exact av (av z)
theorem GG (hC:h.get? 72=some Mq)(hi:Looks (model prog w) h (typeLookup (.ref 72) "__init__") (some (.ref 37)))(hb :∀self,Looks (model prog w) h (bindSpecial (.ref 37) self) (.ref 37,[self]))(yO:codeAny (model prog w) (A.under (.builtin "type.__call__" ⟨[.ref 72,mm],[]⟩)) (.call (.ref 37) ⟨[.ref (h.objs.size+1),mm],[]⟩) (λr s'=>match r with |.ok (.ret v)=>v=.none/\Q (.ref (h.objs.size+1)) s' |.error e=>E e s' |_=>False)
   ⟨made h mm,g,d,t,os⟩) :
  wpAny (model prog w) A (call (.ref 72) [mm]) Q E ⟨h,g,d,t,os⟩:=by
 have f1:=_root_.PySem.tc_lookup;have f2':=_root_.PySem.tc_bind (.ref 72);have hT :(⟨h,g,d,t,os⟩:Shared).TypeIs (.ref 72) "type":=⟨_,hC,rfl⟩;refine wpAny_call (codeAny_of_tree ?_)
 repeat (any_goals (first |assumption |with_reducible refine wpAny_loadPart_at hC ?_ |wp_step))
 refine⟨rfl,?_⟩;refine codeAny_call_builtin_at (Code.quiet_builtin _ (by decide +kernel)) _root_.PySem.entry_typeCall (_root_.PySem.wpAny_check_type_call_sub hC (uv hC hi hb ?_));refine codeAny_mono yO λr s' z=>?_;rcases r with e | (v |_ |_ |_) <;> first |exact z |exact z.elim
end
section
variable {h:Heap}{g:Array GenState}{d:Drawn}{t:Nat}{os:OsState}
abbrev iy (x:Addr):Obj:={cls:=.type "method-wrapper",data:=.fields #[.builtin Q5,.ref x]}
noncomputable abbrev Bg (x:Addr):Obj:={cls:=.type "super",dict:=none,data:=.fields #[.ref 47,.ref x,.ref 72],slots:=#[]}
theorem Bh {x:Addr}{id:String}{Q:Fin->Shared->Prop}(eE:id=Q5)(hx:h.get? x=some ox)(Q6:ox.cls=.ref 72)(sJ:Looks (model prog w) h (isSubtype (.ref 72) (.type "Exception")) true)(hq:Q (.done (.ret (.ref h.objs.size))) ⟨h.push (iy x),g,d,t,os⟩) :
  wpAny (model prog w) A (Builtin.«wrapper_descriptor.__get__» ⟨[.builtin id,.ref x,.ref 72],[]⟩) Q E ⟨h,g,d,t,os⟩:=by
 subst eE;have e0 : ".".intercalate ("Exception.__init__".cutAt '.').dropLast = "Exception":=by decide +kernel
 repeat (first
  | (with_reducible refine wpAny_loadPart_at hx ?_;refine rl Q6 ?_)
  | (refine rl e0 ?_;with_reducible refine Looks.at sJ ?_)
  |wp_step
  |dsimp only)
 all_goals exact hq
theorem w6 {so x:Addr}{id:String}{Q7 l:List Value}{K:Frag}{name:Str}{Q:Fin->Shared->Prop}(eE:id=Q5)(u9:h.get? so=some (Bg x))(Aj:Looks (model prog w) h (opaqueClassAbove (.ref 72)) none)(hC:Looks (model prog w) h (mroOf (.ref 72)) Q7)(hl :(Q7.dropWhile (· != .ref 47)).drop 1=l)(X:K.In h)(hf:alongIn K name l=some (some (.builtin id)))(hx:h.get? x=some ox)(Q6:ox.cls=.ref 72)(sJ:Looks (model prog w) h (isSubtype (.ref 72) (.type "Exception")) true)(Q8:x≠72)(hn :(name ==("__class__" : Str))=false)(hq:Q (.done (.ret (.ref h.objs.size))) ⟨h.push (iy x),g,d,t,os⟩) :
  wpAny (model prog w) A (Builtin.«super.__getattribute__» ⟨[.ref so,.str name tk],[]⟩) Q E ⟨h,g,d,t,os⟩:=by
 have V8:=lH.lookup;have dg :(Value.ref x == Value.ref 72)=false:=by simp[Q8]
 have Ys :(⟨h,g,d,t,os⟩:Shared).TypeIs (.builtin id) "wrapper_descriptor":=by subst eE;exact w5
 have Dx :(Bg x).data=.fields #[.ref 47,.ref x,.ref 72]:=rfl;have f0 :(#[.ref 47,.ref x,.ref 72]:Array Value)[0]? = some (.ref 47):=rfl;have f1 :(#[.ref 47,.ref x,.ref 72]:Array Value)[1]? = some (.ref x):=rfl;have f2 :(#[.ref 47,.ref x,.ref 72]:Array Value)[2]? = some (.ref 72):=rfl
 repeat (first
  | (with_reducible refine wpAny_field u9 Dx f0 ?_) | (with_reducible refine wpAny_field u9 Dx f1 ?_) | (with_reducible refine wpAny_field u9 Dx f2 ?_)
  | (with_reducible refine ks_wpAny_notOpaque Aj ?_)
  | (with_reducible refine Looks.at hC ?_;refine rl hl ?_)
  | (refine ks_forIn_along X (λ_ _=>rfl) rfl ?_ hf)
  | (with_reducible refine wpAny_typeOf Ys ?_)
  | (with_reducible refine fF lH Ys qN ?_ (uu _ _ _))
  | (with_reducible refine Bh eE hx Q6 sJ ?_)
  | (with_reducible refine⟨_,rfl,?_⟩)
  | (simp only[hn,dg,Bool.or_false,Bool.false_eq_true,if_false])
  |wp_step
  |dsimp only)
 all_goals exact hq
theorem uw {so x:Addr}{K:Frag}{pl:Sem Bool}{Q:Value×List Value->Shared->Prop}(u9:h.get? so=some (Bg x))(Aj:Looks (model prog w) h (opaqueClassAbove (.ref 72)) none)(hC:Looks (model prog w) h (mroOf (.ref 72)) Bf.mro)(X:K.In h)(hf:alongIn K "__init__" wA.tail=some (some (.builtin Q5)))(hx:h.get? x=some ox)(Q6:ox.cls=.ref 72)(sJ:Looks (model prog w) h (isSubtype (.ref 72) (.type "Exception")) true)(Q8:x≠72)(hq:Q (.ref h.objs.size,[]) ⟨h.push (iy x),g,d,t+1,os⟩) :
  wpAny (model prog w) A (getMethod (.ref so) "__init__" pl) Q E ⟨h,g,d,t,os⟩:=by
 have V8:=PySem.F.ks_slot_super_ga.lookup;have V9:=PySem.F.ks_canon_super_ga;have hT :∀t',(⟨h,g,d,t',os⟩:Shared).TypeIs (.ref so) "super":=λ_=>⟨_,u9,rfl⟩;refine wb (wpAny_specialOf (hT _) V8 ?_);refine(?_:wpAny _ _ (if (Manifest.canonical "super.__getattribute__" != "object.__getattribute__")=true then _ else _) _ _ _);refine rl (aA V9)<|wb (wb (wpAny_mkText (cP (wb (wpAny_typeOf (hT _) (wb (wpAny_of_eq V8 ?_)))))))
 refine wb (wpAny_of_eq (show(if onTheHeap (.type "super") then typeLookup (.type "super") "__getattr__" else pure none)=pure none from rfl) ?_);refine wb (wpAny_attempt (cP ?_));refine wb (wpAny_of_eq (PySem.F.ks_slot_super_ga.bind _) ?_);refine cA (Q:=λv s'=>v=.ref h.objs.size/\s' =⟨h.push (iy x),g,d,t+1,os⟩) (E:=λ_ _=>False)
  (fF PySem.F.ks_slot_super_ga (hT _) PySem.F.ks_entry_super_ga (w6 rfl u9 Aj hC (l:=wA.tail) (by decide +kernel) X hf hx Q6 sJ Q8 (by decide) ⟨_,rfl,rfl,rfl⟩) (PySem.F.ks_gaArgs_super _ _)) (λv s' hv=>?_) λ_ _ z=>z.elim
 obtain⟨rfl,rfl⟩:=hv;exact av (av hq)
end
section
variable {h:Heap}{g:Array GenState}{d:Drawn}{t:Nat}{os:OsState}{b m:Addr}
theorem sL (hC:h.get? 72=some Mq)(hb:h.get? b=some (iy e))(he:h.get? e=some (ja m))(hq:R (.ok (.ret .none)) ⟨(h.push (seqObj mm)).update e (Obj.mapFields λx=>x.setIfInBounds 0 (.ref h.objs.size)),g,d,t,os⟩) :
  codeAny (model prog w) A (.call (.ref b) ⟨[mm],[]⟩) R ⟨h,g,d,t,os⟩:=by
 have F:=PySem.F.excBase_Exception;have Wa:=F.noStar;refine codeAny_of_tree ?_;refine wb (wpAny_load hb ?_);have hch:wpAny (model prog w) (A.under (Code.call (Value.ref b) {pos:=[mm]})) (checkBoundCall Q5 {pos:=[Value.ref e,mm]}) (λ_ s'=>s' =⟨h,g,d,t,os⟩) (λ_ _=>False) ⟨h,g,d,t,os⟩:=by
  unfold checkBoundCall;refine rl F.initKind<|rl F.initRow ?_;dsimp only
  refine rl (aA (by rfl)) ?_
  repeat (first |with_reducible refine wpAny_loadPart_at he ?_ |with_reducible refine wpAny_loadPart_at hC ?_ | (with_reducible refine wpAny_isSubtype_exc hC ?_;rw[MJ]) |wp_step)
  rfl
 repeat (first
  | (refine aY (cA hch (λ_ s' z=>?_) λ_ _ z=>z.elim);subst z)
  |wp_step)
 refine⟨plainId_quiet F.init.plain _,?_⟩;refine _root_.PySem.codeAny_builtinAt F.initEntry (_root_.PySem.wpAt_of_wpAny ?_);have Q9 :(h.push (seqObj mm)).get? e=some (ja m):=Heap.get?_push_of_some _ he;have Yt:[mm].length<=sizeLine:=by size_fits
 wp_walk
 exact hq
end
theorem GH (self:Value):refuseLoop self "__setattr__" Bf.mro=pure ():=by kernel_rfl
section
variable {K:Frag}{x m:Addr}
theorem Kr {name:Str}{v:Value}(X:K.In s.heap)(hx:s.heap.get? x=some (ja m))(hc:clsIn K 72=some Bf)(ht:takerIn K 72 name=some none)(h :∀h' dx,(∀b o,b≠x->s.heap.get? b=some o->h'.get? b=some o)->h'.get? x=some {ja m with dict:=some dx}->R (.ok (.ret .none)) {s with heap:=h',toks:=s.toks+1}) :
  codeAny (model prog w) A (.call (.builtin "object.__setattr__") ⟨[.ref x,.str name tk,v],[]⟩) R s:=by
 have SF:=PySem.F.store_object;have I:InstAt s.heap x (ja m) 72 none:=⟨hx,rfl,rfl,trivial⟩;have sub:Looks (model prog w) s.heap (isInstance (.ref x) (.type "object")) true:=I.type.andThen (looks_mroIn X (by unfold mroIn;exact rl hc rfl));refine codeAny_call_builtin SF.slot.plain SF.entry (@check_slot (model prog w) _ _ s "object.__setattr__" "object" "__setattr__" (.ref x) [.str name tk,v] [] _ SF.kind SF.split sub (SF.args (.ref x) (.str name tk) v) ?_);refine aT ht λattr ha hr=>?_;have hm:Looks (model prog w) s.heap (mroOf (.ref 72)) Bf.mro:=(looks_clsIn X hc).andThen .now;have L3:Looks (model prog w) s.heap (storeTaker? attr) none:=by
  cases attr with
  |none=>exact .now
  |some a=>
   refine dh hr λb hb hr=>?_;refine(looks_takesIn X hb).andThen ?_
   cases b with
   |true=>injection hr
   |false=>exact .now
 refine rl (osa_eq ..)<|rl (refuse_eq ..)<|wb (wb (I.type.here (aY (hm.here ?_))))
 refine rl (GH ..)<|av (wb (I.type.here (wb ((looks_findIn X ha).here (wb (L3.here ?_))))))
 refine wb (av (aY (aY (wpAny_loadPart hx (aY ((looks_clsIn X hc).here ?_))))));refine rl (show Bf.hasDict=true from rfl) ?_;obtain⟨hh,g,d,t,os⟩:=s;have PN:=Heap.get?_push_of_some emptyDict hx;have Wb :((hh.push emptyDict).update x λo=>{o with dict:=some hh.objs.size}).get? x=some {ja m with dict:=some hh.objs.size}:=Heap.get?_update_self _ PN rfl
 repeat (first |wp_step |dsimp only)
 have dg:x≠hh.objs.size:=Nat.ne_of_lt (Heap.lt_size hx);have Cx :((hh.push {cls:=Value.type "dict",data:=Data.dict #[]}).update x λo=>{o with dict:=some hh.objs.size}).get? hh.objs.size=some emptyDict:=by
  refine(Heap.get?_update_other _ _ dg).trans ?_;exact Heap.get?_push_size _ rfl
 refine wpAny_askSetting (av (aY (wpAny_mkText (aY (wpAny_loadPart Cx ?_)))));dsimp only;refine rl (ax (by rw[aRefKeyMayBeTheName_at];simp))<|wpAny_updatePart Cx ?_
 generalize hhs :(if name.cps.isEmpty=true then 0 else reduceHash ((model prog w).w.params.strHash name.cps))=Wc;refine cq λG hG=>?_;obtain⟨es,n,e',hz⟩ :∃es n,(Obj.putName name Wc (.str name t) v emptyDict).data=.dict es n/\es.size<=1:=by
  refine rl Obj.putName_eq ?_;unfold Obj.putNameByArray emptyDict;dsimp only;exact rl Array.findIdx?_empty<|⟨_,_,rfl,by simp⟩
 have g' :(((hh.push {cls:=Value.type "dict",data:=Data.dict #[]}).update x λo=>{o with dict:=some hh.objs.size}).update hh.objs.size (Obj.putName name Wc (.str name t) v)).get? hh.objs.size=some (Obj.putName name Wc (.str name t) v emptyDict):=
  Heap.get?_update_self _ Cx (Obj.isFreed_of_dict e')
 refine hG ?_;refine wb (wpAny_lookBehind g' (by exact rl e'<|pastItsLine_dict (by exact rl sizeLine_eq<|Nat.le_add_left_of_le hz)) ?_)
 refine av (h _ hh.objs.size (λb o hb e=>?_) ?_)
 .have NH:b≠hh.objs.size:=Nat.ne_of_lt (Heap.lt_size e)
  refine(Heap.get?_update_other _ _ NH.symm).trans ((Heap.get?_update_other _ _ hb.symm).trans ?_);exact Heap.get?_push_of_some _ e
 .refine(Heap.get?_update_other _ _ dg.symm).trans ?_
  exact Wb
end
section
theorem ux {u:Addr}{args:List (Bool×Sem Value)}(Ob:args.any (·.1)=false)(h:wpAny M A (evalArgs (.ref u) true args []) (λx fS=>fS.heap.get? u=some (iy e)/\wpAny M A (call (.ref u) x.pos x.kw) Q E fS) E s):wpAny M A (callWith pos (.ref u) [] args []) Q E s:=by
 refine wb (cP (cA h (λx fS gb=>wb (wpAny_standAt ?_)) λ_ _ x=>x));obtain⟨ho,yO⟩:=gb;refine rl Ob<|rl List.any_nil<|rl (Bool.or_false ..)<|wb (m:=keeperOf (.ref u)) ?_
 refine wb (wpAny_load ho ?_);refine av ?_;exact wb (cA yO (λr yB hr=>wb (cP (wpAny_point (av hr)))) λ_ _ x=>x)
end
abbrev Ra (L:Addr):Env:=ksEnv "HeapError.__init__" FE.scope L 37 (.ref 36) 25
theorem GI (env:Env) :∃pl:Sem Bool,eval (.Call (.Attribute JJ "__init__" ⟨8,8,8,24⟩) [.Name "what" ⟨8,25,8,29⟩] [] ⟨8,8,8,30⟩) env =(do
 let ov <- attributeBase JJ "__init__" env (eval JJ env)
 standAt (⟨8,8,8,24⟩:Pos).atName
 let (f,first) <- holding [ov] (getMethod ov "__init__" pl)
 callWith ⟨8,8,8,30⟩ f first (backTo ⟨8,8,8,30⟩ (starEach [.Name "what" ⟨8,25,8,29⟩] env)) []):=⟨_,rfl⟩
theorem Oc (a b:Value):bindArgs SW ⟨[a,b],[]⟩=pure [(("self" : Str),a),(("what" : Str),b)]:=by kernel_rfl
theorem Rb :(FE.params.posonlyargs++FE.params.args).head? = some ⟨"self",none,⟨7,17,7,21⟩⟩:=by kernel_rfl
theorem ExcAt.Yu {K:Frag}(F:ExcAt K):clsIn K 72=some Bf:=by unfold clsIn;exact rl F.Mr rfl
theorem ExcAt.mro {K:Frag}(F:ExcAt K)(b:Value)(e:Bf.mro.contains b=true):mroIn K 72 b=some true:=by unfold mroIn;exact rl F.Yu<|aR some e
theorem ExcAt.Rc {K:Frag}(F:ExcAt K) :∃o cd,K.lookup 47=some o/\o.data=.cls cd:=by
 obtain⟨cd,h⟩:=Option.isSome_iff_exists.mp F.c47;unfold clsIn at h
 cases ho:K.lookup 47 with
 |none=>rw[ho] at h;injection h
 |some o=>
  obtain⟨c,d,dat,sl⟩:=o;rw[ho] at h
  cases dat with
  |cls cd=>exact⟨_,cd,rfl,rfl⟩
  |_=>injection h
section
variable {m:Addr}
theorem GJ (hb:W.h₀.StaysIn s.heap)(he:s.heap.get? e=some (ja m))(ML:W.h₀.get? e=none)(GK:A.depth<recursionLimit)(O:SX)(F:ExcAt W.K)(h :∀h' t' oe vs a0,(∀b o,b≠e->s.heap.get? b=some o->h'.get? b=some o)->h'.get? e=some oe->oe.cls=.ref 72->oe.data=.fields vs->vs[1]? = some .none->vs[0]? = some a0->R (.ok (.ret .none)) {s with heap:=h',toks:=t'}) :
  codeAny bQ A (.call (.ref 37) ⟨[.ref e,mm],[]⟩) R s:=by
 have Yv:=F.Yu;have Od:FE.scope.names.lookup ("self" : Str)=some .local:=by decide +kernel
 have We:FE.scope.names.lookup ("what" : Str)=some .local:=by decide +kernel
 have Rd:FE.scope.names.lookup ("super" : Str)=some .globalImplicit:=by decide +kernel
 have Yw:FE.scope.names.lookup ("__class__" : Str)=some .free:=by decide +kernel
 have hk:FE.scope.kind=.function:=by decide +kernel
 obtain⟨vs,tf,h36,QK,Yx⟩:=F.o36;refine ks_codeAny_call_defAt (fd:=SW) (body:=Mp) (binds:=[("self",.ref e),("what",mm)])
  GK (O.X.keeps hb _ _ F.VB) rfl (O.T.nolimit.keeps hb) (codeRec_of (O.X.keeps hb) Yx) rfl (.of_eq (Oc _ _)) (show∀x∈FE.scope.names,x.2≠.cell by decide +kernel) (λx hx=>?_) (λgb Gk GL=>?_) (by decide +kernel) (by decide +kernel) hk
 .simp only[List.mem_cons,List.not_mem_nil,or_false] at hx
  rcases hx with rfl |rfl
  .exact Od
  .exact We
 have J3:W.h₀.StaysIn gb:=λb o z=>GL b o (hb b o z);have Wf:=GL _ _ he;have Yy:s.heap.objs.size≠e:=(Nat.ne_of_lt (Heap.lt_size he)).symm;have X1:=O.X.keeps J3;obtain⟨oL,es,ep,zL,rL⟩:=Gk;have ns :∀{h':Heap},h'.get? s.heap.objs.size=some oL->h'.Ns s.heap.objs.size λx=>List.lookup x [(("self" : Str),Value.ref e),("what",mm)].reverse:=λz=>⟨oL,es,ep,z,rL⟩;clear rL;generalize s.heap.objs.size=L at Yy ns zL ⊢;have kU:List.lookup ("self" : Str) [(("self" : Str),Value.ref e),("what",mm)].reverse=some (.ref e):=rfl;have Yz:List.lookup ("what" : Str) [(("self" : Str),Value.ref e),("what",mm)].reverse=some mm:=rfl;have hie:interactive (Ra L)=false:=by unfold interactive;exact rl (show(Ra L).scope.kind=.function from hk) rfl
 obtain⟨pl,PO⟩:=GI (Ra L);refine ks_wpAt_execs_cons (ks_wpAt_Expr_any (hi:=hie) (ks_wpAt_MethodCall (pl:=pl) (he:=PO) (ks_wpAt_super_base (env:=Ra L) Rd Yw (by decide) rfl (X1 _ _ F.VB) rfl Rb rfl (X1 _ _ h36) rfl QK (by refine rl (show W.prog=gn.row.prog from rfl) ?_;decide +kernel) (by refine rl (show W.prog=gn.row.prog from rfl) ?_;decide +kernel) ?_)));refine ks_loadName_global hk Rd (loadGlobal_builtin (env:=Ra L) (O.T.g.keeps J3) (mg_none_of O.X O.T.g F.sup) (O.T.b.keeps J3) ((O.T.builtins _ (by decide +kernel)).trans (by decide +kernel:bootBuiltins "super" = some (.type "super"))) ⟨rfl,?_⟩);refine wpAny_loadName_free hk Yw rfl ⟨_,X1 _ _ F.o25,rfl⟩ ?_;refine wpAny_loadName_local hk Od (ns zL) kU ?_;obtain⟨oD,cdD,MM,Rf⟩:=F.Rc;refine ks_wpAny_isType_cls (X1 _ _ MM) Rf ⟨rfl,?_⟩;refine ks_wpAny_call_super (X1 _ _ MM) Rf Wf rfl (λc z=>by cases z) (looks_mroIn X1 (F.mro _ (by decide +kernel))) (λh2 YA k2=>?_);have X2:=X1.keeps k2;have Tj:=k2 _ _ Wf;have Q8:e≠72:=λz=>by have q:=O.X _ _ F.Mr;rw[<- z] at q;replace q:=ML.symm.trans q;injection q
 refine uw YA (looks_opaque X2 F.thr) ((looks_clsIn X2 Yv).andThen .now) X2 (by kernel_rfl) Tj rfl (looks_mroIn X2 (F.mro _ (by decide +kernel))) Q8 ?_;have k3 :∀b o,gb.get? b=some o->(h2.push (iy e)).get? b=some o:=λb o z=>Heap.get?_push_of_some _ (k2 b o z);have Rg :(h2.push (iy e)).get? h2.objs.size=some (iy e):=Heap.get?_push_size _ rfl;have Wg:=k3 _ _ Wf;clear Tj YA k2;generalize h2.push (iy e)=h3 at Rg k3 Wg ⊢;generalize h2.objs.size=wa at Rg ⊢;refine ux (e:=e) (by rfl) (c7 (by rfl) (args_cons (wpAny_Name (wpAny_loadName_local hk We (ns (k3 _ _ zL)) Yz ?_) (by decide))));have k4 :∀b o,b≠e->gb.get? b=some o->((h3.push (seqObj mm)).update e (Obj.mapFields λx=>x.setIfInBounds 0 (.ref h3.objs.size))).get? b=some o:=λb o ML z=>by
  refine(Heap.get?_update_other _ _ ML.symm).trans ?_;exact Heap.get?_push_of_some _ (k3 b o z)
 have Wh :((h3.push (seqObj mm)).update e (Obj.mapFields λx=>x.setIfInBounds 0 (.ref h3.objs.size))).get? e=some (ja h3.objs.size):=by
  refine(Heap.get?_update_self _ (Heap.get?_push_of_some _ Wg) rfl).trans ?_;rfl
 refine args_nil ⟨Rg,wpAny_call (sL (X1.keeps k3 _ _ F.Mr) Rg Wg ?_)⟩;generalize (h3.push (seqObj mm)).update e (Obj.mapFields λx=>x.setIfInBounds 0 (.ref h3.objs.size))=h4 at k4 Wh ⊢;clear Rg;have X4:W.K.In h4:=O.X.keeps λb o z=>k4 b o (λq=>by rw[q] at z;replace z:=ML.symm.trans z;injection z) (J3 b o z);have N4:=ns (k4 _ _ Yy zL);refine ks_wpAt_execs_cons (ks_wpAt_Assign_Attr (wpAt_of_wpAny (wpAny_Name (wpAny_loadName_local hk We N4 Yz ?_) (by decide))));refine wpAny_Name (wpAny_loadName_local hk Od N4 kU ?_) (by decide);refine set_plain X4 (⟨Wh,rfl,rfl,trivial⟩:InstAt h4 e (ja h3.objs.size) 72 none) F.set (Kr (s:={s with heap:=h4,toks:=_}) X4 Wh Yv F.qS λh5 dx k5 he5=>?_);exact _root_.PySem.wpAt_of_wpAny (wpAny_execs_nil (h h5 _ _ _ _ (λb o Rh z=>k5 b o Rh (k4 b o Rh (GL b o z))) he5 rfl rfl rfl rfl))
end
structure Bi:Prop where
 run :∀(A:Around) (E:iN) (Q:iN) (s:Shared) (mm:Value),W.h₀.StaysIn s.heap->A.depth+2<recursionLimit->
  (∀h' t' e oe vs a0,(∀b o,s.heap.get? b=some o->h'.get? b=some o)->s.heap.get? e=none->h'.get? e=some oe->oe.cls=.ref 72->oe.data=.fields vs->vs[1]? = some .none->vs[0]? = some a0->
   Q (.ref e) {s with heap:=h',toks:=t'})->wpAny bQ A (call (.ref 72) [mm]) Q E s
theorem Oe (O:SX)(F:ExcAt W.K):Bi:=by
 refine⟨λA E Q s mm hb GK h=>?_⟩;have X:=O.X.keeps hb;obtain⟨hh,g,d,t,os⟩:=s;have k6:hh.get? (hh.objs.size+1)=none:=by
  cases z:hh.get? (hh.objs.size+1) with
  |none=>rfl
  |some o=>exact absurd (Heap.lt_size z) (Nat.not_lt.mpr (Nat.le_succ _))
 have ML:W.h₀.get? (hh.objs.size+1)=none:=by
  cases z:W.h₀.get? (hh.objs.size+1) with
  |none=>rfl
  |some o=>replace k6:=(hb _ _ z).symm.trans k6;injection k6
 refine GG (X _ _ F.Mr) (looks_findIn X F.ini) (λself=>bind_fn X self (show typeIn W.K (.ref 37)=some (.type "function") by refine(?_ :(W.K.lookup 37).map _=_);exact rl F.VB rfl)) ?_;refine GJ (s:=⟨made hh mm,g,d,t,os⟩) (λb o z=>j0 b o (hb b o z)) yM ML (by exact Nat.lt_of_succ_lt GK) O F λh' t' oe vs a0 keep he hc Dx h1 h0=>⟨rfl,?_⟩;exact h h' t' (hh.objs.size+1) oe vs a0 (λb o z=>keep b o (λq=>by rw[q] at z;replace z:=k6.symm.trans z;injection z) (j0 b o z)) k6 he hc Dx h1 h0
section
theorem DZ {x:Sem Value}{Q:Flow->Shared->Prop}(hh:A.handled=none)(h:wpAny M A x (λv fS=>∃e oe,v=.ref e/\fS.heap.get? 72=some Mq/\
   fS.heap.get? e=some oe/\oe.cls=.ref 72/\(∃vs,oe.data=.fields vs/\vs[1]? = some .none)/\E (.ref e) fS) E s) :
  wpAny M A (raiseStmt env (some x) none) Q E s:=by
 refine aY (cA h (λv fS gb=>?_) λ_ _ x=>x);refine cq λG hG=>?_;obtain⟨e,oe,rfl,hC,he,hc,⟨vs,Dx,QA⟩,hE⟩:=gb;obtain⟨hp,g,d,tk,os⟩:=fS;obtain⟨oc,od,oda,osl⟩:=oe;dsimp only at hc Dx;subst hc Dx;refine hG ?_
 repeat (first |with_reducible refine wpAny_loadPart_at he ?_ |with_reducible refine wpAny_loadPart_at hC ?_ | (with_reducible refine wpAny_isSubtype_exc hC ?_;rw[Oa]) |wp_step)
 refine rl QA<|av ?_
 exact rl (ax (by decide))<|av (wpAny_raiseNew_none hh hE)
end
noncomputable def kq (c:Nat):MS:=λfr U=>.exc c fr U
section
variable {h h':Heap}{D:List Addr}
theorem rg {L:Addr}:L∈nW l ↔∃e∈l,e.frame=some L:=by
 unfold nW;rw[List.mem_filterMap]
theorem iV.mem {L:Addr}(V:iV l Z h)(hm:L∈nW l):L∉bH Z/\W.h₀.get? L=none/\∃o,h.get? L=some o/\bI o=true:=by
 refine cq λG hG=>?_;obtain⟨e,he,hf⟩:=rg.mp hm;obtain⟨_,L',o,vp,hn,hb,ho,hs⟩:=V e he;replace vp:=hf.symm.trans vp;injection vp with vp;subst vp;refine hG ?_;exact⟨hn,hb,o,ho,hs⟩
theorem gO.Ri (S:gO Z U h)(V:iV l Z h):gO Z U (hideAll h (nW l)):=by
 have g :∀b o,h.get? b=some o->b∉nW l->(hideAll h (nW l)).get? b=some o:=λb o e dg=>hideAll_get _ e dg;have soft :∀b o,h.get? b=some o->bI o=false->b∉nW l:=λb o e q hm=>by
  obtain⟨_,_,o',ho,hs⟩:=V.mem hm;replace ho:=e.symm.trans ho;injection ho with ho;subst ho;replace q:=hs.symm.trans q;injection q
 have Ks :∀b,b∈bH Z->b∉nW l:=λb hb hm=>(V.mem hm).1 hb;have vm:hU Z h Z (hideAll h (nW l)):=⟨λ_ _ e=>e,λb o e hn q=>g b o e (soft b o e q),λ_ _ _ hn=>hn⟩;refine⟨λb o e=>g b o (S.base b o e) λhm=>(by replace e:=((V.mem hm).2.1).symm.trans e;injection e),S.ok,S.fresh,λb Kh=>?_,S.nodup,S.len,λi o p e e'=>?_⟩
 .obtain⟨ob,e,c⟩:=S.qE b Kh
  exact⟨ob,g _ _ e (Ks _ (cB.mpr (.inr Kh))),c⟩
 .exact(S.objs i o p e e').mono vm (λob z=>g _ _ z (Ks _ (eB e'))) λob z zs=>⟨ob.slots,g _ _ z (soft _ _ z zs)⟩
end
section
variable {h h':Heap}{D:List Addr}
theorem uy (h:bI o=true) :∀vs,o.data≠.fields vs:=λ_ q=>Bool.noConfusion (show false=true from(aR eJ q).symm.trans h)
theorem sM {h':Heap}{as:List Addr}(keep :∀b o,h.get? b=some o->h'.get? b=some o) :∀{l:List Env},iV l Z h->(∀L∈nW l,L∈as)->h'.FunFrames (hideAll h as) l:=by
 intro y
 induction y with
 |nil=>
  intro _ _;exact trivial
 |cons env l ih=>
  intro V Tn;refine cq λG hG=>?_;obtain⟨hk,L,o,hf,hn,hb,ho,hs⟩:=V env (.head _);refine hG ?_;refine⟨hk,⟨L,o,hf,hideAll_none _ (Tn L (rg.mpr ⟨env,.head _,hf⟩)),keep _ _ ho,uy hs⟩,ih (λe he=>V e (.tail _ he)) λL' hL'=>?_⟩;obtain⟨e,he,DT⟩:=rg.mp hL';exact Tn L' (rg.mpr ⟨e,.tail _ he,DT⟩)
theorem p9 {x:Str}{me:Expr}(hx:sc.names.lookup x=some .globalImplicit)(hc4:W.cls c=72)(e:nsIn W.K mainGlobals x=some (some (.ref 72)))(hd :(x ==("__debug__" : Str))=false)(hK:W.K.lookup 72=some Mq)(X:Bi)(hk:keepIn W.K (.ref 72)=true)(hp:dc qD [me])(he :∀env:Env,starEach [me] env =(false,eval me env)::starEach [] env)(hm :∀(a:Act),b8 n a->a.env.scope=sc->∀(Z:dW) (U:bw) (s:Shared),St Z U s->∀(Q:iN) (E:iN),(∀mv tk,Q mv {s with toks:=tk})->wpAny bQ a.A (eval me a.env) Q E s) :
  jT n sc (.Raise (some (.Call (.Name x np) [me] [] qD)) none pos) (kq c):=by
 intro a ok bJ Z U fr s S F Q E p;subst bJ;refine rl (arm_exec_Raise ..) ?_;refine wb (wpAny_standAt (DZ ok.hand ?_));refine wb (cA (Q:=λv s'=>∃e oe,v=.ref e/\s'.heap.get? 72=some Mq/\
   s'.heap.get? e=some oe/\oe.cls=.ref 72/\(∃vs,oe.data=.fields vs/\vs[1]? = some .none)/\E (.ref e) s') (Call_Name rfl (i4 ok S hx e hd ?_)) (λv s3 h3=>wb (wpAny_standAt (av h3))) λ_ _ x=>x)
 refine callWith_of (P:=W.K.In) (rl (hp ..) rfl) (keeps_K hk) (c7 (hp _) (args_cons (hm a ok rfl Z U s S _ _ λmv tk=>?_) (he _)));refine args_nil ⟨S.heap.ok.X.keeps S.heap.base,?_⟩;have S1:St Z U {s with toks:=tk}:=⟨S.heap,S.gens,S.os⟩;refine X.run _ _ _ _ _ S1.heap.base (by have:=ok.depth;exact UX this) λh' t' ea oe vs a0 keep new Q9 hc Dx h1 h0=>?_;have keep :∀b o,s.heap.get? b=some o->h'.get? b=some o:=keep;refine⟨ea,oe,rfl,keep _ _ (S.heap.ok.X.keeps S.heap.base _ _ hK),Q9,hc,⟨vs,Dx,h1⟩,?_⟩;have V:=F.live;have gB :∀b o,s.heap.get? b=some o->b∉nW a.l->(hideAll s.heap (nW a.l)).get? b=some o:=λb o e dg=>hideAll_get _ e dg;refine p Z _ ea (hideAll s.heap (nW a.l)) (.inr ⟨S.gens,S.os,S.heap.Ri V,oe,vs,a0,λb o z=>keep b o (of_hideAll _ z),?_,Q9,hc4▸hc,Dx,h1,h0,?_⟩) ?_ (F.ext (cE.of_keeps keep))
 .cases z :(hideAll s.heap (nW a.l)).get? ea with
  |none=>rfl
  |some o=>have:=of_hideAll _ z;replace this:=(show s.heap.get? ea=none from new).symm.trans this;injection this
 .exact sM keep V λ_ z=>z
 .have Ks :∀b,b∈bH Z->b∉nW a.l:=λb hb hm=>(V.mem hm).1 hb
  refine⟨⟨[],by simp,by simp⟩,rfl,λb hb o z=>gB _ _ z (Ks _ (cB.mpr (.inr hb))),λb o z _ q=>gB _ _ z λhm=>?_,λb o z _ _ _=>⟨o.slots,λhn=>gB _ _ z hn,λ_=>keep _ _ z⟩,
   λb o z _ q=>⟨o,q,λhn=>gB _ _ z hn,λ_=>keep _ _ z⟩,λb o z=>keep b o (of_hideAll _ z)⟩
  obtain⟨_,_,o',ho,hs⟩:=V.mem hm;replace ho:=z.symm.trans ho;injection ho with ho;subst ho;replace q:=hs.symm.trans q;injection q
end
end
section
theorem vv {s1 s2 x:Str}{i:Int}{t:Tok}{k1 k2:Nat}{q1 q2 q3 np pos:Pos}(hx:sc.names.lookup x=some .globalImplicit)(e:nsIn W.K mainGlobals x=some (some (.int i t)))(hd :(x ==("__debug__" : Str))=false)(hi:i.natAbs.log2<1920)(h1 :(Str.empty++s1).length<=sizeLine)(h2 :(Str.empty++s1++(toString i:String)).length<=sizeLine)(h3 :(Str.empty++s1++(toString i:String)++s2).length<=sizeLine) :
  ∀(a:Act),b8 n a->a.env.scope=sc->∀(Z:dW) (U:bw) (s:Shared),St Z U s->∀(Q:iN) (E:iN),(∀mv tk,Q mv {s with toks:=tk})->
   wpAny bQ a.A (eval (.JoinedStr [.Constant (.str s1) k1 q1,.FormattedValue (.Name x np) (-1) none q2,.Constant (.str s2) k2 q3] pos) a.env) Q E s:=by
 intro a ok bJ Z U s S Q E h;subst bJ;refine JoinedStr_many (joinParts_cons ?_);refine wpAny_mkText ⟨h1,joinParts_cons (FormattedValue_plain ?_)⟩;have S1:St Z U {s with toks:=s.toks+1}:=⟨S.heap,S.gens,S.os⟩;refine i4 ok S1 hx e hd (formatField_int_small hi ⟨h2,joinParts_cons (wpAny_mkText ⟨h3,joinParts_nil (h _ _) h3⟩)⟩)
end
section
open PySem.SetTable
noncomputable def kY (t:SetTable)(h:Int):Nat->Probe
 |0=>t.probeStart h
 |k+1=>t.advance (kY t h k)
theorem uz (t:SetTable)(p:Probe) :(t.advance p).dummy=p.dummy:=by
 unfold SetTable.advance
 split
 .rfl
 .rfl
theorem D0 (t:SetTable)(h:Int) :∀k,(kY t h k).dummy=none:=by
 intro y
 induction y with
 |zero=>
  exact rfl
 |succ k ih=>
  rw[kY,uz,ih]
theorem vw {h:Int}{hashAt:Nat->Int}{K:Nat}(hK:t.slot (kY t h K).j=.empty) :∀(jH k:Nat),k<=K->K - k<jH->(∀m,k<=m->m<K->∃i,t.slot (kY t h m).j=.live i)->
  SetTable.probe.go t hashAt h jH (kY t h k)=some (.empty (kY t h K).j none)\/
   ∃m i,k<=m/\m<K/\t.slot (kY t h m).j=.live i/\hashAt i=h/\SetTable.probe.go t hashAt h jH (kY t h k)=some (.candidate (kY t h m).j i (kY t h (m+1))):=by
 intro y
 induction y with
 |zero=>
  intro k _ hf _;exact absurd hf (Nat.not_lt_zero _)
 |succ jH ih=>
  intro k hk hf live;by_cases YB:k=K
  .subst YB
   left;rw[SetTable.probe.go,hK];simp only;rw[D0]
  .have eO:k<K:=by exact Nat.lt_of_le_of_ne hk YB
   obtain⟨i,hi⟩:=live k (Nat.le_refl _) eO;by_cases hh:hashAt i=h
   .right
    refine⟨k,i,Nat.le_refl _,eO,hi,hh,?_⟩;rw[SetTable.probe.go,hi];simp only[hh,beq_self_eq_true,if_true];rfl
   .have e:SetTable.probe.go t hashAt h (jH+1) (kY t h k)=SetTable.probe.go t hashAt h jH (kY t h (k+1)):=by
     rw[SetTable.probe.go,hi];have hb :(hashAt i == h)=false:=beq_eq_false_iff_ne.mpr hh;simp only[hb,Bool.false_eq_true,if_false];rfl
    rw[e];rcases ih (k+1) eO (XS hf eO) (λm h1 h2=>live m (Nat.le_of_succ_le h1) h2) with h1|⟨m,i',h1,h2,h3,h4,h5⟩
    .exact .inl h1
    .exact .inr ⟨m,i',by exact Nat.le_of_succ_le h1,h2,h3,h4,h5⟩
theorem Bj {h:Int}{K:Nat}(hK:t.slot (kY t h K).j=.empty)(nd :∀j,t.slot j≠.dummy) :∃K',K'<=K/\t.slot (kY t h K').j=.empty/\∀m,m<K'->∃i,t.slot (kY t h m).j=.live i:=by
 induction K using Nat.strongRecOn with
 |_ K ih=>
  by_cases hx :∃m,m<K/\t.slot (kY t h m).j=.empty
  .obtain⟨m,hm,he⟩:=hx
   obtain⟨K',h1,h2,h3⟩:=ih m hm he;exact⟨K',by exact q88 ‹_› ‹_›,h2,h3⟩
  .refine⟨K,Nat.le_refl _,hK,λm hm=>?_⟩
   cases z:t.slot (kY t h m).j with
   |empty=>exact absurd ⟨m,hm,z⟩ hx
   |dummy=>exact absurd z (nd _)
   |live i=>exact⟨i,rfl⟩
end
section
open PySem.SetTable
noncomputable def eH (t:SetTable)(h:Int):Nat->Nat
 |0=>bits h % (t.mask+1)
 |b+1=>(eH t h b * 5+1+bits h / 32 ^ b / 32) % (t.mask+1)
def kr (t:SetTable)(h:Int)(b r:Nat):Probe:={j:=eH t h b+r,more:=runEnd t.mask (eH t h b) - eH t h b - r,i:=eH t h b,perturb:=bits h / 32 ^ b,dummy:=none}
theorem Of (mask i:Nat):runEnd mask i - i<=9:=by
 unfold runEnd
 split <;>(first |exact q64 |lia)
theorem yP (t:SetTable)(h:Int)(b r:Nat)(hr:r<runEnd t.mask (eH t h b) - eH t h b):t.advance (kr t h b r)=kr t h b (r+1):=by
 refine(aA (Nat.zero_lt_sub_of_lt hr)).trans ?_;congr 1
theorem w7 (t:SetTable)(h:Int)(b:Nat):t.advance (kr t h b (runEnd t.mask (eH t h b) - eH t h b))=kr t h (b+1) 0:=by
 unfold SetTable.advance kr;refine(ax (by lia)).trans ?_;simp only[leap,eH,Nat.sub_zero,Nat.add_zero,Nat.pow_succ,Nat.div_div_eq_div_mul]
theorem Kt (t:SetTable)(h:Int)(b k:Nat)(e:kY t h k=kr t h b 0) :∀r,r<=runEnd t.mask (eH t h b) - eH t h b->kY t h (k+r)=kr t h b r:=by
 intro y
 induction y with
 |zero=>
  intro _;exact e
 |succ r ih=>
  intro hr;rw[show k+(r+1) =(k+r)+1 from rfl,kY,ih (Nat.le_of_succ_le hr),yP _ _ _ _ (Nat.lt_of_succ_le hr)]
theorem GN (t:SetTable)(h:Int) :∀b,∃k,k<=10 * b/\kY t h k=kr t h b 0:=by
 intro y
 induction y with
 |zero=>
  exact⟨0,Nat.le_refl _,by simp[kY,SetTable.probeStart,kr,eH]⟩
 |succ b ih=>
  refine cq λG hG=>?_;obtain⟨k,hk,e⟩:=ih;refine hG ?_;refine⟨k+(runEnd t.mask (eH t h b) - eH t h b)+1,?_,?_⟩
  .have:=Of t.mask (eH t h b);exact q70 ‹_› ‹_›
  .rw[kY,Kt t h b k e _ (Nat.le_refl _),w7]
theorem Ku (h:Int):bits h<2 ^ 64:=by
 have h1:=Int.emod_nonneg h (show(2 ^ 64:Int)≠0 by decide);have h2:=Int.emod_lt_of_pos h (show(0:Int)<2 ^ 64 by decide);exact(Int.toNat_lt h1).mpr h2
theorem D3 (h:Int){b:Nat}(hb:13<=b):bits h / 32 ^ b=0:=by
 refine Nat.div_eq_of_lt (Nat.lt_of_lt_of_le (Ku h) ?_)
 calc 2 ^ 64<=32 ^ 13:=by decide
  _<=32 ^ b:=Nat.pow_le_pow_right (by decide) hb
noncomputable def PQ (mask i:Nat):Nat->Nat
 |0=>i
 |m+1=>(PQ mask i m * 5+1) % (mask+1)
theorem D4 (t:SetTable)(h:Int) :∀m,eH t h (13+m)=PQ t.mask (eH t h 13) m:=by
 intro y
 induction y with
 |zero=>
  exact rfl
 |succ m ih=>
  rw[show 13+(m+1) =(13+m)+1 from rfl,eH,D3 h (Nat.le_add_right 13 m),ih,PQ]
theorem GO :∀i<8,∀j<8,∃m,m<8/\PQ 7 i m=j:=by decide +kernel
theorem D5 :∀i<32,∀j<32,∃m,m<32/\PQ 31 i m=j:=by decide +kernel
theorem yQ (hd:t.dummies=#[])(hj:j∉t.place.toList):t.slot j=.empty:=by
 unfold SetTable.slot;have h1 :¬((t.place[below t.place j]? == some j)=true):=λe=>by
  rw[beq_iff_eq] at e;exact hj (by rw[<- Array.mem_def];exact Array.mem_of_getElem? e)
 refine rl hd ?_;refine rl (ax h1) ?_;exact rl (ax (by simp[SetTable.has])) rfl
theorem Kv {mask:Nat} :∀(l:List Nat),l.length<=mask->∃j,j<=mask/\j∉l:=by
 intro l hl;by_cases hx :∃j,j<=mask/\j∉l
 .exact hx
 .exfalso
  have sub:List.range (mask+1) ⊆ l:=λj hj=>by
   by_cases hm:j∈l
   .exact hm
   .exact absurd ⟨j,by have:=List.mem_range.mp hj;exact Nat.le_of_lt_succ this,hm⟩ hx
  have:=(List.nodup_range (n:=mask+1)).length_le_of_subset sub;rw[List.length_range] at this;lia
theorem yR (hm:t.mask=7\/t.mask=31)(hd:t.dummies=#[])(hp:t.place.size<=t.mask)(h:Int) :∃K,K<10 * turns t.mask/\t.slot (kY t h K).j=.empty:=by
 refine cq λG hG=>?_;obtain⟨j,hj,Wi⟩:=Kv t.place.toList (by simpa using hp);have hi:eH t h 13<t.mask+1:=by exact rl (show(13:Nat)=12+1 from rfl)<|Nat.mod_lt _ (Nat.succ_pos _)
 obtain⟨m,hmm,hc⟩ :∃m,m<t.mask+1/\PQ t.mask (eH t h 13) m=j:=by
  rcases hm with e |e
  .rw[e] at hi hj ⊢;exact GO _ hi j (Nat.lt_succ_of_le hj)
  .rw[e] at hi hj ⊢;exact D5 _ hi j (Nat.lt_succ_of_le hj)
 obtain⟨k,hk,e⟩:=GN t h (13+m);refine hG ?_;refine⟨k,?_,?_⟩
 .unfold turns;exact U9 hmm hk
 .refine rl e ?_
  show t.slot (eH t h (13+m)+0)=_;exact rl (Nat.add_zero ..)<|rl (D4 ..)<|rl hc<|yQ hd Wi
end
set_option tactic.hygienic true
section
variable {a x:Addr}{k:List V}
theorem D6 (e:t.slot j=.live i):i<t.place.size:=by
 unfold SetTable.slot at e;dsimp only at e
 split at e
 .rename_i hc
  refine cq λG hG=>?_;injection e with e;subst e;rw[beq_iff_eq] at hc;refine hG ?_;exact(Array.getElem?_eq_some_iff.mp hc).1
 .split at e <;> injection e
theorem Bk (ho:s.heap.get? a=some o)(hd:o.data=.set es ep t)(hf:t.place.size=es.size)(hm:t.mask=7\/t.mask=31)(Wj:t.dummies=#[])(hsz:t.place.size<=t.mask)(room :(dX).room A)(hx :(dX).is s.heap k x)(To :∀e∈es.toList,∃k' p,e.2=.ref p/\(dX).is s.heap k' p/\k'≠k)(Rj :∀(st:List Value) (Q:Bool->Shared->Prop),(∀v∈st,∃e∈es.toList,e.2=v)->Q false s->wpAny bQ A (searchCouldBeSeen (.ref x) st) Q E s){K:Nat}(hK:t.slot (kY t ((dX).hash k) K).j=.empty)(live :∀m,m<K->∃i,t.slot (kY t ((dX).hash k) m).j=.live i)(YC:K<10 * SetTable.turns t.mask){Q:SetFound->Shared->Prop}(hq :∀j,t.slot j=.empty->Q (.free j false) s) :
  ∀(jH m:Nat) (GP:Option SetTable.Probe),m<=K->K - m<jH->GP.getD (t.probeStart ((dX).hash k))=kY t ((dX).hash k) m->
   wpAny bQ A (setSearchFrom a (.ref x) ((dX).hash k) true jH GP) Q E s:=by
 intro y
 induction y with
 |zero=>
  intro m _ _ Wk _;exact absurd Wk (Nat.not_lt_zero _)
 |succ jH ih=>
  intro m GP YD Wk Jt;have Rk :¬((t.place.size != es.size||decide (t.fill > t.mask))=true):=by
   simp[hf,SetTable.fill,Wj];exact le_of_eq_of_le (id (Eq.symm hf)) hsz
  have st :∀{P:Array (Int×Value)×Nat×SetTable->Shared->Prop},P (es,ep,t) s->wpAny bQ A (setState a) P E s:=λh=>by
   refine aY (wpAny_load ho ?_);refine rl hd ?_;dsimp only;exact rl (ax Rk)<|av h
  have hgw:t.gaveWay=false:=by
   unfold SetTable.gaveWay;rcases hm with e |e <;> rw[e] <;> rfl
  refine(show wpAny _ _ (setState a >>= _) _ _ _ from aY (st ?_));dsimp only;refine rl hgw ?_;simp only[Bool.false_eq_true,if_false,Jt];have go :∀{hashAt:Nat->Int} {Og:SetTable.Met},t.probe hashAt ((dX).hash k) (kY t ((dX).hash k) m)=some Og->Og=.empty (kY t ((dX).hash k) K).j none\/
    ∃m' i,m<=m'/\m'<K/\t.slot (kY t ((dX).hash k) m').j=.live i/\Og=.candidate (kY t ((dX).hash k) m').j i (kY t ((dX).hash k) (m'+1)):=λ{hashAt Og} e=>by
   rcases vw (hashAt:=hashAt) hK (10 * SetTable.turns t.mask) m YD (Nat.sub_lt_of_lt YC) (λm' _ h2=>live m' h2) with z|⟨m',i,h1,h2,h3,_,z⟩
   .rw[SetTable.probe,z] at e;injection e with e;subst e;exact .inl rfl
   .rw[SetTable.probe,z] at e;injection e with e;subst e;exact .inr ⟨m',i,h1,h2,h3,rfl⟩
  have no :∀{hashAt:Nat->Int},(∀Og,t.probe hashAt ((dX).hash k) (kY t ((dX).hash k) m)=some Og->False)->False:=λ{hashAt} e=>by
   rcases vw (hashAt:=hashAt) hK (10 * SetTable.turns t.mask) m YD (Nat.sub_lt_of_lt YC) (λm' _ h2=>live m' h2) with z|⟨m',i,h1,h2,h3,_,z⟩ <;> exact e _ z
  split
  .rename_i Og Wl
   rcases go Wl with rfl|⟨m',i,h1,h2,h3,rfl⟩
   .exact av (hq _ hK)
   .have hi:i<es.size:=by exact rr hf<|D6 h3
    refine cq λG hG=>?_;obtain⟨k',p,e2,hp,dg⟩:=To es[i] (by rw[<- Array.mem_def];exact Array.getElem_mem hi);have Wm:es[i]? = some (es[i].1,.ref p):=by exact rl (Array.getElem?_eq_getElem hi)<|rr e2 rfl
    have tail:wpAny bQ A (do
      let MN <- holding [Value.ref p] (eqBool (Value.ref p) (Value.ref x))
      let (MF,_,t') <- setState a
      if true&&MN then return .there none
      let some same:=t'.sameMemory t.moves t.mask |unsupported "set.changed-during-lookup:is-the-new-block-at-the-old-address"
      let Rl <- match (if same then t'.slot (kY t ((dX).hash k) m').j else .empty) with
       |.live i'=>match MF[i']? with
        |some (_,y')=>do pure (if <- isSame y' (Value.ref p) then some i' else none)
        |none=>pure none
       |_=>pure none
      match Rl with
      |none=>rule "set.search.anew";setSearchFrom a (.ref x) ((dX).hash k) true jH none
      |some i'=>if MN then return .there (some i') else setSearchFrom a (.ref x) ((dX).hash k) true jH (some (kY t ((dX).hash k) (m'+1)))) Q E s:=by
     refine wb (cP ((dX).eqBool room hp hx ?_));refine rl (cH dg)<|aY (st ?_)
     have sm:t.sameMemory t.moves t.mask=some true:=by unfold SetTable.sameMemory;exact rl (aA (by simp)) rfl
     dsimp only;refine rl (ax (by decide))<|rl sm ?_
     dsimp only;refine rl (aA rfl)<|rl h3 ?_
     dsimp only;refine rl Wm<|wb (m:=isSame (.ref p) (.ref p)) ?_
     unfold isSame;dsimp only;refine rl (aA (by simp))<|av (wb (av ?_))
     exact ih (m'+1) (some _) h2 (Ud Wk h1 h2) rfl
    refine hG ?_;dsimp only;by_cases hl :(!t.led)=true
    .refine rl (aA hl)<|aY (Rj _ _ (λv hv=>?_) ?_)
     .obtain⟨e,he,rfl⟩:=dz hv
      exact⟨e,by rw[Array.mem_toList_iff] at he ⊢;exact(Array.mem_filter.mp he).1,rfl⟩
     .exact rl (ax (by decide))<|rl Wm<|tail
    .exact rl (ax hl)<|rl Wm<|tail
  .rename_i Aj
   exact(no Aj).elim
end
set_option tactic.hygienic false
section
variable {x:Addr}{xs:Array Value}
theorem pB {y:Str}{t:Tok}{r:List Value}{Q:Bool->Shared->Prop}(ho:s.heap.get? x=some o)(hc:o.cls=.type "tuple")(hd:o.data=.seq xs n)(hx:xs.toList=.str y t::r)(hq:Q false s) :
  wpAny (model prog w) A (hashByValue 8 (.ref x)) Q E s:=by
 have hT:s.TypeIs (.ref x) "tuple":=⟨o,ho,hc⟩;have hl:typeLookup (.type "tuple") "__hash__" = pure (some (.builtin "tuple.__hash__")):=by refine rl (typeLookup_type ..)<|rl builtinLookup_eq_fast ?_;kernel_rfl
 refine wb (wpAny_specialOf hT hl ?_);refine aY (aY (wpAny_load ho ?_));refine rl hd<|av ?_
 dsimp only[Option.getD];obtain⟨l⟩:=xs;simp only at hx;subst hx;refine rr Array.forIn_toList ?_;refine rl (List.forIn_cons ..)<|wb (wb (wb ?_))
 exact rl (show hashByValue 7 (.str y t)=pure false from rfl)<|av (av (av (av hq)))
end
section
variable {x:Addr}{xs:Array Value}
theorem D7 (d:Nat){v:Value}(h :∀a,v≠.ref a):ofAClassStatement d v=pure false:=by
 cases v <;> first |exact absurd rfl (h _) | (cases d <;> rfl)
theorem Bl {l:List Value}(h :∀v∈l,∀a,v≠.ref a){Q:Bool->Shared->Prop}(hq:Q false s) :
  wpAny M A (do for y in l do {if <- ofAClassStatement 7 y then return true};return false) Q E s:=by
 induction l with
 |nil=>exact av hq
 |cons v l ih=>
  exact rl (List.forIn_cons ..)<|rl (D7 7 (h v (.head _)))<|ih λv hv=>h v (.tail _ hv)
theorem sN {Q:Bool->Shared->Prop}(ho:s.heap.get? x=some o)(hc:o.cls=.type "tuple")(hd:o.data=.seq xs n)(hx :∀v∈xs.toList,∀a,v≠.ref a)(hq:Q false s) :
  wpAny M A (ofAClassStatement 8 (.ref x)) Q E s:=by
 unfold ofAClassStatement;refine aY (wpAny_typeOf (T:="tuple") (show s.TypeIs (.ref x) "tuple" from⟨o,ho,hc⟩) ?_);dsimp only;refine rl (aA (by decide))<|aY (av ?_)
 refine rl (ax (by decide))<|aY (aY (wpAny_load ho ?_))
 refine rl hd<|av ?_
 dsimp only;exact rr Array.forIn_toList<|Bl hx hq
end
noncomputable def Oh (h:Heap)(p:Addr):Prop:=∃o xs n,h.get? p=some o/\o.cls=.type "tuple"/\o.data=.seq xs n/\∀v∈xs.toList,∀a,v≠Value.ref a
section
variable {x:Addr}{k:List V}
theorem D8 (hx :(dX).is s.heap k x)(fx:Oh s.heap x){st:List Value}(Jt :∀v∈st,∃p k',v=.ref p/\(dX).is s.heap k' p/\Oh s.heap p){Q:Bool->Shared->Prop}(hq:Q false s) :
  wpAny bQ A (searchCouldBeSeen (.ref x) st) Q E s:=by
 obtain⟨ox,xs,n,ho,hc,hd,hf⟩:=fx;refine wb ?_;refine cA (Q:=λr s'=>r =(none,())/\s'=s) ?_ (λr s' z=>by obtain⟨rfl,rfl⟩:=z;exact av hq) λ_ _ z=>z
 induction st with
 |nil=>exact av ⟨rfl,rfl⟩
 |cons v l ih=>
  refine cq λG hG=>?_;obtain⟨p,k',rfl,hp,op,ys,m,PR,MD,Kd,vp⟩:=Jt v (.head _);have next:=ih λu hu=>Jt u (.tail _ hu);refine hG ?_;refine rl (List.forIn_cons ..) ?_;by_cases hv :(x == p||carriedByValue (.ref x)&&carriedByValue (.ref p))=true
  .exact rl (aA hv)<|next
  .refine rl (ax hv)<|wb (aY ((dX).quiet hx ?_))
   refine rl (ax (by decide))<|aY ((dX).quiet hp ?_)
   refine rl (ax (by decide))<|aY (sN ho hc hd hf ?_)
   refine rl (ax (by decide))<|aY (sN PR MD Kd vp ?_)
   exact rl (ax (by decide))<|av next
end
theorem mL (xs:Array Y)(p:Nat)(x:Y)(hp:p<=xs.size) :(SetTable.insertAt xs p x).size=xs.size+1:=by
 unfold SetTable.insertAt;simp;exact Un hp
theorem uA (xs:Array Y)(p:Nat)(x:Y) :(SetTable.insertAt xs p x).toList.Perm (xs.toList++[x]):=by
 unfold SetTable.insertAt;have e :((xs.extract 0 p).push x++xs.extract p xs.size).toList=xs.toList.take p++x::xs.toList.drop p:=by
  simp;exact rl (List.take_of_length_le (by simp)) rfl
 refine rl e <| (List.perm_middle).trans ?_
 exact rl (List.take_append_drop ..) <| (List.perm_append_singleton x xs.toList).symm
theorem yS (xs:Array Nat)(j:Nat) :∀(jH lo hi:Nat),lo<=xs.size->hi<=xs.size->SetTable.below.go xs j jH lo hi<=xs.size:=by
 intro y
 induction y with
 |zero=>
  intro lo hi h1 _;rw[SetTable.below.go];exact h1
 |succ jH ih=>
  intro lo hi h1 h2;rw[SetTable.below.go]
  split
  .dsimp only
   split
   .exact ih _ _ (Qi ‹_› ‹_›) h2
   .exact ih _ _ h1 (UH ‹_› ‹_›)
  .exact h1
theorem yT (xs:Array Nat)(j:Nat):SetTable.below xs j<=xs.size:=yS xs j _ _ _ (Nat.zero_le _) (Nat.le_refl _)
theorem w8 (j:Nat):SetTable.has #[] j=false:=by
 unfold SetTable.has;simp
def hB:Bool:=W.w.params.followText "set-order"
structure CC (es:Array (Int×Value))(t:SetTable)(ps:List Addr):Prop where
 fit:t.place.size=es.size
 mask:t.mask=7\/t.mask=31
 PS:t.dummies=#[]
 room:es.size * 5<t.mask * 3
 led:t.led=!hB
 plain:0<es.size->t.plain=false
 elems :(es.toList.map (·.2)).Perm (ps.map .ref)
noncomputable def Oi (h:Heap)(a:Addr)(ps:List Addr):Prop:=∃o es ep t,h.get? a=some o/\o.ExactSet/\o.data=.set es ep t/\CC es t ps
section
variable {a x:Addr}{k:List V}{ps:List Addr}
theorem CC.len (T:CC es t ps):es.size=ps.length:=by
 have:=T.elems.length_eq
 simpa using this
theorem qc (ho:s.heap.get? a=some o)(hd:o.data=.set es ep t)(T:CC es t ps){P:Array (Int×Value)×Nat×SetTable->Shared->Prop}(h:P (es,ep,t) s) :
  wpAny bQ A (setState a) P E s:=by
 refine wpAny_setState_of ho hd ?_ h;have:=T.room;simp only[SetTable.fits,SetTable.fill,T.fit,T.PS,Bool.and_eq_true,beq_iff_eq,decide_eq_true_eq];refine⟨trivial,?_⟩;simp;exact Ci this rfl
theorem sO {h:Heap}(ho:h.get? a=some o)(hd:o.data=.set es ep t)(MF:Array (Int×Value))(t':SetTable) :
  (h.update a (Obj.putSet MF t')).get? a=some {o with data:=.set MF (ep+1) t'}:=by
 have:=Heap.get?_update_self (Obj.putSet MF t') ho (rl (putSet_of MF t' hd) rfl);rw[putSet_of MF t' hd] at this;exact this
end
structure mj (h:Heap)(k:List V)(x:Addr):Prop where
 is :(dX).is h k x
 obj :∃o xs n y t r,h.get? x=some o/\o.cls=.type "tuple"/\o.data=.seq xs n/\xs.toList=.str y t::r/\∀v∈r,∀a,v≠Value.ref a
theorem mj.flat {h:Heap}{k:List V}{x:Addr}(T:mj h k x):Oh h x:=by
 refine cq λG hG=>?_;obtain⟨o,xs,n,y,t,r,ho,hc,hd,hx,hr⟩:=T.obj;refine hG ?_;refine⟨o,xs,n,ho,hc,hd,λv hv a=>?_⟩;rw[hx] at hv;rcases b7 hv with rfl |hv
 .exact λe=>nomatch e
 .exact hr v hv a
section
variable {a x:Addr}{k:List V}{ps:List Addr}
theorem yU (T:Oi s.heap a ps)(room :(dX).room A)(hx:mj s.heap k x)(hps :∀p∈ps,∃k',mj s.heap k' p/\k'≠k)(hn:ps.length<4){Q:Bool->Shared->Prop}(h :∀h' tk,Heap.SameBut a s.heap h'->Oi h' a (ps++[x])->Q true {s with heap:=h',toks:=tk}):wpAny bQ A (setAdd a (.ref x)) Q E s:=by
 refine cq λG hG=>?_;obtain⟨o,es,ep,t,ho,Rm,hd,T⟩:=T;have hlen:=T.len;refine hG ?_;refine cP (wb ((dX).pyHash room hx.is ?_));generalize htk:s.toks+(dX).draws k=tk;have PR :({s with toks:=tk}:Shared).heap.get? a=some o:=ho;refine cP ?_;refine aY (qc PR hd T ?_);dsimp only;refine rl (ax (show¬(byScan (.ref x) es=true) from Bool.false_ne_true))<|cq λG hG=>?_
 obtain⟨K0,YE,eK0⟩:=yR T.mask T.PS (Ci T.room T.fit) ((dX).hash k);obtain⟨K,YF,eK,live⟩:=Bj eK0 (λj=>by
  unfold SetTable.slot;dsimp only
  split
  .exact λe=>nomatch e
  .exact rl T.PS<|rl (w8 ..)<|λe=>nomatch e)
 have To :∀e∈es.toList,∃k' p,e.2=.ref p/\mj s.heap k' p/\k'≠k:=λe he=>by
  have hm:e.2∈ps.map Value.ref:=T.elems.mem_iff.mp (List.mem_map.mpr ⟨e,he,rfl⟩);obtain⟨p,hp,e2⟩:=dz hm;obtain⟨k',h1,h2⟩:=hps p hp;exact⟨k',p,e2.symm,h1,h2⟩
 have Oj:SetTable.turns t.mask<=46:=by
  unfold SetTable.turns;rcases T.mask with e |e <;> rw[e] <;>(first |decide |lia)
 refine hG ?_;refine wb (Bk (s:={s with toks:=tk}) PR hd T.fit T.mask T.PS (Ci T.room T.fit) room hx.is
  (λe he=>let ⟨k',p,h1,h2,h3⟩:=To e he;⟨k',p,h1,h2.is,h3⟩)
  (λst Q' Jt hq=>D8 (s:={s with toks:=tk}) hx.is hx.flat (λv hv=>by
   refine cq λG hG=>?_;obtain⟨e,he,rfl⟩:=Jt v hv;obtain⟨k',p,h1,h2,_⟩:=To e he;refine hG ?_;exact⟨p,k',h1,h2.is,h2.flat⟩) hq)
  eK live (cj YF YE) (λj hj=>?_) 100000 0 none (Nat.zero_le _) (Vd YE YF Oj) rfl)
 refine aY (qc PR hd T ?_);have Wn:t.put j =({t with place:=SetTable.insertAt t.place (SetTable.below t.place j) j,dummies:=#[]},SetTable.below t.place j):=by
  unfold SetTable.put;exact rl T.PS<|rl (w8 ..)<|rl (ax Bool.false_ne_true) rfl
 refine rl Wn ?_;have hb:SetTable.below t.place j<=es.size:=by exact rr T.fit<|yT _ _
 have hsz :(SetTable.insertAt es (SetTable.below t.place j) ((dX).hash k,Value.ref x)).size=es.size+1:=mL _ _ _ hb;have Wo :(SetTable.insertAt t.place (SetTable.below t.place j) j).size=es.size+1:=by exact rl (mL _ _ _ (by rw[T.fit];exact hb))<|rl T.fit rfl
 have hpm:=uA es (SetTable.below t.place j) ((dX).hash k,Value.ref x);have Wq :((SetTable.insertAt es (SetTable.below t.place j) ((dX).hash k,Value.ref x)).toList.map (·.2)).Perm ((ps++[x]).map .ref):=by
  refine(hpm.map _).trans ?_;exact rl List.map_append<|rl List.map_append<|T.elems.append_right _
 have key :∀(t2:SetTable),t2 ={t with place:=SetTable.insertAt t.place (SetTable.below t.place j) j,dummies:=#[],plain:=false}->
   wpAny bQ A (do
    storeSet a (SetTable.insertAt es (SetTable.below t.place j) ((dX).hash k,Value.ref x)) t2
    if (!false&&t2.tooFull)=true then do
     setRelay a (SetTable.grown (es.size+1))
     pure true
    else pure true) Q E {s with toks:=tk}:=by
  intro t2 e2;refine wb (wpAny_storeSet_of PR hd ?_ (by refine rl hsz<|rl sizeLine_eq ?_;exact Qo ‹_› ‹_› (by rfl)))
  have hg:=sO ho hd (SetTable.insertAt es (SetTable.below t.place j) ((dX).hash k,Value.ref x)) t2;have rf:=dP s.heap a (Obj.putSet (SetTable.insertAt es (SetTable.below t.place j) ((dX).hash k,Value.ref x)) t2);by_cases yV:t2.tooFull=true
  .have Bm :(es.size+1) * 5 >= t.mask * 3:=by
    subst e2
    simpa [SetTable.tooFull,SetTable.fill,Wo] using yV
   rcases T.mask with e |e <;> rw[e] at Bm <;> lia
  .refine rl (ax (by simp[yV]))<|av (h _ tk rf ⟨_,_,_,_,hg,⟨Rm.1,Rm.2.1,Rm.2.2⟩,rfl,?_⟩)
   have Bm :¬(es.size+1) * 5 >= t.mask * 3:=by
    subst e2
    simpa [SetTable.tooFull,SetTable.fill,Wo] using yV
   refine⟨by subst e2;exact rl hsz<|Wo,by subst e2;exact T.mask,by subst e2;rfl,?_,by subst e2;exact T.led,λ_=>by subst e2;rfl,Wq⟩
   refine rl hsz ?_;subst e2;exact Nat.lt_of_not_le Bm
 by_cases yi:t.plain=true
 .refine rl (aA yi)<|cq λG hG=>?_
  obtain⟨ox,xs,n,y,tt,r,Rn,YG,Cx,Ro,_⟩:=hx.obj;refine hG ?_;refine wb (pB (s:={s with toks:=tk}) Rn YG Cx Ro ?_);exact key _ rfl
 .refine rl (ax yi)<|wb (av ?_)
  refine key _ ?_;have:t.plain=false:=by simpa using yi
  exact rr this rfl
end
section
variable {I:Addr}{h h':Heap}
theorem de.other (x:de Z h I vs)(e:gp S h h')(dg:I≠S):de Z h' I vs:=by
 cases x with
 |list hi hl hm hn r=>
  refine cq λG hG=>?_;obtain⟨o,ho,hc,hd⟩:=hi;obtain⟨ol,kX,qZ,k,pf⟩:=hl;refine hG ?_;exact .list ⟨o,e.same _ _ dg ho,hc,hd⟩ ⟨ol,e.get kX (dR qZ),qZ,k,pf⟩ hm hn (r.side e)
 |tup hi hl hm hn r=>
  refine cq λG hG=>?_;obtain⟨o,ho,hc,hd⟩:=hi;obtain⟨ol,kX,qZ,k,pf⟩:=hl;refine hG ?_;exact .tup ⟨o,e.same _ _ dg ho,hc,hd⟩ ⟨ol,e.get kX (kK qZ),qZ,k,pf⟩ hm hn (r.side e)
 |range hi hv=>exact .range (e.same _ _ dg hi) hv
 |str hi hv=>
  refine cq λG hG=>?_;obtain⟨o,ho,hc,hd⟩:=hi;refine hG ?_;exact .str ⟨o,e.same _ _ dg ho,hc,hd⟩ hv
 |rev hi hl hm hn r hv=>
  refine cq λG hG=>?_;obtain⟨o,ho,hc,hd⟩:=hi;obtain⟨ol,kX,qZ,k,pf⟩:=hl;refine hG ?_;exact .rev ⟨o,e.same _ _ dg ho,hc,hd⟩ ⟨ol,e.get kX (dR qZ),qZ,k,pf⟩ hm hn (r.side e) hv
 |sf hi hz hv=>exact .sf (e.same _ _ dg hi) hz hv
theorem GQ {d7:List V->Heap->Prop}{all:List V}(Tp:I≠S)(hh:A.handled=none)(bJ :∀d h,d7 d h->∃o,h.get? S=some o/\fq o)(A6 :∀d h h',d7 d h->gp I h h'->d7 d h')(Ol :∀(d l:List V) (v:V) (s:Shared) (mv:Value) (Q:Bool->Shared->Prop),all=d++v::l->d7 d s.heap->aH Z s.heap v mv->
   (∀b h' tk,Heap.SameBut S s.heap h'->d7 (d++[v]) h'->Q b {s with heap:=h',toks:=tk})->wpAny bQ A.in1 (setAdd S mv) Q (λe s'=>R (.error e) s') s) :
  ∀(left done:List V) (s:Shared),all=done++left->de Z s.heap I left->d7 done s.heap->
   (∀h' tk,(∀b o,b≠S->b≠I->s.heap.get? b=some o->h'.get? b=some o)->d7 all h'->R (.ok (.ret .none)) {s with heap:=h',toks:=tk})->
   codeAny bQ A (.builtin "set.update.loop" ⟨[.ref S,.ref I],[]⟩) R s:=by
 have Rp:A.in1.handled=none:=by simp[hh]
 intro left
 induction left with
 |nil=>
  intro done s rQ hi Bn hR;refine codeAny_builtin PyProof.Rows.F.entry_set_update_loop ?_;refine rl (Around.under_plainId PyProof.Rows.F.plain_set_update_loop _)<|wb (sg Rp hi λh' hs=>?_)
  rw[List.append_nil] at rQ;exact av (hR h' s.toks (λb o _ hb e=>hs.same b o hb e) (rQ▸A6 _ _ _ Bn hs))
 |cons v left ih=>
  intro done s rQ hi Bn hR;refine codeAny_builtin PyProof.Rows.F.entry_set_update_loop ?_;refine rl (Around.under_plainId PyProof.Rows.F.plain_set_update_loop _)<|wb (pk hi λh1 tk mv Kw YH rv=>?_)
  have MO:=A6 _ _ _ Bn YH;refine wb (cP (Ol done left v _ mv _ rQ MO rv λb h2 YI S8 Rq=>?_));have Rr:gp S h1 h2:=⟨λb o hb e=>(S8.2 b hb).trans e,bJ _ _ MO⟩;refine av ⟨plainId_quiet PyProof.Rows.F.plain_set_update_loop _,ih (done++[v]) _ (by refine rQ.trans ?_;simp) (Kw.other Rr Tp) Rq λh3 tk3 k3 Rt=>?_⟩;exact hR h3 tk3 (λb o J3 NH e=>k3 b o J3 NH ((S8.2 b J3).trans (YH.same b o NH e))) Rt
end
abbrev dG:Obj:={cls:=.type "set",dict:=none,data:=.set #[] 0 (.fresh 0 0 (!hB))}
section
theorem yW (a:Value){Q₁:iN}(h:Q₁ (.ref s.heap.objs.size) {s with heap:=s.heap.push (dG)}) :
  codeAny bQ A (.call (.builtin "set.__new__") ⟨[.type "set",a],[]⟩) (wants Q₁ E) s:=by
 refine codeAny_of_tree ?_;refine wb (wpAny_of_eq (PySem.F.newCall_set_1 a) (av ⟨plainId_quiet PySem.F.plain_set_new _,codeAny_builtin PySem.F.entry_set_new ?_⟩));refine rl (Around.under_plainId PySem.F.plain_set_new _) ?_;unfold Builtin.«set.__new__» Builtin.Frozenset.newClass;have sJ:=sub_set_self;obtain⟨hp,g,d,tk,os⟩:=s
 wp_walk
 refine wpAny_askSetting (av ?_);refine wb (wpAny_alloc (av ?_));exact av h
set_option maxHeartbeats 3200000 in
theorem ku {l:Addr}{d7:List V->Heap->Prop}(hh:A.handled=none)(r:aH Z s.heap (.list vs) (.ref l))(bJ :∀d h,d7 d h->∃o,h.get? s.heap.objs.size=some o/\fq o)(A6 :∀d h h' I,d7 d h->gp I h h'->I≠s.heap.objs.size->d7 d h')(h0 :∀h',h'.get? s.heap.objs.size=some (dG)->d7 [] h')(Ol :∀(A':Around) (E':iN) (d l:List V) (v:V) (s':Shared) (mv:Value) (Q:Bool->Shared->Prop),A'.units<=A.units+20->vs=d++v::l->d7 d s'.heap->aH Z s'.heap v mv->
   (∀b h' tk,Heap.SameBut s.heap.objs.size s'.heap h'->d7 (d++[v]) h'->Q b {s' with heap:=h',toks:=tk})->wpAny bQ A' (setAdd s.heap.objs.size mv) Q E' s')(h :∀(h':Heap) (tk:Nat),d7 vs h'->(∀b o,b<s.heap.objs.size->s.heap.get? b=some o->h'.get? b=some o)->Q (.ref s.heap.objs.size) {s with heap:=h',toks:=tk}) :
  wpAny bQ A (call (.type "set") [.ref l]) Q E s:=by
 obtain⟨c,tl,aac⟩:=PySem.F.called_set.mro;have YJ:=PySem.F.called_set.made;have sJ:=PySem.F.called_set.sub;refine wpAny_call (codeAny_of_tree ?_);refine av ⟨Code.quiet_builtin _ (by decide +kernel),codeAny_builtin PySem.F.entry_type_call ?_⟩;refine rl (Around.under_plain (weight_type_call_type "set" [.ref l] []) rfl) ?_;have h1:=PySem.F.called_set.notType;have h2:=PySem.F.called_set.canCreate;have hct:=PySem.F.typeCall_set_1 (.ref l)
 repeat (any_goals (first |assumption |wp_step))
 refine codeAny_mono (yW (.ref l) (E:=E) (Q₁:=λobj fS=>obj=.ref s.heap.objs.size/\fS ={s with heap:=s.heap.push (dG)}) ⟨rfl,rfl⟩) λWr fS hr=>?_
 cases Wr with
 |error e=>exact hr
 |ok fl=>
  cases fl with
  |ret obj=>
   obtain⟨rfl,rfl⟩:=hr;have hS :(s.heap.push (dG)).get? s.heap.objs.size=some (dG):=cC _ rfl;have hT:Shared.TypeIs {s with heap:=s.heap.push (dG)} (.ref s.heap.objs.size) "set":=⟨_,hS,rfl⟩;have Ru:=PySem.F.called_set.init.lookup;have Om:=PySem.F.called_set.init.bind (.ref s.heap.objs.size)
   repeat (any_goals (first |assumption |wp_step))
   refine codeAny_mono (codeAny_call_builtin (R:=wants (λr yB=>r=.none/\∃h' tk,yB ={s with heap:=h',toks:=tk}/\d7 vs h'/\
     (∀b o,b<s.heap.objs.size->s.heap.get? b=some o->h'.get? b=some o)) E) PySem.F.called_set.init.plain PySem.F.entry_set_init (check_set_init_1 hT ?_)) λWs yB GR=>?_
   .have hlS:l<s.heap.objs.size:=by cases r with |list ho=>exact cI ho
    have r1:aH Z (s.heap.push (dG)) (.list vs) (.ref l):=r.mono (cE.push (D:=[]) _ _)
    cases r1 with
    |@list _ _ ol items nl kX qZ pf hn rv=>
    obtain⟨aad,YK,YL,Wt⟩:=ol;simp only at qZ pf;subst qZ;subst pf;have aae:=PySem.F.sub_list_set;have aaf:=PySem.F.sub_list_frozenset;have dg :(Value.type "list" == Value.type "dict")=false:=by decide
    have w9 :(s.heap.push (dG)).IsList l items:=⟨_,kX,rfl,nl,rfl⟩;unfold Builtin.«set.__init__» noKeywords Builtin.Frozenset.updateFrom;generalize hPI:pyIter=PI
    wp_walk
    subst hPI;refine wpAny_pyIter_list w9 ?_;refine wb (wpAny_runValue ?_);have Wu :(s.heap.push (dG)).objs.size=s.heap.objs.size+1:=Heap.size_push _ _;have Tp :(s.heap.push (dG)).objs.size≠s.heap.objs.size:=by exact rl Wu<|Ne.symm (Nat.ne_add_one s.heap.objs.size)
    refine GQ (d7:=d7) (all:=vs) (Z:=Z) (S:=s.heap.objs.size) (I:=(s.heap.push (dG)).objs.size) Tp (by simp[hh]) bJ (λd h h' hi hs=>A6 d h h' _ hi hs Tp)
     (λd l v s' mv Q' e hi rv k=>Ol _ _ d l v s' mv Q' (by simp only[Around.in1_units];exact UY) e hi rv k) vs [] _ rfl
     (.list (l:=l) (i:=0) (ms:=items) ⟨_,cC _ rfl,rfl,rfl⟩ (w9.push _) hn (rl Wu<|Nat.ne_of_lt (Nat.lt_succ_of_lt hlS)) ?_) (h0 _ (bR _ hS)) λh' tk k Bn=>?_
    .exact rv.mono (cE.push (D:=[]) _ _)
    .skip
     refine av ?_;refine av ⟨rfl,h',tk,rfl,Bn,λb o hb e=>?_⟩;exact k b o (Nat.ne_of_lt hb) (rl Wu<|Nat.ne_of_lt (Nat.lt_succ_of_lt hb)) (bR _ (bR _ e))
   .cases Ws with
    |error e=>exact GR
    |ok Rv=>
     cases Rv with
     |ret r=>
      obtain⟨rfl,h',tk,rfl,Bn,Gu⟩:=GR
      repeat (any_goals (first |assumption |wp_step))
      exact h _ _ Bn Gu
     |_=>exact GR.elim
  |_=>exact hr.elim
end
theorem dC:Slot "set_iterator" "__next__" "set_iterator.__next__":=
 .of (owner:="set_iterator") (n:="__next__") (by rw[typeLookup_type,builtinLookup_eq_fast];kernel_rfl) (by decide +kernel) (by decide +kernel) (by decide +kernel)
  (by first |exact .inl (by decide +kernel) |exact .inr (by decide +kernel)) (by rw[isSubtype_type];kernel_rfl)
theorem jb:entryFor table "set_iterator.__next__" = some Builtin.«set_iterator.__next__»:=entryFor_of_tree (by kernel_rfl)
theorem jt (a:Value):argsOk "set_iterator.__next__" ⟨[a],[]⟩:=by unfold argsOk;kernel_rfl
theorem qO:entryFor table "set.__iter__" = some Builtin.«frozenset.__iter__»:=
 entryFor_alias (id':="frozenset.__iter__") (by kernel_rfl) rfl (by decide +kernel) (by kernel_rfl)
theorem ju:Slot "set_iterator" "__iter__" "set_iterator.__iter__":=
 .of (owner:="set_iterator") (n:="__iter__") (by rw[typeLookup_type,builtinLookup_eq_fast];kernel_rfl) (by decide +kernel) (by decide +kernel) (by decide +kernel)
  (by first |exact .inl (by decide +kernel) |exact .inr (by decide +kernel)) (by rw[isSubtype_type];kernel_rfl)
theorem nq:entryFor table "set_iterator.__iter__" = some Builtin.«dict_keyiterator.__iter__»:=
 entryFor_alias (id':="dict_keyiterator.__iter__") (by kernel_rfl) rfl (by decide +kernel) (by kernel_rfl)
theorem oq (a:Value):argsOk "set_iterator.__iter__" ⟨[a],[]⟩:=by unfold argsOk;kernel_rfl
noncomputable def lI (h:Heap)(S:Addr)(es:Array (Int×Value))(ep:Nat)(t:SetTable):Prop:=∃o,h.get? S=some o/\o.ExactSet/\o.data=.set es ep t/\t.fits es.size=true
noncomputable abbrev fK (first:Value)(i:Int)(S:Addr)(n ep:Nat):Obj:={cls:=.type "set_iterator",dict:=none,data:=.fields #[first,rawInt i,.ref S,rawInt n,rawInt ep],slots:=#[]}
section
variable {I:Addr}
theorem lI.state (H:lI s.heap S es ep t){P:Array (Int×Value)×Nat×SetTable->Shared->Prop}(h:P (es,ep,t) s):wpAny bQ A (setState S) P E s:=by
 obtain⟨o,ho,_,hd,hf⟩:=H;exact wpAny_setState_of ho hd hf h
theorem lI.entries (H:lI s.heap S es ep t){P:Array (Int×Value)->Shared->Prop}(h:P es s):wpAny bQ A (setEntries S) P E s:=by
 unfold setEntries;exact wb (H.state (av h))
theorem vx (hh:A.handled=none){Q:Option Value->Shared->Prop}{f:Obj->Obj}(k :∀h',Heap.ExtBut I s.heap h'->Q none {s with heap:=h'}) :
  wpAny bQ A (newExc (.type "StopIteration") [] >>= λe=>(raiseNew e:Sem Fin))
   (λ_ _=>False) (λe s'=>wpAny bQ A (do if <- isInstance e (.type "StopIteration") then pure none else throw e) Q E s') s:=by
 refine aY ?_;rw[newExc,newTuple];refine aY (wpAny_newObj_type ?_ (by size_fits));refine aY (m:=firstArgMember _ _) (wpAny_of_eq (a:=Value.none) (by first |rfl | (rw[firstArgMember];rfl)) ?_)
 refine wpAny_newObj_type ?_ (by size_fits);rw[raiseNew];refine wb (wpAny_handled ?_);refine rl hh<|wb (av (wpAny_throw ?_))
 refine wb (wpAny_isInstance (T:="StopIteration") (b:=true) ⟨_,cC _ rfl,rfl⟩ isSubtype_stop ?_);refine av (k _ ?_);exact λb o hb e=>bR _ (bR _ e)
theorem qd {r:Option (Value×Nat)}(hh:A.handled=none)(hI:s.heap.get? I=some (fK (rawInt first) i S n ep))(H:lI s.heap S es ep t)(hn:es.size=n)(dg:I≠S)(CD :∀(A:Around) (E:iN) (Q:Option (Value×Nat)->Shared->Prop),Q r s->wpAny bQ A (setNext S first i ep) Q E s){Q:Option Value->Shared->Prop}(k:match r with
   |some (v,nx)=>∀h',h'.get? I=some (fK (rawInt nx) (i+1:Nat) S n ep)->Heap.SameBut I s.heap h'->Q (some v) {s with heap:=h'}
   |none=>∀h',Heap.ExtBut I s.heap h'->Q none {s with heap:=h'}):wpAny bQ A (pyNext (.ref I)) Q E s:=by
 have hT:s.TypeIs (.ref I) "set_iterator":=⟨_,hI,rfl⟩;unfold pyNext;refine wb (wpAny_attempt (wpAny_callSpecial?_slot (name:=Str.ofString "__next__") hT dC
  (fF dC hT jb ?_ (jt _))))
 show wpAny _ _ (fieldsOf (.ref I) >>= _) _ _ s;refine wb (wpAny_fieldsOf hI rfl ?_);show wpAny _ _ (setEntries S >>= _) _ _ s;refine wb (H.entries ?_);show wpAny _ _ (if ((es.size:Int) !=(n:Int))=true then _ else _) _ _ s;rw[ax (by rw[hn];simp)];show wpAny _ _ (setNext S ((first:Int)).toNat ((i:Int)).toNat ((ep:Int)).toNat >>= _) _ _ s;simp only[Int.toNat_natCast];refine aY (CD _ _ _ ?_)
 cases r with
 |some p=>
  obtain⟨v,nx⟩:=p;dsimp only;refine wb (wpAny_setField hI rfl (by simp) ?_);have Tq:=Heap.get?_update_self (Obj.mapFields (·.setIfInBounds 0 (rawInt nx))) hI (by rfl);refine wb (wpAny_setField Tq rfl (by simp[Obj.mapFields]) (av ⟨v,rfl,av (k _ ?_ ?_)⟩))
  .refine(Heap.get?_update_self _ Tq (by rfl)).trans ?_
   simp[Obj.mapFields,fK]
  .exact(dP ..).trans (dP ..)
 |none=>
  dsimp only;refine wb (wpAny_setField hI rfl (by simp) ?_);refine cA (vx (I:=I) (A:=A.in1) (f:=id) (by simp[hh]) (Q:=Q) (E:=E) λh' kk=>?_) (λ_ _ x=>x.elim) λe s' x=>wpAny_of_in1 x;exact k _ ((dP ..).extBut.trans kk)
end
set_option tactic.hygienic true
theorem nr {Y:Type} :∀(l:List Y) (i:Nat) (h:i<l.length),(l[i]::l.eraseIdx i).Perm l
 |x::l,0,_=>by simp
 |x::l,i+1,h=>by
  simp only[List.getElem_cons_succ,List.eraseIdx_cons_succ];exact(List.Perm.swap ..).trans ((nr l i (by simpa using h)).cons x)
theorem xa (next:Nat->Nat) :∀(jH k:Nat) (left:List Y) (fP:Array Y),left.length<=jH->(pickOrder.go next jH k left fP).toList.Perm (fP.toList++left):=by
 intro y
 induction y with
 |zero=>
  intro k left fP h;have:left=[]:=List.length_eq_zero_iff.mp (by exact Nat.eq_zero_of_le_zero h);subst this;rw[List.append_nil];exact .refl _
 |succ jH ih=>
  intro k left fP h;have e0:pickOrder.go next (jH+1) k left fP=match left[next k % left.length]? with |some x=>pickOrder.go next jH (k+1) (left.eraseIdx (next k % left.length)) (fP.push x) |none=>fP:=rfl
  rw[e0]
  cases hx:left[next k % left.length]? with
  |some x=>
   have eO:next k % left.length<left.length:=(List.getElem?_eq_some_iff.mp hx).1;have ih:=ih (k+1) (left.eraseIdx (next k % left.length)) (fP.push x) (by rw[List.length_eraseIdx];split <;>(first |exact U1 ‹_› |lia))
   refine ih.trans ?_;rw[Array.toList_push,cW];refine List.Perm.append_left _ ?_;have e2:left[next k % left.length]=x:=(List.getElem?_eq_some_iff.mp hx).2;rw[<- e2];exact nr _ _ eO
  |none=>
   have:left=[]:=by
    cases left with
    |nil=>rfl
    |cons y ys=>
     have eO:next k % (y::ys).length<(y::ys).length:=Nat.mod_lt _ (by simp);rw[List.getElem?_eq_getElem eO] at hx;injection hx
   subst this;rw[List.append_nil]
theorem vy (next:Nat->Nat)(xs:Array Y) :(pickOrder next xs).toList.Perm xs.toList:=by
 unfold pickOrder;have:=xa next xs.size 0 xs.toList #[] (by simp)
 simpa using this
section
variable {I P:Addr}
theorem pC {src:Source}{Q:Nat->Shared->Prop}(hn:n≠0)(h :∀i d,i<n->Q i {s with drawn:=d}):wpAny M A (choose src n) Q E s:=by
 intro Γ p Jq
 first
  |exact⟨hn,h _ _ (Nat.mod_lt _ (Nat.pos_of_ne_zero hn))⟩
  | (rw[Sem.wp.eq_def];simp only;exact⟨hn,h _ _ (Nat.mod_lt _ (Nat.pos_of_ne_zero hn))⟩)
theorem Ea :∀(n:Nat) (l:List Nat) (s:Shared) {Q:List Nat->Shared->Prop},l.length=n->(∀l' d,l'.Perm l->Q l' {s with drawn:=d})->wpAny bQ A (drawOrder n l) Q E s:=by
 intro y
 induction y with
 |zero=>
  intro l s Q hl h;refine cq λG hG=>?_;have:l=[]:=List.length_eq_zero_iff.mp hl;subst this;refine hG ?_;exact av (h [] s.drawn (.refl _))
 |succ n ih=>
  intro l s Q hl h
  cases l with
  |nil=>simp at hl
  |cons x xs=>
   refine aY (pC (by simp) λi d hi=>?_);refine rl (List.getElem?_eq_getElem hi)<|wb (ih _ _ (by refine List.length_eraseIdx.trans ?_;split <;>(first |exact U0 ‹_› |lia)) λl' d' hp=>av (h _ d' ?_))
   exact(hp.cons _).trans (nr _ _ hi)
theorem sP {oP:Obj}{xb:Array Value}{pe:Nat}(hh:A.handled=none)(hI:s.heap.get? I=some (fK (.ref P) i S n ep))(H:lI s.heap S es ep t)(hn:es.size=n)(hP:s.heap.get? P=some oP)(Tr:oP.data=.seq xb pe){Q:Option Value->Shared->Prop}(hv :∀v,xb[i]? = some v->∃(j:Nat) (y:Value),v=rawInt j/\es[j]?.map (·.2)=some y/\∀h',h'.get? I=some (fK (.ref P) (i+1:Nat) S n ep)->Heap.SameBut I s.heap h'->Q (some y) {s with heap:=h'})(Wv:xb[i]? = none->∀h',Heap.ExtBut I s.heap h'->Q none {s with heap:=h'}):wpAny bQ A (pyNext (.ref I)) Q E s:=by
 have hT:s.TypeIs (.ref I) "set_iterator":=⟨_,hI,rfl⟩;refine wb (wpAny_attempt (wpAny_callSpecial?_slot (name:=Str.ofString "__next__") hT dC
  (fF dC hT jb ?_ (jt _))))
 refine(?_:wpAny _ _ (fieldsOf (.ref I) >>= _) _ _ s);refine wb (wpAny_fieldsOf hI rfl ?_);refine aY (H.entries ?_);refine rl (ax (by rw[hn];simp))<|aY (wpAny_seqItems hP Tr ?_)
 simp only[Int.toNat_natCast]
 cases hp:xb[i]? with
 |some v=>
  refine cq λG hG=>?_;obtain⟨j,y,rfl,hy,k⟩:=hv v hp;refine hG ?_;dsimp only[rawInt];simp only[Int.toNat_natCast];refine cq λG hG=>?_;refine dh hy λe he z1=>?_;subst z1;refine hG ?_;refine wb (aY (H.state ?_));dsimp only;refine rl (ax (by simp)) ?_;refine rl he<|av ?_
  refine wb (wpAny_setField hI rfl (by simp) (av ⟨e.2,rfl,av (k _ ?_ ?_)⟩))
  .refine(Heap.get?_update_self _ hI (by rfl)).trans ?_
   simp[Obj.mapFields,fK,rawInt]
  .exact dP ..
 |none=>
  refine wb (wpAny_setField hI rfl (by simp) ?_);have Tq:=Heap.get?_update_self (Obj.mapFields (·.setIfInBounds 0 (rawInt 0))) hI (by rfl);refine wb (wpAny_setField Tq rfl (by simp) ?_);refine cA (vx (I:=I) (A:=A.in1) (f:=id) (by simp[hh]) (Q:=Q) (E:=E) λh' kk=>?_) (λ_ _ x=>x.elim) λe s' x=>wpAny_of_in1 x;exact Wv hp _ (((dP ..).extBut.trans (dP ..).extBut).trans kk)
end
set_option tactic.hygienic false
noncomputable def GS (a b:Array GenState):Prop:=b=a
section
variable {I P:Addr}{oP:Obj}
theorem ot {first:Value}{i:Int}(hI:s.heap.get? I=some (fK first i S n ep))(h:Q (.ref I) s):wpAny bQ A (pyIter (.ref I)) Q E s:=by
 have hT:s.TypeIs (.ref I) "set_iterator":=⟨_,hI,rfl⟩;refine wpAny_pyIter_slot hT ju (fF ju hT nq ?_ (oq _));exact av ⟨_,rfl,"set_iterator",_,hT,dC.lookup,h⟩
theorem xc (slotAt:Nat->Nat)(gz:List Value)(hh:A.handled=none)(dg:I≠S)(hx:oS.ExactSet)(hd:oS.data=.set es ep t)(hf:t.fits es.size=true)(hn:gz.length=es.size)(CD :∀(i:Nat) (s:Shared) (A:Around) (E:iN) (Q:Option (Value×Nat)->Shared->Prop),s.heap.get? S=some oS->i<=es.size->Q ((gz[i]?).map λv=>(v,slotAt (i+1))) s->
   wpAny bQ A (setNext S (slotAt i) i ep) Q E s) :
  WalksS W.prog W.w A I [I,S] [I] GS es.size (λi v=>gz[i]? = some v) (λi s=>s.heap.get? I=some (fK (rawInt (slotAt i)) i S es.size ep)/\s.heap.get? S=some oS) where
 sub b hb:=List.mem_cons.mpr (.inl (dM hb))
 grefl _:=rfl
 gtrans a b c h1 h2:=Eq.trans h2 h1
 frame i s h' tk st _ k:=⟨k I (by simp) _ st.1,k S (by simp) _ st.2⟩
 item i s Q E hi st hQ:=by
  have eO:i<gz.length:=by exact Nat.lt_of_lt_of_eq hi (id (Eq.symm hn))
  refine qd (r:=some (gz[i],slotAt (i+1))) hh st.1 ⟨oS,st.2,hx,hd,hf⟩ rfl dg (λA E Q q=>CD i s A E Q st.2 (Nat.le_of_succ_le hi) (rl (List.getElem?_eq_getElem eO)<|q)) ?_
  intro h' e1 sb;exact hQ _ _ (List.getElem?_eq_getElem eO) ⟨e1,(sb.2 S (Ne.symm dg)).trans st.2⟩ ⟨λb o hb e=>(sb.2 b (by simpa using hb)).trans e,rfl,rfl,rfl,Nat.le_refl _⟩
 done s Q E st hQ:=by
  refine qd (r:=none) hh st.1 ⟨oS,st.2,hx,hd,hf⟩ rfl dg (λA E Q q=>CD es.size s A E Q st.2 (Nat.le_refl _) (rl (List.getElem?_eq_none (by exact Nat.le_of_eq hn))<|q)) ?_
  intro h' k;exact hQ _ ⟨λb o hb e=>k b o (by simpa using hb) e,rfl,rfl,rfl,Nat.le_refl _⟩
 self i s Q E st h:=ot st.1 h
theorem yX (idx:List Nat)(hh:A.handled=none)(dg:I≠S)(hnP:I≠P)(hx:oS.ExactSet)(hd:oS.data=.set es ep t)(hf:t.fits es.size=true)(hp:idx.Perm (List.range es.size))(Tr:oP.data=.seq (idx.map λj=>rawInt (j:Nat)).toArray 0) :
  WalksS W.prog W.w A I [I,S,P] [I] GS es.size (λi v=>((idx.map λj=>(es.getD j (0,.none)).2))[i]? = some v)
   (λi s=>s.heap.get? I=some (fK (.ref P) i S es.size ep)/\s.heap.get? S=some oS/\s.heap.get? P=some oP) where
 sub b hb:=List.mem_cons.mpr (.inl (dM hb))
 grefl _:=rfl
 gtrans a b c h1 h2:=Eq.trans h2 h1
 frame i s h' tk st _ k:=⟨k I (by simp) _ st.1,k S (by simp) _ st.2.1,k P (by simp) _ st.2.2⟩
 item i s Q E hi st hQ:=by
  have hl:idx.length=es.size:=by rw[hp.length_eq,List.length_range]
  have eO:i<idx.length:=by exact Nat.lt_of_lt_of_eq hi (id (Eq.symm hl))
  refine sP hh st.1 ⟨oS,st.2.1,hx,hd,hf⟩ rfl st.2.2 Tr (λv hv=>?_) (λhv=>?_)
  .have hj:idx[i]<es.size:=List.mem_range.mp (hp.mem_iff.mp (List.getElem_mem eO))
   refine⟨idx[i],(es.getD idx[i] (0,.none)).2,?_,?_,λh' e1 sb=>?_⟩
   .simp[eO] at hv;exact hv.symm
   .simp[Array.getD,hj]
   .exact hQ _ _ (by simp[eO]) ⟨e1,(sb.2 S (Ne.symm dg)).trans st.2.1,(sb.2 P (Ne.symm hnP)).trans st.2.2⟩ ⟨λb o hb e=>(sb.2 b (by simpa using hb)).trans e,rfl,rfl,rfl,Nat.le_refl _⟩
  .simp at hv;exact Vv ‹_› ‹_›
 done s Q E st hQ:=by
  have hl:idx.length=es.size:=by rw[hp.length_eq,List.length_range]
  refine sP hh st.1 ⟨oS,st.2.1,hx,hd,hf⟩ rfl st.2.2 Tr (λv hv=>?_) (λhv h' k=>?_)
  .simp at hv;obtain⟨a,ha,_⟩:=hv;rw[List.getElem?_eq_none (Nat.le_of_eq hl)] at ha;injection ha
  .exact hQ _ ⟨λb o hb e=>k b o (by simpa using hb) e,rfl,rfl,rfl,Nat.le_refl _⟩
 self i s Q E st h:=ot st.1 h
theorem GU {gz:List Value}{bh:Array Value}(h:ItemsOf (λi v=>gz[i]? = some v) bh n)(hn:gz.length=n):bh.toList=gz:=by
 apply List.ext_getElem?
 intro i;by_cases hi:i<bh.size
 .rw[h.2 i bh[i] (Array.getElem?_eq_getElem hi),Array.getElem?_toList,Array.getElem?_eq_getElem hi]
 .refine(Array.getElem?_toList).trans ((Array.getElem?_eq_none (Nat.le_of_not_lt hi)).trans ?_);rw[List.getElem?_eq_none (by rw[hn,<- h.1];exact Nat.le_of_not_lt hi)]
theorem GV {idx:List Nat}(hp:idx.Perm (List.range es.size)) :(idx.map λj=>(es.getD j (0,.none)).2).Perm (es.toList.map (·.2)):=by
 refine(hp.map _).trans ?_;have :(List.range es.size).map (λj=>(es.getD j (0,Value.none)).2)=es.toList.map (·.2):=by
  apply List.ext_getElem
  .simp
  .intro i h1 h2
   simp at h1;simp[Array.getD,h1]
 rw[this]
end
noncomputable def jc (es:Array (Int×Value))(t:SetTable):Prop:=hB=true\/(hB=false/\es.size<=1/\t.led=true)\/(hB=false/\2<=es.size/\t.plain=false)
theorem yY (a:Addr):setDrawn a =(do
 let (es,_,t) <- setState a
 let hB <- setsByText
 return !hB&&(!t.plain&&es.size > 1)):=rfl
theorem sQ (a:Addr)(slot given vz:Nat):setNext a slot given vz =(do
 let (es,Rw,t) <- setState a
 if <- setsByText then
  if Rw != vz then unsupported "set_iterator.__next__:elements-changed"
  return ((<- setWalk a)[given]?).map λe=>(e.2,slot)
 if !t.plain&&es.size > 1 then unsupported "set_iterator.__next__:the-table-is-plain-no-more"
 (do if !t.led&&!es.isEmpty then unsupported "set:maker-not-led" : Sem Unit)
 let i:=SetTable.below t.place slot
 return match es[i]?,t.place[i]? with
  |some (_,x),some j=>some (x,j+1)
  |_,_=>none):=rfl
theorem vA (p j:Nat):SetTable.below #[p] j=if p<j then 1 else 0:=by
 show SetTable.below.go #[p] j 1 0 1=_;rw[SetTable.below.go];simp
 split <;> rw[SetTable.below.go]
section
theorem ml {Q:Bool->Shared->Prop}(h:Q (hB) s):wpAny bQ A setsByText Q E s:=by
 exact wb (wpAny_askSetting (av h))
theorem GW (hS:s.heap.get? S=some oS)(hx:oS.ExactSet)(hd:oS.data=.set es ep t)(hf:t.fits es.size=true)(hw:jc es t)(hz:es.size<=64)(h :∀(I:Addr) (fp:List Addr) (St:Nat->Shared->Prop) (gz:List Value) (h':Heap) (d:Drawn),(∀A:Around,A.handled=none->WalksS W.prog W.w A I fp [I] GS es.size (λi v=>gz[i]? = some v) St)->St 0 {s with heap:=h',drawn:=d}->gz.Perm (es.toList.map (·.2))->
   (∀b∈fp,b<h'.objs.size/\(b=S\/s.heap.objs.size<=b))->s.heap.objs.size<=I->(∀b o,s.heap.get? b=some o->h'.get? b=some o)->Q (.ref I) {s with heap:=h',drawn:=d}) :
  wpAny bQ A (pyIter (.ref S)) Q E s:=by
 have hT:s.TypeIs (.ref S) "set":=⟨oS,hS,hx.1⟩;have HS:lI s.heap S es ep t:=⟨oS,hS,hx,hd,hf⟩;have eO:S<s.heap.objs.size:=cI hS;refine wpAny_pyIter_slot hT PySem.F.slot_set_iter (fF PySem.F.slot_set_iter hT qO ?_ (PySem.F.args_set_iter_1 _));unfold Builtin.«frozenset.__iter__» Builtin.Frozenset.slot0 slotArgs;simp only[List.isEmpty_nil,Bool.not_true,Bool.false_eq_true,↓reduceIte,bind_assoc,List.length_nil,bne_self_eq_false];refine wb (av ?_);refine wb (av ?_);refine wb (wb (HS.entries (av ?_)));refine rl (yY ..) ?_;simp only[bind_assoc];refine wb (HS.state ?_);refine wb (ml ?_);refine aY (av ?_);have Ww :∀{s':Shared} {Q':Nat->Shared->Prop} {A':Around} {E':iN},lI s'.heap S es ep t->Q' ep s'->wpAny bQ A' (setEpoch S) Q' E' s':=λH q=>by
  exact aY (H.state (av q))
 have GX :∀(slotAt:Nat->Nat) (gz:List Value) {A':Around} {E':iN},slotAt 0=0->gz.length=es.size->gz.Perm (es.toList.map (·.2))->
   (∀(i:Nat) (s:Shared) (A:Around) (E:iN) (Q:Option (Value×Nat)->Shared->Prop),s.heap.get? S=some oS->i<=es.size->Q ((gz[i]?).map λv=>(v,slotAt (i+1))) s->
    wpAny bQ A (setNext S (slotAt i) i ep) Q E s)->
   wpAny bQ A' (newFields "set_iterator" [rawInt 0,rawInt 0,.ref S,rawInt es.size,rawInt ep] >>= λv=>ret v) (λfin s'=>∃r,fin=.done (.ret r)/\(∃T' r_1,s'.TypeIs r T'/\typeLookup (.type T') "__next__" = pure (some r_1)/\Q r s')) E' s:=by
  intro slotAt gz A' E' h0 hl hp hn;refine aY (wpAny_newObj_type (av ⟨_,rfl,"set_iterator",_,⟨_,cC _ rfl,rfl⟩,dC.lookup,?_⟩));have dg:s.heap.objs.size≠S:=Nat.ne_of_gt eO;refine h s.heap.objs.size [s.heap.objs.size,S] _ gz _ s.drawn (λA hh=>xc slotAt gz hh dg hx hd hf hl hn) ⟨?_,bR _ hS⟩ hp (λb hb=>?_) (Nat.le_refl _) λb o e=>bR _ e
  .exact rl h0<|cC _ rfl
  .refine rl (Heap.size_push ..) ?_
   rcases b7 hb with rfl |hb
   .exact⟨Nat.lt_succ_self _,.inr (Nat.le_refl _)⟩
   .exact rl (dM hb)<|⟨Nat.lt_succ_of_lt eO,.inl rfl⟩
 rcases hw with hb|⟨hb,h1,Eb⟩|⟨hb,h2,yi⟩
 .refine rl hb ?_
  refine aY (av ?_);refine aY (Ww HS ?_);refine GX (λ_=>0) ((pickOrder (W.w.params.setOrder S ep) es).toList.map (·.2)) rfl (by
   have:=(vy (W.w.params.setOrder S ep) es).length_eq
   simpa using this) ((vy _ _).map _) λi s' A' E' Q' Jx hi q=>?_
  have Ts:lI s'.heap S es ep t:=⟨oS,Jx,hx,hd,hf⟩;refine rl (sQ ..)<|aY (Ts.state ?_)
  refine aY (ml ?_);refine rl hb<|rl (aA rfl)<|rl (ax (by simp))<|aY (aY (Ts.state ?_))
  refine aY (ml ?_);refine rl hb<|rl (aA rfl)<|aY (wpAny_askSetting (av (av ?_)))
  have :((pickOrder (W.w.params.setOrder S ep) es)[i]?).map (λe=>(e.2,0)) =(((pickOrder (W.w.params.setOrder S ep) es).toList.map (·.2))[i]?).map λv=>(v,0):=by
   exact rl List.getElem?_map<|rl Array.getElem?_toList<|rl (Option.map_map ..) rfl
  rw[<- this] at q;exact q
 .refine rl hb ?_
  refine rl (ax (by simp;exact λa=>(λ{Wx Wy}=>String.Pos.Raw.mk_le_mk.mp) h1))<|wb (av ?_)
  refine wb (Ww HS ?_);have hfs:t.place.size=es.size:=by
   rw[SetTable.fits,Bool.and_eq_true,beq_iff_eq] at hf;exact hf.1
  refine GX (λi=>if i=0 then 0 else t.place.getD (i - 1) 0+1) (es.toList.map (·.2)) rfl (by simp) (.refl _) λi s' A' E' Q' Jx hi q=>?_;have Ts:lI s'.heap S es ep t:=⟨oS,Jx,hx,hd,hf⟩;refine rl (sQ ..)<|wb (Ts.state ?_)
  refine aY (ml ?_);refine rl hb<|rl (ax Bool.false_ne_true)<|rl (ax (by simp;exact λa=>(λ{Wx Wy}=>String.Pos.Raw.mk_le_mk.mp) h1))<|rl (ax (by simp[Eb])) ?_
  have he:es=#[]\/∃e p,es=#[e]/\t.place=#[p]:=by
   rcases Nat.lt_or_ge es.size 1 with hz |hz
   .exact .inl (Array.eq_empty_of_size_eq_zero (Nat.lt_one_iff.mp hz))
   .obtain⟨e,he⟩:=Array.size_eq_one_iff.mp (show es.size=1 by exact Eq.symm (Nat.le_antisymm hz h1))
    obtain⟨p,hp⟩:=Array.size_eq_one_iff.mp (show t.place.size=1 by lia);exact .inr ⟨e,p,he,hp⟩
  rcases he with rfl|⟨e,p,rfl,hp⟩
  .have Tt:i=0:=by simp at hi;exact hi
   subst Tt;exact av (by simpa using q)
  .have Kw:i=0\/i=1:=by simp at hi;exact Nat.le_one_iff_eq_zero_or_eq_one.mp hi
   rw[hp] at q ⊢;rcases Kw with rfl |rfl
   .refine rl (aA rfl)<|rl (vA ..)<|av ?_
    simpa using q
   .refine rl (ax (by decide))<|rl (vA ..)<|av ?_
    simpa using q
 .refine rl hb ?_
  refine rl (aA (by simp[yi];lia))<|wb (Ea es.size (List.range es.size) s (by simp) λl' d hp=>?_)
  refine wb (wpAny_newTuple ?_ (by refine rl (cL ..)<|rl hp.length_eq<|rl List.length_range<|rl sizeLine_eq ?_;exact q3 ‹_› (by rfl)))
  have HS2:lI (s.heap.push {cls:=.type "tuple",data:=.seq (l'.map λi=>rawInt (i:Nat)).toArray}) S es ep t:=⟨oS,bR _ hS,hx,hd,hf⟩;refine wb (Ww HS2 ?_);refine wb (wpAny_newObj_type (av ⟨_,rfl,"set_iterator",_,⟨_,cC _ rfl,rfl⟩,dC.lookup,?_⟩));refine h _ [(s.heap.push {cls:=.type "tuple",data:=.seq (l'.map λi=>rawInt (i:Nat)).toArray}).objs.size,S,s.heap.objs.size] _ (l'.map λj=>(es.getD j (0,.none)).2) _ d
   (λA hh=>yX (oP:={cls:=.type "tuple",data:=.seq (l'.map λi=>rawInt (i:Nat)).toArray}) l' hh ?_ ?_ hx hd hf hp rfl) ⟨cC _ rfl,bR _ (bR _ hS),bR _ (cC _ rfl)⟩
   (GV hp) (λb hb=>?_) ?_ λb o e=>bR _ (bR _ e)
  .exact rl (Heap.size_push ..)<|Nat.ne_of_gt (Nat.lt_succ_of_lt eO)
  .exact rl (Heap.size_push ..)<|Nat.ne_of_gt (Nat.lt_succ_self _)
  .refine rl (Heap.size_push ..)<|rl (Heap.size_push ..) ?_
   rcases b7 hb with rfl |hb
   .exact⟨by exact rl (Heap.size_push ..)<|Nat.lt_succ_self _,.inr (rl (Heap.size_push ..)<|Nat.le_succ _)⟩
   .rcases b7 hb with rfl |hb
    .exact⟨Nat.lt_succ_of_lt (Nat.lt_succ_of_lt eO),.inl rfl⟩
    .exact rl (dM hb)<|⟨Nat.lt_succ_of_lt (Nat.lt_succ_self _),.inr (Nat.le_refl _)⟩
  .exact rl (Heap.size_push ..)<|Nat.le_succ _
end
theorem sR:typeLookup (.type "set") "__len__" = pure (some (.builtin "set.__len__")):=PySem.F.slot_set_len.lookup
section
theorem GY {Q:Bool->Shared->Prop}(hT:s.TypeIs (.ref S) "set")(h:Q false s):wpAny bQ A (Builtin.List.listLengthHint (.ref S)) Q E s:=by
 refine aY (wpAny_specialOf hT sR ?_);refine rl (show splitId "set.__len__" = some ("set","__len__") from by decide +kernel)<|wb (wpAny_isInstance hT sub_set_self ?_)
 refine wb (wpAny_typeOf hT ?_);exact av h
theorem yZ (hh:A.handled=none)(hS:s.heap.get? S=some oS)(hx:oS.ExactSet)(hd:oS.data=.set es ep t)(hf:t.fits es.size=true)(hw:jc es t)(hz:es.size<=64){Q:List Value->Shared->Prop}(h :∀fP h' tk d,fP.Perm (es.toList.map (·.2))->(∀b o,s.heap.get? b=some o->h'.get? b=some o)->Q fP {s with heap:=h',toks:=tk,drawn:=d}) :
  wpAny bQ A (collect (.ref S)) Q E s:=by
 refine wb (wpAny_runValue (codeAny_builtin PySem.F.entry_proto_collect ?_));refine rl (Around.under_plainId PySem.F.plain_proto_collect _)<|wb (wpAny_newObj_type ?_)
 refine av ⟨plainId_quiet PySem.F.plain_list_iadd _,codeAny_builtin PySem.F.entry_list_iadd ?_⟩;refine rl (Around.under_plainId PySem.F.plain_list_iadd _) ?_;have eO:S<s.heap.objs.size:=cI hS;generalize hL:s.heap.objs.size=L at eO ⊢;have YM:L≠S:=Nat.ne_of_gt eO;have Rx :(s.heap.push {cls:=.type "list",data:=.seq ([]:List Value).toArray}).get? L=some {cls:=.type "list",data:=.seq ([]:List Value).toArray}:=hL▸cC _ rfl;have Wz :(s.heap.push {cls:=.type "list",data:=.seq ([]:List Value).toArray}).get? S=some oS:=bR _ hS;have h1:Builtin.List.listSameRef (.ref L) (.ref S)=false:=by simp[Builtin.List.listSameRef,YM]
 show wpAny _ A.in1 (Builtin.List.listExtendWith (.ref L) (.ref S) (.ref L)) _ _ _;refine wb (wpAny_typeOf (T:="set") ⟨oS,Wz,hx.1⟩ ?_);have h2 :(Value.type "set" == Value.type "list")=false:=by decide
 have h3 :(Value.type "set" == Value.type "tuple")=false:=by decide
 simp only[h1,h2,h3,Bool.or_false,Bool.false_eq_true,if_false];refine wb (GW (s:={s with heap:=s.heap.push {cls:=.type "list",data:=.seq ([]:List Value).toArray}}) Wz hx hd hf hw hz λI fp St gz h' d hW Jt hp hfp hI keep=>?_);have hsz :(s.heap.push {cls:=.type "list",data:=.seq ([]:List Value).toArray}).objs.size=L+1:=by exact rl (Heap.size_push ..)<|rl hL rfl
 refine wb (cP (GY (A:=A.in1) ⟨oS,keep _ _ Wz,hx.1⟩ ?_));refine wb (wpAny_rule ?_);refine wb ?_;have Ry:=keep _ _ Rx;refine wb (wpAny_updateSeq Ry rfl ?_);have Tu:=Heap.get?_update_self (Obj.mapSeq (·.push Value.none)) Ry rfl;refine wpAny_updateSeq Tu rfl ?_;have Ky:=Heap.get?_update_self (Obj.mapSeq (·.pop)) Tu rfl;have Rz:L∉fp:=λhm=>by
  rcases (hfp L hm).2 with e |e
  .exact YM e
  .rw[hsz] at e;exact Nat.lt_irrefl _ e
 have YN :∀b o,b≠L->h'.get? b=some o->((h'.update L (Obj.mapSeq (·.push Value.none))).update L (Obj.mapSeq (·.pop))).get? b=some o:=
  λb o hb e=>(Heap.get?_update_other _ _ (Ne.symm hb)).trans ((Heap.get?_update_other _ _ (Ne.symm hb)).trans e)
 have kX:gz.length=es.size:=by
  have:=hp.length_eq
  simpa using this
 have WA:=(hW A.in1 (by simp[hh])).frame 0 {s with heap:=h',drawn:=d} ((h'.update L (Obj.mapSeq (·.push Value.none))).update L (Obj.mapSeq (·.pop))) s.toks Jt (Nat.le_refl _) λb hb o e=>YN b o (λz=>Rz (z▸hb)) e;refine av ⟨plainId_quiet PySem.F.plain_extend_loop _,codeAny_extend_loopS (hW A.in1 (by simp[hh])) (by refine rl sizeLine_eq ?_;exact q3 ‹_› (by rfl)) L Rz _ es.size 0 _ _ _ rfl (Nat.zero_le _)
  WA Ky (ItemsOf.nil _) λs' jd c' hm Jx sS=>?_⟩
 refine wb (wpAny_load Jx ?_);show wpAny _ _ (pure jd.toList) _ _ _;refine rl (GU sS kX) ?_;obtain⟨uc,g',d',tk',os'⟩:=s';have e1:g'=s.gens:=hm.gens;have e2:d'=d:=hm.drawn;have e3:os'=s.os:=hm.os;subst e1;subst e2;subst e3;refine av (h gz uc tk' d' hp λb o e=>?_);have hb:b<L:=hL▸cI e;have e4:=YN b o (Nat.ne_of_lt hb) (keep _ _ (bR _ e));refine hm.heap b o (λGp=>?_) e4;rcases b7 Gp with z |z
 .exact absurd hb (z▸Nat.lt_irrefl _)
 .rw[dM z] at hb
  have hI':L+1<=I:=bZ (Nat.le_of_eq hsz.symm) hI;exact absurd (Nat.lt_of_lt_of_le (Nat.lt_succ_self L) hI') (Nat.lt_asymm hb)
end
noncomputable def ou (dy:List (Nat×Nat))(i j:Nat):Bool:=dy.any λp=>Nat.beq p.1 i&&Nat.beq p.2 j
noncomputable def WB (dy:List (Nat×Nat))(i:Nat):List Nat:=(dy.filter λp=>Nat.beq p.2 i).map (·.1)
noncomputable def RA (dy:List (Nat×Nat))(i:Nat):List Nat:=(dy.filter λp=>Nat.beq p.1 i).map (·.2)
def Oo (dy:List (Nat×Nat))(i j:Nat):List (Nat×Nat):=(i::WB dy i).flatMap (λa=>(j::RA dy j).map λb=>(a,b))++dy
noncomputable def WC (dy:List (Nat×Nat)):List Nat->Bool
 |i::j::r=>ou dy i j&&WC dy (j::r)
 |_=>true
noncomputable def GZ (n:Nat)(p:List Nat):Bool:=p.isPerm (List.range n)
noncomputable def Ec (n:Nat):List (Nat×Nat)->KasT (Array Nat)->Bool
 |dy,.ret p=>GZ n p.toList&&WC dy p.toList
 |dy,.ask i j k=>Nat.blt i n&&Nat.blt j n&&!Nat.beq i j&&
  (if ou dy i j then Ec n dy (k true) else if ou dy j i then Ec n dy (k false)
   else Ec n (Oo dy i j) (k true)&&Ec n (Oo dy j i) (k false))
theorem Kz :∀n,2<=n->n<=4->Ec n [] (kas_sort n)=true
 |2,_,_=>by decide +kernel
 |3,_,_=>by decide +kernel
 |4,_,_=>by decide +kernel
 |0,h,_=>by exact Bool.eq_false_imp_eq_true.mp (congrFun rfl)
 |1,h,_=>by exact Bool.eq_false_imp_eq_true.mp (congrFun rfl)
 |n+5,_,h=>by lia
theorem y3 {p:List Nat}(h:GZ n p=true):p.Perm (List.range n):=List.isPerm_iff.mp h
section
variable {lt:Nat->Nat->Prop}
theorem sT (hf :∀p∈dy,lt p.1 p.2)(h:ou dy i j=true):lt i j:=by
 simp only[ou,List.any_eq_true,Bool.and_eq_true] at h;obtain⟨p,hp,e1,e2⟩:=h;exact rr (Nat.eq_of_beq_eq_true e1)<|rr (Nat.eq_of_beq_eq_true e2)<|hf p hp
theorem CE (Ed :∀i j k,lt i j->lt j k->lt i k)(hf :∀p∈dy,lt p.1 p.2)(h:lt i j) :∀p∈Oo dy i j,lt p.1 p.2:=by
 intro p hp;rcases List.mem_append.mp hp with hp |hp
 .obtain⟨a,ha,hp⟩:=List.mem_flatMap.mp hp
  obtain⟨b,hb,rfl⟩:=dz hp;have WD:a=i\/lt a i:=by
   rcases b7 ha with e |ha
   .exact .inl e
   .obtain⟨q,hq,rfl⟩:=dz ha
    obtain⟨WE,WG⟩:=List.mem_filter.mp hq;exact .inr (Nat.eq_of_beq_eq_true WG▸hf q WE)
  have Kh:b=j\/lt j b:=by
   rcases b7 hb with e |hb
   .exact .inl e
   .obtain⟨q,hq,rfl⟩:=dz hb
    obtain⟨WE,WG⟩:=List.mem_filter.mp hq;exact .inr (Nat.eq_of_beq_eq_true WG▸hf q WE)
  have h1:lt i b:=by
   rcases Kh with rfl |Kh
   .exact h
   .exact Ed _ _ _ h Kh
  rcases WD with rfl |WD
  .exact h1
  .exact Ed _ _ _ WD h1
 .exact hf p hp
theorem G0 (Ed :∀i j k,lt i j->lt j k->lt i k){dy:List (Nat×Nat)}(hf :∀p∈dy,lt p.1 p.2) :∀(l:List Nat),WC dy l=true->l.Pairwise lt
 |[],_=>.nil
 |[i],_=>by simp
 |i::j::r,h=>by
  replace h:=cK h;have ih:=G0 Ed hf (j::r) h.2;have h1:=sT hf h.1;rw[List.pairwise_cons];refine⟨λk hk=>?_,ih⟩;rcases b7 hk with rfl |hk
  .exact h1
  .exact Ed _ _ _ h1 ((List.pairwise_cons.mp ih).1 k hk)
theorem j1 {n:Nat}{ask:Nat->Nat->(Bool->Shared->Prop)->Shared->Prop}{s:Shared}(Ed :∀i j k,lt i j->lt j k->lt i k)(Ee :∀i j,lt i j->lt j i->False)
  (y4 :∀i j,i<n->j<n->i≠j->∀C:Bool->Shared->Prop,(lt i j->C true s)->(lt j i->C false s)->ask i j C s) {Q:Array Nat->Shared->Prop}
  (hQ :∀p:Array Nat,p.toList.Perm (List.range n)->p.toList.Pairwise lt->Q p s) :
  ∀(t:KasT (Array Nat)) (dy:List (Nat×Nat)),(∀p∈dy,lt p.1 p.2)->Ec n dy t=true->t.kasWp ask Q s
 |.ret p,dy,hf,h=>by
  replace h:=cK h;exact hQ p (y3 h.1) (G0 Ed hf _ h.2)
 |.ask i j k,dy,hf,h=>by
  obtain⟨h,h4⟩:=cK h;obtain⟨h,h3⟩:=cK h;obtain⟨h1,h2⟩:=cK h;rw[Nat.blt_eq] at h1 h2;refine y4 i j h1 h2 (λe=>by rw[e] at h3;simp at h3) _ (λMt=>?_) λJs=>?_
  .by_cases xd:ou dy i j=true
   .rw[aA xd] at h4
    exact j1 Ed Ee y4 hQ (k true) dy hf h4
   .rw[ax xd] at h4
    by_cases Ft:ou dy j i=true
    .exact(Ee _ _ Mt (sT hf Ft)).elim
    .rw[ax Ft,Bool.and_eq_true] at h4
     exact j1 Ed Ee y4 hQ (k true) _ (CE Ed hf Mt) h4.1
  .by_cases xd:ou dy i j=true
   .exact(Ee _ _ Js (sT hf xd)).elim
   .rw[ax xd] at h4
    by_cases Ft:ou dy j i=true
    .rw[aA Ft] at h4
     exact j1 Ed Ee y4 hQ (k false) dy hf h4
    .rw[ax Ft,Bool.and_eq_true] at h4
     exact j1 Ed Ee y4 hQ (k false) _ (CE Ed hf Js) h4.2
end
noncomputable def dO:V->List Nat
 |.tup (.str s::_)=>s
 |_=>[]
noncomputable def je:List V->Bool
 |[]=>true
 |.int _::r=>je r
 |_=>false
def iz:V->Bool
 |.tup (.str s::r)=>s.all (· < 0x110000)&&je r
 |_=>false
def eO (x y:V):Bool:=decide (dO x<dO y)
noncomputable def Bo (x:V):List V->List V
 |[]=>[x]
 |y::ys=>if eO x y then x::y::ys else y::Bo x ys
noncomputable def jv:List V->List V
 |[]=>[]
 |x::xs=>Bo x (jv xs)
noncomputable def jf:List V->Bool
 |[]=>true
 |x::xs=>xs.all (λy=>!(dO x == dO y))&&jf xs
theorem vB (x:V) :∀l,(Bo x l).Perm (x::l):=by
 intro y
 induction y with
 |nil=>
  exact .refl _
 |cons y ys ih=>
  unfold Bo
  split
  .exact .refl _
  .exact((ih).cons y).trans (.swap ..)
theorem nt :∀l,(jv l).Perm l:=by
 intro y
 induction y with
 |nil=>
  exact .refl _
 |cons x xs ih=>
  exact(vB x _).trans ((ih).cons x)
theorem sU :∀(l:List V),jf l=true↔(l.map dO).Nodup:=by
 intro y
 induction y with
 |nil=>
  simp[jf]
 |cons x xs ih=>
  simp only[jf,Bool.and_eq_true,List.map_cons,List.nodup_cons,ih,List.all_eq_true,Bool.not_eq_true',beq_eq_false_iff_ne,List.mem_map,not_exists,not_and];exact⟨λ⟨h1,h2⟩=>⟨λy hy e=>h1 y hy e.symm,h2⟩,λ⟨h1,h2⟩=>⟨λy hy e=>h1 y hy e.symm,h2⟩⟩
theorem vC {z:V}(h1:eO x y=true)(h2:eO y z=true):eO x z=true:=by
 simp only[eO,decide_eq_true_eq] at *;exact List.lt_trans h1 h2
theorem vD (h1:eO x y=true)(h2:eO y x=true):False:=by
 simp only[eO,decide_eq_true_eq] at *;exact List.lt_asymm h1 h2
theorem vE (h1:eO x y=false)(h2:eO y x=false):dO x=dO y:=by
 simp only[eO,decide_eq_false_iff_not] at *;exact List.le_antisymm (List.not_lt.mp h2) (List.not_lt.mp h1)
theorem y5 (x:V) :∀l:List V,(∀y∈l,dO x≠dO y)->l.Pairwise (λa b=>eO a b=true)->(Bo x l).Pairwise (λa b=>eO a b=true):=by
 intro y
 induction y with
 |nil=>
  intro _ _;simp[Bo]
 |cons y ys ih=>
  intro dg h;rw[List.pairwise_cons] at h;unfold Bo;by_cases nO:eO x y=true
  .rw[aA nO,List.pairwise_cons]
   refine⟨λz hz=>?_,List.pairwise_cons.mpr h⟩;rcases b7 hz with rfl |hz
   .exact nO
   .exact vC nO (h.1 z hz)
  .rw[ax nO,List.pairwise_cons]
   refine⟨λz hz=>?_,ih (λz hz=>dg z (.tail _ hz)) h.2⟩;rcases b7 ((vB x ys).mem_iff.mp hz) with rfl |hz
   .cases hyx:eO y z with
    |true=>rfl
    |false=>exact absurd (vE (by simpa using nO) hyx) (dg y (.head _))
   .exact h.1 z hz
theorem ow :∀l:List V,(l.map dO).Nodup->(jv l).Pairwise (λa b=>eO a b=true):=by
 intro y
 induction y with
 |nil=>
  intro _;exact .nil
 |cons x xs ih=>
  intro h;rw[List.map_cons,List.nodup_cons] at h;refine y5 x _ (λy hy e=>h.1 ?_) (ih h.2);exact rl e<|List.mem_map.mpr ⟨y,(nt xs).mem_iff.mp hy,rfl⟩
theorem oz {l l':List V}(p:l'.Perm l)(hl :(l.map dO).Nodup)(h:l'.Pairwise (λa b=>eO a b=true)):l'=jv l:=
 (p.trans (nt l).symm).eq_of_pairwise (λ_ _ _ _ h1 h2=>(vD h1 h2).elim) h (ow l hl)
section
variable {h h':Heap}
theorem mM {r:List V}(e:je (v::r)=true) :(∃i,v=.int i)/\je r=true:=by
 revert e;cases v with
 |int i=>intro e;exact⟨⟨i,rfl⟩,e⟩
 |_=>intro e;injection e
theorem Ef :∀(r:List V) {ms:List Value},aD Z h r ms->je r=true->∀v∈ms,∀a,v≠Value.ref a:=by
 intro r
 induction r with
 |nil=>intro ms rs _ v hv;cases rs;cases hv
 |cons x r ih=>
  intro ms rs e v hv
  cases rs with
  |cons r1 r2=>
   obtain⟨⟨i,rfl⟩,e2⟩:=mM e
   cases r1;rcases b7 hv with rfl |hv
   .intro a h;injection h
   .exact ih r2 e2 v hv
theorem xe :∀(r:List V),je r=true->V.kZ r=true/\V.cv r=0:=by
 intro r
 induction r with
 |nil=>exact λ_=>⟨rfl,rfl⟩
 |cons x r ih=>
  intro e;obtain⟨⟨i,rfl⟩,e2⟩:=mM e;obtain⟨h1,h2⟩:=ih e2;exact⟨h1,by show max 0 (V.cv r)=0;exact h2.trans rfl⟩
theorem y6 (e:iz v=true) :∃y vs,v=.tup (.str y::vs)/\y.all (· < 0x110000)=true/\je vs=true:=by
 cases v with
 |tup vs=>cases vs with
  |nil=>injection e
  |cons x vs=>cases x with
   |str y=>exact⟨y,vs,rfl,cK e⟩
   |_=>injection e
 |_=>injection e
theorem jg (r:aH Z h v mv)(e:iz v=true) :∃k x,v=.tup k/\mv=.ref x/\mj h k x/\
  ∃o xs n t,h.get? x=some o/\o.cls=.type "tuple"/\o.data=.seq xs n/\xs[0]? = some (.str (cJ (dO v)) t)/\∃r,xs.toList=.str (cJ (dO v)) t::r:=by
 obtain⟨y,jM,rfl,e1,e2⟩:=y6 e;obtain⟨a,o,ms,n,rfl,ho,hc,hd,hn,rs⟩:=r.fV;obtain⟨m,WH,em,r1,r2⟩:=rs.cons_inv;obtain⟨t,rfl⟩:=r1.str_inv;obtain⟨k1,k2⟩:=xe _ e2;have h0:ms[0]? = some (.str (cJ y) t):=by refine(Eq.symm (Array.getElem?_toList)).trans ?_;exact rl em rfl
 exact⟨.str y::jM,a,rfl,rfl,⟨⟨.tup ho hc hd (by simp[bH,dW.nil]) (rs.plain0 (fD ⟨e1,V.fG k1⟩)),fD ⟨e1,k1⟩,by show max 0 (V.cv jM)<=6;refine rl k2 ?_;decide⟩,o,ms,n,cJ y,t,WH,ho,hc,hd,em,Ef _ r2 e2⟩,o,ms,n,t,ho,hc,hd,h0,WH,em⟩
end
section
variable {h h':Heap}
theorem aD.at_ (r:aD Z h vs ms)(hi:i<vs.length):aH Z h (vs.getD i .none) (ms.getD i .none):=by
 refine cq λG hG=>?_;obtain⟨m,e,r'⟩:=r.get i vs[i] (List.getElem?_eq_getElem hi);have e1:vs.getD i .none=vs[i]:=by simp[hi]
 have e2:ms.getD i .none=m:=by simp[e]
 refine hG ?_;rw[e1,e2];exact r'
theorem aD.y7 (r:aD Z h vs ms) :∀(p:List Nat),(∀i∈p,i<vs.length)->aD Z h (p.map λi=>vs.getD i .none) (p.map λi=>ms.getD i .none):=by
 intro y
 induction y with
 |nil=>
  intro _;exact .nil
 |cons i p ih=>
  intro hp;exact .cons (r.at_ (hp i (.head _))) (ih λj hj=>hp j (.tail _ hj))
theorem kat_tups {vs:List Value}(rs:aD Z s.heap dQ vs) :(∀v∈dQ,iz v=true)->∃fs,KatTups s.heap vs fs/\fs.length=vs.length/\∀f∈fs,∃y t,f=Value.str y t:=
 rs.ind (P:=λdQ vs=>(∀v∈dQ,iz v=true)->∃fs,KatTups s.heap vs fs/\fs.length=vs.length/\∀f∈fs,∃y t,f=Value.str y t) (λ_=>⟨[],KatTups.nil,rfl,λ_ h=>nomatch h⟩) λv m vs ms r1 _ ih ht=>by
  obtain⟨fs,h1,h2,h3⟩:=ih λv hv=>ht v (.tail _ hv);obtain⟨k,x,_,rfl,_,o,xs,n,t,ho,hc,hd,hx,_⟩:=jg r1 (ht _ (.head _));exact⟨_,KatTups.cons ho hc hd hx h1,aR (· + 1) h2,λf hf=>(b7 hf).elim (λe=>⟨_,_,e⟩) (h3 f)⟩
theorem G3 (ru:aH Z s.heap u mu)(rv:aH Z s.heap v mv)(hu:iz u=true)(hv:iz v=true)(dg:dO u≠dO v)(hC:C (eO u v) s):wpAny bQ A (keyLt' (tuples' true) mu mv) C (λ_ _=>False) s:=by
 refine cq λG hG=>?_;obtain⟨_,x,_,rfl,_,ox,xs,nx,tx,Rn,YG,Cx,hx0,rx,hxl⟩:=jg ru hu;obtain⟨_,y,_,rfl,_,oy,ys,ny,ty,WI,hcy,WJ,hy0,ry,hyl⟩:=jg rv hv;refine hG ?_;refine kat_lt Rn Cx WI WJ ?_;rw[hxl,hyl,List.zip_cons_cons];refine kat_cons ?_;refine(strKind W.prog W.w).eqBool (strKind_is _ _ _ _) (strKind_is _ _ _ _) ?_;have:cJ (dO u)≠cJ (dO v):=λe=>dg (by have:=aR Str.cps e;simpa [cJ] using this);rw[cH this];refine kat_no ?_;exact oneLt_str hC
theorem sV {a:Addr}{vs:List Value}{h0:Heap}{P:PySem.Fin->Shared->Prop}(ho:s.heap.get? a=some (cR "list" vs.toArray n))(r0:aD Z h0 dQ vs)(k0 :∀b o,h0.get? b=some o->s.heap.get? b=some o)(ha0:h0.get? a=none)(ht :∀v∈dQ,iz v=true)(hd :(dQ.map dO).Nodup)(h6:vs.length<=4)(hP :∀fP h',aD Z h0 (jv dQ) fP->h'.get? a=some (cR "list" fP.toArray n)\/(∃e,h'.get? a=some (cR "list" fP.toArray e))->(∀b o,b≠a->s.heap.get? b=some o->h'.get? b=some o)->P (.done (.ret .none)) {s with heap:=h'}) :
  wpAny bQ A (Builtin.«list.sort» ⟨[.ref a],[]⟩) P E s:=by
 refine cq λG hG=>?_;have ha:a<s.heap.objs.size:=cI ho;have hlen:=r0.length;have s1:=dP s.heap a (Obj.mapSeq λ_=>(#[]:Array Value));obtain⟨e1,RB⟩ :∃e1,(s.heap.update a (Obj.mapSeq λ_=>(#[]:Array Value))).get? a=some (cR "list" #[] e1):=⟨_,get?_update_seq ho λ_=>#[]⟩;refine hG ?_;rw[list_sort_plain];refine wb (listItems_at ho rfl ?_);refine wb (listUpdate_at ho rfl ?_ (by rw[List.size_toArray,sizeLine_eq];exact q3 ‹_› (by rfl)) (Nat.zero_le _));refine wb (seqEpoch_at RB rfl ?_);refine wb (wpAny_newTuple ?_ (by show vs.length<=_;rw[sizeLine_eq];exact q3 ‹_› (by rfl)));refine wb (wpAny_newList ?_ (Nat.zero_le _));refine cP ?_;show wpAny bQ A _ P E {s with heap:=((s.heap.update a (Obj.mapSeq λ_=>(#[]:Array Value))).push (cR "tuple" vs.toArray 0)).push (cR "list" #[] 0)};generalize hH :((s.heap.update a (Obj.mapSeq λ_=>(#[]:Array Value))).push (cR "tuple" vs.toArray 0)).push (cR "list" #[] 0)=H;have Oq:H.get? a=some (cR "list" #[] e1):=by rw[<- hH];exact bR _ (bR _ RB)
 have Tv :∀b o,b≠a->s.heap.get? b=some o->H.get? b=some o:=λb o hb e=>by rw[<- hH];exact bR _ (bR _ ((s1.2 b hb).trans e))
 have hH0 :∀b o,h0.get? b=some o->H.get? b=some o:=λb o e=>Tv b o (λz=>by rw[z,ha0] at e;injection e) (k0 b o e);have rH:aD Z H dQ vs:=r0.mono (cE.of_keeps (D:=[]) hH0);have fin :∀(xg:SortSt) (fP:List Value),(arrOf xg).map (·.2)=fP.toArray->failedOf xg=none->aD Z h0 (jv dQ) fP->fP.length<=4->wpAny bQ A (do
   let sorted:=(arrOf xg).map (·.2)
   let KA:=(<- seqEpoch a) != e1
   Builtin.List.listUpdate (.ref a) λ_=>sorted
   if let some e:=failedOf xg then rule "list.sort.comparison-raised";throw e
   if KA then rule "list.sort.modified";raiseError "ValueError" "list modified during sort"
   ret .none) P E {s with heap:=H}:=by
  intro xg fP Eg hf ro kX;dsimp only;rw[Eg];refine wb (seqEpoch_at Oq rfl ?_);refine wb (listUpdate_at Oq rfl ?_ (Nat.zero_le _) (by rw[List.size_toArray,sizeLine_eq];exact q3 ‹_› (by rfl)));rw[hf];simp only[bne_self_eq_false,Bool.false_eq_true,if_false];refine av (hP fP _ ro (.inr ⟨_,get?_update_seq Oq λ_=>fP.toArray⟩) λb o hb e=>?_);exact((dP H a _).2 b hb).trans (Tv b o hb e)
 by_cases h2:vs.toArray.size<2
 .rw[aA h2,aA h2]
  refine aY (av ?_);dsimp only;rw[StateT.run_pure];refine wb (av ?_);have Ot:jv dQ=dQ:=by
   rw[List.size_toArray] at h2
   match dQ,hlen with
   |[],_=>rfl
   |[x],_=>rfl
   |x::y::r,hl=>simp at hl;lia
  refine fin (SortSt.mk' general' (vs.toArray.zip vs.toArray) #[] 7 none) vs ?_ rfl (by rw[Ot];exact r0) h6;show(vs.toArray.zip vs.toArray).map (·.2)=vs.toArray
  apply Array.toList_inj.mp
  simp[List.map_snd_zip]
 .rw[ax h2,ax h2]
  refine cq λG hG=>?_;rw[List.size_toArray] at h2;obtain⟨fs,xd,Ft,hk3⟩:=kat_tups (s:={s with heap:=H}) rH ht;refine hG ?_;refine wb (kat_kind (T:=.type "str") xd (q84 ‹_› ‹_›) (λf hf=>by obtain⟨y,t,rfl⟩:=hk3 f hf;exact Looks.of_pure rfl) rfl ?_);have hb :(Value.type "str" != Value.type "tuple")=true:=by decide
  rw[hb];refine wb (cA (kat_run (s:={s with heap:=H}) (Q:=λxg s'=>s' ={s with heap:=H}/\∃p:Array Nat,p.toList.Perm (List.range vs.length)/\p.toList.Pairwise (λi j=>eO (dQ.getD i .none) (dQ.getD j .none)=true)/\
    arrOf xg=p.map (kas_item (vs.toArray.zip vs.toArray))/\failedOf xg=none) (G:=λp s'=>s' ={s with heap:=H}/\p.toList.Perm (List.range vs.length)/\p.toList.Pairwise (λi j=>eO (dQ.getD i .none) (dQ.getD j .none)=true))
   rfl (Nat.le_of_not_lt h2) (q2 ‹_› (by rfl)) (λp xg s' a1 a2 a3 a4=>⟨a4.1,p,a4.2.1,a4.2.2,a2,a3⟩) ?_) ?_ λ_ _ x=>x)
  .refine j1 (n:=vs.length) (lt:=λi j=>eO (dQ.getD i .none) (dQ.getD j .none)=true) (λi j k=>vC) (λi j=>vD) (λi j hi hj Mt C h1 h2=>?_) (λp h1 h2=>⟨rfl,h1,h2⟩) _ [] (by simp) (Kz _ (Nat.le_of_not_lt h2) h6)
   rw[<- hlen] at hi hj;have YO:dQ.getD i .none=dQ[i]:=by simp[hi]
   have YQ:dQ.getD j .none=dQ[j]:=by simp[hj]
   have dg:dO (dQ.getD i .none)≠dO (dQ.getD j .none):=λe=>Mt (by
    rw[YO,YQ] at e;have h1 :(dQ.map dO)[i]? = some (dO dQ[i]):=by simp[hi]
    have h2 :(dQ.map dO)[j]? = some (dO dQ[j]):=by simp[hj]
    rw[e] at h1;exact(List.getElem?_inj (List.getElem?_eq_some_iff.mp h1).1 hd).mp (h1.trans h2.symm))
   refine G3 (s:={s with heap:=H}) (rH.at_ hi) (rH.at_ hj) (by rw[YO];exact ht _ (List.getElem_mem hi)) (by rw[YQ];exact ht _ (List.getElem_mem hj)) dg ?_
   cases hc:eO (dQ.getD i .none) (dQ.getD j .none) with
   |true=>exact h1 hc
   |false=>
    refine h2 ?_
    cases xU:eO (dQ.getD j .none) (dQ.getD i .none) with
    |true=>rfl
    |false=>exact absurd (vE hc xU) dg
  .rintro⟨⟨⟩,xg⟩ s' ⟨rfl,p,Jw,RC,WK,hf⟩
   have eO :∀i∈p.toList,i<dQ.length:=λi hi=>by rw[hlen];exact List.mem_range.mp (Jw.mem_iff.mp hi)
   have KC :(p.toList.map λi=>dQ.getD i V.none)=jv dQ:=by
    refine oz ?_ hd ?_
    .refine(Jw.map _).trans ?_
     have :(List.range vs.length).map (λi=>dQ.getD i V.none)=dQ:=by
      apply List.ext_getElem
      .simp[hlen]
      .intro i h1 h2
       simp[h2]
     rw[this]
    .rw[List.pairwise_map];exact RC
   refine fin xg (p.toList.map λi=>vs.getD i Value.none) (kat_snds rfl WK) hf ?_ ?_
   .rw[<- KC];exact r0.y7 _ eO
   .rw[cL,Jw.length_eq,List.length_range];exact h6
end
theorem Bp {f m:Nat}{led:Bool}(j:Nat) :(SetTable.fresh f m led).slot j=.empty:=yQ rfl (by simp[SetTable.fresh])
theorem sW (f m:Nat)(led:Bool)(h:Int) :(SetTable.fresh f m led).freeSlot h=some (((SetTable.fresh f m led).probeStart h).j,false):=by
 have :(SetTable.fresh f m led).probe (λ_=>h+1) h ((SetTable.fresh f m led).probeStart h)=some (.empty ((SetTable.fresh f m led).probeStart h).j none):=by
  unfold SetTable.probe;rw[show(10 * SetTable.turns (SetTable.fresh f m led).mask:Nat)=219+1 from rfl,SetTable.probe.go,Bp];rfl
 unfold SetTable.freeSlot;exact rl this rfl
theorem xh (led:Bool)(h:Int)(x:Value) :∃t,layNew (.fresh 0 0 led) #[] h x =(#[(h,x)],t,false,false)/\t.fits 1=true/\t.led=led/\t.tooFull=false/\t.plain=true:=by
 unfold layNew;refine rl (sW ..) ?_;generalize ((SetTable.fresh 0 0 led).probeStart h).j=j;have hb:SetTable.below (SetTable.fresh 0 0 led).place j=0:=Nat.le_zero.mp (yT _ _);have hp :(SetTable.fresh 0 0 led).put j =({mask:=7,place:=#[j],dummies:=#[],finger:=0,led:=led,moves:=0,plain:=true},0):=by
  unfold SetTable.put;refine rl hb ?_;show(({mask:=7,place:=SetTable.insertAt #[] 0 j,dummies:=if SetTable.has #[] j then _ else _,finger:=0,led:=led,moves:=0,plain:=true}:SetTable),0)=_;exact rl (w8 ..)<|rl (ax Bool.false_ne_true) rfl
 dsimp only;refine rl hp<|⟨{mask:=7,place:=#[j],dummies:=#[],finger:=0,led:=led,moves:=0,plain:=true},?_,rfl,rfl,rfl,rfl⟩
 rfl
noncomputable def Ou (i:Int)(es:Array (Int×Value))(t:SetTable):Prop:=∃u,es=#[((intKind W.prog W.w).hash i,.int i u)]/\t.fits 1=true/\t.led=!hB
noncomputable def Ov (i:Int)(h:Heap)(S:Addr):Prop:=∃o es ep t,h.get? S=some o/\o.ExactSet/\o.data=.set es ep t/\Ou i es t
section
variable {i:Int}
theorem uB {u:Tok}(hS:s.heap.get? S=some (dG)){Q:Bool->Shared->Prop}(k :∀b h' tk,Heap.SameBut S s.heap h'->Ov i h' S->Q b {s with heap:=h',toks:=tk}) :
  wpAny bQ A (setAdd S (.int i u)) Q E s:=by
 refine cP (wb ((intKind W.prog W.w).pyHash (k:=i) (intKind_is _ _ _ _) ?_));refine cP ?_;refine aY (wpAny_setState_of hS rfl rfl ?_);dsimp only;refine rl (aA (fD ⟨rfl,Array.all_toList.symm.trans rfl⟩))<|wb (wb (wpAny_rule ?_))
 refine wb (m:=setScan _ _ _ _ _) (av (a:=ScanMet.absent) ?_);refine cq λG hG=>?_;obtain⟨t,hl,hf,Eb,yV,yi⟩:=xh (!hB) ((intKind W.prog W.w).hash i) (.int i u);refine hG ?_;refine rl hl ?_;dsimp only;refine wb (m:=pure ()) (av ?_);refine rl (aA yi)<|aY (wpAny_of_eq (a:=true) rfl ?_)
 refine rl (aA rfl)<|wb (wpAny_storeSet_of hS rfl ?_ (by show 1<=_;exact rl sizeLine_eq<|Nat.le_of_ble_eq_true rfl))
 refine rl (ax (by simp[yV]))<|av (av (k true _ _ (dP ..) ⟨_,_,_,_,sO hS rfl _ _,⟨rfl,rfl,rfl⟩,rfl,u,rfl,hf,Eb⟩))
theorem uC {u:Tok}(H:Ov i s.heap S){Q:Bool->Shared->Prop}(k :∀b tk,Q b {s with toks:=tk}):wpAny bQ A (setAdd S (.int i u)) Q E s:=by
 refine cq λG hG=>?_;obtain⟨o,es,ep,t,ho,hx,hd,u',rfl,hf,Eb⟩:=H;refine hG ?_;refine cP (wb ((intKind W.prog W.w).pyHash (k:=i) (intKind_is _ _ _ _) ?_));refine cP ?_;refine aY (wpAny_setState_of ho hd hf ?_);dsimp only;refine rl (aA (fD ⟨rfl,Array.all_toList.symm.trans rfl⟩))<|wb (wb (wpAny_rule ?_))
 refine wb ?_;show wpAny _ _ (setScanFrom S (.int i u) ((intKind W.prog W.w).hash i) true [((intKind W.prog W.w).hash i,.int i u')] 0) _ _ _;unfold setScanFrom;refine rl (aA (by simp))<|wb (wpAny_setEpoch_of ho hd hf ?_)
 refine aY ((intKind W.prog W.w).eqBool (a:=i) (b:=i) (intKind_is _ _ _ _) (intKind_is _ _ _ _) ?_);exact rl (aA (by simp))<|av (av (av (k false _)))
end
def sX:List V->Bool
 |[]=>true
 |.int i::r=>r.all λv=>V.beq v (.int i)
 |_=>false
def oA (v:V):Option V:=match v with
 |.list vs=>if sX vs then some (.list (vs.take 1)) else if vs.all iz&&jf vs&&Nat.ble vs.length 4 then some (.list (jv vs)) else .none
 |_=>.none
section
variable {h h':Heap}
theorem aD.CF :∀{d:List V} {ps:List Addr},aD Z h d (ps.map .ref)->∀p∈ps,∃v∈d,aH Z h v (.ref p)
 |[],[],_,p,hp=>nomatch hp
 |v::d,q::ps,.cons r1 r2,p,hp=>by
  rcases b7 hp with rfl |hp
  .exact⟨v,.head _,r1⟩
  .obtain⟨u,hu,r⟩:=aD.CF r2 p hp
   exact⟨u,.tail _ hu,r⟩
 |[],_::_,r,_,_=>nomatch r
 |_::_,[],r,_,_=>nomatch r
theorem iH (hx:o.ExactSet)(hd:o.data=.set es ep t):fq o:=
 ⟨aR eJ hd,by rw[hx.1];decide,by rw[hx.1];decide,by rw[hx.1];decide,by rw[hx.1];simp⟩
theorem mN {a:Addr}{vs:List Value}{P:PySem.Fin->Shared->Prop}(ho:s.heap.get? a=some (cR "list" vs.toArray n))(h1:vs.length<2)(hP :∀h',(∃e,h'.get? a=some (cR "list" vs.toArray e))->(∀b o,b≠a->s.heap.get? b=some o->h'.get? b=some o)->P (.done (.ret .none)) {s with heap:=h'}) :
  wpAny bQ A (Builtin.«list.sort» ⟨[.ref a],[]⟩) P E s:=by
 have ha:a<s.heap.objs.size:=cI ho;have s1:=dP s.heap a (Obj.mapSeq λ_=>(#[]:Array Value));obtain⟨e1,RB⟩ :∃e1,(s.heap.update a (Obj.mapSeq λ_=>(#[]:Array Value))).get? a=some (cR "list" #[] e1):=⟨_,get?_update_seq ho λ_=>#[]⟩;refine rl (list_sort_plain ..)<|wb (listItems_at ho rfl ?_)
 refine wb (listUpdate_at ho rfl ?_ (by refine rl List.size_toArray<|rl sizeLine_eq ?_;exact q4 ‹_› (by rfl)) (Nat.zero_le _))
 refine wb (seqEpoch_at RB rfl ?_);refine wb (wpAny_newTuple ?_ (by show vs.length<=_;refine rl sizeLine_eq ?_;exact q4 ‹_› (by rfl)));refine wb (wpAny_newList ?_ (Nat.zero_le _));refine cP ?_;show wpAny bQ A _ P E {s with heap:=((s.heap.update a (Obj.mapSeq λ_=>(#[]:Array Value))).push (cR "tuple" vs.toArray 0)).push (cR "list" #[] 0)};generalize hH :((s.heap.update a (Obj.mapSeq λ_=>(#[]:Array Value))).push (cR "tuple" vs.toArray 0)).push (cR "list" #[] 0)=H;have Oq:H.get? a=some (cR "list" #[] e1):=by exact rr hH<|bR _ (bR _ RB)
 have Tv :∀b o,b≠a->s.heap.get? b=some o->H.get? b=some o:=λb o hb e=>by exact rr hH<|bR _ (bR _ ((s1.2 b hb).trans e))
 have h2:vs.toArray.size<2:=by exact rl List.size_toArray<|h1
 refine rl (aA h2)<|rl (aA h2)<|aY (av ?_)
 dsimp only;refine rl (StateT.run_pure ..)<|aY (av ?_)
 have Eg :(vs.toArray.zip vs.toArray).map (·.2)=vs.toArray:=by
  apply Array.toList_inj.mp
  simp[List.map_snd_zip]
 dsimp only;refine rl Eg<|wb (seqEpoch_at Oq rfl ?_)
 refine wb (listUpdate_at Oq rfl ?_ (Nat.zero_le _) (by refine rl List.size_toArray<|rl sizeLine_eq ?_;exact q4 ‹_› (by rfl)))
 simp only[bne_self_eq_false,Bool.false_eq_true,if_false];refine av (hP _ ⟨_,get?_update_seq Oq λ_=>vs.toArray⟩ λb o hb e=>?_);exact((dP H a _).2 b hb).trans (Tv b o hb e)
theorem Bq (hh:A.handled=none)(hS:s.heap.get? S=some oS)(hx:oS.ExactSet)(hd:oS.data=.set es ep t)(hf:t.fits es.size=true)(hw:jc es t)(hz:es.size<=4)(r :∀fP:List Value,fP.Perm (es.toList.map (·.2))->∃lJ,lJ.Perm dQ/\aD Z s.heap lJ fP)(hk:es.size<2\/((∀v∈dQ,iz v=true)/\(dQ.map dO).Nodup))(h :∀L h' tk d fP,h'.get? L=some (cR "list" fP.toArray 0)\/(∃e,h'.get? L=some (cR "list" fP.toArray e))->s.heap.get? L=none->(∀b o,s.heap.get? b=some o->h'.get? b=some o)->
   aD Z s.heap (if es.size<2 then dQ else jv dQ) fP->Q (.ref L) {s with heap:=h',toks:=tk,drawn:=d}) :
  wpAny bQ A (call (.builtin "sorted") [.ref S]) Q E s:=by
 refine Calls.call_function_entry kind_sorted plain_sorted entry_sorted (args_sorted1 _) ?_;refine wb (m:=checkCount "sorted" 1 1 _) (av ?_);refine wb (yZ (by simp[hh]) hS hx hd hf hw (q3 ‹_› (by rfl)) λfP h1 tk d hp k1=>?_);obtain⟨lJ,uc,ro⟩:=r fP hp;have kX:fP.length=es.size:=by
  have:=hp.length_eq
  simpa using this
 refine wb (wpAny_newList ?_ (by refine rl kX<|rl sizeLine_eq ?_;exact q3 ‹_› (by rfl)))
 have xX :(h1.push (cR "list" fP.toArray 0)).get? h1.objs.size=some (cR "list" fP.toArray 0):=cC _ rfl;have A3:s.heap.get? h1.objs.size=none:=by
  cases z:s.heap.get? h1.objs.size with
  |none=>rfl
  |some o=>exact absurd (cI (k1 _ _ z)) (Nat.lt_irrefl _)
 have k2 :∀b o,s.heap.get? b=some o->(h1.push (cR "list" fP.toArray 0)).get? b=some o:=λb o e=>bR _ (k1 b o e);have tail :∀h' Eh,(∃e,h'.get? h1.objs.size=some (cR "list" Eh.toArray e))->(∀b o,b≠h1.objs.size->(h1.push (cR "list" fP.toArray 0)).get? b=some o->h'.get? b=some o)->
   aD Z s.heap (if es.size<2 then dQ else jv dQ) Eh->Q (.ref h1.objs.size) {s with heap:=h',toks:=tk,drawn:=d}:=λh' Eh e k3 WL=>
  h _ h' tk d Eh (.inr e) A3 (λb o eb=>k3 b o (λz=>by rw[z] at eb;replace eb:=A3.symm.trans eb;injection eb) (k2 b o eb)) WL
 show wpAny _ _ _ _ _ {s with heap:=h1.push (cR "list" fP.toArray 0),toks:=tk,drawn:=d};refine wb (cP (fF slot_list_sort ⟨_,xX,rfl⟩ entry_list_sort ?_ (args_list_sort _)));by_cases h2:es.size<2
 .have ht:lJ=dQ:=by
   have l1:=ro.length;replace l1:=l1.trans kX;have l2:=uc.length_eq
   match lJ,dQ,uc,l1,l2 with
   |[],[],_,_,_=>rfl
   |[x],[y],uc,_,_=>exact aR (λz=>[z]) (by simpa using uc)
   |x::y::r,_,_,l1,_=>simp at l1;lia
  refine mN xX (lt_of_eq_of_lt kX h2) λh' e k3=>⟨_,rfl,av ⟨_,rfl,tail h' fP e k3 ?_⟩⟩;exact rl (aA h2)<|rr ht<|ro
 .obtain⟨xd,Ft⟩:=hk.resolve_left h2
  have Ot:jv lJ=jv dQ:=oz ((nt lJ).trans uc) Ft (ow lJ ((uc.map dO).nodup_iff.mpr Ft));refine sV (h0:=s.heap) xX ro k2 A3 (λv hv=>xd v (uc.mem_iff.mp hv)) ((uc.map dO).nodup_iff.mpr Ft) (le_of_eq_of_le kX hz) λEh h' WL e k3=>⟨_,rfl,av ⟨_,rfl,tail h' Eh ?_ k3 ?_⟩⟩
  .rcases e with e |e
   .exact⟨0,e⟩
   .exact e
  .exact rl (ax h2)<|rr Ot<|WL
end
def sY (f:ME V):ME V:=f.bind λv=>λ_ U=>Res.cN (oA v) U
section
variable {h h':Heap}{D:List Addr}
theorem St.MP {tk:Nat}{d:Drawn}(S:St Z U s)(k :∀b o,s.heap.get? b=some o->h'.get? b=some o):St Z U {s with heap:=h',toks:=tk,drawn:=d}/\cE [] Z s.heap Z h':=
 ⟨⟨S.heap.keeps k,S.gens,S.os⟩,cE.of_keeps k⟩
theorem aD.perm {fP:List Value}(p:ms.Perm fP) :∀{vs:List V},aD Z h vs ms->∃jM,jM.Perm vs/\aD Z h jM fP:=by
 induction p with
 |nil=>intro vs r;exact⟨vs,.refl _,r⟩
 |cons x _ ih=>
  intro vs r
  cases r with
  |cons r1 r2=>
   refine cq λG hG=>?_;obtain⟨jM,h1,h2⟩:=ih r2;refine hG ?_;exact⟨_::jM,h1.cons _,.cons r1 h2⟩
 |swap x y l=>
  intro vs r
  cases r with
  |cons r1 r2=>cases r2 with
   |cons r2 r3=>exact⟨_::_::_,.swap ..,.cons r2 (.cons r1 r3)⟩
 |trans _ _ p5 QB=>
  intro vs r;refine cq λG hG=>?_;obtain⟨v1,h1,r1⟩:=p5 r;obtain⟨v2,h2,r2⟩:=QB r1;refine hG ?_;exact⟨v2,h2.trans h1,r2⟩
theorem sZ (e:sX vs=true):vs=[]\/∃i r,vs=.int i::r/\∀v∈vs,v=.int i:=by
 cases vs with
 |nil=>exact .inl rfl
 |cons a r=>
  cases a with
  |int i=>
   refine .inr ⟨i,r,rfl,λv hv=>?_⟩;rcases b7 hv with rfl |hv
   .rfl
   .exact(V.beq_iff _ _).mp (List.all_eq_true.mp e v hv)
  |_=>exact Bool.noConfusion e
theorem Br {r:V}(ok:b8 n a)(S:St Z U s)(rv:aH Z s.heap v mv)(e:oA v=some r)(p:bt a Z s (.ok r U) Q E) :
  wpAny bQ a.A (call (.type "set") [mv]) (λx s1=>wpAny bQ a.A (call (.builtin "sorted") [x]) Q E s1) E s:=by
 revert e;cases v with
 |list vs=>
  intro e
  cases rv with
  |@list _ l ol ms nl kX qZ pf hnl rvs=>
  have rl:aH Z s.heap (.list vs) (.ref l):=.list kX qZ pf hnl rvs;have fin :∀(S0:Addr) (oS:Obj) (es:Array (Int×Value)) (ep:Nat) (t:SetTable) (dQ:List V) (h1:Heap) (Jy:Nat),(∀b o,s.heap.get? b=some o->h1.get? b=some o)->h1.get? S0=some oS->oS.ExactSet->oS.data=.set es ep t->t.fits es.size=true->jc es t->es.size<=4->
    (∀fP:List Value,fP.Perm (es.toList.map (·.2))->∃lJ,lJ.Perm dQ/\aD Z h1 lJ fP)->(es.size<2\/((∀v∈dQ,iz v=true)/\(dQ.map dO).Nodup))->r=.list (if es.size<2 then dQ else jv dQ)->
    wpAny bQ a.A (call (.builtin "sorted") [.ref S0]) Q E {s with heap:=h1,toks:=Jy}:=by
   intro S0 oS es ep t dQ h1 Jy k1 hS hx hd hf hw hz hr hk er;obtain⟨S1,x1⟩:=S.MP (tk:=Jy) (d:=s.drawn) k1;refine Bq (s:={s with heap:=h1,toks:=Jy}) (Z:=Z) ok.hand hS hx hd hf hw hz hr hk λL h2 YI d fP e hn k2 ro=>?_;obtain⟨S2,x2⟩:=S1.MP (tk:=YI) (d:=d) k2;refine bt.val p S2 (x1.trans x2) ?_;obtain⟨e0,he⟩ :∃e,h2.get? L=some (cR "list" fP.toArray e):=by
    rcases e with e |e
    .exact⟨0,e⟩
    .exact e
   rw[er];refine .list he rfl rfl (λhm=>?_) ?_
   .obtain⟨ob,eb,_⟩:=S1.heap.gK hm
    exact absurd (hn.symm.trans eb) (by simp)
   .exact ro.mono x2
  unfold oA at e;by_cases hi:sX vs=true
  .simp only[hi,if_true,Option.some.injEq] at e
   subst e;rcases sZ hi with rfl|⟨i,vr,rfl,rQ⟩
   .refine ku (Z:=Z) (vs:=[]) (d7:=λ_ h=>h.get? s.heap.objs.size=some (dG)) ok.hand rl (λd h e=>⟨_,e,iH (o:=dG) ⟨rfl,rfl,rfl⟩ rfl⟩)
     (λd h h' I e hs dg=>hs.same _ _ (Ne.symm dg) e) (λh' e=>e) (λA' E' d l v s' mv Q' _ e _ _ _=>by simp at e) λh1 Jy e k=>?_
    refine fin _ _ #[] 0 (.fresh 0 0 (!hB)) [] h1 Jy (λb o e=>k b o (cI e) e) e ⟨rfl,rfl,rfl⟩ rfl rfl ?_ (by simp) (λfP hp=>⟨[],.refl _,?_⟩) (.inl (by simp)) (by simp)
    .unfold jc
     cases hb:hB with
     |true=>exact .inl rfl
     |false=>exact .inr (.inl ⟨rfl,by simp,rfl⟩)
    .have:fP=[]:=by simpa using hp
     rw[this];exact .nil
   .refine ku (Z:=Z) (vs:=.int i::vr) (d7:=λd h=>match d with |[]=>h.get? s.heap.objs.size=some (dG) |_::_=>Ov i h s.heap.objs.size) ok.hand rl (λd h e=>?_)
     (λd h h' I e hs dg=>?_) (λh' e=>e) (λA' E' d l v s' mv Q' _ e RD rv k=>?_) λh1 Jy e k=>?_
    .cases d with
     |nil=>exact⟨_,e,iH (o:=dG) ⟨rfl,rfl,rfl⟩ rfl⟩
     |cons x d=>obtain⟨o,es,ep,t,ho,hx,hd,_⟩:=e;exact⟨o,ho,iH hx hd⟩
    .revert e;cases d with
     |nil=>intro e;exact hs.same _ _ (Ne.symm dg) e
     |cons x d=>intro e;obtain⟨o,es,ep,t,ho,r⟩:=e;exact⟨o,es,ep,t,hs.same _ _ (Ne.symm dg) ho,r⟩
    .have hv:v=.int i:=rQ v (by rw[e];simp)
     subst hv
     cases rv with
     |int _ u=>
     cases d with
     |nil=>exact uB RD λb h' tk hs hi=>k b h' tk hs hi
     |cons x d=>exact uC RD λb tk=>k b s'.heap tk (Heap.SameBut.refl _ _) RD
    .obtain⟨o,es,ep,t,ho,hx,hd,u,rfl,hf,Eb⟩:=e
     refine fin _ o _ ep t [.int i] h1 Jy (λb o e=>k b o (cI e) e) ho hx hd hf ?_ (by simp) (λfP hp=>⟨[.int i],.refl _,?_⟩) (.inl (by simp)) (by simp)
     .unfold jc
      cases hb:hB with
      |true=>exact .inl rfl
      |false=>exact .inr (.inl ⟨rfl,by simp,by refine Eb.trans ?_;rw[hb];rfl⟩)
     .have:fP=[.int i u]:=by simpa using hp
      rw[this];exact .cons (.int _ _) .nil
  .simp only[hi,Bool.false_eq_true,if_false] at e
   split at e
   .rename_i hc
    injection e with e;subst e;simp only[Bool.and_eq_true,List.all_eq_true,Nat.ble_eq] at hc;obtain⟨⟨ht,ha⟩,h6⟩:=hc;have WM:=(sU vs).mp ha;refine ku (Z:=Z) (vs:=vs) (d7:=λd h=>∃ps,Oi h s.heap.objs.size ps/\aD Z h d (ps.map .ref)) ok.hand rl (λd h e=>?_) (λd h h' I e hs dg=>?_) (λh' e=>?_)
     (λA' E' d l v s' mv Q' hu e RD rv k=>?_) λh1 Jy e k=>?_
    .obtain⟨ps,⟨o,es,ep,t,ho,hx,hd,_⟩,_⟩:=e
     exact⟨o,ho,iH hx hd⟩
    .obtain⟨ps,⟨o,es,ep,t,ho,r⟩,rr⟩:=e
     exact⟨ps,⟨o,es,ep,t,hs.same _ _ (Ne.symm dg) ho,r⟩,rr.side hs⟩
    .exact⟨[],⟨_,#[],0,_,e,⟨rfl,rfl,rfl⟩,rfl,rfl,.inl rfl,rfl,by simp[SetTable.fresh],rfl,by simp,by simp⟩,.nil⟩
    .obtain⟨ps,T,rr⟩:=RD
     refine cq λG hG=>?_;have hv:v∈vs:=by rw[e];simp
     obtain⟨kk,x,rfl,rfl,TT,_⟩:=jg rv (ht _ hv);have hlen:ps.length=d.length:=by
      have:=rr.length
      simpa using this.symm
     have pf:d.length+1<=vs.length:=by rw[e];simp
     refine hG ?_;refine yU T ?_ TT (λp hp=>?_) (Z4 ‹_› ‹_› ‹_›) λh' tk hs hT=>k true h' tk hs ⟨ps++[x],hT,?_⟩
     .have:=ok.units
      exact Ql hu this
     .obtain⟨w,hw,rw'⟩:=rr.CF p hp
      refine cq λG hG=>?_;obtain⟨k',x',rfl,WN,TT',_⟩:=jg rw' (ht w (by rw[e];simp[hw]));injection WN with WN;subst WN;refine hG ?_;refine⟨k',TT',λz=>?_⟩;subst z;rw[e,List.map_append,List.nodup_append] at WM;exact WM.2.2 _ (List.mem_map.mpr ⟨_,hw,rfl⟩) _ (List.mem_map.mpr ⟨_,.head _,rfl⟩) rfl
     .obtain⟨o,es,ep,t,ho,hx,hd,_⟩:=T
      have sd:gp s.heap.objs.size s'.heap h':=⟨λb o hb e=>(hs.2 b hb).trans e,⟨o,ho,iH hx hd⟩⟩;rw[List.map_append];exact(rr.side sd).append (.cons (rv.side sd) .nil)
    .obtain⟨ps,⟨o,es,ep,t,ho,hx,hd,T⟩,rr⟩:=e
     have hlen:es.size=vs.length:=by
      have:=rr.length;refine T.len.trans ?_
      simpa using this.symm
     refine fin _ o es ep t vs h1 Jy (λb o e=>k b o (cI e) e) ho hx hd ?_ ?_ (UJ h6 hlen) (λfP hp=>?_) (.inr ⟨ht,WM⟩) ?_
     .have:=T.room
      simp only[SetTable.fits,SetTable.fill,T.fit,T.PS,Bool.and_eq_true,beq_iff_eq,decide_eq_true_eq];refine⟨trivial,?_⟩;simp;exact Ci this rfl
     .unfold jc
      cases hb:hB with
      |true=>exact .inl rfl
      |false=>
       rcases Nat.lt_or_ge es.size 2 with hz |hz
       .exact .inr (.inl ⟨rfl,by exact Nat.le_of_lt_succ hz,by refine T.led.trans ?_;rw[hb];rfl⟩)
       .exact .inr (.inr ⟨rfl,hz,T.plain (by exact Nat.zero_lt_of_lt hz)⟩)
     .exact aD.perm (hp.trans T.elems).symm rr
     .split
      .rename_i hz
       rw[hlen] at hz
       match vs,hz with
       |[],_=>rfl
       |[x],_=>rfl
       |x::y::r,hz=>simp at hz;lia
      .rfl
   .injection e
 |_=>intro e;simp[oA] at e
theorem mO {e:Expr}{p0 p1 p2 p3:Pos}{f:ME V}(hf:cm n sc e f)(he :∀env:Env,starEach [e] env =(false,eval e env)::starEach [] env)(Q9 :∀env:Env,starEach [.Call (.Name (ofString "set") p1) [e] [] p2] env =(false,eval (.Call (.Name (ofString "set") p1) [e] [] p2) env)::starEach [] env)(hp:dc p2 [e])(uc:dc p3 [.Call (.Name (ofString "set") p1) [e] [] p2])(hx:sc.names.lookup (ofString "sorted")=some .globalImplicit)(e1:nsIn W.K mainGlobals (ofString "sorted")=some Option.none)(hy:sc.names.lookup (ofString "set")=some .globalImplicit)(e2:nsIn W.K mainGlobals (ofString "set")=some Option.none) :
  cm n sc (.Call (.Name (ofString "sorted") p0) [.Call (.Name (ofString "set") p1) [e] [] p2] [] p3) (sY f):=by
 intro a ok bJ Z U fr s S F Q E p;subst bJ;have RE :∀{pos:Pos} {s:Shared} {Q:List Value->Shared->Prop},Q [] s->wpAny bQ a.A (spliced (backTo pos (starEach [] a.env))) Q E s:=λq=>by
  exact av q
 refine Call_Name rfl (gD (v:=.builtin "sorted") ok S hx e1 (BK.boot .sorted) (by decide) rfl ?_);refine Calls.callWith_builtin (uc _) (c7 (uc _) (args_cons ?_ (Q9 _)));refine Call_Name rfl (gD (v:=.type "set") ok S hy e2 (by decide +kernel) (by decide) rfl ?_);refine PySem.callWith_type (hp _) (c7 (hp _) (args_cons ?_ (he _)));refine hf.bind ok rfl S F p λv bq cF s1 mv S1 F1 x1 r1 p1=>RE ?_;dsimp only at p1;refine b9.opt p1 λr hb p1=>?_;exact cA (Br ok S1 r1 hb p1) (λx s2 hx=>RE hx) λ_ _ x=>x
end
set_option tactic.hygienic true
section
variable {l:Addr}{items:Array Value}
theorem s9 {x:Value}(DQ:s.heap.IsTupleIter it l i)(hl:s.heap.IsTuple l items)(hx:items[i]? = some x)(hQ :∀h',h'.IsTupleIter it l (i+1)->Heap.SameBut it s.heap h'->Q x {s with heap:=h'}):wpAny (model prog w) A (Builtin.SmallTypes.nextOf (.ref it)) Q E s:=by
 obtain⟨o,ho,hc,hd⟩:=id DQ;obtain⟨ol,kX,_,nl,pf⟩:=hl;unfold Builtin.SmallTypes.nextOf;refine aY (wpAny_callSpecial?_slot (name:=ofString "__next__") DQ.typeIs F.slot_tuple_iterator_next (fF F.slot_tuple_iterator_next DQ.typeIs F.entry_tuple_iterator_next ?_ (F.args_tuple_iterator_next_1 _)));show wpAny _ _ (field (.ref it) 0 >>= _) _ _ s;refine aY (wpAny_field ho hd (x:=.ref l) rfl ?_);refine rl (ax (show¬((Value.ref l == Value.none)=true) from Bool.false_ne_true))<|aY (wpAny_field ho hd (x:=.int i 0) rfl ?_)
 refine aY (wpAny_seqItems kX pf ?_);simp only[Int.toNat_natCast,hx];refine aY (wpAny_setField ho hd (by simp) (av ⟨x,rfl,av (hQ _ ?_ (dP ..))⟩));exact⟨_,Heap.get?_update_self _ ho (Obj.isFreed_of_fields (Obj.data_mapFields hd _)),(Obj.cls_mapFields ..).trans hc,by refine rl (Obj.data_mapFields hd ..) ?_;simp[rawInt]⟩
theorem xi (hh:A.handled=none)(DQ:s.heap.IsTupleIter it l i)(hl:s.heap.IsTuple l items)(hx:items[i]? = none)(hE :∀h' e,Heap.ExtBut it s.heap h'->(∃o,h'.get? e=some o/\o.cls=.type "StopIteration")->E (.ref e) {s with heap:=h'}):wpAny (model prog w) A (Builtin.SmallTypes.nextOf (.ref it)) Q E s:=by
 obtain⟨o,ho,hc,hd⟩:=id DQ;obtain⟨ol,kX,_,nl,pf⟩:=hl;unfold Builtin.SmallTypes.nextOf;refine aY (wpAny_callSpecial?_slot (name:=ofString "__next__") DQ.typeIs F.slot_tuple_iterator_next (fF F.slot_tuple_iterator_next DQ.typeIs F.entry_tuple_iterator_next ?_ (F.args_tuple_iterator_next_1 _)));show wpAny _ _ (field (.ref it) 0 >>= _) _ _ s;refine aY (wpAny_field ho hd (x:=.ref l) rfl ?_);refine rl (ax (show¬((Value.ref l == Value.none)=true) from Bool.false_ne_true))<|aY (wpAny_field ho hd (x:=.int i 0) rfl ?_)
 refine aY (wpAny_seqItems kX pf ?_);simp only[Int.toNat_natCast,hx];refine aY (wpAny_rule (aY (wpAny_setField ho hd (by simp) ?_)));refine ve hh λh' e k he=>hE h' e (λb o hb q=>k b o ((dP ..).extBut b o hb q)) he
theorem y8 (hh:A.handled=none)(it l:Addr)(dg:l≠it)(items:Array Value):Draws prog w A it [it,l] items.size (λi x=>items[i]? = some x) (λi h=>h.IsTupleIter it l i/\h.IsTuple l items) where
 live:=λi h x=>by obtain⟨⟨o,ho,_⟩,_⟩:=x;exact⟨o,ho⟩
 frame:=λi h h' x k=>⟨by obtain⟨⟨o,ho,r⟩,_⟩:=x;exact⟨o,k it (by simp) o ho,r⟩,by obtain⟨_,o,ho,r⟩:=x;exact⟨o,k l (by simp) o ho,r⟩⟩
 item:=λi s Q E hi x hQ=>s9 x.1 x.2 (Array.getElem?_eq_getElem hi) λh' xV hs=>hQ _ h' s.toks (Array.getElem?_eq_getElem hi) ⟨xV,by obtain⟨o,ho,r⟩:=x.2;exact⟨o,(hs.2 l dg).trans ho,r⟩⟩ hs
 done:=λs Q E x hE=>xi hh x.1 x.2 (Array.getElem?_eq_none (Nat.le_refl _)) hE
theorem G4 {x:Y}{Q:Y->Shared->Prop}(h :∀b,Q b s):wpAny (model prog w) A (pure x) Q E s:=av (h x)
theorem tc (l:Addr)(items:Array Value) :
  Meets (Builtin.«enumerate.__new__» ⟨[.type "enumerate",.ref l],[]⟩) (λ_ R s=>s.heap.IsTuple l items/\
   R (.ok (.ret (.ref (s.heap.push {cls:=.type "tuple_iterator",data:=.fields #[.ref l,.int 0 0]}).objs.size)))
    {s with heap:=(s.heap.push {cls:=.type "tuple_iterator",data:=.fields #[.ref l,.int 0 0]}).push {cls:=.type "enumerate",data:=.fields #[.none,.bool false,.ref s.heap.objs.size,rawInt 0,.none,.none]}}):=
 .of_wp λprog w A R s h=>by
  obtain⟨hp,g,d,tk,os⟩:=s;obtain⟨hl,h⟩:=h;have sJ:=sub_enumerate;have hL:Heap.IsTuple (Shared.heap ⟨hp,g,d,tk,os⟩) l items:=hl
  wp_walk
  refine wpAny_stack_any λst=>G4 λb=>?_
  cases b
  .wp_walk using wpAny_pyIter_tuple hL
   exact⟨_,rfl,h⟩
  .wp_walk using wpAny_pyIter_tuple hL
   exact⟨_,rfl,h⟩
theorem uD (hL:s.heap.IsTuple l items)(h :∀h',IsEnum h' (s.heap.objs.size+1) s.heap.objs.size 0 .none->h'.IsTupleIter s.heap.objs.size l 0->(∀b o,s.heap.get? b=some o->h'.get? b=some o)->Q (.ref (s.heap.objs.size+1)) {s with heap:=h'}) :
  wpAny (model prog w) A (call (.type "enumerate") [.ref l]) Q E s:=by
 refine callType_new F.called_enumerate (by decide) (F.typeCall_enumerate_1 _) (F.newCall_enumerate_1 _) (λobj=>F.args_object_init_2 obj _) F.entry_enumerate_new (tc l items) ⟨hL,?_⟩;have hz :(s.heap.push {cls:=.type "tuple_iterator",data:=.fields #[.ref l,.int 0 0]}).objs.size=s.heap.objs.size+1:=Heap.size_push ..;refine rl hz ?_;have he:IsEnum ((s.heap.push {cls:=.type "tuple_iterator",data:=.fields #[.ref l,.int 0 0]}).push {cls:=.type "enumerate",data:=.fields #[.none,.bool false,.ref s.heap.objs.size,rawInt 0,.none,.none]}) (s.heap.objs.size+1) s.heap.objs.size 0 .none:=by
  have:=cC (s.heap.push {cls:=.type "tuple_iterator",data:=.fields #[.ref l,.int 0 0]}) (o:={cls:=.type "enumerate",data:=.fields #[.none,.bool false,.ref s.heap.objs.size,rawInt 0,.none,.none]}) rfl;rw[hz] at this;exact this
 exact⟨⟨_,he,rfl⟩,h _ he ⟨_,bR _ (cC _ rfl),rfl,rfl⟩ λb o y=>bR _ (bR _ y)⟩
end
set_option tactic.hygienic false
mutual
noncomputable def V.iI (n:Nat):V->Bool
 |.tup vs=>V.iJ n vs
 |.list vs=>V.iJ n vs
 |.ref i=>Nat.blt i n
 |_=>true
noncomputable def V.iJ (n:Nat):List V->Bool
 |[]=>true
 |v::vs=>V.iI n v&&V.iJ n vs
end
def oB (n:Nat):O->Bool
 |.list vs=>V.iJ n vs
 |.dict _ ay=>V.iJ n (ay.map (·.1))&&V.iJ n (ay.map (·.2))
 |.inst _ fs=>V.iJ n (fs.map (·.2))
inductive xj (U:bw)(n:Nat):List V->List V->Prop
 |nil:xj U n [] []
 |same {v:V} {vs jM:List V}:V.iI n v=true->xj U n vs jM->xj U n (v::vs) (v::jM)
 |tup {us Fu vs jM:List V}:xj U n us Fu->xj U n vs jM->xj U n (.tup us::vs) (.tup Fu::jM)
 |list {us Fu vs jM:List V}:xj U n us Fu->xj U n vs jM->xj U n (.list us::vs) (.list Fu::jM)
 |cut {i:Nat} {us Fu vs jM:List V}:U[i]? = some (.list us)->n<=i->xj U n us Fu->xj U n vs jM->xj U n (.ref i::vs) (.list Fu::jM)
noncomputable def dW.cut (Z:dW)(n:Nat):dW:=⟨Z.objs.take n,Z.eE⟩
section
theorem oE {a:Addr}(hn:a∉bH Z):a∉bH (Z.cut n):=λhm=>hn (cB.mpr ((cB.mp hm).imp (λq=>by
 obtain⟨p,hp,e⟩:=dz q;exact List.mem_map.mpr ⟨p,List.mem_of_mem_take hp,e⟩) id))
theorem KD (hi:i<n)(e:Z.objs[i]? = some p) :(Z.cut n).objs[i]? = some p:=(List.getElem?_take_of_lt hi).trans e
theorem aD.iI (r:aD Z h vs ms):V.iJ n vs=true->aD (Z.cut n) h vs ms:=
 aD.rec (motive_1:=λv m _=>V.iI n v=true->aH (Z.cut n) h v m) (motive_2:=λvs ms _=>V.iJ n vs=true->aD (Z.cut n) h vs ms)
  (λ_=>.none) (λb _=>.bool b) (λi t _=>.int i t) (λs t _=>.str s t) (λe q=>.ref (KD (Nat.lt_of_succ_le (Nat.le_of_ble_eq_true q)) e))
  (λh1 h2 h3 h4 _ ih q=>.tup h1 h2 h3 (oE h4) (ih q)) (λh1 h2 h3 h4 _ ih q=>.list h1 h2 h3 (oE h4) (ih q)) (λ_=>.nil)
  (λ_ _ ia ib q=>.cons (ia (cK q).1) (ib (cK q).2)) r
theorem aH.iI (r:aH Z h v m)(q:V.iI n v=true):aH (Z.cut n) h v m:=by
 cases aD.iI (n:=n) (.cons r .nil) (fD ⟨q,rfl⟩) with |cons a _=>exact a
theorem aD.frz (S:gO Z U h){jM:List V}(z:xj U n vs jM) :∀{ms:List Value},aD Z h vs ms->aD (Z.cut n) h jM ms:=by
 induction z with
 |nil=>intro ms r;cases r;exact .nil
 |same q _ ih=>intro ms r;cases r with |cons a b=>exact .cons (a.iI q) (ih b)
 |tup _ _ i1 i2=>intro ms r;cases r with |cons a b=>cases a with |tup h1 h2 h3 h4 r=>exact .cons (.tup h1 h2 h3 (oE h4) (i1 r)) (i2 b)
 |list _ _ i1 i2=>intro ms r;cases r with |cons a b=>cases a with |list h1 h2 h3 h4 r=>exact .cons (.list h1 h2 h3 (oE h4) (i1 r)) (i2 b)
 |@cut i us Fu vs jM e hl _ _ i1 i2=>
  intro ms r
  cases r with
  |cons a b=>
  obtain⟨p,hp,rfl⟩:=a.fm;obtain⟨e1,WH,k,g,q⟩:=S.objs _ _ _ e hp;refine rl e1<|.cons (.list g rfl rfl (λhm=>?_) (i1 q)) (i2 b)
  rcases cB.mp hm with hm |hm
  .obtain⟨p',uc,e'⟩:=dz hm
   obtain⟨j,hj⟩:=List.mem_iff_getElem?.mp uc;have Wi:j<n:=(Nat.lt_or_ge j n).elim id λq=>by rw[show(Z.cut n).objs=Z.objs.take n from rfl] at hj;replace hj:=(List.getElem?_take_eq_none q).symm.trans hj;injection hj
   have SY:Z.objs[j]? = some p':=(List.getElem?_take_of_lt Wi).symm.trans hj;have h1 :(Z.objs.map (·.2))[j]? = some p.2:=by refine(List.getElem?_map).trans ?_;exact rl SY<|rr e' rfl
   have h2 :(Z.objs.map (·.2))[i]? = some p.2:=by refine(List.getElem?_map).trans ?_;exact rl hp rfl
   have:=(List.getElem?_inj (List.getElem?_eq_some_iff.mp h1).1 S.FV).mp (h1.trans h2.symm);lia
  .exact S.gL hp hm
theorem d8.G5 {R:Y->β->Prop}{P:Y->Bool}(f:Y->V)(hP :∀a,V.iI n (f a)=P a)(al:d8 R as bs):V.iJ n (as.map f)=true->d8 (λa b=>R a b/\P a=true) as bs:=by
 induction al with
 |nil=>exact λ_=>.nil
 |cons r _ ih=>exact λq=>.cons ⟨r,(hP _)▸(cK q).1⟩ (ih (cK q).2)
theorem mA.cut {o:O}(r:mA Z h o p)(q:oB n o=true):mA (Z.cut n) h o p:=by
 cases o with
 |list vs=>obtain⟨e,ms,k,g,r⟩:=r;exact⟨e,ms,k,g,r.iI q⟩
 |dict kd ay=>
  obtain⟨e,r⟩:=r;obtain⟨q1,q2⟩:=cK q;refine⟨e,?_⟩
  cases kd with
  |int=>obtain⟨ks,d,al⟩:=r;exact⟨ks,d,(al.G5 (P:=λkv=>V.iI n kv.2) (·.2) (λ_=>rfl) q2).mono λ_ _ z=>⟨z.1.1,z.1.2.iI z.2⟩⟩
  |str=>obtain⟨ks,d,al⟩:=r;exact⟨ks,d,(al.G5 (P:=λkv=>V.iI n kv.2) (·.2) (λ_=>rfl) q2).mono λ_ _ z=>⟨z.1.1,z.1.2.iI z.2⟩⟩
  |tup=>
   obtain⟨ks,d,al⟩:=r;refine⟨ks,d,((al.G5 (P:=λkv=>V.iI n kv.2) (·.2) (λ_=>rfl) q2).G5 (P:=λkv=>V.iI n kv.1) (·.1) (λ_=>rfl) q1).mono λa b z=>⟨⟨z.1.1.1.1,?_⟩,z.1.1.2.iI z.1.2⟩⟩;have:=z.1.1.1.1;exact z.1.1.1.2.iI (this▸z.2)
 |inst c fs=>
  refine cq λG hG=>?_;obtain⟨x,ks,d,al⟩:=r;refine hG ?_;exact⟨x,ks,d,(al.G5 (n:=n) (P:=λkv:Nat×V=>V.iI n kv.2) (λkv:Nat×V=>kv.2) (λ_=>rfl) q).mono λ_ _ z=>⟨z.1.1,z.1.2.iI z.2⟩⟩
theorem gO.cut (S:gO Z U h)(q :∀o∈U.take n,oB n o=true):gO (Z.cut n) (U.take n) h:=by
 have sub :∀a,a∈bH (Z.cut n)->a∈bH Z:=λa hm=>Classical.byContradiction λz=>oE z hm;refine⟨S.base,S.ok,λa ha=>S.fresh a (sub a ha),S.qE,?_,?_,λi o p e e'=>?_⟩
 .have hn:=S.nodup
  unfold bH at hn ⊢;rw[List.nodup_append] at hn ⊢;refine⟨?_,hn.2.1,λa ha b hb=>hn.2.2 a ?_ b hb⟩
  .exact rl (show(Z.cut n).objs=Z.objs.take n from rfl)<|rl List.map_take<|hn.1.sublist (List.take_sublist _ _)
  .obtain⟨p,hp,e⟩:=dz ha
   exact List.mem_map.mpr ⟨p,List.mem_of_mem_take hp,e⟩
 .show(Z.objs.take n).length=_;refine List.length_take.trans ?_;exact rl List.length_take<|rl S.len rfl
 .have hi:i<n:=(Nat.lt_or_ge i n).elim id λz=>by replace e:=(List.getElem?_take_eq_none z).symm.trans e;cases e
  exact(S.objs i o p ((List.getElem?_take_of_lt hi).symm.trans e) ((List.getElem?_take_of_lt hi).symm.trans e')).cut (q o (List.mem_of_getElem? e))
end
inductive vF (m:Nat)(r:Res V):Res V->Prop
 |same:vF m r r
 |stuck:vF m r .stuck
 |cut {v v':V} {U:bw} (n:Nat):r=.ok v U->m<=n->(∀o∈U.take n,oB n o=true)->xj U n [v] [v']->vF m r (.ok v' (U.take n))
theorem aZ.drops {f:Addr}{g':List V->bw->Res V}(hg:aZ n f g)(hd :∀vs U,vF U.length (g vs U) (g' vs U)):aZ n f g':=by
 intro A l room Z U s vs ms S L r R p;refine hg A l room Z U s vs ms S L r R ?_;have d:=hd vs U;generalize g vs U=r0 at d;generalize g' vs U=r1 at d p;revert p;cases d with
 |same=>intro p;exact p
 |stuck=>intro p;exact p.elim
 |@cut v v' bq k e hm q z=>
  intro p;refine rl e ?_;intro bK s' mv S' x' r';have z':aD (bK.cut k) s'.heap [v'] [mv]:=aD.frz S'.heap z (.cons r' .nil)
  cases z' with
  |cons z1 _=>
  refine p (bK.cut k) s' mv ⟨S'.heap.cut q,S'.gens,S'.os⟩ ⟨?_,x'.eE,x'.held,x'.live,x'.keep,x'.slot,x'.soft⟩ z1;obtain⟨u,e1,hu⟩:=x'.more;refine⟨u.take (k - Z.objs.length),?_,λa ha=>?_⟩
  .show bK.objs.take k=_
   exact rl e1<|rl List.take_append<|rl (List.take_of_length_le (by rw[S.heap.len];exact hm)) rfl
  .obtain⟨p,hp,e2⟩:=dz ha
   exact hu a (List.mem_map.mpr ⟨p,List.mem_of_mem_take hp,e2⟩)
def xY (g:List V->bw->Option V)(fs:List (ME V)):ME V:=(aS fs).bind λvs=>λ_ U=>Res.cN (g vs U) U
def ip (Bs:bw->V->Bool)(m:V->List V->bw->Option (V×bw))(f:ME V)(fs:List (ME V)):ME V:=
 f.bind λv=>λfr U=>if Bs U v then ((aS fs).bind λvs=>λ_ U=>match m v vs U with |some (r,bB)=>.ok r bB |.none=>.stuck) fr U else .stuck
def ic (U:bw)(v:V):Bool:=(gi U v).isSome
def vG (v:V)(vs:List V)(U:bw):Option ((Nat×DK×List (V×V))×V×V):=(gi U v).bind λq=>match vs with |[x,d]=>some (q,x,d) |_=>.none
def pD (v:V)(vs:List V)(U:bw):Option (V×bw):=(vG v vs U).bind λq=>q.2.1.gZ.bind λk=>if q.1.2.1=.tup/\fu .tup (.tup k)=true then some ((cT q.1.2.2 (.tup k)).getD q.2.2,U) else .none
def MQ (i:Nat)(ay:List (V×V))(k d:V)(U:bw)(o:Option V):V×bw:=match o with
 |some x=>(x,U)
 |.none=>(d,U.set i (.dict .str (hV ay k d)))
def td (v:V)(vs:List V)(U:bw):Option (V×bw):=(vG v vs U).bind λq=>q.2.1.nX.bind λk=>if q.1.2.1=.str/\cD q.1.2.2.length=true then some (MQ q.1.1 q.1.2.2 (.str k) q.2.2 U (cT q.1.2.2 (.str k))) else .none
def G6 (vs:List V)(_:bw):Option V:=(lg vs).bind λv=>v.int?.map .int
section
variable {D:List Addr}
noncomputable def G7 (n:Nat)(f:Value)(g:List V->bw->Option V):Prop:=
 ∀(a:Act),b8 n a->∀(Z:dW) (U:bw) (s:Shared) (vs:List V) (ms:List Value) (r:V) (Q:iN) (E:iN),St Z U s->aD Z s.heap vs ms->g vs U=some r->
  bt a Z s (.ok r U) Q E->wpAny bQ a.A (call f ms) Q E s
theorem oF {f:Value}{x:Str}{es:List Expr}{g:List V->bw->Option V}(hf :(∃i,f=.builtin i)\/∃i,f=.type i)(H:G7 n f g)(hb:bootBuiltins x=some f)(hn:x≠"__name__")(hd :(x ==("__debug__" : Str))=false)(hs:gy n sc es (aS fs))(hp:dc pos es)(hx:sc.names.lookup x=some .globalImplicit)(e:nsIn W.K mainGlobals x=some Option.none) :
  cm n sc (.Call (.Name x np) es [] pos) (xY g fs):=by
 intro a ok bJ Z U fr s S F Q E p;subst bJ;refine Call_Name rfl (gD (v:=f) ok S hx e hb hn hd ?_);have fin:wpAny bQ a.A (spliced (backTo pos (starEach es a.env))) (λms s1=>wpAny bQ a.A (PySem.call f ms) Q E s1) E s:=by
  refine hs.bind ok rfl S F p λvs bS jn s2 ms S2 F2 x2 r2 p2=>?_;dsimp only at p2;refine b9.opt p2 λr hb p2=>?_;exact H a ok _ _ _ _ _ _ _ _ S2 r2 hb p2
 rcases hf with ⟨i,rfl⟩|⟨i,rfl⟩
 .exact Calls.callWith_builtin (hp _) (c7 (hp _) (cA fin (λms s1 h1=>h1) λ_ _ x=>x))
 .exact PySem.callWith_type (hp _) (c7 (hp _) (cA fin (λms s1 h1=>h1) λ_ _ x=>x))
structure Bt (n:Nat)(cls id:String)(x:Str)(Bs:bw->V->Bool)(m:V->List V->bw->Option (V×bw)):Prop where
 attrs:PlainAttrs cls
 slot:Slot cls x id
 typ:typeOf (.builtin id)=pure (.type "method_descriptor")
 at_ :∀{Z:dW} {U:bw} {s:Shared} {v:V} {mv:Value},St Z U s->aH Z s.heap v mv->Bs U v=true->s.TypeIs mv cls/\∀b,mv=.ref b->∃ob,s.heap.get? b=some ob/\ob.dict=none
 ok :∀(a:Act),b8 n a->∀(Z:dW) (U bB:bw) (s:Shared) (v:V) (mv:Value) (vs:List V) (ms:List Value) (r:V) (Q:iN) (E:iN),St Z U s->aH Z s.heap v mv->aD Z s.heap vs ms->
  m v vs U=some (r,bB)->bt a Z s (.ok r bB) Q E->wpAny bQ a.A (call (.builtin id) (mv::ms)) Q E s
theorem iK {cls id:String}{x:Str}{Bs:bw->V->Bool}{m:V->List V->bw->Option (V×bw)}{o:Expr}{es:List Expr}{f:ME V}(H:Bt n cls id x Bs m)(ho:cm n sc o f)(hs:gy n sc es (aS fs))(hp:dc pos es)(NS:Cv pos es)(Gm :(Am.endLine == pos.line)=true)(hb:Gl o x):cm n sc (.Call (.Attribute o x Am) es [] pos) (ip Bs m f fs):=by
 intro a ok bJ Z U fr s S F Q E p;refine wpAny_Call_method_late (hb _) (NS _) Gm rfl (ho.bind ok bJ S F p λv bq cF s1 mv S1 F1 x1 r1 p1=>?_);dsimp only at p1;by_cases hr:Bs bq v=true
 .rw[aA hr] at p1
  obtain⟨hT,hd⟩:=H.at_ S1 r1 hr;refine⟨cls,id,H.attrs,H.slot,H.typ,hT,hd,?_⟩;refine Calls.callWith_builtin (hp _) (c7 (hp _) (hs.bind ok bJ S1 F1 p1 λvs bS jn s2 ms S2 F2 x2 r2 p2=>?_));dsimp only at p2
  cases hm:m v vs bS with
  |none=>rw[hm] at p2;exact p2.elim
  |some q=>
   refine cq λG hG=>?_;obtain⟨r,bB⟩:=q;rw[hm] at p2;refine hG ?_;exact H.ok a ok _ _ _ _ _ _ _ _ _ _ _ S2 (r1.mono x2) r2 hm p2
 .rw[ax hr] at p1;exact p1.elim
theorem y9 {q:(Nat×DK×List (V×V))×V×V}(e:vG v vs U=some q) :∃i kd ay x d,q =((i,kd,ay),x,d)/\v=.ref i/\U[i]? = some (.dict kd ay)/\vs=[x,d]:=by
 refine aT e λq1 hq e1=>?_;obtain⟨i,kd,ay⟩:=q1;obtain⟨h1,h2⟩:=jV hq
 cases vs with
 |nil=>injection e1
 |cons x vs=>cases vs with
  |nil=>injection e1
  |cons d vs=>cases vs with
   |nil=>injection e1 with e1;subst e1;exact⟨i,kd,ay,x,d,rfl,h1,h2,rfl⟩
   |cons _ _=>injection e1
theorem oG:Bt n "dict" "dict.get" (ofString "get") ic pD:=by
 refine⟨F.plainAttrs_dict,F.slot_dict_get,F.type_dict_get,λS r e=>mf S r e,?_⟩;intro a ok Z U bB s v mv vs ms r Q E S rv rs e0 p;refine aT e0 λq hq e1=>?_;clear e0;obtain⟨i,kd,ay,x,dv,rfl,rfl,hi,rfl⟩:=y9 hq;clear hq;refine aT e1 λj hj e2=>?_;clear e1;dsimp only at hj e2;obtain rfl:=V.eP hj
 split at e2
 case isFalse=>injection e2
 rename_i hz;obtain⟨rfl,hk⟩:=hz
 cases e2;obtain⟨m1,m2,rfl,r1,r2⟩:=rs.two;obtain⟨pp,hp,rfl⟩:=rv.fm;obtain⟨e1,ks,d,al⟩:=S.heap.objs _ _ _ hi hp;refine rl e1 ?_;obtain⟨b,rfl,hb⟩:=jU r1 hk;have hh:=nZ (k:=j) al;refine call_meetsIn F.slot_dict_get d.typeIs F.entry_dict_get (F.args_dict_get_3 _ _ _) (meetsH_dict_get_default (dX) pp.2 b (nY S.heap (eB hp)) m2) ⟨(by have:=ok.units;show a.A.in1.units+64<cLine;simp only;exact Qk ‹_›),j,ks,hb,d,bt.val (s':={s with toks:=s.toks+(dX).draws j}) p S.fW (.refl ..) ?_⟩;generalize cT ay (.tup j)=o1 at hh;generalize atKey ks j=o2 at hh
 cases o1 <;> cases o2 <;> first |exact hh.elim |exact r2 |exact hh
theorem Ei:Bt n "dict" "dict.setdefault" (ofString "setdefault") ic td:=by
 refine⟨F.plainAttrs_dict,F.slot_dict_setdefault,F.type_dict_setdefault,λS r e=>mf S r e,?_⟩;intro a ok Z U bB s v mv vs ms r Q E S rv rs e0 p;refine aT e0 λq hq e1=>?_;clear e0;obtain⟨i,kd,ay,x,dv,rfl,rfl,hi,rfl⟩:=y9 hq;clear hq;refine aT e1 λj hj e2=>?_;clear e1;dsimp only at hj e2;obtain rfl:=V.iW hj
 split at e2
 case isFalse=>injection e2
 rename_i hz;obtain⟨rfl,hz⟩:=hz;obtain⟨m1,m2,rfl,r1,r2⟩:=rs.two;obtain⟨pp,hp,rfl⟩:=rv.fm;obtain⟨e1,ks,d,al⟩:=S.heap.objs _ _ _ hi hp;refine rl e1<|cq λG hG=>?_
 obtain⟨t1,rfl⟩:=r1.str_inv;have hh:=rW (k:=j) al;refine hG ?_;refine call_meetsIn F.slot_dict_setdefault d.typeIs F.entry_dict_setdefault (F.args_dict_setdefault_3 _ _ _) (kt_meets_setdefault (strKind W.prog W.w) pp.2 (strKind_is _ _ _ _) (nY S.heap (eB hp)) m2) ⟨ks,d,by exact rr al.length<|dn hz,λu hu=>?_,λhu h' d' hs=>?_⟩
 .rw[hu] at hh
  generalize cT ay (.str j)=o1 at hh e2
  cases o1 with
  |none=>exact hh.elim
  |some x=>cases e2;exact bt.val (s':={s with toks:=s.toks+1}) p S.fW (.refl ..) hh
 .rw[hu] at hh
  generalize cT ay (.str j)=o1 at hh e2
  cases o1 with
  |some x=>exact hh.elim
  |none=>
   refine cq λG hG=>?_
   cases e2;obtain⟨S',x'⟩:=r6 (tk:=s.toks+1) S hp e1 al r2 d' hs;refine hG ?_;exact bt.val p S' x' (r2.mono x')
theorem Ow:G7 n (Value.type "int") G6:=by
 intro a ok Z U s vs ms r Q E S rs e p;refine cq λG hG=>?_;refine aT e λv hv e=>?_;refine dh e λi hi z2=>?_;subst z2;obtain rfl:=iF hv;obtain rfl:=V.fH hi;obtain⟨m1,rfl,r1⟩:=rs.one;obtain⟨t,rfl⟩:=r1.int_inv;refine hG ?_;exact call_int_int (bt.val p S (.refl ..) r1)
end
noncomputable def G8:List V->Option (List (List Nat))
 |[]=>some []
 |v::r=>v.nX.bind λs=>(G8 r).map (s::·)
noncomputable def Ej (x:List Nat):List (List Nat)->List (List Nat)
 |[]=>[x]
 |y::ys=>if decide (y<x) then y::Ej x ys else x::y::ys
def za (l:List (List Nat)):List (List Nat):=l.foldr Ej []
def G9 (U:bw)(v:V):Option (List V):=match gi U v with
 |some q=>if q.2.1=.str/\cD q.2.2.length=true then some (q.2.2.map (·.1)) else .none
 |.none=>items? U v
def oH (xs:List V):Option (List V):=if xs.length<2 then some xs else if xs.length<64 then (G8 xs).map λss=>(za ss).map .str else .none
def kM (vs:List V)(U:bw):Option V:=(lg vs).bind λv=>(G9 U v).bind λxs=>(oH xs).map .list
theorem vH (x:List Nat) :∀l,(Ej x l).Perm (x::l):=by
 intro y
 induction y with
 |nil=>
  exact .refl _
 |cons y ys ih=>
  show List.Perm (if decide (y<x) then y::Ej x ys else x::y::ys) _
  split
  .exact((ih).cons y).trans (.swap ..)
  .exact .refl _
theorem Bu :∀l,(za l).Perm l:=by
 intro y
 induction y with
 |nil=>
  exact .refl _
 |cons x xs ih=>
  exact(vH x _).trans ((ih).cons x)
theorem zb (x:List Nat) :∀l:List (List Nat),l.Pairwise (λa b=>¬b<a)->(Ej x l).Pairwise λa b=>¬b<a:=by
 intro y
 induction y with
 |nil=>
  intro _;exact List.pairwise_singleton ..
 |cons y ys ih=>
  intro h;obtain⟨h1,h2⟩:=List.pairwise_cons.mp h;show List.Pairwise _ (if decide (y<x) then y::Ej x ys else x::y::ys);by_cases nO:y<x
  .refine rl (aA (bN nO))<|List.pairwise_cons.mpr ⟨λz hz=>?_,ih h2⟩
   rcases b7 ((vH x ys).mem_iff.mp hz) with rfl |hz
   .exact λq=>List.lt_asymm q nO
   .exact h1 z hz
  .refine rl (ax (by rw[cH nO];exact Bool.false_ne_true))<|List.pairwise_cons.mpr ⟨λz hz=>?_,h⟩
   rcases b7 hz with rfl |hz
   .exact nO
   .exact λq=>List.not_lt.mpr (List.le_trans (List.not_lt.mp nO) (List.not_lt.mp (h1 z hz))) q
theorem xk :∀l,(za l).Pairwise λa b=>¬b<a:=by
 intro y
 induction y with
 |nil=>
  exact .nil
 |cons x xs ih=>
  exact zb x _ (ih)
theorem zc :∀(p:Str) (l:List Str),risingS p l=true->(p::l).Pairwise λa b=>¬b.cps.toList<a.cps.toList:=by
 intro y0 y
 induction y generalizing y0 with
 |nil=>
  intro _;exact List.pairwise_singleton ..
 |cons x r ih=>
  intro h;obtain⟨h1,h2⟩:=cK (show(!PySem.Spec.ltCps x.cps.toList y0.cps.toList&&risingS x r)=true from h);have ih:=ih x h2;have h3 :¬x.cps.toList<y0.cps.toList:=λq=>by rw[ltCps_eq,bN q] at h1;injection h1
  refine List.pairwise_cons.mpr ⟨λz hz=>?_,ih⟩;rcases b7 hz with rfl |hz
  .exact h3
  .exact λq=>List.not_lt.mpr (List.le_trans (List.not_lt.mp h3) (List.not_lt.mp ((List.pairwise_cons.mp ih).1 z hz))) q
theorem xl {ss:List (List Nat)}{fP:List Str}(p:fP.Perm (ss.map cJ))(h:sortedS fP=true):fP =(za ss).map cJ:=by
 have h1:fP.Pairwise λa b=>¬b.cps.toList<a.cps.toList:=by
  cases fP with
  |nil=>exact .nil
  |cons x r=>exact zc x r h
 have h2 :((za ss).map cJ).Pairwise λa b=>¬b.cps.toList<a.cps.toList:=List.pairwise_map.mpr (xk ss);exact(p.trans ((Bu ss).map cJ).symm).eq_of_pairwise (λa b _ _ q1 q2=>by
  have:=List.le_antisymm (List.not_lt.mp q1) (List.not_lt.mp q2)
  cases a with |mk a=>cases b with |mk b=>exact aR Str.mk (Array.toList_inj.mp this)) h1 h2
section
variable {D:List Addr}
theorem KG :∀{xs:List V} {ss:List (List Nat)} {ms:List Value},G8 xs=some ss->aD Z h xs ms->StrsAre ms (ss.map cJ):=by
 intro xs
 induction xs with
 |nil=>intro ss ms e r;injection e with e;subst e;obtain rfl:=r.nil_inv;exact .nil
 |cons x xs ih=>
  intro ss ms e r;refine aT e λi h1 e1=>?_;refine dh e1 λjs e2 z2=>?_;subst z2;obtain rfl:=V.iW h1;obtain⟨m,ms,rfl,h1,h2⟩:=r.cons_inv;obtain⟨t,rfl⟩:=h1.str_inv;exact .cons _ _ (ih e2 h2)
theorem Ek :∀{ss:List (List Nat)} {ms:List Value},StrsAre ms (ss.map cJ)->aD Z h (ss.map .str) ms:=by
 intro y
 induction y with
 |nil=>
  intro _ q
  cases q;exact .nil
 |cons x xs ih=>
  intro _ q
  cases q with |cons _ t r=>exact .cons (.str x t) (ih r)
theorem KH {l:Addr}{xs:List V}{vs:List Value}{P:PySem.Fin->Shared->Prop}(ho:s.heap.get? l=some (cR "list" vs.toArray k))(r:aD Z h0 xs vs)(e:oH xs=some ys)(hP :∀fP h',aD Z h0 ys fP->(∃e,h'.get? l=some (cR "list" fP.toArray e))->(∀b o,b≠l->s.heap.get? b=some o->h'.get? b=some o)->P (.done (.ret .none)) {s with heap:=h'}) :
  wpAny bQ A (Builtin.«list.sort» ⟨[.ref l],[]⟩) P E s:=by
 have hl:=r.length;unfold oH at e
 split at e
 .rename_i h2
  refine cq λG hG=>?_;injection e with e;subst e;refine hG ?_;exact mN ho (lt_of_eq_of_lt (id (Eq.symm hl)) h2) λh' q k=>hP vs h' r q k
 .split at e
  case isFalse=>injection e
  refine cq λG hG=>?_;rename_i yv;refine dh e λss hs z1=>?_;subst z1;have hS:=KG hs r;refine hG ?_;refine list_sort_treeK strKind_oneLt ho hS.keysOf (λaag aah jR e=>keyKind_strs (rr e<|hS)) (lt_of_eq_of_lt (id (Eq.symm hl)) yv) λxg hp hq=>?_
  refine cq λG hG=>?_;obtain⟨ss',h1,h2,h3⟩:=sorted_out_str hS hp hq;rw[xl h2 h3] at h1;have e1 :((arrOf xg).map (·.2)).toList.toArray =(arrOf xg).map (·.2):=Array.toArray_toList;refine hG ?_;refine hP _ _ (Ek h1) ?_ λb o hb e=>?_
  .exact rl e1<|sortedHeap_at ho
  .refine(sortedHeap_old hb (cI e)).trans ?_;exact e
theorem KJ :∀{ay:List (V×V)} {ks:List (Str×Value)},d8 (λkv km=>(∃x,kv.1=.str x/\km.1=cJ x)/\aH Z h kv.2 km.2) ay ks->∀us:List Value,ks.length=us.length->
  (∀(j:Nat) (u:Value),us[j]? = some u->∃k x,ks[j]? = some (k,x)/\(strKind W.prog W.w).is k u=true)->aD Z h (ay.map (·.1)) us:=by
 intro ay ks al
 induction al with
 |nil=>intro us e _;obtain rfl:=List.eq_nil_of_length_eq_zero e.symm;exact .nil
 |@cons kv km as bs r al ih=>
  intro us e Ge
  cases us with
  |nil=>injection e
  |cons u us=>
  refine cq λG hG=>?_;obtain⟨⟨x,e2,e3⟩,_⟩:=r;obtain⟨k,y,h1,h2⟩:=Ge 0 u rfl;injection h1 with h1;subst h1;have h3 :(strKind W.prog W.w).is (cJ x) u=true:=e3▸h2;refine hG ?_;refine rl List.map_cons<|rl e2<|.cons ?_ (ih us (Nat.succ.inj e) λj u e=>Ge (j+1) u e)
  refine cq λG hG=>?_;obtain⟨t,rfl⟩:=Value.isStrOf_shape h3;refine hG ?_;exact .str x t
theorem zd {xs:List V}{Q:List Value->Shared->Prop}(hh:A.handled=none)(S:St Z U s)(r:aH Z s.heap v m)(e:G9 U v=some xs)(hz:xs.length<=sizeLine)(h :∀h' tk vs,(∀b o,s.heap.get? b=some o->h'.get? b=some o)->aD Z s.heap xs vs->Q vs {s with heap:=h',toks:=tk}):wpAny bQ A (collect m) Q E s:=by
 unfold G9 at e
 cases hd:gi U v with
 |none=>
  refine cq λG hG=>?_;rw[hd] at e;obtain⟨b,ik,rfl,l,q⟩:=dY S.heap r e;have hl:=q.length;refine hG ?_;refine collect_list (vs:=ik.toList) (rl Array.toArray_toList<|l) (h _ s.toks _ (λb o e=>?_) q) (rr hl<|hz)
  exact(Heap.get?_update_other _ _ λz=>absurd (cI e) (by exact rl z<|Nat.lt_irrefl _)).trans (bR _ e)
 |some q=>
  refine cq λG hG=>?_;obtain⟨i,kd,ay⟩:=q;rw[hd] at e;obtain⟨rfl,hi⟩:=jV hd;dsimp only at e hi;refine hG ?_
  split at e
  case isFalse=>injection e
  refine cq λG hG=>?_;rename_i hk;obtain⟨rfl,hk⟩:=hk;injection e with e;subst e;obtain⟨p,hp,rfl⟩:=r.fm;obtain⟨e1,ks,d,al⟩:=S.heap.objs _ _ _ hi hp;refine hG ?_;refine rl e1<|cq λG hG=>?_
  obtain⟨ep,Ge⟩:=d.dictAt;refine hG ?_;refine kdu_collect (kdl_dict (knd:=strKind W.prog W.w) (nY S.heap (eB hp))) hh Ge (rr al.length<|dn hk) λh' tk bh Gu sS=>h h' tk _ Gu ?_
  exact KJ al _ (by refine eZ.trans ?_;exact sS.1.symm) λj u e=>sS.2 j u (by refine(Eq.symm (Array.getElem?_toList)).trans ?_;exact e)
theorem xm:G7 n (.builtin "sorted") kM:=by
 intro a ok Z U s vs ms r Q E S rs e p;refine cq λG hG=>?_;refine aT e λv hv e=>?_;refine aT e λxs hx e=>?_;refine dh e λys hy z3=>?_;subst z3;obtain rfl:=iF hv;obtain⟨m1,rfl,r1⟩:=rs.one;have yv:xs.length<64:=by
  unfold oH at hy
  split at hy
  .exact q1 ‹_› (by rfl)
  .split at hy
   .assumption
   .injection hy
 refine hG ?_;refine Calls.call_function_entry kind_sorted plain_sorted entry_sorted (args_sorted1 _) ?_;refine wb (m:=checkCount "sorted" 1 1 _) (av ?_);refine wb (zd (by simp[ok.hand]) S r1 hx (by refine rl sizeLine_eq ?_;exact q4 ‹_› (by rfl)) λh1 tk vs k1 rv=>?_);have hl:=rv.length;refine wb (wpAny_newList ?_ (by refine rr hl<|rl sizeLine_eq ?_;exact q4 ‹_› (by rfl)))
 have xX :(h1.push (cR "list" vs.toArray 0)).get? h1.objs.size=some (cR "list" vs.toArray 0):=cC _ rfl;have hn:s.heap.get? h1.objs.size=none:=by
  cases z:s.heap.get? h1.objs.size with
  |none=>rfl
  |some o=>exact absurd (cI (k1 _ _ z)) (Nat.lt_irrefl _)
 show wpAny _ _ _ _ _ {s with heap:=h1.push (cR "list" vs.toArray 0),toks:=tk};refine wb (cP (fF slot_list_sort ⟨_,xX,rfl⟩ entry_list_sort ?_ (args_list_sort _)));refine KH xX rv hy λfP h' ro ⟨e',he⟩ k3=>⟨_,rfl,av ⟨_,rfl,?_⟩⟩;refine cq λG hG=>?_;have k :∀b o,s.heap.get? b=some o->h'.get? b=some o:=λb o e=>k3 b o (λz=>by rw[z] at e;replace e:=hn.symm.trans e;injection e) (bR _ (k1 _ _ e));obtain⟨S',x'⟩:=S.kept (tk:=tk) k;refine hG ?_;refine bt.val p S' x' (.list he rfl rfl (λhm=>?_) (ro.mono x'));obtain⟨ob,eb,_⟩:=S.heap.gK hm;replace eb:=hn.symm.trans eb;injection eb
end
def Ha (i:Nat)(k v:V)(U:bw):Option bw:=(gi U (.ref i)).bind λq=>k.gZ.bind λks=>if q.2.1=.tup/\fu .tup (.tup ks)=true/\cD q.2.2.length=true then some (U.set i (.dict .tup (hV q.2.2 (.tup ks) v))) else .none
def xn (f g:ME V):ME V:=λfr U=>(f fr (U++[.dict .tup []])).andThen λk bq=>(g fr bq).andThen λv bS=>match Ha U.length k v bS with |some bB=>.ok (.ref U.length) bB |.none=>.stuck
section
variable {D:List Addr}
theorem ze {k v:Expr}{f g:ME V}(hk:cm n sc k f)(hv:cm n sc v g):cm n sc (.Dict [some k] [v] pos) (xn f g):=by
 intro a ok bJ Z U fr s S F Q E p;refine wpAny_Dict_any rfl rfl (by simp) (by simp) ?_;show wpAny _ _ (evalPairs [(eval k a.env,do let x <- eval v a.env;standAt pos;pure x)]) _ _ _;refine cq λG hG=>?_;obtain⟨S0,x0,r0⟩:=yK (kd:=.tup) S;have p1:=b9.step (s':={s with heap:=s.heap.push {cls:=.type "dict",data:=.dict #[]}}) x0 (show b9 a Z s ((f fr (U++[.dict .tup []])).andThen _) (KV Q) E from p);refine hG ?_;refine evalPairs_cons (hk.bind ok bJ S0 (F.ext x0) p1 λv1 bq cF t1 m1 T1 G1 y1 r1 q1=>?_);refine wb (hv.bind ok bJ T1 G1 q1 λv2 bS jn t2 m2 T2 G2 y2 r2 q2=>wb (wpAny_standAt (av ?_)));refine evalPairs_nil ?_;have hp:jn.objs[U.length]? = some (s.heap.objs.size,s.heap.objs.size):=by
  refine(y1.trans y2).get ?_;refine rr S.heap.len ?_;simp[dW.add]
 unfold storeAll;refine rl (List.forIn_cons ..) ?_
 cases hd:Ha U.length v1 v2 bS with
 |none=>rw[hd] at q2;exact q2.elim
 |some bB=>
  refine cq λG hG=>?_;rw[hd] at q2;refine aT hd λq1 hq e1=>?_;obtain⟨i,kd,ay⟩:=q1;refine aT e1 λks hk e2=>?_;clear hd e1;obtain⟨hi,hd⟩:=jV hq;obtain rfl:=V.eP hk;injection hi with hi;subst hi;dsimp only at e2 hd;refine hG ?_
  split at e2
  case isFalse=>injection e2
  refine cq λG hG=>?_;rename_i hz;obtain⟨rfl,AO,hz2⟩:=hz;injection e2 with e2;subst e2;obtain⟨_,xs,dd,al⟩:=T2.heap.objs _ _ _ hd hp;have RG:=r1.mono y2;obtain⟨b,rfl,hb⟩:=jU RG AO;refine hG ?_;refine wb (wb (wpAny_dictSet_heap (knd:=dX) (by have:=ok.units;show a.A.units+64<cLine;exact XY ‹_› (by rfl)) hb dd (λh' d' hs=>av ?_) (rr al.length<|dn hz2)))
  refine cq λG hG=>?_;obtain⟨S',x'⟩:=m7 (tk:=t2.toks+(dX).draws ks) T2 hp rfl al RG r2 d' hs;refine hG ?_;exact av (bt.val q2 S' x' (.ref (p:=(s.heap.objs.size,s.heap.objs.size)) hp))
end
noncomputable def nu (vs:List V):List V:=vs.zipIdx.map λp=>.tup [.int p.2,p.1]
def kO (f:ME V):ME (List V):=f.bind λv=>λ_ U=>Res.cN (v.gZ.map nu) U
section
variable {D:List Addr}
theorem gp.two {oe oi YR:Obj}(he:h.get? e=some oe)(hi:h.get? it=some oi)(se:fq oe)(si:fq oi)(dg:e≠it)(xV:h'.get? it=some YR)(k :∀b o,b∉[e,it]->h.get? b=some o->h'.get? b=some o) :
  ∃h1,gp it h h1/\gp e h1 h':=by
 refine⟨h.update it λ_=>YR,⟨(dP ..).extBut,oi,hi,si⟩,λb o hb q=>?_,oe,((dP h it _).2 e dg).trans he,se⟩;by_cases Om:b=it
 .subst Om
  replace q:=(Heap.get?_update_self _ hi (Heap.get?_some_iff.mp xV).2).symm.trans q;injection q with q;subst q;exact xV
 .exact k b o (by simp[hb,Om]) (((dP h it _).2 b Om).symm.trans q)
theorem xo {i:Int}{Jz:Value}(he:IsEnum h e it i Jz) :∃o,h.get? e=some o/\fq o:=⟨_,he,rfl,by simp,by simp,by simp,by simp⟩
theorem jI {l:Addr}(hi:h.IsTupleIter it l i) :∃o,h.get? it=some o/\fq o:=by
 obtain⟨o,ho,hc,hd⟩:=hi;exact⟨o,ho,aR eJ hd,by rw[hc];decide,by rw[hc];decide,by rw[hc];decide,by rw[hc];simp⟩
structure lK (Z:dW)(h:Heap)(e it l:Addr)(items:Array Value)(vs:List V)(i:Nat):Prop where
 en :∃Jz,IsEnum h e it i Jz
 ti:h.IsTupleIter it l i
 tu:h.IsTuple l items
 ne:e∉bH Z
 ni:it∉bH Z
 nl:l∉bH Z
 ef:aD Z h vs items.toList
theorem lK.ext {l:Addr}{items:Array Value}(x:lK Z h e it l items vs i)(y:cE D Z h bK h'):lK bK h' e it l items vs i:=by
 refine cq λG hG=>?_;obtain⟨⟨Jz,he⟩,⟨o,ho,hc,hd⟩,⟨ol,kX,qZ,k,pf⟩,n1,n2,n3,r⟩:=x;refine hG ?_;exact⟨⟨Jz,y.keep _ _ he n1 rfl⟩,⟨o,y.keep _ _ ho n2 (aR eJ hd),hc,hd⟩,⟨ol,y.keep _ _ kX n3 (aR eJ pf),qZ,k,pf⟩,y.eM he n1,y.eM ho n2,y.eM kX n3,r.mono y⟩
theorem El {gH:List Expr}{l:Addr}{items:Array Value}(hh:A.handled=none)(RH:e≠it)(NJ:l≠e)(Ru:l≠it)(S:St Z U s)(X:lK Z s.heap e it l items vs i)(hv:vs[i]? = some v){P:iN}(hP :∀mv h1 h2 tk,gp it s.heap h1->gp e h1 h2->lK Z h2 e it l items vs (i+1)->aH Z h2 (.tup [.int i,v]) mv->P mv {s with heap:=h2,toks:=tk}) :
  wpAny bQ A (pyNext (.ref e)) (λr s1=>match r with |none=>False |some mv=>wpAny bQ A (letOwnedTupleGo (.Tuple gH k pos) (.ref e) mv) (λ_ s2=>P mv s2) E s1) E s:=by
 refine cq λG hG=>?_;have wk:=WalksT.enumerateD (y8 (prog:=W.prog) (w:=W.w) (A:=A.in1) hh it l Ru items) e RH (by simp[RH,Ne.symm NJ]) (by simp);obtain⟨⟨Jz,he⟩,ti,tu,n1,n2,n3,r⟩:=X;obtain⟨x,hx,rx⟩:=r.get i v hv;replace hx:=(Array.getElem?_toList).symm.trans hx;have eO:i<items.size:=(Array.getElem?_eq_some_iff.mp hx).1;refine hG ?_;refine wk.item i s _ _ eO ⟨⟨Jz,he⟩,ti,tu⟩ λT WO h1 tk ⟨t,y,hy,RI⟩ hT WQ RJ k1=>?_;refine cq λG hG=>?_;replace hy:=hx.symm.trans hy;injection hy with hy;subst hy;subst RI;have CB:=wk.apart _ _ _ RJ;refine hG ?_;refine wk.go gH k pos i T _ _ _ RJ λh2 st2 k2=>?_;refine cq λG hG=>?_;have kk :∀b o,b∉[e,it]->s.heap.get? b=some o->h2.get? b=some o:=λb o hb q=>k2 b o hb (k1 b o hb q);obtain⟨oe,hoe,se⟩:=xo he;obtain⟨oi,QQ,si⟩:=jI ti;obtain⟨⟨WR,Tj⟩,YS,tu2⟩:=st2;obtain⟨oi2,WS,_⟩:=jI YS;obtain⟨hm,s1,s2⟩:=gp.two hoe QQ se si RH WS kk;have nT:T∉bH Z:=λhm=>absurd (S.heap.lt hm) (Nat.not_lt.mpr hT);obtain⟨oT,hoT,hcT,kT,hdT⟩:=WQ;refine hG ?_;exact hP _ hm h2 tk s1 s2 ⟨⟨WR,Tj⟩,YS,tu2,n1,n2,n3,(r.side s1).side s2⟩ (.tup (k2 T oT CB hoT) hcT hdT nT (.cons (.int _ t) (.cons ((rx.side s1).side s2) .nil)))
theorem Em (hv:vs[i]? = some v) :(nu vs).drop i=.tup [.int i,v] ::(nu vs).drop (i+1):=by
 have eO:=(List.getElem?_eq_some_iff.mp hv);have h1 :(nu vs)[i]? = some (.tup [.int i,v]):=by
  refine(List.getElem?_map).trans ?_;refine rl List.getElem?_zipIdx<|rl hv ?_;simp
 exact List.drop_eq_getElem?_toList_append.trans (rl h1 rfl)
inductive CG (a:Act)(e it l:Addr)(items:Array Value)(vs:List V)(t:kR)(fb:MS)(s0:Shared)(mX:dW)(Q:Flow->Shared->Prop)(E:iN)(m:Nat)(s:Shared):Prop
 |mk (i:Nat) (fr:eY) (U:bw) (Z:dW):m+i=vs.length->St Z U s->FS a fr Z s.heap->cE a.D mX s0.heap Z s.heap->lK Z s.heap e it l items vs i->fO a mX s0 (dJ t fb ((nu vs).drop i) fr U) Q E->CG a e it l items vs t fb s0 mX Q E m s
inductive CH (e it l:Addr)(items:Array Value)(vs:List V)(Z:dW)(v:V)(i:Nat)(s:Shared)(mv:Value)(s2:Shared):Prop
 |mk (h1 h2:Heap) (tk:Nat):s2 ={s with heap:=h2,toks:=tk}->gp it s.heap h1->gp e h1 h2->lK Z h2 e it l items vs (i+1)->aH Z h2 v mv->CH e it l items vs Z v i s mv s2
theorem En {gH:List Expr}{t:kR}(ht:yy n sc (.Tuple gH k tp) t)(hb:cb n sc body fb)(ok:b8 n a)(bJ:a.env.scope=sc){l:Addr}{items:Array Value}(RH:e≠it)(NJ:l≠e)(Ru:l≠it)(he0:s0.heap.get? e=none)(Tt:s0.heap.get? it=none)(ML:W.h₀.get? e=none)(Om:W.h₀.get? it=none){Q:Flow->Shared->Prop}(hR :∀f s',Q f s'->R (.ok f) s')(S1:St cF xT s1)(F1:FS a Fp cF s1.heap)(x1:cE a.D mX s0.heap cF s1.heap)(X1:lK cF s1.heap e it l items vs 0)(p:fO a mX s0 (dJ t fb (nu vs) Fp xT) Q E) :
  codeAny bQ a.A (.forLoop (.Tuple gH k tp) (.ref e) body [] a.env) R s1:=by
 refine codeAny_forLoop_any (CG a e it l items vs t fb s0 mX Q E) ?_ vs.length ⟨0,Fp,xT,cF,rfl,S1,F1,x1,X1,p⟩;rintro m s ⟨i,fr,U,Z,hm,S,F,x,X,p⟩
 cases m with
 |zero=>
  have hi:i=items.size:=by refine rr eZ<|rr X.ef.length ?_;lia
  rw[List.drop_of_length_le (by unfold nu;simp;lia)] at p;obtain⟨⟨Jz,he⟩,ti,tu,_⟩:=X;subst hi;refine wpAny_pyNext_enum_endD (y8 (prog:=W.prog) (w:=W.w) (A:=a.A.in1) ok.hand it l Ru items) he ⟨ti,tu⟩ λh' hx=>wpAny_execs_nil ?_;have d:gp it s.heap h':=⟨hx,jI ti⟩;exact hR _ _ (p Z _ (S.side (tk:=s.toks) d Om) (x.side (λb o dg e=>d.same b o dg e) Tt) (F.side d))
 |succ m=>
  have eO:i<vs.length:=by exact Z5 ‹_›
  have hv:=List.getElem?_eq_getElem eO;rw[Em hv] at p;refine cA (El (E:=notedBy bQ a.A a.env λe s'=>R (.error e) s') (gH:=gH) (k:=k) (pos:=tp) ok.hand RH NJ Ru S X hv (P:=CH e it l items vs Z (.tup [.int i,vs[i]]) i s)
   λmv h1 h2 tk d1 d2 X2 r2=>⟨h1,h2,tk,rfl,d1,d2,X2,r2⟩) (λr s1 q=>?_) λ_ _ e=>e
  cases r with
  |none=>exact q.elim
  |some mv=>
   refine cA q (λ_ s2 q2=>?_) λ_ _ e=>e;obtain⟨h1,h2,tk,rfl,d1,d2,X2,r2⟩:=q2;have x2:=(x.side (λb o dg e=>d1.same b o dg e) Tt).side (λb o dg e=>d2.same b o dg e) he0;exact Cz ht hb ok bJ (St.side (s:={s with heap:=h1}) (S.side (tk:=s.toks) d1 Om) d2 ML) ((F.side d1).side d2) x2 r2 hR p λcG bS qG s3 S3 F3 x3 p=>⟨m,Nat.lt_succ_self m,i+1,cG,bS,qG,by lia,S3,F3,x2.trans x3,X2.ext x3,p⟩
theorem mP {gH:List Expr}{t:kR}{ee:Expr}{f:ME V}(ht:yy n sc (.Tuple gH k tp) t)(hf:gy n sc [ee] (aS [f]))(hp:dc qD [ee])(hb:cb n sc body fb)(hx:sc.names.lookup (ofString "enumerate")=some .globalImplicit)(e1:nsIn W.K mainGlobals (ofString "enumerate")=some none) :
  jT n sc (.For (.Tuple gH k tp) (.Call (.Name (ofString "enumerate") np) [ee] [] qD) body [] pos) (df t (kO f) fb):=by
 intro a ok bJ Z U fr s S F Q E p;refine cq λG hG=>?_;subst bJ;refine hG ?_;refine wpAny_For ?_ (λ_=>rfl);refine Call_Name rfl (gD (v:=.type "enumerate") ok S hx e1 (by decide +kernel) (by decide) rfl ?_);refine PySem.callWith_type (hp _) (c7 (hp _) (hf a ok rfl Z U fr s S F qD _ _ ?_));refine(?_:b9 a Z s ((f fr U).andThen λv U=>.ok [v] U) _ _);unfold df ct kO ME.bind at p
 cases hr:f fr U with
 |stuck=>rw[hr] at p;exact p
 |exc c bB=>rw[hr] at p;exact λbK s' e B Ak x=>p bK s' e B (.inl Ak) x.of0 (F.ext (x.ext (Ak.elim (·.2.2.1) (·.2.2.1))))
 |ok v bq=>
  rw[hr] at p;intro cF s1 S1 x1 ms r1;refine cq λG hG=>?_;obtain⟨m,rfl,r0⟩:=r1.one;refine hG ?_
  cases hv:v.gZ with
  |none=>simp only[Res.andThen,hv] at p;exact p.elim
  |some vs=>
   refine cq λG hG=>?_;dsimp only[Res.andThen,hv] at p;obtain rfl:=V.eP hv;obtain⟨l,o,items,kk,rfl,ho,hc,hd,hn,r⟩:=r0.fV;have PU:=cI ho;refine hG ?_;refine uD ⟨o,ho,hc,kk,hd⟩ λh' hE hI hk=>wpAny_pyIter_enum hE ?_;refine cq λG hG=>?_;obtain⟨S',x'⟩:=S1.kept (tk:=s1.toks) hk;have new :∀b,s1.heap.objs.size<=b->s.heap.get? b=none/\b∉bH cF/\W.h₀.get? b=none:=λb hb=>by
    have h0:s1.heap.get? b=none:=by
     cases z:s1.heap.get? b with
     |none=>rfl
     |some o=>exact absurd (cI z) (Nat.not_lt.mpr hb)
    refine⟨?_,λhm=>absurd (S1.heap.lt hm) (Nat.not_lt.mpr hb),?_⟩
    .cases z:s.heap.get? b with
     |none=>rfl
     |some o=>obtain⟨o',e'⟩:=x1.live _ _ z;replace e':=h0.symm.trans e';injection e'
    .cases z:W.h₀.get? b with
     |none=>rfl
     |some o=>have:=S1.heap.base _ _ z;replace this:=h0.symm.trans this;injection this
   obtain⟨a1,a2,a3⟩:=new s1.heap.objs.size (Nat.le_refl _);obtain⟨b1,b2,b3⟩:=new (s1.heap.objs.size+1) (Nat.le_succ _);refine hG ?_;exact En ht hb ok rfl (Nat.succ_ne_self _) (Nat.ne_of_lt (Nat.lt_succ_of_lt PU)) (Nat.ne_of_lt PU) b1 a1 b3 a3 (λf s' h=>h) S' (F.ext (x1.trans x')) (x1.of0.trans x'.of0) ⟨⟨_,hE⟩,hI,⟨o,hk _ _ ho,hc,kk,hd⟩,b2,a2,hn,r.mono x'⟩ p
end
def WT (x y:V):Option Bool:=match x.int? with
 |some i=>y.int?.map λj=>decide (i<j)
 |.none=>x.nX.bind λi=>y.nX.map λj=>decide (i<j)
noncomputable def te:List V->List V->Option Bool
 |[],ys=>some (!ys.isEmpty)
 |_::_,[]=>some false
 |x::xs,y::ys=>if x=y then te xs ys else WT x y
def RK (a b:V):Option Bool:=a.gZ.bind λxs=>b.gZ.bind λys=>if V.cS xs=true/\V.cS ys=true/\V.cv xs<=64 then te xs ys else .none
def Ox (f g:ME V):ME Bool:=f.bind λa=>g.bind λb=>λ_ U=>Res.cN (RK a b) U
section
variable {D:List Addr}
theorem Oy {c:Bool}(rx:aH Z s.heap x mx)(ry:aH Z s.heap y my)(e:WT x y=some c)(hQ:Q (.bool c) s):wpAny bQ A (richCompare .Lt mx my) Q E s:=by
 unfold WT at e
 cases hx:x.int? with
 |some i=>
  refine cq λG hG=>?_;rw[hx] at e;refine dh e λj hy z1=>?_;subst z1;obtain rfl:=V.fH hx;obtain rfl:=V.fH hy;obtain⟨t,rfl⟩:=rx.int_inv;obtain⟨u,rfl⟩:=ry.int_inv;refine hG ?_;exact(show wpAny bQ A (compareOp .Lt (.int i t) (.int j u)) Q E s from P.lt_int hQ)
 |none=>
  refine cq λG hG=>?_;rw[hx] at e;refine aT e λi hx e=>?_;refine dh e λj hy z3=>?_;subst z3;obtain rfl:=V.iW hx;obtain rfl:=V.iW hy;obtain⟨t,rfl⟩:=rx.str_inv;obtain⟨u,rfl⟩:=ry.str_inv;refine hG ?_;exact(show wpAny bQ A (compareOp .Lt (.str (cJ i) t) (.str (cJ j) u)) Q E s from P.lt_str hQ)
noncomputable def Oz (x:Value×Value)(_:Option PySem.Fin×Unit):Sem (ForInStep (Option PySem.Fin×Unit)):=match x with
 | (x,y)=>do
  let b <- eqBool x y
  if (!b)=true then do
   rule "tuple.compare.by-the-first-pair-that-differs"
   let v <- richCompare .Lt x y
   let f <- ret v
   pure (ForInStep.done (some f,()))
  else pure (ForInStep.yield (none,()))
theorem KL {c:Bool}{R:Option PySem.Fin×Unit->Shared->Prop} :∀{xs ys:List V} {ms xp:List Value},aD Z s.heap xs ms->aD Z s.heap ys xp->V.cS xs=true->V.cS ys=true->A.units+V.cv xs<cLine->te xs ys=some c->
  R (some (.done (.ret (.bool c))),()) s->(c=decide (xs.length<ys.length)->R (none,()) s)->wpAny bQ A (forIn (ms.zip xp) (none,()) Oz) R E s:=by
 intro xs
 induction xs with
 |nil=>
  intro ys ms xp r1 r2 _ _ _ e _ h2;refine cq λG hG=>?_;injection e with e;subst e;obtain rfl:=r1.nil_inv;refine hG ?_;exact av (h2 (by cases ys <;> rfl))
 |cons x xs ih=>
  intro ys ms xp r1 r2 px py hu e h1 h2;refine cq λG hG=>?_;obtain⟨m,ms,rfl,rx,rs⟩:=r1.cons_inv;refine hG ?_;revert e;cases ys with
  |nil=>
   intro e;refine cq λG hG=>?_;injection e with e;subst e;obtain rfl:=r2.nil_inv;refine hG ?_;exact av (h2 rfl)
  |cons y ys=>
  intro e;refine cq λG hG=>?_;obtain⟨m2,xp,rfl,ry,WU⟩:=r2.cons_inv;obtain⟨px,WV⟩:=cK px;obtain⟨py,WW⟩:=cK py;have JA:x.depth<=V.cv (x::xs):=Nat.le_max_left ..;have qX:V.cv xs<=V.cv (x::xs):=Nat.le_max_right ..;refine hG ?_;refine rl List.zip_cons_cons<|rl (List.forIn_cons ..)<|wb (aY (nV rx ry px py (Qj hu JA) ?_))
  unfold te at e;by_cases nO:x=y
  .rw[aA nO] at e
   refine rl (bN nO)<|rl (ax (by decide))<|av (ih rs WU WV WW (UT hu qX) e h1 λhc=>h2 ?_)
   refine rl hc ?_;simp
  .rw[ax nO] at e
   refine rl (cH nO)<|rl (aA (by decide))<|wb (wpAny_rule (wb (Oy rx ry e ?_)))
   exact wb (av (av (av h1)))
theorem Hb {xs:List V}{c:Bool}(hu:A.units+70<cLine)(rx:aH Z s.heap (.tup xs) mx)(ry:aH Z s.heap (.tup ys) my)(px:V.cS xs=true)(py:V.cS ys=true)(dx:V.cv xs<=64)(e:te xs ys=some c)(hQ:Q (.bool c) s):wpAny bQ A (richCompare .Lt mx my) Q E s:=by
 refine cq λG hG=>?_;obtain⟨l,o,ms,k,rfl,ho,hc,hd,hn,r⟩:=rx.fV;obtain⟨l2,o2,xp,k2,rfl,wJ,xU,qX,VH,r2⟩:=ry.fV;have hT:s.TypeIs (.ref l) "tuple":=⟨o,ho,hc⟩;have YT:s.TypeIs (.ref l2) "tuple":=⟨o2,wJ,xU⟩;refine hG ?_;refine wpAny_richCompare_same_room hT YT F.slot_tuple_lt (fF F.slot_tuple_lt hT F.entry_tuple_lt ?_ (F.args_tuple_lt_2 _ _)) (Nat.lt_of_add_right_lt hu);show wpAny _ _ (isInstance (.ref l2) (.type "tuple") >>= _) _ _ _;refine aY (wpAny_isInstance (T:="tuple") (b:=true) YT (by refine rl (isSubtype_type ..) ?_;kernel_rfl) ?_);refine rl (ax (by decide))<|wb (wpAny_tupleItemsOf ho hd (wb (wpAny_tupleItemsOf wJ qX (wb ?_))))
 refine KL r r2 px py (by show A.units+1+V.cv xs<cLine;exact Vm hu dx) e (av ⟨_,rfl,by simp,hQ⟩) λhc=>?_;have hv:Builtin.Tuple.tupleCompareSizes .Lt ms.size xp.size=.bool c:=by
  exact rl hc<|rl r.length<|rl r2.length<|rl eZ<|rl eZ rfl
 exact rl hv<|av ⟨_,rfl,by simp,hQ⟩
theorem Eo {l r:Expr}{f g:ME V}(hl:cm n sc l f)(hr:cm n sc r g)(hm:behindInMarks .Lt r=false):jo n sc (.Compare l [.Lt] [r] pos) (Ox f g):=by
 intro a ok bJ Z U fr s S F Q E p;refine wpAny_isTrue_Compare1 (hl.bind ok bJ S F p λv bq cF s1 mv S1 F1 x1 r1 p1=>?_) hm;refine hr.bind ok bJ S1 F1 p1 λv2 bS jn s2 Mw S2 F2 x2 r2 p2=>?_;dsimp only at p2
 cases e:RK v v2 with
 |none=>rw[e] at p2;exact p2.elim
 |some b=>
  refine cq λG hG=>?_;rw[e] at p2;refine aT e λxs hx e1=>?_;refine aT e1 λys hy e2=>?_;clear e e1;obtain rfl:=V.eP hx;obtain rfl:=V.eP hy;refine hG ?_;refine di e2 λhc e2=>?_;have:=ok.units;exact(show wpAny bQ a.A (richCompare .Lt mv Mw) _ _ s2 from Hb (XY ‹_› (by rfl)) (r1.mono x2) r2 hc.1 hc.2.1 hc.2.2 e2 (wpAny_truthy_bool (p2 jn s2 S2 (.refl ..))))
end
def xq (f g:ME V):ME V:=f.bind λv=>g.bind λu=>λ_ U=>Res.cN (u.int?.bind λk=>if 0<=k then yl k.toNat v U else .none) U
noncomputable def MR (k:Int):List V->Option V
 |[x,y]=>if k=1 then some (.list [x,y]) else if k=-1 then some (.list [y,x]) else .none
 |_=>.none
def CI (f g:ME V):ME V:=f.bind λv=>g.bind λu=>λ_ U=>Res.cN ((items? U v).bind λvs=>u.int?.bind λk=>MR k vs) U
section
variable {D:List Addr}
theorem zf {e i:Expr}{f g:ME V}(hf:cm n sc e f)(hg:cm n sc i g):cm n sc (.Subscript e (.Slice none (some i) none sp) pos) (xq f g):=by
 intro a ok bJ Z U fr s S F Q E p;refine Subscript_ (hf.bind ok bJ S F p λv bq cF s1 mv S1 F1 x1 r1 p1=>?_);refine wpAny_Slice ?_;refine rl (evalPart_some ..)<|rl (evalPart_none ..)<|av (hg.bind ok bJ S1 F1 p1 λu bS jn s2 mu S2 F2 x2 r2 p2=>av ?_)
 dsimp only at p2
 cases hu :(u.int?.bind λk=>if 0<=k then yl k.toNat v bS else .none) with
 |none=>rw[hu] at p2;exact p2.elim
 |some r=>
  rw[hu] at p2;refine aT hu λk hk h1=>?_;obtain rfl:=V.fH hk;refine di h1 λh0 h1=>?_;obtain⟨t,rfl⟩:=r2.int_inv;obtain⟨j,rfl⟩:=Int.eq_ofNat_of_zero_le h0;have x3:cE [] jn s2.heap jn (s2.heap.push {cls:=.type "slice",data:=.fields #[.none,.int j t,.none]}):=cE.push _ _;exact va (S2.k9 (tk:=s2.toks) _) ((r1.mono x2).mono x3) (Heap.IsSliceOf.new ..) (λ_=>⟨_,rfl⟩) h1 (b9.step x3 p2)
theorem KN (x y:Value) :(slicePick ⟨[x,y]⟩ none none (some 1)).toList=[x,y]:=by kernel_rfl
theorem Ep (x y:Value) :(slicePick ⟨[x,y]⟩ none none (some (-1))).toList=[y,x]:=by kernel_rfl
theorem Er {k:Int}{r:V}(e:MR k vs=some r) :∃x y,vs=[x,y]/\(k=1/\r=.list [x,y]\/k=-1/\r=.list [y,x]):=by
 match vs,e with
 |[x,y],e=>
  refine⟨x,y,rfl,?_⟩;replace e :(if k=1 then some (V.list [x,y]) else if k=-1 then some (.list [y,x]) else .none)=some r:=e;by_cases h1:k=1
  .rw[aA h1] at e;exact .inl ⟨h1,(Option.some.inj e).symm⟩
  .rw[ax h1] at e
   exact di e λh3 e=>.inr ⟨h3,(Option.some.inj e).symm⟩
theorem Bv {e i:Expr}{f g:ME V}(hf:cm n sc e f)(hg:cm n sc i g):cm n sc (.Subscript e (.Slice none none (some i) sp) pos) (CI f g):=by
 intro a ok bJ Z U fr s S F Q E p;refine Subscript_ (hf.bind ok bJ S F p λv bq cF s1 mv S1 F1 x1 r1 p1=>?_);refine wpAny_Slice ?_;refine rl (evalPart_some ..)<|rl (evalPart_none ..)<|av (av (hg.bind ok bJ S1 F1 p1 λu bS jn s2 mu S2 F2 x2 r2 p2=>?_))
 refine b9.opt p2 λr hu p3=>aT hu λvs hv h1=>aT h1 λk hk h2=>?_;clear p p1 hu h1 p2;obtain rfl:=V.fH hk;obtain⟨t,rfl⟩:=r2.int_inv;clear hk r2;have RG:=r1.mono x2;clear r1 S F x1 x2 S1 F1 F2;have S3:=S2.k9 (tk:=s2.toks) {cls:=.type "slice",data:=.fields #[.none,.none,.int k t]};have x3:cE [] jn s2.heap jn (s2.heap.push {cls:=.type "slice",data:=.fields #[.none,.none,.int k t]}):=cE.push _ _;obtain⟨b,ms,rfl,l,q⟩:=dY S3.heap (RG.mono x3) hv;have q':=b9.step (s':={s2 with heap:=s2.heap.push {cls:=.type "slice",data:=.fields #[.none,.none,.int k t]}}) x3 p3;obtain⟨x,y,rfl,hh⟩:=Er h2;clear h2;obtain⟨m1,m2,em,q1,q2⟩:=q.two;obtain⟨ms⟩:=ms;obtain rfl:ms=[m1,m2]:=em;clear q hv RG p3;have fin :∀us:List V,k≠0->r=.list us->aD jn (s2.heap.push {cls:=.type "slice",data:=.fields #[.none,.none,.int k t]}) us (slicePick ⟨[m1,m2]⟩ none none (some k)).toList->
   wpAny bQ a.A (subscriptTail e (.Slice none none (some i) sp) (.ref b) (.ref s2.heap.objs.size)) Q E {s2 with heap:=s2.heap.push {cls:=.type "slice",data:=.fields #[.none,.none,.int k t]}}:=λus h0 hr qq=>by
  subst hr;obtain⟨S4,x4,r4⟩:=S3.yg qq;rw[Array.toArray_toList] at S4 x4 r4;exact tail_any l.typeIs slot_list_getitem.lookup (wpAny_getItem_list_slice l (Heap.IsSliceOf.new ..) .none .none (.int _ _) (by simpa using h0) (bt.val q' S4 x4 r4) (show(2:Nat)<=sizeLine by decide)) rfl
 rcases hh with ⟨rfl,hr⟩|⟨rfl,hr⟩
 .exact fin _ (by decide) hr (rl (KN ..)<|.cons q1 (.cons q2 .nil))
 .exact fin _ (by decide) hr (rl (Ep ..)<|.cons q2 (.cons q1 .nil))
end
noncomputable def nv (h:Heap)(z TI TO:Addr)(f0:Value)(fl:Bool):Prop:=h.get? z=some {cls:=.type "zip",dict:=none,data:=.fields #[f0,.bool fl,.bool false,.ref TI,.ref TO],slots:=#[]}
structure j2 (h:Heap)(z TI TO i1 i2 l1 l2:Addr)(xs ys:Array Value)(k:Nat)(f0:Value)(fl:Bool):Prop where
 obj:nv h z TI TO f0 fl
 ik:IsPair h TI (.ref i1) (.ref i2)
 own :∃a b,IsPair h TO a b
 t1:h.IsListIter i1 l1 k
 t2:h.IsTupleIter i2 l2 k
 s1:h.IsList l1 xs
 s2:h.IsTuple l2 ys
theorem xr {l:Addr}(x:h.IsListIter it l i)(k :∀o,h.get? it=some o->h'.get? it=some o):h'.IsListIter it l i:=by obtain⟨o,ho,r⟩:=x;exact⟨o,k o ho,r⟩
theorem th {l:Addr}(x:h.IsTupleIter it l i)(k :∀o,h.get? it=some o->h'.get? it=some o):h'.IsTupleIter it l i:=by obtain⟨o,ho,r⟩:=x;exact⟨o,k o ho,r⟩
theorem kz {l:Addr}{xs:Array Value}(x:h.IsTuple l xs)(k :∀o,h.get? l=some o->h'.get? l=some o):h'.IsTuple l xs:=by obtain⟨o,ho,r⟩:=x;exact⟨o,k o ho,r⟩
theorem rh {l:Addr}{xs:Array Value}(x:h.IsList l xs)(k :∀o,h.get? l=some o->h'.get? l=some o):h'.IsList l xs:=by obtain⟨o,ho,r⟩:=x;exact⟨o,k o ho,r⟩
section
variable {z TI TO i1 i2 l1 l2:Addr}{xs ys:Array Value}{f0:Value}{fl:Bool}
theorem Hc {a:Addr}{oa:Obj}{x y:Value}(D:ZipApart z TI TO i1 i2 l1 l2)(X:j2 s.heap z TI TO i1 i2 l1 l2 xs ys k (rawInt a) fl)(ha:s.heap.get? a=some oa)(haz:a≠z)(hx:xs[k]? = some x)(hy:ys[k]? = some y)(hQ :∀h',j2 h' z TI TO i1 i2 l1 l2 xs ys (k+1) (rawInt a) true->IsPair h' s.heap.objs.size x y->(∀c o,c≠z->c≠i1->c≠i2->s.heap.get? c=some o->h'.get? c=some o)->Q (.ref s.heap.objs.size) {s with heap:=h'}) :
  wpAny (model prog w) A (Builtin.«zip.__next__» ⟨[.ref z],[]⟩) (λfin s'=>∃v,fin=.done (.ret v)/\Q v s') E s:=by
 refine cq λG hG=>?_;obtain⟨hz,OA,⟨p,q,PV⟩,h1,h2,w9,Al⟩:=X;refine hG ?_;show wpAny _ _ (field (.ref z) 2 >>= _) _ _ _;refine wb (wpAny_field hz rfl (x:=.bool false) rfl ?_);refine wb (wpAny_field hz rfl (x:=.ref TI) rfl ?_);refine wb (wpAny_seqItems OA rfl ?_);refine wb ?_;refine wb (wpAny_field hz rfl (x:=rawInt a) rfl ?_);refine(?_:wpAny _ _ (loadIfAlive ((a:Int).toNat) >>= _) _ _ _);refine rl (Int.toNat_natCast ..)<|wb (kdx_alive ha ?_)
 refine wb (wpAny_field hz rfl (x:=.bool fl) rfl ?_);refine cA (Q:=λb fS=>b=false/\∃gb,fS ={s with heap:=gb}/\nv gb z TI TO (rawInt a) true/\Heap.SameBut z s.heap gb) ?_ ?_ (λ_ _ e=>e)
 .cases fl
  .refine wb (wpAny_setField_rec hz (by simp) λgb tj fX=>?_)
   exact av ⟨rfl,_,rfl,tj,fX⟩
  .exact av ⟨rfl,_,rfl,hz,.refl ..⟩
 rintro _ _ ⟨rfl,gb,rfl,tj,fX⟩;refine wb ?_;simp only[<- Array.forIn_toList,List.forIn_cons,List.forIn_nil];refine wb (wb (cP ?_));refine wb (wpAny_nextOf_list_item (h1.extBut fX.extBut D.i1z) (w9.extBut fX.extBut D.l1z) hx λsv Hd kL=>av (av ?_));refine wb (wb (cP ?_));have Es :∀c o,c≠z->c≠i1->s.heap.get? c=some o->sv.get? c=some o:=λc o c1 c2 e=>kL.extBut _ _ c2 (fX.extBut _ _ c1 e);refine wb (s9 (th h2 λo=>Es _ o D.i2z D.i12.symm) (kz Al λo=>Es _ o D.l2z D.l2i1) hy λnc RL oI=>av (av (av ?_)));refine wb (wpAny_newTuple (hsz:=by change 2<=sizeLine;decide) (av ⟨_,rfl,?_⟩));have xt :∀c o,c≠z->c≠i1->c≠i2->s.heap.get? c=some o->nc.get? c=some o:=λc o c1 c2 c3 e=>oI.extBut _ _ c3 (Es c o c1 c2 e);have PM:nc.objs.size=s.heap.objs.size:=by exact rl oI.1<|rl kL.1<|rl fX.1 rfl
 have up :∀c o,nc.get? c=some o->(nc.push {cls:=.type "tuple",data:=.seq #[x,y]}).get? c=some o:=λc o e=>bR _ e;have hT:=cC nc (o:={cls:=.type "tuple",data:=.seq #[x,y]}) rfl;rw[PM] at hT;exact rl PM<|hQ _ ⟨up _ _ (oI.extBut _ _ D.i2z.symm (kL.extBut _ _ D.i1z.symm tj)),up _ _ (xt _ _ D.TIz D.TIi1 D.TIi2 OA),⟨p,q,up _ _ (xt _ _ D.TOz D.TOi1 D.TOi2 PV)⟩,
  xr Hd λo e=>up _ o (oI.extBut _ _ D.i12 e),th RL (up _),rh w9 λo e=>up _ o (xt _ o D.l1z D.l1i1 D.l1i2 e),kz Al λo e=>up _ o (xt _ o D.l2z D.l2i1 D.l2i2 e)⟩ hT λc o c1 c2 c3 e=>up c o (xt c o c1 c2 c3 e)
theorem xu {a:Addr}{oa:Obj}{Q:Fin->Shared->Prop}(hh:A.handled=none)(D:ZipApart z TI TO i1 i2 l1 l2)(X:j2 s.heap z TI TO i1 i2 l1 l2 xs ys k (rawInt a) fl)(ha:s.heap.get? a=some oa)(hx:xs[k]? = none)(hE :∀h' e,(∀c o,c≠z->c≠i1->c≠i2->s.heap.get? c=some o->h'.get? c=some o)->(∃o,h'.get? e=some o/\o.cls=.type "StopIteration")->E (.ref e) {s with heap:=h'}) :
  wpAny (model prog w) A (Builtin.«zip.__next__» ⟨[.ref z],[]⟩) Q E s:=by
 refine cq λG hG=>?_;obtain⟨hz,OA,⟨p,q,PV⟩,h1,h2,w9,Al⟩:=X;refine hG ?_;show wpAny _ _ (field (.ref z) 2 >>= _) _ _ _;refine wb (wpAny_field hz rfl (x:=.bool false) rfl ?_);refine wb (wpAny_field hz rfl (x:=.ref TI) rfl ?_);refine wb (wpAny_seqItems OA rfl ?_);refine wb ?_;refine wb (wpAny_field hz rfl (x:=rawInt a) rfl ?_);show wpAny _ _ (loadIfAlive ((a:Int).toNat) >>= _) _ _ _;rw[Int.toNat_natCast];refine wb (kdx_alive ha ?_);dsimp only[Option.isNone_some,Bool.false_eq_true,if_false];refine wb (wpAny_field hz rfl (x:=.bool fl) rfl ?_);refine cA (Q:=λb fS=>b=false/\∃gb,fS ={s with heap:=gb}/\Heap.SameBut z s.heap gb) ?_ ?_ (λ_ _ e=>e)
 .cases fl
  .exact wb (wpAny_setField_rec hz (by simp) λgb _ fX=>av ⟨rfl,_,rfl,fX⟩)
  .exact av ⟨rfl,_,rfl,.refl ..⟩
 rintro _ _ ⟨rfl,gb,rfl,fX⟩;refine wb ?_;simp only[<- Array.forIn_toList,List.forIn_cons,List.forIn_nil];refine wb (wb (cP ?_));exact wb (wpAny_nextOf_list_end hh (h1.extBut fX.extBut D.i1z) (w9.extBut fX.extBut D.l1z) hx λsv e kL he=>hE sv e (λc o c1 c2 c3 x=>kL _ _ c2 (fX.extBut _ _ c1 x)) he)
theorem He {x y:Value}(D:ZipApart z TI TO i1 i2 l1 l2)(X:j2 s.heap z TI TO i1 i2 l1 l2 xs ys k .none false)(hx:xs[k]? = some x)(hy:ys[k]? = some y)(hQ :∀h',j2 h' z TI TO i1 i2 l1 l2 xs ys (k+1) (rawInt s.heap.objs.size) false->IsPair h' s.heap.objs.size x y->(∀c o,c≠z->c≠TO->c≠i1->c≠i2->s.heap.get? c=some o->h'.get? c=some o)->Q (.ref s.heap.objs.size) {s with heap:=h'}) :
  wpAny (model prog w) A (Builtin.«zip.__next__» ⟨[.ref z],[]⟩) (λfin s'=>∃v,fin=.done (.ret v)/\Q v s') E s:=by
 refine cq λG hG=>?_;obtain⟨hz,OA,⟨a,b,PV⟩,h1,h2,w9,Al⟩:=X;refine hG ?_;refine(?_:wpAny _ _ (field (.ref z) 2 >>= _) _ _ _);refine wb (wpAny_field hz rfl (x:=.bool false) rfl ?_);refine wb (wpAny_field hz rfl (x:=.ref TI) rfl ?_);refine wb (wpAny_seqItems OA rfl ?_);refine wb ?_;refine wb (wpAny_field hz rfl (x:=.none) rfl (av ?_));simp only[if_true];refine wb (wpAny_rule ?_);refine wb (wpAny_field hz rfl (x:=.ref TO) rfl ?_);refine wb (wpAny_setField_rec hz (by simp) λgb tj fX=>?_);replace tj:nv gb z TI TO .ellipsis false:=tj;refine wb ?_;simp only[List.zipIdx_cons,List.zipIdx_nil,List.forIn_cons,List.forIn_nil];refine wb (wb (wpAny_onRaise ?_));refine wb (wpAny_nextOf_list_item (h1.extBut fX.extBut D.i1z) (w9.extBut fX.extBut D.l1z) hx λsv Hd kL=>av ?_);have Hf:IsPair sv TO a b:=kL.extBut _ _ D.TOi1 (fX.extBut _ _ D.TOz PV);refine wb (wpAny_seqItems Hf rfl ?_);refine wb (wpAny_updateSeq_pair Hf λnc Bw oI=>?_);replace Bw:IsPair nc TO x b:=Bw;refine wb (wpAny_letGo (av ?_));refine wb (wb (wpAny_onRaise ?_));have xt :∀c o,c≠z->c≠TO->c≠i1->s.heap.get? c=some o->nc.get? c=some o:=λc o c1 c2 c3 e=>oI.extBut _ _ c2 (kL.extBut _ _ c3 (fX.extBut _ _ c1 e));refine wb (s9 (th h2 λo=>xt _ o D.i2z D.TOi2.symm D.i12.symm) (kz Al λo=>xt _ o D.l2z D.l2TO D.l2i1) hy λA8 RM zg=>av ?_);have Hg:IsPair A8 TO x b:=zg.extBut _ _ D.TOi2 Bw;refine wb (wpAny_seqItems Hg rfl ?_);refine wb (wpAny_updateSeq_pair Hg λqK xv zh=>?_);replace xv:IsPair qK TO x y:=xv;refine wb (wpAny_letGo (av (av ?_)));refine wb (wpAny_seqItems xv rfl ?_);refine wb (wpAny_newTuple ?_);have hsz:qK.objs.size=s.heap.objs.size:=by exact rl zh.1<|rl zg.1<|rl oI.1<|rl kL.1<|rl fX.1 rfl
 have CJ :∀c o,c≠z->c≠TO->c≠i1->c≠i2->s.heap.get? c=some o->qK.get? c=some o:=λc o c1 c2 c3 c4 e=>zh.extBut _ _ c2 (zg.extBut _ _ c4 (xt c o c1 c2 c3 e));have MT:nv qK z TI TO .ellipsis false:=zh.extBut _ _ D.TOz.symm (zg.extBut _ _ D.i2z.symm (oI.extBut _ _ D.TOz.symm (kL.extBut _ _ D.i1z.symm tj)));have RN:z<qK.objs.size:=cI MT;refine wb ?_;have RO:nv (qK.push {cls:=.type "tuple",data:=.seq #[x,y]}) z TI TO .ellipsis false:=bR _ MT;refine wb (wpAny_setField_rec RO (by simp) λWX Hh MU=>?_);replace Hh:nv WX z TI TO (rawInt qK.objs.size) false:=Hh;refine wpAny_setField_rec Hh (by simp) λKO CK MV=>?_;replace CK:nv KO z TI TO (rawInt qK.objs.size) false:=CK;have up :∀c o,c≠z->qK.get? c=some o->KO.get? c=some o:=λc o c1 e=>MV.extBut _ _ c1 (MU.extBut _ _ c1 (bR _ e));have MW:IsPair KO qK.objs.size x y:=MV.extBut _ _ (Nat.ne_of_gt RN) (MU.extBut _ _ (Nat.ne_of_gt RN) (cC _ rfl));rw[hsz] at CK MW;refine av ⟨_,rfl,?_⟩;refine rl hsz<|hQ KO ⟨CK,up _ _ D.TIz (CJ _ _ D.TIz D.TITO D.TIi1 D.TIi2 OA),⟨x,y,up _ _ D.TOz xv⟩,xr Hd λo e=>up _ o D.i1z (zh.extBut _ _ D.TOi1.symm (zg.extBut _ _ D.i12 (oI.extBut _ _ D.TOi1.symm e))),
  th RM λo e=>up _ o D.i2z (zh.extBut _ _ D.TOi2.symm e),rh w9 λo e=>up _ o D.l1z (CJ _ o D.l1z D.l1TO D.l1i1 D.l1i2 e),kz Al λo e=>up _ o D.l2z (CJ _ o D.l2z D.l2TO D.l2i1 D.l2i2 e)⟩ MW λc o c1 c2 c3 c4 e=>up c o c1 (CJ c o c1 c2 c3 c4 e)
noncomputable def KP (h:Heap)(z TI TO i1 i2 l1 l2:Addr)(xs ys:Array Value)(S:Addr)(i:Nat):Prop:=
 (i=0/\j2 h z TI TO i1 i2 l1 l2 xs ys 0 .none false)\/∃(a:Addr) (fl:Bool) (oa:Obj),j2 h z TI TO i1 i2 l1 l2 xs ys i (rawInt a) fl/\h.get? a=some oa/\S<a
theorem KP.typ (X:KP s.heap z TI TO i1 i2 l1 l2 xs ys S i):s.TypeIs (.ref z) "zip":=by
 rcases X with ⟨_,ae⟩|⟨_,_,_,ae,_⟩ <;> exact⟨_,ae.obj,rfl⟩
theorem j2.keep (X:j2 h z TI TO i1 i2 l1 l2 xs ys k f0 fl)(hk :∀b∈[z,TI,TO,i1,i2,l1,l2],∀o,h.get? b=some o->h'.get? b=some o):j2 h' z TI TO i1 i2 l1 l2 xs ys k f0 fl:=by
 refine cq λG hG=>?_;obtain⟨q1,q2,⟨a,b,q3⟩,q4,q5,q6,q7⟩:=X;refine hG ?_;exact⟨hk _ (by simp) _ q1,hk _ (by simp) _ q2,⟨a,b,hk _ (by simp) _ q3⟩,xr q4 (hk _ (by simp)),th q5 (hk _ (by simp)),rh q6 (hk _ (by simp)),kz q7 (hk _ (by simp))⟩
theorem KP.keep (X:KP h z TI TO i1 i2 l1 l2 xs ys S i)(hS :∀b∈[z,TI,TO,i1,i2,l1,l2],b≠S)(hk :∀b,b≠S->∀o,h.get? b=some o->h'.get? b=some o):KP h' z TI TO i1 i2 l1 l2 xs ys S i:=by
 rcases X with ⟨e,ae⟩|⟨a,fl,oa,ae,ha,hl⟩
 .exact .inl ⟨e,ae.keep λb hb=>hk b (hS b hb)⟩
 .exact .inr ⟨a,fl,oa,ae.keep λb hb=>hk b (hS b hb),hk a (Nat.ne_of_gt hl) _ ha,hl⟩
theorem Hi {x y:Value}{Q:Option Value->Shared->Prop}(D:ZipApart z TI TO i1 i2 l1 l2)(xZ :∀b∈[z,TI,TO,i1,i2,l1,l2],b<S)(hSs:S<s.heap.objs.size)(X:KP s.heap z TI TO i1 i2 l1 l2 xs ys S i)(hx:xs[i]? = some x)(hy:ys[i]? = some y)(hQ :∀h',KP h' z TI TO i1 i2 l1 l2 xs ys S (i+1)->IsPair h' s.heap.objs.size x y->(∀c o,c≠z->c≠TO->c≠i1->c≠i2->s.heap.get? c=some o->h'.get? c=some o)->Q (some (.ref s.heap.objs.size)) {s with heap:=h'}) :
  wpAny (model prog w) A (pyNext (.ref z)) Q E s:=by
 have hT:=X.typ;refine wb (wpAny_attempt (wpAny_callSpecial?_slot (name:=ofString "__next__") hT F.slot_zip_next (fF F.slot_zip_next hT F.entry_zip_next ?_ (F.args_zip_next_1 _))));rcases X with ⟨rfl,ae⟩|⟨a,fl,oa,ae,ha,hl⟩
 .exact He D ae hx hy λh' X' hp hk=>av (hQ h' (.inr ⟨_,_,_,X',hp,hSs⟩) hp hk)
 .have n1 :∀b∈[z,TI,TO,i1,i2,l1,l2],a≠b:=λb hb e=>absurd (xZ b hb) (by lia)
  exact Hc D ae ha (n1 _ (by simp)) hx hy λh' X' hp hk=>av (hQ h' (.inr ⟨a,true,oa,X',hk a _ (n1 _ (by simp)) (n1 _ (by simp)) (n1 _ (by simp)) ha,hl⟩) hp λc o c1 _ c3 c4 e=>hk c o c1 c3 c4 e)
theorem Hj {Q:Option Value->Shared->Prop}(hh:A.handled=none)(D:ZipApart z TI TO i1 i2 l1 l2)(X:KP s.heap z TI TO i1 i2 l1 l2 xs ys S i)(hx:xs[i]? = none)(hi:i≠0)(hQ :∀h',(∀c o,c≠z->c≠i1->c≠i2->s.heap.get? c=some o->h'.get? c=some o)->Q none {s with heap:=h'}):wpAny (model prog w) A (pyNext (.ref z)) Q E s:=by
 have hT:=X.typ;rcases X with ⟨e,_⟩|⟨a,fl,oa,ae,ha,hl⟩
 .exact absurd e hi
 refine wb (wpAny_attempt (wpAny_callSpecial?_slot (name:=ofString "__next__") hT F.slot_zip_next (fF F.slot_zip_next hT F.entry_zip_next (xu hh D ae ha hx λh' e hk he=>?_) (F.args_zip_next_1 _))));obtain⟨o,ho,hc⟩:=he;refine wb (wpAny_isInstance (T:="StopIteration") (b:=true) ⟨o,ho,hc⟩ isSubtype_stop ?_);exact av (hQ _ hk)
noncomputable def iA (h:Heap)(xs ys:Array Value)(S:Addr)(bh:Array Value):Prop:=
 ∀(j:Nat) (v:Value),bh[j]? = some v->∃(a:Addr) (x y:Value),v=.ref a/\S<a/\xs[j]? = some x/\ys[j]? = some y/\IsPair h a x y
theorem iA.keep {bh:Array Value}(P:iA h xs ys S bh)(hk :∀b o,S<b->h.get? b=some o->h'.get? b=some o):iA h' xs ys S bh:=
 λj v e=>let ⟨a,x,y,e1,e2,e3,e4,e5⟩:=P j v e;⟨a,x,y,e1,e2,e3,e4,hk _ _ e2 e5⟩
theorem iA.push {a:Addr}{bh:Array Value}{x y:Value}(P:iA h xs ys S bh)(ha:S<a)(hx:xs[bh.size]? = some x)(hy:ys[bh.size]? = some y)(hp:IsPair h a x y):iA h xs ys S (bh.push (.ref a)):=λj v e=>by
 rw[Array.getElem?_push] at e;by_cases hj:j=bh.size
 .rw[aA hj] at e;injection e with e;subst e;subst hj;exact⟨a,x,y,rfl,ha,hx,hy,hp⟩
 .rw[ax hj] at e;exact P j v e
theorem Hk {R:Result->Shared->Prop}(hh:A.handled=none)(D:ZipApart z TI TO i1 i2 l1 l2)(xZ :∀b∈[z,TI,TO,i1,i2,l1,l2],b<S)(hl:xs.size=ys.size)(h0:xs.size≠0)(hn:xs.size<=1000000)(res:Value){gb:Heap} :
  ∀(k i:Nat) (h:Heap) (tk c:Nat) (bh:Array Value),xs.size - i=k->i<=xs.size->KP h z TI TO i1 i2 l1 l2 xs ys S i->(∀b o,b≠S->b≠z->b≠TO->b≠i1->b≠i2->gb.get? b=some o->h.get? b=some o)->
   h.get? S=some {cls:=.type "list",dict:=none,data:=.seq bh c,slots:=#[]}->bh.size=i->iA h xs ys S bh->
   (∀h' tk bh c,(∀b o,b≠S->b≠z->b≠TO->b≠i1->b≠i2->gb.get? b=some o->h'.get? b=some o)->h'.get? S=some {cls:=.type "list",dict:=none,data:=.seq bh c,slots:=#[]}->bh.size=xs.size->iA h' xs ys S bh->
    R (.ok (.ret res)) {s with heap:=h',toks:=tk})->
   codeAny (model prog w) A (.builtin "list.extend.loop" ⟨[.ref S,.ref z,res],[]⟩) R {s with heap:=h,toks:=tk}:=by
 have hz:=xZ z (by simp);have PV:=xZ TO (by simp);have Kw:=xZ i1 (by simp);have Tw:=xZ i2 (by simp);intro k
 induction k with
 |zero=>
  intro i h tk c bh hk hi X Hl hS sS hP hR;refine codeAny_builtin F.entry_extend_loop ?_;refine rl (Around.under_plainId F.plain_extend_loop _)<|wb (Hj (s:={s with heap:=h,toks:=tk}) (A:=A.in1) hh D X (Array.getElem?_eq_none (Nat.le_of_sub_eq_zero hk)) (UM h0 hk) λh' he=>?_)
  exact av (hR h' tk bh c (λb o b0 b1 b2 b3 b4 e=>he b o b1 b3 b4 (Hl b o b0 b1 b2 b3 b4 e)) (he S _ (Ne.symm (Nat.ne_of_lt hz)) (Ne.symm (Nat.ne_of_lt Kw)) (Ne.symm (Nat.ne_of_lt Tw)) hS) (UL hk hi sS) (hP.keep λb o hb e=>he b o (Nl ‹_› ‹_›) (Nl ‹_› ‹_›) (Nl ‹_› ‹_›) e))
 |succ k ih=>
  intro i h tk c bh hk hi X Hl hS sS hP hR;have eO:i<xs.size:=by exact Nat.lt_of_sub_eq_succ hk
  refine codeAny_builtin F.entry_extend_loop ?_;refine rl (Around.under_plainId F.plain_extend_loop _) ?_;have WY:S<h.objs.size:=cI hS;refine wb (Hi (s:={s with heap:=h,toks:=tk}) (S:=S) (x:=xs[i]) (y:=ys[i]'(hl▸eO)) D xZ WY X (by simp) (by simp) λh' X' hp Tx=>?_);dsimp only at hp Tx ⊢;have Jx:=Tx S _ (by exact Ne.symm (Nat.ne_of_lt hz)) (by exact Ne.symm (Nat.ne_of_lt PV)) (by exact Ne.symm (Nat.ne_of_lt Kw)) (by exact Ne.symm (Nat.ne_of_lt Tw)) hS;have up :∀b o,b≠S->h'.get? b=some o->(h'.update S (Obj.mapSeq (·.push (Value.ref h.objs.size)))).get? b=some o:=λb o hb e=>(Heap.get?_update_other _ _ (Ne.symm hb)).trans e;refine wb ?_;refine wpAny_updateSeq Jx rfl (av ⟨plainId_quiet F.plain_extend_loop _,ih (i+1) _ tk _ (bh.push (Value.ref h.objs.size)) (by exact ZQ hk) eO (X'.keep (λb hb=>Nat.ne_of_lt (xZ b hb)) λb hb o=>up b o hb)
   (λb o b0 b1 b2 b3 b4 e=>up b o b0 (Tx b o b1 b2 b3 b4 (Hl b o b0 b1 b2 b3 b4 e))) (Heap.get?_update_self _ Jx rfl) (rl (Array.size_push ..)<|rl sS rfl) ?_ hR⟩) (rl sS<|bZ (Nat.le_of_lt eO) (bZ hn (by decide))) (by exact rl (Array.size_push ..)<|rl sS<|Nat.succ_le_succ (bZ (Nat.le_of_lt eO) (bZ hn (by decide))))
  subst sS;exact(hP.keep λb o hb e=>up b o (by exact Ne.symm (Nat.ne_of_lt hb)) (Tx b o (Nl ‹_› ‹_›) (Nl ‹_› ‹_›) (Nl ‹_› ‹_›) (Nl ‹_› ‹_›) e)).push WY (by simp[eO]) (by simp[hl▸eO]) (up _ _ (Nat.ne_of_gt WY) hp)
end
noncomputable abbrev PW (h:Heap)(l1:Addr):Heap:=h.push {cls:=.type "list_iterator",data:=.fields #[.ref l1,.int 0 0]}
abbrev RP (h:Heap)(l1 l2:Addr):Heap:=(PW h l1).push {cls:=.type "tuple_iterator",data:=.fields #[.ref l2,.int 0 0]}
abbrev RQ (h:Heap)(l1 l2:Addr):Heap:=(RP h l1 l2).push {cls:=.type "tuple",data:=.seq #[.ref h.objs.size,.ref (PW h l1).objs.size]}
abbrev RR (h:Heap)(l1 l2:Addr):Heap:=(RQ h l1 l2).push {cls:=.type "tuple",data:=.seq #[.none,.none]}
abbrev MX (h:Heap)(l1 l2:Addr):Heap:=(RR h l1 l2).push {cls:=.type "zip",data:=.fields #[.none,.bool false,.bool false,.ref (RP h l1 l2).objs.size,.ref (RQ h l1 l2).objs.size]}
theorem xw (l1 l2:Addr)(xs ys:Array Value) :
  Meets (Builtin.«zip.__new__» ⟨[.type "zip",.ref l1,.ref l2],[]⟩) (λ_ R s=>s.heap.IsList l1 xs/\s.heap.IsTuple l2 ys/\
   R (.ok (.ret (.ref (RR s.heap l1 l2).objs.size))) {s with heap:=MX s.heap l1 l2}):=
 .of_wp λprog w A R s h=>by
  obtain⟨hp,g,d,tk,os⟩:=s;obtain⟨w9,Al,h⟩:=h;have sJ:=sub_zip;have Ry:Heap.IsList (Shared.heap ⟨hp,g,d,tk,os⟩) l1 xs:=w9;have Tu:Heap.IsTuple (Shared.heap ⟨hp.push {cls:=.type "list_iterator",data:=.fields #[.ref l1,.int 0 0]},g,d,tk,os⟩) l2 ys:=kz Al λo e=>bR _ e
  wp_walk using wpAny_pyIter_list Ry,wpAny_pyIter_tuple Tu
  exact⟨_,rfl,h⟩
section
variable {l1 l2:Addr}{xs ys:Array Value}
theorem zi (w9:s.heap.IsList l1 xs)(Al:s.heap.IsTuple l2 ys)(h :∀h',j2 h' (s.heap.objs.size+4) (s.heap.objs.size+2) (s.heap.objs.size+3) s.heap.objs.size (s.heap.objs.size+1) l1 l2 xs ys 0 .none false->h'.objs.size=s.heap.objs.size+5->
   (∀c o,s.heap.get? c=some o->h'.get? c=some o)->Q (.ref (s.heap.objs.size+4)) {s with heap:=h'}) :
  wpAny (model prog w) A (call (.type "zip") [.ref l1,.ref l2]) Q E s:=by
 refine callType_new F.called_zip (by decide) (F.typeCall_zip_2 _ _) (F.newCall_zip_2 _ _) (λobj=>F.args_object_init_3 obj _ _) F.entry_zip_new (xw l1 l2 xs ys) ⟨w9,Al,?_⟩;have z1 :(PW s.heap l1).objs.size=s.heap.objs.size+1:=Heap.size_push ..;have z2 :(RP s.heap l1 l2).objs.size=s.heap.objs.size+2:=by exact rl (Heap.size_push ..)<|rl z1 rfl
 have z3 :(RQ s.heap l1 l2).objs.size=s.heap.objs.size+3:=by exact rl (Heap.size_push ..)<|rl z2 rfl
 have z4 :(RR s.heap l1 l2).objs.size=s.heap.objs.size+4:=by exact rl (Heap.size_push ..)<|rl z3 rfl
 have z5 :(MX s.heap l1 l2).objs.size=s.heap.objs.size+5:=by exact rl (Heap.size_push ..)<|rl z4 rfl
 have Q3 :∀c o,(RR s.heap l1 l2).get? c=some o->(MX s.heap l1 l2).get? c=some o:=λc o=>bR _;have Ti :∀c o,(RQ s.heap l1 l2).get? c=some o->(MX s.heap l1 l2).get? c=some o:=λc o e=>Q3 c o (bR _ e);have YU :∀c o,(RP s.heap l1 l2).get? c=some o->(MX s.heap l1 l2).get? c=some o:=λc o e=>Ti c o (bR _ e);have YV :∀c o,(PW s.heap l1).get? c=some o->(MX s.heap l1 l2).get? c=some o:=λc o e=>YU c o (bR _ e);have up1 :∀c o,s.heap.get? c=some o->(MX s.heap l1 l2).get? c=some o:=λc o e=>YV c o (bR _ e);have g5 :(MX s.heap l1 l2).get? (RR s.heap l1 l2).objs.size=some _:=cC _ rfl;have g4:=Q3 _ _ (cC (RQ s.heap l1 l2) (o:={cls:=.type "tuple",data:=.seq #[.none,.none]}) rfl);have g3:=Ti _ _ (cC (RP s.heap l1 l2) (o:={cls:=.type "tuple",data:=.seq #[.ref s.heap.objs.size,.ref (PW s.heap l1).objs.size]}) rfl);have g2:=YU _ _ (cC (PW s.heap l1) (o:={cls:=.type "tuple_iterator",data:=.fields #[.ref l2,.int 0 0]}) rfl);have g1:=YV _ _ (cC s.heap (o:={cls:=.type "list_iterator",data:=.fields #[.ref l1,.int 0 0]}) rfl);show _/\_;rw[z2,z3,z4] at g5;rw[z1,z2] at g3;rw[z3] at g4;rw[z1] at g2;exact rl z4<|⟨⟨_,g5,rfl⟩,h _ ⟨g5,g3,⟨_,_,g4⟩,⟨_,g1,rfl,rfl⟩,⟨_,g2,rfl,rfl⟩,rh w9 (up1 _),kz Al (up1 _)⟩ z5 up1⟩
theorem Bx:typeLookup (.type "zip") "__len__" = pure none:=by rw[typeLookup_type,builtinLookup_eq_fast];kernel_rfl
theorem zj:typeLookup (.type "zip") "__length_hint__" = pure none:=by rw[typeLookup_type,builtinLookup_eq_fast];kernel_rfl
variable {z TI TO i1 i2:Addr}
theorem Hm (hh:A.handled=none)(D:ZipApart z TI TO i1 i2 l1 l2)(xZ :∀b∈[z,TI,TO,i1,i2,l1,l2],b<S)(hl:xs.size=ys.size)(h0:xs.size≠0)(hn:xs.size<=1000000)(X:j2 s.heap z TI TO i1 i2 l1 l2 xs ys 0 .none false)(hS:s.heap.get? S=some {cls:=.type "list",data:=.seq #[]})(hR :∀h' tk bh c,(∀b o,b≠S->b≠z->b≠TO->b≠i1->b≠i2->s.heap.get? b=some o->h'.get? b=some o)->h'.get? S=some {cls:=.type "list",dict:=none,data:=.seq bh c,slots:=#[]}->bh.size=xs.size->iA h' xs ys S bh->
    R (.ok (.ret .none)) {s with heap:=h',toks:=tk}) :
  wpAny (model prog w) A.in1 (Builtin.«list.__init__» ⟨[.ref S,.ref z],[]⟩)
   (λfin s'=>match fin with |.done f=>R (.ok f) s' |.again c'=>c'.quiet=true/\codeAny (model prog w) A c' R s') (λe s'=>R (.error e) s') s:=by
 have hSz:S≠z:=Ne.symm (Nat.ne_of_lt (xZ z (by simp)));have nS :∀b∈[z,TI,TO,i1,i2,l1,l2],b≠S:=λb hb=>Nat.ne_of_lt (xZ b hb);show wpAny _ _ (do let Jz <- Builtin.List.listItems (.ref S);Builtin.List.listUpdate (.ref S) (λ_=>#[]);letGo Jz.toList.reverse;Builtin.List.listExtendWith (.ref S) (.ref z) .none) _ _ s;refine wb ?_;refine wb (wpAny_seqItems hS rfl (av ?_));refine wb (wpAny_updateSeq hS rfl ?_);have Hn:=Heap.get?_update_self (Obj.mapSeq (λ_=>(#[]:Array Value))) hS rfl;have OB :∀b o,b≠S->s.heap.get? b=some o->(s.heap.update S (Obj.mapSeq (λ_=>(#[]:Array Value)))).get? b=some o:=λb o hb e=>(Heap.get?_update_other _ _ (Ne.symm hb)).trans e;have KQ:=X.keep λb hb o e=>OB b o (nS b hb) e;generalize s.heap.update S (Obj.mapSeq (λ_=>(#[]:Array Value)))=Ho at Hn OB KQ;refine wb (wpAny_letGo ?_);have hT :∀tk,Shared.TypeIs {s with heap:=Ho,toks:=tk} (.ref z) "zip":=λ_=>⟨_,KQ.obj,rfl⟩;refine wb (wpAny_typeOf (T:="zip") (hT _) ?_);have h1:Builtin.List.listSameRef (.ref S) (.ref z)=false:=by simp[Builtin.List.listSameRef,hSz]
 have h2 :(Value.type "zip" == Value.type "list")=false:=by decide
 have h3 :(Value.type "zip" == Value.type "tuple")=false:=by decide
 simp only[h1,h2,h3,Bool.or_false,Bool.false_eq_true,if_false];refine wb (wpAny_pyIter_zip KQ.obj ?_);refine wb (cP ?_);refine wb (wpAny_specialOf (hT _) Bx ?_);refine wb (wpAny_specialOf (hT _) zj ?_);refine av ?_;refine wb (wpAny_rule ?_);refine wb ?_;refine wb (wpAny_updateSeq Hn rfl ?_);have MY:=Heap.get?_update_self (Obj.mapSeq (·.push Value.none)) Hn rfl;refine wpAny_updateSeq (hz:=by seq_fits) MY rfl ?_;have RS:=Heap.get?_update_self (Obj.mapSeq (·.pop)) MY rfl;have Es :∀b o,b≠S->Ho.get? b=some o->((Ho.update S (Obj.mapSeq (·.push Value.none))).update S (Obj.mapSeq (·.pop))).get? b=some o:=λb o hb e=>(Heap.get?_update_other _ _ (Ne.symm hb)).trans ((Heap.get?_update_other _ _ (Ne.symm hb)).trans e);have WZ:=KQ.keep λb hb o e=>Es b o (nS b hb) e;refine av ⟨plainId_quiet F.plain_extend_loop _,Hk (s:=s) (gb:=s.heap) hh D xZ hl h0 hn .none xs.size 0 _ _ _ #[] (Nat.sub_zero _) (Nat.zero_le _) (.inl ⟨rfl,WZ⟩) (λb o hb _ _ _ _ e=>Es b o hb (OB b o hb e)) RS rfl (λj v e=>by simp at e) hR⟩
theorem uE (hh:A.handled=none)(D:ZipApart z TI TO i1 i2 l1 l2)(xZ :∀b∈[z,TI,TO,i1,i2,l1,l2],b<s.heap.objs.size)(hl:xs.size=ys.size)(h0:xs.size≠0)(hn:xs.size<=1000000)(X:j2 s.heap z TI TO i1 i2 l1 l2 xs ys 0 .none false)(hQ :∀h' tk bh c,(∀b o,b≠z->b≠TO->b≠i1->b≠i2->s.heap.get? b=some o->h'.get? b=some o)->h'.get? s.heap.objs.size=some {cls:=.type "list",dict:=none,data:=.seq bh c,slots:=#[]}->bh.size=xs.size->
   iA h' xs ys s.heap.objs.size bh->Q (.ref s.heap.objs.size) {s with heap:=h',toks:=tk}) :
  wpAny (model prog w) A (call (.type "list") [.ref z]) Q E s:=by
 refine callType_codes (Q₁:=λobj fS=>obj=.ref s.heap.objs.size/\fS ={s with heap:=s.heap.push {cls:=.type "list",data:=.seq #[]}}) F.called_list (F.typeCall_list_1 _) F.entry_list_init
  (code_list_new _ ⟨rfl,rfl⟩) λobj fS gb=>?_
 obtain⟨rfl,rfl⟩:=gb;have hS :(s.heap.push {cls:=.type "list",data:=.seq #[]}).get? s.heap.objs.size=some {cls:=.type "list",data:=.seq #[]}:=cC _ rfl;refine⟨⟨_,hS,rfl⟩,F.args_list_init_2 _ _,Hm (A:=A.in1) (xs:=xs) (ys:=ys) hh D xZ hl h0 hn (X.keep λb _ o e=>bR _ e) hS λh' tk bh c hk Jx hz hp=>⟨rfl,hQ h' tk bh c (λb o b1 b2 b3 b4 e=>hk b o (Nat.ne_of_lt (cI e)) b1 b2 b3 b4 (bR _ e)) Jx hz hp⟩⟩
end
noncomputable def CL (xs ys:List V):List V:=List.zipWith (λa b=>V.tup [a,b]) xs ys
def KR (xs ys:List V):Option V:=if xs.length=ys.length/\xs.length≠0/\xs.length<=1000000 then some (.list (CL xs ys)) else .none
def KS (vs:List V)(U:bw):Option V:=match vs with
 |[v,u]=>(items? U v).bind λxs=>u.gZ.bind λys=>KR xs ys
 |_=>.none
def Et (f:ME (List V)):ME V:=f.bind λvs=>λ_ U=>Res.cN (KS vs U) U
section
variable {D:List Addr}
theorem By :∀{xs ys:List V} {mx my ms:List Value},aD Z h xs mx->aD Z h ys my->ms.length=mx.length->
  (∀(j:Nat) (v:Value),ms[j]? = some v->∃(a:Addr) (x y:Value),v=.ref a/\a∉bH Z/\mx[j]? = some x/\my[j]? = some y/\IsPair h a x y)->aD Z h (CL xs ys) ms:=by
 intro xs
 induction xs with
 |nil=>
  intro ys mx my ms r q hl _;obtain rfl:=r.nil_inv;obtain rfl:=List.eq_nil_of_length_eq_zero hl;exact .nil
 |cons x xs ih=>
  intro ys mx my ms r q hl hp;obtain⟨m1,mx,rfl,r1,r2⟩:=r.cons_inv
  cases ms with
  |nil=>injection hl
  |cons m ms=>
  obtain⟨a,u,v,rfl,na,e1,e2,e3⟩:=hp 0 m rfl
  cases ys with
  |nil=>obtain rfl:=q.nil_inv;injection e2
  |cons y ys=>
  refine cq λG hG=>?_;obtain⟨m2,my,rfl,q1,q2⟩:=q.cons_inv;injection e1 with e1;subst e1;injection e2 with e2;subst e2;refine hG ?_;exact .cons (.tup e3 rfl rfl na (.cons r1 (.cons q1 .nil))) (ih r2 q2 (Nat.succ.inj hl) λj w e=>hp (j+1) w e)
theorem Hp {r:V}(e:KS vs U=some r) :∃v u xs ys,vs=[v,u]/\items? U v=some xs/\u.gZ = some ys/\KR xs ys=some r:=by
 match vs,e with
 |[v,u],e=>exact aT (o:=items? U v) e λxs hx e=>aT e λys hy e=>⟨v,u,xs,ys,rfl,hx,hy,e⟩
theorem uF {e1 e2:Expr}{mp:Pos}{f:ME (List V)}(hs:gy n sc [e1,e2] f)(hp:dc qD [e1,e2])(uc:dc pos [.Call (.Name (ofString "zip") np) [e1,e2] [] qD])(he :∀env:Env,starEach [.Call (.Name (ofString "zip") np) [e1,e2] [] qD] env =(false,eval (.Call (.Name (ofString "zip") np) [e1,e2] [] qD) env)::starEach [] env)(hx:sc.names.lookup (ofString "zip")=some .globalImplicit)(h1:nsIn W.K mainGlobals (ofString "zip")=some none)(Ke:sc.names.lookup (ofString "list")=some .globalImplicit)(N6:nsIn W.K mainGlobals (ofString "list")=some none) :
  cm n sc (.Call (.Name (ofString "list") mp) [.Call (.Name (ofString "zip") np) [e1,e2] [] qD] [] pos) (Et f):=by
 intro a ok bJ Z U fr s S F Q E p;subst bJ;refine Call_Name rfl (gD (v:=.type "list") ok S Ke N6 (by decide +kernel) (by decide) rfl ?_);refine PySem.callWith_type (uc _) (c7 (uc _) (args_cons (M:=model W.prog W.w) ?_ (he _)));refine Call_Name rfl (gD (v:=.type "zip") ok S hx h1 (by decide +kernel) (by decide) rfl ?_);refine PySem.callWith_type (hp _) (c7 (hp _) (hs.bind ok rfl S F p λvs bS jn s2 ms S2 F2 x2 r2 p2=>?_));refine b9.opt p2 λrz hz p3=>?_;clear p p2;obtain⟨v,u,xs,ys,rfl,hv,hu,hz⟩:=Hp hz;obtain⟨m,k,rfl,rm,rk⟩:=r2.two;clear r2;refine di hz λhc hr=>?_;injection hr with hr;subst hr;obtain⟨z1,z2,z3⟩:=hc;clear hz F2;obtain⟨b,ik,rfl,lb,qx⟩:=dY S2.heap rm hv;obtain rfl:=V.eP hu;clear hu;obtain⟨l,o,items,kk,rfl,ho,hc,hd,hn,qy⟩:=rk.fV;clear rm rk hv;have lx:xs.length=ik.size:=qx.length.trans eZ;have ly:ys.length=items.size:=qy.length.trans eZ;have hbl:b<s2.heap.objs.size:=let ⟨_,ho,_⟩:=lb;cI ho
 have PU:=cI ho;refine zi lb ⟨o,ho,hc,kk,hd⟩ λh3 X hsz k3=>?_;have D:ZipApart (s2.heap.objs.size+4) (s2.heap.objs.size+2) (s2.heap.objs.size+3) s2.heap.objs.size (s2.heap.objs.size+1) b l:=by constructor <;>(first |exact Nat.ne_of_lt ‹_› |lia)
 refine args_nil ?_;refine uE (s:={s2 with heap:=h3}) ok.hand D (λc hc=>?_) (by lia) (by exact Ne.symm (Eq.mpr_not (aR (Eq 0) (id (Eq.symm lx))) (id (Ne.symm z2)))) (by lia) X λh4 tk bh c k4 hS RT hP=>?_
 .simp only[List.mem_cons,List.not_mem_nil,or_false] at hc
  rw[hsz];rcases hc with rfl |rfl |rfl |rfl |rfl |rfl |rfl <;> lia
 refine cq λG hG=>?_;have k5 :∀b o,s2.heap.get? b=some o->h4.get? b=some o:=λb o e=>k4 b o (by have:=cI e;exact ktu_ne 4 this) (by have:=cI e;exact ktu_ne 3 this) (by have:=cI e;exact Nat.ne_of_lt this) (by have:=cI e;exact ktu_ne 1 this) (k3 b o e);obtain⟨S5,x5⟩:=S2.kept (tk:=tk) k5;have new :∀c,s2.heap.objs.size<=c->c∉bH jn:=λc hc hm=>absurd (S2.heap.lt hm) (Nat.not_lt.mpr hc);refine hG ?_;dsimp only at hP hS RT ⊢;rw[hsz] at hP hS ⊢;refine p3 jn _ S5 x5 _ (.list hS rfl rfl (new _ (by exact Nat.le_add_right s2.heap.objs.size 5)) (By (qx.mono x5) (qy.mono x5) (by simpa using RT) λj v e=>?_));refine cq λG hG=>?_;replace e:=(Array.getElem?_toList).symm.trans e;obtain⟨a,x,y,e1,e2,e3,e4,e5⟩:=hP j v e;refine hG ?_;exact⟨a,x,y,e1,new _ (by lia),by refine(Array.getElem?_toList).trans ?_;exact e3,by refine(Array.getElem?_toList).trans ?_;exact e4,e5⟩
noncomputable def KU (v:V):Option (List V):=match v with
 |.list vs=>some vs.reverse
 |.str cs=>if cs.length<=1000000 then some (cs.reverse.map λc=>V.str [c]) else .none
 |_=>.none
def qP (f:ME V):ME (List V):=f.bind λv=>λ_ U=>Res.cN (KU v) U
theorem vI {ee:Expr}{f:ME V}(hs:gy n sc [ee] (aS [f]))(hp:dc pos [ee])(hx:sc.names.lookup (ofString "reversed")=some .globalImplicit)(h1:nsIn W.K mainGlobals (ofString "reversed")=some none) :
  pd n sc (.Call (.Name (ofString "reversed") np) [ee] [] pos) (qP f):=by
 intro a ok bJ Z U fr s S F Q E p;subst bJ;refine Call_Name rfl (gD (v:=.type "reversed") ok S hx h1 (by decide +kernel) (by decide) rfl ?_);have W0 :(qP f fr U) =((aS [f]) fr U).andThen λvs U=>Res.cN ((lg vs).bind KU) U:=by
  unfold qP aS aS ME.bind ah
  cases f fr U <;> rfl
 rw[W0] at p;refine PySem.callWith_type (hp _) (c7 (hp _) (hs.bind ok rfl S F p λvs bS jn s2 ms S2 F2 x2 r2 p2=>?_))
 cases Bz:lg vs with
 |none=>rw[Bz] at p2;exact p2.elim
 |some v=>
 rw[Bz] at p2;obtain rfl:=iF Bz;obtain⟨m,rfl,r⟩:=r2.one;have vf:=x2.end_none;have eM:=S2.heap.jS;simp only[Option.bind_some] at p2;revert p2;cases r with
 |@list us l o ms k ho hc hd hn r=>
  intro p2;have eO:=cI ho;have hz:us.length=ms.size:=r.length.trans eZ;refine call_reversed_list ⟨o,ho,hc,k,hd⟩ ?_;have x3:cE [] jn s2.heap jn (s2.heap.push (revObj l ((ms.size:Int) - 1))):=cE.push _ _;refine wpAny_pyIter_revIter (l:=l) (i:=(ms.size:Int) - 1) ⟨_,cC _ rfl,rfl,rfl⟩ ?_;refine p2 jn _ (S2.k9 _) x3 s2.heap.objs.size vf eM (.rev (l:=l) (ms:=ms) (us:=us) ⟨_,cC _ rfl,rfl,by exact rl hz rfl⟩ ⟨o,bR _ ho,hc,k,hd⟩ hn (Nat.ne_of_lt eO) ?_ rfl);exact rl hz<|rr eZ<|rl List.take_length<|r.mono x3
 |str cs t=>
  intro p2;unfold KU at p2;dsimp only at p2;by_cases hz:cs.length<=1000000
  .rw[aA hz] at p2
   refine wQ (by show(cs.toArray).size<_;refine rl List.size_toArray ?_;exact q2 ‹_› (by rfl)) λh' hi e=>n9 hi ?_;subst e;have x3:cE [] jn s2.heap jn (s2.heap.push {cls:=.type "reversed",data:=.fields #[.str (cJ cs) t,rawInt (((cJ cs).length:Int) - 1)]}):=cE.push _ _;refine p2 jn _ (S2.k9 _) x3 s2.heap.objs.size vf eM (.sf (cs:=[]) (ds:=cs) (t:=t) ?_ hz rfl);exact rl (List.append_nil ..)<|hi
  .rw[ax hz] at p2;exact p2.elim
 |_=>intro p2;exact p2.elim
end
noncomputable def tm (g:List V->bw->Res V):List V->bw->List V->Res (List V)
 |[],U,bh=>.ok bh U
 |x::xs,U,bh=>match g [x] U with
  |.ok k bB=>tm g xs bB (bh++[k])
  |_=>.stuck
noncomputable def KY:List V->List V->Option Bool
 |[],ys=>some (!ys.isEmpty)
 |_::_,[]=>some false
 |x::xs,y::ys=>if x=y then KY xs ys else RK x y
def vJ (v:V):Option (Int×List V):=v.gZ.bind λl=>match l with
 |x::r=>x.int?.map λi=>(i,r)
 |[]=>.none
def CM (u v:V):Option Bool:=(vJ u).bind λp=>(vJ v).bind λq=>if p.1=q.1/\V.cS p.2=true/\V.cS q.2=true/\V.cv p.2<=64 then KY p.2 q.2 else .none
def RU (ks:List V)(i j:Nat):Option Bool:=(ks[i]?).bind λu=>(ks[j]?).bind λv=>CM u v
noncomputable def OC {Y:Type}(lt:Nat->Nat->Option Bool):KasT Y->Option Y
 |.ret a=>some a
 |.ask i j k=>(lt i j).bind λb=>OC lt (k b)
def lL (ks:List V):Option (List Nat):=
 if ks.length<2 then some (List.range ks.length) else if ks.all (λk=>(vJ k).isSome) then (OC (RU ks) (kas_sort ks.length)).bind λp=>if p.toList.all (λi=>Nat.blt i ks.length) then some p.toList else .none else .none
def tn (g:List V->bw->Res V)(xs:List V)(U:bw):Res V:=if xs.length<64 then (tm g xs U []).andThen λks bS=>Res.cN ((lL ks).map λp=>.list (p.map λi=>xs.getD i .none)) bS else .stuck
def j3 (f:ME V)(g:List V->bw->Res V):ME V:=f.bind λv=>λ_ U=>match items? U v with
 |some xs=>tn g xs U
 |.none=>.stuck
theorem tr {p:Int×List V}(e:vJ v=some p):v=.tup (.int p.1::p.2):=by
 refine aT e λl h1 h2=>?_;obtain rfl:=V.eP h1
 cases l with
 |nil=>injection h2
 |cons x r=>
  refine dh h2 λi h3 z2=>?_;subst z2;obtain rfl:=V.fH h3;rfl
theorem vK {Y:Type}{lt:Nat->Nat->Option Bool}{cmp:Nat->Nat->(Bool->Shared->Prop)->Shared->Prop}{Q:Y->Shared->Prop}{s:Shared}(hc :∀i j b,lt i j=some b->∀C:Bool->Shared->Prop,C b s->cmp i j C s) :
  ∀(t:KasT Y) (p:Y),OC lt t=some p->Q p s->t.kasWp cmp Q s
 |.ret a,p,e,h=>by injection e with e;subst e;exact h
 |.ask i j k,p,e,h=>by
  refine aT e λb h1 h2=>?_;exact hc i j b h1 _ (vK hc (k b) p h2 h)
section
variable {D:List Addr}
theorem OD {c:Bool}{Q:Bool->Shared->Prop}(hu:A.units+71<cLine)(rx:aH Z s.heap x mx)(ry:aH Z s.heap y my)(e:RK x y=some c)(hQ:Q c s) :
  wpAny bQ A (oneLt' false mx my) Q E s:=by
 refine cq λG hG=>?_;refine aT e λxs hx e1=>?_;refine aT e1 λys hy e2=>?_;obtain rfl:=V.eP hx;obtain rfl:=V.eP hy;refine hG ?_;by_cases hc:V.cS xs=true/\V.cS ys=true/\V.cv xs<=64
 .rw[aA hc] at e2
  exact kat_one _ _ (Hb (Nat.lt_of_succ_lt hu) rx ry hc.1 hc.2.1 hc.2.2 e2 hQ)
 .rw[ax hc] at e2;injection e2
theorem OE {c:Bool}{Q:Bool->Shared->Prop} :∀{xs ys:List V} {ms xp:List Value} (i:Nat),aD Z s.heap xs ms->aD Z s.heap ys xp->V.cS xs=true->V.cS ys=true->A.units+V.cv xs+71<cLine->KY xs ys=some c->Q c s->
  KatLex W.prog W.w A b (decide (ms.length<xp.length)) Q (ms.zip xp) (i+1) s:=by
 intro xs
 induction xs with
 |nil=>
  intro ys ms xp i r1 r2 _ _ _ e hQ;refine cq λG hG=>?_;injection e with e;subst e;obtain rfl:=r1.nil_inv;refine hG ?_
  cases ys with
  |nil=>obtain rfl:=r2.nil_inv;exact kat_nil hQ
  |cons y ys=>obtain⟨_,_,rfl,_,_⟩:=r2.cons_inv;exact kat_nil hQ
 |cons x xs ih=>
  intro ys ms xp i r1 r2 px py hu e hQ;obtain⟨m,ms,rfl,rx,rs⟩:=r1.cons_inv
  cases ys with
  |nil=>
   injection e with e;subst e;obtain rfl:=r2.nil_inv;exact kat_nil hQ
  |cons y ys=>
  refine cq λG hG=>?_;obtain⟨m2,xp,rfl,ry,WU⟩:=r2.cons_inv;obtain⟨px,WV⟩:=cK px;obtain⟨py,WW⟩:=cK py;have JA:x.depth<=V.cv (x::xs):=Nat.le_max_left ..;have qX:V.cv xs<=V.cv (x::xs):=Nat.le_max_right ..;refine hG ?_;refine rl List.zip_cons_cons<|kat_cons (nV rx ry px py (Vj hu JA) ?_)
  have W2:decide ((m::ms).length<(m2::xp).length)=decide (ms.length<xp.length):=by simp
  unfold KY at e;by_cases nO:x=y
  .rw[aA nO] at e
   refine rl (bN nO)<|kat_yes ?_
   exact rl W2<|ih (i+1) rs WU WV WW (Z0 ‹_› ‹_›) e hQ
  .rw[ax nO] at e
   refine rl (cH nO)<|kat_no ?_
   exact rl (show(b&&(i+1 == 0))=false by simp)<|OD (by exact Vk hu) rx ry e hQ
theorem BA {c:Bool}(hu:A.units+200<cLine)(ru:aH Z s.heap u mu)(rv:aH Z s.heap v mv)(e:CM u v=some c)(hC:C c s) :
  wpAny bQ A (keyLt' (tuples' true) mu mv) C (λ_ _=>False) s:=by
 refine aT e λq1 hp e1=>?_;obtain⟨i,xs⟩:=q1;clear e;refine aT e1 λq2 hq e=>?_;obtain⟨j,ys⟩:=q2;clear e1;obtain rfl:=tr hp;obtain rfl:=tr hq;dsimp only at e ru rv;by_cases hc:i=j/\V.cS xs=true/\V.cS ys=true/\V.cv xs<=64
 .replace e:=(aA hc).symm.trans e
  refine cq λG hG=>?_;obtain⟨rfl,px,py,hd⟩:=hc;obtain⟨x,ox,ms,nx,rfl,Rn,_,Cx,_,rx⟩:=ru.fV;obtain⟨y,oy,xp,ny,rfl,WI,_,WJ,_,ry⟩:=rv.fV;refine hG ?_;refine kat_lt Rn Cx WI WJ ?_;generalize hm:ms.toList=l at rx;generalize Th:xp.toList=l2 at ry
  cases rx with
  |cons r1 rx=>
  cases ry with
  |cons r2 ry=>
  rw[List.zip_cons_cons];refine kat_cons (nV r1 r2 rfl rfl (by exact Nat.lt_of_add_right_lt hu) ?_);rw[bN rfl];refine kat_yes ?_;rw[<- eZ (xs:=ms),<- eZ (xs:=xp),hm,Th,List.length_cons,List.length_cons,show∀p q:Nat,decide (p+1<q+1)=decide (p<q) from λp q=>by simp];exact OE 0 rx ry px py (by exact Vl hu hd) e hC
 .rw[ax hc] at e;injection e
theorem iV.hide (L:iV l Z h)(k :∀b o,h.get? b=some o->h'.get? b=some o)(hd:h.get? d=none):iV l (Z.hide d) h':=by
 intro e he;obtain⟨kk,L,o,hf,hn,hb,ho,hs⟩:=L e he;refine⟨kk,L,o,hf,λhm=>?_,hb,k _ _ ho,hs⟩;rcases lA.mp hm with z |z
 .rw[z,hd] at ho;injection ho
 .exact hn z
theorem iV.grown (L:iV l Z h)(x:lB d Z h h'):iV l Z h':=by
 intro e he;obtain⟨kk,L,o,hf,hn,hb,ho,hs⟩:=L e he;exact⟨kk,L,o,hf,hn,hb,x.soft ho hs,hs⟩
structure PX (Z:dW)(s0:Shared)(l:List Env)(D kS:Addr)(e1:Nat)(CN:List V)(wz:List Value)(f9:dW)(U:bw)(bh:List V)(s:Shared):Prop where
 hh:f9.eE=kS::D::Z.eE
 S:St f9 U s
 L:iV l f9 s.heap
 xx:cE [] Z s0.heap ((f9.un (D::Z.eE)).un Z.eE) s.heap
 hk :∃ks c,s.heap.get? kS=some (cR "list" (List.toArray ks) c)/\aD f9 s.heap bh ks
 hD:s.heap.get? D=some (cR "list" #[] e1)
 rv:aD f9 s.heap CN wz
theorem Eu {D kS:Addr}{e1:Nat}{CN:List V}{kk:List V->bw->Res β}{E':iN}{body:Value->PUnit->Sem (ForInStep PUnit)}{R:PUnit->Shared->Prop}(hg:aZ n fa g)(room:rR n A l)(Tz:s0.heap.get? kS=none)(JB:kS≠D)(hb :∀x (s:Shared) (C:PUnit->Shared->Prop),wpAny bQ A (call (.ref fa) [x]) (λk s'=>wpAny bQ A (Builtin.List.listUpdate (.ref kS) (·.push k)) C E s') (λ_ _=>False) s->wpAny bQ A (body x ⟨⟩) (λr s'=>r=.yield ⟨⟩/\C ⟨⟩ s') E s) :
  ∀(xs:List V) (vs:List Value) (bh:List V) (U:bw) (f9:dW) (s:Shared),PX Z s0 l D kS e1 CN wz f9 U bh s->aD f9 s.heap xs vs->bh.length+xs.length<64->b9 a Z s0 ((tm g xs U bh).andThen kk) K E'->
   (∀f9 U ks s',PX Z s0 l D kS e1 CN wz f9 U ks s'->b9 a Z s0 (kk ks U) K E'->ks.length=bh.length+xs.length->R ⟨⟩ s')->wpAny bQ A (forIn vs PUnit.unit body) R E s:=by
 intro xs
 induction xs with
 |nil=>
  intro vs bh U f9 s X r _ p fin;obtain rfl:=r.nil_inv;exact rl List.forIn_nil<|av (fin f9 U bh s X p rfl)
 |cons x xs ih=>
  intro vs bh U f9 s X r hz p fin;refine cq λG hG=>?_;obtain⟨m,ms,rfl,r1,r2⟩:=r.cons_inv;refine hG ?_;refine rl (List.forIn_cons ..)<|aY (cA (hb _ s (λ_ s'=>∃k bB bK,PX Z s0 l D kS e1 CN wz bK bB (bh++[k]) s'/\aD bK s'.heap xs ms/\b9 a Z s0 ((tm g xs bB (bh++[k])).andThen kk) K E') (wpAny_call (hg A l room f9 U s [x] _ X.S X.L (.cons r1 .nil) _ ?_))) (λr s' hr=>?_) λ_ _ e=>e)
  .replace p:b9 a Z s0 ((match g [x] U with |.ok k bB=>tm g xs bB (bh++[k]) |_=>.stuck).andThen kk) K E':=p
   cases hr:g [x] U with
   |exc c bB=>rw[hr] at p;exact p.elim
   |stuck=>rw[hr] at p;exact p.elim
   |ok k bB=>
    rw[hr] at p;intro bK s' mv S' x' rk;refine cq λG hG=>?_;obtain⟨ks,c,gk,YW⟩:=X.hk;have YX:bK.eE=kS::D::Z.eE:=x'.eE.trans X.hh;have hm:kS∈f9.eE:=by exact rl X.hh<|eG ..
    have hm':kS∈bK.eE:=by exact rl YX<|eG ..
    have hmD:D∈f9.eE:=by exact rl X.hh<|fE _ (eG ..)
    have W3:=x'.held kS hm _ gk;have gD':=x'.held D hmD _ X.hD;have hl:=YW.length;have PM:ks.length<64:=by exact rr hl<|Nat.lt_of_add_right_lt hz
    have sb:=dP s'.heap kS (Obj.mapSeq (·.push mv));have W4:=get?_update_seq W3 (·.push mv);have gr:lB kS bK s'.heap (s'.heap.update kS (Obj.mapSeq (·.push mv))):=⟨sb,hm',⟨_,W3,rfl,rfl⟩,⟨_,W4,rfl⟩⟩;have rem:=(r2.mono x').eN gr.jQ;have ea :(List.toArray ks).push mv=List.toArray (ks++[mv]):=by simp
    refine hG ?_;refine listUpdate_at W3 rfl ⟨k,bB,bK,⟨YX,St.mk (S'.heap.grown gr) S'.gens S'.os,(X.L.ext x').grown gr,?_,⟨ks++[mv],_,by rw[ea] at W4;exact W4,?_⟩,SameBut.get sb gD' (Ne.symm JB),(X.rv.mono x').eN gr.jQ⟩,rem,p⟩ (by refine rl List.size_toArray<|rl sizeLine_eq ?_;exact q4 ‹_› (by rfl)) (by refine rl (Array.size_push ..)<|rl List.size_toArray<|rl sizeLine_eq ?_;exact q1 ‹_› (by rfl))
    .have e1:=(x'.un X.hh).un (H:=Z.eE) (d:=D) rfl
     exact(X.xx.trans e1).side (λb o dg e=>SameBut.get sb e dg) Tz
    .exact((YW.mono x').eN gr.jQ).append (.cons (rk.eN gr.jQ) .nil)
  .obtain⟨rfl,k,bB,bK,X',r',p'⟩:=hr
   exact ih _ (bh++[k]) bB bK s' X' r' (by refine rl bY<|rl gA ?_;simp only[List.length_cons] at hz;exact yb hz) p' λf9 U ks s' X hp hl=>fin f9 U ks s' X hp (rl hl<|rl bY<|rl gA<|rl List.length_cons<|Nat.succ_add_eq_add_succ bh.length xs.length)
end
section
variable {D kS:Addr}{e1:Nat}{CN:List V}{fP:List Value}{P:PySem.Fin->Shared->Prop}
theorem vL {st:SortSt}(X:PX Z s0 l D kS e1 CN wz f9 U bh s)(TA:s0.heap.get? D=none)(TB:s0.heap.get? kS=none)(JB:kS≠D)(Eg :(arrOf st).map (·.2)=List.toArray fP)(hf:failedOf st=none)(hz:fP.length<64)(hza:bh.length<64)(ro:aD f9 s.heap us fP)(hP :∀bK s',St bK U s'->cE [] Z s0.heap bK s'.heap->aH bK s'.heap (.list us) (.ref D)->P (.done (.ret .none)) s'):wpAny bQ A (ksk_tail D false e1 (.ref kS) st) P E s:=by
 refine cq λG hG=>?_;obtain⟨hh,S,L,xx,⟨ks,c,hk,rk⟩,hD,rv⟩:=X;have hl:=rk.length;have mk:kS∈f9.eE:=by exact rl hh<|eG ..
 have mD:D∈f9.eE:=by exact rl hh<|fE _ (eG ..)
 have s1:=dP s.heap kS (Obj.mapSeq λ_=>(#[]:Array Value));have xd:=get?_update_seq hk λ_=>(#[]:Array Value);have g1:lB kS f9 s.heap _:=⟨s1,mk,⟨_,hk,rfl,rfl⟩,⟨_,xd,rfl⟩⟩;have MM:=SameBut.get s1 hD (Ne.symm JB);refine hG ?_;generalize hH1:s.heap.update kS (Obj.mapSeq λ_=>(#[]:Array Value))=H1 at s1 xd g1 MM;have s2:=dP H1 D (Obj.mapSeq λ_=>List.toArray fP);have Rf:=get?_update_seq MM λ_=>List.toArray fP;have g2:lB D f9 H1 _:=⟨s2,mD,⟨_,MM,rfl,rfl⟩,⟨_,Rf,rfl⟩⟩;refine wb (listUpdate_at hk rfl ?_ (by refine rl List.size_toArray<|rl sizeLine_eq ?_;exact Vz ‹_› ‹_› (by rfl)) (Nat.zero_le _))
 refine rl hH1<|wb (wpAny_letGo ?_)
 refine wb (seqEpoch_at MM rfl ?_);refine wb (listUpdate_at MM rfl ?_ (Nat.zero_le _) (by refine rl (ax (by decide))<|rl Eg<|rl List.size_toArray<|rl sizeLine_eq ?_;exact q4 ‹_› (by rfl)))
 refine rl hf ?_;simp only[bne_self_eq_false,Bool.false_eq_true,if_false,Eg];have S2:=((S.heap.grown g1).grown g2);have Rp :(f9.un (D::Z.eE)).eE=D::Z.eE:=rfl;refine av (hP ((f9.un (D::Z.eE)).un Z.eE) _ (St.mk ((S2.un hh).un Rp) S.gens S.os) ?_ ?_)
 .exact(xx.side (λb o dg e=>SameBut.get s1 e dg) TB).side (λb o dg e=>SameBut.get s2 e dg) TA
 .exact .list Rf rfl rfl (pA (S2.un hh) Rp) ((((ro.eN g1.jQ).eN g2.jQ).un hh).un Rp)
theorem BB :∀{ks:List V} {ms:List Value},aD Z s.heap ks ms->(∀k∈ks,(vJ k).isSome=true)->∃fs,KatTups s.heap ms fs/\fs.length=ms.length/\∀f∈fs,∃i t,f=Value.int i t:=by
 intro ks
 induction ks with
 |nil=>intro ms r _;obtain rfl:=r.nil_inv;exact⟨[],KatTups.nil,rfl,λ_ h=>nomatch h⟩
 |cons k ks ih=>
  intro ms r ht;refine cq λG hG=>?_;obtain⟨m,ms,rfl,r1,r2⟩:=r.cons_inv;obtain⟨fs,h1,h2,h3⟩:=ih r2 λv hv=>ht v (.tail _ hv);obtain⟨p,hp⟩:=Option.isSome_iff_exists.mp (ht k (.head _));obtain rfl:=tr hp;obtain⟨x,o,xs,m,rfl,ho,hc,hd,_,rx⟩:=r1.fV;obtain⟨y,hy,ry⟩:=rx.get 0 _ rfl;obtain⟨t,rfl⟩:=ry.int_inv;rw[Array.getElem?_toList] at hy;refine hG ?_;exact⟨_,KatTups.cons ho hc hd hy h1,aR (· + 1) h2,λf hf=>(b7 hf).elim (λe=>⟨_,_,e⟩) (h3 f)⟩
theorem Hq {ks:List Value}{p:List Nat}(hA:A.units+200<cLine)(X:PX Z s0 l D kS e1 CN wz f9 U bh s)(hk:s.heap.get? kS=some (cR "list" (List.toArray ks) c))(rk:aD f9 s.heap bh ks)(TA:s0.heap.get? D=none)(TB:s0.heap.get? kS=none)(JB:kS≠D)(hl:bh.length=CN.length)(yv:CN.length<64)(hs:lL bh=some p)(hP :∀bK s',St bK U s'->cE [] Z s0.heap bK s'.heap->aH bK s'.heap (.list (p.map λi=>CN.getD i .none)) (.ref D)->P (.done (.ret .none)) s') :
  wpAny bQ A (ksk_end D false wz.toArray e1 (.ref kS) (List.toArray ks)) P E s:=by
 have lk:=rk.length;have lv:=X.rv.length;have TC:ks.length=wz.length:=by lia
 unfold ksk_end;simp only[Bool.false_eq_true,if_false,List.size_toArray];by_cases h2:wz.length<2
 .refine rl (aA h2)<|rl (aA h2)<|cq λG hG=>?_
  replace hs:=(aA (q83 ‹_› ‹_› ‹_›)).symm.trans hs;injection hs with hs;subst hs;refine hG ?_;refine aY (av ?_);refine rl (StateT.run_pure ..)<|wb (av ?_)
  refine vL X TA TB JB (fP:=wz) ?_ rfl (lt_of_eq_of_lt (id (Eq.symm lv)) yv) (lt_of_eq_of_lt hl yv) ?_ hP
  .apply Array.toList_inj.mp
   simp[List.map_snd_zip,TC]
  .have e :(List.range bh.length).map (λi=>CN.getD i .none)=CN:=by
    refine rl hl ?_
    apply List.ext_getElem
    .simp
    .intro i h1 h2
     simp[h2]
   exact rl e<|X.rv
 .refine rl (ax h2)<|rl (ax h2) ?_
  replace hs:=(ax (by lia)).symm.trans hs;by_cases ha:bh.all (λk=>(vJ k).isSome)=true
  .replace hs:=(aA ha).symm.trans hs
   refine cq λG hG=>?_;refine aT hs λOG WK hs=>?_;refine hG ?_;by_cases hb:OG.toList.all (λi=>Nat.blt i bh.length)=true
   .replace hs:=(aA hb).symm.trans hs
    refine cq λG hG=>?_;injection hs with hs;subst hs;obtain⟨fs,hf1,Yn,hf3⟩:=BB rk (List.all_eq_true.mp ha);refine hG ?_;refine wb (kat_kind (T:=.type "int") hf1 (by lia) (λf hf=>by obtain⟨y,t,rfl⟩:=hf3 f hf;exact Looks.of_pure rfl) rfl ?_);refine rl (show(Value.type "int" != Value.type "tuple")=true by decide)<|wb (cA (kat_run (s:=s) (Q:=λxg s'=>s'=s/\OG.size=wz.length/\arrOf xg=OG.map (kas_item (ks.toArray.zip wz.toArray))/\failedOf xg=none) (G:=λp s'=>s'=s/\p=OG)
     TC (Nat.le_of_not_lt h2) (lt_of_eq_of_lt (id (Eq.symm lv)) yv) (λp xg s' a1 a2 a3 a4=>⟨a4.1,a4.2▸a1,a4.2▸a2,a3⟩) ?_) ?_ λ_ _ x=>x)
    .refine rr TC<|rr lk<|vK (lt:=RU bh) (λi j b hb C hC=>?_) _ OG WK ⟨rfl,rfl⟩
     refine cq λG hG=>?_;refine aT hb λu hu hb=>?_;refine aT hb λv hv hb=>?_;obtain⟨mu,eu,ru⟩:=rk.get i u hu;obtain⟨mv,ev,rv⟩:=rk.get j v hv;refine hG ?_;unfold kas_ask;exact rl List.getD_eq_getElem?_getD<|rl List.getD_eq_getElem?_getD<|rl eu<|rl ev<|BA hA ru rv hb hC
    .rintro⟨⟨⟩,xg⟩ s' ⟨rfl,hsz,W5,hf⟩
     have eO :∀i∈OG.toList,i<CN.length:=λi hi=>by
      have:=List.all_eq_true.mp hb i hi;rw[Nat.blt_eq] at this;exact Nat.lt_of_lt_of_eq this hl
     refine vL X TA TB JB (fP:=OG.toList.map λi=>wz.getD i Value.none) (kat_snds TC W5) hf (by refine rl (cL ..)<|rl eZ<|rl hsz ?_;exact Ds yv lv) (Ds yv (id (Eq.symm hl))) (X.rv.y7 _ eO) hP
   .replace hs:=(ax hb).symm.trans hs;injection hs
  .replace hs:=(ax ha).symm.trans hs;injection hs
theorem uG {xs:List V}(ok:b8 (n+1) a)(hg:aZ n fa g)(S:St Z U s)(F:FS a fr Z s.heap)(rv:aH Z s.heap v m)(hx:items? U v=some xs)(p:bt a Z s (tn g xs U) Q E):wpAny bQ a.A (call (.builtin "sorted") [m] [(ofString "key",.ref fa)]) Q E s:=by
 unfold tn at p;by_cases yv:xs.length<64
 case neg=>rw[ax yv] at p;exact p.elim
 refine cq λG hG=>?_;rw[aA yv] at p;obtain⟨b,ik,rfl,lb,q⟩:=dY S.heap rv hx;have hl:=q.length;have hu:=ok.units;have hd:=ok.depth;refine hG ?_;refine call_function_entry_kw kind_sorted plain_sorted entry_sorted (ksk_s1 _ _) ?_;refine wb (m:=checkCount "sorted" 1 1 _) (av ?_);refine wb (collect_list (vs:=ik.toList) (rl Array.toArray_toList<|lb) ?_ (by refine rr hl<|rl sizeLine_eq ?_;exact q4 ‹_› (by rfl)))
 refine wb (wpAny_newList ?_ (by refine rr hl<|rl sizeLine_eq ?_;exact q4 ‹_› (by rfl)))
 have k1 :∀b o,s.heap.get? b=some o->((s.heap.push (cR "list" #[] 0)).update s.heap.objs.size (Obj.mapSeq (·++ik.toList.toArray))).get? b=some o:=λb o e=>
  (Heap.get?_update_other _ _ λz=>absurd (cI e) (by exact rl z<|Nat.lt_irrefl _)).trans (bR _ e)
 generalize (s.heap.push (cR "list" #[] 0)).update s.heap.objs.size (Obj.mapSeq (·++ik.toList.toArray))=h1 at k1 ⊢;have xX :(h1.push (cR "list" ik.toList.toArray 0)).get? h1.objs.size=some (cR "list" ik.toList.toArray 0):=cC _ rfl;have hn:s.heap.get? h1.objs.size=none:=by
  cases z:s.heap.get? h1.objs.size with
  |none=>rfl
  |some o=>exact absurd (cI (k1 _ _ z)) (Nat.lt_irrefl _)
 have k2 :∀b o,s.heap.get? b=some o->(h1.push (cR "list" ik.toList.toArray 0)).get? b=some o:=λb o e=>bR _ (k1 b o e);generalize h1.push (cR "list" ik.toList.toArray 0)=h2 at xX k2;generalize h1.objs.size=D at xX hn;refine wb (cP (wpAny_call_entry_kw slot_list_sort ⟨_,xX,rfl⟩ entry_list_sort ?_ (ksk_l1 _ _)));refine rl (ksk_t1 ..) ?_;have u1:=dP h2 D (Obj.mapSeq λ_=>(#[]:Array Value));have g1:=get?_update_seq xX λ_=>(#[]:Array Value);generalize (if (#[]:Array Value).size == ik.toList.toArray.size then 0 else 0+1:Nat)=e1 at g1;refine wb (listItems_at xX rfl ?_);refine wb (listUpdate_at xX rfl ?_ (by refine rl List.size_toArray<|rr hl<|rl sizeLine_eq ?_;exact q4 ‹_› (by rfl)) (Nat.zero_le _))
 have k3 :∀b o,s.heap.get? b=some o->(h2.update D (Obj.mapSeq λ_=>(#[]:Array Value))).get? b=some o:=λb o e=>(u1.2 b λz=>by rw[z,hn] at e;injection e).trans (k2 b o e);generalize h2.update D (Obj.mapSeq λ_=>(#[]:Array Value))=h3 at g1 k3 ⊢;refine wb (seqEpoch_at g1 rfl ?_);refine wb (wpAny_newTuple ?_ (by refine rr hl<|rl sizeLine_eq ?_;exact q4 ‹_› (by rfl)))
 refine wb (wpAny_newList ?_ (Nat.zero_le _));refine cP ?_;have k4 :∀b o,h3.get? b=some o->(h3.push (cR "tuple" ik.toList.toArray 0)).get? b=some o:=λb o e=>bR _ e;generalize h3.push (cR "tuple" ik.toList.toArray 0)=h4 at k4 ⊢;have TF :(h4.push (cR "list" #[] 0)).get? h4.objs.size=some (cR "list" #[] 0):=cC _ rfl;have k5 :∀b o,h4.get? b=some o->(h4.push (cR "list" #[] 0)).get? b=some o:=λb o e=>bR _ e;have MZ:h4.get? h4.objs.size=none:=iX h4;have W6:h4.get? D=some (cR "list" #[] e1):=k4 _ _ g1;have JB:h4.objs.size≠D:=λz=>by rw[z,W6] at MZ;injection MZ
 generalize h4.objs.size=kS at TF MZ JB ⊢;generalize h4.push (cR "list" #[] 0)=h5 at TF k5 ⊢;have k05 :∀b o,s.heap.get? b=some o->h5.get? b=some o:=λb o e=>k5 b o (k4 b o (k3 b o e));have Tz:s.heap.get? kS=none:=by
  cases z:s.heap.get? kS with
  |none=>rfl
  |some o=>rw[k4 _ _ (k3 _ _ z)] at MZ;injection MZ
 have S4:gO (Z.hide D) U h4:=S.heap.hide (λb o e=>k4 b o (k3 b o e)) hn ⟨_,W6,rfl⟩;have S5:gO ((Z.hide D).hide kS) U h5:=S4.hide k5 MZ ⟨_,TF,rfl⟩;have L5:iV a.l ((Z.hide D).hide kS) h5:=(F.live.hide (λb o e=>k4 b o (k3 b o e)) hn).hide k5 MZ;have r5:aD ((Z.hide D).hide kS) h5 xs ik.toList:=(q.eN (hU.hide (λb o e=>k4 b o (k3 b o e)) hn)).eN (hU.hide k5 MZ);have X:PX Z s a.l D kS e1 xs ik.toList ((Z.hide D).hide kS) U [] {s with heap:=h5}:=⟨rfl,St.mk S5 S.gens S.os,L5,cE.of_keeps (D:=[]) k05,⟨[],0,TF,.nil⟩,k5 _ _ W6,r5⟩;refine wb (wpAny_rule ?_);refine rl (List.forIn_toArray ..) ?_;have room:rR n a.A.in1.in1 a.l:=⟨ok.hand,ok.frames,by exact Nat.le_of_succ_le hd,by exact ZX ‹_›⟩;refine wb (Eu (a:=a) hg room Tz JB (λx s2 C hC=>?_) xs ik.toList [] U _ _ X r5 (by simpa using yv) p λf9 bS ks s2 X2 p2 hlen=>?_)
 .refine wb (wpAny_attempt (cA hC (λk s' hk=>?_) λ_ _ hF=>hF.elim))
  exact wb (cA hk (λ_ uX h=>av ⟨rfl,h⟩) λ_ _ e=>e)
 .obtain⟨kms,c,hk,rk⟩:=id X2.hk
  refine wb (listItems_at hk rfl ?_)
  cases rf:lL ks with
  |none=>rw[rf] at p2;exact p2.elim
  |some pp=>
  rw[rf] at p2;refine Hq (by lia) X2 hk rk hn Tz JB (by simpa using hlen) yv rf λbK s' S' x' r'=>⟨_,rfl,av ⟨_,rfl,?_⟩⟩;exact p2 bK s' S' x' _ r'
theorem uH {e:Expr}{kn:Str}{RV:Pos}{f:ME V}(hs:gy (n+1) sc [e] (aS [f]))(hp :∀env:Env,backTo pos (starEach [e] env) =(false,eval e env)::backTo pos (starEach [] env))(RC:dc pos [e])(hg:aZ n fa g)(hx:sc.names.lookup (ofString "sorted")=some .globalImplicit)(h1:nsIn W.K mainGlobals (ofString "sorted")=some none)(Ke:sc.names.lookup kn=some .globalImplicit)(N6:nsIn W.K mainGlobals kn=some (some (.ref fa)))(hd :(kn ==("__debug__" : Str))=false) :
  cm (n+1) sc (.Call (.Name (ofString "sorted") np) [e] [⟨some (ofString "key"),.Name kn kp,RV⟩] pos) (j3 f g):=by
 intro a ok bJ Z U fr s S F Q E p;refine cq λG hG=>?_;subst bJ;refine hG ?_;refine(show wpAny _ _ (eval (.Name (ofString "sorted") np) a.env >>= λf=>callWith pos f [] (backTo pos (starEach [e] a.env)) (backToKw pos (keywordEach [⟨some (ofString "key"),.Name kn kp,RV⟩] a.env))) Q E s from wb ?_);refine gD (v:=.builtin "sorted") ok S hx h1 (by decide +kernel) (by decide) rfl ?_;have W0 :(j3 f g fr U) =((aS [f]) fr U).andThen λvs U=>match lg vs with |some v=>(match items? U v with |some xs=>tn g xs U |.none=>.stuck) |.none=>.stuck:=by
  unfold j3 aS aS ME.bind ah
  cases f fr U <;> rfl
 rw[W0] at p;refine callWith_kw (hs.bind ok rfl S F p λvs bS jn s2 ms S2 F2 x2 r2 p2=>?_) (hp _) (RC _)
 cases Bz:lg vs with
 |none=>rw[Bz] at p2;exact p2.elim
 |some v=>
 refine cq λG hG=>?_;rw[Bz] at p2;obtain rfl:=iF Bz;obtain⟨m,rfl,r⟩:=r2.one;dsimp only at p2;refine hG ?_
 cases hi:items? bS v with
 |none=>rw[hi] at p2;exact p2.elim
 |some xs=>
 rw[hi] at p2;exact kws_cons (i4 ok S2 Ke N6 hd (kws_nil (uG ok hg S2 F2 r hi p2)))
end
set_option tactic.hygienic true
noncomputable def pE:MS:=λfr U=>.brk fr U
def cZ (fs:List (ME V)):ME V:=(aS fs).bind λvs=>if cD vs.length then ah (.list vs) else ie
def qe (f g:ME V):ME V:=f.bind λa=>g.bind λb=>λ_ U=>match JT a b U with
 |some q=>if cD (q.1.length+q.2.length) then .ok (.list (q.1++q.2)) U else .stuck
 |.none=>.stuck
def BC (f g:ME V):ME V:=f.bind λv=>match v with |.bool b=>if b then ah (.bool true) else g |_=>ie
section
variable {D:List Addr}
theorem pF:jT n sc (.Break pos) pE:=by
 intro a ok bJ Z U fr s S F Q E p;exact wpAny_Break (p Z s S (.refl ..) F)
theorem dm {es:List Expr}(hs:gy n sc es (aS fs)):cm n sc (.List es pos) (cZ fs):=by
 intro a ok bJ Z U fr s S F Q E p;refine List_ (hs.bind ok bJ S F p λvs bS jn s2 ms S2 F2 x2 r2 p2=>?_);dsimp only at p2;by_cases hz:cD vs.length=true
 .rw[aA hz] at p2
  refine cq λG hG=>?_;obtain⟨S3,x3,r3⟩:=S2.yg r2;refine hG ?_;exact wpAny_newObj_type (bt.val p2 S3 x3 r3) (by show ms.toArray.size<=sizeLine;exact rl List.size_toArray<|rr r2.length<|dn hz)
 .rw[ax hz] at p2;exact p2.elim
theorem nz {l r:Expr}{f g:ME V}(hl:cm n sc l f)(hr:cm n sc r g):cm n sc (.BinOp l .Add r pos) (qe f g):=by
 intro a ok bJ Z U fr s S F Q E p;refine wpAny_BinOp (hl.bind ok bJ S F p λx bq cF s1 mv S1 F1 x1 r1 p1=>?_);refine hr.bind ok bJ S1 F1 p1 λy bS jn s2 Mw S2 F2 x2 r2 p2=>?_;dsimp only at p2
 cases hq:JT x y bS with
 |none=>rw[hq] at p2;exact p2.elim
 |some q=>
 refine cq λG hG=>?_;rw[hq] at p2;dsimp only at p2;refine aT hq λxs ex hq=>?_;refine dh hq λys ey z2=>?_;subst z2;refine hG ?_;by_cases hz:cD (xs.length+ys.length)=true
 case neg=>rw[ax hz] at p2;exact p2.elim
 refine cq λG hG=>?_;rw[aA hz] at p2;obtain⟨b1,m1,rfl,l1,q1⟩:=dY S2.heap (r1.mono x2) ex;obtain⟨b2,m2,rfl,l2,q2⟩:=dY S2.heap r2 ey;obtain⟨⟨cls,dd,data,sl⟩,ho,hc,k,hd⟩:=l1;obtain⟨⟨QH,FX,data2,FY⟩,wJ,xU,k2,qX⟩:=l2;simp only at hc hd xU qX;subst hc hd xU qX;have lx:=q1.length;have ly:=q2.length;obtain⟨S3,x3,r3⟩:=S2.yg (q1.append q2);have e :(m1++m2) =(m1.toList++m2.toList).toArray:=by simp
 refine hG ?_;refine concat_meets ⟨_,ho,rfl⟩ ⟨_,wJ,rfl⟩ noFill_list_add seq_list_add PySem.F.slot_list_add PySem.F.entry_list_add (PySem.F.args_list_add_2 _ _)
  (list_addW b1 b2 m1 m2 k k2 dd FX sl FY (rr eZ<|rr eZ<|rr lx<|rr ly<|dn hz)) ⟨ho,wJ,?_⟩
 exact rl e<|bt.val p2 S3 x3 r3
theorem Ew {x y:Expr}{f g:ME V}(hf:cm n sc x f)(hg:cm n sc y g):cm n sc (.BoolOp .Or [x,y] pos) (BC f g):=by
 intro a ok bJ Z U fr s S F Q E p;refine BoolOp_or (hf.bind ok bJ S F p λv bq cF s1 mv S1 F1 x1 r1 p1=>?_);refine cq λG hG=>?_
 cases v <;> first |exact p1.elim |skip
 rename_i b
 cases r1;refine hG ?_;refine wpAny_truthy_bool ?_
 cases b with
 |true=>exact bt.val p1 S1 (.refl ..) (.bool true)
 |false=>exact BoolOp_one (hg a ok bJ cF bq fr s1 S1 F1 Q E p1)
end
noncomputable def closed (U:bw):Prop:=∀o∈U,oB U.length o=true
section
theorem vM (r:aD Z h vs ms):V.iJ Z.objs.length vs=true:=
 aD.rec (motive_1:=λv m _=>V.iI Z.objs.length v=true) (motive_2:=λvs ms _=>V.iJ Z.objs.length vs=true)
  rfl (λ_=>rfl) (λ_ _=>rfl) (λ_ _=>rfl) (λe=>Nat.ble_eq_true_of_le (List.getElem?_eq_some_iff.mp e).1) (λ_ _ _ _ _ ih=>ih) (λ_ _ _ _ _ ih=>ih) rfl (λ_ _ a b=>fD ⟨a,b⟩) r
theorem lM (r:aH Z h v m):V.iI Z.objs.length v=true:=(cK (vM (.cons r .nil))).1
theorem gV {Y β:Type}{R:Y->β->Prop}{n:Nat}(f:Y->V)(hR :∀a b,R a b->V.iI n (f a)=true) :∀{as:List Y} {bs:List β},d8 R as bs->V.iJ n (as.map f)=true
 |_,_,.nil=>rfl
 |_,_,.cons r rs=>fD ⟨hR _ _ r,gV f hR rs⟩
theorem gO.closed (S:gO Z U h):closed U:=by
 intro o ho;refine rr S.len ?_;obtain⟨i,hi⟩:=List.mem_iff_getElem?.mp ho;obtain⟨p,hp⟩ :∃p,Z.objs[i]? = some p:=⟨Z.objs[i]'(S.len▸(List.getElem?_eq_some_iff.mp hi).1),List.getElem?_eq_getElem _⟩;have r:=S.objs i o p hi hp
 cases o with
 |list vs=>obtain⟨_,ms,k,_,r⟩:=r;exact vM r
 |dict kd ay=>
  obtain⟨_,r⟩:=r
  cases kd with
  |int=>obtain⟨ks,_,al⟩:=r;exact fD ⟨gV _ (λa b q=>by exact rl q.1 rfl) al,gV _ (λa b q=>lM q.2) al⟩
  |str=>obtain⟨ks,_,al⟩:=r;exact fD ⟨gV _ (λa b q=>by obtain⟨⟨x,e,_⟩,_⟩:=q;exact rl e rfl) al,gV _ (λa b q=>lM q.2) al⟩
  |tup=>obtain⟨ks,_,al⟩:=r;exact fD ⟨gV _ (λa b q=>by exact rl q.1.1<|lM q.1.2) al,gV _ (λa b q=>lM q.2) al⟩
 |inst c fs=>obtain⟨_,ks,_,al⟩:=r;exact gV (λkv:Nat×V=>kv.2) (λa b q=>lM q.2) al
end
open Classical in
theorem aZ.OH {f:Addr}{g':List V->bw->Res V}(hg:aZ n f g)(hd :∀vs U,closed U->vF U.length (g vs U) (g' vs U)):aZ n f g':=by
 intro A l room Z U s vs ms S L r R p;have hg':aZ n f (λjM bB=>if jM=vs/\bB=U then g' jM bB else g jM bB):=hg.drops λjM bB=>by
  by_cases hq:jM=vs/\bB=U
  .exact rl (aA hq)<|hd _ _ (hq.2▸S.heap.closed)
  .exact rl (ax hq)<|.same
 exact hg' A l room Z U s vs ms S L r R (by simp only[and_self,if_true];exact p)
set_option tactic.hygienic false
noncomputable def jJ {Y:Type}(f:V->Option Y):List V->Option (List Y)
 |[]=>some []
 |v::vs=>(f v).bind λa=>(jJ f vs).map (a::·)
noncomputable def gP:Nat->bw->Nat->V->Option V
 |0,_,_,_=>.none
 |f+1,U,n,v=>match v with
  |.tup us=>(jJ (gP f U n) us).map .tup
  |.list us=>(jJ (gP f U n) us).map .list
  |.ref i=>if Nat.blt i n then some (.ref i) else match U[i]? with
   |some (.list us)=>(jJ (gP f U n) us).map .list
   |_=>.none
  |v=>some v
theorem xy {g:V->Option V}(hg :∀v v' vs jM,g v=some v'->xj U n vs jM->xj U n (v::vs) (v'::jM)) :∀{vs jM:List V},jJ g vs=some jM->xj U n vs jM:=by
 intro y
 induction y with
 |nil=>
  intro _ e;injection e with e;subst e;exact .nil
 |cons v vs ih=>
  intro _ e;refine aT e λa h1 e=>?_;refine dh e λr h2 z2=>?_;subst z2;exact hg _ _ _ _ h1 (ih h2)
theorem KZ :∀(f:Nat) (v v':V) (vs jM:List V),gP f U n v=some v'->xj U n vs jM->xj U n (v::vs) (v'::jM):=by
 intro y
 induction y with
 |zero=>
  intro _ _ _ _ e _;exact nomatch e
 |succ f ih=>
  intro v v' vs jM e r;revert e;cases v with
  |tup us=>intro e;obtain⟨Fu,h,rfl⟩:=Option.map_eq_some_iff.mp e;exact .tup (xy (ih) h) r
  |list us=>intro e;obtain⟨Fu,h,rfl⟩:=Option.map_eq_some_iff.mp e;exact .list (xy (ih) h) r
  |ref i=>
   intro e;replace e :(if Nat.blt i n then some (V.ref i) else match U[i]? with |some (.list us)=>(jJ (gP f U n) us).map .list |_=>.none)=some v':=e
   by_cases hi:Nat.blt i n=true
   .replace e:=(aA hi).symm.trans e;injection e with e;subst e;exact .same hi r
   .replace e:=(ax hi).symm.trans e
    cases hs:U[i]? with
    |none=>rw[hs] at e;injection e
    |some o=>
     rw[hs] at e;revert e;cases o with
     |list us=>
      intro e;refine dh e λFu h z1=>?_;subst z1;exact .cut hs (Nat.le_of_not_lt λq=>hi (Nat.blt_eq.mpr q)) (xy (ih) h) r
     |_=>intro e;injection e
  |_=>intro e;injection e with e;subst e;exact .same rfl r
open Classical in
def uI (U:bw)(r:Res V):Res V:=match r with
 |.ok v bq=>match gP 40 bq U.length v with
  |some v'=>if closed U->∀o∈bq.take U.length,oB U.length o=true then .ok v' (bq.take U.length) else .ok v bq
  |.none=>.ok v bq
 |r=>r
theorem Ex {r:Res V}(hc:closed U):vF U.length r (uI U r):=by
 unfold uI
 cases r with
 |ok v bq=>
  dsimp only
  cases hf:gP 40 bq U.length v with
  |none=>exact .same
  |some v'=>
   dsimp only;by_cases hq:closed U->∀o∈bq.take U.length,oB U.length o=true
   .exact rl (aA hq)<|.cut U.length rfl (Nat.le_refl _) (hq hc) (KZ 40 v v' [] [] hf .nil)
   .exact rl (ax hq)<|.same
 |_=>exact .same
theorem Hr (hf:gP 40 bq U.length v=some v')(hq:closed U->∀o∈bq.take U.length,oB U.length o=true):uI U (.ok v bq)=.ok v' (bq.take U.length):=by
 unfold uI;simp only[hf];exact aA hq
theorem tv (hf:gP 40 (U++J) U.length v=some v'):uI U (.ok v (U++J))=.ok v' U:=by
 refine(Hr hf (rl List.take_left<|id)).trans ?_;exact rl List.take_left rfl
def tw (ps:List Nat)(m:MS)(vs:List V)(U:bw):Res V:=uI U (cx ps m vs U)
theorem aZ.cut {f:Addr}{ps:List Nat}{m:MS}(h:aZ n f (cx ps m)):aZ n f (tw ps m):=h.OH λ_ _ hc=>Ex hc
section
open PySem.Calls
noncomputable abbrev zk:Arguments:=⟨[],[],none,[],[],none,[]⟩
section
theorem zl (S:St Z U s)(L:iV l Z s.heap)(room:rR (n+1) A l){m:Str->Option Value}{tk:Nat}(Gk:h1.Ns s.heap.objs.size m)(rf:Heap.SameBut s.heap.objs.size (s.heap.push {cls:=.type "frame",data:=.dict #[]}) h1)(e1:env.locals=s.heap.objs.size)(e2:env.frame=some env.locals)(hk:env.scope.kind=.function)(e4:env.globals=mainGlobals)(e5:env.builtins=builtinsNs)(nh :∀x c,(x,c)∈env.cells->c∉bH Z/\W.h₀.get? c=none/\∃v,s.heap.IsCell c v)(CB:env.cells.Pairwise λx y=>x.2≠y.2)(Aj :∀x,env.scope.names.lookup x≠some .cell)(hv :∀i v,cG.lookup i=some v->i<W.nN/\env.kindOf (W.nm i)=some .free/\∃c mv,env.cells.lookup (W.nm i)=some c/\s.heap.IsCell c (some mv)/\aH Z s.heap v mv) :
  b8 n ⟨A.deeper env,env,env::l⟩/\St Z U {s with heap:=h1,toks:=tk}/\cE [] Z s.heap Z h1/\FS ⟨A.deeper env,env,env::l⟩ cG Z h1/\(∀b o,s.heap.get? b=some o->h1.get? b=some o)/\s.heap.get? env.locals=none:=by
 refine cq λG hG=>?_;have xd :∀b o,s.heap.get? b=some o->h1.get? b=some o:=λb o e=>rf.extBut b o (Nat.ne_of_lt (cI e)) (bR _ e);have Jv:s.heap.get? env.locals=none:=by exact rl e1<|iX _
 obtain⟨S1,x1⟩:=S.kept (tk:=tk) xd;have nL:env.locals∉bH Z/\W.h₀.get? env.locals=none:=by
  refine⟨λhm=>?_,?_⟩
  .obtain⟨ob,e,_⟩:=S.heap.gK hm;replace e:=Jv.symm.trans e;injection e
  .cases z:W.h₀.get? env.locals with
   |none=>rfl
   |some o=>have:=S.heap.base _ _ z;replace this:=Jv.symm.trans this;injection this
 obtain⟨oL,eL,qL⟩:=Ns.soft Gk;have lu :∀{c:Addr} {v:Option Value},s.heap.IsCell c v->h1.IsCell c v:=λ{c v} ⟨o,ho,hd⟩=>⟨o,xd _ _ ho,hd⟩;refine hG ?_;refine⟨⟨⟨room.hand,Around.frames_deeper room.frames,?_,?_⟩,⟨env,l,env.locals,rfl,e2,e2⟩,hk,e4,e5⟩,S1,x1,⟨λe he=>?_,⟨m,by exact rl e1<|Gk,λi v ei=>?_⟩,nL.1,nL.2,λx c hx=>?_,CB,λx hx=>absurd hx (Aj x)⟩,xd,Jv⟩
 .have:=room.depth;show A.depth+1+n<=990;exact Qp ‹_›
 .have:=room.units;show A.units+3+40 * n+400<=cLine;exact Ni ‹_›
 .rcases b7 he with rfl |he
  .exact⟨by refine rl hk ?_;decide,e.locals,oL,e2,nL.1,nL.2,by exact rl e1<|eL,qL⟩
  .obtain⟨k,L',o,hf,hn,hb,ho,hs⟩:=L e he
   exact⟨k,L',o,hf,hn,hb,xd _ _ ho,hs⟩
 .obtain⟨N6,h2',c,mv,h3',h4',h5'⟩:=hv i v ei
  refine⟨N6,?_⟩;unfold iD;exact rl h2'<|⟨c,mv,h3',lu h4',h5'.mono x1⟩
 .obtain⟨q1,q2,v,q3⟩:=nh x c hx
  exact⟨q1,q2,v,lu q3⟩
theorem Hs {body:Expr}{c P:Addr}(ok:b8 n a)(S:St Z U s)(F:FS a fr Z s.heap)(vN:a.env.code=.ref c)(C:CodeHd s.heap c P)(hP:s.heap.get? P=some (tabObj ps))(ht:TriplesOk ps.toList)(MI:codeAmong pos ps.toList=none)(TG:W.h₀.get? P=none)(HB:W.h₀.BuiltinsAt W.mg P)(yI :∀x∈jO.names,x.2=.free->a.env.scope.names.lookup x.1=some .cell)(h :∀c' OI tk H1 x7,H1.get? x7=some (kla_obj "<lambda>" (a.env.qual++"<lambda>") zk body jO (jX a.env.cells jO.names []) ((W.mg "__name__").getD .none) c' OI)->H1.CodeRec (.ref c') (a.env.qual++"<lambda>")->H1.get? P=some (tabObj (ps++#[rawInt pos.line,rawInt pos.col,.ref c']))->CodeHd H1 c P->
   St Z U {s with heap:=H1,toks:=tk}->FS a fr Z H1->gp P s.heap H1->Q (.ref x7) {s with heap:=H1,toks:=tk}) :
  wpAny bQ a.A (eval (.Lambda zk body jO pos) a.env) Q E s:=by
 have hg:=S.heap.ok.T.g.keeps S.heap.base;have hgP:mainGlobals≠P:=λq=>by
  obtain⟨o,_,_,e,_⟩:=S.heap.ok.T.g;rw[q] at e;replace e:=TG.symm.trans e;injection e
 have hb:s.heap.BuiltinsAt W.mg P:=by
  obtain⟨bm,o,b1,b2,b3,b4,b5,b6⟩:=HB;exact⟨bm,o,b1,b2,b3,b4,S.heap.base _ _ b5,b6⟩
 refine kla_eval rfl (kla_makeFunction (mg:=W.mg) (jF λx hx hk=>F.laid _ (yI x hx hk)) ok.glob hg vN C hP ht MI hgP hb λc' OI h1 tk hx hge eO Ht htb=>?_);refine cq λG hG=>?_;have sd:gp P s.heap (h1.push (kla_obj "<lambda>" (a.env.qual++"<lambda>") zk body jO (jX a.env.cells jO.names []) ((W.mg "__name__").getD .none) c' OI)):=
  ⟨λb o hb e=>bR _ (hx b o hb e),_,hP,rfl,by simp,by simp,by simp,λc=>by simp⟩
 obtain⟨o,vs,Hu,tf,zm,tg,RW,Hv,tt,q1,q2,q3,q4,q5,q6,q7,q8,q9,YY⟩:=C;obtain⟨c2,oc,vc,tq,r1,r2,r3⟩:=Ht;refine hG ?_;exact h c' OI tk _ _ (cC _ rfl) ⟨c2,oc,vc,tq,r1,bR _ r2,r3⟩ (bR _ htb) ⟨o,vs,Hu,tf,zm,tg,RW,Hv,tt,sd.same _ _ YY q1,q2,q3,q4,q5,q6,q7,q8,q9,YY⟩
  (S.side sd TG) (F.side sd) sd
theorem Hw {body:Expr}{qual:Str}{Hx:List (Str×Addr)}{pm OI:Value}{c' x7:Addr}(room:rR (n+1) A l)(S:St Z U s)(L:iV l Z s.heap)(hl:s.heap.get? x7=some (kla_obj "<lambda>" qual zk body jO Hx pm c' OI))(Ht:s.heap.CodeRec (.ref c') qual)(W7:jO.isCoroutine=false)(OJ:jO.isGenerator=false)(hk:jO.kind=.function)(Aj :∀x∈jO.names,x.2≠.cell)(OK :∀x,jO.names.lookup x≠some .cell)(nh :∀x c,(x,c)∈Hx->c∉bH Z/\W.h₀.get? c=none/\∃v,s.heap.IsCell c v)(CB:Hx.Pairwise λx y=>x.2≠y.2)(hv :∀i v,cG.lookup i=some v->i<W.nN/\jO.names.lookup (W.nm i)=some .free/\∃c mv,Hx.lookup (W.nm i)=some c/\s.heap.IsCell c (some mv)/\aH Z s.heap v mv)(hE:cm n jO body fe)(he:fe cG U=.exc c bB)(hR :∀bK s' e B,p6 l c bK bB s' e B->gX [] (nW l) Z s.heap bK B s'.heap->R (.error (.ref e)) s'):codeAny bQ A (.call (.ref x7) ⟨[],[]⟩) R s:=by
 refine kla_callFunE (by have:=room.depth;exact Nj this) hl rfl W7 OJ rfl Ht ?_;refine wpAny_of_eq (a:=[]) rfl ?_;refine wpAny_newFunctionEnv Aj (λx hx=>nomatch hx) (λh1 Gk rf=>⟨(S.heap.ok.T.nolimit.keeps S.heap.base).fresh _ rf,?_⟩) hk;refine cq λG hG=>?_;obtain⟨ok2,S2,x2,F2,k2,n2⟩:=zl (n:=n) (A:=A) (l:=l) (env:=newEnv jO s.heap.objs.size mainGlobals Hx (qual++".<locals>.") (some x7) (.ref c') none builtinsNs) (cG:=cG) (tk:=s.toks+([]:List (Str×Value)).length) S L room Gk rf rfl rfl hk rfl rfl nh CB OK hv;refine hG ?_;refine kla_codeExpr (hE ⟨_,_,_⟩ ok2 rfl Z U cG _ S2 F2 _ _ ?_);refine rl he ?_;intro bK s' e B T x;refine yJ (Around.frames_deeper room.frames) rfl (.inl T) λh' T' st up=>hR bK _ e B T' ?_;refine((x.pre x2).up up st).drop λb o e=>⟨λhm=>(nomatch hm),?_⟩;unfold nW;refine rl List.filterMap_cons ?_;simp only[newEnv,List.mem_cons];exact⟨λz=>z.elim (λy=>by rw[y] at e;exact absurd (cI e) (Nat.lt_irrefl _)) id,.inr⟩
variable {nm qn:Str}{N:Addr}{bs bm:List Value}{sn:List Str}{sub:List Value}{ab:Bool}{k0 k1 k2 k3 k5:Option Value}
theorem BD {fR x7:Addr}{ask xL:Str}{q1 q2 q3 q4 q5 q6 q7 q8:Pos}{jR:List Stmt}(hf:W.K.lookup fR=some o)(hd:o.data=.func fd)(e1:fd.body=.stmts (.Try [.Expr (.Call (.Name ask q1) [] [] q2) q3] [.ExceptHandler (some (.Name xL q4)) none [.Return (some (.Constant (.bool true) kk q5)) q6] q7] [] [] q8::jR))(e2:fd.scope=sc)(e4:fd.globals=mainGlobals)(e5:fd.closure=[])(e6:fd.builtins=builtinsNs)(e9:codeIn W.K fd.code fd.qualname=true)(hb :∀(M:Model) (A:Around) (Q:List (Str×Value)->Shared->Prop) (E:iN) (s:Shared),Q [(ask,.ref x7)] s->wpAny M A (bindArgs fd ⟨[.ref x7],[]⟩) Q E s)(W7:sc.isCoroutine=false)(OJ:sc.isGenerator=false)(hk:sc.kind=.function)(Aj :∀x∈sc.names,x.2≠.cell)(OK :∀x,sc.names.lookup x≠some .cell)(y4:sc.names.lookup ask=some .local)(hx:sc.names.lookup xL=some .globalImplicit)(eL:nsIn W.K mainGlobals xL=some (some (.ref (W.cls c))))(hdL :(xL ==("__debug__" : Str))=false)(hdA :(ask ==("__debug__" : Str))=false)(VZ :∀env:Env,swapsWith (.Call (.Name ask q1) [] [] q2) none q3.line env=pure false)(hK:W.K.lookup (W.cls c)=some (excClassObj nm qn (W.cls c) N bs bm Ng sn sub ab col dd k0 k1 k2 k3 k5 Fz))(mJ:bm.contains (.type "BaseException")=true)(room:rR (n+2) A l)(S:St Z U s)(L:iV l Z s.heap){ol:Obj}{fl:FuncData}(xZ:s.heap.get? x7=some ol)(hld:ol.data=.func fl)(K5 :∀(A':Around) (l':List Env) (s1:Shared) (R:Result->Shared->Prop),rR (n+1) A' l'->St Z U s1->iV l' Z s1.heap->(∀b o,s.heap.get? b=some o->s1.heap.get? b=some o)->
   (∀bK s' e B,p6 l' c bK bB s' e B->gX [] (nW l') Z s1.heap bK B s'.heap->R (.error (.ref e)) s')->codeAny bQ A' (.call (.ref x7) ⟨[],[]⟩) R s1)(hR :∀bK s',St bK bB s'->cE [] Z s.heap bK s'.heap->R (.ok (.ret (.bool true))) s'):codeAny bQ A (.call (.ref fR) ⟨[.ref x7],[]⟩) R s:=by
 have X:=S.heap.ok.X.keeps S.heap.base;refine codeAny_call_function (by have:=room.depth;show A.depth<1000;exact Nj this) (X _ _ hf) hd (rl e2<|W7) (rl e2<|OJ) e1 (codeRec_of X e9) ?_
 refine rl e5<|hb _ _ _ _ _ ?_
 refine wpAny_newFunctionEnv (rl e2<|Aj) (λx hx=>?_) (λh1 Gk rf=>⟨(S.heap.ok.T.nolimit.keeps S.heap.base).fresh _ rf,?_⟩) (rl e2<|hk)
 .exact rl (dM hx)<|rl e2<|y4
 refine cq λG hG=>?_;obtain⟨TH,S1,x1,F1,YZ,n1⟩:=zl (n:=n+1) (A:=A) (l:=l) (env:=newEnv fd.scope s.heap.objs.size fd.globals [] (fd.qualname++".<locals>.") (some fR) fd.code none fd.builtins) (cG:=[]) (tk:=s.toks + [(ask,Value.ref x7)].length) S L room Gk rf rfl rfl
  (by show fd.scope.kind=_;exact rl e2<|hk) e4 e6 (λx c hx=>nomatch hx) .nil (λx=>by show fd.scope.names.lookup x≠_;exact rl e2<|OK x) (λi v e=>nomatch e)
 have bJ :(newEnv fd.scope s.heap.objs.size fd.globals [] (fd.qualname++".<locals>.") (some fR) fd.code none fd.builtins).scope=sc:=e2;have Kn :(newEnv fd.scope s.heap.objs.size fd.globals [] (fd.qualname++".<locals>.") (some fR) fd.code none fd.builtins).locals=s.heap.objs.size:=rfl;have qZ :(newEnv fd.scope s.heap.objs.size fd.globals [] (fd.qualname++".<locals>.") (some fR) fd.code none fd.builtins).cells=[]:=rfl;have g9 :(newEnv fd.scope s.heap.objs.size fd.globals [] (fd.qualname++".<locals>.") (some fR) fd.code none fd.builtins).frame=some s.heap.objs.size:=rfl;refine hG ?_;generalize newEnv fd.scope s.heap.objs.size fd.globals [] (fd.qualname++".<locals>.") (some fR) fd.code none fd.builtins=env at TH F1 n1 bJ Kn qZ g9 ⊢;have newD :∀b o,s.heap.get? b=some o->b∉Act.D ⟨A.deeper env,env,env::l⟩:=λb o e hm=>by
  rw[Act.D,qZ,List.map_nil,List.mem_singleton] at hm;rw[hm] at e;replace e:=n1.symm.trans e;injection e
 refine codeAny_func (wpAny_execs_cons (GD (a:=⟨A.deeper env,env,env::l⟩) (Z:=Z) (r:=.exc c [] bB) TH (λQ E p=>wpAny_execs_cons (wpAny_Expr ?_ (vh TH) (VZ _))) uq (by show env.scope.names.lookup xL=_;exact rl bJ<|hx) eL hdL hK mJ ?_))
 .refine Call_Name0 (wpAny_Name (wpAny_loadName_local (rl bJ<|hk) (by refine(?_:env.scope.names.lookup ask=_);exact rl bJ<|y4) (m:=λx=>[(ask,Value.ref x7)].reverse.lookup x) (rl Kn<|Gk) (v:=.ref x7) (by refine List.lookup_cons.trans ?_;exact rl (beq_self_eq_true ..) rfl) ?_) hdA)
  refine Calls.callWith_function (evalArgs_empty ⟨⟨YZ _ _ xZ,hld⟩,?_⟩);refine wpAny_call (K5 _ _ _ _ TH.torR S1 F1.live YZ λbK s' e B T x=>?_);exact p bK s' e B (.inl (.inl T)) x.of0 (F1.ext (x.ext T.2.2.1))
 .unfold Kp
  dsimp only;refine rl (aA rfl) ?_;intro bK s' mv S' x' r';refine cq λG hG=>?_
  cases r';refine hG ?_;exact hR bK s' S' ((x1.of0.trans x').drop λb o e hm=>absurd hm (newD b o e))
end
end
theorem aZ.le {m:Nat}{f:Addr}(h:aZ m f g)(hl:m<=n):aZ n f g:=
 λA l r=>h A l ⟨r.hand,r.frames,by have:=r.depth;exact ZY ‹_› ‹_›,by have:=r.units;exact UW hl this⟩
section
theorem Hy {xs:List Str}{ys:List Y} :∀{x:Str},x∈xs->xs.length=ys.length->((xs.zip ys).lookup x).isSome=true:=by
 induction xs generalizing ys with
 |nil=>intro x h;cases h
 |cons a xs ih=>
  intro x h hl
  cases ys with
  |nil=>injection hl
  |cons b ys=>
   refine rl List.zip_cons_cons<|rl List.lookup_cons ?_
   by_cases hx:x=a
   .simp[hx]
   .simp only[beq_eq_false_iff_ne.mpr hx]
    exact ih ((b7 h).resolve_left hx) (Nat.succ.inj hl)
theorem K6 {xs:List Str} :∀{ys:List Y},xs.Nodup->xs.length=ys.length->xs.filterMap (λn=>((xs.zip ys).lookup n).map (n,·))=xs.zip ys:=by
 induction xs with
 |nil=>intro ys _ _;rfl
 |cons a xs ih=>
  intro ys hn hl;obtain⟨h1,h2⟩:=List.nodup_cons.mp hn
  cases ys with
  |nil=>injection hl
  |cons b ys=>
   refine rl List.zip_cons_cons<|rl List.filterMap_cons<|rl List.lookup_cons ?_
   simp only[beq_self_eq_true,Option.map_some];congr 1;refine Eq.trans ?_ (ih h2 (Nat.succ.inj hl));have key :∀l:List Str,(∀n∈l,n≠a)->l.filterMap (λn=>(List.lookup n ((a,b)::xs.zip ys)).map (n,·))=l.filterMap (λn=>(List.lookup n (xs.zip ys)).map (n,·)):=by
    intro l
    induction l with
    |nil=>intro _;rfl
    |cons n l il=>
     intro hq;refine rl List.filterMap_cons<|rl List.filterMap_cons<|rl (il λm hm=>hq m (.tail _ hm))<|rl List.lookup_cons ?_
     simp only[beq_eq_false_iff_ne.mpr (hq n (.head _))]
   exact key xs λn QJ z=>h1 (z▸QJ)
end
theorem tA {as:List Arg}{Q:List (Str×Value)->Shared->Prop}(hp:fd.params =⟨[],as,none,[],[],none,[]⟩)(hd:fd.defaults=.none)(hn :(as.map (·.arg)).Nodup)(hl:ms.length=as.length)(h:Q ((as.map (·.arg)).zip ms) s):wpAny M A (bindArgs fd ⟨ms,[]⟩) Q E s:=by
 have Fs :(as.map (·.arg)).length=ms.length:=by exact rl (cL ..)<|rl hl rfl
 have e1 :¬ms.length >(as.map (·.arg)).length:=by lia
 have e2 :((as.map (·.arg)).filter λn=>(((as.map (·.arg)).zip ms).lookup n).isNone)=[]:=by
  rw[List.filter_eq_nil_iff];intro n h;have:=Hy h Fs
  cases z :(List.zip (as.map (·.arg)) ms).lookup n with
  |none=>rw[z] at this;injection this
  |some _=>simp
 cases fd;subst hp;subst hd;unfold bindArgs;refine wb (av ?_);refine wb (av ?_);dsimp only;refine wpAny_ite_split (λOL=>absurd OL (by simp;exact Nat.le_of_eq hl)) (λ_=>?_);refine wpAny_ite_split (λOL=>?_) (λ_=>?_)
 .have et:List.take ((as.map (·.arg)).length - (List.drop (0 - (as.map (·.arg)).length) ([]:List Value)).length) (as.map (·.arg))=as.map (·.arg):=by exact rl List.drop_nil<|rl List.length_nil<|rl (Nat.sub_zero ..)<|rl List.take_length rfl
  change (!(List.filter (λn=>(List.lookup n ((as.map (·.arg)).zip ms)).isNone) (List.take ((as.map (·.arg)).length - (List.drop (0 - (as.map (·.arg)).length) ([]:List Value)).length) (as.map (·.arg)))).isEmpty)=true at OL;rw[et,e2] at OL;injection OL
 have ez :∀{Y β:Type} (l:List Y) (k:Nat),l.zip (List.drop k ((none:Option (Array β)).getD #[]).toList)=[]:=λl k=>by simp
 refine rl (ez ..)<|wb (av ?_)
 refine wb (av (wpAny_ite_split (λOL=>(nomatch OL)) (λ_=>av ?_)));show Q (List.filterMap (λn=>(((as.map (·.arg)).zip ms).lookup n).map (n,·)) (as.map (·.arg)++[])) s;exact rl (List.append_nil ..)<|rl (K6 hn Fs)<|h
theorem RX :∀i<nT,(yd i ==("__debug__" : Str))=false/\(yd i ==("__classdict__" : Str))=false:=by decide +kernel
theorem br {a b:Nat}(h:Nat.blt a b=true):a<b:=Nat.lt_of_succ_le (Nat.le_of_ble_eq_true h)
theorem dI.ns (x:dI)(i:Nat)(h:Nat.blt i gN=true:=by rfl):nsIn W.K mainGlobals (gT i).1=some (gT i).2:=x.F.ns i (br h)
theorem dI.find (x:dI)(i:Nat)(h:Nat.blt i fN=true:=by rfl):findIn W.K (.ref (fT i).1) (fT i).2.1=some (fT i).2.2:=x.F.find i (br h)
theorem dI.qS (x:dI)(i:Nat)(h:Nat.blt i tN=true:=by rfl):takerIn W.K (tT i).1 (tT i).2=some Option.none:=x.F.qS i (br h)
theorem dI.fn (x:dI)(i:Nat)(h:Nat.blt i kN=true:=by rfl):Ao W.K (kA i) (kP i):=x.F.fn i (br h)
theorem dI.cl (x:dI)(k:Nat)(h:Nat.blt k 4=true:=by rfl):FH W.K (Du k) (FG k):=x.F.cls k (br h)
theorem dI.cg (x:dI)(k:Nat)(h:Nat.blt k 4=true:=by rfl):AH k:=⟨(x.cl k h).dict,(x.cl k h).get⟩
theorem dI.cs (x:dI)(k:Nat)(h:Nat.blt k 4=true:=by rfl):AZ k:=⟨(x.cl k h).set,(x.cl k h).over,(x.cl k h).dict⟩
theorem dI.ck (x:dI)(k:Nat)(h:Nat.blt k 4=true:=by rfl):keepIn W.K (.ref (Du k))=true:=(x.cl k h).keep
theorem CO:[Value.ref 47,.type "Exception",.type "BaseException",.type "object"].contains (.type "BaseException")=true:=by decide +kernel
theorem dI.cc (x:dI)(k:Nat){m:Nat}(hm:m+1<=n)(hg:aZ m (FG k) g)(hf:typeIn W.K (.ref (FG k))=some (.type "function"))(h:Nat.blt k 4=true:=by rfl):aZ n (Du k) (sI k g):=
 (GC (c:=k) (x.cl k h).makes (x.cl k h).init hf hg).le hm
section
variable {x:dI}
theorem eV (x:dI)(i:Nat)(h:Nat.blt i nT=true:=by rfl):cm n sc (.Name (yd i) pos) (ai i):=
 DD rfl (RX i (br h)).1 (RX i (br h)).2
def CP (fj sc:Scope)(dq:List Nat):Bool:=
 decide (fj.kind=.function)&&fj.names.all (λy=>!decide (y.2=.local)||decide (fj.names.lookup y.1=some .local))&&fj.names.all (λy=>!decide (y.2=.cell))&&decide (fj.names.map (·.1)).Nodup&&
  fj.names.all (λy=>!decide (y.2=.free)||decide (sc.names.lookup y.1=some .cell))&&dq.all λj=>decide ((yd j,NameKind.free)∈fj.names)&&decide ((iP fj sc).names.lookup (yd j)=some .cell)
theorem d0 (h:CP fj sc dq=true):jY fj sc dq:=by
 simp only[CP,Bool.and_eq_true,decide_eq_true_eq,List.all_eq_true,Bool.or_eq_true,Bool.not_eq_true',decide_eq_false_iff_not] at h;obtain⟨⟨⟨⟨⟨h1,h2⟩,h3⟩,h4⟩,h5⟩,h6⟩:=h;exact⟨h1,λy hy e=>(h2 y hy).resolve_left λq=>q e,h3,h4,λy hy e=>(h5 y hy).resolve_left λq=>q e,h6⟩
theorem eD (h :(is.all λi=>Nat.blt i nT&&gG sc (yd i))=true):mh sc is:=by
 simp only[List.all_eq_true,Bool.and_eq_true] at h;exact λi hi=>⟨br (h i hi).1,(h i hi).2⟩
theorem pG (h :(is.all λi=>Nat.blt i nT&&decide (sc.names.lookup (yd i)=some .local))=true) :∀i∈is,i<W.nN/\sc.names.lookup (W.nm i)=some .local:=by
 simp only[List.all_eq_true,Bool.and_eq_true,decide_eq_true_eq] at h;exact λi hi=>⟨br (h i hi).1,(h i hi).2⟩
def Hz (P:Arguments)(ps:List Nat):Bool:=P.posonlyargs.isEmpty&&P.vararg.isNone&&P.kwonlyargs.isEmpty&&P.kw_defaults.isEmpty&&P.kwarg.isNone&&P.defaults.isEmpty&&decide (P.args.map (·.arg)=ps.map yd)
def CQ (sc:Scope)(P:Arguments)(ps:List Nat):Bool:=
 !sc.isCoroutine&&!sc.isGenerator&&decide (sc.kind=.function)&&decide (sc.names.map (·.1)).Nodup&&decide ps.Nodup&&(ps.all λi=>Nat.blt i nT&&gG sc (yd i))&&Hz P ps
theorem CR (ps:List Nat)(h:CQ (kP i).scope (kP i).params ps=true)(e1:fd.body=.stmts (kP i).body)(e2:fd.scope =(kP i).scope)(e3:fd.params =(kP i).params)(e4:fd.globals=mainGlobals)(e5:fd.closure=[])(e6:fd.builtins=builtinsNs)(e7:fd.defaults=.none)(e9:codeIn W.K fd.code fd.qualname=true):N5 fd (kP i).body (kP i).scope ps:=by
 simp only[CQ,Bool.and_eq_true,Bool.not_eq_true',decide_eq_true_eq,List.all_eq_true] at h;obtain⟨⟨⟨⟨⟨⟨h1,h2⟩,h3⟩,h4⟩,h5⟩,h6⟩,h7⟩:=h;refine⟨e1,e2,e4,e5,e6,e9,h1,h2,h3,h4,λp hp=>br (h6 p hp).1,h5,λp hp=>(h6 p hp).2,λms hl M A Q E s h=>?_⟩;generalize (kP i).params=P at h7 e3;obtain⟨a1,a2,a3,a4,a5,a6,a7⟩:=P;simp only[Hz,Bool.and_eq_true,decide_eq_true_eq,List.isEmpty_iff,Option.isNone_iff_eq_none] at h7;obtain⟨⟨⟨⟨⟨⟨rfl,rfl⟩,rfl⟩,rfl⟩,rfl⟩,rfl⟩,h8⟩:=h7;have hn :(a2.map (·.arg)).Nodup:=by
  exact rl h8<|List.nodup_iff_pairwise_ne.mpr (List.pairwise_map.mpr ((List.nodup_iff_pairwise_ne.mp h5).imp_of_mem λ{a b} ha hb dg z=>dg (FF a b (br (h6 a ha).1) (br (h6 b hb).1) z)))
 refine tA e3 e7 hn (rl hl<|rr (cL (f:=yd) (as:=ps))<|rr h8<|rl (cL ..) rfl) ?_
 exact rl h8<|h
theorem kB {g:MS}(F:Ao W.K (kA i) (kP i))(ps:List Nat)(h:CQ (kP i).scope (kP i).params ps=true)(hd:cb n (kP i).scope (kP i).body g):aZ (n+1) (kA i) (cx ps g):=by
 obtain⟨o,fd,ho,Gz,e1,e2,e3,e4,e5,e6,e7,e8,e9⟩:=F.fd;exact Ko ho Gz (CR ps h e1 e2 e3 e4 e5 e6 e7 e9) hd
theorem bV {g:MS}{ps:List Nat}(hn:k+1<=n)(F:Ao W.K (kA i) (kP i))(h:CQ (kP i).scope (kP i).params ps=true)(hd :∀m,k<=m->cb m (kP i).scope (kP i).body g):aZ n (kA i) (cx ps g):=
 match n,hn with
 |m+1,hn=>kB F ps h (hd m (Nat.le_of_succ_le_succ hn))
theorem mo {s:Str}{f:Addr}{P:iU}(h:findIn W.K (.ref (W.cls c)) s=some (some (.ref f)))(F:Ao W.K f P):GB c s f:=⟨h,F.typ,F.keep⟩
end
theorem vO (x:dI):Bi:=Oe x.O x.F.ex
theorem zo (x:dI){q1 q2 q3 q4 W8:Pos}{k1 k2:Nat}(hx:sc.names.lookup (ofString "LimitFault")=some .globalImplicit:=by kernel_rfl)(hy:sc.names.lookup (ofString "MOST_SIZE")=some .globalImplicit:=by kernel_rfl) :
  jT n sc (.Raise (some (.Call (.Name (ofString "LimitFault") np) [.JoinedStr [.Constant (.str (ofString "terms of more than ")) k1 q1,.FormattedValue (.Name (ofString "MOST_SIZE") W8) (-1) none q2,.Constant (.str (ofString " nodes are not counted")) k2 q3] q4] [] qD)) none pos) (kq 4):=
 p9 (x:=ofString "LimitFault") (c:=4) hx rfl (x.ns 20) (by decide +kernel) x.F.ex.Mr (vO x) x.F.Qs (λ_=>rfl) (λ_=>rfl)
  (vv hy (x.ns 15) (by decide +kernel) (by decide +kernel) (by rw[sizeLine_eq];decide +kernel) (by rw[sizeLine_eq];decide +kernel) (by rw[sizeLine_eq];decide +kernel))
theorem xA (x:dI){q1 q2 q3 q4 W8:Pos}{k1 k2:Nat}(hx:sc.names.lookup (ofString "LimitFault")=some .globalImplicit:=by kernel_rfl)(hy:sc.names.lookup (ofString "MOST_LISTED")=some .globalImplicit:=by kernel_rfl) :
  jT n sc (.Raise (some (.Call (.Name (ofString "LimitFault") np) [.JoinedStr [.Constant (.str (ofString "more than ")) k1 q1,.FormattedValue (.Name (ofString "MOST_LISTED") W8) (-1) none q2,.Constant (.str (ofString " terms are not listed")) k2 q3] q4] [] qD)) none pos) (kq 4):=
 p9 (x:=ofString "LimitFault") (c:=4) hx rfl (x.ns 20) (by decide +kernel) x.F.ex.Mr (vO x) x.F.Qs (λ_=>rfl) (λ_=>rfl)
  (vv hy (x.ns 16) (by decide +kernel) (by decide +kernel) (by rw[sizeLine_eq];decide +kernel) (by rw[sizeLine_eq];decide +kernel) (by rw[sizeLine_eq];decide +kernel))
section
local macro_rules | `(⋯)=>`(λ_=>rfl)
local macro_rules | `(())=>`(by kernel_rfl)
local macro_rules | `(nofun)=>`(λ_=>⟨_,rfl⟩)
def CS:MS:=
 (cn (uY (iE .NotEq (ai 0) (ah (.str []))) (iE .Eq (bO [] (az 1) (bl (ai 0)) (some (rT [(o7 (c6 .isspace (ai 1) [])),(bx .In (ai 1) (ah (.str [40,41,91,93,123,125,44,58])))])) (ai 1)) (cZ []))))
def CT:List V->bw->Res V:=cx [0] CS
theorem K7 (x:dI)(hn:0<=n):cb n (kP 0).scope (kP 0).body CS:=by
 conv=>arg 2;whnf
 conv=>arg 3;whnf
 exact(ar (aP (rX (gR (eV x 0) (cY ()) rfl) (gR (cp (bf (eV x 0)) (d0 ()) (cf (br rfl) rfl ()) (bu (by decide)) (eQ (md (bU (eV x 1) aj ⋯ ⋯ rfl ⋯) (λ_ _=>rfl)) (eQ (aW (eV x 1) (cY ()) rfl) fJ)) (eV x 1) (λ_ _=>rfl)) (dm aj) rfl))))
theorem K8 (x:dI)(hn:1<=n):aZ n 79 CT:=bV hn (x.fn 0) () λ_ h=>K7 x h
def mn (r:List V->bw->Res V):MS:=
 (aL (aB (az 2) (dj [(bj [(bj []),(ai 3)])]))
 (aL (df (bp [4,7]) (kO (dU 1 (ai 3))) (bM (c6 .extend (ai 2) [(bO [4] (bp [5,6]) (bl (bW r [(ai 7)])) none (bj [(aU .Add (bj [(ai 4)]) (ai 5)),(ai 6)]))])))
 (cn (ai 2))))
noncomputable def eS:Nat->List V->bw->Res V
 |0=>λ_ _=>.stuck
 |d+1=>tw [3] (mn (eS d))
theorem K9 (x:dI)(hn:0<=n)(hr:aZ n 84 r):cb n (kP 1).scope (kP 1).body (mn r):=by
 conv=>arg 2;whnf
 conv=>arg 3;whnf
 exact(ak (aN (cy (ag ⋯ (aM (ag ⋯ (aM aj) (ag ⋯ (eV x 3) aj))) aj)) (br rfl) rfl () ⋯)
  (ak (mP (dK (eD ()) (λ_=>(.cons (aG rfl) (.cons (aG rfl) .nil))) ⋯) (ag ⋯ (dk (eV x 3) (by decide)) aj) ⋯ (ar (bE (bU (eV x 2) (ag ⋯ (cp (bf (cw (ag ⋯ (eV x 7) aj) ⋯ hr (x.fn 1).keep () (x.ns 0) ())) (d0 ()) (gv (pG ()) (λ_=>(.cons (aG rfl) (.cons (aG rfl) .nil))) ⋯) (eI (by decide)) trivial (aM (ag ⋯ (aI (aM (ag ⋯ (eV x 4) aj)) (eV x 5)) (ag ⋯ (eV x 6) aj))) (λ_ _=>rfl)) aj) ⋯ ⋯ rfl ⋯) ⋯)) () (x.ns 1))
  (ar (aP (eV x 2)))))
theorem La (x:dI) :∀(d:Nat) {n:Nat},d+0+1<=n->aZ n 84 (eS d):=by
 intro y
 induction y with
 |zero=>
  intro _ _;exact λ_ _ _ _ _ _ _ _ _ _ _ _ p=>p.elim
 |succ d ih=>
  intro n hn;obtain⟨m,rfl⟩ :∃m,n=m+1:=⟨n - 1,by exact FA hn⟩;exact(kB (x.fn 1) [3] () (K9 x (Nat.zero_le m) (ih (Nat.le_of_lt_succ hn)))).cut
def oJ:MS:=
 (aL (aB (az 8) (bO [] (bp [5,6]) (bl (bW (eS 8) [(ai 3)])) none (ai 6)))
 (cn (bj [(bT .len [(ai 8)]),(bT .tuple [(bO [] (az 6) (bl (ai 8)) none (cu (ai 6) (ah (.int 0))))]),(bT .tuple [(bO [] (az 6) (bl (ai 8)) none (aU .Sub (bT .len [(ai 6)]) (ah (.int 1))))])])))
def gI:List V->bw->Res V:=cx [3] oJ
theorem HA (x:dI)(hn:9<=n):cb n (kP 2).scope (kP 2).body oJ:=by
 conv=>arg 2;whnf
 conv=>arg 3;whnf
 exact(ak (gw (bf (cw (ag ⋯ (eV x 3) aj) ⋯ (La x 8 (dN hn)) (x.fn 1).keep () (x.ns 0) ())) (d0 ()) (gv (pG ()) (λ_=>(.cons (aG rfl) (.cons (aG rfl) .nil))) ⋯) (eI (by decide)) trivial (eV x 6) (λ_ _=>rfl) (br rfl) rfl () (λenv h=>by cases env;cases h;kernel_rfl))
  (ar (aP (aM (ag ⋯ (ba (ag ⋯ (eV x 8) aj) ⋯ () (x.ns 2)) (ag ⋯ (ba (ag ⋯ (cp (bf (eV x 8)) (d0 ()) (cf (br rfl) rfl ()) (bu (by decide)) trivial (bb (eV x 6) aq (λ_ _=>⟨_,rfl⟩)) (λ_ _=>rfl)) aj) ⋯ () (x.ns 3)) (ag ⋯ (ba (ag ⋯ (cp (bf (eV x 8)) (d0 ()) (cf (br rfl) rfl ()) (bu (by decide)) trivial (aI (ba (ag ⋯ (eV x 6) aj) ⋯ () (x.ns 2)) aq) (λ_ _=>rfl)) aj) ⋯ () (x.ns 3)) aj)))))))
theorem zp (x:dI)(hn:10<=n):aZ n 89 gI:=bV hn (x.fn 2) () λ_ h=>HA x h
def qf:MS:=
 (aL (cU 0 9 (ai 10) (dj []))
 (aL (cU 0 11 (ai 10) (lF .tup))
 (aL (cU 0 12 (ai 10) (dj []))
 (cU 0 13 (ai 10) (dj [])))))
def qg:List V->bw->Res V:=cx [10] qf
theorem zq (x:dI)(hn:0<=n):cb n (kP 3).scope (kP 3).body qf:=by
 conv=>arg 2;whnf
 conv=>arg 3;whnf
 exact(ak (bG (eV x 10) (cy aj) (x.cs 0) (br rfl) rfl (x.qS 0) ⋯ ⋯)
  (ak (bG (eV x 10) (gU .tup) (x.cs 0) (br rfl) rfl (x.qS 1) ⋯ ⋯)
  (ak (bG (eV x 10) (cy aj) (x.cs 0) (br rfl) rfl (x.qS 2) ⋯ ⋯)
  (ar (bG (eV x 10) (cy aj) (x.cs 0) (br rfl) rfl (x.qS 3) ⋯ ⋯)))))
theorem zr (x:dI)(hn:1<=n):aZ n 103 qg:=bV hn (x.fn 3) () λ_ h=>zq x h
def qh:MS:=
 (cn (bT .len [(bc 0 9 (ai 10))]))
def qi:List V->bw->Res V:=cx [10] qh
theorem zt (x:dI)(hn:0<=n):cb n (kP 4).scope (kP 4).body qh:=by
 conv=>arg 2;whnf
 conv=>arg 3;whnf
 exact(ar (aP (ba (ag ⋯ (aF (eV x 10) (x.cg 0) (br rfl) rfl (x.find 0)) aj) ⋯ () (x.ns 2))))
theorem zu (x:dI)(hn:1<=n):aZ n 110 qi:=bV hn (x.fn 4) () λ_ h=>zt x h
def vP:MS:=
 (fw (rT [(rS (o7 (bW CT [(ai 14)]))),(bx .Eq (cu (ai 14) (ah (.int 0))) (ah (.str [63])))]) wY bF)
def vQ:List V->bw->Res V:=cx [10,14] vP
theorem Ey (x:dI)(hn:1<=n):cb n (kP 5).scope (kP 5).body vP:=by
 conv=>arg 2;whnf
 conv=>arg 3;whnf
 exact(ar (bz (eQ (l0 (md (cw (ag ⋯ (eV x 14) aj) ⋯ (K8 x (Nat.one_le_of_lt hn)) (x.fn 0).keep () (x.ns 4) ()) (λ_ _=>rfl))) (eQ (aW (bb (eV x 14) aq (λ_ _=>⟨_,rfl⟩)) (cY ()) rfl) fJ)) (ar lG) bg))
theorem Ez (x:dI)(hn:2<=n):aZ n 122 vQ:=bV hn (x.fn 5) () λ_ h=>Ey x h
def HC:MS:=
 (aL (aB (az 15) (aU .Add (bj [(ai 14)]) (bT .tuple [(ai 16)])))
 (aL (fw (bx .In (ai 15) (bc 0 11 (ai 10))) (cn (cu (bc 0 11 (ai 10)) (ai 15))) bF)
 (aL (bM (aw 0 17 vQ (ai 10) [(ai 14)]))
 (aL (df (az 7) (bl (dU 1 (ai 15))) (fw (rS (jD .LtE .Lt (ah (.int 0)) (ai 7) (bT .len [(bc 0 9 (ai 10))]))) wY bF))
 (aL (eR (bc 0 11 (ai 10)) (ai 15) (bT .len [(bc 0 9 (ai 10))]))
 (aL (bM (c6 .append (bc 0 9 (ai 10)) [(ai 15)]))
 (aL (bM (c6 .append (bc 0 12 (ai 10)) [(aU .Add (ah (.int 1)) (bT .sum [(bO [10] (az 7) (bl (dU 1 (ai 15))) none (cu (bc 0 12 (ai 10)) (ai 7)))]))]))
 (aL (bM (c6 .append (bc 0 13 (ai 10)) [(aU .Add (ah (.int 1)) (bT .max [(qe (bO [10] (az 7) (bl (dU 1 (ai 15))) none (cu (bc 0 13 (ai 10)) (ai 7))) (cZ [(ah (.int 0))]))]))]))
 (cn (aU .Sub (bT .len [(bc 0 9 (ai 10))]) (ah (.int 1))))))))))))
def HD:List V->bw->Res V:=cx [10,14,16] HC
theorem OM (x:dI)(hn:2<=n):cb n (kP 6).scope (kP 6).body HC:=by
 conv=>arg 2;whnf
 conv=>arg 3;whnf
 exact(ak (aN (aI (aM (ag ⋯ (eV x 14) aj)) (ba (ag ⋯ (eV x 16) aj) ⋯ () (x.ns 3))) (br rfl) rfl () ⋯)
  (ak (bz (aW (eV x 15) (aF (eV x 10) (x.cg 0) (br rfl) rfl (x.find 1)) rfl) (ar (aP (bb (aF (eV x 10) (x.cg 0) (br rfl) rfl (x.find 1)) (eV x 15) (λ_ _=>⟨_,rfl⟩)))) bg)
  (ak (bE (au (eV x 10) (ag ⋯ (eV x 14) aj) ⋯ (Ez x (dN hn)) (x.cg 0) (br rfl) rfl (mo (x.find 2) (x.fn 5)) nofun) ⋯)
  (ak (cM (dA (br rfl) rfl ()) (bf (dk (eV x 15) (by decide))) (ar (bz (l0 (k8 aq (eV x 7) (ba (ag ⋯ (aF (eV x 10) (x.cg 0) (br rfl) rfl (x.find 0)) aj) ⋯ () (x.ns 2)) rfl)) (ar lG) bg)) (λ_ _=>rfl))
  (ak (fc (aF (eV x 10) (x.cg 0) (br rfl) rfl (x.find 1)) (eV x 15) (ba (ag ⋯ (aF (eV x 10) (x.cg 0) (br rfl) rfl (x.find 0)) aj) ⋯ () (x.ns 2)) ⋯)
  (ak (bE (bU (aF (eV x 10) (x.cg 0) (br rfl) rfl (x.find 0)) (ag ⋯ (eV x 15) aj) ⋯ ⋯ rfl ⋯) ⋯)
  (ak (bE (bU (aF (eV x 10) (x.cg 0) (br rfl) rfl (x.find 3)) (ag ⋯ (aI aq (ba (ag ⋯ (cp (bf (dk (eV x 15) (by decide))) (d0 ()) (cf (br rfl) rfl ()) (bu (by decide)) trivial (bb (aF (eV x 10) (x.cg 0) (br rfl) rfl (x.find 3)) (eV x 7) (λ_ _=>⟨_,rfl⟩)) (λ_ _=>rfl)) aj) ⋯ () (x.ns 5))) aj) ⋯ ⋯ rfl ⋯) ⋯)
  (ak (bE (bU (aF (eV x 10) (x.cg 0) (br rfl) rfl (x.find 4)) (ag ⋯ (aI aq (ba (ag ⋯ (nz (cp (bf (dk (eV x 15) (by decide))) (d0 ()) (cf (br rfl) rfl ()) (bu (by decide)) trivial (bb (aF (eV x 10) (x.cg 0) (br rfl) rfl (x.find 4)) (eV x 7) (λ_ _=>⟨_,rfl⟩)) (λ_ _=>rfl)) (dm (ag ⋯ aq aj))) aj) ⋯ () (x.ns 6))) aj) ⋯ ⋯ rfl ⋯) ⋯)
  (ar (aP (aI (ba (ag ⋯ (aF (eV x 10) (x.cg 0) (br rfl) rfl (x.find 0)) aj) ⋯ () (x.ns 2)) aq)))))))))))
theorem ON (x:dI)(hn:3<=n):aZ n 115 HD:=bV hn (x.fn 6) () λ_ h=>OM x h
def vR:MS:=
 (cn (cu (cu (bc 0 9 (ai 10)) (ai 18)) (ah (.int 0))))
def vS:List V->bw->Res V:=cx [10,18] vR
theorem EA (x:dI)(hn:0<=n):cb n (kP 7).scope (kP 7).body vR:=by
 conv=>arg 2;whnf
 conv=>arg 3;whnf
 exact(ar (aP (bb (bb (aF (eV x 10) (x.cg 0) (br rfl) rfl (x.find 0)) (eV x 18) (λ_ _=>⟨_,rfl⟩)) aq (λ_ _=>⟨_,rfl⟩))))
theorem EB (x:dI)(hn:1<=n):aZ n 148 vS:=bV hn (x.fn 7) () λ_ h=>EA x h
def HE:MS:=
 (cn (dU 1 (cu (bc 0 9 (ai 10)) (ai 18))))
def HF:List V->bw->Res V:=cx [10,18] HE
theorem OO (x:dI)(hn:0<=n):cb n (kP 8).scope (kP 8).body HE:=by
 conv=>arg 2;whnf
 conv=>arg 3;whnf
 exact(ar (aP (dk (bb (aF (eV x 10) (x.cg 0) (br rfl) rfl (x.find 0)) (eV x 18) (λ_ _=>⟨_,rfl⟩)) (by decide))))
theorem OP (x:dI)(hn:1<=n):aZ n 155 HF:=bV hn (x.fn 8) () λ_ h=>OO x h
end
section
local macro_rules | `(⋯)=>`(λ_=>rfl)
local macro_rules | `(())=>`(by kernel_rfl)
local macro_rules | `(nofun)=>`(λ_=>⟨_,rfl⟩)
def mQ:MS:=
 (aL (cU 2 19 (ai 10) (dj []))
 (aL (cU 2 20 (ai 10) (dj []))
 (cU 2 21 (ai 10) (dj []))))
def mR:List V->bw->Res V:=cx [10] mQ
theorem uJ (x:dI)(hn:0<=n):cb n (kP 9).scope (kP 9).body mQ:=by
 conv=>arg 2;whnf
 conv=>arg 3;whnf
 exact(ak (bG (eV x 10) (cy aj) (x.cs 2) (br rfl) rfl (x.qS 4) ⋯ ⋯)
  (ak (bG (eV x 10) (cy aj) (x.cs 2) (br rfl) rfl (x.qS 5) ⋯ ⋯)
  (ar (bG (eV x 10) (cy aj) (x.cs 2) (br rfl) rfl (x.qS 6) ⋯ ⋯))))
theorem uK (x:dI)(hn:1<=n):aZ n 291 mR:=bV hn (x.fn 9) () λ_ h=>uJ x h
def HG:MS:=
 (aL (bM (c6 .append (bc 2 19 (ai 10)) [(bT .len [(bc 2 19 (ai 10))])]))
 (aL (bM (c6 .append (bc 2 20 (ai 10)) [(dj [(bT .len [(bc 2 20 (ai 10))])])]))
 (cn (aU .Sub (bT .len [(bc 2 19 (ai 10))]) (ah (.int 1))))))
def HH:List V->bw->Res V:=cx [10] HG
theorem OQ (x:dI)(hn:0<=n):cb n (kP 10).scope (kP 10).body HG:=by
 conv=>arg 2;whnf
 conv=>arg 3;whnf
 exact(ak (bE (bU (aF (eV x 10) (x.cg 2) (br rfl) rfl (x.find 5)) (ag ⋯ (ba (ag ⋯ (aF (eV x 10) (x.cg 2) (br rfl) rfl (x.find 5)) aj) ⋯ () (x.ns 2)) aj) ⋯ ⋯ rfl ⋯) ⋯)
  (ak (bE (bU (aF (eV x 10) (x.cg 2) (br rfl) rfl (x.find 6)) (ag ⋯ (cy (ag ⋯ (ba (ag ⋯ (aF (eV x 10) (x.cg 2) (br rfl) rfl (x.find 6)) aj) ⋯ () (x.ns 2)) aj)) aj) ⋯ ⋯ rfl ⋯) ⋯)
  (ar (aP (aI (ba (ag ⋯ (aF (eV x 10) (x.cg 2) (br rfl) rfl (x.find 5)) aj) ⋯ () (x.ns 2)) aq)))))
theorem OR (x:dI)(hn:1<=n):aZ n 298 HH:=bV hn (x.fn 10) () λ_ h=>OQ x h
def mS:MS:=
 (cn (bT .len [(bc 2 19 (ai 10))]))
def mT:List V->bw->Res V:=cx [10] mS
theorem uL (x:dI)(hn:0<=n):cb n (kP 11).scope (kP 11).body mS:=by
 conv=>arg 2;whnf
 conv=>arg 3;whnf
 exact(ar (aP (ba (ag ⋯ (aF (eV x 10) (x.cg 2) (br rfl) rfl (x.find 5)) aj) ⋯ () (x.ns 2))))
theorem uM (x:dI)(hn:1<=n):aZ n 305 mT:=bV hn (x.fn 11) () λ_ h=>uL x h
def mU:MS:=
 (aL (A2 60 (bx .NotEq (cu (bc 2 19 (ai 10)) (ai 22)) (ai 22)) (aB (az 22) (cu (bc 2 19 (ai 10)) (ai 22))))
 (cn (ai 22)))
def gJ:List V->bw->Res V:=cx [10,22] mU
theorem uN (x:dI)(hn:0<=n):cb n (kP 12).scope (kP 12).body mU:=by
 conv=>arg 2;whnf
 conv=>arg 3;whnf
 exact(ak (om 60 (aW (bb (aF (eV x 10) (x.cg 2) (br rfl) rfl (x.find 5)) (eV x 22) (λ_ _=>⟨_,rfl⟩)) (eV x 22) rfl) (ar (aN (bb (aF (eV x 10) (x.cg 2) (br rfl) rfl (x.find 5)) (eV x 22) (λ_ _=>⟨_,rfl⟩)) (br rfl) rfl () ⋯)))
  (ar (aP (eV x 22))))
theorem iB (x:dI)(hn:1<=n):aZ n 312 gJ:=bV hn (x.fn 12) () λ_ h=>uN x h
def lN:MS:=
 (aL (cO (bp [23,24]) (bT .sorted [(cZ [(aw 2 25 gJ (ai 10) [(ai 22)]),(aw 2 25 gJ (ai 10) [(ai 26)])])]))
 (aL (fw (bx .Eq (ai 23) (ai 24)) (cn (ah .none)) bF)
 (aL (eR (bc 2 19 (ai 10)) (ai 24) (ai 23))
 (aL (bM (c6 .extend (cu (bc 2 20 (ai 10)) (ai 23)) [(cu (bc 2 20 (ai 10)) (ai 24))]))
 (aL (bM (c6 .append (bc 2 21 (ai 10)) [(bj [(ai 23),(ai 24)])]))
 (cn (bj [(ai 23),(ai 24)])))))))
def lO:List V->bw->Res V:=cx [10,22,26] lN
theorem tB (x:dI)(hn:1<=n):cb n (kP 13).scope (kP 13).body lN:=by
 conv=>arg 2;whnf
 conv=>arg 3;whnf
 exact(ak (gu (dK (eD ()) (λ_=>(.cons (aG rfl) (.cons (aG rfl) .nil))) ⋯) (ba (ag ⋯ (dm (ag ⋯ (au (eV x 10) (ag ⋯ (eV x 22) aj) ⋯ (iB x (Nat.one_le_of_lt hn)) (x.cg 2) (br rfl) rfl (mo (x.find 7) (x.fn 12)) nofun) (ag ⋯ (au (eV x 10) (ag ⋯ (eV x 26) aj) ⋯ (iB x (Nat.one_le_of_lt hn)) (x.cg 2) (br rfl) rfl (mo (x.find 7) (x.fn 12)) nofun) aj))) aj) ⋯ () (x.ns 7)) ⋯ (λ_ _=>rfl))
  (ak (bz (aW (eV x 23) (eV x 24) rfl) (ar (aP eo)) bg)
  (ak (fc (aF (eV x 10) (x.cg 2) (br rfl) rfl (x.find 5)) (eV x 24) (eV x 23) ⋯)
  (ak (bE (bU (bb (aF (eV x 10) (x.cg 2) (br rfl) rfl (x.find 6)) (eV x 23) (λ_ _=>⟨_,rfl⟩)) (ag ⋯ (bb (aF (eV x 10) (x.cg 2) (br rfl) rfl (x.find 6)) (eV x 24) (λ_ _=>⟨_,rfl⟩)) aj) ⋯ ⋯ rfl ⋯) ⋯)
  (ak (bE (bU (aF (eV x 10) (x.cg 2) (br rfl) rfl (x.find 8)) (ag ⋯ (aM (ag ⋯ (eV x 23) (ag ⋯ (eV x 24) aj))) aj) ⋯ ⋯ rfl ⋯) ⋯)
  (ar (aP (aM (ag ⋯ (eV x 23) (ag ⋯ (eV x 24) aj))))))))))
theorem tC (x:dI)(hn:2<=n):aZ n 319 lO:=bV hn (x.fn 13) () λ_ h=>tB x h
def j4:MS:=
 (cn (bT .sorted [(cu (bc 2 20 (ai 10)) (aw 2 25 gJ (ai 10) [(ai 22)]))]))
def j5:List V->bw->Res V:=cx [10,22] j4
theorem pH (x:dI)(hn:1<=n):cb n (kP 14).scope (kP 14).body j4:=by
 conv=>arg 2;whnf
 conv=>arg 3;whnf
 exact(ar (aP (ba (ag ⋯ (bb (aF (eV x 10) (x.cg 2) (br rfl) rfl (x.find 6)) (au (eV x 10) (ag ⋯ (eV x 22) aj) ⋯ (iB x (Nat.one_le_of_lt hn)) (x.cg 2) (br rfl) rfl (mo (x.find 7) (x.fn 12)) nofun) (λ_ _=>⟨_,rfl⟩)) aj) ⋯ () (x.ns 7))))
theorem pI (x:dI)(hn:2<=n):aZ n 326 j5:=bV hn (x.fn 14) () λ_ h=>pH x h
def qj:MS:=
 (aL (cU 3 27 (ai 10) (bW (sI 0 qg) []))
 (aL (cU 3 28 (ai 10) (bW (sI 2 mR) []))
 (aL (cU 3 29 (ai 10) (dj []))
 (aL (cU 3 30 (ai 10) (dj []))
 (aL (cU 3 31 (ai 10) (lF .tup))
 (aL (cU 3 19 (ai 10) (lF .int))
 (aL (cU 3 32 (ai 10) (dj []))
 (cU 3 33 (ai 10) (ah (.int 0))))))))))
def jw:List V->bw->Res V:=cx [10] qj
theorem zv (x:dI)(hn:2<=n):cb n (kP 15).scope (kP 15).body qj:=by
 conv=>arg 2;whnf
 conv=>arg 3;whnf
 exact(ak (bG (eV x 10) (cw aj ⋯ (x.cc 0 (Nat.one_add_le_iff.mpr hn) (zr x (n:=1) (Nat.le_of_ble_eq_true rfl)) (x.fn 3).typ) (x.ck 0) () (x.ns 8) ()) (x.cs 3) (br rfl) rfl (x.qS 7) ⋯ ⋯)
  (ak (bG (eV x 10) (cw aj ⋯ (x.cc 2 (Nat.one_add_le_iff.mpr hn) (uK x (n:=1) (Nat.le_of_ble_eq_true rfl)) (x.fn 9).typ) (x.ck 2) () (x.ns 9) ()) (x.cs 3) (br rfl) rfl (x.qS 8) ⋯ ⋯)
  (ak (bG (eV x 10) (cy aj) (x.cs 3) (br rfl) rfl (x.qS 9) ⋯ ⋯)
  (ak (bG (eV x 10) (cy aj) (x.cs 3) (br rfl) rfl (x.qS 10) ⋯ ⋯)
  (ak (bG (eV x 10) (gU .tup) (x.cs 3) (br rfl) rfl (x.qS 11) ⋯ ⋯)
  (ak (bG (eV x 10) (gU .int) (x.cs 3) (br rfl) rfl (x.qS 12) ⋯ ⋯)
  (ak (bG (eV x 10) (cy aj) (x.cs 3) (br rfl) rfl (x.qS 13) ⋯ ⋯)
  (ar (bG (eV x 10) aq (x.cs 3) (br rfl) rfl (x.qS 14) ⋯ ⋯)))))))))
theorem zw (x:dI)(hn:3<=n):aZ n 373 jw:=bV hn (x.fn 15) () λ_ h=>zv x h
def qk:MS:=
 (cn (aw 0 34 qi (bc 3 27 (ai 10)) []))
def lP:List V->bw->Res V:=cx [10] qk
theorem zx (x:dI)(hn:1<=n):cb n (kP 16).scope (kP 16).body qk:=by
 conv=>arg 2;whnf
 conv=>arg 3;whnf
 exact(ar (aP (au (aF (eV x 10) (x.cg 3) (br rfl) rfl (x.find 9)) aj ⋯ (zu x (Nat.one_le_of_lt hn)) (x.cg 0) (br rfl) rfl (mo (x.find 10) (x.fn 4)) nofun)))
theorem zy (x:dI)(hn:2<=n):aZ n 380 lP:=bV hn (x.fn 16) () λ_ h=>zx x h
def ql:MS:=
 (cn (aw 2 25 gJ (bc 3 28 (ai 10)) [(ai 18)]))
def bP:List V->bw->Res V:=cx [10,18] ql
theorem zz (x:dI)(hn:1<=n):cb n (kP 17).scope (kP 17).body ql:=by
 conv=>arg 2;whnf
 conv=>arg 3;whnf
 exact(ar (aP (au (aF (eV x 10) (x.cg 3) (br rfl) rfl (x.find 11)) (ag ⋯ (eV x 18) aj) ⋯ (iB x (Nat.one_le_of_lt hn)) (x.cg 2) (br rfl) rfl (mo (x.find 7) (x.fn 12)) nofun)))
theorem eU (x:dI)(hn:2<=n):aZ n 409 bP:=bV hn (x.fn 17) () λ_ h=>zz x h
def qm:MS:=
 (cn (aU .Add (bj [(aw 0 14 vS (bc 3 27 (ai 10)) [(ai 18)])]) (bT .tuple [(bO [10] (az 7) (bl (aw 0 16 HF (bc 3 27 (ai 10)) [(ai 18)])) none (aw 3 25 bP (ai 10) [(ai 7)]))])))
def lQ:List V->bw->Res V:=cx [10,18] qm
theorem zA (x:dI)(hn:2<=n):cb n (kP 18).scope (kP 18).body qm:=by
 conv=>arg 2;whnf
 conv=>arg 3;whnf
 exact(ar (aP (aI (aM (ag ⋯ (au (aF (eV x 10) (x.cg 3) (br rfl) rfl (x.find 9)) (ag ⋯ (eV x 18) aj) ⋯ (EB x (Nat.one_le_of_lt hn)) (x.cg 0) (br rfl) rfl (mo (x.find 12) (x.fn 7)) nofun) aj)) (ba (ag ⋯ (cp (bf (au (aF (eV x 10) (x.cg 3) (br rfl) rfl (x.find 9)) (ag ⋯ (eV x 18) aj) ⋯ (OP x (Nat.one_le_of_lt hn)) (x.cg 0) (br rfl) rfl (mo (x.find 13) (x.fn 8)) nofun)) (d0 ()) (cf (br rfl) rfl ()) (bu (by decide)) trivial (au (eV x 10) (ag ⋯ (eV x 7) aj) ⋯ (eU x (dN hn)) (x.cg 3) (br rfl) rfl (mo (x.find 14) (x.fn 17)) nofun) (λ_ _=>rfl)) aj) ⋯ () (x.ns 3)))))
theorem qo (x:dI)(hn:3<=n):aZ n 385 lQ:=bV hn (x.fn 18) () λ_ h=>zA x h
def HI:MS:=
 (aL (bM (c6 .append (bc 3 29 (ai 10)) [(bj [(ai 22),(ai 26),(ai 35)])]))
 (aL (aB (az 21) (aw 2 36 lO (bc 3 28 (ai 10)) [(ai 22),(ai 26)]))
 (aL (fw (bx .Is (ai 21) (ah .none)) (cn (ah (.bool false))) bF)
 (aL (cO (bp [23,24]) (ai 21))
 (aL (bM (c6 .append (bc 3 30 (ai 10)) [(aU .Sub (bT .len [(bc 3 29 (ai 10))]) (ah (.int 1)))]))
 (aL (bM (c6 .extend (bc 3 32 (ai 10)) [(cu (bc 3 19 (ai 10)) (ai 24))]))
 (aL (eR (bc 3 19 (ai 10)) (ai 23) (aU .Add (cu (bc 3 19 (ai 10)) (ai 23)) (c6 .r7 (bc 3 19 (ai 10)) [(ai 24)])))
 (cn (ah (.bool true))))))))))
def BE:List V->bw->Res V:=cx [10,22,26,35] HI
theorem OS (x:dI)(hn:2<=n):cb n (kP 19).scope (kP 19).body HI:=by
 conv=>arg 2;whnf
 conv=>arg 3;whnf
 exact(ak (bE (bU (aF (eV x 10) (x.cg 3) (br rfl) rfl (x.find 15)) (ag ⋯ (aM (ag ⋯ (eV x 22) (ag ⋯ (eV x 26) (ag ⋯ (eV x 35) aj)))) aj) ⋯ ⋯ rfl ⋯) ⋯)
  (ak (aN (au (aF (eV x 10) (x.cg 3) (br rfl) rfl (x.find 11)) (ag ⋯ (eV x 22) (ag ⋯ (eV x 26) aj)) ⋯ (tC x (dN hn)) (x.cg 2) (br rfl) rfl (mo (x.find 16) (x.fn 13)) nofun) (br rfl) rfl () ⋯)
  (ak (bz (aW (eV x 21) eo rfl) (ar (aP gf)) bg)
  (ak (gu (dK (eD ()) (λ_=>(.cons (aG rfl) (.cons (aG rfl) .nil))) ⋯) (eV x 21) ⋯ (λ_ _=>rfl))
  (ak (bE (bU (aF (eV x 10) (x.cg 3) (br rfl) rfl (x.find 17)) (ag ⋯ (aI (ba (ag ⋯ (aF (eV x 10) (x.cg 3) (br rfl) rfl (x.find 15)) aj) ⋯ () (x.ns 2)) aq) aj) ⋯ ⋯ rfl ⋯) ⋯)
  (ak (bE (bU (aF (eV x 10) (x.cg 3) (br rfl) rfl (x.find 18)) (ag ⋯ (bb (aF (eV x 10) (x.cg 3) (br rfl) rfl (x.find 19)) (eV x 24) (λ_ _=>⟨_,rfl⟩)) aj) ⋯ ⋯ rfl ⋯) ⋯)
  (ak (fc (aF (eV x 10) (x.cg 3) (br rfl) rfl (x.find 19)) (eV x 23) (aI (bb (aF (eV x 10) (x.cg 3) (br rfl) rfl (x.find 19)) (eV x 23) (λ_ _=>⟨_,rfl⟩)) (bU (aF (eV x 10) (x.cg 3) (br rfl) rfl (x.find 19)) (ag ⋯ (eV x 24) aj) ⋯ ⋯ rfl ⋯)) ⋯)
  (ar (aP gf)))))))))
theorem HJ (x:dI)(hn:3<=n):aZ n 430 BE:=bV hn (x.fn 19) () λ_ h=>OS x h
def vT:MS:=
 (aL (aB (az 37) (c6 .i8 (bc 3 31 (ai 10)) [(aw 3 15 lQ (ai 10) [(ai 18)]),(ai 18)]))
 (fw (bx .NotEq (aw 3 25 bP (ai 10) [(ai 37)]) (aw 3 25 bP (ai 10) [(ai 18)])) (bM (aw 3 38 BE (ai 10) [(ai 37),(ai 18),(bj [(ah (.str [108,105,107,101]))])])) bF))
def pJ:List V->bw->Res V:=cx [10,18] vT
theorem EC (x:dI)(hn:3<=n):cb n (kP 20).scope (kP 20).body vT:=by
 conv=>arg 2;whnf
 conv=>arg 3;whnf
 exact(ak (aN (bU (aF (eV x 10) (x.cg 3) (br rfl) rfl (x.find 20)) (ag ⋯ (au (eV x 10) (ag ⋯ (eV x 18) aj) ⋯ (qo x (dN hn)) (x.cg 3) (br rfl) rfl (mo (x.find 21) (x.fn 18)) nofun) (ag ⋯ (eV x 18) aj)) ⋯ ⋯ rfl ⋯) (br rfl) rfl () ⋯)
  (ar (bz (aW (au (eV x 10) (ag ⋯ (eV x 37) aj) ⋯ (eU x (cX hn)) (x.cg 3) (br rfl) rfl (mo (x.find 14) (x.fn 17)) nofun) (au (eV x 10) (ag ⋯ (eV x 18) aj) ⋯ (eU x (cX hn)) (x.cg 3) (br rfl) rfl (mo (x.find 14) (x.fn 17)) nofun) rfl) (ar (bE (au (eV x 10) (ag ⋯ (eV x 37) (ag ⋯ (eV x 18) (ag ⋯ (aM (ag ⋯ (cY ()) aj)) aj))) ⋯ (HJ x (dN hn)) (x.cg 3) (br rfl) rfl (mo (x.find 22) (x.fn 19)) nofun) ⋯)) bg)))
theorem vU (x:dI)(hn:4<=n):aZ n 402 pJ:=bV hn (x.fn 20) () λ_ h=>EC x h
def M0:MS:=
 (aL (aB (az 18) (aw 0 39 HD (bc 3 27 (ai 10)) [(ai 14),(ai 11)]))
 (aL (fw (bx .Lt (ai 18) (aw 2 34 mT (bc 3 28 (ai 10)) [])) (cn (ai 18)) bF)
 (aL (bM (aw 2 40 HH (bc 3 28 (ai 10)) []))
 (aL (eR (bc 3 19 (ai 10)) (ai 18) (dj []))
 (aL (df (az 41) (bl (sY (bO [10] (az 7) (bl (ai 11)) none (aw 3 25 bP (ai 10) [(ai 7)])))) (bM (c6 .append (cu (bc 3 19 (ai 10)) (ai 41)) [(ai 18)])))
 (aL (bM (aw 3 42 pJ (ai 10) [(ai 18)]))
 (cn (ai 18))))))))
def CU:List V->bw->Res V:=cx [10,14,11] M0
theorem RY (x:dI)(hn:4<=n):cb n (kP 21).scope (kP 21).body M0:=by
 conv=>arg 2;whnf
 conv=>arg 3;whnf
 exact(ak (aN (au (aF (eV x 10) (x.cg 3) (br rfl) rfl (x.find 9)) (ag ⋯ (eV x 14) (ag ⋯ (eV x 11) aj)) ⋯ (ON x (cX hn)) (x.cg 0) (br rfl) rfl (mo (x.find 23) (x.fn 6)) nofun) (br rfl) rfl () ⋯)
  (ak (bz (aW (eV x 18) (au (aF (eV x 10) (x.cg 3) (br rfl) rfl (x.find 11)) aj ⋯ (uM x (Nat.one_le_of_lt hn)) (x.cg 2) (br rfl) rfl (mo (x.find 24) (x.fn 11)) nofun) rfl) (ar (aP (eV x 18))) bg)
  (ak (bE (au (aF (eV x 10) (x.cg 3) (br rfl) rfl (x.find 11)) aj ⋯ (OR x (Nat.one_le_of_lt hn)) (x.cg 2) (br rfl) rfl (mo (x.find 25) (x.fn 10)) nofun) ⋯)
  (ak (fc (aF (eV x 10) (x.cg 3) (br rfl) rfl (x.find 19)) (eV x 18) (cy aj) ⋯)
  (ak (cM (dA (br rfl) rfl ()) (bf (mO (cp (bf (eV x 11)) (d0 ()) (cf (br rfl) rfl ()) (bu (by decide)) trivial (au (eV x 10) (ag ⋯ (eV x 7) aj) ⋯ (eU x (cX hn)) (x.cg 3) (br rfl) rfl (mo (x.find 14) (x.fn 17)) nofun) (λ_ _=>rfl)) ⋯ ⋯ ⋯ ⋯ () (x.ns 7) () (x.ns 10))) (ar (bE (bU (bb (aF (eV x 10) (x.cg 3) (br rfl) rfl (x.find 19)) (eV x 41) (λ_ _=>⟨_,rfl⟩)) (ag ⋯ (eV x 18) aj) ⋯ ⋯ rfl ⋯) ⋯)) (λ_ _=>rfl))
  (ak (bE (au (eV x 10) (ag ⋯ (eV x 18) aj) ⋯ (vU x (dN hn)) (x.cg 3) (br rfl) rfl (mo (x.find 26) (x.fn 20)) nofun) ⋯)
  (ar (aP (eV x 18)))))))))
theorem M1 (x:dI)(hn:5<=n):aZ n 390 CU:=bV hn (x.fn 21) () λ_ h=>RY x h
def M3 (r:List V->bw->Res V):MS:=
 (cn (aw 3 45 CU (ai 10) [(cu (ai 43) (ah (.int 0))),(bT .tuple [(bO [10] (az 6) (bl (dU 1 (ai 43))) none (aw 3 44 r (ai 10) [(ai 6)]))])]))
noncomputable def lR:Nat->List V->bw->Res V
 |0=>λ_ _=>.stuck
 |d+1=>cx [10,43] (M3 (lR d))
theorem RZ (x:dI)(hn:5<=n)(hr:aZ n 395 r):cb n (kP 22).scope (kP 22).body (M3 r):=by
 conv=>arg 2;whnf
 conv=>arg 3;whnf
 exact(ar (aP (au (eV x 10) (ag ⋯ (bb (eV x 43) aq (λ_ _=>⟨_,rfl⟩)) (ag ⋯ (ba (ag ⋯ (cp (bf (dk (eV x 43) (by decide))) (d0 ()) (cf (br rfl) rfl ()) (bu (by decide)) trivial (au (eV x 10) (ag ⋯ (eV x 6) aj) ⋯ hr (x.cg 3) (br rfl) rfl (mo (x.find 27) (x.fn 22)) nofun) (λ_ _=>rfl)) aj) ⋯ () (x.ns 3)) aj)) ⋯ (M1 x (dN hn)) (x.cg 3) (br rfl) rfl (mo (x.find 28) (x.fn 21)) nofun)))
theorem HK (x:dI) :∀(d:Nat) {n:Nat},d+5+1<=n->aZ n 395 (lR d):=by
 intro y
 induction y with
 |zero=>
  intro _ _;exact λ_ _ _ _ _ _ _ _ _ _ _ _ p=>p.elim
 |succ d ih=>
  intro n hn;obtain⟨m,rfl⟩ :∃m,n=m+1:=⟨n - 1,by exact FA hn⟩;exact kB (x.fn 22) [10,43] () (RZ x (SV ‹_›) (ih (Nat.le_of_lt_succ hn)))
def oK:MS:=
 (cn (aw 3 38 BE (ai 10) [(ai 22),(ai 26),(ai 35)]))
def eW:List V->bw->Res V:=cx [10,22,26,35] oK
theorem xB (x:dI)(hn:3<=n):cb n (kP 23).scope (kP 23).body oK:=by
 conv=>arg 2;whnf
 conv=>arg 3;whnf
 exact(ar (aP (au (eV x 10) (ag ⋯ (eV x 22) (ag ⋯ (eV x 26) (ag ⋯ (eV x 35) aj))) ⋯ (HJ x (dN hn)) (x.cg 3) (br rfl) rfl (mo (x.find 22) (x.fn 19)) nofun)))
theorem oM (x:dI)(hn:4<=n):aZ n 423 eW:=bV hn (x.fn 23) () λ_ h=>xB x h
def zB:MS:=
 (A2 60 (bx .Gt (bT .len [(bc 3 32 (ai 10))]) (ah (.int 0))) (bM (aw 3 42 pJ (ai 10) [(c6 .pop (bc 3 32 (ai 10)) [])])))
def j6:List V->bw->Res V:=cx [10] zB
theorem HL (x:dI)(hn:4<=n):cb n (kP 24).scope (kP 24).body zB:=by
 conv=>arg 2;whnf
 conv=>arg 3;whnf
 exact(ar (om 60 (aW (ba (ag ⋯ (aF (eV x 10) (x.cg 3) (br rfl) rfl (x.find 18)) aj) ⋯ () (x.ns 2)) aq rfl) (ar (bE (au (eV x 10) (ag ⋯ (bU (aF (eV x 10) (x.cg 3) (br rfl) rfl (x.find 18)) aj ⋯ ⋯ rfl ⋯) aj) ⋯ (vU x (dN hn)) (x.cg 3) (br rfl) rfl (mo (x.find 26) (x.fn 20)) nofun) ⋯))))
theorem zC (x:dI)(hn:5<=n):aZ n 437 j6:=bV hn (x.fn 24) () λ_ h=>HL x h
def lS:MS:=
 (cn (aw 2 46 j5 (bc 3 28 (ai 10)) [(ai 41)]))
def lT:List V->bw->Res V:=cx [10,41] lS
theorem tD (x:dI)(hn:2<=n):cb n (kP 25).scope (kP 25).body lS:=by
 conv=>arg 2;whnf
 conv=>arg 3;whnf
 exact(ar (aP (au (aF (eV x 10) (x.cg 3) (br rfl) rfl (x.find 11)) (ag ⋯ (eV x 41) aj) ⋯ (pI x (dN hn)) (x.cg 2) (br rfl) rfl (mo (x.find 29) (x.fn 14)) nofun)))
theorem tE (x:dI)(hn:3<=n):aZ n 458 lT:=bV hn (x.fn 25) () λ_ h=>tD x h
def tF:MS:=
 (cn (sY (bO [10] (az 18) (bl (aw 3 46 lT (ai 10) [(ai 41)])) none (aw 3 15 lQ (ai 10) [(ai 18)]))))
def c8:List V->bw->Res V:=cx [10,41] tF
theorem BF (x:dI)(hn:3<=n):cb n (kP 26).scope (kP 26).body tF:=by
 conv=>arg 2;whnf
 conv=>arg 3;whnf
 exact(ar (aP (mO (cp (bf (au (eV x 10) (ag ⋯ (eV x 41) aj) ⋯ (tE x (dN hn)) (x.cg 3) (br rfl) rfl (mo (x.find 30) (x.fn 25)) nofun)) (d0 ()) (cf (br rfl) rfl ()) (bu (by decide)) trivial (au (eV x 10) (ag ⋯ (eV x 18) aj) ⋯ (qo x (dN hn)) (x.cg 3) (br rfl) rfl (mo (x.find 21) (x.fn 18)) nofun) (λ_ _=>rfl)) ⋯ ⋯ ⋯ ⋯ () (x.ns 7) () (x.ns 10))))
theorem nA (x:dI)(hn:4<=n):aZ n 463 c8:=bV hn (x.fn 26) () λ_ h=>BF x h
def qp:MS:=
 (aL (aB (az 18) (ip ic pD (bc 3 31 (ai 10)) [(aU .Add (bj [(ai 14)]) (bT .tuple [(bO [10] (az 41) (bl (ai 47)) none (aw 3 25 bP (ai 10) [(ai 41)]))])),(gY (ah (.int 1)))]))
 (cn (qY (bx .Lt (ai 18) (ah (.int 0))) (gY (ah (.int 1))) (aw 3 25 bP (ai 10) [(ai 18)]))))
def ew:List V->bw->Res V:=cx [10,14,47] qp
theorem zD (x:dI)(hn:2<=n):cb n (kP 27).scope (kP 27).body qp:=by
 conv=>arg 2;whnf
 conv=>arg 3;whnf
 exact(ak (aN (iK oG (aF (eV x 10) (x.cg 3) (br rfl) rfl (x.find 20)) (ag ⋯ (aI (aM (ag ⋯ (eV x 14) aj)) (ba (ag ⋯ (cp (bf (eV x 47)) (d0 ()) (cf (br rfl) rfl ()) (bu (by decide)) trivial (au (eV x 10) (ag ⋯ (eV x 41) aj) ⋯ (eU x (dN hn)) (x.cg 3) (br rfl) rfl (mo (x.find 14) (x.fn 17)) nofun) (λ_ _=>rfl)) aj) ⋯ () (x.ns 3))) (ag ⋯ (eA aq) aj)) ⋯ ⋯ rfl ⋯) (br rfl) rfl () ⋯)
  (ar (aP (gh (aW (eV x 18) aq rfl) (eA aq) (au (eV x 10) (ag ⋯ (eV x 18) aj) ⋯ (eU x (dN hn)) (x.cg 3) (br rfl) rfl (mo (x.find 14) (x.fn 17)) nofun)))))
theorem zE (x:dI)(hn:3<=n):aZ n 475 ew:=bV hn (x.fn 27) () λ_ h=>zD x h
end
section
local macro_rules | `(⋯)=>`(λ_=>rfl)
local macro_rules | `(())=>`(by kernel_rfl)
local macro_rules | `(nofun)=>`(λ_=>⟨_,rfl⟩)
def oN:MS:=
 (aL (aB (az 48) (dj []))
 (aL (df (bp [14,50]) (qP (Et (aS [(ai 51),(ai 52)]))) (aL (aB (az 16) (bO [48] (az 49) (iY (ai 50)) none (c6 .pop (ai 48) [])))
 (bM (c6 .append (ai 48) [(aU .Add (bj [(ai 14)]) (bT .tuple [(ai 16)]))]))))
 (cn (cu (ai 48) (ah (.int 0))))))
def kC:List V->bw->Res V:=tw [51,52] oN
theorem Lb (x:dI)(hn:0<=n):cb n (kP 28).scope (kP 28).body oN:=by
 conv=>arg 2;whnf
 conv=>arg 3;whnf
 exact(ak (aN (cy aj) (br rfl) rfl () ⋯)
  (ak (cM (dK (eD ()) (λ_=>(.cons (aG rfl) (.cons (aG rfl) .nil))) ⋯) (vI (ag ⋯ (uF (ag ⋯ (eV x 51) (ag ⋯ (eV x 52) aj)) ⋯ ⋯ ⋯ () (x.ns 13) () (x.ns 14)) aj) ⋯ () (x.ns 12)) (ak (gw (kl (ag ⋯ (eV x 50) aj) ⋯ () (x.ns 11)) (d0 ()) (cf (br rfl) rfl ()) (bu (by decide)) trivial (bU (eV x 48) aj ⋯ ⋯ rfl ⋯) (λ_ _=>rfl) (br rfl) rfl () (λenv h=>by cases env;cases h;kernel_rfl))
  (ar (bE (bU (eV x 48) (ag ⋯ (aI (aM (ag ⋯ (eV x 14) aj)) (ba (ag ⋯ (eV x 16) aj) ⋯ () (x.ns 3))) aj) ⋯ ⋯ rfl ⋯) ⋯))) (λ_ _=>rfl))
  (ar (aP (bb (eV x 48) aq (λ_ _=>⟨_,rfl⟩))))))
theorem Lc (x:dI)(hn:1<=n):aZ n 200 kC:=(bV hn (x.fn 28) () λ_ h=>Lb x h).cut
def mV:MS:=
 (aL (cU 1 53 (ai 10) (ai 53))
 (aL (cU 1 54 (ai 10) (ah .none))
 (cU 1 31 (ai 10) (lF .tup))))
def iC:List V->bw->Res V:=cx [10,53] mV
theorem uO (x:dI)(hn:0<=n):cb n (kP 29).scope (kP 29).body mV:=by
 conv=>arg 2;whnf
 conv=>arg 3;whnf
 exact(ak (bG (eV x 10) (eV x 53) (x.cs 1) (br rfl) rfl (x.qS 15) ⋯ ⋯)
  (ak (bG (eV x 10) eo (x.cs 1) (br rfl) rfl (x.qS 16) ⋯ ⋯)
  (ar (bG (eV x 10) (gU .tup) (x.cs 1) (br rfl) rfl (x.qS 17) ⋯ ⋯))))
theorem uP (x:dI)(hn:1<=n):aZ n 214 iC:=bV hn (x.fn 29) () λ_ h=>uO x h
def vV:MS:=
 (aL (fw (bx .Gt (ai 34) (ah (.int 200))) (kq 4) bF)
 (aL (aB (az 54) (bj [(aw 3 34 lP (bc 1 53 (ai 10)) []),(bT .len [(bc 3 29 (bc 1 53 (ai 10)))]),(bc 3 33 (bc 1 53 (ai 10)))]))
 (fw (bx .NotEq (ai 54) (bc 1 54 (ai 10))) (aL (cU 1 54 (ai 10) (ai 54))
 (cU 1 31 (ai 10) (lF .tup))) bF)))
def d6:List V->bw->Res V:=cx [10,34] vV
theorem ED (x:dI)(hn:2<=n):cb n (kP 30).scope (kP 30).body vV:=by
 conv=>arg 2;whnf
 conv=>arg 3;whnf
 exact(ak (bz (aW (eV x 34) (mZ () (x.ns 15) ()) rfl) (ar (zo x)) bg)
  (ak (aN (aM (ag ⋯ (au (aF (eV x 10) (x.cg 1) (br rfl) rfl (x.find 31)) aj ⋯ (zy x (dN hn)) (x.cg 3) (br rfl) rfl (mo (x.find 32) (x.fn 16)) nofun) (ag ⋯ (ba (ag ⋯ (aF (aF (eV x 10) (x.cg 1) (br rfl) rfl (x.find 31)) (x.cg 3) (br rfl) rfl (x.find 15)) aj) ⋯ () (x.ns 2)) (ag ⋯ (aF (aF (eV x 10) (x.cg 1) (br rfl) rfl (x.find 31)) (x.cg 3) (br rfl) rfl (x.find 33)) aj)))) (br rfl) rfl () ⋯)
  (ar (bz (aW (eV x 54) (aF (eV x 10) (x.cg 1) (br rfl) rfl (x.find 34)) rfl) (ak (bG (eV x 10) (eV x 54) (x.cs 1) (br rfl) rfl (x.qS 16) ⋯ ⋯)
  (ar (bG (eV x 10) (gU .tup) (x.cs 1) (br rfl) rfl (x.qS 17) ⋯ ⋯))) bg))))
theorem vW (x:dI)(hn:3<=n):aZ n 221 d6:=bV hn (x.fn 30) () λ_ h=>ED x h
def tG (r:List V->bw->Res V):MS:=
 (aL (fw (rT [(bx .Eq (bT .len [(ai 47)]) (ah (.int 0))),(bx .Lt (ai 34) (bT .len [(ai 47)]))]) (cn (qY (jE [(bx .Eq (ai 34) (ah (.int 0))),(bx .Eq (bT .len [(ai 47)]) (ah (.int 0)))]) (ah (.int 1)) (ah (.int 0)))) bF)
 (aL (aB (az 55) (bj [(ai 47),(ai 34)]))
 (aL (fw (bx .NotIn (ai 55) (bc 1 31 (ai 10))) (aL (fw (bx .Eq (bT .len [(ai 47)]) (ah (.int 1))) (aB (az 2) (bT .sum [(bO [10,34] (az 15) (bl (aw 3 56 c8 (bc 1 53 (ai 10)) [(cu (ai 47) (ah (.int 0)))])) none (aw 1 57 r (ai 10) [(dU 1 (ai 15)),(aU .Sub (ai 34) (ah (.int 1)))]))])) (aL (aB (az 2) (ah (.int 0)))
 (df (az 59) (iZ (ah (.int 1)) (aU .Add (aU .Sub (ai 34) (bT .len [(ai 47)])) (ah (.int 2)))) (aL (aB (az 58) (aw 1 57 r (ai 10) [(iO 1 (ai 47)),(ai 59)]))
 (fw (bx .Gt (ai 58) (ah (.int 0))) (aB (az 2) (aU .Add (ai 2) (aU .Mult (ai 58) (aw 1 57 r (ai 10) [(dU 1 (ai 47)),(aU .Sub (ai 34) (ai 59))])))) bF)))))
 (eR (bc 1 31 (ai 10)) (ai 55) (ai 2))) bF)
 (cn (cu (bc 1 31 (ai 10)) (ai 55))))))
noncomputable def d4:Nat->List V->bw->Res V
 |0=>λ_ _=>.stuck
 |d+1=>cx [10,47,34] (tG (d4 d))
theorem OT (x:dI)(hn:4<=n)(hr:aZ n 240 r):cb n (kP 31).scope (kP 31).body (tG r):=by
 conv=>arg 2;whnf
 conv=>arg 3;whnf
 exact(ak (bz (eQ (aW (ba (ag ⋯ (eV x 47) aj) ⋯ () (x.ns 2)) aq rfl) (eQ (aW (eV x 34) (ba (ag ⋯ (eV x 47) aj) ⋯ () (x.ns 2)) rfl) fJ)) (ar (aP (gh (gS (aW (eV x 34) aq rfl) (gS (aW (ba (ag ⋯ (eV x 47) aj) ⋯ () (x.ns 2)) aq rfl) ix)) aq aq))) bg)
  (ak (aN (aM (ag ⋯ (eV x 47) (ag ⋯ (eV x 34) aj))) (br rfl) rfl () ⋯)
  (ak (bz (aW (eV x 55) (aF (eV x 10) (x.cg 1) (br rfl) rfl (x.find 35)) rfl) (ak (bz (aW (ba (ag ⋯ (eV x 47) aj) ⋯ () (x.ns 2)) aq rfl) (ar (aN (ba (ag ⋯ (cp (bf (au (aF (eV x 10) (x.cg 1) (br rfl) rfl (x.find 31)) (ag ⋯ (bb (eV x 47) aq (λ_ _=>⟨_,rfl⟩)) aj) ⋯ (nA x (dN hn)) (x.cg 3) (br rfl) rfl (mo (x.find 36) (x.fn 26)) nofun)) (d0 ()) (cf (br rfl) rfl ()) (bu (by decide)) trivial (au (eV x 10) (ag ⋯ (dk (eV x 15) (by decide)) (ag ⋯ (aI (eV x 34) aq) aj)) ⋯ hr (x.cg 1) (br rfl) rfl (mo (x.find 37) (x.fn 31)) nofun) (λ_ _=>rfl)) aj) ⋯ () (x.ns 5)) (br rfl) rfl () ⋯)) (ak (aN aq (br rfl) rfl () ⋯)
  (ar (cM (dA (br rfl) rfl ()) (i0 (ag ⋯ aq (ag ⋯ (aI (aI (eV x 34) (ba (ag ⋯ (eV x 47) aj) ⋯ () (x.ns 2))) aq) aj)) ⋯ () (x.ns 11)) (ak (aN (au (eV x 10) (ag ⋯ (m6 (eV x 47)) (ag ⋯ (eV x 59) aj)) ⋯ hr (x.cg 1) (br rfl) rfl (mo (x.find 37) (x.fn 31)) nofun) (br rfl) rfl () ⋯)
  (ar (bz (aW (eV x 58) aq rfl) (ar (aN (aI (eV x 2) (aI (eV x 58) (au (eV x 10) (ag ⋯ (dk (eV x 47) (by decide)) (ag ⋯ (aI (eV x 34) (eV x 59)) aj)) ⋯ hr (x.cg 1) (br rfl) rfl (mo (x.find 37) (x.fn 31)) nofun))) (br rfl) rfl () ⋯)) bg))) (λ_ _=>rfl)))))
  (ar (fc (aF (eV x 10) (x.cg 1) (br rfl) rfl (x.find 35)) (eV x 55) (eV x 2) ⋯))) bg)
  (ar (aP (bb (aF (eV x 10) (x.cg 1) (br rfl) rfl (x.find 35)) (eV x 55) (λ_ _=>⟨_,rfl⟩)))))))
theorem pK (x:dI) :∀(d:Nat) {n:Nat},d+4+1<=n->aZ n 240 (d4 d):=by
 intro y
 induction y with
 |zero=>
  intro _ _;exact λ_ _ _ _ _ _ _ _ _ _ _ _ p=>p.elim
 |succ d ih=>
  intro n hn;obtain⟨m,rfl⟩ :∃m,n=m+1:=⟨n - 1,by exact FA hn⟩;exact kB (x.fn 31) [10,47,34] () (OT x (SV ‹_›) (ih (Nat.le_of_lt_succ hn)))
def pL:MS:=
 (aL (bM (aw 1 60 d6 (ai 10) [(ai 34)]))
 (cn (aw 1 57 (d4 30) (ai 10) [(bj [(aw 3 25 bP (bc 1 53 (ai 10)) [(ai 41)])]),(ai 34)])))
def dS:List V->bw->Res V:=cx [10,41,34] pL
theorem OU (x:dI)(hn:35<=n):cb n (kP 32).scope (kP 32).body pL:=by
 conv=>arg 2;whnf
 conv=>arg 3;whnf
 exact(ak (bE (au (eV x 10) (ag ⋯ (eV x 34) aj) ⋯ (vW x (cX hn)) (x.cg 1) (br rfl) rfl (mo (x.find 38) (x.fn 30)) nofun) ⋯)
  (ar (aP (au (eV x 10) (ag ⋯ (aM (ag ⋯ (au (aF (eV x 10) (x.cg 1) (br rfl) rfl (x.find 31)) (ag ⋯ (eV x 41) aj) ⋯ (eU x (cX hn)) (x.cg 3) (br rfl) rfl (mo (x.find 14) (x.fn 17)) nofun) aj)) (ag ⋯ (eV x 34) aj)) ⋯ (pK x 30 (dN hn)) (x.cg 1) (br rfl) rfl (mo (x.find 37) (x.fn 31)) nofun))))
theorem pM (x:dI)(hn:36<=n):aZ n 228 dS:=bV hn (x.fn 32) () λ_ h=>OU x h
def j7 (r:List V->bw->Res V):MS:=
 (aL (fw (bx .Eq (aw 1 57 (d4 30) (ai 10) [(ai 47),(ai 34)]) (ah (.int 0))) (cn (cZ [])) bF)
 (aL (fw (bx .Eq (bT .len [(ai 47)]) (ah (.int 0))) (cn (cZ [(bj [])])) bF)
 (aL (aB (az 2) (dj []))
 (aL (df (az 59) (iZ (ah (.int 1)) (aU .Add (aU .Sub (ai 34) (bT .len [(ai 47)])) (ah (.int 2)))) (aL (aB (az 61) (BC (iE .Eq (bT .len [(ai 47)]) (ah (.int 1))) (iE .Gt (aw 1 57 (d4 30) (ai 10) [(iO 1 (ai 47)),(ai 59)]) (ah (.int 0)))))
 (aL (aB (az 62) (qY (o7 (ai 61)) (aw 1 63 r (ai 10) [(dU 1 (ai 47)),(aU .Sub (ai 34) (ai 59))]) (cZ [])))
 (fw (bx .NotEq (ai 62) (cZ [])) (df (az 15) (bl (aw 3 56 c8 (bc 1 53 (ai 10)) [(cu (ai 47) (ah (.int 0)))])) (df (az 16) (bl (aw 1 63 r (ai 10) [(dU 1 (ai 15)),(aU .Sub (ai 59) (ah (.int 1)))])) (bM (c6 .extend (ai 2) [(bO [16,15] (az 64) (bl (ai 62)) none (aU .Add (bj [(aU .Add (bj [(cu (ai 15) (ah (.int 0)))]) (ai 16))]) (ai 64)))])))) bF))))
 (cn (ai 2))))))
noncomputable def gj:Nat->List V->bw->Res V
 |0=>λ_ _=>.stuck
 |d+1=>tw [10,47,34] (j7 (gj d))
theorem HM (x:dI)(hn:35<=n)(hr:aZ n 250 r):cb n (kP 33).scope (kP 33).body (j7 r):=by
 conv=>arg 2;whnf
 conv=>arg 3;whnf
 exact(ak (bz (aW (au (eV x 10) (ag ⋯ (eV x 47) (ag ⋯ (eV x 34) aj)) ⋯ (pK x 30 (dN hn)) (x.cg 1) (br rfl) rfl (mo (x.find 37) (x.fn 31)) nofun) aq rfl) (ar (aP (dm aj))) bg)
  (ak (bz (aW (ba (ag ⋯ (eV x 47) aj) ⋯ () (x.ns 2)) aq rfl) (ar (aP (dm (ag ⋯ (aM aj) aj)))) bg)
  (ak (aN (cy aj) (br rfl) rfl () ⋯)
  (ak (cM (dA (br rfl) rfl ()) (i0 (ag ⋯ aq (ag ⋯ (aI (aI (eV x 34) (ba (ag ⋯ (eV x 47) aj) ⋯ () (x.ns 2))) aq) aj)) ⋯ () (x.ns 11)) (ak (aN (Ew (gR (ba (ag ⋯ (eV x 47) aj) ⋯ () (x.ns 2)) aq rfl) (gR (au (eV x 10) (ag ⋯ (m6 (eV x 47)) (ag ⋯ (eV x 59) aj)) ⋯ (pK x 30 (dN hn)) (x.cg 1) (br rfl) rfl (mo (x.find 37) (x.fn 31)) nofun) aq rfl)) (br rfl) rfl () ⋯)
  (ak (aN (gh (md (eV x 61) (λ_ _=>rfl)) (au (eV x 10) (ag ⋯ (dk (eV x 47) (by decide)) (ag ⋯ (aI (eV x 34) (eV x 59)) aj)) ⋯ hr (x.cg 1) (br rfl) rfl (mo (x.find 39) (x.fn 33)) nofun) (dm aj)) (br rfl) rfl () ⋯)
  (ar (bz (aW (eV x 62) (dm aj) rfl) (ar (cM (dA (br rfl) rfl ()) (bf (au (aF (eV x 10) (x.cg 1) (br rfl) rfl (x.find 31)) (ag ⋯ (bb (eV x 47) aq (λ_ _=>⟨_,rfl⟩)) aj) ⋯ (nA x (cX hn)) (x.cg 3) (br rfl) rfl (mo (x.find 36) (x.fn 26)) nofun)) (ar (cM (dA (br rfl) rfl ()) (bf (au (eV x 10) (ag ⋯ (dk (eV x 15) (by decide)) (ag ⋯ (aI (eV x 59) aq) aj)) ⋯ hr (x.cg 1) (br rfl) rfl (mo (x.find 39) (x.fn 33)) nofun)) (ar (bE (bU (eV x 2) (ag ⋯ (cp (bf (eV x 62)) (d0 ()) (cf (br rfl) rfl ()) (bu (by decide)) trivial (aI (aM (ag ⋯ (aI (aM (ag ⋯ (bb (eV x 15) aq (λ_ _=>⟨_,rfl⟩)) aj)) (eV x 16)) aj)) (eV x 64)) (λ_ _=>rfl)) aj) ⋯ ⋯ rfl ⋯) ⋯)) (λ_ _=>rfl))) (λ_ _=>rfl))) bg)))) (λ_ _=>rfl))
  (ar (aP (eV x 2)))))))
theorem HN (x:dI) :∀(d:Nat) {n:Nat},d+35+1<=n->aZ n 250 (gj d):=by
 intro y
 induction y with
 |zero=>
  intro _ _;exact λ_ _ _ _ _ _ _ _ _ _ _ _ p=>p.elim
 |succ d ih=>
  intro n hn;obtain⟨m,rfl⟩ :∃m,n=m+1:=⟨n - 1,by exact FA hn⟩;exact(kB (x.fn 33) [10,47,34] () (HM x (SV ‹_›) (ih (Nat.le_of_lt_succ hn)))).cut
def zF:MS:=
 (aL (fw (bx .Gt (aw 1 50 dS (ai 10) [(ai 41),(ai 34)]) (ah (.int 10000))) (kq 4) bF)
 (cn (j3 (bO [] (az 16) (bl (aw 1 63 (gj 30) (ai 10) [(bj [(aw 3 25 bP (bc 1 53 (ai 10)) [(ai 41)])]),(ai 34)])) none (cu (ai 16) (ah (.int 0)))) gI)))
def hJ:List V->bw->Res V:=cx [10,41,34] zF
theorem HO (x:dI)(hn:66<=n):cb (n+1) (kP 34).scope (kP 34).body zF:=by
 conv=>arg 2;whnf
 conv=>arg 3;whnf
 exact(ak (bz (aW (au (eV x 10) (ag ⋯ (eV x 41) (ag ⋯ (eV x 34) aj)) ⋯ (pM x (by lia)) (x.cg 1) (br rfl) rfl (mo (x.find 40) (x.fn 32)) nofun) (mZ () (x.ns 16) ()) rfl) (ar (xA x)) bg)
  (ar (aP (uH (n:=n) (ag ⋯ (cp (bf (au (eV x 10) (ag ⋯ (aM (ag ⋯ (au (aF (eV x 10) (x.cg 1) (br rfl) rfl (x.find 31)) (ag ⋯ (eV x 41) aj) ⋯ (eU x (by lia)) (x.cg 3) (br rfl) rfl (mo (x.find 14) (x.fn 17)) nofun) aj)) (ag ⋯ (eV x 34) aj)) ⋯ (HN x 30 (Nat.le_add_right_of_le hn)) (x.cg 1) (br rfl) rfl (mo (x.find 39) (x.fn 33)) nofun)) (d0 ()) (cf (br rfl) rfl ()) (bu (by decide)) trivial (bb (eV x 16) aq (λ_ _=>⟨_,rfl⟩)) (λ_ _=>rfl)) aj) ⋯ ⋯ (zp x (cX hn)) () (x.ns 7) () (x.ns 17) ()))))
theorem HP (x:dI)(hn:68<=n):aZ n 245 hJ:=by
 obtain⟨m,rfl⟩ :∃m,n=m+1+1:=⟨n - 2,by exact Nk hn⟩;exact kB (x.fn 34) [10,41,34] () (HO x (q78 ‹_›))
def jh:MS:=
 (aL (fw (bx .Gt (bT .len [(ai 65)]) (ah (.int 10000))) wY bF)
 (aL (aB (az 2) (lF .str))
 (aL (df (bp [47,52]) (bl (ai 65)) (df (az 15) (bl (aw 3 56 c8 (bc 1 53 (ai 10)) [(cu (ai 47) (ah (.int 0)))])) (aL (aB (az 62) (aU .Add (dU 1 (ai 15)) (dU 1 (ai 47))))
 (fw (bx .Gt (aw 1 57 (d4 30) (ai 10) [(ai 62),(aU .Sub (ai 34) (ah (.int 1)))]) (ah (.int 0))) (bM (c6 .append (ip ic td (ai 2) [(cu (ai 15) (ah (.int 0))),(dj [])]) [(bj [(ai 62),(aU .Add (ai 52) (bj [(aU .Sub (bT .len [(ai 15)]) (ah (.int 1)))]))])])) bF))))
 (cn (bO [2] (az 14) (bl (xY kM [(ai 2)])) none (bj [(ai 14),(cu (ai 2) (ai 14))]))))))
def iq:List V->bw->Res V:=tw [10,65,34] jh
theorem BG (x:dI)(hn:35<=n):cb n (kP 35).scope (kP 35).body jh:=by
 conv=>arg 2;whnf
 conv=>arg 3;whnf
 exact(ak (bz (aW (ba (ag ⋯ (eV x 65) aj) ⋯ () (x.ns 2)) (mZ () (x.ns 18) ()) rfl) (ar lG) bg)
  (ak (aN (gU .str) (br rfl) rfl () ⋯)
  (ak (cM (dK (eD ()) (λ_=>(.cons (aG rfl) (.cons (aG rfl) .nil))) ⋯) (bf (eV x 65)) (ar (cM (dA (br rfl) rfl ()) (bf (au (aF (eV x 10) (x.cg 1) (br rfl) rfl (x.find 31)) (ag ⋯ (bb (eV x 47) aq (λ_ _=>⟨_,rfl⟩)) aj) ⋯ (nA x (cX hn)) (x.cg 3) (br rfl) rfl (mo (x.find 36) (x.fn 26)) nofun)) (ak (aN (aI (dk (eV x 15) (by decide)) (dk (eV x 47) (by decide))) (br rfl) rfl () ⋯)
  (ar (bz (aW (au (eV x 10) (ag ⋯ (eV x 62) (ag ⋯ (aI (eV x 34) aq) aj)) ⋯ (pK x 30 (dN hn)) (x.cg 1) (br rfl) rfl (mo (x.find 37) (x.fn 31)) nofun) aq rfl) (ar (bE (bU (iK Ei (eV x 2) (ag ⋯ (bb (eV x 15) aq (λ_ _=>⟨_,rfl⟩)) (ag ⋯ (cy aj) aj)) ⋯ ⋯ rfl ⋯) (ag ⋯ (aM (ag ⋯ (eV x 62) (ag ⋯ (aI (eV x 52) (aM (ag ⋯ (aI (ba (ag ⋯ (eV x 15) aj) ⋯ () (x.ns 2)) aq) aj))) aj))) aj) ⋯ ⋯ rfl ⋯) ⋯)) bg))) (λ_ _=>rfl))) (λ_ _=>rfl))
  (ar (aP (cp (bf (oF (.inl ⟨_,rfl⟩) xm (by decide +kernel) (by decide) rfl (ag ⋯ (eV x 2) aj) ⋯ () (x.ns 7))) (d0 ()) (cf (br rfl) rfl ()) (bu (by decide)) trivial (aM (ag ⋯ (eV x 14) (ag ⋯ (bb (eV x 2) (eV x 14) (λ_ _=>⟨_,rfl⟩)) aj))) (λ_ _=>rfl)))))))
theorem tH (x:dI)(hn:36<=n):aZ n 255 iq:=(bV hn (x.fn 35) () λ_ h=>BG x h).cut
def M4:MS:=
 (aL (fw (rS (jD .LtE .Lt (ah (.int 0)) (ai 4) (aw 1 50 dS (ai 10) [(ai 41),(ai 34)]))) (cn (ah .none)) bF)
 (aL (cO (dZ [65,51]) (bj [(cZ [(bj [(bj [(aw 3 25 bP (bc 1 53 (ai 10)) [(ai 41)])]),(bj [])])]),(dj [])]))
 (aL (df (az 66) (jq (ai 34) (ah (.int 0)) (gY (ah (.int 1)))) (df (bp [14,62]) (bl (aw 1 67 iq (ai 10) [(ai 65),(ai 66)])) (aL (aB (az 50) (bT .sum [(bO [66,10] (bp [47,52]) (bl (ai 62)) none (aw 1 57 (d4 30) (ai 10) [(ai 47),(aU .Sub (ai 66) (ah (.int 1)))]))]))
 (aL (fw (bx .Lt (ai 4) (ai 50)) (aL (bM (c6 .append (ai 51) [(ai 14)]))
 (aL (aB (az 65) (ai 62))
 pE)) bF)
 (aB (az 4) (aU .Sub (ai 4) (ai 50)))))))
 (cn (bW kC [(ai 51),(cu (xY kM [(bO [] (bp [47,52]) (bl (ai 65)) none (ai 52))]) (ai 4))])))))
def iQ:List V->bw->Res V:=cx [10,41,34,4] M4
theorem R0 (x:dI)(hn:36<=n):cb n (kP 36).scope (kP 36).body M4:=by
 conv=>arg 2;whnf
 conv=>arg 3;whnf
 exact(ak (bz (l0 (k8 aq (eV x 4) (au (eV x 10) (ag ⋯ (eV x 41) (ag ⋯ (eV x 34) aj)) ⋯ (pM x (dN hn)) (x.cg 1) (br rfl) rfl (mo (x.find 40) (x.fn 32)) nofun) rfl)) (ar (aP eo)) bg)
  (ak (dE (aM (ag ⋯ (dm (ag ⋯ (aM (ag ⋯ (aM (ag ⋯ (au (aF (eV x 10) (x.cg 1) (br rfl) rfl (x.find 31)) (ag ⋯ (eV x 41) aj) ⋯ (eU x (cX hn)) (x.cg 3) (br rfl) rfl (mo (x.find 14) (x.fn 17)) nofun) aj)) (ag ⋯ (aM aj) aj))) aj)) (ag ⋯ (cy aj) aj))) (eD ()) ⋯ (λenv h=>by cases env;cases h;kernel_rfl))
  (ak (cM (dA (br rfl) rfl ()) (oh (ag ⋯ (eV x 34) (ag ⋯ aq (ag ⋯ (eA aq) aj))) ⋯ () (x.ns 11)) (ar (cM (dK (eD ()) (λ_=>(.cons (aG rfl) (.cons (aG rfl) .nil))) ⋯) (bf (au (eV x 10) (ag ⋯ (eV x 65) (ag ⋯ (eV x 66) aj)) ⋯ (tH x (dN hn)) (x.cg 1) (br rfl) rfl (mo (x.find 41) (x.fn 35)) nofun)) (ak (aN (ba (ag ⋯ (cp (bf (eV x 62)) (d0 ()) (gv (pG ()) (λ_=>(.cons (aG rfl) (.cons (aG rfl) .nil))) ⋯) (eI (by decide)) trivial (au (eV x 10) (ag ⋯ (eV x 47) (ag ⋯ (aI (eV x 66) aq) aj)) ⋯ (pK x 30 (cX hn)) (x.cg 1) (br rfl) rfl (mo (x.find 37) (x.fn 31)) nofun) (λ_ _=>rfl)) aj) ⋯ () (x.ns 5)) (br rfl) rfl () ⋯)
  (ak (bz (aW (eV x 4) (eV x 50) rfl) (ak (bE (bU (eV x 51) (ag ⋯ (eV x 14) aj) ⋯ ⋯ rfl ⋯) ⋯)
  (ak (aN (eV x 62) (br rfl) rfl () ⋯)
  (ar pF))) bg)
  (ar (aN (aI (eV x 4) (eV x 50)) (br rfl) rfl () ⋯)))) (λ_ _=>rfl))) (λ_ _=>rfl))
  (ar (aP (cw (ag ⋯ (eV x 51) (ag ⋯ (bb (oF (.inl ⟨_,rfl⟩) xm (by decide +kernel) (by decide) rfl (ag ⋯ (cp (bf (eV x 65)) (d0 ()) (gv (pG ()) (λ_=>(.cons (aG rfl) (.cons (aG rfl) .nil))) ⋯) (eI (by decide)) trivial (eV x 52) (λ_ _=>rfl)) aj) ⋯ () (x.ns 7)) (eV x 4) (λ_ _=>⟨_,rfl⟩)) aj)) ⋯ (Lc x (Nat.one_le_of_lt hn)) (x.fn 28).keep () (x.ns 19) ()))))))
theorem zG (x:dI)(hn:37<=n):aZ n 260 iQ:=bV hn (x.fn 36) () λ_ h=>R0 x h
def kD (r:List V->bw->Res V):MS:=
 (aL (aB (az 16) (bO [10] (az 7) (bl (dU 1 (ai 43))) none (aw 1 68 r (ai 10) [(ai 7)])))
 (cn (qY (bx .In (gY (ah (.int 1))) (ai 16)) (gY (ah (.int 1))) (aw 3 69 ew (bc 1 53 (ai 10)) [(cu (ai 43) (ah (.int 0))),(bT .tuple [(ai 16)])]))))
noncomputable def fg:Nat->List V->bw->Res V
 |0=>λ_ _=>.stuck
 |d+1=>cx [10,43] (kD (fg d))
theorem BH (x:dI)(hn:3<=n)(hr:aZ n 265 r):cb n (kP 37).scope (kP 37).body (kD r):=by
 conv=>arg 2;whnf
 conv=>arg 3;whnf
 exact(ak (gw (bf (dk (eV x 43) (by decide))) (d0 ()) (cf (br rfl) rfl ()) (bu (by decide)) trivial (au (eV x 10) (ag ⋯ (eV x 7) aj) ⋯ hr (x.cg 1) (br rfl) rfl (mo (x.find 42) (x.fn 37)) nofun) (λ_ _=>rfl) (br rfl) rfl () (λenv h=>by cases env;cases h;kernel_rfl))
  (ar (aP (gh (aW (eA aq) (eV x 16) rfl) (eA aq) (au (aF (eV x 10) (x.cg 1) (br rfl) rfl (x.find 31)) (ag ⋯ (bb (eV x 43) aq (λ_ _=>⟨_,rfl⟩)) (ag ⋯ (ba (ag ⋯ (eV x 16) aj) ⋯ () (x.ns 3)) aj)) ⋯ (zE x (dN hn)) (x.cg 3) (br rfl) rfl (mo (x.find 43) (x.fn 27)) nofun)))))
theorem BI (x:dI) :∀(d:Nat) {n:Nat},d+3+1<=n->aZ n 265 (fg d):=by
 intro y
 induction y with
 |zero=>
  intro _ _;exact λ_ _ _ _ _ _ _ _ _ _ _ _ p=>p.elim
 |succ d ih=>
  intro n hn;obtain⟨m,rfl⟩ :∃m,n=m+1:=⟨n - 1,by exact FA hn⟩;exact kB (x.fn 37) [10,43] () (BH x (SV ‹_›) (ih (Nat.le_of_lt_succ hn)))
def oO:MS:=
 (aL (cO (bp [34,51,16]) (bW gI [(ai 43)]))
 (aL (bM (aw 1 60 d6 (ai 10) [(ai 34)]))
 (aL (aB (az 41) (aw 1 68 (fg 8) (ai 10) [(ai 43)]))
 (aL (fw (bx .Lt (ai 41) (ah (.int 0))) (cn (ah .none)) bF)
 (aL (cO (dZ [65,4]) (bj [(cZ [(bj [(bj [(ai 41)]),(bj [])])]),(ah (.int 0))]))
 (aL (df (bp [70,58]) (kO (ai 51)) (aL (aB (az 66) (aU .Sub (ai 34) (ai 70)))
 (df (bp [14,62]) (bl (aw 1 67 iq (ai 10) [(ai 65),(ai 66)])) (aL (fw (bx .Eq (ai 14) (ai 58)) (aL (aB (az 65) (ai 62))
 pE) bF)
 (aB (az 4) (aU .Add (ai 4) (bT .sum [(bO [66,10] (bp [47,52]) (bl (ai 62)) none (aw 1 57 (d4 30) (ai 10) [(ai 47),(aU .Sub (ai 66) (ah (.int 1)))]))])))))))
 (cn (bj [(ai 34),(aU .Add (ai 4) (bT .len [(bO [16] (bp [47,52]) (bl (ai 65)) (some (Ox (ai 52) (ai 16))) (ai 52))]))]))))))))
def j8:List V->bw->Res V:=cx [10,43] oO
theorem HQ (x:dI)(hn:36<=n):cb n (kP 38).scope (kP 38).body oO:=by
 conv=>arg 2;whnf
 conv=>arg 3;whnf
 exact(ak (gu (dK (eD ()) (λ_=>(.cons (aG rfl) (.cons (aG rfl) (.cons (aG rfl) .nil)))) ⋯) (cw (ag ⋯ (eV x 43) aj) ⋯ (zp x (cX hn)) (x.fn 2).keep () (x.ns 17) ()) ⋯ (λ_ _=>rfl))
  (ak (bE (au (eV x 10) (ag ⋯ (eV x 34) aj) ⋯ (vW x (cX hn)) (x.cg 1) (br rfl) rfl (mo (x.find 38) (x.fn 30)) nofun) ⋯)
  (ak (aN (au (eV x 10) (ag ⋯ (eV x 43) aj) ⋯ (BI x 8 (cX hn)) (x.cg 1) (br rfl) rfl (mo (x.find 42) (x.fn 37)) nofun) (br rfl) rfl () ⋯)
  (ak (bz (aW (eV x 41) aq rfl) (ar (aP eo)) bg)
  (ak (dE (aM (ag ⋯ (dm (ag ⋯ (aM (ag ⋯ (aM (ag ⋯ (eV x 41) aj)) (ag ⋯ (aM aj) aj))) aj)) (ag ⋯ aq aj))) (eD ()) ⋯ (λenv h=>by cases env;cases h;kernel_rfl))
  (ak (mP (dK (eD ()) (λ_=>(.cons (aG rfl) (.cons (aG rfl) .nil))) ⋯) (ag ⋯ (eV x 51) aj) ⋯ (ak (aN (aI (eV x 34) (eV x 70)) (br rfl) rfl () ⋯)
  (ar (cM (dK (eD ()) (λ_=>(.cons (aG rfl) (.cons (aG rfl) .nil))) ⋯) (bf (au (eV x 10) (ag ⋯ (eV x 65) (ag ⋯ (eV x 66) aj)) ⋯ (tH x (dN hn)) (x.cg 1) (br rfl) rfl (mo (x.find 41) (x.fn 35)) nofun)) (ak (bz (aW (eV x 14) (eV x 58) rfl) (ak (aN (eV x 62) (br rfl) rfl () ⋯)
  (ar pF)) bg)
  (ar (aN (aI (eV x 4) (ba (ag ⋯ (cp (bf (eV x 62)) (d0 ()) (gv (pG ()) (λ_=>(.cons (aG rfl) (.cons (aG rfl) .nil))) ⋯) (eI (by decide)) trivial (au (eV x 10) (ag ⋯ (eV x 47) (ag ⋯ (aI (eV x 66) aq) aj)) ⋯ (pK x 30 (cX hn)) (x.cg 1) (br rfl) rfl (mo (x.find 37) (x.fn 31)) nofun) (λ_ _=>rfl)) aj) ⋯ () (x.ns 5))) (br rfl) rfl () ⋯))) (λ_ _=>rfl)))) () (x.ns 1))
  (ar (aP (aM (ag ⋯ (eV x 34) (ag ⋯ (aI (eV x 4) (ba (ag ⋯ (cp (bf (eV x 65)) (d0 ()) (gv (pG ()) (λ_=>(.cons (aG rfl) (.cons (aG rfl) .nil))) ⋯) (eI (by decide)) (Eo (eV x 52) (eV x 16) rfl) (eV x 52) (λ_ _=>rfl)) aj) ⋯ () (x.ns 2))) aj)))))))))))
theorem zH (x:dI)(hn:37<=n):aZ n 270 j8:=bV hn (x.fn 38) () λ_ h=>HQ x h
def CV:MS:=
 (aL (eR (ai 71) (ah (.int 1)) (aU .Add (cu (ai 71) (ah (.int 1))) (ah (.int 1))))
 (aL (fw (bx .LtE (cu (ai 71) (ah (.int 1))) (bT .len [(cu (ai 71) (ah (.int 0)))])) (cn (aU .Mod (cu (cu (ai 71) (ah (.int 0))) (aU .Sub (cu (ai 71) (ah (.int 1))) (ah (.int 1)))) (ai 50))) bF)
 (cn (aU .Mod (aU .FloorDiv (aU .Add (aU .Add (aU .Add (aU .Mult (aU .Mult (ah (.int 6)) (cu (ai 71) (ah (.int 1)))) (cu (ai 71) (ah (.int 1)))) (aU .Mult (ah (.int 7)) (cu (ai 71) (ah (.int 1))))) (ah (.int 5))) (aU .Mult (ah (.int 3)) (bT .len [(cu (ai 71) (ah (.int 0)))]))) (ah (.int 4))) (ai 50)))))
def jx:List V->bw->Res V:=cx [71,50] CV
theorem Ld (x:dI)(hn:0<=n):cb n (kP 39).scope (kP 39).body CV:=by
 conv=>arg 2;whnf
 conv=>arg 3;whnf
 exact(ak (fc (eV x 71) aq (aI (bb (eV x 71) aq (λ_ _=>⟨_,rfl⟩)) aq) ⋯)
  (ak (bz (aW (bb (eV x 71) aq (λ_ _=>⟨_,rfl⟩)) (ba (ag ⋯ (bb (eV x 71) aq (λ_ _=>⟨_,rfl⟩)) aj) ⋯ () (x.ns 2)) rfl) (ar (aP (aI (bb (bb (eV x 71) aq (λ_ _=>⟨_,rfl⟩)) (aI (bb (eV x 71) aq (λ_ _=>⟨_,rfl⟩)) aq) (λ_ _=>⟨_,rfl⟩)) (eV x 50)))) bg)
  (ar (aP (aI (aI (aI (aI (aI (aI (aI aq (bb (eV x 71) aq (λ_ _=>⟨_,rfl⟩))) (bb (eV x 71) aq (λ_ _=>⟨_,rfl⟩))) (aI aq (bb (eV x 71) aq (λ_ _=>⟨_,rfl⟩)))) aq) (aI aq (ba (ag ⋯ (bb (eV x 71) aq (λ_ _=>⟨_,rfl⟩)) aj) ⋯ () (x.ns 2)))) aq) (eV x 50))))))
theorem rn (x:dI)(hn:1<=n):aZ n 496 jx:=bV hn (x.fn 39) () λ_ h=>Ld x h
end
section
local macro_rules | `(⋯)=>`(λ_=>rfl)
local macro_rules | `(())=>`(by kernel_rfl)
local macro_rules | `(nofun)=>`(λ_=>⟨_,rfl⟩)
def vX:MS:=
 (aL (aB (az 2) (xn (bj [(ah (.int 0)),(ah (.int 0))]) (ah (.int 1))))
 (aL (df (az 9) (iZ (ah (.int 1)) (aU .Add (ai 75) (ah (.int 1)))) (df (az 73) (iZ (ah (.int 1)) (aU .Add (ai 75) (ah (.int 2)))) (aL (aB (az 72) (ip ic pD (ai 2) [(bj [(aU .Add (ai 73) (ah (.int 1))),(aU .Sub (ai 9) (ah (.int 1)))]),(ah (.int 0))]))
 (eR (ai 2) (bj [(ai 73),(ai 9)]) (aU .Add (aU .Mult (ai 74) (ip ic pD (ai 2) [(bj [(aU .Sub (ai 73) (ah (.int 1))),(aU .Sub (ai 9) (ah (.int 1)))]),(ah (.int 0))])) (ai 72))))))
 (cn (ai 2))))
def gW:List V->bw->Res V:=cx [74,75] vX
theorem EE (x:dI)(hn:0<=n):cb n (kP 40).scope (kP 40).body vX:=by
 conv=>arg 2;whnf
 conv=>arg 3;whnf
 exact(ak (aN (ze (aM (ag ⋯ aq (ag ⋯ aq aj))) aq) (br rfl) rfl () ⋯)
  (ak (cM (dA (br rfl) rfl ()) (i0 (ag ⋯ aq (ag ⋯ (aI (eV x 75) aq) aj)) ⋯ () (x.ns 11)) (ar (cM (dA (br rfl) rfl ()) (i0 (ag ⋯ aq (ag ⋯ (aI (eV x 75) aq) aj)) ⋯ () (x.ns 11)) (ak (aN (iK oG (eV x 2) (ag ⋯ (aM (ag ⋯ (aI (eV x 73) aq) (ag ⋯ (aI (eV x 9) aq) aj))) (ag ⋯ aq aj)) ⋯ ⋯ rfl ⋯) (br rfl) rfl () ⋯)
  (ar (fc (eV x 2) (aM (ag ⋯ (eV x 73) (ag ⋯ (eV x 9) aj))) (aI (aI (eV x 74) (iK oG (eV x 2) (ag ⋯ (aM (ag ⋯ (aI (eV x 73) aq) (ag ⋯ (aI (eV x 9) aq) aj))) (ag ⋯ aq aj)) ⋯ ⋯ rfl ⋯)) (eV x 72)) ⋯))) (λ_ _=>rfl))) (λ_ _=>rfl))
  (ar (aP (eV x 2)))))
theorem vY (x:dI)(hn:1<=n):aZ n 503 gW:=bV hn (x.fn 40) () λ_ h=>EE x h
def rq:MS:=
 (aL (cO (bp [76,73]) (bj [(ah (.str [])),(ah (.int 1))]))
 (aL (df (az 66) (jq (aU .Sub (ai 9) (ah (.int 1))) (gY (ah (.int 1))) (gY (ah (.int 1)))) (df (az 1) (bl (qe (xY kM [(ai 74)]) (cZ [(ah (.str [112]))]))) (aL (aB (az 62) (ip ic pD (ai 77) [(bj [(aU .Add (ai 73) (qY (bx .Eq (ai 1) (ah (.str [112]))) (ah (.int 1)) (gY (ah (.int 1))))),(ai 66)]),(ah (.int 0))]))
 (aL (fw (bx .Lt (ai 49) (ai 62)) (aL (cO (dZ [76,73]) (bj [(aU .Add (ai 76) (ai 1)),(aU .Add (ai 73) (qY (bx .Eq (ai 1) (ah (.str [112]))) (ah (.int 1)) (gY (ah (.int 1)))))]))
 pE) bF)
 (aB (az 49) (aU .Sub (ai 49) (ai 62)))))))
 (cn (ai 76))))
def jy:List V->bw->Res V:=cx [74,77,9,49] rq
theorem Le (x:dI)(hn:0<=n):cb n (kP 41).scope (kP 41).body rq:=by
 conv=>arg 2;whnf
 conv=>arg 3;whnf
 exact(ak (gu (dK (eD ()) (λ_=>(.cons (aG rfl) (.cons (aG rfl) .nil))) ⋯) (aM (ag ⋯ (cY ()) (ag ⋯ aq aj))) ⋯ (λenv h=>by cases env;cases h;kernel_rfl))
  (ak (cM (dA (br rfl) rfl ()) (oh (ag ⋯ (aI (eV x 9) aq) (ag ⋯ (eA aq) (ag ⋯ (eA aq) aj))) ⋯ () (x.ns 11)) (ar (cM (dA (br rfl) rfl ()) (bf (nz (oF (.inl ⟨_,rfl⟩) xm (by decide +kernel) (by decide) rfl (ag ⋯ (eV x 74) aj) ⋯ () (x.ns 7)) (dm (ag ⋯ (cY ()) aj)))) (ak (aN (iK oG (eV x 77) (ag ⋯ (aM (ag ⋯ (aI (eV x 73) (gh (aW (eV x 1) (cY ()) rfl) aq (eA aq))) (ag ⋯ (eV x 66) aj))) (ag ⋯ aq aj)) ⋯ ⋯ rfl ⋯) (br rfl) rfl () ⋯)
  (ak (bz (aW (eV x 49) (eV x 62) rfl) (ak (dE (aM (ag ⋯ (aI (eV x 76) (eV x 1)) (ag ⋯ (aI (eV x 73) (gh (aW (eV x 1) (cY ()) rfl) aq (eA aq))) aj))) (eD ()) ⋯ (λenv h=>by cases env;cases h;kernel_rfl))
  (ar pF)) bg)
  (ar (aN (aI (eV x 49) (eV x 62)) (br rfl) rfl () ⋯)))) (λ_ _=>rfl))) (λ_ _=>rfl))
  (ar (aP (eV x 76)))))
theorem CW (x:dI)(hn:1<=n):aZ n 510 jy:=bV hn (x.fn 41) () λ_ h=>Le x h
def tI:MS:=
 (aL (aB (az 48) (dj []))
 (aL (df (az 1) (qP (ai 76)) (bM (c6 .append (ai 48) [(qY (bx .Eq (ai 1) (ah (.str [112]))) (bj [(ai 1),(c6 .pop (ai 48) []),(c6 .pop (ai 48) [])]) (bj [(ai 1)]))])))
 (cn (cu (ai 48) (ah (.int 0))))))
def lU:List V->bw->Res V:=tw [76] tI
theorem OV (x:dI)(hn:0<=n):cb n (kP 42).scope (kP 42).body tI:=by
 conv=>arg 2;whnf
 conv=>arg 3;whnf
 exact(ak (aN (cy aj) (br rfl) rfl () ⋯)
  (ak (cM (dA (br rfl) rfl ()) (vI (ag ⋯ (eV x 76) aj) ⋯ () (x.ns 12)) (ar (bE (bU (eV x 48) (ag ⋯ (gh (aW (eV x 1) (cY ()) rfl) (aM (ag ⋯ (eV x 1) (ag ⋯ (bU (eV x 48) aj ⋯ ⋯ rfl ⋯) (ag ⋯ (bU (eV x 48) aj ⋯ ⋯ rfl ⋯) aj)))) (aM (ag ⋯ (eV x 1) aj))) aj) ⋯ ⋯ rfl ⋯) ⋯)) (λ_ _=>rfl))
  (ar (aP (bb (eV x 48) aq (λ_ _=>⟨_,rfl⟩))))))
theorem HR (x:dI)(hn:1<=n):aZ n 517 lU:=(bV hn (x.fn 42) () λ_ h=>OV x h).cut
def HT:MS:=
 (aL (aB (az 2) (ah .none))
 (aL (DY 4 (aB (az 2) (aw 1 80 hJ (ai 78) [(ai 41),(ai 79)])) λfr U=>.next (aE fr 2 .none) U)
 (cn (ai 2))))
def nB:List V->bw->Res V:=cx [78,41,79] HT
theorem OW (x:dI)(hn:68<=n):cb n (kP 43).scope (kP 43).body HT:=by
 conv=>arg 2;whnf
 conv=>arg 3;whnf
 exact(ak (aN eo (br rfl) rfl () ⋯)
  (ak (Be (ar (aN (au (eV x 78) (ag ⋯ (eV x 41) (ag ⋯ (eV x 79) aj)) ⋯ (HP x (dN hn)) (x.cg 1) (br rfl) rfl (mo (x.find 44) (x.fn 34)) nofun) (br rfl) rfl () ⋯)) (ur (br rfl) rfl ()) () (x.ns 20) () x.F.ex.Mr CO)
  (ar (aP (eV x 2)))))
theorem OX (x:dI)(hn:69<=n):aZ n 524 nB:=bV hn (x.fn 43) () λ_ h=>OW x h
def CX:MS:=
 (aL (aB (az 77) (bW gW [(bT .len [(ai 74)]),(ah (.int 11))]))
 (aL (aB (az 50) (cu (ai 77) (bj [(ah (.int 1)),(ai 79)])))
 (aL (aB (az 81) (bW lU [(bW jy [(ai 74),(ai 77),(ai 79),(ai 49)])]))
 (aL (fw (jE [(bx .Eq (ai 82) (ah (.int 1))),(bx .NotEq (aw 1 83 j8 (ai 78) [(ai 81)]) (bj [(ai 79),(ai 49)]))]) (cn (ah (.bool false))) bF)
 (aL (fw (bx .Eq (ai 82) (ah (.int 2))) (aL (aB (az 84) (bW nB [(ai 78),(ai 41),(ai 79)]))
 (fw (rT [(bx .NotEq (iE .Is (ai 84) (ah .none)) (iE .Gt (ai 50) (ah (.int 10000)))),(jE [(bx .LtE (ai 50) (ah (.int 60))),(bx .NotEq (ai 84) (bO [77,74,79] (az 4) (iY (ai 50)) none (bW lU [(bW jy [(ai 74),(ai 77),(ai 79),(ai 4)])])))])]) (cn (ah (.bool false))) bF)) bF)
 (aL (fw (rT [(bx .NotEq (aw 1 85 iQ (ai 78) [(ai 41),(ai 79),(ai 49)]) (ai 81)),(bx .NotEq (aw 1 83 j8 (ai 78) [(ai 81)]) (bj [(ai 79),(ai 49)]))]) (cn (ah (.bool false))) bF)
 (aL (fw (rT [(bx .NotEq (aw 1 50 dS (ai 78) [(ai 41),(ai 79)]) (ai 50)),(bx .NotEq (aw 1 50 dS (ai 78) [(ai 41),(aU .Add (ai 79) (ah (.int 1)))]) (ah (.int 0)))]) (cn (ah (.bool false))) bF)
 (aL (aB (az 86) (bO [41,78,79] (az 4) (bl (bj [(gY (ah (.int 1))),(gY (ah (.int 2))),(gY (ai 50)),(aU .Sub (gY (ai 50)) (ah (.int 5))),(ai 50),(aU .Add (ai 50) (ah (.int 7)))])) none (aw 1 85 iQ (ai 78) [(ai 41),(ai 79),(ai 4)])))
 (cn (uY (iE .Eq (bO [] (az 62) (bl (ai 86)) (some (bx .IsNot (ai 62) (ah .none))) (ai 62)) (cZ [])) (iE .Is (aw 1 85 iQ (ai 78) [(ai 41),(ah (.int 0)),(ah (.int 0))]) (ah .none))))))))))))
def kE:List V->bw->Res V:=cx [78,41,74,79,49,82] CX
theorem Lf (x:dI)(hn:69<=n):cb n (kP 44).scope (kP 44).body CX:=by
 conv=>arg 2;whnf
 conv=>arg 3;whnf
 exact(ak (aN (cw (ag ⋯ (ba (ag ⋯ (eV x 74) aj) ⋯ () (x.ns 2)) (ag ⋯ aq aj)) ⋯ (vY x (Nat.one_le_of_lt hn)) (x.fn 40).keep () (x.ns 21) ()) (br rfl) rfl () ⋯)
  (ak (aN (bb (eV x 77) (aM (ag ⋯ aq (ag ⋯ (eV x 79) aj))) (λ_ _=>⟨_,rfl⟩)) (br rfl) rfl () ⋯)
  (ak (aN (cw (ag ⋯ (cw (ag ⋯ (eV x 74) (ag ⋯ (eV x 77) (ag ⋯ (eV x 79) (ag ⋯ (eV x 49) aj)))) ⋯ (CW x (Nat.one_le_of_lt hn)) (x.fn 41).keep () (x.ns 22) ()) aj) ⋯ (HR x (Nat.one_le_of_lt hn)) (x.fn 42).keep () (x.ns 23) ()) (br rfl) rfl () ⋯)
  (ak (bz (gS (aW (eV x 82) aq rfl) (gS (aW (au (eV x 78) (ag ⋯ (eV x 81) aj) ⋯ (zH x (cX hn)) (x.cg 1) (br rfl) rfl (mo (x.find 45) (x.fn 38)) nofun) (aM (ag ⋯ (eV x 79) (ag ⋯ (eV x 49) aj))) rfl) ix)) (ar (aP gf)) bg)
  (ak (bz (aW (eV x 82) aq rfl) (ak (aN (cw (ag ⋯ (eV x 78) (ag ⋯ (eV x 41) (ag ⋯ (eV x 79) aj))) ⋯ (OX x (dN hn)) (x.fn 43).keep () (x.ns 24) ()) (br rfl) rfl () ⋯)
  (ar (bz (eQ (aW (gR (eV x 84) eo rfl) (gR (eV x 50) aq rfl) rfl) (eQ (gS (aW (eV x 50) aq rfl) (gS (aW (eV x 84) (cp (kl (ag ⋯ (eV x 50) aj) ⋯ () (x.ns 11)) (d0 ()) (cf (br rfl) rfl ()) (bu (by decide)) trivial (cw (ag ⋯ (cw (ag ⋯ (eV x 74) (ag ⋯ (eV x 77) (ag ⋯ (eV x 79) (ag ⋯ (eV x 4) aj)))) ⋯ (CW x (Nat.one_le_of_lt hn)) (x.fn 41).keep () (x.ns 22) ()) aj) ⋯ (HR x (Nat.one_le_of_lt hn)) (x.fn 42).keep () (x.ns 23) ()) (λ_ _=>rfl)) rfl) ix)) fJ)) (ar (aP gf)) bg))) bg)
  (ak (bz (eQ (aW (au (eV x 78) (ag ⋯ (eV x 41) (ag ⋯ (eV x 79) (ag ⋯ (eV x 49) aj))) ⋯ (zG x (cX hn)) (x.cg 1) (br rfl) rfl (mo (x.find 46) (x.fn 36)) nofun) (eV x 81) rfl) (eQ (aW (au (eV x 78) (ag ⋯ (eV x 81) aj) ⋯ (zH x (cX hn)) (x.cg 1) (br rfl) rfl (mo (x.find 45) (x.fn 38)) nofun) (aM (ag ⋯ (eV x 79) (ag ⋯ (eV x 49) aj))) rfl) fJ)) (ar (aP gf)) bg)
  (ak (bz (eQ (aW (au (eV x 78) (ag ⋯ (eV x 41) (ag ⋯ (eV x 79) aj)) ⋯ (pM x (cX hn)) (x.cg 1) (br rfl) rfl (mo (x.find 40) (x.fn 32)) nofun) (eV x 50) rfl) (eQ (aW (au (eV x 78) (ag ⋯ (eV x 41) (ag ⋯ (aI (eV x 79) aq) aj)) ⋯ (pM x (cX hn)) (x.cg 1) (br rfl) rfl (mo (x.find 40) (x.fn 32)) nofun) aq rfl) fJ)) (ar (aP gf)) bg)
  (ak (gw (bf (aM (ag ⋯ (eA aq) (ag ⋯ (eA aq) (ag ⋯ (eA (eV x 50)) (ag ⋯ (aI (eA (eV x 50)) aq) (ag ⋯ (eV x 50) (ag ⋯ (aI (eV x 50) aq) aj)))))))) (d0 ()) (cf (br rfl) rfl ()) (bu (by decide)) trivial (au (eV x 78) (ag ⋯ (eV x 41) (ag ⋯ (eV x 79) (ag ⋯ (eV x 4) aj))) ⋯ (zG x (cX hn)) (x.cg 1) (br rfl) rfl (mo (x.find 46) (x.fn 36)) nofun) (λ_ _=>rfl) (br rfl) rfl () (λenv h=>by cases env;cases h;kernel_rfl))
  (ar (aP (rX (gR (cp (bf (eV x 86)) (d0 ()) (cf (br rfl) rfl ()) (bu (by decide)) (aW (eV x 62) eo rfl) (eV x 62) (λ_ _=>rfl)) (dm aj) rfl) (gR (au (eV x 78) (ag ⋯ (eV x 41) (ag ⋯ aq (ag ⋯ aq aj))) ⋯ (zG x (cX hn)) (x.cg 1) (br rfl) rfl (mo (x.find 46) (x.fn 36)) nofun) eo rfl))))))))))))
theorem Lg (x:dI)(hn:70<=n):aZ n 536 kE:=bV hn (x.fn 44) () λ_ h=>Lf x h
def CY:MS:=
 (aL (cO (dZ [71,53]) (bj [(dj [(bO [] (az 87) (bl (iO 40 (ai 88))) none (aU .Mod (xY G6 [(ai 87)]) (ah (.int 5040)))),(ah (.int 0))]),(bW (sI 3 jw) [])]))
 (aL (cO (bp [89,90]) (bj [(aw 3 44 (lR 2) (ai 53) [(bj [(ah (.str [97]))])]),(aw 3 44 (lR 2) (ai 53) [(bj [(ah (.str [122]))])])]))
 (aL (bM (aw 3 36 eW (ai 53) [(ai 89),(aw 3 45 CU (ai 53) [(ah (.str [112])),(bj [(ai 89),(ai 89)])]),(bj [(ah (.str [116,111,108,100])),(ah (.str [116]))])]))
 (aL (bM (aw 3 91 j6 (ai 53) []))
 (aL (cO (bp [78,92]) (bj [(bW (sI 1 iC) [(ai 53)]),(CI (cZ [(ah (.str [98])),(ah (.str [99]))]) (aU .Sub (ah (.int 1)) (aU .Mult (ah (.int 2)) (bW jx [(ai 71),(ah (.int 2))]))))]))
 (aL (df (az 93) (iY (ah (.int 3))) (aL (fw (bx .Gt (ai 93) (ah (.int 0))) (aL (bM (aw 3 36 eW (ai 53) [(aw 3 44 (lR 2) (ai 53) [(bj [(cu (ai 92) (aU .Sub (ai 93) (ah (.int 1))))])]),(ai 89),(bj [(ah (.str [116,111,108,100])),(ah (.str [116]))])]))
 (bM (aw 3 91 j6 (ai 53) []))) bF)
 (aL (cO (dZ [74,79]) (bj [(qe (cZ [(ah (.str [97]))]) (xq (ai 92) (ai 93))),(aU .Add (ah (.int 1)) (aU .Mult (ah (.int 2)) (bW jx [(ai 71),(ah (.int 6))])))]))
 (aL (aB (az 50) (cu (bW gW [(bT .len [(ai 74)]),(ah (.int 11))]) (bj [(ah (.int 1)),(ai 79)])))
 (aL (cO (dZ [49,82]) (bj [(bW jx [(ai 71),(ai 50)]),(bW jx [(ai 71),(ah (.int 3))])]))
 (aL (fw (jE [(bx .Eq (ai 82) (ah (.int 2))),(jD .Lt .LtE (ah (.int 60)) (ai 50) (ah (.int 10000)))]) (aB (az 82) (ah (.int 0))) bF)
 (fw (rS (o7 (bW kE [(ai 78),(ai 89),(ai 74),(ai 79),(ai 49),(ai 82)]))) (cn (ah (.bool false))) bF)))))))
 (fw (rT [(bx .NotEq (aw 1 50 dS (ai 78) [(ai 90),(ah (.int 200))]) (ah (.int 0))),(bx .IsNot (aw 1 85 iQ (ai 78) [(ai 90),(ah (.int 200)),(ah (.int 0))]) (ah .none))]) (cn (ah (.bool false))) bF)))))))
theorem R7 (x:dI)(hn:70<=n):cb n (kP 45).scope (kP 45).body.dropLast CY:=by
 conv=>arg 2;whnf
 conv=>arg 3;whnf
 exact(ak (dE (aM (ag ⋯ (cy (ag ⋯ (cp (bf (m6 (eV x 88))) (d0 ()) (cf (br rfl) rfl ()) (bu (by decide)) trivial (aI (oF (.inr ⟨_,rfl⟩) Ow (by decide +kernel) (by decide) rfl (ag ⋯ (eV x 87) aj) ⋯ () (x.ns 25)) aq) (λ_ _=>rfl)) (ag ⋯ aq aj))) (ag ⋯ (cw aj ⋯ (x.cc 3 (cX hn) (zw x (n:=3) (Nat.le_of_ble_eq_true rfl)) (x.fn 15).typ) (x.ck 3) () (x.ns 26) ()) aj))) (eD ()) ⋯ (λenv h=>by cases env;cases h;kernel_rfl))
  (ak (gu (dK (eD ()) (λ_=>(.cons (aG rfl) (.cons (aG rfl) .nil))) ⋯) (aM (ag ⋯ (au (eV x 53) (ag ⋯ (aM (ag ⋯ (cY ()) aj)) aj) ⋯ (HK x 2 (cX hn)) (x.cg 3) (br rfl) rfl (mo (x.find 27) (x.fn 22)) nofun) (ag ⋯ (au (eV x 53) (ag ⋯ (aM (ag ⋯ (cY ()) aj)) aj) ⋯ (HK x 2 (cX hn)) (x.cg 3) (br rfl) rfl (mo (x.find 27) (x.fn 22)) nofun) aj))) ⋯ (λenv h=>by cases env;cases h;kernel_rfl))
  (ak (bE (au (eV x 53) (ag ⋯ (eV x 89) (ag ⋯ (au (eV x 53) (ag ⋯ (cY ()) (ag ⋯ (aM (ag ⋯ (eV x 89) (ag ⋯ (eV x 89) aj))) aj)) ⋯ (M1 x (cX hn)) (x.cg 3) (br rfl) rfl (mo (x.find 28) (x.fn 21)) nofun) (ag ⋯ (aM (ag ⋯ (cY ()) (ag ⋯ (cY ()) aj))) aj))) ⋯ (oM x (cX hn)) (x.cg 3) (br rfl) rfl (mo (x.find 47) (x.fn 23)) nofun) ⋯)
  (ak (bE (au (eV x 53) aj ⋯ (zC x (cX hn)) (x.cg 3) (br rfl) rfl (mo (x.find 48) (x.fn 24)) nofun) ⋯)
  (ak (gu (dK (eD ()) (λ_=>(.cons (aG rfl) (.cons (aG rfl) .nil))) ⋯) (aM (ag ⋯ (cw (ag ⋯ (eV x 53) aj) ⋯ (x.cc 1 (cX hn) (uP x (n:=1) (Nat.le_of_ble_eq_true rfl)) (x.fn 29).typ) (x.ck 1) () (x.ns 27) ()) (ag ⋯ (Bv (dm (ag ⋯ (cY ()) (ag ⋯ (cY ()) aj))) (aI aq (aI aq (cw (ag ⋯ (eV x 71) (ag ⋯ aq aj)) ⋯ (rn x (Nat.one_le_of_lt hn)) (x.fn 39).keep () (x.ns 28) ())))) aj))) ⋯ (λenv h=>by cases env;cases h;kernel_rfl))
  (ak (cM (dA (br rfl) rfl ()) (kl (ag ⋯ aq aj) ⋯ () (x.ns 11)) (ak (bz (aW (eV x 93) aq rfl) (ak (bE (au (eV x 53) (ag ⋯ (au (eV x 53) (ag ⋯ (aM (ag ⋯ (bb (eV x 92) (aI (eV x 93) aq) (λ_ _=>⟨_,rfl⟩)) aj)) aj) ⋯ (HK x 2 (cX hn)) (x.cg 3) (br rfl) rfl (mo (x.find 27) (x.fn 22)) nofun) (ag ⋯ (eV x 89) (ag ⋯ (aM (ag ⋯ (cY ()) (ag ⋯ (cY ()) aj))) aj))) ⋯ (oM x (cX hn)) (x.cg 3) (br rfl) rfl (mo (x.find 47) (x.fn 23)) nofun) ⋯)
  (ar (bE (au (eV x 53) aj ⋯ (zC x (cX hn)) (x.cg 3) (br rfl) rfl (mo (x.find 48) (x.fn 24)) nofun) ⋯))) bg)
  (ak (dE (aM (ag ⋯ (nz (dm (ag ⋯ (cY ()) aj)) (zf (eV x 92) (eV x 93))) (ag ⋯ (aI aq (aI aq (cw (ag ⋯ (eV x 71) (ag ⋯ aq aj)) ⋯ (rn x (Nat.one_le_of_lt hn)) (x.fn 39).keep () (x.ns 28) ()))) aj))) (eD ()) ⋯ (λenv h=>by cases env;cases h;kernel_rfl))
  (ak (aN (bb (cw (ag ⋯ (ba (ag ⋯ (eV x 74) aj) ⋯ () (x.ns 2)) (ag ⋯ aq aj)) ⋯ (vY x (Nat.one_le_of_lt hn)) (x.fn 40).keep () (x.ns 21) ()) (aM (ag ⋯ aq (ag ⋯ (eV x 79) aj))) (λ_ _=>⟨_,rfl⟩)) (br rfl) rfl () ⋯)
  (ak (dE (aM (ag ⋯ (cw (ag ⋯ (eV x 71) (ag ⋯ (eV x 50) aj)) ⋯ (rn x (Nat.one_le_of_lt hn)) (x.fn 39).keep () (x.ns 28) ()) (ag ⋯ (cw (ag ⋯ (eV x 71) (ag ⋯ aq aj)) ⋯ (rn x (Nat.one_le_of_lt hn)) (x.fn 39).keep () (x.ns 28) ()) aj))) (eD ()) ⋯ (λenv h=>by cases env;cases h;kernel_rfl))
  (ak (bz (gS (aW (eV x 82) aq rfl) (gS (k8 aq (eV x 50) aq rfl) ix)) (ar (aN aq (br rfl) rfl () ⋯)) bg)
  (ar (bz (l0 (md (cw (ag ⋯ (eV x 78) (ag ⋯ (eV x 89) (ag ⋯ (eV x 74) (ag ⋯ (eV x 79) (ag ⋯ (eV x 49) (ag ⋯ (eV x 82) aj)))))) ⋯ (Lg x (dN hn)) (x.fn 44).keep () (x.ns 29) ()) (λ_ _=>rfl))) (ar (aP gf)) bg))))))) (λ_ _=>rfl))
  (ar (bz (eQ (aW (au (eV x 78) (ag ⋯ (eV x 90) (ag ⋯ aq aj)) ⋯ (pM x (cX hn)) (x.cg 1) (br rfl) rfl (mo (x.find 40) (x.fn 32)) nofun) aq rfl) (eQ (aW (au (eV x 78) (ag ⋯ (eV x 90) (ag ⋯ aq (ag ⋯ aq aj))) ⋯ (zG x (cX hn)) (x.cg 1) (br rfl) rfl (mo (x.find 46) (x.fn 36)) nofun) eo rfl) fJ)) (ar (aP gf)) bg))))))))
end
structure zI (jO sc:Scope)(dq:List Nat):Prop where
 co:jO.isCoroutine=false
 gen:jO.isGenerator=false
 kind:jO.kind=.function
 sA :∀y∈jO.names,y.2≠.cell
 nodup :(jO.names.map (·.1)).Nodup
 free :∀y∈jO.names,y.2=.free->sc.names.lookup y.1=some .cell
 dq :∀j∈dq,(W.nm j,NameKind.free)∈jO.names/\jO.names.lookup (W.nm j)=some .free
def HU (jO sc:Scope)(dq:List Nat):Bool:=
 !jO.isCoroutine&&!jO.isGenerator&&decide (jO.kind=.function)&&jO.names.all (λy=>!decide (y.2=.cell))&&decide (jO.names.map (·.1)).Nodup&&
  jO.names.all (λy=>!decide (y.2=.free)||decide (sc.names.lookup y.1=some .cell))&&dq.all λj=>decide ((yd j,NameKind.free)∈jO.names)&&decide (jO.names.lookup (yd j)=some .free)
theorem zJ (dq:List Nat)(h:HU jO sc dq=true):zI jO sc dq:=by
 refine cq λG hG=>?_;simp only[HU,Bool.and_eq_true,decide_eq_true_eq,List.all_eq_true,Bool.or_eq_true,Bool.not_eq_true',decide_eq_false_iff_not] at h;obtain⟨⟨⟨⟨⟨⟨h0,h1⟩,h2⟩,h3⟩,h4⟩,h5⟩,h6⟩:=h;refine hG ?_;exact⟨h0,h1,h2,h3,h4,λy hy e=>(h5 y hy).resolve_left λq=>q e,h6⟩
theorem zK (h :∀y∈jO.names,y.2≠.cell)(x:Str):jO.names.lookup x≠some .cell:=λe=>h _ (mem_of_lookup e) rfl
noncomputable def HV (P:Arguments)(n:Str):Bool:=P.posonlyargs.isEmpty&&P.vararg.isNone&&P.kwonlyargs.isEmpty&&P.kw_defaults.isEmpty&&P.kwarg.isNone&&P.defaults.isEmpty&&decide (P.args.map (·.arg)=[n])
section
variable {x:dI}
theorem tJ (x:dI){body:Expr}{Lh:Pos}(ok:b8 (n+2) a)(S:St Z U s)(F:FS a fr Z s.heap)(hx:a.env.scope.names.lookup (ofString "_law_is_refused")=some .globalImplicit)(hr:nsIn W.K mainGlobals (ofString "_law_is_refused")=some (some (.ref 531)))(hl:nsIn W.K mainGlobals (ofString "LimitFault")=some (some (.ref 72)))(vN:a.env.code=.ref 540)(C:CodeHd s.heap 540 538)(hP:s.heap.get? 538=some (tabObj ps))(ht:TriplesOk ps.toList)(MI:codeAmong Lh ps.toList=none)(TG:W.h₀.get? 538=none)(HB:W.h₀.BuiltinsAt W.mg 538)(ls:zI jO a.env.scope dq)(hE:cm n jO body fe)(he:fe (jN fr dq) U=.exc 4 bB)(FN:Ao W.K 531 (hY 26))(h :∀bK s' c',St bK bB s'->FS a fr bK s'.heap->s'.heap.get? 538=some (tabObj (ps++#[rawInt Lh.line,rawInt Lh.col,.ref c']))->CodeHd s'.heap 540 538->Q (.bool true) s') :
  wpAny bQ a.A (eval (.Call (.Name (ofString "_law_is_refused") np) [.Lambda zk body jO Lh] [] pos) a.env) Q E s:=by
 refine Call_Name rfl (i4 ok S hx hr (by kernel_rfl) ?_);refine callWith_of (P:=W.K.In) rfl (keeps_K FN.keep) (c7 rfl (args_cons (Hs ok S F vN C hP ht MI TG HB ls.free λc' OI tk H1 x7 K5 Ht Y0 C1 S1 F1 sd=>args_nil ⟨x.O.X.keeps S1.heap.base,?_⟩) rfl));refine cq λG hG=>?_;obtain⟨o,fd,ho,Gz,e1,e2,e3,e4,e5,e6,e7,e8,e9⟩:=FN.fd;have sE :∀y c,(y,c)∈jX a.env.cells jO.names []->(y,c)∈a.env.cells:=λy c hm=>by
  rcases sC hm with z|⟨z1,z2⟩
  .cases z
  .obtain⟨c2,xU⟩:=F.laid y (ls.free _ z1 rfl)
   rw[xU] at z2;exact rl z2<|mem_of_lookup xU
 have hb:=(rfl :(hY 26).body =(hY 26).body);refine hG ?_
 conv at hb=>rhs;whnf
 rw[hb] at e1;have q1 :((hY 26).scope.names.all λy=>!decide (y.2=.cell))=true:=by kernel_rfl
 simp only[List.all_eq_true,Bool.not_eq_true',decide_eq_false_iff_not] at q1;have q2:HV (hY 26).params (ofString "ask")=true:=by kernel_rfl
 have R8 :∀(M:Model) (A:Around) (Q:List (Str×Value)->Shared->Prop) (E:iN) (s:Shared),Q [(ofString "ask",.ref x7)] s->wpAny M A (bindArgs fd ⟨[.ref x7],[]⟩) Q E s:=λM A Q E s hq=>by
  generalize (hY 26).params=P at q2 e3;obtain⟨a1,a2,a3,a4,a5,a6,a7⟩:=P;simp only[HV,Bool.and_eq_true,decide_eq_true_eq,List.isEmpty_iff,Option.isNone_iff_eq_none] at q2;obtain⟨⟨⟨⟨⟨⟨rfl,rfl⟩,rfl⟩,rfl⟩,rfl⟩,rfl⟩,h8⟩:=q2;refine tA e3 e7 (rl h8<|List.nodup_cons.mpr ⟨λh=>(nomatch h),.nil⟩) (by have:=aR List.length h8;rw[cL] at this;exact this.symm) ?_
  exact rl h8<|hq
 refine PySem.wpAny_call (BD (n:=n) (c:=4) (bB:=bB) ho Gz e1 e2 e4 e5 e6 e9 R8 (by kernel_rfl) (by kernel_rfl) (by kernel_rfl) q1 (zK q1) (by kernel_rfl) (by kernel_rfl) hl (by kernel_rfl) (by kernel_rfl) (λ_=>rfl) (x.F.ex.Mr:W.K.lookup (W.cls 4)=_) CO ok.torR S1 F1.live K5 rfl
  (λA' l' s1 R room S1' L1' k hR=>?_) λbK s' S' x'=>?_)
 .have lu :∀{c:Addr} {v:Option Value},H1.IsCell c v->s1.heap.IsCell c v:=λ{c v} ⟨o,ho,hd⟩=>⟨o,k _ _ ho,hd⟩
  refine cq λG hG=>?_;obtain⟨c2,oc,vc,tq,r1,r2,r3⟩:=Ht;refine hG ?_;refine Hw (cG:=jN fr dq) room S1' L1' (k _ _ K5) ⟨c2,oc,vc,tq,r1,k _ _ r2,r3⟩ ls.co ls.gen ls.kind ls.sA (zK ls.sA) (λy c hy=>?_) ?_ (λi v ei=>?_) hE he hR
  .obtain⟨w1,w2,v,w3⟩:=F1.cells y c (sE y c hy)
   exact⟨w1,w2,v,lu w3⟩
  .have h1:=sD (cells:=a.env.cells) (bh:=[]) ls.nodup .nil (by simp)
   exact List.Pairwise.imp_of_mem (λ{x y} hx hy dg=>vn F.apart (sE x.1 x.2 hx) (sE y.1 y.2 hy) dg) h1
  .obtain⟨hj,hl⟩:=ko ei
   refine cq λG hG=>?_;obtain⟨QU,VQ⟩:=ls.dq i hj;obtain⟨_,_,hv⟩:=F1.ns;obtain⟨hi,rv⟩:=hv i v hl;have hk:a.env.kindOf (W.nm i)=some .cell:=ls.free _ QU rfl;unfold iD at rv;rw[hk] at rv;obtain⟨c,mv,w1,w2,w3⟩:=rv;refine hG ?_;refine⟨hi,VQ,c,mv,?_,lu w2,w3.eN (cE.of_keeps (D:=[]) k).jQ⟩;exact rl (lz QU)<|rl w1 rfl
 .have nP:538∉bH Z:=λhm=>by
   obtain⟨ob,e,q⟩:=S1.heap.gK hm;rw[Y0] at e;injection e with e;subst e;rcases q with q |q <;> simp at q
  refine cq λG hG=>?_;obtain⟨o',vs,Hu,tf,zm,tg,RW,Hv,tt,z1,z2,z3,z4⟩:=C1;have W9:540∉bH Z:=λhm=>by
   obtain⟨ob,e,q⟩:=S1.heap.gK hm;rw[z1] at e;injection e with e;subst e;rw[z2] at q;rcases q with q |q <;> simp at q
  refine hG ?_;exact h bK s' c' S' (F1.ext x') (x'.keep _ _ Y0 nP rfl) ⟨o',vs,Hu,tf,zm,tg,RW,Hv,tt,x'.keep _ _ z1 W9 (aR eJ z3),z2,z3,z4⟩
end
set_option tactic.hygienic true
theorem Li (h:Heap) :(Ap h).In h:=by
 have :∀l:List Addr,∀a o,(l.filterMap λa=>(h.get? a).map λo=>(a,o)).lookup a=some o->h.get? a=some o:=by
  intro l
  induction l with
  |nil=>intro a o e;injection e
  |cons b l ih=>
   intro a o e;rw[List.filterMap_cons] at e
   cases hb:h.get? b with
   |none=>rw[hb] at e;exact ih a o e
   |some x=>
    rw[hb] at e;simp only[Option.map_some,List.lookup_cons] at e
    split at e
    .rename_i q;injection e with e;subst e;exact rl (beq_iff_eq.mp q)<|hb
    .exact ih a o e
 exact this _
theorem R9 {K:Frag}{a:Addr}{P:iU}(e:FK K a=FL P):Ao K a P:=by
 unfold FK FL at e;simp only[Prod.mk.injEq] at e;obtain⟨e1,e2,e3⟩:=e;refine⟨e1,e2,?_⟩
 split at e3
 .rename_i c d fd sl ho
  simp only[Option.some.injEq,Prod.mk.injEq] at e3;obtain⟨h1,h2,h3,h4,h5,h6,h7,h8,h9⟩:=e3;exact⟨_,fd,ho,rfl,h1,h2,h3,h4,h5,h6,h7,h8,h9⟩
 .injection e3
theorem OY {K:Frag}{c f:Addr}(e:Ar K c=As f):FH K c f:=by
 unfold Ar As at e;simp only[Prod.mk.injEq,List.cons.injEq,and_true] at e;obtain⟨⟨h1,h2,h3,h4,h5⟩,h6,h7⟩:=e;exact⟨h1,h2,h3,h4,h5,h6,h7⟩
theorem EF {K:Frag}(e:Av K=Aw):keepIn K (.ref 72)=true/\ExcAt K:=by
 unfold Av Aw at e;simp only[Prod.mk.injEq,List.cons.injEq,and_true] at e;obtain⟨⟨h2,h3,h4⟩,⟨h5,h6,h7⟩,h8,h9,ud,h11,h12,h13,Xa⟩:=e;refine⟨h2,h5,h6,?_,h7,h4,h9,ud,h11,h12,h13,Xa⟩
 split at h8
 .rename_i c d vs sl ho
  simp only[Option.some.injEq,Prod.mk.injEq] at h8;obtain⟨rfl,rfl,rfl,q⟩:=h8;exact⟨vs,_,ho,q,h3⟩
 .injection h8
theorem HW {K:Frag}(e:Ax K=Ay):uU K:=by
 unfold Ax Ay at e;simp only[Prod.mk.injEq,List.map_inj_left,List.mem_range] at e;obtain⟨h1,h2,h3,h4,h5,h6⟩:=e;obtain⟨b,c⟩:=EF h6;exact⟨h1,h2,h3,λk hk=>OY (h4 k hk),λi hi=>R9 (h5 i hi),b,c⟩
theorem Lj (h:Heap) :(Ap h).lookup 538=none:=by
 have :∀l:List Addr,538∉l->(l.filterMap λa=>(h.get? a).map λo=>(a,o)).lookup 538=none:=by
  intro l
  induction l with
  |nil=>intro _;rfl
  |cons b l ih=>
   intro hn;have h1:538≠b:=λz=>hn (z▸.head _);have h2:538∉l:=λz=>hn (.tail _ z);refine rl List.filterMap_cons ?_
   cases hb:h.get? b with
   |none=>exact ih h2
   |some x=>
    simp only[Option.map_some,List.lookup_cons];exact rl (show((538:Addr) == b)=false from beq_eq_false_iff_ne.mpr h1)<|ih h2
 exact this _ (by decide +kernel)
theorem Lk {h:Heap}(e:wC h=wD):CodeHd h 540 538:=by
 unfold wC wD at e
 split at e
 .rename_i c d vs sl ho
  simp only[Option.some.injEq,Prod.mk.injEq,List.cons.injEq,and_true] at e;obtain⟨h1,h2,h3,h4,h5,h6,h7⟩:=e;exact⟨_,vs,_,_,_,_,_,_,_,ho,h1,rfl,h2,h3,h4,h5,h6,h7,by decide⟩
 .injection e
theorem BJ {h:Heap}{v:Value}(e:wF h=some v) :∃o fd,h.get? 541=some o/\o.data=.func fd/\fd.code=v:=by
 unfold wF at e
 split at e
 .rename_i c d fd sl ho
  exact⟨_,fd,ho,rfl,Option.some.inj e⟩
 .injection e
theorem Xb (w:World)(s:Shared)(e:Yf s=Ya w):YP w s.heap:=by
 unfold Yf Ya at e;simp only[Prod.mk.injEq] at e;exact⟨⟨_,Li _,HW e.1,Lj _⟩,Option.isSome_iff_exists.mp e.2.1,Lk e.2.2.1,e.2.2.2.1,BJ e.2.2.2.2⟩
theorem Ll (w:World)(h h':Heap)(y:YP w h)(k :∀b o,h.get? b=some o->h'.get? b=some o):YP w h':=by
 obtain⟨⟨K,x,F,n⟩,⟨o,ho⟩,c,t,ol,fd,hl,r⟩:=y;exact⟨⟨K,x.keeps k,F,n⟩,⟨o,k _ _ ho⟩,c.keeps k,k _ _ t,ol,fd,k _ _ hl,r⟩
set_option tactic.hygienic false
noncomputable def fo (L:Nat):Nat->Nat->Nat
 |0,t=>if t=0 then 1 else 0
 |n+1,t=>if t=0 then 0 else L * fo L n (t - 1)+fo L n (t+1)
noncomputable def fY (w:Nat):List Nat->Nat->Option Nat×Nat
 |[],k=>(none,k)
 |l::ls,k=>if k<w then (some l,k) else fY w ls (k - w)
noncomputable def aX (ls:List Nat):Nat->Nat->Nat->List Nat
 |0,_,_=>[]
 |n+1,t,k=>match fY (fo ls.length n (t - 1)) ls k with
  | (some l,k')=>l::aX ls n (t - 1) k'
  | (none,k')=>112::aX ls n (t+1) k'
inductive T where
 |leaf (l:Nat)
 |node (a b:T)
noncomputable def T.pre:T->List Nat
 |.leaf l=>[l]
 |.node a b=>112 ::(a.pre++b.pre)
def HX (ts:List T):List Nat:=ts.flatMap T.pre
noncomputable def fZ (s:Nat)(st:List T):List T:=if s=112 then (match st with |a::b::r=>.node a b::r |_=>[]) else .leaf s::st
def gm (ss:List Nat):List T:=ss.foldr fZ []
theorem ji {w:Nat} :∀{ls:List Nat} {k l k':Nat},fY w ls k =(some l,k')->l∈ls/\k'<w:=by
 intro y
 induction y with
 |nil=>
  intro _ _ _ e
  cases e
 |cons a ls ih=>
  intro k l k' e;replace e :(if k<w then (some a,k) else fY w ls (k - w)) =(some l,k'):=e;by_cases hk:k<w
  .rw[aA hk] at e;injection e with e1 e2;injection e1 with e1;subst e1;subst e2;exact⟨.head _,hk⟩
  .rw[ax hk] at e;exact⟨.tail _ (ih e).1,(ih e).2⟩
theorem kF {w:Nat} :∀{k k':Nat},fY w ls k =(none,k')->k=k'+ls.length * w:=by
 induction ls with
 |nil=>intro k k' e;injection e with _ e;subst e;exact(aR (k + ·) (Nat.zero_mul w)).symm
 |cons a ls ih=>
  intro k k' e;replace e :(if k<w then (some a,k) else fY w ls (k - w)) =(none,k'):=e;by_cases h:k<w
  .rw[aA h] at e;injection e with e _;injection e
  .rw[ax h] at e
   have:=ih e;rw[List.length_cons,Nat.succ_mul];exact Ul h (ih e)
theorem xC (L n:Nat):fo L n 0=if n=0 then 1 else 0:=by cases n <;> simp[fo]
theorem oQ (hM:112∉ls) :∀(n t k:Nat),k<fo ls.length n t->∃ts:List T,ts.length=t/\gm (aX ls n t k)=ts/\HX ts=aX ls n t k:=by
 intro y
 induction y with
 |zero=>
  intro t k h;have ht:t=0:=by
   replace h:k<(if t=0 then 1 else 0):=h;by_cases ht:t=0
   .exact ht
   .rw[ax ht] at h;exact absurd h (Nat.not_lt_zero _)
  subst ht;exact⟨[],rfl,rfl,rfl⟩
 |succ n ih=>
  intro t k h;have ht:t≠0:=λz=>absurd (Nat.lt_of_lt_of_eq h (aA z)) (Nat.not_lt_zero _);have h':k<ls.length * fo ls.length n (t - 1)+fo ls.length n (t+1):=by
   exact Nat.lt_of_lt_of_eq h (ax ht)
  unfold aX
  cases hp:fY (fo ls.length n (t - 1)) ls k with
  |mk o k'=>
  cases o with
  |some l=>
   obtain⟨h1,h2⟩:=ji hp;obtain⟨ts,e1,e2,e3⟩:=ih (t - 1) k' h2;have hl:l≠112:=λz=>hM (z▸h1);refine⟨.leaf l::ts,by rw[List.length_cons];exact Uo ht e1,?_,?_⟩
   .show fZ l (gm (aX ls n (t - 1) k'))=_
    rw[e2];unfold fZ;rw[ax hl]
   .show [l]++HX ts=_
    rw[e3];rfl
  |none=>
   have h1:=kF hp;obtain⟨ts,e1,e2,e3⟩:=ih (t+1) k' (Ds h' h1)
   match ts,e1 with
   |a::b::r,e1=>
    refine⟨.node a b::r,by simp only[List.length_cons] at e1 ⊢;exact Nat.add_right_cancel e1,?_,?_⟩
    .show fZ 112 (gm (aX ls n (t+1) k'))=_
     rw[e2];rfl
    .show 112 ::(a.pre++b.pre)++HX r=112::aX ls n (t+1) k'
     rw[<- e3];show _=112 ::(a.pre++(b.pre++HX r));simp
   |[a],e1=>simp only[List.length_cons,List.length_nil] at e1;lia
   |[],e1=>simp only[List.length_nil] at e1;lia
theorem j9 (ls:List Nat) :∀(n t k:Nat),(aX ls n t k).length=n:=by
 intro y
 induction y with
 |zero=>
  intro _ _;exact rfl
 |succ n ih=>
  intro t k;unfold aX
  cases fY (fo ls.length n (t - 1)) ls k with
  |mk o k'=>cases o <;> simp[ih]
theorem Lm (L:Nat)(f g:Y->Nat) :∀l:List Y,(l.map λx=>L * f x+g x).sum=L * (l.map f).sum+(l.map g).sum:=by
 intro y
 induction y with
 |nil=>
  exact rfl
 |cons x l ih=>
  simp only[List.map_cons,List.sum_cons,ih,Nat.mul_add];exact Nat.add_add_add_comm (L * f x) (g x) (L * (List.map f l).sum) (List.map g l).sum
theorem pN {f g:Y->Nat} :∀{l:List Y},(∀x∈l,f x=g x)->(l.map f).sum =(l.map g).sum:=by
 intro y
 induction y with
 |nil=>
  intro _;exact rfl
 |cons x l ih=>
  intro h;simp only[List.map_cons,List.sum_cons,h x (.head _),ih λy hy=>h y (.tail _ hy)]
theorem conv (L:Nat) :∀(n a b:Nat),((List.range (n+1)).map λf=>fo L f a * fo L (n - f) b).sum=fo L n (a+b):=by
 intro y
 induction y with
 |zero=>
  intro a b
  cases a <;> cases b <;> simp[fo,List.range_succ]
 |succ n ih=>
  intro a b;rw[List.range_succ_eq_map,List.map_cons,List.sum_cons,List.map_map];have e :((List.range (n+1)).map ((λf=>fo L f a * fo L (n+1 - f) b)∘Nat.succ)).sum =((List.range (n+1)).map λf=>fo L (f+1) a * fo L (n - f) b).sum:=
   pN λf _=>by show fo L (f+1) a * fo L (n+1 - (f+1)) b=_;rw[Nat.add_sub_add_right]
  rw[e]
  cases a with
  |zero=>
   have e2 :((List.range (n+1)).map λf=>fo L (f+1) 0 * fo L (n - f) b).sum =((List.range (n+1)).map λ_=>0).sum:=pN λf _=>by simp[fo]
   have e3 :∀l:List Nat,(l.map λ_=>0).sum=0:=λl=>by induction l with |nil=>rfl |cons x l ih=>simpa using ih
   rw[e2,e3];simp[xC]
  |succ a=>
   have e2 :((List.range (n+1)).map λf=>fo L (f+1) (a+1) * fo L (n - f) b).sum=L * ((List.range (n+1)).map λf=>fo L f a * fo L (n - f) b).sum+((List.range (n+1)).map λf=>fo L f (a+2) * fo L (n - f) b).sum:=by
    rw[<- Lm];refine pN λf _=>?_;show(if a+1=0 then 0 else L * fo L f (a+1 - 1)+fo L f (a+1+1)) * _=_;rw[ax (Nat.succ_ne_zero _),Nat.add_mul,Nat.mul_assoc];rfl
   rw[e2,ih a b,ih (a+2) b];show(if a+1=0 then 1 else 0) * _+_ =(if a+1+b=0 then 0 else L * fo L n (a+1+b - 1)+fo L n (a+1+b+1));rw[ax (Nat.succ_ne_zero _),ax (NeZero.ne (a+1+b)),Nat.zero_mul,Nat.zero_add,show a+1+b - 1=a+b by exact Nat.succ_add_sub_one b a,show a+1+b+1=a+2+b by lia]
theorem xD (L:Nat) :∀(n t:Nat),n<t->fo L n t=0:=by
 intro y
 induction y with
 |zero=>
  intro t h;unfold fo;rw[ax (Nat.ne_zero_of_lt h)]
 |succ n ih=>
  intro t h;unfold fo;rw[ax (Nat.ne_zero_of_lt h),ih (t - 1) (Ui h),ih (t+1) (q71 ‹_›)];simp
theorem xE (L n t:Nat)(h:1<=t):fo L (n+1) t=L * fo L n (t - 1)+fo L n (t+1):=by
 show(if t=0 then 0 else _)=_;rw[ax (Nat.ne_zero_of_lt h)]
theorem HY (h:L<=3) :∀(n t:Nat),fo L n t<=4 ^ n:=by
 intro y
 induction y with
 |zero=>
  intro t;unfold fo;split <;> simp
 |succ n ih=>
  intro t;show(if t=0 then 0 else _)<=_
  split
  .exact Nat.zero_le _
  .have h1:=ih (t - 1)
   have h2:=ih (t+1);have h3:L * fo L n (t - 1)<=3 * 4 ^ n:=Nat.mul_le_mul h h1;rw[Nat.pow_succ];exact UI (ih (t+1)) h3
theorem BL (L s t:Nat)(h1:1<=t)(h:t<=s) :((List.range (s - t)).map λi=>fo L (i+1) 1 * fo L (s - (i+1)) t).sum=fo L s (t+1):=by
 rw[Nat.add_comm t 1,<- conv L s 1 t,List.range_succ_eq_map,List.map_cons,List.sum_cons,List.map_map];have e0:fo L 0 1=0:=rfl;rw[e0,Nat.zero_mul,Nat.zero_add];show _ =((List.range s).map λi=>fo L (i+1) 1 * fo L (s - (i+1)) t).sum;obtain⟨d,rfl⟩ :∃d,s=d+t:=⟨s - t,by exact Uj h⟩;have key :∀m,((List.range (d+m)).map λi=>fo L (i+1) 1 * fo L (d+t - (i+1)) t).sum =((List.range d).map λi=>fo L (i+1) 1 * fo L (d+t - (i+1)) t).sum:=by
  intro m
  induction m with
  |zero=>rfl
  |succ m ih=>
   rw[<- Nat.add_assoc,List.range_succ,List.map_append,List.sum_append,ih];simp only[List.map_cons,List.map_nil,List.sum_cons,List.sum_nil,Nat.add_zero];rw[xD L (d+t - (d+m+1)) t (Uk h1),Nat.mul_zero,Nat.add_zero]
 rw[Nat.add_sub_cancel];exact(key t).symm
noncomputable def tK:List Nat->Prop
 |[]=>True
 |s::r=>tK r/\(s=112->2<=(gm r).length)
theorem qr (hM:112∉ls) :∀(n t k:Nat),k<fo ls.length n t->tK (aX ls n t k):=by
 intro y
 induction y with
 |zero=>
  intro t k h;exact trivial
 |succ n ih=>
  intro t k h;have ht:t≠0:=λz=>by subst z;simp[fo] at h
  have h':k<ls.length * fo ls.length n (t - 1)+fo ls.length n (t+1):=by
   unfold fo at h;rw[ax ht] at h;exact h
  unfold aX
  cases hp:fY (fo ls.length n (t - 1)) ls k with
  |mk o k'=>
  cases o with
  |some l=>
   obtain⟨h1,h2⟩:=ji hp;exact⟨ih (t - 1) k' h2,λz=>absurd (z▸h1) hM⟩
  |none=>
   have h1:=kF hp;have hk:k'<fo ls.length n (t+1):=by exact Ds h' h1
   refine⟨ih (t+1) k' hk,λ_=>?_⟩;obtain⟨ts,e1,e2,_⟩:=oQ hM n (t+1) k' hk;rw[e2,e1];exact Vx ‹_›
theorem BM (hM:112∉ls)(h:k<fo ls.length n 1) :∃t:T,gm (aX ls n 1 k)=[t]/\t.pre=aX ls n 1 k:=by
 obtain⟨ts,e1,e2,e3⟩:=oQ hM n 1 k h
 match ts,e1 with
 |[t],_=>exact⟨t,e2,by rw[<- e3];simp[HX]⟩
noncomputable def bo (s:Nat):Nat:=if s=112 then 2 else 0
theorem nC {x:Nat}(h:112∉ls)(hx:x∈ls):bo x=0:=ax λz=>h (by rw[<- z];exact hx)
noncomputable def jz (w:Nat->Nat):List Nat->Nat->Option (Nat×Nat)
 |[],_=>none
 |s::r,k=>if k<w s then some (s,k) else jz w r (k - w s)
noncomputable def qQ (w:Nat->Nat)(x:Nat):List Nat->Nat
 |[]=>0
 |a::r=>if a=x then 0 else w a+qQ w x r
theorem qt (w:Nat->Nat) :∀(xs:List Nat) (k:Nat),jz w (xs.filter λs=>decide (0<w s)) k=jz w xs k:=by
 intro y
 induction y with
 |nil=>
  intro _;exact rfl
 |cons s r ih=>
  intro k;by_cases h:0<w s
  .rw[List.filter_cons_of_pos (by simpa using h)]
   show(if k<w s then some (s,k) else jz w (r.filter _) (k - w s))=if k<w s then some (s,k) else jz w r (k - w s);rw[ih]
  .rw[List.filter_cons_of_neg (by simpa using h),ih k]
   show _=if k<w s then some (s,k) else jz w r (k - w s);rw[ax (ZT ‹_›),show k - w s=k by exact ZS ‹_›]
theorem HZ {w:Nat->Nat} :∀{xs:List Nat} {k s k':Nat},xs.Nodup->jz w xs k=some (s,k')->s∈xs/\k'<w s/\qQ w s xs+k'=k:=by
 intro y
 induction y with
 |nil=>intros;first |contradiction | (injection ‹_=some _›)
 |cons a r ih=>
  intro k s k' nd h;unfold jz at h;rw[List.nodup_cons] at nd;by_cases hk:k<w a
  .rw[aA hk] at h
   cases h;exact⟨.head _,hk,by unfold qQ;rw[aA rfl,Nat.zero_add]⟩
  .rw[ax hk] at h
   obtain⟨h1,h2,h3⟩:=ih nd.2 h;refine⟨.tail _ h1,h2,?_⟩;unfold qQ;rw[ax (show¬a=s from λz=>nd.1 (by rw[z];exact h1))];exact Um hk h3
theorem H0 {w:Nat->Nat}{v:Nat}(y:Nat) :∀(xs:List Nat) (k:Nat),(∀x∈xs,w x=v)->jz w (xs++[y]) k=match fY v xs k with
  | (some l,k')=>some (l,k')
  | (none,k')=>if k'<w y then some (y,k') else none:=by
 intro y
 induction y with
 |nil=>
  intro k _;exact rfl
 |cons x xs ih=>
  intro k h;show(if k<w x then some (x,k) else jz w (xs++[y]) (k - w x))=_;rw[h x (.head _),ih (k - v) λz hz=>h z (.tail _ hz)];unfold fY;by_cases hk:k<v
  .rw[aA hk,aA hk]
  .rw[ax hk,ax hk]
   conv=>rhs;unfold fY
theorem vZ (hM:112∉ls){t:Nat}(hk:k<fo ls.length (n+1) (t+1)) :
  ∃s k',jz (λs=>fo ls.length n (t+bo s)) (ls++[112]) k=some (s,k')/\aX ls (n+1) (t+1) k=s::aX ls n (t+bo s) k'/\k'<fo ls.length n (t+bo s):=by
 rw[xE _ _ _ (Nat.le_add_left 1 t)] at hk;have e:=H0 (w:=λs=>fo ls.length n (t+bo s)) (v:=fo ls.length n t) 112 ls k λx hx=>by
  have:=nC hM hx;show fo _ n (t+bo x)=_;rw[this,Nat.add_zero]
 rw[e];rw[Nat.add_sub_cancel] at hk;have es:aX ls (n+1) (t+1) k=match fY (fo ls.length n t) ls k with
  | (some l,k')=>l::aX ls n t k'
  | (none,k')=>112::aX ls n (t+2) k':=rfl
 rw[es]
 cases hp:fY (fo ls.length n t) ls k with
 |mk o k'=>
  cases o with
  |some l=>
   obtain⟨h1,h2⟩:=ji hp;have ha:=nC hM h1;exact⟨l,k',rfl,by rw[ha];rfl,by rw[ha];exact h2⟩
  |none=>
   have h1:=kF hp;have h2:k'<fo ls.length n (t+2):=by rw[show t+1+1=t+2 from rfl] at hk;exact Ds hk h1
   exact⟨112,k',aA h2,rfl,h2⟩
inductive fk {mW:Type}(p0 p1:mW->Prop):Prop
 |mk (a0:mW) (h0:p0 a0) (h1:p1 a0):fk p0 p1
inductive OZ {mW:Type}(p0 p1 p2:mW->Prop):Prop
 |mk (a0:mW) (h0:p0 a0) (h1:p1 a0) (h2:p2 a0):OZ p0 p1 p2
inductive Sa {mW:Type}(p0 p1 p2 p3 p4:mW->Prop):Prop
 |mk (a0:mW) (h0:p0 a0) (h1:p1 a0) (h2:p2 a0) (h3:p3 a0) (h4:p4 a0):Sa p0 p1 p2 p3 p4
inductive Ln {mW tL:Type}(p0 p1:mW->tL->Prop):Prop
 |mk (a0:mW) (a1:tL) (h0:p0 a0 a1) (h1:p1 a0 a1):Ln p0 p1
inductive qR {mW tL:Type}(p0 p1 p2:mW->tL->Prop):Prop
 |mk (a0:mW) (a1:tL) (h0:p0 a0 a1) (h1:p1 a0 a1) (h2:p2 a0 a1):qR p0 p1 p2
inductive O0 {mW tL:Type}(p0 p1 p2 p3:mW->tL->Prop):Prop
 |mk (a0:mW) (a1:tL) (h0:p0 a0 a1) (h1:p1 a0 a1) (h2:p2 a0 a1) (h3:p3 a0 a1):O0 p0 p1 p2 p3
inductive O1 {mW tL:Type}(p0 p1 p2 p3 p4:mW->tL->Prop):Prop
 |mk (a0:mW) (a1:tL) (h0:p0 a0 a1) (h1:p1 a0 a1) (h2:p2 a0 a1) (h3:p3 a0 a1) (h4:p4 a0 a1):O1 p0 p1 p2 p3 p4
inductive O2 {mW tL H3:Type}(p0:mW->tL->H3->Prop):Prop
 |mk (a0:mW) (a1:tL) (a2:H3) (h0:p0 a0 a1 a2):O2 p0
inductive O3 {mW tL H3:Type}(p0 p1 p2:mW->tL->H3->Prop):Prop
 |mk (a0:mW) (a1:tL) (a2:H3) (h0:p0 a0 a1 a2) (h1:p1 a0 a1 a2) (h2:p2 a0 a1 a2):O3 p0 p1 p2
inductive Sb {mW tL H3 Sd:Type}(p0 p1 p2:mW->tL->H3->Sd->Prop):Prop
 |mk (a0:mW) (a1:tL) (a2:H3) (a3:Sd) (h0:p0 a0 a1 a2 a3) (h1:p1 a0 a1 a2 a3) (h2:p2 a0 a1 a2 a3):Sb p0 p1 p2
inductive Se {mW tL H3 Sd Y1 Y2 Y3:Type}(p0:mW->tL->H3->Sd->Y1->Y2->Y3->Prop):Prop
 |mk (a0:mW) (a1:tL) (a2:H3) (a3:Sd) (a4:Y1) (a5:Y2) (a6:Y3) (h0:p0 a0 a1 a2 a3 a4 a5 a6):Se p0
theorem bL {m:ME Y}{k:Y->ME β}{a:Y}(e:m fr U=.ok a bB):ME.bind m k fr U=k a fr bB:=aR (λr:Res Y=>r.andThen λa bB=>k a fr bB) e
theorem aC (a:Y)(U:bw)(f:Y->bw->Res β) :(Res.ok a U).andThen f=f a U:=rfl
theorem Lo {is:List Int}{k:Int}(h0:0<=k)(h:k<is.length):ui (is.map .int) k=some (.int (is[k.toNat]'(by exact(Int.toNat_lt h0).mpr h))):=by
 have h1:k.toNat<is.length:=by exact(Int.toNat_lt h0).mpr h
 unfold ui seqIndex?;refine rl (cL ..) ?_;simp only[show¬k<0 by exact Int.not_lt_of_ge h0,if_false,h0,h,decide_true,Bool.and_self,if_true,Option.bind_some,List.getElem?_map,List.getElem?_eq_getElem h1,Option.map_some]
noncomputable def vi:V->Int |.int i=>i |_=>0
theorem zM :∀{ay:List (V×V)} {k v:V},cT ay k=some v->(k,v)∈ay:=by
 intro y
 induction y with
 |nil=>intros;first |contradiction | (injection ‹_=some _›)
 |cons z0 r ih=>
  obtain⟨k',v'⟩:=z0;intro k v h;replace h :(if V.beq k' k=true then some v' else cT r k)=some v:=h;by_cases hb:V.beq k' k=true
  .rw[aA hb] at h
   obtain rfl:=(V.beq_iff _ _).mp hb;injection h with h;subst h;exact .head _
  .rw[ax hb] at h;exact .tail _ (ih h)
theorem v7 :∀{ay:List (V×V)} {k:V},cT ay k=none->∀kv∈ay,kv.1≠k:=by
 intro y
 induction y with
 |nil=>intros;first |contradiction | (injection ‹_=some _›)
 |cons z0 r ih=>
  obtain⟨k',v'⟩:=z0;intro k h kv hm;replace h :(if V.beq k' k=true then some v' else cT r k)=none:=h;by_cases hb:V.beq k' k=true
  .rw[aA hb] at h;injection h
  .rw[ax hb] at h
   rcases b7 hm with rfl |hm
   .exact λz=>hb ((V.beq_iff _ _).mpr z)
   .exact ih h kv hm
theorem zN {k:V}(h:cT ay k=none)(v:V):hV ay k v=ay++[(k,v)]:=by
 unfold hV;rw[ax];intro z;rw[List.any_eq_true] at z;obtain⟨kv,hm,hb⟩:=z;exact v7 h kv hm ((V.beq_iff _ _).mp hb)
theorem H5 {k:V}(h:cT ay k=none)(v:V):cT (ay++[(k,v)]) k=some v:=by
 induction ay with
 |nil=>
  refine(?_ :(if V.beq k k=true then some v else cT [] k)=some v);rw[aA ((V.beq_iff _ _).mpr rfl)]
 |cons a r ih=>
  replace h :(if V.beq a.1 k=true then some a.2 else cT r k)=none:=h;by_cases hb:V.beq a.1 k=true
  .rw[aA hb] at h;injection h
  .rw[ax hb] at h
   refine(ax hb).trans ?_;exact ih h
theorem EG [BEq Y][LawfulBEq Y] :∀{l m:List Y},l.Nodup->(∀x∈l,x∈m)->l.length<=m.length:=by
 intro y
 induction y with
 |nil=>
  intro m _ _;exact Nat.zero_le _
 |cons x l ih=>
  intro m h hs;rw[List.nodup_cons] at h;have hx:=hs x (.head _);have:=ih h.2 λy hy=>(List.mem_erase_of_ne (by intro z;subst z;exact h.1 hy)).mpr (hs y (.tail _ hy));rw[List.length_erase_of_mem hx] at this;have h0:0<m.length:=List.length_pos_of_mem hx;simp only[List.length_cons];exact Nat.add_le_of_le_sub h0 this
theorem jj {t:kR}(h1:t v jC=some cz)(h2:iw cz U=.ok u bq)(hz:bh.length<1000000):fz t none iw jC (v::vs) U bh=fz t none iw jC vs bq (bh++[u]):=by
 refine rl yD<|rl h1 ?_
 show(if true=true then (if cD bh.length=true then (NX (iw cz U)).andThen (λu bS=>fz t none iw jC vs bS (bh++[u])) else Res.stuck) else fz t none iw jC vs U bh)=_;have ez:cD bh.length=true:=bN (by exact Nat.le_of_succ_le hz);refine(aA rfl).trans ((aA ez).trans ?_);refine rl h2 ?_;rfl
theorem v8 {t:kR}(val:V->V) :∀(vs:List V) (U:bw) (bh:List V),I U->bh.length+vs.length<=1000000->
  (∀v∈vs,fk (λcz=>t v jC=some cz) (λcz=>∀U,I U->fk (λbB=>I bB) (λbB=>iw cz U=.ok (val v) bB)))->
  ∀{G:Prop},(∀bB,I bB->fz t none iw jC vs U bh=.ok (bh++vs.map val) bB->G)->G:=by
 intro y
 induction y with
 |nil=>
  intro U bh h _ _ G kG;exact kG U h (by exact rl List.map_nil<|rl (List.append_nil ..) rfl)
 |cons v vs ih=>
  intro U bh h hz he G kG;obtain⟨cz,h1,h2⟩:=he v (.head _);obtain⟨bq,h3,h4⟩:=h2 U h;rw[List.length_cons] at hz;refine ih bq (bh++[val v]) h3 (by refine rl bY<|rl gA ?_;exact Qp ‹_›) (λu hu=>he u (.tail _ hu)) λbS h5 h6=>?_
  refine kG bS h5 ?_;refine(jj h1 h4 (by exact Nat.lt_of_add_right_lt hz)).trans (h6.trans ?_);exact rl (cW ..) rfl
theorem tM {t:kR}(val:V->Int)(vs:List V)(U:bw)(bh:List V)(h:I U)(hz:bh.length+vs.length<=1000000)(he :∀v∈vs,fk (λcz=>t v jC=some cz) (λcz=>∀U,I U->fk (λbB=>I bB) (λbB=>iw cz U=.ok (.int (val v)) bB)))(kG :∀bB,I bB->(fz t none iw jC vs U bh=.ok (bh++vs.map λv=>.int (val v)) bB)->G):G:=v8 (λv=>.int (val v)) vs U bh h hz he kG
theorem EH (f:Y->Int) :∀vs:List Y,k7 (vs.map λv=>.int (f v))=some (vs.map f):=by
 intro y
 induction y with
 |nil=>
  exact rfl
 |cons v vs ih=>
  simp only[List.map_cons,k7,V.int?,ih,Option.bind_some,Option.map_some]
theorem H6 {t:kR}{body:MS}{aa:Int->eY->bw->Prop}(val:V->Int) :∀(vs:List V) (bh:Int) (fr:eY) (U:bw),aa bh fr U->
  (∀v∈vs,∀bh fr U,aa bh fr U->fk (λcz=>t v fr=some cz) (λcz=>Ln (λcG bS=>body cz U=.next cG bS) (λcG bS=>aa (bh+val v) cG bS)))->
  Ln (λbC bB=>dJ t body vs fr U=.next bC bB) (λbC bB=>aa (bh+(vs.map val).sum) bC bB):=by
 intro y
 induction y with
 |nil=>
  intro bh fr U h _;exact⟨fr,U,rfl,by simpa using h⟩
 |cons v vs ih=>
  intro bh fr U h hs;obtain⟨cz,h1,cG,bS,h2,h3⟩:=hs v (.head _) bh fr U h;obtain⟨ka,qF,h4,h5⟩:=ih _ cG bS h3 λu hu=>hs u (.tail _ hu);refine⟨ka,qF,?_,?_⟩
  .refine rl sj<|rl h1 ?_;dsimp only;exact rl h2<|h4
  .exact rl List.map_cons<|rl List.sum_cons<|rr (Int.add_assoc ..)<|h5
theorem aK {f g:MS}(h:f fr U=.next bC bB):aL f g fr U=g bC bB:=by simp only[aL,h]
theorem rC {f g:MS}(h:f fr U=.ret v bB):aL f g fr U=.ret v bB:=by simp only[aL,h]
theorem fQ {t:ME Bool}{f g:MS}(h:t fr U=.ok b bB):fw t f g fr U =(if b then f else g) fr bB:=by simp only[fw,ct,h]
theorem EI {k:V}(h :(cT ay k).isSome=true)(hv :∀kv∈ay,kv.1=k->kv.2=v):hV ay k v=ay:=by
 unfold hV;rw[aA]
 .conv=>rhs;rw[<- List.map_id ay]
  refine List.map_congr_left λkv hm=>?_
  split
  .rename_i hb
   exact rr (hv kv hm ((V.beq_iff _ _).mp hb)) rfl
  .rfl
 .obtain⟨v',h'⟩:=Option.isSome_iff_exists.mp h
  exact List.any_eq_true.mpr ⟨_,zM h',(V.beq_iff _ _).mpr rfl⟩
theorem fU (h:dq.contains j=true) :∀fr:eY,(jN fr dq).lookup j=fr.lookup j:=by
 intro y
 induction y with
 |nil=>
  exact rfl
 |cons z0 fr ih=>
  obtain⟨k,u⟩:=z0;have ih:=ih;unfold jN at ih ⊢;refine rl List.filter_cons<|rl List.lookup_cons ?_
  by_cases hj:j=k
  .subst hj;simp only[h,if_true,List.lookup_cons,beq_self_eq_true]
  .simp only[beq_eq_false_iff_ne.mpr hj]
   split
   .refine List.lookup_cons.trans ?_;simp only[beq_eq_false_iff_ne.mpr hj];exact ih
   .exact ih
theorem oR (b:Int):d9 1 b 1 =(List.range (b - 1).toNat).map λi:Nat=>V.int (1+(i:Int) * 1):=by
 unfold d9;refine rl (rangeSize_one ..) ?_
 split
 .rfl
 .exact rl (Uq ‹_›) rfl
theorem zO {b:Int}(h:v∈d9 1 b 1)(kG :∀(k:Nat),v=.int k->1<=k->(k:Int)<b->G):G:=by
 rw[oR,List.mem_map] at h;obtain⟨i,hi,rfl⟩:=h;rw[List.mem_range] at hi;exact kG (i+1) (by exact rl (Int.mul_one ..)<|rl (Int.add_comm ..) rfl) (by exact Nat.le_add_left 1 i) (by exact Up hi)
theorem bk {op:Operator}{f g:ME V}{a b:V}(h1:f fr U=.ok a bq)(h2:g fr bq=.ok b bS):aU op f g fr U=AF op a b fr bS:=by
 simp only[aU,ME.bind,h1,h2,aC]
theorem c9 (a:Y)(U:bw):Res.cN (some a) U=.ok a U:=rfl
theorem ao (h:fr.lookup i=some v):ai i fr U=.ok v U:=aR (Res.cN · U) h
theorem bX {o:Option V}(h:j≠k)(e:fr.lookup j=o) :(aE fr k v).lookup j=o:=by exact rl (aV ..)<|rl (ax h)<|e
theorem cV (fr:eY)(k:Nat)(v:V) :(aE fr k v).lookup k=some v:=by rw[aV,aA rfl]
theorem dT {f:ME V}(h:f fr U=.ok v bq):aB (az i) f fr U=.next (aE fr i v) bq:=by unfold aB ct;exact rl h rfl
theorem oU {f:ME V}(h:f fr U=.ok v bq)(hv:v.isRef=false):bM f fr U=.next fr bq:=by unfold bM ct;refine rl h ?_;dsimp only;exact rl hv rfl
theorem ir {f:ME V}(h:f fr U=.ok v bq):cn f fr U=.ret v bq:=by unfold cn ct;exact rl h rfl
theorem iu {t:kR}{it:ME (List V)}{b:MS}{r:uh}(h:it fr U=.ok vs bq)(k:dJ t b vs fr bq=r):df t it b fr U=r:=by unfold df ct;exact rl h<|k
theorem iv {t:kR}{f:ME V}(h:f fr U=.ok v bq)(k:t v fr=some cz):cO t f fr U=.next cz bq:=by unfold cO ct;refine rl h ?_;dsimp only;exact rl k rfl
theorem kH {f:ME V}(h:f fr U=.ok v bq)(k:Cw v=some vs):bl f fr U=.ok vs bq:=by refine(bL h).trans ?_;exact rl k rfl
theorem Sf {g:List V->bw->Option V}{f:ME V}(h:f fr U=.ok v bq)(k:g [v] bq=some u):xY g [f] fr U=.ok u bq:=by
 unfold xY aS aS;rw[ME.bind,ME.bind,h];show Res.cN (g [v] bq) bq=_;exact rl k rfl
theorem pO {f g:ME V}{a b:V}{c:Bool}(hf:f fr U=.ok a bq)(hg:g fr bq=.ok b bS)(h:ig op a b bS=some c):bx op f g fr U=.ok c bS:=by
 refine(bL hf).trans ((bL hg).trans ?_);exact rl h rfl
theorem nD {t:ME Bool}{f g:MS}(h:t fr U=.ok b bq)(hb:b=true):fw t f g fr U=f fr bq:=by refine(fQ h).trans ?_;exact rl hb rfl
theorem qu {t:ME Bool}{f g:MS}(h:t fr U=.ok b bq)(hb:b=false):fw t f g fr U=g fr bq:=by refine(fQ h).trans ?_;exact rl hb rfl
theorem rD {m:MS}(h:m fr U=.ret v bq):dB (m fr U)=.ok v bq:=by exact rl h rfl
theorem CZ {f:ME V}{fs:List (Nat×V)}(h:f fr U=.ok (.ref k) U)(hg:U[k]? = some (.inst c fs))(hl:fs.lookup i=some v):bc c i f fr U=.ok v U:=by
 have hi:ij U c (.ref k)=some (k,fs):=by unfold ij;dsimp only;exact rl hg<|aA rfl
 refine(bL h).trans ?_;exact rl hi<|rl (Option.bind_some ..)<|rl hl rfl
theorem qv:aS [] fr U=.ok [] U:=rfl
theorem qw {f:ME V}(h:f fr U=.ok v bq)(k:aS fs fr bq=.ok vs bS):aS (f::fs) fr U=.ok (v::vs) bS:=(bL h).trans (bL k)
theorem kb {m:Nat}{f:ME V}{F:List (Nat×V)}(h:f fr U=.ok (.ref k) bq)(hg:bq[k]? = some (.inst c F))(hl :(F.lookup m).isNone=true)(hs:aS fs fr bq=.ok vs bS) :
  aw c m g f fs fr U=g (.ref k::vs) bS:=by
 have hi:ij bq c (.ref k)=some (k,F):=by unfold ij;dsimp only;exact rl hg<|aA rfl
 refine(bL h).trans ?_;exact rl hi <| (aA hl).trans (bL hs)
theorem rE {m:MK}{f:ME V}{qF:bw}{r:V}(h:f fr U=.ok v bq)(hr:wM m v bq=true)(hs:aS fs fr bq=.ok vs bS)(hm:Cs m v vs bS=some (r,qF)):c6 m f fs fr U=.ok r qF:=by
 refine(bL h).trans ((aA hr).trans ((bL hs).trans ?_));exact rl hm rfl
theorem O4 {kd:DK}{k:V}(hd:U[i]? = some (.dict kd ay))(hk:fu kd k=true):ig .NotIn k (.ref i) U=some (!(cT ay k).isSome):=by
 show(NB k (.ref i) U).map (!·)=_;unfold NB;dsimp only;refine rl hd ?_;dsimp only;exact rl (aA hk) rfl
theorem Lp {kd:DK}{k:V}(hd:U[i]? = some (.dict kd ay))(hk:fu kd k=true):mB (.ref i) k U=cT ay k:=by
 unfold mB;dsimp only;exact rl hd<|aA hk
theorem Lq {kd:DK}{k:V}(hd:U[i]? = some (.dict kd ay))(hk:fu kd k=true)(hz:ay.length<=1000000):g7 (.ref i) k u U=some (U.set i (.dict kd (hV ay k u))):=by
 unfold g7;dsimp only;refine rl hd ?_;dsimp only;exact rl hk<|rl (show cD ay.length=true from bN hz) rfl
theorem Lr {fo fi fv:ME V}{o i:V}(hv:fv fr U=.ok u U)(ho:fo fr U=.ok o U)(hi:fi fr U=.ok i U)(h:g7 o i u U=some bq):eR fo fi fv fr U=.next fr bq:=by
 unfold eR ct;refine rl hv ?_;dsimp only;refine rl ho ?_;dsimp only;refine rl hi ?_;dsimp only;exact rl h rfl
theorem BN {f g:ME V}{a b c:V}(h:f fr U=.ok a bq)(k:g fr bq=.ok b bS)(e:mB a b bS=some c):cu f g fr U=.ok c bS:=by
 refine(bL h).trans ((bL k).trans ?_);exact rl e rfl
theorem rF {f:ME V}(h:f fr U=.ok (.tup vs) U)(hz:vs.length<1000):bT .len [f] fr U=.ok (.int vs.length) U:=by
 have ez:cD vs.length=true:=bN (q4 ‹_› (by rfl));unfold bT aS aS;rw[ME.bind,ME.bind,h];show Res.cN (if cD vs.length then some (V.int vs.length) else .none) U=_;exact rl (aA ez) rfl
theorem rG {a b:ME Bool}(h1:a fr U=.ok true bq)(h2:b fr bq=.ok false bS):jE [a,b] fr U=.ok false bS:=by
 refine(bL h1).trans ?_;show jE [b] fr bq=_;unfold jE;rw[ME.bind,h2];rfl
theorem rI {a b:ME Bool}(h1:a fr U=.ok false bq):jE [a,b] fr U=.ok false bq:=by
 unfold jE;rw[ME.bind,h1];rfl
theorem O5 {a b:ME Bool}{c:Bool}(h1:a fr U=.ok false bq)(h2:b fr bq=.ok c bS):rT [a,b] fr U=.ok c bS:=by
 refine(bL h1).trans ?_;show rT [b] fr bq=_;unfold rT;rw[ME.bind,h2]
 cases c <;> rfl
theorem O6 {t:ME Bool}{f g:ME V}(h:t fr U=.ok false bq):qY t f g fr U=g fr bq:=by
 unfold qY;rw[ME.bind,h];rfl
theorem BO {x y z:Int}(hz:z=1\/z=-1)(hx:g6 x=true)(hy:g6 y=true):yw x y z=some (d9 x y z):=aA ⟨hz,hx,hy⟩
theorem pP {es:ME (List V)}(he:es fr U=.ok vs bq)(h :(k7 vs).bind NT=some us):og es fr U=.ok us bq:=by
 refine(bL he).trans ?_;exact rl h rfl
theorem zP {f g:ME V}{a b:V}(hf:f fr U=.ok a bq)(hg:g fr bq=.ok b bS):aS [f,g] fr U=.ok [a,b] bS:=by
 refine(bL hf).trans ?_;unfold aS;rw[ME.bind,ME.bind,hg];rfl
theorem pQ {f:ME V}{b:Int}(hf:f fr U=.ok (.int b) U)(hb:g6 b=true):iY f fr U=.ok (d9 0 b 1) U:=
 pP (vs:=[.int b]) (by unfold aS;rw[ME.bind,hf];rfl) (BO (.inl rfl) rfl hb)
theorem pR {f g:ME V}{a b:Int}(hf:f fr U=.ok (.int a) U)(hg:g fr U=.ok (.int b) U)(ha:g6 a=true)(hb:g6 b=true):iZ f g fr U=.ok (d9 a b 1) U:=
 pP (zP hf hg) (BO (.inl rfl) ha hb)
theorem v9 {f g k:ME V}{a b:Int}(hf:f fr U=.ok (.int a) U)(hg:g fr U=.ok (.int b) U)(hk:k fr U=.ok (.int (-1)) U)(ha:g6 a=true)(hb:g6 b=true):jq f g k fr U=.ok (d9 a b (-1)) U:=
 pP (vs:=[.int a,.int b,.int (-1)]) (by refine(bL hf).trans ?_;rw[ME.bind,zP hg hk];rfl) (BO (.inr rfl) ha hb)
theorem kc {f:ME V}(h:f fr U=.ok (.tup (x::vs)) U)(hz:vs.length<1000):dU 1 f fr U=.ok (.tup vs) U:=by
 have ez:cD (x::vs).length=true:=bN (by refine rl List.length_cons ?_;exact q1 ‹_› (by rfl));refine(bL h).trans ?_;show Res.cN (if cD (x::vs).length&&decide (1<=(x::vs).length) then some (V.tup vs) else none) U=_;exact rl ez<|rl (bN (by rw[List.length_cons];exact Nat.le_add_left 1 vs.length)) rfl
theorem H7 {f:ME V}(h:f fr U=.ok (.tup (x::vs)) U)(hz:vs.length<1000):iO 1 f fr U=.ok (.tup [x]) U:=by
 have ez:cD (x::vs).length=true:=bN (by refine rl List.length_cons ?_;exact q1 ‹_› (by rfl));refine(bL h).trans ?_;show Res.cN (if cD (x::vs).length then some (V.tup [x]) else none) U=_;exact rl ez rfl
theorem oV {f g:ME V}{a b:Int}(hf:f fr U=.ok (.int a) bq)(hg:g fr bq=.ok (.int b) bS)(h0:a.natAbs<2 ^ 64):aU .Mult f g fr U=.ok (.int (a * b)) bS:=by
 refine(bk hf hg).trans ?_;show(if a.natAbs<2 ^ 64\/b.natAbs<2 ^ 64 then Res.ok (V.int (a * b)) bS else Res.stuck)=_;rw[aA (.inl h0)]
theorem rJ {f:ME V}(h:f fr U=.ok (.tup (x::vs)) U):cu f (ah (.int 0)) fr U=.ok x U:=by
 have e:ui (x::vs) 0=some x:=by
  unfold ui seqIndex?;simp
 refine(bL h).trans ?_;show Res.cN (ui (x::vs) 0) U=_;exact rl e rfl
theorem Lu {t:kR}{f:ME (List V)}(hf:f fr U=.ok vs bq)(h:fz t none iw (jN fr dq) vs bq []=.ok us bS):bO dq t f none iw fr U=.ok (.list us) bS:=by
 unfold bO;exact rl hf<|rl (aC ..)<|rl h rfl
theorem O7 {f:ME V}{g:Y->Int}{vs:List Y}(h:f fr U=.ok (.list (vs.map λv=>.int (g v))) bq):bT .sum [f] fr U=.ok (.int (vs.map g).sum) bq:=by
 unfold bT aS aS;rw[ME.bind,ME.bind,h];show Res.cN ((k7 (vs.map λv=>.int (g v))).map λis=>V.int is.sum) bq=_;rw[EH];rfl
inductive Cl |x (t:Nat) |z
variable {ue:Cl}
noncomputable def Cl.ints:Cl->List V
 |.x t=>List.replicate t (.int 0)
 |.z=>[.int 1]
def Cl.val (L:Nat)(cl:Cl)(s:Nat):Int:=match cl with
 |.x t=>(fo L s t:Nat)
 |.z=>if s=1 then 1 else 0
noncomputable def Cl.ok (cl:Cl)(s:Nat):Prop:=match cl with
 |.x t=>1<=t/\t<=s/\s<=12
 |.z=>s=200
abbrev key (cl:Cl)(s:Nat):V:=.tup [.tup cl.ints,.int s]
theorem H8 {cl:Cl}(h:cl.ints=ue.ints):cl=ue:=by
 cases cl with
 |x t=>
  cases ue with
  |x t'=>
   have:=aR List.length h;simp only[Cl.ints,List.length_replicate] at this;rw[this]
  |z=>
   have h1:=aR List.length h;simp only[Cl.ints,List.length_replicate,List.length_cons,List.length_nil] at h1;subst h1;simp[Cl.ints] at h
 |z=>
  cases ue with
  |x t'=>
   have h1:=aR List.length h;simp only[Cl.ints,List.length_replicate,List.length_cons,List.length_nil] at h1;subst h1;simp[Cl.ints] at h
  |z=>rfl
theorem C0 {cl:Cl}{s s':Nat}(h:key cl s=key ue s'):cl=ue/\s=s':=by
 have h1:cl.ints=ue.ints:=by injection h with h;injection h with h _;injection h
 have h2 :(s:Int)=s':=by injection h with h;injection h with _ h;injection h with h _;injection h
 exact⟨H8 h1,by exact Int.ofNat_inj.mp h2⟩
structure d7 (L:Nat)(ay:List (V×V)):Prop where
 good :∀kv∈ay,Ln (λ(cl:Cl) (s:Nat)=>cl.ok s) (λ(cl:Cl) (s:Nat)=>kv =(key cl s,.int (cl.val L s)))
 nd :(ay.map (·.1)).Nodup
def Lv:List V:=key .z 200 ::(List.range 13).flatMap λt=>(List.range 13).map λs=>key (.x t) s
theorem d7.len (I:d7 L ay):ay.length<=170:=by
 have:=EG (m:=Lv) I.nd λx hx=>by
  obtain⟨kv,hk,rfl⟩:=dz hx;obtain⟨cl,s,hs,rfl⟩:=I.good kv hk
  cases cl with
  |x t=>
   obtain⟨h1,h2,h3⟩:=hs;exact .tail _ (List.mem_flatMap.mpr ⟨t,List.mem_range.mpr (Vr ‹_› ‹_› (by rfl)),List.mem_map.mpr ⟨s,List.mem_range.mpr (by exact Nat.lt_succ_of_le h3),rfl⟩⟩)
  |z=>obtain rfl:s=200:=hs;exact .head _
 rw[cL] at this;exact this
theorem d7.get (I:d7 L ay){cl:Cl}{s:Nat}(h:cT ay (key cl s)=some v):v=.int (cl.val L s):=by
 obtain⟨ue,s',_,e⟩:=I.good _ (zM h);obtain⟨rfl,rfl⟩:=C0 (aR Prod.fst e);exact aR Prod.snd e
theorem d7.one (I:d7 L ay){cl:Cl}{s:Nat}{kv:V×V}(hm:kv∈ay)(hk:kv.1=key cl s):kv.2=.int (cl.val L s):=by
 obtain⟨ue,s',_,rfl⟩:=I.good kv hm;obtain⟨rfl,rfl⟩:=C0 hk;rfl
theorem d7.add (I:d7 L ay){cl:Cl}{s:Nat}(hs:cl.ok s)(h:cT ay (key cl s)=none):d7 L (ay++[(key cl s,.int (cl.val L s))]):=by
 refine⟨λkv hm=>?_,?_⟩
 .rcases List.mem_append.mp hm with hm |hm
  .exact I.good kv hm
  .obtain rfl:=dM hm
   exact⟨cl,s,hs,rfl⟩
 .rw[List.map_append,List.nodup_append]
  refine⟨I.nd,by simp,λa ha b hb=>?_⟩;obtain⟨kv,hk,rfl⟩:=dz ha;obtain rfl:=dM hb;exact v7 h kv hk
theorem d7.nil:d7 L []:=⟨(λ_ h=>by cases h),List.nodup_nil⟩
noncomputable def nE (ls:List Nat):List V:=ls.map (λl=>V.tup [.str [l]])++[.tup [.str [112],.int 0,.int 0]]
structure uf (aO kd L:Nat)(ls:List Nat)(P:List (V×V)->bw):Prop where
 hL:ls.length=L
 h3:1<=L/\L<=3
 get :∃mk,∀ay,(P ay)[aO]? = some (.inst 1 [(53,.ref 1),(54,mk),(31,.ref kd)])
 heap:Se (λa b c d e f g=>∀ay,(P ay)[1]? = some (.inst 3 [(27,a),(28,b),(29,c),(30,d),(31,e),(19,f),(32,g),(33,.int 0)]))
 dict :∀ay,(P ay)[kd]? = some (.dict .tup ay)
 set :∀ay aJ,(P ay).set kd (.dict .tup aJ)=P aJ
 PY :∀ay (s:Int),s<=200->d6 [.ref aO,.int s] (P ay)=.ok .none (P ay)
 tO :∀ay,c8 [.ref 1,.int 0] (P ay)=.ok (.list (nE ls)) (P ay)
 xF :∀ay,c8 [.ref 1,.int 1] (P ay)=.ok (.list [.tup [.str [122]]]) (P ay)
 wc :∀ay,bP [.ref 1,.int 0] (P ay)=.ok (.int 0) (P ay)
 C6 :∀ay,bP [.ref 1,.int 1] (P ay)=.ok (.int 1) (P ay)
 C7 :∀l∈ls,∀ay,ew [.ref 1,.str [l],.tup []] (P ay)=.ok (.int 0) (P ay)
 C8 :∀ay,ew [.ref 1,.str [112],.tup [.int 0,.int 0]] (P ay)=.ok (.int 0) (P ay)
 zQ:112∉ls
section
variable {aO:Nat}
noncomputable def nF (aO:Nat)(L:Nat)(P:List (V×V)->bw)(r:List V->bw->Res V)(cl:Cl)(s:Nat):Prop:=
 ∀ay,d7 L ay->fk (λaJ=>d7 L aJ) (λaJ=>r [.ref aO,.tup (cl.ints),.int s] (P ay)=.ok (.int (cl.val L s)) (P aJ))
theorem zR (d k:Nat)(m:Int)(hm:m=k)(U:bw):d4 (d+1) [.ref aO,.tup [],.int m] U=.ok (.int (if k=0 then 1 else 0)) U:=by
 subst hm
 cases k with
 |zero=>rfl
 |succ k=>rfl
def rA (r:List V->bw->Res V):MS:=(aB (az 2) (bT .sum [(bO [10,34] (az 15) (bl (aw 3 56 c8 (bc 1 53 (ai 10)) [(cu (ai 47) (ah (.int 0)))])) none (aw 1 57 r (ai 10) [(dU 1 (ai 15)),(aU .Sub (ai 34) (ah (.int 1)))]))]))
def H9 (r:List V->bw->Res V):MS:=(aL (aB (az 58) (aw 1 57 r (ai 10) [(iO 1 (ai 47)),(ai 59)]))
 (fw (bx .Gt (ai 58) (ah (.int 0))) (aB (az 2) (aU .Add (ai 2) (aU .Mult (ai 58) (aw 1 57 r (ai 10) [(dU 1 (ai 47)),(aU .Sub (ai 34) (ai 59))])))) bF))
def rB (r:List V->bw->Res V):MS:=(aL (aB (az 2) (ah (.int 0)))
 (df (az 59) (iZ (ah (.int 1)) (aU .Add (aU .Sub (ai 34) (bT .len [(ai 47)])) (ah (.int 2)))) (H9 r)))
def r0:MS:=(fw (rT [(bx .Eq (bT .len [(ai 47)]) (ah (.int 0))),(bx .Lt (ai 34) (bT .len [(ai 47)]))]) (cn (qY (jE [(bx .Eq (ai 34) (ah (.int 0))),(bx .Eq (bT .len [(ai 47)]) (ah (.int 0)))]) (ah (.int 1)) (ah (.int 0)))) bF)
def r1:MS:=(aB (az 55) (bj [(ai 47),(ai 34)]))
def r2:ME Bool:=(bx .NotIn (ai 55) (bc 1 31 (ai 10)))
def r3:ME Bool:=(bx .Eq (bT .len [(ai 47)]) (ah (.int 1)))
def r4:MS:=(eR (bc 1 31 (ai 10)) (ai 55) (ai 2))
def r5:MS:=(cn (cu (bc 1 31 (ai 10)) (ai 55)))
structure Fr (aO:Nat)(cl:Cl)(s:Nat)(fr:eY):Prop where
 self:fr.lookup 10=some (.ref aO)
 classes:fr.lookup 47=some (.tup (cl.ints))
 size:fr.lookup 34=some (.int s)
 key:fr.lookup 55=some (key cl s)
theorem Fr.set {cl:Cl}{s:Nat}(F:Fr aO cl s fr)(i:Nat)(v:V)(h3:i≠10)(h40:i≠47)(h28:i≠34)(Y4:i≠55):Fr aO cl s (aE fr i v):=by
 constructor <;> rw[aV,ax (by lia)]
 all_goals first |exact F.self |exact F.classes |exact F.size |exact F.key
theorem tP (C:uf aO kd L ls P)(h:fr.lookup 10=some (.ref aO)):bc 1 31 (ai 10) fr (P ay)=.ok (.ref kd) (P ay):=by
 obtain⟨mk,hg⟩:=C.get;exact CZ (ao h) (hg ay) rfl
theorem Ia :∀t:Nat,V.kZ (List.replicate t (.int 0))=true/\V.cv (List.replicate t (V.int 0))=0:=by
 intro y
 induction y with
 |zero=>
  exact⟨rfl,rfl⟩
 |succ t ih=>
  obtain⟨h1,h2⟩:=ih;refine⟨h1,?_⟩;show max 0 (V.cv (List.replicate t (V.int 0)))=0;exact h2.trans rfl
theorem pS (cl:Cl)(s:Nat):fu .tup (key cl s)=true:=by
 cases cl with
 |z=>rfl
 |x t=>
  obtain⟨h1,h2⟩:=Ia t;show(V.kZ [.tup (List.replicate t (.int 0)),.int s]&&decide (V.cv [.tup (List.replicate t (.int 0)),.int s]<=6))=true;have e1:V.kZ [.tup (List.replicate t (.int 0)),.int s]=true:=by
   show(V.kZ (List.replicate t (.int 0))&&true)=true;exact rl h1 rfl
  have e2:V.cv [.tup (List.replicate t (.int 0)),.int s]=1:=by
   show max (V.cv (List.replicate t (.int 0))+1) 0=1;exact rl h2 rfl
  exact rl e1<|rl e2 rfl
theorem Sg (C:uf aO kd L ls P){cl:Cl}{s:Nat}(F:Fr aO cl s fr):r2 fr (P ay)=.ok (!(cT ay (key cl s)).isSome) (P ay):=pO (ao F.key) (tP C F.self) (O4 (C.dict ay) (pS cl s))
theorem Si (C:uf aO kd L ls P){cl:Cl}{s:Nat}(F:Fr aO cl s fr)(h:fr.lookup 2=some v)(hz:ay.length<=1000000):r4 fr (P ay)=.next fr (P (hV ay (key cl s) v)):=
 Lr (ao h) (tP C F.self) (ao F.key) ((Lq (C.dict ay) (pS cl s) hz).trans (aR some (C.set ay _)))
theorem Sj (C:uf aO kd L ls P){cl:Cl}{s:Nat}(F:Fr aO cl s fr)(h:cT ay (key cl s)=some v):r5 fr (P ay)=.ret v (P ay):=
 ir (BN (tP C F.self) (ao F.key) ((Lp (C.dict ay) (pS cl s)).trans h))
noncomputable def xG (aO:Nat)(L:Nat)(P:List (V×V)->bw)(g:MS)(cl:Cl)(s:Nat):Prop:=
 ∀ay fr,d7 L ay->Fr aO cl s fr->O0 (λaJ bC=>d7 L aJ) (λaJ bC=>g fr (P ay)=.next bC (P aJ)) (λaJ bC=>Fr aO cl s bC) (λaJ bC=>bC.lookup 2=some (.int (cl.val L s)))
noncomputable def Cl.good:Cl->Prop
 |.x t=>1<=t/\t<=20
 |.z=>True
theorem zS {cl:Cl}(h:cl.good):1<=cl.ints.length/\cl.ints.length<=20:=by
 cases cl with
 |x t=>simp only[Cl.ints,List.length_replicate];exact h
 |z=>exact⟨Nat.le_refl _,by decide⟩
theorem Ib {cl:Cl}(g:cl.good)(h:fr.lookup 47=some (.tup cl.ints)):bT .len [(ai 47)] fr U=.ok (.int cl.ints.length) U:=rF (ao h) (by have:=zS g;exact q72 ‹_› (by rfl))
theorem Sk {cl:Cl}{s:Nat}(g:cl.good)(F:Fr aO cl s fr):r3 fr U=.ok (decide (cl.ints.length=1)) U:=
 pO (Ib g F.classes) rfl (aR some (show decide ((cl.ints.length:Int)=1)=_ from decide_eq_decide.mpr (q79)))
def JC (aO:Nat)(cl:Cl)(s:Nat):eY:=[(10,.ref aO),(47,.tup cl.ints),(34,.int s)]
def Xc (aO:Nat)(cl:Cl)(s:Nat):eY:=(55,key cl s)::JC aO cl s
theorem O8 (aO:Nat)(cl:Cl)(s:Nat):Fr aO cl s (Xc aO cl s):=⟨rfl,rfl,rfl,rfl⟩
theorem Sl {cl:Cl}{s:Nat}(g:cl.good):r0 (JC aO cl s) U=if decide ((s:Int)<cl.ints.length) then .ret (.int 0) U else .next (JC aO cl s) U:=by
 have hl:=zS g;have el:bT .len [(ai 47)] (JC aO cl s) U=.ok (.int cl.ints.length) U:=Ib g rfl;have c0:bx .Eq (bT .len [(ai 47)]) (ah (.int 0)) (JC aO cl s) U=.ok false U:=pO el rfl (aR some (show decide ((cl.ints.length:Int)=0)=false from cH (by lia)));have c1:bx .Lt (ai 34) (bT .len [(ai 47)]) (JC aO cl s) U=.ok (decide ((s:Int)<cl.ints.length)) U:=pO (ao rfl) el rfl;refine(fQ (O5 c0 c1)).trans ?_;by_cases h :(s:Int)<cl.ints.length
 .refine rl (bN h) ?_
  have t1:bx .Eq (ai 34) (ah (.int 0)) (JC aO cl s) U=.ok (decide ((s:Int)=0)) U:=rfl;have t2:jE [(bx .Eq (ai 34) (ah (.int 0))),(bx .Eq (bT .len [(ai 47)]) (ah (.int 0)))] (JC aO cl s) U=.ok false U:=by
   by_cases Y5 :(s:Int)=0
   .exact rG (t1.trans (by exact rl (bN Y5) rfl)) c0
   .exact rI (t1.trans (by exact rl (cH Y5) rfl))
  exact ir (O6 t2)
 .exact rl (cH h) rfl
theorem C9 (C:uf aO kd L ls P){cl:Cl}{s:Nat}(g:cl.good)(hs :(cl.ints.length:Int)<=s->cl.ok s)(Xd :(s:Int)<cl.ints.length->cl.val L s=0)(hf :(cl.ints.length:Int)<=s->xG aO L P (if decide (cl.ints.length=1) then rA r else rB r) cl s) :
  nF aO L P (cx [10,47,34] (tG r)) cl s:=by
 intro ay I;have e0:cx [10,47,34] (tG r) [.ref aO,.tup (cl.ints),.int s] (P ay)=dB (aL r0 (aL r1 (aL (fw r2 (aL (fw r3 (rA r) (rB r)) r4) bF) r5)) (JC aO cl s) (P ay)):=rfl;have er:=Sl (aO:=aO) (U:=P ay) (s:=s) g;by_cases h :(s:Int)<cl.ints.length
 .rw[bN h] at er
  refine⟨ay,I,e0.trans ?_⟩;exact rl (rC er)<|rl (Xd h) rfl
 .rw[cH h] at er
  have F:=O8 aO cl s;have e1:r1 (JC aO cl s) (P ay)=.next (Xc aO cl s) (P ay):=rfl;have e3:=Sg (ay:=ay) C F;have go :∀aJ bC v,fw r2 (aL (fw r3 (rA r) (rB r)) r4) bF (Xc aO cl s) (P ay)=.next bC (P aJ)->Fr aO cl s bC->cT aJ (key cl s)=some v->cx [10,47,34] (tG r) [.ref aO,.tup (cl.ints),.int s] (P ay)=.ok v (P aJ):=λaJ bC v e6 F' hd=>
   e0.trans (rD ((aK er).trans ((aK e1).trans ((aK e6).trans (Sj C F' hd)))))
  cases hd:cT ay (key cl s) with
  |some v=>
   have hv:=I.get hd;subst hv;exact⟨ay,I,go ay _ _ ((qu e3 (by exact rl hd rfl)).trans rfl) F hd⟩
  |none=>
   obtain⟨bA,cz,I1,h1,F1,Sm⟩:=hf (by exact Int.not_lt.mp h) ay _ I F;have e4:=(fQ (f:=rA r) (g:=rB r) (Sk (U:=P ay) g F)).trans h1;have e6:=(nD (g:=bF) e3 (by exact rl hd rfl)).trans ((aK (g:=r4) e4).trans (Si C F1 Sm (by have:=I1.len;exact q3 ‹_› (by rfl))))
   cases JA:cT bA (key cl s) with
   |none=>
    rw[zN JA] at e6;exact⟨_,I1.add (hs (by exact Int.not_lt.mp h)) JA,go _ _ _ e6 F1 (H5 JA _)⟩
   |some v=>
    have hv:=I1.get JA;subst hv;rw[EI (v:=.int (cl.val L s)) (by exact rl JA rfl) λkv hm hk=>I1.one hm hk] at e6;exact⟨bA,I1,go _ _ _ e6 F1 JA⟩
end
section
variable {aO:Nat}
theorem xH (C:uf aO kd L ls P)(h:fr.lookup 10=some (.ref aO)):bc 1 53 (ai 10) fr (P ay)=.ok (.ref 1) (P ay):=by
 obtain⟨mk,hg⟩:=C.get;exact CZ (ao h) (hg ay) rfl
theorem ke (C:uf aO kd L ls P){f1 f2:ME V}{v1 v2:V}(h:fr.lookup 10=some (.ref aO))(h1:f1 fr (P ay)=.ok v1 (P ay))(h2:f2 fr (P ay)=.ok v2 (P ay)) :
  aw 1 57 r (ai 10) [f1,f2] fr (P ay)=r [.ref aO,v1,v2] (P ay):=by
 obtain⟨mk,hg⟩:=C.get;exact kb (ao h) (hg ay) rfl (qw h1 (qw h2 qv))
theorem tQ (C:uf aO kd L ls P){c0:Int}{rr:List V}(ud:fr.lookup 10=some (.ref aO))(EJ:fr.lookup 47=some (.tup (.int c0::rr)))(hn:c8 [.ref 1,.int c0] (P ay)=.ok (.list vs) (P ay)) :
  bl (aw 3 56 c8 (bc 1 53 (ai 10)) [(cu (ai 47) (ah (.int 0)))]) fr (P ay)=.ok vs (P ay):=by
 obtain⟨a,b,c,d,e,f,g',hh⟩:=C.heap;have e0:=rJ (U:=P ay) (ao EJ);have e1:aw 3 56 c8 (bc 1 53 (ai 10)) [(cu (ai 47) (ah (.int 0)))] fr (P ay)=.ok (.list vs) (P ay):=by
  rw[<- hn];exact kb (xH C ud) (hh ay) rfl (qw e0 qv)
 exact kH e1 rfl
theorem M5 (C:uf aO kd L ls P){cl:Cl}{s:Nat}{c0:Int}(h1:cl.ints=[.int c0])(hn :∀ay,c8 [.ref 1,.int c0] (P ay)=.ok (.list vs) (P ay))(hlen:vs.length<=10)(g:V->Int)(hv :∀v∈vs,qR (λx jR=>v=.tup (x::jR)) (λx jR=>jR.length<=10) (λx jR=>∀ay,d7 L ay->fk (λaJ=>d7 L aJ) (λaJ=>r [.ref aO,.tup jR,.int (s - 1)] (P ay)=.ok (.int (g v)) (P aJ))))(Xe :(vs.map g).sum=cl.val L s):xG aO L P (rA r) cl s:=by
 intro ay fr I F;have DQ:=tQ C (ay:=ay) F.self (F.classes.trans (by exact rl h1 rfl)) (hn ay);refine tM (I:=λU=>fk (λay=>d7 L ay) (λay=>U=P ay)) (t:=az 15) (iw:=aw 1 57 r (ai 10) [(dU 1 (ai 15)),(aU .Sub (ai 34) (ah (.int 1)))]) (jC:=jN fr [10,34]) g vs (P ay) [] ⟨ay,I,rfl⟩ (by simp;exact q3 ‹_› (by rfl)) (λv hm=>?_) ?_
 .obtain⟨x,jR,rfl,hr,hk⟩:=hv v hm
  refine⟨_,rfl,λU ⟨ay,I,e⟩=>?_⟩;subst e;obtain⟨aJ,I',h⟩:=hk ay I;exact⟨_,⟨aJ,I',rfl⟩,(ke C (bX (by decide) ((fU (by decide) fr).trans F.self)) (kc (ao (cV _ _ _)) (q2 ‹_› (by rfl))) ((bk (ao (bX (by decide) ((fU (by decide) fr).trans F.size))) rfl).trans rfl)).trans h⟩
 rintro bB ⟨aJ,I',rfl⟩ hc;exact⟨aJ,_,I',dT ((O7 (Lu DQ hc)).trans (by exact rl Xe rfl)),F.set _ _ (by decide) (by decide) (by decide) (by decide),cV _ _ _⟩
end
theorem O9 (h:L<=3)(hk:k<=12) :((fo L k 1:Nat):Int).natAbs<18446744073709551616:=by
 have h1:=HY h k 1;have h2:4 ^ k<=4 ^ 12:=Nat.pow_le_pow_right (by decide) hk;have h3 :(4:Nat) ^ 12<18446744073709551616:=by decide
 refine rl (Int.natAbs_natCast ..) ?_;exact Vr ‹_› ‹_› (by rfl)
section
variable {aO:Nat}
theorem Ic (C:uf aO kd L ls P){cl:Cl}{s:Nat}{bh:Int}(h1:cl.ints=.int 0::ue.ints)(hl:ue.ints.length<=20)(hk:k<s)(Xf:s<=12)(I:d7 L ay)(F:Fr aO cl s fr)(h2:fr.lookup 2=some (.int bh))(Ie:fr.lookup 59=some (.int k))(TJ:nF aO L P r (.x 1) k)(Xg:nF aO L P r ue (s - k))(kG :∀aJ bC,d7 L aJ->Fr aO cl s bC->bC.lookup 2=some (.int (bh+((fo L k 1:Nat):Int) * ue.val L (s - k)))->H9 r fr (P ay)=.next bC (P aJ)->G):G:=by
 obtain⟨bA,I1,e1⟩:=TJ ay I;have hz:ue.ints.length<1000:=by exact q2 ‹_› (by rfl)
 have s1:=dT (i:=58) (v:=.int ((fo L k 1:Nat):Int)) ((ke C (r:=r) F.self (H7 (ao (F.classes.trans (by exact rl h1 rfl))) hz) (ao Ie)).trans e1);have F2:=F.set 58 (.int ((fo L k 1:Nat):Int)) (by decide) (by decide) (by decide) (by decide);have JD:=cV fr 58 (.int ((fo L k 1:Nat):Int));have Sn :(aE fr 58 (.int ((fo L k 1:Nat):Int))).lookup 59=some (.int k):=bX (by decide) Ie;have l2 :(aE fr 58 (.int ((fo L k 1:Nat):Int))).lookup 2=some (.int bh):=bX (by decide) h2;generalize aE fr 58 (.int ((fo L k 1:Nat):Int))=cG at s1 F2 JD Sn l2;have et:bx .Gt (ai 58) (ah (.int 0)) cG (P bA)=.ok (decide (((fo L k 1:Nat):Int) > 0)) (P bA):=pO (ao JD) rfl rfl;by_cases hp :((fo L k 1:Nat):Int) > 0
 .obtain⟨du,I2,e2⟩:=Xg bA I1
  have es:aU .Sub (ai 34) (ai 59) cG (P bA)=.ok (.int ((s - k:Nat):Int)) (P bA):=by
   refine(bk (ao F2.size) (ao Sn)).trans ?_;exact rl (show((s - k:Nat):Int) =(s:Int) - k by exact Ue hk) rfl
  have m:=oV (ao JD) ((ke C (r:=r) F2.self (kc (ao (F2.classes.trans (by exact rl h1 rfl))) hz) es).trans e2) (O9 C.h3.2 (Vq ‹_› ‹_›));exact kG du _ I2 (F2.set 2 _ (by decide) (by decide) (by decide) (by decide)) (cV _ _ _) ((aK s1).trans ((nD et (bN hp)).trans (dT ((bk (op:=.Add) (ao l2) m).trans rfl))))
 .have h0 :((fo L k 1:Nat):Int)=0:=by lia
  exact kG bA cG I1 F2 (by refine l2.trans ?_;exact rl h0<|rl (Int.zero_mul ..)<|rl (Int.add_zero ..) rfl) ((aK s1).trans ((qu et (cH hp)).trans rfl))
theorem So (C:uf aO kd L ls P){cl:Cl}{s:Nat}(h1:cl.ints=.int 0::ue.ints)(w9:1<=ue.ints.length)(hl:ue.ints.length<=20)(Xf:s<=12)(Xh:cl.val L s =((d9 1 (s - cl.ints.length+2) 1).map λv=>((fo L (vi v).toNat 1:Nat):Int) * ue.val L (s - vi v).toNat).sum)(TJ :∀k,k<s->nF aO L P r (.x 1) k)(Xg :∀k,k<s->nF aO L P r ue k)(hs :(cl.ints.length:Int)<=s):xG aO L P (rB r) cl s:=by
 intro ay fr I F;have zT:cl.ints.length=ue.ints.length+1:=by exact rl h1 rfl
 have F0:Fr aO cl s (aE fr 2 (.int 0)):=F.set _ _ (by decide) (by decide) (by decide) (by decide);have hrg:=pR (f:=ah (.int 1)) (U:=P ay) rfl ((bk (op:=.Add) (g:=ah (.int 2)) ((bk (op:=.Sub) (ao F0.size) (rF (ao F0.classes) (by lia))).trans rfl) rfl).trans rfl) (by decide) (show g6 ((s:Int) - cl.ints.length+2)=true from bN (by exact UQ Xf hs));obtain⟨bC,bB,hc,F',Sm,aJ,I',rfl⟩:=H6 (t:=az 59) (body:=H9 r) (aa:=λbh fr U=>Fr aO cl s fr/\fr.lookup 2=some (.int bh)/\fk (λay=>d7 L ay) (λay=>U=P ay)) (λv=>((fo L (vi v).toNat 1:Nat):Int) * ue.val L (s - vi v).toNat)
  (d9 1 (s - cl.ints.length+2) 1) 0 (aE fr 2 (.int 0)) (P ay) ⟨F0,cV _ _ _,ay,I,rfl⟩ λv hm bh fr U ⟨F,Sm,ay,I,e⟩=>by
   subst e;refine zO hm ?_;rintro k rfl xd Ft;have Rd:k<s:=by exact US w9 zT Ft
   refine Ic C h1 hl Rd Xf I (F.set 59 (.int k) (by decide) (by decide) (by decide) (by decide)) (bX (by decide) Sm) (cV _ _ _) (TJ k Rd) (Xg (s - k) (by exact UR hs zT xd)) λdu cG I2 F2 l2 e=>?_;refine⟨_,rfl,cG,P du,e,F2,?_,du,I2,rfl⟩;refine l2.trans ?_;exact rl (show vi (.int (k:Int)) =(k:Int) from rfl)<|rl (Int.toNat_natCast ..)<|rl (show((s:Int) - (k:Int)).toNat=s - k by exact Int.toNat_sub s k) rfl
 exact⟨aJ,bC,I',(aK (f:=aB (az 2) (ah (.int 0))) rfl).trans (iu hrg hc),F',by refine Sm.trans ?_;exact rl Xh<|rl (Int.zero_add ..) rfl⟩
end
theorem Ig (f:Y->Nat) :∀l:List Y,(l.map λx=>((f x:Nat):Int)).sum =(((l.map f).sum:Nat):Int):=by
 intro y
 induction y with
 |nil=>
  exact rfl
 |cons x l ih=>
  simp only[List.map_cons,List.sum_cons,ih,Int.natCast_add]
theorem EK {s t:Nat}(h1:1<=t)(h:t+1<=s) :
  ((fo L s (t+1):Nat):Int) =((d9 1 ((s:Int) - ((t+1:Nat):Int)+2) 1).map λv=>((fo L (vi v).toNat 1:Nat):Int) * ((fo L ((s:Int) - vi v).toNat t:Nat):Int)).sum:=by
 refine rl (oR ..)<|rl List.map_map<|rl (show((s:Int) - ((t+1:Nat):Int)+2 - 1).toNat=s - t by exact ZO)<|rr (BL L s t h1 (by exact Nat.le_of_succ_le h))<|rr (Ig ..) ?_
 congr 1;refine List.map_congr_left λi hi=>?_;show _ =((fo L (1+(i:Int) * 1).toNat 1:Nat):Int) * ((fo L ((s:Int) - (1+(i:Int) * 1)).toNat t:Nat):Int);exact rl (show(1+(i:Int) * 1).toNat=i+1 by exact ZN)<|rl (show((s:Int) - (1+(i:Int) * 1)).toNat=s - (i+1) by exact ZM)<|rl (Int.natCast_mul ..) rfl
section
variable {aO:Nat}
theorem EL (L w v:Nat)(ls:List Nat)(h:ls.length=L)(g:V->Int)(g1 :∀l,g (.tup [.str [l]])=w)(g2:g (.tup [.str [112],.int 0,.int 0])=v) :((nE ls).map g).sum =((L * w+v:Nat):Int):=by
 subst h;unfold nE;rw[List.map_append,List.sum_append,List.map_map];have e :∀l:List Nat,(l.map (g∘λl=>V.tup [.str [l]])).sum =((l.length * w:Nat):Int):=λl=>by
  induction l with
  |nil=>simp
  |cons a l ih=>
   rw[List.map_cons,List.sum_cons,ih];show g (.tup [.str [a]])+_=_;rw[g1,List.length_cons,Nat.succ_mul,Int.natCast_add];exact Int.add_comm ↑w ↑(l.length * w)
 refine rl (e ..) ?_;show _+(g (.tup [.str [112],.int 0,.int 0])+0)=_;refine rl g2 ?_;lia
theorem Pa (C:uf aO kd L ls P) :∀(d t s:Nat),1<=t->t<=20->s<=12->s+1<=d->nF aO L P (d4 d) (.x t) s:=by
 intro d
 induction d with
 |zero=>intro t s _ _ _ h;exact absurd h (Nat.not_succ_le_zero _)
 |succ d ih=>
  intro t s ht TK hs hd;have hlen :(Cl.x t).ints.length=t:=List.length_replicate;refine C9 C ⟨ht,TK⟩ (λh=>⟨ht,by rw[hlen] at h;exact Int.ofNat_le.mp h,hs⟩) (λh=>?_) λh=>?_
  .rw[hlen] at h
   show((fo L s t:Nat):Int)=0;exact rl (xD L s t (by exact Int.ofNat_lt.mp h)) rfl
  .rw[hlen] at h ⊢
   obtain⟨s,rfl⟩ :∃u,s=u+1:=⟨s - 1,by exact ZU ‹_› ‹_›⟩;obtain⟨d,rfl⟩ :∃u,d=u+1:=⟨d - 1,by exact UE hd⟩;by_cases h1:t=1
   .subst h1
    refine M5 C (c0:=0) rfl C.tO (by unfold nE;refine rl bY<|rl (cL ..)<|rl C.hL ?_;have:=C.h3;simp;lia) (λv=>if v=.tup [.str [112],.int 0,.int 0] then ((fo L s 2:Nat):Int) else (((if s=0 then 1 else 0:Nat)):Int)) (λv hm=>?_) ?_
    .skip
     rcases List.mem_append.mp hm with hm |hm
     .obtain⟨l,_,rfl⟩:=dz hm
      refine⟨.str [l],[],rfl,by simp,λay I=>⟨ay,I,?_⟩⟩;refine rl (ax (by simp) ..)<|rl (zR d s _ (by exact Int.sub_eq_iff_eq_add.mpr rfl) ..) ?_
      split <;> rfl
     .obtain rfl:=dM hm
      refine⟨.str [112],[.int 0,.int 0],rfl,by simp,λay I=>?_⟩;refine rl (aA rfl) ?_;have:=ih 2 s (by exact Nat.le_of_ble_eq_true rfl) (by exact Nat.le_of_ble_eq_true rfl) (by exact Nat.le_of_succ_le hs) (by exact Nat.le_of_lt_succ hd) ay I;exact rl (show((s+1:Nat):Int) - 1 =(s:Int) by exact Int.sub_eq_iff_eq_add.mpr rfl)<|this
    .refine(EL L (if s=0 then 1 else 0) (fo L s 2) ls C.hL _ (λl=>by exact rl (ax (by simp)) rfl) (by exact rl (aA rfl) rfl)).trans ?_
     show _ =((fo L (s+1) 1:Nat):Int);exact rl (xE L s 1 (Nat.le_refl _))<|rl (xC ..) rfl
   .obtain⟨t,rfl⟩ :∃u,t=u+1:=⟨t - 1,by exact(Nat.sub_eq_iff_eq_add ht).mp rfl⟩
    refine rl (cH h1)<|rl (ax (by decide)) ?_
    have Fs :(Cl.x t).ints.length=t:=List.length_replicate;refine So C (cl:=.x (t+1)) (ue:=.x t) rfl (by refine rl Fs ?_;lia) (by exact rl Fs<|Nat.le_of_succ_le TK) hs ?_ (λk hk=>ih 1 k (by exact Nat.le_of_ble_eq_true rfl) (by exact Nat.one_le_of_lt TK) (Vq ‹_› ‹_›) (Yc ‹_› ‹_›)) (λk hk=>ih t k (by lia) (by exact Nat.le_of_succ_le TK) (Vq ‹_› ‹_›) (Yc ‹_› ‹_›)) (by exact rl hlen<|Int.le_of_neg_le_neg h)
    exact rl hlen<|EK (by lia) (by exact Int.ofNat_le.mp h)
theorem Pb (C:uf aO kd L ls P)(d:Nat):nF aO L P (d4 (d+2)) .z 200:=by
 refine C9 C trivial (λ_=>rfl) (λh=>absurd h (by decide)) λh=>?_;refine M5 C (c0:=1) rfl C.xF (by decide) (λv=>0) (λv hm=>?_) (by rfl);obtain rfl:=dM hm;exact⟨.str [122],[],rfl,by simp,λay I=>⟨ay,I,rfl⟩⟩
end
section
variable {aO:Nat}
theorem pT (C:uf aO kd L ls P){c:Int}(h:fr.lookup 10=some (.ref aO))(hi:fr.lookup i=some (.int c))(hc:bP [.ref 1,.int c] (P ay)=.ok (.int c) (P ay)) :
  aw 3 25 bP (bc 1 53 (ai 10)) [ai i] fr (P ay)=.ok (.int c) (P ay):=by
 obtain⟨a,b,c',d,e,f,g',hh⟩:=C.heap;exact rr hc<|kb (xH C h) (hh ay) rfl (qw (ao hi) qv)
theorem Ih (C:uf aO kd L ls P){c s:Int}(h:fr.lookup 10=some (.ref aO))(Y4:fr.lookup 41=some (.int c))(PZ:fr.lookup 34=some (.int s))(hc:bP [.ref 1,.int c] (P ay)=.ok (.int c) (P ay)) :
  aw 1 57 r (ai 10) [bj [aw 3 25 bP (bc 1 53 (ai 10)) [ai 41]],ai 34] fr (P ay)=r [.ref aO,.tup [.int c],.int s] (P ay):=by
 refine ke C h (v1:=.tup [.int c]) (v2:=.int s) ?_ (ao PZ);simp only[bj,aS,ME.bind,pT C h Y4 hc,aC,ah];rfl
end
noncomputable def hX (aO kd L:Nat)(ls:List Nat)(P:List (V×V)->bw):Prop:=∀J:bw,uf aO kd L ls λay=>P ay++J
theorem wd :∀{vs:List V},(∀v∈vs,V.iI n v=true)->V.iJ n vs=true:=by
 intro y
 induction y with
 |nil=>
  intro _;exact rfl
 |cons v vs ih=>
  intro h;exact fD ⟨h v (.head _),ih λu hu=>h u (.tail _ hu)⟩
theorem EM (n:Nat) :∀t:Nat,V.iJ n (List.replicate t (.int 0))=true:=by
 intro y
 induction y with
 |zero=>
  exact rfl
 |succ t ih=>
  exact ih
theorem d7.iI (I:d7 L ay):oB n (.dict .tup ay)=true:=by
 refine fD ⟨wd λv hv=>?_,wd λv hv=>?_⟩
 .obtain⟨kv,hk,rfl⟩:=dz hv
  obtain⟨cl,s,_,rfl⟩:=I.good kv hk;show(V.iJ n cl.ints&&(true&&true))=true
  cases cl with
  |x t=>show(V.iJ n (List.replicate t (.int 0))&&(true&&true))=true;exact rl (EM ..) rfl
  |z=>rfl
 .obtain⟨kv,hk,rfl⟩:=dz hv
  obtain⟨cl,s,_,rfl⟩:=I.good kv hk;rfl
theorem zU {aO:Nat}(C:hX aO kd L ls P)(I:d7 L aJ)(h:closed (P ay++J)) :∀o∈P aJ++J,oB (P ay++J).length o=true:=by
 intro o ho;rw[<- (C J).set ay aJ] at ho;rcases List.mem_or_eq_of_mem_set ho with ho |rfl
 .exact h o ho
 .exact I.iI
theorem fA {aO:Nat}(C:hX aO kd L ls P)(ay aJ:List (V×V)) :(P aJ).length =(P ay).length:=by
 have:=aR List.length ((C []).set ay aJ);simp only[List.length_set,List.append_nil] at this;exact this.symm
theorem oW {aO:Nat}(C:hX aO kd L ls P){υ:bw}(I:d7 L aJ)(hf:gP 40 (P aJ++J++υ) (P ay++J).length v=some v') :
  uI (P ay++J) (.ok v (P aJ++J++υ))=.ok v' (P aJ++J):=by
 have hl :(P ay++J).length =(P aJ++J).length:=by refine bY.trans ?_;exact rl bY<|rl (fA C aJ ay) rfl
 have ht :(P aJ++J++υ).take (P ay++J).length=P aJ++J:=by exact rl hl<|rl List.take_left rfl
 refine(Hr hf (by exact rl ht<|zU C I)).trans ?_;exact rl ht rfl
theorem f7 (U:bw)(o:O) :(U++[o])[U.length]? = some o:=by simp
theorem Dc (U:bw)(vs:List V)(i:V):mB (.ref U.length) i (U++[.list vs])=AG vs i:=by unfold mB;dsimp only;rw[f7]
theorem mq (U:bw)(o o':O) :(U++[o]).set U.length o'=U++[o']:=by simp
theorem rK {D:List V}{a:V}(h:fr.lookup i=some (.ref U.length))(hz:D.length<1000):c6 .pop (ai i) [] fr (U++[.list (D++[a])])=.ok a (U++[.list D]):=by
 have AO:cD (D++[a]).length=true:=bN (by refine rl bY<|rl gA ?_;exact q1 ‹_› (by rfl))
 have hl:gE (U++[.list (D++[a])]) (.ref U.length)=some (U.length,D++[a]):=by unfold gE;dsimp only;exact rl (f7 ..) rfl
 refine rE (m:=.pop) (ao h) (aR Option.isSome hl) qv ?_;show(gE (U++[.list (D++[a])]) (.ref U.length)).bind _=_;refine rl hl<|rl (Option.bind_some ..) <| (aA (fD ⟨rfl,AO⟩)).trans ?_
 simp only[List.getLast?_append,List.getLast?_singleton,Option.map_some,Option.some_or,List.dropLast_concat,mq]
theorem nG {D D':List V}{f:ME V}(h:fr.lookup i=some (.ref U.length))(hf:f fr (U++[.list D])=.ok v (U++[.list D']))(hz:D'.length<1000):c6 .append (ai i) [f] fr (U++[.list D])=.ok .none (U++[.list (D'++[v])]):=by
 have AO:cD D'.length=true:=bN (q4 ‹_› (by rfl));have hl :∀D:List V,gE (U++[.list D]) (.ref U.length)=some (U.length,D):=λD=>by unfold gE;dsimp only;rw[f7]
 refine rE (m:=.append) (ao h) (aR Option.isSome (hl D)) (qw hf qv) ?_;show(gE (U++[.list D']) (.ref U.length)).bind _=_;rw[hl,Option.bind_some];refine(aA AO).trans ?_;rw[mq]
noncomputable def aQ:T->V
 |.leaf l=>.tup [.str [l]]
 |.node a b=>.tup [.str [112],aQ a,aQ b]
noncomputable def we:List Nat->List T->Prop
 |[],_=>True
 |s::r,st=>(s=112->2<=st.length)/\we r (fZ s st)
def EN (rs:List Nat)(st:List T):List T:=rs.foldl (λst s=>fZ s st) st
theorem EO {s:Nat} :∀(rs:List Nat) (st:List T),we rs st->(s=112->2<=(EN rs st).length)->we (rs++[s]) st:=by
 intro y
 induction y with
 |nil=>
  intro _ _ h;exact⟨h,trivial⟩
 |cons a rs ih=>
  intro st h h2;exact⟨h.1,ih _ h.2 h2⟩
theorem oX (ss:List Nat):EN ss.reverse []=gm ss:=by
 unfold EN gm;exact rl List.foldl_reverse rfl
theorem wg :∀{ss:List Nat},tK ss->we ss.reverse []:=by
 intro y
 induction y with
 |nil=>
  intro _;exact trivial
 |cons s r ih=>
  intro h;exact rl List.reverse_cons<|EO _ _ (ih h.1) λz=>by exact rl (oX ..)<|h.2 z
theorem zV (s:Nat)(st:List T) :(fZ s st).length<=st.length+1:=by
 unfold fZ
 split
 .match st with
  |[]=>exact Nat.zero_le _
  |[a]=>exact Nat.zero_le _
  |a::b::r=>simp only[List.length_cons];lia
 .simp
theorem xI {s:Nat}(hs:s<1000)(hc:c<1000){f:ME V}(h:f fr U=.ok (.str [s]) U):bx .Eq f (ah (.str [c])) fr U=.ok (decide (s=c)) U:=by
 have e1:ig .Eq (.str [s]) (.str [c]) U=some (decide (s=c)):=by
  have p1 :(V.str [s]).plain=true:=by show([s].all λx=>decide (x<1114112))=true;simp;exact q1 ‹_› (by rfl)
  have p2 :(V.str [c]).plain=true:=by show([c].all λx=>decide (x<1114112))=true;simp;exact q1 ‹_› (by rfl)
  have f1:flat U (.str [s])=some (.str [s]):=by unfold flat;dsimp only;rw[aA p1]
  have f2:flat U (.str [c])=some (.str [c]):=by unfold flat;dsimp only;rw[aA p2]
  show JY (.str [s]) (.str [c]) U=_;unfold JY;rw[f1,f2];show some (V.beq (.str [s]) (.str [c]))=_;by_cases bJ:s=c
  .subst bJ;rw[(V.beq_iff _ _).mpr rfl,bN rfl]
  .rw[cH bJ]
   congr 1
   cases z:V.beq (.str [s]) (.str [c]) with
   |false=>rfl
   |true=>have:=(V.beq_iff _ _).mp z;injection this with q;injection q with q _;exact absurd q bJ
 simp only[bx,ME.bind,h,aC,ah,e1,c9]
def qz:MS:=(bM (c6 .append (ai 48) [(qY (bx .Eq (ai 1) (ah (.str [112]))) (bj [(ai 1),(c6 .pop (ai 48) []),(c6 .pop (ai 48) [])]) (bj [(ai 1)]))]))
theorem EP {s:Nat}{st:List T}(Lw:fr.lookup 48=some (.ref U.length))(h1:fr.lookup 1=some (.str [s]))(hs:s<1000)(hz:st.length<900)(Ii:s=112->2<=st.length) :
  qz fr (U++[.list (st.map aQ).reverse])=.next fr (U++[.list ((fZ s st).map aQ).reverse]):=by
 have ht:=xI (fr:=fr) (U:=U++[.list (st.map aQ).reverse]) (f:=ai 1) (c:=112) hs (by decide) (ao h1);have key :∀D',(qY (bx .Eq (ai 1) (ah (.str [112]))) (bj [(ai 1),(c6 .pop (ai 48) []),(c6 .pop (ai 48) [])]) (bj [(ai 1)])) fr (U++[.list (st.map aQ).reverse])=.ok (aQ ((fZ s st).headD (.leaf 0))) (U++[.list D'])->D'++[aQ ((fZ s st).headD (.leaf 0))] =((fZ s st).map aQ).reverse->D'.length<1000->
   qz fr (U++[.list (st.map aQ).reverse])=.next fr (U++[.list ((fZ s st).map aQ).reverse]):=λD' e1 e2 e3=>by
  unfold qz bM;simp only[ct,nG Lw e1 e3,e2];rfl
 by_cases h:s=112
 .subst h
  obtain⟨a,b,r,q⟩:O2 (λa b r=>st=a::b::r):=by
   cases st with
   |nil=>exact absurd (Ii rfl) (by simp)
   |cons a t=>
    cases t with
    |nil=>exact absurd (Ii rfl) (by simp)
    |cons b r=>exact⟨a,b,r,rfl⟩
  clear Ii;subst q
  .refine key (r.map aQ).reverse ?_ (by show _++[aQ (.node a b)] =((T.node a b::r).map aQ).reverse;exact rl List.map_cons<|rl List.reverse_cons rfl) (by refine rl List.length_reverse<|rl (cL ..) ?_;simp only[List.length_cons] at hz;exact q5 ‹_› (by rfl))
   have hr:r.length<900:=by simp only[List.length_cons] at hz;exact Nat.lt_of_add_right_lt hz
   have e0 :((a::b::r).map aQ).reverse =((r.map aQ).reverse++[aQ b])++[aQ a]:=by simp
   rw[e0] at ht ⊢;have p1:=rK (i:=48) (fr:=fr) (U:=U) (D:=(r.map aQ).reverse++[aQ b]) (a:=aQ a) Lw (by simp;exact q2 ‹_› (by rfl));have p2:=rK (i:=48) (fr:=fr) (U:=U) (D:=(r.map aQ).reverse) (a:=aQ b) Lw (by simp;exact q1 ‹_› (by rfl));simp only[qY,ME.bind,ht,aC,decide_true,if_true,bj,aS,ai,h1,c9,p1,p2,ah];rfl
 .refine key (st.map aQ).reverse ?_ (by unfold fZ;refine rl (ax h) ?_;show _++[aQ (.leaf s)] =((T.leaf s::st).map aQ).reverse;exact rl List.map_cons<|rl List.reverse_cons rfl) (by refine rl List.length_reverse<|rl (cL ..) ?_;exact q1 ‹_› (by rfl))
  simp only[qY,ME.bind,ht,aC,decide_eq_false h,Bool.false_eq_true,if_false,bj,aS,ai,h1,c9,ah];unfold fZ;exact rl (ax h) rfl
theorem ER :∀(rs:List Nat) (st:List T) (fr:eY) (U:bw),fr.lookup 48=some (.ref U.length)->(∀s∈rs,s<1000)->st.length+rs.length<900->we rs st->
  ∀{G:Prop},(∀bC,bC.lookup 48=some (.ref U.length)->(dJ (az 1) qz (rs.map λc=>V.str [c]) fr (U++[.list (st.map aQ).reverse])=.next bC (U++[.list ((EN rs st).map aQ).reverse]))->G)->G:=by
 intro y
 induction y with
 |nil=>
  intro st fr U h _ _ _ G kG;exact kG fr h rfl
 |cons s rs ih=>
  intro st fr U h hs hz ok G kG;rw[List.length_cons] at hz;have ES :(aE fr 1 (.str [s])).lookup 48=some (.ref U.length):=bX (by decide) h;have l1 :(aE fr 1 (.str [s])).lookup 1=some (.str [s]):=cV _ _ _;have e:=EP (U:=U) (st:=st) ES l1 (hs s (.head _)) (by exact Nat.lt_of_add_right_lt hz) ok.1;refine ih (fZ s st) _ U ES (λu hu=>hs u (.tail _ hu)) (by have:=zV s st;exact Qm hz this) ok.2 λbC h' e'=>?_;refine kG bC h' ?_;show dJ (az 1) qz (V.str [s]::_) fr _=_;show(match qz (aE fr 1 (.str [s])) _ with |.next cG bS=>_ |.brk cG bS=>_ |.ret v bS=>_ |.exc c cG bS=>_ |.stuck=>_)=_
  exact rl e<|e'
theorem kg {f:V->Option V}{w:V}(h:f v=some w)(k:jJ f us=some ws):jJ f (v::us)=some (w::ws):=by
 show(f v).bind (λa=>(jJ f us).map (a::·))=_;exact rl h<|rl k rfl
theorem kI {g:V->Option V} :∀(us:List V),(∀v∈us,g v=some v)->jJ g us=some us:=by
 intro y
 induction y with
 |nil=>
  intro _;exact rfl
 |cons v us ih=>
  intro h;show(g v).bind (λa=>(jJ g us).map (a::·))=_;exact rl (h v (.head _))<|rl (ih λu hu=>h u (.tail _ hu)) rfl
theorem tR :∀(t:T) (f:Nat),t.pre.length+1<f->gP f U n (aQ t)=some (aQ t):=by
 intro y
 induction y with
 |leaf l=>
  intro f h;obtain⟨g,rfl⟩ :∃g,f=g+2:=⟨f - 2,by exact Nk h⟩;rfl
 |node a b wh p5=>
  intro f h;have e :(T.node a b).pre.length=a.pre.length+b.pre.length+1:=by simp[T.pre]
  rw[e] at h;obtain⟨g,rfl⟩ :∃g,f=g+2:=⟨f - 2,by exact Nk h⟩;have ha:=wh (g+1) (X0 ‹_›);have hb:=p5 (g+1) (Z1 ‹_›);exact aR (Option.map V.tup) (kI [.str [112],aQ a,aQ b] λv hv=>by
   rcases b7 hv with rfl |hv
   .rfl
   .rcases b7 hv with rfl |hv
    .exact ha
    .exact dM hv▸hb)
theorem Lx {t:T}(hb:gm ss=[t])(hp:t.pre.length<30)(hs :∀s∈ss,s<1000)(hz:ss.length<30)(hv:tK ss):lU [.str ss] U=.ok (aQ t) U:=by
 have key:cx [76] tI [.str ss] U=.ok (aQ t) (U++[.list [aQ t]]):=by
  have ES :(aE [(76,V.str ss)] 48 (.ref U.length)).lookup 48=some (.ref U.length):=cV _ _ _;have Ly :(aE [(76,V.str ss)] 48 (.ref U.length)).lookup 76=some (.str ss):=by exact rl (aV ..)<|rl (ax (by decide)) rfl
  refine ER ss.reverse [] _ U ES (λs h=>hs s (List.mem_reverse.mp h)) (by simp;exact q1 ‹_› (by rfl)) (wg hv) λbC h' e=>?_;rw[oX,hb] at e;have er:qP (ai 76) (aE [(76,V.str ss)] 48 (.ref U.length)) (U++[.list []])=.ok (ss.reverse.map λc=>V.str [c]) (U++[.list []]):=by
   exact(bL (ao Ly)).trans (aR (λo=>Res.cN o _) (aA (q4 ‹_› (by rfl))))
  have ei:cu (ai 48) (ah (.int 0)) bC (U++[.list [aQ t]])=.ok (aQ t) (U++[.list [aQ t]]):=by
   exact BN (ao h') rfl ((Dc U _ _).trans rfl)
  have e2:df (az 1) (qP (ai 76)) qz (aE [(76,V.str ss)] 48 (.ref U.length)) (U++[.list []])=.next bC (U++[.list [aQ t]]):=by
   exact iu er e
  have e1:aB (az 48) (dj []) [(76,V.str ss)] U=.next (aE [(76,V.str ss)] 48 (.ref U.length)) (U++[.list []]):=rfl;have em:tI [(76,V.str ss)] U=.ret (aQ t) (U++[.list [aQ t]]):=by
   show aL _ (aL (df (az 1) (qP (ai 76)) qz) (cn (cu (ai 48) (ah (.int 0))))) _ _=_;unfold aL;refine rl e1 ?_;dsimp only;exact rl e2<|ir ei
  refine(aA (rfl:[V.str ss].length=[76].length)).trans ?_;show dB (tI [(76,V.str ss)] U)=_;exact rl em rfl
 unfold lU tw;exact rl (key ..)<|tv (tR t 40 (q2 ‹_› (by rfl)))
def pU:MS:=(aL (aB (az 16) (bO [48] (az 49) (iY (ai 50)) none (c6 .pop (ai 48) [])))
 (bM (c6 .append (ai 48) [(aU .Add (bj [(ai 14)]) (bT .tuple [(ai 16)]))])))
def fh (s:Nat)(st:List T):List V:=if s=112 then (st.take 2).map aQ else []
noncomputable def restOf (s:Nat)(st:List T):List T:=if s=112 then st.drop 2 else st
theorem zW {st:List Y}(h:2<=st.length)(kG :∀a b r,st=a::b::r->G):G:=by
 cases st with
 |nil=>exact absurd h (by simp)
 |cons a t=>
  cases t with
  |nil=>exact absurd h (by simp)
  |cons b r=>exact kG a b r rfl
theorem Lz {s:Nat}{st:List T}(Lw:fr.lookup 48=some (.ref U.length))(TL:fr.lookup 50=some (.int (bo s)))(hz:st.length<900)(Ii:s=112->2<=st.length) :
  bO [48] (az 49) (iY (ai 50)) none (c6 .pop (ai 48) []) fr (U++[.list (st.map aQ).reverse])=.ok (.list (fh s st)) (U++[.list ((restOf s st).map aQ).reverse]):=by
 unfold bO;by_cases h:s=112
 .subst h
  refine zW (Ii rfl) λa b r q=>?_;clear Ii;subst q;have hr:r.length<900:=by simp only[List.length_cons] at hz;exact Nat.lt_of_add_right_lt hz
  have e0 :((a::b::r).map aQ).reverse =((r.map aQ).reverse++[aQ b])++[aQ a]:=by simp
  rw[e0];have ES :∀v,(aE (jN fr [48]) 49 v).lookup 48=some (.ref U.length):=λv=>by rw[aV,ax (by decide),fU (by decide)];exact Lw
  have p1:=rK (i:=48) (fr:=aE (jN fr [48]) 49 (.int 0)) (U:=U) (D:=(r.map aQ).reverse++[aQ b]) (a:=aQ a) (ES _) (by simp;exact q2 ‹_› (by rfl));have p2:=rK (i:=48) (fr:=aE (jN fr [48]) 49 (.int 1)) (U:=U) (D:=(r.map aQ).reverse) (a:=aQ b) (ES _) (by simp;exact q1 ‹_› (by rfl));exact rl ((pQ (ao TL) (by decide)).trans (by rw[show d9 0 ((bo 112:Nat):Int) 1=[.int 0,.int 1] by decide]))<|rl (aC ..)<|rl (jj rfl p1 (by decide))<|rl (jj rfl p2 (by simp)) rfl
 .have ha:bo s=0:=ax h
  refine rl ((pQ (ao TL) (by rw[ha];decide)).trans (by rw[ha,show d9 0 ((0:Nat):Int) 1=[] by decide]))<|rl (aC ..) ?_
  unfold fh restOf;exact rl (ax h)<|rl (ax h) rfl
theorem ET {s:Nat}{st:List T}(Ii:s=112->2<=st.length):fZ s st =(fZ s st).headD (.leaf 0)::restOf s st/\V.tup (.str [s]::fh s st)=aQ ((fZ s st).headD (.leaf 0)):=by
 by_cases h:s=112
 .subst h
  refine zW (Ii rfl) λa b r q=>?_;subst q;exact⟨rfl,rfl⟩
 .unfold fZ fh restOf
  exact rl (ax h)<|rl (ax h)<|rl (ax h)<|⟨rfl,rfl⟩
theorem Ij (s:Nat)(st:List T) :(fh s st).length<=2:=by
 unfold fh
 split
 .simp;exact Nat.min_le_left 2 st.length
 .simp
theorem Ik (s:Nat)(st:List T) :(restOf s st).length<=st.length:=by
 unfold restOf
 split
 .simp
 .exact Nat.le_refl _
theorem BP {s:Nat}{st:List T}(Lw:fr.lookup 48=some (.ref U.length))(Xa:fr.lookup 14=some (.str [s]))(TL:fr.lookup 50=some (.int (bo s)))(hz:st.length<900)(Ii:s=112->2<=st.length)(kG :∀bC,bC.lookup 48=some (.ref U.length)->pU fr (U++[.list (st.map aQ).reverse])=.next bC (U++[.list ((fZ s st).map aQ).reverse])->G):G:=by
 have hk:=Ij s st;have hl:=Ik s st;refine kG (aE fr 16 (.list (fh s st))) (bX (by decide) Lw) ?_;refine(aK (bC:=aE fr 16 (.list (fh s st))) (bB:=U++[.list ((restOf s st).map aQ).reverse]) (by unfold aB ct;exact rl (Lz Lw TL hz Ii) rfl)).trans ?_;have ES :(aE fr 16 (.list (fh s st))).lookup 48=some (.ref U.length):=bX (by decide) Lw;have Fv :(aE fr 16 (.list (fh s st))).lookup 14=some (.str [s]):=bX (by decide) Xa;have M6 :(aE fr 16 (.list (fh s st))).lookup 16=some (.list (fh s st)):=cV _ _ _;have ez:cD (fh s st).length=true:=bN (q3 ‹_› (by rfl));have ez1:cD (1+(fh s st).length)=true:=bN (by lia);have e:aU .Add (bj [(ai 14)]) (bT .tuple [(ai 16)]) (aE fr 16 (.list (fh s st))) (U++[.list ((restOf s st).map aQ).reverse])=.ok (.tup (.str [s]::fh s st)) (U++[.list ((restOf s st).map aQ).reverse]):=by
  refine(bk (a:=.tup [.str [s]]) (b:=.tup (fh s st)) (bq:=U++[.list ((restOf s st).map aQ).reverse]) (bS:=U++[.list ((restOf s st).map aQ).reverse]) ?_ ?_).trans ?_
  .unfold bj
   simp only[ME.bind,aS,ai,Fv,c9,aC,ah];rfl
  .unfold bT
   dsimp only[ME.bind,aS,ai,M6,c9,aC,ah];show Res.cN (if cD (fh s st).length then some (V.tup (fh s st)) else .none) _=_;exact rl (aA ez) rfl
  .show(if cD (1+(fh s st).length) then Res.ok (V.tup ([.str [s]]++fh s st)) _ else Res.stuck)=_
   refine(aA ez1).trans ?_;rfl
 unfold bM ct;refine rl (nG ES e (by rw[List.length_reverse,cL];exact X9 ‹_› ‹_› (by rfl))) ?_;dsimp only;have v:=ET Ii;refine rl v.2 ?_
 conv=>rhs;rw[v.1,List.map_cons,List.reverse_cons]
 rfl
def zX (s:Nat):V:=.tup [.str [s],.int (bo s)]
theorem BQ :∀(rs:List Nat) (st:List T) (fr:eY) (U:bw),fr.lookup 48=some (.ref U.length)->st.length+rs.length<900->we rs st->
  ∀{G:Prop},(∀bC,bC.lookup 48=some (.ref U.length)->dJ (bp [14,50]) pU (rs.map zX) fr (U++[.list (st.map aQ).reverse])=.next bC (U++[.list ((EN rs st).map aQ).reverse])->G)->G:=by
 intro y
 induction y with
 |nil=>
  intro st fr U h _ _ G kG;exact kG fr h rfl
 |cons s rs ih=>
  intro st fr U h hz ok G kG;rw[List.length_cons] at hz;have ES :(aE (aE fr 14 (.str [s])) 50 (.int (bo s))).lookup 48=some (.ref U.length):=bX (by decide) (bX (by decide) h);have Fv :(aE (aE fr 14 (.str [s])) 50 (.int (bo s))).lookup 14=some (.str [s]):=bX (by decide) (cV _ _ _);have Fw :(aE (aE fr 14 (.str [s])) 50 (.int (bo s))).lookup 50=some (.int (bo s)):=cV _ _ _;refine BP (U:=U) (st:=st) ES Fv Fw (by exact Nat.lt_of_add_right_lt hz) ok.1 λcz h1 e=>?_;refine ih (fZ s st) cz U h1 (by have:=zV s st;exact Qm hz this) ok.2 λbC h' e'=>?_;refine kG bC h' ?_;show dJ (bp [14,50]) pU (zX s::_) fr _=_;show(match pU (aE (aE fr 14 (.str [s])) 50 (.int (bo s))) _ with |.next cG bS=>_ |.brk cG bS=>_ |.ret v bS=>_ |.exc c cG bS=>_ |.stuck=>_)=_
  exact rl e<|e'
theorem EU (h:items? U v=some vs):items? (U++J) v=some vs:=by
 cases v with
 |ref i=>
  unfold items? at h ⊢;dsimp only at h ⊢
  cases hs:U[i]? with
  |none=>rw[hs] at h;injection h
  |some o=>
   have hi:i<U.length:=(List.getElem?_eq_some_iff.mp hs).1;rw[hs] at h;exact rl (List.getElem?_append_left hi)<|rl hs<|h
 |list us=>exact h
 |_=>injection h
theorem EV :∀ss:List Nat,CL (ss.map λs=>V.str [s]) (ss.map λs=>V.int (bo s))=ss.map zX:=by
 intro y
 induction y with
 |nil=>
  exact rfl
 |cons s ss ih=>
  show V.tup [.str [s],.int (bo s)]::CL _ _=_;exact rl ih rfl
theorem Il {t:T}(h:items? U v=some (ss.map λs=>.str [s]))(hb:gm ss=[t])(hp:t.pre.length<30)(hz:ss.length<30)(hv:tK ss):kC [v,.tup (ss.map λs=>.int (bo s))] U=.ok (aQ t) U:=by
 have dg:ss.length≠0:=λz=>by
  cases ss with
  |nil=>injection hb
  |cons a r=>injection z
 have key:cx [51,52] oN [v,.tup (ss.map λs=>.int (bo s))] U=.ok (aQ t) (U++[.list [aQ t]]):=by
  generalize hu:V.tup (ss.map λs=>.int (bo s))=u;have ES :(aE [(51,v),(52,u)] 48 (.ref U.length)).lookup 48=some (.ref U.length):=cV _ _ _;have Pc :(aE [(51,v),(52,u)] 48 (.ref U.length)).lookup 51=some v:=by exact rl (aV ..)<|rl (ax (by decide)) rfl
  have TM :(aE [(51,v),(52,u)] 48 (.ref U.length)).lookup 52=some u:=by exact rl (aV ..)<|rl (ax (by decide)) rfl
  refine BQ ss.reverse [] _ U ES (by simp;exact q1 ‹_› (by rfl)) (wg hv) λbC h' e=>?_;rw[oX,hb] at e;have er:qP (Et (aS [ai 51,ai 52])) (aE [(51,v),(52,u)] 48 (.ref U.length)) (U++[.list []])=.ok (ss.reverse.map zX) (U++[.list []]):=by
   have ez:KS [v,u] (U++[.list []])=some (.list (ss.map zX)):=by
    unfold KS;dsimp only;refine rl (EU h)<|rr hu ?_
    show KR _ _=_;unfold KR;refine(aA ⟨by exact rl (cL ..)<|rl (cL ..) rfl,by exact rl (cL ..)<|dg,by refine rl (cL ..) ?_;exact q4 ‹_› (by rfl)⟩).trans ?_;exact rl (EV ..) rfl
   unfold qP Et;simp only[ME.bind,aS,ai,Pc,TM,c9,aC,ah,ez,KU,List.map_reverse]
  have ei:cu (ai 48) (ah (.int 0)) bC (U++[.list [aQ t]])=.ok (aQ t) (U++[.list [aQ t]]):=by
   exact BN (ao h') rfl ((Dc U _ _).trans rfl)
  have e2:df (bp [14,50]) (qP (Et (aS [ai 51,ai 52]))) pU (aE [(51,v),(52,u)] 48 (.ref U.length)) (U++[.list []])=.next bC (U++[.list [aQ t]]):=by
   exact iu er e
  have e1:aB (az 48) (dj []) [(51,v),(52,u)] U=.next (aE [(51,v),(52,u)] 48 (.ref U.length)) (U++[.list []]):=rfl;have em:oN [(51,v),(52,u)] U=.ret (aQ t) (U++[.list [aQ t]]):=by
   show aL _ (aL (df (bp [14,50]) (qP (Et (aS [ai 51,ai 52]))) pU) (cn (cu (ai 48) (ah (.int 0))))) _ _=_;refine(aK e1).trans ((aK e2).trans ?_);exact ir ei
  refine(aA (rfl:[v,u].length=[51,52].length)).trans ?_;show dB (oN [(51,v),(52,u)] U)=_;exact rl em rfl
 unfold kC tw;exact rl (key ..)<|tv (tR t 40 (q2 ‹_› (by rfl)))
noncomputable def under (k:Nat)(p:List V×T):List V×T:=(.int k::p.1,p.2)
noncomputable def da:T->List (List V×T)
 |.leaf l=>[([],.leaf l)]
 |.node a b=>([],.node a b) ::((da a).map (under 0)++(da b).map (under 1))
def eF (p:List V×T):V:=.tup [.tup p.1,aQ p.2]
noncomputable def mE:T->Nat
 |.leaf _=>0
 |.node a b=>max (mE a) (mE b)+1
theorem pV :∀t:T,(da t).length=t.pre.length:=by
 intro y
 induction y with
 |leaf _=>
  exact rfl
 |node a b wh p5=>
  simp[da,T.pre,wh,p5]
theorem BR :∀(t:T) (p:List V×T),p∈da t->p.1.length<t.pre.length:=by
 intro y
 induction y with
 |leaf l=>
  intro p h
  cases dM h;exact Nat.zero_lt_one
 |node a b wh p5=>
  intro p h;have e :(T.node a b).pre.length=a.pre.length+b.pre.length+1:=by simp[T.pre]
  refine rl e ?_;rcases b7 h with rfl |h
  .exact Nat.zero_lt_succ _
  .rcases List.mem_append.mp h with h |h
   .obtain⟨q,hq,rfl⟩:=dz h
    have:=wh q hq;show q.1.length+1<_;exact q66 ‹_›
   .obtain⟨q,hq,rfl⟩:=dz h
    have:=p5 q hq;show q.1.length+1<_;exact Vt ‹_›
theorem tS {D xs:List V}{f:ME V}(h:fr.lookup i=some (.ref U.length))(hf:f fr (U++[.list D])=.ok (.list xs) (U++[.list D]))(hz:D.length+xs.length<1000):c6 .extend (ai i) [f] fr (U++[.list D])=.ok .none (U++[.list (D++xs)]):=by
 have AO:cD (D.length+xs.length)=true:=bN (q4 ‹_› (by rfl));have hl :∀D:List V,gE (U++[.list D]) (.ref U.length)=some (U.length,D):=λD=>by unfold gE;dsimp only;rw[f7]
 refine rE (m:=.extend) (ao h) (aR Option.isSome (hl D)) (qw hf qv) ?_;show(gE (U++[.list D]) (.ref U.length)).bind _=_;rw[hl,Option.bind_some];refine(aA AO).trans ?_;rw[mq]
theorem gM {f g:ME V}{a b:V}(hf:f fr U=.ok a U)(hg:g fr U=.ok b U):bj [f,g] fr U=.ok (.tup [a,b]) U:=by
 unfold bj;simp only[ME.bind,aS,hf,hg,aC,ah];rfl
def tU:ME V:=bj [(aU .Add (bj [(ai 4)]) (ai 5)),(ai 6)]
theorem Im {p:List V×T}(h4:jC.lookup 4=some (.int k))(hp:p.1.length<100):tU (aE (aE jC 5 (.tup p.1)) 6 (aQ p.2)) U=.ok (eF (under k p)) U:=by
 have l4 :(aE (aE jC 5 (.tup p.1)) 6 (aQ p.2)).lookup 4=some (.int k):=bX (by decide) (bX (by decide) h4);have l5 :(aE (aE jC 5 (.tup p.1)) 6 (aQ p.2)).lookup 5=some (.tup p.1):=bX (by decide) (cV _ _ _);have l6 :(aE (aE jC 5 (.tup p.1)) 6 (aQ p.2)).lookup 6=some (aQ p.2):=cV _ _ _;have e:aU .Add (bj [(ai 4)]) (ai 5) (aE (aE jC 5 (.tup p.1)) 6 (aQ p.2)) U=.ok (.tup (.int k::p.1)) U:=by
  refine(bk (a:=.tup [.int k]) (b:=.tup p.1) (bq:=U) (bS:=U) ?_ (ao l5)).trans ?_
  .unfold bj
   simp only[ME.bind,aS,ai,l4,c9,aC,ah];rfl
  .show(if cD (1+p.1.length) then Res.ok (V.tup ([.int k]++p.1)) _ else Res.stuck)=_
   have ez:cD (1+p.1.length)=true:=bN (q86 ‹_› (by rfl));refine(aA ez).trans ?_;rfl
 exact gM e (ao l6)
theorem BS (h4:jC.lookup 4=some (.int k)) :∀(ps:List (List V×T)) (bh:List V),(∀p∈ps,p.1.length<100)->bh.length+ps.length<1000->
  fz (bp [5,6]) none tU jC (ps.map eF) U bh=.ok (bh++(ps.map (under k)).map eF) U:=by
 intro y
 induction y with
 |nil=>
  intro bh _ _;rw[List.map_nil,List.map_nil,List.map_nil,List.append_nil];rfl
 |cons p ps ih=>
  intro bh hp hz;rw[List.length_cons] at hz;have ih:=ih (bh++[eF (under k p)]) (λq hq=>hp q (.tail _ hq)) (by refine rl bY<|rl gA ?_;exact yb hz)
  show fz (bp [5,6]) none tU jC (eF p::_) U bh=_;exact rl (jj (cz:=aE (aE jC 5 (.tup p.1)) 6 (aQ p.2)) rfl (Im h4 (hp p (.head _))) (q5 ‹_› (by rfl)))<|rl ih<|rl (cW ..) rfl
def nH (r:List V->bw->Res V):MS:=bM (c6 .extend (ai 2) [(bO [4] (bp [5,6]) (bl (bW r [(ai 7)])) none tU)])
theorem tV {D:List V}{t:T}(h2:fr.lookup 2=some (.ref U.length))(h4:fr.lookup 4=some (.int k))(h7:fr.lookup 7=some (aQ t))(hr :∀U,r [aQ t] U=.ok (.list ((da t).map eF)) U)(hz:D.length+t.pre.length<100) :
  nH r fr (U++[.list D])=.next fr (U++[.list (D++((da t).map (under k)).map eF)]):=by
 have hl:=pV t;have e:bO [4] (bp [5,6]) (bl (bW r [(ai 7)])) none tU fr (U++[.list D])=.ok (.list (((da t).map (under k)).map eF)) (U++[.list D]):=by
  have ei:bl (bW r [(ai 7)]) fr (U++[.list D])=.ok ((da t).map eF) (U++[.list D]):=by
   unfold bl bW;simp only[ME.bind,aS,ai,h7,c9,aC,ah,hr];rfl
  unfold bO;exact rl ei<|rl (aC ..)<|rl (BS (by rw[fU (by decide)];exact h4) _ [] (λp hp=>by have:=BR t p hp;exact q67 ‹_› ‹_›) (by simp;exact q68 ‹_› ‹_› (by rfl)))<|rl (aC ..) rfl
 unfold nH bM ct;exact rl (tS h2 e (by rw[cL,cL];exact q69 ‹_› ‹_› (by rfl))) rfl
theorem BU :∀(t:T) (p:List V×T),p∈da t->(∀v∈p.1,∃i:Int,v=.int i)/\p.2.pre.length<=t.pre.length:=by
 intro y
 induction y with
 |leaf l=>
  intro p h
  cases dM h;exact⟨λv hv=>(nomatch hv),Nat.le_refl _⟩
 |node a b wh p5=>
  intro p h;have e :(T.node a b).pre.length=a.pre.length+b.pre.length+1:=by simp[T.pre]
  rcases b7 h with rfl |h
  .exact⟨λv hv=>(nomatch hv),Nat.le_refl _⟩
  .rcases List.mem_append.mp h with h |h
   .obtain⟨q,hq,rfl⟩:=dz h
    obtain⟨h1,h2⟩:=wh q hq;refine⟨λv hv=>?_,by rw[e];show q.2.pre.length<=_;lia⟩;rcases b7 hv with rfl |hv
    .exact⟨_,rfl⟩
    .exact h1 v hv
   .obtain⟨q,hq,rfl⟩:=dz h
    obtain⟨h1,h2⟩:=p5 q hq;refine⟨λv hv=>?_,by rw[e];show q.2.pre.length<=_;lia⟩;rcases b7 hv with rfl |hv
    .exact⟨_,rfl⟩
    .exact h1 v hv
theorem Io {p:List V×T}{f:Nat}(hi :∀v∈p.1,∃i:Int,v=.int i)(hf:p.2.pre.length+3<f):gP f U n (eF p)=some (eF p):=by
 obtain⟨g,rfl⟩ :∃g,f=g+3:=⟨f - 3,by exact UG hf⟩;have h1:gP (g+2) U n (.tup p.1)=some (.tup p.1):=by
  show(jJ (gP (g+1) U n) p.1).map V.tup=_;exact rl (kI p.1 λv hv=>by obtain⟨i,rfl⟩:=hi v hv;rfl) rfl
 exact aR (Option.map V.tup) (kI [.tup p.1,aQ p.2] λv hv=>by
  rcases b7 hv with rfl |hv
  .exact h1
  .exact dM hv▸tR p.2 (g+2) (X0 ‹_›))
theorem Ip :∀(d:Nat) (t:T) (U:bw),mE t<d->t.pre.length<30->eS d [aQ t] U=.ok (.list ((da t).map eF)) U:=by
 intro y
 induction y with
 |zero=>
  intro t U h _;exact absurd h (Nat.not_lt_zero _)
 |succ d ih=>
  intro t U h hp;have key:cx [3] (mn (eS d)) [aQ t] U=.ok (.ref U.length) (U++[.list ((da t).map eF)]):=by
   have e1:aB (az 2) (dj [(bj [(bj []),(ai 3)])]) [(3,aQ t)] U=.next (aE [(3,aQ t)] 2 (.ref U.length)) (U++[.list [eF ([],t)]]):=rfl;have l2 :(aE [(3,aQ t)] 2 (.ref U.length)).lookup 2=some (.ref U.length):=cV _ _ _;have l3 :(aE [(3,aQ t)] 2 (.ref U.length)).lookup 3=some (aQ t):=by exact rl (aV ..)<|rl (ax (by decide)) rfl
   generalize aE [(3,aQ t)] 2 (.ref U.length)=fr at e1 l2 l3;have e2:fk (λbC=>bC.lookup 2=some (.ref U.length)) (λbC=>df (bp [4,7]) (kO (dU 1 (ai 3))) (nH (eS d)) fr (U++[.list [eF ([],t)]])=.next bC (U++[.list ((da t).map eF)])):=by
    cases t with
    |leaf l=>
     refine⟨fr,l2,?_⟩;have er:kO (dU 1 (ai 3)) fr (U++[.list [eF ([],.leaf l)]])=.ok [] (U++[.list [eF ([],.leaf l)]]):=by
      unfold kO dU;simp only[ME.bind,ai,l3,c9,aC];rfl
     unfold df ct;exact rl er rfl
    |node a b=>
     have e :(T.node a b).pre.length=a.pre.length+b.pre.length+1:=by simp[T.pre]
     have hh:mE (.node a b)=max (mE a) (mE b)+1:=rfl;rw[e] at hp;rw[hh] at h;have er:kO (dU 1 (ai 3)) fr (U++[.list [eF ([],.node a b)]])=.ok [.tup [.int 0,aQ a],.tup [.int 1,aQ b]] (U++[.list [eF ([],.node a b)]]):=by
      unfold kO dU;simp only[ME.bind,ai,l3,c9,aC];rfl
     have la:=pV a;have s1:=tV (r:=eS d) (fr:=aE (aE fr 4 (.int 0)) 7 (aQ a)) (U:=U) (D:=[eF ([],.node a b)]) (k:=0) (t:=a) (bX (by decide) (bX (by decide) l2)) (by exact rl (aV ..)<|rl (ax (by decide))<|rl (aV ..)<|rl (aA rfl) rfl) (cV _ _ _) (λU=>ih a U (by exact Qe h) (by lia)) (by simp;exact ZZ ‹_› (by rfl))
     have s2:=tV (r:=eS d) (fr:=aE (aE (aE (aE fr 4 (.int 0)) 7 (aQ a)) 4 (.int 1)) 7 (aQ b)) (U:=U) (D:=[eF ([],.node a b)]++((da a).map (under 0)).map eF) (k:=1) (t:=b)
      (by exact rl (aV ..)<|rl (ax (by decide))<|rl (aV ..)<|rl (ax (by decide))<|rl (aV ..)<|rl (ax (by decide))<|rl (aV ..)<|rl (ax (by decide))<|l2) (by exact rl (aV ..)<|rl (ax (by decide))<|rl (aV ..)<|rl (aA rfl) rfl) (cV _ _ _) (λU=>ih b U (by exact Qd h) (by lia)) (by simp;exact q74 ‹_› ‹_› (by rfl))
     refine⟨aE (aE (aE (aE fr 4 (.int 0)) 7 (aQ a)) 4 (.int 1)) 7 (aQ b),by exact rl (aV ..)<|rl (ax (by decide))<|rl (aV ..)<|rl (ax (by decide))<|rl (aV ..)<|rl (ax (by decide))<|rl (aV ..)<|rl (ax (by decide))<|l2,?_⟩
     unfold df ct;refine rl er ?_;show dJ (bp [4,7]) (nH (eS d)) [.tup [.int 0,aQ a],.tup [.int 1,aQ b]] fr _=_;show(match nH (eS d) (aE (aE fr 4 (.int 0)) 7 (aQ a)) _ with |.next cG bS=>_ |.brk cG bS=>_ |.ret v bS=>_ |.exc c cG bS=>_ |.stuck=>_)=_
     refine rl s1 ?_;dsimp only;show(match nH (eS d) (aE (aE (aE (aE fr 4 (.int 0)) 7 (aQ a)) 4 (.int 1)) 7 (aQ b)) _ with |.next cG bS=>_ |.brk cG bS=>_ |.ret v bS=>_ |.exc c cG bS=>_ |.stuck=>_)=_
     refine rl s2 ?_;show uh.next _ _=_;exact rl (show(da (.node a b)).map eF=[eF ([],.node a b)]++((da a).map (under 0)).map eF++((da b).map (under 1)).map eF from by simp[da]) rfl
   obtain⟨bC,l2',e2⟩:=e2;have em:mn (eS d) [(3,aQ t)] U=.ret (.ref U.length) (U++[.list ((da t).map eF)]):=by
    show aL _ (aL (df (bp [4,7]) (kO (dU 1 (ai 3))) (nH (eS d))) (cn (ai 2))) _ _=_;refine(aK e1).trans ((aK e2).trans ?_);exact ir (ao l2')
   refine(aA (rfl:[aQ t].length=[3].length)).trans ?_;show dB (mn (eS d) [(3,aQ t)] U)=_;exact rl em rfl
  show tw [3] (mn (eS d)) [aQ t] U=_;unfold tw;refine rl (key ..)<|tv ?_
  unfold gP;dsimp only;refine(ax (by simp)).trans ?_;refine rl (f7 ..) ?_;show(jJ (gP 39 _ _) ((da t).map eF)).map V.list=_;exact rl (kI _ λv hv=>by
   obtain⟨p,uc,rfl⟩:=dz hv;obtain⟨h1,h2⟩:=BU t p uc;exact Io h1 (q97 ‹_› ‹_› (by rfl))) rfl
noncomputable def EW:T->Prop
 |.leaf l=>l≠112
 |.node a b=>EW a/\EW b
noncomputable def tW:T->Nat
 |.leaf l=>l
 |.node _ _=>112
theorem Iq {s:Nat}{st:List T}(h :∀t∈st,EW t) :∀t∈fZ s st,EW t:=by
 unfold fZ;by_cases hs:s=112
 .refine rl (aA hs) ?_
  match st,h with
  |[],_=>exact λt ht=>nomatch ht
  |[a],_=>exact λt ht=>nomatch ht
  |a::b::r,h=>
   intro t ht;rcases b7 ht with rfl |ht
   .exact⟨h a (.head _),h b (.tail _ (.head _))⟩
   .exact h t (.tail _ (.tail _ ht))
 .refine rl (ax hs) ?_
  intro t ht;rcases b7 ht with rfl |ht
  .exact hs
  .exact h t ht
theorem LA :∀(rs:List Nat) (st:List T),(∀t∈st,EW t)->∀t∈EN rs st,EW t:=by
 intro y
 induction y with
 |nil=>
  intro _ h;exact h
 |cons s rs ih=>
  intro st h;exact ih _ (Iq h)
theorem EX {t:T}(hb:gm ss=[t]):EW t:=by
 have:=LA ss.reverse [] (λt h=>nomatch h) t;rw[oX,hb] at this;exact this (.head _)
theorem qA :∀t:T,(da t).map (λp=>tW p.2)=t.pre:=by
 intro y
 induction y with
 |leaf l=>
  exact rfl
 |node a b wh p5=>
  show 112 ::((da a).map (under 0)++(da b).map (under 1)).map (λp=>tW p.2)=112 ::(a.pre++b.pre);exact rl List.map_append<|rl List.map_map<|rl List.map_map<|rr wh<|rr p5 rfl
theorem EY :∀(t:T),EW t->∀p∈da t,EW p.2:=by
 intro y
 induction y with
 |leaf l=>
  intro h p hp
  cases dM hp;exact h
 |node a b wh p5=>
  intro h p hp;rcases b7 hp with rfl |hp
  .exact h
  .rcases List.mem_append.mp hp with hp |hp
   .obtain⟨q,hq,rfl⟩:=dz hp;exact wh h.1 q hq
   .obtain⟨q,hq,rfl⟩:=dz hp;exact p5 h.2 q hq
theorem zY {t:kR}(P0 val:Y->V) :∀(xs:List Y) (bh:List V),(∀x∈xs,fk (λcz=>t (P0 x) jC=some cz) (λcz=>iw cz U=.ok (val x) U))->bh.length+xs.length<1000->
  fz t none iw jC (xs.map P0) U bh=.ok (bh++xs.map val) U:=by
 intro y
 induction y with
 |nil=>
  intro bh _ _;rw[List.map_nil,List.map_nil,List.append_nil];rfl
 |cons x xs ih=>
  intro bh h hz;rw[List.length_cons] at hz;obtain⟨cz,h1,h2⟩:=h x (.head _);have ih:=ih (bh++[val x]) (λy hy=>h y (.tail _ hy)) (by refine rl bY<|rl gA ?_;exact yb hz)
  exact rl List.map_cons<|rl (jj h1 h2 (q5 ‹_› (by rfl)))<|rl ih<|rl (cW ..) rfl
theorem gx {t:kR}{f:ME (List V)}(P0 val:Y->V)(xs:List Y)(hf:f fr U=.ok (xs.map P0) U)(h :∀x∈xs,fk (λcz=>t (P0 x) (jN fr dq)=some cz) (λcz=>iw cz U=.ok (val x) U))(hz:xs.length<1000) :
  bO dq t f none iw fr U=.ok (.list (xs.map val)) U:=by
 unfold bO;exact rl hf<|rl (aC ..)<|rl (zY P0 val xs [] h (by simp;omega))<|rl (aC ..) rfl
theorem Ir {t:T}(h:EW t):AQ .len [aQ t] U=some (.int (bo (tW t)+1)):=by
 cases t with
 |leaf l=>
  have e:bo l=0:=ax h;show some (V.int 1)=some (.int ((bo l:Nat)+1));exact rl e rfl
 |node a b=>rfl
theorem lV {f:ME V}(h:f fr U=.ok (.list vs) U)(hz:vs.length<1000):bT .tuple [f] fr U=.ok (.tup vs) U/\bT .len [f] fr U=.ok (.int vs.length) U:=by
 have ez:cD vs.length=true:=bN (q4 ‹_› (by rfl));constructor
 .unfold bT
  simp only[ME.bind,aS,h,aC,ah];show Res.cN (if cD vs.length then some (V.tup vs) else .none) U=_;exact rl (aA ez) rfl
 .unfold bT
  simp only[ME.bind,aS,h,aC,ah];show Res.cN (if cD vs.length then some (V.int vs.length) else .none) U=_;exact rl (aA ez) rfl
theorem LB {f g h:ME V}{a b c:V}(hf:f fr U=.ok a U)(hg:g fr U=.ok b U)(hh:h fr U=.ok c U):bj [f,g,h] fr U=.ok (.tup [a,b,c]) U:=by
 unfold bj;simp only[ME.bind,aS,hf,hg,hh,aC,ah];rfl
def EZ (t:T):V:=.tup [.int t.pre.length,.tup (t.pre.map λs=>.str [s]),.tup (t.pre.map λs=>.int (bo s))]
theorem wi {t:T}(ok:EW t)(hp:t.pre.length<30)(hh:mE t<8):gI [aQ t] U=.ok (EZ t) U:=by
 have hl:=pV t;have e1:bO [] (bp [5,6]) (bl (bW (eS 8) [(ai 3)])) none (ai 6) [(3,aQ t)] U=.ok (.list ((da t).map λp=>aQ p.2)) U:=by
  refine gx eF (λp=>aQ p.2) (da t) ?_ (λp _=>⟨_,rfl,rfl⟩) (Qo ‹_› ‹_› (by rfl));have e3:ai 3 [(3,aQ t)] U=.ok (aQ t) U:=rfl;unfold bl bW;simp only[ME.bind,aS,e3,aC,ah,Ip 8 t U hh hp];rfl
 have l8 :(aE [(3,aQ t)] 8 (.list ((da t).map λp=>aQ p.2))).lookup 8=some (.list ((da t).map λp=>aQ p.2)):=cV _ _ _;have s1:aB (az 8) (bO [] (bp [5,6]) (bl (bW (eS 8) [(ai 3)])) none (ai 6)) [(3,aQ t)] U=.next (aE [(3,aQ t)] 8 (.list ((da t).map λp=>aQ p.2))) U:=by
  exact dT e1
 generalize aE [(3,aQ t)] 8 (.list ((da t).map λp=>aQ p.2))=fr at l8 s1;have ei:bl (ai 8) fr U=.ok ((da t).map λp=>aQ p.2) U:=by
  unfold bl;simp only[ME.bind,ai,l8,c9,aC];rfl
 have h2:bO [] (az 6) (bl (ai 8)) none (cu (ai 6) (ah (.int 0))) fr U=.ok (.list (t.pre.map λs=>.str [s])) U:=by
  rw[gx (λp:List V×T=>aQ p.2) (λp=>.str [tW p.2]) (da t) ei (λp _=>?_) (Qo ‹_› ‹_› (by rfl))]
  .rw[<- qA t,List.map_map];rfl
  .refine⟨_,rfl,?_⟩
   have l6 :(aE (jN fr []) 6 (aQ p.2)).lookup 6=some (aQ p.2):=cV _ _ _;unfold cu;simp only[ME.bind,ai,l6,c9,aC,ah]
   cases p.2 <;> rfl
 have h3:bO [] (az 6) (bl (ai 8)) none (aU .Sub (bT .len [(ai 6)]) (ah (.int 1))) fr U=.ok (.list (t.pre.map λs=>.int (bo s))) U:=by
  rw[gx (λp:List V×T=>aQ p.2) (λp=>.int (bo (tW p.2))) (da t) ei (λp uc=>?_) (Qo ‹_› ‹_› (by rfl))]
  .rw[<- qA t,List.map_map];rfl
  .refine⟨_,rfl,?_⟩
   have l6 :(aE (jN fr []) 6 (aQ p.2)).lookup 6=some (aQ p.2):=cV _ _ _;have el:bT .len [(ai 6)] (aE (jN fr []) 6 (aQ p.2)) U=.ok (.int (bo (tW p.2)+1)) U:=by
    unfold bT;simp only[ME.bind,aS,ai,l6,c9,aC,ah,Ir (EY t ok p uc)]
   refine(bk el rfl).trans ?_;show Res.ok (V.int (_ - 1)) U=_;exact rl (Int.add_sub_cancel ..) rfl
 have r1:=(lV (U:=U) (f:=ai 8) (ao l8) (by refine rl (cL ..) ?_;exact Qo ‹_› ‹_› (by rfl))).2;have r2:=(lV h2 (by refine rl (cL ..) ?_;exact q1 ‹_› (by rfl))).1;have r3:=(lV h3 (by refine rl (cL ..) ?_;exact q1 ‹_› (by rfl))).1;rw[cL,hl] at r1;have em:oJ [(3,aQ t)] U=.ret (EZ t) U:=by
  refine(aK s1).trans ?_;unfold cn ct;exact rl (LB r1 r2 r3) rfl
 show dB (oJ [(3,aQ t)] U)=_;exact rl em rfl
noncomputable def Sp (ls:List Nat):T->Prop
 |.leaf l=>l∈ls
 |.node a b=>Sp ls a/\Sp ls b
noncomputable def tX:T->List T
 |.leaf _=>[]
 |.node a b=>[a,b]
theorem zZ :∀t:T,2 * mE t+1<=t.pre.length:=by
 intro y
 induction y with
 |leaf _=>
  exact Nat.le_refl _
 |node a b wh p5=>
  have:=wh;have:=p5;have e :(T.node a b).pre.length=a.pre.length+b.pre.length+1:=by simp[T.pre]
  have e2:mE (.node a b)=max (mE a) (mE b)+1:=rfl;exact UP wh p5 e e2
section
variable {aO:Nat}
theorem z6 (C:uf aO kd L ls P) :∀(d:Nat) (t:T),mE t<d->Sp ls t->fg d [.ref aO,aQ t] (P ay)=.ok (.int 0) (P ay):=by
 intro y
 induction y with
 |zero=>
  intro t h _;exact absurd h (Nat.not_lt_zero _)
 |succ d ih=>
  intro t h ok;obtain⟨mk,hg⟩:=C.get;obtain⟨a,b,c',d',e,f,g',hh⟩:=C.heap;have s1:aB (az 16) (bO [10] (az 7) (bl (dU 1 (ai 43))) none (aw 1 68 (fg d) (ai 10) [(ai 7)])) [(10,.ref aO),(43,aQ t)] (P ay)=.next (aE [(10,.ref aO),(43,aQ t)] 16 (.list ((tX t).map λ_=>.int 0))) (P ay):=by
   unfold aB ct;rw[gx aQ (λ_=>.int 0) (tX t) ?_ (λk hk=>?_) (by cases t <;> simp[tX])]
   .rfl
   .cases t <;> rfl
   .refine⟨_,rfl,?_⟩
    have hr:fg d [.ref aO,aQ k] (P ay)=.ok (.int 0) (P ay):=by
     cases t with
     |leaf l=>exact nomatch hk
     |node x y=>
      have e2:mE (.node x y)=max (mE x) (mE y)+1:=rfl;rw[e2] at h;rcases b7 hk with rfl |hk
      .exact ih _ (by exact Qe h) ok.1
      .cases dM hk
       exact ih _ (by exact Qd h) ok.2
    have xJ :(aE (jN [(10,V.ref aO),(43,aQ t)] [10]) 7 (aQ k)).lookup 10=some (.ref aO):=by rw[aV,ax (by decide),fU (by decide)];rfl
    have l7 :(aE (jN [(10,V.ref aO),(43,aQ t)] [10]) 7 (aQ k)).lookup 7=some (aQ k):=cV _ _ _;exact rr hr<|kb (ao xJ) (hg ay) rfl (qw (ao l7) qv)
  have em:kD (fg d) [(10,.ref aO),(43,aQ t)] (P ay)=.ret (.int 0) (P ay):=by
   refine(aK s1).trans ?_;have xJ :(aE [(10,.ref aO),(43,aQ t)] 16 (.list ((tX t).map λ_=>V.int 0))).lookup 10=some (.ref aO):=rfl;have hs:ew [.ref 1,.str [tW t],.tup ((tX t).map λ_=>.int 0)] (P ay)=.ok (.int 0) (P ay):=by
    cases t with
    |leaf l=>exact C.C7 l ok ay
    |node x y=>exact C.C8 ay
   have e2:aw 3 69 ew (bc 1 53 (ai 10)) [(cu (ai 43) (ah (.int 0))),(bT .tuple [(ai 16)])] (aE [(10,.ref aO),(43,aQ t)] 16 (.list ((tX t).map λ_=>V.int 0))) (P ay)=.ok (.int 0) (P ay):=by
    exact rr hs<|kb (xH C xJ) (hh ay) rfl (by cases t <;> rfl)
   have e3:bx .In (gY (ah (.int 1))) (ai 16) (aE [(10,.ref aO),(43,aQ t)] 16 (.list ((tX t).map λ_=>V.int 0))) (P ay)=.ok false (P ay):=by
    cases t <;> rfl
   unfold cn ct qY;simp only[ME.bind,e3,aC,Bool.false_eq_true,if_false,e2]
  show dB (kD (fg d) [(10,.ref aO),(43,aQ t)] (P ay))=_;exact rl em rfl
end
def wj:ME V:=aU .Add (ai 73) (qY (bx .Eq (ai 1) (ah (.str [112]))) (ah (.int 1)) (gY (ah (.int 1))))
def z7:ME V:=ip ic pD (ai 77) [(bj [wj,(ai 66)]),(ah (.int 0))]
noncomputable def iR (x:Nat):Int:=if x=112 then 1 else -1
theorem Dd {t:Int}{x:Nat}(h1:fr.lookup 1=some (.str [x]))(Pd:fr.lookup 73=some (.int t))(hx:x<1000):wj fr U=.ok (.int (t+iR x)) U:=by
 have ht:=xI (fr:=fr) (U:=U) (f:=ai 1) (c:=112) hx (by decide) (ao h1);have e:qY (bx .Eq (ai 1) (ah (.str [112]))) (ah (.int 1)) (gY (ah (.int 1))) fr U=.ok (.int (iR x)) U:=by
  unfold qY iR;simp only[ME.bind,ht,aC];by_cases h:x=112
  .exact rl (bN h)<|rl (aA rfl)<|rl (aA h) rfl
  .exact rl (cH h)<|rl (ax (by decide))<|rl (ax h) rfl
 exact(bk (ao Pd) e).trans rfl
theorem De {f x:Nat}{t n:Int}{F:List (V×V)}{w:V}(h1:fr.lookup 1=some (.str [x]))(Pd:fr.lookup 73=some (.int t))(LC:fr.lookup 66=some (.int n))(Xi:fr.lookup 77=some (.ref f))(hx:x<1000)(hF:U[f]? = some (.dict .tup F))(hw :(cT F (.tup [.int (t+iR x),.int n])).getD (.int 0)=w):z7 fr U=.ok w U:=by
 have e:=gM (Dd (U:=U) h1 Pd hx) (ao LC);have hd:gi U (.ref f)=some (f,.tup,F):=by unfold gi;dsimp only;exact rl hF rfl
 have hi:ic U (.ref f)=true:=by unfold ic;exact rl hd rfl
 have hg:pD (.ref f) [.tup [.int (t+iR x),.int n],.int 0] U=some (w,U):=by
  unfold pD vG;refine rl hd ?_;show(if DK.tup=.tup/\fu .tup (.tup [.int (t+iR x),.int n])=true then some ((cT F (.tup [.int (t+iR x),.int n])).getD (.int 0),U) else Option.none)=_;refine(aA ⟨rfl,rfl⟩).trans ?_;exact rl hw rfl
 unfold z7 ip;simp only[ME.bind,ai,Xi,c9,aC,hi,if_true,aS,e,ah,hg]
def oY:MS:=(aL (aB (az 62) z7)
 (aL (fw (bx .Lt (ai 49) (ai 62)) (aL (cO (dZ [76,73]) (bj [(aU .Add (ai 76) (ai 1)),wj]))
 pE) bF)
 (aB (az 49) (aU .Sub (ai 49) (ai 62)))))
structure SF (f:Nat)(hi ls:V)(ss:List Nat)(t:Int)(k n:Int)(fr:eY):Prop where
 LD:fr.lookup 74=some ls
 P1:fr.lookup 77=some (.ref f)
 l9:fr.lookup 9=some hi
 Ly:fr.lookup 76=some (.str ss)
 P6:fr.lookup 73=some (.int t)
 It:fr.lookup 49=some (.int k)
 xK:fr.lookup 66=some (.int n)
theorem SF.other {f:Nat}{ls:V}{t k n:Int}(S:SF f hi ls ss t k n fr)(i:Nat)(v:V)(h:i∉[74,77,9,76,73,49,66]):SF f hi ls ss t k n (aE fr i v):=by
 simp only[List.mem_cons,List.not_mem_nil,or_false,not_or] at h;obtain⟨a,b,c,d,e,g,j⟩:=h;exact⟨by exact rl (aV ..)<|rl (ax (Ne.symm a))<|S.LD,by exact rl (aV ..)<|rl (ax (Ne.symm b))<|S.P1,by exact rl (aV ..)<|rl (ax (Ne.symm c))<|S.l9,by exact rl (aV ..)<|rl (ax (Ne.symm d))<|S.Ly,
  by exact rl (aV ..)<|rl (ax (Ne.symm e))<|S.P6,by exact rl (aV ..)<|rl (ax (Ne.symm g))<|S.It,by exact rl (aV ..)<|rl (ax (Ne.symm j))<|S.xK⟩
theorem E0 {f x:Nat}{ls:V}{t k n w:Int}{F:List (V×V)}(S:SF f hi ls ss t k n fr)(h1:fr.lookup 1=some (.str [x]))(hx:x<1000)(hF:U[f]? = some (.dict .tup F))(hw :(cT F (.tup [.int (t+iR x),.int n])).getD (.int 0)=.int w)(hk:w<=k)(kG :∀bC,SF f hi ls ss t (k - w) n bC->oY fr U=.next bC U->G):G:=by
 have s1:aB (az 62) z7 fr U=.next (aE fr 62 (.int w)) U:=by
  exact dT (De h1 S.P6 S.xK S.P1 hx hF hw)
 have S2:=S.other 62 (.int w) (by decide);have ug :(aE fr 62 (.int w)).lookup 62=some (.int w):=cV _ _ _;generalize aE fr 62 (.int w)=cG at s1 S2 ug;have ht:bx .Lt (ai 49) (ai 62) cG U=.ok (decide (k<w)) U:=by
  unfold bx;simp only[ME.bind,ai,S2.It,ug,c9,aC];rfl
 have s2:fw (bx .Lt (ai 49) (ai 62)) (aL (cO (dZ [76,73]) (bj [(aU .Add (ai 76) (ai 1)),wj])) pE) bF cG U=.next cG U:=by
  exact(qu ht (cH (by exact Int.not_lt_of_ge hk))).trans rfl
 refine kG (aE cG 49 (.int (k - w))) ⟨bX (by decide) S2.LD,bX (by decide) S2.P1,bX (by decide) S2.l9,bX (by decide) S2.Ly,
  bX (by decide) S2.P6,cV _ _ _,bX (by decide) S2.xK⟩ ?_
 refine(aK s1).trans ((aK s2).trans ?_);unfold aB ct;exact rl (bk (ao S2.It) (ao ug)) rfl
theorem wm {f x:Nat}{ls:V}{t k n w:Int}{F:List (V×V)}(S:SF f hi ls ss t k n fr)(h1:fr.lookup 1=some (.str [x]))(hx:x<1000)(hF:U[f]? = some (.dict .tup F))(hw :(cT F (.tup [.int (t+iR x),.int n])).getD (.int 0)=.int w)(hk:k<w)(ha :∀fr,AF .Add (.str ss) (.str [x]) fr U=.ok (.str (ss++[x])) U)(kG :∀bC,SF f hi ls (ss++[x]) (t+iR x) k n bC->oY fr U=.brk bC U->G):G:=by
 have s1:aB (az 62) z7 fr U=.next (aE fr 62 (.int w)) U:=by
  exact dT (De h1 S.P6 S.xK S.P1 hx hF hw)
 have S2:=S.other 62 (.int w) (by decide);have ug :(aE fr 62 (.int w)).lookup 62=some (.int w):=cV _ _ _;have l1 :(aE fr 62 (.int w)).lookup 1=some (.str [x]):=bX (by decide) h1;generalize aE fr 62 (.int w)=cG at s1 S2 ug l1;have ht:bx .Lt (ai 49) (ai 62) cG U=.ok (decide (k<w)) U:=by
  unfold bx;simp only[ME.bind,ai,S2.It,ug,c9,aC];rfl
 have e:=gM ((bk (op:=.Add) (ao S2.Ly) (ao l1)).trans (ha cG)) (Dd (U:=U) l1 S2.P6 hx);have s2:fw (bx .Lt (ai 49) (ai 62)) (aL (cO (dZ [76,73]) (bj [(aU .Add (ai 76) (ai 1)),wj])) pE) bF cG U=.brk (aE (aE cG 73 (.int (t+iR x))) 76 (.str (ss++[x]))) U:=by
  refine(nD ht (bN hk)).trans ?_;have s3:cO (dZ [76,73]) (bj [(aU .Add (ai 76) (ai 1)),wj]) cG U=.next (aE (aE cG 73 (.int (t+iR x))) 76 (.str (ss++[x]))) U:=by
   exact iv e rfl
  refine(aK s3).trans ?_;rfl
 refine kG (aE (aE cG 73 (.int (t+iR x))) 76 (.str (ss++[x]))) ⟨bX (by decide) (bX (by decide) S2.LD),bX (by decide) (bX (by decide) S2.P1),bX (by decide) (bX (by decide) S2.l9),cV _ _ _,
  bX (by decide) (cV _ _ _),bX (by decide) (bX (by decide) S2.It),bX (by decide) (bX (by decide) S2.xK)⟩ ?_
 refine(aK s1).trans ?_;unfold aL at s2 ⊢;exact rl s2 rfl
theorem z8 {x:Nat}(hz:ss.length<1000)(fr:eY):AF .Add (.str ss) (.str [x]) fr U=.ok (.str (ss++[x])) U:=by
 have ez:cD (ss.length+1)=true:=bN (q1 ‹_› (by rfl));show(if cD (ss.length+1) then Res.ok (V.str (ss++[x])) U else Res.stuck)=_;rw[aA ez]
theorem dH {t:kR}{body:MS}(h:t v fr=some cz)(hb:body cz U=.next cG bS):dJ t body (v::vs) fr U=dJ t body vs cG bS:=by
 conv=>lhs;unfold dJ
 simp only[h,hb]
theorem oZ {t:kR}{body:MS}(h:t v fr=some cz)(hb:body cz U=.brk cG bS):dJ t body (v::vs) fr U=.next cG bS:=by
 conv=>lhs;unfold dJ
 simp only[h,hb]
theorem Iu {f:Nat}{t n:Int}{w w':Nat}{F:List (V×V)}(hF:U[f]? = some (.dict .tup F))(hz:ss.length<1000)(hw' :(cT F (.tup [.int (t+1),.int n])).getD (.int 0)=.int w')(hw :(cT F (.tup [.int (t - 1),.int n])).getD (.int 0)=.int w) :
  ∀(xs:List Nat) (k:Nat) (fr:eY),SF f hi lv ss t k n fr->(∀x∈xs,x<1000/\x≠112)->(∀k',fY w xs k =(none,k')->k'<w')->
   ∀{G:Prop},(∀bC,SF f hi lv (ss++[(fY w xs k).1.getD 112]) (t+iR ((fY w xs k).1.getD 112)) ((fY w xs k).2:Nat) n bC->(dJ (az 1) oY ((xs.map λx=>V.str [x])++[.str [112]]) fr U=.next bC U)->G)->G:=by
 intro y
 induction y with
 |nil=>
  intro k fr S _ hk G kG;have S1:=S.other 1 (.str [112]) (by decide);refine wm (x:=112) (w:=w') S1 (cV _ _ _) (by decide) hF hw' (by have:=hk k rfl;exact Int.ofNat_lt.mpr (hk k rfl)) (z8 hz) λbC S' e=>?_;exact kG bC S' (oZ rfl e)
 |cons x xs ih=>
  intro k fr S hx hk G kG;obtain⟨PN,Wb⟩:=hx x (.head _);have hs:iR x=-1:=ax Wb;have S1:=S.other 1 (.str [x]) (by decide);have l1 :(aE fr 1 (.str [x])).lookup 1=some (.str [x]):=cV _ _ _;by_cases h:k<w
  .have ep:fY w (x::xs) k =(some x,k):=aA h
   refine wm (x:=x) (w:=w) S1 l1 PN hF (by exact rl hs<|hw) (by exact Int.ofNat_lt.mpr h) (z8 hz) λbC S' e=>?_
   rw[ep] at kG;exact kG bC S' (oZ rfl e)
  .have ep:fY w (x::xs) k=fY w xs (k - w):=ax h
   refine E0 (x:=x) (w:=w) S1 l1 PN hF (by exact rl hs<|hw) (q61 ‹_›) λcG S2 e=>?_
   rw[ep] at hk kG;have ek :((k:Int) - w) =((k - w:Nat):Int):=by exact Qc h
   rw[ek] at S2;refine ih (k - w) cG S2 (λy hy=>hx y (.tail _ hy)) hk λbC S' e'=>?_;exact kG bC S' ((dH rfl e).trans e')
noncomputable def E1:Nat->List V
 |0=>[]
 |n+1=>.int n::E1 n
def pW:ME (List V):=bl (qe (xY kM [(ai 74)]) (cZ [(ah (.str [112]))]))
theorem SF.left {f:Nat}{ls:V}{t k m:Int}(S:SF f hi ls ss t k m fr)(n:Int):SF f hi ls ss t k n (aE fr 66 (.int n)):=⟨bX (by decide) S.LD,bX (by decide) S.P1,bX (by decide) S.l9,bX (by decide) S.Ly,bX (by decide) S.P6,bX (by decide) S.It,cV _ _ _⟩
theorem E2 {f:Nat}{F:List (V×V)}(hF:U[f]? = some (.dict .tup F))(kU :∀x∈ls,x<1000/\x≠112)(hN :∀n t:Nat,n<=11->t<=12->(cT F (.tup [.int t,.int n])).getD (.int 0)=.int (fo ls.length n t))(uQ :∀fr:eY,fr.lookup 74=some lv->pW fr U=.ok ((ls.map λx=>V.str [x])++[.str [112]]) U) :
  ∀(n t k:Nat) (ss:List Nat) (fr:eY),(∀m:Int,SF f hi lv ss t k m (aE fr 66 (.int m)))->k<fo ls.length n t->n+t<=12->ss.length+n<1000->
   ∀{G:Prop},(∀bC,bC.lookup 76=some (.str (ss++aX ls n t k))->dJ (az 66) (df (az 1) pW oY) (E1 n) fr U=.next bC U->G)->G:=by
 intro y
 induction y with
 |zero=>
  intro t k ss fr S _ _ _ G kG;exact kG fr (by unfold aX;refine rl (List.append_nil ..) ?_;have:=(S 0).Ly;rw[aV,ax (by decide)] at this;exact this) rfl
 |succ n ih=>
  intro t k ss fr S hk hb hz G kG;have ht:t≠0:=λz=>by subst z;simp[fo] at hk
  have hf:fo ls.length (n+1) t=ls.length * fo ls.length n (t - 1)+fo ls.length n (t+1):=xE _ _ _ (by exact Nat.one_le_iff_ne_zero.mpr ht);rw[hf] at hk;have S1:=S n;have e1 :((t:Int) - 1) =((t - 1:Nat):Int):=by exact Uh ht
  have e2 :((t:Int)+1) =((t+1:Nat):Int):=by exact Int.ofNat_add_one_out t
  have hp :∀k',fY (fo ls.length n (t - 1)) ls k =(none,k')->k'<fo ls.length n (t+1):=λk' e=>by
   have:=kF e;exact Ds hk this
  refine Iu (w:=fo ls.length n (t - 1)) (w':=fo ls.length n (t+1)) hF (by exact Nat.lt_of_add_right_lt hz) (by exact rl e2<|hN n (t+1) (Vo ‹_›) (VA ‹_›)) (by exact rl e1<|hN n (t - 1) (Vo ‹_›) (X5 ‹_›)) ls k _ S1 kU hp λcG S2 e=>?_
  have er:df (az 1) pW oY (aE fr 66 (.int n)) U=.next cG U:=by
   exact iu (uQ _ S1.LD) e
  have el:dJ (az 66) (df (az 1) pW oY) (E1 (n+1)) fr U=dJ (az 66) (df (az 1) pW oY) (E1 n) cG U:=dH rfl er
  cases Sq:fY (fo ls.length n (t - 1)) ls k with
  |mk o k'=>
   rw[Sq] at S2
   cases o with
   |some l=>
    obtain⟨h1,h2⟩:=ji Sq;have hs:iR l=-1:=ax (kU l h1).2;have S3:SF f hi lv (ss++[l]) ((t - 1:Nat):Int) k' n cG:=by refine rr e1 ?_;have:=S2;simp only[Option.getD_some,hs] at this;exact this
    refine ih (t - 1) k' (ss++[l]) cG S3.left h2 (X3 ‹_›) (by refine rl bY<|rl gA ?_;exact yb hz) λbC S' e'=>?_
    refine kG bC ?_ (el.trans e');rw[cW] at S';unfold aX;exact rl Sq<|S'
   |none=>
    have S3:SF f hi lv (ss++[112]) ((t+1:Nat):Int) k' n cG:=by exact rr e2<|S2
    refine ih (t+1) k' (ss++[112]) cG S3.left (hp k' Sq) (Qr ‹_›) (by refine rl bY<|rl gA ?_;exact yb hz) λbC S' e'=>?_
    refine kG bC ?_ (el.trans e');rw[cW] at S';unfold aX;exact rl Sq<|S'
theorem BV :∀n:Nat,n<=12->d9 ((n:Int) - 1) (-1) (-1)=E1 n:=by decide +kernel
theorem Iv {f:Nat}{F:List (V×V)}(hF:U[f]? = some (.dict .tup F))(kU :∀x∈ls,x<1000/\x≠112)(hN :∀n t:Nat,n<=11->t<=12->(cT F (.tup [.int t,.int n])).getD (.int 0)=.int (fo ls.length n t))(uQ :∀fr:eY,fr.lookup 74=some lv->pW fr U=.ok ((ls.map λx=>V.str [x])++[.str [112]]) U)(hk:k<fo ls.length n 1)(hn:n<=11) :
  jy [lv,.ref f,.int n,.int k] U=.ok (.str (aX ls n 1 k)) U:=by
 have s1:cO (bp [76,73]) (bj [(ah (.str [])),(ah (.int 1))]) [(74,lv),(77,.ref f),(9,.int n),(49,.int k)] U=.next (aE (aE [(74,lv),(77,.ref f),(9,.int n),(49,.int k)] 76 (.str [])) 73 (.int 1)) U:=rfl;generalize A6:aE (aE [(74,lv),(77,.ref f),(9,.int n),(49,.int k)] 76 (.str [])) 73 (.int 1)=fr at s1;have S :∀m:Int,SF f (.int n) lv [] (1:Nat) k m (aE fr 66 (.int m)):=λm=>by subst A6;exact⟨rfl,rfl,rfl,rfl,rfl,rfl,rfl⟩
 have l9:fr.lookup 9=some (.int n):=by subst A6;rfl
 refine E2 hF kU hN uQ n 1 k [] fr S hk (by exact Nat.succ_le_succ hn) (by simp;exact q2 ‹_› (by rfl)) λbC Ly e=>?_;have er:jq (aU .Sub (ai 9) (ah (.int 1))) (gY (ah (.int 1))) (gY (ah (.int 1))) fr U=.ok (E1 n) U:=by
  have e1:aU .Sub (ai 9) (ah (.int 1)) fr U=.ok (.int ((n:Int) - 1)) U:=(bk (ao l9) rfl).trans rfl;have e2:gY (ah (.int 1)) fr U=.ok (.int (-1)) U:=rfl;have es:g6 ((n:Int) - 1)=true:=bN (by exact UA hn);exact(v9 e1 e2 e2 es rfl).trans (by exact rl (BV n (by exact Nat.le_succ_of_le hn)) rfl)
 have s2:df (az 66) (jq (aU .Sub (ai 9) (ah (.int 1))) (gY (ah (.int 1))) (gY (ah (.int 1)))) (df (az 1) pW oY) fr U=.next bC U:=by
  exact iu er e
 have em:rq [(74,lv),(77,.ref f),(9,.int n),(49,.int k)] U=.ret (.str (aX ls n 1 k)) U:=by
  show aL _ (aL (df (az 66) (jq (aU .Sub (ai 9) (ah (.int 1))) (gY (ah (.int 1))) (gY (ah (.int 1)))) (df (az 1) pW oY)) (cn (ai 76))) _ _=_;refine(aK s1).trans ((aK s2).trans ?_);unfold cn ct;exact rl (ao Ly) rfl
 show dB (rq [(74,lv),(77,.ref f),(9,.int n),(49,.int k)] U)=_;exact rl em rfl
noncomputable def ef (t:Nat):List V:=List.replicate t (.int 0)
def gd (ss:List Nat):List V:=ss.map λs=>.int (bo s)
def d5 (t:Nat)(sh:List V):V:=.tup [.tup (ef t),.tup sh]
def iS (s:Nat):V:=.tup (.str [s]::ef (bo s))
theorem z9 (h:112∉ls):nE ls =(ls++[112]).map iS:=by
 refine rl List.map_append<|aR (·++_) (List.map_congr_left λl hl=>?_)
 have:=nC h hl;unfold iS;exact rl this rfl
noncomputable def dw:Nat->List Nat->List (V×V)
 |_,[]=>[]
 |i,s::r=>(.str [s],.ref i)::dw (i+1) r
theorem BW (s:Nat) :∀(os:List Nat) (i:Nat),dw i (os++[s])=dw i os++[(.str [s],.ref (i+os.length))]:=by
 intro y
 induction y with
 |nil=>
  intro _;exact rfl
 |cons a os ih=>
  intro i;show(V.str [a],V.ref i)::dw (i+1) (os++[s]) =(V.str [a],V.ref i) ::(dw (i+1) os++_);rw[ih,List.length_cons,Nat.add_assoc,Nat.add_comm 1]
theorem jA :∀(os:List Nat) (i:Nat),(dw i os).map (·.1)=os.map λs=>V.str [s]:=by
 intro y
 induction y with
 |nil=>
  intro _;exact rfl
 |cons a os ih=>
  intro i;exact aR (V.str [a]::·) (ih (i+1))
theorem nI (os:List Nat)(i:Nat) :(dw i os).length=os.length:=by
 have:=aR List.length (jA os i);rw[cL,cL] at this;exact this
theorem wo :∀{ay:List (V×V)} {k:V},k∉ay.map (·.1)->cT ay k=none:=by
 intro y
 induction y with
 |nil=>
  intro _ _;exact rfl
 |cons z0 r ih=>
  obtain⟨k',v⟩:=z0;intro k h;refine(ax (show¬V.beq k' k=true from λz=>h ((V.beq_iff _ _).mp z▸eG))).trans ?_;exact ih λz=>h (.tail _ z)
theorem LG :∀{ay:List (V×V)},(ay.map (·.1)).Nodup->∀kv∈ay,cT ay kv.1=some kv.2:=by
 intro y
 induction y with
 |nil=>intros;first |contradiction | (injection ‹_=some _›)
 |cons z0 r ih=>
  obtain⟨k,v⟩:=z0;intro h kv hm;rw[List.map_cons,List.nodup_cons] at h;rcases b7 hm with rfl |hm
  .exact aA ((V.beq_iff _ _).mpr rfl)
  .skip
   refine(ax (show¬V.beq k kv.1=true from λz=>h.1 (List.mem_map.mpr ⟨kv,hm,((V.beq_iff _ _).mp z).symm⟩))).trans ?_;exact ih h.2 kv hm
theorem Aa {os:List Nat}{s:Nat}(h:s∉os):V.str [s]∉os.map λs=>V.str [s]:=λz=>by
 obtain⟨a,ha,e⟩:=dz z;injection e with e;injection e with e _;exact h (e▸ha)
theorem Iw :∀{os:List Nat},os.Nodup->(os.map λs=>V.str [s]).Nodup:=by
 intro y
 induction y with
 |nil=>
  intro _;exact .nil
 |cons s r ih=>
  intro h;rw[List.nodup_cons] at h;exact List.nodup_cons.mpr ⟨Aa h.1,ih h.2⟩
theorem Iy {Ls:bw}{D:List (V×V)}{k:List Nat}{d:V}(h:V.str k∉D.map (·.1))(hz:D.length<1000) :
  td (.ref U.length) [.str k,d] (U++[O.dict .str D]++Ls)=some (d,U++[O.dict .str (D++[(.str k,d)])]++Ls):=by
 have hd:gi (U++[O.dict .str D]++Ls) (.ref U.length)=some (U.length,.str,D):=by
  unfold gi;dsimp only;exact rl (cW ..)<|rl (List.getElem?_append_right (Nat.le_refl _))<|rl (Nat.sub_self ..) rfl
 have hs :(U++[O.dict .str D]++Ls).set U.length (.dict .str (hV D (.str k) d))=U++[O.dict .str (D++[(.str k,d)])]++Ls:=by
  rw[zN (wo h),cW,List.set_append_right _ _ (Nat.le_refl _),Nat.sub_self,cW];rfl
 have ez:cD D.length=true:=bN (q4 ‹_› (by rfl));unfold td vG;refine rl hd<|rl (Option.bind_some ..)<|rl (Option.bind_some ..) ?_
 show(if DK.str=.str/\cD D.length=true then some (MQ U.length D (.str k) d _ (cT D (.str k))) else .none)=_;refine(aA ⟨rfl,ez⟩).trans ?_;refine rl (wo h) ?_;show some (d,(U++[O.dict .str D]++Ls).set U.length (.dict .str (hV D (.str k) d)))=_;exact rl hs rfl
theorem E3 {f g:ME V}{D:List V}(hf:f fr U=.ok (.ref bq.length) (bq++[.list D]))(hg:g fr (bq++[.list D])=.ok v (bq++[.list D]))(hz:D.length<1000) :
  c6 .append f [g] fr U=.ok .none (bq++[.list (D++[v])]):=by
 have AO:cD D.length=true:=bN (q4 ‹_› (by rfl));have hl:gE (bq++[.list D]) (.ref bq.length)=some (bq.length,D):=by unfold gE;dsimp only;exact rl (f7 ..) rfl
 refine rE (m:=.append) hf (aR Option.isSome hl) (qw hg qv) ?_;show(gE (bq++[.list D]) (.ref bq.length)).bind _=_;refine rl hl<|rl (Option.bind_some ..) <| (aA AO).trans ?_
 exact rl (mq ..) rfl
theorem rM {f g:ME V}{a b:List V}(hf:f fr U=.ok (.tup a) U)(hg:g fr U=.ok (.tup b) U)(hz:a.length+b.length<1000):aU .Add f g fr U=.ok (.tup (a++b)) U:=by
 have ez:cD (a.length+b.length)=true:=bN (q4 ‹_› (by rfl));refine(bk hf hg).trans ?_;show(if cD (a.length+b.length) then Res.ok (V.tup (a++b)) U else Res.stuck)=_;exact rl (aA ez) rfl
theorem Iz (a b:Nat):ef a++ef b=ef (a+b):=List.replicate_append_replicate
theorem fB (t:Nat) :(ef t).length=t:=List.length_replicate
section
variable {aO:Nat}
theorem tY (C:uf aO kd L ls P){u:Nat}(hu:u<=20)(hn:n<=12)(I:d7 L ay):fk (λaJ=>d7 L aJ) (λaJ=>d4 30 [.ref aO,.tup (ef u),.int n] (P ay)=.ok (.int (fo L n u:Nat)) (P aJ)):=by
 cases u with
 |zero=>
  refine⟨ay,I,?_⟩;refine rl (xC ..) <| (zR 29 n n rfl (P ay)).trans ?_
  by_cases h:n=0
  .exact rl (aA h)<|rl (aA h) rfl
  .exact rl (ax h)<|rl (ax h) rfl
 |succ u=>exact Pa C 30 (u+1) n (by exact Nat.le_add_left 1 u) hu hn (q2 ‹_› (by rfl)) ay I
theorem Ab (C:uf aO kd L ls P){r:List V}(ud:fr.lookup 10=some (.ref aO))(EJ:fr.lookup 47=some (.tup (.int 0::r))) :
 bl (aw 3 56 c8 (bc 1 53 (ai 10)) [(cu (ai 47) (ah (.int 0)))]) fr (P ay)=.ok (nE ls) (P ay):=tQ C ud EJ (C.tO ay)
end
def IA:MS:=(aL (aB (az 62) (aU .Add (dU 1 (ai 15)) (dU 1 (ai 47))))
 (fw (bx .Gt (aw 1 57 (d4 30) (ai 10) [(ai 62),(aU .Sub (ai 34) (ah (.int 1)))]) (ah (.int 0))) (bM (c6 .append (ip ic td (ai 2) [(cu (ai 15) (ah (.int 0))),(dj [])]) [(bj [(ai 62),(aU .Add (ai 52) (bj [(aU .Sub (bT .len [(ai 15)]) (ah (.int 1)))]))])])) bF))
structure OF (aO t n i:Nat)(ss:List Nat)(fr:eY):Prop where
 xJ:fr.lookup 10=some (.ref aO)
 Xj:fr.lookup 47=some (.tup (ef (t+1)))
 TM:fr.lookup 52=some (.tup (gd ss))
 M7:fr.lookup 34=some (.int ((n:Int)+1))
 l2:fr.lookup 2=some (.ref i)
theorem OF.set {aO t:Nat}(F:OF aO t n i ss fr)(j:Nat)(v:V)(h:j=15\/j=62):OF aO t n i ss (aE fr j v):=by
 constructor <;> rw[aV,ax (by lia)]
 all_goals first |exact F.xJ |exact F.Xj |exact F.TM |exact F.M7 |exact F.l2
def jk (t:Nat)(ss:List Nat)(s:Nat):O:=.list [d5 (t+bo s) (gd (ss++[s]))]
def rN (L n t:Nat)(xs:List Nat):List Nat:=xs.filter λs=>decide (0<fo L n (t+bo s))
def eX (U:bw)(t:Nat)(ss os:List Nat):bw:=U++[O.dict .str (dw (U.length+1) os)]++os.map (jk t ss)
theorem i5 (U:bw)(t:Nat)(ss os:List Nat):eX U t ss os=U++(O.dict .str (dw (U.length+1) os)::os.map (jk t ss)):=by unfold eX;exact rl (cW ..) rfl
theorem kh (s:Nat):bo s<=2:=by unfold bo;split <;>(first |decide |lia)
section
variable {aO:Nat}
theorem E4 (C:hX aO kd L ls P){t s:Nat}{os:List Nat}(I:d7 L ay)(F:OF aO t n i ss fr)(Pe:fr.lookup 15=some (iS s))(hi:i =(P ay++J).length)(ht:t<=12)(hn:n<=11)(hz:ss.length<50)(hs:s∉os)(ho:os.length<50) :
  qR (λaJ bC=>d7 L aJ) (λaJ bC=>OF aO t n i ss bC) (λaJ bC=>IA fr (eX (P ay++J) t ss os)=.next bC (eX (P aJ++J) t ss (os++rN L n t [s]))):=by
 have ha:=kh s;obtain⟨aJ,I',hr⟩:=tY (C (J++(O.dict .str (dw ((P ay++J).length+1) os)::os.map (jk t ss)))) (u:=t+bo s) (n:=n) (Vp ‹_› ‹_› (by rfl)) (by exact Nat.le_succ_of_le hn) I;have hl :(P aJ++J).length =(P ay++J).length:=by refine bY.trans ?_;exact rl bY<|rl (fA C ay aJ) rfl
 simp only[<- List.append_assoc] at hr;rw[<- i5] at hr;have es:P aJ++J++(O.dict .str (dw ((P ay++J).length+1) os)::os.map (jk t ss))=eX (P aJ++J) t ss os:=by exact rl (i5 ..)<|rl hl rfl
 rw[es] at hr;have Y6:i =(P aJ++J).length:=by exact rl hl<|hi
 refine⟨aJ,aE fr 62 (.tup (ef (t+bo s))),I',F.set 62 _ (.inr rfl),?_⟩;have e15 :∀U,dU 1 (ai 15) fr U=.ok (.tup (ef (bo s))) U:=λU=>kc (ao Pe) (by refine rl (fB ..) ?_;exact q2 ‹_› (by rfl));have e47 :∀U,dU 1 (ai 47) fr U=.ok (.tup (ef t)) U:=λU=>kc (x:=.int 0) (ao F.Xj) (by refine rl (fB ..) ?_;exact q2 ‹_› (by rfl));have s1 :∀U,aB (az 62) (aU .Add (dU 1 (ai 15)) (dU 1 (ai 47))) fr U=.next (aE fr 62 (.tup (ef (t+bo s)))) U:=λU=>by
  unfold aB ct;exact rl (rM (e15 U) (e47 U) (by rw[fB,fB];exact Z9 ‹_› ‹_› (by rfl)))<|rl (Iz ..)<|rl (Nat.add_comm ..) rfl
 refine(aK (s1 _)).trans ?_;have F1:=F.set 62 (.tup (ef (t+bo s))) (.inr rfl);have ug :(aE fr 62 (.tup (ef (t+bo s)))).lookup 62=some (.tup (ef (t+bo s))):=cV _ _ _;have LH :(aE fr 62 (.tup (ef (t+bo s)))).lookup 15=some (iS s):=bX (by decide) Pe;generalize aE fr 62 (.tup (ef (t+bo s)))=cz at F1 ug LH;have e34 :∀U,aU .Sub (ai 34) (ah (.int 1)) cz U=.ok (.int n) U:=λU=>by
  refine(bk (ao F1.M7) rfl).trans ?_;show Res.ok (V.int ((n:Int)+1 - 1)) U=_;exact rl (Int.add_sub_cancel ..) rfl
 have htc:bx .Gt (aw 1 57 (d4 30) (ai 10) [(ai 62),(aU .Sub (ai 34) (ah (.int 1)))]) (ah (.int 0)) cz (eX (P ay++J) t ss os)=.ok (decide (0<fo L n (t+bo s))) (eX (P aJ++J) t ss os):=by
  have e0:aw 1 57 (d4 30) (ai 10) [(ai 62),(aU .Sub (ai 34) (ah (.int 1)))] cz (eX (P ay++J) t ss os)=.ok (.int (fo L n (t+bo s):Nat)) (eX (P aJ++J) t ss os):=by
   exact rr hr<|rl (i5 ..)<|rl (cW ..)<|ke (C _) (v1:=.tup (ef (t+bo s))) (v2:=.int n) F1.xJ (ao ug) (e34 _)
  refine(bL e0).trans ?_;show Res.ok (decide ((fo L n (t+bo s):Int) > 0)) _=_;congr 1;exact decide_eq_decide.mpr (by exact Int.natCast_pos)
 refine(fQ htc).trans ?_;unfold rN;by_cases hp:0<fo L n (t+bo s)
 .refine rl (List.filter_cons_of_pos (by simpa using hp))<|rl List.filter_nil<|rl (bN hp)<|rl (aA rfl) ?_
  have hd:ip ic td (ai 2) [(cu (ai 15) (ah (.int 0))),(dj [])] cz (eX (P aJ++J) t ss os)=.ok (.ref (P aJ++J++[O.dict .str (dw ((P aJ++J).length+1) (os++[s]))]++os.map (jk t ss)).length) (P aJ++J++[O.dict .str (dw ((P aJ++J).length+1) (os++[s]))]++os.map (jk t ss)++[.list []]):=by
   have en :(P aJ++J++[O.dict .str (dw ((P aJ++J).length+1) (os++[s]))]++os.map (jk t ss)).length =(eX (P aJ++J) t ss os).length:=by unfold eX;simp only[List.length_append,List.length_cons]
   have ec:ic (eX (P aJ++J) t ss os) (.ref i)=true:=by
    subst Y6;unfold ic gi;dsimp only;exact rl (i5 ..)<|rl (List.getElem?_append_right (Nat.le_refl _))<|rl (Nat.sub_self ..) rfl
   have e1:aS [(cu (ai 15) (ah (.int 0))),(dj [])] cz (eX (P aJ++J) t ss os)=.ok [.str [s],.ref (eX (P aJ++J) t ss os).length] (eX (P aJ++J) t ss os++[.list []]):=by
    unfold aS;have:cu (ai 15) (ah (.int 0)) cz (eX (P aJ++J) t ss os)=.ok (.str [s]) (eX (P aJ++J) t ss os):=by
     exact rJ (ao LH)
    rw[ME.bind,this];rfl
   have e2:td (.ref i) [.str [s],.ref (eX (P aJ++J) t ss os).length] (eX (P aJ++J) t ss os++[.list []])=some (.ref (eX (P aJ++J) t ss os).length,P aJ++J++[O.dict .str (dw ((P aJ++J).length+1) (os++[s]))]++(os.map (jk t ss)++[.list []])):=by
    subst Y6;have:=Iy (U:=P aJ++J) (Ls:=os.map (jk t ss)++[.list []]) (D:=dw ((P aJ++J).length+1) os) (k:=[s]) (d:=.ref (eX (P aJ++J) t ss os).length) (by exact rl (jA ..)<|Aa hs) (by refine rl (nI ..) ?_;exact q1 ‹_› (by rfl))
    refine rl (BW ..) ?_;unfold eX at this ⊢;rw[<- cW] at this;refine this.trans ?_;congr 6;simp only[List.length_append,List.length_cons,List.length_nil,List.length_map]
   refine(bL (ao F1.l2)).trans ((aA ec).trans ((bL e1).trans ?_));refine rl e2<|rl en ?_
   exact rr (cW ..) rfl
  have hg :∀U,bj [(ai 62),(aU .Add (ai 52) (bj [(aU .Sub (bT .len [(ai 15)]) (ah (.int 1)))]))] cz U=.ok (d5 (t+bo s) (gd (ss++[s]))) U:=λU=>by
   have g0:aU .Sub (bT .len [(ai 15)]) (ah (.int 1)) cz U=.ok (.int (bo s)) U:=by
    have ez:cD (ef (bo s)).length.succ=true:=bN (by refine rl (fB ..) ?_;exact q2 ‹_› (by rfl));have g1:bT .len [(ai 15)] cz U=.ok (.int ((bo s:Nat)+1)) U:=by
     unfold bT aS;rw[ME.bind,ME.bind,ao LH];show Res.cN (if cD (ef (bo s)).length.succ then some (V.int ((ef (bo s)).length.succ:Nat)) else none) U=_;exact rl (aA ez)<|rl (fB ..) rfl
    refine(bk g1 rfl).trans ?_;show Res.ok (V.int ((bo s:Int)+1 - 1)) U=_;exact rl (Int.add_sub_cancel ..) rfl
   have g2:bj [(aU .Sub (bT .len [(ai 15)]) (ah (.int 1)))] cz U=.ok (.tup [.int (bo s)]) U:=by
    unfold bj aS;rw[ME.bind,ME.bind,g0];rfl
   have g3:=rM (ao (U:=U) F1.TM) g2 (by unfold gd;refine rl (cL ..)<|rl gA ?_;exact q2 ‹_› (by rfl))
   refine gM (ao ug) (g3.trans ?_);unfold gd;exact rl List.map_append rfl
  have:=E3 hd (hg _) (by decide);unfold bM ct;refine rl this ?_;unfold eX;exact rl List.map_append<|rl (cW ..) rfl
 .exact rl (List.filter_cons_of_neg (by simpa using hp))<|rl List.filter_nil<|rl (cH hp)<|rl (List.append_nil ..) rfl
end
def qB (t:Nat)(ss:List Nat)(s:Nat):V:=.tup [.str [s],.list [d5 (t+bo s) (gd (ss++[s]))]]
theorem IB (L n t s:Nat)(xs:List Nat):rN L n t [s]++rN L n t xs=rN L n t (s::xs):=by
 unfold rN;exact rr (List.filter_append ..) rfl
theorem LI {t s:Nat}{xs:List Nat}(h:s∈rN L n t xs):s∈xs:=(List.mem_filter.mp h).1
section
variable {aO:Nat}
theorem IC (C:hX aO kd L ls P){t:Nat}(ht:t<=12)(hn:n<=11)(hz:ss.length<50) :
  ∀(xs os:List Nat) (ay:List (V×V)) (fr:eY),d7 L ay->OF aO t n i ss fr->i =(P ay++J).length->(os++xs).Nodup->os.length+xs.length<50->
   qR (λaJ bC=>d7 L aJ) (λaJ bC=>OF aO t n i ss bC) (λaJ bC=>dJ (az 15) IA (xs.map iS) fr (eX (P ay++J) t ss os)=.next bC (eX (P aJ++J) t ss (os++rN L n t xs))):=by
 intro y
 induction y with
 |nil=>
  intro os ay fr I F _ _ _;exact⟨ay,fr,I,F,by exact rl (show rN L n t []=[] from rfl)<|rl (List.append_nil ..) rfl⟩
 |cons s xs ih=>
  intro os ay fr I F hi nd hl;rw[List.length_cons] at hl;have hs:s∉os:=λz=>(List.nodup_append.mp nd).2.2 s z s (.head _) rfl;obtain⟨bA,cz,I1,F1,e1⟩:=E4 C I (F.set 15 (iS s) (.inl rfl)) (cV _ _ _) hi ht hn hz hs (by exact Nat.lt_of_add_right_lt hl);have hlen :(rN L n t [s]).length<=1:=List.length_filter_le _ [s];have nd1 :(os++rN L n t [s]++xs).Nodup:=by
   have sJ :(os++rN L n t [s]++xs).Sublist (os++s::xs):=by
    refine rl (cW ..)<|List.Sublist.append (List.Sublist.refl _) ?_
    exact List.Sublist.append (l₂:=[s]) List.filter_sublist (List.Sublist.refl _)
   exact nd.sublist sJ
  obtain⟨du,cG,I2,F2,e2⟩:=ih (os++rN L n t [s]) bA cz I1 F1 (by refine hi.trans (bY.trans ?_);exact rl bY<|rl (fA C bA ay) rfl) nd1 (by refine rl bY ?_;exact Vb hl hlen)
  refine⟨du,cG,I2,F2,?_⟩;rw[cW,IB] at e2;exact(dH rfl e1).trans e2
theorem Ac {f:Nat}(h :∀v∈vs,∃i:Int,v=.int i):gP (f+2) U n (.tup vs)=some (.tup vs):=by
 show(jJ (gP (f+1) U n) vs).map V.tup=_;exact rl (kI vs λv hv=>by obtain⟨i,rfl⟩:=h v hv;rfl) rfl
theorem ID (t:Nat) :∀v∈ef t,∃i:Int,v=.int i:=λv hv=>⟨0,(List.mem_replicate.mp hv).2⟩
theorem LJ (ss:List Nat) :∀v∈gd ss,∃i:Int,v=.int i:=λv hv=>by
 obtain⟨s,_,rfl⟩:=dz hv;exact⟨_,rfl⟩
theorem LK {t f:Nat}:gP (f+3) U n (d5 t (gd ss))=some (d5 t (gd ss)):=by
 exact aR (Option.map V.tup) (kg (Ac (ID t)) (kg (Ac (LJ ss)) rfl))
theorem IE {t:Nat} :∀(os:List Nat) (U:bw),n<=U.length->jJ (gP 39 (U++os.map (jk t ss)) n) ((dw U.length os).map λkv=>.tup [kv.1,kv.2])=some (os.map (qB t ss)):=by
 intro y
 induction y with
 |nil=>
  intro _ _;exact rfl
 |cons s os ih=>
  intro U hn;have e1:gP 39 (U++(s::os).map (jk t ss)) n (.tup [.str [s],.ref U.length])=some (qB t ss s):=by
   have hb:Nat.blt U.length n=false:=by cases z:Nat.blt U.length n with |false=>rfl |true=>have:=Nat.blt_eq.mp z;lia
   have hg :(U++(s::os).map (jk t ss))[U.length]? = some (jk t ss s):=by refine(List.getElem?_append_right (Nat.le_refl _)).trans ?_;exact rl (Nat.sub_self ..) rfl
   have e2:gP 38 (U++(s::os).map (jk t ss)) n (.ref U.length)=some (.list [d5 (t+bo s) (gd (ss++[s]))]):=by
    show(if Nat.blt U.length n then some (V.ref U.length) else match (U++(s::os).map (jk t ss))[U.length]? with |some (.list us)=>(jJ (gP 37 (U++(s::os).map (jk t ss)) n) us).map .list |_=>.none)=_
    exact rl hb<|rl hg<|aR (Option.map V.list) (kg LK rfl)
   exact aR (Option.map V.tup) (kg (f:=gP 38 (U++(s::os).map (jk t ss)) n) (v:=.str [s]) (w:=.str [s]) rfl (kg e2 rfl))
  have ih:=ih (U++[jk t ss s]) (by exact rl bY<|Nat.le_add_right_of_le hn)
  rw[bY,gA,cW] at ih;show(gP 39 (U++(s::os).map (jk t ss)) n (.tup [.str [s],.ref U.length])).bind (λa=>(jJ (gP 39 (U++(s::os).map (jk t ss)) n) ((dw (U.length+1) os).map λkv=>.tup [kv.1,kv.2])).map (a::·))=_;refine rl e1 ?_;show(jJ (gP 39 (U++([jk t ss s]++os.map (jk t ss))) n) _).map _=_;exact rl ih rfl
noncomputable def iT:List (List Nat):=[[97],[97,98],[97,98,99],[97,99]]
theorem Df (h:ls∈iT) :(ls++[112]).Nodup:=by revert ls;decide
theorem BX {t:Nat}(h:ls∈iT):oH ((rN L n t (ls++[112])).map λs=>.str [s])=some ((rN L n t (ls++[112])).map λs=>.str [s]):=by
 have key :∀b1 b2:Bool,∀ls∈iT,oH (((ls++[112]).filter λs=>if s=112 then b2 else b1).map λs=>V.str [s])=some (((ls++[112]).filter λs=>if s=112 then b2 else b1).map λs=>.str [s]):=by decide
 have e:rN L n t (ls++[112]) =(ls++[112]).filter λs=>if s=112 then decide (0<fo L n (t+2)) else decide (0<fo L n t):=by
  refine List.filter_congr λs _=>?_;unfold bo
  split <;> rfl
 exact rl e<|key _ _ ls h
end
theorem BY :∀(os:List Nat) (i:Nat) (kv:V×V),kv∈dw i os->∃s,kv.1=.str [s]:=by
 intro y
 induction y with
 |nil=>intros;first |contradiction | (injection ‹_=some _›)
 |cons s os ih=>
  intro i kv h;rcases b7 h with rfl |h
  .exact⟨s,rfl⟩
  .exact ih (i+1) kv h
theorem LL (h:ls∈iT) :(ls++[112]).length<=5:=by revert ls;decide
section
variable {aO:Nat}
theorem Ad (C:hX aO kd L ls P)(kU:ls∈iT){t:Nat}(I:d7 L ay)(ht:t<=12)(hn:n<=11)(hz:ss.length<50) :
  fk (λaJ=>d7 L aJ) (λaJ=>iq [.ref aO,.list [d5 (t+1) (gd ss)],.int ((n:Int)+1)] (P ay++J)=.ok (.list ((rN L n t (ls++[112])).map (qB t ss))) (P aJ++J)):=by
 have nd:=Df kU;have hM:112∉ls:=(C []).zQ;have hz5:=LL kU;have F :∀Fp:eY,Fp=aE (aE (aE [(10,.ref aO),(65,.list [d5 (t+1) (gd ss)]),(34,.int ((n:Int)+1))] 2 (.ref (P ay++J).length)) 47 (.tup (ef (t+1)))) 52 (.tup (gd ss))->OF aO t n (P ay++J).length ss Fp:=λ_ e=>by subst e;exact⟨rfl,rfl,rfl,rfl,rfl⟩
 obtain⟨aJ,bC,I',F',e⟩:=IC C (i:=(P ay++J).length) (J:=J) ht hn hz (ls++[112]) [] ay _ I (F _ rfl) rfl (by rw[List.nil_append];exact nd) (by rw[List.length_nil];exact Vn ‹_› (by rfl));rw[List.nil_append,<- z9 hM] at e;have hl :(P aJ++J).length =(P ay++J).length:=by refine bY.trans ?_;rw[bY,fA C ay aJ]
 refine⟨aJ,I',?_⟩;generalize J4:rN L n t (ls++[112])=os at e;have M8:=BX (L:=L) (n:=n) (t:=t) kU;have aai:os.length<=5:=by rw[<- J4];exact bZ (List.length_filter_le _ _) hz5
 have Xk:os.Nodup:=by rw[<- J4];exact nd.sublist List.filter_sublist
 rw[J4] at M8;have s2:df (bp [47,52]) (bl (ai 65)) (df (az 15) (bl (aw 3 56 c8 (bc 1 53 (ai 10)) [(cu (ai 47) (ah (.int 0)))])) IA) (aE [(10,.ref aO),(65,.list [d5 (t+1) (gd ss)]),(34,.int ((n:Int)+1))] 2 (.ref (P ay++J).length)) (P ay++J++[O.dict .str []])
   = .next bC (eX (P aJ++J) t ss os):=by
  show dJ (bp [47,52]) _ [d5 (t+1) (gd ss)] _ _=_;refine(dH (t:=bp [47,52]) (cz:=aE (aE (aE [(10,.ref aO),(65,.list [d5 (t+1) (gd ss)]),(34,.int ((n:Int)+1))] 2 (.ref (P ay++J).length)) 47 (.tup (ef (t+1)))) 52 (.tup (gd ss))) (vs:=[]) rfl ?_).trans rfl;have F0:=F _ rfl;have en:=Ab (C (J++[O.dict .str []])) (ay:=ay) F0.xJ F0.Xj;unfold df ct;rw[cW,en];have ec:eX (P ay++J) t ss []=P ay++(J++[O.dict .str []]):=by rw[<- cW];exact List.append_nil _
  rw[ec] at e;exact e
 generalize Y7:eX (P aJ++J) t ss os=qF at s2;have hg:qF[(P ay++J).length]? = some (O.dict .str (dw ((P ay++J).length+1) os)):=by
  rw[<- Y7,i5,<- hl,List.getElem?_append_right (Nat.le_refl _),Nat.sub_self];rfl
 have hd:gi qF (.ref (P ay++J).length)=some ((P ay++J).length,.str,dw ((P ay++J).length+1) os):=by unfold gi;dsimp only;rw[hg]
 have es:bl (xY kM [(ai 2)]) bC qF=.ok ((dw ((P ay++J).length+1) os).map (·.1)) qF:=by
  have ez:cD (dw ((P ay++J).length+1) os).length=true:=bN (by rw[nI];exact q3 ‹_› (by rfl));have e0:xY kM [(ai 2)] bC qF=.ok (.list ((dw ((P ay++J).length+1) os).map (·.1))) qF:=by
   have e1:kM [.ref (P ay++J).length] qF=some (.list ((dw ((P ay++J).length+1) os).map (·.1))):=by
    show(G9 qF (.ref (P ay++J).length)).bind (λxs=>(oH xs).map V.list)=_;unfold G9;rw[hd];dsimp only;rw[aA ⟨rfl,ez⟩,Option.bind_some,jA,M8];rfl
   unfold xY aS;rw[ME.bind,ME.bind,ao F'.l2];show Res.cN (kM [.ref (P ay++J).length] qF) qF=_;rw[e1];rfl
  exact kH e0 rfl
 have ec:=gx (t:=az 14) (dq:=[2]) (iw:=bj [(ai 14),(cu (ai 2) (ai 14))]) (·.1) (λkv:V×V=>.tup [kv.1,kv.2]) (dw ((P ay++J).length+1) os) es (λkv Ta=>by
  obtain⟨s,hs⟩:=BY os _ kv Ta;have Fv :(aE (jN bC [2]) 14 kv.1).lookup 14=some kv.1:=cV _ _ _;have l2 :(aE (jN bC [2]) 14 kv.1).lookup 2=some (.ref (P ay++J).length):=by rw[aV,ax (by decide),fU (by decide)];exact F'.l2
  refine⟨aE (jN bC [2]) 14 kv.1,rfl,gM (ao Fv) ?_⟩;have ei:mB (.ref (P ay++J).length) kv.1 qF=some kv.2:=by
   unfold mB;dsimp only;rw[hg];dsimp only;rw[show fu .str kv.1=true by rw[hs];rfl,aA rfl];exact LG (by rw[jA];exact Iw Xk) kv Ta
  refine(bL (ao l2)).trans ((bL (ao Fv)).trans ?_);rw[ei];rfl) (by rw[nI];exact q2 ‹_› (by rfl))
 have em:jh [(10,.ref aO),(65,.list [d5 (t+1) (gd ss)]),(34,.int ((n:Int)+1))] (P ay++J)=.ret (.list ((dw ((P ay++J).length+1) os).map λkv=>.tup [kv.1,kv.2])) qF:=by
  refine(aK (bC:=[(10,.ref aO),(65,.list [d5 (t+1) (gd ss)]),(34,.int ((n:Int)+1))]) (bB:=P ay++J) rfl).trans ((aK rfl).trans ((aK s2).trans ?_));exact ir ec
 have hc:cx [10,65,34] jh [.ref aO,.list [d5 (t+1) (gd ss)],.int ((n:Int)+1)] (P ay++J)=.ok (.list ((dw ((P ay++J).length+1) os).map λkv=>.tup [kv.1,kv.2])) (P aJ++J++(O.dict .str (dw ((P aJ++J).length+1) os)::os.map (jk t ss))):=by
  refine(aA rfl).trans ?_;show dB (jh [(10,.ref aO),(65,.list [d5 (t+1) (gd ss)]),(34,.int ((n:Int)+1))] (P ay++J))=_;rw[em,<- Y7,i5];rfl
 unfold iq tw;rw[hc];refine oW C I' ?_;have PU :∀x:O,(P aJ++J++[x]).length =(P ay++J).length+1:=λx=>by refine(bY (as:=P aJ++J)).trans ?_;rw[hl];rfl
 have Y8:=IE (t:=t) (n:=(P ay++J).length) (ss:=ss) os (P aJ++J++[O.dict .str (dw ((P aJ++J).length+1) os)]) (by rw[PU];exact Nat.le_add_right (List.length (P ay++J)) 1);rw[PU,cW (P aJ++J)] at Y8;exact aR (Option.map V.list) Y8
end
def wq:ME V:=bT .sum [(bO [66,10] (bp [47,52]) (bl (ai 62)) none (aw 1 57 (d4 30) (ai 10) [(ai 47),(aU .Sub (ai 66) (ah (.int 1)))]))]
def E5:MS:=(aL (aB (az 50) wq)
 (aL (fw (bx .Lt (ai 4) (ai 50)) (aL (bM (c6 .append (ai 51) [(ai 14)]))
 (aL (aB (az 65) (ai 62))
 pE)) bF)
 (aB (az 4) (aU .Sub (ai 4) (ai 50)))))
def BZ:ME (List V):=bl (aw 1 67 iq (ai 10) [(ai 65),(ai 66)])
def wt (L n t s:Nat):Nat:=fo L n (t+bo s)
structure NF (aO i:Nat)(W:V)(k:Nat)(fr:eY):Prop where
 xJ:fr.lookup 10=some (.ref aO)
 LM:fr.lookup 65=some W
 Pc:fr.lookup 51=some (.ref i)
 l4:fr.lookup 4=some (.int k)
theorem NF.other {aO:Nat}{W:V}(F:NF aO i W k fr)(j:Nat)(v:V)(h:j=14\/j=62\/j=50\/j=66):NF aO i W k (aE fr j v):=by
 constructor <;> rw[aV,ax (by lia)]
 all_goals first |exact F.xJ |exact F.LM |exact F.Pc |exact F.l4
noncomputable def lW (aO:Nat)(U:bw):Prop:=O2 (λa b c=>U[aO]? = some (.inst 1 [(53,a),(54,b),(31,c)]))
theorem jl {aO m:Nat}{f:ME V}{a b c:V}(hg:U[aO]? = some (.inst 1 [(53,a),(54,b),(31,c)]))(hm :∀a b c:V,([(53,a),(54,b),(31,c)]:List (Nat×V)).lookup m=none)(h:f fr U=.ok (.ref aO) U)(h1:aS fs fr U=.ok vs bB) :
  aw 1 m r f fs fr U=r (.ref aO::vs) bB:=by
 exact kb h hg (by exact rl (hm ..) rfl) h1
section
variable {aO:Nat}
theorem tZ (C:uf aO kd L ls P){m:Nat}(hm :∀a b c:V,([(53,a),(54,b),(31,c)]:List (Nat×V)).lookup m=none)(h:fr.lookup 10=some (.ref aO))(h1:aS fs fr (P ay)=.ok vs (P ay)) :
  aw 1 m r (ai 10) fs fr (P ay)=r (.ref aO::vs) (P ay):=by
 obtain⟨mk,hg⟩:=C.get;exact jl (hg ay) hm (ao h) h1
theorem wu (C:uf aO kd L ls P){u:Nat}{x:List V}(I:d7 L ay)(ud:fr.lookup 10=some (.ref aO))(LN:fr.lookup 62=some (.list [d5 u x]))(LC:fr.lookup 66=some (.int ((n:Int)+1)))(hu:u<=20)(hn:n<=12) :
  fk (λaJ=>d7 L aJ) (λaJ=>wq fr (P ay)=.ok (.int (fo L n u:Nat)) (P aJ)):=by
 refine tM (I:=λU=>fk (λay=>d7 L ay) (λay=>U=P ay)) (t:=bp [47,52]) (iw:=aw 1 57 (d4 30) (ai 10) [(ai 47),(aU .Sub (ai 66) (ah (.int 1)))]) (jC:=jN fr [66,10]) (λ_=>((fo L n u:Nat):Int)) [d5 u x] (P ay) [] ⟨ay,I,rfl⟩ (by simp) (λv hm=>?_) ?_
 .cases dM hm
  refine⟨aE (aE (jN fr [66,10]) 47 (.tup (ef u))) 52 (.tup x),rfl,λU ⟨ay,I,e⟩=>?_⟩;subst e;obtain⟨aJ,I',h⟩:=tY C hu hn I;refine⟨_,⟨aJ,I',rfl⟩,?_⟩;rw[ke C (v1:=.tup (ef u)) (v2:=.int n) (bX (by decide) (bX (by decide) (by rw[fU (by decide)];exact ud))) (ao (bX (by decide) (cV _ _ _))),h];refine(bk (ao (bX (by decide) (bX (by decide) (by exact rl (fU (by decide) ..)<|LC)))) rfl).trans ?_
  show Res.ok (V.int ((n:Int)+1 - 1)) _=_;exact rl (Int.add_sub_cancel ..) rfl
 rintro bB ⟨aJ,I',e⟩ hc;subst e;refine⟨aJ,I',?_⟩;have hi:bl (ai 62) fr (P ay)=.ok [d5 u x] (P ay):=by exact kH (ao LN) rfl
 have e1:bO [66,10] (bp [47,52]) (bl (ai 62)) none (aw 1 57 (d4 30) (ai 10) [(ai 47),(aU .Sub (ai 66) (ah (.int 1)))]) fr (P ay)=.ok (.list [.int (fo L n u:Nat)]) (P aJ):=by
  unfold bO;exact rl hi<|rl (aC ..)<|rl hc rfl
 unfold wq bT aS;rw[ME.bind,ME.bind,e1];show Res.ok (V.int (((fo L n u:Nat):Int)+0)) _=_;exact rl (Int.add_zero ..) rfl
theorem LO (C:hX aO kd L ls P){t:Nat}{D:List V}(hn:n<=11)(ht:t<=12)(hD:D.length<50) :∀(os:List Nat) (k s k':Nat) (W:V) (ay:List (V×V)) (fr:eY),d7 L ay->NF aO i W k fr->fr.lookup 66=some (.int ((n:Int)+1))->i =(P ay++J).length->jz (wt L n t) os k=some (s,k')->
  qR (λaJ bC=>d7 L aJ) (λaJ bC=>NF aO i (.list [d5 (t+bo s) (gd (ss++[s]))]) k' bC) (λaJ bC=>dJ (bp [14,62]) E5 (os.map (qB t ss)) fr (P ay++J++[.list D])=.next bC (P aJ++J++[.list (D++[.str [s]])])):=by
 intro y
 induction y with
 |nil=>intros;first |contradiction | (injection ‹_=some _›)
 |cons x os ih=>
  intro k s k' W ay fr I F LC hi hp;have ha:=kh x;have F1:=(F.other 14 (.str [x]) (.inl rfl)).other 62 (.list [d5 (t+bo x) (gd (ss++[x]))]) (.inr (.inl rfl));have ug :(aE (aE fr 14 (.str [x])) 62 (.list [d5 (t+bo x) (gd (ss++[x]))])).lookup 62=some (.list [d5 (t+bo x) (gd (ss++[x]))]):=cV _ _ _;have Fv :(aE (aE fr 14 (.str [x])) 62 (.list [d5 (t+bo x) (gd (ss++[x]))])).lookup 14=some (.str [x]):=bX (by decide) (cV _ _ _);have xK :(aE (aE fr 14 (.str [x])) 62 (.list [d5 (t+bo x) (gd (ss++[x]))])).lookup 66=some (.int ((n:Int)+1)):=bX (by decide) (bX (by decide) LC);have ht:bp [14,62] (qB t ss x) fr=some (aE (aE fr 14 (.str [x])) 62 (.list [d5 (t+bo x) (gd (ss++[x]))])):=rfl;generalize aE (aE fr 14 (.str [x])) 62 (.list [d5 (t+bo x) (gd (ss++[x]))])=cz at F1 ug Fv xK ht;obtain⟨bA,I1,e1⟩:=wu (C (J++[.list D])) I F1.xJ ug xK (Vp ‹_› ‹_› (by rfl)) (by exact Nat.le_succ_of_le hn);rw[<- cW,<- cW] at e1;have Kw:i =(P bA++J).length:=by refine hi.trans (bY.trans ?_);exact rl bY<|rl (fA C bA ay) rfl
  have s1:aB (az 50) wq cz (P ay++J++[.list D])=.next (aE cz 50 (.int (wt L n t x))) (P bA++J++[.list D]):=by
   exact dT e1
  have F2:=F1.other 50 (.int (wt L n t x)) (.inr (.inr (.inl rfl)));have Fw :(aE cz 50 (.int (wt L n t x))).lookup 50=some (.int (wt L n t x)):=cV _ _ _;have Y9 :(aE cz 50 (.int (wt L n t x))).lookup 62=some (.list [d5 (t+bo x) (gd (ss++[x]))]):=bX (by decide) ug;have Za :(aE cz 50 (.int (wt L n t x))).lookup 14=some (.str [x]):=bX (by decide) Fv;have Zb :(aE cz 50 (.int (wt L n t x))).lookup 66=some (.int ((n:Int)+1)):=bX (by decide) xK;generalize aE cz 50 (.int (wt L n t x))=cG at s1 F2 Fw Y9 Za Zb;have IF:bx .Lt (ai 4) (ai 50) cG (P bA++J++[.list D])=.ok (decide ((k:Int)<wt L n t x)) (P bA++J++[.list D]):=by
   exact pO (ao F2.l4) (ao Fw) rfl
  by_cases hk:k<wt L n t x
  .replace hp:=(aA hk).symm.trans hp
   injection hp with hp;injection hp with Jw RC;subst Jw RC;refine⟨bA,aE cG 65 (.list [d5 (t+bo x) (gd (ss++[x]))]),I1,⟨bX (by decide) F2.xJ,cV _ _ _,bX (by decide) F2.Pc,bX (by decide) F2.l4⟩,?_⟩;have s2:fw (bx .Lt (ai 4) (ai 50)) (aL (bM (c6 .append (ai 51) [(ai 14)])) (aL (aB (az 65) (ai 62)) pE)) bF cG (P bA++J++[.list D])=.brk (aE cG 65 (.list [d5 (t+bo x) (gd (ss++[x]))])) (P bA++J++[.list (D++[.str [x]])]):=by
    refine(nD IF (bN (by exact Int.ofNat_lt.mpr hk))).trans ?_;have s3:bM (c6 .append (ai 51) [(ai 14)]) cG (P bA++J++[.list D])=.next cG (P bA++J++[.list (D++[.str [x]])]):=by
     exact oU (nG (by refine F2.Pc.trans ?_;exact rl Kw rfl) (ao Za) (q1 ‹_› (by rfl))) rfl
    refine(aK s3).trans ?_;unfold aL aB ct;exact rl (ao Y9) rfl
   refine oZ ht ?_;refine(aK s1).trans ?_;unfold aL at s2 ⊢;exact rl s2 rfl
  .replace hp:=(ax hk).symm.trans hp
   have s2:fw (bx .Lt (ai 4) (ai 50)) (aL (bM (c6 .append (ai 51) [(ai 14)])) (aL (aB (az 65) (ai 62)) pE)) bF cG (P bA++J++[.list D])=.next cG (P bA++J++[.list D]):=by
    exact(qu IF (cH (SS ‹_›))).trans rfl
   have s4:aB (az 4) (aU .Sub (ai 4) (ai 50)) cG (P bA++J++[.list D])=.next (aE cG 4 (.int ((k - wt L n t x:Nat):Int))) (P bA++J++[.list D]):=by
    unfold aB ct;exact rl (bk (ao F2.l4) (ao Fw))<|rl (show((k - wt L n t x:Nat):Int) =(k:Int) - wt L n t x by exact Eq.symm (Qc hk)) rfl
   have hb:E5 cz (P ay++J++[.list D])=.next (aE cG 4 (.int ((k - wt L n t x:Nat):Int))) (P bA++J++[.list D]):=by
    exact(aK s1).trans ((aK s2).trans s4)
   obtain⟨du,bC,I2,F',e⟩:=ih (k - wt L n t x) s k' W bA _ I1 (show NF aO i W (k - wt L n t x) (aE cG 4 (.int ((k - wt L n t x:Nat):Int))) from⟨bX (by decide) F2.xJ,bX (by decide) F2.LM,bX (by decide) F2.Pc,cV _ _ _⟩) (bX (by decide) Zb) Kw hp;exact⟨du,bC,I2,F',(dH ht hb).trans e⟩
end
noncomputable def TN:Nat->List V
 |0=>[]
 |n+1=>.int ((n:Int)+1)::TN n
noncomputable def gQ (ss:List Nat):List V:=ss.map λs=>.str [s]
section
variable {aO:Nat}
theorem Ae (C:hX aO kd L ls P)(kU:ls∈iT){t:Nat}(I:d7 L ay)(ht:t<=12)(hn:n<=11)(hz:ss.length<50)(ud:fr.lookup 10=some (.ref aO))(h65:fr.lookup 65=some (.list [d5 (t+1) (gd ss)]))(LC:fr.lookup 66=some (.int ((n:Int)+1))) :
  fk (λaJ=>d7 L aJ) (λaJ=>BZ fr (P ay++J)=.ok ((rN L n t (ls++[112])).map (qB t ss)) (P aJ++J)):=by
 obtain⟨aJ,I',e⟩:=Ad C kU (J:=J) I ht hn hz;refine⟨aJ,I',?_⟩;have el:aS [(ai 65),(ai 66)] fr (P ay++J)=.ok [.list [d5 (t+1) (gd ss)],.int ((n:Int)+1)] (P ay++J):=by
  unfold aS aS aS;refine(bL (ao h65)).trans ?_;rw[ME.bind,ME.bind,ao LC];rfl
 unfold BZ bl;rw[ME.bind,tZ (C J) (λ_ _ _=>rfl) ud el,e];rfl
theorem IG (C:hX aO kd L ls P)(kU:ls∈iT) :∀(n t k:Nat) (ss:List Nat) (ay:List (V×V)) (fr:eY),d7 L ay->NF aO i (.list [d5 t (gd ss)]) k fr->i =(P ay++J).length->k<fo L n t->n+t<=12->ss.length+n<50->
  qR (λaJ bC=>d7 L aJ) (λaJ bC=>NF aO i (.list [d5 0 (gd (ss++aX ls n t k))]) 0 bC) (λaJ bC=>dJ (az 66) (df (bp [14,62]) BZ E5) (TN n) fr (P ay++J++[.list (gQ ss)])=.next bC (P aJ++J++[.list (gQ (ss++aX ls n t k))])):=by
 intro y
 induction y with
 |zero=>
  intro t k ss ay fr I F _ hk _ _;have h0:t=0/\k=0:=by
   unfold fo at hk
   split at hk <;>(first |exact Ye ‹_› ‹_› |lia)
  obtain⟨rfl,rfl⟩:=h0;have e0:ss++aX ls 0 0 0=ss:=List.append_nil ss;exact rl e0<|⟨ay,fr,I,F,rfl⟩
 |succ n ih=>
  intro t k ss ay fr I F hi hk hb hz;have ht:t≠0:=λz=>by subst z;simp[fo] at hk
  obtain⟨t,rfl⟩ :∃u,t=u+1:=⟨t - 1,by exact Eq.symm (Nat.succ_pred_eq_of_ne_zero ht)⟩;have hL:=(C []).hL;have hM:112∉ls:=(C []).zQ;obtain⟨s,k',hp,hs,Gu⟩:=vZ hM (n:=n) (t:=t) (k:=k) (by exact rl hL<|hk)
  rw[hL] at hp Gu;have F1:=F.other 66 (.int ((n:Int)+1)) (.inr (.inr (.inr rfl)));have xK:=cV fr 66 (.int ((n:Int)+1));obtain⟨bA,I1,e1⟩:=Ae C kU (J:=J++[.list (gQ ss)]) I (by lia) (by lia) (by exact Nat.lt_of_add_right_lt hz) F1.xJ F1.LM xK;rw[<- cW,<- cW] at e1;have Jw:jz (wt L n t) (rN L n t (ls++[112])) k=some (s,k'):=(qt (wt L n t) (ls++[112]) k).trans hp;obtain⟨du,cG,I2,F2,e2⟩:=LO C (ss:=ss) (J:=J) (D:=gQ ss) (by lia) (by lia) (by unfold gQ;exact rl (cL ..)<|Nat.lt_of_add_right_lt hz) _ k s k' _ bA _ I1 F1 xK (by refine hi.trans (bY.trans ?_);exact rl bY<|rl (fA C bA ay) rfl) Jw
  have er:df (bp [14,62]) BZ E5 (aE fr 66 (.int ((n:Int)+1))) (P ay++J++[.list (gQ ss)])=.next cG (P du++J++[.list (gQ (ss++[s]))]):=by
   unfold df ct;refine rl e1 ?_;have:gQ (ss++[s])=gQ ss++[.str [s]]:=by exact List.map_append.trans rfl
   exact rl this<|e2
  obtain⟨aJ,bC,I',F',e'⟩:=ih (t+bo s) k' (ss++[s]) du cG I2 F2 (by refine hi.trans (bY.trans ?_);exact rl bY<|rl (fA C du ay) rfl) Gu (by have:=kh s;exact X7 ‹_› ‹_›) (by refine rl bY<|rl gA ?_;exact yb hz)
  refine rl hs ?_;rw[cW ss] at F' e';exact⟨aJ,bC,I',F',(dH rfl er).trans e'⟩
end
theorem IH :∀n:Nat,n<=12->d9 (n:Int) 0 (-1)=TN n:=by decide +kernel
theorem o3 {f g:ME V}{a b:V}(hf:f fr U=.ok a bq)(hg:g fr bq=.ok b bS):bj [f,g] fr U=.ok (.tup [a,b]) bS:=by
 unfold bj;simp only[ME.bind,aS,hf,hg,aC,ah];rfl
theorem o4 {f:ME V}{a:V}(hf:f fr U=.ok a bq):bj [f] fr U=.ok (.tup [a]) bq:=by
 unfold bj;simp only[ME.bind,aS,hf,aC,ah];rfl
theorem II {f:ME V}{a:V}(hf:f fr U=.ok a bq):cZ [f] fr U=.ok (.list [a]) bq:=by
 unfold cZ;simp only[ME.bind,aS,hf,aC,ah];rfl
def uR:ME Bool:=rS (jD .LtE .Lt (ah (.int 0)) (ai 4) (aw 1 50 dS (ai 10) [(ai 41),(ai 34)]))
noncomputable def nJ (aO:Nat)(c s k:Int):eY:=[(10,.ref aO),(41,.int c),(34,.int s),(4,.int k)]
theorem Af {aO:Nat}{s k v c:Int}(hg:lW aO U)(h:dS [.ref aO,.int c,.int s] U=.ok (.int v) bB) :
  uR (nJ aO c s k) U=if 0<=k then .ok (!(decide (k<v))) bB else .ok true U:=by
 obtain⟨x,y,z,hg⟩:=hg;have e:aw 1 50 dS (ai 10) [(ai 41),(ai 34)] (nJ aO c s k) U=.ok (.int v) bB:=(jl hg (λ_ _ _=>rfl) rfl rfl).trans h;unfold uR rS jD;skip;show((if decide ((0:Int)<=k) then (aw 1 50 dS (ai 10) [(ai 41),(ai 34)]).bind (λd=>λ_ U=>Res.cN (ig .Lt (.int k) d U) U) _ U else Res.ok false U).andThen λb U=>Res.ok (!b) U)=_;by_cases h0:0<=k
 .rw[bN h0,aA rfl,aA h0,ME.bind,e];rfl
 .rw[cH h0,ax h0];rfl
theorem t4 {aO:Nat}{s k v c:Int}(hg:lW aO U)(h:dS [.ref aO,.int c,.int s] U=.ok (.int v) bB)(hk:k<0\/v<=k):iQ [.ref aO,.int c,.int s,.int k] U=.ok .none (if 0<=k then bB else U):=by
 have e:uR (nJ aO c s k) U=.ok true (if 0<=k then bB else U):=by
  refine(Af hg h).trans ?_;by_cases h0:0<=k
  .refine(aA h0).trans ?_;exact rl (aA h0)<|rl (cH (q60 ‹_› ‹_›)) rfl
  .refine(ax h0).trans ?_;exact rl (ax h0) rfl
 have e1:fw uR (cn (ah .none)) bF (nJ aO c s k) U=.ret .none (if 0<=k then bB else U):=by exact(fQ e).trans rfl
 show dB (aL (fw uR (cn (ah .none)) bF) _ (nJ aO c s k) U)=_;exact rl (rC e1) rfl
section
variable {aO:Nat}
def Sr:MS:=cO (dZ [65,51]) (bj [(cZ [(bj [(bj [(aw 3 25 bP (bc 1 53 (ai 10)) [(ai 41)])]),(bj [])])]),(dj [])])
def Pf:ME (List V):=jq (ai 34) (ah (.int 0)) (gY (ah (.int 1)))
def LP:ME V:=cu (xY kM [(bO [] (bp [47,52]) (bl (ai 65)) none (ai 52))]) (ai 4)
def LQ (aO i:Nat)(c s k:Int):eY:=(65,.list [d5 1 (gd [])]) ::(51,.ref i)::nJ aO c s k
theorem LR (C:hX aO kd L ls P)(kU:ls∈iT){t:T}(hg:lW aO U)(e1:dS [.ref aO,.int 0,.int n] U=.ok (.int (fo L n 1:Nat)) (P bA++J))(I1:d7 L bA)(hn:n<=11)(hk:k<fo L n 1)(hb:gm (aX ls n 1 k)=[t])(hp:t.pre=aX ls n 1 k) :
  fk (λaJ=>d7 L aJ) (λaJ=>iQ [.ref aO,.int 0,.int n,.int k] U=.ok (aQ t) (P aJ++J++[.list (gQ (aX ls n 1 k))])):=by
 have hL:=(C []).hL;have hM:112∉ls:=(C []).zQ;have et:=Af (k:=k) hg e1;rw[aA (by exact Int.natCast_nonneg k),bN (by exact Int.ofNat_lt.mpr hk)] at et;have s1:fw uR (cn (ah .none)) bF (nJ aO 0 n k) U=.next (nJ aO 0 n k) (P bA++J):=by exact(fQ et).trans rfl
 have s2:Sr (nJ aO 0 n k) (P bA++J)=.next (LQ aO (P bA++J).length 0 n k) (P bA++J++[.list (gQ [])]):=by
  have eh:=pT (C J) (fr:=nJ aO 0 n k) (ay:=bA) (i:=41) (c:=0) rfl rfl ((C J).wc bA);exact iv (o3 (II (gM (o4 eh) rfl)) rfl) rfl
 obtain⟨du,cG,I2,F2,e2⟩:=IG C kU (i:=(P bA++J).length) (J:=J) n 1 k [] bA (LQ aO (P bA++J).length 0 n k) I1 ⟨rfl,rfl,rfl,rfl⟩ rfl hk (by exact Nat.succ_le_succ hn) (by refine rl List.length_nil ?_;exact Vn ‹_› (by rfl));rw[List.nil_append] at F2 e2;have Al :(P du++J).length =(P bA++J).length:=by refine bY.trans ?_;exact rl bY<|rl (fA C bA du) rfl
 have er:Pf (LQ aO (P bA++J).length 0 n k) (P bA++J++[.list (gQ [])])=.ok (TN n) (P bA++J++[.list (gQ [])]):=by
  have es:g6 (n:Int)=true:=bN (by exact Uw hn);exact rr (IH n (by exact Nat.le_succ_of_le hn))<|v9 (ao rfl) rfl rfl es rfl
 have s3:df (az 66) Pf (df (bp [14,62]) BZ E5) (LQ aO (P bA++J).length 0 n k) (P bA++J++[.list (gQ [])])
   = .next cG (P du++J++[.list (gQ (aX ls n 1 k))]):=by
  exact iu er e2
 have DL:=j9 ls n 1 k;generalize uj:P du++J++[O.list (gQ (aX ls n 1 k))]=bS at s3;have ei:LP cG bS=.ok (.tup (gd (aX ls n 1 k))) bS:=by
  have e0:bO [] (bp [47,52]) (bl (ai 65)) none (ai 52) cG bS=.ok (.list [.tup (gd (aX ls n 1 k))]) bS:=by
   refine gx (λ_=>d5 0 (gd (aX ls n 1 k))) (λ_=>.tup (gd (aX ls n 1 k))) [0] ?_ (λx _=>⟨_,rfl,ao (cV _ _ _)⟩) (by decide);exact kH (ao F2.LM) rfl
  have e1:xY kM [(bO [] (bp [47,52]) (bl (ai 65)) none (ai 52))] cG bS=.ok (.list [.tup (gd (aX ls n 1 k))]) bS:=by
   exact Sf e0 rfl
  refine(bL e1).trans ?_;rw[ME.bind,ao F2.l4];rfl
 have eg:=Il (U:=bS) (v:=.ref (P bA++J).length) (by refine rr uj ?_;unfold items?;dsimp only;exact rr Al<|rl (f7 ..) rfl) hb (by refine rl hp<|rl DL ?_;exact q2 ‹_› (by rfl)) (by refine rl DL ?_;exact q2 ‹_› (by rfl)) (qr hM n 1 k (by exact rl hL<|hk))
 have e4:bW kC [(ai 51),LP] cG bS=.ok (aQ t) bS:=by
  refine rr eg ?_;unfold bW aS aS aS;rw[ME.bind,ME.bind,ao F2.Pc,aC,ME.bind,ME.bind,ei];rfl
 have s4:cn (bW kC [(ai 51),LP]) cG bS=.ret (aQ t) bS:=by
  exact ir e4
 refine⟨du,I2,?_⟩;refine rl uj ?_;show dB (aL (fw uR (cn (ah .none)) bF) (aL Sr (aL (df (az 66) Pf (df (bp [14,62]) BZ E5)) (cn (bW kC [(ai 51),LP])))) (nJ aO 0 n k) U)=_;exact rl (aK s1)<|rl (aK s2)<|rl (aK s3)<|rl s4 rfl
end
def Dg:MS:=(aL (fw (bx .Eq (ai 14) (ai 58)) (aL (aB (az 65) (ai 62))
 pE) bF)
 (aB (az 4) (aU .Add (ai 4) wq)))
def IJ:MS:=(aL (aB (az 66) (aU .Sub (ai 34) (ai 70)))
 (df (bp [14,62]) BZ Dg))
structure RF (aO N:Nat)(Sh W:V)(k:Nat)(fr:eY):Prop where
 xJ:fr.lookup 10=some (.ref aO)
 LM:fr.lookup 65=some W
 M7:fr.lookup 34=some (.int N)
 M6:fr.lookup 16=some Sh
 l4:fr.lookup 4=some (.int k)
theorem RF.other {aO:Nat}{Sh W:V}(F:RF aO N Sh W k fr)(j:Nat)(v:V)(h:j=14\/j=62\/j=58\/j=70\/j=66):RF aO N Sh W k (aE fr j v):=by
 constructor <;> rw[aV,ax (by lia)]
 all_goals first |exact F.xJ |exact F.LM |exact F.M7 |exact F.M6 |exact F.l4
theorem Pg {x s:Nat}(h1:fr.lookup i=some (.str [x]))(h2:fr.lookup j=some (.str [s]))(hx:x<1000)(hs:s<1000):bx .Eq (ai i) (ai j) fr U=.ok (decide (x=s)) U:=by
 refine(bL (ao h1)).trans ((bL (ao h2)).trans ?_);exact xI (f:=ah (.str [x])) (fr:=fr) hx hs rfl
noncomputable def Dh:Nat->List Nat->List V
 |_,[]=>[]
 |p,s::r=>.tup [.int p,.str [s]]::Dh (p+1) r
section
variable {aO:Nat}
theorem IK (C:hX aO kd L ls P){t s:Nat}{Sh W:V}(hn:n<=11)(ht:t<=12)(hs:s<1000) :∀(os:List Nat) (k:Nat) (ay:List (V×V)) (fr:eY),d7 L ay->RF aO N Sh W k fr->fr.lookup 66=some (.int ((n:Int)+1))->fr.lookup 58=some (.str [s])->s∈os->(∀x∈os,x<1000)->
  qR (λaJ bC=>d7 L aJ) (λaJ bC=>RF aO N Sh (.list [d5 (t+bo s) (gd (ss++[s]))]) (k+qQ (wt L n t) s os) bC) (λaJ bC=>dJ (bp [14,62]) Dg (os.map (qB t ss)) fr (P ay++J)=.next bC (P aJ++J)):=by
 intro y
 induction y with
 |nil=>intros;first |contradiction | (injection ‹_=some _›)
 |cons x os ih=>
  intro k ay fr I F LC h58 hm hx;have ha:=kh x;have F1:=(F.other 14 (.str [x]) (.inl rfl)).other 62 (.list [d5 (t+bo x) (gd (ss++[x]))]) (.inr (.inl rfl));have ug :(aE (aE fr 14 (.str [x])) 62 (.list [d5 (t+bo x) (gd (ss++[x]))])).lookup 62=some (.list [d5 (t+bo x) (gd (ss++[x]))]):=cV _ _ _;have Fv :(aE (aE fr 14 (.str [x])) 62 (.list [d5 (t+bo x) (gd (ss++[x]))])).lookup 14=some (.str [x]):=bX (by decide) (cV _ _ _);have xK :(aE (aE fr 14 (.str [x])) 62 (.list [d5 (t+bo x) (gd (ss++[x]))])).lookup 66=some (.int ((n:Int)+1)):=bX (by decide) (bX (by decide) LC);have JD :(aE (aE fr 14 (.str [x])) 62 (.list [d5 (t+bo x) (gd (ss++[x]))])).lookup 58=some (.str [s]):=bX (by decide) (bX (by decide) h58);have Fx:bp [14,62] (qB t ss x) fr=some (aE (aE fr 14 (.str [x])) 62 (.list [d5 (t+bo x) (gd (ss++[x]))])):=rfl;generalize aE (aE fr 14 (.str [x])) 62 (.list [d5 (t+bo x) (gd (ss++[x]))])=cz at F1 ug Fv xK JD Fx;have IF:=Pg (U:=P ay++J) Fv JD (hx x (.head _)) hs;by_cases h:x=s
  .subst h
   have s2:fw (bx .Eq (ai 14) (ai 58)) (aL (aB (az 65) (ai 62)) pE) bF cz (P ay++J)=.brk (aE cz 65 (.list [d5 (t+bo x) (gd (ss++[x]))])) (P ay++J):=by
    refine(nD IF (bN rfl)).trans ?_;unfold aL aB ct;exact rl (ao ug) rfl
   refine⟨ay,aE cz 65 (.list [d5 (t+bo x) (gd (ss++[x]))]),I,?_,oZ Fx ?_⟩
   .have:k+qQ (wt L n t) x (x::os)=k:=by unfold qQ;exact rl (aA rfl) rfl
    exact rl this<|⟨bX (by decide) F1.xJ,cV _ _ _,bX (by decide) F1.M7,bX (by decide) F1.M6,bX (by decide) F1.l4⟩
   .unfold Dg
    unfold aL at s2 ⊢;exact rl s2 rfl
  .have Jr:s∈os:=(b7 hm).resolve_left λz=>h z.symm
   have s2:fw (bx .Eq (ai 14) (ai 58)) (aL (aB (az 65) (ai 62)) pE) bF cz (P ay++J)=.next cz (P ay++J):=by
    exact(qu IF (cH h)).trans rfl
   obtain⟨bA,I1,e1⟩:=wu (C J) I F1.xJ ug xK (Vp ‹_› ‹_› (by rfl)) (by exact Nat.le_succ_of_le hn);have s4:aB (az 4) (aU .Add (ai 4) wq) cz (P ay++J)=.next (aE cz 4 (.int ((k+wt L n t x:Nat):Int))) (P bA++J):=by
    exact dT ((bk (ao F1.l4) e1).trans rfl)
   have hb:Dg cz (P ay++J)=.next (aE cz 4 (.int ((k+wt L n t x:Nat):Int))) (P bA++J):=by
    exact(aK s2).trans s4
   obtain⟨du,bC,I2,F',e⟩:=ih (k+wt L n t x) bA _ I1 (show RF aO N Sh W (k+wt L n t x) (aE cz 4 (.int ((k+wt L n t x:Nat):Int))) from⟨bX (by decide) F1.xJ,bX (by decide) F1.LM,bX (by decide) F1.M7,bX (by decide) F1.M6,cV _ _ _⟩) (bX (by decide) xK) (bX (by decide) JD) Jr λy hy=>hx y (.tail _ hy);refine⟨du,bC,I2,?_,(dH Fx hb).trans e⟩;have:k+qQ (wt L n t) s (x::os)=k+wt L n t x+qQ (wt L n t) s os:=by
    show k+(if x=s then 0 else wt L n t x+qQ (wt L n t) s os)=_;refine rl (ax h) ?_;exact Eq.symm (Nat.add_assoc k (wt L n t x) (qQ (wt L n t) s os))
   exact rl this<|F'
theorem law_small (h:ls∈iT) :∀x∈ls++[112],x<1000:=by revert ls;decide
theorem E6 (C:hX aO kd L ls P)(kU:ls∈iT){Sh:V} :∀(n t k p a:Nat) (ss:List Nat) (ay:List (V×V)) (fr:eY),d7 L ay->RF aO N Sh (.list [d5 t (gd ss)]) a fr->k<fo L n t->p+n=N->n+t<=12->ss.length+n<50->
  qR (λaJ bC=>d7 L aJ) (λaJ bC=>RF aO N Sh (.list [d5 0 (gd (ss++aX ls n t k))]) (a+k) bC) (λaJ bC=>dJ (bp [70,58]) IJ (Dh p (aX ls n t k)) fr (P ay++J)=.next bC (P aJ++J)):=by
 intro y
 induction y with
 |zero=>
  intro t k p a ss ay fr I F hk _ _ _;have h0:t=0/\k=0:=by
   unfold fo at hk
   split at hk <;>(first |exact Ye ‹_› ‹_› |lia)
  obtain⟨rfl,rfl⟩:=h0;have e0:ss++aX ls 0 0 0=ss:=List.append_nil ss;exact rl e0<|⟨ay,fr,I,F,rfl⟩
 |succ n ih=>
  intro t k p a ss ay fr I F hk hN hb hz;have ht:t≠0:=λz=>by subst z;simp[fo] at hk
  obtain⟨t,rfl⟩ :∃u,t=u+1:=⟨t - 1,by exact Eq.symm (Nat.succ_pred_eq_of_ne_zero ht)⟩;have hL:=(C []).hL;have hM:112∉ls:=(C []).zQ;obtain⟨s,k',hp,hs,Gu⟩:=vZ hM (n:=n) (t:=t) (k:=k) (by exact rl hL<|hk)
  rw[hL] at hp Gu;have Jw:jz (wt L n t) (rN L n t (ls++[112])) k=some (s,k'):=(qt (wt L n t) (ls++[112]) k).trans hp;have nd :(rN L n t (ls++[112])).Nodup:=(Df kU).sublist List.filter_sublist;obtain⟨q1,q2,q3⟩:=HZ nd Jw;have Zc :∀x∈rN L n t (ls++[112]),x<1000:=λx hx=>law_small kU x (LI hx);have F1:=(F.other 70 (.int p) (by decide)).other 58 (.str [s]) (by decide);have Zd :(aE (aE fr 70 (.int p)) 58 (.str [s])).lookup 70=some (.int p):=bX (by decide) (cV _ _ _);have JD :(aE (aE fr 70 (.int p)) 58 (.str [s])).lookup 58=some (.str [s]):=cV _ _ _;have Fx:bp [70,58] (.tup [.int p,.str [s]]) fr=some (aE (aE fr 70 (.int p)) 58 (.str [s])):=rfl;generalize aE (aE fr 70 (.int p)) 58 (.str [s])=cz at F1 Zd JD Fx;have s1:aB (az 66) (aU .Sub (ai 34) (ai 70)) cz (P ay++J)=.next (aE cz 66 (.int ((n:Int)+1))) (P ay++J):=by
   unfold aB ct;refine rl (bk (ao F1.M7) (ao Zd)) ?_;show uh.next (aE cz 66 (.int ((N:Int) - p))) _=_;exact rl (show(N:Int) - p =(n:Int)+1 by exact Int.sub_eq_iff_eq_add'.mpr (aR Nat.cast (id (Eq.symm hN)))) rfl
  have F2:=F1.other 66 (.int ((n:Int)+1)) (by decide);have xK:=cV cz 66 (.int ((n:Int)+1));have m58 :(aE cz 66 (.int ((n:Int)+1))).lookup 58=some (.str [s]):=bX (by decide) JD;obtain⟨bA,I1,e1⟩:=Ae C kU (J:=J) I (by lia) (by lia) (by exact Nat.lt_of_add_right_lt hz) F2.xJ F2.LM xK;obtain⟨du,cG,I2,F3,e2⟩:=IK C (n:=n) (t:=t) (N:=N) (ss:=ss) (J:=J) (Vo ‹_›) (X5 ‹_›) (Zc s q1) _ a bA _ I1 F2 xK m58 q1 Zc;have er:IJ cz (P ay++J)=.next cG (P du++J):=by
   refine(aK s1).trans ?_;exact iu e1 e2
  obtain⟨aJ,bC,I',F',e'⟩:=ih (t+bo s) k' (p+1) (a+qQ (wt L n t) s (rN L n t (ls++[112]))) (ss++[s]) du cG I2 F3 Gu (by lia) (by have:=kh s;exact X7 ‹_› ‹_›) (by refine rl bY<|rl gA ?_;exact yb hz)
  refine rl hs ?_;rw[cW ss,Nat.add_assoc,q3] at F';exact⟨aJ,bC,I',F',(dH Fx er).trans e'⟩
end
theorem mr :∀(n t k:Nat),∀x∈aX ls n t k,x∈ls\/x=112:=by
 intro y
 induction y with
 |zero=>
  intro _ _ _ h;exact nomatch h
 |succ n ih=>
  intro t k x h;unfold aX at h
  cases hp:fY (fo ls.length n (t - 1)) ls k with
  |mk o k'=>
   rw[hp] at h
   cases o with
   |some l=>
    rcases b7 h with rfl |h
    .exact .inl (ji hp).1
    .exact ih _ _ x h
   |none=>
    rcases b7 h with rfl |h
    .exact .inr rfl
    .exact ih _ _ x h
theorem Ph :∀t:T,EW t->(∀x∈t.pre,x∈ls\/x=112)->Sp ls t:=by
 intro y
 induction y with
 |leaf l=>
  intro h hx;exact(hx l (.head _)).resolve_right h
 |node a b wh p5=>
  intro h hx;exact⟨wh h.1 λx q=>hx x (.tail _ (List.mem_append.mpr (.inl q))),p5 h.2 λx q=>hx x (.tail _ (List.mem_append.mpr (.inr q)))⟩
theorem LS :∀(ss:List Nat) (p:Nat),((gQ ss).zipIdx p).map (λq=>V.tup [.int q.2,q.1])=Dh p ss:=by
 intro y
 induction y with
 |nil=>
  intro _;exact rfl
 |cons s ss ih=>
  intro p;exact aR (V.tup [.int p,.str [s]]::·) (ih (p+1))
theorem IL :∀xs:List V,te xs xs=some false:=by
 intro y
 induction y with
 |nil=>
  exact rfl
 |cons x xs ih=>
  refine(aA rfl).trans ?_;exact ih
theorem IM :∀ss:List Nat,V.cS (gd ss)=true/\V.cv (gd ss)=0:=by
 intro y
 induction y with
 |nil=>
  exact⟨rfl,rfl⟩
 |cons s ss ih=>
  exact⟨(ih).1,(Nat.max_eq_right (Nat.zero_le _)).trans (ih).2⟩
section
variable {aO:Nat}
theorem E7 (C:hX aO kd L ls P)(kU:ls∈iT){t:T}(hg:lW aO U)(e3:d6 [.ref aO,.int n] U=.ok .none (P ay++J))(I:d7 L ay)(hn:n<=11)(hk:k<fo L n 1)(hb:gm (aX ls n 1 k)=[t])(hp:t.pre=aX ls n 1 k) :
  fk (λaJ=>d7 L aJ) (λaJ=>j8 [.ref aO,aQ t] U=.ok (.tup [.int n,.int k]) (P aJ++J)):=by
 have DL:=j9 ls n 1 k;have yi:t.pre.length=n:=by exact rl hp<|rl DL rfl
 have ok:=EX hb;have hh:mE t<8:=by have:=zZ t;exact Z3 ‹_› ‹_› ‹_›
 have Tn:Sp ls t:=Ph t ok λx hx=>mr n 1 k x (by exact rr hp<|hx)
 have e1:=wi (U:=U) ok (ZR ‹_› ‹_› (by rfl)) hh;have e2:=z6 (C J) (ay:=ay) 8 t hh Tn;obtain⟨x,y,z,hg⟩:=hg
 let cz:eY:=[(16,.tup (gd t.pre)),(51,.tup (gQ t.pre)),(34,.int t.pre.length),(10,.ref aO),(43,aQ t)]
 have s1:cO (bp [34,51,16]) (bW gI [(ai 43)]) [(10,.ref aO),(43,aQ t)] U=.next cz U:=by
  have:bW gI [(ai 43)] [(10,.ref aO),(43,aQ t)] U=.ok (EZ t) U:=by exact rr e1 rfl
  exact iv this rfl
 have s2:bM (aw 1 60 d6 (ai 10) [(ai 34)]) cz U=.next cz (P ay++J):=by
  have:aw 1 60 d6 (ai 10) [(ai 34)] cz U=.ok .none (P ay++J):=by
   exact rr e3<|rr yi<|jl hg (λ_ _ _=>rfl) rfl rfl
  exact oU this rfl
 have s3:aB (az 41) (aw 1 68 (fg 8) (ai 10) [(ai 43)]) cz (P ay++J)=.next ((41,.int 0)::cz) (P ay++J):=by
  have:aw 1 68 (fg 8) (ai 10) [(ai 43)] cz (P ay++J)=.ok (.int 0) (P ay++J):=by
   exact rr e2<|tZ (C J) (λ_ _ _=>rfl) rfl rfl
  exact dT this
 have s4:fw (bx .Lt (ai 41) (ah (.int 0))) (cn (ah .none)) bF ((41,.int 0)::cz) (P ay++J)=.next ((41,.int 0)::cz) (P ay++J):=rfl
 let cG:eY:=(65,.list [d5 1 (gd [])]) ::(4,.int 0) ::(41,.int 0)::cz
 have s5:cO (dZ [65,4]) (bj [(cZ [(bj [(bj [(ai 41)]),(bj [])])]),(ah (.int 0))]) ((41,.int 0)::cz) (P ay++J)=.next cG (P ay++J):=rfl;have F:RF aO n (.tup (gd t.pre)) (.list [d5 1 (gd [])]) 0 cG:=⟨rfl,rfl,by exact rr yi rfl,rfl,rfl⟩;obtain⟨aJ,bC,I',F',e⟩:=E6 C kU (J:=J) n 1 k 0 0 [] ay cG I F hk (by exact Nat.zero_add n) (by exact Nat.succ_le_succ hn) (by refine rl List.length_nil ?_;exact Vn ‹_› (by rfl));rw[List.nil_append,<- hp,Nat.zero_add] at F';have s6:df (bp [70,58]) (kO (ai 51)) IJ cG (P ay++J)=.next bC (P aJ++J):=by
  have:kO (ai 51) cG (P ay++J)=.ok (Dh 0 (aX ls n 1 k)) (P ay++J):=by
   show Res.ok (((gQ t.pre).zipIdx 0).map λq=>V.tup [.int q.2,q.1]) _=_;exact rl (LS ..)<|rl hp rfl
  exact iu this e
 have ec:bO [16] (bp [47,52]) (bl (ai 65)) (some (Ox (ai 52) (ai 16))) (ai 52) bC (P aJ++J)=.ok (.list []) (P aJ++J):=by
  have ei:bl (ai 65) bC (P aJ++J)=.ok [d5 0 (gd t.pre)] (P aJ++J):=by exact kH (ao F'.LM) rfl
  have et:Ox (ai 52) (ai 16) (aE (aE (jN bC [16]) 47 (.tup (ef 0))) 52 (.tup (gd t.pre))) (P aJ++J)=.ok false (P aJ++J):=by
   have hl:RK (.tup (gd t.pre)) (.tup (gd t.pre))=some false:=by
    show(if V.cS (gd t.pre)=true/\V.cS (gd t.pre)=true/\V.cv (gd t.pre)<=64 then te (gd t.pre) (gd t.pre) else .none)=_;obtain⟨p1,p2⟩:=IM t.pre;refine(aA ⟨p1,p1,by lia⟩).trans ?_;exact rl (IL ..) rfl
   refine(bL (ao (cV _ _ _))).trans ((bL (ao (bX (by decide) (bX (by decide) (by exact rl (fU (by decide) ..)<|F'.M6))))).trans ?_);exact rl hl rfl
  unfold bO;refine rl ei<|rl (aC ..) ?_
  have:fz (bp [47,52]) (some (Ox (ai 52) (ai 16))) (ai 52) (jN bC [16]) [d5 0 (gd t.pre)] (P aJ++J) []=.ok [] (P aJ++J):=by
   show((NX (Ox (ai 52) (ai 16) (aE (aE (jN bC [16]) 47 (.tup (ef 0))) 52 (.tup (gd t.pre))) (P aJ++J))).andThen _)=_;exact rl et rfl
  exact rl this rfl
 have s7:bj [(ai 34),(aU .Add (ai 4) (bT .len [(bO [16] (bp [47,52]) (bl (ai 65)) (some (Ox (ai 52) (ai 16))) (ai 52))]))] bC (P aJ++J)=.ok (.tup [.int n,.int k]) (P aJ++J):=by
  refine gM (ao F'.M7) ((bk (ao F'.l4) ((lV ec (by decide)).2)).trans ?_);show Res.ok (V.int ((k:Int)+0)) _=_;exact rl (Int.add_zero ..) rfl
 refine⟨aJ,I',?_⟩;show dB (oO [(10,.ref aO),(43,aQ t)] U)=_;have em:oO [(10,.ref aO),(43,aQ t)] U=.ret (.tup [.int n,.int k]) (P aJ++J):=by
  refine(aK s1).trans ((aK s2).trans ((aK s3).trans ((aK s4).trans ((aK s5).trans ((aK s6).trans ?_)))));exact ir s7
 exact rl em rfl
end
noncomputable abbrev For:=List (List V)
variable {gC:For}{r':Nat->Nat->Option For}
noncomputable def bD (l:For):List V:=l.map .tup
def Ss (l:For):Bool:=V.cS (bD l)&&Nat.blt (V.cv (bD l)) 30&&l.all λf=>Nat.blt f.length 50
noncomputable def IP (x:Nat)(gC:For):For->For->Option For
 |[],bh=>some bh
 |k::ks,bh=>if bh.length+gC.length<900/\k.length<50 then IP x gC ks (bh++gC.map λjR=>.tup (.str [x]::k)::jR) else none
noncomputable def B0 (r:Nat->Nat->Option For)(first:Nat)(gC:For):List Nat->For->Option For
 |[],bh=>some bh
 |x::xs,bh=>(r (bo x) (first - 1)).bind λks=>(IP x gC ks bh).bind (B0 r first gC xs)
def M9 (L:Nat)(ls:List Nat)(r:Nat->Nat->Option For)(t s first:Nat)(bh:For):Option For:=
 (if t=1\/0<fo L first 1 then r (t - 1) (s - first) else some []).bind λgC=>if gC=[] then some bh else B0 r first gC (ls++[112]) bh
noncomputable def xM (L:Nat)(ls:List Nat)(r:Nat->Nat->Option For)(t s:Nat):List Nat->For->Option For
 |[],bh=>some bh
 |i::is,bh=>(M9 L ls r t s (i+1) bh).bind (xM L ls r t s is)
noncomputable def LU (L:Nat)(ls:List Nat):Nat->Nat->Nat->Option For
 |0,_,_=>none
 |d+1,t,s=>if 11<s\/12<t then none else if fo L s t=0 then some [] else if t=0 then some [[]] else (xM L ls (LU L ls d) t s (List.range (s+1 - t)) []).bind λl=>if Ss l then some l else none
noncomputable def B1:V->T
 |.tup [.str [x],a,b]=>.node (B1 a) (B1 b)
 |.tup [.str [x]]=>.leaf x
 |_=>.leaf 0
noncomputable def fM (js:List Nat)(fr bC:eY):Prop:=∀j,j∉js->bC.lookup j=fr.lookup j
theorem fM.set {js:List Nat}(j:Nat)(v:V)(h:j∈js):fM js fr (aE fr j v):=λk hk=>by rw[aV,ax λz=>hk (by rw[z];exact h)]
theorem fM.trans {js:List Nat}{a b c:eY}(h:fM js a b)(k:fM js b c):fM js a c:=λj hj=>(k j hj).trans (h j hj)
theorem fM.refl {js:List Nat}{a:eY}:fM js a a:=λ_ _=>rfl
theorem fM.more {js ks:List Nat}{a b:eY}(h:fM js a b)(hs :∀j∈js,j∈ks):fM ks a b:=λj hj=>h j λz=>hj (hs j z)
theorem fM.at {js:List Nat}{a b:eY}(h:fM js a b)(e:a.lookup j=some v)(hj:j∉js):b.lookup j=some v:=(h j hj).trans e
def Ze:ME V:=aU .Add (bj [(aU .Add (bj [(cu (ai 15) (ah (.int 0)))]) (ai 16))]) (ai 64)
def TP:MS:=bM (c6 .extend (ai 2) [(bO [16,15] (az 64) (bl (ai 62)) none Ze)])
def Xl (r:List V->bw->Res V):MS:=df (az 16) (bl (aw 1 63 r (ai 10) [(dU 1 (ai 15)),(aU .Sub (ai 59) (ah (.int 1)))])) TP
theorem IQ {x:Nat}{k:List V}{bh:For}(h2:fr.lookup 2=some (.ref U.length))(Pe:fr.lookup 15=some (iS x))(h16:fr.lookup 16=some (.tup k))(LN:fr.lookup 62=some (.list (bD gC)))(hz:bh.length+gC.length<900)(hk:k.length<50)(hl :∀f∈gC,f.length<50) :
  TP fr (U++[.list (bD bh)])=.next fr (U++[.list (bD (bh++gC.map λjR=>.tup (.str [x]::k)::jR))]):=by
 have ec:bO [16,15] (az 64) (bl (ai 62)) none Ze fr (U++[.list (bD bh)])=.ok (.list (gC.map λjR=>.tup (.tup (.str [x]::k)::jR))) (U++[.list (bD bh)]):=by
  refine gx V.tup (λjR=>.tup (.tup (.str [x]::k)::jR)) gC ?_ (λf hf=>⟨_,rfl,?_⟩) (q6 ‹_› (by rfl))
  .exact kH (ao LN) rfl
  .have LH :(aE (jN fr [16,15]) 64 (.tup f)).lookup 15=some (iS x):=bX (by decide) (by exact rl (fU (by decide) ..)<|Pe)
   have M6 :(aE (jN fr [16,15]) 64 (.tup f)).lookup 16=some (.tup k):=bX (by decide) (by exact rl (fU (by decide) ..)<|h16)
   exact rM (a:=[.tup (.str [x]::k)]) (o4 (rM (o4 (rJ (ao LH))) (ao M6) (by refine rl gA ?_;exact XX ‹_› (by rfl)))) (ao (cV _ _ _)) (by refine rl gA ?_;have:=hl f hf;exact XX ‹_› (by rfl))
 have:=tS h2 ec (by unfold bD;refine rl (cL ..)<|rl (cL ..) ?_;exact q1 ‹_› (by rfl))
 unfold TP bM ct;refine rl this ?_;unfold bD;exact rl List.map_append<|rl List.map_map rfl
theorem IS {x:Nat}(hl :∀f∈gC,f.length<50) :∀(ks bh jd:For) (fr:eY),fr.lookup 2=some (.ref U.length)->fr.lookup 15=some (iS x)->fr.lookup 62=some (.list (bD gC))->IP x gC ks bh=some jd->
  fk (λbC=>fM [16] fr bC) (λbC=>dJ (az 16) TP (bD ks) fr (U++[.list (bD bh)])=.next bC (U++[.list (bD jd)])):=by
 intro y
 induction y with
 |nil=>
  intro bh jd fr _ _ _ h;injection h with h;subst h;exact⟨fr,.refl,rfl⟩
 |cons k ks ih=>
  intro bh jd fr h2 Pe LN h;by_cases hc:bh.length+gC.length<900/\k.length<50
  .replace h:=(aA hc).symm.trans h
   have K0:fM [16] fr (aE fr 16 (.tup k)):=.set _ _ (.head _);have e:=IQ (U:=U) (K0.at h2 (by decide)) (K0.at Pe (by decide)) (cV _ _ _) (K0.at LN (by decide)) hc.1 hc.2 hl;obtain⟨bC,K',e'⟩:=ih _ jd (aE fr 16 (.tup k)) (K0.at h2 (by decide)) (K0.at Pe (by decide)) (K0.at LN (by decide)) h;exact⟨bC,K0.trans K',(dH rfl e).trans e'⟩
  .replace h:=(ax hc).symm.trans h;injection h
section
variable {aO:Nat}
noncomputable def LV (aO L:Nat)(P:List (V×V)->bw)(r:List V->bw->Res V)(t s:Nat)(l:For):Prop:=
 (∀f∈l,f.length<50)/\V.cS (bD l)=true/\V.cv (bD l)<30/\∀ay J,d7 L ay->fk (λaJ=>d7 L aJ) (λaJ=>r [.ref aO,.tup (ef t),.int s] (P ay++J)=.ok (.list (bD l)) (P aJ++J))
theorem jm (C:uf aO kd L ls P){m:Nat}{f g:ME V}{a b:V}(hm :∀a b c:V,([(53,a),(54,b),(31,c)]:List (Nat×V)).lookup m=none)(h:fr.lookup 10=some (.ref aO))(hf:f fr (P ay)=.ok a (P ay))(hg:g fr (P ay)=.ok b (P ay)) :
  aw 1 m r (ai 10) [f,g] fr (P ay)=r [.ref aO,a,b] (P ay):=by
 refine tZ C hm h ?_;unfold aS aS aS;refine(bL hf).trans ?_;rw[ME.bind,ME.bind,hg];rfl
theorem E8 (C:hX aO kd L ls P)(hl :∀f∈gC,f.length<50)(hr :∀t s l,r' t s=some l->LV aO L P r t s l)(h1:1<=first) :
  ∀(xs:List Nat) (bh jd:For) (ay:List (V×V)) (fr:eY),d7 L ay->fr.lookup 10=some (.ref aO)->fr.lookup 2=some (.ref (P ay++J).length)->fr.lookup 59=some (.int first)->fr.lookup 62=some (.list (bD gC))->B0 r' first gC xs bh=some jd->
  qR (λaJ bC=>d7 L aJ) (λaJ bC=>fM [15,16] fr bC) (λaJ bC=>dJ (az 15) (Xl r) (xs.map iS) fr (P ay++J++[.list (bD bh)])=.next bC (P aJ++J++[.list (bD jd)])):=by
 intro y
 induction y with
 |nil=>
  intro bh jd ay fr I _ _ _ _ h;injection h with h;subst h;exact⟨ay,fr,I,.refl,rfl⟩
 |cons x xs ih=>
  intro bh jd ay fr I ud h2 Ie LN h;obtain⟨ks,q1,h⟩:=Option.bind_eq_some_iff.mp h;obtain⟨IT,q2,h⟩:=Option.bind_eq_some_iff.mp h;obtain⟨_,_,_,hs⟩:=hr _ _ _ q1;have K0:fM [15,16] fr (aE fr 15 (iS x)):=.set _ _ (.head _);have LH :(aE fr 15 (iS x)).lookup 15=some (iS x):=cV _ _ _;have Fx:az 15 (iS x) fr=some (aE fr 15 (iS x)):=rfl;generalize aE fr 15 (iS x)=cz at K0 LH Fx;obtain⟨bA,I1,e1⟩:=hs ay (J++[.list (bD bh)]) I;have ei:bl (aw 1 63 r (ai 10) [(dU 1 (ai 15)),(aU .Sub (ai 59) (ah (.int 1)))]) cz (P ay++(J++[.list (bD bh)]))=.ok (bD ks) (P bA++(J++[.list (bD bh)])):=by
   have ha:=kh x;have e0:aU .Sub (ai 59) (ah (.int 1)) cz (P ay++(J++[.list (bD bh)]))=.ok (.int ((first - 1:Nat):Int)) (P ay++(J++[.list (bD bh)])):=by
    refine(bk (ao (K0.at Ie (by decide))) rfl).trans ?_;rw[show((first - 1:Nat):Int) =(first:Int) - 1 by exact XT ‹_›];rfl
   unfold bl;rw[ME.bind,jm (C _) (λ_ _ _=>rfl) (K0.at ud (by decide)) (kc (ao LH) (by rw[fB];lia)) e0,e1];rfl
  rw[<- cW,<- cW] at ei;have hlen :(P bA++J).length =(P ay++J).length:=by refine bY.trans ?_;exact rl bY<|rl (fA C ay bA) rfl
  obtain⟨cG,K2,e2⟩:=IS (U:=P bA++J) (x:=x) hl ks bh IT cz (by exact rl hlen<|K0.at h2 (by decide)) LH (K0.at LN (by decide)) q2
  have K3:fM [15,16] fr cG:=K0.trans (K2.more λj hj=>.tail _ hj);have er:Xl r cz (P ay++J++[.list (bD bh)])=.next cG (P bA++J++[.list (bD IT)]):=by
   exact iu ei e2
  obtain⟨du,ka,I3,K4,e3⟩:=ih IT jd bA cG I1 (K3.at ud (by decide)) (by exact rl hlen<|K3.at h2 (by decide)) (K3.at Ie (by decide)) (K3.at LN (by decide)) h
  exact⟨du,ka,I3,K3.trans K4,(dH Fx er).trans e3⟩
end
def Su (r:List V->bw->Res V):MS:=(aL (aB (az 61) (BC (iE .Eq (bT .len [(ai 47)]) (ah (.int 1))) (iE .Gt (aw 1 57 (d4 30) (ai 10) [(iO 1 (ai 47)),(ai 59)]) (ah (.int 0)))))
 (aL (aB (az 62) (qY (o7 (ai 61)) (aw 1 63 r (ai 10) [(dU 1 (ai 47)),(aU .Sub (ai 34) (ai 59))]) (cZ [])))
 (fw (bx .NotEq (ai 62) (cZ [])) (df (az 15) (bl (aw 3 56 c8 (bc 1 53 (ai 10)) [(cu (ai 47) (ah (.int 0)))])) (Xl r)) bF)))
theorem dD {f g:ME V}{a b:V}{c:Bool}(hf:f fr U=.ok a bq)(hg:g fr bq=.ok b bS)(h:ig op a b bS=some c):bx op f g fr U=.ok c bS/\iE op f g fr U=.ok (.bool c) bS:=by
 unfold bx iE;rw[ME.bind,hf,aC,ME.bind,hg,aC,h,ME.bind,hf,aC,ME.bind,hg,aC,h];exact⟨rfl,rfl⟩
theorem Pj {l:For}(hp:V.cS (bD l)=true)(hd:V.cv (bD l)<30):ig .NotEq (.list (bD l)) (.list []) U=some (decide (l≠[])):=by
 have f1:flat U (.list (bD l))=some (.list (bD l)):=by unfold flat;dsimp only;exact rl (aA (show V.plain (.list (bD l))=true from hp)) rfl
 have h1:V.depth (.list (bD l))<=64:=by show V.cv (bD l)+1<=64;exact q1 ‹_› (by rfl)
 have e:JY (.list (bD l)) (.list []) U=some (V.beq (.list (bD l)) (.list [])):=by
  unfold JY;refine rl f1 ?_;show(if decide (V.depth (.list (bD l))<=64)&&true then some (V.beq (.list (bD l)) (.list [])) else .none)=_;exact rl (bN h1) rfl
 show(JY (.list (bD l)) (.list []) U).map (!·)=_;refine rl e ?_
 cases l with
 |nil=>rfl
 |cons a r=>rfl
section
variable {aO:Nat}
theorem IU (C:hX aO kd L ls P){t:Nat}(I:d7 L ay)(ud:fr.lookup 10=some (.ref aO))(EJ:fr.lookup 47=some (.tup (ef (t+1))))(Ie:fr.lookup 59=some (.int first))(ht:t<=12)(hf:first<=12) :
  fk (λaJ=>d7 L aJ) (λaJ=>BC (iE .Eq (bT .len [(ai 47)]) (ah (.int 1))) (iE .Gt (aw 1 57 (d4 30) (ai 10) [(iO 1 (ai 47)),(ai 59)]) (ah (.int 0))) fr (P ay++J)=.ok (.bool (decide (t+1=1\/0<fo L first 1))) (P aJ++J)):=by
 have e1:iE .Eq (bT .len [(ai 47)]) (ah (.int 1)) fr (P ay++J)=.ok (.bool (decide (t+1=1))) (P ay++J):=by
  refine(dD (rF (ao EJ) (by rw[fB];exact XU ‹_› (by rfl))) rfl ?_).2;rw[fB];show some (decide (((t+1:Nat):Int)=1))=_;congr 1;exact decide_eq_decide.mpr (by exact Vh)
 by_cases h:t+1=1
 .refine⟨ay,I,?_⟩
  rw[bN (.inl h)];unfold BC;rw[ME.bind,e1,bN h];rfl
 .obtain⟨aJ,I',e2⟩:=tY (C J) (u:=1) (n:=first) (by exact Nat.le_of_ble_eq_true rfl) hf I
  refine⟨aJ,I',?_⟩;have eu:iO 1 (ai 47) fr (P ay++J)=.ok (.tup (ef 1)) (P ay++J):=by
   have ez:cD (ef (t+1)).length=true:=bN (by rw[fB];exact q2 ‹_› (by rfl));unfold iO;rw[ME.bind,ao EJ];show Res.cN (if cD (ef (t+1)).length then some (V.tup ((ef (t+1)).take 1)) else .none) _=_;rw[aA ez];rfl
  have e3:iE .Gt (aw 1 57 (d4 30) (ai 10) [(iO 1 (ai 47)),(ai 59)]) (ah (.int 0)) fr (P ay++J)=.ok (.bool (decide (0<fo L first 1))) (P aJ++J):=by
   refine(dD ((jm (C J) (λ_ _ _=>rfl) ud eu (ao Ie)).trans e2) rfl ?_).2;show some (decide ((fo L first 1:Int) > 0))=_;congr 1;exact decide_eq_decide.mpr (by exact Int.natCast_pos)
  unfold BC;rw[ME.bind,e1,cH h,aC];show iE .Gt _ _ fr (P ay++J)=_;refine e3.trans ?_;rw[show decide (t+1=1\/0<fo L first 1)=decide (0<fo L first 1) from decide_eq_decide.mpr ⟨λq=>q.resolve_left h,.inr⟩]
theorem LW (C:hX aO kd L ls P){t s:Nat}{bh jd:For}(hr :∀t s l,r' t s=some l->LV aO L P r t s l)(h1:1<=first)(hf:first<=s)(hs:s<=11)(ht:t<=12)(I:d7 L ay)(ud:fr.lookup 10=some (.ref aO))(EJ:fr.lookup 47=some (.tup (ef (t+1))))(PZ:fr.lookup 34=some (.int s))(h2:fr.lookup 2=some (.ref (P ay++J).length))(Ie:fr.lookup 59=some (.int first))(h:M9 L ls r' (t+1) s first bh=some jd) :
  qR (λaJ bC=>d7 L aJ) (λaJ bC=>fM [15,16,61,62] fr bC) (λaJ bC=>Su r fr (P ay++J++[.list (bD bh)])=.next bC (P aJ++J++[.list (bD jd)])):=by
 obtain⟨gC,q1,h⟩:=Option.bind_eq_some_iff.mp h;rw[Nat.add_sub_cancel] at q1;obtain⟨bA,I1,e1⟩:=IU C (J:=J++[.list (bD bh)]) I ud EJ Ie ht (Yd ‹_› ‹_› (by rfl));rw[<- cW,<- cW] at e1;have s1:aB (az 61) (BC (iE .Eq (bT .len [(ai 47)]) (ah (.int 1))) (iE .Gt (aw 1 57 (d4 30) (ai 10) [(iO 1 (ai 47)),(ai 59)]) (ah (.int 0)))) fr (P ay++J++[.list (bD bh)])=.next (aE fr 61 (.bool (decide (t+1=1\/0<fo L first 1)))) (P bA++J++[.list (bD bh)]):=by
  exact dT e1
 have K1:fM [15,16,61,62] fr (aE fr 61 (.bool (decide (t+1=1\/0<fo L first 1)))):=.set _ _ (by decide);have Zf:=cV fr 61 (.bool (decide (t+1=1\/0<fo L first 1)));generalize aE fr 61 (.bool (decide (t+1=1\/0<fo L first 1)))=cz at s1 K1 Zf;have et :∀U,o7 (ai 61) cz U=.ok (decide (t+1=1\/0<fo L first 1)) U:=λU=>by
  unfold o7;rw[ME.bind,ao Zf];rfl
 have key:Sa (λdu=>d7 L du) (λdu=>(∀f∈gC,f.length<50)) (λdu=>V.cS (bD gC)=true) (λdu=>V.cv (bD gC)<30) (λdu=>qY (o7 (ai 61)) (aw 1 63 r (ai 10) [(dU 1 (ai 47)),(aU .Sub (ai 34) (ai 59))]) (cZ []) cz (P bA++J++[.list (bD bh)])=.ok (.list (bD gC)) (P du++J++[.list (bD bh)])):=by
  by_cases hc:t+1=1\/0<fo L first 1
  .rw[aA hc] at q1
   obtain⟨p1,p2,p3,hs⟩:=hr _ _ _ q1;obtain⟨du,I2,e2⟩:=hs bA (J++[.list (bD bh)]) I1;refine⟨du,I2,p1,p2,p3,?_⟩;unfold qY;rw[ME.bind,et,bN hc,aC,aA rfl,cW,cW,<- e2];refine jm (C _) (λ_ _ _=>rfl) (K1.at ud (by decide)) (kc (x:=.int 0) (ao (K1.at EJ (by decide))) (by refine rl (fB ..) ?_;exact q2 ‹_› (by rfl))) ?_;rw[bk (ao (K1.at PZ (by decide))) (ao (K1.at Ie (by decide))),show((s - first:Nat):Int) =(s:Int) - first by exact XT ‹_›];rfl
  .rw[ax hc] at q1
   injection q1 with q1;subst q1;refine⟨bA,I1,(λ_ z=>nomatch z),rfl,by decide,?_⟩;unfold qY;rw[ME.bind,et,cH hc];rfl
 obtain⟨du,I2,p1,p2,p3,e2⟩:=key;have s2:aB (az 62) (qY (o7 (ai 61)) (aw 1 63 r (ai 10) [(dU 1 (ai 47)),(aU .Sub (ai 34) (ai 59))]) (cZ [])) cz (P bA++J++[.list (bD bh)])=.next (aE cz 62 (.list (bD gC))) (P du++J++[.list (bD bh)]):=by
  exact dT e2
 have K2:fM [15,16,61,62] fr (aE cz 62 (.list (bD gC))):=K1.trans (.set _ _ (by decide));have ug:=cV cz 62 (.list (bD gC));generalize aE cz 62 (.list (bD gC))=cG at s2 K2 ug;have e3:=(dD (op:=.NotEq) (f:=ai 62) (g:=cZ []) (U:=P du++J++[.list (bD bh)]) (ao ug) rfl (Pj p2 p3)).1;have hlen :(P du++J).length =(P ay++J).length:=by exact rl bY<|rl bY<|rl (fA C ay du) rfl
 unfold Su;refine rl (aK s1)<|rl (aK s2)<|rl (fQ e3) ?_
 by_cases hn:gC=[]
 .rw[aA hn] at h
  injection h with h;subst h;exact rl (cH (λz=>z hn))<|⟨du,cG,I2,K2,rfl⟩
 .rw[ax hn] at h
  refine rl (bN hn)<|rl (aA rfl) ?_
  have en:=Ab (C (J++[.list (bD bh)])) (ay:=du) (K2.at ud (by decide)) (K2.at (v:=.tup (.int 0::ef t)) EJ (by decide));rw[z9 (C []).zQ,<- cW] at en;obtain⟨Xm,ka,I3,K3,e4⟩:=E8 C (J:=J) p1 hr h1 (ls++[112]) bh jd du cG I2 (K2.at ud (by decide)) (by exact rl hlen<|K2.at h2 (by decide)) (K2.at Ie (by decide)) ug h
  refine⟨Xm,ka,I3,K2.trans (K3.more (by decide)),?_⟩;exact iu en e4
end
theorem t5 :∀{vs:List V} {v:V},V.cS vs=true->v∈vs->V.plain v=true:=by
 intro y
 induction y with
 |nil=>intros;first |contradiction | (injection ‹_=some _›)
 |cons u vs ih=>
  intro v h hm;obtain⟨h1,h2⟩:=cK h;rcases b7 hm with rfl |hm
  .exact h1
  .exact ih h2 hm
theorem t6 :∀{vs:List V} {v:V},v∈vs->V.depth v<=V.cv vs:=by
 intro y
 induction y with
 |nil=>intros;first |contradiction | (injection ‹_=some _›)
 |cons u vs ih=>
  intro v hm;rcases b7 hm with rfl |hm
  .exact Nat.le_max_left _ _
  .exact bZ (ih hm) (Nat.le_max_right _ _)
theorem E9 :∀(f:Nat) (v:V),V.plain v=true->V.depth v<f->gP f U n v=some v:=by
 intro y
 induction y with
 |zero=>
  intro _ _ h;exact absurd h (Nat.not_lt_zero _)
 |succ f ih=>
  intro v hp hd;have key :∀us:List V,V.cS us=true->V.cv us+1<f+1->jJ (gP f U n) us=some us:=λus h1 h2=>kI us λu hu=>ih u (t5 h1 hu) (by have:=t6 hu;exact Z6 ‹_› ‹_›)
  cases v with
  |tup us=>exact aR (Option.map V.tup) (key us hp hd)
  |list us=>exact aR (Option.map V.list) (key us hp hd)
  |ref i=>injection hp
  |_=>rfl
section
variable {aO:Nat}
noncomputable def kW (i:Nat):V:=.int ((i+1:Nat):Int)
theorem B2 (C:hX aO kd L ls P){t s:Nat}(hr :∀t s l,r' t s=some l->LV aO L P r t s l)(hs:s<=11)(ht:t<=12) :
  ∀(is:List Nat) (bh jd:For) (ay:List (V×V)) (fr:eY),(∀i∈is,i+1<=s)->d7 L ay->fr.lookup 10=some (.ref aO)->fr.lookup 47=some (.tup (ef (t+1)))->fr.lookup 34=some (.int s)->fr.lookup 2=some (.ref (P ay++J).length)->xM L ls r' (t+1) s is bh=some jd->
  qR (λaJ bC=>d7 L aJ) (λaJ bC=>fM [15,16,61,62,59] fr bC) (λaJ bC=>dJ (az 59) (Su r) (is.map kW) fr (P ay++J++[.list (bD bh)])=.next bC (P aJ++J++[.list (bD jd)])):=by
 intro y
 induction y with
 |nil=>
  intro bh jd ay fr _ I _ _ _ _ h;injection h with h;subst h;exact⟨ay,fr,I,.refl,rfl⟩
 |cons i is ih=>
  intro bh jd ay fr hi I ud EJ PZ h2 h;obtain⟨IT,q1,h⟩:=Option.bind_eq_some_iff.mp h;have K0:fM [15,16,61,62,59] fr (aE fr 59 (kW i)):=.set _ _ (by decide);have Sn:=cV fr 59 (kW i);have Fx:az 59 (kW i) fr=some (aE fr 59 (kW i)):=rfl;generalize aE fr 59 (kW i)=cz at K0 Sn Fx;obtain⟨bA,cG,I1,K1,e1⟩:=LW C (J:=J) hr (Nat.le_add_left 1 i) (hi i (.head _)) hs ht I (K0.at ud (by decide)) (K0.at EJ (by decide)) (K0.at PZ (by decide)) (K0.at h2 (by decide)) Sn q1;have K2:fM [15,16,61,62,59] fr cG:=K0.trans (K1.more (by decide));obtain⟨du,ka,I3,K3,e3⟩:=ih IT jd bA cG (λj hj=>hi j (.tail _ hj)) I1 (K2.at ud (by decide)) (K2.at EJ (by decide)) (K2.at PZ (by decide)) (by rw[bY,fA C ay bA,<- bY];exact K2.at h2 (by decide)) h;exact⟨du,ka,I3,K2.trans K3,(dH Fx e1).trans e3⟩
theorem B3 {s t:Nat}(h:t<=s):d9 1 ((s:Int) - t+2) 1 =(List.range (s+1 - t)).map kW:=by
 rw[oR,show((s:Int) - t+2 - 1).toNat=s+1 - t by exact ZP];refine List.map_congr_left λi _=>?_;unfold kW;rw[show 1+(i:Int) * 1 =((i+1:Nat):Int) by exact SR]
def TQ:MS:=fw (bx .Eq (aw 1 57 (d4 30) (ai 10) [(ai 47),(ai 34)]) (ah (.int 0))) (cn (cZ [])) bF
def Zg:MS:=fw (bx .Eq (bT .len [(ai 47)]) (ah (.int 0))) (cn (cZ [(bj [])])) bF
def Xn:ME (List V):=(iZ (ah (.int 1)) (aU .Add (aU .Sub (ai 34) (bT .len [(ai 47)])) (ah (.int 2))))
def Zh (r:List V->bw->Res V):MS:=aL (aB (az 2) (dj [])) (aL (df (az 59) Xn (Su r)) (cn (ai 2)))
def B4 (aO t s:Nat):eY:=[(10,.ref aO),(47,.tup (ef t)),(34,.int s)]
theorem lX (r:List V->bw->Res V)(aO t s:Nat)(U:bw):cx [10,47,34] (j7 r) [.ref aO,.tup (ef t),.int s] U=dB (aL TQ (aL Zg (Zh r)) (B4 aO t s) U):=rfl
theorem Fb (C:hX aO kd L ls P) :∀(d t s:Nat) (l:For),LU L ls d t s=some l->LV aO L P (gj d) t s l:=by
 intro y
 induction y with
 |zero=>
  intro t s l h;exact nomatch h
 |succ d ih=>
  intro t s l h;by_cases hb:11<s\/12<t
  .replace h:=(aA hb).symm.trans h;cases h
  replace h:=(ax hb).symm.trans h;have hs:s<=11:=by exact q92 ‹_›
  have ht:t<=12:=by exact q93 ‹_›
  have Xo :∀ay J,d7 L ay->fk (λbA=>d7 L bA) (λbA=>bx .Eq (aw 1 57 (d4 30) (ai 10) [(ai 47),(ai 34)]) (ah (.int 0)) (B4 aO t s) (P ay++J)=.ok (decide (fo L s t=0)) (P bA++J)):=λay J I=>by
   obtain⟨bA,I1,e1⟩:=tY (C J) (u:=t) (n:=s) (q3 ‹_› (by rfl)) (by exact Nat.le_succ_of_le hs) I;refine⟨bA,I1,(dD ((jm (C J) (λ_ _ _=>rfl) rfl rfl rfl).trans e1) rfl ?_).1⟩;show some (decide ((fo L s t:Int)=0))=_;congr 1;exact decide_eq_decide.mpr (by exact Int.ofNat_eq_zero)
  by_cases h0:fo L s t=0
  .replace h:=(aA h0).symm.trans h
   injection h with h;subst h;refine⟨(λ_ z=>nomatch z),rfl,by decide,λay J I=>?_⟩;obtain⟨bA,I1,e1⟩:=Xo ay J I;rw[bN h0] at e1;refine⟨bA,I1,?_⟩;have ec:cx [10,47,34] (j7 (gj d)) [.ref aO,.tup (ef t),.int s] (P ay++J)=.ok (.list []) (P bA++J++[]):=by
    have:TQ (B4 aO t s) (P ay++J)=.ret (.list []) (P bA++J):=by exact(fQ e1).trans rfl
    rw[lX,rC this,List.append_nil];rfl
   show uI _ _=_;rw[ec];exact oW C I1 rfl
  replace h:=(ax h0).symm.trans h
  cases t with
  |zero=>
   injection h with h;subst h;refine⟨(λf z=>by cases dM z;decide),rfl,by decide,λay J I=>?_⟩;obtain⟨bA,I1,e1⟩:=Xo ay J I;rw[cH h0] at e1;refine⟨bA,I1,?_⟩;have ec:cx [10,47,34] (j7 (gj d)) [.ref aO,.tup (ef 0),.int s] (P ay++J)=.ok (.list [.tup []]) (P bA++J++[]):=by
    have:TQ (B4 aO 0 s) (P ay++J)=.next (B4 aO 0 s) (P bA++J):=by exact(fQ e1).trans rfl
    rw[lX,aK this,List.append_nil];rfl
   show uI _ _=_;rw[ec];exact oW C I1 rfl
  |succ t=>
   replace h:=(ax (Nat.succ_ne_zero t)).symm.trans h;obtain⟨l',q,h⟩:=Option.bind_eq_some_iff.mp h;by_cases hc:Ss l'=true
   .replace h:=(aA hc).symm.trans h
    cases h;obtain⟨hc,c3⟩:=cK hc;obtain⟨c1,c2⟩:=cK hc;have c2:=Nat.blt_eq.mp c2;refine⟨λf hf=>Nat.blt_eq.mp (List.all_eq_true.mp c3 f hf),c1,c2,λay J I=>?_⟩;obtain⟨bA,I1,e1⟩:=Xo ay J I;rw[cH h0] at e1;have Ot:t+1<=s:=by
     by_cases z:s<t+1
     .exact absurd (xD L s (t+1) z) h0
     .exact Nat.le_of_not_lt z
    have s1:TQ (B4 aO (t+1) s) (P ay++J)=.next (B4 aO (t+1) s) (P bA++J):=by exact(fQ e1).trans rfl
    have el :∀fr U,List.lookup 47 fr=some (.tup (ef (t+1)))->bT .len [(ai 47)] fr U=.ok (.int ((t+1:Nat):Int)) U:=λfr U z=>by
     refine(rF (ao z) (by rw[fB];exact Vr ‹_› ‹_› (by rfl))).trans ?_;rw[fB]
    have s2:Zg (B4 aO (t+1) s) (P bA++J)=.next (B4 aO (t+1) s) (P bA++J):=by
     have:=(dD (op:=.Eq) (g:=ah (.int 0)) (c:=false) (el (B4 aO (t+1) s) (P bA++J) rfl) rfl (by show some (decide (((t+1:Nat):Int)=0))=_;rw[cH (by exact PyProof.Rows.bi_ine.mp rfl)])).1;exact(fQ this).trans rfl
    obtain⟨du,cG,I2,K2,e2⟩:=B2 C (J:=J) (r:=gj d) (ih) hs (by exact Nat.le_of_succ_le ht) (List.range (s+1 - (t+1))) [] l bA ((2,.ref (P bA++J).length)::B4 aO (t+1) s) (λi hi=>by have:=List.mem_range.mp hi;exact UC Ot this) I1 rfl rfl rfl rfl q;have er:Xn ((2,.ref (P bA++J).length)::B4 aO (t+1) s) (P bA++J++[.list (bD [])])=.ok ((List.range (s+1 - (t+1))).map kW) (P bA++J++[.list (bD [])]):=by
     have eb:aU .Add (aU .Sub (ai 34) (bT .len [(ai 47)])) (ah (.int 2)) ((2,.ref (P bA++J).length)::B4 aO (t+1) s) (P bA++J++[.list (bD [])])=.ok (.int ((s:Int) - (t+1:Nat)+2)) (P bA++J++[.list (bD [])]):=
      (bk ((bk (ao rfl) (el _ _ rfl)).trans rfl) rfl).trans rfl
     have es:g6 ((s:Int) - (t+1:Nat)+2)=true:=bN (by exact UB hs Ot);rw[<- B3 Ot];exact pR rfl eb rfl es
    have s4:df (az 59) Xn (Su (gj d)) ((2,.ref (P bA++J).length)::B4 aO (t+1) s) (P bA++J++[.list (bD [])])=.next cG (P du++J++[.list (bD l)]):=by
     exact iu er e2
    have w9 :(P bA++J).length =(P ay++J).length:=by refine bY.trans ?_;rw[bY,fA C ay bA]
    have Al :(P du++J).length =(P ay++J).length:=by refine bY.trans ?_;rw[bY,fA C ay du]
    have ec:cx [10,47,34] (j7 (gj d)) [.ref aO,.tup (ef (t+1)),.int s] (P ay++J)=.ok (.ref (P ay++J).length) (P du++J++[.list (bD l)]):=by
     rw[lX,aK s1,aK s2];unfold Zh;rw[aK (f:=aB (az 2) (dj [])) (bC:=((2,.ref (P bA++J).length)::B4 aO (t+1) s)) (bB:=P bA++J++[.list (bD [])]) rfl,aK s4];unfold cn ct;rw[ao (K2.at rfl (by decide)),w9];rfl
    refine⟨du,I2,?_⟩;show uI _ _=_;rw[ec];refine oW C I2 ?_;have hb:Nat.blt (P ay++J).length (P ay++J).length=false:=by cases z:Nat.blt (P ay++J).length (P ay++J).length with |false=>rfl |true=>have:=Nat.blt_eq.mp z;lia
    show(if Nat.blt (P ay++J).length (P ay++J).length then some (V.ref (P ay++J).length) else match (P du++J++[.list (bD l)])[(P ay++J).length]? with |some (O.list us)=>(jJ (gP 39 (P du++J++[O.list (bD l)]) (P ay++J).length) us).map V.list |_=>Option.none)=_
    rw[hb,<- Al,f7];show(jJ (gP 39 _ _) (bD l)).map V.list=_;rw[kI (bD l) λv hv=>E9 39 v (t5 c1 hv) (by have:=t6 hv;exact X9 ‹_› ‹_› (by rfl))];rfl
   .replace h:=(ax hc).symm.trans h;injection h
end
noncomputable def Sv:T->Bool
 |.leaf l=>!Nat.beq l 112
 |.node a b=>Sv a&&Sv b
theorem Pk :∀t:T,Sv t=true->EW t:=by
 intro y
 induction y with
 |leaf l=>
  intro h;exact λz=>by subst z;injection h
 |node a b wh p5=>
  intro h;exact⟨wh (cK h).1,p5 (cK h).2⟩
def o5 (ls:List Nat)(n k:Nat):T:=(gm (aX ls n 1 k)).headD (.leaf 0)
def kQ (ls:List Nat)(n:Nat):List V:=(List.range (fo ls.length n 1)).map λk=>aQ (o5 ls n k)
def Fc (l:For):List T:=l.map λf=>B1 (f.headD .none)
def Xp (ls:List Nat)(n:Nat)(l:For):Bool:=V.x9 (bD l) (bD ((Fc l).map λt=>[aQ t]))&&(Fc l).all (λt=>Sv t&&Nat.blt t.pre.length 16)&&Nat.blt (Fc l).length 64&&
 (match lL ((Fc l).map EZ) with
 |some p=>V.x9 (p.map λi=>((Fc l).map aQ).getD i .none) (kQ ls n)
 |.none=>false)
def LX (ls:List Nat)(n:Nat):Bool:=match LU ls.length ls 30 1 n with
 |some l=>Xp ls n l
 |.none=>false
theorem Di {a b:List V}(h:V.x9 a b=true):a=b:=by
 have:=(V.beq_iff (.list a) (.list b)).mp h;injection this
theorem IV :∀(ts:List T) (bh:List V),(∀t∈ts,Sv t=true/\t.pre.length<16)->tm gI (ts.map aQ) U bh=.ok (bh++ts.map EZ) U:=by
 intro y
 induction y with
 |nil=>
  intro bh _;rw[List.map_nil,List.map_nil,List.append_nil];rfl
 |cons t ts ih=>
  intro bh h;obtain⟨h1,h2⟩:=h t (.head _);have e:=wi (U:=U) (Pk t h1) (q1 ‹_› (by rfl)) (by have:=zZ t;exact X6 ‹_› ‹_›);refine rl List.map_cons ?_;unfold tm;refine rl e ?_;dsimp only;refine(ih _ λu hu=>h u (.tail _ hu)).trans ?_;exact rl (cW ..) rfl
section
variable {aO:Nat}
def Xq:ME Bool:=bx .Gt (aw 1 50 dS (ai 10) [(ai 41),(ai 34)]) (ah (.int 10000))
def TS:ME V:=bO [] (az 16) (bl (aw 1 63 (gj 30) (ai 10) [(bj [(aw 3 25 bP (bc 1 53 (ai 10)) [(ai 41)])]),(ai 34)])) none (cu (ai 16) (ah (.int 0)))
noncomputable def Na (aO n:Nat):eY:=[(10,.ref aO),(41,.int 0),(34,.int n)]
theorem Dj (aO n:Nat)(U:bw):hJ [.ref aO,.int 0,.int n] U=dB (aL (fw Xq (kq 4) bF) (cn (j3 TS gI)) (Na aO n) U):=rfl
theorem Dk {v:Int}(hg:lW aO U)(e:dS [.ref aO,.int 0,.int n] U=.ok (.int v) bB):Xq (Na aO n) U=.ok (decide (v > 10000)) bB:=by
 obtain⟨x,y,z,hg⟩:=hg;exact(dD ((jl hg (λ_ _ _=>rfl) rfl rfl).trans e) rfl rfl).1
theorem t7 {v:Int}(hg:lW aO U)(e:dS [.ref aO,.int 0,.int n] U=.ok (.int v) bB)(hm:v > 10000):hJ [.ref aO,.int 0,.int n] U=.exc 4 bB:=by
 refine rl (Dj ..) ?_;unfold aL;exact rl (fQ (Dk hg e))<|rl (bN hm) rfl
theorem Fd (C:hX aO kd L ls P)(hg:lW aO U)(e:dS [.ref aO,.int 0,.int n] U=.ok (.int (fo L n 1:Nat)) (P bA++J))(I1:d7 L bA)(hm:fo L n 1<=10000)(hc:LX ls n=true):fk (λaJ=>d7 L aJ) (λaJ=>hJ [.ref aO,.int 0,.int n] U=.ok (.list (kQ ls n)) (P aJ++J)):=by
 have e1:=Dk hg e;rw[cH (Vw ‹_›)] at e1;unfold LX at hc;rw[(C []).hL] at hc
 cases hs:LU L ls 30 1 n with
 |none=>rw[hs] at hc;injection hc
 |some l=>
  rw[hs] at hc;obtain⟨_,_,_,hsp⟩:=Fb C 30 1 n l hs;obtain⟨du,I2,e2⟩:=hsp bA J I1;obtain⟨hc,c4⟩:=cK hc;obtain⟨hc,c3⟩:=cK hc;obtain⟨c1,c2⟩:=cK hc;have c3:=Nat.blt_eq.mp c3;rw[Di c1] at e2;generalize Fc l=ts at c1 c2 c3 c4 e2;have el:TS (Na aO n) (P bA++J)=.ok (.list (ts.map aQ)) (P du++J):=by
   have ei:bl (aw 1 63 (gj 30) (ai 10) [(bj [(aw 3 25 bP (bc 1 53 (ai 10)) [(ai 41)])]),(ai 34)]) (Na aO n) (P bA++J)=.ok (ts.map λt=>.tup [aQ t]) (P du++J):=by
    have eh:=pT (C J) (fr:=Na aO n) (ay:=bA) (i:=41) (c:=0) rfl rfl ((C J).wc bA);unfold bl;rw[ME.bind,jm (C J) (λ_ _ _=>rfl) rfl (o4 eh) (ao rfl),show [V.int 0]=ef 1 from rfl,e2];show Res.ok (bD (ts.map λt=>[aQ t])) _=_;unfold bD;exact rl List.map_map rfl
   unfold TS bO;exact rl ei<|rl (aC ..)<|rl (zY (λt=>.tup [aQ t]) aQ ts [] (λt _=>⟨_,rfl,rJ (ao (cV _ _ _))⟩) (by rw[List.length_nil];exact Vi c3)) rfl
  have ek:=IV (U:=P du++J) ts [] λt ht=>by
   obtain⟨h1,h2⟩:=cK (List.all_eq_true.mp c2 t ht);exact⟨h1,Nat.blt_eq.mp h2⟩
  rw[List.nil_append] at ek
  cases hp:lL (ts.map EZ) with
  |none=>rw[hp] at c4;injection c4
  |some p=>
   rw[hp] at c4;have c4:=Di c4;have es:j3 TS gI (Na aO n) (P bA++J)=.ok (.list (kQ ls n)) (P du++J):=by
    refine(bL el).trans ?_;show tn gI (ts.map aQ) (P du++J)=_;refine(aA (by exact rl (cL ..)<|c3)).trans ?_;refine rl ek<|rl (aC ..)<|rl hp ?_
    show Res.ok (V.list (p.map λi=>(ts.map aQ).getD i .none)) _=_;exact rl c4 rfl
   refine⟨du,I2,?_⟩;have e0:fw Xq (kq 4) bF (Na aO n) U=.next (Na aO n) (P bA++J):=by exact(fQ e1).trans rfl
   exact rl (Dj ..)<|rl (aK e0)<|rD (ir es)
end
noncomputable abbrev kV (t n:Int):V:=.tup [.int t,.int n]
def xN (L:Nat)(n t:Nat)(D:List (V×V)):Option (List (V×V)):=match (cT D (kV ((t:Int)+1) ((n:Int) - 1))).getD (.int 0),(cT D (kV ((t:Int) - 1) ((n:Int) - 1))).getD (.int 0) with
 |.int a,.int b=>if D.length<900 then some (hV D (kV t n) (.int ((L:Int) * b+a))) else none
 |_,_=>none
noncomputable def B5 (L n:Nat):List Nat->List (V×V)->Option (List (V×V))
 |[],D=>some D
 |i::is,D=>(xN L n (i+1) D).bind (B5 L n is)
noncomputable def pX (L:Nat):List Nat->List (V×V)->Option (List (V×V))
 |[],D=>some D
 |i::is,D=>(B5 L (i+1) (List.range 12) D).bind (pX L is)
def FD (L:Nat):List (V×V):=(pX L (List.range 11) [(kV 0 0,.int 1)]).getD []
theorem B6 :∀L∈[1,2,3],(pX L (List.range 11) [(kV 0 0,.int 1)]).isSome=true/\(∀n<12,∀t<13,(cT (FD L) (kV (t:Nat) (n:Nat))).getD (.int 0)=.int (fo L n t:Nat))/\∀n<12,1<=n->cT (FD L) (kV 1 (n:Nat))=some (.int (fo L n 1:Nat)):=by decide +kernel
theorem Sw (L:Nat)(h:L∈[1,2,3]):pX L (List.range 11) [(kV 0 0,.int 1)]=some (FD L):=by
 unfold FD;have e:=(B6 L h).1
 cases q:pX L (List.range 11) [(kV 0 0,.int 1)] with
 |none=>rw[q] at e;injection e
 |some D=>rfl
theorem Pl (L:Nat)(h:L∈[1,2,3]) :∀n<12,∀t<13,(cT (FD L) (kV (t:Nat) (n:Nat))).getD (.int 0)=.int (fo L n t:Nat):=(B6 L h).2.1
theorem IW (L:Nat)(h:L∈[1,2,3]) :∀n<12,1<=n->cT (FD L) (kV 1 (n:Nat))=some (.int (fo L n 1:Nat)):=(B6 L h).2.2
theorem IX {f:Nat}{e:ME V}{D:List (V×V)}{a b:Int}(hf:fr.lookup i=some (.ref f))(hF:U[f]? = some (O.dict .tup D))(he:e fr U=.ok (kV a b) U):ip ic pD (ai i) [e,(ah (.int 0))] fr U=.ok ((cT D (kV a b)).getD (.int 0)) U:=by
 have hd:gi U (.ref f)=some (f,.tup,D):=by unfold gi;dsimp only;rw[hF]
 have hi:ic U (.ref f)=true:=by unfold ic;rw[hd];rfl
 have hg:pD (.ref f) [kV a b,.int 0] U=some ((cT D (kV a b)).getD (.int 0),U):=by
  unfold pD vG;rw[hd];show(if DK.tup=.tup/\fu .tup (kV a b)=true then some ((cT D (kV a b)).getD (.int 0),U) else Option.none)=_;rw[aA ⟨rfl,rfl⟩]
 unfold ip;refine(bL (ao hf)).trans ((aA hi).trans ?_);unfold aS aS aS;rw[ME.bind,ME.bind,he,aC];show(match pD (.ref f) [kV a b,.int 0] U with |some (r,bB)=>Res.ok r bB |Option.none=>Res.stuck)=_
 rw[hg]
def lY (op:Operator):ME V:=ip ic pD (ai 2) [(bj [(aU op (ai 73) (ah (.int 1))),(aU .Sub (ai 9) (ah (.int 1)))]),(ah (.int 0))]
def B7:MS:=aL (aB (az 72) (lY .Add)) (eR (ai 2) (bj [(ai 73),(ai 9)]) (aU .Add (aU .Mult (ai 74) (lY .Sub)) (ai 72)))
theorem IY {t:Nat}{D D':List (V×V)}(h2:fr.lookup 2=some (.ref U.length))(Pd:fr.lookup 73=some (.int t))(h9:fr.lookup 9=some (.int n))(LY:fr.lookup 74=some (.int L))(hL:L<=3)(h:xN L n t D=some D') :
  fk (λbC=>fM [72] fr bC) (λbC=>B7 fr (U++[O.dict .tup D])=.next bC (U++[O.dict .tup D'])):=by
 unfold xN at h
 cases ha :(cT D (kV ((t:Int)+1) ((n:Int) - 1))).getD (.int 0) with
 |int a=>
  rw[ha] at h
  cases hb :(cT D (kV ((t:Int) - 1) ((n:Int) - 1))).getD (.int 0) with
  |int b=>
   rw[hb] at h;dsimp only at h;by_cases hz:D.length<900
   .replace h:=(aA hz).symm.trans h
    injection h with h;subst h;have K0:fM [72] fr (aE fr 72 (.int a)):=.set _ _ (.head _);have Zi:=cV fr 72 (.int a);have s1:aB (az 72) (lY .Add) fr (U++[O.dict .tup D])=.next (aE fr 72 (.int a)) (U++[O.dict .tup D]):=by
     unfold aB ct lY;rw[IX h2 (f7 _ _) (gM ((bk (op:=.Add) (ao Pd) rfl).trans rfl) ((bk (ao h9) rfl).trans rfl)),ha];rfl
    generalize aE fr 72 (.int a)=cz at K0 Zi s1;have e1:lY .Sub cz (U++[O.dict .tup D])=.ok (.int b) (U++[O.dict .tup D]):=by
     unfold lY;refine(IX (K0.at h2 (by decide)) (f7 _ _) (gM ((bk (op:=.Sub) (ao (K0.at Pd (by decide))) rfl).trans rfl) ((bk (ao (K0.at h9 (by decide))) rfl).trans rfl))).trans ?_;rw[hb]
    have e2:aU .Mult (ai 74) (lY .Sub) cz (U++[O.dict .tup D])=.ok (.int ((L:Int) * b)) (U++[O.dict .tup D]):=by
     refine(bk (ao (K0.at LY (by decide))) e1).trans ?_;show(if (L:Int).natAbs<2 ^ 64\/b.natAbs<2 ^ 64 then Res.ok (V.int ((L:Int) * b)) _ else Res.stuck)=_;rw[aA (.inl (by rw[Int.natAbs_natCast];exact q2 ‹_› (by rfl)))]
    have e3:aU .Add (aU .Mult (ai 74) (lY .Sub)) (ai 72) cz (U++[O.dict .tup D])=.ok (.int ((L:Int) * b+a)) (U++[O.dict .tup D]):=(bk e2 (ao Zi)).trans rfl;have e4:=gM (ao (U:=U++[O.dict .tup D]) (K0.at Pd (by decide))) (ao (K0.at h9 (by decide)));refine⟨cz,K0,?_⟩;have es:g7 (.ref U.length) (kV t n) (.int ((L:Int) * b+a)) (U++[O.dict .tup D])=some (U++[O.dict .tup (hV D (kV t n) (.int ((L:Int) * b+a)))]):=by
     have ez:cD D.length=true:=bN (q4 ‹_› (by rfl));unfold g7;dsimp only;rw[f7];show(if fu .tup (kV t n)&&cD D.length then some ((U++[O.dict .tup D]).set U.length (O.dict .tup (hV D (kV t n) (.int ((L:Int) * b+a))))) else Option.none)=_;rw[ez,mq];rfl
    unfold B7;refine(aK s1).trans ?_;unfold eR ct;rw[e3];dsimp only;rw[ao (K0.at h2 (by decide))];dsimp only;rw[e4];dsimp only;rw[es]
   .replace h:=(ax hz).symm.trans h;injection h
  |_=>rw[hb] at h;injection h
 |_=>rw[ha] at h;injection h
theorem LZ (hL:L<=3) :∀(is:List Nat) (D D':List (V×V)) (fr:eY),fr.lookup 2=some (.ref U.length)->fr.lookup 9=some (.int n)->fr.lookup 74=some (.int L)->B5 L n is D=some D'->
  fk (λbC=>fM [72,73] fr bC) (λbC=>dJ (az 73) B7 (is.map kW) fr (U++[O.dict .tup D])=.next bC (U++[O.dict .tup D'])):=by
 intro y
 induction y with
 |nil=>
  intro D D' fr _ _ _ h;injection h with h;subst h;exact⟨fr,.refl,rfl⟩
 |cons i is ih=>
  intro D D' fr h2 h9 LY h;obtain⟨D1,q,h⟩:=Option.bind_eq_some_iff.mp h;have K0:fM [72,73] fr (aE fr 73 (kW i)):=.set _ _ (by decide);obtain⟨cz,K1,e1⟩:=IY (U:=U) (K0.at h2 (by decide)) (cV _ _ _) (K0.at h9 (by decide)) (K0.at LY (by decide)) hL q;have K2:=K0.trans (K1.more (by decide));obtain⟨cG,K3,e2⟩:=ih D1 D' cz (K2.at h2 (by decide)) (K2.at h9 (by decide)) (K2.at LY (by decide)) h;exact⟨cG,K2.trans K3,(dH rfl e1).trans e2⟩
def B8 (k:Nat):ME (List V):=iZ (ah (.int 1)) (aU .Add (ai 75) (ah (.int k)))
theorem Dl (h:fr.lookup 75=some (.int 11))(hk:k<9):B8 k fr U=.ok ((List.range (10+k)).map kW) U:=by
 have e:aU .Add (ai 75) (ah (.int k)) fr U=.ok (.int (11+k)) U:=(bk (ao h) rfl).trans rfl;have er:d9 1 (11+k) 1 =(List.range (10+k)).map kW:=by
  rw[oR,show(11+(k:Int) - 1).toNat=10+k by exact Us];refine List.map_congr_left λi _=>?_;unfold kW;rw[show 1+(i:Int) * 1 =((i+1:Nat):Int) by exact SR]
 rw[<- er];exact pR rfl e rfl (bN (by exact Uy hk))
theorem L0 (hL:L<=3) :∀(is:List Nat) (D D':List (V×V)) (fr:eY),fr.lookup 2=some (.ref U.length)->fr.lookup 75=some (.int 11)->fr.lookup 74=some (.int L)->pX L is D=some D'->
  fk (λbC=>fM [72,73,9] fr bC) (λbC=>dJ (az 9) (df (az 73) (B8 2) B7) (is.map kW) fr (U++[O.dict .tup D])=.next bC (U++[O.dict .tup D'])):=by
 intro y
 induction y with
 |nil=>
  intro D D' fr _ _ _ h;injection h with h;subst h;exact⟨fr,.refl,rfl⟩
 |cons i is ih=>
  intro D D' fr h2 Zj LY h;obtain⟨D1,q,h⟩:=Option.bind_eq_some_iff.mp h;have K0:fM [72,73,9] fr (aE fr 9 (kW i)):=.set _ _ (by decide);obtain⟨cz,K1,e1⟩:=LZ (U:=U) hL (List.range 12) D D1 (aE fr 9 (kW i)) (K0.at h2 (by decide)) (cV _ _ _) (K0.at LY (by decide)) q;have er:df (az 73) (B8 2) B7 (aE fr 9 (kW i)) (U++[O.dict .tup D])=.next cz (U++[O.dict .tup D1]):=by
   exact iu (Dl (k:=2) (K0.at Zj (by decide)) (by decide)) e1
  have K2:=K0.trans (K1.more (by decide));obtain⟨cG,K3,e2⟩:=ih D1 D' cz (K2.at h2 (by decide)) (K2.at Zj (by decide)) (K2.at LY (by decide)) h;exact⟨cG,K2.trans K3,(dH rfl er).trans e2⟩
theorem t8 (hL:L∈[1,2,3]):gW [.int L,.int 11] U=.ok (.ref U.length) (U++[O.dict .tup (FD L)]):=by
 have Ky:L<=3:=by revert L;decide
 obtain⟨bC,K,e⟩:=L0 (U:=U) Ky (List.range 11) _ _ [(2,.ref U.length),(74,.int L),(75,.int 11)] rfl rfl rfl (Sw L hL);have s1:aB (az 2) (xn (bj [(ah (.int 0)),(ah (.int 0))]) (ah (.int 1))) [(74,.int L),(75,.int 11)] U=.next [(2,.ref U.length),(74,.int L),(75,.int 11)] (U++[O.dict .tup [(kV 0 0,.int 1)]]):=by
  have ep:Ha U.length (kV 0 0) (.int 1) (U++[O.dict .tup []])=some (U++[O.dict .tup [(kV 0 0,.int 1)]]):=by
   have hd:gi (U++[O.dict .tup []]) (.ref U.length)=some (U.length,.tup,[]):=by unfold gi;dsimp only;rw[f7]
   unfold Ha;rw[hd];show some ((U++[O.dict .tup []]).set U.length (O.dict .tup [(kV 0 0,.int 1)]))=_;rw[mq]
  have ed:xn (bj [(ah (.int 0)),(ah (.int 0))]) (ah (.int 1)) [(74,.int L),(75,.int 11)] U=.ok (.ref U.length) (U++[O.dict .tup [(kV 0 0,.int 1)]]):=by
   show(match Ha U.length (kV 0 0) (.int 1) (U++[O.dict .tup []]) with |some bB=>Res.ok (V.ref U.length) bB |Option.none=>Res.stuck)=_
   rw[ep]
  exact dT ed
 have s2:df (az 9) (B8 1) (df (az 73) (B8 2) B7) [(2,.ref U.length),(74,.int L),(75,.int 11)] (U++[O.dict .tup [(kV 0 0,.int 1)]])=.next bC (U++[O.dict .tup (FD L)]):=by
  exact iu (Dl (k:=1) rfl (by decide)) e
 show dB (aL _ (aL (df (az 9) (B8 1) (df (az 73) (B8 2) B7)) (cn (ai 2))) [(74,.int L),(75,.int 11)] U)=_;rw[aK s1,aK s2];exact rD (ir (ao (K.at rfl (by decide))))
noncomputable def fC (js:List Int)(c:Int):O:=.list [.list (js.map .int),.int c]
def Zk:MS:=(eR (ai 71) (ah (.int 1)) (aU .Add (cu (ai 71) (ah (.int 1))) (ah (.int 1))))
def TU:ME Bool:=(bx .LtE (cu (ai 71) (ah (.int 1))) (bT .len [(cu (ai 71) (ah (.int 0)))]))
def Sx:ME V:=(cu (cu (ai 71) (ah (.int 0))) (aU .Sub (cu (ai 71) (ah (.int 1))) (ah (.int 1))))
def Zl:ME V:=(aU .FloorDiv (aU .Add (aU .Add (aU .Add (aU .Mult (aU .Mult (ah (.int 6)) (cu (ai 71) (ah (.int 1)))) (cu (ai 71) (ah (.int 1)))) (aU .Mult (ah (.int 7)) (cu (ai 71) (ah (.int 1))))) (ah (.int 5))) (aU .Mult (ah (.int 3)) (bT .len [(cu (ai 71) (ah (.int 0)))]))) (ah (.int 4)))
theorem IZ {f g:ME V}{a m:Int}(hf:f fr U=.ok (.int a) U)(hg:g fr U=.ok (.int m) U)(h0:0<m)(h1:m<1000000):OZ (λ(r:Int)=>0<=r) (λ(r:Int)=>r<m) (λ(r:Int)=>aU .Mod f g fr U=.ok (.int r) U):=by
 refine⟨a.fmod m,Int.fmod_nonneg_of_pos _ h0,Int.fmod_lt_of_pos _ h0,(bk hf hg).trans ?_⟩;show(if m≠0/\m.natAbs<2 ^ 30 then Res.ok (V.int (a.fmod m)) U else Res.stuck)=_;exact rl (aA ⟨by exact Ne.symm (Int.ne_of_lt h0),by exact U4 h0 h1⟩) rfl
theorem I0 {m:Int}(hj:js.length<=40)(hc:c<1000)(h0:0<m)(h1:m<1000000)(U:bw):OZ (λ(r:Int)=>0<=r) (λ(r:Int)=>r<m) (λ(r:Int)=>jx [.ref 0,.int m] (fC js c::U)=.ok (.int r) (fC js (c+1:Nat)::U)):=by
 have s0:Zk [(71,.ref 0),(50,.int m)] (fC js c::U)=.next [(71,.ref 0),(50,.int m)] (fC js (c+1:Nat)::U):=rfl;have e1:cu (ai 71) (ah (.int 1)) [(71,.ref 0),(50,.int m)] (fC js (c+1:Nat)::U)=.ok (.int (c+1:Nat)) (fC js (c+1:Nat)::U):=rfl;have e0:cu (ai 71) (ah (.int 0)) [(71,.ref 0),(50,.int m)] (fC js (c+1:Nat)::U)=.ok (.list (js.map .int)) (fC js (c+1:Nat)::U):=rfl;have el:bT .len [(cu (ai 71) (ah (.int 0)))] [(71,.ref 0),(50,.int m)] (fC js (c+1:Nat)::U)=.ok (.int js.length) (fC js (c+1:Nat)::U):=by
  refine((lV e0 (by rw[cL];exact q2 ‹_› (by rfl))).2).trans ?_;rw[cL]
 have et:TU [(71,.ref 0),(50,.int m)] (fC js (c+1:Nat)::U)=.ok (decide (((c+1:Nat):Int)<=js.length)) (fC js (c+1:Nat)::U):=(dD e1 el rfl).1;have em:ai 50 [(71,.ref 0),(50,.int m)] (fC js (c+1:Nat)::U)=.ok (.int m) (fC js (c+1:Nat)::U):=rfl;have call:jx [.ref 0,.int m] (fC js c::U)=dB (aL Zk (aL (fw TU (cn (aU .Mod Sx (ai 50))) bF) (cn (aU .Mod Zl (ai 50)))) [(71,.ref 0),(50,.int m)] (fC js c::U)):=rfl;rw[call,aK s0];by_cases h:c+1<=js.length
 .have e2:Sx [(71,.ref 0),(50,.int m)] (fC js (c+1:Nat)::U)=.ok (.int js[c]) (fC js (c+1:Nat)::U):=by
   have e3:aU .Sub (cu (ai 71) (ah (.int 1))) (ah (.int 1)) [(71,.ref 0),(50,.int m)] (fC js (c+1:Nat)::U)=.ok (.int c) (fC js (c+1:Nat)::U):=by
    refine(bk e1 rfl).trans ?_;show Res.ok (V.int (((c+1:Nat):Int) - 1)) _=_;rw[show((c+1:Nat):Int) - 1=c by exact Z2]
   have en:mB (.list (js.map .int)) (.int c) (fC js (c+1:Nat)::U)=some (.int js[c]):=by
    show(if decide ((c:Int).natAbs<1000000000) then ui (js.map .int) c else .none)=_;rw[bN (by exact UD hc),aA rfl,Lo (by exact Int.natCast_nonneg c) (by exact Int.ofNat_lt.mpr h)];rfl
   unfold Sx cu;rw[ME.bind];unfold cu at e0;rw[e0,aC,ME.bind];unfold cu at e3;exact rl e3<|rl (aC ..)<|rl en rfl
  obtain⟨r,r0,r1,e⟩:=IZ e2 em h0 h1;refine⟨r,r0,r1,?_⟩;have s1:fw TU (cn (aU .Mod Sx (ai 50))) bF [(71,.ref 0),(50,.int m)] (fC js (c+1:Nat)::U)=.ret (.int r) (fC js (c+1:Nat)::U):=by
   refine(nD et (bN (by exact Int.ofNat_le.mpr h))).trans ?_;exact ir e
  exact rl (rC s1) rfl
 .have s1:fw TU (cn (aU .Mod Sx (ai 50))) bF [(71,.ref 0),(50,.int m)] (fC js (c+1:Nat)::U)=.next [(71,.ref 0),(50,.int m)] (fC js (c+1:Nat)::U):=by
   exact(qu et (cH (SS ‹_›))).trans rfl
  have e3 :∃a,Zl [(71,.ref 0),(50,.int m)] (fC js (c+1:Nat)::U)=.ok (.int a) (fC js (c+1:Nat)::U):=by
   have m1:=oV (f:=ah (.int 6)) rfl e1 (by decide);have m2:=oV m1 e1 (by exact U5 hc);have m3:=oV (f:=ah (.int 7)) rfl e1 (by decide);have m4:=oV (f:=ah (.int 3)) rfl el (by decide);exact⟨_,(bk ((bk ((bk ((bk m2 m3).trans rfl) rfl).trans rfl) m4).trans rfl) rfl).trans rfl⟩
  obtain⟨a,e3⟩:=e3;obtain⟨r,r0,r1,e⟩:=IZ e3 em h0 h1;refine⟨r,r0,r1,?_⟩;exact rl (aK s1)<|rD (ir e)
structure Ag (aO f L:Nat)(P:List (V×V)->bw)(J U:bw):Prop where
 get:lW aO U
 PY :∀s:Int,s<=200->fk (λay=>d7 L ay) (λay=>d6 [.ref aO,.int s] U=.ok .none (P ay++J))
 Xr:U[f]? = some (.dict .tup (FD L))
theorem t9 :∀t:T,(∀x∈t.pre,x<1000)->V.plain (aQ t)=true/\V.depth (aQ t)<=t.pre.length:=by
 intro y
 induction y with
 |leaf l=>
  intro h;refine⟨?_,Nat.le_refl _⟩;show((decide (l<0x110000)&&true)&&true)=true;exact rl (bN (by have:=h l (.head _);exact q1 ‹_› (by rfl))) rfl
 |node a b wh p5=>
  intro h;have e :(T.node a b).pre.length=a.pre.length+b.pre.length+1:=by simp[T.pre]
  obtain⟨a1,a2⟩:=wh λx hx=>h x (.tail _ (List.mem_append.mpr (.inl hx)));obtain⟨b1,b2⟩:=p5 λx hx=>h x (.tail _ (List.mem_append.mpr (.inr hx)));refine⟨?_,?_⟩
  .show(true&&(V.plain (aQ a)&&(V.plain (aQ b)&&true)))=true
   exact rl a1<|rl b1 rfl
  .show max 0 (max (V.depth (aQ a)) (max (V.depth (aQ b)) 0))+1<=_
   exact UO e a2 b2
theorem mz (hb:v.bool? = none)(hf:flat U v=some v)(hd:V.depth v<=64):ig .NotEq v v U=some false:=by
 have e:JY v v U=some true:=by
  unfold JY;refine rl hf ?_;show(if decide (V.depth v<=64)&&decide (V.depth v<=64) then some (V.beq v v) else .none)=_;exact rl (bN hd)<|rl ((V.beq_iff v v).mpr rfl) rfl
 show(NC v v U).map (!·)=_;unfold NC;refine rl hb ?_;dsimp only;exact rl e rfl
theorem Fe {t:T}(hx :∀x∈t.pre,x<1000)(hl:t.pre.length<=60):ig .NotEq (aQ t) (aQ t) U=some false:=by
 obtain⟨h1,h2⟩:=t9 t hx
 cases t with
 |leaf l=>exact mz rfl (aA h1) (by exact Nat.le_of_ble_eq_true rfl)
 |node a b=>exact mz rfl (aA h1) (Yd ‹_› ‹_› (by rfl))
section
variable {aO f:Nat}
theorem pY (C:hX aO kd L ls P)(hf :∀ay J,(P ay++J)[f]? = some (.dict .tup (FD L)))(I:d7 L ay)(J:bw):Ag aO f L P J (P ay++J):=by
 obtain⟨mk,hg⟩:=(C J).get;exact⟨⟨_,_,_,hg ay⟩,λs hs=>⟨ay,I,(C J).PY ay s hs⟩,hf ay J⟩
theorem Dm (C:hX aO kd L ls P){c s v:Int}(hg:lW aO U)(hr:d6 [.ref aO,.int s] U=.ok .none (P ay++J))(hc:bP [.ref 1,.int c] (P ay++J)=.ok (.int c) (P ay++J))(h:d4 30 [.ref aO,.tup [.int c],.int s] (P ay++J)=.ok (.int v) (P aJ++J)) :
  dS [.ref aO,.int c,.int s] U=.ok (.int v) (P aJ++J):=by
 obtain⟨x,y,z,hg⟩:=hg;have e1:bM (aw 1 60 d6 (ai 10) [ai 34]) [(10,.ref aO),(41,.int c),(34,.int s)] U=.next [(10,.ref aO),(41,.int c),(34,.int s)] (P ay++J):=by
  exact oU ((jl hg (λ_ _ _=>rfl) rfl rfl).trans hr) rfl
 show dB (pL [(10,.ref aO),(41,.int c),(34,.int s)] U)=_;unfold pL;refine rl (aK e1) ?_;unfold cn ct;exact rl (Ih (C J) (r:=d4 30) (fr:=[(10,.ref aO),(41,.int c),(34,.int s)]) (ay:=ay) rfl rfl rfl hc)<|rl h rfl
theorem ki (C:hX aO kd L ls P)(R:Ag aO f L P J U)(hn:n<=12):fk (λaJ=>d7 L aJ) (λaJ=>dS [.ref aO,.int 0,.int n] U=.ok (.int (fo L n 1:Nat)) (P aJ++J)):=by
 obtain⟨ay,I,e⟩:=R.PY n (by lia);obtain⟨aJ,I',h⟩:=tY (C J) (u:=1) (n:=n) (by decide) hn I;exact⟨aJ,I',Dm C R.get e ((C J).wc ay) h⟩
theorem B9 (C:hX aO kd L ls P)(kU:ls∈iT)(R:Ag aO f L P J U){t:T}(hn:n<=11)(hk:k<fo L n 1)(hb:gm (aX ls n 1 k)=[t])(hp:t.pre=aX ls n 1 k):fk (λaJ=>d7 L aJ) (λaJ=>j8 [.ref aO,aQ t] U=.ok (.tup [.int n,.int k]) (P aJ++J)):=by
 obtain⟨ay,I,e⟩:=R.PY n (by lia);exact E7 C kU R.get e I hn hk hb hp
def toT:MS:=DY 4 (aB (az 2) (aw 1 80 hJ (ai 78) [(ai 41),(ai 79)])) λfr U=>.next (aE fr 2 .none) U
noncomputable def toF (aO n:Nat):eY:=[(2,.none),(78,.ref aO),(41,.int 0),(79,.int n)]
theorem L2 (C:hX aO kd L ls P)(R:Ag aO f L P J U)(hn:n<=11)(h :(fo L n 1<=60/\LX ls n=true)\/10000<fo L n 1) :
  fk (λaJ=>d7 L aJ) (λaJ=>nB [.ref aO,.int 0,.int n] U=.ok (if 10000<fo L n 1 then .none else .list (kQ ls n)) (P aJ++J)):=by
 obtain⟨ay,I,em⟩:=ki C R (n:=n) (by exact Nat.le_succ_of_le hn);have key :∀v bB,DY 4 (aB (az 2) (aw 1 80 hJ (ai 78) [(ai 41),(ai 79)])) (λfr U=>.next (aE fr 2 .none) U) (toF aO n) U=.next (aE (toF aO n) 2 v) bB->nB [.ref aO,.int 0,.int n] U=.ok v bB:=λv bB e=>by
  show dB (aL _ (aL toT (cn (ai 2))) [(78,.ref aO),(41,.int 0),(79,.int n)] U)=_;refine rl (aK (show aB (az 2) (ah .none) [(78,.ref aO),(41,.int 0),(79,.int n)] U=.next (toF aO n) U from rfl)) ?_;unfold toT;exact rl (aK e) rfl
 obtain⟨x,y,z,hg⟩:=R.get;have ec:aw 1 80 hJ (ai 78) [(ai 41),(ai 79)] (toF aO n) U=hJ [.ref aO,.int 0,.int n] U:=jl hg (λ_ _ _=>rfl) rfl rfl;rcases h with ⟨h1,h2⟩ |h1
 .obtain⟨aJ,I',e⟩:=Fd C R.get em I (q3 ‹_› (by rfl)) h2
  refine⟨aJ,I',key _ _ ?_⟩;refine rl (ax (Qq ‹_› (by rfl))) ?_;unfold DY aB ct;exact rl ec<|rl e rfl
 .refine⟨ay,I,key _ _ ?_⟩
  refine rl (aA h1) ?_;unfold DY aB ct;exact rl ec<|rl (t7 R.get em (by exact Int.lt_of_toNat_lt h1)) rfl
end
noncomputable def JE (aO:Nat)(lv:V)(n k w:Nat):eY:=[(78,.ref aO),(41,.int 0),(74,lv),(79,.int n),(49,.int k),(82,.int w)]
def af (aO:Nat)(lv:V)(n k w f m:Nat)(v:V):eY:=(81,v) ::(50,.int m) ::(77,.ref f)::JE aO lv n k w
theorem I4 {g:ME V}{a:V}(h:g fr U=.ok a bq):bW r [g] fr U=r [a] bq:=by simp only[bW,aS,ME.bind,h,aC,ah]
theorem I5 {f:Nat}{t:T}(hF:U[f]? = some (.dict .tup (FD ls.length)))(hL:ls.length∈[1,2,3])(hx :∀x∈ls,x<1000/\x≠112)(uQ :∀fr:eY,fr.lookup 74=some lv->pW fr U=.ok ((ls.map λx=>V.str [x])++[.str [112]]) U)(hk:k<fo ls.length n 1)(hn:n<=11)(hb:gm (aX ls n 1 k)=[t])(hp:t.pre=aX ls n 1 k)(LY:fr.lookup 74=some lv)(Xi:fr.lookup 77=some (.ref f))(Xs:fr.lookup 79=some (.int n))(hi:fr.lookup i=some (.int k)) :
  bW lU [(bW jy [(ai 74),(ai 77),(ai 79),(ai i)])] fr U=.ok (aQ t) U:=by
 have hM:112∉ls:=λz=>(hx 112 z).2 rfl;have DL:=j9 ls n 1 k;have e1:=Iv (n:=n) (k:=k) hF hx (λn t h1 h2=>Pl _ hL n (by exact Nat.lt_succ_of_le h1) t (by exact Nat.lt_succ_of_le h2)) uQ hk hn;have e2:=Lx (U:=U) hb (by rw[hp,DL];exact q2 ‹_› (by rfl)) (λs hs=>(mr n 1 k s hs).elim (λh=>(hx s h).1) (λh=>by exact Vu ‹_› (by rfl))) (by rw[DL];exact q2 ‹_› (by rfl)) (qr hM n 1 k hk);have e3:bW jy [(ai 74),(ai 77),(ai 79),(ai i)] fr U=.ok (.str (aX ls n 1 k)) U:=by
  rw[<- e1];unfold bW;simp only[ME.bind,aS,ao LY,ao Xi,ao Xs,ao hi,aC,ah]
 exact(I4 e3).trans e2
section
variable {aO f:Nat}
def I6:ME Bool:=bx .NotEq (aw 1 83 j8 (ai 78) [(ai 81)]) (bj [(ai 79),(ai 49)])
theorem Ff {a b:Int}:ig .NotEq (.tup [.int a,.int b]) (.tup [.int a,.int b]) U=some false:=mz rfl rfl (show 1<=64 by decide)
theorem Dn (C:hX aO kd L ls P)(kU:ls∈iT)(hf :∀ay J,(P ay++J)[f]? = some (.dict .tup (FD L)))(R:Ag aO f L P J U){t:T}(hn:n<=11)(hk:k<fo L n 1)(hb:gm (aX ls n 1 k)=[t])(hp:t.pre=aX ls n 1 k)(Nb:fr.lookup 78=some (.ref aO))(h81:fr.lookup 81=some (aQ t))(Xs:fr.lookup 79=some (.int n))(h49:fr.lookup 49=some (.int k)):fk (λbB=>Ag aO f L P J bB) (λbB=>I6 fr U=.ok false bB):=by
 obtain⟨ay,I,e⟩:=B9 C kU R hn hk hb hp;obtain⟨x,y,z,hg⟩:=R.get;refine⟨_,pY C hf I J,(dD ?_ (gM (ao Xs) (ao h49)) Ff).1⟩;rw[<- e];refine jl hg (λ_ _ _=>rfl) (ao Nb) ?_;unfold aS aS;rw[ME.bind,ao h81];rfl
theorem hO {m:Nat}{g1 g2 g3:ME V}{a b c:V}(hg:lW aO U)(hm :∀a b c:V,([(53,a),(54,b),(31,c)]:List (Nat×V)).lookup m=none)(Nb:fr.lookup 78=some (.ref aO))(h1:g1 fr U=.ok a U)(h2:g2 fr U=.ok b U)(h3:g3 fr U=.ok c U) :
  aw 1 m r (ai 78) [g1,g2] fr U=r [.ref aO,a,b] U/\aw 1 m r (ai 78) [g1,g2,g3] fr U=r [.ref aO,a,b,c] U:=by
 obtain⟨x,y,z,hg⟩:=hg;constructor
 .refine jl hg hm (ao Nb) ?_
  simp only[aS,ME.bind,h1,h2,aC,ah]
 .refine jl hg hm (ao Nb) ?_
  simp only[aS,ME.bind,h1,h2,h3,aC,ah]
theorem L4 (C:hX aO kd L ls P)(hf :∀ay J,(P ay++J)[f]? = some (.dict .tup (FD L)))(R:Ag aO f L P J U){k:Int}(hn:n<=12)(hk:k<0\/(fo L n 1:Int)<=k):fk (λbB=>Ag aO f L P J bB) (λbB=>iQ [.ref aO,.int 0,.int n,.int k] U=.ok .none bB):=by
 obtain⟨ay,I,e⟩:=ki C R hn;refine⟨_,?_,t4 R.get e hk⟩
 split
 .exact pY C hf I J
 .exact R
end
theorem or_false {a b:ME Bool}{X:MS}(h1:a fr U=.ok false bq)(h2:b fr bq=.ok false bS):fw (rT [a,b]) X bF fr U=.next fr bS:=by
 have:rT [a,b] fr U=.ok false bS:=by
  refine(bL h1).trans ?_;show rT [b] fr bq=_;unfold rT;rw[ME.bind,h2];rfl
 exact(fQ this).trans rfl
theorem Ca (m:Nat):d9 0 (m:Int) 1 =(List.range m).map λk:Nat=>V.int k:=by
 unfold d9;refine rl (rangeSize_one ..) ?_
 split
 .refine rl (show((m:Int) - 0).toNat=m by exact PyProof.Rows.lenZ m)<|List.map_congr_left λi _=>?_
  exact rl (show 0+(i:Int) * 1 =(i:Int) by lia) rfl
 .exact rl (show m=0 by exact q91 ‹_›) rfl
theorem Cb :∀{vs:List V},(∀v∈vs,V.plain v=true)->V.cS vs=true:=by
 intro y
 induction y with
 |nil=>
  intro _;exact rfl
 |cons v vs ih=>
  intro h;exact fD ⟨h v (.head _),ih λu hu=>h u (.tail _ hu)⟩
theorem Cc {d:Nat} :∀{vs:List V},(∀v∈vs,V.depth v<=d)->V.cv vs<=d:=by
 intro y
 induction y with
 |nil=>
  intro _;exact Nat.zero_le _
 |cons v vs ih=>
  intro h;exact Nat.max_le.mpr ⟨h v (.head _),ih λu hu=>h u (.tail _ hu)⟩
theorem xO (hM:112∉ls)(hk:k<fo ls.length n 1):gm (aX ls n 1 k)=[o5 ls n k]/\(o5 ls n k).pre=aX ls n 1 k:=by
 obtain⟨t,h1,h2⟩:=BM hM hk;unfold o5;exact rl h1<|⟨rfl,h2⟩
theorem Fg (hx :∀x∈ls,x<1000/\x≠112)(hn:n<=11):ig .NotEq (.list (kQ ls n)) (.list (kQ ls n)) U=some false:=by
 have hM:112∉ls:=λz=>(hx 112 z).2 rfl;have key :∀v∈kQ ls n,V.plain v=true/\V.depth v<=11:=λv hv=>by
  obtain⟨k,hk,rfl⟩:=dz hv;obtain⟨_,hp⟩:=xO hM (List.mem_range.mp hk);have hl:=j9 ls n 1 k;rw[<- hp] at hl;obtain⟨p1,p2⟩:=t9 (o5 ls n k) λx Ro=>(mr n 1 k x (hp▸Ro)).elim (λh=>(hx x h).1) (λh=>by exact Vu ‹_› (by rfl));exact⟨p1,by exact Vy ‹_› ‹_› ‹_›⟩
 refine mz rfl (aA (Cb λv hv=>(key v hv).1)) ?_;have:=Cc λv hv=>(key v hv).2;show V.cv (kQ ls n)+1<=64;exact q2 ‹_› (by rfl)
theorem ua {a:Int}:ig .NotEq (.int a) (.int a) U=some false:=mz rfl rfl (show 0<=64 by decide)
structure Xu (aO kd f L:Nat)(ls:List Nat)(P:List (V×V)->bw)(lv:V)(n k w:Nat):Prop where
 C:hX aO kd L ls P
 kU:ls∈iT
 hf :∀ay J,(P ay++J)[f]? = some (.dict .tup (FD L))
 hL:L∈[1,2,3]
 hlen :∀U,AQ .len [lv] U=some (.int L)
 uQ :∀(fr:eY) (U:bw),fr.lookup 74=some lv->pW fr U=.ok ((ls.map λx=>V.str [x])++[.str [112]]) U
 hn:1<=n/\n<=11
 hk:k<fo L n 1
 PO:fo L (n+1) 1=0
 hw:w=2->(fo L n 1<=60/\LX ls n=true)\/10000<fo L n 1
theorem xP (h:ls∈iT) :∀x∈ls,x<1000/\x≠112:=by revert ls;decide
section
variable {aO f:Nat}{w:Nat}
def Dp:MS:=(fw (bx .Eq (ai 82) (ah (.int 2))) (aL (aB (az 84) (bW nB [(ai 78),(ai 41),(ai 79)]))
 (fw (rT [(bx .NotEq (iE .Is (ai 84) (ah .none)) (iE .Gt (ai 50) (ah (.int 10000)))),(jE [(bx .LtE (ai 50) (ah (.int 60))),(bx .NotEq (ai 84) (bO [77,74,79] (az 4) (iY (ai 50)) none (bW lU [(bW jy [(ai 74),(ai 77),(ai 79),(ai 4)])])))])]) (cn (ah (.bool false))) bF)) bF)
theorem I8 (A:Xu aO kd f L ls P lv n k w)(R:Ag aO f L P [] U) :
  qR (λbB bC=>Ag aO f L P [] bB) (λbB bC=>fM [84] (af aO lv n k w f (fo L n 1) v) bC) (λbB bC=>Dp (af aO lv n k w f (fo L n 1) v) U=.next bC bB):=by
 have hL:=(A.C []).hL;have hx:=xP A.kU;have hM:112∉ls:=(A.C []).zQ;have e0:bx .Eq (ai 82) (ah (.int 2)) (af aO lv n k w f (fo L n 1) v) U=.ok (decide ((w:Int)=2)) U:=rfl;by_cases hw:w=2
 .have h2:=A.hw hw
  obtain⟨ay,I,e⟩:=L2 A.C R A.hn.2 h2;have ec:bW nB [(ai 78),(ai 41),(ai 79)] (af aO lv n k w f (fo L n 1) v) U=.ok (if 10000<fo L n 1 then .none else .list (kQ ls n)) (P ay++[]):=e;have R1:=pY A.C A.hf I [];refine⟨_,(84,if 10000<fo L n 1 then .none else .list (kQ ls n))::af aO lv n k w f (fo L n 1) v,R1,.set (fr:=af aO lv n k w f (fo L n 1) v) 84 _ (.head _),?_⟩;refine(nD e0 (bN (by exact Int.neg_inj.mp (aR Neg.neg (aR Nat.cast hw))))).trans ?_;have s1:aB (az 84) (bW nB [(ai 78),(ai 41),(ai 79)]) (af aO lv n k w f (fo L n 1) v) U=.next ((84,if 10000<fo L n 1 then .none else .list (kQ ls n))::af aO lv n k w f (fo L n 1) v) (P ay++[]):=by
   exact dT ec
  refine(aK s1).trans ?_;have g1 :∀u,iE .Gt (ai 50) (ah (.int 10000)) ((84,u)::af aO lv n k w f (fo L n 1) v) (P ay++[])=.ok (.bool (decide ((fo L n 1:Int) > 10000))) (P ay++[]):=λ_=>rfl;have g2 :∀u,bx .LtE (ai 50) (ah (.int 60)) ((84,u)::af aO lv n k w f (fo L n 1) v) (P ay++[])=.ok (decide ((fo L n 1:Int)<=60)) (P ay++[]):=λ_=>rfl;by_cases h:10000<fo L n 1
  .refine rl (aA h)<|or_false (bq:=P ay++[]) (dD rfl (g1 _) ?_).1 (rI ((g2 _).trans (by exact rl (cH (by lia)) rfl)))
   exact rl (bN (by exact Int.lt_of_toNat_lt h)) rfl
  .refine rl (ax h) ?_
   have hm:fo L n 1<=60:=(h2.resolve_right h).1;refine or_false (bq:=P ay++[]) (dD (a:=.bool false) rfl (g1 _) ?_).1 (rG ((g2 _).trans (by exact rl (bN (by exact Nat.ToInt.of_le rfl rfl hm)) rfl)) (dD rfl (bS:=P ay++[]) ?_ (Fg hx A.hn.2)).1)
   .exact rl (cH (SS ‹_›)) rfl
   .unfold kQ
    refine rl hL<|gx (λk:Nat=>.int k) (λk=>aQ (o5 ls n k)) (List.range (fo L n 1)) ?_ (λj hj=>?_) (by refine rl List.length_range ?_;exact q2 ‹_› (by rfl))
    .exact rr (Ca ..)<|pQ (b:=((fo L n 1:Nat):Int)) rfl (bN (by exact Ux hm))
    .have hj:=List.mem_range.mp hj
     obtain⟨b1,b2⟩:=xO hM (n:=n) (k:=j) (by exact rl hL<|hj)
     exact⟨_,rfl,I5 (i:=4) (f:=f) (lv:=lv) (by exact rl hL<|R1.Xr) (by exact rl hL<|A.hL) hx (λfr=>A.uQ fr _) (by exact rl hL<|hj) A.hn.2 b1 b2 rfl rfl rfl rfl⟩
 .refine⟨U,_,R,.refl,?_⟩
  exact(qu e0 (cH (by exact Nat.ToInt.of_diseq rfl rfl hw))).trans rfl
end
def a1:MS:=(aB (az 77) (bW gW [(bT .len [(ai 74)]),(ah (.int 11))]))
def a2:MS:=(aB (az 50) (cu (ai 77) (bj [(ah (.int 1)),(ai 79)])))
def a3:MS:=(aB (az 81) (bW lU [(bW jy [(ai 74),(ai 77),(ai 79),(ai 49)])]))
def a4:MS:=(fw (jE [(bx .Eq (ai 82) (ah (.int 1))),I6]) (cn (ah (.bool false))) bF)
def a6:MS:=(fw (rT [(bx .NotEq (aw 1 85 iQ (ai 78) [(ai 41),(ai 79),(ai 49)]) (ai 81)),I6]) (cn (ah (.bool false))) bF)
def a7:MS:=(fw (rT [(bx .NotEq (aw 1 50 dS (ai 78) [(ai 41),(ai 79)]) (ai 50)),(bx .NotEq (aw 1 50 dS (ai 78) [(ai 41),(aU .Add (ai 79) (ah (.int 1)))]) (ah (.int 0)))]) (cn (ah (.bool false))) bF)
def Pm:ME (List V):=(bl (bj [(gY (ah (.int 1))),(gY (ah (.int 2))),(gY (ai 50)),(aU .Sub (gY (ai 50)) (ah (.int 5))),(ai 50),(aU .Add (ai 50) (ah (.int 7)))]))
def a8:MS:=(aB (az 86) (bO [41,78,79] (az 4) Pm none (aw 1 85 iQ (ai 78) [(ai 41),(ai 79),(ai 4)])))
def a9:MS:=(cn (uY (iE .Eq (bO [] (az 62) (bl (ai 86)) (some (bx .IsNot (ai 62) (ah .none))) (ai 62)) (cZ [])) (iE .Is (aw 1 85 iQ (ai 78) [(ai 41),(ah (.int 0)),(ah (.int 0))]) (ah .none))))
theorem L6 {f g:ME V}(hf:f fr U=.ok (.bool true) bq)(hg:g fr bq=.ok v bS):uY f g fr U=.ok v bS:=by unfold uY;rw[ME.bind,hf];exact hg
theorem Cd (aO n k w:Nat)(lv:V)(U:bw):kE [.ref aO,.int 0,lv,.int n,.int k,.int w] U=dB (aL a1 (aL a2 (aL a3 (aL a4 (aL Dp (aL a6 (aL a7 (aL a8 a9))))))) (JE aO lv n k w) U):=rfl
section
variable {aO f:Nat}{w:Nat}
theorem I9 (A:Xu aO kd f L ls P lv n k w)(hf:xT.length=f)(R:Ag aO f L P [] (xT++[O.dict .tup (FD L)])):fk (λaJ=>d7 L aJ) (λaJ=>kE [.ref aO,.int 0,lv,.int n,.int k,.int w] xT=.ok (.bool true) (P aJ++[.list (gQ (aX ls n 1 k))])):=by
 have hL:=(A.C []).hL;have hx:=xP A.kU;have hM:112∉ls:=(A.C []).zQ;obtain⟨A3,hn⟩:=A.hn;obtain⟨hb,hp⟩:=xO hM (n:=n) (k:=k) (by exact rl hL<|A.hk)
 have yi :(o5 ls n k).pre.length=n:=by exact rl hp<|rl (j9 ..) rfl
 have Zn :∀x∈(o5 ls n k).pre,x<1000:=λx Ro=>(mr n 1 k x (hp▸Ro)).elim (λh=>(hx x h).1) (λh=>by exact Vu ‹_› (by rfl));generalize o5 ls n k=t at hb hp yi Zn;generalize Xv:xT++[O.dict .tup (FD L)]=bq at R;refine rl (Cd ..) ?_;have s1:a1 (JE aO lv n k w) xT=.next ((77,.ref f)::JE aO lv n k w) bq:=by
  have e0:bT .len [(ai 74)] (JE aO lv n k w) xT=.ok (.int L) xT:=by
   unfold bT aS aS;rw[ME.bind,ME.bind,ao rfl];show Res.cN (AQ .len [lv] xT) xT=_;exact rl (A.hlen ..) rfl
  have e1:bW gW [(bT .len [(ai 74)]),(ah (.int 11))] (JE aO lv n k w) xT=.ok (.ref f) bq:=by
   refine rr Xv<|rr hf<|rr (t8 A.hL) ?_
   simp only[bW,aS,ME.bind,e0,aC,ah]
  exact dT e1
 have s2:a2 ((77,.ref f)::JE aO lv n k w) bq=.next ((50,.int (fo L n 1:Nat)) ::(77,.ref f)::JE aO lv n k w) bq:=by
  have ei:mB (.ref f) (kV 1 n) bq=some (.int (fo L n 1:Nat)):=by
   unfold mB;dsimp only;refine rl R.Xr ?_;show(if fu .tup (kV 1 n) then cT (FD L) (kV 1 n) else .none)=_;exact rl (aA (show fu .tup (kV 1 n)=true from rfl))<|rl (IW L A.hL n (by exact Nat.lt_succ_of_le hn) A3) rfl
  unfold a2 aB ct;have:cu (ai 77) (bj [(ah (.int 1)),(ai 79)]) ((77,.ref f)::JE aO lv n k w) bq=.ok (.int (fo L n 1:Nat)) bq:=by
   show Res.cN (mB (.ref f) (kV 1 n) bq) bq=_;exact rl ei rfl
  exact rl this rfl
 have s3:a3 ((50,.int (fo L n 1:Nat)) ::(77,.ref f)::JE aO lv n k w) bq=.next (af aO lv n k w f (fo L n 1) (aQ t)) bq:=by
  exact dT (I5 (i:=49) (f:=f) (lv:=lv) (by exact rl hL<|R.Xr) (by exact rl hL<|A.hL) hx (λfr=>A.uQ fr _) (by exact rl hL<|A.hk) hn hb hp rfl rfl rfl rfl)
 refine rl (aK s1)<|rl (aK s2)<|rl (aK s3) ?_
 have s4:fk (λbS=>Ag aO f L P [] bS) (λbS=>a4 (af aO lv n k w f (fo L n 1) (aQ t)) bq=.next (af aO lv n k w f (fo L n 1) (aQ t)) bS):=by
  have e0:bx .Eq (ai 82) (ah (.int 1)) (af aO lv n k w f (fo L n 1) (aQ t)) bq=.ok (decide ((w:Int)=1)) bq:=rfl;by_cases hw:w=1
  .obtain⟨bS,R2,e⟩:=Dn A.C A.kU A.hf R hn A.hk hb hp (fr:=af aO lv n k w f (fo L n 1) (aQ t)) rfl rfl rfl rfl
   refine⟨bS,R2,?_⟩;exact(fQ (rG (e0.trans (by exact rl (bN (by exact Int.neg_inj.mp (aR Neg.neg (aR Nat.cast hw)))) rfl)) e)).trans rfl
  .refine⟨bq,R,?_⟩
   exact(fQ (rI (e0.trans (by exact rl (cH (by exact Nat.ToInt.of_diseq rfl rfl hw)) rfl)))).trans rfl
 obtain⟨bS,R2,s4⟩:=s4;obtain⟨qF,ka,R3,K3,s5⟩:=I8 A (v:=aQ t) R2;refine rl (aK s4)<|rl (aK s5) ?_
 have Ce:ka.lookup 78=some (.ref aO):=K3.at rfl (by decide);have Sy:ka.lookup 41=some (.int 0):=K3.at rfl (by decide);have L7:ka.lookup 79=some (.int n):=K3.at rfl (by decide);have It:ka.lookup 49=some (.int k):=K3.at rfl (by decide);have Fw:ka.lookup 50=some (.int (fo L n 1:Nat)):=K3.at rfl (by decide);have Zo:ka.lookup 81=some (aQ t):=K3.at rfl (by decide);have hm :∀i∈[50,85],∀a b c:V,([(53,a),(54,b),(31,c)]:List (Nat×V)).lookup i=none:=λi hi a b c=>by
  rcases b7 hi with rfl |hi
  .rfl
  .cases dM hi;rfl
 have s6:fk (λxW=>Ag aO f L P [.list (gQ (aX ls n 1 k))] xW) (λxW=>a6 ka qF=.next ka xW):=by
  obtain⟨bA,I1,em⟩:=ki A.C R3 (n:=n) (by exact Nat.le_succ_of_le hn);obtain⟨du,I2,en⟩:=LR A.C A.kU R3.get em I1 hn A.hk hb hp;rw[List.append_nil] at en;have e1:=(dD (((hO R3.get (hm 85 (by decide)) Ce (ao Sy) (ao L7) (ao It)).2).trans en) (ao Zo) (Fe Zn (XZ ‹_› ‹_› (by rfl)))).1;obtain⟨xW,R4,e2⟩:=Dn A.C A.kU A.hf (pY A.C A.hf I2 [.list (gQ (aX ls n 1 k))]) hn A.hk hb hp Ce Zo L7 It;exact⟨xW,R4,or_false e1 e2⟩
 obtain⟨xW,R4,s6⟩:=s6;have s7:fk (λGw=>Ag aO f L P [.list (gQ (aX ls n 1 k))] Gw) (λGw=>a7 ka xW=.next ka Gw):=by
  obtain⟨bA,I1,e1⟩:=ki A.C R4 (n:=n) (by exact Nat.le_succ_of_le hn);have R5:=pY A.C A.hf I1 [.list (gQ (aX ls n 1 k))];obtain⟨du,I2,e2⟩:=ki A.C R5 (n:=n+1) (by exact Nat.succ_le_succ hn);rw[A.PO] at e2;have e3:aU .Add (ai 79) (ah (.int 1)) ka (P bA++[.list (gQ (aX ls n 1 k))])=.ok (.int ((n+1:Nat):Int)) (P bA++[.list (gQ (aX ls n 1 k))]):=(bk (ao L7) rfl).trans rfl;exact⟨_,pY A.C A.hf I2 _,or_false (dD (((hO (g3:=ai 49) R4.get (hm 50 (by decide)) Ce (ao Sy) (ao L7) (ao It)).1).trans e1) (ao Fw) ua).1 (dD (((hO (g3:=ai 49) R5.get (hm 50 (by decide)) Ce (ao Sy) e3 (ao It)).1).trans e2) rfl ua).1⟩
 obtain⟨Gw,R5,s7⟩:=s7;have s8:fk (λFh=>Ag aO f L P [.list (gQ (aX ls n 1 k))] Fh) (λFh=>a8 ka Gw=.next (aE ka 86 (.list [.none,.none,.none,.none,.none,.none])) Fh):=by
  have hk:=A.hk;have ei:Pm ka Gw=.ok ([(-1:Int),-2,-(fo L n 1:Nat),-(fo L n 1:Nat) - 5,(fo L n 1:Nat),(fo L n 1:Nat)+7].map .int) Gw:=by
   unfold Pm;simp only[bl,bj,aS,gY,aU,ME.bind,ao Fw,aC,ah];rfl
  refine v8 (I:=Ag aO f L P [.list (gQ (aX ls n 1 k))]) (t:=az 4) (iw:=aw 1 85 iQ (ai 78) [(ai 41),(ai 79),(ai 4)]) (jC:=jN ka [41,78,79]) (λ_=>.none) ([(-1:Int),-2,-(fo L n 1:Nat),-(fo L n 1:Nat) - 5,(fo L n 1:Nat),(fo L n 1:Nat)+7].map .int) Gw [] R5 (show 6<=1000000 by decide) (λv hv=>?_) ?_
  .obtain⟨i,hi,rfl⟩:=dz hv
   refine⟨aE (jN ka [41,78,79]) 4 (.int i),rfl,λU R=>?_⟩;have Tw:i<0\/(fo L n 1:Int)<=i:=by
    simp only[List.mem_cons,List.not_mem_nil,or_false] at hi;rcases hi with h |h |h |h |h |h |h <;> first | (subst h;(first |exact Z7 |exact Z8 |lia)) |exact h.elim
   obtain⟨bB,R',e⟩:=L4 A.C A.hf R (n:=n) (k:=i) (by exact Nat.le_succ_of_le hn) Tw;refine⟨bB,R',((hO R.get (hm 85 (by decide)) ?_ (ao ?_) (ao ?_) (ao (cV _ _ _))).2).trans e⟩
   .exact bX (by decide) (by exact rl (fU (by decide) ..)<|Ce)
   .exact bX (by decide) (by exact rl (fU (by decide) ..)<|Sy)
   .exact bX (by decide) (by exact rl (fU (by decide) ..)<|L7)
  rintro Fh R6 e;refine⟨Fh,R6,?_⟩;unfold a8 aB ct bO;exact rl ei<|rl (aC ..)<|rl e rfl
 obtain⟨Fh,R6,s8⟩:=s8;obtain⟨Sz,I7,em⟩:=ki A.C R6 (n:=0) (by exact Nat.zero_le 12);have en:=t4 (k:=0) R6.get em (.inr (by refine rl (show fo L 0 1=0 from rfl) ?_;decide));rw[aA (by decide)] at en;refine⟨Sz,I7,?_⟩;have Zp:=cV ka 86 (.list [.none,.none,.none,.none,.none,.none]);have Zq :(aE ka 86 (.list [.none,.none,.none,.none,.none,.none])).lookup 78=some (.ref aO):=bX (by decide) Ce;have Zr :(aE ka 86 (.list [.none,.none,.none,.none,.none,.none])).lookup 41=some (.int 0):=bX (by decide) Sy;refine rl (aK s6)<|rl (aK s7)<|rl (aK s8) ?_
 generalize aE ka 86 (.list [.none,.none,.none,.none,.none,.none])=xQ at Zp Zq Zr;have e1:iE .Eq (bO [] (az 62) (bl (ai 86)) (some (bx .IsNot (ai 62) (ah .none))) (ai 62)) (cZ []) xQ Fh=.ok (.bool true) Fh:=by
  have ei:bl (ai 86) xQ Fh=.ok [.none,.none,.none,.none,.none,.none] Fh:=by exact kH (ao Zp) rfl
  have ec:bO [] (az 62) (bl (ai 86)) (some (bx .IsNot (ai 62) (ah .none))) (ai 62) xQ Fh=.ok (.list []) Fh:=by
   unfold bO;exact rl ei rfl
  exact(dD ec rfl rfl).2
 have e2:=(dD (op:=.Is) (g:=ah .none) (b:=.none) (c:=true) (((hO R6.get (hm 85 (by decide)) Zq (ao Zr) (g2:=ah (.int 0)) rfl (g3:=ah (.int 0)) rfl).2).trans en) rfl rfl).2;have e3:a9 xQ Fh=.ret (.bool true) (P Sz++[.list (gQ (aX ls n 1 k))]):=by
  exact ir (L6 e1 e2)
 exact rl e3 rfl
end
noncomputable def rt:V:=.tup [.str [116,111,108,100],.str [116]]
noncomputable def lt (x:Nat):V:=.tup [.str [x]]
def Xw (es:List Nat):List V:=[lt 97,lt 122,.tup [.str [112],.int 0,.int 0]]++es.map lt
noncomputable def Zs (vs:List V):List (V×V):=vs.zipIdx.map λp=>(p.1,.int p.2)
noncomputable def SA (n:Nat)(vs:List Int):List V:=vs.map .int++List.replicate n (.int 1)
def Ja (es:List Nat):bw:=[.inst 3 [(27,.ref 2),(28,.ref 7),(29,.ref 11),(30,.ref 12),(31,.ref 13),(19,.ref 14),(32,.ref 15),(33,.int 0)],
 .inst 0 [(9,.ref 3),(11,.ref 4),(12,.ref 5),(13,.ref 6)],.list (Xw es),.dict .tup (Zs (Xw es)),.list (SA es.length [1,1,3]),.list (SA es.length [1,1,2]),.inst 2 [(19,.ref 8),(20,.ref 9),(21,.ref 10)],
 .list ([.int 0,.int 1]++List.replicate (es.length+1) (.int 0)),.list ([V.ref 16,.ref 18,.ref 20,.ref 29,.ref 36].take (3+es.length)),.list ([kV 0 2,kV 0 3,kV 0 4].take (1+es.length)),
 .list ([V.tup [.int 0,.int 2,rt],.tup [.int 3,.int 0,rt],.tup [.int 4,.int 0,rt]].take (1+es.length)),.list ([V.int 0,.int 1,.int 2].take (1+es.length)),.dict .tup (Zs (Xw es)),.dict .int [(.int 0,[V.ref 22,.ref 31,.ref 38].getD es.length .none),(.int 1,.ref 19)],
 .list [],.list ([V.int 0,.int 2,.int 3,.int 4].take (2+es.length)),.list [.int 2],.list [.int 1],.list [],.list [.int 2],.list [],.list [.int 2]]
noncomputable def Zt (mk:V)(kd:Nat):O:=.inst 1 [(53,.ref 1),(54,mk),(31,.ref kd)]
def dp (h:O)(es:List Nat)(mk:V)(kd:Nat)(J:bw):bw:=h ::(Ja es++Zt mk kd::J)
noncomputable def jK (n:Nat):V:=.tup [.int (3+n),.int (1+n),.int 0]
structure nK (es ls:List Nat):Prop where
 tO :∀h mk kd J,c8 [.ref 1,.int 0] (dp h es mk kd J)=.ok (.list (nE ls)) (dp h es mk kd J)
 xF :∀h mk kd J,c8 [.ref 1,.int 1] (dp h es mk kd J)=.ok (.list [lt 122]) (dp h es mk kd J)
 wc :∀h mk kd J,bP [.ref 1,.int 0] (dp h es mk kd J)=.ok (.int 0) (dp h es mk kd J)
 C6 :∀h mk kd J,bP [.ref 1,.int 1] (dp h es mk kd J)=.ok (.int 1) (dp h es mk kd J)
 C7 :∀l∈ls,∀h mk kd J,ew [.ref 1,.str [l],.tup []] (dp h es mk kd J)=.ok (.int 0) (dp h es mk kd J)
 C8 :∀h mk kd J,ew [.ref 1,.str [112],.tup [.int 0,.int 0]] (dp h es mk kd J)=.ok (.int 0) (dp h es mk kd J)
theorem rO {P:Nat->Prop}{a b:Nat}(ha:P a)(hb:P b) :∀l∈[a,b],P l:=λl h=>by
 rcases b7 h with rfl |h
 .exact ha
 .cases dM h;exact hb
theorem Pn:nK [] [97]:=⟨λ_ _ _ _=>by kernel_rfl,λ_ _ _ _=>by kernel_rfl,λ_ _ _ _=>by kernel_rfl,λ_ _ _ _=>by kernel_rfl,λl h=>by cases dM h;exact λ_ _ _ _=>by kernel_rfl,λ_ _ _ _=>by kernel_rfl⟩
theorem Po:nK [98] [97,98]:=⟨λ_ _ _ _=>by kernel_rfl,λ_ _ _ _=>by kernel_rfl,λ_ _ _ _=>by kernel_rfl,λ_ _ _ _=>by kernel_rfl,rO (λ_ _ _ _=>by kernel_rfl) (λ_ _ _ _=>by kernel_rfl),λ_ _ _ _=>by kernel_rfl⟩
theorem Pp:nK [99] [97,99]:=⟨λ_ _ _ _=>by kernel_rfl,λ_ _ _ _=>by kernel_rfl,λ_ _ _ _=>by kernel_rfl,λ_ _ _ _=>by kernel_rfl,rO (λ_ _ _ _=>by kernel_rfl) (λ_ _ _ _=>by kernel_rfl),λ_ _ _ _=>by kernel_rfl⟩
theorem L8:nK [98,99] [97,98,99]:=⟨λ_ _ _ _=>by kernel_rfl,λ_ _ _ _=>by kernel_rfl,λ_ _ _ _=>by kernel_rfl,λ_ _ _ _=>by kernel_rfl,λl h=>(b7 h).elim (λh=>by subst h;exact λ_ _ _ _=>by kernel_rfl) (rO (P:=λl=>∀h mk kd J,ew [.ref 1,.str [l],.tup []] (dp h [98,99] mk kd J)=.ok (.int 0) (dp h [98,99] mk kd J)) (λ_ _ _ _=>by kernel_rfl) (λ_ _ _ _=>by kernel_rfl) l),λ_ _ _ _=>by kernel_rfl⟩
theorem L9:nK [99,98] [97,98,99]:=⟨λ_ _ _ _=>by kernel_rfl,λ_ _ _ _=>by kernel_rfl,λ_ _ _ _=>by kernel_rfl,λ_ _ _ _=>by kernel_rfl,λl h=>(b7 h).elim (λh=>by subst h;exact λ_ _ _ _=>by kernel_rfl) (rO (P:=λl=>∀h mk kd J,ew [.ref 1,.str [l],.tup []] (dp h [99,98] mk kd J)=.ok (.int 0) (dp h [99,98] mk kd J)) (λ_ _ _ _=>by kernel_rfl) (λ_ _ _ _=>by kernel_rfl) l),λ_ _ _ _=>by kernel_rfl⟩
theorem jB (h:O)(es:List Nat)(mk:V)(kd:Nat)(U J:bw):dp h es mk kd U++J=dp h es mk kd (U++J):=by
 refine List.cons_append.trans ?_;exact rl (cW ..) rfl
def Pq:ME V:=(bj [(aw 3 34 lP (bc 1 53 (ai 10)) []),(bT .len [(bc 3 29 (bc 1 53 (ai 10)))]),(bc 3 33 (bc 1 53 (ai 10)))])
noncomputable def jL (es:List Nat):Prop:=∀h mk kd J s,Pq [(10,.ref 23),(34,s)] (dp h es mk kd J)=.ok (jK es.length) (dp h es mk kd J)
theorem Pr:jL []:=λ_ _ _ _ _=>by kernel_rfl
theorem Pt:jL [98]:=λ_ _ _ _ _=>by kernel_rfl
theorem Pu:jL [99]:=λ_ _ _ _ _=>by kernel_rfl
theorem Ma:jL [98,99]:=λ_ _ _ _ _=>by kernel_rfl
theorem Mb:jL [99,98]:=λ_ _ _ _ _=>by kernel_rfl
theorem Mc (n:Nat)(U:bw):ig .NotEq (jK n) (jK n) U=some false:=mz rfl rfl (show 1<=64 by decide)
def SD:MS:=(fw (bx .NotEq (ai 54) (bc 1 54 (ai 10))) (aL (cU 1 54 (ai 10) (ai 54)) (cU 1 31 (ai 10) (lF .tup))) bF)
theorem Jb {es:List Nat}(M:jL es){s:Int}(hs:s<=200)(h:O)(mk:V)(kd:Nat)(J bB:bw)(e:SD [(54,jK es.length),(10,.ref 23),(34,.int s)] (dp h es mk kd J)=.next [(54,jK es.length),(10,.ref 23),(34,.int s)] bB):d6 [.ref 23,.int s] (dp h es mk kd J)=.ok .none bB:=by
 have e1:fw (bx .Gt (ai 34) (ah (.int 200))) (kq 4) bF [(10,.ref 23),(34,.int s)] (dp h es mk kd J)=.next [(10,.ref 23),(34,.int s)] (dp h es mk kd J):=by
  have:bx .Gt (ai 34) (ah (.int 200)) [(10,.ref 23),(34,.int s)] (dp h es mk kd J)=.ok (decide (s > 200)) (dp h es mk kd J):=rfl;exact(qu this (cH (by exact Int.not_lt_of_ge hs))).trans rfl
 have e2:aB (az 54) Pq [(10,.ref 23),(34,.int s)] (dp h es mk kd J)=.next [(54,jK es.length),(10,.ref 23),(34,.int s)] (dp h es mk kd J):=by
  unfold aB ct;exact rl (M ..) rfl
 show dB (aL (fw (bx .Gt (ai 34) (ah (.int 200))) (kq 4) bF) (aL (aB (az 54) Pq) SD) [(10,.ref 23),(34,.int s)] (dp h es mk kd J))=_;exact rl (aK e1)<|rl (aK e2)<|rl e rfl
theorem Jc {es:List Nat}(M:jL es){s:Int}(hs:s<=200)(h:O)(kd:Nat)(J:bw):d6 [.ref 23,.int s] (dp h es (jK es.length) kd J)=.ok .none (dp h es (jK es.length) kd J):=by
 refine Jb M hs h _ kd J _ ?_;have et:=(dD (op:=.NotEq) (f:=ai 54) (g:=bc 1 54 (ai 10)) (fr:=[(54,jK es.length),(10,.ref 23),(34,.int s)]) (U:=dp h es (jK es.length) kd J) rfl (show bc 1 54 (ai 10) _ _=.ok (jK es.length) (dp h es (jK es.length) kd J) from rfl) (Mc _ _)).1;exact(fQ et).trans rfl
theorem Md {es:List Nat}(M:jL es){s:Int}(hs:s<=200)(h:O)(mk:V)(kd:Nat)(J:bw)(dg :∀U,ig .NotEq (jK es.length) mk U=some true):d6 [.ref 23,.int s] (dp h es mk kd J)=.ok .none (dp h es (jK es.length) (J.length+24) (J++[.dict .tup []])):=by
 refine Jb M hs h _ kd J _ ?_;have et:=(dD (op:=.NotEq) (f:=ai 54) (g:=bc 1 54 (ai 10)) (fr:=[(54,jK es.length),(10,.ref 23),(34,.int s)]) (U:=dp h es mk kd J) rfl (show bc 1 54 (ai 10) _ _=.ok mk (dp h es mk kd J) from rfl) (dg _)).1;refine(fQ et).trans ?_;refine rl (aA rfl) ?_;refine(aK (bC:=[(54,jK es.length),(10,.ref 23),(34,.int s)]) (bB:=dp h es (jK es.length) kd J) rfl).trans ?_;rfl
theorem Jd {es:List Nat}(H:nK es ls)(M:jL es)(h:O)(tl:bw)(h3:1<=ls.length/\ls.length<=3)(hM:112∉ls):hX 23 (tl.length+24) ls.length ls (λay=>dp h es (jK es.length) (tl.length+24) (tl++[.dict .tup ay])):=by
 intro J;have e :(λay=>dp h es (jK es.length) (tl.length+24) (tl++[.dict .tup ay])++J)=λay=>dp h es (jK es.length) (tl.length+24) (tl++[.dict .tup ay]++J):=funext λay=>jB _ _ _ _ _ _;exact rl e <| {
  hL:=rfl,h3:=h3,get:=⟨_,λay=>rfl⟩,heap:=⟨_,_,_,_,_,_,_,λay=>rfl⟩,
  dict:=λay=>by
   show(tl++[O.dict .tup ay]++J)[tl.length]? = _;exact rl (cW ..)<|rl (List.getElem?_append_right (Nat.le_refl _))<|rl (Nat.sub_self ..) rfl,
  set:=λay aJ=>by
   have :(tl++[O.dict .tup ay]++J).set tl.length (.dict .tup aJ)=tl++[O.dict .tup aJ]++J:=by
    exact rl (cW ..)<|rl (List.set_append_right _ _ (Nat.le_refl _))<|rl (Nat.sub_self ..)<|rl (cW ..) rfl
   show dp h es _ _ ((tl++[O.dict .tup ay]++J).set tl.length (.dict .tup aJ))=_;exact rl this rfl,
  PY:=λay s hs=>Jc M hs h _ _,
  tO:=λay=>H.tO _ _ _ _,xF:=λay=>H.xF _ _ _ _,wc:=λay=>H.wc _ _ _ _,C6:=λay=>H.C6 _ _ _ _,C7:=λl hl ay=>H.C7 l hl _ _ _ _,C8:=λay=>H.C8 _ _ _ _,zQ:=hM}
def Pw:ME V:=qe (cZ [(ah (.str [97]))]) (xq (ai 92) (ai 93))
def uS (m:ME V):ME V:=bW jx [(ai 71),m]
def Xx:MS:=(cO (dZ [74,79]) (bj [Pw,(aU .Add (ah (.int 1)) (aU .Mult (ah (.int 2)) (uS (ah (.int 6)))))]))
def TX:MS:=(aB (az 50) (cu (bW gW [(bT .len [(ai 74)]),(ah (.int 11))]) (bj [(ah (.int 1)),(ai 79)])))
def Xy:MS:=(cO (dZ [49,82]) (bj [uS (ai 50),uS (ah (.int 3))]))
def Xz:MS:=(fw (jE [(bx .Eq (ai 82) (ah (.int 2))),(jD .Lt .LtE (ah (.int 60)) (ai 50) (ah (.int 10000)))]) (aB (az 82) (ah (.int 0))) bF)
def Zu:MS:=(fw (rS (o7 (bW kE [(ai 78),(ai 89),(ai 74),(ai 79),(ai 49),(ai 82)]))) (cn (ah (.bool false))) bF)
noncomputable def nM (x y i:Nat):V:=.list (.str [97]::[V.str [x],V.str [y]].take i)
structure LF (x y:Nat)(fr:eY):Prop where
 TY:fr.lookup 71=some (.ref 0)
 TZ:fr.lookup 53=some (.ref 1)
 Ce:fr.lookup 78=some (.ref 23)
 P7:fr.lookup 89=some (.int 0)
 Px:fr.lookup 90=some (.int 1)
 XA:fr.lookup 92=some (.list [.str [x],.str [y]])
theorem LF.keep {x y:Nat}(F:LF x y fr)(K:fM [74,79,50,49,82,93] fr bC):LF x y bC:=
 ⟨K.at F.TY (by decide),K.at F.TZ (by decide),K.at F.Ce (by decide),K.at F.P7 (by decide),K.at F.Px (by decide),K.at F.XA (by decide)⟩
theorem Py {x y:Nat}(h92:fr.lookup 92=some (.list [.str [x],.str [y]]))(Nc:fr.lookup 93=some (.int i))(hi:i<=2):Pw fr U=.ok (nM x y i) U:=by
 have hc:i=0\/i=1\/i=2:=by exact Vs ‹_›
 unfold Pw qe;refine(bL (show cZ [(ah (.str [97]))] fr U=.ok (.list [.str [97]]) U from rfl)).trans ?_;rw[ME.bind];unfold xq;rw[ME.bind,ao h92,aC,ME.bind,ao Nc];rcases hc with rfl |rfl |rfl <;> rfl
theorem xR {es:List Nat}{mk:V}{f:ME V}{m:Int}(hj:js.length<=40)(hc:c<1000)(h71:fr.lookup 71=some (.ref 0))(hf :∀U,f fr U=.ok (.int m) U)(h0:0<m)(h1:m<1000000) :
  fk (λ(r:Nat)=>(r:Int)<m) (λ(r:Nat)=>uS f fr (dp (fC js c) es mk kd J)=.ok (.int r) (dp (fC js (c+1:Nat)) es mk kd J)):=by
 obtain⟨r,r0,r1,e⟩:=I0 hj hc h0 h1 (Ja es++Zt mk kd::J);refine⟨r.toNat,by exact UN h0 r1,?_⟩;rw[show((r.toNat:Nat):Int)=r by exact Int.toNat_of_nonneg ‹_›];unfold uS bW aS aS aS;rw[ME.bind,ME.bind,ao h71,aC,ME.bind,ME.bind,hf];exact e
theorem Pz :∀L∈[1,2,3],∀n<12,fo L n 1<1000000:=by decide +kernel
theorem PA :∀L∈[1,2,3],∀r<6,0<fo L (1+2 * r) 1/\fo L (1+2 * r+1) 1=0:=by decide +kernel
theorem SE :∀n<12,fo 1 n 1<=60->n % 2=1->LX [97] n=true:=by decide +kernel
theorem SG :∀n<12,fo 2 n 1<=60->n % 2=1->LX [97,98] n=true:=by decide +kernel
theorem SH :∀n<12,fo 2 n 1<=60->n % 2=1->LX [97,99] n=true:=by decide +kernel
theorem Je :∀n<12,fo 3 n 1<=60->n % 2=1->LX [97,98,99] n=true:=by decide +kernel
structure Fy (x y i:Nat)(es ls:List Nat):Prop where
 H:nK es ls
 M:jL es
 kU:ls∈iT
 hL:ls.length=i+1
 hi:i<=2
 uQ :∀(fr:eY) (U:bw),fr.lookup 74=some (nM x y i)->pW fr U=.ok ((ls.map λx=>V.str [x])++[.str [112]]) U
 PB :∀n<12,fo ls.length n 1<=60->n % 2=1->LX ls n=true
theorem ub {x y:Nat}(h:fr.lookup 74=some (nM x y i))(hs:oH (.str [97]::[V.str [x],V.str [y]].take i)=some us)(hz:us.length<100):pW fr U=.ok (us++[.str [112]]) U:=by
 have e1:xY kM [(ai 74)] fr U=.ok (.list us) U:=by
  unfold xY aS;rw[ME.bind,ME.bind,ao h];show Res.cN ((oH (.str [97]::[V.str [x],V.str [y]].take i)).map V.list) U=_;rw[hs];rfl
 have ez:cD (us.length+1)=true:=bN (q1 ‹_› (by rfl));unfold pW bl qe;rw[ME.bind,ME.bind,e1,aC,ME.bind,show cZ [(ah (.str [112]))] fr U=.ok (.list [.str [112]]) U from rfl,aC];show((if cD (us.length+1) then Res.ok (V.list (us++[.str [112]])) U else Res.stuck).andThen λa bB=>Res.cN (Cw a) bB)=_;exact rl (aA ez) rfl
theorem Jf {f1 f2 f3 f4 f5 f6:ME V}{v1 v2 v3 v4 v5 v6:V}(h1:f1 fr U=.ok v1 U)(h2:f2 fr U=.ok v2 U)(h3:f3 fr U=.ok v3 U)(h4:f4 fr U=.ok v4 U)(h5:f5 fr U=.ok v5 U)(h6:f6 fr U=.ok v6 U) :
  bW g [f1,f2,f3,f4,f5,f6] fr U=g [v1,v2,v3,v4,v5,v6] U:=by
 simp only[bW,aS,ME.bind,h1,h2,h3,h4,h5,h6,aC,ah]
abbrev dF (L:Nat):O:=.dict .tup (FD L)
theorem Jg {x y:Nat}{es:List Nat}(D:Fy x y i es ls)(hj:js.length<=40)(hc:c<900){mk:V}(dg :∀U,ig .NotEq (jK es.length) mk U=some true)(F:LF x y fr)(Nc:fr.lookup 93=some (.int i)) :
  O3 (λbC ay us=>fM [74,79,50,49,82] fr bC) (λbC ay us=>d7 (i+1) ay) (λbC ay us=>aL Xx (aL TX (aL Xy (aL Xz Zu))) fr (dp (fC js c) es mk kd tl)=.next bC (dp (fC js (c+3:Nat)) es (jK es.length) (tl.length+26) (tl++[dF (i+1),dF (i+1),.dict .tup ay,.list us]))):=by
 have Ky:i+1∈[1,2,3]:=by have:=D.hi;have h:i=0\/i=1\/i=2:=(Vs ‹_›);rcases h with rfl |rfl |rfl <;> decide
 obtain⟨r,hr,e1⟩:=xR (es:=es) (mk:=mk) (kd:=kd) (J:=tl) (f:=ah (.int 6)) (m:=6) (c:=c) hj (q1 ‹_› (by rfl)) F.TY (λ_=>rfl) (by decide) (by decide);have hr6:r<6:=by exact Int.ofNat_lt.mp hr
 obtain⟨uk,PO⟩:=PA (i+1) Ky r hr6;obtain⟨n,hn⟩ :∃n,n=1+2 * r:=⟨_,rfl⟩;rw[<- hn] at uk PO;have XB:=Pz (i+1) Ky n (by lia);have s1:Xx fr (dp (fC js c) es mk kd tl)=.next (aE (aE fr 79 (.int n)) 74 (nM x y i)) (dp (fC js (c+1:Nat)) es mk kd tl):=by
  have e2:aU .Add (ah (.int 1)) (aU .Mult (ah (.int 2)) (uS (ah (.int 6)))) fr (dp (fC js c) es mk kd tl)=.ok (.int n) (dp (fC js (c+1:Nat)) es mk kd tl):=by
   have e3:aU .Mult (ah (.int 2)) (uS (ah (.int 6))) fr (dp (fC js c) es mk kd tl)=.ok (.int (2 * r)) (dp (fC js (c+1:Nat)) es mk kd tl):=(bk rfl e1).trans rfl;refine(bk rfl e3).trans ?_;show Res.ok (V.int (1+2 * (r:Int))) _=_;exact rl (show 1+2 * (r:Int) =(n:Int) by exact Eq.symm ((λ{a b}=>Int.neg_inj.mp) (aR Neg.neg (aR Nat.cast hn)))) rfl
  exact iv (o3 (Py F.XA Nc D.hi) e2) rfl
 have K1:fM [74,79,50,49,82] fr (aE (aE fr 79 (.int n)) 74 (nM x y i)):=(fM.set 79 _ (by decide)).trans (.set 74 _ (by decide));have LD :(aE (aE fr 79 (.int n)) 74 (nM x y i)).lookup 74=some (nM x y i):=cV _ _ _;have L7 :(aE (aE fr 79 (.int n)) 74 (nM x y i)).lookup 79=some (.int n):=bX (by decide) (cV _ _ _);generalize aE (aE fr 79 (.int n)) 74 (nM x y i)=cz at s1 K1 LD L7;refine rl (aK s1) ?_;have hlen :∀U,AQ .len [nM x y i] U=some (.int (i+1:Nat)):=λU=>by
  have:=D.hi;have h:i=0\/i=1\/i=2:=by exact Vs ‹_›
  rcases h with rfl |rfl |rfl <;> rfl
 have s2:TX cz (dp (fC js (c+1:Nat)) es mk kd tl)=.next (aE cz 50 (.int (fo (i+1) n 1:Nat))) (dp (fC js (c+1:Nat)) es mk kd (tl++[dF (i+1)])):=by
  have e2:bT .len [(ai 74)] cz (dp (fC js (c+1:Nat)) es mk kd tl)=.ok (.int (i+1:Nat)) (dp (fC js (c+1:Nat)) es mk kd tl):=by
   unfold bT aS aS;rw[ME.bind,ME.bind,ao LD];show Res.cN (AQ .len [nM x y i] _) _=_;exact rl (hlen ..) rfl
  have e3:bW gW [(bT .len [(ai 74)]),(ah (.int 11))] cz (dp (fC js (c+1:Nat)) es mk kd tl)=.ok (.ref (dp (fC js (c+1:Nat)) es mk kd tl).length) (dp (fC js (c+1:Nat)) es mk kd tl++[dF (i+1)]):=by
   refine rr (t8 Ky) ?_;simp only[bW,aS,ME.bind,e2,aC,ah]
  have e4:=gM (U:=dp (fC js (c+1:Nat)) es mk kd tl++[dF (i+1)]) (f:=ah (.int 1)) (fr:=cz) rfl (ao L7);have ei:mB (.ref (dp (fC js (c+1:Nat)) es mk kd tl).length) (kV 1 n) (dp (fC js (c+1:Nat)) es mk kd tl++[dF (i+1)])=some (.int (fo (i+1) n 1:Nat)):=by
   unfold mB;dsimp only;refine rl (f7 ..) ?_;show(if fu .tup (kV 1 n) then cT (FD (i+1)) (kV 1 n) else .none)=_;exact rl (aA (show fu .tup (kV 1 n)=true from rfl))<|rl (IW (i+1) Ky n (by lia) (by exact Nat.le.intro (id (Eq.symm hn)))) rfl
  unfold TX aB ct cu;rw[ME.bind,e3,aC,ME.bind,e4,aC,ei,<- jB];rfl
 have K2:=K1.trans (fM.set (js:=[74,79,50,49,82]) (fr:=cz) 50 (.int (fo (i+1) n 1:Nat)) (by decide));have Fw:=cV cz 50 (.int (fo (i+1) n 1:Nat));have Zv :(aE cz 50 (.int (fo (i+1) n 1:Nat))).lookup 74=some (nM x y i):=bX (by decide) LD;have Zw :(aE cz 50 (.int (fo (i+1) n 1:Nat))).lookup 79=some (.int n):=bX (by decide) L7;generalize aE cz 50 (.int (fo (i+1) n 1:Nat))=cG at s2 K2 Fw Zv Zw;refine rl (aK s2) ?_;obtain⟨k,hk,e5⟩:=xR (es:=es) (mk:=mk) (kd:=kd) (J:=tl++[dF (i+1)]) (f:=ai 50) (m:=(fo (i+1) n 1:Nat)) (c:=c+1) (fr:=cG) hj (q2 ‹_› (by rfl)) (K2.at F.TY (by decide)) (λ_=>ao Fw) (by exact Int.natCast_pos.mpr uk) (by exact Int.lt_toNat.mp XB);obtain⟨w,hw,e6⟩:=xR (es:=es) (mk:=mk) (kd:=kd) (J:=tl++[dF (i+1)]) (f:=ah (.int 3)) (m:=3) (c:=c+1+1) (fr:=cG) hj (XU ‹_› (by rfl)) (K2.at F.TY (by decide)) (λ_=>rfl) (by decide) (by decide);have s3:Xy cG (dp (fC js (c+1:Nat)) es mk kd (tl++[dF (i+1)]))=.next (aE (aE cG 82 (.int w)) 49 (.int k)) (dp (fC js (c+3:Nat)) es mk kd (tl++[dF (i+1)])):=by
  exact iv (o3 e5 e6) rfl
 have K3:=K2.trans ((fM.set (js:=[74,79,50,49,82]) (fr:=cG) 82 (.int w) (by decide)).trans (.set 49 (.int k) (by decide)));have Zx :(aE (aE cG 82 (.int w)) 49 (.int k)).lookup 50=some (.int (fo (i+1) n 1:Nat)):=bX (by decide) (bX (by decide) Fw);have Zy :(aE (aE cG 82 (.int w)) 49 (.int k)).lookup 74=some (nM x y i):=bX (by decide) (bX (by decide) Zv);have Zz :(aE (aE cG 82 (.int w)) 49 (.int k)).lookup 79=some (.int n):=bX (by decide) (bX (by decide) Zw);have ZA :(aE (aE cG 82 (.int w)) 49 (.int k)).lookup 49=some (.int k):=cV _ _ _;have T3 :(aE (aE cG 82 (.int w)) 49 (.int k)).lookup 82=some (.int w):=bX (by decide) (cV _ _ _);generalize aE (aE cG 82 (.int w)) 49 (.int k)=ka at s3 K3 Zx Zy Zz ZA T3;refine rl (aK s3) ?_;generalize uj:dp (fC js (c+3:Nat)) es mk kd (tl++[dF (i+1)])=U;have s4:O0 (λ(w':Nat) (xQ:eY)=>fM [82] ka xQ) (λ(w':Nat) (xQ:eY)=>xQ.lookup 82=some (.int w')) (λ(w':Nat) (xQ:eY)=>(w'=2->fo (i+1) n 1<=60\/10000<fo (i+1) n 1)) (λ(w':Nat) (xQ:eY)=>Xz ka U=.next xQ U):=by
  have t1:bx .Eq (ai 82) (ah (.int 2)) ka U=.ok (decide ((w:Int)=2)) U:=(dD (ao T3) rfl rfl).1;by_cases h2:w=2
  .have t2:jD .Lt .LtE (ah (.int 60)) (ai 50) (ah (.int 10000)) ka U=.ok (decide (60<fo (i+1) n 1/\fo (i+1) n 1<=10000)) U:=by
    refine(bL (show ah (V.int 60) ka U=.ok (.int 60) U from rfl)).trans ((bL (ao Zx)).trans ?_);show(Res.ok (decide ((60:Int)<(fo (i+1) n 1:Nat))) U).andThen _=_;refine rl (aC ..) ?_;by_cases h:60<fo (i+1) n 1
    .refine rl (bN (by exact(Int.toNat_lt' uk).mp h))<|rl (aA rfl) ?_
     show Res.ok (decide (((fo (i+1) n 1:Nat):Int)<=10000)) U=_;congr 1;exact decide_eq_decide.mpr (by exact U6 h)
    .exact rl (cH (SS ‹_›))<|rl (cH (by exact not_and.mpr λa a_1=>h a)) rfl
   by_cases h:60<fo (i+1) n 1/\fo (i+1) n 1<=10000
   .refine⟨0,aE ka 82 (.int 0),.set _ _ (by decide),cV _ _ _,(λz=>absurd z (by decide)),?_⟩
    have ta:jE [(bx .Eq (ai 82) (ah (.int 2))),(jD .Lt .LtE (ah (.int 60)) (ai 50) (ah (.int 10000)))] ka U=.ok true U:=by
     unfold jE;rw[ME.bind,t1,bN (by exact Int.neg_inj.mp (aR Neg.neg (aR Nat.cast h2))),aC,aA rfl];unfold jE;rw[ME.bind,t2,bN h];rfl
    exact(fQ ta).trans rfl
   .refine⟨w,ka,.refl,T3,(λ_=>by exact U7 h),?_⟩
    exact(fQ (rG (t1.trans (by exact rl (bN (by exact Int.neg_inj.mp (aR Neg.neg (aR Nat.cast h2)))) rfl)) (t2.trans (by exact rl (cH h) rfl)))).trans rfl
  .refine⟨w,ka,.refl,T3,(λz=>absurd z h2),?_⟩
   exact(fQ (rI (t1.trans (by exact rl (cH (by exact Nat.ToInt.of_diseq rfl rfl h2)) rfl)))).trans rfl
 obtain⟨w',xQ,K4,o82,hw2,s4⟩:=s4;refine rl (aK s4) ?_;have zT :(tl++[dF (i+1)]++[dF (i+1)]).length=tl.length+2:=by refine bY.trans ?_;exact rl bY rfl
 have C:=Jd D.H D.M (fC js (c+3:Nat)) (tl++[dF (i+1)]++[dF (i+1)]) (by refine rl D.hL ?_;have:=D.hi;exact q98 ‹_›) (λz=>(xP D.kU 112 z).2 rfl);rw[zT,D.hL] at C;have SI:U.length=tl.length+25:=by
  refine rr uj ?_;show(tl++[dF (i+1)]).length+24=_;exact rl bY rfl
 have A:Xu 23 (tl.length+2+24) (tl.length+25) (i+1) ls (λay=>dp (fC js (c+3:Nat)) es (jK es.length) (tl.length+2+24) (tl++[dF (i+1)]++[dF (i+1)]++[.dict .tup ay])) (nM x y i) n k w':=by
  refine⟨C,D.kU,λay J=>?_,Ky,hlen,D.uQ,⟨by exact Nat.le.intro (id (Eq.symm hn)),by exact q80 ‹_› ‹_›⟩,by exact Int.ofNat_lt.mp hk,PO,λz=>?_⟩
  .refine rl (jB ..) ?_
   show(tl++[dF (i+1)]++[dF (i+1)]++[.dict .tup ay]++J)[tl.length+1]? = _;exact rl (cW ..)<|rl (cW ..)<|rl (cW ..)<|rl (List.getElem?_append_right (by exact Nat.le_add_right (List.length tl) 1))<|rl (Nat.add_sub_cancel_left ..) rfl
  .rcases hw2 z with h |h
   .exact .inl ⟨h,D.PB n (by lia) (by exact rl D.hL<|h) (by exact U8 hn)⟩
   .exact .inr h
 have R:Ag 23 (tl.length+25) (i+1) (λay=>dp (fC js (c+3:Nat)) es (jK es.length) (tl.length+2+24) (tl++[dF (i+1)]++[dF (i+1)]++[.dict .tup ay])) [] (U++[dF (i+1)]):=by
  refine⟨?_,λs hs=>⟨[],d7.nil,?_⟩,by exact rr SI<|f7 _ _⟩
  .exact rr uj<|rl (jB ..)<|⟨_,_,_,rfl⟩
  .exact rr uj<|rl (jB ..)<|rl (Md D.M hs _ _ _ _ dg)<|rl zT<|aR _ (List.append_nil _).symm
 obtain⟨ay,I,e⟩:=I9 A SI R;refine⟨xQ,ay,gQ (aX ls n 1 k),K3.trans (K4.more (by decide)),I,?_⟩;have o74:xQ.lookup 74=some (nM x y i):=K4.at Zy (by decide);have o79:xQ.lookup 79=some (.int n):=K4.at Zz (by decide);have o49:xQ.lookup 49=some (.int k):=K4.at ZA (by decide);have o78:xQ.lookup 78=some (.ref 23):=K4.at (K3.at F.Ce (by decide)) (by decide);have o89:xQ.lookup 89=some (.int 0):=K4.at (K3.at F.P7 (by decide)) (by decide);have ec:=(Jf (g:=kE) (ao (U:=U) o78) (ao o89) (ao o74) (ao o79) (ao o49) (ao o82)).trans e;have et:rS (o7 (bW kE [(ai 78),(ai 89),(ai 74),(ai 79),(ai 49),(ai 82)])) xQ U=.ok false (dp (fC js (c+3:Nat)) es (jK es.length) (tl.length+2+24) (tl++[dF (i+1)]++[dF (i+1)]++[.dict .tup ay])++[.list (gQ (aX ls n 1 k))]):=by
  unfold rS o7;rw[ME.bind,ME.bind,ec];rfl
 refine(fQ et).trans ?_;refine rl (jB ..) ?_;exact rl (cW ..)<|rl (cW ..)<|rl (cW ..) rfl
def ZC:MS:=(cO (dZ [71,53]) (bj [(dj [(bO [] (az 87) (bl (iO 40 (ai 88))) none (aU .Mod (xY G6 [(ai 87)]) (ah (.int 5040)))),(ah (.int 0))]),(bW (sI 3 jw) [])]))
def XC:MS:=(cO (bp [89,90]) (bj [(aw 3 44 (lR 2) (ai 53) [(bj [(ah (.str [97]))])]),(aw 3 44 (lR 2) (ai 53) [(bj [(ah (.str [122]))])])]))
def XD:MS:=(bM (aw 3 36 eW (ai 53) [(ai 89),(aw 3 45 CU (ai 53) [(ah (.str [112])),(bj [(ai 89),(ai 89)])]),(bj [(ah (.str [116,111,108,100])),(ah (.str [116]))])]))
def T4:MS:=(bM (aw 3 91 j6 (ai 53) []))
def ZD:MS:=(cO (bp [78,92]) (bj [(bW (sI 1 iC) [(ai 53)]),(CI (cZ [(ah (.str [98])),(ah (.str [99]))]) (aU .Sub (ah (.int 1)) (aU .Mult (ah (.int 2)) (uS (ah (.int 2))))))]))
def Me:ME V:=(aw 3 44 (lR 2) (ai 53) [(bj [(cu (ai 92) (aU .Sub (ai 93) (ah (.int 1))))])])
def XE:ME V:=(bj [(ah (.str [116,111,108,100])),(ah (.str [116]))])
def PC:MS:=(fw (bx .Gt (ai 93) (ah (.int 0))) (aL (bM (aw 3 36 eW (ai 53) [Me,(ai 89),XE])) T4) bF)
def Fi:MS:=aL PC (aL Xx (aL TX (aL Xy (aL Xz Zu))))
def XF:MS:=(df (az 93) (iY (ah (.int 3))) Fi)
def ZE:MS:=(fw (rT [(bx .NotEq (aw 1 50 dS (ai 78) [(ai 90),(ah (.int 200))]) (ah (.int 0))),(bx .IsNot (aw 1 85 iQ (ai 78) [(ai 90),(ah (.int 200)),(ah (.int 0))]) (ah .none))]) (cn (ah (.bool false))) bF)
theorem Jh:CY=aL ZC (aL XC (aL XD (aL T4 (aL ZD (aL XF ZE))))):=rfl
noncomputable def Ji:bw:=[.inst 3 [(27,.ref 2),(28,.ref 7),(29,.ref 11),(30,.ref 12),(31,.ref 13),(19,.ref 14),(32,.ref 15),(33,.int 0)],.inst 0 [(9,.ref 3),(11,.ref 4),(12,.ref 5),(13,.ref 6)],.list [],.dict .tup [],.list [],.list [],.inst 2 [(19,.ref 8),(20,.ref 9),(21,.ref 10)],
 .list [],.list [],.list [],.list [],.list [],.dict .tup [],.dict .int [],.list []]
theorem Jj (fr:eY)(h:O):bW (sI 3 jw) [] fr [h]=.ok (.ref 1) (h::Ji):=by kernel_rfl
noncomputable def XG (Nd:V):eY:=[(71,.ref 0),(53,.ref 1),(88,Nd)]
def Mf (Nd:V):eY:=(90,.int 1) ::(89,.int 0)::XG Nd
theorem PD (h:O)(Nd:V):aL XC (aL XD T4) (XG Nd) (h::Ji)=.next (Mf Nd) (h::Ja []):=by kernel_rfl
theorem wx (a b c:MS):aL (aL a b) c=aL a (aL b c):=by
 funext fr U;unfold aL
 cases a fr U <;> rfl
theorem Cf (h:O)(Nd:V):bW (sI 1 iC) [(ai 53)] (Mf Nd) (h::Ja [])=.ok (.ref 23) (dp h [] .none 24 [.dict .tup []]):=by kernel_rfl
noncomputable def kJ (es:List Nat)(x:Nat)(os:bw):Prop:=∀h mk kd,(lR 2 [.ref 1,lt x] (dp h es mk kd os)).andThen (λv U=>eW [.ref 1,v,.int 0,rt] U)=.ok (.bool true) (dp h (es++[x]) mk kd (os++[.list [.int (3+es.length:Nat)],.list [],.list [.int 2]]))
noncomputable def i3 (es:List Nat):Prop:=∀h mk kd J,j6 [.ref 1] (dp h es mk kd J)=.ok .none (dp h es mk kd J)
theorem PE (a b c d e:O):kJ [] 98 [a,b,c,d,e]:=λ_ _ _=>by kernel_rfl
theorem PF (a b c d e:O):kJ [] 99 [a,b,c,d,e]:=λ_ _ _=>by kernel_rfl
theorem Mg (a b c d e d1 e1 f1 g1:O):kJ [98] 99 [a,b,c,d,e,.list [.int 3],.list [],.list [.int 2],d1,e1,f1,g1]:=λ_ _ _=>by kernel_rfl
theorem Mh (a b c d e d1 e1 f1 g1:O):kJ [99] 98 [a,b,c,d,e,.list [.int 3],.list [],.list [.int 2],d1,e1,f1,g1]:=λ_ _ _=>by kernel_rfl
theorem Mi:i3 [98]:=λ_ _ _ _=>by kernel_rfl
theorem Mj:i3 [99]:=λ_ _ _ _=>by kernel_rfl
theorem Jk:i3 [98,99]:=λ_ _ _ _=>by kernel_rfl
theorem Jl:i3 [99,98]:=λ_ _ _ _=>by kernel_rfl
theorem pZ {m:Nat}{h:O}{es:List Nat}{mk:V}(hm :([(27,.ref 2),(28,.ref 7),(29,.ref 11),(30,.ref 12),(31,.ref 13),(19,.ref 14),(32,.ref 15),(33,.int 0)]:List (Nat×V)).lookup m=none)(h53:fr.lookup 53=some (.ref 1)) :
  aw 3 m r (ai 53) fs fr (dp h es mk kd J) =(aS fs fr (dp h es mk kd J)).andThen λvs U=>r (.ref 1::vs) U:=by
 have hi:ij (dp h es mk kd J) 3 (.ref 1)=some (1,[(27,.ref 2),(28,.ref 7),(29,.ref 11),(30,.ref 12),(31,.ref 13),(19,.ref 14),(32,.ref 15),(33,.int 0)]):=rfl;simp only[aw,ME.bind,ao h53,aC,hi,hm,Option.isNone_none,if_true]
theorem Jm {x y z:Nat}{es:List Nat}{h:O}{mk:V}{os:bw}(F:LF x y fr)(Nc:fr.lookup 93=some (.int (j+1:Nat)))(hz:[x,y][j]? = some z)(T:kJ es z os)(S:i3 (es++[z])) :
  PC fr (dp h es mk kd os)=.next fr (dp h (es++[z]) mk kd (os++[.list [.int (3+es.length:Nat)],.list [],.list [.int 2]])):=by
 have t1:bx .Gt (ai 93) (ah (.int 0)) fr (dp h es mk kd os)=.ok (decide (((j+1:Nat):Int) > 0)) (dp h es mk kd os):=(dD (ao Nc) rfl rfl).1;have ea:bj [(cu (ai 92) (aU .Sub (ai 93) (ah (.int 1))))] fr (dp h es mk kd os)=.ok (lt z) (dp h es mk kd os):=by
  refine o4 ?_;refine(bL (ao F.XA)).trans ?_;rw[ME.bind,(bk (ao Nc) rfl),show AF .Sub (.int (j+1:Nat)) (.int 1) fr (dp h es mk kd os)=.ok (.int (((j+1:Nat):Int) - 1)) (dp h es mk kd os) from rfl,show((j+1:Nat):Int) - 1 =(j:Int) by exact Int.sub_eq_iff_eq_add.mpr rfl,aC];have hj:j=0\/j=1:=by
   have:j<2:=by
    cases h2:decide (j<2) with
    |true=>exact of_decide_eq_true h2
    |false=>replace hz:=(List.getElem?_eq_none (by have:=of_decide_eq_false h2;simp only[List.length_cons,List.length_nil];exact Nat.le_of_not_lt this)).symm.trans hz;injection hz
   exact X8 ‹_›
  rcases hj with rfl |rfl <;>(injection hz with hz;subst hz;rfl)
 have ep:Me fr (dp h es mk kd os)=lR 2 [.ref 1,lt z] (dp h es mk kd os):=by
  refine(pZ rfl F.TZ).trans ?_;unfold aS aS;rw[ME.bind,ea];rfl
 have em:aw 3 36 eW (ai 53) [Me,(ai 89),XE] fr (dp h es mk kd os)=.ok (.bool true) (dp h (es++[z]) mk kd (os++[.list [.int (3+es.length:Nat)],.list [],.list [.int 2]])):=by
  refine(pZ rfl F.TZ).trans ?_;rw[<- T h mk kd];unfold aS aS aS aS;rw[ME.bind,ep]
  cases lR 2 [.ref 1,lt z] (dp h es mk kd os) with
  |ok v U=>
   rw[aC,aC,ME.bind,ME.bind,ao F.P7,aC,ME.bind,ME.bind];rfl
  |exc c U=>rfl
  |stuck=>rfl
 have s1:bM (aw 3 36 eW (ai 53) [Me,(ai 89),XE]) fr (dp h es mk kd os)=.next fr (dp h (es++[z]) mk kd (os++[.list [.int (3+es.length:Nat)],.list [],.list [.int 2]])):=by
  exact oU em rfl
 have s2:T4 fr (dp h (es++[z]) mk kd (os++[.list [.int (3+es.length:Nat)],.list [],.list [.int 2]]))=.next fr (dp h (es++[z]) mk kd (os++[.list [.int (3+es.length:Nat)],.list [],.list [.int 2]])):=by
  have:aw 3 91 j6 (ai 53) [] fr (dp h (es++[z]) mk kd (os++[.list [.int (3+es.length:Nat)],.list [],.list [.int 2]]))=.ok .none (dp h (es++[z]) mk kd (os++[.list [.int (3+es.length:Nat)],.list [],.list [.int 2]])):=by
   refine(pZ rfl F.TZ).trans ?_;exact S _ _ _ _
  exact oU this rfl
 unfold PC;exact rl (fQ t1)<|rl (bN (by exact Int.ofNat_succ_pos j))<|rl (aA rfl)<|rl (aK s1)<|rl s2 rfl
theorem PG {x y:Nat}(Nc:fr.lookup 93=some (.int 0)):PC fr U=.next fr U:=by
 have t1:bx .Gt (ai 93) (ah (.int 0)) fr U=.ok false U:=(dD (ao Nc) rfl rfl).1;exact(fQ t1).trans rfl
theorem SJ (x y:Nat):Fy x y 0 [] [97]:=⟨Pn,Pr,by decide,rfl,by decide,λ_ _ h=>ub (us:=[.str [97]]) h rfl (by decide),SE⟩
theorem SK:Fy 98 99 1 [98] [97,98]:=⟨Po,Pt,by decide,rfl,by decide,λ_ _ h=>ub (us:=[.str [97],.str [98]]) h rfl (by decide),SG⟩
theorem SM:Fy 99 98 1 [99] [97,99]:=⟨Pp,Pu,by decide,rfl,by decide,λ_ _ h=>ub (us:=[.str [97],.str [99]]) h rfl (by decide),SH⟩
theorem PH:Fy 98 99 2 [98,99] [97,98,99]:=⟨L8,Ma,by decide,rfl,by decide,λ_ _ h=>ub (us:=[.str [97],.str [98],.str [99]]) h rfl (by decide),Je⟩
theorem PJ:Fy 99 98 2 [99,98] [97,98,99]:=⟨L9,Mb,by decide,rfl,by decide,λ_ _ h=>ub (us:=[.str [97],.str [98],.str [99]]) h rfl (by decide),Je⟩
theorem xS {x y:Nat}{es:List Nat}(D:Fy x y i es ls)(hj:js.length<=40)(hc:c<900){mk:V}(dg :∀U,ig .NotEq (jK es.length) mk U=some true)(F:LF x y fr)(h0:PC (aE fr 93 (.int i)) U=.next (aE fr 93 (.int i)) (dp (fC js c) es mk kd tl)) :
  O3 (λbC ay us=>LF x y bC) (λbC ay us=>Fi (aE fr 93 (.int i)) U=.next bC (dp (fC js (c+3:Nat)) es (jK es.length) (tl.length+26) (tl++[dF (i+1),dF (i+1),.dict .tup ay,.list us]))) (λbC ay us=>d7 (i+1) ay):=by
 have K0:fM [74,79,50,49,82,93] fr (aE fr 93 (.int i)):=.set _ _ (by decide);have F0:=F.keep K0;obtain⟨bC,ay,us,K,I,e⟩:=Jg D hj hc dg (kd:=kd) (tl:=tl) F0 (cV _ _ _);exact⟨bC,ay,us,F0.keep (K.more (by decide)),by refine(aK h0).trans ?_;exact e,I⟩
theorem Mk {x y:Nat}{T5 T6:List Nat}(D1:Fy x y 1 [x] T5)(D2:Fy x y 2 [x,y] T6)(T1 :∀a b c d e,kJ [] x [a,b,c,d,e])(T2 :∀a b c d e d1 e1 f1 g1,kJ [x] y [a,b,c,d,e,.list [.int 3],.list [],.list [.int 2],d1,e1,f1,g1])(S1:i3 [x])(S2:i3 [x,y])(hj:js.length<=40)(hc:c<100)(F:LF x y fr) :
  Sb (λbC tl ay us=>LF x y bC) (λbC tl ay us=>d7 3 ay) (λbC tl ay us=>XF fr (dp (fC js c) [] .none 24 [.dict .tup []])=.next bC (dp (fC js (c+9:Nat)) [x,y] (jK 2) (tl.length+24) (tl++[.dict .tup ay]++[.list us]))):=by
 obtain⟨cz,k1,u1,F1,e1,_⟩:=xS (SJ x y) hj (show c<900 by exact q1 ‹_› (by rfl)) (mk:=.none) (λ_=>rfl) (kd:=24) (tl:=[.dict .tup []]) F (PG (x:=x) (y:=y) (cV _ _ _));have e1:Fi (aE fr 93 (.int (0:Nat))) (dp (fC js c) [] .none 24 [.dict .tup []])=.next cz (dp (fC js (c+3:Nat)) [] (jK 0) 27 [.dict .tup [],dF 1,dF 1,.dict .tup k1,.list u1]):=e1;have b1:PC (aE cz 93 (.int (1:Nat))) (dp (fC js (c+3:Nat)) [] (jK 0) 27 [.dict .tup [],dF 1,dF 1,.dict .tup k1,.list u1])=.next (aE cz 93 (.int (1:Nat))) (dp (fC js (c+3:Nat)) [x] (jK 0) 27 [.dict .tup [],dF 1,dF 1,.dict .tup k1,.list u1,.list [.int 3],.list [],.list [.int 2]]):=
  Jm (z:=x) (j:=0) (F1.keep (.set _ _ (by decide))) (cV _ _ _) rfl (T1 (.dict .tup []) (dF 1) (dF 1) (.dict .tup k1) (.list u1)) S1
 obtain⟨cG,k2,u2,F2,e2,_⟩:=xS D1 hj (show c+3<900 by exact XW ‹_› (by rfl)) (λ_=>rfl) F1 b1;have e2:Fi (aE cz 93 (.int (1:Nat))) (dp (fC js (c+3:Nat)) [] (jK 0) 27 [.dict .tup [],dF 1,dF 1,.dict .tup k1,.list u1])=.next cG (dp (fC js (c+6:Nat)) [x] (jK 1) 34 [.dict .tup [],dF 1,dF 1,.dict .tup k1,.list u1,.list [.int 3],.list [],.list [.int 2],dF 2,dF 2,.dict .tup k2,.list u2]):=e2;have b2:PC (aE cG 93 (.int (2:Nat))) (dp (fC js (c+6:Nat)) [x] (jK 1) 34 [.dict .tup [],dF 1,dF 1,.dict .tup k1,.list u1,.list [.int 3],.list [],.list [.int 2],dF 2,dF 2,.dict .tup k2,.list u2])=.next (aE cG 93 (.int (2:Nat))) (dp (fC js (c+6:Nat)) [x,y] (jK 1) 34 [.dict .tup [],dF 1,dF 1,.dict .tup k1,.list u1,.list [.int 3],.list [],.list [.int 2],dF 2,dF 2,.dict .tup k2,.list u2,.list [.int 4],.list [],.list [.int 2]]):=
  Jm (z:=y) (j:=1) (F2.keep (.set _ _ (by decide))) (cV _ _ _) rfl (T2 (.dict .tup []) (dF 1) (dF 1) (.dict .tup k1) (.list u1) (dF 2) (dF 2) (.dict .tup k2) (.list u2)) S2
 obtain⟨ka,k3,u3,F3,e3,I3⟩:=xS D2 hj (show c+6<900 by exact XW ‹_› (by rfl)) (λ_=>rfl) F2 b2;have e3:Fi (aE cG 93 (.int (2:Nat))) (dp (fC js (c+6:Nat)) [x] (jK 1) 34 [.dict .tup [],dF 1,dF 1,.dict .tup k1,.list u1,.list [.int 3],.list [],.list [.int 2],dF 2,dF 2,.dict .tup k2,.list u2])=.next ka (dp (fC js (c+9:Nat)) [x,y] (jK 2) 41 [.dict .tup [],dF 1,dF 1,.dict .tup k1,.list u1,.list [.int 3],.list [],.list [.int 2],dF 2,dF 2,.dict .tup k2,.list u2,.list [.int 4],.list [],.list [.int 2],dF 3,dF 3,.dict .tup k3,.list u3]):=e3;refine⟨ka,[.dict .tup [],dF 1,dF 1,.dict .tup k1,.list u1,.list [.int 3],.list [],.list [.int 2],dF 2,dF 2,.dict .tup k2,.list u2,.list [.int 4],.list [],.list [.int 2],dF 3,dF 3],k3,u3,F3,I3,?_⟩;have el:XF fr (dp (fC js c) [] .none 24 [.dict .tup []])=dJ (az 93) Fi [.int (0:Nat),.int (1:Nat),.int (2:Nat)] fr (dp (fC js c) [] .none 24 [.dict .tup []]):=rfl;refine el.trans ((dH rfl e1).trans ((dH rfl e2).trans ((dH rfl e3).trans ?_)));rfl
theorem Jn {x y:Nat}(D:Fy x y 2 [x,y] ls){h:O}(F:LF x y fr)(I:d7 3 ay) :
  fk (λaJ=>d7 3 aJ) (λaJ=>ZE fr (dp h [x,y] (jK 2) (tl.length+24) (tl++[.dict .tup ay]++[.list us]))=.next fr (dp h [x,y] (jK 2) (tl.length+24) (tl++[.dict .tup aJ]++[.list us]))):=by
 have C:=Jd D.H D.M h tl (by refine rl D.hL ?_;decide) (λz=>(xP D.kU 112 z).2 rfl);rw[D.hL] at C;have key :∀ay,d7 3 ay->fk (λaJ=>d7 3 aJ) (λaJ=>dS [.ref 23,.int 1,.int 200] (dp h [x,y] (jK 2) (tl.length+24) (tl++[.dict .tup ay]++[.list us]))=.ok (.int 0) (dp h [x,y] (jK 2) (tl.length+24) (tl++[.dict .tup aJ]++[.list us]))):=λay I=>by
  have C1:=C [.list us];obtain⟨aJ,I',e⟩:=Pb C1 28 ay I;obtain⟨mk,hg⟩:=C1.get;refine⟨aJ,I',?_⟩;have:=Dm C (J:=[.list us]) ⟨_,_,_,hg ay⟩ (C1.PY ay 200 (by decide)) (C1.C6 ay) e;rw[jB,jB] at this;exact this
 obtain⟨k1,I1,e1⟩:=key ay I;obtain⟨k2,I2,e2⟩:=key k1 I1;have hg :∀ay,lW 23 (dp h [x,y] (jK 2) (tl.length+24) (tl++[.dict .tup ay]++[.list us])):=λay=>⟨_,_,_,rfl⟩;refine⟨k2,I2,?_⟩;have n1:=t4 (k:=0) (hg k1) e2 (.inr (by decide));rw[aA (by decide)] at n1;refine or_false (dD (((hO (g3:=ai 90) (hg ay) (λ_ _ _=>rfl) F.Ce (ao F.Px) rfl (ao F.Px)).1).trans e1) rfl ua).1 ?_;exact(dD (op:=.IsNot) (g:=ah .none) (b:=.none) (c:=false) (((hO (g2:=ah (.int 200)) (g3:=ah (.int 0)) (hg k1) (λ_ _ _=>rfl) F.Ce (ao F.Px) rfl rfl).2).trans n1) rfl rfl).1
theorem Fj {is:List Int}(hl:is.length<=63):O1 (λfr U=>CY [(88,.list (is.map .int))] []=.next fr U) (λfr U=>fr.lookup 78=some (.ref 23)) (λfr U=>fr.lookup 89=some (.int 0)) (λfr U=>fr.lookup 90=some (.int 1)) (λfr U=>lW 23 U):=by
 obtain⟨js,ZF⟩ :∃js,js =(is.take 40).map λi=>i.fmod 5040:=⟨_,rfl⟩;have hj:js.length<=40:=by rw[ZF,cL,List.length_take];exact Nat.min_le_left 40 is.length
 have w0:ZC [(88,.list (is.map .int))] []=.next (XG (.list (is.map .int))) (fC js 0::Ji):=by
  have ec:bO [] (az 87) (bl (iO 40 (ai 88))) none (aU .Mod (xY G6 [(ai 87)]) (ah (.int 5040))) [(88,.list (is.map .int))] []=.ok (.list (js.map .int)) []:=by
   rw[ZF,List.map_map];refine gx V.int (λi=>.int (i.fmod 5040)) (is.take 40) ?_ (λi _=>⟨_,rfl,rfl⟩) (by rw[List.length_take];exact Vc);have ez:cD (is.map V.int).length=true:=bN (by rw[cL];exact q3 ‹_› (by rfl));have eu:iO 40 (ai 88) [(88,.list (is.map .int))] []=.ok (.list ((is.map .int).take 40)) []:=by
    show Res.cN (if cD (is.map V.int).length then some (V.list ((is.map .int).take 40)) else .none) _=_;rw[ez];rfl
   unfold bl;rw[ME.bind,eu,List.map_take];rfl
  have e1:dj [(bO [] (az 87) (bl (iO 40 (ai 88))) none (aU .Mod (xY G6 [(ai 87)]) (ah (.int 5040)))),(ah (.int 0))] [(88,.list (is.map .int))] []=.ok (.ref 0) [fC js 0]:=by
   unfold dj aS aS;rw[ME.bind,ME.bind,ec];rfl
  exact iv (o3 e1 (Jj _ _)) rfl
 obtain⟨r,hr,e4⟩:=xR (es:=[]) (mk:=.none) (kd:=24) (J:=[.dict .tup []]) (f:=ah (.int 2)) (m:=2) (c:=0) (fr:=Mf (.list (is.map .int))) hj (by decide) rfl (λ_=>rfl) (by decide) (by decide);have w4 :∀x y,[x,y] =(if r=0 then [98,99] else [99,98])->ZD (Mf (.list (is.map .int))) (fC js 0::Ja [])=.next ((92,.list [.str [x],.str [y]]) ::(78,.ref 23)::Mf (.list (is.map .int))) (dp (fC js (1:Nat)) [] .none 24 [.dict .tup []]):=λx y nO=>by
  have e5:aU .Sub (ah (.int 1)) (aU .Mult (ah (.int 2)) (uS (ah (.int 2)))) (Mf (.list (is.map .int))) (dp (fC js 0) [] .none 24 [.dict .tup []])=.ok (.int (1 - 2 * r)) (dp (fC js (1:Nat)) [] .none 24 [.dict .tup []]):=(bk rfl ((bk rfl e4).trans rfl)).trans rfl;have e6:CI (cZ [(ah (.str [98])),(ah (.str [99]))]) (aU .Sub (ah (.int 1)) (aU .Mult (ah (.int 2)) (uS (ah (.int 2))))) (Mf (.list (is.map .int))) (dp (fC js 0) [] .none 24 [.dict .tup []])=.ok (.list [.str [x],.str [y]]) (dp (fC js (1:Nat)) [] .none 24 [.dict .tup []]):=by
   refine(bL (show cZ [(ah (.str [98])),(ah (.str [99]))] (Mf (.list (is.map .int))) (dp (fC js 0) [] .none 24 [.dict .tup []])=.ok (.list [.str [98],.str [99]]) (dp (fC js 0) [] .none 24 [.dict .tup []]) from rfl)).trans ((bL e5).trans ?_);have h2:r=0\/r=1:=by exact q89 ‹_›
   rcases h2 with rfl |rfl <;>(cases nO;rfl)
  exact iv (o3 (Cf _ _) e6) rfl
 have go :∀x y (T5 T6:List Nat),[x,y] =(if r=0 then [98,99] else [99,98])->Fy x y 1 [x] T5->Fy x y 2 [x,y] T6->(∀a b c d e,kJ [] x [a,b,c,d,e])->(∀a b c d e d1 e1 f1 g1,kJ [x] y [a,b,c,d,e,.list [.int 3],.list [],.list [.int 2],d1,e1,f1,g1])->i3 [x]->i3 [x,y]->
   O1 (λfr U=>CY [(88,.list (is.map .int))] []=.next fr U) (λfr U=>fr.lookup 78=some (.ref 23)) (λfr U=>fr.lookup 89=some (.int 0)) (λfr U=>fr.lookup 90=some (.int 1)) (λfr U=>lW 23 U):=λx y T5 T6 nO D1 D2 T1 T2 S1 S2=>by
  obtain⟨fr5,tl,ay,us,F,I,e7⟩:=Mk D1 D2 T1 T2 S1 S2 hj (show 1<100 by decide) (fr:=(92,.list [.str [x],.str [y]]) ::(78,.ref 23)::Mf (.list (is.map .int))) ⟨rfl,rfl,rfl,rfl,rfl,rfl⟩;obtain⟨aJ,_,e8⟩:=Jn D2 (h:=fC js (1+9:Nat)) (tl:=tl) (us:=us) F I;refine⟨fr5,dp (fC js (1+9:Nat)) [x,y] (jK 2) (tl.length+24) (tl++[.dict .tup aJ]++[.list us]),?_,F.Ce,F.P7,F.Px,⟨_,_,_,rfl⟩⟩;rw[Jh,aK w0,<- wx XD,<- wx XC,aK (PD (fC js 0) _),aK (w4 x y nO),aK e7];exact e8
 by_cases h:r=0
 .exact go 98 99 _ _ (by rw[aA h]) SK PH PE Mg Mi Jk
 .exact go 99 98 _ _ (by rw[ax h]) SM PJ PF Mh Mj Jl
theorem Ah {aO:Nat}{c:Int}(hg:lW aO U):dS [.ref aO,.int c,.int 201] U=.exc 4 U:=by
 obtain⟨x,y,z,hg⟩:=hg;have e:aw 1 60 d6 (ai 10) [(ai 34)] [(10,.ref aO),(41,.int c),(34,.int 201)] U=.exc 4 U:=(jl hg (λ_ _ _=>rfl) rfl rfl).trans rfl;show dB (pL [(10,.ref aO),(41,.int c),(34,.int 201)] U)=_;unfold pL aL bM ct;exact rl e rfl
theorem Ml {aO:Nat}{c:Int}(hg:lW aO U):iQ [.ref aO,.int c,.int 201,.int 0] U=.exc 4 U:=by
 have em:=Ah (c:=c) hg;obtain⟨x,y,z,hg⟩:=hg;have e:aw 1 50 dS (ai 10) [(ai 41),(ai 34)] (nJ aO c 201 0) U=.exc 4 U:=(jl hg (λ_ _ _=>rfl) rfl rfl).trans em;have et:uR (nJ aO c 201 0) U=.exc 4 U:=by
  unfold uR rS jD;skip;show(((aw 1 50 dS (ai 10) [(ai 41),(ai 34)]).bind (λd=>λ_ U=>Res.cN (ig .Lt (.int 0) d U) U) (nJ aO c 201 0) U).andThen λb U=>Res.ok (!b) U)=_;rw[ME.bind,e];rfl
 show dB (aL (fw uR (cn (ah .none)) bF) _ (nJ aO c 201 0) U)=_;unfold aL fw ct;exact rl et rfl
theorem Mm {aO:Nat}(hg:lW aO U)(Nb:fr.lookup 78=some (.ref aO))(h89:fr.lookup 89=some (.int 0)):aw 1 85 iQ (ai 78) [(ai 89),(ah (.int 201)),(ah (.int 0))] fr U=.exc 4 U:=
 ((hO (g2:=ah (.int 201)) (g3:=ah (.int 0)) hg (λ_ _ _=>rfl) Nb (ao h89) rfl rfl).2).trans (Ml hg)
theorem Jo {aO:Nat}(hg:lW aO U)(Nb:fr.lookup 78=some (.ref aO))(ZG:fr.lookup 90=some (.int 1)):aw 1 50 dS (ai 78) [(ai 90),(ah (.int 201))] fr U=.exc 4 U:=by
 refine((hO (g3:=ai 90) hg (λ_ _ _=>rfl) Nb (ao ZG) rfl (ao ZG)).1).trans ?_;exact Ah hg
set_option tactic.hygienic true
theorem Fl {r:List Stmt}{Q:Flow->Shared->Prop} :∀(l:List Stmt) {Γ:Ctx} (Jq:Γ.In A) (p:Pos) (s:Shared),
  Sem.wp M Γ (execs l env) (λf p' s'=>match f with |.next=>wpAny M A (execs r env) Q E s' |f=>Q f s') (λe _ s'=>E e s') p s->Sem.wp M Γ (execs (l++r) env) (λf _ s'=>Q f s') (λe _ s'=>E e s') p s:=by
 intro y
 induction y with
 |nil=>
  intro _ Jq p s h;exact h _ p Jq
 |cons st l ih=>
  intro Γ Jq p s h;rw[List.cons_append,execs_cons,Sem.wp_bind'];rw[execs_cons,Sem.wp_bind'] at h;refine Sem.wp_mono M Γ _ (λf p' s' h'=>?_) (λ_ _ _ h'=>h') _ _ h
  cases f <;> first |exact ih Jq p' s' h' |exact h'
theorem Fm {l r:List Stmt}{Q:Flow->Shared->Prop}(h:wpAny M A (execs l env) (λf s'=>match f with |.next=>wpAny M A (execs r env) Q E s' |f=>Q f s') E s):wpAny M A (execs (l++r) env) Q E s:=
 λΓ p Jq=>Fl l Jq p s (h Γ p Jq)
theorem Mn :(kP 45).body =(kP 45).body.dropLast++(kP 45).body.drop 7:=by kernel_rfl
theorem wy {h h':Heap}(C:CodeHd h 540 538)(k :∀b o,h.get? b=some o->bI o=false->h'.get? b=some o):CodeHd h' 540 538:=by
 obtain⟨o,vs,Hu,tf,zm,tg,RW,Hv,tt,q1,q2,q3,q⟩:=C;exact⟨o,vs,Hu,tf,zm,tg,RW,Hv,tt,k _ _ q1 (aR eJ q3),q2,q3,q⟩
theorem Dq:W.h₀=hideAll dt.2.1.heap [538]:=by show hW=_;unfold hW;rfl
theorem SN (hn:iL.name = "law") :∀nQ,FI dt.1 nQ dt.2.1 dt.2.2.1 dt.2.2.2:=by
 intro nQ G ae fa o pm cd doc dV kV ho hd Yx hD ZH hg args WO as XH XI hrd Yi xZ;obtain⟨Rm,⟨os,XJ⟩,vN,PK,oL,fL,xX,hfL,hcL⟩:=ae;obtain⟨KX,F,hKn⟩:=JL Rm
 wrow_args XH XI hrd Yi xZ
 rename_i is hs Nf Ry TJ Al w4 w3 a ms w0 hL ra w1 r0 hI hr hlen ZI;have hfa :(541:Addr)=fa:=by
  rw[hn,mg_of KX G.T.g F.ex.law] at ZH;injection ZH with e;injection e
 subst hfa;have gk :∀b o,dt.2.1.heap.get? b=some o->b≠538->(hideAll dt.2.1.heap [538]).get? b=some o:=λb o e hb=>hideAll_get [538] e λz=>hb (dM z);have QM :∀{b:Addr} {m:Str->Option Value},dt.2.1.heap.Ns b m->b≠538->(hideAll dt.2.1.heap [538]).Ns b m:=λ⟨o,es,ep,e,r⟩ hb=>⟨o,es,ep,gk _ _ e hb,r⟩;have ZJ:KW.In (hideAll dt.2.1.heap [538]):=λb o e=>gk b o (KX b o e) λz=>by rw[z,hKn] at e;injection e
 have TR:TopRead i6 (looseW i6 []) dt.2.2.1 dt.2.2.2 (hideAll dt.2.1.heap [538]):=by
  have T:=topRead_of G.T;obtain⟨mc,q1,q2⟩:=T.nolimit;exact⟨QM T.g (by decide),QM T.b (by decide),⟨mc,QM q1 (by decide),q2⟩,T.builtins,T.free⟩
 have HB :(hideAll dt.2.1.heap [538]).BuiltinsAt dt.2.2.1 538:=by
  obtain⟨bm,ob,b1,b2,b3,b4,b5,b6⟩:=G.T.bmain;have n1:bm≠538:=λz=>by rw[z,PK] at b3;injection b3 with b3;subst b3;injection b4
  refine⟨bm,ob,b1,b2,λz=>?_,n1,gk _ _ b3 n1,b4,b5,b6⟩;obtain⟨o,es,ep,e,r,_⟩:=G.T.g;rw[<- z,b3] at e;injection e with e;subst e;rw[b6] at r;injection r
 rw[<- Dq] at gk ZJ TR HB;have x:dI:=⟨⟨ZJ,⟨os,gk _ _ XJ (by decide)⟩,TR⟩,F⟩;obtain⟨bC,bB,XK,Ce,P7,Px,hC⟩:=Fj (is:=is) (q65 ‹_›);have room:rR (213+1) callerA []:=⟨rfl,rfl,by decide,by decide⟩;have S:St dW.nil [] dt.2.1:=⟨⟨λb o e=>of_hideAll _ (Dq▸e),x.O,λb h=>(by cases h),λb h=>(by cases h),List.nodup_nil,rfl,λi o p h=>(by cases i <;> cases h)⟩,rfl,rfl⟩
 have live:iV [] dW.nil dt.2.1.heap:=λe h=>(by cases h);obtain⟨ob,V5,XM,ne,N1⟩:=hL;have rv:aD dW.nil dt.2.1.heap [.list (is.map .int)] [.ref a]:=.cons (.list V5 XM N1 (λh=>by cases h) (o9 hI)) .nil;obtain⟨ol,fd,kX,Gz,e1,e2,e3,e4,e5,e6,e7,e8,e9⟩:=(x.fn 45).fd;have H:=CR (i:=45) [88] (by kernel_rfl) e1 e2 e3 e4 e5 e6 e7 e9;have SO:fd.code=.ref 540:=by
  have:=KX _ _ kX;rw[show kA 45=541 from rfl,xX] at this;injection this with this;subst this;rw[hfL] at Gz;injection Gz with Gz;subst Gz;exact hcL
 refine enter_call (kn_post (tabs:=[(540,538)]) (λq hq=>by cases dM hq;exact⟨vN,PK⟩) (λ_ _=>rfl) (sG kX Gz H room S live rv rfl λenv s2 ok bJ ZK A6 S1 F1 x1 newD T7=>codeAny_func ?_));have C2:CodeHd s2.heap 540 538:=wy vN λb o e q=>x1.keep b o e (λz=>by cases z) q;have P2:s2.heap.get? 538=some (tabObj #[]):=x1.keep _ _ PK (λz=>by cases z) rfl;rw[Mn];refine Fm (R7 x (n:=213) (by decide) ⟨callerA.deeper env,env,[env]⟩ ok bJ dW.nil [] [(88,.list (is.map .int))] s2 S1 F1 _ _ ?_);rw[XK];intro qG s3 S3 x3 F3;have C3:CodeHd s3.heap 540 538:=wy C2 λb o e q=>x3.keep b o e (λz=>by cases z) q;have P3:s3.heap.get? 538=some (tabObj #[]):=x3.keep _ _ P2 (λz=>by cases z) rfl;have ZL:W.h₀.get? 538=none:=by rw[Dq];exact hideAll_none [538] (.head _)
 have hx:env.scope.names.lookup (ofString "_law_is_refused")=some .globalImplicit:=by rw[bJ];kernel_rfl
 have hl:=(rfl :(kP 45).body.drop 7 =(kP 45).body.drop 7)
 conv at hl=>rhs;whnf
 rw[hl];refine wpAny_execs_cons (wpAny_Return_some (BoolOp_and (tJ (x:=x) (n:=211) (dq:=[78,90]) (fe:=aw 1 50 dS (ai 78) [(ai 90),(ah (.int 201))]) ok S3 F3 hx (x.ns 30) (x.ns 20) (ZK.trans SO) C3 P3 trivial rfl ZL HB (zJ _ ?_)
  (au (c:=1) (m:=50) (eV x 78) (ag (λ_=>rfl) (eV x 90) (ag (λ_=>rfl) aq aj)) (λ_=>rfl) (pM x (by exact Nat.le_of_ble_eq_true Nf)) (x.cg 1) (br rfl) rfl (mo (x.find 40) (x.fn 32)) (λ_=>⟨_,rfl⟩))
  (Jo hC (by rw[fU (by decide)];exact Ce) (by rw[fU (by decide)];exact Px)) (x.fn 46) λyF s4 c4 S4 F4 P4 C4=>?_)))
 .rw[bJ];kernel_rfl
 refine wpAny_truthy_bool ?_;refine BoolOp_one (tJ (x:=x) (n:=211) (dq:=[78,89]) (fe:=aw 1 85 iQ (ai 78) [(ai 89),(ah (.int 201)),(ah (.int 0))]) ok S4 F4 hx (x.ns 30) (x.ns 20) (ZK.trans SO) C4 P4 ?_ ?_ ZL HB (zJ _ ?_)
  (au (c:=1) (m:=85) (eV x 78) (ag (λ_=>rfl) (eV x 89) (ag (λ_=>rfl) aq (ag (λ_=>rfl) aq aj))) (λ_=>rfl) (zG x (by exact Nat.le_of_ble_eq_true Nf)) (x.cg 1) (br rfl) rfl (mo (x.find 46) (x.fn 36)) (λ_=>⟨_,rfl⟩))
  (Mm hC (by rw[fU (by decide)];exact Ce) (by exact rl (fU (by decide) ..)<|P7)) (x.fn 46) λGv s5 c5 S5 F5 P5 C5=>?_)
 .exact trivial
 .kernel_rfl
 .refine rl bJ ?_;kernel_rfl
 refine⟨⟨.inl ⟨.bool true,.bool true,[],rfl,λcls=>?_,.bool true,?_,λ_=>⟨List.nodup_nil,λa h=>by cases h⟩⟩,λb o e=>S5.heap.base b o (by exact rl Dq<|e),S5.os,S5.gens.trans hg⟩,⟨_,P5⟩,trivial⟩
 .rfl
 .wrow_post
theorem SP (hn:iL.name = "law"):WalkO i6 [] (XL i6 []) YP gn.row.toRowW iL [] λf vs=>PySem.call f vs:=Nm (SN hn)
theorem XN:gn.wellSaid=true:=by kernel_rfl
theorem Fn:defOf i6 gn.row.name=some (iL,[]):=by kernel_rfl
theorem Ai:iL.name = "law":=by kernel_rfl
theorem hp_:gn.row.prog.theDef gn.row.name=some (iL.params,iL.body,iL.scope):=by kernel_rfl
theorem hk_:kwWritten? iL.params.kwonlyargs iL.params.kw_defaults=some []:=by kernel_rfl
theorem ok_ :(chainsOk i6&&opensWell gn.row.prog&&(frees gn.row.toRowW&&gn.row.within.isEmpty))=true:=by decide +kernel
theorem SQ:gn.row.prog.bare:=⟨rfl,rfl,rfl,rfl,rfl,by decide +kernel⟩
theorem hw_:gn.row.toRowW.promised:=by w_witness2
theorem Jp (left:LeftO gn.row.prog i6 [] (λs=>xlAt i6 [] s&&recOk (RowW.records gn.row.toRowW) s) Yf Ya 7214):gn.Holds:=
 holds_law XN λs=>holds_open (q:=i6) (loose:=[]) (Xt:=λs=>xlAt i6 [] s&&recOk (RowW.records gn.row.toRowW) s) (XP:=XL i6 []) (Yf:=Yf) (Ya:=Ya) (YP:=YP) (N:=7214) left Xb Ll
  (λs e=>xl_of s (cK e).1) XL.keeps Fn hp_ hk_ (λs e=>recFacts_of (cK e).2) rfl s ok_ SQ hw_ (SP Ai)
theorem Fo:LeftO gn.row.prog i6 [] (λs=>xlAt i6 [] s&&recOk (RowW.records gn.row.toRowW) s) Yf Ya 7214:=JM Qw λw os=>by
 obtain⟨fS,hs,XO⟩:=Option.map_eq_some_iff.mp (Qz w os);obtain⟨r,hr,PB⟩:=Option.bind_eq_some_iff.mp hs;have XQ :∃s' c' p',segRunT treeTable jP w 11 (some (.ref 6)) 1 4000 (Qv w os) (piecesOf Ck JO uV q0 [topFrame q0])=some (.next,s',c',p')/\topRun treeTable jP w 11 (some (.ref 6)) 2 s'.abs ⟨doneF .next,c',p',[topFrame q0]⟩=some r:=by
  unfold Qy at hr
  split at hr
  .rename_i s' c' p' e;exact⟨s',c',p',e,hr⟩
  .cases hr
 obtain⟨s',c',p',e1,e2⟩:=XQ;have h4:=topRun_mono (7214 - (12+(1+(4000+2)))) _ _ _ _ (go_top (VE w os) (piece_block (Nt w os) (Dv (segRun_of e1) e2)));rw[show 12+(1+(4000+2))+(7214 - (12+(1+(4000+2))))=7214 from rfl] at h4;have hz:=Qx w os;simp only[Prod.mk.injEq] at hz;obtain⟨z1,z2,z3⟩:=hz;have t:topFrom treeTable jP w 7214 (SB w os)=some fS:=by
  unfold topFrom;rw[z1,z2,z3,h4];exact PB
 exact(aR (Option.map _) t).trans (aR some XO)
theorem XR:gn.Holds:=Jp Fo
end Mine
end
theorem PySem.Challenge.cw_sa0043_01_holds : PySem.Challenge.rw_sa0043_01.Holds :=
  Mine.XR
