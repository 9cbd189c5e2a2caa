import PyProof.Rows.All
import Wide.All
import OpenK.AllK
import Wide.FinOn
import KE.KNest
import OpenK.KApp
import KE.KDictAnyGet
import PyProof.IsiNone
import PyProof.IsiPairs
import PyProof.WalkInts
import PyProof.TupleOfSeq
import PyProof.TupleCall
import PyProof.Conv_int_bool
import PyProof.RangeFor
import PyProof.Rows.StrCase
import PyProof.Rows.StrFit
import PyProof.StrCalls3
import Lean
import PySem.Challenge.RW_nt0133_01
set_option Elab.async false
set_option linter.all false
set_option maxRecDepth 100000
set_option bootstrap.genMatcherCode false
set_option backward.match.sparseCases false
namespace Mine
theorem bc {p:Prop} (h:¬p->False):p:=Classical.byContradiction h
end Mine
section

namespace Mine
section
variable {a b c d e f g h m n p q r s t u v w:Nat} {i j k l x y z:Int}
theorem Uj:¬a % 2=1->2 * (a / 2)=a:=fun h=>Nat.mul_div_cancel' (Nat.dvd_of_mod_eq_zero ((Nat.mod_two_eq_zero_or_one a).resolve_right h))
theorem Zh:¬a=0 -> ¬a % 2=1->0<a / 2:=fun h k=>Nat.pos_of_ne_zero fun z=>h ((Uj k).symm.trans (congrArg (2 * ·) z))
theorem Zi:a % 2=1->2 * (a / 2)+1=a:=fun h=>(congrArg (2 * (a / 2) + ·) h).symm.trans (Nat.div_add_mod a 2)
theorem Uw:a=1\/a=2\/a=3->a<=3:=fun h=>h.elim (fun e=>Nat.le_trans (Nat.le_of_eq e) (by decide)) (Or.rec (fun e=>Nat.le_trans (Nat.le_of_eq e) (by decide)) Nat.le_of_eq)
theorem Zj:a<=3->b<=1->0+2 * b+1+3 * a<=12:=fun h k=>Nat.add_le_add (Nat.succ_le_succ (Nat.add_le_add_left (Nat.mul_le_mul_left 2 k) 0)) (Nat.mul_le_mul_left 3 h)
theorem Ux:a<=3->0+1+3 * a<=10:=fun h=>Nat.add_le_add_left (Nat.mul_le_mul_left 3 h) _
theorem Qc:a<=2->0+2 * a<=4:=fun h=>Nat.add_le_add_left (Nat.mul_le_mul_left 2 h) _
theorem Zk:a<=2->a=0\/a=1\/a=2:=fun h=>(Nat.lt_or_eq_of_le h).elim (fun k=>(Nat.le_one_iff_eq_zero_or_eq_one.1 (Nat.le_of_lt_succ k)).imp_right Or.inl) (fun e=>.inr (.inr e))
theorem azf:1<=i->i<4->i=1\/i=2\/i=3:=fun h k=>(Int.lt_or_eq_of_le (Int.le_of_lt_add_one (b:=3) k)).elim (fun l=>(Int.lt_or_eq_of_le (Int.le_of_lt_add_one (b:=2) l)).elim (fun l=>.inl (Int.le_antisymm (Int.le_of_lt_add_one (b:=1) l) h)) (fun e=>.inr (.inl e))) (fun e=>.inr (.inr e))
theorem azg:0<=i->i<3->i=0\/i=1\/i=2:=fun h k=>(Int.lt_or_eq_of_le (Int.le_of_lt_add_one (b:=2) k)).elim (fun l=>(Int.lt_or_eq_of_le (Int.le_of_lt_add_one (b:=1) l)).elim (fun l=>.inl (Int.le_antisymm (Int.le_of_lt_add_one (b:=0) l) h)) (fun e=>.inr (.inl e))) (fun e=>.inr (.inr e))
theorem P2:p<=q->a+q * (b+1)<800->a+p<800:=fun h k=>Nat.lt_of_le_of_lt (Nat.add_le_add_left (Nat.le_trans h (Nat.le_mul_of_pos_right q (Nat.succ_pos b))) a) k
theorem azh:p<=q->a+q * (b+1)+40<800->a+p+40<800:=fun h k=>Nat.lt_of_le_of_lt (Nat.add_le_add_right (Nat.add_le_add_left (Nat.le_trans h (Nat.le_mul_of_pos_right q (Nat.succ_pos b))) a) 40) k
theorem Qd (c:Nat):a+c+c * b=a+c * (b+1):=(Nat.add_assoc a c (c * b)).trans (congrArg (a + ·) (Nat.add_comm c (c * b)))
theorem Uy:j<5 -> ¬5+(a:Int)<=j:=fun h k=>Int.not_le.2 h (Int.le_trans (Int.le_add_of_nonneg_right (Int.natCast_nonneg a)) k)
theorem Zl:max 0 (min i ↑a) = ↑(min i.toNat a):=Int.rec (fun n=>(Int.max_eq_right (Int.le_min.2 ⟨Int.natCast_nonneg n,Int.natCast_nonneg a⟩)).trans ((Nat.le_total n a).elim (fun h=>(Int.min_eq_left (Int.ofNat_le.2 h)).trans (congrArg Int.ofNat (Nat.min_eq_left h).symm)) (fun h=>(Int.min_eq_right (Int.ofNat_le.2 h)).trans (congrArg Int.ofNat (Nat.min_eq_right h).symm)))) (fun n=>congrArg Int.ofNat (Nat.zero_min a).symm) i
theorem Zm:¬a=0 -> ¬a % 2=1 -> ¬b=0 -> ¬b % 2=1 -> ¬b=a -> ¬b / 2 - 1=a / 2 - 1:=fun h k h' k' n e=>n ((Uj k').symm.trans ((congrArg (2 * ·) (Nat.sub_one_cancel (Zh h' k') (Zh h k) e)).trans (Uj k)))
theorem om2:a≠0 -> ¬a % 2=1 -> ¬b=0 -> ¬b % 2=1 -> ¬b=a -> ¬b / 2 - 1=a / 2 - 1:=Zm
theorem om7:a % 2=1->b % 2=1 -> ¬b=a -> ¬b / 2=a / 2:=fun h k n e=>n ((Zi k).symm.trans ((congrArg (2 * · + 1) e).trans (Zi h)))
theorem om3:¬a % 2=1->(2 * b+2<a↔b<a / 2 - 1):=fun h=>(Nat.lt_sub_iff_add_lt.trans ((Nat.mul_lt_mul_left (a:=2) (by decide)).symm.trans (Iff.of_eq (congrArg (2 * b+2 < ·) (Uj h))))).symm
theorem azi:a - min i.toNat a=a->i.toNat=0\/a=0:=fun h=>(Nat.eq_zero_or_pos (min i.toNat a)).elim (fun z=>(Nat.le_total i.toNat a).imp (fun l=>(Nat.min_eq_left l).symm.trans z) (fun l=>(Nat.min_eq_right l).symm.trans z)) (fun p=>(Nat.eq_zero_or_pos a).elim .inr (fun q=>absurd h (Nat.ne_of_lt (Nat.sub_lt q p))))
theorem azj:a<=2000->a - i.toNat<=2000:=Nat.le_trans (Nat.sub_le _ _)
theorem Uz:a<=b->b+1 - (a+1)<b+1 - a:=fun h=>Nat.lt_of_lt_of_eq (Nat.lt_succ_self (b - a)) (Nat.succ_sub h).symm |> Nat.lt_of_le_of_lt (Nat.le_of_eq (Nat.add_sub_add_right b 1 a))
theorem U0:a+1<=b->b - a=b - (a+1)+1:=fun h=>(Nat.succ_pred_eq_of_pos (Nat.sub_pos_of_lt h)).symm
theorem azk:¬a=b -> ¬a<b->a - b=a - (b+1)+1:=fun n h=>U0 (Nat.lt_of_le_of_ne (Nat.le_of_not_lt h) (Ne.symm n))
theorem azl:a<800->1500 - a=1500 - (a+1)+1:=fun h=>U0 (Nat.lt_trans h (by decide))
theorem U1:a=1\/a=2\/a=3->b<=1->0+2 * b+1+3 * a<800:=fun h k=>Nat.lt_of_le_of_lt (Zj (Uw h) k) (by decide)
theorem U2:a=1\/a=2\/a=3->b<=1->0+2 * b+1+3 * a+133<800:=fun h k=>Nat.lt_of_le_of_lt (Nat.add_le_add_right (Zj (Uw h) k) 133) (by decide)
theorem om8:2 * a+1<b↔a<b / 2:=(Iff.trans (Nat.le_div_iff_mul_le (by decide)) (Iff.of_eq (congrArg (· <= b) (Nat.mul_comm (a+1) 2)))).symm
theorem azm:¬0<=i->0<=i + ↑a->(i + ↑a).toNat<a:=fun n h=>(Int.toNat_lt h).2 (Int.lt_of_lt_of_le (Int.add_lt_add_right (Int.not_le.1 n) a) (Int.le_of_eq (Int.zero_add _)))
theorem om6:¬2 * a+2=0:=Nat.succ_ne_zero _
theorem Qe:1<=i->i<=4->i=1\/i=2\/i=3\/i=4:=fun h k=>(Int.lt_or_eq_of_le k).elim (fun l=>(azf h l).imp_right (Or.imp_right Or.inl)) (fun e=>.inr (.inr (.inr e)))
theorem U3:1<=i/\i<=4->i=1\/i=2\/i=3\/i=4:=fun h=>Qe h.1 h.2
theorem azn:0<=i->i<j->j=3->i=0\/i=1\/i=2:=fun h k e=>azg h (Int.lt_of_lt_of_le k (Int.le_of_eq e))
theorem azo:i=1\/i=2\/i=3\/i=4 + ↑a->j≠1->j≠2->j≠3->j≠4 + ↑a->i≠j:=fun h h1 h2 h3 h4=>h.elim (fun e=>e ▸ h1.symm) (Or.rec (fun e=>e ▸ h2.symm) (Or.rec (fun e=>e ▸ h3.symm) (fun e=>e ▸ h4.symm)))
theorem U4:i < ↑a \/ ↑a + ↑(b+1)<=i->i < ↑(a+1) \/ ↑(a+1) + ↑b<=i:=Or.imp (fun h=>Int.lt_trans h (Int.ofNat_lt.2 (Nat.lt_succ_self a))) (Int.le_trans (Int.le_of_eq (congrArg Int.ofNat (Nat.succ_add a b))))
theorem Qg:a<=a - 1+1:=Nat.le_add_of_sub_le (Nat.le_refl _)
theorem Li:a<=4->a - b<=4:=Nat.le_trans (Nat.sub_le _ _)
theorem azp:a<min b c - 0->a<b:=fun h=>Nat.lt_of_lt_of_le h (Nat.min_le_left _ _)
theorem U5:0<a->a - 1<a:=Nat.pred_lt_self
theorem U6:a+40<800->b<=4->a+2+7 * b<800:=fun h k=>Nat.lt_of_le_of_lt (Nat.le_trans (Nat.add_le_add_left (Nat.mul_le_mul_left 7 k) (a+2)) (Nat.add_le_add_left (by decide:30<=40) a)) h
theorem azq:1<=a->i < ↑a->i.toNat<a:=Int.rec (motive:=fun i=>1<=a->i<a->i.toNat<a) (fun _ _ k=>Int.ofNat_lt.1 k) (fun _ k _=>k) i
theorem om9:(2 * a+1) / 2=a:=Nat.mul_add_div (by decide) a 1
theorem Lj:a<=4->min (b+1) a<=4:=Nat.le_trans (Nat.min_le_right _ _)
theorem azr:a<=b->c<=100+60 * a->d=1->c+d<=100+60 * (b+1):=fun h k e=>Nat.le_trans (Nat.add_le_add k (Nat.le_trans (Nat.le_of_eq e) (by decide:1<=60))) (Nat.add_le_add_left (Nat.mul_le_mul_left 60 (Nat.succ_le_succ h)) 100)
theorem azs:a<=b->c<=310+4 * a->c+1<=310+4 * (b+1):=fun h k=>Nat.le_trans (Nat.add_le_add k (by decide:1<=4)) (Nat.add_le_add_left (Nat.mul_le_mul_left 4 (Nat.succ_le_succ h)) 310)
theorem om1:¬a=b->(a<b↔a<b+1):=fun n=>⟨Nat.lt_succ_of_lt,fun h=>Nat.lt_of_le_of_ne (Nat.le_of_lt_succ h) n⟩
theorem azt:a<=b+4->b<=310+4 * c->a<=310+4 * (c+1):=fun h k=>Nat.le_trans h (Nat.add_le_add_right k 4)
theorem azu:a<=b+60->b<=100+60 * c->a<=100+60 * (c+1):=fun h k=>Nat.le_trans h (Nat.add_le_add_right k 60)
theorem azv:a<=100+60 * b->c<=a+60->c<=100+60 * (b+1):=fun h k=>Nat.le_trans k (Nat.add_le_add_right h 60)
theorem azw:a<=310+4 * b->c<=a+4->c<=310+4 * (b+1):=fun h k=>Nat.le_trans k (Nat.add_le_add_right h 4)
theorem Uk:a<=2->a+1=1\/a+1=2\/a+1=3:=fun h=>(Zk h).imp (congrArg (· + 1)) (Or.imp (congrArg (· + 1)) (congrArg (· + 1)))
theorem U7:a<=2->b=a->b+1=1\/b+1=2\/b+1=3:=fun h e=>e ▸ Uk h
theorem azx:a=b->min i.toNat b=b->a<=i.toNat:=fun e k=>Nat.le_trans (Nat.le_of_eq (e.trans k.symm)) (Nat.min_le_left _ _)
theorem U8:i<j->k=1->(k=0↔j=i):=fun h e=>⟨fun z=>absurd (e.symm.trans z) (by decide),fun z=>absurd z (Int.ne_of_gt h)⟩
theorem U9:i<j->k = -1->(k=0↔i=j):=fun h e=>⟨fun z=>absurd (e.symm.trans z) (by decide),fun z=>absurd z (Int.ne_of_lt h)⟩
theorem azy:a<40->b<=310+4 * a->b<1000:=fun h k=>Nat.lt_of_le_of_lt (Nat.le_trans k (Nat.add_le_add_left (Nat.mul_le_mul_left 4 (Nat.le_of_lt h)) 310)) (by decide)
theorem Lk:1<=i/\i<=4->i<10:=fun h=>Int.lt_of_le_of_lt h.2 (by decide)
theorem Ll:1<=i/\i<=4->0<=i:=fun h=>Int.le_trans (by decide) h.1
theorem Qh:a<=4->b+1+33 * a<=b+133:=fun h=>Nat.add_le_add_left (Nat.mul_le_mul_left 33 h) (b+1)
theorem Va:a+200<800->b<=4->a+1+33 * b+40<800:=fun h k=>Nat.lt_of_le_of_lt (Nat.add_le_add_right (Qh k) 40) (Nat.lt_of_le_of_lt (Nat.add_le_add_left (n:=173) (m:=200) (by decide) a) h)
theorem Vb:a<=4->b+2+7 * a<=b+30:=fun h=>Nat.add_le_add_left (Nat.mul_le_mul_left 7 h) (b+2)
theorem Qi:1<=i/\i<j->1<=i/\i<j+1:=fun h=>⟨h.1,Int.lt_add_one_of_le (Int.le_of_lt h.2)⟩
theorem azz:a<=100+60 * b->b<=41->a+100<9900:=fun h k=>Nat.lt_of_le_of_lt (Nat.add_le_add_right (Nat.le_trans h (Nat.add_le_add_left (Nat.mul_le_mul_left 60 k) 100)) 100) (by decide)
theorem bz0:a<b->min b c<=a->c<=a:=fun h k=>(Nat.le_total b c).elim (fun l=>absurd (Nat.le_trans (Nat.le_of_eq (Nat.min_eq_left l).symm) k) (Nat.not_le_of_lt h)) (fun l=>Nat.le_trans (Nat.le_of_eq (Nat.min_eq_right l).symm) k)
theorem bz1 : -i<=j->j<i -> ¬j < -i /\ ¬j ≥ i:=fun h k=>⟨Int.not_lt.2 h,Int.not_le.2 k⟩
theorem bz2:i.toNat<a->i < ↑a:=fun h=>Int.lt_of_le_of_lt (Int.self_le_toNat i) (Int.ofNat_lt.2 h)
theorem Qj:a<=100->b<=4->a+5 * b<800:=fun h k=>Nat.lt_of_le_of_lt (Nat.add_le_add h (Nat.mul_le_mul_left 5 k)) (by decide)
theorem Lm:i = -1\/i=0\/i=1->j=1->i<=j:=fun h e=>Int.le_trans (b:=1) (h.elim (fun e=>Int.le_trans (Int.le_of_eq e) (by decide)) (Or.rec (fun e=>Int.le_trans (Int.le_of_eq e) (by decide)) Int.le_of_eq)) (Int.le_of_eq e.symm)
theorem Qk:i = -1\/i=0\/i=1->j = -1->j<=i:=fun h e=>Int.le_trans (b := -1) (Int.le_of_eq e) (h.elim (fun e=>Int.le_of_eq e.symm) (Or.rec (fun e=>Int.le_trans (by decide) (Int.le_of_eq e.symm)) (fun e=>Int.le_trans (by decide) (Int.le_of_eq e.symm))))
theorem Vc:a+3 * (b+1)<800->a+1+1<800:=P2 (p:=2) (q:=3) (by decide)
theorem Ql:a+7 * (b+1)<800->a+2+4<800:=P2 (p:=6) (q:=7) (by decide)
theorem Vd:a+33 * (b+1)+40<800->a<800:=fun h=>Nat.lt_of_le_of_lt (Nat.le_trans (Nat.le_add_right _ _) (Nat.le_add_right _ _)) h
theorem Ve:a+33 * (b+1)+40<800->a+1+1+40<800:=azh (p:=2) (q:=33) (by decide)
theorem Vf:a+33 * (b+1)+40<800->a+32<800:=fun h=>P2 (p:=32) (q:=33) (by decide) (Nat.lt_of_le_of_lt (Nat.le_add_right _ _) h)
theorem Vg:a+33 * (b+1)+40<800->a+1<800:=fun h=>P2 (p:=1) (q:=33) (by decide) (Nat.lt_of_le_of_lt (Nat.le_add_right _ _) h)
theorem Vh:a+5 * (b+1)<800->c<=a+2->c<800:=fun h k=>Nat.lt_of_le_of_lt k (P2 (p:=2) (q:=5) (by decide) h)
theorem Vi:a+5 * (b+1)<800->c<=a+2->c+1<800:=fun h k=>Nat.lt_of_le_of_lt (Nat.succ_le_succ k) (P2 (p:=3) (q:=5) (by decide) h)
theorem Vj:a<=3->0+1+3 * a+133<800:=fun h=>Nat.lt_of_le_of_lt (Nat.add_le_add_right (Ux h) 133) (by decide)
theorem Vk:a<=3->0+1+3 * a+200<800:=fun h=>Nat.lt_of_le_of_lt (Nat.add_le_add_right (Ux h) 200) (by decide)
theorem Vn:a<=3->0+1+3 * a<800:=fun h=>Nat.lt_of_le_of_lt (Ux h) (by decide)
theorem Vo:1<=i->j=i->1<=j/\j<i+1:=fun h e=>⟨Int.le_trans h (Int.le_of_eq e.symm),Int.lt_add_one_of_le (Int.le_of_eq e)⟩
theorem Vp:a<=b+1->c<=a+d->c<=b+(d+1):=fun h k=>Nat.le_trans k (Nat.le_trans (Nat.add_le_add_right h d) (Nat.le_of_eq (Nat.succ_add b d)))
theorem bz3:a<=b->c<=310+4 * a->c<=310+4 * b:=fun h k=>Nat.le_trans k (Nat.add_le_add_left (Nat.mul_le_mul_left 4 h) 310)
theorem bz4:a<=b->c<=100+60 * a->c<=100+60 * b:=fun h k=>Nat.le_trans k (Nat.add_le_add_left (Nat.mul_le_mul_left 60 h) 100)
theorem Qm:a=1\/a=2\/a=3->0+a<=4:=fun h=>Nat.le_trans (Nat.le_of_eq (Nat.zero_add a)) (Nat.le_succ_of_le (Uw h))
theorem Vq:a=1\/a=2\/a=3->b<=0+a->b<=4:=fun h k=>Nat.le_trans k (Qm h)
theorem Qn:a<=3->0+a<=4:=fun h=>Nat.le_trans (Nat.le_of_eq (Nat.zero_add a)) (Nat.le_succ_of_le h)
theorem Vr:a<=3->b<=0+a->b<=4:=fun h k=>Nat.le_trans k (Qn h)
theorem Vs:a<=4->0+a<=4:=fun h=>Nat.le_trans (Nat.le_of_eq (Nat.zero_add a)) h
theorem Vt:a<=2000->0+a<=2000:=fun h=>Nat.le_trans (Nat.le_of_eq (Nat.zero_add a)) h
theorem Zn:a<=1000->0+a<=2000:=fun h=>Nat.le_trans (Nat.le_of_eq (Nat.zero_add a)) (Nat.le_trans h (by decide))
theorem bz5:¬a=b -> ¬a<b -> ¬a<b+1:=fun n l h=>n (Nat.le_antisymm (Nat.le_of_lt_succ h) (Nat.le_of_not_lt l))
theorem Vu:i + ↑0=5->1<=j/\j<i->1<=j/\j<=4:=fun e h=>⟨h.1,Int.le_of_lt_add_one (Int.lt_of_lt_of_le h.2 (Int.le_of_eq ((Int.add_zero i).symm.trans e)))⟩
theorem Vv:i + ↑0=5 -> ↑a<i->a<=4:=fun e h=>Int.ofNat_le.1 (Int.le_of_lt_add_one (Int.lt_of_lt_of_le h (Int.le_of_eq ((Int.add_zero i).symm.trans e))))
theorem bz6:¬64<i->i<=1000000:=fun h=>Int.le_trans (Int.not_lt.1 h) (by decide)
theorem Vw:a<=2->0+2 * a+2+2+40<800:=fun h=>Nat.lt_of_le_of_lt (Nat.add_le_add_right (Qc h) 44) (by decide)
theorem Vx:a<=2->0+2 * a+2+2+30<800:=fun h=>Nat.lt_of_le_of_lt (Nat.add_le_add_right (Qc h) 34) (by decide)
theorem Qo:a<=2->0+2 * a+2+2<800:=fun h=>Nat.lt_of_le_of_lt (Nat.add_le_add_right (Qc h) 4) (by decide)
theorem Qp:a<=2->0+2 * a+2<800:=fun h=>Nat.lt_of_le_of_lt (Nat.add_le_add_right (Qc h) 2) (by decide)
theorem Ln:a<=2->0+2 * a<800:=fun h=>Nat.lt_of_le_of_lt (Qc h) (by decide)
theorem Lo:a<=1->0+2 * a<800:=fun h=>Ln (Nat.le_succ_of_le h)
theorem Vy:a=0\/a=1->a+1<3:=Or.rec (fun e=>Nat.succ_lt_succ (Nat.lt_of_le_of_lt (Nat.le_of_eq e) (by decide))) (fun e=>Nat.succ_lt_succ (Nat.lt_of_le_of_lt (Nat.le_of_eq e) (by decide)))
theorem Vz:a<b+1->a ≥ b->a=b:=fun h k=>Nat.le_antisymm (Nat.le_of_lt_succ h) k
theorem bz7:i.toNat<=2000->i<=16777216:=fun h=>Int.le_trans (Int.self_le_toNat i) (Int.ofNat_le.2 (Nat.le_trans h (by decide)))
theorem Zo:i<2147483647->i<4000000000000000000:=fun h=>Int.lt_trans h (by decide)
theorem Zp:2000<=a->b<=2000->b=c->c<=a:=fun h k e=>e ▸ Nat.le_trans k h
theorem bz8:a+1<=2000->2000<=b->a<=b:=fun h k=>Nat.le_trans (Nat.le_of_succ_le h) k
theorem bz9:a<=900->2000<=b->a<=b:=fun h k=>Nat.le_trans (Nat.le_trans h (by decide)) k
theorem V0:¬i<0->i≠0->0<i:=fun h n=>Int.lt_iff_le_and_ne.2 ⟨Int.not_lt.1 h,Ne.symm n⟩
theorem V1:a+(b+1)<=4->c<=a+1->c+b<=4:=fun h k=>Nat.le_trans (Nat.add_le_add_right k b) (Nat.le_trans (Nat.le_of_eq (Nat.succ_add a b)) h)
theorem V2:a+(b+1)<=4->a+1+b<=4:=fun h=>Nat.le_trans (Nat.le_of_eq (Nat.succ_add a b)) h
theorem bza:a+(b+1)<=2000->a+1+b<=2000:=fun h=>Nat.le_trans (Nat.le_of_eq (Nat.succ_add a b)) h
theorem Zq:a=1\/a=2->a=1\/a=2\/a=3:=fun h=>h.imp_right Or.inl
theorem bzb:a=1\/a=2->a=0\/a=1\/a=2\/a=3:=fun h=>.inr (h.imp_right Or.inl)
theorem Qq:a+(b+1)<=4->a<=3:=fun h=>Nat.le_trans (Nat.le_add_right a b) (Nat.le_of_succ_le_succ h)
theorem V3:a<=b->b+(c+1)<=4->a<=3:=fun h k=>Nat.le_trans h (Qq k)
theorem V4:i < ↑a \/ ↑a + ↑(b+1)<=i->i ≠ ↑a:=fun h=>h.elim Int.ne_of_lt (fun k e=>Nat.not_le_of_lt (Nat.lt_add_of_pos_right (Nat.succ_pos b)) (Int.ofNat_le.1 (Int.le_trans k (Int.le_of_eq e))))
theorem Zr:i≠j -> ¬j<i->i<j:=fun n h=>Int.lt_iff_le_and_ne.2 ⟨Int.not_lt.1 h,n⟩
theorem bzc:i≠j -> ¬j<i -> -j < -i:=fun n h=>Int.neg_lt_neg (Zr n h)
theorem V5:a<b->a=c+1->c<b:=fun h e=>Nat.lt_trans (Nat.lt_succ_self c) (Nat.lt_of_le_of_lt (Nat.le_of_eq e.symm) h)
theorem V6:a<=b->c<=a+1->c<=b+1:=fun h k=>Nat.le_trans k (Nat.succ_le_succ h)
theorem Ul:a<2->a=0\/a=1:=fun h=>Nat.le_one_iff_eq_zero_or_eq_one.1 (Nat.le_of_lt_succ h)
theorem V7:a<=2->a≠2->a=0\/a=1:=fun h n=>Ul (Nat.lt_of_le_of_ne h n)
theorem V8:a<=2->a=2\/a<2:=fun h=>(Nat.lt_or_eq_of_le h).symm
theorem V9:0<a->a<=2->a=1\/a=2:=fun h k=>(Zk k).elim (fun e=>absurd e (Nat.ne_of_gt h)) id
theorem Wa:a<=2->0<a->a=1\/a=2:=fun h k=>V9 k h
theorem Zs:0<a->a<=2->a=1\/a=2\/a=3:=fun h k=>Zq (V9 h k)
theorem Wb:a<=2->b=a->0<a->b=1\/b=2\/b=3:=fun h e k=>e ▸ Zs k h
theorem om78:i+1 + ↑a=i + ↑(a+1):=(Int.add_assoc i 1 a).trans (congrArg (i + ·) (Int.add_comm 1 a))
theorem bzd:i+1 + ↑a=i+(↑a+1):=(Int.add_assoc i 1 a).trans (congrArg (i + ·) (Int.add_comm 1 a))
theorem Qr:i=j+1 + ↑a->i=j + ↑(a+1):=fun h=>h.trans om78
theorem Qs:i + ↑(a+1)=5->i+1 + ↑a=5:=fun h=>om78.trans h
theorem Zt:0<=i -> -4000000000000000000<i:=fun h=>Int.lt_of_lt_of_le (by decide) h
theorem Zu:1<=i -> -4000000000000000000<i:=fun h=>Int.lt_of_lt_of_le (by decide) h
theorem Zv:i<=8->i<4000000000000000000:=fun h=>Int.lt_of_le_of_lt h (by decide)
theorem Zw:a=b -> ¬i.toNat<=b->a<=i.toNat:=fun e n=>Nat.le_trans (Nat.le_of_eq e) (Nat.le_of_lt (Nat.lt_of_not_le n))
theorem Zx:¬i.toNat<=a->a<=i.toNat:=fun n=>Nat.le_of_lt (Nat.lt_of_not_le n)
theorem Zy:a<=2->b+1+1+1=a->False:=fun h e=>Nat.not_le_of_lt (Nat.le_add_left 3 b) (Nat.le_trans (Nat.le_of_eq e) h)
theorem Wc:0<i->i<=j -> -j<0:=fun h k=>Int.neg_neg_of_pos (Int.lt_of_lt_of_le h k)
theorem Ah:i<j->1+i<1+j:=fun h=>Int.add_lt_add_left h 1
theorem Qt:i<j -> ¬1+j<1+i:=fun h k=>Int.lt_irrefl _ (Int.lt_trans k (Ah h))
theorem bze:i<5->i<10:=fun h=>Int.lt_trans h (by decide)
theorem Wd : ↑a<i -> ↑(a+1)<i+1:=fun h=>Int.add_lt_add_right h 1
theorem We : ↑a<i -> ↑a<i+1:=fun h=>Int.lt_add_one_of_le (Int.le_of_lt h)
theorem Wf:i<j -> ¬1+j=1+i:=fun h e=>Int.ne_of_gt h (Int.add_left_cancel e)
theorem Wg:i<j -> ¬1+i=1+j:=fun h e=>Int.ne_of_lt h (Int.add_left_cancel e)
theorem Ai:a<=1->b=3->a<b:=fun h e=>e ▸ Nat.lt_of_le_of_lt h (by decide)
theorem gb:a<=2->b=3->a<b:=fun h e=>e ▸ Nat.lt_succ_of_le h
theorem Wh:a<=1->b=3->c=a+1->c<b:=fun h e k=>k ▸ e ▸ Nat.succ_lt_succ (Nat.lt_of_le_of_lt h (by decide))
theorem Wi:a<=1->b=a+1->b<=2:=fun h e=>e ▸ Nat.succ_le_succ h
theorem bzf:5 + ↑a<=i->i≠3:=fun h e=>Uy (by decide) (Int.le_trans h (Int.le_of_eq e))
theorem bzg:5 + ↑a<=i->i≠2:=fun h e=>Uy (by decide) (Int.le_trans h (Int.le_of_eq e))
theorem bzh:5 + ↑a<=i->i≠1:=fun h e=>Uy (by decide) (Int.le_trans h (Int.le_of_eq e))
theorem bzi:5 + ↑a<=i->i≠4 + ↑a:=fun h e=>Nat.not_le_of_lt (Nat.add_lt_add_right (by decide) a) (Int.ofNat_le.1 (Int.le_trans h (Int.le_of_eq e)))
theorem bzj:¬i<j -> ¬-j < -i:=fun h k=>h (Int.lt_of_neg_lt_neg k)
theorem Zz:a<=b->c<a->c=b->False:=fun h k e=>Nat.not_lt_of_le h (Nat.lt_of_le_of_lt (Nat.le_of_eq e.symm) k)
theorem Wj:i=j->i<k -> ¬k=j:=fun h k=>Int.ne_of_gt (Int.lt_of_le_of_lt (Int.le_of_eq h.symm) k)
theorem om4:(2 * a+2) / 2 - 1=a:=congrArg Nat.pred (Nat.mul_add_div (by decide) a 2)
theorem Wk:a=2\/a=3->a<=3:=Or.rec (fun e=>Nat.le_trans (Nat.le_of_eq e) (by decide)) Nat.le_of_eq
theorem Z0:0<=i + ↑a -> -↑a<=i:=fun h=>Int.le_trans (Int.le_of_eq (Int.zero_sub _).symm) (Int.sub_right_le_of_le_add h)
theorem bzk:a<=2000->a<=5592405:=fun h=>Nat.le_trans h (by decide)
theorem bzl:a<=63->a<=2000:=fun h=>Nat.le_trans h (by decide)
theorem Qu:a+7+7 * b=a+7 * (b+1):=Qd 7
theorem Wl:a+7 * (b+1)<800->a+7+7 * b<800:=fun h=>Nat.lt_of_le_of_lt (Nat.le_of_eq Qu) h
theorem Fz:a+2+2 * b=a+2 * (b+1):=Qd 2
theorem Wm:a+2 * (b+1)<800->a+2+2 * b<800:=fun h=>Nat.lt_of_le_of_lt (Nat.le_of_eq Fz) h
theorem Qv:a+33+33 * b=a+33 * (b+1):=Qd 33
theorem Wn:a+33 * (b+1)+40<800->a+33+33 * b+40<800:=fun h=>Nat.lt_of_le_of_lt (Nat.le_of_eq (congrArg (· + 40) Qv)) h
theorem Lp:a+1+1+1+3 * b=a+3 * (b+1):=Qd 3
theorem Wo:a+3 * (b+1)<800->a+1+1+1+3 * b<800:=fun h=>Nat.lt_of_le_of_lt (Nat.le_of_eq Lp) h
theorem Qw:a+5+5 * b=a+5 * (b+1):=Qd 5
theorem Wp:a+5 * (b+1)<800->a+5+5 * b<800:=fun h=>Nat.lt_of_le_of_lt (Nat.le_of_eq Qw) h
theorem Wq:a+b+3=a+3+b:=Nat.add_right_comm a b 3
theorem Ws:a+3+b+1=a+b+4:=Nat.add_right_comm a 3 (b+1)
theorem bzm:a+1+b=a+(b+1):=Nat.succ_add a b
theorem Z1:a+(b+1)=a+1+b:=(Nat.succ_add a b).symm
theorem om0:a+1+b=a+b+1:=Nat.succ_add a b
theorem bzn:¬0<=i->i<0:=Int.not_le.1
theorem Wt:i=j↔j=i:=⟨Eq.symm,Eq.symm⟩
theorem Wu:i=j->k=0->(k=0↔i=j):=fun e k=>⟨fun _=>e,fun _=>k⟩
theorem bzo:¬2 * a+1=0:=Nat.succ_ne_zero _
theorem bzp:(2 * a+1) % 2=1:=Nat.mul_add_mod 2 a 1
theorem om5:¬(2 * a+2) % 2=1:=fun h=>absurd ((Nat.mul_add_mod 2 a 2).symm.trans h) (by decide)
theorem Wv:i < -1 - i->0 <= -1 - i:=fun h=>Int.sub_nonneg_of_le (Int.le_of_lt_add_one (Int.not_le.1 fun k=>Int.lt_irrefl i (Int.lt_of_lt_of_le h (Int.le_trans (Int.sub_le_self (-1) k) (Int.le_trans (by decide) k)))))
theorem Ww:a+b+c+5=d->e=c->d=a+b+e+5:=fun h e=>h.symm.trans (e ▸ rfl)
theorem Wx:a+b+c+5=d->a+(b+(c+(4+1)))=d:=fun h=>(Nat.add_assoc a (b+c) 5).symm.trans ((congrArg (· + 5) (Nat.add_assoc a b c).symm).trans h)
theorem bzq:a=b->a=c->b=d->c<=d:=fun h k e=>Nat.le_of_eq ((k.symm.trans h).trans e)
theorem bzr:a=b->a=c->b=d->d=c:=fun h k e=>((k.symm.trans h).trans e).symm
theorem Wy:i=0->i=1->j=k/\l=0:=fun h k=>absurd (h.symm.trans k) (by decide)
theorem Wz:i=0->i = -1->j=k/\l=0:=fun h k=>absurd (h.symm.trans k) (by decide)
theorem W0:i<0->i=1->j<k:=fun h k=>absurd (k ▸ h) (by decide)
theorem W1:i<0->i=0->j<k:=fun h k=>absurd (k ▸ h) (by decide)
theorem W2:i<=0->i=1->j<=k:=fun h k=>absurd (k ▸ h) (by decide)
theorem Qx:1<=i->1<=i+1:=fun h=>Int.le_trans h (Int.le_of_lt (Int.lt_add_one_of_le (Int.le_refl i)))
theorem bzs:a=1\/a=2\/a=3->b=a->b=1\/b=2\/b=3:=fun h e=>e ▸ h
theorem Z2:i=j -> ¬i<j:=fun e h=>Int.ne_of_lt h e
theorem Z3:i=j -> ¬j<i:=fun e h=>Int.ne_of_lt h e.symm
theorem Z4:i<j -> ¬j<i:=fun h k=>Int.lt_irrefl _ (Int.lt_trans h k)
theorem W3:i<j->j=i->False:=fun h e=>Int.ne_of_lt h e.symm
theorem W4:i<j->i=j->False:=fun h e=>Int.ne_of_lt h e
theorem Um:a<b+1 -> ¬a=b->a<b:=fun h n=>Nat.lt_of_le_of_ne (Nat.le_of_lt_succ h) n
theorem W5:a+b=c->a+1+b<=c+1:=fun h=>Nat.le_of_eq ((Nat.succ_add a b).trans (congrArg (· + 1) h))
theorem W6:i<j -> -(1+j) <= -(1+i):=fun h=>Int.neg_le_neg (Int.add_le_add_left (Int.le_of_lt h) 1)
theorem W7:i<j->1+i<=1+j:=fun h=>Int.add_le_add_left (Int.le_of_lt h) 1
theorem W8:i<j -> -j <= -i:=fun h=>Int.neg_le_neg (Int.le_of_lt h)
theorem W9:a<=b+2->a+1+1<=b+4:=fun h=>Nat.succ_le_succ (Nat.succ_le_succ h)
theorem Xa:i=j->1+i=1+j:=congrArg (1 + ·)
theorem Xb:i=j->j=k->k=i:=fun h k=>(h.trans k).symm
theorem Z5:a<2->a=2->False:=fun h e=>Nat.ne_of_lt h e
theorem Xc:a=0->a<=1:=fun h=>h ▸ by decide
theorem Z6:a=0->0<a->False:=fun e h=>Nat.ne_of_gt h e
theorem bzt:a<min b c->a<b:=fun h=>Nat.lt_of_lt_of_le h (Nat.min_le_left _ _)
theorem Z7:a<=b -> ¬a<b->a=b:=fun h k=>Nat.le_antisymm h (Nat.le_of_not_lt k)
theorem Xd:i + ↑0=i:=Int.add_zero i
theorem Xe:i=i + ↑0:=(Int.add_zero i).symm
theorem Xf:¬i < -1 - i->0<=i:=fun h=>Int.not_lt.1 fun k=>h (Int.lt_of_lt_of_le k (Int.sub_nonneg_of_le (Int.le_of_lt_add_one k)))
theorem Xg:i = -i->i=0:=fun h=>Int.le_antisymm (Int.not_lt.1 fun k=>Int.lt_irrefl _ (Int.lt_trans k (Int.lt_of_le_of_lt (Int.le_of_eq h) (Int.neg_neg_of_pos k)))) (Int.not_lt.1 fun k=>Int.lt_irrefl _ (Int.lt_trans k (Int.lt_of_lt_of_le (Int.neg_pos_of_neg k) (Int.le_of_eq h.symm))))
end
end Mine
end
section
open PySem PySem.W PyProof.Rows
set_option tactic.hygienic false
namespace Mine
theorem dc {a b:Bool} (h:a=true) (k:b=true):(a&&b)=true:=Bool.and_eq_true_iff.mpr ⟨h,k⟩
theorem ws1:PySem.W.Fast.tw8326940854005059898 { strict := !R.allR (PySem.W.Fast.tw5923862056798008813 PySem.Challenge.pw_nt0133_01.main.body) (PySem.W.Fast.tw3471404346716756564 PySem.W.Fast.tw17691160309236699985),foot:=none,bare:=R.filterR (PySem.W.Fast.tw13343964577679436407 PySem.Challenge.pw_nt0133_01 PySem.Challenge.pw_nt0133_01.main.body) [{ cps:={ toList:=[118,97,114,115] } },{ cps:={ toList:=[100,105,114] } },{ cps:={ toList:=[108,111,99,97,108,115] } }] } PySem.Challenge.pw_nt0133_01.main.body=true:=by kernel_rfl
theorem ws2:PySem.W.Fast.tw17119622794617984870 PySem.Challenge.pw_nt0133_01 PySem.Challenge.pw_nt0133_01.main.body (fun _ n=>PySem.W.Fast.tw17868728402115742887 n)=true:=by kernel_rfl
theorem ws3:PySem.W.Fast.tw12908688711261696721 PySem.Challenge.pw_nt0133_01=true:=dc (dc (by kernel_rfl) ws1) ws2
theorem ws4:PySem.W.Fast.tw2436336058641802641 (PySem.W.Fast.tw2368527892694137696 PySem.Challenge.rw_nt0133_01)=true:=dc (dc (dc (dc (dc (dc (dc (dc (dc (dc (dc (dc (dc ws3 (by kernel_rfl)) (by kernel_rfl)) (by kernel_rfl)) (by kernel_rfl)) (by kernel_rfl)) (by kernel_rfl)) (by kernel_rfl)) (by kernel_rfl)) (by kernel_rfl)) (by kernel_rfl)) (by kernel_rfl)) (by kernel_rfl)) (by kernel_rfl)
theorem ws5:PySem.W.Fast.tw17960256430627541270 (PySem.W.Fast.tw2368527892694137696 PySem.Challenge.rw_nt0133_01)=true:=dc (dc ws4 (by kernel_rfl)) (by kernel_rfl)
theorem ws:PySem.W.Fast.tw9446332074065402090 PySem.Challenge.rw_nt0133_01=true:=dc (dc (dc (dc (dc (dc (dc (dc (dc (dc (dc (dc (dc (dc (dc (dc (dc (dc ws5 (by kernel_rfl)) (by kernel_rfl)) (by kernel_rfl)) (by kernel_rfl)) (by kernel_rfl)) (by kernel_rfl)) (by kernel_rfl)) (by kernel_rfl)) (by kernel_rfl)) (by kernel_rfl)) (by kernel_rfl)) (by kernel_rfl)) (by kernel_rfl)) (by kernel_rfl)) (by kernel_rfl)) (by kernel_rfl)) (by kernel_rfl)) (by kernel_rfl)
theorem bzu:PySem.Challenge.rw_nt0133_01.wellSaid=true:=by rw [PySem.W.Fast.te9446332074065402090];exact ws
noncomputable def F6:Code->Sem PySem.Fin:=PySem.W.Fast.tw11892475500146522536 PySem.W.Fast.tw14364793385576792824
noncomputable abbrev Ae (α:Type):Type:=BT->Nat->Nat->SharedT->Sem PySem.Fin->Code->Pos->List Frame->Option α
noncomputable def tpS (T:BT) (N tk:Nat) (R:SharedT):SharedT:=⟨T,N,R.life,R.gens,R.drawn,tk,R.os⟩
noncomputable def Xh {α:Type} (g:Ae α) (s:SharedT) (t:Thread):Option α:=g s.tree s.n s.toks s t.cur t.code t.pos t.stack
noncomputable def Qy {α:Type} (o:Option (SharedT×Thread)) (g:Ae α):Option α:=match o with
 | some r=>Xh g r.1 r.2
 | none=>none
noncomputable def qb {α:Type} (p:Program) (w:World) (z:SharedT->Option α) (s:SharedT) (t:Thread) (g:Ae α):Option α:=match through t with
 | true=>z s
 | false=>match stepOk 11 (some (.ref 6)) t with
  | true=>Qy (PySem.W.Fast.tw10156331382660048174 F6 p w s t) g
  | false=>none
noncomputable def Qz {α:Type} (N a:Nat) (T:BT) (g:Obj->Option α):Option α:=match Nat.blt a N with
 | true=>match T.get a with
  | some o=>match alive o with
   | some v=>g v
   | none=>none
  | none=>none
 | false=>none
noncomputable def Q0 {α:Type} (p:Program) (w:World) (z:SharedT->Option α) (g:Ae α):Ae α:=fun T N tk R c cd ps st=>match c with
 | .load a _ k=>Qz N a T fun o=>g T N tk R (k o) cd ps st
 | .update a _ f k=>match Nat.ble 11 a with
  | true=>Qz N a T fun _=>g (T.set a f) N tk R (k ()) cd ps st
  | false=>qb p w z (tpS T N tk R) ⟨c,cd,ps,st⟩ g
 | .alloc o k=>match ((T.ins N o).get N).isSome with
  | true=>g (T.ins N o) (N+1) tk R (k N) cd ps st
  | false=>none
 | .fresh k=>g T N (tk+1) R (k tk) cd ps st
 | .ask k=>g T N tk R (k ⟨p,w.params⟩) cd ps st
 | .at q k=>g T N tk R (k ()) cd q st
 | .point _ k=>g T N tk R (k ()) cd ps st
 | _=>qb p w z (tpS T N tk R) ⟨c,cd,ps,st⟩ g
noncomputable def Aj {α:Type} (p:Program) (w:World) (z:SharedT->Option α) (e:Ae α) (n:Nat):Ae α:=Nat.rec (motive:=fun _=>Ae α) e (fun _ g=>Q0 p w z g) n
noncomputable def goT (p:Program) (w:World) (n:Nat) (s:SharedT) (t:Thread):Option (SharedT×Thread):=Xh (Aj p w (fun _=>none) (fun T N tk R c cd ps st=>some (tpS T N tk R,⟨c,cd,ps,st⟩)) n) s t
noncomputable def Z8 (p:Program) (w:World) (n:Nat) (s:SharedT) (t:Thread):Option SharedT:=Xh (Aj p w some (fun _ _ _ _ _ _ _ _=>none) n) s t
theorem F7:F6=denote treeTable:=by
 delta F6
 rw [← PySem.W.Fast.te11892475500146522536, ← PySem.W.Fast.te14364793385576792824]
theorem Ak {α:Type} {N a:Nat} {T:BT} {g:Obj->Option α} {x:α} (h:Qz N a T g=some x):∃ o v,Nat.blt a N=true/\T.get a=some o/\alive o=some v/\g v=some x:=by
 delta Qz at h
 induction hb:Nat.blt a N using Bool.casesOn with
 | false=>rw [hb] at h;injection h
 | true =>
  rw [hb] at h
  induction ho:T.get a using Option.casesOn with
  | none=>rw [ho] at h;injection h
  | some o =>
   rw [ho] at h
   induction hv:alive o using Option.casesOn with
   | none=>dsimp only at h;rw [hv] at h;injection h
   | some v =>
    dsimp only at h
    rw [hv] at h
    exact ⟨o,v,rfl,rfl,hv,h⟩
inductive TpTurn {α:Type} (p:Program) (w:World) (z:SharedT->Option α) (g:Ae α) (s:SharedT) (t:Thread) (x:α):Prop where
 | stop (h:through t=true) (k:z s=some x)
 | step (h:through t=false) (k:stepOk 11 (some (.ref 6)) t=true) (T:BT) (N tk:Nat) (R:SharedT) (t':Thread) (e:stepT (denote treeTable) p w s t=some (tpS T N tk R,t')) (q:g T N tk R t'.cur t'.code t'.pos t'.stack=some x)
theorem qc {α:Type} {p:Program} {w:World} {z:SharedT->Option α} {s:SharedT} {t:Thread} {g:Ae α} {x:α} (h:qb p w z s t g=some x):TpTurn p w z g s t x:=by
 delta qb at h
 induction ht:through t using Bool.casesOn with
 | true=>rw [ht] at h;exact .stop ht h
 | false =>
  rw [ht] at h
  induction hk:stepOk 11 (some (.ref 6)) t using Bool.casesOn with
  | false=>rw [hk] at h;injection h
  | true =>
   rw [hk] at h
   dsimp only at h
   induction hs:PySem.W.Fast.tw10156331382660048174 F6 p w s t using Option.casesOn with
   | none=>rw [hs] at h;injection h
   | some r =>
    rw [hs] at h
    exact .step ht hk r.1.tree r.1.n r.1.toks r.1 r.2 (by rw [← F7,PySem.W.Fast.te10156331382660048174];exact hs) h
theorem F8 {α:Type} {p:Program} {w:World} {z:SharedT->Option α} {g:Ae α} {T:BT} {N tk:Nat} {R:SharedT} {c:Sem PySem.Fin} {cd:Code} {ps:Pos} {st:List Frame} {x:α} (h:Q0 p w z g T N tk R c cd ps st=some x) :
  TpTurn p w z g (tpS T N tk R) ⟨c,cd,ps,st⟩ x:=by
 induction c using Sem.casesOn with
 | load a o k =>
  obtain ⟨o,v,h1,h2,h3,h⟩:=Ak h
  exact .step (Bool.and_false _) rfl T N tk R ⟨k v,cd,ps,st⟩ (by
   show (match Nat.blt a N with | true=>_ | false=>_)=_
   rw [h1]
   show (match T.get a with | some _=>_ | none=>_)=_
   rw [h2]
   show (match alive o with | some _=>_ | none=>_)=_
   rw [h3];rfl) h
 | update a y f k =>
  have h:(match Nat.ble 11 a with | true=>Qz N a T fun _=>g (T.set a f) N tk R (k ()) cd ps st | false=>qb p w z (tpS T N tk R) ⟨.update a y f k,cd,ps,st⟩ g)=some x:=h
  induction hb:Nat.ble 11 a using Bool.casesOn with
  | false=>rw [hb] at h;exact qc h
  | true =>
   rw [hb] at h
   obtain ⟨o,v,h1,h2,h3,h⟩:=Ak h
   exact .step (Bool.and_false _) (by show (Nat.ble 11 a||_||_||_)=true;rw [hb];rfl) (T.set a f) N tk R ⟨k (),cd,ps,st⟩ (by
    show (match Nat.blt a N with | true=>_ | false=>_)=_
    rw [h1]
    show (match T.get a with | some _=>_ | none=>_)=_
    rw [h2]
    show (match alive o with | some _=>_ | none=>_)=_
    rw [h3];rfl) h
 | alloc o k =>
  have h:(match ((T.ins N o).get N).isSome with | true=>g (T.ins N o) (N+1) tk R (k N) cd ps st | false=>none)=some x:=h
  induction hb:((T.ins N o).get N).isSome using Bool.casesOn with
  | false=>rw [hb] at h;injection h
  | true =>
   rw [hb] at h
   exact .step (Bool.and_false _) rfl (T.ins N o) (N+1) tk R ⟨k N,cd,ps,st⟩ (by
    show (match ((T.ins N o).get N).isSome with | true=>_ | false=>_)=_
    rw [hb];rfl) h
 | fresh k=>exact .step (Bool.and_false _) rfl T N (tk+1) R ⟨k tk,cd,ps,st⟩ rfl h
 | ask k=>exact .step (Bool.and_false _) rfl T N tk R ⟨k ⟨p,w.params⟩,cd,ps,st⟩ rfl h
 | «at» q k=>exact .step (Bool.and_false _) rfl T N tk R ⟨k (),cd,q,st⟩ rfl h
 | point l k=>exact .step (Bool.and_false _) rfl T N tk R ⟨k (),cd,ps,st⟩ rfl h
 | _=>exact qc h
theorem qd {α:Type} {p:Program} {w:World} {z:SharedT->Option α} {e:Ae α} (m:Nat) {x:α} {r:Option Shared} (h1:∀ {T N tk R c cd ps st},e T N tk R c cd ps st=some x->topRun treeTable p w 11 (some (.ref 6)) m (tpS T N tk R).abs ⟨c,cd,ps,st⟩=r)
  (h2:∀ {s},z s=some x->some s.abs=r):∀ (n:Nat) {T N tk R c cd ps st},Aj p w z e n T N tk R c cd ps st=some x->topRun treeTable p w 11 (some (.ref 6)) (n+m) (tpS T N tk R).abs ⟨c,cd,ps,st⟩=r:=by
 intro n
 induction n with
 | zero=>intro T N tk R c cd ps st h;rw [Nat.zero_add];exact h1 h
 | succ n ih =>
  intro T N tk R c cd ps st h
  rw [show n+1+m=n+m+1 by exact om0]
  unfold topRun
  induction F8 h using TpTurn.casesOn with
  | stop ht k=>rw [ht];exact h2 k
  | step ht hk T' N' tk' R' t' e q =>
   rw [ht,hk]
   dsimp only
   rw [stepT_spec e]
   exact ih q
theorem Al {p:Program} {w:World} {n:Nat} {s s':SharedT} {t:Thread} (h:Z8 p w n s t=some s'):topRun treeTable p w 11 (some (.ref 6)) n s.abs t=some s'.abs :=
 qd 0 (fun h=>by injection h) (fun h=>congrArg (fun o=>o.map SharedT.abs) h) n (R:=s) h
theorem F9 {p:Program} {w:World} {n m:Nat} {s s':SharedT} {t t':Thread} (h:goT p w n s t=some (s',t')) {r:Shared} (k:topRun treeTable p w 11 (some (.ref 6)) m s'.abs t'=some r):topRun treeTable p w 11 (some (.ref 6)) (n+m) s.abs t=some r :=
 qd m (fun h=>by injection h with h;injection h with a b;subst a;subst b;exact k) (fun h=>by injection h) n (R:=s) h
noncomputable abbrev PW:Program:=PySem.Challenge.pw_nt0133_01
noncomputable def Ga (P:Params):BT :=
 .node (boot_o_0 P)
  (.node (boot_o_1 P) (.node (boot_o_3 P) (.node (boot_o_7 P) .nil .nil) .nil) (.node (boot_o_5 P) (.node (boot_o_9 P) .nil .nil) .nil))
  (.node (boot_o_2 P) (.node (boot_o_4 P) (.node (boot_o_8 P) .nil .nil) .nil) (.node (boot_o_6 P) (.node (boot_o_10 P) .nil .nil) .nil))
noncomputable def S0 (P:Params) (os:OsState):SharedT:=⟨Ga P,11,{}, #[],{},181,os⟩
theorem Q1 (P:Params) (os:OsState):(S0 P os).abs=⟨boot_heap P, #[],boot_drawn,boot_toks,os⟩:=by kernel_rfl
@[irreducible] noncomputable def both (w:World) (os:OsState) (b:Bool):Option SharedT :=
 match goT PW w 6980 (S0 w.params os) (topStub PW) with
 | some r=>Z8 PW (w.withFollow "special-get-raises" b) 2000 r.1 r.2
 | none=>none
end Mine
end
section
open PySem
set_option tactic.hygienic false
namespace Mine
noncomputable def cod:List Nat->Nat
 | []=>0
 | c::l=>c+1114112 * cod l
noncomputable def leq:List Nat->List Nat->Bool
 | [],[]=>true
 | a::x,b::y=>match Nat.beq a b with
  | true=>leq x y
  | false=>false
 | _,_=>false
noncomputable def seq (a b:Str):Bool:=match Nat.beq (cod a.cps.toList) (cod b.cps.toList) with
 | true=>leq a.cps.toList b.cps.toList
 | false=>false
noncomputable def look {α:Type} (x:Str):List (Str×α)->Option α
 | []=>none
 | p::r=>match seq p.1 x with
  | true=>some p.2
  | false=>look x r
noncomputable def put {α:Type} (x:Str) (v:α):List (Str×α)->List (Str×α)
 | []=>[(x,v)]
 | p::r=>match seq p.1 x with
  | true=>(p.1,v)::r
  | false=>p::put x v r
inductive P where
 | none
 | bool (b:Bool)
 | int (i:Int)
 | str (s:Str)
 | fn (c m:Str)
 | cls (c:Str)
 | bi (n:Str)
 | top (n:Str)
 | tup (xs:List P)
 | lst (xs:List P)
 | obj (c:Str) (es:List (Str×P))
 | rng (a b:Int)
inductive V where
 | p (x:P)
 | ref (k:Nat)
inductive VO where
 | list (xs:List P)
 | listV (xs:List V)
 | dicti (es:List (Int×P))
 | dictR (es:List (Int×P))
 | dictiV (es:List (Int×V))
 | dicts (es:List (Str×P))
 | inst (c:Str) (d:Nat)
 | ns (es:List (Str×V))
 | cell (v:Option V)
 | clos (name:Str) (args:Arguments) (body:List Stmt) (sc:Scope) (cells:List (Str×Nat))
 | tab (f:Str) (used:Bool)
inductive Tr where
 | nil
 | node (v:VO) (l r:Tr)
namespace Tr
noncomputable def get:Tr->Nat->Option VO
 | .nil,_=>none
 | .node v l r,i=>match Nat.beq i 0 with
  | true=>some v
  | false=>match Nat.beq (i % 2) 1 with
   | true=>l.get (i / 2)
   | false=>r.get (i / 2 - 1)
noncomputable def set:Tr->Nat->VO->Tr
 | .nil,_,_=>.nil
 | .node v l r,i,o=>match Nat.beq i 0 with
  | true=>.node o l r
  | false=>match Nat.beq (i % 2) 1 with
   | true=>.node v (l.set (i / 2) o) r
   | false=>.node v l (r.set (i / 2 - 1) o)
noncomputable def ins:Tr->Nat->VO->Tr
 | .nil,_,o=>.node o .nil .nil
 | .node v l r,i,o=>match Nat.beq i 0 with
  | true=>.node o l r
  | false=>match Nat.beq (i % 2) 1 with
   | true=>.node v (l.ins (i / 2) o) r
   | false=>.node v l (r.ins (i / 2 - 1) o)
end Tr
structure St where
 loc:List (Str×V)
 h:Tr
 n:Nat
structure En where
 sc:Scope
 cells:List (Str×Nat)
 d:Nat
 mu:Nat
 tb:Option (Nat×Str)
inductive Fl where
 | next | brk | ret (v:V)
noncomputable def new (o:VO) (s:St):St:={ s with h:=s.h.ins s.n o,n:=s.n+1 }
noncomputable def upd (k:Nat) (o:VO) (s:St):St:={ s with h:=s.h.set k o }
noncomputable def opt {α U:Type} (ff:U) (o:Option α) (k:α->U):U:=match o with
 | some a=>k a
 | none=>ff
noncomputable def cnd {U:Type} (b:Bool) (x y:U):U:=match b with
 | true=>x
 | false=>y
structure Fn where
 args:Arguments
 body:List Stmt
 sc:Scope
noncomputable def gc (a:Arguments):Bool:=a.posonlyargs.isEmpty&&a.vararg.isNone&&a.kwonlyargs.isEmpty&&a.kw_defaults.isEmpty&&a.kwarg.isNone&&a.defaults.isEmpty
noncomputable def gf (a:Arguments):List Str:=a.args.map (·.arg)
noncomputable def fnIn (m:Str):List Stmt->Option (Fn×List Expr)
 | []=>none
 | .FunctionDef name args body _ _ _ sc _ _ _::r=>match seq name m with
  | true=>some (⟨args,body,sc⟩,args.defaults)
  | false=>fnIn m r
 | _::r=>fnIn m r
noncomputable def fw (c:Str):List Stmt->Option (List Str×List Stmt)
 | []=>none
 | .ClassDef name bases _ body _ _ _ _ _ _ _::r=>match seq name c with
  | true=>some (bases.filterMap fun e=>match e with | .Name n _=>some n | _=>none,body)
  | false=>fw c r
 | _::r=>fw c r
noncomputable def dq:List Stmt:=PySem.Challenge.pw_nt0133_01.main.body
noncomputable def noStr:Str:=⟨#[]⟩
noncomputable def fnOf (c m:Str):Option (Fn×List Expr):=match seq c noStr with
 | true=>fnIn m dq
 | false=>(fw c dq).bind fun x=>fnIn m x.2
noncomputable def Kg:Nat->Str->Str->Option P
 | 0,_,_=>none
 | n+1,c,m=>match fw c dq with
  | none=>none
  | some x=>match fnIn m x.2 with
   | some _=>some (.fn c m)
   | none=>match x.1 with
    | [b]=>Kg n b m
    | _=>none
noncomputable def methNames:List Str:=["__init__", "count", "expression", "add", "label", "place", "register", "cursor", "finish", "info"]
noncomputable def cz (n:Nat) (c m:Str):Option P:=match methNames.any (seq m) with
 | true=>Kg n c m
 | false=>none
noncomputable def jz:Nat->Str->Str->Bool
 | 0,_,_=>false
 | n+1,c,d=>match seq c d with
  | true=>true
  | false=>match fw c dq with
   | some ([b],_)=>jz n b d
   | _=>false
noncomputable def theNames:List Str:=["len", "int", "max", "min", "isinstance", "range", "bool", "tuple", "str"]
noncomputable def jo (x:Str):List Stmt->Option Expr
 | []=>none
 | .Assign [.Name n _] e _::r=>match seq n x with
  | true=>some e
  | false=>jo x r
 | _::r=>jo x r
noncomputable def vy (x:Str):Option P:=match fnIn x dq with
 | some _=>some (.fn noStr x)
 | none=>match fw x dq with
  | some _=>some (.cls x)
  | none=>match jo x dq with
   | some (.Constant (.int i) _ _)=>some (.int i)
   | some (.Dict ..)=>some (.top x)
   | some _=>none
   | none=>if theNames.any (seq x) then some (.bi x) else none
noncomputable def globNames:List Str:=(["law", "_law_pool", "_law_take", "_law_one", "_law_value", "_law_class", "_law_sign", "_law_placed", "_law_index_path", "_law_rowid_path", "_law_within", "_law_is_due", "_law_program", "_law_move", "_law_put", "_law_told", "_law_index_right", "_law_rowids_right"]:List Str) ++
 (["walk", "walk_all", "key_value", "walk_list", "walk_rowid", "bound_value", "walk_rowids", "seek_word", "past_word", "walk_index", "walk_range"]:List Str) ++
 (["KeyInfo", "Handle", "Literal", "OperatorCoder", "Path", "Program", "Index", "JUMPS", "ROWS_OF_TABLE", "ROW_BY_TABLE"]:List Str)++theNames
noncomputable def glob (x:Str):Option P:=match globNames.any (seq x) with
 | true=>vy x
 | false=>none
noncomputable def d5 (x:Str):List Str:=match jo x dq with
 | some (.Dict ks _ _)=>ks.filterMap fun k=>match k with | some (.Constant (.str s) _ _)=>some s | _=>none
 | _=>[]
noncomputable def fits (n:Nat):Bool:=Nat.ble n 2000
noncomputable def p9 (n:Nat):Bool:=Nat.ble n 900
noncomputable def eqV:P->P->Option Bool
 | .none,.none=>some true
 | .bool a,.bool b=>some (a == b)
 | .int a,.int b=>some (decide (a=b))
 | .str a,.str b=>some (seq a b)
 | .none,.int _ | .none,.str _ | .int _,.none | .str _,.none | .int _,.str _ | .str _,.int _=>some false
 | _,_=>none
noncomputable def eqL (f:P->P->Option Bool):List P->List P->Option Bool
 | [],[]=>some true
 | a::x,b::y=>match f a b,eqL f x y with
  | some p,some q=>some (p&&q)
  | _,_=>none
 | _,_=>some false
noncomputable def eqT:P->P->Option Bool
 | .tup x,.tup y=>match Nat.beq x.length y.length with | true=>eqL eqV x y | false=>none
 | a,b=>eqV a b
noncomputable def du:P->P->Option Bool
 | .lst x,.lst y=>match Nat.beq x.length y.length with | true=>eqL eqT x y | false=>some false
 | a,b=>eqT a b
noncomputable def ltV:P->P->Option Bool
 | .int a,.int b=>some (decide (a<b))
 | .str a,.str b=>some (decide (a.cps.toList<b.cps.toList))
 | _,_=>none
noncomputable def j0:List P->List P->Option Bool
 | a::x,b::y=>match eqV a b with
  | some true=>j0 x y
  | some false=>match Nat.beq x.length y.length with | true=>ltV a b | false=>none
  | none=>none
 | [],[]=>some false
 | _,_=>none
noncomputable def j1:P->P->Option Bool
 | .tup x,.tup y=>j0 x y
 | a,b=>ltV a b
noncomputable def leV:P->P->Option Bool
 | .int a,.int b=>some (decide (a<=b))
 | _,_=>none
noncomputable def isNone:P->Bool
 | .none=>true
 | _=>false
noncomputable def qe (a:P):List P->Option Bool
 | []=>some false
 | b::r=>match eqT b a,qe a r with
  | some p,some q=>some (p||q)
  | _,_=>none
noncomputable def eh {α:Type} (k:Int):List (Int×α)->Option α
 | []=>none
 | e::r=>match decide (e.1=k) with
  | true=>some e.2
  | false=>eh k r
noncomputable def dput {α:Type} (k:Int) (v:α):List (Int×α)->List (Int×α)
 | []=>[(k,v)]
 | e::r=>match decide (e.1=k) with
  | true=>(e.1,v)::r
  | false=>e::dput k v r
noncomputable def inP (a b:P):Option Bool:=match b with
 | .top n=>match a with
  | .str x=>some ((d5 n).any (seq x))
  | _=>none
 | .lst xs=>qe a xs
 | .tup xs=>qe a xs
 | _=>none
noncomputable def inV (s:St) (a:P) (b:V):Option Bool:=match b with
 | .p b=>inP a b
 | .ref k=>match s.h.get k with
  | some (.dicti es)=>match a with | .int i=>some (eh i es).isSome | _=>none
  | some (.dictR es)=>match a with | .int i=>some (eh i es).isSome | _=>none
  | _=>none
noncomputable def P3 (op:CmpOp) (a b:P):Option Bool:=match op with
 | .Eq=>du a b
 | .NotEq=>(du a b).map (!·)
 | .Lt=>j1 a b
 | .Gt=>j1 b a
 | .LtE=>leV a b
 | .GtE=>leV b a
 | _=>none
noncomputable def cmp (op:CmpOp) (a b:V) (s:St):Option Bool:=match op with
 | .Is=>match b with
  | .p .none=>match a with | .p (.bi _)=>none | .p x=>some (isNone x) | .ref _=>some false
  | _=>none
 | .IsNot=>match b with
  | .p .none=>(match a with | .p (.bi _)=>none | .p x=>some (isNone x) | .ref _=>some false).map (!·)
  | _=>none
 | .In=>match a with | .p x=>inV s x b | _=>none
 | .NotIn=>match a with | .p x=>(inV s x b).map (!·) | _=>none
 | op=>match a,b with
  | .p x,.p y=>P3 op x y
  | _,_=>none
noncomputable def Kh:P->Option Bool
 | .none=>some false
 | .bool b=>some b
 | .int i=>some (decide (i≠0))
 | .str x=>match fits x.cps.size with | true=>some (!(Nat.beq x.cps.size 0)) | false=>none
 | .lst xs=>some (!xs.isEmpty)
 | .tup xs=>some (!xs.isEmpty)
 | _=>none
noncomputable def truth (v:V) (s:St):Option Bool:=match v with
 | .p x=>Kh x
 | .ref k=>match s.h.get k with
  | some (.list xs)=>some (!xs.isEmpty)
  | some (.listV xs)=>some (!xs.isEmpty)
  | _=>none
noncomputable def a7 (i:Int):Bool:=decide (-4000000000000000000<i)&&decide (i<4000000000000000000)
noncomputable def gh (x y:Int):Bool:=a7 x||a7 y
noncomputable def s6 (op:Operator) (a b:P):Option P:=match op,a,b with
 | .Add,.int x,.int y=>some (.int (x+y))
 | .Sub,.int x,.int y=>some (.int (x - y))
 | .Mult,.int x,.int y=>match gh x y with | true=>some (.int (x * y)) | false=>none
 | .Mod,.int x,.int y=>match decide (y=0) || !a7 y with | true=>none | false=>some (.int (Int.fmod x y))
 | .FloorDiv,.int x,.int y=>match decide (y=0) || !a7 y with | true=>none | false=>some (.int (Int.fdiv x y))
 | .Pow,.int x,.int y=>match decide (y<0)||decide (64<y) || !a7 x with | true=>none | false=>some (.int (x ^ y.toNat))
 | .Add,.str x,.str y=>match fits (x.cps.size+y.cps.size) with | true=>some (.str ⟨x.cps++y.cps⟩) | false=>none
 | .Add,.lst x,.lst y=>match fits (x.length+y.length) with | true=>some (.lst (x++y)) | false=>none
 | .Add,.tup x,.tup y=>match fits (x.length+y.length) with | true=>some (.tup (x++y)) | false=>none
 | .Mult,.lst [x],.int y=>match fits y.toNat&&a7 y with | true=>some (.lst (List.replicate y.toNat x)) | false=>none
 | _,_,_=>none
noncomputable def qf (op:Operator) (x y:Int):Bool:=match op with
 | .Add=>true
 | .Sub=>true
 | .Mult=>gh x y
 | .Mod => !(decide (y=0) || !a7 y)
 | .FloorDiv => !(decide (y=0) || !a7 y)
 | .Pow => !(decide (y<0)||decide (64<y) || !a7 x)
 | _=>false
noncomputable def intOp (op:Operator) (x y:Int):Int:=match op with
 | .Add=>x+y
 | .Sub=>x - y
 | .Mult=>x * y
 | .Mod=>Int.fmod x y
 | .FloorDiv=>Int.fdiv x y
 | .Pow=>x ^ y.toNat
 | _=>0
noncomputable def Z9 {U:Type} (ff:U) (op:Operator) (a b:P) (k:P->U):U:=match a,b with
 | .int x,.int y=>cnd (qf op x y) (k (.int (intOp op x y))) ff
 | a,b=>opt ff (s6 op a b) k
noncomputable def idx (i:Int) (n:Nat):Option Nat:=match decide (0<=i) with
 | true=>(match decide (i<n) with | true=>some i.toNat | false=>none)
 | false=>match decide (0<=i+n) with | true=>some (i+n).toNat | false=>none
noncomputable def item {α:Type} (xs:List α) (i:Int):Option α:=match idx i xs.length with
 | some j=>xs[j]?
 | none=>none
noncomputable def j2 (a i:P):Option P:=match a,i with
 | .str x,.int j=>match fits x.cps.size with
  | true=>(match idx j x.cps.size with
   | some j=>(x.cps[j]?).map fun c=>.str ⟨#[c]⟩
   | none=>none)
  | false=>none
 | .lst xs,.int j=>item xs j
 | .tup xs,.int j=>item xs j
 | _,_=>none
noncomputable def getItem (a:V) (i:P) (s:St):Option V:=match a with
 | .p a=>(j2 a i).map .p
 | .ref k=>match s.h.get k with
  | some (.list xs)=>match i with | .int j=>(item xs j).map .p | _=>none
  | some (.listV xs)=>match i with | .int j=>item xs j | _=>none
  | some (.dicti es)=>match i with | .int j=>(eh j es).map .p | _=>none
  | some (.dictR es)=>match i with | .int j=>(eh j es).map .p | _=>none
  | some (.dictiV es)=>match i with | .int j=>eh j es | _=>none
  | some (.dicts es)=>match i with | .str j=>(look j es).map .p | _=>none
  | _=>none
noncomputable def setItem (a:V) (i:P) (v:V) (s:St):Option St:=match a with
 | .p _=>none
 | .ref k=>match s.h.get k with
  | some (.list xs)=>match i,v with | .int j,.p v=>(match decide (0<=j)&&decide (j<xs.length) with | true=>some (upd k (.list (xs.set j.toNat v)) s) | false=>none) | _,_=>none
  | some (.dicti es)=>match i,p9 es.length,v with | .int i,true,.p v=>some (upd k (.dicti (dput i v es)) s) | _,_,_=>none
  | some (.dictiV es)=>match i,p9 es.length with | .int i,true=>some (upd k (.dictiV (dput i v es)) s) | _,_=>none
  | some (.dicts es)=>match i,p9 es.length,v with | .str i,true,.p v=>some (upd k (.dicts (put i v es)) s) | _,_,_=>none
  | _=>none
noncomputable def cut (a:P) (lo hi st:Option V):Option P:=match a,lo,hi,st with
 | .str x,some (.p (.int i)),none,none=>match decide (0<=i)&&fits x.cps.size with | true=>some (.str ⟨(x.cps.toList.drop i.toNat).toArray⟩) | false=>none
 | .str x,none,some (.p (.int i)),none=>match decide (0<=i)&&fits x.cps.size with | true=>some (.str ⟨(x.cps.toList.take i.toNat).toArray⟩) | false=>none
 | .lst xs,some (.p (.int i)),none,none=>match decide (0<=i) with | true=>some (.lst (xs.drop i.toNat)) | false=>none
 | .lst xs,none,none,some (.p (.int i))=>match decide (i = -1) with | true=>some (.lst xs.reverse) | false=>none
 | _,_,_,_=>none
noncomputable def asV (xs:List P):List V:=xs.map .p
noncomputable def Af:List V->Option (List P)
 | []=>some []
 | .p x::r=>match Af r with | some l=>some (x::l) | none=>none
 | .ref _::_=>none
noncomputable def unpack (v:V) (n:Nat) (s:St):Option (List V):=match v with
 | .p (.lst xs)=>match Nat.beq xs.length n with | true=>some (asV xs) | false=>none
 | .p (.tup xs)=>match Nat.beq xs.length n with | true=>some (asV xs) | false=>none
 | .p _=>none
 | .ref k=>match s.h.get k with
  | some (.list xs)=>match Nat.beq xs.length n with | true=>some (asV xs) | false=>none
  | some (.listV xs)=>match Nat.beq xs.length n with | true=>some xs | false=>none
  | _=>none
noncomputable def co:Nat->Int->List P
 | 0,_=>[]
 | n+1,a=>.int a::co n (a+1)
noncomputable def items:P->Option (List P)
 | .lst xs=>some xs
 | .tup xs=>some xs
 | .rng a b=>match fits (b - a).toNat&&(decide (-1000000<=a)&&decide (a<=1000000))&&(decide (-1000000<=b)&&decide (b<=1000000)) with | true=>some (co (b - a).toNat a) | false=>none
 | _=>none
noncomputable def itemAt (k:Nat) (i:Nat) (s:St):Option (Option V):=match s.h.get k with
 | some (.list xs)=>some ((xs[i]?).map .p)
 | some (.listV xs)=>some xs[i]?
 | _=>none
noncomputable def ja (v t:P):Option Bool:=match t with
 | .bi t=>match seq t "int" with
  | true=>(match v with
   | .int _=>some true
   | .str _=>some false
   | .none=>some false
   | _=>none)
  | false=>none
 | .cls c=>match v with
  | .obj d _=>match jz 4 d c with | true=>some true | false=>none
  | _=>none
 | _=>none
noncomputable def Xi (c:Nat):Nat:=match Nat.ble 65 c,Nat.ble c 90 with | true,true=>c+32 | _,_=>c
noncomputable def plainS (x:Str):Bool:=match fits x.cps.size with | true=>x.cps.all fun c=>Nat.blt c 128 | false=>false
noncomputable def Q2 (x:Str):Str:=⟨x.cps.map Xi⟩
noncomputable def nu (x:Str):Bool:=seq x "__debug__" || seq x "__classdict__"
noncomputable def kindOf (e:En) (x:Str):Option NameKind:=match nu x with
 | true=>none
 | false=>look x e.sc.names
noncomputable def load (e:En) (x:Str) (s:St):Option V:=match kindOf e x with
 | some .local=>look x s.loc
 | some .cell | some .free=>match look x e.cells with
  | some k=>match s.h.get k with
   | some (.cell v)=>v
   | _=>none
  | none=>none
 | some .globalImplicit=>(glob x).map .p
 | _=>none
noncomputable def store (e:En) (x:Str) (v:V) (s:St):Option St:=match kindOf e x with
 | some .local=>some { s with loc:=put x v s.loc }
 | some .cell=>match look x e.cells with
  | some k=>match s.h.get k with
   | some (.cell _)=>some (upd k (.cell (some v)) s)
   | _=>none
  | none=>none
 | _=>none
noncomputable def em (h:Tr) (n:Nat) (cl:List (Str×Nat)):List (Str×NameKind)->Tr×Nat×List (Str×Nat)
 | []=>(h,n,cl)
 | (x,k)::r=>match k with
  | .cell=>em (h.ins n (.cell none)) (n+1) ((x,n)::cl) r
  | _=>em h n cl r
noncomputable def am (e:En):List (Str×NameKind)->Option (List (Str×Nat))
 | []=>some []
 | (x,k)::r=>match k with
  | .free=>match look x e.cells,am e r with
   | some c,some l=>some ((x,c)::l)
   | _,_=>none
  | _=>am e r
noncomputable def bindAll (e:En):List Str->List V->St->Option St
 | [],[],s=>some s
 | x::xs,v::vs,s=>match store e x v s with
  | some s=>bindAll e xs vs s
  | none=>none
 | _,_,_=>none
noncomputable def VO.ro:VO->Bool
 | .dictR _=>true
 | _=>false
noncomputable def V.low (n:Nat):V->Bool
 | .p _=>true
 | .ref k=>Nat.blt k n
noncomputable def VO.low (n:Nat):VO->Bool
 | .list _=>true
 | .listV xs=>xs.all (V.low n)
 | .dicti _=>true
 | .dictR _=>true
 | .dictiV es=>es.all fun e=>e.2.low n
 | .dicts _=>true
 | .inst _ d=>Nat.blt d n
 | .ns es=>es.all fun e=>e.2.low n
 | .cell v=>match v with | some v=>v.low n | none=>true
 | .clos _ _ _ _ cl=>cl.all fun e=>Nat.blt e.2 n
 | .tab _ _=>true
noncomputable def qg (n:Nat) (h:Tr):Nat->Nat->Tr->Option Tr
 | 0,_,t=>some t
 | m+1,i,t=>match h.get i with
  | some o=>match o.low n with
   | true=>qg n h m (i+1) (t.ins i o)
   | false=>none
  | none=>none
noncomputable def Q3 (s:St):Nat->V->Option P
 | _,.p x=>some x
 | 0,.ref _=>none
 | f+1,.ref k=>match s.h.get k with
  | some (.list xs)=>some (.lst xs)
  | some (.listV xs)=>match reifyL (Q3 s f) xs with | some l=>some (.lst l) | none=>none
  | some (.inst c d)=>match s.h.get d with
   | some (.ns es)=>match reifyN (Q3 s f) es with | some l=>some (.obj c l) | none=>none
   | _=>none
  | _=>none
where
 reifyL (g:V->Option P):List V->Option (List P)
  | []=>some []
  | v::r=>match g v,reifyL g r with | some x,some l=>some (x::l) | _,_=>none
 reifyN (g:V->Option P):List (Str×V)->Option (List (Str×P))
  | []=>some []
  | v::r=>match g v.2,reifyN g r with | some x,some l=>some ((v.1,x)::l) | _,_=>none
structure H (U:Type) where
 e:En->Expr->St->(V->St->U)->U
 es:En->List Expr->St->(List V->St->U)->U
 t:En->Expr->St->(Bool->St->U)->U
 ss:En->List Stmt->St->(Fl->St->U)->U
 call:Nat->V->List V->St->(V->St->U)->U
structure Known (U:Type) where
 call:Str->Str->Option (Nat->List V->St->(V->St->U)->U)
 comp:Nat->Option (En->Expr->Comprehension->Scope->P->St->(V->St->U)->U)
section
variable {U:Type} (ff:U)
noncomputable def H.none:H U:=⟨fun _ _ _ _=>ff,fun _ _ _ _=>ff,fun _ _ _ _=>ff,fun _ _ _ _=>ff,fun _ _ _ _ _=>ff⟩
variable (O:Known U) (r:H U)
noncomputable def instAttrs:List Str:=(["collations", "descending", "cursor", "table_cursor", "kind", "index", "equals", "equal_affinities"]:List Str)++(["low", "high", "low_affinity", "high_affinity", "in_list", "in_affinity", "covering", "is_single"]:List Str)++(["rows", "cost", "name", "value", "program", "bindings", "ops", "columns"]:List Str)++(["registers", "cursors", "slots", "writes", "labels", "next_label", "table", "root"]:List Str)++(["unique", "origin", "sql"]:List Str)
noncomputable def Am (x:Str):List Str->Bool
 | []=>false
 | y::r=>match seq y x with | true=>true | false=>Am x r
noncomputable def Lq (c a:Str):Bool:=match seq c "Program" with
 | true=>Am a ["value", "cursor"]
 | false=>match seq c "OperatorCoder" with
  | true=>Am a ["in_list"]
  | false=>false
noncomputable def di (c a:Str):Bool:=Am a instAttrs && !Lq c a
noncomputable def s7:Expr->Bool
 | .Call (.Name _ _) [] [] _=>false
 | _=>true
noncomputable def P4:P->Bool
 | .bi _=>false
 | _=>true
noncomputable def Gb:V->Bool
 | .p x=>P4 x
 | .ref _=>true
noncomputable def Xj (a:V) (i:P) (v:V) (s:St) (k:St->U):U:=match a with
 | .p _=>ff
 | .ref l=>match s.h.get l with
  | some (.dicti es)=>(match i,v with | .int j,.p v=>cnd (p9 es.length) (k (upd l (.dicti (dput j v es)) s)) ff | _,_=>ff)
  | _=>opt ff (setItem (.ref l) i v s) k
noncomputable def j3 (e:En) (t:Expr) (v:V) (s:St) (Q:St->U):U:=match t with
 | .Name x _=>opt ff (store e x v s) Q
 | .Attribute o a _=>r.e e o s fun ov s=>match ov with
  | .ref k=>match s.h.get k with
   | some (.inst c d)=>match s.h.get d with
    | some (.ns es)=>cnd (p9 es.length&&di c a) (Q (upd d (.ns (put a v es)) s)) ff
    | _=>ff
   | _=>ff
  | _=>ff
 | .Subscript o i _=>r.e e o s fun ov s=>r.e e i s fun iv s=>match iv with
  | .p i=>Xj ff ov i v s Q
  | _=>ff
 | _=>ff
noncomputable def assignEach (e:En):List Expr->List V->St->(St->U)->U
 | [],[],s,Q=>Q s
 | t::ts,v::vs,s,Q=>j3 ff r e t v s fun s=>assignEach e ts vs s Q
 | _,_,_,_=>ff
noncomputable def aw:List Expr->Bool
 | []=>true
 | .Starred .. :: _=>false
 | _::r=>aw r
noncomputable def assign (e:En) (t:Expr) (v:V) (s:St) (Q:St->U):U:=match t with
 | .Tuple ts _ _=>cnd (aw ts) (opt ff (unpack v ts.length s) fun vs=>assignEach ff r e ts vs s Q) ff
 | t=>j3 ff r e t v s Q
noncomputable def P5 (e:En):List Expr->St->(Bool->St->U)->U
 | [],s,Q=>Q true s
 | c::cs,s,Q=>r.t e c s fun b s=>cnd b (P5 e cs s Q) (Q false s)
noncomputable def Lr (e:En) (x:Option Expr) (s:St) (Q:Option V->St->U):U:=match x with
 | some x=>r.e e x s fun v s=>Q (some v) s
 | none=>Q none s
noncomputable def pairs (e:En):List (Option Expr)->List Expr->St->(List (V×V)->St->U)->U
 | [],[],s,Q=>Q [] s
 | some k::ks,v::vs,s,Q=>r.e e k s fun kv s=>r.e e v s fun vv s=>pairs e ks vs s fun l s=>Q ((kv,vv)::l) s
 | _,_,_,_=>ff
noncomputable def gi:List (V×V)->Option (List (Int×V))
 | []=>some []
 | (.p (.int k),v)::r=>match gi r with | some l=>some ((k,v)::l) | none=>none
 | _=>none
noncomputable def gj:List (V×V)->Option (List (Str×P))
 | []=>some []
 | (.p (.str k),.p v)::r=>match gj r with | some l=>some ((k,v)::l) | none=>none
 | _=>none
noncomputable def nx:List (Int×V)->Option (List (Int×P))
 | []=>some []
 | (k,.p x)::r=>match nx r with | some l=>some ((k,x)::l) | none=>none
 | (_,.ref _)::_=>none
noncomputable def s8 {α:Type}:List (Int×α)->Bool
 | []=>true
 | e::r=>match eh e.1 r with | none=>s8 r | some _=>false
noncomputable def s9 {α:Type}:List (Str×α)->Bool
 | []=>true
 | e::r=>match look e.1 r with | none=>s9 r | some _=>false
noncomputable def fx (isI0:Bool) (l:List (V×V)):Option VO:=match isI0 with
 | true=>(match gi l with
  | some l=>(match s8 l with
   | true=>(match nx l with
    | some l=>some (.dicti l)
    | none=>some (.dictiV l))
   | false=>none)
  | none=>none)
 | false=>match gj l with
  | some l=>(match s9 l with | true=>some (.dicts l) | false=>none)
  | none=>none
noncomputable def intKeys:List (Option Expr)->Bool
 | some (.Constant (.int _) _ _)::_=>true
 | _=>false
noncomputable def frozen (mu:Nat) (vs:List V):Bool:=match mu with
 | 0=>true
 | 1 => !vs.isEmpty
 | _=>false
inductive Me where
 | low (x:Str) | own (c m:Str) | app (k:Nat) | get (k:Nat)
noncomputable def jb (es:Option α) (c m:Str):Option Me:=match es,cz 3 c m with
 | none,some (.fn c m)=>some (.own c m)
 | _,_=>none
noncomputable def Un (ov:V) (m:Str) (s:St):Option Me:=match ov with
 | .p (.str x)=>match seq m "lower" with | true=>some (.low x) | false=>none
 | .p (.obj c es)=>jb (look m es) c m
 | .p _=>none
 | .ref k=>match s.h.get k with
  | some (.inst c d)=>match s.h.get d with
   | some (.ns es)=>jb (look m es) c m
   | _=>none
  | some (.list _)=>match seq m "append" with | true=>some (.app k) | false=>none
  | some (.listV _)=>match seq m "append" with | true=>some (.app k) | false=>none
  | some (.dicti _)=>match seq m "get" with | true=>some (.get k) | false=>none
  | _=>none
noncomputable def method (e:En) (me:Me) (ov:V) (vs:List V) (s:St) (Q:V->St->U):U:=match me with
 | .low x=>match vs with
  | []=>cnd (plainS x) (Q (.p (.str (Q2 x))) s) ff
  | _=>ff
 | .own c m=>r.call e.d (.p (.fn c m)) (ov::vs) s Q
 | .app k=>match s.h.get k with
  | some (.list xs)=>match vs with
   | [.p v]=>cnd (fits (xs.length+1)) (Q (.p .none) (upd k (.list (xs++[v])) s)) ff
   | [.ref j]=>cnd (fits (xs.length+1)) (Q (.p .none) (upd k (.listV (asV xs++[.ref j])) s)) ff
   | _=>ff
  | some (.listV xs)=>match vs with
   | [v]=>cnd (fits (xs.length+1)) (Q (.p .none) (upd k (.listV (xs++[v])) s)) ff
   | _=>ff
  | _=>ff
 | .get k=>match s.h.get k with
  | some (.dicti es)=>match vs with
   | [.p (.int i)]=>Q (.p ((eh i es).getD .none)) s
   | _=>ff
  | _=>ff
noncomputable def vz (e:En) (as:List Expr) (s:St) (Q:List V->St->U):U:=match as with
 | []=>Q [] s
 | a::as=>r.es e (a::as) s Q
noncomputable def calN:List Str:=["len", "int", "max", "min", "isinstance", "range", "bool", "tuple"]
noncomputable def callable (f:V) (s:St):Bool:=match f with
 | .p (.fn ..)=>true
 | .p (.cls _)=>true
 | .p (.bi n)=>calN.any (seq n)
 | .p _=>false
 | .ref k=>match s.h.get k with | some (.clos ..)=>true | _=>false
noncomputable def An:List (Option Expr)->List Expr->Bool
 | [],[]=>true
 | some _::ks,_::vs=>An ks vs
 | _,_=>false
noncomputable def Ki (e:En) (ks:List (Option Expr)) (vs:List Expr) (s:St) (Q:V->St->U):U:=match ks with
 | []=>match vs with | []=>Q (.ref s.n) (new (.dicti []) s) | _=>ff
 | _=>cnd (Nat.ble ks.length 15&&An ks vs) (pairs ff r e ks vs (new (.dicti []) s) fun l s'=>match s'.h.get s.n with
  | some (.dicti [])=>opt ff (fx (intKeys ks) l) fun o=>Q (.ref s.n) (upd s.n o s')
  | _=>ff) ff
noncomputable def tc:Expr->Bool
 | .Set .. => false
 | _=>true
noncomputable def compOk (sc:Scope) (g:Comprehension):Bool:=(match sc.kind with | .function=>true | _=>false)&&(match g.is_async with | 0=>true | _=>false)&&tc g.iter&&namesOk sc.names sc.names
where namesOk (all:List (Str×NameKind)):List (Str×NameKind)->Bool
 | []=>true
 | (x,k)::r=>match k with
  | .cell=>false
  | .local=>(match look x all with | some .local=>namesOk all r | _=>false)
  | _=>namesOk all r
noncomputable def cf (e:En) (elt t:Expr) (ifs:List Expr) (Q:List V->St->U):List P->List V->St->U
 | [],acc,s=>Q acc s
 | v::vs,acc,s=>assign ff r e t (.p v) s fun s=>P5 r e ifs s fun b s =>
  cnd b (r.e e elt s fun x s=>cnd (fits (acc.length+1)) (cf e elt t ifs Q vs (acc++[x]) s) ff) (cf e elt t ifs Q vs acc s)
noncomputable def dv (e:En) (elt:Expr) (g:Comprehension) (sc:Scope) (iv:P) (s:St) (Q:V->St->U):U :=
 cnd (compOk sc g) (opt ff (am e sc.names) fun cl=>opt ff (items iv) fun xs =>
  cf ff r ⟨sc,cl,e.d,e.mu,none⟩ elt g.target g.ifs (fun vs s'=>match Af vs with
   | some ps=>Q (.p (.lst ps)) { s' with loc:=s.loc }
   | none=>Q (.ref s'.n) (new (.listV vs) { s' with loc:=s.loc })) xs [] { s with loc:=[] }) ff
noncomputable def Gd (e:En) (elt:Expr) (gens:List Comprehension) (sc:Scope) (pos:Pos) (s:St) (Q:V->St->U):U:=match gens with
 | [g]=>cnd (compOk sc g&&(am e sc.names).isSome) (r.e e g.iter s fun iv s=>match iv with
  | .p iv=>match O.comp pos.line with
   | some C=>C e elt g sc iv s Q
   | none=>dv ff r e elt g sc iv s Q
  | _=>ff) ff
 | _=>ff
noncomputable def Q4 (e:En) (a:Expr) (ops:List CmpOp) (bs:List Expr) (s:St) (Q:Bool->St->U):U:=match ops,bs with
 | [op],[b]=>cnd (tc b) (r.e e a s fun x s=>r.e e b s fun y s=>opt ff (cmp op x y s) fun b=>Q b s) ff
 | [op,op'],[b,c]=>cnd (tc c) (r.e e a s fun x s=>r.e e b s fun y s=>opt ff (cmp op x y s) fun d =>
   cnd d (r.e e c s fun z s=>opt ff (cmp op' y z s) fun b=>Q b s) (Q false s)) ff
 | _,_=>ff
noncomputable def Ao (n:Nat) (v:V) (s:St) (Q:V->St->U):U:=match v.low n,s.loc.all (fun p=>p.2.low n),qg n s.h n 0 .nil with
 | true,true,some h=>Q v ⟨s.loc,h,n⟩
 | _,_,_=>Q v s
noncomputable def Ls (c:Const) (s:St) (Q:V->St->U):U:=match c with
 | .none=>Q (.p .none) s
 | .bool b=>Q (.p (.bool b)) s
 | .int i=>Q (.p (.int i)) s
 | .str x=>Q (.p (.str x)) s
 | _=>ff
noncomputable def Q5 (e:En) (op:BoolOp) (xs:List Expr) (pos:Pos) (s:St) (Q:V->St->U):U:=match xs with
 | []=>ff
 | [x]=>r.e e x s Q
 | x::y::rest=>r.e e x s fun v s=>opt ff (truth v s) fun b=>match op with
  | .And=>cnd b (r.e e (.BoolOp op (y::rest) pos) s Q) (Q v s)
  | .Or=>cnd b (Q v s) (r.e e (.BoolOp op (y::rest) pos) s Q)
noncomputable def Xk (e:En) (a:Expr) (op:Operator) (b:Expr) (s:St) (Q:V->St->U):U:=r.e e a s fun x s=>r.e e b s fun y s=>match x,y with
 | .p x,.p y=>Z9 ff op x y fun v=>Q (.p v) s
 | _,_=>ff
noncomputable def bzv (e:En) (op:UnaryOp) (x:Expr) (s:St) (Q:V->St->U):U:=match op with
 | .USub=>r.e e x s fun v s=>match v with
  | .p (.int i)=>Q (.p (.int (-i))) s
  | _=>ff
 | .Not=>r.e e x s fun v s=>opt ff (truth v s) fun b=>Q (.p (.bool (!b))) s
 | _=>ff
noncomputable def Q6 (e:En) (xs:List Expr) (s:St) (Q:V->St->U):U:=r.es e xs s fun vs s=>cnd (fits vs.length) (match Af vs with
 | some ps=>match frozen e.mu vs with
  | true=>Q (.p (.lst ps)) s
  | false=>Q (.ref s.n) (new (.list ps) s)
 | none=>Q (.ref s.n) (new (.listV vs) s)) ff
noncomputable def Lu (e:En) (o:Expr) (m:Str) (apos:Pos) (as:List Expr) (pos:Pos) (s:St) (Q:V->St->U):U:=cnd (s7 o&&(aw as&&(Nat.beq apos.endLine pos.line&&Nat.blt as.length 30))) (r.e e o s fun ov s=>opt ff (Un ov m s) fun me=>vz r e as s fun vs s=>method ff r e me ov vs s Q) ff
noncomputable def Lv (e:En) (f:Expr) (as:List Expr) (s:St) (Q:V->St->U):U:=cnd (aw as) (r.e e f s fun fv s=>vz r e as s fun vs s=>cnd (callable fv s) (r.call e.d fv vs s Q) ff) ff
noncomputable def Q7 (e:En) (o:Expr) (a:Str) (s:St) (Q:V->St->U):U:=cnd (s7 o&&Am a instAttrs) (r.e e o s fun ov s=>match ov with
 | .p (.obj c es)=>opt ff (look a es) fun v=>cnd (P4 v&&di c a) (Q (.p v) s) ff
 | .p _=>ff
 | .ref k=>match s.h.get k with
  | some (.inst c d)=>match s.h.get d with
   | some (.ns es)=>opt ff (look a es) fun v=>cnd (Gb v&&di c a) (Q v s) ff
   | _=>ff
  | _=>ff) ff
noncomputable def Lw (e:En) (o:Expr) (lo hi st:Option Expr) (s:St) (Q:V->St->U):U:=r.e e o s fun ov s=>Lr r e lo s fun l s=>Lr r e hi s fun u s=>Lr r e st s fun t s=>match ov with
 | .p a=>opt ff (cut a l u t) fun v=>Q (.p v) s
 | _=>ff
noncomputable def az0 (a:V) (i:P) (s:St) (k:V->U):U:=match a with
 | .p a=>opt ff (j2 a i) fun x=>k (.p x)
 | .ref l=>match s.h.get l with
  | some (.list xs)=>(match i with | .int j=>opt ff (item xs j) fun x=>k (.p x) | _=>ff)
  | some (.dicti es)=>(match i with | .int j=>opt ff (eh j es) fun x=>k (.p x) | _=>ff)
  | some (.dicts es)=>(match i with | .str j=>opt ff (look j es) fun x=>k (.p x) | _=>ff)
  | _=>opt ff (getItem (.ref l) i s) k
noncomputable def Q8 (e:En) (o i:Expr) (s:St) (Q:V->St->U):U:=r.e e o s fun ov s'=>r.e e i s' fun iv s'=>match iv with
 | .p i=>az0 ff ov i s' fun v=>match o with
  | .Dict .. => Ao s.n v s' Q
  | _=>Q v s'
 | _=>ff
noncomputable def evE (e:En) (x:Expr) (s:St) (Q:V->St->U):U:=match x with
 | .Constant c _ _=>Ls ff c s Q
 | .Name x _=>opt ff (load e x s) fun v=>Q v s
 | .BoolOp op xs pos=>Q5 ff r e op xs pos s Q
 | .BinOp a op b _=>Xk ff r e a op b s Q
 | .UnaryOp op x _=>bzv ff r e op x s Q
 | .IfExp t a b _=>r.t e t s fun c s=>cnd c (r.e e a s Q) (r.e e b s Q)
 | .Dict ks vs _=>Ki ff r e ks vs s Q
 | .List xs _=>Q6 ff r e xs s Q
 | .Tuple xs _ _=>r.es e xs s fun vs s=>cnd (fits vs.length) (opt ff (Af vs) fun ps=>Q (.p (.tup ps)) s) ff
 | .Compare a ops bs _=>Q4 ff r e a ops bs s fun b s=>Q (.p (.bool b)) s
 | .Call f as ks pos=>match ks with
  | []=>match f with
   | .Attribute o m apos=>Lu ff r e o m apos as pos s Q
   | f=>Lv ff r e f as s Q
  | _=>ff
 | .Attribute o a _=>Q7 ff r e o a s Q
 | .Subscript o i _=>match i with
  | .Slice lo hi st _=>Lw ff r e o lo hi st s Q
  | i=>Q8 ff r e o i s Q
 | .ListComp elt gens sc pos=>Gd ff O r e elt gens sc pos s Q
 | _=>ff
noncomputable def Xl (e:En):List Expr->St->(List V->St->U)->U
 | [],s,Q=>Q [] s
 | x::xs,s,Q=>r.e e x s fun v s=>Xl e xs s fun vs s=>Q (v::vs) s
noncomputable def evT (e:En) (x:Expr) (s:St) (Q:Bool->St->U):U:=match x with
 | .UnaryOp .Not x _=>r.t e x s fun b s=>Q (!b) s
 | .BoolOp op xs pos=>match xs with
  | []=>Q (match op with | .And=>true | .Or=>false) s
  | x::rest=>r.t e x s fun b s=>match op with
   | .And=>cnd b (r.t e (.BoolOp op rest pos) s Q) (Q false s)
   | .Or=>cnd b (Q true s) (r.t e (.BoolOp op rest pos) s Q)
 | .Compare a ops bs _=>Q4 ff r e a ops bs s Q
 | .IfExp t a b _=>r.t e t s fun c s=>cnd c (r.t e a s Q) (r.t e b s Q)
 | x=>r.e e x s fun v s=>opt ff (truth v s) fun b=>Q b s
noncomputable def jj (e:En) (t:Expr) (body:List Stmt) (Q:Fl->St->U):List P->St->U
 | [],s=>Q .next s
 | v::vs,s=>assign ff r e t (.p v) s fun s=>r.ss e body s fun f s=>match f with
  | .next=>jj e t body Q vs s
  | .brk=>Q .next s
  | .ret v=>Q (.ret v) s
noncomputable def qh (e:En) (t:Expr) (body:List Stmt) (k:Nat) (Q:Fl->St->U):Nat->Nat->St->U
 | 0,_,_=>ff
 | f+1,i,s=>opt ff (itemAt k i s) fun o=>match o with
  | none=>Q .next s
  | some v=>assign ff r e t v s fun s=>r.ss e body s fun fl s=>match fl with
   | .next=>qh e t body k Q f (i+1) s
   | .brk=>Q .next s
   | .ret v=>Q (.ret v) s
noncomputable def mh:Expr->Bool
 | .ListComp .. | .SetComp .. | .DictComp .. => false
 | _=>true
noncomputable def fy:List Expr->Bool
 | []=>true
 | t::r=>(match t with
  | .Name x _ => !(r.any fun u=>match u with | .Name y _=>seq y x | _=>false)
  | _=>true)&&fy r
noncomputable def qi (es:List Expr):Bool:=match es.all (constantsAlone 8) with
 | true=>es.all (foldedForSure 8)
 | false=>true
noncomputable def Q9 (a:Arguments):Bool:=a.args.all fun x=>x.annotation.isNone
noncomputable def eo (e:En) (t:Expr) (v:Expr) (s:St) (Q:Fl->St->U):U:=cnd (mh v) (r.e e v s fun v s=>assign ff r e t v s fun s=>Q .next s) ff
noncomputable def qj (e:En) (t:Expr) (es:List Expr) (v:Expr) (s:St) (Q:Fl->St->U):U:=match t with
 | .Tuple ts _ _=>match Nat.beq ts.length es.length with
  | true=>cnd (aw ts&&aw es&&(qi es&&fy ts)) (r.es e es s fun vs s=>cnd (fits vs.length&&Nat.beq vs.length ts.length) (assignEach ff r e ts vs s fun s=>Q .next s) ff) ff
  | false=>ff
 | t=>eo ff r e t v s Q
noncomputable def ny (e:En) (t:Expr) (v:Expr) (s:St) (Q:Fl->St->U):U:=match v with
 | .Tuple es _ _=>qj ff r e t es v s Q
 | .ListComp elt gens sc pos=>Gd ff O r e elt gens sc pos s fun v s=>assign ff r e t v s fun s=>Q .next s
 | v=>eo ff r e t v s Q
noncomputable def Xm (e:En) (t it:Expr) (body:List Stmt) (s:St) (Q:Fl->St->U):U:=cnd (tc it) (r.e e it s fun iv s=>match iv with
 | .p x=>opt ff (items x) fun xs=>jj ff r e t body Q xs s
 | .ref k=>match s.h.get k with
  | some (.dicti es)=>cnd (p9 es.length) (jj ff r e t body (fun f s=>match s.h.get k with
   | some (.dictR es')=>Q f (upd k (.dicti es') s)
   | _=>ff) (es.map fun e=>.int e.1) (upd k (.dictR es) s)) ff
  | _=>qh ff r e t body k Q 200 0 s) ff
noncomputable def Xn (e:En) (name:Str) (args:Arguments) (body:List Stmt) (sc:Scope) (bnd:Str) (s:St) (Q:Fl->St->U):U:=opt ff e.tb fun k=>match s.h.get k.1 with
 | some (.tab f false)=>opt ff (am e sc.names) fun cl=>match gc args&&Q9 args&&seq name bnd,seq f k.2 with
  | true,true=>opt ff (store e name (.ref s.n) (new (.clos name args body sc cl) (upd k.1 (.tab f true) s))) fun s=>Q .next s
  | _,_=>ff
 | _=>ff
noncomputable def evS (e:En) (x:Stmt) (s:St) (Q:Fl->St->U):U:=match x with
 | .Expr v _=>cnd (mh v) (r.e e v s fun _ s=>Q .next s) ff
 | .Return v _=>match v with
  | some v=>r.e e v s fun v s=>Q (.ret v) s
  | none=>Q (.ret (.p .none)) s
 | .Assign [t] v _=>ny ff O r e t v s Q
 | .If t a b _=>r.t e t s fun c s=>cnd c (r.ss e a s Q) (r.ss e b s Q)
 | .For t it body [] _=>Xm ff r e t it body s Q
 | .FunctionDef name args body [] none [] sc none bnd _=>Xn ff e name args body sc bnd s Q
 | .Pass _=>Q .next s
 | .Break _=>Q .brk s
 | _=>ff
noncomputable def evSs (e:En):List Stmt->St->(Fl->St->U)->U
 | [],s,Q=>Q .next s
 | x::xs,s,Q=>evS ff O r e x s fun f s=>match f with
  | .next=>evSs e xs s Q
  | f=>Q f s
noncomputable def leave (cutting:Bool) (s s':St) (f:Fl) (Q:V->St->U):U:=match f with
 | .ret v=>match cutting,v with
  | true,.p x=>match qg s.n s'.h s.n 0 .nil with
   | some h=>Q (.p x) ⟨s.loc,h,s.n⟩
   | none=>Q (.p x) { s' with loc:=s.loc }
  | _,v=>Q v { s' with loc:=s.loc }
 | _=>Q (.p .none) { s' with loc:=s.loc }
noncomputable def frameOk (a:Arguments) (sc:Scope) (cl:List (Str×Nat)):Bool:=(match sc.kind with | .function=>true | _=>false) && !sc.isCoroutine && !sc.isGenerator &&
 a.posonlyargs.isEmpty&&a.vararg.isNone&&a.kwonlyargs.isEmpty&&a.kwarg.isNone&&once (gf a)&&(cl.isEmpty||sc.names.all fun p=>match p.2 with | .cell=>false | _=>true)
where once:List Str->Bool
 | []=>true
 | x::r => !Am x r&&once r
noncomputable def enter (d mu:Nat) (tb:Option (Nat×Str)) (cutting:Bool) (args:Arguments) (body:List Stmt) (sc:Scope) (cl:List (Str×Nat)) (vs:List V) (s:St) (Q:V->St->U):U :=
 cnd (Nat.ble 40 d || !frameOk args sc cl) ff (match em s.h s.n cl sc.names with
 | (h,n,cells)=>opt ff (bindAll ⟨sc,cells,d+1,mu,tb⟩ (gf args) vs ⟨[],h,n⟩) fun s'=>r.ss ⟨sc,cells,d+1,mu,tb⟩ body s' fun f s'=>leave cutting s s' f Q)
noncomputable def dflt:Expr->Option V
 | .Constant .none _ _=>some (.p .none)
 | .Constant (.int i) _ _=>some (.p (.int i))
 | .Constant (.bool b) _ _=>some (.p (.bool b))
 | _=>none
noncomputable def ya:List Expr->Option (List V)
 | []=>some []
 | x::r=>match dflt x,ya r with | some v,some l=>some (v::l) | _,_=>none
noncomputable def fill (a:Arguments) (ds:List Expr) (vs:List V):Option (List V) :=
 let k:=a.args.length - vs.length
 match Nat.blt ds.length k with
 | true=>none
 | false=>(ya (ds.drop (ds.length - k))).map (vs ++ ·)
noncomputable def Ra (c m:Str):Nat:=match seq c noStr with
 | true=>match seq m "_law_pool" with
  | true=>2
  | false=>match seq m "_law_told" with | true=>1 | false=>0
 | false=>match seq c "Program" with
  | true=>2
  | false=>0
noncomputable def tabNo (m:Str):Option (Nat×Str):=match seq m "_law_program" with
 | true=>some (0,m)
 | false=>match seq m "walk_list" with
  | true=>some (1,m)
  | false=>match seq m "walk_rowid" with
   | true=>some (2,m)
   | false=>match seq m "walk_index" with
    | true=>some (3,m)
    | false=>none
noncomputable def Ge (m:Str):Bool:=seq m "_law_move" || seq m "_law_put"
noncomputable def Xo (vs:List V) (s:St):Option V:=match vs with
 | [.p (.lst xs)]=>some (.p (.int xs.length))
 | [.p (.tup xs)]=>some (.p (.int xs.length))
 | [.ref k]=>match s.h.get k with
  | some (.list xs)=>some (.p (.int xs.length))
  | some (.listV xs)=>some (.p (.int xs.length))
  | _=>none
 | _=>none
noncomputable def Xp (vs:List V):Option V:=match vs with
 | [.p (.int i)]=>some (.p (.int i))
 | [.p (.bool b)]=>some (.p (.int (cnd b 1 0)))
 | _=>none
noncomputable def az1 (vs:List V):Option V:=match vs with
 | [.p (.int a),.p (.int b)]=>some (.p (.int (cnd (decide (a<b)) b a)))
 | _=>none
noncomputable def az2 (vs:List V):Option V:=match vs with
 | [.p (.int a),.p (.int b)]=>some (.p (.int (cnd (decide (b<a)) b a)))
 | _=>none
noncomputable def Xq (vs:List V) (s:St):Option V:=match vs with
 | [.p v,.p t]=>(ja v t).map fun b=>.p (.bool b)
 | [.ref k,.p (.cls c)]=>match s.h.get k with
  | some (.inst d _)=>match jz 4 d c with | true=>some (.p (.bool true)) | false=>none
  | _=>none
 | _=>none
noncomputable def Ap (vs:List V):Option V:=match vs with
 | [.p (.int b)]=>some (.p (.rng 0 b))
 | [.p (.int a),.p (.int b)]=>some (.p (.rng a b))
 | _=>none
noncomputable def Lx (vs:List V):Option V:=match vs with
 | [.p (.bool b)]=>some (.p (.bool b))
 | _=>none
noncomputable def Aq (vs:List V):Option V:=match vs with
 | [.p (.lst xs)]=>some (.p (.tup xs))
 | [.p (.tup xs)]=>some (.p (.tup xs))
 | _=>none
noncomputable def builtin (n:Str) (vs:List V) (s:St):Option V :=
 match seq n "len" with
 | true=>Xo vs s
 | false=>match seq n "int" with
  | true=>Xp vs
  | false=>match seq n "max" with
   | true=>az1 vs
   | false=>match seq n "min" with
    | true=>az2 vs
    | false=>match seq n "isinstance" with
     | true=>Xq vs s
     | false=>match seq n "range" with
      | true=>Ap vs
      | false=>match seq n "bool" with
       | true=>Lx vs
       | false=>match seq n "tuple" with
        | true=>Aq vs
        | false=>none
noncomputable def af (d:Nat) (c m:Str) (vs:List V) (s:St) (Q:V->St->U):U:=match fnOf c m with
 | some (fd,ds)=>opt ff (fill fd.args ds vs) fun vs=>enter ff r d (Ra c m) (tabNo m) (Ge m) fd.args fd.body fd.sc [] vs s Q
 | none=>ff
noncomputable def mi (d:Nat) (f:V) (vs:List V) (s:St) (Q:V->St->U):U:=match f with
 | .p (.fn c m)=>match seq m noStr with
  | true=>ff
  | false=>match O.call c m with
   | some C=>C d vs s Q
   | none=>af ff r d c m vs s Q
 | .ref k=>match s.h.get k with
  | some (.clos _ args body sc cl)=>enter ff r d 0 none false args body sc cl vs s Q
  | _=>ff
 | .p (.cls c)=>match O.call c noStr with
  | some C=>C d vs s Q
  | none=>match cz 3 c "__init__" with
   | some (.fn c' m')=>cnd (Nat.ble 40 d) ff (af ff r (d+1) c' m' (.ref (s.n+1)::vs) (new (.inst c s.n) (new (.ns []) s)) fun v s'=>match v with
    | .p .none=>Q (.ref (s.n+1)) s'
    | _=>ff)
   | _=>ff
 | .p (.bi n)=>opt ff (builtin n vs s) fun v=>Q v s
 | _=>ff
noncomputable def step:H U:=⟨evE ff O r,Xl r,evT ff r,evSs ff O r,mi ff O r⟩
end
noncomputable def ev {U:Type} (ff:U) (O:Known U):Nat->H U
 | 0=>H.none ff
 | n+1=>step ff O (ev ff O n)
end Mine
end
section
open PySem PySem.W PySem.Spec PySem.Calls PyProof.Rows PySem.SeqAt
set_option tactic.hygienic false
namespace Mine
noncomputable def FT:List (Str×Str×Addr):=([(noStr, "law",1035),(noStr, "_law_pool",934),(noStr, "_law_take",941),(noStr, "_law_one",948),(noStr, "_law_value",955),(noStr, "_law_class",962),(noStr, "_law_sign",969),(noStr, "_law_placed",974),(noStr, "_law_index_path",979),(noStr, "_law_rowid_path",984),(noStr, "_law_within",991),(noStr, "_law_is_due",996),(noStr, "_law_program",1003),(noStr, "_law_move",1008),(noStr, "_law_put",1013)]:List (Str×Str×Addr)) ++
 ([(noStr, "_law_told",1018),(noStr, "_law_index_right",1023),(noStr, "_law_rowids_right",1028),(noStr, "walk",123),(noStr, "walk_all",130),(noStr, "key_value",137),(noStr, "walk_list",144),(noStr, "walk_rowid",151),(noStr, "bound_value",158),(noStr, "walk_rowids",165),(noStr, "seek_word",172),(noStr, "past_word",179),(noStr, "walk_index",186),(noStr, "walk_range",193),("KeyInfo", "__init__",67)]:List (Str×Str×Addr)) ++
 ([("KeyInfo", "count",74),("Handle", "__init__",109),("Literal", "__init__",252),("OperatorCoder", "__init__",640),("OperatorCoder", "expression",648),("Path", "__init__",770),("Program", "__init__",814),("Program", "add",822),("Program", "label",836),("Program", "place",843),("Program", "register",851),("Program", "cursor",858),("Program", "finish",887),("Index", "__init__",908),("Index", "info",913)]:List (Str×Str×Addr))
noncomputable def CT:List (Str×Addr):=[("KeyInfo",91),("Handle",112),("Literal",262),("OperatorCoder",751),("Path",794),("Program",890),("Index",923)]
noncomputable def PTs:List (Str×Addr):=[("_law_program",998),("walk_list",139),("walk_rowid",146),("walk_index",181)]
noncomputable def JT:List (Str×Addr):=[("JUMPS",799)]
noncomputable def addrs:List Nat:=([1,3,66,67,73,74,90,91,108,109,111,112,122,123,129,130,136,137,143,144,150,151,157,158,164,165,171,172,178,179]:List Nat)++([185,186,192,193,221,222,235,236,251,252,261,262,639,640,641,647,648,750,751,763,769,770,793,794,799,813,814,815,821,822]:List Nat)++([835,836,842,843,844,850,851,857,858,886,887,889,890,907,908,912,913,922,923,933,934,940,941,947,948,954,955,961,962,968]:List Nat)++([969,973,974,978,979,983,984,990,991,995,996,1002,1003,1007,1008,1012,1013,1017,1018,1022,1023,1027,1028,1034,1035]:List Nat)
noncomputable def Ly (c m:Str):List (Str×Str×Addr)->Option Addr
 | []=>none
 | p::r=>match seq p.1 c,seq p.2.1 m with
  | true,true=>some p.2.2
  | _,_=>Ly c m r
noncomputable def K0 (h:Heap):Frag:=addrs.filterMap fun a=>(h.get? a).map fun o=>(a,o)
noncomputable def isRef (v:Option (Option Value)) (a:Addr):Bool:=match v with
 | some (some (.ref b))=>Nat.beq b a
 | _=>false
noncomputable def cg (K:Frag) (x:Str):Bool:=match glob x with
 | some (.int i)=>(match nsIn K mainGlobals x with | some (some (.int j _))=>decide (j=i) | _=>false)
 | some (.bi y)=>(match nsIn K mainGlobals x with | some none=>true | _=>false)&&(bootBuiltins x).isSome&&seq y x && !seq x "__name__"
 | some (.fn c m)=>(match Ly noStr x FT with | some a=>isRef (nsIn K mainGlobals x) a | none=>false)
 | some (.cls c)=>(match look x CT with | some a=>isRef (nsIn K mainGlobals x) a | none=>false)
 | some (.top c)=>(match look x JT with | some a=>isRef (nsIn K mainGlobals x) a | none=>false)
 | _=>true
noncomputable def Gf (K:Frag) (p:Str×Str×Addr):Bool:=match seq p.1 noStr with
 | true=>isRef (nsIn K mainGlobals p.2.1) p.2.2
 | false=>true
noncomputable def Ar (K:Frag) (C:Addr):Bool:=plainGet K C noStr&&(hasDictIn K C&&(plainOver K C&&(makesIn K C&&(keepIn K (.ref C)&&findIn K (.ref C) "__setattr__" == some (some (.builtin "object.__setattr__"))))))
noncomputable def nz (K:Frag) (c:Str) (C:Addr) (a:Str):Bool:=match Lq c a with
 | true=>true
 | false=>match findIn K (.ref C) a with | some none=>true | _=>false
noncomputable def n3 (K:Frag) (c:Str) (C:Addr) (m:Str):Bool:=match cz 3 c m with
 | some (.fn c' m')=>(match Ly c' m' FT with
  | some a=>isRef (findIn K (.ref C) m) a&&isFn K (.ref a)
  | none=>false)
 | _=>true
noncomputable def v4 (K:Frag) (c:Str) (C:Addr) (d:Str) (D:Addr):Bool:=match jz 4 c d with
 | true=>isIn K (.ref C) D
 | false=>true
noncomputable def v5 (x:Expr) (v:Value):Bool:=match dflt x with
 | none=>true
 | some (.p .none)=>(match v with | .none=>true | _=>false)
 | some (.p (.int i))=>(match v with | .int j _=>decide (j=i) | _=>false)
 | some (.p (.bool b))=>(match v with | .bool c=>b == c | _=>false)
 | _=>false
noncomputable def n4:List Expr->List Value->Bool
 | [],[]=>true
 | x::xs,v::vs=>v5 x v&&n4 xs vs
 | _,_=>false
noncomputable def v6 (K:Frag) (cc P:Addr):Bool:=match K.lookup cc with
 | some ⟨.type t,_,.fields vs,_⟩=>decide (t = "code")&&((match (vs[11]? : Option Value) with | some (.ref q)=>Nat.beq q P | _=>false)&&((match (vs[18]? : Option Value) with | some (.str _ _)=>true | _=>false) &&
   ((match (vs[7]? : Option Value) with | some (.int _ _)=>true | _=>false)&&((match (vs[9]? : Option Value) with | some (.bool _)=>true | _=>false)&&((match (vs[10]? : Option Value) with | some (.int _ _)=>true | _=>false) && !Nat.beq cc P)))))
 | _=>false
noncomputable def As (K:Frag) (m:Str) (ds:List Expr) (ps:List Str) (a:Addr):Bool:=keepIn K (.ref a)&&match K.lookup a with
 | some ⟨_,_,.func fd,_⟩=>Nat.beq fd.globals mainGlobals&&(Nat.beq fd.builtins builtinsNs&&(fd.closure.isEmpty&&(codeIn K fd.code fd.qualname&&(Nat.ble ds.length ps.length &&
   ((match fd.defaults with
    | .none=>ds.isEmpty
    | .ref Td=>(match K.lookup Td with
     | some ⟨_,_,.seq vs _,_⟩=>n4 ds vs.toList
     | _=>false)
    | _=>false) &&
    (match tabNo m with
    | none=>true
    | some (_,f)=>(match fd.code,look f PTs with
     | .ref cc,some P=>v6 K cc P
     | _,_=>false)))))))
 | _=>false
noncomputable def Gg (c:Value):Bool:=match c with
 | .none=>false
 | .type t => !decide (t = "list")
 | _=>true
noncomputable def Rb (K:Frag):Bool:=globNames.all (cg K)&&(FT.all (Gf K)&&(CT.all (fun c=>Ar K c.2)&&(CT.all (fun c=>instAttrs.all fun a=>nz K c.1 c.2 a)&&(CT.all (fun c=>methNames.all fun m=>n3 K c.1 c.2 m)&&(CT.all (fun c=>CT.all fun d=>v4 K c.1 c.2 d.1 d.2) &&
 (FT.all (fun p=>match fnOf p.1 p.2.1 with | some (fd,ds)=>As K p.2.1 ds (gf fd.args) p.2.2 | none=>keepIn K (.ref p.2.2))&&((K.lookup sysModules).isSome&&K.all fun p=>Gg p.2.cls)))))))
noncomputable def gm (K:Frag) (a:Addr):Option (Arguments×List Stmt×Scope):=match K.lookup a with
 | some ⟨_,_,.func fd,_⟩=>(match fd.body with
  | .stmts b=>some (fd.params,b,fd.scope)
  | _=>none)
 | _=>none
noncomputable def gn (c m:Str):Option (Arguments×List Stmt×Scope):=(fnOf c m).map fun x=>(x.1.args,x.1.body,x.1.sc)
noncomputable def Au (v:Value):Option Str:=match v with
 | .str x _=>some x
 | _=>none
noncomputable def dj (K:Frag) (a:Addr):Option (List (Int×Option Str)):=match K.lookup a with
 | some ⟨.type t,none,.dict es _,sl⟩=>(match decide (t = "dict")&&Nat.beq sl.size 0 with
  | true=>some (es.toList.map fun e=>(e.hash,Au e.key))
  | false=>none)
 | _=>none
noncomputable def b8 (w:World):Option (List (Int×Option Str)):=some ((d5 "JUMPS").map fun k=>(hashStr w k,some k))
end Mine
end
section
open PySem PySem.W PyProof.Rows
set_option tactic.hygienic false
namespace Mine
noncomputable def qV:Program:=view PW [80]
noncomputable def lz:List Str:=PW.boundNames.filter fun n=>n != "law"
@[irreducible] noncomputable def looks (P:Params) (s:Shared):=((staticsOk (importedModules PW.main.body) (boot_heap P) s.heap&&namesBound PW s.heap&&gensDone s&&laidKept (boot_heap P) s.heap),openSeen qV lz (importedModules PW.main.body) (fun _=>true) true s)
noncomputable def gp (o:Option Obj):Bool:=match o with
 | some ⟨.none,none,.fields vs,sl⟩=>Nat.beq vs.size 0&&Nat.beq sl.size 0
 | _=>false
noncomputable abbrev Obs:=Bool×List (Option (Arguments×List Stmt×Scope))×Option (List (Int×Option Str))
noncomputable def az3 (K:Frag) (t:Bool):Obs:=(Rb K&&t,FT.map fun p=>gm K p.2.2,dj K 799)
noncomputable def Rc (S:SharedT) (a:Nat):Option Obj:=match Nat.blt a S.n with
 | true=>(match S.tree.get a with | some o=>alive o | none=>none)
 | false=>none
noncomputable def KT (S:SharedT):Frag:=addrs.filterMap fun a=>(Rc S a).map fun o=>(a,o)
noncomputable def Rd (S:SharedT):Bool:=(addrs++PTs.map (·.2)).all fun a=>Nat.blt a S.n&&(S.tree.get a).isSome
@[irreducible] noncomputable def obsT (S:SharedT):Obs:=az3 (KT S) (Rd S&&PTs.all fun p=>gp (Rc S p.2))
noncomputable def Lz (w:World):Obs:=(true,FT.map fun p=>gn p.1 p.2.1,b8 w)
noncomputable def eye {α:Type} (w:World) (os:OsState) (f:SharedT->α):Option α×Option α:=((both w os false).map f,(both w os true).map f)
noncomputable def Xr (S:SharedT):Bool:=globNames.all (cg (KT S))&&FT.all (Gf (KT S))
noncomputable def Xs (S:SharedT):Bool×List (Option (Arguments×List Stmt×Scope)):=((FT.all fun p=>match fnOf p.1 p.2.1 with | some (fd,ds)=>As (KT S) p.2.1 ds (gf fd.args) p.2.2 | none=>keepIn (KT S) (.ref p.2.2)),FT.map fun p=>gm (KT S) p.2.2)
noncomputable def Xu (S:SharedT):Bool×Option (List (Int×Option Str)):=(CT.all (fun c=>Ar (KT S) c.2)&&(CT.all (fun c=>instAttrs.all fun a=>nz (KT S) c.1 c.2 a)&&(CT.all (fun c=>methNames.all fun m=>n3 (KT S) c.1 c.2 m)&&(CT.all (fun c=>CT.all fun d=>v4 (KT S) c.1 c.2 d.1 d.2) &&
 (((KT S).lookup sysModules).isSome&&((KT S).all (fun p=>Gg p.2.cls)&&(Rd S&&PTs.all fun p=>gp (Rc S p.2))))))),dj (KT S) 799)
theorem Re (w:World) (os:OsState):eye w os (fun s=>looks w.params s.abs)=(some (true,openGood qV lz),some (true,openGood qV lz)):=by kernel_rfl
theorem Rf (w:World) (os:OsState):eye w os Xr=(some true,some true):=by kernel_rfl
theorem Rh (w:World) (os:OsState):eye w os (fun S=>(Xs S,Xu S))=(some ((true,FT.map fun p=>gn p.1 p.2.1),(true,b8 w)),some ((true,FT.map fun p=>gn p.1 p.2.1),(true,b8 w))):=by kernel_rfl
theorem L0 {a b:Bool} (h:(a&&b)=true):a=true/\b=true:=Bool.and_eq_true_iff.mp h
theorem Ri {w:World} {S:SharedT} (h1:Xr S=true) (h2:Xs S=(true,FT.map fun p=>gn p.1 p.2.1)) (h3:Xu S=(true,b8 w)):obsT S=Lz w:=by
 delta obsT
 obtain ⟨b1,b2⟩:=L0 h1
 obtain ⟨c1,a⟩:=L0 (congrArg Prod.fst h3)
 obtain ⟨c2,a⟩:=L0 a
 obtain ⟨c3,a⟩:=L0 a
 obtain ⟨c4,a⟩:=L0 a
 obtain ⟨c5,a⟩:=L0 a
 obtain ⟨c6,a⟩:=L0 a
 exact congr (congrArg Prod.mk (dc (dc b1 (dc b2 (dc c1 (dc c2 (dc c3 (dc c4 (dc (congrArg Prod.fst h2) (dc c5 c6)))))))) a)) (congr (congrArg Prod.mk (congrArg Prod.snd h2)) (congrArg Prod.snd h3))
theorem v8 {w:World} {β:Type} {f:SharedT->β} {X:β} {o:Option SharedT} (h0:o.map f=some X) (h1:o.map Xr=some true) (h2:o.map (fun S=>(Xs S,Xu S))=some ((true,FT.map fun p=>gn p.1 p.2.1),(true,b8 w))) :
  o.map (fun s=>(f s,obsT s))=some (X,Lz w):=by
 induction o using Option.casesOn with
 | none=>injection h1
 | some S=>exact congrArg some (congr (congrArg Prod.mk (Option.some.inj h0)) (Ri (Option.some.inj h1) (congrArg Prod.fst (Option.some.inj h2)) (congrArg Prod.snd (Option.some.inj h2))))
theorem Gh (w:World) (os:OsState):((both w os false).map (fun s=>(looks w.params s.abs,obsT s)),(both w os true).map (fun s=>(looks w.params s.abs,obsT s)))=(some ((true,openGood qV lz),Lz w),some ((true,openGood qV lz),Lz w)) :=
 congr (congrArg Prod.mk (v8 (congrArg Prod.fst (Re w os)) (congrArg Prod.fst (Rf w os)) (congrArg Prod.fst (Rh w os)))) (v8 (congrArg Prod.snd (Re w os)) (congrArg Prod.snd (Rf w os)) (congrArg Prod.snd (Rh w os)))
end Mine
end
section
open PySem PySem.W PySem.Spec PySem.Calls PyProof.Rows
set_option tactic.hygienic false
namespace Mine
theorem Av:∀ {x y:List Nat},leq x y=true↔x=y
 | [],[]=>⟨fun _=>rfl,fun _=>rfl⟩
 | [],_::_=>⟨fun h=>((by contradiction)),fun h=>((by contradiction))⟩
 | _::_,[]=>⟨fun h=>((by contradiction)),fun h=>((by contradiction))⟩
 | a::x,b::y=>by
  dsimp only [leq]
  induction h:Nat.beq a b using Bool.casesOn with
  | true =>
   have:=Nat.eq_of_beq_eq_true h
   subst this
   rw [Av,List.cons.injEq]
   exact ⟨fun q=>⟨rfl,q⟩,fun q=>q.2⟩
  | false =>
   have:a≠b:=Nat.ne_of_beq_eq_false h
   exact ⟨fun q=>((by injection q)),fun q=>absurd (List.cons.inj q).1 this⟩
theorem seq_iff {a b:Str}:seq a b=true↔a=b:=by
 delta seq
 induction h:Nat.beq (cod a.cps.toList) (cod b.cps.toList) using Bool.casesOn with
 | false =>
  refine ⟨fun q=>((by contradiction)),fun q=>?_⟩
  subst q
  exact absurd rfl (Nat.ne_of_beq_eq_false h)
 | true =>
  show leq _ _=true↔_
  rw [Av]
  constructor
  ·intro q
   induction a using Str.casesOn;induction b using Str.casesOn
   simp only [Str.mk.injEq]
   exact Array.toList_inj.mp q
  ·rintro rfl;rfl
theorem d6 (a:Str):seq a a=true:=seq_iff.mpr rfl
theorem jc {a b:Str} (h:seq a b=false):a≠b:=fun e=>by rw [e,d6] at h;injection h
theorem ag {α:Type} {x:Str} {p:Str×α} {r:List (Str×α)}:look x (p::r)=if p.1=x then some p.2 else look x r:=by
 show (match seq p.1 x with | true=>some p.2 | false=>look x r)=_
 induction h:seq p.1 x using Bool.casesOn with
 | true=>rw [if_pos (seq_iff.mp h)]
 | false=>rw [if_neg (jc h)]
theorem n5 {α:Type} {x y:Str} {v:α}:∀ {l:List (Str×α)},look y (put x v l)=if x=y then some v else look y l:=by
 intro l0
 induction l0 with
 | nil =>
  show look y [(x,v)]=_
  rw [ag]
 | cons p r ih =>
  show look y (match seq p.1 x with | true=>(p.1,v)::r | false=>p::put x v r)=_
  induction h:seq p.1 x using Bool.casesOn with
  | true =>
   have e:=seq_iff.mp h
   dsimp only
   rw [ag,ag,e]
   by_cases q:x=y <;> simp [q]
  | false =>
   dsimp only
   rw [ag,ag,ih]
   by_cases q:p.1=y
   ·have:x≠y:=fun z=>jc h (q.trans z.symm)
    simp [q,this]
   ·simp [q]
theorem ae {α:Type} {x:Str}:∀ {l:List (Str×α)},l.lookup x=look x l:=by
 intro l0
 induction l0 with
 | nil =>
  exact rfl
 | cons p r ih =>
  rw [ag,List.lookup_cons,ih]
  by_cases h:p.1=x
  ·rw [if_pos h,h];simp
  ·rw [if_neg h]
   have:(x == p.1)=false:=by
    rw [beq_eq_false_iff_ne];exact fun e=>h e.symm
   rw [this]
theorem tlt {t a b n:Nat} (h:t+b<n) (q:Nat.ble a b=true):t+a<n:=Nat.lt_of_le_of_lt (Nat.add_le_add_left (Nat.le_of_ble_eq_true q) t) h
theorem tle {t a b n:Nat} (h:t+b<=n) (q:Nat.ble a b=true):t+a<=n:=Nat.le_trans (Nat.add_le_add_left (Nat.le_of_ble_eq_true q) t) h
theorem io (a b:Nat):Nat.beq a b=decide (a=b):=by
 induction h:Nat.beq a b using Bool.casesOn with
 | true=>rw [decide_eq_true (Nat.eq_of_beq_eq_true h)]
 | false=>rw [decide_eq_false (Nat.ne_of_beq_eq_false h)]
namespace Tr
theorem get_node (v:VO) (l r:Tr) (i:Nat):(node v l r).get i=if i=0 then some v else if i % 2=1 then l.get (i / 2) else r.get (i / 2 - 1):=by
 show (match Nat.beq i 0 with | true=>some v | false=>match Nat.beq (i % 2) 1 with | true=>l.get (i / 2) | false=>r.get (i / 2 - 1))=_
 rw [io,io]
 by_cases h:i=0
 ·simp [h]
 ·by_cases q:i % 2=1 <;> simp [h,q]
theorem set_node (v:VO) (l r:Tr) (i:Nat) (o:VO):(node v l r).set i o=if i=0 then node o l r else if i % 2=1 then node v (l.set (i / 2) o) r else node v l (r.set (i / 2 - 1) o):=by
 show (match Nat.beq i 0 with | true=>node o l r | false=>match Nat.beq (i % 2) 1 with | true=>node v (l.set (i / 2) o) r | false=>node v l (r.set (i / 2 - 1) o))=_
 rw [io,io]
 by_cases h:i=0
 ·simp [h]
 ·by_cases q:i % 2=1 <;> simp [h,q]
theorem ins_node (v:VO) (l r:Tr) (i:Nat) (o:VO):(node v l r).ins i o=if i=0 then node o l r else if i % 2=1 then node v (l.ins (i / 2) o) r else node v l (r.ins (i / 2 - 1) o):=by
 show (match Nat.beq i 0 with | true=>node o l r | false=>match Nat.beq (i % 2) 1 with | true=>node v (l.ins (i / 2) o) r | false=>node v l (r.ins (i / 2 - 1) o))=_
 rw [io,io]
 by_cases h:i=0
 ·simp [h]
 ·by_cases q:i % 2=1 <;> simp [h,q]
theorem get_set (o:VO):∀ (t:Tr) (a i:Nat),(t.set a o).get i=if i=a then (t.get a).map (fun _=>o) else t.get i
 | .nil,a,i=>by show none=_;simp [get]
 | .node v l r,a,i=>by
  rw [set_node]
  by_cases ha:a=0
  ·subst ha
   rw [if_pos rfl]
   by_cases hi:i=0
   ·simp [hi,get_node]
   ·simp only [get_node,if_neg hi]
  ·rw [if_neg ha]
   by_cases pa:a % 2=1
   ·rw [if_pos pa,get_node,get_node,get_node,if_neg ha,if_pos pa]
    by_cases hi:i=0
    ·have:¬ i=a:=fun e=>ha (e ▸ hi)
     rw [if_pos hi,if_neg this,if_pos hi]
    ·rw [if_neg hi]
     by_cases pi:i % 2=1
     ·rw [if_pos pi,get_set o l]
      by_cases q:i=a
      ·subst q;simp
      ·have:¬ i / 2=a / 2:=by exact om7 pa pi q
       rw [if_neg this,if_neg q,if_neg hi,if_pos pi]
     ·have q:¬ i=a:=fun e=>pi (e ▸ pa)
      rw [if_neg pi,if_neg q,if_neg hi,if_neg pi]
   ·rw [if_neg pa,get_node,get_node,get_node,if_neg ha,if_neg pa]
    by_cases hi:i=0
    ·have:¬ i=a:=fun e=>ha (e ▸ hi)
     rw [if_pos hi,if_neg this,if_pos hi]
    ·rw [if_neg hi]
     by_cases pi:i % 2=1
     ·have q:¬ i=a:=fun e=>pa (e ▸ pi)
      rw [if_pos pi,if_neg q,if_neg hi,if_pos pi]
     ·rw [if_neg pi,get_set o r]
      by_cases q:i=a
      ·subst q;simp
      ·have:¬ i / 2 - 1=a / 2 - 1:=by exact Zm ha pa hi pi q
       rw [if_neg this,if_neg q,if_neg hi,if_neg pi]
noncomputable def Full (t:Tr) (n:Nat):Prop:=∀ k,(t.get k).isSome=true↔k<n
theorem full_nil:Full .nil 0:=fun k=>⟨fun h=>((by contradiction)),fun h=>absurd h (Nat.not_lt_zero _)⟩
theorem get_ins (o:VO):∀ (t:Tr) (n:Nat),Full t n -> ∀ i,(t.ins n o).get i=if i=n then some o else t.get i
 | .nil,n,f,i=>by
  have hn:n=0:=by
   induction n using Nat.casesAuxOn with
   | zero=>rfl
   | succ n=>exact (nomatch (f 0).mpr (Nat.succ_pos _))
  subst hn
  show (node o .nil .nil).get i=_
  rw [get_node]
  by_cases h:i=0 <;> simp [h,get]
 | .node v l r,n,f,i=>by
  have hn:n≠0:=fun e=>by
   have:=(f 0).mp (by rw [get_node];rfl)
   exact Z6 e this
  rw [ins_node,if_neg hn]
  by_cases pn:n % 2=1
  ·have fl:Full l (n / 2):=fun k=>by
    have:=f (2 * k+1)
    rw [get_node,if_neg (by exact bzo),if_pos (by exact bzp),show (2 * k+1) / 2=k by exact om9] at this
    rw [this];exact om8
   rw [if_pos pn,get_node,get_node]
   by_cases hi:i=0
   ·have:¬ i=n:=fun e=>hn (e ▸ hi)
    rw [if_pos hi,if_neg this,if_pos hi]
   ·rw [if_neg hi]
    by_cases pi:i % 2=1
    ·rw [if_pos pi,get_ins o l _ fl]
     by_cases q:i=n
     ·subst q;simp
     ·have:¬ i / 2=n / 2:=by exact om7 pn pi q
      rw [if_neg this,if_neg q,if_neg hi,if_pos pi]
    ·have q:¬ i=n:=fun e=>pi (e ▸ pn)
     rw [if_neg pi,if_neg q,if_neg hi,if_neg pi]
  ·have fr:Full r (n / 2 - 1):=fun k=>by
    have:=f (2 * k+2)
    rw [get_node,if_neg (by exact om6),if_neg (by exact om5),show (2 * k+2) / 2 - 1=k by exact om4] at this
    rw [this];exact om3 pn
   rw [if_neg pn,get_node,get_node]
   by_cases hi:i=0
   ·have:¬ i=n:=fun e=>hn (e ▸ hi)
    rw [if_pos hi,if_neg this,if_pos hi]
   ·rw [if_neg hi]
    by_cases pi:i % 2=1
    ·have q:¬ i=n:=fun e=>pn (e ▸ pi)
     rw [if_pos pi,if_neg q,if_neg hi,if_pos pi]
    ·rw [if_neg pi,get_ins o r _ fr]
     by_cases q:i=n
     ·subst q;simp
     ·have:¬ i / 2 - 1=n / 2 - 1:=by exact om2 hn pn hi pi q
      rw [if_neg this,if_neg q,if_neg hi,if_neg pi]
theorem Full.ins {t:Tr} {n:Nat} (f:Full t n) (o:VO):Full (t.ins n o) (n+1):=fun k=>by
 rw [get_ins o t n f]
 by_cases h:k=n
 ·subst h;simp
 ·rw [if_neg h,f];exact om1 h
theorem Full.set {t:Tr} {n:Nat} (f:Full t n) (a:Nat) (o:VO):Full (t.set a o) n:=fun k=>by
 rw [get_set]
 by_cases h:k=a
 ·subst h
  rw [if_pos rfl,Option.isSome_map,f]
 ·rw [if_neg h,f]
end Tr
noncomputable def OptP {α:Type} (R:α->Prop):Option α->Prop
 | none=>True
 | some z=>R z
theorem OptP.get {α:Type} {R:α->Prop} {o:Option α} {z:α} (h:OptP R o) (e:o=some z):R z:=by
 subst e;exact h
theorem OptP.ifb {α:Type} {R:α->Prop} {b:Bool} {x:α} (h:b=true->R x):OptP R (match (generalizing:=false) b with | true=>some x | false=>none):=by
 induction b using Bool.casesOn with
 | true=>exact h rfl
 | false=>trivial
theorem nos {α:Type} {z:α} {p:Prop} (h:none=some z):p:=by injection h
structure Pl where
 fa:Str->Str->Option Addr
 ca:Str->Option Addr
 ta:Str->Option Addr
 pa:Str->Option Addr
noncomputable abbrev Led:=List (Addr×Obj)
noncomputable abbrev qk (vs:List Value):Obj:={ cls:=.type "tuple",data:=.seq vs.toArray }
noncomputable abbrev Aw (a b:Int) (t u v:Tok):Obj:={ cls:=.type "range",dict:=none,data:=.fields #[.int a t,.int b u,.int 1 v],slots := #[] }
noncomputable def da (o:Obj):Prop:=o.cls = .type "tuple" \/ o.cls = .type "list" \/ (∃ ds e,o=dictOf ds e/\ds≠[] /\ ∀ d∈ds,∃ k t,d.key=Value.str k t)\/o.cls = .type "range" \/ (∃ C,o.cls = .ref C) \/ ∃ vs q t,o.data = .fields vs/\vs[1]? = some (.str q t)
mutual
inductive PR (T:Pl) (F:Led):P->Value->Prop
 | none:PR T F .none .none
 | bool (b:Bool):PR T F (.bool b) (.bool b)
 | int (i:Int) (t:Tok):PR T F (.int i) (.int i t)
 | str (x:Str) (t:Tok):PR T F (.str x) (.str x t)
 | fn {c m:Str} {a:Addr}:T.fa c m=some a->PR T F (.fn c m) (.ref a)
 | cls {c:Str} {a:Addr}:T.ca c=some a->PR T F (.cls c) (.ref a)
 | bi {x:Str} {v:Value}:bootBuiltins x=some v->PR T F (.bi x) v
 | top {x:Str} {a:Addr}:T.ta x=some a->PR T F (.top x) (.ref a)
 | tup {xs:List P} {vs:List Value} {a:Addr}:(a,qk vs)∈F->PRs T F xs vs->vs.length<=2000->PR T F (.tup xs) (.ref a)
 | lst {xs:List P} {vs:List Value} {a:Addr} {e:Nat}:(a,listOf vs.toArray e)∈F->PRs T F xs vs->vs.length<=2000->PR T F (.lst xs) (.ref a)
 | obj {c:Str} {es:List (Str×P)} {C a d:Addr} {ds:List DictEntry} {e:Nat}:T.ca c=some C->(a,instObj C d)∈F->(d,dictOf ds e)∈F->(ds≠[] /\ ∀ d∈ds,∃ k t,d.key=Value.str k t)->PRn T F es ds->PR T F (.obj c es) (.ref a)
 | rng {a b:Int} {r:Addr} {t u v:Tok}:(r,Aw a b t u v)∈F->PR T F (.rng a b) (.ref r)
inductive PRs (T:Pl) (F:Led):List P->List Value->Prop
 | nil:PRs T F [] []
 | cons {x:P} {v:Value} {xs:List P} {vs:List Value}:PR T F x v->PRs T F xs vs->PRs T F (x::xs) (v::vs)
inductive PRn (T:Pl) (F:Led):List (Str×P)->List DictEntry->Prop
 | nil:PRn T F [] []
 | cons {k:Str} {x:P} {d:DictEntry} {xs:List (Str×P)} {ds:List DictEntry} {t:Tok}:d.key = .str k t->PR T F x d.val->PRn T F xs ds->PRn T F ((k,x)::xs) (d::ds)
end
noncomputable def PRi (T:Pl) (F:Led):P->Value->Prop
 | .none,v=>v = .none
 | .bool b,v=>v = .bool b
 | .int i,v=>∃ t,v = .int i t
 | .str x,v=>∃ t,v = .str x t
 | .fn c m,v=>∃ a,v = .ref a/\T.fa c m=some a
 | .cls c,v=>∃ a,v = .ref a/\T.ca c=some a
 | .bi x,v=>bootBuiltins x=some v
 | .top x,v=>∃ a,v = .ref a/\T.ta x=some a
 | .tup xs,v=>∃ vs a,v = .ref a/\(a,qk vs)∈F/\PRs T F xs vs/\vs.length<=2000
 | .lst xs,v=>∃ vs a e,v = .ref a/\(a,listOf vs.toArray e)∈F/\PRs T F xs vs/\vs.length<=2000
 | .obj c es,v=>∃ C a d ds e,v = .ref a/\T.ca c=some C/\(a,instObj C d)∈F/\(d,dictOf ds e)∈F/\(ds≠[] /\ ∀ d∈ds,∃ k t,d.key=Value.str k t)/\PRn T F es ds
 | .rng a b,v=>∃ r t u w,v = .ref r/\(r,Aw a b t u w)∈F
theorem PR.inv {T:Pl} {F:Led} {x:P} {v:Value} (h:PR T F x v):PRi T F x v :=
 PR.casesOn (motive_1:=fun x v _=>PRi T F x v) h rfl (fun _=>rfl) (fun _ t=>⟨t,rfl⟩) (fun _ t=>⟨t,rfl⟩) (fun h=>⟨_,rfl,h⟩) (fun h=>⟨_,rfl,h⟩) (fun h=>h) (fun h=>⟨_,rfl,h⟩)
  (fun a b c=>⟨_,_,rfl,a,b,c⟩) (fun a b c=>⟨_,_,_,rfl,a,b,c⟩) (fun a b c d e=>⟨_,_,_,_,_,rfl,a,b,c,d,e⟩) fun h=>⟨_,_,_,_,rfl,h⟩
section
variable {T:Pl} {F F':Led}
theorem PR.mono_all (hF:∀ p∈F,da p.2->p∈F'):(∀ x v,PR T F x v->PR T F' x v)/\(∀ xs vs,PRs T F xs vs->PRs T F' xs vs) /\ ∀ xs ds,PRn T F xs ds->PRn T F' xs ds:=by
 have tp:∀ {xs:List P} {vs:List Value} {a:Addr},(a,qk vs)∈F->PRs T F xs vs->vs.length<=2000->PRs T F' xs vs->PR T F' (.tup xs) (.ref a):=fun h _ l q=>.tup (hF _ h (.inl rfl)) q l
 have ls:∀ {xs:List P} {vs:List Value} {a:Addr} {e:Nat},(a,listOf vs.toArray e)∈F->PRs T F xs vs->vs.length<=2000->PRs T F' xs vs->PR T F' (.lst xs) (.ref a):=fun h _ l q=>.lst (hF _ h (.inr (.inl rfl))) q l
 have ob:∀ {c:Str} {es:List (Str×P)} {C a d:Addr} {ds:List DictEntry} {e:Nat},T.ca c=some C->(a,instObj C d)∈F->(d,dictOf ds e)∈F->(ds≠[] /\ ∀ d∈ds,∃ k t,d.key=Value.str k t)->PRn T F es ds->PRn T F' es ds->PR T F' (.obj c es) (.ref a) :=
  fun c h d z _ q=>.obj c (hF _ h (.inr (.inr (.inr (.inr (.inl ⟨_,rfl⟩)))))) (hF _ d (.inr (.inr (.inl ⟨_,_,rfl,z⟩)))) z q
 have rg:∀ {a b:Int} {r:Addr} {t u v:Tok},(r,Aw a b t u v)∈F->PR T F' (.rng a b) (.ref r):=fun h=>.rng (hF _ h (.inr (.inr (.inr (.inl rfl)))))
 have c2:∀ {x:P} {v:Value} {xs:List P} {vs:List Value},PR T F x v->PRs T F xs vs->PR T F' x v->PRs T F' xs vs->PRs T F' (x::xs) (v::vs):=fun _ _ a b=>.cons a b
 have c3:∀ {k:Str} {x:P} {d:DictEntry} {xs:List (Str×P)} {ds:List DictEntry} {t:Tok},d.key = .str k t->PR T F x d.val->PRn T F xs ds->PR T F' x d.val->PRn T F' xs ds->PRn T F' ((k,x)::xs) (d::ds):=fun k _ _ a b=>.cons k a b
 exact ⟨fun x v h=>PR.rec (motive_1:=fun x v _=>PR T F' x v) (motive_2:=fun x v _=>PRs T F' x v) (motive_3:=fun x v _=>PRn T F' x v) .none .bool .int .str .fn .cls .bi .top tp ls ob rg .nil c2 .nil c3 h,
  fun x v h=>PRs.rec (motive_1:=fun x v _=>PR T F' x v) (motive_2:=fun x v _=>PRs T F' x v) (motive_3:=fun x v _=>PRn T F' x v) .none .bool .int .str .fn .cls .bi .top tp ls ob rg .nil c2 .nil c3 h,
  fun x v h=>PRn.rec (motive_1:=fun x v _=>PR T F' x v) (motive_2:=fun x v _=>PRs T F' x v) (motive_3:=fun x v _=>PRn T F' x v) .none .bool .int .str .fn .cls .bi .top tp ls ob rg .nil c2 .nil c3 h⟩
theorem PR.mono (hF:∀ p∈F,da p.2->p∈F') {x:P} {v:Value} (h:PR T F x v):PR T F' x v:=(PR.mono_all hF).1 x v h
theorem PRs.mono (hF:∀ p∈F,da p.2->p∈F') {x:List P} {v:List Value} (h:PRs T F x v):PRs T F' x v:=(PR.mono_all hF).2.1 x v h
theorem PRn.mono (hF:∀ p∈F,da p.2->p∈F') {x:List (Str×P)} {v:List DictEntry} (h:PRn T F x v):PRn T F' x v:=(PR.mono_all hF).2.2 x v h
end
inductive Each {α β:Type} (R:α->β->Prop):List α->List β->Prop
 | nil:Each R [] []
 | cons {a:α} {b:β} {x:List α} {y:List β}:R a b->Each R x y->Each R (a::x) (b::y)
section
variable {α β:Type} {R Q:α->β->Prop} {x x':List α} {y y':List β}
theorem Each.mono (hPQ:∀ a b,R a b->Q a b) (h:Each R x y):Each Q x y:=by
 induction h with
 | nil=>exact .nil
 | cons h _ ih=>exact .cons (hPQ _ _ h) ih
theorem Each.length (h:Each R x y):x.length=y.length:=by
 induction h with
 | nil=>rfl
 | cons _ _ ih=>rw [List.length_cons,List.length_cons,ih]
theorem Each.append (h:Each R x y) (h':Each R x' y'):Each R (x++x') (y++y'):=by
 induction h with
 | nil=>exact h'
 | cons h _ ih=>exact .cons h ih
theorem Each.get (h:Each R x y):∀ {i:Nat} {a:α},x[i]? = some a -> ∃ b,y[i]? = some b/\R a b:=by
 induction h with
 | nil=>intro i a e;simp at e
 | cons h _ ih =>
  intro i a e
  induction i using Nat.casesAuxOn with
  | zero=>simp only [List.getElem?_cons_zero,Option.some.injEq] at e ⊢;subst e;exact ⟨_,rfl,h⟩
  | succ i=>simp only [List.getElem?_cons_succ] at e ⊢;exact ih e
theorem Each.none (h:Each R x y) {i:Nat} (e:x[i]? = none):y[i]? = none:=by
 rw [List.getElem?_eq_none_iff] at e ⊢
 rw [← h.length];exact e
theorem Each.set (h:Each R x y) {i:Nat} {a:α} {b:β} (hab:R a b):Each R (x.set i a) (y.set i b):=by
 induction h generalizing i with
 | nil=>exact .nil
 | cons h ht ih =>
  induction i using Nat.casesAuxOn with
  | zero=>exact .cons hab ht
  | succ i=>exact .cons h ih
theorem Each.drop (h:Each R x y) (i:Nat):Each R (x.drop i) (y.drop i):=by
 induction h generalizing i with
 | nil=>simp;exact .nil
 | cons h ht ih =>
  induction i using Nat.casesAuxOn with
  | zero=>exact .cons h ht
  | succ i=>exact ih i
theorem Each.reverse (h:Each R x y):Each R x.reverse y.reverse:=by
 induction h with
 | nil=>exact .nil
 | cons h _ ih=>rw [List.reverse_cons,List.reverse_cons];exact ih.append (.cons h .nil)
theorem Each.replicate {a:α} {b:β} (h:R a b):∀ n,Each R (List.replicate n a) (List.replicate n b):=by
 intro l0
 induction l0 with
 | zero =>
  exact .nil
 | succ n ih =>
  exact .cons h (ih)
end
noncomputable def Rj {α β:Type} (R:α->β->Prop):List α->List β->Prop
 | [],[]=>True
 | a::x,b::y=>R a b/\Each R x y
 | _,_=>False
theorem Each.inv {α β:Type} {R:α->β->Prop} {x:List α} {y:List β} (h:Each R x y):Rj R x y:=Each.casesOn (motive:=fun x y _=>Rj R x y) h trivial fun a b=>⟨a,b⟩
theorem Each.uncons {α β:Type} {R:α->β->Prop} {a:α} {x:List α} {y:List β} (h:Each R (a::x) y):∃ b r,y=b::r/\R a b/\Each R x r:=by
 induction y using List.casesOn with
 | nil=>exact h.inv.elim
 | cons b r=>exact ⟨b,r,rfl,h.inv⟩
theorem Each.unnil {α β:Type} {R:α->β->Prop} {y:List β} (h:Each R ([]:List α) y):y=[]:=by
 induction y using List.casesOn with
 | nil=>rfl
 | cons b r=>exact h.inv.elim
theorem PRs.each {T:Pl} {F:Led} {xs:List P} {vs:List Value} (h:PRs T F xs vs):Each (PR T F) xs vs :=
 PRs.rec (motive_1:=fun _ _ _=>True) (motive_2:=fun xs vs _=>Each (PR T F) xs vs) (motive_3:=fun _ _ _=>True) trivial (fun _=>trivial) (fun _ _=>trivial) (fun _ _=>trivial) (fun _=>trivial) (fun _=>trivial) (fun _=>trivial) (fun _=>trivial)
  (fun _ _ _ _=>trivial) (fun _ _ _ _=>trivial) (fun _ _ _ _ _ _=>trivial) (fun _=>trivial) .nil (fun h _ _ ih=>.cons h ih) trivial (fun _ _ _ _ _=>trivial) h
theorem PRs.of {T:Pl} {F:Led} {xs:List P} {vs:List Value} (h:Each (PR T F) xs vs):PRs T F xs vs:=by
 induction h with
 | nil=>exact .nil
 | cons h _ ih=>exact .cons h ih
inductive VR (T:Pl) (F:Led) (U:Nat->Addr) (n:Nat):V->Value->Prop
 | p {x:P} {v:Value}:PR T F x v->VR T F U n (.p x) v
 | ref {k:Nat}:k<n->VR T F U n (.ref k) (.ref (U k))
section
variable {T:Pl} {F F':Led} {U ρ':Nat->Addr} {n n':Nat}
theorem VR.mono {v:V} {x:Value} (h:VR T F U n v x) (hF:∀ p∈F,da p.2->p∈F') (hn:n<=n') (hρ:∀ k,k<n->ρ' k=U k):VR T F' ρ' n' v x:=by
 cases h with
 | p h=>exact .p (h.mono hF)
 | ref h=>rw [← hρ _ h];exact .ref (Nat.lt_of_lt_of_le h hn)
end
noncomputable abbrev PG:Program:=PySem.Challenge.pw_nt0133_01
noncomputable def NR (T:Pl) (F:Led) (U:Nat->Addr) (n:Nat) (p:Str×V) (d:DictEntry):Prop:=(∃ t,d.key = .str p.1 t)/\VR T F U n p.2 d.val
inductive OR (T:Pl) (w:World) (F:Led) (U:Nat->Addr) (n:Nat) (a:Addr):VO->Obj->Prop
 | list {xs:List P} {vs:List Value} {e:Nat}:Each (PR T F) xs vs->vs.length<=2000->OR T w F U n a (.list xs) (listOf vs.toArray e)
 | listV {xs:List V} {vs:List Value} {e:Nat}:Each (VR T F U n) xs vs->vs.length<=2000->OR T w F U n a (.listV xs) (listOf vs.toArray e)
 | dicti {es:List (Int×P)} {o:Obj} {kvs:List (Int×Value)}:o.IsDictOf (intKind PG w) kvs->Each (fun p q=>p.1=q.1/\PR T F p.2 q.2) es kvs->kvs.length<=1000->OR T w F U n a (.dicti es) o
 | dictR {es:List (Int×P)} {o:Obj} {kvs:List (Int×Value)}:o.IsDictOf (intKind PG w) kvs->Each (fun p q=>p.1=q.1/\PR T F p.2 q.2) es kvs->kvs.length<=1000->OR T w F U n a (.dictR es) o
 | dictiV {es:List (Int×V)} {o:Obj} {kvs:List (Int×Value)}:o.IsDictOf (intKind PG w) kvs->Each (fun p q=>p.1=q.1/\VR T F U n p.2 q.2) es kvs->kvs.length<=1000->OR T w F U n a (.dictiV es) o
 | dicts {es:List (Str×P)} {o:Obj} {kvs:List (Str×Value)}:o.IsDictOf (PySem.strKind PG w) kvs->Each (fun p q=>p.1=q.1/\PR T F p.2 q.2) es kvs->kvs.length<=1000->OR T w F U n a (.dicts es) o
 | inst {c:Str} {C:Addr} {d:Nat}:T.ca c=some C->d<n->OR T w F U n a (.inst c d) (instObj C (U d))
 | ns {es:List (Str×V)} {ds:List DictEntry} {e:Nat}:Each (NR T F U n) es ds->ds.length<=1000->OR T w F U n a (.ns es) (dictOf ds e)
 | cell {v:Option V} {o:Obj} {x:Option Value}:o.data = .cell x->(match v,x with | some v,some x=>VR T F U n v x | none,none=>True | _,_=>False)->OR T w F U n a (.cell v) o
 | clos {name qual:Str} {args:Arguments} {body:List Stmt} {sc:Scope} {cells:List (Str×Nat)} {clos:List (Str×Addr)} {doc pm ctv:Value} {c':Addr} {oc:Obj} {vs:Array Value} {t:Tok} :
   (∀ x k,look x cells=some k->k<n/\clos.lookup x=some (U k))->(c',oc)∈F->oc.data = .fields vs->vs[1]? = some (.str qual t)->gc args=true ->
   OR T w F U n a (.clos name args body sc cells) (fnMade name qual args body sc clos doc pm c' ctv)
 | tab {f:Str} {used:Bool} {ps:Array Value}:T.pa f=some a->(used=false->ps = #[])->OR T w F U n a (.tab f used) (tabObj ps)
noncomputable def VRi (T:Pl) (F:Led) (U:Nat->Addr) (n:Nat):V->Value->Prop
 | .p x,v=>PR T F x v
 | .ref k,v=>k<n/\v = .ref (U k)
theorem VR.inv {T:Pl} {F:Led} {U:Nat->Addr} {n:Nat} {x:V} {v:Value} (h:VR T F U n x v):VRi T F U n x v :=
 VR.casesOn (motive:=fun x v _=>VRi T F U n x v) h (fun h=>h) fun h=>⟨h,rfl⟩
theorem VR.pure {T:Pl} {F:Led} {U:Nat->Addr} {n:Nat} {x:P} {v:Value} (h:VR T F U n (.p x) v):PR T F x v:=h.inv
noncomputable def ORi (T:Pl) (w:World) (F:Led) (U:Nat->Addr) (n:Nat) (a:Addr):VO->Obj->Prop
 | .list xs,o=>∃ vs e,o=listOf vs.toArray e/\Each (PR T F) xs vs/\vs.length<=2000
 | .listV xs,o=>∃ vs e,o=listOf vs.toArray e/\Each (VR T F U n) xs vs/\vs.length<=2000
 | .dicti es,o=>∃ kvs,o.IsDictOf (intKind PG w) kvs/\Each (fun p q=>p.1=q.1/\PR T F p.2 q.2) es kvs/\kvs.length<=1000
 | .dictR es,o=>∃ kvs,o.IsDictOf (intKind PG w) kvs/\Each (fun p q=>p.1=q.1/\PR T F p.2 q.2) es kvs/\kvs.length<=1000
 | .dictiV es,o=>∃ kvs,o.IsDictOf (intKind PG w) kvs/\Each (fun p q=>p.1=q.1/\VR T F U n p.2 q.2) es kvs/\kvs.length<=1000
 | .dicts es,o=>∃ kvs,o.IsDictOf (PySem.strKind PG w) kvs/\Each (fun p q=>p.1=q.1/\PR T F p.2 q.2) es kvs/\kvs.length<=1000
 | .inst c d,o=>∃ C,o=instObj C (U d)/\T.ca c=some C/\d<n
 | .ns es,o=>∃ ds e,o=dictOf ds e/\Each (NR T F U n) es ds/\ds.length<=1000
 | .cell v,o=>∃ x,o.data = .cell x/\(match v,x with | some v,some x=>VR T F U n v x | none,none=>True | _,_=>False)
 | .clos name args body sc cells,o=>∃ qual clos doc pm ctv c' oc vs t,o=fnMade name qual args body sc clos doc pm c' ctv/\(∀ x k,look x cells=some k->k<n/\clos.lookup x=some (U k))/\(c',oc)∈F/\oc.data = .fields vs/\vs[1]? = some (.str qual t)/\gc args=true
 | .tab f used,o=>∃ ps,o=tabObj ps/\T.pa f=some a/\(used=false->ps = #[])
theorem OR.inv {T:Pl} {w:World} {F:Led} {U:Nat->Addr} {n:Nat} {a:Addr} {v:VO} {o:Obj} (h:OR T w F U n a v o):ORi T w F U n a v o :=
 OR.casesOn (motive:=fun v o _=>ORi T w F U n a v o) h (fun a b=>⟨_,_,rfl,a,b⟩) (fun a b=>⟨_,_,rfl,a,b⟩) (fun a b c=>⟨_,a,b,c⟩) (fun a b c=>⟨_,a,b,c⟩) (fun a b c=>⟨_,a,b,c⟩) (fun a b c=>⟨_,a,b,c⟩)
  (fun a b=>⟨_,rfl,a,b⟩) (fun a b=>⟨_,_,rfl,a,b⟩) (fun a b=>⟨_,a,b⟩) (fun a b c d e=>⟨_,_,_,_,_,_,_,_,_,rfl,a,b,c,d,e⟩) fun a b=>⟨_,rfl,a,b⟩
section
variable {T:Pl} {w:World} {F F':Led} {U ρ':Nat->Addr} {n n':Nat}
theorem wa {R R':V->Value->Prop} {v:Option V} {x:Option Value} (h:∀ a b,v=some a->R a b->R' a b) (k:match (generalizing:=false) v,x with | some v,some x=>R v x | none,none=>True | _,_=>False):match (generalizing:=false) v,x with | some v,some x=>R' v x | none,none=>True | _,_=>False:=by
 induction v using Option.casesOn <;> induction x using Option.casesOn <;> first | exact k | exact h _ _ rfl k
theorem OR.mono {a:Addr} {v:VO} {o:Obj} (h:OR T w F U n a v o) (hF:∀ p∈F,da p.2->p∈F') (hn:n<=n') (hρ:∀ k,k<n->ρ' k=U k):OR T w F' ρ' n' a v o:=by
 have hv:∀ v x,VR T F U n v x->VR T F' ρ' n' v x:=fun _ _ q=>q.mono hF hn hρ
 have hp:∀ v x,PR T F v x->PR T F' v x:=fun _ _ q=>q.mono hF
 exact OR.casesOn (motive:=fun v o _=>OR T w F' ρ' n' a v o) h (fun h l=>.list (h.mono hp) l) (fun h l=>.listV (h.mono hv) l)
  (fun h k l=>.dicti h (k.mono fun _ _ q=>⟨q.1,hp _ _ q.2⟩) l) (fun h k l=>.dictR h (k.mono fun _ _ q=>⟨q.1,hp _ _ q.2⟩) l) (fun h k l=>.dictiV h (k.mono fun _ _ q=>⟨q.1,hv _ _ q.2⟩) l)
  (fun h k l=>.dicts h (k.mono fun _ _ q=>⟨q.1,hp _ _ q.2⟩) l) (fun h k=>hρ _ k ▸ .inst h (Nat.lt_of_lt_of_le k hn)) (fun h l=>.ns (h.mono fun _ _ q=>⟨q.1,hv _ _ q.2⟩) l)
  (fun h k=>.cell h (wa (R:=VR T F U n) (R':=VR T F' ρ' n') (fun _ _ _ q=>hv _ _ q) k))
  (fun h k d v s=>.clos (fun x k e=>⟨Nat.lt_of_lt_of_le (h x k e).1 hn,hρ _ (h x k e).1 ▸ (h x k e).2⟩) (hF _ k (.inr (.inr (.inr (.inr (.inr ⟨_,_,_,d,v⟩)))))) d v s) fun h k=>.tab h k
end
structure Rel (T:Pl) (w:World) (F:Led) (U:Nat->Addr) (S:St) (led:Led):Prop where
 full:S.h.Full S.n
 objs:∀ k o,S.h.get k=some o -> ∃ ob,((U k,ob)∈led\/(o.ro=true/\(U k,ob)∈F))/\OR T w F U S.n (U k) o ob
 inj:∀ j k,j<S.n->k<S.n->U j=U k->j=k
 nodup:((led++F).map (·.1)).Nodup
noncomputable def Loc (T:Pl) (F:Led) (U:Nat->Addr) (S:St) (m:Str->Option Value):Prop:=∀ x v,look x S.loc=some v -> ∃ y,m x=some y/\VR T F U S.n v y
section
variable {T:Pl} {w:World} {F:Led} {U:Nat->Addr} {S:St} {led:Led}
theorem Rel.lt (R:Rel T w F U S led) {k:Nat} {o:VO} (h:S.h.get k=some o):k<S.n:=(R.full k).mp (by rw [h];rfl)
theorem Rel.obj (R:Rel T w F U S led) (k:Nat) (o:VO) (h:S.h.get k=some o) (hr:o.ro=false:=by rfl):∃ ob,(U k,ob)∈led/\OR T w F U S.n (U k) o ob:=by
 obtain ⟨ob,hob,hor⟩:=R.objs k o h
 rcases hob with q | ⟨q,_⟩
 ·exact ⟨ob,q,hor⟩
 ·rw [hr] at q;injection q
theorem Rel.all (R:Rel T w F U S led) {k:Nat} {o:VO} (h:S.h.get k=some o):∃ ob,(U k,ob)∈led++F:=by
 obtain ⟨ob,hob,_⟩:=R.objs k o h
 rcases hob with q | ⟨_,q⟩
 ·exact ⟨ob,List.mem_append_left _ q⟩
 ·exact ⟨ob,List.mem_append_right _ q⟩
theorem n6 {a:Addr} {o:Obj}:∀ {l:Led},(l.map (·.1)).Nodup->(a,o)∈l -> ∃ pre post,l=pre++(a,o)::post/\(∀ p∈pre,p.1≠a) /\ ∀ p∈post,p.1≠a:=by
 intro l0
 induction l0 with
 | nil =>
  intro _ h
  exact (by contradiction)
 | cons q r ih =>
  intro nd h
  rw [List.map_cons,List.nodup_cons] at nd
  rcases List.mem_cons.mp h with e | e
  ·subst e
   exact ⟨[],r,rfl,(fun _ h=>(by contradiction)),fun p hp z=>nd.1 (z ▸ List.mem_map_of_mem (f:=(·.1)) hp)⟩
  ·obtain ⟨pre,post,rfl,h1,h2⟩:=ih nd.2 e
   refine ⟨q::pre,post,rfl,fun p hp=>?_,h2⟩
   rcases List.mem_cons.mp hp with z | z
   ·exact z ▸ (fun y=>nd.1 (by rw [y];exact List.mem_map_of_mem (f:=(·.1)) e))
   ·exact h1 p z
theorem Rel.updAt {pre post:Led} {a:Addr} {k:Nat} {vo vo':VO} {o o':Obj} (R:Rel T w F U S (pre++(a,o)::post)) (ha:U k=a) (hk:S.h.get k=some vo) (h':OR T w F U S.n a vo' o') :
  Rel T w F U (upd k vo' S) (pre++(a,o')::post):=by
 have hm:((pre++(a,o')::post)++F).map (·.1)=((pre++(a,o)::post)++F).map (·.1):=by simp
 refine ⟨R.full.set _ _,fun j oj hj=>?_,R.inj,by exact hm ▸ (R.nodup)⟩
 have hj:(S.h.set k vo').get j=some oj:=hj
 rw [Tr.get_set] at hj
 by_cases e:j=k
 ·subst e
  rw [if_pos rfl,hk] at hj
  (injection hj with hj;subst hj)
  exact ⟨o',.inl (by rw [ha];simp),by rw [ha];exact h'⟩
 ·rw [if_neg e] at hj
  obtain ⟨ob,hob,hor⟩:=R.objs j oj hj
  refine ⟨ob,?_,hor⟩
  refine hob.imp (fun hob=>?_) id
  have hne:U j≠a:=fun z=>e (R.inj j k (R.lt hj) (R.lt hk) (z.trans ha.symm))
  rcases List.mem_append.mp hob with q | q
  ·exact List.mem_append_left _ q
  ·rcases List.mem_cons.mp q with z | z
   ·exact absurd (Prod.mk.inj z).1 hne
   ·exact List.mem_append_right _ (.tail _ z)
theorem Rel.new (R:Rel T w F U S led) {a:Addr} {vo:VO} {o:Obj} (ha:∀ p∈led++F,p.1≠a) (h':OR T w F (fun k=>if k=S.n then a else U k) (S.n+1) a vo o) :
  Rel T w F (fun k=>if k=S.n then a else U k) (new vo S) ((a,o)::led):=by
 have hρ:∀ k,k<S.n->(fun k=>if k=S.n then a else U k) k=U k:=fun k hk=>if_neg (Nat.ne_of_lt hk)
 have old:∀ k,k<S.n -> ∃ o,(U k,o)∈led++F:=fun k hk=>by
  obtain ⟨o,ho⟩:=Option.isSome_iff_exists.mp ((R.full k).mpr hk)
  exact R.all ho
 have lt:∀ k,k<S.n->U k≠a:=fun k hk=>by
  obtain ⟨ob,hob⟩:=old k hk
  exact ha _ hob
 refine ⟨R.full.ins _,fun j oj hj=>?_,fun i j hi hj e=>?_,?_⟩
 ·have hj:(S.h.ins S.n vo).get j=some oj:=hj
  rw [Tr.get_ins _ _ _ R.full] at hj
  by_cases e:j=S.n
  ·subst e
   rw [if_pos rfl] at hj
   (injection hj with hj;subst hj)
   refine ⟨o,.inl (by simp),?_⟩
   rw [if_pos rfl];exact h'
  ·rw [if_neg e] at hj
   obtain ⟨ob,hob,hor⟩:=R.objs j oj hj
   rw [if_neg e]
   exact ⟨ob,hob.imp (fun q=>.tail _ q) id,hor.mono (fun _ h _=>h) (Nat.le_succ _) hρ⟩
 ·have hi:i<S.n+1:=hi
  have hj:j<S.n+1:=hj
  have e:(if i=S.n then a else U i)=if j=S.n then a else U j:=e
  by_cases e1:i=S.n <;> by_cases e2:j=S.n
  ·rw [e1,e2]
  ·rw [if_pos e1,if_neg e2] at e
   exact absurd e.symm (lt j (by exact Um hj e2))
  ·rw [if_neg e1,if_pos e2] at e
   exact absurd e (lt i (by exact Um hi e1))
  ·rw [if_neg e1,if_neg e2] at e
   exact R.inj i j (by exact Um hi e1) (by exact Um hj e2) e
 ·rw [List.cons_append,List.map_cons,List.nodup_cons]
  refine ⟨fun hm=>?_,R.nodup⟩
  obtain ⟨p,hp,e⟩:=List.mem_map.mp hm
  exact absurd e (ha p hp)
theorem Rel.freeze (R:Rel T w F U S led) {a:Addr} {o:Obj} (ha:∀ p∈led++F,p.1≠a):Rel T w ((a,o)::F) U S led:=by
 refine ⟨R.full,fun k o h=>?_,R.inj,?_⟩
 ·obtain ⟨ob,hob,hor⟩:=R.objs k o h
  exact ⟨ob,hob.imp id fun q=>⟨q.1,.tail _ q.2⟩,hor.mono (fun _ h _=>.tail _ h) (Nat.le_refl _) fun _ _=>rfl⟩
 ·have:((led++(a,o)::F).map (·.1)).Perm (((a,o)::(led++F)).map (·.1)):=(List.perm_middle).map _
  rw [this.nodup_iff,List.map_cons,List.nodup_cons]
  refine ⟨fun hm=>?_,R.nodup⟩
  obtain ⟨p,hp,e⟩:=List.mem_map.mp hm
  exact absurd e (ha p hp)
end
structure AttrOk (K:Frag) (C:Addr) (a:Str):Prop where
 get:plainGet K C a=true
 has:hasDictIn K C=true
 no:∃ attr,findIn K (.ref C) a=some attr/\noGet K attr=true
 set:findIn K (.ref C) "__setattr__" = some (some (.builtin "object.__setattr__"))
 over:plainOver K C=true
 taker:takerIn K C a=some none
noncomputable def wb (x:Expr) (v:Value):Prop:=∀ y,dflt x=some y->(y = .p .none/\v = .none)\/(∃ i t,y = .p (.int i)/\v = .int i t) \/ ∃ b,y = .p (.bool b)/\v = .bool b
inductive FnRec (T:Pl) (K:Frag) (m:Str) (fd:Fn) (ds:List Expr) (a:Addr):Prop
 | mk {name qual dV kV doc pm an cdv ct oc od osl vals} (data:K.lookup a=some ⟨oc,od,.func (fnX name qual fd.args fd.body fd.sc [] dV kV doc pm an cdv ct),osl⟩) (code:codeIn K cdv qual=true)
  (dV:(dV = .none/\vals=[]) \/ ∃ Td o n,dV = .ref Td/\K.lookup Td=some o/\o.data = .seq vals.toArray n) (each:Each wb ds vals) (le:ds.length<=(gf fd.args).length)
  (tab:∀ k f,tabNo m=some (k,f) -> ∃ cc P,cdv = .ref cc/\T.pa f=some P /\ ∀ h,K.In h->CodeHd h cc P):FnRec T K m fd ds a
structure Tx (T:Pl) (w:World) (K:Frag):Prop where
 gfn:∀ x a,T.fa noStr x=some a->nsIn K mainGlobals x=some (some (.ref a))
 gcls:∀ x a,T.ca x=some a->nsIn K mainGlobals x=some (some (.ref a))
 gtop:∀ x a,T.ta x=some a->nsIn K mainGlobals x=some (some (.ref a))
 gint:∀ x i,glob x=some (.int i) -> ∃ t,nsIn K mainGlobals x=some (some (.int i t))
 gbi:∀ x y,glob x=some (.bi y)->y=x/\x ≠ "__name__" /\ nsIn K mainGlobals x=some none/\(bootBuiltins x).isSome=true
 gfa:∀ x,glob x=some (.fn noStr x)->(T.fa noStr x).isSome=true
 gca:∀ x,glob x=some (.cls x)->(T.ca x).isSome=true
 gta:∀ x,glob x=some (.top x)->(T.ta x).isSome=true
 tops:∀ x a,T.ta x=some a -> ∃ o kvs,K.lookup a=some o/\o.IsDictOf (PySem.strKind PG w) kvs/\(a == sysModules)=false /\ ∀ k,(valueAt kvs k).isSome=(d5 x).any (seq k)
 sysm:∃ o,K.lookup sysModules=some o
 attr:∀ c C a,T.ca c=some C->di c a=true->AttrOk K C a
 fns:∀ c m a fd ds,T.fa c m=some a->fnOf c m=some (fd,ds)->FnRec T K m fd ds a
 meths:∀ c C m c' m',T.ca c=some C->cz 3 c m=some (.fn c' m') -> ∃ a,T.fa c' m'=some a/\plainGet K C m=true/\findIn K (.ref C) m=some (some (.ref a))/\isFn K (.ref a)=true
 makes:∀ c C c' m',T.ca c=some C->cz 3 c "__init__" = some (.fn c' m')->makesIn K C=true
 isas:∀ c C d D,T.ca c=some C->T.ca d=some D->jz 4 c d=true->isIn K (.ref C) D=true
 keepC:∀ c C,T.ca c=some C->keepIn K (.ref C)=true
 keepF:∀ c m a,T.fa c m=some a->keepIn K (.ref a)=true
noncomputable def Ax (sc sc':Scope):Prop:=∀ x,match look x sc.names with
 | some .local=>sc'.names.lookup x=some .local
 | some .cell=>sc'.names.lookup x=some .cell
 | some .free=>sc'.names.lookup x=some .free\/sc'.names.lookup x=some .cell
 | some .globalImplicit=>sc'.names.lookup x=some .globalImplicit
 | _=>True
structure Sx (T:Pl) (w:World) (K:Frag) (lz:List Str) (mn:ExcName->Option Value) (mg mb:Str->Option Value) (e:En) (env:Env) (g:Heap) (A:Around):Prop where
 tx:Tx T w K
 kin:K.In g
 top:Top topProg lz mn mg mb g
 kind:env.scope.kind = .function
 glo:env.globals=mainGlobals
 blt:env.builtins=builtinsNs
 kinds:Ax e.sc env.scope
 deep:e.d<=41
 depth:A.depth<=310+4 * e.d
 units:A.units<=100+60 * e.d
 hand:A.handled=none
 tab:∀ k f,e.tb=some (k,f) -> ∃ cn cs a c cl P,env=envX cn cs env.locals a (.ref c) cl/\CodeHd g c P/\T.pa f=some P
structure Dx (T:Pl) (w:World) (e:En) (env:Env) (g:Heap) (U:Nat->Addr) (m:Str->Option Value) (led F:Led) (S:St) (σ:Shared):Prop where
 fr:Fr g env.locals σ.heap m
 nw:News g env.locals σ.heap (led++F)
 rel:Rel T w F U S led
 loc:Loc T F U S m
 cells:∀ x k,look x e.cells=some k->k<S.n/\env.cells.lookup x=some (U k)
structure Ext (F:Led) (U:Nat->Addr) (n:Nat) (F':Led) (ρ':Nat->Addr) (n':Nat):Prop where
 le:n<=n'
 same:∀ k,k<n->ρ' k=U k
 sub:∀ p∈F,p∈F'
theorem Ext.refl (F:Led) (U:Nat->Addr) (n:Nat):Ext F U n F U n:=⟨Nat.le_refl _,fun _ _=>rfl,fun _ h=>h⟩
theorem Ext.trans {F F' F'':Led} {U ρ' ρ'':Nat->Addr} {n n' n'':Nat} (a:Ext F U n F' ρ' n') (b:Ext F' ρ' n' F'' ρ'' n''):Ext F U n F'' ρ'' n'' :=
 ⟨Nat.le_trans a.le b.le,fun k h=>(b.same k (Nat.lt_of_lt_of_le h a.le)).trans (a.same k h),fun p h=>b.sub p (a.sub p h)⟩
theorem Ext.vr {T:Pl} {F F':Led} {U ρ':Nat->Addr} {n n':Nat} (a:Ext F U n F' ρ' n') {v:V} {x:Value} (h:VR T F U n v x):VR T F' ρ' n' v x:=h.mono (fun p hp _=>a.sub p hp) a.le a.same
theorem Ext.new (F:Led) (U:Nat->Addr) (n:Nat) (a:Addr):Ext F U n F (fun k=>if k=n then a else U k) (n+1):=⟨Nat.le_succ _,fun _ h=>if_neg (Nat.ne_of_lt h),fun _ h=>h⟩
theorem Ext.frz (F:Led) (U:Nat->Addr) (n:Nat) (p:Addr×Obj):Ext F U n (p::F) U n:=⟨Nat.le_refl _,fun _ _=>rfl,fun _ h=>.tail _ h⟩
noncomputable abbrev At (σ:Shared) (h:Heap) (t:Nat):Shared:={ σ with heap:=h,toks:=t }
noncomputable def PostE (T:Pl) (w:World) (e:En) (env:Env) (g:Heap) (F:Led) (U:Nat->Addr) (n:Nat) (σ:Shared) (P:V->St->Prop) (Q:Value->Shared->Prop):Prop :=
 ∀ F' ρ' m' led' h' t' v x S',Ext F U n F' ρ' S'.n->Dx T w e env g ρ' m' led' F' S' (At σ h' t')->VR T F' ρ' S'.n v x->P v S'->Q x (At σ h' t')
noncomputable def PostU (T:Pl) (w:World) (e:En) (env:Env) (g:Heap) (F:Led) (U:Nat->Addr) (n:Nat) (σ:Shared) (P:St->Prop) (Q:Unit->Shared->Prop):Prop :=
 ∀ F' ρ' m' led' h' t' S',Ext F U n F' ρ' S'.n->Dx T w e env g ρ' m' led' F' S' (At σ h' t')->P S'->Q () (At σ h' t')
theorem ac {α:Type} {o:Option α} {k:α->Prop} (h:opt False o k):∃ a,o=some a/\k a:=by
 induction o using Option.casesOn with
 | none=>exact h.elim
 | some a=>exact ⟨a,rfl,h⟩
theorem az {b:Bool} {x y:Prop} (h:cnd b x y):(b=true/\x)\/(b=false/\y):=by
 induction b using Bool.casesOn with
 | true=>exact .inl ⟨rfl,h⟩
 | false=>exact .inr ⟨rfl,h⟩
theorem ab {b:Bool} {x:Prop} (h:cnd b x False):b=true/\x:=by
 induction b using Bool.casesOn with
 | true=>exact ⟨rfl,h⟩
 | false=>exact h.elim
section
variable {T:Pl} {w:World} {K:Frag} {lz:List Str} {mn:ExcName->Option Value} {mg mb:Str->Option Value} {e:En} {env:Env} {g:Heap} {A:Around} {F:Led} {U:Nat->Addr} {m:Str->Option Value} {led:Led} {S S':St} {σ:Shared}
 {E:Value->Shared->Prop}
theorem PostE.here {P:V->St->Prop} {Q:Value->Shared->Prop} (h:PostE T w e env g F U S.n σ P Q) (D:Dx T w e env g U m led F S σ) {v:V} {x:Value} (hv:VR T F U S.n v x) (hp:P v S):Q x σ :=
 h F U m led σ.heap σ.toks v x S (Ext.refl _ _ _) D hv hp
theorem PostE.tok {P:V->St->Prop} {Q:Value->Shared->Prop} (h:PostE T w e env g F U S.n σ P Q) (D:Dx T w e env g U m led F S σ) {v:V} {x:Value} (hv:VR T F U S.n v x) (hp:P v S) (t:Nat):Q x { σ with toks:=t } :=
 h F U m led σ.heap t v x S (Ext.refl _ _ _) ⟨D.fr,D.nw,D.rel,D.loc,D.cells⟩ hv hp
theorem OptP.none_of {α β:Type} {R:α->Prop} {o:Option β} {f:β->Option α} {a:Option α} (h1:∀ b,o=some b->OptP R (f b)) (h2:OptP R a):OptP R (match (generalizing:=false) o with | some b=>f b | none=>a):=by
 induction o using Option.casesOn with
 | none=>exact h2
 | some b=>exact h1 b rfl
theorem yb {x:Str} {o:Option Expr} {a:Option P} (h:OptP (fun v=>v = .fn noStr x\/v = .cls x\/(∃ i,v = .int i)\/v = .top x\/v = .bi x) a):OptP (fun v=>v = .fn noStr x\/v = .cls x\/(∃ i,v = .int i)\/v = .top x\/v = .bi x) (match (generalizing:=false) o with
  | some (.Constant (.int i) _ _)=>some (.int i)
  | some (.Dict ..)=>some (.top x)
  | some _=>none
  | none=>a):=by
 induction o using Option.casesOn with
 | none=>exact h
 | some y=>induction y using Expr.casesOn with
  | Constant c=>induction c using Const.casesOn with
   | int i=>exact .inr (.inr (.inl ⟨i,rfl⟩))
   | _=>trivial
  | Dict=>exact .inr (.inr (.inr (.inl rfl)))
  | _=>trivial
theorem Ay {x:Str} {v:P} (h:glob x=some v):v = .fn noStr x\/v = .cls x\/(∃ i,v = .int i)\/v = .top x\/v = .bi x:=by
 have h:(match globNames.any (seq x) with | true=>vy x | false=>none)=some v:=h
 induction q:globNames.any (seq x) using Bool.casesOn with
 | false=>rw [q] at h;exact nos h
 | true =>
  rw [q] at h
  refine OptP.get (o:=vy x) (R:=fun v=>v = .fn noStr x\/v = .cls x\/(∃ i,v = .int i)\/v = .top x\/v = .bi x) ?_ h
  unfold vy
  induction fnIn x dq using Option.casesOn with
  | some=>exact .inl rfl
  | none=>induction fw x dq using Option.casesOn with
   | some=>exact .inr (.inl rfl)
   | none =>
    refine yb ?_
    by_cases q:theNames.any (seq x)=true
    ·rw [if_pos q];exact .inr (.inr (.inr (.inr rfl)))
    ·rw [if_neg q];trivial
theorem fj {x:Str} (h:nu x=false):(x == ("__debug__" : Str))=false/\(x == ("__classdict__" : Str))=false:=by
 unfold nu at h
 rw [Bool.or_eq_false_iff] at h
 exact ⟨beq_eq_false_iff_ne.mpr (jc h.1),beq_eq_false_iff_ne.mpr (jc h.2)⟩
theorem bj {x:Str} {k:NameKind} (h:kindOf e x=some k):nu x=false/\look x e.sc.names=some k:=by
 delta kindOf at h
 split at h
 ·injection h
 ·rename_i q;exact ⟨q,h⟩
theorem Dx.at (D:Dx T w e env g U m led F S σ) {a:Addr} {o:Obj} (h:(a,o)∈led):σ.heap.get? a=some o:=(D.nw _ (List.mem_append_left _ h)).1
theorem Dx.frz (D:Dx T w e env g U m led F S σ) {a:Addr} {o:Obj} (h:(a,o)∈F):σ.heap.get? a=some o:=(D.nw _ (List.mem_append_right _ h)).1
noncomputable def Kj (e:En) (x:Str) (S:St) (v:V):Prop :=
 (kindOf e x=some .local/\look x S.loc=some v)\/((kindOf e x=some .cell\/kindOf e x=some .free) /\ ∃ k,look x e.cells=some k/\S.h.get k=some (.cell (some v)))\/(kindOf e x=some .globalImplicit /\ ∃ p,glob x=some p/\v = .p p)
theorem cell_at {x:Str}:OptP (fun v=>∃ k,look x e.cells=some k/\S.h.get k=some (.cell (some v))) (match look x e.cells with
  | some k=>(match S.h.get k with | some (.cell v)=>v | _=>none)
  | none=>none):=by
 induction hk:look x e.cells using Option.casesOn with
 | none=>trivial
 | some k =>
  dsimp only
  induction hg:S.h.get k using Option.casesOn with
  | none=>trivial
  | some o=>induction o using VO.casesOn with
   | cell v=>induction v using Option.casesOn with
    | none=>trivial
    | some v=>exact ⟨k,rfl,hg⟩
   | _=>trivial
theorem Az {x:Str} {v:V} (h:load e x S=some v):Kj e x S v:=by
 have h:(match kindOf e x with
  | some .local=>look x S.loc
  | some .cell | some .free=>(match look x e.cells with
   | some k=>(match S.h.get k with | some (.cell v)=>v | _=>none)
   | none=>none)
  | some .globalImplicit=>(glob x).map .p
  | _=>none)=some v:=h
 delta Kj
 induction hk:kindOf e x using Option.casesOn with
 | none=>exact nos (hk ▸ h)
 | some kd =>
  rw [hk] at h
  induction kd using NameKind.casesOn with
  | «local» => exact .inl ⟨rfl,h⟩
  | cell=>exact .inr (.inl ⟨.inl rfl,cell_at.get h⟩)
  | free=>exact .inr (.inl ⟨.inr rfl,cell_at.get h⟩)
  | globalImplicit =>
   obtain ⟨p,hp,e⟩:=Option.map_eq_some_iff.mp h
   exact .inr (.inr ⟨rfl,p,hp,e.symm⟩)
  | _=>exact nos h
theorem A0 {x:Str} {pos:Pos} {v:P} (X:Sx T w K lz mn mg mb e env g A) (D:Dx T w e env g U m led F S σ) (hk:kindOf e x=some .globalImplicit) (hv:glob x=some v) {Q:Value->Shared->Prop} (fin:∀ y,PR T F v y->Q y σ):wpAny (model PG w) A (eval (.Name x pos) env) Q E σ:=by
 have kd:=X.kinds x
 obtain ⟨hb,hk⟩:=bj hk
 obtain ⟨n1,n2⟩:=fj hb
 rw [hk] at kd
 have G:=X.top.g.keeps D.fr.keep
 have B:=X.top.b.keeps D.fr.keep
 rw [← X.glo] at G
 rw [← X.blt] at B
 have put:∀ y,nsIn K mainGlobals x=some (some y)->PR T F v y->wpAny (model PG w) A (eval (.Name x pos) env) Q E σ:=fun y hy hr =>
  Name_function_global X.kind kd (loadGlobal_global G (mg_of X.kin X.top.g hy) (fin y hr)) n1
 rcases Ay hv with q | q | ⟨i,q⟩ | q | q
 ·obtain ⟨a,ha⟩:=Option.isSome_iff_exists.mp (X.tx.gfa x (q ▸ hv))
  exact put _ (X.tx.gfn x a ha) (q ▸ .fn ha)
 ·obtain ⟨a,ha⟩:=Option.isSome_iff_exists.mp (X.tx.gca x (q ▸ hv))
  exact put _ (X.tx.gcls x a ha) (q ▸ .cls ha)
 ·obtain ⟨t,ht⟩:=X.tx.gint x i (q ▸ hv)
  exact put _ ht (q ▸ .int i t)
 ·obtain ⟨a,ha⟩:=Option.isSome_iff_exists.mp (X.tx.gta x (q ▸ hv))
  exact put _ (X.tx.gtop x a ha) (q ▸ .top ha)
 ·obtain ⟨_,hn,hm,hb'⟩:=X.tx.gbi x x (q ▸ hv)
  obtain ⟨y,hy⟩:=Option.isSome_iff_exists.mp hb'
  exact Name_function_global X.kind kd (loadGlobal_builtin G (mg_none_of X.kin X.top.g hm) B ((X.top.builtins x hn).trans hy) (fin y (q ▸ .bi hy))) n1
theorem L1 {x:Str} {pos:Pos} {P:V->St->Prop} (X:Sx T w K lz mn mg mb e env g A) (D:Dx T w e env g U m led F S σ) (h:opt False (load e x S) fun v=>P v S) {Q:Value->Shared->Prop}
  (hQ:PostE T w e env g F U S.n σ P Q):wpAny (model PG w) A (eval (.Name x pos) env) Q E σ:=by
 refine bc fun hG=>?_
 obtain ⟨v,h,hp⟩:=ac h
 have kd:=X.kinds x
 rcases Az h with ⟨hk,h⟩ | ⟨hk,k,hk',hg⟩ | ⟨hk,p,hv,rfl⟩
 ·obtain ⟨hb,hk⟩:=bj hk
  rw [hk] at kd
  obtain ⟨y,hy,hr⟩:=D.loc x v h
  exact hG (wpAny_Name (wpAny_loadName_local X.kind kd D.fr.ns hy (hQ.here D hr hp)) (fj hb).1)
 ·obtain ⟨hlt,hc⟩:=D.cells x k hk'
  obtain ⟨ob,hob,hor⟩:=D.rel.obj k _ hg
  obtain ⟨x',hd,hv⟩:=hor.inv
  induction x' using Option.casesOn with
  | none=>exact hv.elim
  | some y =>
   have hi:σ.heap.IsCell (U k) (some y):=⟨ob,D.at hob,hd⟩
   have hq:Q y σ:=hQ.here D hv hp
   rcases hk with hk | hk
   ·obtain ⟨hb,hk⟩:=bj hk
    rw [hk] at kd
    exact hG (wpAny_Name (wpAny_loadName_cell X.kind kd hc hi hq) (fj hb).1)
   ·obtain ⟨hb,hk⟩:=bj hk
    obtain ⟨n1,n2⟩:=fj hb
    rw [hk] at kd
    rcases kd with kd | kd
    ·exact hG (wpAny_Name (wpAny_loadName_free X.kind kd hc hi hq n2) n1)
    ·exact hG (wpAny_Name (wpAny_loadName_cell X.kind kd hc hi hq) n1)
 ·exact hG (A0 X D hk hv fun y hy=>hQ.here D (.p hy) hp)
theorem ip {x:Str} {v:V} {S':St} (h:store e x v S=some S'):(kindOf e x=some .local/\S'={ S with loc:=put x v S.loc })\/(kindOf e x=some .cell /\ ∃ k c,look x e.cells=some k/\S.h.get k=some (.cell c)/\S'=upd k (.cell (some v)) S):=by
 have h:(match kindOf e x with
  | some .local=>some { S with loc:=put x v S.loc }
  | some .cell=>(match look x e.cells with
   | some k=>(match S.h.get k with
    | some (.cell _)=>some (upd k (.cell (some v)) S)
    | _=>none)
   | none=>none)
  | _=>none)=some S':=h
 induction hk:kindOf e x using Option.casesOn with
 | none=>exact nos (hk ▸ h)
 | some kd =>
  rw [hk] at h
  induction kd using NameKind.casesOn with
  | «local» => exact .inl ⟨rfl,(Option.some.inj h).symm⟩
  | cell =>
   dsimp only at h
   induction hl:look x e.cells using Option.casesOn with
   | none=>exact nos (hl ▸ h)
   | some k =>
    rw [hl] at h
    dsimp only at h
    induction hg:S.h.get k using Option.casesOn with
    | none=>exact nos (hg ▸ h)
    | some o =>
     rw [hg] at h
     induction o using VO.casesOn with
     | cell c=>exact .inr ⟨rfl,k,c,rfl,hg,(Option.some.inj h).symm⟩
     | _=>exact nos h
  | _=>exact nos h
theorem Dx.turn {pre post:Led} {a:Addr} {k:Nat} {vo vo':VO} {o o':Obj} {h':Heap} {t:Nat} (D:Dx T w e env g U m (pre++(a,o)::post) F S σ) (ha:U k=a) (hk:S.h.get k=some vo) (hs:Heap.SameBut a σ.heap h') (ho:h'.get? a=some o')
  (hor:OR T w F U S.n a vo' o'):Dx T w e env g U m (pre++(a,o')::post) F (upd k vo' S) (At σ h' t):=by
 have nd:=D.rel.nodup
 have hp:=D.nw (a,o) (by simp)
 have e1:(pre++(a,o)::post)++F=pre++(a,o)::(post++F):=by simp
 have e2:(pre++(a,o')::post)++F=pre++(a,o')::(post++F):=by simp
 have ap:(∀ p∈pre,p.1≠a) /\ ∀ p∈post++F,p.1≠a:=by
  rw [e1,List.map_append,List.map_cons,List.nodup_append] at nd
  refine ⟨fun p hp q=>nd.2.2 _ (List.mem_map_of_mem (f:=(·.1)) hp) _ (.head _) q,fun p hp q=>?_⟩
  have:=(List.nodup_cons.mp nd.2.1).1
  exact this (q ▸ List.mem_map_of_mem (f:=(·.1)) hp)
 refine ⟨⟨D.fr.ns.sameBut hs (Ne.symm hp.2.1),fun b ob e=>(hs.2 b (fun q=>by rw [q,hp.2.2] at e;injection e)).trans (D.fr.keep b ob e),D.fr.above⟩,?_,D.rel.updAt ha hk hor,D.loc,D.cells⟩
 rw [e2]
 exact News.setAt (e1 ▸ D.nw) ap.1 ap.2 hs ho
theorem n7 {x:Str} {v:V} {y:Value} {P:St->Prop} (X:Sx T w K lz mn mg mb e env g A) (D:Dx T w e env g U m led F S σ) (hv:VR T F U S.n v y) (h:opt False (store e x v S) P) {Q:Unit->Shared->Prop}
  (hQ:PostU T w e env g F U S.n σ P Q):wpAny (model PG w) A (storeName env x y) Q E σ:=by
 refine bc fun hG=>?_
 obtain ⟨s',h,hp⟩:=ac h
 have kd:=X.kinds x
 rcases ip h with ⟨hk,e⟩ | ⟨hk,k,c,hk',hg,e⟩
 ·rw [e] at hp
  obtain ⟨hb,hk⟩:=bj hk
  rw [hk] at kd
  refine hG (wpAny_storeName_local kd D.fr.ns (fun h' hn hs=>?_) (by rw [X.kind];rfl))
  refine hQ F U _ led h' _ { S with loc:=put x v S.loc } (Ext.refl _ _ _) ⟨D.fr.set hn hs,D.nw.set hs,⟨D.rel.full,D.rel.objs,D.rel.inj,D.rel.nodup⟩,fun z u hz=>?_,D.cells⟩ hp
  have hz:look z (put x v S.loc)=some u:=hz
  rw [n5] at hz
  by_cases q:x=z
  ·rw [if_pos q] at hz
   exact ⟨y,if_pos q.symm,Option.some.inj hz ▸ hv⟩
  ·rw [if_neg q] at hz
   obtain ⟨y',h1,h2⟩:=D.loc z u hz
   exact ⟨y',by rw [if_neg (Ne.symm q)];exact h1,h2⟩
 ·rw [e] at hp
  obtain ⟨hb,hk⟩:=bj hk
  rw [hk] at kd
  obtain ⟨hlt,hc⟩:=D.cells x k hk'
  obtain ⟨ob,hob,hor⟩:=D.rel.obj k _ hg
  obtain ⟨x',hd,_⟩:=hor.inv
  obtain ⟨pre,post,rfl,h1,h2⟩:=n6 ((List.nodup_append.mp (List.map_append ▸ D.rel.nodup)).1) hob
  refine hG (wpAny_storeName_cell X.kind kd hc ⟨ob,D.at hob,hd⟩ fun h' hi hs=>?_)
  obtain ⟨o',ho',hd'⟩:=hi
  exact hQ F U m _ h' _ (upd k (.cell (some v)) S) (Ext.refl _ _ _) (D.turn rfl hg hs ho' (.cell hd' hv)) hp
end
noncomputable def PostL (T:Pl) (w:World) (e:En) (env:Env) (g:Heap) (F:Led) (U:Nat->Addr) (n:Nat) (σ:Shared) (P:List V->St->Prop) (Q:List Value->Shared->Prop):Prop :=
 ∀ F' ρ' m' led' h' t' vs xs S',Ext F U n F' ρ' S'.n->Dx T w e env g ρ' m' led' F' S' (At σ h' t')->Each (VR T F' ρ' S'.n) vs xs->P vs S'->Q xs (At σ h' t')
noncomputable def PostB (T:Pl) (w:World) (e:En) (env:Env) (g:Heap) (F:Led) (U:Nat->Addr) (n:Nat) (σ:Shared) (P:Bool->St->Prop) (Q:Bool->Shared->Prop):Prop :=
 ∀ F' ρ' m' led' h' t' b S',Ext F U n F' ρ' S'.n->Dx T w e env g ρ' m' led' F' S' (At σ h' t')->P b S'->Q b (At σ h' t')
inductive FR (T:Pl) (F:Led) (U:Nat->Addr) (n:Nat):Fl->Flow->Prop
 | next:FR T F U n .next .next
 | brk:FR T F U n .brk .brk
 | ret {v:V} {x:Value}:VR T F U n v x->FR T F U n (.ret v) (.ret x)
noncomputable def PostS (T:Pl) (w:World) (e:En) (env:Env) (g:Heap) (F:Led) (U:Nat->Addr) (n:Nat) (σ:Shared) (P:Fl->St->Prop) (Q:Flow->Shared->Prop):Prop :=
 ∀ F' ρ' m' led' h' t' f y S',Ext F U n F' ρ' S'.n->Dx T w e env g ρ' m' led' F' S' (At σ h' t')->FR T F' ρ' S'.n f y->P f S'->Q y (At σ h' t')
structure Snd (T:Pl) (w:World) (K:Frag) (lz:List Str) (mn:ExcName->Option Value) (mg mb:Str->Option Value) (r:H Prop):Prop where
 e:∀ {e env g A F U m led S σ x P Q E},Sx T w K lz mn mg mb e env g A->Dx T w e env g U m led F S σ->r.e e x S P->PostE T w e env g F U S.n σ P Q->wpAny (model PG w) A (eval x env) Q E σ
 es:∀ {e env g A F U m led S σ xs pos P Q E},Sx T w K lz mn mg mb e env g A->Dx T w e env g U m led F S σ->r.es e xs S P->PostL T w e env g F U S.n σ P Q->wpAny (model PG w) A (spliced (backTo pos (starEach xs env))) Q E σ
 t:∀ {e env g A F U m led S σ x P Q E},Sx T w K lz mn mg mb e env g A->Dx T w e env g U m led F S σ->r.t e x S P->PostB T w e env g F U S.n σ P Q->wpAny (model PG w) A (isTrue x env (eval x env)) Q E σ
 ss:∀ {e env g A F U m led S σ xs P Q E},Sx T w K lz mn mg mb e env g A->Dx T w e env g U m led F S σ->r.ss e xs S P->PostS T w e env g F U S.n σ P Q->wpAny (model PG w) A (execs xs env) Q E σ
 call:∀ {e env g A F U m led S σ f fv vs xs P Q E},Sx T w K lz mn mg mb e env g A->Dx T w e env g U m led F S σ->VR T F U S.n f fv->Each (VR T F U S.n) vs xs->r.call e.d f vs S P->PostE T w e env g F U S.n σ P Q ->
  wpAny (model PG w) A (PySem.call fv xs) Q E σ
 star:∀ e x p s P,¬ r.e e (.Starred x p) s P
section
variable {T:Pl} {w:World} {K:Frag} {lz:List Str} {mn:ExcName->Option Value} {mg mb:Str->Option Value} {r:H Prop} {e:En} {env:Env} {g:Heap} {A:Around} {F:Led} {U:Nat->Addr} {m:Str->Option Value} {led:Led} {S S':St} {σ:Shared}
 {E:Value->Shared->Prop}
theorem Dx.tok (D:Dx T w e env g U m led F S σ) (t:Nat):Dx T w e env g U m led F S { σ with toks:=t }:=⟨D.fr,D.nw,D.rel,D.loc,D.cells⟩
theorem PostE.on {P:V->St->Prop} {Q:Value->Shared->Prop} (h:PostE T w e env g F U S.n σ P Q) {F':Led} {ρ':Nat->Addr} {S':St} {h':Heap} {t':Nat} (x:Ext F U S.n F' ρ' S'.n) :
  PostE T w e env g F' ρ' S'.n (At σ h' t') P Q:=fun F'' ρ'' m'' led'' h'' t'' v y S'' x' D hv hp=>h F'' ρ'' m'' led'' h'' t'' v y S'' (x.trans x') D hv hp
theorem PostB.on {P:Bool->St->Prop} {Q:Bool->Shared->Prop} (h:PostB T w e env g F U S.n σ P Q) {F':Led} {ρ':Nat->Addr} {S':St} {h':Heap} {t':Nat} (x:Ext F U S.n F' ρ' S'.n) :
  PostB T w e env g F' ρ' S'.n (At σ h' t') P Q:=fun F'' ρ'' m'' led'' h'' t'' b S'' x' D hp=>h F'' ρ'' m'' led'' h'' t'' b S'' (x.trans x') D hp
theorem PostS.on {P:Fl->St->Prop} {Q:Flow->Shared->Prop} (h:PostS T w e env g F U S.n σ P Q) {F':Led} {ρ':Nat->Addr} {S':St} {h':Heap} {t':Nat} (x:Ext F U S.n F' ρ' S'.n) :
  PostS T w e env g F' ρ' S'.n (At σ h' t') P Q:=fun F'' ρ'' m'' led'' h'' t'' f y S'' x' D hf hp=>h F'' ρ'' m'' led'' h'' t'' f y S'' (x.trans x') D hf hp
theorem PostL.on {P:List V->St->Prop} {Q:List Value->Shared->Prop} (h:PostL T w e env g F U S.n σ P Q) {F':Led} {ρ':Nat->Addr} {S':St} {h':Heap} {t':Nat} (x:Ext F U S.n F' ρ' S'.n) :
  PostL T w e env g F' ρ' S'.n (At σ h' t') P Q:=fun F'' ρ'' m'' led'' h'' t'' f y S'' x' D hf hp=>h F'' ρ'' m'' led'' h'' t'' f y S'' (x.trans x') D hf hp
theorem Gi {c:Const} {kd:Nat} {pos:Pos} {P:V->St->Prop} (D:Dx T w e env g U m led F S σ) {O:Known Prop} (h:evE False O r e (.Constant c kd pos) S P) {Q:Value->Shared->Prop}
  (hQ:PostE T w e env g F U S.n σ P Q):wpAny (model PG w) A (eval (.Constant c kd pos) env) Q E σ:=by
 induction c using Const.casesOn with
 | none=>exact wpAny_Constant_none (hQ.here D (.p .none) h)
 | bool b=>exact wpAny_Constant_bool (hQ.here D (.p (.bool b)) h)
 | int i=>exact wpAny_Constant_int (hQ.tok D (.p (.int i _)) h _)
 | str x=>exact wpAny_Constant_str (hQ.tok D (.p (.str x _)) h _)
 | _=>exact h.elim
theorem L2 (Z:Snd T w K lz mn mg mb r) {x:Expr} {P:V->St->Prop} (h:r.e e x S P) (rest:List Expr):starEach (x::rest) env=(false,eval x env)::starEach rest env:=by
 induction x using Expr.casesOn with
 | Starred x p=>exact absurd h (Z.star e x p S P)
 | _=>rfl
theorem Xv (Z:Snd T w K lz mn mg mb r) (X:Sx T w K lz mn mg mb e env g A) {pos:Pos}:∀ {xs:List Expr} {F:Led} {U:Nat->Addr} {m:Str->Option Value} {led:Led} {S:St} {σ:Shared} {P:List V->St->Prop} {Q:List Value->Shared->Prop},
  Dx T w e env g U m led F S σ->Xl r e xs S P->PostL T w e env g F U S.n σ P Q->wpAny (model PG w) A (spliced (backTo pos (starEach xs env))) Q E σ:=by
 intro l0
 induction l0 with
 | nil =>
  intro F U m led S σ P Q D h hQ
  exact spliced_nil (hQ F U m led σ.heap σ.toks [] [] S (Ext.refl _ _ _) D .nil h)
 | cons x xs ih =>
  intro F U m led S σ P Q D h hQ
  refine args_cons ?_ (L2 Z h xs)
  refine Z.e X D h fun F' ρ' m' led' h' t' v y S' x' D' hv hp=>?_
  refine ih D' hp fun F'' ρ'' m'' led'' h'' t'' vs ys S'' x'' D'' hvs hp'=>?_
  exact hQ F'' ρ'' m'' led'' h'' t'' _ _ S'' (x'.trans x'') D'' (.cons (x''.vr hv) hvs) hp'
end
section
variable {T:Pl} {w:World} {K:Frag} {lz:List Str} {mn:ExcName->Option Value} {mg mb:Str->Option Value} {r:H Prop} {e:En} {env:Env} {g:Heap} {A:Around} {F:Led} {U:Nat->Addr} {m:Str->Option Value} {led:Led} {S S':St} {σ:Shared}
 {E:Value->Shared->Prop}
theorem Kk {α β:Type} {x:List α} {y:List β} (h:x.length=y.length):(!y.toArray.isEmpty) = !x.isEmpty:=by
 induction x using List.casesOn <;> induction y using List.casesOn <;> simp_all
theorem PRs.length {xs:List P} {vs:List Value} (h:PRs T F xs vs):xs.length=vs.length:=h.each.length
noncomputable def TruthOf (x:P) (b:Bool):Prop :=
 (x = .none/\b=false)\/(x = .bool b)\/(∃ i,x = .int i/\b=decide (i≠0))\/(∃ s,x = .str s/\s.cps.size<=2000/\b = !(Nat.beq s.cps.size 0))\/(∃ l,x = .lst l/\b = !l.isEmpty) \/ ∃ l,x = .tup l/\b = !l.isEmpty
theorem yc (x:P):OptP (TruthOf x) (Kh x):=by
 induction x using P.casesOn with
 | none=>exact .inl ⟨rfl,rfl⟩
 | bool b=>exact .inr (.inl rfl)
 | int i=>exact .inr (.inr (.inl ⟨i,rfl,rfl⟩))
 | str s=>exact OptP.ifb fun h=>.inr (.inr (.inr (.inl ⟨s,rfl,Nat.le_of_ble_eq_true h,rfl⟩)))
 | lst l=>exact .inr (.inr (.inr (.inr (.inl ⟨l,rfl,rfl⟩))))
 | tup l=>exact .inr (.inr (.inr (.inr (.inr ⟨l,rfl,rfl⟩))))
 | _=>trivial
theorem A1 {k:Nat} {b:Bool} (h:truth (.ref k) S=some b):(∃ l,S.h.get k=some (.list l)/\b = !l.isEmpty) \/ ∃ l,S.h.get k=some (.listV l)/\b = !l.isEmpty:=by
 have h:(match S.h.get k with | some (.list xs)=>some (!xs.isEmpty) | some (.listV xs)=>some (!xs.isEmpty) | _=>none)=some b:=h
 induction hg:S.h.get k using Option.casesOn with
 | none=>rw [hg] at h;exact nos h
 | some o =>
  rw [hg] at h
  induction o using VO.casesOn with
  | list l=>exact .inl ⟨l,rfl,(Option.some.inj h).symm⟩
  | listV l=>exact .inr ⟨l,rfl,(Option.some.inj h).symm⟩
  | _=>exact nos h
theorem j4 {a:Addr} {n:Nat} {α:Type} {xs:List α} {vs:List Value} {Q:Bool->Shared->Prop} (h:σ.heap.get? a=some (listOf vs.toArray n)) (hl:vs.length<=2000) (e:xs.length=vs.length) (hQ:∀ t,Q (!xs.isEmpty) { σ with toks:=t }):wpAny (model PG w) A (truthy (.ref a)) Q E σ :=
 wpAny_truthy_list ⟨_,h,rfl,_,rfl⟩ (by rw [List.size_toArray];omega) (by rw [Kk e];exact hQ _)
theorem Gj (n:Nat):(((n:Nat):Int) != 0) = !(Nat.beq n 0):=by
 induction n using Nat.casesAuxOn <;> rfl
theorem jp {v:V} {y:Value} {b:Bool} (D:Dx T w e env g U m led F S σ) (hv:VR T F U S.n v y) (h:truth v S=some b) {Q:Bool->Shared->Prop}
  (hQ:∀ t,Q b { σ with toks:=t }):wpAny (model PG w) A (truthy y) Q E σ:=by
 induction v using V.casesOn with
 | p x =>
  have hv:=hv.pure.inv
  rcases (yc x).get h with ⟨rfl,rfl⟩ | rfl | ⟨i,rfl,rfl⟩ | ⟨s,rfl,hf,rfl⟩ | ⟨l,rfl,rfl⟩ | ⟨l,rfl,rfl⟩
  ·subst hv;exact truthy_none (hQ σ.toks)
  ·subst hv;exact wpAny_truthy_bool (hQ σ.toks)
  ·obtain ⟨t,rfl⟩:=hv
   refine P.truthy_int ?_
   have:(i != 0)=decide (i≠0):=by by_cases q:i=0 <;> simp [q]
   rw [this];exact hQ σ.toks
  ·obtain ⟨t,rfl⟩:=hv
   refine P.truthy_str (Int.not_le.mpr (Int.lt_of_le_of_lt (Int.ofNat_le.mpr hf) (by decide))) ?_
   show Q (((s.cps.size:Nat):Int) != 0) _
   rw [Gj];exact hQ _
  ·obtain ⟨vs,a,n,rfl,hm,hr,hl⟩:=hv
   exact j4 (D.frz hm) hl hr.length hQ
  ·obtain ⟨vs,a,rfl,hm,hr,hl⟩:=hv
   refine truthy_tuple ⟨_,D.frz hm,rfl,_,rfl⟩ (by rw [List.size_toArray];omega) ?_
   rw [Kk hr.length];exact hQ _
 | ref k =>
  obtain ⟨hk,rfl⟩:=hv.inv
  rcases A1 h with ⟨l,hg,rfl⟩ | ⟨l,hg,rfl⟩
  ·obtain ⟨ob,hob,hor⟩:=D.rel.obj k _ hg
   obtain ⟨vs,n,rfl,hr,hl⟩:=hor.inv
   exact j4 (D.at hob) hl hr.length hQ
  ·obtain ⟨ob,hob,hor⟩:=D.rel.obj k _ hg
   obtain ⟨vs,n,rfl,hr,hl⟩:=hor.inv
   exact j4 (D.at hob) hl hr.length hQ
end
section
variable {T:Pl} {w:World} {K:Frag} {lz:List Str} {mn:ExcName->Option Value} {mg mb:Str->Option Value} {r:H Prop} {O:Known Prop} {e:En} {env:Env} {g:Heap} {A:Around} {F:Led} {U:Nat->Addr} {m:Str->Option Value} {led:Led} {S S':St} {σ:Shared}
 {E:Value->Shared->Prop}
theorem ql {M:Model} {t a b:Expr} {p:Pos} {whole:Sem Value} {Q:Bool->Shared->Prop} {s:Shared}
  (h:wpAny M A (isTrue t env (eval t env)) (fun c s'=>if c then wpAny M A (isTrue a env (eval a env)) Q E s' else wpAny M A (isTrue b env (eval b env)) Q E s') E s) :
  wpAny M A (isTrue (.IfExp t a b p) env whole) Q E s:=by
 show wpAny M A (do if ← isTrue t env (eval t env) then isTrue a env (eval a env) else isTrue b env (eval b env)) Q E s
 refine wpAny_bind (wpAny_mono h (fun c s' h'=>?_) fun _ _ x=>x)
 induction c using Bool.casesOn <;> exact h'
theorem A2 (Z:Snd T w K lz mn mg mb r) (X:Sx T w K lz mn mg mb e env g A) (D:Dx T w e env g U m led F S σ) {op:BoolOp} {xs:List Expr} {pos:Pos} {P:V->St->Prop} (h:evE False O r e (.BoolOp op xs pos) S P) {Q:Value->Shared->Prop}
  (hQ:PostE T w e env g F U S.n σ P Q):wpAny (model PG w) A (eval (.BoolOp op xs pos) env) Q E σ:=by
 induction xs using List.casesOn with
 | nil=>exact h.elim
 | cons x r=>induction r using List.casesOn with
  | nil=>exact BoolOp_one (Z.e X D h hQ)
  | cons y rest=>induction op using BoolOp.casesOn with
   | And =>
    refine BoolOp_and (Z.e X D h fun F' ρ' m' led' h' t' v z S' x' D' hv hp=>?_)
    obtain ⟨b,hb,hp⟩:=ac hp
    refine jp D' hv hb fun t=>?_
    rcases az hp with ⟨rfl,hp⟩ | ⟨rfl,hp⟩
    ·exact Z.e X (D'.tok t) hp (hQ.on x')
    ·exact (hQ.on (h':=h') (t':=t') x').tok D' hv hp t
   | Or =>
    refine BoolOp_or (Z.e X D h fun F' ρ' m' led' h' t' v z S' x' D' hv hp=>?_)
    obtain ⟨b,hb,hp⟩:=ac hp
    refine jp D' hv hb fun t=>?_
    rcases az hp with ⟨rfl,hp⟩ | ⟨rfl,hp⟩
    ·exact (hQ.on (h':=h') (t':=t') x').tok D' hv hp t
    ·exact Z.e X (D'.tok t) hp (hQ.on x')
theorem Gk (Z:Snd T w K lz mn mg mb r) (X:Sx T w K lz mn mg mb e env g A) (D:Dx T w e env g U m led F S σ) {t a b:Expr} {pos:Pos} {P:V->St->Prop} (h:evE False O r e (.IfExp t a b pos) S P) {Q:Value->Shared->Prop}
  (hQ:PostE T w e env g F U S.n σ P Q):wpAny (model PG w) A (eval (.IfExp t a b pos) env) Q E σ:=by
 refine IfExp_ (Z.t X D h fun F' ρ' m' led' h' t' c S' x' D' hp=>?_)
 rcases az hp with ⟨rfl,hp⟩ | ⟨rfl,hp⟩
 ·exact Z.e X D' hp (hQ.on x')
 ·exact Z.e X D' hp (hQ.on x')
noncomputable def Kl (r:H Prop) (e:En) (env:Env) (x:Expr) (S:St) (P:Bool->St->Prop):Prop :=
 (isTrue x env (eval x env)=(do let v ← eval x env;standAt x.pos;holding [v] (truthy v))/\r.e e x S fun v s=>opt False (truth v s) fun b=>P b s)\/(∃ y p,x = .UnaryOp .Not y p)\/(∃ op xs p,x = .BoolOp op xs p)\/(∃ t a b p,x = .IfExp t a b p) \/ ∃ l ops rs p,x = .Compare l ops rs p
theorem mj {x:Expr} {P:Bool->St->Prop} (he:isTrue x env (eval x env)=(do let v ← eval x env;standAt x.pos;holding [v] (truthy v))) (h:r.e e x S fun v s=>opt False (truth v s) fun b=>P b s):Kl r e env x S P:=.inl ⟨he,h⟩
theorem A3 {x:Expr} {P:Bool->St->Prop} (h:evT False r e x S P):Kl r e env x S P:=by
 induction x using Expr.casesOn with
 | UnaryOp op y p =>
  induction op using UnaryOp.casesOn with
  | Not=>exact .inr (.inl ⟨y,p,rfl⟩)
  | _=>exact mj rfl h
 | BoolOp op xs p=>exact .inr (.inr (.inl ⟨op,xs,p,rfl⟩))
 | IfExp t a b p=>exact .inr (.inr (.inr (.inl ⟨t,a,b,p,rfl⟩)))
 | Compare l ops rs p=>exact .inr (.inr (.inr (.inr ⟨l,ops,rs,p,rfl⟩)))
 | _=>exact mj rfl h
theorem A4 (Z:Snd T w K lz mn mg mb r) (X:Sx T w K lz mn mg mb e env g A) (D:Dx T w e env g U m led F S σ) {op:BoolOp} {xs:List Expr} {p:Pos} {P:Bool->St->Prop} (h:evT False r e (.BoolOp op xs p) S P) {Q:Bool->Shared->Prop}
  (hQ:PostB T w e env g F U S.n σ P Q) {whole:Sem Value}:wpAny (model PG w) A (isTrue (.BoolOp op xs p) env whole) Q E σ:=by
 induction xs using List.casesOn with
 | nil =>
  induction op using BoolOp.casesOn with
  | And=>exact isTrue_and_nil (hQ F U m led σ.heap σ.toks true S (Ext.refl _ _ _) D h)
  | Or=>exact isTrue_or_nil (hQ F U m led σ.heap σ.toks false S (Ext.refl _ _ _) D h)
 | cons y rest =>
  induction op using BoolOp.casesOn with
  | And =>
   refine isTrue_and (Z.t X D h fun F' ρ' m' led' h' t' b S' x' D' hp=>?_)
   rcases az hp with ⟨rfl,hp⟩ | ⟨rfl,hp⟩
   ·exact Z.t X D' hp (hQ.on x')
   ·exact hQ F' ρ' m' led' h' t' false S' x' D' hp
  | Or =>
   refine isTrue_or (Z.t X D h fun F' ρ' m' led' h' t' b S' x' D' hp=>?_)
   rcases az hp with ⟨rfl,hp⟩ | ⟨rfl,hp⟩
   ·exact hQ F' ρ' m' led' h' t' true S' x' D' hp
   ·exact Z.t X D' hp (hQ.on x')
theorem L3 (Z:Snd T w K lz mn mg mb r) (X:Sx T w K lz mn mg mb e env g A) (D:Dx T w e env g U m led F S σ) {x:Expr} {P:Bool->St->Prop} (h:evT False r e x S P) {Q:Bool->Shared->Prop}
  (hQ:PostB T w e env g F U S.n σ P Q) (hcmp:∀ l ops rs p,x = .Compare l ops rs p->wpAny (model PG w) A (isTrue x env (eval x env)) Q E σ):wpAny (model PG w) A (isTrue x env (eval x env)) Q E σ:=by
 rcases A3 (env:=env) h with ⟨he,h⟩ | ⟨y,p,rfl⟩ | ⟨op,xs,p,rfl⟩ | ⟨t,a,b,p,rfl⟩ | ⟨l,ops,rs,p,q⟩
 ·refine isTrue_plain (Z.e X D h fun F' ρ' m' led' h' t' v z S' x' D' hv hp=>?_) he
  obtain ⟨b,hb,hp⟩:=ac hp
  exact jp D' hv hb fun t=>hQ F' ρ' m' led' h' t b S' x' (D'.tok t) hp
 ·exact isTrue_not (Z.t X D h fun F' ρ' m' led' h' t' b S' x' D' hp=>hQ F' ρ' m' led' h' t' _ S' x' D' hp)
 ·exact A4 Z X D h hQ
 ·refine ql (Z.t X D h fun F' ρ' m' led' h' t' c S' x' D' hp=>?_)
  rcases az hp with ⟨rfl,hp⟩ | ⟨rfl,hp⟩
  ·exact Z.t X D' hp (hQ.on x')
  ·exact Z.t X D' hp (hQ.on x')
 ·exact hcmp l ops rs p q
end
end Mine
end
section
open PySem PySem.W PySem.Spec PySem.Calls PyProof.Rows PySem.SeqAt
set_option tactic.hygienic false
namespace Mine
section
variable {T:Pl} {F:Led} {A:Around} {s:Shared}
theorem td (a b:Str):(a == b)=seq a b:=by
 induction h:seq a b using Bool.casesOn with
 | true=>rw [seq_iff.mp h];simp
 | false=>exact beq_eq_false_iff_ne.mpr (jc h)
theorem A5 (a b:Int):(a == b)=decide (a=b):=by
 by_cases h:a=b <;> simp [h]
theorem j5 {α:Type} [BEq α] [LawfulBEq α] (a c:α):(c == a)=(a == c):=by
 by_cases q:a=c
 ·rw [q]
 ·rw [beq_eq_false_iff_ne.mpr q,beq_eq_false_iff_ne.mpr (Ne.symm q)]
inductive EqV:P->P->Bool->Prop
 | nn:EqV .none .none true
 | bb (a b:Bool):EqV (.bool a) (.bool b) (a == b)
 | ii (a b:Int):EqV (.int a) (.int b) (a == b)
 | ss (a b:Str):EqV (.str a) (.str b) (a == b)
 | ni (b:Int):EqV .none (.int b) false
 | ns (b:Str):EqV .none (.str b) false
 | in (a:Int):EqV (.int a) .none false
 | sn (a:Str):EqV (.str a) .none false
 | is (a:Int) (b:Str):EqV (.int a) (.str b) false
 | si (a:Str) (b:Int):EqV (.str a) (.int b) false
noncomputable def bzw (x y:P):Option Bool->Prop
 | some b=>EqV x y b
 | none=>True
theorem L4 (x y:P):bzw x y (eqV x y):=by
 induction x using P.casesOn with
 | none=>induction y using P.casesOn with
  | none=>exact .nn
  | int=>exact .ni _
  | str=>exact .ns _
  | _=>trivial
 | bool=>induction y using P.casesOn with
  | bool=>exact .bb _ _
  | _=>trivial
 | int a=>induction y using P.casesOn with
  | none=>exact .in _
  | int b=>show EqV _ _ (decide (a=b));rw [← A5];exact .ii _ _
  | str=>exact .is _ _
  | _=>trivial
 | str a=>induction y using P.casesOn with
  | none=>exact .sn _
  | int b=>exact .si _ _
  | str b=>show EqV _ _ (seq a b);rw [← td];exact .ss _ _
  | _=>trivial
 | _=>trivial
theorem n8 {x y:P} {b:Bool} (h:eqV x y=some b):EqV x y b:=by
 have:=L4 x y
 rw [h] at this;exact this
theorem ml {x y:P} {v u:Value} {b:Bool} (hx:PR T F x v) (hy:PR T F y u) (h:eqV x y=some b):RcAt A s v u b/\RcNeAt A s v u (!b)/\EqAt A s v u b:=by
 have hx:=hx.inv
 have hy:=hy.inv
 cases n8 h with
 | nn=>subst hx;subst hy;exact ⟨.none_none,.none_none,.same _⟩
 | bb=>subst hx;subst hy;exact ⟨.bool_bool _ _,.bool_bool _ _,.bool_bool _ _⟩
 | ii=>obtain ⟨_,rfl⟩:=hx;obtain ⟨_,rfl⟩:=hy;exact ⟨.int_int _ _ _ _,.int_int _ _ _ _,.int_int _ _ _ _⟩
 | ss=>obtain ⟨_,rfl⟩:=hx;obtain ⟨_,rfl⟩:=hy;exact ⟨.str_str _ _ _ _,.str_str _ _ _ _,.str_str _ _ _ _⟩
 | ni=>subst hx;obtain ⟨_,rfl⟩:=hy;exact ⟨.none_int _ _,.none_int _ _,.none_int _ _⟩
 | ns=>subst hx;obtain ⟨_,rfl⟩:=hy;exact ⟨.none_str _ _,.none_str _ _,.none_str _ _⟩
 | «in» => subst hy;obtain ⟨_,rfl⟩:=hx;exact ⟨.int_none _ _,.int_none _ _,.int_none _ _⟩
 | sn=>subst hy;obtain ⟨_,rfl⟩:=hx;exact ⟨.str_none _ _,.str_none _ _,.str_none _ _⟩
 | is=>obtain ⟨_,rfl⟩:=hx;obtain ⟨_,rfl⟩:=hy;exact ⟨.int_str _ _ _ _,.int_str _ _ _ _,.int_str _ _ _ _⟩
 | si=>obtain ⟨_,rfl⟩:=hx;obtain ⟨_,rfl⟩:=hy;exact ⟨.str_int _ _ _ _,.str_int _ _ _ _,.str_int _ _ _ _⟩
noncomputable def Rk:Value->P
 | .bool b=>.bool b
 | .int i _=>.int i
 | .str x _=>.str x
 | _=>.none
theorem jq {x y:P} {v:Value} {b:Bool} (hx:PR T F x v) (h:eqV x y=some b):x=Rk v:=by
 have hx:=hx.inv
 cases n8 h with
 | nn=>subst hx;rfl
 | ni=>subst hx;rfl
 | ns=>subst hx;rfl
 | bb=>subst hx;rfl
 | ii=>obtain ⟨_,rfl⟩:=hx;rfl
 | «in» => obtain ⟨_,rfl⟩:=hx;rfl
 | is=>obtain ⟨_,rfl⟩:=hx;rfl
 | ss=>obtain ⟨_,rfl⟩:=hx;rfl
 | sn=>obtain ⟨_,rfl⟩:=hx;rfl
 | si=>obtain ⟨_,rfl⟩:=hx;rfl
theorem gq {x y:P} {b:Bool} (h:eqV x y=some b):eqV y x=some b:=by
 cases n8 h with
 | bb a c=>induction a using Bool.casesOn <;> induction c using Bool.casesOn <;> rfl
 | ii a c=>exact congrArg some ((A5 c a).symm.trans (j5 a c))
 | ss a c=>exact congrArg some ((td c a).symm.trans (j5 a c))
 | _=>rfl
theorem Gl {x:P} {b:Bool} (h:eqV x x=some b):b=true:=by
 induction x using P.casesOn with
 | none=>exact (Option.some.inj h).symm
 | bool=>exact (Option.some.inj h).symm.trans (beq_self_eq_true _)
 | int=>exact (Option.some.inj h).symm.trans (decide_eq_true rfl)
 | str=>exact (Option.some.inj h).symm.trans (d6 _)
 | _=>exact (by contradiction)
theorem n9 {x y:P} {v:Value} {b:Bool} (hx:PR T F x v) (hy:PR T F y v) (h:eqV x y=some b):b=true:=by
 have e1:=jq hx h
 have e2:=jq hy (gq h)
 rw [e1,e2] at h
 exact Gl h
theorem jr {f:P->P->Option Bool} {x y:P} {xs ys:List P} {b:Bool} (h:eqL f (x::xs) (y::ys)=some b):∃ p q,f x y=some p/\eqL f xs ys=some q/\b=(p&&q):=by
 have h:(match f x y,eqL f xs ys with | some p,some q=>some (p&&q) | _,_=>none)=some b:=h
 induction hp:f x y using Option.casesOn with
 | none=>rw [hp] at h;injection h
 | some p =>
  induction hq:eqL f xs ys using Option.casesOn with
  | none=>rw [hp,hq] at h;injection h
  | some q=>rw [hp,hq] at h; (injection h with h;subst h);exact ⟨p,q,rfl,rfl,rfl⟩
theorem Km {f:P->P->Option Bool} {R:Value->Value->Bool->Prop} (base:∀ x y v u b,PR T F x v->PR T F y u->f x y=some b->R v u b) {xs ys:List P} {vs us:List Value} {b:Bool}
  (hxs:Each (PR T F) xs vs) (hys:Each (PR T F) ys us) (hl:xs.length=ys.length) (h:eqL f xs ys=some b):∃ e:Nat->Bool,(∀ j (h1:j<vs.length) (h2:j<us.length),R vs[j] us[j] (e j))/\(List.range vs.length).all e=b:=by
 induction hxs generalizing ys us b with
 | nil =>
  cases hys with
  | nil=>(injection h with h;subst h);exact ⟨fun _=>true,(fun j h1=>absurd h1 (Nat.not_lt_zero _)),rfl⟩
  | cons=>injection h;exact absurd hl (by simp)
 | cons hx _ ih =>
  cases hys with
  | nil=>exact absurd hl (by simp)
  | cons hy hys =>
   obtain ⟨p,q,hp,hq,rfl⟩:=jr h
   obtain ⟨e,he,ha⟩:=ih hys (Nat.succ.inj hl) hq
   refine ⟨fun j=>match j with | 0=>p | j+1=>e j,fun j h1 h2=>?_,?_⟩
   ·induction j using Nat.casesAuxOn with
    | zero=>exact base _ _ _ _ _ hx hy hp
    | succ j=>exact he j (Nat.lt_of_succ_lt_succ h1) (Nat.lt_of_succ_lt_succ h2)
   ·rw [List.length_cons,List.range_succ_eq_map,List.all_cons,List.all_map, ← ha];rfl
theorem wc {f:P->P->Option Bool} (base:∀ x y v b,PR T F x v->PR T F y v->f x y=some b->b=true) {xs ys:List P} {vs:List Value} {b:Bool}
  (hxs:Each (PR T F) xs vs) (hys:Each (PR T F) ys vs) (h:eqL f xs ys=some b):b=true:=by
 induction hxs generalizing ys b with
 | nil=>cases hys; (injection h with h;subst h);rfl
 | cons hx _ ih =>
  cases hys with
  | cons hy hys =>
   obtain ⟨p,q,hp,hq,rfl⟩:=jr h
   rw [base _ _ _ _ hx hy hp,ih hys hq];rfl
end
end Mine
end
section
open PySem PySem.W PySem.Spec PySem.Calls PyProof.Rows PySem.SeqAt
open AutoSeq1 (wpAny_loadPart')
open MeetsSeq MeetsSeq2 MeetsSeq3 SeqRoads2
set_option tactic.hygienic false
namespace Mine
noncomputable def te (op:CmpOp) (A:Around) (s:Shared) (y x:Value) (b:Bool):Prop :=
 ∀ (prog:Program) (w:World) (E:Value->Shared->Prop) (Q:Value->Shared->Prop),Q (.bool b) s->wpAny (model prog w) A (richCompare op y x) Q E s
noncomputable def Gm (op:CmpOp) (A:Around) (s:Shared) (fin r:Bool):List (Value×Value)->Prop
 | []=>fin=r
 | p::rest=>(EqAt A s p.1 p.2 true/\Gm op A s fin r rest)\/(EqAt A s p.1 p.2 false/\te op A s p.1 p.2 r)
theorem yd (l b:Addr) (items items2:Array Value) (n n2:Nat) (dd dd2:Option Addr) (sl sl2:Array (Option Value)) (r:Bool) :
  Meets (Builtin.«tuple.__lt__» ⟨[.ref l,.ref b],[]⟩)
   (fun A R s=>s.heap.get? l=some { cls:=.type "tuple",dict:=dd,data:=.seq items n,slots:=sl }/\s.heap.get? b=some { cls:=.type "tuple",dict:=dd2,data:=.seq items2 n2,slots:=sl2 } /\
    Gm .Lt A.in1 s (decide (items.size<items2.size)) r (items.toList.zip items2.toList) /\
    R (.ok (.ret (.bool r))) s) :=
 .of_wp fun prog w A R s h=>by
  obtain ⟨hp,g,d,tk,os⟩:=s;obtain ⟨hl,hb,he,h⟩:=h
  have f2:=AutoSeq1.sub_tuple_tuple
  wp_walk using wpAny_loadPart' hl,wpAny_loadPart' hb,wpAny_forIn_list _ (fun rest b s'=>b.1=none/\s'=⟨hp,g,d,tk,os⟩/\Gm .Lt A.in1 ⟨hp,g,d,tk,os⟩ (decide (items.size<items2.size)) r rest /\
   R (.ok (.ret (.bool r))) ⟨hp,g,d,tk,os⟩) _
  case turn =>
   rintro ⟨y,x⟩ rest b s' ⟨hb',rfl,hz,hR⟩
   rcases hz with ⟨he,hz⟩ | ⟨he,hc⟩
   ·refine wpAny_bind (he prog w _ _ ?_)
    wp_walk
    exact ⟨rfl,rfl,hz,hR⟩
   ·refine wpAny_bind (he prog w _ _ ?_)
    refine wpAny_bind (wpAny_rule (wpAny_bind (hc prog w _ _ ?_)))
    wp_walk
    exact ⟨_,rfl,hR⟩
  case fin =>
   rintro ⟨b1,b2⟩ s' ⟨hb',rfl,hz,hR⟩
   simp only at hb'
   subst hb'
   have hz:decide (items.size<items2.size)=r:=hz
   wp_walk
   exact ⟨_,rfl,by simpa [Builtin.Tuple.tupleCompareSizes,hz] using hR⟩
  case h =>
   exact ⟨rfl,rfl,he,h⟩
theorem A6 {prog:Program} {w:World} {A:Around} {E:Value->Shared->Prop} {s:Shared} {l b:Addr} {items items2:Array Value} {r:Bool} {Q:Value->Shared->Prop} (hl:s.heap.IsTuple l items) (hb:s.heap.IsTuple b items2) (hu:A.units<cLine)
  (he:Gm .Lt A.in1 s (decide (items.size<items2.size)) r (items.toList.zip items2.toList)) (h:Q (.bool r) s):wpAny (model prog w) A (compareOp .Lt (.ref l) (.ref b)) Q E s:=by
 obtain ⟨⟨cls,dd,data,sl⟩,ho,hc,n,hd⟩:=id hl
 obtain ⟨⟨cls2,dd2,data2,sl2⟩,ho2,hc2,n2,hd2⟩:=id hb
 simp only at hc hd hc2 hd2
 subst hc hd hc2 hd2
 exact richCompare_meets_room (op:=.Lt) ⟨_,ho,rfl⟩ ⟨_,ho2,rfl⟩ F.slot_tuple_lt F.entry_tuple_lt (F.args_tuple_lt_2 _ _) (yd l b items items2 n n2 dd dd2 sl sl2 r)
  ⟨ho,ho2,he,show Value.bool r≠Value.notImplemented/\Q (.bool r) s from ⟨(fun x=>(by contradiction)),h⟩⟩ hu
theorem ye (l b:Addr) (items items2:Array Value) (n n2:Nat) (dd dd2:Option Addr) (sl sl2:Array (Option Value)) (r:Bool) :
  Meets (Builtin.«tuple.__gt__» ⟨[.ref l,.ref b],[]⟩)
   (fun A R s=>s.heap.get? l=some { cls:=.type "tuple",dict:=dd,data:=.seq items n,slots:=sl }/\s.heap.get? b=some { cls:=.type "tuple",dict:=dd2,data:=.seq items2 n2,slots:=sl2 } /\
    Gm .Gt A.in1 s (decide (items.size > items2.size)) r (items.toList.zip items2.toList) /\
    R (.ok (.ret (.bool r))) s) :=
 .of_wp fun prog w A R s h=>by
  obtain ⟨hp,g,d,tk,os⟩:=s;obtain ⟨hl,hb,he,h⟩:=h
  have f2:=AutoSeq1.sub_tuple_tuple
  wp_walk using wpAny_loadPart' hl,wpAny_loadPart' hb,wpAny_forIn_list _ (fun rest b s'=>b.1=none/\s'=⟨hp,g,d,tk,os⟩/\Gm .Gt A.in1 ⟨hp,g,d,tk,os⟩ (decide (items.size > items2.size)) r rest /\
   R (.ok (.ret (.bool r))) ⟨hp,g,d,tk,os⟩) _
  case turn =>
   rintro ⟨y,x⟩ rest b s' ⟨hb',rfl,hz,hR⟩
   rcases hz with ⟨he,hz⟩ | ⟨he,hc⟩
   ·refine wpAny_bind (he prog w _ _ ?_)
    wp_walk
    exact ⟨rfl,rfl,hz,hR⟩
   ·refine wpAny_bind (he prog w _ _ ?_)
    refine wpAny_bind (wpAny_rule (wpAny_bind (hc prog w _ _ ?_)))
    wp_walk
    exact ⟨_,rfl,hR⟩
  case fin =>
   rintro ⟨b1,b2⟩ s' ⟨hb',rfl,hz,hR⟩
   simp only at hb'
   subst hb'
   have hz:decide (items.size > items2.size)=r:=hz
   wp_walk
   exact ⟨_,rfl,by simpa [Builtin.Tuple.tupleCompareSizes,hz] using hR⟩
  case h =>
   exact ⟨rfl,rfl,he,h⟩
theorem A7 {prog:Program} {w:World} {A:Around} {E:Value->Shared->Prop} {s:Shared} {l b:Addr} {items items2:Array Value} {r:Bool} {Q:Value->Shared->Prop} (hl:s.heap.IsTuple l items) (hb:s.heap.IsTuple b items2) (hu:A.units<cLine)
  (he:Gm .Gt A.in1 s (decide (items.size > items2.size)) r (items.toList.zip items2.toList)) (h:Q (.bool r) s):wpAny (model prog w) A (compareOp .Gt (.ref l) (.ref b)) Q E s:=by
 obtain ⟨⟨cls,dd,data,sl⟩,ho,hc,n,hd⟩:=id hl
 obtain ⟨⟨cls2,dd2,data2,sl2⟩,ho2,hc2,n2,hd2⟩:=id hb
 simp only at hc hd hc2 hd2
 subst hc hd hc2 hd2
 exact richCompare_meets_room (op:=.Gt) ⟨_,ho,rfl⟩ ⟨_,ho2,rfl⟩ F.slot_tuple_gt F.entry_tuple_gt (F.args_tuple_gt_2 _ _) (ye l b items items2 n n2 dd dd2 sl sl2 r)
  ⟨ho,ho2,he,show Value.bool r≠Value.notImplemented/\Q (.bool r) s from ⟨(fun x=>(by contradiction)),h⟩⟩ hu
end Mine
end
section
open PySem PySem.W PySem.Spec PySem.Calls PyProof.Rows PySem.SeqAt
set_option tactic.hygienic false
namespace Mine
section
variable {T:Pl} {F:Led} {A:Around} {s:Shared}
theorem L5 {n m:Nat} (h:n=m) (e:Nat->Bool):((List.range (min n m)).all e&&n == m)=(List.range n).all e:=by
 subst h;simp
theorem PRs.len {xs:List P} {vs:List Value} (h:PRs T F xs vs):xs.length=vs.length:=h.each.length
noncomputable def bzx (f g:P->P->Option Bool) (k:List P->P) (x y:P) (b:Bool):Prop:=(∃ l m,x=k l/\y=k m/\l.length=m.length/\eqL f l m=some b)\/g x y=some b
theorem gr {x y:P} {b:Bool} (h:eqT x y=some b):bzx eqV eqV .tup x y b:=by
 induction x using P.casesOn with
 | tup l =>
  induction y using P.casesOn with
  | tup m =>
   have h:(match Nat.beq l.length m.length with | true=>eqL eqV l m | false=>none)=some b:=h
   induction hn:Nat.beq l.length m.length using Bool.casesOn with
   | true=>rw [hn] at h;exact .inl ⟨_,_,rfl,rfl,Nat.eq_of_beq_eq_true hn,h⟩
   | false=>rw [hn] at h;injection h
  | _=>exact .inr h
 | _=>exact .inr h
theorem th {xs ys:List Value} (h:qk xs=qk ys):xs=ys:=by
 have h:=congrArg Obj.data h
 injection h with h
 injection h
theorem A8 {x y:P} {v u:Value} {b:Bool} (hF:∀ a o,(a,o)∈F->s.heap.get? a=some o) (hu:A.units+2<cLine) (hx:PR T F x v) (hy:PR T F y u) (h:eqT x y=some b):RcAt A s v u b/\RcNeAt A s v u (!b)/\EqAt A s v u b:=by
 rcases gr h with ⟨xs,ys,rfl,rfl,hn,h⟩ | h
 ·obtain ⟨vs,a,rfl,hm,hr,hl⟩:=hx.inv
  obtain ⟨us,c,rfl,hm',hr',hl'⟩:=hy.inv
  obtain ⟨e,he,ha⟩:=Km (R:=fun v u b=>EqAt A.in1 s v u b) (fun x y v u b hx hy hb=>(ml (A:=A.in1) (s:=s) hx hy hb).2.2) hr.each hr'.each hn h
  have t1:s.heap.IsTuple a vs.toArray:=⟨_,hF _ _ hm,rfl,_,rfl⟩
  have t2:s.heap.IsTuple c us.toArray:=⟨_,hF _ _ hm',rfl,_,rfl⟩
  have hsz:vs.toArray.size=us.toArray.size:=by rw [List.size_toArray,List.size_toArray, ← hr.len, ← hr'.len,hn]
  have key:((List.range (min vs.toArray.size us.toArray.size)).all e&&vs.toArray.size == us.toArray.size)=b:=by
   rw [L5 hsz,List.size_toArray];exact ha
  have he':∀ j (h1:j<vs.toArray.size) (h2:j<us.toArray.size),EqAt A.in1 s vs.toArray[j] us.toArray[j] (e j):=fun j h1 h2=>he j h1 h2
  have r1:=RcAt.tuples t1 t2 (by exact Nat.le_of_lt (Nat.lt_of_succ_lt hu)) he'
  have r2:=RcNeAt.tuples t1 t2 (by exact Nat.le_of_lt (Nat.lt_of_succ_lt hu)) he'
  rw [key] at r1 r2
  refine ⟨r1,r2,?_⟩
  by_cases q:a=c
  ·subst q
   obtain rfl:=th (Option.some.inj ((hF _ _ hm).symm.trans (hF _ _ hm')))
   rw [wc (fun x y v b hx hy h=>n9 hx hy h) hr.each hr'.each h]
   exact EqAt.same _
  ·exact EqAt.of_refs q r1
 ·exact ml hx hy h
theorem Uo {x y:P} {v:Value} {b:Bool} (hF:∀ a o,(a,o)∈F->s.heap.get? a=some o) (hx:PR T F x v) (hy:PR T F y v) (h:eqT x y=some b):b=true:=by
 rcases gr h with ⟨xs,ys,rfl,rfl,hn,h⟩ | h
 ·obtain ⟨vs,a,rfl,hm,hr,hl⟩:=hx.inv
  obtain ⟨us,c,e,hm',hr',hl'⟩:=hy.inv
  cases e
  cases th (Option.some.inj ((hF _ _ hm).symm.trans (hF _ _ hm')))
  exact wc (fun x y v b hx hy h=>n9 hx hy h) hr.each hr'.each h
 ·exact n9 hx hy h
theorem yf {x y:P} {b:Bool} (h:du x y=some b):(∃ l m,x = .lst l/\y = .lst m/\((l.length=m.length/\eqL eqT l m=some b)\/(l.length≠m.length/\b=false)))\/eqT x y=some b:=by
 induction x using P.casesOn with
 | lst l =>
  induction y using P.casesOn with
  | lst m =>
   have h:(match Nat.beq l.length m.length with | true=>eqL eqT l m | false=>some false)=some b:=h
   induction hn:Nat.beq l.length m.length using Bool.casesOn with
   | true=>rw [hn] at h;exact .inl ⟨_,_,rfl,rfl,.inl ⟨Nat.eq_of_beq_eq_true hn,h⟩⟩
   | false=>rw [hn] at h;exact .inl ⟨_,_,rfl,rfl,.inr ⟨Nat.ne_of_beq_eq_false hn,(Option.some.inj h).symm⟩⟩
  | _=>exact .inr h
 | _=>exact .inr h
theorem we {x y:P} {v u:Value} {b:Bool} (hF:∀ a o,(a,o)∈F->s.heap.get? a=some o) (hu:A.units+4<cLine) (hx:PR T F x v) (hy:PR T F y u) (h:du x y=some b):RcAt A s v u b/\RcNeAt A s v u (!b):=by
 rcases yf h with ⟨xs,ys,rfl,rfl,h2⟩ | h
 ·obtain ⟨vs,a,n,rfl,hm,hr,hl⟩:=hx.inv
  obtain ⟨us,c,n',rfl,hm',hr',hl'⟩:=hy.inv
  have t1:s.heap.IsList a vs.toArray:=⟨_,hF _ _ hm,rfl,_,rfl⟩
  have t2:s.heap.IsList c us.toArray:=⟨_,hF _ _ hm',rfl,_,rfl⟩
  rcases h2 with ⟨hn,h⟩ | ⟨hn,rfl⟩
  ·obtain ⟨e,he,ha⟩:=Km (R:=fun v u b=>EqAt A.in1 s v u b) (fun x y v u b hx hy hb=>(A8 (A:=A.in1) (s:=s) hF (show A.units+1+2<cLine by exact Nat.le_of_lt hu) hx hy hb).2.2) hr.each hr'.each hn h
   have hsz:vs.toArray.size=us.toArray.size:=by rw [List.size_toArray,List.size_toArray, ← hr.len, ← hr'.len,hn]
   have he':∀ j (h1:j<vs.toArray.size) (h2:j<us.toArray.size),EqAt A.in1 s vs.toArray[j] us.toArray[j] (e j):=fun j h1 h2=>he j h1 h2
   have r1:=RcAt.lists t1 t2 hsz (by exact Nat.lt_of_le_of_lt (Nat.le_add_right _ _) hu) he'
   have r2:=RcNeAt.lists t1 t2 hsz (by exact Nat.lt_of_le_of_lt (Nat.le_add_right _ _) hu) he'
   rw [List.size_toArray,ha] at r1 r2
   exact ⟨r1,r2⟩
  ·have hsz:(vs.toArray.size != us.toArray.size)=true:=by
    rw [List.size_toArray,List.size_toArray, ← hr.len, ← hr'.len];exact bne_iff_ne.mpr hn
   exact ⟨RcAt.lists_lengths t1 t2 hsz (by exact Nat.lt_of_le_of_lt (Nat.le_add_right _ _) hu),RcNeAt.lists_lengths t1 t2 hsz (by exact Nat.lt_of_le_of_lt (Nat.le_add_right _ _) hu)⟩
 ·have:=A8 (A:=A) (s:=s) hF (by exact tlt hu rfl) hx hy h
  exact ⟨this.1,this.2.1⟩
theorem A9 {x x' y:P} {v:Value} {b b':Bool} (hx:PR T F x v) (hx':PR T F x' v) (h:eqV x y=some b) (h':eqV x' y=some b'):b=b':=by
 rw [jq hx h] at h
 rw [jq hx' h',h] at h'
 exact Option.some.inj h'
theorem L6 {xs xs' ys:List P} {vs:List Value} {b b':Bool} (hx:Each (PR T F) xs vs) (hx':Each (PR T F) xs' vs) (h:eqL eqV xs ys=some b) (h':eqL eqV xs' ys=some b'):b=b':=by
 induction hx generalizing xs' ys b b' with
 | nil=>cases hx';exact Option.some.inj (h ▸ h')
 | cons hx _ ih =>
  cases hx' with
  | cons hx' hxs' =>
   induction ys using List.casesOn with
   | nil=>(injection h with h;subst h);cases h';rfl
   | cons y ys =>
    obtain ⟨p,q,hp,hq,rfl⟩:=jr h
    obtain ⟨p',q',hp',hq',rfl⟩:=jr h'
    rw [A9 hx hx' hp hp',ih hxs' hq hq']
theorem Ba {x x' y:P} {v:Value} {b b':Bool} (hF:∀ a o,(a,o)∈F->s.heap.get? a=some o) (hx:PR T F x v) (hx':PR T F x' v) (h:eqT x y=some b) (h':eqT x' y=some b'):b=b':=by
 rcases gr h with ⟨xs,ys,rfl,rfl,hn,h⟩ | h
 ·rcases gr h' with ⟨xs',ys',rfl,e,hn',h'⟩ | h'
  ·(injection e with e;subst e)
   obtain ⟨vs,a,rfl,hm,hr,hl⟩:=hx.inv
   obtain ⟨us,c,e,hm',hr',hl'⟩:=hx'.inv
   cases e
   cases th (Option.some.inj ((hF _ _ hm).symm.trans (hF _ _ hm')))
   exact L6 hr.each hr'.each h h'
  ·exact absurd (gq h') nofun
 ·rcases gr h' with ⟨xs',ys',rfl,rfl,hn',h'⟩ | h'
  ·exact absurd (gq h) nofun
  ·exact A9 hx hx' h h'
theorem Bb {a x:P} {xs:List P} {b:Bool} (h:qe a (x::xs)=some b):∃ p q,eqT x a=some p/\qe a xs=some q/\b=(p||q):=by
 have h:(match eqT x a,qe a xs with | some p,some q=>some (p||q) | _,_=>none)=some b:=h
 induction hp:eqT x a using Option.casesOn with
 | none=>rw [hp] at h;injection h
 | some p =>
  induction hq:qe a xs using Option.casesOn with
  | none=>rw [hp,hq] at h;injection h
  | some q=>rw [hp,hq] at h; (injection h with h;subst h);exact ⟨p,q,rfl,rfl,rfl⟩
theorem L7 {a:P} {u:Value} (hF:∀ a o,(a,o)∈F->s.heap.get? a=some o) (hu:A.units+4<cLine) (ha:PR T F a u) {xs:List P} {vs:List Value} {b:Bool} (hxs:Each (PR T F) xs vs) (h:qe a xs=some b) :
  (∀ y∈vs,∃ x p,x∈xs/\PR T F x y/\eqT x a=some p)/\(b=true ↔ ∃ x y,y∈vs/\PR T F x y/\eqT x a=some true):=by
 induction hxs generalizing b with
 | nil=>(injection h with h;subst h);exact ⟨(fun _ h=>nomatch h),⟨(fun h=>nomatch h),fun ⟨_,_,h,_⟩=>(by contradiction)⟩⟩
 | @cons x v _ _ hx hxs ih =>
  obtain ⟨p,q,hp,hq,rfl⟩:=Bb h
  obtain ⟨h1,h2⟩:=ih hq
  refine ⟨fun y hy=>?_,?_⟩
  ·rcases List.mem_cons.mp hy with e | e
   ·exact ⟨x,p,.head _,e ▸ hx,hp⟩
   ·obtain ⟨x',p',m,r,e'⟩:=h1 y e
    exact ⟨x',p',.tail _ m,r,e'⟩
  ·constructor
   ·intro hb
    induction p using Bool.casesOn with
    | true=>exact ⟨x,v,.head _,hx,hp⟩
    | false =>
     obtain ⟨x',y,m,r,e'⟩:=h2.mp hb
     exact ⟨x',y,.tail _ m,r,e'⟩
   ·rintro ⟨x',y,m,r,e'⟩
    rcases List.mem_cons.mp m with e | e
    ·subst e
     rw [Ba hF hx r hp e'];rfl
    ·rw [h2.mpr ⟨x',y,e,r,e'⟩];exact Bool.or_true _
open Classical in
theorem Bc {a:P} {u:Value} (hF:∀ a o,(a,o)∈F->s.heap.get? a=some o) (hu:A.units+4<cLine) (ha:PR T F a u) {xs:List P} {vs:List Value} {b:Bool} (hx:Each (PR T F) xs vs) (h:qe a xs=some b) :
  ∃ e:Value->Bool,(∀ y,y∈vs.toArray->EqAt A.in1 s y u (e y))/\vs.toArray.any e=b:=by
 obtain ⟨h1,h2⟩:=L7 hF hu ha hx h
 refine ⟨fun y=>decide (∃ x,PR T F x y/\eqT x a=some true),fun y hy=>?_,?_⟩
 ·obtain ⟨x,p,_,r,e⟩:=h1 y (by simpa using hy)
  have:=(A8 (A:=A.in1) (s:=s) hF (show A.units+1+2<cLine by exact Nat.le_of_lt hu) r ha e).2.2
  have hp:decide (∃ x,PR T F x y/\eqT x a=some true)=p:=by
   induction p using Bool.casesOn with
   | true=>exact decide_eq_true ⟨x,r,e⟩
   | false=>exact decide_eq_false fun ⟨x',r',e'⟩=>absurd (Ba hF r r' e e') (by decide)
  show EqAt A.in1 s y u (decide (∃ x,PR T F x y/\eqT x a=some true))
  rw [hp];exact this
 ·induction b using Bool.casesOn with
  | true =>
   obtain ⟨x,y,m,r,e⟩:=h2.mp rfl
   rw [← Array.any_toList,List.any_eq_true]
   exact ⟨y,m,decide_eq_true ⟨x,r,e⟩⟩
  | false =>
   rw [← Array.any_toList,List.any_eq_false]
   intro y hy hh
   obtain ⟨x,r,e⟩:=of_decide_eq_true hh
   exact absurd (h2.mpr ⟨x,y,hy,r,e⟩) (by decide)
end
end Mine
end
section
open PySem PySem.W PySem.Spec PySem.Calls PyProof.Rows PySem.SeqAt
namespace Mine
section
variable {T:Pl} {F:Led} {A:Around} {s:Shared}
noncomputable def bzy (x y:P) (b:Bool):Prop:=(∃ i j,x = .int i/\y = .int j/\b=decide (i<j)) \/ ∃ s t:Str,x = .str s/\y = .str t/\b=decide (s.cps.toList<t.cps.toList)
theorem Gn {x y:P} {b:Bool} (h:ltV x y=some b):bzy x y b:=by
 induction x using P.casesOn with
 | int i=>induction y using P.casesOn with
  | int j=>exact .inl ⟨_,_,rfl,rfl,(Option.some.inj h).symm⟩
  | _=>exact (by contradiction)
 | str i=>induction y using P.casesOn with
  | str j=>exact .inr ⟨_,_,rfl,rfl,(Option.some.inj h).symm⟩
  | _=>exact (by contradiction)
 | _=>exact (by contradiction)
theorem Be {x y:P} {v u:Value} {b:Bool} (hx:PR T F x v) (hy:PR T F y u) (h:ltV x y=some b):te .Lt A s v u b/\te .Gt A s u v b:=by
 rcases Gn h with ⟨i,j,rfl,rfl,rfl⟩ | ⟨i,j,rfl,rfl,rfl⟩
 ·obtain ⟨_,rfl⟩:=hx.inv;obtain ⟨_,rfl⟩:=hy.inv
  exact ⟨fun prog w E Q hq=>P.lt_int hq,fun prog w E Q hq=>P.gt_int hq⟩
 ·obtain ⟨_,rfl⟩:=hx.inv;obtain ⟨_,rfl⟩:=hy.inv
  exact ⟨fun prog w E Q hq=>P.lt_str hq,fun prog w E Q hq=>P.gt_str hq⟩
theorem Gp {x y:P} {b:Bool} (h:leV x y=some b):∃ i j,x = .int i/\y = .int j/\b=decide (i<=j):=by
 induction x using P.casesOn with
 | int i=>induction y using P.casesOn with
  | int j=>exact ⟨_,_,rfl,rfl,(Option.some.inj h).symm⟩
  | _=>exact (by contradiction)
 | _=>exact (by contradiction)
theorem Kn {x y:P} {v u:Value} {b:Bool} (hx:PR T F x v) (hy:PR T F y u) (h:leV x y=some b):te .LtE A s v u b/\te .GtE A s u v b:=by
 obtain ⟨i,j,rfl,rfl,rfl⟩:=Gp h
 obtain ⟨_,rfl⟩:=hx.inv;obtain ⟨_,rfl⟩:=hy.inv
 exact ⟨fun prog w E Q hq=>P.le_int hq,fun prog w E Q hq=>P.ge_int hq⟩
theorem tj {x y:P} {xs ys:List P} {b:Bool} (h:j0 (x::xs) (y::ys)=some b):(eqV x y=some true/\j0 xs ys=some b)\/(eqV x y=some false/\xs.length=ys.length/\ltV x y=some b):=by
 have h:(match eqV x y with | some true=>j0 xs ys | some false=>(match Nat.beq xs.length ys.length with | true=>ltV x y | false=>none) | none=>none)=some b:=h
 induction he:eqV x y using Option.casesOn with
 | none=>rw [he] at h;injection h
 | some c =>
  rw [he] at h
  induction c using Bool.casesOn with
  | true=>exact .inl ⟨rfl,h⟩
  | false =>
   induction hn:Nat.beq xs.length ys.length using Bool.casesOn with
   | true=>rw [hn] at h;exact .inr ⟨rfl,Nat.eq_of_beq_eq_true hn,h⟩
   | false=>rw [hn] at h;injection h
theorem Bf {xs ys:List P} {vs us:List Value} {b:Bool} (hxs:Each (PR T F) xs vs) (hys:Each (PR T F) ys us) (h:j0 xs ys=some b):Gm .Lt A s false b (vs.zip us)/\Gm .Gt A s false b (us.zip vs)/\vs.length=us.length:=by
 induction hxs generalizing ys us with
 | nil =>
  cases hys with
  | nil=>(injection h with h;subst h);exact ⟨rfl,rfl,rfl⟩
  | cons=>injection h
 | cons hx hxs ih =>
  cases hys with
  | nil=>injection h
  | cons hy hys =>
   rw [List.length_cons,List.length_cons]
   rcases tj h with ⟨he,h⟩ | ⟨he,hn,h⟩
   ·obtain ⟨h1,h2,h3⟩:=ih hys h
    exact ⟨.inl ⟨(ml hx hy he).2.2,h1⟩,.inl ⟨(ml hy hx (gq he)).2.2,h2⟩,by rw [h3]⟩
   ·rw [hxs.length,hys.length] at hn
    exact ⟨.inr ⟨(ml hx hy he).2.2,(Be hx hy h).1⟩,.inr ⟨(ml hy hx (gq he)).2.2,(Be hx hy h).2⟩,by rw [hn]⟩
theorem yg {x y:P} {b:Bool} (h:j1 x y=some b):(∃ l m,x = .tup l/\y = .tup m/\j0 l m=some b)\/ltV x y=some b:=by
 induction x using P.casesOn with
 | tup l =>
  induction y using P.casesOn with
  | tup m=>exact .inl ⟨_,_,rfl,rfl,h⟩
  | _=>exact .inr h
 | _=>exact .inr h
theorem wf {x y:P} {v u:Value} {b:Bool} (hF:∀ a o,(a,o)∈F->s.heap.get? a=some o) (hu:A.units+2<cLine) (hx:PR T F x v) (hy:PR T F y u) (h:j1 x y=some b):te .Lt A s v u b/\te .Gt A s u v b:=by
 rcases yg h with ⟨xs,ys,rfl,rfl,h⟩ | h
 ·obtain ⟨vs,a,rfl,hm,hr,_⟩:=hx.inv
  obtain ⟨us,c,rfl,hm',hr',_⟩:=hy.inv
  have t1:s.heap.IsTuple a vs.toArray:=⟨_,hF _ _ hm,rfl,_,rfl⟩
  have t2:s.heap.IsTuple c us.toArray:=⟨_,hF _ _ hm',rfl,_,rfl⟩
  obtain ⟨l1,l2,hl⟩:=Bf (A:=A.in1) (s:=s) hr.each hr'.each h
  have f1:decide (vs.toArray.size<us.toArray.size)=false:=decide_eq_false (by rw [List.size_toArray,List.size_toArray,hl];exact Nat.lt_irrefl _)
  have f2:decide (us.toArray.size > vs.toArray.size)=false:=decide_eq_false (by rw [List.size_toArray,List.size_toArray,hl];exact Nat.lt_irrefl _)
  exact ⟨fun prog w E Q hq=>A6 t1 t2 (by exact Nat.le_of_lt (Nat.lt_of_succ_lt hu)) (r:=b) (f1 ▸ l1) hq,fun prog w E Q hq=>A7 t2 t1 (by exact Nat.le_of_lt (Nat.lt_of_succ_lt hu)) (r:=b) (f2 ▸ l2) hq⟩
 ·exact Be hx hy h
theorem iq {α:Type} {R:α->Value->Prop} {i:Int} {es:List (Int×α)} {kvs:List (Int×Value)} (h:Each (fun p q=>p.1=q.1/\R p.2 q.2) es kvs):(match eh i es with | some p=>∃ v,valueAt kvs i=some v/\R p v | none=>valueAt kvs i=none):=by
 induction h with
 | nil=>rfl
 | @cons p q es kvs h hs ih =>
  show match (match decide (p.1=i) with | true=>some p.2 | false=>eh i es) with | some p=>∃ v,valueAt (q::kvs) i=some v/\R p v | none=>valueAt (q::kvs) i=none
  by_cases e:p.1=i
  ·rw [decide_eq_true e]
   refine ⟨q.2,?_,h.2⟩
   delta valueAt
   rw [List.find?_cons_of_pos (by simp [← h.1,e])];rfl
  ·rw [decide_eq_false e]
   have:valueAt (q::kvs) i=valueAt kvs i:=by
    delta valueAt
    rw [List.find?_cons_of_neg (by simp [← h.1,e])]
   rw [this]
   exact ih
theorem Bg {α:Type} {R:α->Value->Prop} {i:Int} {es:List (Int×α)} {kvs:List (Int×Value)} (h:Each (fun p q=>p.1=q.1/\R p.2 q.2) es kvs):(valueAt kvs i).isSome=(eh i es).isSome:=by
 have:=iq (i:=i) h
 induction e:eh i es using Option.casesOn with
 | none=>rw [e] at this;rw [this];rfl
 | some p =>
  rw [e] at this
  obtain ⟨v,hv,_⟩:=this
  rw [hv];rfl
end
section
variable {T:Pl} {w:World} {K:Frag} {lz:List Str} {mn:ExcName->Option Value} {mg mb:Str->Option Value} {r:H Prop} {O:Known Prop} {e:En} {env:Env} {g:Heap} {A:Around} {F:Led} {U:Nat->Addr} {m:Str->Option Value} {led:Led} {S S':St} {σ:Shared}
 {E:Value->Shared->Prop}
theorem Sx.units_lt (X:Sx T w K lz mn mg mb e env g A):A.units+100<cLine:=by
 have h1:=X.units
 have h2:=X.deep
 show A.units+100<9900
 exact azz h1 h2
theorem Sx.no_sys (X:Sx T w K lz mn mg mb e env g A) {a:Addr} (h:g.get? a=none):(a == sysModules)=false:=by
 obtain ⟨o,ho⟩:=X.tx.sysm
 refine beq_eq_false_iff_ne.mpr fun q=>?_
 subst q
 rw [X.kin _ _ ho] at h
 injection h
noncomputable def az4 (w:World) (A:Around) (E:Value->Shared->Prop) (σ:Shared) (v u:Value) (b:Bool) (Q:Value->Shared->Prop):Prop:=(∀ c t,(c=b->Q (.bool c) { σ with toks:=t })) ->
  wpAny (model PG w) A (compareOp .In v u) Q E σ/\wpAny (model PG w) A (compareOp .NotIn v u) (fun z s=>∃ c,z = .bool (!c)/\Q (.bool c) s) E σ
theorem Gq {x y:P} {b:Bool} (h:inP x y=some b):(∃ n s,y = .top n/\x = .str s/\b=(d5 n).any (seq s))\/(∃ l,y = .lst l/\qe x l=some b) \/ ∃ l,y = .tup l/\qe x l=some b:=by
 induction y using P.casesOn with
 | top n=>induction x using P.casesOn with
  | str s=>exact .inl ⟨_,_,rfl,rfl,(Option.some.inj h).symm⟩
  | _=>exact (by contradiction)
 | lst l=>exact .inr (.inl ⟨_,rfl,h⟩)
 | tup l=>exact .inr (.inr ⟨_,rfl,h⟩)
 | _=>exact (by contradiction)
theorem Rl {x y:P} {v u:Value} {b:Bool} (X:Sx T w K lz mn mg mb e env g A) (D:Dx T w e env g U m led F S σ) (hx:PR T F x v) (hy:PR T F y u) (h:inP x y=some b) {Q:Value->Shared->Prop}:az4 w A E σ v u b Q:=by
 intro hQ
 have hu:=X.units_lt
 rcases Gq h with ⟨n,x',rfl,rfl,rfl⟩ | ⟨xs,rfl,h⟩ | ⟨xs,rfl,h⟩
 ·obtain ⟨t,rfl⟩:=hx.inv
  obtain ⟨a,rfl,ha⟩:=hy.inv
  obtain ⟨o,kvs,hk,hd,hs,hm⟩:=X.tx.tops _ _ ha
  have hget:=D.fr.keep _ _ (X.kin _ _ hk)
  have hdo:σ.heap.DictOf (PySem.strKind PG w) _ kvs:=Heap.dictOf_iff.mpr ⟨o,hget,hd⟩
  have:=hm x'
  exact ⟨wpAny_in_of (strKind_is PG w x' t) hs hdo.mapOf (by exact this ▸ (hQ _ _ rfl)),wpAny_notIn_of (strKind_is PG w x' t) hs hdo.mapOf (by exact this ▸ (⟨_,rfl,hQ _ _ rfl⟩))⟩
 ·obtain ⟨vs,a,n,rfl,hm,hr,_⟩:=hy.inv
  obtain ⟨e',h1,h2⟩:=Bc (s:=σ) (A:=A) (fun _ _=>D.frz) (by exact tlt hu rfl) hx hr.each h
  exact ⟨in_listAt e' ⟨_,D.frz hm,rfl,_,rfl⟩ h1 (by exact h2 ▸ (hQ _ _ rfl)),notIn_listAt e' ⟨_,D.frz hm,rfl,_,rfl⟩ h1 (by exact h2 ▸ (⟨_,rfl,hQ _ σ.toks rfl⟩))⟩
 ·obtain ⟨vs,a,rfl,hm,hr,_⟩:=hy.inv
  obtain ⟨e',h1,h2⟩:=Bc (s:=σ) (A:=A) (fun _ _=>D.frz) (by exact tlt hu rfl) hx hr.each h
  exact ⟨in_tupleAt e' ⟨_,D.frz hm,rfl,_,rfl⟩ h1 (by exact h2 ▸ (hQ _ _ rfl)),notIn_tupleAt e' ⟨_,D.frz hm,rfl,_,rfl⟩ h1 (by exact h2 ▸ (⟨_,rfl,hQ _ σ.toks rfl⟩))⟩
noncomputable def inD (es:List (Int×P)):P->Option Bool
 | .int i=>some (eh i es).isSome
 | _=>none
theorem Gr {x:P} {es:List (Int×P)} {b:Bool} (h:inD es x=some b):∃ i,x = .int i/\b=(eh i es).isSome:=by
 induction x using P.casesOn with
 | int i=>exact ⟨_,rfl,(Option.some.inj h).symm⟩
 | _=>exact (by contradiction)
theorem L8 {x:P} {k:Nat} {b:Bool} (h:inV S x (.ref k)=some b):∃ es,(S.h.get k=some (.dicti es)\/S.h.get k=some (.dictR es))/\inD es x=some b:=by
 have h:(match S.h.get k with
  | some (.dicti es)=>inD es x
  | some (.dictR es)=>inD es x
  | _=>none)=some b:=h
 induction hg:S.h.get k using Option.casesOn with
 | none=>rw [hg] at h;injection h
 | some o =>
  rw [hg] at h
  induction o using VO.casesOn with
  | dicti es=>exact ⟨_,.inl rfl,h⟩
  | dictR es=>exact ⟨_,.inr rfl,h⟩
  | _=>exact (by contradiction)
theorem Ko {x:P} {y:V} {v u:Value} {b:Bool} (X:Sx T w K lz mn mg mb e env g A) (D:Dx T w e env g U m led F S σ) (hx:PR T F x v) (hy:VR T F U S.n y u) (h:inV S x y=some b) {Q:Value->Shared->Prop}:az4 w A E σ v u b Q:=by
 induction y using V.casesOn with
 | p y=>exact Rl X D hx hy.inv h
 | ref k =>
  obtain ⟨hk,rfl⟩:=hy.inv
  obtain ⟨es,hg,h⟩:=L8 h
  obtain ⟨i,rfl,rfl⟩:=Gr h
  obtain ⟨t,rfl⟩:=hx.inv
  have hob:∃ ob kvs,(U k,ob)∈led++F/\ob.IsDictOf (intKind PG w) kvs/\Each (fun p q=>p.1=q.1/\PR T F p.2 q.2) es kvs:=by
   rcases hg with hg | hg
   ·obtain ⟨ob,hob,hor⟩:=D.rel.obj k _ hg
    obtain ⟨kvs,hd,he,_⟩:=hor.inv
    exact ⟨ob,kvs,List.mem_append_left _ hob,hd,he⟩
   ·obtain ⟨ob,hob,hor⟩:=D.rel.objs k _ hg
    obtain ⟨kvs,hd,he,_⟩:=hor.inv
    exact ⟨ob,kvs,hob.elim (List.mem_append_left _) fun q=>List.mem_append_right _ q.2,hd,he⟩
  obtain ⟨ob,kvs,hm,hd,he⟩:=hob
  intro hQ
  have hs:=X.no_sys (D.nw _ hm).2.2
  have hdo:=Heap.dictOf_iff.mpr ⟨_,(D.nw _ hm).1,hd⟩
  have:=Bg (i:=i) he
  exact ⟨wpAny_in_of (intKind_is PG w i t) hs hdo.mapOf (by rw [this];exact hQ _ _ rfl),wpAny_notIn_of (intKind_is PG w i t) hs hdo.mapOf (by rw [this];exact ⟨_,rfl,hQ _ _ rfl⟩)⟩
noncomputable def Xw:V->Option Bool
 | .p (.bi _)=>none
 | .p x=>some (isNone x)
 | .ref _=>some false
theorem Rm {x:V} {v:Value} {b:Bool} (hx:VR T F U S.n x v) (h:Xw x=some b):(v == Value.none)=b:=by
 induction x using V.casesOn with
 | ref k=>obtain ⟨_,rfl⟩:=hx.inv;exact Option.some.inj h
 | p x =>
  have hx:=hx.pure.inv
  induction x using P.casesOn with
  | bi=>exact (by contradiction)
  | none=>subst hx;exact Option.some.inj h
  | bool=>subst hx;exact Option.some.inj h
  | tup=>obtain ⟨_,_,rfl,_⟩:=hx;exact Option.some.inj h
  | lst=>obtain ⟨_,_,_,rfl,_⟩:=hx;exact Option.some.inj h
  | obj=>obtain ⟨_,_,_,_,_,rfl,_⟩:=hx;exact Option.some.inj h
  | rng=>obtain ⟨_,_,_,_,rfl,_⟩:=hx;exact Option.some.inj h
  | int=>obtain ⟨_,rfl⟩:=hx;exact Option.some.inj h
  | str=>obtain ⟨_,rfl⟩:=hx;exact Option.some.inj h
  | fn=>obtain ⟨_,rfl,_⟩:=hx;exact Option.some.inj h
  | cls=>obtain ⟨_,rfl,_⟩:=hx;exact Option.some.inj h
  | top=>obtain ⟨_,rfl,_⟩:=hx;exact Option.some.inj h
theorem none_of {y:V} {f:Option Bool} {b:Bool} (h:(match y with | .p .none=>f | _=>none)=some b):y = .p .none/\f=some b:=by
 induction y using V.casesOn with
 | ref=>exact (by contradiction)
 | p y=>induction y using P.casesOn with
  | none=>exact ⟨rfl,h⟩
  | _=>exact (by contradiction)
theorem Bh {x:V} {f:P->Option Bool} {b:Bool} (h:(match x with | .p x=>f x | _=>none)=some b):∃ z,x = .p z/\f z=some b:=by
 induction x using V.casesOn with
 | ref=>exact (by contradiction)
 | p x=>exact ⟨_,rfl,h⟩
theorem oa {o:Option Bool} {b:Bool} (h:o.map (!·)=some b):∃ c,o=some c/\b = !c:=by
 induction o using Option.casesOn with
 | none=>exact (by contradiction)
 | some c=>exact ⟨c,rfl,(Option.some.inj h).symm⟩
theorem mq {op:CmpOp} {x y:V} {v u:Value} {b:Bool} (X:Sx T w K lz mn mg mb e env g A) (D:Dx T w e env g U m led F S σ) (hx:VR T F U S.n x v) (hy:VR T F U S.n y u) (h:cmp op x y S=some b) {Q:Value->Shared->Prop} (hQ:∀ t,Q (.bool b) { σ with toks:=t }) :
  wpAny (model PG w) A (compareOp op v u) Q E σ:=by
 have hu:=X.units_lt
 have hF:∀ a o,(a,o)∈F->σ.heap.get? a=some o:=fun _ _=>D.frz
 have pp:∀ op,(match x,y with | .p x,.p y=>P3 op x y | _,_=>none)=some b -> ∃ x' y',PR T F x' v/\PR T F y' u/\P3 op x' y'=some b:=by
  intro op h
  induction x using V.casesOn with
  | ref=>exact (by contradiction)
  | p x=>induction y using V.casesOn with
   | ref=>exact (by contradiction)
   | p y=>exact ⟨x,y,hx.pure,hy.pure,h⟩
 have fin:=hQ σ.toks
 induction op using CmpOp.casesOn with
 | Is =>
  obtain ⟨rfl,h⟩:=none_of (f:=Xw x) h
  obtain rfl:=hy.pure.inv
  refine is_none ?_
  exact (Rm hx h) ▸ (hQ _)
 | IsNot =>
  obtain ⟨rfl,h⟩:=none_of (f:=(Xw x).map (!·)) h
  obtain rfl:=hy.pure.inv
  obtain ⟨c,hc,rfl⟩:=oa h
  refine isNot_none ?_
  exact (Rm hx hc) ▸ (hQ _)
 | In =>
  obtain ⟨x',rfl,h⟩:=Bh (f:=fun x=>inV S x y) h
  exact (Ko (Q:=Q) X D hx.pure hy h fun c t q=>by exact q ▸ (hQ t)).1
 | NotIn =>
  obtain ⟨x',rfl,h⟩:=Bh (f:=fun x=>(inV S x y).map (!·)) h
  obtain ⟨c,hc,rfl⟩:=oa h
  refine wpAny_mono (Ko (Q:=fun z s=>Q (match z with | .bool d=>.bool (!d) | z=>z) s) X D hx.pure hy hc fun c t q=>by exact q ▸ (hQ t)).2 (fun z s ⟨c,e,q⟩=>?_) fun _ _ x=>x
  subst e;exact q
 | Eq=>obtain ⟨x',y',hx,hy,h⟩:=pp .Eq h;exact (we hF (by exact tlt hu rfl) hx hy h).1 PG w E Q fin
 | NotEq =>
  obtain ⟨x',y',hx,hy,h⟩:=pp .NotEq h
  obtain ⟨c,hc,rfl⟩:=oa h
  exact (we hF (by exact tlt hu rfl) hx hy hc).2 PG w E Q fin
 | Lt=>obtain ⟨x',y',hx,hy,h⟩:=pp .Lt h;exact (wf hF (by exact tlt hu rfl) hx hy h).1 PG w E Q fin
 | Gt=>obtain ⟨x',y',hx,hy,h⟩:=pp .Gt h;exact (wf hF (by exact tlt hu rfl) hy hx h).2 PG w E Q fin
 | LtE=>obtain ⟨x',y',hx,hy,h⟩:=pp .LtE h;exact (Kn hx hy h).1 PG w E Q fin
 | GtE=>obtain ⟨x',y',hx,hy,h⟩:=pp .GtE h;exact (Kn hy hx h).2 PG w E Q fin
end
end Mine
end
section
open PySem PySem.W PySem.Spec PySem.Calls PyProof.Rows PySem.SeqAt
set_option tactic.hygienic false
namespace Mine
theorem ao:2000<=sizeLine:=by decide
section
variable {T:Pl} {w:World} {K:Frag} {lz:List Str} {mn:ExcName->Option Value} {mg mb:Str->Option Value} {r:H Prop} {O:Known Prop} {e:En} {env:Env} {g:Heap} {A:Around} {F:Led} {U:Nat->Addr} {m:Str->Option Value} {led:Led} {S S':St} {σ:Shared}
 {E:Value->Shared->Prop}
theorem bt {n:Nat} (h:fits n=true):n<=2000:=Nat.le_of_ble_eq_true h
theorem oe {n:Nat} (h:p9 n=true):n<=900:=Nat.le_of_ble_eq_true h
theorem Dx.lt (D:Dx T w e env g U m led F S σ):∀ p∈led++F,p.1<σ.heap.objs.size:=fun _ hp=>Heap.lt_size (D.nw _ hp).1
theorem Dx.freezeN (D:Dx T w e env g U m led F S σ) {h':Heap} {t:Nat} {a:Addr} {o:Obj} (F1:Fr g env.locals h' m) (N1:News g env.locals h' ((a,o)::(led++F))) (ha:∀ p∈led++F,p.1≠a):Dx T w e env g U m led ((a,o)::F) S (At σ h' t) :=
 ⟨F1,fun p hp=>by
  rcases List.mem_append.mp hp with q | q
  ·exact N1 p (.tail _ (List.mem_append_left _ q))
  ·rcases List.mem_cons.mp q with z | z
   ·exact N1 p (z ▸ .head _)
   ·exact N1 p (.tail _ (List.mem_append_right _ z)),D.rel.freeze ha,fun x v h=>by
  obtain ⟨y,h1,h2⟩:=D.loc x v h
  exact ⟨y,h1,h2.mono (fun _ h _=>.tail _ h) (Nat.le_refl _) fun _ _=>rfl⟩,D.cells⟩
theorem Dx.moreN (D:Dx T w e env g U m led F S σ) {h':Heap} {t:Nat} {a:Addr} {vo:VO} {o:Obj} (F1:Fr g env.locals h' m) (N1:News g env.locals h' ((a,o)::(led++F))) (ha:∀ p∈led++F,p.1≠a)
  (hor:OR T w F (fun k=>if k=S.n then a else U k) (S.n+1) a vo o):Dx T w e env g (fun k=>if k=S.n then a else U k) m ((a,o)::led) F (new vo S) (At σ h' t) :=
 ⟨F1,fun p hp=>by
  rw [List.cons_append] at hp
  exact N1 p hp,D.rel.new ha hor,fun x v h=>by
  obtain ⟨y,h1,h2⟩:=D.loc x v h
  exact ⟨y,h1,h2.mono (fun _ h _=>h) (Nat.le_succ _) fun k hk=>if_neg (Nat.ne_of_lt hk)⟩,fun x k h=>by
  obtain ⟨h1,h2⟩:=D.cells x k h
  exact ⟨Nat.lt_succ_of_lt h1,by rw [h2];exact congrArg some (if_neg (Nat.ne_of_lt h1)).symm⟩⟩
theorem Dx.freeze (D:Dx T w e env g U m led F S σ) {h':Heap} {t:Nat} {a:Addr} {o:Obj} (F1:Fr g env.locals h' m) (N1:News g env.locals h' ((a,o)::(led++F))) (ha:∀ p∈led++F,p.1<a):Dx T w e env g U m led ((a,o)::F) S (At σ h' t) :=
 D.freezeN F1 N1 fun p hp=>Nat.ne_of_lt (ha p hp)
theorem Dx.more (D:Dx T w e env g U m led F S σ) {h':Heap} {t:Nat} {a:Addr} {vo:VO} {o:Obj} (F1:Fr g env.locals h' m) (N1:News g env.locals h' ((a,o)::(led++F))) (ha:∀ p∈led++F,p.1<a)
  (hor:OR T w F (fun k=>if k=S.n then a else U k) (S.n+1) a vo o):Dx T w e env g (fun k=>if k=S.n then a else U k) m ((a,o)::led) F (new vo S) (At σ h' t) :=
 D.moreN F1 N1 (fun p hp=>Nat.ne_of_lt (ha p hp)) hor
theorem PostE.frz {C:V->St->Prop} {Q:Value->Shared->Prop} (h:PostE T w e env g F U S.n σ C Q) (D:Dx T w e env g U m led F S σ) {h':Heap} {t:Nat} {a:Addr} {o:Obj} {x:P} {v:Value} (F1:Fr g env.locals h' m) (N1:News g env.locals h' ((a,o)::(led++F)))
  (ha:∀ p∈led++F,p.1<a) (hv:PR T ((a,o)::F) x v) (hp:C (.p x) S):Q v (At σ h' t) :=
 h _ U m led h' t _ _ S (Ext.frz _ _ _ _) (D.freeze F1 N1 ha) (.p hv) hp
theorem j6 {i:Int} (h:a7 i=true):Builtin.Int.intBits i<=64:=by
 unfold a7 at h
 rw [Bool.and_eq_true,decide_eq_true_eq,decide_eq_true_eq] at h
 unfold Builtin.Int.intBits
 split
 ·exact Nat.zero_le _
 ·rename_i h0
  have h0:i.natAbs≠0:=by simpa using h0
  have:i.natAbs.log2<63:=(Nat.log2_lt h0).mpr (by omega)
  exact Nat.le_trans this (Nat.le_of_ble_eq_true rfl)
theorem yh {i:Int} (h:a7 i=true):i.natAbs.log2<9000:=by
 unfold a7 at h
 have h:=Bool.and_eq_true_iff.mp h
 have h1:=of_decide_eq_true h.1
 have h2:=of_decide_eq_true h.2
 by_cases h0:i.natAbs=0
 ·rw [h0];decide +kernel
 ·exact Nat.lt_trans ((Nat.log2_lt h0).mpr (show i.natAbs<2 ^ 63 by omega)) (by decide)
theorem Bi (v:Value):∀ (n:Nat) (acc:Array Value),List.foldl (fun x1 x2=>x1++x2) acc (List.replicate n #[v])=(acc.toList++List.replicate n v).toArray:=by
 intro l0
 induction l0 with
 | zero =>
  intro acc
  simp
 | succ n ih =>
  intro acc
  rw [List.replicate_succ,List.foldl_cons,ih]
  simp [List.replicate_succ]
theorem tm {a b:Bool} (h:(!(a||b))=true):a=false/\b=false:=by
 induction a using Bool.casesOn <;> induction b using Bool.casesOn <;> first | exact ⟨rfl,rfl⟩ | exact (by contradiction)
theorem Gs {op:Operator} {x y:Int} {v u:Value} {C:V->St->Prop} (D:Dx T w e env g U m led F S σ) (hx:PR T F (.int x) v) (hy:PR T F (.int y) u) (hm:qf op x y=true) {Q:Value->Shared->Prop} (hp:C (.p (.int (intOp op x y))) S) (hQ:PostE T w e env g F U S.n σ C Q) :
  wpAny (model PG w) A (binaryOp op v u) Q E σ:=by
 have hQ:∀ (t:Tok) (k:Nat),Q (.int (intOp op x y) t) { σ with toks:=k }:=fun t k=>hQ.tok D (.p (.int _ t)) hp k
 obtain ⟨tx,rfl⟩:=hx.inv
 obtain ⟨ty,rfl⟩:=hy.inv
 induction op using Operator.casesOn with
 | Add=>exact P.add_int (hQ _ _)
 | Sub=>exact P.sub_int (hQ _ _)
 | Mult =>
  refine P.mul_int (hQ _ _) ?_
  rcases Bool.or_eq_true_iff.mp (show (a7 x||a7 y)=true from hm) with q | q
  ·exact .of_left (j6 q)
  ·exact .of_right (j6 q)
 | Mod=>exact PyProof.Rows.mod_int' (of_decide_eq_false (tm hm).1) (hQ _ _)
 | FloorDiv =>
  have hm:=tm (a:=decide (y=0)) hm
  exact PyProof.Rows.floordiv_int (of_decide_eq_false hm.1) (hQ _ _) (.inl (PyProof.noPylong_of_log2 (yh (by rw [← Bool.not_not (a7 y),hm.2];rfl))))
 | Pow =>
  have hm:=tm (a:=decide (y<0)||decide (64<y)) hm
  have h1:=Bool.or_eq_false_iff.mp hm.1
  have h2:a7 x=true:=by rw [← Bool.not_not (a7 x),hm.2];rfl
  delta a7 at h2
  have h2:=Bool.and_eq_true_iff.mp h2
  have h3:=of_decide_eq_true h2.1
  have h4:=of_decide_eq_true h2.2
  have h5:=of_decide_eq_false h1.1
  have h6:=of_decide_eq_false h1.2
  exact PyProof.Rows.pow_int_small (by exact Int.not_lt.mp h5) (by exact bz6 h6) (by omega) (hQ _ _)
 | _=>exact (by contradiction)
noncomputable def Xx (op:Operator) (a b z:P):Prop :=
 (∃ x y,op = .Add/\a = .str x/\b = .str y/\x.cps.size+y.cps.size<=2000/\z = .str ⟨x.cps++y.cps⟩)\/(∃ x y,op = .Add/\a = .lst x/\b = .lst y/\x.length+y.length<=2000/\z = .lst (x++y)) \/
 (∃ x y,op = .Add/\a = .tup x/\b = .tup y/\x.length+y.length<=2000/\z = .tup (x++y)) \/ ∃ x y,op = .Mult/\a = .lst [x]/\b = .int y/\y.toNat<=2000/\a7 y=true/\z = .lst (List.replicate y.toNat x)
theorem Bj (op:Operator) (a b:P):OptP (fun z=>(∃ x y,a = .int x/\b = .int y)\/Xx op a b z) (s6 op a b):=by
 have ii:∀ (op:Operator) (x y:Int),OptP (fun z=>(∃ i j,P.int x = .int i/\P.int y = .int j)\/Xx op (.int x) (.int y) z) (s6 op (.int x) (.int y)):=fun op x y=>by
  induction s6 op (.int x) (.int y) using Option.casesOn with
  | none=>trivial
  | some=>exact .inl ⟨_,_,rfl,rfl⟩
 induction op using Operator.casesOn with
 | Add=>induction a using P.casesOn with
  | int=>induction b using P.casesOn with
   | int=>exact ii _ _ _
   | _=>trivial
  | str x=>induction b using P.casesOn with
   | str y=>exact OptP.ifb fun h=>.inr (.inl ⟨x,y,rfl,rfl,rfl,bt h,rfl⟩)
   | _=>trivial
  | lst x=>induction b using P.casesOn with
   | lst y=>exact OptP.ifb fun h=>.inr (.inr (.inl ⟨x,y,rfl,rfl,rfl,bt h,rfl⟩))
   | _=>trivial
  | tup x=>induction b using P.casesOn with
   | tup y=>exact OptP.ifb fun h=>.inr (.inr (.inr (.inl ⟨x,y,rfl,rfl,rfl,bt h,rfl⟩)))
   | _=>trivial
  | _=>trivial
 | Mult=>induction a using P.casesOn with
  | int=>induction b using P.casesOn with
   | int=>exact ii _ _ _
   | _=>trivial
  | lst x=>induction x using List.casesOn with
   | nil=>trivial
   | cons x r=>induction r using List.casesOn with
    | nil=>induction b using P.casesOn with
     | int y=>exact OptP.ifb fun h=>.inr (.inr (.inr (.inr ⟨x,y,rfl,rfl,rfl,bt (Bool.and_eq_true_iff.mp h).1,(Bool.and_eq_true_iff.mp h).2,rfl⟩)))
     | _=>trivial
    | cons=>trivial
  | _=>trivial
 | Sub=>induction a using P.casesOn with
  | int=>induction b using P.casesOn with
   | int=>exact ii _ _ _
   | _=>trivial
  | _=>trivial
 | Mod=>induction a using P.casesOn with
  | int=>induction b using P.casesOn with
   | int=>exact ii _ _ _
   | _=>trivial
  | _=>trivial
 | FloorDiv=>induction a using P.casesOn with
  | int=>induction b using P.casesOn with
   | int=>exact ii _ _ _
   | _=>trivial
  | _=>trivial
 | Pow=>induction a using P.casesOn with
  | int=>induction b using P.casesOn with
   | int=>exact ii _ _ _
   | _=>trivial
  | _=>trivial
 | _=>trivial
theorem yj {op:Operator} {a b z:P} (hi:∀ x y,a = .int x->b ≠ .int y) (h:s6 op a b=some z):Xx op a b z :=
 ((Bj op a b).get h).elim (fun ⟨x,y,e,e'⟩=>absurd e' (hi x y e)) id
theorem mul_one (v:Value) (n:Nat):List.foldl (fun x1 x2=>x1++x2) #[] (List.replicate (if [v].toArray.isEmpty=true then 0 else n) [v].toArray)=(List.replicate n v).toArray:=by
 rw [if_neg nofun]
 exact (Bi v n #[]).trans rfl
theorem Gu {op:Operator} {x y z:P} {v u:Value} {C:V->St->Prop} (D:Dx T w e env g U m led F S σ) (hx:PR T F x v) (hy:PR T F y u) (hi:∀ i j,x = .int i->y ≠ .int j) (h:s6 op x y=some z) {Q:Value->Shared->Prop} (hp:C (.p z) S) (hQ:PostE T w e env g F U S.n σ C Q) :
  wpAny (model PG w) A (binaryOp op v u) Q E σ:=by
 have hs:=ao
 rcases yj hi h with ⟨x,y,rfl,rfl,rfl,hm,rfl⟩ | ⟨x,y,rfl,rfl,rfl,hm,rfl⟩ | ⟨x,y,rfl,rfl,rfl,hm,rfl⟩ | ⟨x,y,rfl,rfl,rfl,hm1,hm2,rfl⟩
 ·obtain ⟨t,rfl⟩:=hx.inv
  obtain ⟨t',rfl⟩:=hy.inv
  exact PyProof.Rows.add_str (fun t' tk=>hQ.tok D (.p (.str _ _)) hp tk) (Nat.le_trans hm hs)
 ·obtain ⟨vs,a,n,rfl,h1,h2,h3⟩:=hx.inv
  obtain ⟨us,c,k,rfl,k1,k2,k3⟩:=hy.inv
  rw [h2.len,k2.len] at hm
  exact add_lists D.fr D.nw ⟨_,D.frz h1,rfl,_,rfl⟩ ⟨_,D.frz k1,rfl,_,rfl⟩ (fun h' F1 N1=>hQ.frz D F1 N1 D.lt (.lst (.head _) ((PRs.of (h2.each.append k2.each)).mono fun _ h _=>.tail _ h) (by rw [List.length_append];exact hm)) hp) (by exact Nat.le_trans hm (Nat.le_of_ble_eq_true rfl))
 ·obtain ⟨vs,a,rfl,h1,h2,h3⟩:=hx.inv
  refine bc fun hG=>?_
  obtain ⟨us,c,rfl,k1,k2,k3⟩:=hy.inv
  refine hG ?_
  rw [h2.len,k2.len] at hm
  have both:=PRs.of (h2.each.append k2.each)
  refine add_tuples D.fr D.nw ⟨_,D.frz h1,rfl,_,rfl⟩ ⟨_,D.frz k1,rfl,_,rfl⟩ (fun e1=>?_) (fun _ e2=>?_) (fun _ _ h' F1 N1=>?_) (by exact Nat.le_trans hm (Nat.le_of_ble_eq_true rfl))
  ·subst e1
   exact hQ.here D (.p (.tup k1 (by simpa using both) k3)) hp
  ·subst e2
   exact hQ.here D (.p (.tup h1 (by simpa using both) h3)) hp
  ·exact hQ.frz D F1 N1 D.lt (.tup (.head _) (both.mono fun _ h _=>.tail _ h) (by rw [List.length_append];exact hm)) hp
 ·obtain ⟨vs,a,n,rfl,h1,h2,h3⟩:=hx.inv
  obtain ⟨t',rfl⟩:=hy.inv
  refine bc fun hG=>?_
  cases h2 with
  | cons hv hn =>
   refine hG ?_
   cases hn
   unfold a7 at hm2
   have hm2:=Bool.and_eq_true_iff.mp hm2
   have h4:=of_decide_eq_true hm2.1
   have h5:=of_decide_eq_true hm2.2
   refine mul_list D.fr D.nw (D.frz h1) (by omega) (by omega) (by simp;exact bz7 hm1) fun h' F1 N1=>?_
   refine hQ.frz D F1 N1 D.lt ?_ hp
   rw [mul_one]
   exact .lst (.head _) ((PRs.of (Each.replicate hv _)).mono fun _ h _=>.tail _ h) (by rw [List.length_replicate];exact hm1)
theorem L9 {op:Operator} {a b:P} {k:P->Prop} (h:Z9 False op a b k):(∃ x y,a = .int x/\b = .int y/\qf op x y=true/\k (.int (intOp op x y)))\/((∀ x y,a = .int x->b ≠ .int y) /\ ∃ v,s6 op a b=some v/\k v):=by
 by_cases q:∃ x y,a = .int x/\b = .int y
 ·obtain ⟨x,y,rfl,rfl⟩:=q
  exact .inl ⟨x,y,rfl,rfl,ab h⟩
 ·have q:∀ x y,a = .int x->b ≠ .int y:=fun x y e e'=>q ⟨x,y,e,e'⟩
  refine .inr ⟨q,ac ?_⟩
  induction a using P.casesOn with
  | int x=>induction b using P.casesOn with
   | int y=>exact absurd rfl (q x y rfl)
   | _=>exact h
  | _=>exact h
theorem Bk (Z:Snd T w K lz mn mg mb r) (X:Sx T w K lz mn mg mb e env g A) (D:Dx T w e env g U m led F S σ) {a b:Expr} {op:Operator} {pos:Pos} {C:V->St->Prop} (h:evE False O r e (.BinOp a op b pos) S C) {Q:Value->Shared->Prop}
  (hQ:PostE T w e env g F U S.n σ C Q):wpAny (model PG w) A (eval (.BinOp a op b pos) env) Q E σ:=by
 refine wpAny_BinOp (Z.e X D h fun F1 ρ1 m1 led1 h1 t1 v x S1 x1 D1 hv hp=>?_)
 refine Z.e X D1 hp fun F2 ρ2 m2 led2 h2 t2 u y S2 x2 D2 hu hp=>?_
 refine bc fun hG=>?_
 induction v using V.casesOn with
 | ref =>
  refine hG ?_
  exact hp.elim
 | p v =>
  refine hG ?_
  induction u using V.casesOn with
  | ref=>exact hp.elim
  | p u =>
   refine bc fun hG=>?_
   rcases L9 hp with ⟨i,j,rfl,rfl,hk,hp⟩ | ⟨hi,z,hz,hp⟩
   ·refine hG ?_
    exact Gs D2 (x2.vr hv).pure hu.pure hk hp (hQ.on (x1.trans x2))
   ·refine hG ?_
    exact Gu D2 (x2.vr hv).pure hu.pure hi hz hp (hQ.on (x1.trans x2))
theorem Ma (Z:Snd T w K lz mn mg mb r) (X:Sx T w K lz mn mg mb e env g A) (D:Dx T w e env g U m led F S σ) {a:Expr} {op:UnaryOp} {pos:Pos} {C:V->St->Prop} (h:evE False O r e (.UnaryOp op a pos) S C) {Q:Value->Shared->Prop}
  (hQ:PostE T w e env g F U S.n σ C Q):wpAny (model PG w) A (eval (.UnaryOp op a pos) env) Q E σ:=by
 induction op using UnaryOp.casesOn with
 | USub =>
  refine wpAny_UnaryOp (Z.e X D h fun F1 ρ1 m1 led1 h1 t1 v x S1 x1 D1 hv hp=>?_)
  induction v using V.casesOn with
  | ref=>exact False.elim hp
  | p y =>
  induction y using P.casesOn with
  | int i =>
   obtain ⟨t,rfl⟩:=hv.pure.inv
   exact P.neg_int ((hQ.on (h':=h1) (t':=t1) x1).tok D1 (.p (.int _ _)) hp _)
  | _=>exact False.elim hp
 | Not =>
  refine wpAny_UnaryOp (Z.e X D h fun F1 ρ1 m1 led1 h1 t1 v x S1 x1 D1 hv hp=>?_)
  obtain ⟨b,hb,hp⟩:=ac hp
  exact not_of (jp D1 hv hb fun t=>(hQ.on (h':=h1) (t':=t1) x1).tok D1 (.p (.bool _)) hp t)
 | _=>exact h.elim
theorem js {op:CmpOp} {b:Expr} (h:tc b=true):behindInMarks op b=false:=by
 induction b using Expr.casesOn with
 | Set a k p=>injection h
 | _=>rfl
theorem yk (Z:Snd T w K lz mn mg mb r) (X:Sx T w K lz mn mg mb e env g A) (D:Dx T w e env g U m led F S σ) {a:Expr} {ops:List CmpOp} {bs:List Expr} {pos:Pos} {C:V->St->Prop} (h:evE False O r e (.Compare a ops bs pos) S C) {Q:Value->Shared->Prop}
  (hQ:PostE T w e env g F U S.n σ C Q):wpAny (model PG w) A (eval (.Compare a ops bs pos) env) Q E σ:=by
 match ops,bs,h with
 | [op],[b],h =>
  obtain ⟨hm,h⟩:=ab h
  refine wpAny_Compare1 (Z.e X D h fun F1 ρ1 m1 led1 h1 t1 v x S1 x1 D1 hv hp=>?_) (js hm)
  refine Z.e X D1 hp fun F2 ρ2 m2 led2 h2 t2 u y S2 x2 D2 hu hp=>?_
  obtain ⟨c,hc,hp⟩:=ac hp
  exact mq X D2 (x2.vr hv) hu hc fun t=>(hQ.on (h':=h2) (t':=t2) (x1.trans x2)).tok D2 (.p (.bool c)) hp t
 | [op,op'],[b,b'],h =>
  obtain ⟨hm,h⟩:=ab h
  refine Compare_chain (Z.e X D h fun F1 ρ1 m1 led1 h1 t1 v x S1 x1 D1 hv hp=>?_) (js (op:=op') hm)
  refine chain_link (Z.e X D1 hp fun F2 ρ2 m2 led2 h2 t2 u y S2 x2 D2 hu hp=>?_)
  obtain ⟨c,hc,hp⟩:=ac hp
  refine mq X D2 (x2.vr hv) hu hc fun t=>wpAny_truthy_bool ?_
  rcases az hp with ⟨rfl,hp⟩ | ⟨rfl,hp⟩
  ·refine chain_last (Z.e X (D2.tok t) hp fun F3 ρ3 m3 led3 h3 t3 u' y' S3 x3 D3 hu' hp=>?_)
   obtain ⟨c,hc,hp⟩:=ac hp
   exact mq X D3 (x3.vr hu) hu' hc fun t=>(hQ.on (h':=h3) (t':=t3) ((x1.trans x2).trans x3)).tok D3 (.p (.bool c)) hp t
  ·exact (hQ.on (h':=h2) (t':=t2) (x1.trans x2)).tok D2 (.p (.bool false)) hp t
theorem tq (Z:Snd T w K lz mn mg mb r) (X:Sx T w K lz mn mg mb e env g A) (D:Dx T w e env g U m led F S σ) {a:Expr} {ops:List CmpOp} {bs:List Expr} {pos:Pos} {C:Bool->St->Prop} (h:evT False r e (.Compare a ops bs pos) S C) {Q:Bool->Shared->Prop}
  (hQ:PostB T w e env g F U S.n σ C Q) {whole:Sem Value}:wpAny (model PG w) A (isTrue (.Compare a ops bs pos) env whole) Q E σ:=by
 match ops,bs,h with
 | [op],[b],h =>
  obtain ⟨hm,h⟩:=ab h
  refine wpAny_isTrue_Compare1 (Z.e X D h fun F1 ρ1 m1 led1 h1 t1 v x S1 x1 D1 hv hp=>?_) (js hm)
  refine Z.e X D1 hp fun F2 ρ2 m2 led2 h2 t2 u y S2 x2 D2 hu hp=>?_
  obtain ⟨c,hc,hp⟩:=ac hp
  exact mq X D2 (x2.vr hv) hu hc fun t=>wpAny_truthy_bool (hQ _ _ _ _ h2 t _ _ (x1.trans x2) (D2.tok t) hp)
 | [op,op'],[b,b'],h =>
  obtain ⟨hm,h⟩:=ab h
  refine isTrue_chain (Z.e X D h fun F1 ρ1 m1 led1 h1 t1 v x S1 x1 D1 hv hp=>?_) (js (op:=op') hm)
  refine test_link (Z.e X D1 hp fun F2 ρ2 m2 led2 h2 t2 u y S2 x2 D2 hu hp=>?_)
  obtain ⟨c,hc,hp⟩:=ac hp
  refine mq X D2 (x2.vr hv) hu hc fun t=>wpAny_truthy_bool ?_
  rcases az hp with ⟨rfl,hp⟩ | ⟨rfl,hp⟩
  ·refine test_last (Z.e X (D2.tok t) hp fun F3 ρ3 m3 led3 h3 t3 u' y' S3 x3 D3 hu' hp=>?_)
   obtain ⟨c,hc,hp⟩:=ac hp
   exact mq X D3 (x3.vr hu) hu' hc fun t=>wpAny_truthy_bool (hQ _ _ _ _ h3 t _ _ ((x1.trans x2).trans x3) (D3.tok t) hp)
  ·exact hQ _ _ _ _ h2 t _ _ (x1.trans x2) (D2.tok t) hp
end
theorem jd {o:Expr} {a:Str} {env:Env} {whole:Sem Value} (h:s7 o=true):attributeBase o a env whole=whole:=by
 induction o using Expr.casesOn with
 | Call f as ks p =>
  induction f using Expr.casesOn with
  | Name=>induction as using List.casesOn with
   | nil=>induction ks using List.casesOn with
    | nil=>exact (by contradiction)
    | cons=>rfl
   | cons=>rfl
  | _=>rfl
 | _=>rfl
theorem j7 (x y:Str) (t:Tok):(Value.str x t).isStr y=seq x y:=by
 rw [← td];rfl
theorem tu {α:Type} {R:α->Value->Prop} {a:Str} {es:List (Str×α)} {ds:List DictEntry} (h:Each (fun p d=>(∃ t,d.key = .str p.1 t)/\R p.2 d.val) es ds) :
  (match look a es with | some x=>∃ v,getL a ds=some (some v)/\R x v | none=>getL a ds=some none):=by
 induction h with
 | nil=>rfl
 | @cons p d es ds h hs ih =>
  refine bc fun hG=>?_
  obtain ⟨⟨t,ht⟩,hr⟩:=h
  refine hG ?_
  show match (match seq p.1 a with | true=>some p.2 | false=>look a es) with | some x=>∃ v,getL a (d::ds)=some (some v)/\R x v | none=>getL a (d::ds)=some none
  induction hq:seq p.1 a using Bool.casesOn with
  | true =>
   refine ⟨d.val,?_,hr⟩
   delta getL
   rw [List.find?_cons_of_pos (by rw [ht,j7];exact hq)]
  | false =>
   have e:getL a (d::ds)=getL a ds:=by
    delta getL
    rw [List.find?_cons_of_neg (by rw [ht,j7,hq];decide),List.any_cons]
    have:d.refKey=false:=by delta DictEntry.refKey;rw [ht]
    rw [this,Bool.false_or]
   exact e ▸ ih
theorem qm {α:Type} {R:α->Value->Prop} {a:Str} {es:List (Str×α)} {ds:List DictEntry} {x:α} (h:Each (fun p d=>(∃ t,d.key = .str p.1 t)/\R p.2 d.val) es ds) (e:look a es=some x):∃ v,getL a ds=some (some v)/\R x v:=by
 have:=tu (a:=a) h
 rw [e] at this;exact this
theorem tw {α:Type} {R:α->Value->Prop} {a:Str} {es:List (Str×α)} {ds:List DictEntry} (h:Each (fun p d=>(∃ t,d.key = .str p.1 t)/\R p.2 d.val) es ds):(getL a ds).isSome=true:=by
 have:=tu (a:=a) h
 split at this
 ·obtain ⟨v,hv,_⟩:=this;rw [hv];rfl
 ·rw [this];rfl
theorem PRn.each {T:Pl} {F:Led} {xs:List (Str×P)} {ds:List DictEntry} (h:PRn T F xs ds):Each (fun p d=>(∃ t,d.key = .str p.1 t)/\PR T F p.2 d.val) xs ds :=
 PRn.rec (motive_1:=fun _ _ _=>True) (motive_2:=fun _ _ _=>True) (motive_3:=fun xs ds _=>Each (fun p d=>(∃ t,d.key = .str p.1 t)/\PR T F p.2 d.val) xs ds) trivial (fun _=>trivial) (fun _ _=>trivial) (fun _ _=>trivial) (fun _=>trivial) (fun _=>trivial) (fun _=>trivial) (fun _=>trivial)
  (fun _ _ _ _=>trivial) (fun _ _ _ _=>trivial) (fun _ _ _ _ _ _=>trivial) (fun _=>trivial) trivial (fun _ _ _ _=>trivial) .nil (fun {k x _ _ _ _} hk h _ _ ih=>Each.cons (R:=fun (p:Str×P) (d:DictEntry)=>(∃ t,d.key = .str p.1 t)/\PR T F p.2 d.val) (a:=(k,x)) ⟨⟨_,hk⟩,h⟩ ih) h
theorem PRn.of {T:Pl} {F:Led} {xs:List (Str×P)} {ds:List DictEntry} (h:Each (fun p d=>(∃ t,d.key = .str p.1 t)/\PR T F p.2 d.val) xs ds):PRn T F xs ds:=by
 induction h with
 | nil=>exact .nil
 | cons h _ ih=>obtain ⟨⟨t,ht⟩,hr⟩:=h;exact .cons ht hr ih
theorem c7 {n m:Nat} (h:Nat.ble n m=true):n<=m:=Nat.le_of_ble_eq_true h
theorem Kp {i:Int} {n j:Nat} (hn:n<=2000) (h:idx i n=some j):seqIndex? i n=some j /\ -(2 ^ 63)<=i/\i<2 ^ 63:=by
 delta idx at h
 split at h
 ·rename_i h0
  have h0:=of_decide_eq_true h0
  split at h
  ·rename_i h1
   have h1:=of_decide_eq_true h1
   (injection h with h;subst h)
   exact ⟨seqIndex_of h0 h1,by omega,by omega⟩
  ·injection h
 ·rename_i h0
  have h0:=of_decide_eq_false h0
  split at h
  ·rename_i h1
   have h1:=of_decide_eq_true h1
   (injection h with h;subst h)
   exact ⟨seqIndex_neg (by exact bzn h0) (by exact Z0 h1),by omega,by omega⟩
  ·injection h
section
variable {T:Pl} {w:World} {K:Frag} {lz:List Str} {mn:ExcName->Option Value} {mg mb:Str->Option Value} {r:H Prop} {O:Known Prop} {e:En} {env:Env} {g:Heap} {A:Around} {F:Led} {U:Nat->Addr} {m:Str->Option Value} {led:Led} {S S':St} {σ:Shared}
 {E:Value->Shared->Prop}
theorem j8 {F:Led} {U:Nat->Addr} {n:Nat} {vs:List V} {ps:List P} {ys:List Value} (h:Each (VR T F U n) vs ys) (e:Af vs=some ps):Each (PR T F) ps ys:=by
 induction h generalizing ps with
 | nil=>(injection e with e;subst e);exact .nil
 | @cons v y vs ys hv _ ih =>
  induction v using V.casesOn with
  | ref=>exact (by contradiction)
  | p x =>
   have e:(match Af vs with | some l=>some (x::l) | none=>none)=_:=e
   induction hl:Af vs using Option.casesOn with
   | none=>exact nomatch (hl ▸ e)
   | some l=>rw [hl] at e; (injection e with e;subst e);exact .cons hv.pure (ih hl)
theorem PostE.mk {C:V->St->Prop} {Q:Value->Shared->Prop} (h:PostE T w e env g F U S.n σ C Q) (D:Dx T w e env g U m led F S σ) {h':Heap} {t:Nat} {a:Addr} {vo:VO} {o:Obj} (F1:Fr g env.locals h' m) (N1:News g env.locals h' ((a,o)::(led++F)))
  (ha:∀ p∈led++F,p.1<a) (hor:OR T w F (fun k=>if k=S.n then a else U k) (S.n+1) a vo o) (hp:C (.ref S.n) (new vo S)):Q (.ref a) (At σ h' t):=by
 have hv:VR T F (fun k=>if k=S.n then a else U k) (new vo S).n (.ref S.n) (.ref a):=by
  have:=VR.ref (T:=T) (F:=F) (U:=fun k=>if k=S.n then a else U k) (n:=S.n+1) (k:=S.n) (Nat.lt_succ_self _)
  rw [if_pos rfl] at this
  exact this
 exact h F _ m _ h' t _ _ (new vo S) (Ext.new _ _ _ _) (D.more F1 N1 ha hor) hv hp
theorem Mb (Z:Snd T w K lz mn mg mb r) (X:Sx T w K lz mn mg mb e env g A) (D:Dx T w e env g U m led F S σ) {xs:List Expr} {pos:Pos} {C:V->St->Prop} (h:evE False O r e (.List xs pos) S C) {Q:Value->Shared->Prop}
  (hQ:PostE T w e env g F U S.n σ C Q):wpAny (model PG w) A (eval (.List xs pos) env) Q E σ:=by
 have hs:=ao
 refine List_ (Z.es X D h fun F1 ρ1 m1 led1 h1 t1 vs ys S1 x1 D1 hvs hp=>?_)
 obtain ⟨hf,hp⟩:=ab hp
 have hf:=bt hf
 rw [hvs.length] at hf
 refine newList_N D1.fr D1.nw (fun h2 F2 N2=>?_) (by exact Nat.le_trans hf (Nat.le_of_ble_eq_true rfl))
 refine bc fun hG=>?_
 split at hp
 ·refine hG ?_
  rename_i ps hps
  have hps:=j8 hvs hps
  split at hp
  ·exact (hQ.on (h':=h1) (t':=t1) x1).frz D1 F2 N2 D1.lt (.lst (.head _) ((PRs.of hps).mono fun _ h _=>.tail _ h) hf) hp
  ·exact (hQ.on (h':=h1) (t':=t1) x1).mk D1 F2 N2 D1.lt (.list hps hf) hp
 ·refine hG ?_
  exact (hQ.on (h':=h1) (t':=t1) x1).mk D1 F2 N2 D1.lt (.listV (hvs.mono fun _ _ h=>h.mono (fun _ h _=>h) (Nat.le_succ _) fun k hk=>if_neg (Nat.ne_of_lt hk)) hf) hp
theorem Gv (Z:Snd T w K lz mn mg mb r) (X:Sx T w K lz mn mg mb e env g A) (D:Dx T w e env g U m led F S σ) {xs:List Expr} {k:Nat} {pos:Pos} {C:V->St->Prop} (h:evE False O r e (.Tuple xs k pos) S C) {Q:Value->Shared->Prop}
  (hQ:PostE T w e env g F U S.n σ C Q):wpAny (model PG w) A (eval (.Tuple xs k pos) env) Q E σ:=by
 have hs:=ao
 refine Tuple_ (Z.es X D h fun F1 ρ1 m1 led1 h1 t1 vs ys S1 x1 D1 hvs hp=>?_)
 obtain ⟨hf,hp⟩:=ab hp
 obtain ⟨ps,hps,hp⟩:=ac hp
 have hf:=bt hf
 rw [hvs.length] at hf
 have hps:=j8 hvs hps
 refine newTuple_N D1.fr D1.nw (fun h2 F2 N2=>?_) (by exact Nat.le_trans hf (Nat.le_of_ble_eq_true rfl))
 exact (hQ.on (h':=h1) (t':=t1) x1).frz D1 F2 N2 D1.lt (.tup (.head _) ((PRs.of hps).mono fun _ h _=>.tail _ h) hf) hp
noncomputable def Xy (T:Pl) (w:World) (e:En) (env:Env) (g:Heap) (F:Led) (U:Nat->Addr) (n:Nat) (σ:Shared) (C:List (V×V)->St->Prop) (Q:List (Value×Value)->Shared->Prop):Prop :=
 ∀ F' ρ' m' led' h' t' l ys S',Ext F U n F' ρ' S'.n->Dx T w e env g ρ' m' led' F' S' (At σ h' t')->Each (fun p q=>VR T F' ρ' S'.n p.1 q.1/\VR T F' ρ' S'.n p.2 q.2) l ys->C l S'->Q ys (At σ h' t')
noncomputable def fz (env:Env) (pos:Pos):List (Option Expr)->List Expr->List (Sem Value×Sem Value)
 | some k::ks,v::vs=>(eval k env,do let x ← eval v env;standAt pos;pure x)::fz env pos ks vs
 | _,_=>[]
theorem og {pos:Pos}:∀ {ks:List (Option Expr)} {vs:List Expr},An ks vs=true->(evalEachOpt ks env).zip ((evalEach vs env).map fun v=>do let x ← v;standAt pos;pure x)=(fz env pos ks vs).map (fun p=>(some p.1,p.2))/\(fz env pos ks vs).length=ks.length:=by
 intro ks
 induction ks with
 | nil=>intro vs h;induction vs using List.casesOn with
  | nil=>exact ⟨rfl,rfl⟩
  | cons=>exact (by contradiction)
 | cons k ks ih =>
  intro vs h
  induction k using Option.casesOn with
  | none=>exact (by contradiction)
  | some k=>induction vs using List.casesOn with
   | nil=>exact (by contradiction)
   | cons v vs =>
    obtain ⟨i1,i2⟩:=ih (vs:=vs) h
    exact ⟨congrArg (List.cons _) i1,congrArg Nat.succ i2⟩
theorem Gw (Z:Snd T w K lz mn mg mb r) (X:Sx T w K lz mn mg mb e env g A) {pos:Pos} {ks:List (Option Expr)}:∀ {vs:List Expr} {F:Led} {U:Nat->Addr} {m:Str->Option Value} {led:Led} {S:St} {σ:Shared} {C:List (V×V)->St->Prop} {Q:List (Value×Value)->Shared->Prop},
  Dx T w e env g U m led F S σ->pairs False r e ks vs S C->Xy T w e env g F U S.n σ C Q->wpAny (model PG w) A (evalPairs (fz env pos ks vs)) Q E σ:=by
 induction ks with
 | nil =>
  intro vs F U m led S σ C Q D h hQ
  induction vs using List.casesOn with
  | nil=>exact wpAny_pure (hQ F U m led σ.heap σ.toks [] [] S (Ext.refl _ _ _) D .nil h)
  | cons=>exact h.elim
 | cons k ks ih =>
  intro vs F U m led S σ C Q D h hQ
  induction k using Option.casesOn with
  | none=>exact h.elim
  | some k=>induction vs using List.casesOn with
   | nil=>exact h.elim
   | cons v vs =>
    show wpAny _ _ (do
     let kv ← eval k env
     let vv ← holding [kv] (do let x ← eval v env;standAt pos;pure x)
     return (kv,vv)::(← holding [kv,vv] (evalPairs (fz env pos ks vs)))) Q E σ
    exact wpAny_bind (Z.e X D h fun F1 ρ1 m1 led1 h1 t1 kv x S1 x1 D1 hk hp=>wpAny_bind (wpAny_holding (wpAny_bind (Z.e X D1 hp fun F2 ρ2 m2 led2 h2 t2 vv y S2 x2 D2 hv hp=>wpAny_bind (wpAny_standAt (wpAny_pure (wpAny_bind
     (wpAny_holding (ih D2 hp fun F3 ρ3 m3 led3 h3 t3 l ys S3 x3 D3 hl hp=>wpAny_pure (hQ F3 ρ3 m3 led3 h3 t3 _ _ S3 ((x1.trans x2).trans x3) D3 (.cons ⟨(x2.trans x3).vr hk,x3.vr hv⟩ hl) hp))))))))))
theorem yl {F:Led} {U:Nat->Addr} {n:Nat} {l:List (Int×V)} {ps:List (Int×P)} {kvs:List (Int×Value)} (h:Each (fun p q=>p.1=q.1/\VR T F U n p.2 q.2) l kvs) (e:nx l=some ps):Each (fun p q=>p.1=q.1/\PR T F p.2 q.2) ps kvs:=by
 induction h generalizing ps with
 | nil=>(injection e with e;subst e);exact .nil
 | @cons v y vs ys hv _ ih =>
  obtain ⟨k,v⟩:=v
  induction v using V.casesOn with
  | ref=>exact (by contradiction)
  | p x =>
   have e:(match nx vs with | some l=>some ((k,x)::l) | none=>none)=_:=e
   induction hl:nx vs using Option.casesOn with
   | none=>exact nomatch (hl ▸ e)
   | some l=>rw [hl] at e; (injection e with e;subst e);exact .cons ⟨hv.1,hv.2.pure⟩ (ih hl)
theorem t6 {a b:V} {r:List (V×V)} {es:List (Int×V)} (h:gi ((a,b)::r)=some es):∃ k l,a = .p (.int k)/\gi r=some l/\(k,b)::l=es:=by
 induction a using V.casesOn with
 | ref=>exact (by contradiction)
 | p a=>induction a using P.casesOn with
  | int k =>
   have h:(match gi r with | some l=>some ((k,b)::l) | none=>none)=_:=h
   induction hl:gi r using Option.casesOn with
   | none=>exact nomatch (hl ▸ h)
   | some l=>rw [hl] at h; (injection h with h;subst h);exact ⟨k,l,rfl,rfl,rfl⟩
  | _=>exact (by contradiction)
theorem t7 {F:Led} {U:Nat->Addr} {n:Nat} {l:List (V×V)} {es:List (Int×V)} {ys:List (Value×Value)} (h:Each (fun p q=>VR T F U n p.1 q.1/\VR T F U n p.2 q.2) l ys) (e:gi l=some es) :
  ∃ kvs:List (Int×Value),Carries (intKind PG w) ys kvs/\Each (fun p q=>p.1=q.1/\VR T F U n p.2 q.2) es kvs:=by
 induction h generalizing es with
 | nil=>(injection e with e;subst e);exact ⟨[],trivial,.nil⟩
 | @cons v y r ys hv _ ih =>
  refine bc fun hG=>?_
  obtain ⟨a,b⟩:=v
  obtain ⟨y1,y2⟩:=y
  obtain ⟨k,l,rfl,hl,rfl⟩:=t6 e
  obtain ⟨kvs,h1,h2⟩:=ih hl
  obtain ⟨hk,hv⟩:=hv
  obtain ⟨t,rfl⟩:=hk.pure.inv
  refine hG ?_
  exact ⟨(k,y2)::kvs,⟨intKind_is PG w k t,rfl,h1⟩,.cons ⟨rfl,hv⟩ h2⟩
theorem t8 {a b:V} {r:List (V×V)} {es:List (Str×P)} (h:gj ((a,b)::r)=some es):∃ k v l,a = .p (.str k)/\b = .p v/\gj r=some l/\(k,v)::l=es:=by
 induction a using V.casesOn with
 | ref=>exact (by contradiction)
 | p a=>induction a using P.casesOn with
  | str k=>induction b using V.casesOn with
   | ref=>exact (by contradiction)
   | p v =>
    have h:(match gj r with | some l=>some ((k,v)::l) | none=>none)=_:=h
    induction hl:gj r using Option.casesOn with
    | none=>exact nomatch (hl ▸ h)
    | some l=>rw [hl] at h; (injection h with h;subst h);exact ⟨k,v,l,rfl,rfl,rfl,rfl⟩
  | _=>exact (by contradiction)
theorem t9 {F:Led} {U:Nat->Addr} {n:Nat} {l:List (V×V)} {es:List (Str×P)} {ys:List (Value×Value)} (h:Each (fun p q=>VR T F U n p.1 q.1/\VR T F U n p.2 q.2) l ys) (e:gj l=some es) :
  ∃ kvs:List (Str×Value),Carries (PySem.strKind PG w) ys kvs/\Each (fun p q=>p.1=q.1/\PR T F p.2 q.2) es kvs:=by
 induction h generalizing es with
 | nil=>(injection e with e;subst e);exact ⟨[],trivial,.nil⟩
 | @cons v y r ys hv _ ih =>
  refine bc fun hG=>?_
  obtain ⟨a,b⟩:=v
  obtain ⟨y1,y2⟩:=y
  obtain ⟨k,v,l,rfl,rfl,hl,rfl⟩:=t8 e
  obtain ⟨kvs,h1,h2⟩:=ih hl
  obtain ⟨hk,hv⟩:=hv
  obtain ⟨t,rfl⟩:=hk.pure.inv
  refine hG ?_
  exact ⟨(k,y2)::kvs,⟨strKind_is PG w k t,rfl,h1⟩,.cons ⟨rfl,hv.pure⟩ h2⟩
theorem wg {κ:Type} [DecidableEq κ] {k:κ} {kvs:List (κ×Value)} (h:valueAt kvs k=none):k∉kvs.map (·.1):=fun hm=>by
 obtain ⟨q,hq,e'⟩:=List.mem_map.mp hm
 unfold valueAt at h
 rw [Option.map_eq_none_iff,List.find?_eq_none] at h
 exact h q hq (beq_iff_eq.mpr e')
theorem ua {α:Type} {R:α->Value->Prop} {es:List (Int×α)} {kvs:List (Int×Value)} (h:Each (fun p q=>p.1=q.1/\R p.2 q.2) es kvs) (ho:s8 es=true):(kvs.map (·.1)).Nodup:=by
 induction h with
 | nil=>exact .nil
 | @cons e k es kvs h hs ih =>
  have ho:(match eh e.1 es with | none=>s8 es | some _=>false)=true:=ho
  have:=iq (i:=e.1) hs
  induction hd:eh e.1 es using Option.casesOn with
  | some=>rw [hd] at ho;exact nomatch ho
  | none =>
   rw [hd] at this ho
   rw [h.1] at this
   exact List.nodup_cons.mpr ⟨wg this,ih ho⟩
theorem Bl {α:Type} {R:α->Value->Prop} {i:Str} {es:List (Str×α)} {kvs:List (Str×Value)} (h:Each (fun p q=>p.1=q.1/\R p.2 q.2) es kvs):(match look i es with | some p=>∃ v,valueAt kvs i=some v/\R p v | none=>valueAt kvs i=none):=by
 induction h with
 | nil=>rfl
 | @cons p q es kvs h hs ih =>
  rw [ag]
  by_cases e:p.1=i
  ·rw [if_pos e]
   refine ⟨q.2,?_,h.2⟩
   unfold valueAt
   rw [List.find?_cons_of_pos (by simp [← h.1,e])];rfl
  ·rw [if_neg e]
   have:valueAt (q::kvs) i=valueAt kvs i:=by
    unfold valueAt
    rw [List.find?_cons_of_neg (by simp [← h.1,e])]
   rw [this]
   exact ih
theorem ub {α:Type} {R:α->Value->Prop} {es:List (Str×α)} {kvs:List (Str×Value)} (h:Each (fun p q=>p.1=q.1/\R p.2 q.2) es kvs) (ho:s9 es=true):(kvs.map (·.1)).Nodup:=by
 induction h with
 | nil=>exact .nil
 | @cons e k es kvs h hs ih =>
  have ho:(match look e.1 es with | none=>s9 es | some _=>false)=true:=ho
  have:=Bl (i:=e.1) hs
  induction hd:look e.1 es using Option.casesOn with
  | some=>rw [hd] at ho;exact nomatch ho
  | none =>
   rw [hd] at this ho
   rw [h.1] at this
   exact List.nodup_cons.mpr ⟨wg this,ih ho⟩
theorem uc {κ:Type} [DecidableEq κ]:∀ (kvs acc:List (κ×Value)),(((acc++kvs).map (·.1)).Nodup)->merged acc kvs=acc++kvs:=by
 intro l0
 induction l0 with
 | nil =>
  intro acc _
  simp [merged]
 | cons k kvs ih =>
  intro acc h
  have h':((acc++[k])++kvs).map (·.1)=(acc++k::kvs).map (·.1):=by simp
  have hst:stored acc k.1 k.2=acc++[k]:=by
   unfold stored
   rw [if_neg]
   intro ha
   obtain ⟨q,hq,e⟩:=List.any_eq_true.mp ha
   rw [List.map_append,List.map_cons,List.nodup_append] at h
   exact h.2.2 q.1 (List.mem_map_of_mem (f:=(·.1)) hq) k.1 (.head _) (by simpa using e)
  show merged (stored acc k.1 k.2) kvs=_
  rw [hst,ih (acc++[k]) (by rw [h'];exact h)]
  simp
theorem Dx.apart (D:Dx T w e env g U m led F S σ) {a:Addr} {o:Obj} (h:(a,o)∈led):∃ pre post,led=pre++(a,o)::post/\(∀ p∈pre,p.1≠a)/\(∀ p∈post++F,p.1≠a):=by
 have nd:=D.rel.nodup
 obtain ⟨pre,post,rfl,h1,h2⟩:=n6 ((List.nodup_append.mp (List.map_append ▸ nd)).1) h
 refine ⟨pre,post,rfl,h1,fun p hp q=>?_⟩
 have e1:(pre++(a,o)::post)++F=pre++(a,o)::(post++F):=by simp
 rw [e1,List.map_append,List.map_cons,List.nodup_append] at nd
 exact (List.nodup_cons.mp nd.2.1).1 (q ▸ List.mem_map_of_mem (f:=(·.1)) hp)
theorem ym {o:Option VO} {k:Prop} (h:match o with | some (.dicti [])=>k | _=>False):o=some (.dicti [])/\k:=by
 induction o using Option.casesOn with
 | none=>exact False.elim h
 | some x=>induction x using VO.casesOn with
  | dicti l=>induction l using List.casesOn with
   | nil=>exact ⟨rfl,h⟩
   | cons=>exact False.elim h
  | _=>exact False.elim h
theorem ud {l:List (V×V)} {o:VO} (h:fx true l=some o):∃ es,gi l=some es/\s8 es=true/\((∃ ps,nx es=some ps/\o = .dicti ps)\/o = .dictiV es):=by
 delta fx at h
 induction q:gi l using Option.casesOn with
 | none=>rw [q] at h;exact nos h
 | some es =>
 rw [q] at h
 have h:(match s8 es with | true=>(match nx es with | some l=>some (.dicti l) | none=>some (.dictiV es)) | false=>none)=some o:=h
 induction q1:s8 es using Bool.casesOn with
 | false=>rw [q1] at h;exact nos h
 | true =>
 rw [q1] at h
 have h:(match nx es with | some l=>some (.dicti l) | none=>some (.dictiV es))=some o:=h
 refine ⟨es,rfl,q1,?_⟩
 induction q2:nx es using Option.casesOn with
 | none=>rw [q2] at h;exact .inr (Option.some.inj h).symm
 | some ps=>rw [q2] at h;exact .inl ⟨ps,rfl,(Option.some.inj h).symm⟩
theorem ue {l:List (V×V)} {o:VO} (h:fx false l=some o):∃ es,gj l=some es/\s9 es=true/\o = .dicts es:=by
 delta fx at h
 induction q:gj l using Option.casesOn with
 | none=>rw [q] at h;exact nos h
 | some es =>
 rw [q] at h
 have h:(match s9 es with | true=>some (.dicts es) | false=>none)=some o:=h
 induction q1:s9 es using Bool.casesOn with
 | false=>rw [q1] at h;exact nos h
 | true=>rw [q1] at h;exact ⟨es,rfl,q1,(Option.some.inj h).symm⟩
theorem Mc (Z:Snd T w K lz mn mg mb r) (X:Sx T w K lz mn mg mb e env g A) (D:Dx T w e env g U m led F S σ) {ks:List (Option Expr)} {vs:List Expr} {pos:Pos} {C:V->St->Prop} (h:evE False O r e (.Dict ks vs pos) S C) {Q:Value->Shared->Prop}
  (hQ:PostE T w e env g F U S.n σ C Q):wpAny (model PG w) A (eval (.Dict ks vs pos) env) Q E σ:=by
 have emp:∀ a,OR T w F (fun k=>if k=S.n then σ.heap.objs.size else U k) (S.n+1) a (.dicti []) { cls:=.type "dict",data:=.dict #[] }:=fun a =>
  .dicti (kvs:=[]) ⟨#[],0,⟨rfl,rfl,rfl⟩,rfl,(by intro i h;exact absurd h (by simp)),.nil,.nil⟩ .nil (by simp)
 have hQ':∀ {F1 ρ1 m1 led1 h1 t1 S1},Ext F (fun k=>if k=S.n then σ.heap.objs.size else U k) (S.n+1) F1 ρ1 S1.n->Dx T w e env g ρ1 m1 led1 F1 S1 (At σ h1 t1)->C (.ref S.n) S1->Q (.ref σ.heap.objs.size) (At σ h1 t1):=by
  intro F1 ρ1 m1 led1 h1 t1 S1 x1 D1 hp
  have hv:VR T F1 ρ1 S1.n (.ref S.n) (.ref σ.heap.objs.size):=by
   have:=VR.ref (T:=T) (F:=F1) (U:=ρ1) (n:=S1.n) (k:=S.n) (Nat.lt_of_lt_of_le (Nat.lt_succ_self _) x1.le)
   rw [x1.same _ (Nat.lt_succ_self _),if_pos rfl] at this
   exact this
  exact hQ F1 ρ1 m1 led1 h1 t1 _ _ S1 ((Ext.new _ _ _ _).trans x1) D1 hv hp
 have D0:Dx T w e env g (fun k=>if k=S.n then σ.heap.objs.size else U k) m ((σ.heap.objs.size,{ cls:=.type "dict",data:=.dict #[] })::led) F (new (.dicti []) S) { σ with heap:=σ.heap.push { cls:=.type "dict",data:=.dict #[] } } :=
  D.more (h':=σ.heap.push { cls:=.type "dict",data:=.dict #[] }) (t:=σ.toks) (D.fr.push _) (D.nw.push D.fr _) D.lt (emp _)
 delta evE Ki at h
 induction ks using List.casesOn with
 | nil =>
  induction vs using List.casesOn with
  | nil=>exact wpAny_Dict_empty (hQ' (t1:=σ.toks) (Ext.refl _ _ _) D0 h)
  | cons=>exact h.elim
 | cons k ks =>
  obtain ⟨hl,h⟩:=ab h
  rw [Bool.and_eq_true] at hl
  obtain ⟨hs1,hs2⟩:=og (env:=env) (pos:=pos) hl.2
  have hlen:(fz env pos (k::ks) vs).length<=15:=by exact hs2 ▸ (c7 hl.1)
  have hne:fz env pos (k::ks) vs≠[]:=fun q=>by rw [q] at hs2;simp at hs2
  have main:∀ {κ:Type} [DecidableEq κ] (knd:KeyKind PG w κ),(∀ (F1:Led) (ρ1:Nat->Addr) (m1:Str->Option Value) (led1:Led) (h1:Heap) (t1:Nat) (l:List (V×V)) (ys:List (Value×Value)) (S1:St),Ext F (fun k=>if k=S.n then σ.heap.objs.size else U k) (S.n+1) F1 ρ1 S1.n->Dx T w e env g ρ1 m1 led1 F1 S1 (At σ h1 t1) ->
    Each (fun p q=>VR T F1 ρ1 S1.n p.1 q.1/\VR T F1 ρ1 S1.n p.2 q.2) l ys -> ∀ o,fx (intKeys (k::ks)) l=some o ->
    ∃ kvs,Carries knd ys kvs/\(kvs.map (·.1)).Nodup/\kvs.length=l.length/\(∀ ob:Obj,ob.IsDictOf (intKind PG w) []->ob.IsDictOf knd []) /\ ∀ ob:Obj,ob.IsDictOf knd kvs->kvs.length<=1000->OR T w F1 ρ1 S1.n (ρ1 S.n) o ob) ->
    wpAny (model PG w) A (eval (.Dict (k::ks) vs pos) env) Q E σ:=by
   intro κ _ knd hk
   refine wpAny_Dict_pairs (knd:=knd) hs1 hne hlen (wpAny_mono (wpAny_evalPairs_len (Gw Z X (Q:=fun ys s1=>ys.length<=15 -> ∃ kvs,Carries knd ys kvs/\s1.heap.DictOf knd σ.heap.objs.size [] /\
    ∀ h',h'.DictOf knd σ.heap.objs.size (merged [] kvs)->Heap.SameBut σ.heap.objs.size s1.heap h'->Q (.ref σ.heap.objs.size) { s1 with heap:=h',toks:=s1.toks+ys.length }) D0 h
    fun F1 ρ1 m1 led1 h1 t1 l ys S1 x1 D1 hl hp hlen'=>?_)) (fun ys s1 q=>q.2 (q.1 ▸ hlen)) fun _ _ x=>x)
   obtain ⟨hg,hp⟩:=ym (k:=opt False (fx (intKeys (k::ks)) l) fun o=>C (.ref S.n) (upd S.n o S1)) hp
   obtain ⟨o,ho,hp⟩:=ac hp
   refine bc fun hG=>?_
   obtain ⟨kvs,c1,c2,c3,c4,c5⟩:=hk F1 ρ1 m1 led1 h1 t1 l ys S1 x1 D1 hl o ho
   refine hG ?_
   have ha:ρ1 S.n=σ.heap.objs.size:=by rw [x1.same _ (Nat.lt_succ_self _),if_pos rfl]
   refine bc fun hG=>?_
   obtain ⟨ob,hob,hor⟩:=D1.rel.obj _ _ hg
   refine hG ?_
   rw [ha] at hob
   refine bc fun hG=>?_
   cases hor with
   | dicti hd he _ =>
    refine hG ?_
    cases he
    refine ⟨kvs,c1,Heap.dictOf_iff.mpr ⟨ob,D1.at hob,c4 _ hd⟩,fun h' hm hsb=>?_⟩
    rw [uc kvs [] (by simpa using c2),List.nil_append] at hm
    refine bc fun hG=>?_
    obtain ⟨o',ho',hd'⟩:=Heap.dictOf_iff.mp hm
    obtain ⟨pre,post,rfl,a1,a2⟩:=D1.apart hob
    refine hG ?_
    refine hQ' (S1:=upd S.n o S1) (m1:=m1) (led1:=pre++(σ.heap.objs.size,o')::post) x1 (D1.turn ha hg hsb ho' ?_) hp
    have:=c5 o' hd' (by exact (c1.length) ▸ (Nat.le_trans hlen' (Nat.le_of_ble_eq_true rfl)))
    exact (ha ▸ this)
  have emptyStr:∀ ob:Obj,ob.IsDictOf (intKind PG w) []->ob.IsDictOf (PySem.strKind PG w) []:=by
   intro ob hH
   refine bc fun hG=>?_
   obtain ⟨es,ep,h1,h2,h3,h4,h5⟩:=hH
   refine hG ?_
   have:es.toList=[]:=by induction q:es.toList using List.casesOn with | nil=>rfl | cons=>rw [q] at h4;contradiction
   have:es = #[]:=by simpa using this
   subst this
   exact ⟨#[],ep,h1,h2,(by intro i h;exact absurd h (by simp)),.nil,.nil⟩
  induction hi:intKeys (k::ks) using Bool.casesOn with
  | true =>
   refine main (intKind PG w) fun F1 ρ1 m1 led1 h1 t1 l ys S1 x1 D1 hl o ho=>?_
   rw [hi] at ho
   obtain ⟨es,hes,hon,ho⟩:=ud ho
   obtain ⟨kvs,c1,c2⟩:=t7 (w:=w) hl hes
   refine ⟨kvs,c1,ua c2 hon,by rw [c1.length,hl.length],fun _ h=>h,fun ob hd hk=>?_⟩
   rcases ho with ⟨ps,hps,rfl⟩ | rfl
   ·exact .dicti hd (yl c2 hps) hk
   ·exact .dictiV hd c2 hk
  | false =>
   refine main (PySem.strKind PG w) fun F1 ρ1 m1 led1 h1 t1 l ys S1 x1 D1 hl o ho=>?_
   rw [hi] at ho
   obtain ⟨es,hes,hon,rfl⟩:=ue ho
   obtain ⟨kvs,c1,c2⟩:=t9 (w:=w) hl hes
   exact ⟨kvs,c1,ub c2 hon,by rw [c1.length,hl.length],emptyStr,fun ob hd hk=>.dicts hd c2 hk⟩
end
end Mine
end
section
open PySem PySem.W PySem.Spec PySem.Calls PyProof.Rows PySem.SeqAt
namespace Mine
theorem uf (slice:Expr) (o i:Value):∃ ops,subscripted slice false o i=operate ops (PySem.getItem o i):=by
 induction slice using Expr.casesOn with
 | Slice lo hi st p=>induction st using Option.casesOn <;> exact ⟨_,rfl⟩
 | _=>exact ⟨_,rfl⟩
theorem Kq {i:Int} {n j:Nat} (h:idx i n=some j):j<n/\((0<=i/\j=i.toNat)\/(i<0/\0<=i+n/\j=(i+n).toNat)):=by
 have h:(match decide (0<=i) with | true=>(match decide (i<n) with | true=>some i.toNat | false=>none) | false=>(match decide (0<=i+n) with | true=>some (i+n).toNat | false=>none))=some j:=h
 by_cases h0:0<=i
 ·rw [decide_eq_true h0] at h
  by_cases h1:i<n
  ·rw [decide_eq_true h1] at h
   obtain rfl:=Option.some.inj h
   exact ⟨(Int.toNat_lt h0).mpr h1,.inl ⟨h0,rfl⟩⟩
  ·rw [decide_eq_false h1] at h;exact nos h
 ·rw [decide_eq_false h0] at h
  by_cases h1:0<=i+n
  ·rw [decide_eq_true h1] at h
   obtain rfl:=Option.some.inj h
   exact ⟨by exact azm h0 h1,.inr ⟨Int.not_le.mp h0,h1,rfl⟩⟩
  ·rw [decide_eq_false h1] at h;exact nos h
section
variable {prog:Program} {w:World} {A:Around} {E:Value->Shared->Prop} {s:Shared}
theorem oh {l:Addr} {vs:List Value} {i:Int} {t:Tok} {j:Nat} {x:Value} {Q:Value->Shared->Prop} (hl:s.heap.IsList l vs.toArray) (hn:vs.length<=2000) (hj:idx i vs.length=some j) (hx:vs[j]? = some x) (h:Q x s) :
  wpAny (model prog w) A (PySem.getItem (.ref l) (.int i t)) Q E s:=by
 refine bc fun hG=>?_
 rcases (Kq hj).2 with ⟨h0,rfl⟩ | ⟨h0,h1,rfl⟩
 ·refine hG ?_
  have:=(Kq hj).1
  exact wpAny_getItem_list hl h0 (by omega) (by simpa using hx) h
 ·refine hG ?_
  exact wpAny_getItem_list_neg hl h0 (by rw [List.size_toArray];exact Z0 h1) (by omega) (by simpa using hx) h
end
theorem gu {α:Type} {R:α->Value->Prop} {xs:List α} {vs:List Value} {i:Int} {x:α} (h:Each R xs vs) (e:item xs i=some x):∃ j v,idx i vs.length=some j/\vs[j]? = some v/\R x v:=by
 delta item at e
 refine bc fun hG=>?_
 split at e
 ·refine hG ?_
  rename_i j hj
  obtain ⟨v,hv,hr⟩:=h.get e
  exact ⟨j,v,by rw [← h.length];exact hj,hv,hr⟩
 ·refine hG ?_
  injection e
theorem wh (x:Str) (a k:Nat):((List.range k).map (a + ·)).filterMap (x.cps[·]?)=(x.cps.toList.drop a).take k:=by
 induction k with
 | zero=>simp
 | succ k ih =>
  rw [List.range_succ,List.map_append,List.filterMap_append,ih,List.take_add_one]
  congr 1
  simp only [List.map_cons,List.map_nil,List.getElem?_drop,Array.getElem?_toList]
  induction h:x.cps[a+k]? using Option.casesOn <;> simp [h]
theorem yn (x:Str) {i:Int} (h0:0<=i):Txt.slice x (some i) none=⟨(x.cps.toList.drop i.toNat).toArray⟩:=by
 have key:Builtin.Str.strSliceIndices (some i) none 1 x.length=(List.range (x.length - min i.toNat x.length)).map (min i.toNat x.length + ·):=by
  delta Builtin.Str.strSliceIndices
  have h1:¬ i<0:=by exact Int.not_lt.mpr h0
  simp only [h1,if_false,show (1:Int) > 0 by decide,if_true]
  have:max 0 (min i (x.length:Int))=((min i.toNat x.length:Nat):Int):=by exact Zl
  rw [this,sliceRange_one]
 delta Txt.slice
 rw [key]
 split
 ·rename_i hq
  simp at hq
  have hl:x.length=x.cps.size:=rfl
  have hq:i.toNat=0\/x.length=0:=by exact azi hq
  rcases hq with hq | hq
  ·rw [hq];simp
  ·have:x.cps.size=0:=by exact hq
   have e:x.cps.toList=[]:=by
    induction x using Str.casesOn with | mk c=>simpa using this
   rw [e]
   induction x using Str.casesOn with | mk c =>
    simp at e
    simp [e]
 ·rw [wh]
  congr 2
  have hl:x.cps.toList.length=x.length:=by simp;rfl
  rw [List.take_of_length_le (by exact (List.length_drop) ▸ (Nat.le_refl _))]
  by_cases hc:i.toNat<=x.length
  ·rw [Nat.min_eq_left hc]
  ·rw [Nat.min_eq_right (by exact Zx hc),List.drop_of_length_le (by exact Nat.le_refl _),List.drop_of_length_le (by exact Zw hl hc)]
theorem yo (x:Str) {i:Int} (h0:0<=i):Txt.slice x none (some i)=⟨(x.cps.toList.take i.toNat).toArray⟩:=by
 have key:Builtin.Str.strSliceIndices none (some i) 1 x.length=(List.range (min i.toNat x.length - 0)).map (0 + ·):=by
  unfold Builtin.Str.strSliceIndices
  have h1:¬ i<0:=by exact Int.not_lt.mpr h0
  simp only [h1,if_false,show (1:Int) > 0 by decide,if_true]
  have:max 0 (min i (x.length:Int))=((min i.toNat x.length:Nat):Int):=by exact Zl
  rw [this]
  exact sliceRange_one 0 _
 have hl:x.cps.toList.length=x.length:=by simp;rfl
 unfold Txt.slice
 rw [key]
 split
 ·rename_i hq
  simp at hq
  rw [List.take_of_length_le (by exact azx hl hq)]
 ·rw [wh]
  congr 2
  rw [List.drop_zero,Nat.sub_zero]
  by_cases hc:i.toNat<=x.length
  ·rw [Nat.min_eq_left hc]
  ·rw [Nat.min_eq_right (by exact Zx hc),List.take_of_length_le (by exact Nat.le_refl _),List.take_of_length_le (by exact Zw hl hc)]
section
variable {T:Pl} {w:World} {K:Frag} {lz:List Str} {mn:ExcName->Option Value} {mg mb:Str->Option Value} {r:H Prop} {O:Known Prop} {e:En} {env:Env} {g:Heap} {A:Around} {F:Led} {U:Nat->Addr} {m:Str->Option Value} {led:Led} {S S':St} {σ:Shared}
 {E:Value->Shared->Prop}
theorem int_of {α:Type} {x:P} {f:Int->Option α} {b:α} (h:(match x with | .int j=>f j | _=>none)=some b):∃ j,x = .int j/\f j=some b:=by
 induction x using P.casesOn with
 | int j=>exact ⟨_,rfl,h⟩
 | _=>exact nos h
theorem Bm {o:Option P} {v:V} (h:o.map V.p=some v):∃ z,o=some z/\v = .p z:=by
 induction o using Option.casesOn with
 | none=>exact nos h
 | some z=>exact ⟨z,rfl,(Option.some.inj h).symm⟩
noncomputable def qn (a i z:P):Prop:=∃ k,i = .int k/\((∃ x j c,a = .str x/\x.cps.size<=2000/\idx k x.cps.size=some j/\x.cps[j]? = some c/\z = .str ⟨#[c]⟩)\/(∃ xs,a = .lst xs/\item xs k=some z) \/ ∃ xs,a = .tup xs/\item xs k=some z)
theorem Gx {x:Str} {k:Int} {z:P} (h:j2 (.str x) (.int k)=some z):qn (.str x) (.int k) z:=by
 have h:(match fits x.cps.size with | true=>(match idx k x.cps.size with | some j=>(x.cps[j]?).map fun c=>P.str ⟨#[c]⟩ | none=>none) | false=>none)=some z:=h
 induction hf:fits x.cps.size using Bool.casesOn with
 | false=>exact nos (hf ▸ h)
 | true =>
  rw [hf] at h
  induction hj:idx k x.cps.size using Option.casesOn with
  | none=>exact nos (hj ▸ h)
  | some j =>
   rw [hj] at h
   obtain ⟨c,hc,rfl⟩:=Option.map_eq_some_iff.mp h
   exact ⟨k,rfl,.inl ⟨x,j,c,rfl,bt hf,hj,hc,rfl⟩⟩
theorem Bn {a i z:P} (h:j2 a i=some z):qn a i z:=by
 have all:OptP (qn a i) (j2 a i):=by
  have of:∀ {a i:P},(∀ z,j2 a i=some z->qn a i z)->OptP (qn a i) (j2 a i):=fun {a i} h=>by
   induction e:j2 a i using Option.casesOn with
   | none=>trivial
   | some z=>exact h z e
  induction a using P.casesOn with
  | lst xs=>induction i using P.casesOn with
   | int k=>exact of fun z h=>⟨k,rfl,.inr (.inl ⟨_,rfl,h⟩)⟩
   | _=>trivial
  | tup xs=>induction i using P.casesOn with
   | int k=>exact of fun z h=>⟨k,rfl,.inr (.inr ⟨_,rfl,h⟩)⟩
   | _=>trivial
  | str x=>induction i using P.casesOn with
   | int k=>exact of fun z h=>Gx h
   | _=>trivial
  | _=>trivial
 exact all.get h
theorem dk {κ:Type} [DecidableEq κ] {kd:KeyKind PG w κ} {value slice:Expr} {a:Addr} {ob:Obj} {kvs:List (κ×Value)} {k:κ} {y u:Value} {Q:Value->Shared->Prop} (hk:kd.is k y=true) (h:σ.heap.get? a=some ob) (hd:ob.IsDictOf kd kvs) (hv:valueAt kvs k=some u) (hQ:∀ t,Q u { σ with toks:=t }) :
  wpAny (model PG w) A (subscriptTail value slice (.ref a) y) Q E σ:=by
 have hdo:=Heap.dictOf_iff.mpr ⟨ob,h,hd⟩
 obtain ⟨ops,hs⟩:=uf slice (.ref a) y
 exact tail_any hdo.typeIs slot_dict_getitem.lookup (wpAny_getItem_of hk hdo.mapOf hv (hQ _)) hs
theorem f5 {R:Value->Prop} {value slice:Expr} {a:Addr} {vs:List Value} {e:Nat} {k:Int} {t:Tok} {Q:Value->Shared->Prop} (h:σ.heap.get? a=some (listOf vs.toArray e)) (hl:vs.length<=2000) (hi:∃ j v,idx k vs.length=some j/\vs[j]? = some v/\R v) (hQ:∀ u t,R u->Q u { σ with toks:=t }) :
  wpAny (model PG w) A (subscriptTail value slice (.ref a) (.int k t)) Q E σ:=by
 refine bc fun hG=>?_
 obtain ⟨j,u',h1,h2,h3⟩:=hi
 have hL:σ.heap.IsList _ _:=⟨_,h,rfl,_,rfl⟩
 obtain ⟨ops,hs⟩:=uf slice (.ref a) (.int k t)
 refine hG ?_
 exact tail_any hL.typeIs slot_list_getitem.lookup (oh hL hl h1 h2 (hQ _ σ.toks h3)) hs
theorem yp {a v:V} {i:P} {x y:Value} {value slice:Expr} (D:Dx T w e env g U m led F S σ) (hx:VR T F U S.n a x) (hy:PR T F i y) (h:getItem a i S=some v) {Q:Value->Shared->Prop} (hQ:∀ u t,VR T F U S.n v u->Q u { σ with toks:=t }) :
  wpAny (model PG w) A (subscriptTail value slice x y) Q E σ:=by
 induction a using V.casesOn with
 | p a =>
  obtain ⟨z,hz,rfl⟩:=Bm h
  obtain ⟨k,rfl,hw⟩:=Bn hz
  obtain ⟨u,rfl⟩:=hy.inv
  obtain ⟨ops,hs⟩:=uf slice x (.int k u)
  have hQ:∀ u t,PR T F z u->Q u { σ with toks:=t }:=fun u t h=>hQ u t (.p h)
  rcases hw with ⟨x,j,c,rfl,hf,hj,hc,rfl⟩ | ⟨xs,rfl,hz⟩ | ⟨xs,rfl,hz⟩
  ·obtain ⟨t,rfl⟩:=hx.pure.inv
   obtain ⟨i1,i2,i3⟩:=Kp hf hj
   refine tail_any (typeIs_str σ x t) PySem.F.slot_str_getitem.lookup (P.getItem_str (c:=c) ?_ ?_ (hQ _ _ (.str _ _))) hs
   ·rw [Bool.or_eq_false_iff,decide_eq_false_iff_not,decide_eq_false_iff_not];exact bz1 i2 i3
   ·show (seqIndex? k x.cps.size).bind (x.cps[·]?)=some c
    exact i1 ▸ hc
  ·obtain ⟨vs,l,n,rfl,hm,hr,hl⟩:=hx.pure.inv
   exact f5 (D.frz hm) hl (gu hr.each hz) hQ
  ·obtain ⟨vs,l,rfl,hm,hr,hl⟩:=hx.pure.inv
   refine bc fun hG=>?_
   obtain ⟨j,u',h1,h2,h3⟩:=gu hr.each hz
   have hL:IsTup σ.heap _ _:=⟨_,D.frz hm,rfl,_,rfl⟩
   obtain ⟨i1,i2,i3⟩:=Kp hl h1
   refine hG ?_
   exact tail_any hL.typeIs slot_tuple_getitem.lookup (getItem_tuple hL i2 i3 i1 (by exact (List.getElem?_toArray) ▸ h2) (hQ _ σ.toks h3)) hs
 | ref k =>
  obtain ⟨hk,rfl⟩:=hx.inv
  have h:(match S.h.get k with
   | some (.list xs)=>(match (generalizing:=false) i with | .int j=>(item xs j).map V.p | _=>none)
   | some (.listV xs)=>(match (generalizing:=false) i with | .int j=>item xs j | _=>none)
   | some (.dicti es)=>(match (generalizing:=false) i with | .int j=>(eh j es).map V.p | _=>none)
   | some (.dictR es)=>(match (generalizing:=false) i with | .int j=>(eh j es).map V.p | _=>none)
   | some (.dictiV es)=>(match (generalizing:=false) i with | .int j=>eh j es | _=>none)
   | some (.dicts es)=>(match (generalizing:=false) i with | .str j=>(look j es).map V.p | _=>none)
   | _=>none)=some v:=h
  induction hg:S.h.get k using Option.casesOn with
  | none=>exact nos (hg ▸ h)
  | some o =>
   rw [hg] at h
   obtain ⟨ob,hob,hor⟩:=D.rel.objs k _ hg
   have hm:σ.heap.get? (U k)=some ob:=(D.nw _ (hob.elim (List.mem_append_left _) fun q=>List.mem_append_right _ q.2)).1
   have hor:=hor.inv
   have pr:∀ {u:P},v = .p u -> ∀ z t,PR T F u z->Q z { σ with toks:=t }:=fun e z t h=>hQ z t (e ▸ .p h)
   have asI:∀ {f:Int->Option V},(match (generalizing:=false) i with | .int j=>f j | _=>none)=some v -> ∃ j t,y = .int j t/\f j=some v:=fun h=>by
    refine bc fun hG=>?_
    obtain ⟨j,rfl,h⟩:=int_of h
    obtain ⟨t,rfl⟩:=hy.inv
    refine hG ?_
    exact ⟨j,t,rfl,h⟩
   induction o using VO.casesOn with
   | list xs =>
    obtain ⟨vs,e',rfl,he,hl⟩:=hor
    obtain ⟨j,t,rfl,h⟩:=asI h
    obtain ⟨z,hz,e⟩:=Bm h
    exact f5 hm hl (gu he hz) (pr e)
   | listV xs =>
    obtain ⟨vs,e',rfl,he,hl⟩:=hor
    obtain ⟨j,t,rfl,h⟩:=asI h
    exact f5 hm hl (gu he h) hQ
   | dicti es =>
    obtain ⟨kvs,hd,he,_⟩:=hor
    obtain ⟨j,t,rfl,h⟩:=asI h
    obtain ⟨z,hz,e⟩:=Bm h
    have:=iq (i:=j) he
    rw [hz] at this
    obtain ⟨u',hv,hr⟩:=this
    exact dk (intKind_is PG w j t) hm hd hv fun t=>pr e _ t hr
   | dictR es =>
    obtain ⟨kvs,hd,he,_⟩:=hor
    obtain ⟨j,t,rfl,h⟩:=asI h
    obtain ⟨z,hz,e⟩:=Bm h
    have:=iq (i:=j) he
    rw [hz] at this
    obtain ⟨u',hv,hr⟩:=this
    exact dk (intKind_is PG w j t) hm hd hv fun t=>pr e _ t hr
   | dictiV es =>
    obtain ⟨kvs,hd,he,_⟩:=hor
    obtain ⟨j,t,rfl,h⟩:=asI h
    have:=iq (i:=j) he
    rw [h] at this
    obtain ⟨u',hv,hr⟩:=this
    exact dk (intKind_is PG w j t) hm hd hv fun t=>hQ _ t hr
   | dicts es =>
    obtain ⟨kvs,hd,he,_⟩:=hor
    induction i using P.casesOn with
    | str j =>
     obtain ⟨t,rfl⟩:=hy.inv
     refine bc fun hG=>?_
     obtain ⟨z,hz,e⟩:=Bm h
     have:=Bl (i:=j) he
     rw [hz] at this
     obtain ⟨u',hv,hr⟩:=this
     refine hG ?_
     exact dk (strKind_is PG w j t) hm hd hv fun t=>pr e _ t hr
    | _=>exact nos h
   | _=>exact nos h
theorem Bo {v:Expr} {x:Str} {t:Tok} (r:Value):letTemporaryGo v (.str x t) r=pure ():=by induction v using Expr.casesOn <;> rfl
inductive PartR (T:Pl) (F:Led) (U:Nat->Addr) (n:Nat):Option V->Value->Prop
 | none:PartR T F U n none .none
 | some {v:V} {x:Value}:VR T F U n v x->PartR T F U n (some v) x
noncomputable def Kr (T:Pl) (F:Led) (U:Nat->Addr) (n:Nat):Option V->Value->Prop
 | none,x=>x = .none
 | some v,x=>VR T F U n v x
theorem PartR.inv {v:Option V} {x:Value} {n:Nat} (h:PartR T F U n v x):Kr T F U n v x:=PartR.casesOn (motive:=fun v x _=>Kr T F U n v x) h rfl fun h=>h
noncomputable def Rn (a:P) (lo hi st:Option V) (z:P):Prop :=
 (∃ x i,a = .str x/\lo=some (.p (.int i))/\hi=none/\st=none/\0<=i/\x.cps.size<=2000/\z = .str ⟨(x.cps.toList.drop i.toNat).toArray⟩)\/(∃ x i,a = .str x/\lo=none/\hi=some (.p (.int i))/\st=none/\0<=i/\x.cps.size<=2000/\z = .str ⟨(x.cps.toList.take i.toNat).toArray⟩) \/
 (∃ xs i,a = .lst xs/\lo=some (.p (.int i))/\hi=none/\st=none/\0<=i/\z = .lst (xs.drop i.toNat)) \/ ∃ xs,a = .lst xs/\lo=none/\hi=none/\st=some (.p (.int (-1)))/\z = .lst xs.reverse
theorem Md (a:P) (lo hi st:Option V):OptP (Rn a lo hi st) (cut a lo hi st):=by
 induction a using P.casesOn with
 | str x=>induction lo using Option.casesOn with
  | none=>induction hi using Option.casesOn with
   | none=>trivial
   | some v=>induction v using V.casesOn with
    | ref=>trivial
    | p v=>induction v using P.casesOn with
     | int i=>induction st using Option.casesOn with
      | some=>trivial
      | none=>exact OptP.ifb fun h=>.inr (.inl ⟨x,i,rfl,rfl,rfl,rfl,of_decide_eq_true (Bool.and_eq_true_iff.mp h).1,bt (Bool.and_eq_true_iff.mp h).2,rfl⟩)
     | _=>trivial
  | some v=>induction v using V.casesOn with
   | ref=>trivial
   | p v=>induction v using P.casesOn with
    | int i=>induction hi using Option.casesOn with
     | some=>trivial
     | none=>induction st using Option.casesOn with
      | some=>trivial
      | none=>exact OptP.ifb fun h=>.inl ⟨x,i,rfl,rfl,rfl,rfl,of_decide_eq_true (Bool.and_eq_true_iff.mp h).1,bt (Bool.and_eq_true_iff.mp h).2,rfl⟩
    | _=>trivial
 | lst xs=>induction lo using Option.casesOn with
  | none=>induction hi using Option.casesOn with
   | some=>trivial
   | none=>induction st using Option.casesOn with
    | none=>trivial
    | some v=>induction v using V.casesOn with
     | ref=>trivial
     | p v=>induction v using P.casesOn with
      | int i=>exact OptP.ifb fun h=>.inr (.inr (.inr ⟨xs,rfl,rfl,rfl,by rw [of_decide_eq_true h],rfl⟩))
      | _=>trivial
  | some v=>induction v using V.casesOn with
   | ref=>trivial
   | p v=>induction v using P.casesOn with
    | int i=>induction hi using Option.casesOn with
     | some=>trivial
     | none=>induction st using Option.casesOn with
      | some=>trivial
      | none=>exact OptP.ifb fun h=>.inr (.inr (.inl ⟨xs,i,rfl,rfl,rfl,rfl,of_decide_eq_true h,rfl⟩))
    | _=>trivial
 | _=>trivial
theorem wi {a z:P} {lo hi st:Option V} (h:cut a lo hi st=some z):Rn a lo hi st z:=(Md a lo hi st).get h
theorem Ro {a z:P} {lo hi:Option V} {x vl vu:Value} {value:Expr} {elo ehi:Option Expr} {pos:Pos} (D:Dx T w e env g U m led F S σ) (hx:PR T F a x) (hl:PartR T F U S.n lo vl) (hu:PartR T F U S.n hi vu) (h:cut a lo hi none=some z)
  {C:V->St->Prop} {Q:Value->Shared->Prop} (hp:C (.p z) S) (hQ:PostE T w e env g F U S.n σ C Q) :
  wpAny (model PG w) A (subscriptTail value (.Slice elo ehi none pos) x (.ref σ.heap.objs.size)) Q E { σ with heap:=σ.heap.push { cls:=.type "slice",data:=.fields #[vl,vu,.none] } }:=by
 have hs:=ao
 have hl:=hl.inv
 have hu:=hu.inv
 rcases wi h with ⟨x,i,rfl,rfl,rfl,_,hb,hf,rfl⟩ | ⟨x,i,rfl,rfl,rfl,_,hb,hf,rfl⟩ | ⟨xs,i,rfl,rfl,rfl,_,hb,rfl⟩ | ⟨_,_,_,_,e,_⟩
 ·obtain ⟨t,rfl⟩:=hx.inv
  obtain ⟨ti,rfl⟩:=hl.pure.inv
  subst hu
  refine slice_strN_sn D.fr D.nw (fun h' t' k F1 N1=>?_) rfl Bo (Nat.le_trans hf hs)
  rw [yn x hb]
  exact hQ F U m led h' k _ _ S (Ext.refl _ _ _) ⟨F1,N1,D.rel,D.loc,D.cells⟩ (.p (.str _ _)) hp
 ·obtain ⟨t,rfl⟩:=hx.inv
  obtain ⟨ti,rfl⟩:=hu.pure.inv
  subst hl
  refine slice_strN_ns D.fr D.nw (fun h' t' k F1 N1=>?_) rfl Bo (Nat.le_trans hf hs)
  rw [yo x hb]
  exact hQ F U m led h' k _ _ S (Ext.refl _ _ _) ⟨F1,N1,D.rel,D.loc,D.cells⟩ (.p (.str _ _)) hp
 ·obtain ⟨vs,l,ne,rfl,hm,hr,hn⟩:=hx.inv
  obtain ⟨ti,rfl⟩:=hl.pure.inv
  subst hu
  refine kba_turn (value':=.Name "_" ⟨0,0,0,0⟩) (fun _=>rfl) ?_
  refine kmk_slice_lit (zs:=vs.drop i.toNat) D.fr D.nw ⟨_,D.frz hm,rfl,_,rfl⟩ (.int i ti) .none ?_ (fun a h' F1 N1 hlt=>?_) rfl (fun _=>rfl) (by rw [List.size_toArray];exact Nat.le_trans hn (Nat.le_of_ble_eq_true rfl))
  ·obtain ⟨n,rfl⟩:=Int.eq_ofNat_of_zero_le hb
   rw [slicePick_from']
   simp
  ·exact hQ.frz D F1 N1 hlt (.lst (.head _) ((PRs.of (hr.each.drop _)).mono fun _ h _=>.tail _ h) (by rw [List.length_drop];exact azj hn)) hp
 ·exact nos e
theorem Mf {a z:P} {lo hi st:Option V} {x vl vu vs':Value} {value es:Expr} {elo ehi:Option Expr} {pos:Pos} (D:Dx T w e env g U m led F S σ) (hx:PR T F a x) (hl:PartR T F U S.n lo vl) (hu:PartR T F U S.n hi vu) (ht:PartR T F U S.n st vs') (hne:st≠none) (h:cut a lo hi st=some z)
  {C:V->St->Prop} {Q:Value->Shared->Prop} (hp:C (.p z) S) (hQ:PostE T w e env g F U S.n σ C Q) :
  wpAny (model PG w) A (subscriptTail value (.Slice elo ehi (some es) pos) x (.ref σ.heap.objs.size)) Q E { σ with heap:=σ.heap.push { cls:=.type "slice",data:=.fields #[vl,vu,vs'] } }:=by
 have hs:=ao
 rcases wi h with ⟨_,_,_,_,_,e,_⟩ | ⟨_,_,_,_,_,e,_⟩ | ⟨_,_,_,_,_,e,_⟩ | ⟨xs,rfl,rfl,rfl,rfl,rfl⟩
 ·exact absurd e hne
 ·exact absurd e hne
 ·exact absurd e hne
 ·obtain ⟨vs,l,ne,rfl,hm,hr,hn⟩:=hx.inv
  obtain ⟨ti,rfl⟩:=ht.inv.pure.inv
  obtain rfl:=hl.inv
  obtain rfl:=hu.inv
  refine kba_turn (value':=.Name "_" ⟨0,0,0,0⟩) (fun _=>rfl) ?_
  refine kmk_slice3_lit (ops:=[.ref l,.ref σ.heap.objs.size]) (zs:=vs.reverse) D.fr D.nw ⟨_,D.frz hm,rfl,_,rfl⟩ .none .none (.int _ ti) (by decide) ?_ (fun a h' F1 N1 hlt=>?_) rfl (fun _=>rfl) (by rw [List.size_toArray];exact Nat.le_trans hn (Nat.le_of_ble_eq_true rfl))
  ·rw [krv_pick]
  ·exact hQ.frz D F1 N1 hlt (.lst (.head _) ((PRs.of hr.each.reverse).mono fun _ h _=>.tail _ h) (by rw [List.length_reverse];exact hn)) hp
end
section
variable {T:Pl} {w:World} {F:Led} {U:Nat->Addr} {n n₀:Nat}
theorem VR.down {v:V} {x:Value} (h:VR T F U n v x) (hl:v.low n₀=true):VR T F U n₀ v x:=by
 induction v using V.casesOn with
 | p v=>exact .p h.inv
 | ref k=>obtain ⟨_,rfl⟩:=h.inv;exact .ref (Nat.blt_eq.mp hl)
theorem Each.down_and {α β:Type} {R Q:α->β->Prop} {p:α->Bool} (hRQ:∀ a b,R a b->p a=true->Q a b) {x:List α} {y:List β} (h:Each R x y) (hp:x.all p=true):Each Q x y:=by
 induction h with
 | nil=>exact .nil
 | cons h _ ih =>
  have hp:=Bool.and_eq_true_iff.mp (List.all_cons ▸ hp)
  exact .cons (hRQ _ _ h hp.1) (ih hp.2)
theorem wj {α:Type} {x:Str} {v:α} {l:List (Str×α)} (h:look x l=some v):∃ p∈l,p.2=v:=by
 induction l with
 | nil=>exact nos h
 | cons p r ih =>
  rw [ag] at h
  by_cases e:p.1=x
  ·rw [if_pos e] at h;exact ⟨p,.head _,Option.some.inj h⟩
  ·rw [if_neg e] at h
   obtain ⟨q,hq,e'⟩:=ih h
   exact ⟨q,.tail _ hq,e'⟩
theorem OR.down {a:Addr} {v:VO} {o:Obj} (h:OR T w F U n a v o):v.low n₀=true->OR T w F U n₀ a v o:=by
 have hv:∀ v x,VR T F U n v x->v.low n₀=true->VR T F U n₀ v x:=fun _ _ q hl=>q.down hl
 exact OR.casesOn (motive:=fun v o _=>v.low n₀=true->OR T w F U n₀ a v o) h (fun h l _=>.list h l) (fun h l hl=>.listV (h.down_and hv hl) l) (fun h k l _=>.dicti h k l) (fun h k l _=>.dictR h k l)
  (fun h k l hl=>.dictiV h (k.down_and (p:=fun (e:Int×V)=>e.2.low n₀) (fun _ _ q hp=>⟨q.1,hv _ _ q.2 hp⟩) hl) l) (fun h k l _=>.dicts h k l) (fun h _ hl=>.inst h (Nat.blt_eq.mp hl))
  (fun h l hl=>.ns (h.down_and (p:=fun (e:Str×V)=>e.2.low n₀) (fun _ _ q hp=>⟨q.1,hv _ _ q.2 hp⟩) hl) l)
  (fun h k hl=>.cell h (wa (R:=VR T F U n) (R':=VR T F U n₀) (fun _ _ e q=>hv _ _ q (by subst e;exact hl)) k))
  (fun h k d v s hl=>.clos (fun x k e=>⟨by obtain ⟨p,hp,e'⟩:=wj e;exact Nat.blt_eq.mp (e' ▸ List.all_eq_true.mp hl p hp),(h x k e).2⟩) k d v s) fun h k _=>.tab h k
end
theorem Gy {n:Nat} {h:Tr} {m:Nat}:∀ {i:Nat} {t t':Tr},qg n h m i t=some t'->t.Full i->(∀ k,k<i->t.get k=h.get k /\ ∀ o,h.get k=some o->o.low n=true)->t'.Full (i+m) /\ ∀ k,k<i+m->t'.get k=h.get k /\ ∀ o,h.get k=some o->o.low n=true:=by
 induction m with
 | zero=>intro i t t' e f hk;obtain rfl:=Option.some.inj e;exact ⟨f,hk⟩
 | succ m ih =>
  intro i t t' e f hk
  have e:(match h.get i with | some o=>(match o.low n with | true=>qg n h m (i+1) (t.ins i o) | false=>none) | none=>none)=some t':=e
  induction ho:h.get i using Option.casesOn with
  | none=>exact nos (ho ▸ e)
  | some o =>
   rw [ho] at e
   induction hl:o.low n using Bool.casesOn with
   | false=>dsimp only at e;exact nos (hl ▸ e)
   | true =>
    dsimp only at e
    rw [hl] at e
    rw [← Nat.succ_eq_add_one m, ← Nat.succ_add_eq_add_succ]
    refine ih e (f.ins o) fun k hk'=>?_
    rw [Tr.get_ins o t i f]
    by_cases q:k=i
    ·subst q
     rw [if_pos rfl]
     exact ⟨ho.symm,fun o' e'=>Option.some.inj (ho.symm.trans e') ▸ hl⟩
    ·exact (if_neg q) ▸ (hk k (Nat.lt_of_le_of_ne (Nat.le_of_lt_succ hk') q))
section
variable {T:Pl} {w:World} {K:Frag} {lz:List Str} {mn:ExcName->Option Value} {mg mb:Str->Option Value} {r:H Prop} {O:Known Prop} {e:En} {env:Env} {g:Heap} {A:Around} {F:Led} {U:Nat->Addr} {m:Str->Option Value} {led:Led} {S S':St} {σ:Shared}
 {E:Value->Shared->Prop}
theorem Rel.forget {n:Nat} {h':Tr} (R:Rel T w F U S led) (hn:n<=S.n) (hc:qg n S.h n 0 .nil=some h') (l:List (Str×V)):Rel T w F U ⟨l,h',n⟩ led:=by
 obtain ⟨f,hk⟩:=Gy hc Tr.full_nil fun k h=>absurd h (Nat.not_lt_zero _)
 rw [Nat.zero_add] at f hk
 refine ⟨f,fun k o h=>?_,fun j k hj hk e=>R.inj j k (Nat.lt_of_lt_of_le hj hn) (Nat.lt_of_lt_of_le hk hn) e,R.nodup⟩
 have h:h'.get k=some o:=h
 have lt:k<n:=(f k).mp (by rw [h];rfl)
 refine bc fun hG=>?_
 obtain ⟨h1,h2⟩:=hk k lt
 rw [h1] at h
 obtain ⟨ob,hob,hor⟩:=R.objs k o h
 refine hG ?_
 exact ⟨ob,hob,hor.down (h2 o h)⟩
theorem Dx.forget {n:Nat} {h':Tr} (D:Dx T w e env g U m led F S σ) (hn:n<=S.n) (hl:S.loc.all (fun p=>p.2.low n)=true) (hc:qg n S.h n 0 .nil=some h') (hcells:∀ x k,look x e.cells=some k->k<n):Dx T w e env g U m led F ⟨S.loc,h',n⟩ σ:=by
 refine ⟨D.fr,D.nw,D.rel.forget hn hc _,fun x v h=>?_,fun x k h=>⟨hcells x k h,(D.cells x k h).2⟩⟩
 refine bc fun hG=>?_
 obtain ⟨y,hy,hv⟩:=D.loc x v h
 obtain ⟨p,hp,e'⟩:=wj (show look x S.loc=some v from h)
 refine hG ?_
 have:=List.all_eq_true.mp hl p hp
 rw [e'] at this
 exact ⟨y,hy,hv.down this⟩
theorem Gz {n:Nat} {v:V} {y:Value} {F₀:Led} {ρ₀:Nat->Addr} {C:V->St->Prop} {Q:Value->Shared->Prop} (D:Dx T w e env g U m led F S σ) (x:Ext F₀ ρ₀ n F U S.n) (hcells:∀ x k,look x e.cells=some k->k<n) (hv:VR T F U S.n v y) (hp:Ao n v S C)
  {σ₀:Shared} (hσ:σ=At σ₀ σ.heap σ.toks) (hQ:PostE T w e env g F₀ ρ₀ n σ₀ C Q):Q y σ:=by
 delta Ao at hp
 rw [hσ]
 have no:C v S->Q y (At σ₀ σ.heap σ.toks):=hQ F U m led σ.heap σ.toks v y S x (hσ ▸ D) hv
 induction h1:v.low n using Bool.casesOn with
 | false=>rw [h1] at hp;exact no hp
 | true =>
 induction h2:S.loc.all (fun p=>p.2.low n) using Bool.casesOn with
 | false=>rw [h1,h2] at hp;exact no hp
 | true =>
 induction h3:qg n S.h n 0 .nil using Option.casesOn with
 | none=>rw [h1,h2,h3] at hp;exact no hp
 | some h' =>
  rw [h1,h2,h3] at hp
  exact hQ F U m led σ.heap σ.toks v y ⟨S.loc,h',n⟩ ⟨Nat.le_refl _,x.same,x.sub⟩ (hσ ▸ D.forget x.le h2 h3 hcells) (hv.down h1) hp
theorem je {value slice:Expr} {pos:Pos} {Q:Value->Shared->Prop} {s:Shared} (h:wpAny (model PG w) A (eval value env) (fun o s1=>wpAny (model PG w) A (eval slice env) (fun i s2=>wpAny (model PG w) A (subscriptTail value slice o i) Q E s2) E s1) E s) :
  wpAny (model PG w) A (eval (.Subscript value slice pos) env) Q E s:=Subscript_ h
theorem ug (Z:Snd T w K lz mn mg mb r) (X:Sx T w K lz mn mg mb e env g A) {x:Option Expr} (D:Dx T w e env g U m led F S σ) {C:Option V->St->Prop} (h:Lr r e x S C) {Q:Value->Shared->Prop}
  (hQ:∀ F' ρ' m' led' h' t' v y S',Ext F U S.n F' ρ' S'.n->Dx T w e env g ρ' m' led' F' S' (At σ h' t')->PartR T F' ρ' S'.n v y->(x=none->v=none)->(x≠none->v≠none)->C v S'->Q y (At σ h' t')) :
  wpAny (model PG w) A (evalPart x env) Q E σ:=by
 induction x using Option.casesOn with
 | none=>exact evalPart_none_step (hQ F U m led σ.heap σ.toks _ _ S (Ext.refl _ _ _) D .none (fun _=>rfl) (fun h=>absurd rfl h) h)
 | some x=>exact evalPart_some_step (Z.e X D h fun F' ρ' m' led' h' t' v y S' x' D' hv hp=>hQ F' ρ' m' led' h' t' _ _ S' x' D' (.some hv) (fun h=>(by contradiction)) (fun _ h=>(by contradiction)) hp)
theorem PartR.vr {F':Led} {ρ':Nat->Addr} {n n':Nat} (a:Ext F U n F' ρ' n') {v:Option V} {x:Value} (h:PartR T F U n v x):PartR T F' ρ' n' v x:=by
 cases h with
 | none=>exact .none
 | some h=>exact .some (a.vr h)
theorem G0 (Z:Snd T w K lz mn mg mb r) (X:Sx T w K lz mn mg mb e env g A) (D:Dx T w e env g U m led F S σ) {o:Expr} {lo hi st:Option Expr} {p pos:Pos} {C:V->St->Prop} (h:evE False O r e (.Subscript o (.Slice lo hi st p) pos) S C) {Q:Value->Shared->Prop}
  (hQ:PostE T w e env g F U S.n σ C Q):wpAny (model PG w) A (eval (.Subscript o (.Slice lo hi st p) pos) env) Q E σ:=by
 have h:r.e e o S fun ov s=>Lr r e lo s fun l s=>Lr r e hi s fun u s=>Lr r e st s fun t s=>match ov with | .p a=>opt False (cut a l u t) fun v=>C (.p v) s | _=>False:=h
 refine je (Z.e X D h fun F1 ρ1 m1 led1 h1 t1 ov ox S1 x1 D1 ho hp=>?_)
 refine wpAny_Slice (ug Z X D1 hp fun F2 ρ2 m2 led2 h2 t2 l lv S2 x2 D2 hl _ _ hp=>?_)
 refine ug Z X D2 hp fun F3 ρ3 m3 led3 h3 t3 u uv S3 x3 D3 hu _ _ hp=>?_
 refine ug Z X D3 hp fun F4 ρ4 m4 led4 h4 t4 t tv S4 x4 D4 ht n1 n2 hp=>?_
 induction ov using V.casesOn with
 | ref=>exact hp.elim
 | p a =>
  obtain ⟨z,hz,hfin⟩:=ac hp
  have hQ4:=hQ.on (h':=h4) (t':=t4) (((x1.trans x2).trans x3).trans x4)
  have ho4:=(((x2.trans x3).trans x4).vr ho).pure
  have hl4:=PartR.vr (x3.trans x4) hl
  have hu4:=PartR.vr x4 hu
  induction st using Option.casesOn with
  | none =>
   rw [n1 rfl] at hz ht
   cases ht
   exact Ro D4 ho4 hl4 hu4 hz hfin hQ4
  | some es=>exact Mf D4 ho4 hl4 hu4 ht (n2 (fun h=>nomatch h)) hz hfin hQ4
theorem Mg {o:Option P} {k:V->Prop} (h:opt False o fun x=>k (.p x)):∃ v,o.map V.p=some v/\k v:=by
 obtain ⟨x,hx,h⟩:=ac h
 exact ⟨_,by rw [hx];rfl,h⟩
theorem Rp {i:P} {f:Int->Option P} {k:V->Prop} (h:match (generalizing:=false) i with | .int j=>opt False (f j) fun x=>k (.p x) | _=>False):∃ v,(match (generalizing:=false) i with | .int j=>(f j).map V.p | _=>none)=some v/\k v:=by
 induction i using P.casesOn with
 | int j=>exact Mg h
 | _=>exact h.elim
theorem Xz {i:P} {f:Str->Option P} {k:V->Prop} (h:match (generalizing:=false) i with | .str j=>opt False (f j) fun x=>k (.p x) | _=>False):∃ v,(match (generalizing:=false) i with | .str j=>(f j).map V.p | _=>none)=some v/\k v:=by
 induction i using P.casesOn with
 | str j=>exact Mg h
 | _=>exact h.elim
theorem f6 (j:Nat) (i:P) (S:St):getItem (.ref j) i S=match S.h.get j with
  | some (.list xs)=>(match i with | .int j=>(item xs j).map V.p | _=>none)
  | some (.listV xs)=>(match i with | .int j=>item xs j | _=>none)
  | some (.dicti es)=>(match i with | .int j=>(eh j es).map V.p | _=>none)
  | some (.dictR es)=>(match i with | .int j=>(eh j es).map V.p | _=>none)
  | some (.dictiV es)=>(match i with | .int j=>eh j es | _=>none)
  | some (.dicts es)=>(match i with | .str j=>(look j es).map V.p | _=>none)
  | _=>none:=rfl
theorem Bp {a:V} {i:P} {S:St} {k:V->Prop} (h:az0 False a i S k):∃ v,getItem a i S=some v/\k v:=by
 induction a using V.casesOn with
 | p a=>exact Mg h
 | ref j =>
  have h:(match (generalizing:=false) S.h.get j with
   | some (.list xs)=>(match (generalizing:=false) i with | .int j=>opt False (item xs j) fun x=>k (.p x) | _=>False)
   | some (.dicti es)=>(match (generalizing:=false) i with | .int j=>opt False (eh j es) fun x=>k (.p x) | _=>False)
   | some (.dicts es)=>(match (generalizing:=false) i with | .str j=>opt False (look j es) fun x=>k (.p x) | _=>False)
   | _=>opt False (getItem (.ref j) i S) k):=h
  induction hg:S.h.get j using Option.casesOn with
  | none=>rw [hg] at h;exact ac h
  | some o =>
   rw [hg] at h
   induction o using VO.casesOn with
   | list xs=>rw [f6,hg];exact Rp h
   | dicti es=>rw [f6,hg];exact Rp h
   | dicts es=>rw [f6,hg];exact Xz h
   | _=>exact ac h
theorem yq {o:Expr} {v:V} {S s:St} {C:V->St->Prop} (h:match o with | .Dict .. => Ao S.n v s C | _=>C v s):Ao S.n v s C\/C v s:=by
 induction o using Expr.casesOn with
 | Dict=>exact .inl h
 | _=>exact .inr h
theorem Mh {o i:Expr} {pos:Pos} {S:St} {C:V->St->Prop} (h:evE False O r e (.Subscript o i pos) S C):(∃ lo hi st p,i = .Slice lo hi st p)\/Q8 False r e o i S C:=by
 induction i using Expr.casesOn with
 | Slice lo hi st p=>exact .inl ⟨lo,hi,st,p,rfl⟩
 | _=>exact .inr h
theorem qo (Z:Snd T w K lz mn mg mb r) (X:Sx T w K lz mn mg mb e env g A) (D:Dx T w e env g U m led F S σ) {o i:Expr} {pos:Pos} {C:V->St->Prop} (h:evE False O r e (.Subscript o i pos) S C) {Q:Value->Shared->Prop}
  (hQ:PostE T w e env g F U S.n σ C Q):wpAny (model PG w) A (eval (.Subscript o i pos) env) Q E σ:=by
 refine bc fun hG=>?_
 rcases Mh h with ⟨lo,hi,st,p,rfl⟩ | h
 ·refine hG ?_
  exact G0 Z X D h hQ
 ·refine hG ?_
  refine je (Z.e X D h fun F1 ρ1 m1 led1 h1 t1 ov ox S1 x1 D1 ho hp=>?_)
  refine Z.e X D1 hp fun F2 ρ2 m2 led2 h2 t2 iv iy S2 x2 D2 hiv hp=>?_
  induction iv using V.casesOn with
  | ref=>exact hp.elim
  | p i' =>
   obtain ⟨v,hv,hp⟩:=Bp hp
   refine yp D2 (x2.vr ho) hiv.pure hv fun u t hu=>?_
   rcases yq hp with hc | hc
   ·exact Gz (D2.tok t) (x1.trans x2) (fun x k h=>(D.cells x k h).1) hu hc rfl hQ
   ·exact hQ F2 ρ2 m2 led2 h2 t v u S2 (x1.trans x2) (D2.tok t) hu hc
theorem handed {v:V} {y:Value} (hv:VR T F U n v y) (hb:Gb v=true):handedIn y=true:=by
 induction v using V.casesOn with
 | ref=>obtain ⟨_,rfl⟩:=hv.inv;rfl
 | p x =>
  have hv:=hv.pure.inv
  induction x using P.casesOn with
  | bi=>exact Bool.noConfusion hb
  | none=>subst hv;rfl
  | bool=>subst hv;rfl
  | tup=>obtain ⟨_,_,rfl,_⟩:=hv;rfl
  | lst=>obtain ⟨_,_,_,rfl,_⟩:=hv;rfl
  | obj=>obtain ⟨_,_,_,_,_,rfl,_⟩:=hv;rfl
  | rng=>obtain ⟨_,_,_,_,rfl,_⟩:=hv;rfl
  | int=>obtain ⟨_,rfl⟩:=hv;rfl
  | str=>obtain ⟨_,rfl⟩:=hv;rfl
  | fn=>obtain ⟨_,rfl,_⟩:=hv;rfl
  | cls=>obtain ⟨_,rfl,_⟩:=hv;rfl
  | top=>obtain ⟨_,rfl,_⟩:=hv;rfl
noncomputable def Rq (ov:V) (a:Str) (S1:St) (C:V->St->Prop):Prop :=
 (∃ c es v,ov = .p (.obj c es)/\look a es=some v/\P4 v=true/\di c a=true/\C (.p v) S1) \/ ∃ k c d es v,ov = .ref k/\S1.h.get k=some (.inst c d)/\S1.h.get d=some (.ns es)/\look a es=some v/\Gb v=true/\di c a=true/\C v S1
theorem Bq {ov:V} {a:Str} {S1:St} {C:V->St->Prop}:(match ov with
 | .p (.obj c es)=>opt False (look a es) fun v=>cnd (P4 v&&di c a) (C (.p v) S1) False
 | .p _=>False
 | .ref k=>match S1.h.get k with
  | some (.inst c d)=>match S1.h.get d with
   | some (.ns es)=>opt False (look a es) fun v=>cnd (Gb v&&di c a) (C v S1) False
   | _=>False
  | _=>False)->Rq ov a S1 C:=by
 induction ov using V.casesOn with
 | p x=>induction x using P.casesOn with
  | obj c es =>
   intro h
   obtain ⟨v,hv,h⟩:=ac h
   obtain ⟨hb,h⟩:=ab h
   have hb:=Bool.and_eq_true_iff.mp hb
   exact .inl ⟨c,es,v,rfl,hv,hb.1,hb.2,h⟩
  | _=>exact False.elim
 | ref k =>
  dsimp only
  induction hg:S1.h.get k using Option.casesOn with
  | none=>exact False.elim
  | some o=>induction o using VO.casesOn with
   | inst c d =>
    dsimp only
    induction hg':S1.h.get d using Option.casesOn with
    | none=>exact False.elim
    | some o'=>induction o' using VO.casesOn with
     | ns es =>
      intro h
      obtain ⟨v,hv,h⟩:=ac h
      obtain ⟨hb,h⟩:=ab h
      have hb:=Bool.and_eq_true_iff.mp hb
      exact .inr ⟨k,c,d,es,v,rfl,hg,hg',hv,hb.1,hb.2,h⟩
     | _=>exact False.elim
   | _=>exact False.elim
theorem qp (Z:Snd T w K lz mn mg mb r) (X:Sx T w K lz mn mg mb e env g A) (D:Dx T w e env g U m led F S σ) {o:Expr} {a:Str} {pos:Pos} {C:V->St->Prop} (h:evE False O r e (.Attribute o a pos) S C) {Q:Value->Shared->Prop}
  (hQ:PostE T w e env g F U S.n σ C Q):wpAny (model PG w) A (eval (.Attribute o a pos) env) Q E σ:=by
 obtain ⟨hc,h⟩:=ab h
 refine Attribute_any_ (Z.e X D h fun F1 ρ1 m1 led1 h1 t1 ov ox S1 x1 D1 ho hp=>?_) (by rw [arm_eval_Attribute,jd (Bool.and_eq_true_iff.mp hc).1])
 have hK:=X.kin
 refine bc fun hG=>?_
 rcases Bq hp with ⟨c,es,v,rfl,hv,hb,hat,hp⟩ | ⟨k,c,d,es,v,rfl,hg,hg',hv,hb,hat,hp⟩
 ·obtain ⟨Cl,b,d,ds,n,rfl,hca,hi,hd,hz,hn⟩:=ho.pure.inv
  obtain ⟨y,hy,hr⟩:=qm hn.each hv
  have ok:=X.tx.attr _ _ _ hca hat
  obtain ⟨at',ha,hno⟩:=ok.no
  exact hG (get_own D1.fr hK ⟨D1.frz hi,rfl,rfl,D1.frz hd⟩ ok.get ok.has ha hno hy (handed (n:=S1.n) (U:=ρ1) (.p hr) hb) ((hQ.on (h':=h1) (t':=t1) x1).tok D1 (.p hr) hp _))
 ·obtain ⟨hk,rfl⟩:=ho.inv
  obtain ⟨ob,hob,hor⟩:=D1.rel.obj _ _ hg
  obtain ⟨ob',hob',hor'⟩:=D1.rel.obj _ _ hg'
  obtain ⟨Cl,rfl,hca,hd⟩:=hor.inv
  obtain ⟨ds,n,rfl,hn,hl⟩:=hor'.inv
  obtain ⟨y,hy,hr⟩:=qm hn hv
  have ok:=X.tx.attr _ _ _ hca hat
  obtain ⟨at',ha,hno⟩:=ok.no
  exact hG (get_own D1.fr hK ⟨D1.at hob,rfl,rfl,D1.at hob'⟩ ok.get ok.has ha hno hy (handed hr hb) ((hQ.on (h':=h1) (t':=t1) x1).tok D1 hr hp _))
end
end Mine
end
section
open PySem PySem.W PySem.Spec PySem.Calls PyProof.Rows PySem.SeqAt
set_option tactic.hygienic false
namespace Mine
theorem Upd.of {d:Addr} {o o':Obj} {pre post:Led} (h1:∀ p∈pre,p.1≠d) (h2:∀ p∈post,p.1≠d):Upd d o o' (pre++(d,o)::post) (pre++(d,o')::post):=by
 induction pre with
 | nil=>exact .head h2
 | cons p pre ih=>exact .tail (h1 p (.head _)) (ih fun q hq=>h1 q (.tail _ hq))
theorem UpdF.of {d:Addr} {o:Obj} {pre post:Led} (h1:∀ p∈pre,p.1≠d) (h2:∀ p∈post,p.1≠d):UpdF d o (pre++(d,o)::post) (fun o'=>pre++(d,o')::post):=by
 induction pre with
 | nil=>exact .head h2
 | cons p pre ih=>exact .tail (h1 p (.head _)) (ih fun q hq=>h1 q (.tail _ hq))
theorem Mi {α:Type} {R:α->Value->Prop} {a:Str} {v:α} {y:Value} {hsh:Int} {t:Tok} (hv:R v y) {es:List (Str×α)} {ds:List DictEntry} (h:Each (fun p d=>(∃ t,d.key = .str p.1 t)/\R p.2 d.val) es ds) :
  Each (fun p d=>(∃ t,d.key = .str p.1 t)/\R p.2 d.val) (put a v es) (putL a hsh (.str a t) y ds):=by
 induction h with
 | nil=>exact .cons ⟨⟨t,rfl⟩,hv⟩ .nil
 | @cons p d es ds h hs ih =>
  refine bc fun hG=>?_
  obtain ⟨⟨u,hu⟩,hr⟩:=h
  refine hG ?_
  show Each _ (match seq p.1 a with | true=>(p.1,v)::es | false=>p::put a v es) (if d.key.isStr a then ⟨d.hash,d.key,y⟩::ds else d::putL a hsh (.str a t) y ds)
  rw [hu,j7]
  induction hq:seq p.1 a using Bool.casesOn with
  | true=>exact .cons ⟨⟨u,rfl⟩,hv⟩ hs
  | false=>exact .cons ⟨⟨u,hu⟩,hr⟩ ih
theorem uh (a:Str) (hsh:Int) (k v:Value) (ds:List DictEntry):(putL a hsh k v ds).length<=ds.length+1:=by
 induction ds with
 | nil=>exact Nat.le_refl _
 | cons d ds ih =>
  show (if d.key.isStr a then ⟨d.hash,d.key,v⟩::ds else d::putL a hsh k v ds).length<=_
  by_cases q:d.key.isStr a=true
  ·rw [if_pos q];exact Nat.le_succ _
  ·rw [if_neg q];exact Nat.succ_le_succ ih
section
variable {κ:Type} [DecidableEq κ] {q:κ×Value} {kvs:List (κ×Value)} {k:κ} {y:Value}
theorem mr (hq:q.1=k) (nd:q.1∉kvs.map (·.1)):stored (q::kvs) k y=(q.1,y)::kvs:=by
 unfold stored
 rw [if_pos (List.any_eq_true.mpr ⟨q,.head _,decide_eq_true hq⟩),List.map_cons,if_pos hq]
 refine congrArg _ (Eq.trans (List.map_congr_left fun z hz=>?_) (List.map_id kvs))
 exact if_neg fun e'=>nd (by rw [hq, ← e'];exact List.mem_map_of_mem (f:=(·.1)) hz)
theorem j9 (hq:¬ q.1=k):stored (q::kvs) k y=q::stored kvs k y:=by
 unfold stored
 have e:(q::kvs).any (fun kv=>kv.1=k)=kvs.any (fun kv=>kv.1=k):=by rw [List.any_cons,decide_eq_false hq,Bool.false_or]
 rw [e]
 by_cases ha:kvs.any (fun kv=>kv.1=k)=true
 ·rw [if_pos ha,if_pos ha,List.map_cons,if_neg hq]
 ·rw [if_neg ha,if_neg ha];rfl
end
theorem Br {α:Type} {R:α->Value->Prop} {k:Int} {v:α} {y:Value} (hv:R v y) {es:List (Int×α)} {kvs:List (Int×Value)} (h:Each (fun p q=>p.1=q.1/\R p.2 q.2) es kvs) (nd:(kvs.map (·.1)).Nodup):Each (fun p q=>p.1=q.1/\R p.2 q.2) (dput k v es) (stored kvs k y):=by
 induction h with
 | nil=>exact .cons ⟨rfl,hv⟩ .nil
 | @cons p q es kvs h hs ih =>
  rw [List.map_cons,List.nodup_cons] at nd
  show Each _ (match decide (p.1=k) with | true=>(p.1,v)::es | false=>p::dput k v es) _
  by_cases e:p.1=k
  ·rw [decide_eq_true e,mr (h.1 ▸ e) nd.1]
   exact .cons ⟨h.1,hv⟩ hs
  ·rw [decide_eq_false e,j9 (h.1 ▸ e)]
   exact .cons h (ih nd.2)
theorem Mj {α:Type} {R:α->Value->Prop} {k:Str} {v:α} {y:Value} (hv:R v y) {es:List (Str×α)} {kvs:List (Str×Value)} (h:Each (fun p q=>p.1=q.1/\R p.2 q.2) es kvs) (nd:(kvs.map (·.1)).Nodup):Each (fun p q=>p.1=q.1/\R p.2 q.2) (put k v es) (stored kvs k y):=by
 induction h with
 | nil=>exact .cons ⟨rfl,hv⟩ .nil
 | @cons p q es kvs h hs ih =>
  rw [List.map_cons,List.nodup_cons] at nd
  show Each _ (match seq p.1 k with | true=>(p.1,v)::es | false=>p::put k v es) _
  induction e:seq p.1 k using Bool.casesOn with
  | true =>
   rw [mr (h.1 ▸ seq_iff.mp e) nd.1]
   exact .cons ⟨h.1,hv⟩ hs
  | false =>
   rw [j9 (h.1 ▸ jc e)]
   exact .cons h (ih nd.2)
theorem Mk {v:Value}:∀ {l:List Value} {k:Nat},k<l.length->ki_setL l k v=some (l.set k v):=by
 intro l
 induction l with
 | nil=>exact fun h=>absurd h (Nat.not_lt_zero _)
 | cons x r ih =>
  intro k h
  induction k using Nat.casesAuxOn with
  | zero=>rfl
  | succ k =>
   show (match ki_setL r k v with | some q=>some (x::q) | none=>none)=_
   rw [ih (Nat.lt_of_succ_lt_succ h)];rfl
section
variable {T:Pl} {w:World} {K:Frag} {lz:List Str} {mn:ExcName->Option Value} {mg mb:Str->Option Value} {r:H Prop} {O:Known Prop} {e:En} {env:Env} {g:Heap} {A:Around} {F:Led} {U:Nat->Addr} {m:Str->Option Value} {led:Led} {S S':St} {σ:Shared}
 {E:Value->Shared->Prop}
theorem Dx.put {pre post:Led} {a:Addr} {k:Nat} {vo vo':VO} {o o':Obj} {h':Heap} {t:Nat} (D:Dx T w e env g U m (pre++(a,o)::post) F S σ) (ha:U k=a) (hk:S.h.get k=some vo) (F1:Fr g env.locals h' m) (N1:News g env.locals h' (pre++(a,o')::(post++F)))
  (hor:OR T w F U S.n a vo' o'):Dx T w e env g U m (pre++(a,o')::post) F (upd k vo' S) (At σ h' t) :=
 ⟨F1,by rw [List.append_assoc,List.cons_append];exact N1,D.rel.updAt ha hk hor,D.loc,D.cells⟩
theorem Dx.nw' {pre post:Led} {a:Addr} {o:Obj} (D:Dx T w e env g U m (pre++(a,o)::post) F S σ):News g env.locals σ.heap (pre++(a,o)::(post++F)):=by
 have:=D.nw
 rwa [List.append_assoc,List.cons_append] at this
theorem PostU.step {C:St->Prop} {Q:Unit->Shared->Prop} (h:PostU T w e env g F U S.n σ C Q) {k:Nat} {vo:VO} {led':Led} {h':Heap} {t:Nat} (D:Dx T w e env g U m led' F (upd k vo S) (At σ h' t)) (hp:C (upd k vo S)):Q () (At σ h' t) :=
 h F U m led' h' t (upd k vo S) (Ext.refl _ _ _) D hp
theorem PostU.on {C:St->Prop} {Q:Unit->Shared->Prop} (h:PostU T w e env g F U S.n σ C Q) {F':Led} {ρ':Nat->Addr} {S':St} {h':Heap} {t':Nat} (x:Ext F U S.n F' ρ' S'.n) :
  PostU T w e env g F' ρ' S'.n (At σ h' t') C Q:=fun F'' ρ'' m'' led'' h'' t'' S'' x' D hp=>h F'' ρ'' m'' led'' h'' t'' S'' (x.trans x') D hp
theorem wk {a:Str} {h:Int} {k v:Value} {es:List (Str×V)} {ds:List DictEntry} (hf:p9 es.length=true) (hn:Each (NR T F U S.n) es ds):(putL a h k v ds).length<=901:=by
 have h3:=uh a h k v ds
 rw [← hn.length] at h3
 exact Nat.le_trans h3 (Nat.succ_le_succ (oe hf))
theorem yr {a c:Str} {k d:Nat} {es:List (Str×V)} {v:V} {y:Value} {C:St->Prop} {Q:Unit->Shared->Prop} (X:Sx T w K lz mn mg mb e env g A) (D:Dx T w e env g U m led F S σ) (hm:di c a=true) (hg:S.h.get k=some (.inst c d)) (hg':S.h.get d=some (.ns es)) (hf:p9 es.length=true)
  (hv:VR T F U S.n v y) (hp:C (upd d (.ns (put a v es)) S)) (hQ:PostU T w e env g F U S.n σ C Q):wpAny (model PG w) A (setAttr (.ref (U k)) a y) Q E σ:=by
 refine bc fun hG=>?_
 obtain ⟨ob,hob,hor⟩:=D.rel.obj _ _ hg
 obtain ⟨ob',hob',hor'⟩:=D.rel.obj _ _ hg'
 obtain ⟨C',rfl,hca,hd⟩:=hor.inv
 obtain ⟨ds,n,rfl,hn,hl⟩:=hor'.inv
 have I:InstAt σ.heap (U k) (instObj C' (U d)) C' (some (dictOf ds n)):=⟨D.at hob,rfl,rfl,D.at hob'⟩
 obtain ⟨pre,post,rfl,h1,h2⟩:=D.apart hob'
 have ok:=X.tx.attr _ _ _ hca hm
 exact hG (set_dict (dx:=U d) D.fr X.kin D.nw' I rfl ok.set ok.over ok.taker ok.has (tw hn) rfl (Upd.of h1 h2) (Nat.le_trans (wk hf hn) (by decide)) fun h' F1 N1 =>
  hQ.step (D.put rfl hg' F1 N1 (.ns (Mi hv hn) (Nat.le_trans (wk hf hn) (by decide)))) hp)
noncomputable def Rr (k:Nat) (i:P) (v:V) (s s2:St):Prop :=
 (∃ xs j z,s.h.get k=some (.list xs)/\i = .int j/\v = .p z/\0<=j/\j<xs.length/\s2=upd k (.list (xs.set j.toNat z)) s)\/(∃ es j z,s.h.get k=some (.dicti es)/\i = .int j/\v = .p z/\es.length<=900/\s2=upd k (.dicti (dput j z es)) s) \/
 (∃ es j,s.h.get k=some (.dictiV es)/\i = .int j/\es.length<=900/\s2=upd k (.dictiV (dput j v es)) s) \/ ∃ es j z,s.h.get k=some (.dicts es)/\i = .str j/\v = .p z/\es.length<=900/\s2=upd k (.dicts (put j z es)) s
theorem setI_list {xs:List P} {k:Nat} {i:P} {v:V} {s:St}:OptP (fun s2=>∃ j z,i = .int j/\v = .p z/\0<=j/\j<xs.length/\s2=upd k (.list (xs.set j.toNat z)) s) (match i,v with | .int j,.p v=>(match decide (0<=j)&&decide (j<xs.length) with | true=>some (upd k (.list (xs.set j.toNat v)) s) | false=>none) | _,_=>none):=by
 induction i using P.casesOn with
 | int j=>induction v using V.casesOn with
  | ref=>trivial
  | p z=>exact OptP.ifb fun h=>⟨j,z,rfl,rfl,of_decide_eq_true (Bool.and_eq_true_iff.mp h).1,of_decide_eq_true (Bool.and_eq_true_iff.mp h).2,rfl⟩
 | _=>trivial
theorem Bt {f:Int->P->St} {b:Bool} {i:P} {v:V}:OptP (fun s2=>∃ j z,i = .int j/\v = .p z/\b=true/\s2=f j z) (match i,b,v with | .int i,true,.p v=>some (f i v) | _,_,_=>none):=by
 induction i using P.casesOn with
 | int j=>induction b using Bool.casesOn with
  | false=>trivial
  | true=>induction v using V.casesOn with
   | ref=>trivial
   | p z=>exact ⟨j,z,rfl,rfl,rfl,rfl⟩
 | _=>trivial
theorem yt {f:Int->St} {b:Bool} {i:P}:OptP (fun s2=>∃ j,i = .int j/\b=true/\s2=f j) (match i,b with | .int i,true=>some (f i) | _,_=>none):=by
 induction i using P.casesOn with
 | int j=>induction b using Bool.casesOn with
  | false=>trivial
  | true=>exact ⟨j,rfl,rfl,rfl⟩
 | _=>trivial
theorem yu {f:Str->P->St} {b:Bool} {i:P} {v:V}:OptP (fun s2=>∃ j z,i = .str j/\v = .p z/\b=true/\s2=f j z) (match i,b,v with | .str i,true,.p v=>some (f i v) | _,_,_=>none):=by
 induction i using P.casesOn with
 | str j=>induction b using Bool.casesOn with
  | false=>trivial
  | true=>induction v using V.casesOn with
   | ref=>trivial
   | p z=>exact ⟨j,z,rfl,rfl,rfl,rfl⟩
 | _=>trivial
theorem qq {k:Nat} {i:P} {v:V} {s s2:St} (h:setItem (.ref k) i v s=some s2):Rr k i v s s2:=by
 have h:(match s.h.get k with
  | some (.list xs)=>(match (generalizing:=false) i,v with | .int j,.p v=>(match decide (0<=j)&&decide (j<xs.length) with | true=>some (upd k (.list (xs.set j.toNat v)) s) | false=>none) | _,_=>none)
  | some (.dicti es)=>(match (generalizing:=false) i,p9 es.length,v with | .int i,true,.p v=>some (upd k (.dicti (dput i v es)) s) | _,_,_=>none)
  | some (.dictiV es)=>(match (generalizing:=false) i,p9 es.length with | .int i,true=>some (upd k (.dictiV (dput i v es)) s) | _,_=>none)
  | some (.dicts es)=>(match (generalizing:=false) i,p9 es.length,v with | .str i,true,.p v=>some (upd k (.dicts (put i v es)) s) | _,_,_=>none)
  | _=>none)=some s2:=h
 delta Rr
 induction hg:s.h.get k using Option.casesOn with
 | none=>exact nos (hg ▸ h)
 | some o =>
  rw [hg] at h
  induction o using VO.casesOn with
  | list xs =>
   refine bc fun hG=>?_
   obtain ⟨j,z,h1⟩:=setI_list.get h
   refine hG ?_
   exact .inl ⟨xs,j,z,rfl,h1⟩
  | dicti es =>
   refine bc fun hG=>?_
   obtain ⟨j,z,h1,h2,hf,h3⟩:=(Bt (f:=fun j z=>upd k (.dicti (dput j z es)) s)).get h
   refine hG ?_
   exact .inr (.inl ⟨es,j,z,rfl,h1,h2,oe hf,h3⟩)
  | dictiV es =>
   refine bc fun hG=>?_
   obtain ⟨j,h1,hf,h3⟩:=(yt (f:=fun j=>upd k (.dictiV (dput j v es)) s)).get h
   refine hG ?_
   exact .inr (.inr (.inl ⟨es,j,rfl,h1,oe hf,h3⟩))
  | dicts es =>
   refine bc fun hG=>?_
   obtain ⟨j,z,h1,h2,hf,h3⟩:=(yu (f:=fun j z=>upd k (.dicts (put j z es)) s)).get h
   refine hG ?_
   exact .inr (.inr (.inr ⟨es,j,z,rfl,h1,h2,oe hf,h3⟩))
  | _=>exact nos h
theorem er {κ:Type} [DecidableEq κ] {kd:KeyKind PG w κ} {kvs:List (κ×Value)} {j:κ} {yi y:Value} {k:Nat} {vo vo':VO} {ob:Obj} {C:St->Prop} {Q:Unit->Shared->Prop} (D:Dx T w e env g U m led F S σ) (hk:kd.is j yi=true) (hob:(U k,ob)∈led) (hg:S.h.get k=some vo) (hd:ob.IsDictOf kd kvs)
  (hl:kvs.length<=900) (hor:∀ o',(kvs.map (·.1)).Nodup->o'.IsDictOf kd (stored kvs j y)->(stored kvs j y).length<=1000->OR T w F U S.n (U k) vo' o') (hp:C (upd k vo' S)) (hQ:PostU T w e env g F U S.n σ C Q):wpAny (model PG w) A (PySem.setItem (.ref (U k)) yi y) Q E σ:=by
 refine bc fun hG=>?_
 obtain ⟨pre,post,rfl,h1,h2⟩:=D.apart hob
 refine hG ?_
 have nd:(kvs.map (·.1)).Nodup:=by
  refine bc fun hG=>?_
  obtain ⟨_,_,_,_,_,_,nd⟩:=id hd
  refine hG ?_
  exact nd
 have h5:(stored kvs j y).length<=1000:=Nat.le_trans (stored_length_le kvs j y) (Nat.le_trans (Nat.succ_le_succ hl) (by decide))
 exact kda_set D.fr D.nw' (UpdF.of h1 h2) hd hk (by have:=ao;exact bz9 hl this) fun h' o' F1 N1 hd'=>hQ.step (D.put rfl hg F1 N1 (hor o' nd hd' h5)) hp
theorem yv {b v:V} {i:P} {x yi y:Value} {S2:St} {C:St->Prop} {Q:Unit->Shared->Prop} (D:Dx T w e env g U m led F S σ) (hb:VR T F U S.n b x) (hi:PR T F i yi) (hv:VR T F U S.n v y) (h:setItem b i v S=some S2) (hp:C S2) (hQ:PostU T w e env g F U S.n σ C Q) :
  wpAny (model PG w) A (PySem.setItem x yi y) Q E σ:=by
 have hs:=ao
 induction b using V.casesOn with
 | p=>exact nos h
 | ref k =>
  obtain ⟨hk,rfl⟩:=hb.inv
  refine bc fun hG=>?_
  rcases qq h with ⟨xs,j,z,hg,rfl,rfl,c1,c2,rfl⟩ | ⟨es,j,z,hg,rfl,rfl,hf,rfl⟩ | ⟨es,j,hg,rfl,hf,rfl⟩ | ⟨es,j,z,hg,rfl,rfl,hf,rfl⟩
  ·refine hG ?_
   obtain ⟨ob,hob,hor⟩:=D.rel.obj k _ hg
   refine bc fun hG=>?_
   obtain ⟨vs,ne,rfl,he,hl⟩:=hor.inv
   obtain ⟨ti,rfl⟩:=hi.inv
   obtain ⟨pre,post,rfl,h1,h2⟩:=D.apart hob
   refine hG ?_
   rw [he.length] at c2
   refine ki_set (q:=vs.set j.toNat y) D.fr D.nw' c1 (by omega) ?_ (Upd.of h1 h2) fun h' F1 N1=>?_
   ·rw [List.toList_toArray]
    exact Mk ((Int.toNat_lt c1).mpr c2)
   ·exact hQ.step (t:=σ.toks) (D.put rfl hg F1 N1 (.list (he.set hv.pure) (by rw [List.length_set];exact hl))) hp
  ·refine hG ?_
   refine bc fun hG=>?_
   obtain ⟨ob,hob,hor⟩:=D.rel.obj k _ hg
   obtain ⟨kvs,hd,he,hl⟩:=hor.inv
   obtain ⟨ti,rfl⟩:=hi.inv
   refine hG ?_
   exact er D (intKind_is PG w j ti) hob hg hd (he.length ▸ hf) (fun o' nd hd' h5=>.dicti hd' (Br (R:=PR T F) hv.pure he nd) h5) hp hQ
  ·refine hG ?_
   obtain ⟨ob,hob,hor⟩:=D.rel.obj k _ hg
   obtain ⟨kvs,hd,he,hl⟩:=hor.inv
   obtain ⟨ti,rfl⟩:=hi.inv
   exact er D (intKind_is PG w j ti) hob hg hd (he.length ▸ hf) (fun o' nd hd' h5=>.dictiV hd' (Br (R:=VR T F U S.n) hv he nd) h5) hp hQ
  ·refine hG ?_
   obtain ⟨ob,hob,hor⟩:=D.rel.obj k _ hg
   obtain ⟨kvs,hd,he,hl⟩:=hor.inv
   obtain ⟨ti,rfl⟩:=hi.inv
   exact er D (strKind_is PG w j ti) hob hg hd (he.length ▸ hf) (fun o' nd hd' h5=>.dicts hd' (Mj (R:=PR T F) hv.pure he nd) h5) hp hQ
end
theorem bzz {p:Prop} (h:false=true):p:=by injection h
theorem jf {t:Expr} {ts:List Expr} (h:aw (t::ts)=true):aw ts=true /\ ∀ env,PySem.assignEach (t::ts) env=(false,PySem.assign t env)::PySem.assignEach ts env/\starEach (t::ts) env=(false,eval t env)::starEach ts env:=by
 induction t using Expr.casesOn with
 | Starred=>exact bzz h
 | _=>exact ⟨h,fun _=>⟨rfl,rfl⟩⟩
theorem dm {env:Env} {ts:List Expr} (h:aw ts=true):PySem.assignEach ts env=ts.map fun t=>(false,PySem.assign t env):=by
 induction ts with
 | nil=>rfl
 | cons t ts ih =>
  obtain ⟨h1,h2⟩:=jf h
  rw [List.map_cons, ← ih h1,(h2 env).1]
theorem Ks {env:Env} {ts:List Expr} (h:aw ts=true):starEach ts env=ts.map fun t=>(false,eval t env):=by
 induction ts with
 | nil=>rfl
 | cons t ts ih =>
  obtain ⟨h1,h2⟩:=jf h
  rw [List.map_cons, ← ih h1,(h2 env).2]
theorem gv {α β:Type} (f:α->β) (ts:List α):(ts.map fun t=>(false,f t)).findIdx? (·.1)=none:=by
 induction ts with
 | nil=>rfl
 | cons t ts ih=>rw [List.map_cons,List.findIdx?_cons,ih];rfl
section
variable {T:Pl} {w:World} {K:Frag} {lz:List Str} {mn:ExcName->Option Value} {mg mb:Str->Option Value} {r:H Prop} {O:Known Prop} {e:En} {env:Env} {g:Heap} {A:Around} {F:Led} {U:Nat->Addr} {m:Str->Option Value} {led:Led} {S S':St} {σ:Shared}
 {E:Value->Shared->Prop}
theorem Bu {l:Nat} {i:P} {v:V} {S:St} {es:List (Int×P)} {k:St->Prop} (hg:S.h.get l=some (.dicti es)) (h:match i,v with | .int j,.p v=>cnd (p9 es.length) (k (upd l (.dicti (dput j v es)) S)) False | _,_=>False):∃ S',setItem (.ref l) i v S=some S'/\k S':=by
 induction i using P.casesOn with
 | int j=>induction v using V.casesOn with
  | ref=>exact h.elim
  | p v =>
   obtain ⟨hf,h⟩:=ab h
   refine ⟨_,?_,h⟩
   unfold setItem
   dsimp only
   rw [hg]
   dsimp only
   rw [hf]
 | _=>exact h.elim
theorem Bv {a:V} {i:P} {v:V} {S:St} {k:St->Prop} (h:Xj False a i v S k):∃ S',setItem a i v S=some S'/\k S':=by
 induction a using V.casesOn with
 | p=>exact h.elim
 | ref l =>
  have h:(match (generalizing:=false) S.h.get l with
   | some (.dicti es)=>(match (generalizing:=false) i,v with | .int j,.p v=>cnd (p9 es.length) (k (upd l (.dicti (dput j v es)) S)) False | _,_=>False)
   | _=>opt False (setItem (.ref l) i v S) k):=h
  induction hg:S.h.get l using Option.casesOn with
  | none=>rw [hg] at h;exact ac h
  | some o =>
   rw [hg] at h
   induction o using VO.casesOn with
   | dicti es=>exact Bu hg h
   | _=>exact ac h
theorem yw {ov:V} {a:Str} {v:V} {s:St} {C:St->Prop}:(match ov with
  | .ref k=>(match s.h.get k with
   | some (.inst c d)=>(match s.h.get d with
    | some (.ns es)=>cnd (p9 es.length&&di c a) (C (upd d (.ns (put a v es)) s)) False
    | _=>False)
   | _=>False)
  | _=>False) -> ∃ k c d es,ov = .ref k/\s.h.get k=some (.inst c d)/\s.h.get d=some (.ns es)/\p9 es.length=true/\di c a=true/\C (upd d (.ns (put a v es)) s):=by
 induction ov using V.casesOn with
 | p=>exact False.elim
 | ref k =>
  dsimp only
  induction hg:s.h.get k using Option.casesOn with
  | none=>exact False.elim
  | some o=>induction o using VO.casesOn with
   | inst c d =>
    dsimp only
    induction hg':s.h.get d using Option.casesOn with
    | none=>exact False.elim
    | some o'=>induction o' using VO.casesOn with
     | ns es =>
      intro h
      obtain ⟨hc,h⟩:=ab h
      have hc:=Bool.and_eq_true_iff.mp hc
      exact ⟨k,c,d,es,rfl,hg,hg',hc.1,hc.2,h⟩
     | _=>exact False.elim
   | _=>exact False.elim
theorem mv (Z:Snd T w K lz mn mg mb r) (X:Sx T w K lz mn mg mb e env g A) {t:Expr} {v:V} {y:Value} (D:Dx T w e env g U m led F S σ) (hv:VR T F U S.n v y) {C:St->Prop} (h:j3 False r e t v S C) {Q:Unit->Shared->Prop}
  (hQ:PostU T w e env g F U S.n σ C Q):wpAny (model PG w) A (PySem.assign t env y) Q E σ:=by
 induction t using Expr.casesOn with
 | Name x pos=>exact wpAny_assign_Name (n7 X D hv h hQ)
 | Attribute o a pos =>
  rw [assign_Attribute]
  have h:r.e e o S fun ov s=>match ov with | .ref k=>(match s.h.get k with | some (.inst c d)=>(match s.h.get d with | some (.ns es)=>cnd (p9 es.length&&di c a) (C (upd d (.ns (put a v es)) s)) False | _=>False) | _=>False) | _=>False:=h
  refine wpAny_bind (wpAny_holding (Z.e X D h fun F1 ρ1 m1 led1 h1 t1 ov ox S1 x1 D1 ho hp=>wpAny_bind (wpAny_standAt (wpAny_bind (wpAny_holding ?_)))))
  obtain ⟨k,c,d,es,rfl,hg,hg',hf,hat,hp⟩:=yw hp
  obtain ⟨hk,rfl⟩:=ho.inv
  exact yr (Q:=fun _ s=>wpAny _ _ (release _ _) _ _ s) X D1 hat hg hg' hf (x1.vr hv) hp fun F2 ρ2 m2 led2 h2 t2 S2 x2 D2 hp2=>wpAny_release' (hQ F2 ρ2 m2 led2 h2 t2 S2 (x1.trans x2) D2 hp2)
 | Subscript o i pos =>
  rw [assign_Subscript]
  have h:r.e e o S fun ov s=>r.e e i s fun iv s=>match iv with | .p i=>Xj False ov i v s C | _=>False:=h
  refine wpAny_bind (wpAny_holding (Z.e X D h fun F1 ρ1 m1 led1 h1 t1 ov ox S1 x1 D1 ho hp=>wpAny_bind (wpAny_holding (Z.e X D1 hp fun F2 ρ2 m2 led2 h2 t2 iv ix S2 x2 D2 hi hp=>wpAny_bind (wpAny_standAt (wpAny_bind (wpAny_holding ?_)))))))
  induction iv using V.casesOn with
  | ref=>exact hp.elim
  | p i' =>
   obtain ⟨S3,hs,hp⟩:=Bv hp
   refine yv (Q:=fun _ s=>wpAny _ _ (release _ _) _ _ s) D2 (x2.vr ho) hi.pure ((x1.trans x2).vr hv) hs hp fun F3 ρ3 m3 led3 h3 t3 S3 x3 D3 hp3=>?_
   exact wpAny_release' (hQ F3 ρ3 m3 led3 h3 t3 S3 ((x1.trans x2).trans x3) D3 hp3)
 | _=>exact h.elim
theorem gw (Z:Snd T w K lz mn mg mb r) (X:Sx T w K lz mn mg mb e env g A) {ts:List Expr}:∀ {F:Led} {U:Nat->Addr} {m:Str->Option Value} {led:Led} {S:St} {σ:Shared} {vs:List V} {ys:List Value} {C:St->Prop} {Q:Unit->Shared->Prop},
  Dx T w e env g U m led F S σ->Each (VR T F U S.n) vs ys->assignEach False r e ts vs S C->PostU T w e env g F U S.n σ C Q->wpAny (model PG w) A (assignInOrder (ts.map fun t=>PySem.assign t env) ys) Q E σ:=by
 induction ts with
 | nil =>
  intro F U m led S σ vs ys C Q D hv h hQ
  cases hv with
  | nil=>exact wpAny_pure (hQ F U m led σ.heap σ.toks S (Ext.refl _ _ _) D h)
  | cons=>exact h.elim
 | cons t ts ih =>
  intro F U m led S σ vs ys C Q D hv h hQ
  cases hv with
  | nil=>exact h.elim
  | @cons v y vs ys hv hvs =>
   have h:j3 False r e t v S fun s=>assignEach False r e ts vs s C:=h
   show wpAny _ _ (do holding ys (PySem.assign t env y);assignInOrder (ts.map fun t=>PySem.assign t env) ys) Q E σ
   refine wpAny_bind (wpAny_holding (mv Z X D hv h fun F1 ρ1 m1 led1 h1 t1 S1 x1 D1 hp=>?_))
   exact ih D1 (hvs.mono fun _ _ q=>x1.vr q) hp (hQ.on x1)
theorem ui {n:Nat} {xs:List P} {us:List Value} (h:Each (PR T F) xs us):Each (VR T F U n) (asV xs) us:=by
 induction h with
 | nil=>exact .nil
 | cons h _ ih=>exact .cons (.p h) ih
noncomputable def G1 (v:V) (n:Nat) (S:St) (vs:List V):Prop :=
 (∃ l,v = .p (.lst l)/\l.length=n/\vs=asV l)\/(∃ l,v = .p (.tup l)/\l.length=n/\vs=asV l)\/(∃ k l,v = .ref k/\S.h.get k=some (.list l)/\l.length=n/\vs=asV l) \/ ∃ k l,v = .ref k/\S.h.get k=some (.listV l)/\l.length=n/\vs=l
theorem gx {α:Type} {l:List α} {n:Nat} {x:List V} {R:List V->Prop} (h:l.length=n->R x):OptP R (match Nat.beq l.length n with | true=>some x | false=>none):=by
 induction q:Nat.beq l.length n using Bool.casesOn with
 | true=>exact h (Nat.eq_of_beq_eq_true q)
 | false=>trivial
theorem yy (v:V) (n:Nat) (S:St):OptP (G1 v n S) (unpack v n S):=by
 induction v using V.casesOn with
 | p x=>induction x using P.casesOn with
  | lst l=>exact gx fun h=>.inl ⟨l,rfl,h,rfl⟩
  | tup l=>exact gx fun h=>.inr (.inl ⟨l,rfl,h,rfl⟩)
  | _=>trivial
 | ref k =>
  show OptP _ (match S.h.get k with
   | some (.list xs)=>(match Nat.beq xs.length n with | true=>some (asV xs) | false=>none)
   | some (.listV xs)=>(match Nat.beq xs.length n with | true=>some xs | false=>none)
   | _=>none)
  induction hg:S.h.get k using Option.casesOn with
  | none=>trivial
  | some o=>induction o using VO.casesOn with
   | list l=>exact gx fun h=>.inr (.inr (.inl ⟨k,l,rfl,hg,h,rfl⟩))
   | listV l=>exact gx fun h=>.inr (.inr (.inr ⟨k,l,rfl,hg,h,rfl⟩))
   | _=>trivial
theorem Bw {v:V} {y:Value} {n:Nat} {vs:List V} (X:Sx T w K lz mn mg mb e env g A) (D:Dx T w e env g U m led F S σ) (hv:VR T F U S.n v y) (h:unpack v n S=some vs) {Q:List Value->Shared->Prop}
  (hQ:∀ ys h',vs.length=n->Each (VR T F U S.n) vs ys->Fr g env.locals h' m->News g env.locals h' (led++F)->Q ys (At σ h' σ.toks)):wpAny (model PG w) A (unpackItems y n none) Q E σ:=by
 have lst:∀ {a:Addr} {us:List Value} {ne:Nat},σ.heap.get? a=some (listOf us.toArray ne)->vs.length=n->Each (VR T F U S.n) vs us->wpAny (model PG w) A (unpackItems (.ref a) n none) Q E σ:=fun {a us ne} h hn he =>
  kun_items D.fr D.nw ⟨_,h,rfl,_,rfl⟩ X.hand (by rw [List.size_toArray, ← he.length,hn]) fun h' F1 N1=>hQ us h' hn he F1 N1
 have len:∀ {xs:List P},xs.length=n->(asV xs).length=n:=fun h=>(List.length_map _).trans h
 refine bc fun hG=>?_
 rcases (yy v n S).get h with ⟨l,rfl,hn,rfl⟩ | ⟨l,rfl,hn,rfl⟩ | ⟨k,l,rfl,hg,hn,rfl⟩ | ⟨k,l,rfl,hg,hn,rfl⟩
 ·obtain ⟨us,a,ne,rfl,hm,hr,hl⟩:=hv.pure.inv
  exact hG (lst (D.frz hm) (len hn) (ui hr.each))
 ·obtain ⟨us,a,rfl,hm,hr,hl⟩:=hv.pure.inv
  exact hG (unpackItemsN_ D.fr D.nw ⟨_,D.frz hm,rfl,_,rfl⟩ X.hand (by rw [List.size_toArray, ← hr.len,hn]) fun h' F1 N1=>hQ us h' (len hn) (ui hr.each) F1 N1)
 ·obtain ⟨hk,rfl⟩:=hv.inv
  obtain ⟨ob,hob,hor⟩:=D.rel.obj k _ hg
  obtain ⟨us,ne,rfl,he,hl⟩:=hor.inv
  exact hG (lst (D.at hob) (len hn) (ui he))
 ·obtain ⟨hk,rfl⟩:=hv.inv
  obtain ⟨ob,hob,hor⟩:=D.rel.obj k _ hg
  obtain ⟨us,ne,rfl,he,hl⟩:=hor.inv
  exact hG (lst (D.at hob) hn he)
theorem uj {t:Expr} {v:V} {C:St->Prop} (h:assign False r e t v S C):(∃ ts k pos,t = .Tuple ts k pos)\/j3 False r e t v S C:=by
 induction t using Expr.casesOn with
 | Tuple ts k pos=>exact .inl ⟨ts,k,pos,rfl⟩
 | _=>exact .inr h
theorem gy (Z:Snd T w K lz mn mg mb r) (X:Sx T w K lz mn mg mb e env g A) {t:Expr} {v:V} {y:Value} (D:Dx T w e env g U m led F S σ) (hv:VR T F U S.n v y) {C:St->Prop} (h:assign False r e t v S C) {Q:Unit->Shared->Prop}
  (hQ:PostU T w e env g F U S.n σ C Q):wpAny (model PG w) A (PySem.assign t env y) Q E σ:=by
 rcases uj h with ⟨ts,k,pos,rfl⟩ | h
 ·obtain ⟨hn,h⟩:=ab h
  obtain ⟨vs,hu,h⟩:=ac h
  rw [PyProof.Rows.assign_Tuple]
  refine wpAny_bind (wpAny_standAt ?_)
  unfold PySem.unpack
  rw [dm hn,gv,List.length_map,List.map_map]
  refine wpAny_bind (wpAny_holding (Bw X D hv hu fun ys h' hl he F1 N1=>?_))
  have D1:Dx T w e env g U m led F S (At σ h' σ.toks):=⟨F1,N1,D.rel,D.loc,D.cells⟩
  exact gw Z X D1 he h fun F2 ρ2 m2 led2 h2 t2 S2 x2 D2 hp=>hQ F2 ρ2 m2 led2 h2 t2 S2 x2 D2 hp
 ·exact mv Z X D hv h hQ
end
noncomputable def iterCls:List String:=["list_iterator", "tuple_iterator", "range_iterator", "dict_keyiterator"]
set_option backward.match.sparseCases true in
theorem X0 {w:World} {A:Around} {E:Value->Shared->Prop} {s:Shared} {t:Expr} {I:Addr} {v:Value} {o:Obj} {n:String} {Q:Unit->Shared->Prop} (ho:s.heap.get? I=some o) (hc:o.cls = .type n) (hn:n∈iterCls) (hQ:Q () s) :
  wpAny (model PG w) A (letOwnedTupleGo t (.ref I) v) Q E s:=by
 have no:["enumerate", "zip", "dict_itemiterator", "dict_reverseitemiterator", "odict_iterator", "itertools.zip_longest", "itertools.pairwise"].contains n=false:=by
  simp only [iterCls,List.mem_cons,List.not_mem_nil,or_false] at hn
  rcases hn with rfl | rfl | rfl | rfl <;> decide
 have main:∀ a,wpAny (model PG w) A (do
   let o ← PySem.load I
   match o.cls,o.data with
   | .type n,.fields vs =>
    if ["enumerate", "zip", "dict_itemiterator", "dict_reverseitemiterator", "odict_iterator", "itertools.zip_longest", "itertools.pairwise"].contains n&&vs[0]? == some (rawInt a) then
     rule "for.unpacks-the-owned-tuple"
     updateField I 0 .none
   | _,_=>pure ()) Q E s:=by
  intro a
  refine wpAny_bind (wpAny_load ho ?_)
  rw [hc]
  induction hd:o.data using Data.casesOn with
  | fields vs =>
   dsimp only
   rw [no,Bool.false_and,if_neg (by decide)]
   exact wpAny_pure hQ
  | _=>exact wpAny_pure hQ
 unfold letOwnedTupleGo
 induction t using Expr.casesOn <;> first | exact wpAny_pure hQ | (induction v using Value.casesOn <;> first | exact wpAny_pure hQ | exact main _)
structure Iter (T:Pl) (w:World) (A:Around) (R:P->Value->Prop) (I:Addr) (fp:List Addr) (xs:List P) (St:Nat->Heap->Prop):Prop where
 walks:∃ Pv,Walks PG w A I fp [I] xs.length Pv St /\ ∀ i v,i<xs.length->Pv i v -> ∃ p,xs[i]? = some p/\R p v
 there:∀ i h,St i h -> ∃ o n,h.get? I=some o/\o.cls = .type n/\n∈iterCls /\ ¬ da o
theorem et {o:Obj} {n:String} (hc:o.cls = .type n) (hn:n∈iterCls) (hd:∀ vs q t,o.data = .fields vs->vs[1]? ≠ some (.str q t)):¬ da o:=by
 simp only [iterCls,List.mem_cons,List.not_mem_nil,or_false] at hn
 rintro (h | h | ⟨_,_,h,_⟩ | h | ⟨C,h⟩ | ⟨vs,q,t,h1,h2⟩)
 ·rw [hc] at h;injection h with h;subst h;simp at hn
 ·rw [hc] at h;injection h with h;subst h;simp at hn
 ·rw [h] at hc;injection hc with h;subst h;simp at hn
 ·rw [hc] at h;injection h with h;subst h;simp at hn
 ·rw [hc] at h;injection h
 ·exact hd vs q t h1 h2
theorem mw:∀ {n i:Nat} {a:Int},i<n->(co n a)[i]? = some (.int (a+i))
 | 0,_,_,h=>absurd h (Nat.not_lt_zero _)
 | n+1,0,a,_=>by show some (P.int a)=_;simp
 | n+1,i+1,a,h=>by
  show (co n (a+1))[i]? = _
  rw [mw (Nat.lt_of_succ_lt_succ h)]
  congr 2
  push_cast
  exact bzd
theorem cv:∀ (n:Nat) (a:Int),(co n a).length=n
 | 0,_=>rfl
 | n+1,a=>by show (_::_).length=_;rw [List.length_cons,cv]
section
variable {T:Pl} {w:World} {K:Frag} {lz:List Str} {mn:ExcName->Option Value} {mg mb:Str->Option Value} {r:H Prop} {O:Known Prop} {e:En} {env:Env} {g:Heap} {A:Around} {F:Led} {U:Nat->Addr} {m:Str->Option Value} {led:Led} {S S':St} {σ:Shared}
 {E:Value->Shared->Prop}
theorem Bx {x:P} {y:Value} {xs:List P} (hh:A.handled=none) (D:Dx T w e env g U m led F S σ) (hx:PR T F x y) (hi:items x=some xs) {Q:Value->Shared->Prop}
  (hQ:∀ fp St o,o.isFreed=false->Iter T w A (PR T F) σ.heap.objs.size fp xs St->St 0 (σ.heap.push o)->(∀ b∈fp,b=σ.heap.objs.size \/ ∃ o,(b,o)∈F/\da o)->xs.length<=2000->Q (.ref σ.heap.objs.size) { σ with heap:=σ.heap.push o }) :
  wpAny (model PG w) A (pyIter y) Q E σ:=by
 cases hx with
 | @lst xs' vs a ne hm hr hl =>
  cases hi
  have hL:σ.heap.IsList a vs.toArray:=⟨_,D.frz hm,rfl,_,rfl⟩
  have hlt:a≠σ.heap.objs.size:=Nat.ne_of_lt (Heap.lt_size (D.frz hm))
  refine wpAny_pyIter_list hL (hQ [σ.heap.objs.size,a] (fun i h=>h.IsListIter σ.heap.objs.size a i/\h.IsList a vs.toArray) _ rfl ⟨⟨fun i v=>vs.toArray[i]? = some v,?_,fun i v hi hv=>?_⟩,?_⟩ ⟨⟨_,Heap.get?_push_size _ rfl,rfl,rfl⟩,hL.push _⟩ ?_ ?_)
  ·have:=Walks.list (prog:=PG) (w:=w) hh σ.heap.objs.size a hlt vs.toArray
   have e:vs.toArray.size=xs.length:=by rw [List.size_toArray,hr.len]
   rw [e] at this
   exact this
  ·have hv:vs.toArray[i]? = some v:=hv
   have hv:vs[i]? = some v:=by simpa using hv
   have:i<xs.length:=hi
   obtain ⟨p,hp⟩:∃ p,xs[i]? = some p:=⟨xs[i],List.getElem?_eq_getElem this⟩
   obtain ⟨v',hv',hr'⟩:=hr.each.get hp
   rw [hv] at hv'; (injection hv' with hv';subst hv')
   exact ⟨p,hp,hr'⟩
  ·rintro i h ⟨⟨o,ho,hc,hd⟩,_⟩
   exact ⟨o,_,ho,hc,by simp [iterCls],et hc (by simp [iterCls]) fun vs q t e1 e2=>by rw [hd] at e1;injection e1 with e1;subst e1;simp at e2⟩
  ·intro b hb
   rcases List.mem_cons.mp hb with h | h
   ·exact .inl h
   ·rw [List.mem_singleton] at h;subst h;exact .inr ⟨_,hm,.inr (.inl rfl)⟩
  ·have:=hr.len;exact this ▸ hl
 | @tup xs' vs a hm hr hl =>
  cases hi
  have hL:σ.heap.IsTuple a vs.toArray:=⟨_,D.frz hm,rfl,_,rfl⟩
  have hlt:a≠σ.heap.objs.size:=Nat.ne_of_lt (Heap.lt_size (D.frz hm))
  refine wpAny_pyIter_tuple hL (hQ [σ.heap.objs.size,a] (fun i h=>h.IsTupleIter σ.heap.objs.size a i/\h.IsTuple a vs.toArray) _ rfl ⟨⟨fun i v=>vs.toArray[i]? = some v,?_,fun i v hi hv=>?_⟩,?_⟩ ⟨⟨_,Heap.get?_push_size _ rfl,rfl,rfl⟩,⟨_,Heap.get?_push_of_some _ (D.frz hm),rfl,_,rfl⟩⟩ ?_ ?_)
  ·have:=Walks.tuple (prog:=PG) (w:=w) hh σ.heap.objs.size a hlt vs.toArray
   have e:vs.toArray.size=xs.length:=by rw [List.size_toArray,hr.len]
   rw [e] at this
   exact this
  ·have hv:vs.toArray[i]? = some v:=hv
   have hv:vs[i]? = some v:=by simpa using hv
   have:i<xs.length:=hi
   obtain ⟨p,hp⟩:∃ p,xs[i]? = some p:=⟨xs[i],List.getElem?_eq_getElem this⟩
   obtain ⟨v',hv',hr'⟩:=hr.each.get hp
   rw [hv] at hv'; (injection hv' with hv';subst hv')
   exact ⟨p,hp,hr'⟩
  ·rintro i h ⟨⟨o,ho,hc,hd⟩,_⟩
   exact ⟨o,_,ho,hc,by simp [iterCls],et hc (by simp [iterCls]) fun vs q t e1 e2=>by rw [hd] at e1;injection e1 with e1;subst e1;simp at e2⟩
  ·intro b hb
   rcases List.mem_cons.mp hb with h | h
   ·exact .inl h
   ·rw [List.mem_singleton] at h;subst h;exact .inr ⟨_,hm,.inl rfl⟩
  ·have:=hr.len;exact this ▸ hl
 | @rng a b rr t u v hm =>
  have hi:(match fits (b - a).toNat&&(decide (-1000000<=a)&&decide (a<=1000000))&&(decide (-1000000<=b)&&decide (b<=1000000)) with | true=>some (co (b - a).toNat a) | false=>none)=some xs:=hi
  split at hi
  ·rename_i hc
   rw [Bool.and_eq_true,Bool.and_eq_true,Bool.and_eq_true,Bool.and_eq_true,decide_eq_true_eq,decide_eq_true_eq,decide_eq_true_eq,decide_eq_true_eq] at hc
   (injection hi with hi;subst hi)
   have hf:=bt hc.1.1
   have hsz:Builtin.Range.rangeSize a b 1=((b - a).toNat:Int):=by
    unfold Builtin.Range.rangeSize
    by_cases q:a<b <;> simp [q] <;> omega
   refine wpAny_pyIter_range (D.frz hm) (small_one (by omega) (by omega) (by omega) (by omega)) (hQ [σ.heap.objs.size] (fun i h=>IsRangeIter h σ.heap.objs.size (a+(i:Nat) * 1) (((b - a).toNat:Int) - (i:Nat)) 1) _ rfl ⟨⟨fun i v=>∃ t,v = .int (a+i * 1) t,?_,fun i v hi hv=>?_⟩,?_⟩ ?_ ?_ ?_)
   ·have:=Walks.range (prog:=PG) (w:=w) hh σ.heap.objs.size a 1 (b - a).toNat
    rw [cv]
    exact this
   ·obtain ⟨t,rfl⟩:∃ t,v = .int (a+i * 1) t:=hv
    rw [cv] at hi
    exact ⟨_,mw hi,by rw [Int.mul_one];exact .int _ t⟩
   ·intro i h hst
    have hst:h.get? σ.heap.objs.size=some _:=hst
    exact ⟨_,_,hst,rfl,by simp [iterCls],et rfl (by simp [iterCls]) fun vs q t e1 e2=>by injection e1 with e1;subst e1;simp [rawInt] at e2⟩
   ·show Heap.get? _ _=some _
    rw [hsz]
    simpa using Heap.get?_push_size σ.heap (o:={ cls:=.type "range_iterator",data:=.fields #[rawInt a,rawInt ((b - a).toNat:Int),rawInt 1] }) rfl
   ·intro b hb
    rw [List.mem_singleton] at hb
    exact .inl hb
   ·rw [cv];exact hf
  ·injection hi
 | _=>injection hi
end
end Mine
end
section
open PySem PySem.W PySem.Spec PySem.Calls PyProof.Rows PySem.SeqAt
namespace Mine
noncomputable def Rt (h:Heap) (n:Nat):Heap:=⟨h.objs.extract 0 n,h.life⟩
theorem wl {h:Heap} {n a:Nat} (ha:a<n):(Rt h n).get? a=h.get? a:=by
 unfold Rt Heap.get?
 have:(h.objs.extract 0 n)[a]? = h.objs[a]? := by
  rw [Array.getElem?_extract]
  simp
  intro hle
  exact bz0 ha hle
 simp only [this]
theorem Ml {h:Heap} {n a:Nat} {o:Obj} (e:(Rt h n).get? a=some o):a<n/\h.get? a=some o:=by
 have hl:=Heap.lt_size e
 have:a<n:=by
  have hl:a<(h.objs.extract 0 n).size:=hl
  rw [Array.size_extract] at hl
  exact azp hl
 exact ⟨this,(wl this) ▸ e⟩
theorem By (h:Heap) (n:Nat):(Rt h n).objs.size<=n:=by
 show (h.objs.extract 0 n).size<=n
 rw [Array.size_extract]
 exact Nat.min_le_left _ _
noncomputable def gC (h:Heap) (n:Nat) (l:Led):Heap:=hideAll (Rt h n) (l.map (·.1))
theorem Kt {h:Heap} {n a:Nat} {l:Led} {o:Obj} (e:h.get? a=some o) (ha:a<n) (hl:∀ p∈l,p.1≠a):(gC h n l).get? a=some o:=by
 refine hideAll_get _ ((wl ha).trans e) fun hm=>?_
 obtain ⟨p,hp,rfl⟩:=List.mem_map.mp hm
 exact hl p hp rfl
theorem X2 {h:Heap} {n a:Nat} {l:Led} {o:Obj} (e:(gC h n l).get? a=some o):a<n/\h.get? a=some o:=Ml (of_hideAll _ e)
theorem Mm {h:Heap} {n a:Nat} {l:Led} {o:Obj} (e:(a,o)∈l):(gC h n l).get? a=none:=hideAll_none _ (List.mem_map_of_mem (f:=(·.1)) e)
theorem Mn (h:Heap) (n:Nat) (l:Led):(gC h n l).objs.size<=n:=Nat.le_trans (Nat.le_of_eq (hideAll_size _ _)) (By h n)
noncomputable def a8 (env:Env):List (Str×NameKind)->List (Str×Addr)
 | []=>[]
 | (x,k)::r=>match k with
  | .free=>(match env.cells.lookup x with | some a=>(x,a)::a8 env r | none=>a8 env r)
  | _=>a8 env r
theorem mx {e:En} {x:Str} {r:List (Str×NameKind)} {cl:List (Str×Nat)} (h:am e ((x,.free)::r)=some cl):∃ c l,look x e.cells=some c/\am e r=some l/\cl=(x,c)::l:=by
 have h:(match look x e.cells,am e r with | some c,some l=>some ((x,c)::l) | _,_=>none)=some cl:=h
 induction q1:look x e.cells using Option.casesOn with
 | none=>rw [q1] at h;exact nos h
 | some c =>
 induction q2:am e r using Option.casesOn with
 | none=>rw [q1,q2] at h;exact nos h
 | some l=>rw [q1,q2] at h;exact ⟨c,l,rfl,rfl,(Option.some.inj h).symm⟩
theorem yz {env:Env} {e:En} (hc:∀ x k,look x e.cells=some k -> ∃ a,env.cells.lookup x=some a) {f:Str×NameKind->List (Str×Addr)->Sem (ForInStep (List (Str×Addr)))}
  (hf:∀ x k cs,f (x,k) cs=if (k == NameKind.free)=true then (cellOf env x >>= fun a=>pure (.yield ((x,a)::cs))) else pure (.yield cs)) :
  ∀ (ns:List (Str×NameKind)) (cl:List (Str×Nat)) (acc:List (Str×Addr)),am e ns=some cl->forIn ns acc f=pure ((a8 env ns).reverse++acc):=by
 intro l0
 induction l0 with
 | nil =>
  intro cl acc _
  simp [a8]
 | cons p0 ns ih =>
  obtain ⟨x,k⟩:=p0
  intro cl acc h
  rw [List.forIn_cons,hf]
  have other:∀ k',(k' == NameKind.free)=false->am e ns=some cl->((if (k' == NameKind.free)=true then (cellOf env x >>= fun a=>pure (ForInStep.yield ((x,a)::acc))) else pure (ForInStep.yield acc):Sem (ForInStep (List (Str×Addr)))) >>= fun st=>match st with | .done b=>pure b | .yield b=>forIn ns b f)=pure ((a8 env ns).reverse++acc):=fun k' e1 e2=>by
   rw [e1,if_neg (by decide),pure_bind]
   exact ih cl acc e2
  induction k using NameKind.casesOn with
  | free =>
   obtain ⟨c,l,hx,hl,rfl⟩:=mx h
   ·skip
    obtain ⟨a,ha⟩:=hc _ _ hx
    have ih:=ih l ((x,a)::acc) hl
    have e1:cellOf env x=pure a:=by delta cellOf;rw [ha]
    rw [if_pos (by decide),e1,pure_bind,pure_bind]
    refine ih.trans ?_
    congr 1
    have e3:a8 env ((x,.free)::ns)=(x,a)::a8 env ns:=by
     show (match env.cells.lookup x with | some a=>(x,a)::a8 env ns | none=>a8 env ns)=_
     rw [ha]
    rw [e3]
    simp
  | «local» => exact other .local rfl h
  | cell=>exact other .cell rfl h
  | globalExplicit=>exact other .globalExplicit rfl h
  | globalImplicit=>exact other .globalImplicit rfl h
theorem my {env:Env} {e:En} {sc:Scope} {cl:List (Str×Nat)} (hc:∀ x k,look x e.cells=some k -> ∃ a,env.cells.lookup x=some a) (h:am e sc.names=some cl):closureFor sc env=pure (a8 env sc.names).reverse:=by
 unfold closureFor
 refine (congrArg (fun t:Sem (List (Str×Addr))=>t >>= fun s=>pure s) (yz hc (fun x k cs=>?_) sc.names cl [] h)).trans ?_
 ·induction k using NameKind.casesOn <;> rfl
 ·rw [List.append_nil,pure_bind]
theorem y0 {env:Env}:∀ {ns:List (Str×NameKind)} {p:Str×Addr},p∈a8 env ns->env.cells.lookup p.1=some p.2:=by
 intro l0
 induction l0 with
 | nil =>
  intro p h
  exact (by contradiction)
 | cons p0 ns ih =>
  obtain ⟨x,k⟩:=p0
  intro p h
  induction k using NameKind.casesOn with
  | free =>
   have h:p∈(match env.cells.lookup x with | some a=>(x,a)::a8 env ns | none=>a8 env ns):=h
   induction ha:env.cells.lookup x using Option.casesOn with
   | none=>rw [ha] at h;exact ih h
   | some a =>
    rw [ha] at h
    rcases List.mem_cons.mp h with q | q
    ·subst q;exact ha
    ·exact ih q
  | _=>exact ih h
theorem oi {env:Env} {x:Str} {a:Addr} {l:List (Str×Addr)} (hm:(x,a)∈l) (hall:∀ p∈l,env.cells.lookup p.1=some p.2):l.lookup x=some a:=by
 induction l with
 | nil=>contradiction
 | cons q r ih =>
  rw [ae,ag]
  by_cases e:q.1=x
  ·rw [if_pos e]
   have h1:=hall q (.head _)
   have h2:=hall (x,a) hm
   rw [e] at h1
   rw [h1] at h2
   exact h2
  ·rw [if_neg e, ← ae]
   refine ih ?_ fun p hp=>hall p (.tail _ hp)
   rcases List.mem_cons.mp hm with q' | q'
   ·exact absurd (congrArg Prod.fst q').symm e
   ·exact q'
theorem qr {e:En} {env:Env} {x:Str} {k:Nat}  {ns:List (Str×NameKind)}:∀ {cl:List (Str×Nat)},am e ns=some cl->look x cl=some k->look x e.cells=some k /\ ∀ a,env.cells.lookup x=some a->(x,a)∈a8 env ns:=by
 induction ns with
 | nil=>intro cl h hl;obtain rfl:=Option.some.inj h;exact nos hl
 | cons p ns ih =>
  intro cl h hl
  obtain ⟨y,kd⟩:=p
  induction kd using NameKind.casesOn with
  | free =>
   obtain ⟨c,l,hx,hl',rfl⟩:=mx h
   have grow:∀ {a},(x,a)∈a8 env ns->(x,a)∈(match env.cells.lookup y with | some a=>(y,a)::a8 env ns | none=>a8 env ns):=fun m=>by
    induction env.cells.lookup y using Option.casesOn with
    | none=>exact m
    | some b=>exact .tail _ m
   rw [ag] at hl
   by_cases q:y=x
   ·dsimp only at hl
    rw [if_pos q] at hl
    obtain rfl:=Option.some.inj hl
    subst q
    refine ⟨hx,fun a ha=>?_⟩
    show (y,a)∈(match env.cells.lookup y with | some a=>(y,a)::a8 env ns | none=>a8 env ns)
    rw [ha]
    exact .head _
   ·dsimp only at hl
    rw [if_neg q] at hl
    obtain ⟨h1,h2⟩:=ih hl' hl
    exact ⟨h1,fun a ha=>grow (h2 a ha)⟩
  | _=>exact ih h hl
theorem qs {e:En} {env:Env} {sc:Scope} {cl:List (Str×Nat)} {U:Nat->Addr} {n:Nat} (hc:∀ x k,look x e.cells=some k->k<n/\env.cells.lookup x=some (U k)) (h:am e sc.names=some cl) {x:Str} {k:Nat} (hl:look x cl=some k) :
  k<n/\(a8 env sc.names).reverse.lookup x=some (U k):=by
 obtain ⟨h1,h2⟩:=qr (env:=env) h hl
 obtain ⟨h3,h4⟩:=hc x k h1
 exact ⟨h3,oi (List.mem_reverse.mpr (h2 _ h4)) fun p hp=>y0 (List.mem_reverse.mp hp)⟩
theorem G2 {k:ScopeKind} (h:(match k with | .function=>true | _=>false)=true):k = .function:=by
 induction k using ScopeKind.casesOn with
 | function=>rfl
 | _=>exact Bool.noConfusion h
theorem G3 {o:Option NameKind} {k:Bool} (h:(match o with | some .local=>k | _=>false)=true):o=some .local/\k=true:=by
 induction o using Option.casesOn with
 | none=>exact Bool.noConfusion h
 | some x=>induction x using NameKind.casesOn with
  | «local» => exact ⟨rfl,h⟩
  | _=>exact Bool.noConfusion h
theorem Bz {all r:List (Str×NameKind)} {q:Str×NameKind} (h1:q.2 ≠ .cell) (h2:q.2 = .local->all.lookup q.1=some .local) (ih:(∀ p∈r,p.2 ≠ .cell) /\ ∀ p∈r,p.2 = .local->all.lookup p.1=some .local):(∀ p∈q::r,p.2 ≠ .cell) /\ ∀ p∈q::r,p.2 = .local->all.lookup p.1=some .local :=
 ⟨List.forall_mem_cons.mpr ⟨h1,ih.1⟩,List.forall_mem_cons.mpr ⟨h2,ih.2⟩⟩
theorem qt {sc:Scope} {g:Comprehension} (h:compOk sc g=true):sc.kind = .function/\g.is_async=0/\tc g.iter=true/\(∀ p∈sc.names,p.2 ≠ .cell) /\ ∀ p∈sc.names,p.2 = .local->sc.names.lookup p.1=some .local:=by
 delta compOk at h
 rw [Bool.and_eq_true,Bool.and_eq_true,Bool.and_eq_true] at h
 refine bc fun hG=>?_
 obtain ⟨⟨⟨h1,h2⟩,h3⟩,h4⟩:=h
 refine hG ?_
 refine ⟨?_,?_,h3,?_⟩
 ·exact G2 h1
 ·split at h2
  ·assumption
  ·injection h2
 ·have go:∀ (all ns:List (Str×NameKind)),compOk.namesOk all ns=true->(∀ p∈ns,p.2 ≠ .cell) /\ ∀ p∈ns,p.2 = .local->all.lookup p.1=some .local:=by
   intro all ns
   induction ns with
   | nil=>exact fun _=>⟨(fun p hp=>(by contradiction)),fun p hp=>(by contradiction)⟩
   | cons q r ih =>
    intro hq
    obtain ⟨x,k⟩:=q
    induction k using NameKind.casesOn with
    | cell=>injection hq
    | «local» =>
     obtain ⟨hx,hq⟩:=G3 (k:=compOk.namesOk all r) hq
     exact Bz (fun h=>(by contradiction)) (fun _=>(ae ..).trans hx) (ih hq)
    | _=>exact Bz (fun h=>(by contradiction)) (fun h=>(by contradiction)) (ih hq)
  exact go _ _ h4
theorem ol {sc:Scope} {env:Env} (hnc:∀ p∈sc.names,p.2 ≠ .cell):Ax sc (relabel sc env):=by
 intro x
 have key:∀ (ns:List (Str×NameKind)),(∀ p∈ns,p.2 ≠ .cell)->(ns.map fun (n,k)=>if (k == NameKind.free&&env.scope.kind == .function&&env.kindOf n == some .cell) then (n,NameKind.cell) else (n,k)).lookup x =
   match look x ns with | some .free=>(if (env.scope.kind == .function&&env.kindOf x == some .cell) then some .cell else some .free) | o=>o:=by
  intro ns hns
  induction ns with
  | nil=>rfl
  | cons q r ih =>
   obtain ⟨y,k⟩:=q
   have ih:=ih fun p hp=>hns p (.tail _ hp)
   rw [List.map_cons,ae,ag,ag, ← ae]
   by_cases e:y=x
   ·subst e
    have hk:k ≠ .cell:=hns (y,k) (.head _)
    induction k using NameKind.casesOn <;> first | exact absurd rfl hk | (simp;done) | skip
    simp only [if_true,show ((NameKind.free:NameKind) == NameKind.free)=true from rfl,Bool.true_and]
    induction hb:(env.scope.kind == .function&&env.kindOf y == some .cell) using Bool.casesOn
    ·simp only [Bool.false_eq_true,if_false,if_true]
    ·simp only [if_true]
   ·have e1:(if (k == NameKind.free&&env.scope.kind == .function&&env.kindOf y == some .cell)=true then (y,NameKind.cell) else (y,k)).1=y:=by split <;> rfl
    rw [if_neg (by rw [e1];exact e),ih]
    rw [if_neg e]
 show match look x sc.names with | some .local=>(relabel sc env).names.lookup x=some .local | some .cell=>_ | some .free=>_ | some .globalImplicit=>_ | _=>True
 have hk:=key sc.names hnc
 show match look x sc.names with | some .local=>(relabel sc env).names.lookup x=some .local | some .cell=>(relabel sc env).names.lookup x=some .cell | some .free=>(relabel sc env).names.lookup x=some .free\/(relabel sc env).names.lookup x=some .cell | some .globalImplicit=>(relabel sc env).names.lookup x=some .globalImplicit | _=>True
 have hk:(relabel sc env).names.lookup x=_:=hk
 rw [hk]
 induction look x sc.names using Option.casesOn with
 | none=>trivial
 | some k =>
  induction k using NameKind.casesOn <;> first | rfl | trivial | skip
  dsimp only
  split
  ·exact .inr rfl
  ·exact .inl rfl
end Mine
end
section
open PySem PySem.W PySem.Spec PySem.Calls PyProof.Rows PySem.SeqAt PyProof.Rows.LCg
set_option tactic.hygienic false
namespace Mine
section
variable {w:World} {A:Around} {E:Value->Shared->Prop} {s:Shared} {R:Result->Shared->Prop}
noncomputable abbrev ka (ifs:List Expr) (env:Env) (b:Bool):Sem Bool:=forIn ifs b fun c r=>if r=true then do let ok ← isTrue c env (eval c env);pure (ForInStep.yield ok) else pure (ForInStep.yield r)
theorem qu {elt target iter:Expr} {ifs:List Expr} {scope:Scope} {pos:Pos} {it acc:Value} {env:Env} (I:Nat->Shared->Prop)
  (turn:∀ n s,I n s -> ∀ E',wpAny (model PG w) A (pyNext it) (fun r s₁=>match r with
   | none=>R (.ok .next) s₁
   | some v=>wpAny (model PG w) A (letOwnedTupleGo target it v) (fun _ s₀=>wpAny (model PG w) A (PySem.assign target env v) (fun _ s₂ =>
     wpAny (model PG w) A (ka ifs env true) (fun ok s₃ =>
      if ok=true then wpAny (model PG w) A (eval elt env) (fun x s₄ =>
       wpAny (model PG w) A (PySem.call (.builtin "list.append") [acc,x]) (fun _ s₅=>∃ m,m<n/\I m s₅) E' s₄) E' s₃
      else ∃ m,m<n/\I m s₃) E' s₂) E' s₀) E' s₁) E' s)
  (n:Nat) (h:I n s):codeAny (model PG w) A (.compLoop (.ListComp elt [⟨target,iter,ifs,0⟩] scope pos) 0 it acc env) R s:=by
 refine codeAny_loop rfl I (fun n s hI=>?_) n h
 show wpAny _ A ((compTurn (.ListComp elt [⟨target,iter,ifs,0⟩] scope pos) 0 it acc env).onRaise (fun x=>do noteFrame x env;theTreesLotGoes x)) _ _ s
 refine wpAny_noted ?_
 rw [compTurn_list]
 refine wpAny_bind (wpAny_standAt (wpAny_bind (wpAny_mono (turn n s hI _) (fun r s₁ h₁=>?_) fun _ _ h'=>h')))
 induction r using Option.casesOn with
 | none=>exact wpAny_pure h₁
 | some v =>
  refine wpAny_bind (wpAny_mono h₁ (fun _ s₀ h₀=>?_) fun _ _ h'=>h')
  refine wpAny_bind (wpAny_mono h₀ (fun _ s₂ h₂=>wpAny_bind (wpAny_mono h₂ (fun ok s₃ h₃=>?_) fun _ _ h'=>h')) fun _ _ h'=>h')
  induction ok using Bool.casesOn with
  | false=>exact wpAny_pure ⟨rfl,h₃⟩
  | true =>
   exact wpAny_bind (wpAny_bind (wpAny_mono h₃ (fun x s₄ h₄=>wpAny_bind (wpAny_mono h₄ (fun _ s₅ h₅=>wpAny_pure (wpAny_pure ⟨rfl,h₅⟩)) fun _ _ h'=>h')) fun _ _ h'=>h'))
theorem uk {env:Env} {Q:Bool->Shared->Prop} (h:Q false s):∀ ifs,wpAny (model PG w) A (ka ifs env false) Q E s:=by
 intro l0
 induction l0 with
 | nil =>
  exact wpAny_pure h
 | cons c cs ih =>
  show wpAny _ _ (forIn (c::cs) false _) Q E s
  rw [List.forIn_cons]
  simp only [Bool.false_eq_true,if_false,pure_bind]
  exact ih
theorem y3 {env:Env} {c:Expr} {cs:List Expr} {Q:Bool->Shared->Prop} (h:wpAny (model PG w) A (isTrue c env (eval c env)) (fun b s'=>wpAny (model PG w) A (ka cs env b) Q E s') E s):wpAny (model PG w) A (ka (c::cs) env true) Q E s:=by
 show wpAny _ _ (forIn (c::cs) true _) Q E s
 rw [List.forIn_cons]
 simp only [if_true]
 exact wpAny_bind (wpAny_bind (wpAny_mono h (fun b s' h'=>wpAny_pure h') fun _ _ x=>x))
end
section
variable {T:Pl} {w:World} {K:Frag} {lz:List Str} {mn:ExcName->Option Value} {mg mb:Str->Option Value} {r:H Prop} {O:Known Prop} {e:En} {env:Env} {g:Heap} {A:Around} {F:Led} {U:Nat->Addr} {m:Str->Option Value} {led:Led} {S S':St} {σ:Shared}
 {E:Value->Shared->Prop}
theorem Ru (Z:Snd T w K lz mn mg mb r) (X:Sx T w K lz mn mg mb e env g A) {cs:List Expr}:∀ {F:Led} {U:Nat->Addr} {m:Str->Option Value} {led:Led} {S:St} {σ:Shared} {C:Bool->St->Prop} {Q:Bool->Shared->Prop},
  Dx T w e env g U m led F S σ->P5 r e cs S C->PostB T w e env g F U S.n σ C Q->wpAny (model PG w) A (ka cs env true) Q E σ:=by
 induction cs with
 | nil=>exact fun D h hQ=>wpAny_pure (hQ _ _ _ _ _ _ true _ (Ext.refl _ _ _) D h)
 | cons c cs ih =>
  intro F U m led S σ C Q D h hQ
  have h:r.t e c S fun b s=>cnd b (P5 r e cs s C) (C false s):=h
  refine y3 (Z.t X D h fun F1 ρ1 m1 led1 h1 t1 b S1 x1 D1 hp=>?_)
  rcases az hp with ⟨rfl,hp⟩ | ⟨rfl,hp⟩
  ·exact ih D1 hp (hQ.on x1)
  ·exact uk (hQ F1 ρ1 m1 led1 h1 t1 false S1 x1 D1 hp) cs
structure CSt (T:Pl) (w:World) (e:En) (env:Env) (g:Heap) (m:Str->Option Value) (Cc Da I:Addr) (fp:List Addr) (St':Nat->Heap->Prop) (i:Nat) (F led:Led) (U:Nat->Addr) (S:St) (mC:Str->Option Value) (h:Heap) (acc:List V) (ys:List Value):Prop where
 fr:Fr g env.locals h m
 nw:News g env.locals h (led++F)
 rel:Rel T w F U S led
 ns:h.Ns Cc mC
 loc:Loc T F U S mC
 cells:∀ x k,look x e.cells=some k->k<S.n/\env.cells.lookup x=some (U k)
 hD:h.get? Da=some (lst ys)
 hI:St' i h
 off:∀ p∈led++F,p.1≠Cc/\p.1≠Da/\p.1≠I
 fpOk:∀ b∈fp,b=I \/ ∃ o,(b,o)∈F/\da o
 accR:Each (VR T F U S.n) acc ys
structure CPl (g:Heap) (L Cc Da I:Addr):Prop where
 iC:I<Cc
 dC:Da<Cc
 lC:L<Cc
 gC:g.objs.size<=Cc
 iD:I≠Da
 iL:I≠L
 dL:Da≠L
 gI:g.get? I=none
 gD:g.get? Da=none
noncomputable def cEn (e:En) (sc:Scope) (cl:List (Str×Nat)):En:=⟨sc,cl,e.d,e.mu,none⟩
noncomputable abbrev Up (sc:Scope) (Cc:Addr) (env:Env):Env:=compEnvC sc (a8 env sc.names).reverse Cc env
theorem CSt.dx {Cc Da I:Addr} {fp:List Addr} {St':Nat->Heap->Prop} {i:Nat} {mC:Str->Option Value} {h:Heap} {acc:List V} {ys:List Value} {t:Nat} {sc:Scope} {cl:List (Str×Nat)} (c:CSt T w e env g m Cc Da I fp St' i F led U S mC h acc ys) (hcl:am e sc.names=some cl) :
  Dx T w (cEn e sc cl) (Up sc Cc env) (gC h Cc (led++F)) U mC led F S (At σ h t) :=
 ⟨⟨c.ns,fun b o q=>(X2 q).2,Mn _ _ _⟩,fun p hp=>⟨(c.nw p hp).1,(c.off p hp).1,Mm (by exact hp)⟩,c.rel,c.loc,fun x k hx=>qs c.cells hcl hx⟩
theorem CSt.step {Cc Da I:Addr} {fp:List Addr} {St':Nat->Heap->Prop} {i n:Nat} {Pv:Nat->Value->Prop} {mC mC':Str->Option Value} {h h':Heap} {acc:List V} {ys:List Value} {t:Nat} {sc:Scope} {cl:List (Str×Nat)} {F' led':Led} {ρ':Nat->Addr} {S1:St} (pl:CPl g env.locals Cc Da I)
  (W:Walks PG w A I fp [I] n Pv St') (hIt:∀ i h,St' i h -> ∃ o,h.get? I=some o /\ ¬ da o)
  (c:CSt T w e env g m Cc Da I fp St' i F led U S mC h acc ys) (x:Ext F U S.n F' ρ' S1.n) (D:Dx T w (cEn e sc cl) (Up sc Cc env) (gC h Cc (led++F)) ρ' mC' led' F' S1 (At σ h' t)) :
  CSt T w e env g m Cc Da I fp St' i F' led' ρ' S1 mC' h' acc ys:=by
 have keep:∀ {b o},h.get? b=some o->b<Cc->(∀ p∈led++F,p.1≠b)->(gC h Cc (led++F)).get? b=some o/\h'.get? b=some o:=fun e1 e2 e3=>by
  have:=Kt e1 e2 e3
  exact ⟨this,D.fr.keep _ _ this⟩
 have gk:∀ {b o},g.get? b=some o->(gC h Cc (led++F)).get? b=some o/\h'.get? b=some o:=fun {b o} e1 =>
  keep (c.fr.keep _ _ e1) (Nat.lt_of_lt_of_le (Heap.lt_size e1) pl.gC) fun p hp q=>by
   have:=(c.nw p hp).2.2
   rw [q,e1] at this;injection this
 refine bc fun hG=>?_
 obtain ⟨oL,esL,epL,hL,rL⟩:=c.fr.ns
 obtain ⟨lg,lh⟩:=keep hL pl.lC fun p hp=>(c.nw p hp).2.1
 obtain ⟨dg,dh⟩:=keep c.hD pl.dC fun p hp=>(c.off p hp).2.1
 obtain ⟨oI,hoI,hsI⟩:=hIt _ _ c.hI
 obtain ⟨ig,ih⟩:=keep hoI pl.iC fun p hp=>(c.off p hp).2.2
 refine hG ?_
 have sol:∀ {b o},(b,o)∈F->da o->h.get? b=some o->h'.get? b=some o:=fun e1 e2 e3=>(D.nw _ (List.mem_append_right _ (x.sub _ e1))).1
 refine ⟨⟨⟨oL,esL,epL,lh,rL⟩,fun b o e1=>(gk e1).2,c.fr.above⟩,fun p hp=>⟨(D.nw p hp).1,fun q=>?_,?_⟩,D.rel,D.fr.ns,D.loc,fun y k hy=>?_,dh,?_,fun p hp=>⟨(D.nw p hp).2.1,fun q=>?_,fun q=>?_⟩,fun b hb=>?_,c.accR.mono fun _ _ q=>x.vr q⟩
 ·have:=(D.nw p hp).2.2
  rw [q,lg] at this;injection this
 ·induction q:g.get? p.1 using Option.casesOn with
  | none=>rfl
  | some o =>
   have:=(D.nw p hp).2.2
   rw [(gk q).1] at this;injection this
 ·obtain ⟨h1,h2⟩:=c.cells y k hy
  exact ⟨Nat.lt_of_lt_of_le h1 x.le,by rw [h2,x.same _ h1]⟩
 ·refine W.frame _ _ _ c.hI fun b hb o e1=>?_
  rcases c.fpOk b hb with q | ⟨o',ho',hs'⟩
  ·subst q
   rw [hoI] at e1; (injection e1 with e1;subst e1);exact ih
  ·have:=(c.nw _ (List.mem_append_right _ ho')).1
   have e2:h.get? b=some o':=this
   rw [e2] at e1; (injection e1 with e1;subst e1)
   exact sol ho' hs' e2
 ·have:=(D.nw p hp).2.2
  rw [q,dg] at this;injection this
 ·have:=(D.nw p hp).2.2
  rw [q,ig] at this;injection this
 ·rcases c.fpOk b hb with q | ⟨o',ho',hs'⟩
  ·exact .inl q
  ·exact .inr ⟨o',x.sub _ ho',hs'⟩
end
section
variable {T:Pl} {w:World} {K:Frag} {lz:List Str} {mn:ExcName->Option Value} {mg mb:Str->Option Value} {r:H Prop} {O:Known Prop} {e:En} {env:Env} {g:Heap} {A:Around} {F:Led} {U:Nat->Addr} {m:Str->Option Value} {led:Led} {S S':St} {σ:Shared}
 {E:Value->Shared->Prop}
theorem Sx.comp (X:Sx T w K lz mn mg mb e env g A) {g':Heap} (hk:∀ b o,g.get? b=some o->g'.get? b=some o) {sc:Scope} {cl:List (Str×Nat)} {Cc:Addr} (hkind:sc.kind = .function) (hnc:∀ p∈sc.names,p.2 ≠ .cell):Sx T w K lz mn mg mb (cEn e sc cl) (Up sc Cc env) g' A :=
 ⟨X.tx,fun a o q=>hk _ _ (X.kin a o q),X.top.keeps hk,hkind,X.glo,X.blt,ol hnc,X.deep,X.depth,X.units,X.hand,fun k f h=>(by contradiction)⟩
theorem CSt.keepG {Cc Da I:Addr} {fp:List Addr} {St':Nat->Heap->Prop} {i:Nat} {mC:Str->Option Value} {h:Heap} {acc:List V} {ys:List Value} (pl:CPl g env.locals Cc Da I) (c:CSt T w e env g m Cc Da I fp St' i F led U S mC h acc ys):∀ b o,g.get? b=some o->(gC h Cc (led++F)).get? b=some o:=fun b o e1 =>
 Kt (c.fr.keep _ _ e1) (Nat.lt_of_lt_of_le (Heap.lt_size e1) pl.gC) fun p hp q=>by
  have:=(c.nw p hp).2.2
  rw [q,e1] at this;injection this
theorem CSt.next {Cc Da I:Addr} {fp:List Addr} {St':Nat->Heap->Prop} {i j:Nat} {mC:Str->Option Value} {h h':Heap} {acc:List V} {ys:List Value} (pl:CPl g env.locals Cc Da I) (c:CSt T w e env g m Cc Da I fp St' i F led U S mC h acc ys) (hst:St' j h') (hk:∀ b o,b∉[I]->h.get? b=some o->h'.get? b=some o) :
  CSt T w e env g m Cc Da I fp St' j F led U S mC h' acc ys:=by
 have k:∀ {b o},b≠I->h.get? b=some o->h'.get? b=some o:=fun n q=>hk _ _ (by simpa using n) q
 refine bc fun hG=>?_
 obtain ⟨oL,esL,epL,hL,rL⟩:=c.fr.ns
 obtain ⟨oC,esC,epC,hC,rC⟩:=c.ns
 refine hG ?_
 exact ⟨⟨⟨oL,esL,epL,k (Ne.symm pl.iL) hL,rL⟩,fun b o q=>k (fun z=>by rw [z,pl.gI] at q;injection q) (c.fr.keep b o q),c.fr.above⟩,fun p hp=>⟨k (c.off p hp).2.2 (c.nw p hp).1,(c.nw p hp).2⟩,c.rel,⟨oC,esC,epC,k (Nat.ne_of_gt pl.iC) hC,rC⟩,c.loc,c.cells,k (Ne.symm pl.iD) c.hD,hst,c.off,c.fpOk,c.accR⟩
theorem CSt.push {Cc Da I:Addr} {fp:List Addr} {St':Nat->Heap->Prop} {i n:Nat} {Pv:Nat->Value->Prop} {mC:Str->Option Value} {h h':Heap} {acc:List V} {ys:List Value} {v:V} {y:Value} (pl:CPl g env.locals Cc Da I) (W:Walks PG w A I fp [I] n Pv St') (c:CSt T w e env g m Cc Da I fp St' i F led U S mC h acc ys) (hv:VR T F U S.n v y)
  (hs:Heap.SameBut Da h h') (hd:h'.get? Da=some (lst (ys++[y]))):CSt T w e env g m Cc Da I fp St' i F led U S mC h' (acc++[v]) (ys++[y]):=by
 have k:∀ {b o},b≠Da->h.get? b=some o->h'.get? b=some o:=fun n q=>(hs.2 _ n).trans q
 refine bc fun hG=>?_
 obtain ⟨oL,esL,epL,hL,rL⟩:=c.fr.ns
 obtain ⟨oC,esC,epC,hC,rC⟩:=c.ns
 refine hG ?_
 refine ⟨⟨⟨oL,esL,epL,k (Ne.symm pl.dL) hL,rL⟩,fun b o q=>k (fun z=>by rw [z,pl.gD] at q;injection q) (c.fr.keep b o q),c.fr.above⟩,fun p hp=>⟨k (c.off p hp).2.1 (c.nw p hp).1,(c.nw p hp).2⟩,c.rel,⟨oC,esC,epC,k (Nat.ne_of_gt pl.dC) hC,rC⟩,c.loc,c.cells,hd,?_,c.off,c.fpOk,c.accR.append (.cons hv .nil)⟩
 refine W.frame _ _ _ c.hI fun b hb o e1=>?_
 rcases c.fpOk b hb with q | ⟨o',ho',hs'⟩
 ·subst q;exact k pl.iD e1
 ·exact k (c.off _ (List.mem_append_right _ ho')).2.1 e1
inductive CEnd (T:Pl) (w:World) (e:En) (env:Env) (g:Heap) (F:Led) (U:Nat->Addr) (n:Nat) (σ:Shared) (C:V->St->Prop) (Cc Da:Addr):Shared->Prop
 | mk {F1:Led} {ρ1:Nat->Addr} {m:Str->Option Value} {led1:Led} {h1:Heap} {t1:Nat} {v:V} {S1:St} {mC:Str->Option Value}:Ext F U n F1 ρ1 S1.n->Dx T w e env g ρ1 m led1 F1 S1 (At σ h1 t1)->VR T F1 ρ1 S1.n v (.ref Da)->C v S1->h1.Ns Cc mC->(∀ p∈led1++F1,p.1≠Cc)->Cc≠env.locals->g.get? Cc=none ->
  CEnd T w e env g F U n σ C Cc Da (At σ h1 t1)
noncomputable def ul (loc:List (Str×V)) (C:V->St->Prop) (vs:List V) (s:St):Prop:=match Af vs with
 | some ps=>C (.p (.lst ps)) { s with loc:=loc }
 | none=>C (.ref s.n) (Mine.new (.listV vs) { s with loc:=loc })
theorem um {e:En} {elt t:Expr} {ifs:List Expr} {Q:List V->St->Prop} {x:P} {xs:List P} {acc:List V} {s:St} (h:cf False r e elt t ifs Q (x::xs) acc s) :
  assign False r e t (.p x) s fun s=>P5 r e ifs s fun b s=>cnd b (r.e e elt s fun x s=>cnd (fits (acc.length+1)) (cf False r e elt t ifs Q xs (acc++[x]) s) False) (cf False r e elt t ifs Q xs acc s):=h
inductive CInv (T:Pl) (w:World) (e:En) (env:Env) (g:Heap) (m:Str->Option Value) (Cc Da I:Addr) (fp:List Addr) (St':Nat->Heap->Prop) (F:Led) (U:Nat->Addr) (n:Nat) (σ:Shared) (xs:List P) (go:List P->List V->St->Prop):Nat->Shared->Prop
 | mk {i:Nat} {F1 led1:Led} {ρ1:Nat->Addr} {S1:St} {mC:Str->Option Value} {h1:Heap} {tk:Nat} {acc:List V} {ys:List Value}:i<=xs.length->Ext F U n F1 ρ1 S1.n->CSt T w e env g m Cc Da I fp St' i F1 led1 ρ1 S1 mC h1 acc ys->acc.length<=2000->go (xs.drop i) acc S1 ->
  CInv T w e env g m Cc Da I fp St' F U n σ xs go (xs.length+1 - i) (At σ h1 tk)
theorem B3 {Cc Da I:Addr} {fp:List Addr} {St':Nat->Heap->Prop} {i:Nat} {mC:Str->Option Value} {h1 h2:Heap} {acc:List V} {ys:List Value} {F1 led1:Led} {ρ1:Nat->Addr} {S1:St} {t2:Nat} {C:V->St->Prop} (D:Dx T w e env g U m led F S σ) (pl:CPl g env.locals Cc Da I) (x1:Ext F U S.n F1 ρ1 S1.n)
  (c1:CSt T w e env g m Cc Da I fp St' i F1 led1 ρ1 S1 mC h1 acc ys) (hal:acc.length<=2000) (hk:∀ b o,b∉[I]->h1.get? b=some o->h2.get? b=some o) (hgo:ul S.loc C acc S1):CEnd T w e env g F U S.n σ C Cc Da (At σ h2 t2):=by
 have keepI:∀ {b o},b≠I->h1.get? b=some o->h2.get? b=some o:=fun n q=>hk _ _ (fun h=>n (List.mem_singleton.mp h)) q
 have nsC:h2.Ns Cc mC:=by
  obtain ⟨oC,esC,epC,hC,rC⟩:=c1.ns
  exact ⟨oC,esC,epC,keepI (Nat.ne_of_gt pl.iC) hC,rC⟩
 have fr2:Fr g env.locals h2 m:=by
  obtain ⟨oL,esL,epL,hL',rL⟩:=c1.fr.ns
  exact ⟨⟨oL,esL,epL,keepI (Ne.symm pl.iL) hL',rL⟩,fun b o q=>keepI (fun z=>by rw [z,pl.gI] at q;injection q) (c1.fr.keep b o q),c1.fr.above⟩
 have nw2:News g env.locals h2 (led1++F1):=fun p hp=>⟨keepI (c1.off p hp).2.2 (c1.nw p hp).1,(c1.nw p hp).2⟩
 have nwD:News g env.locals h2 ((Da,lst ys)::(led1++F1)):=fun p hp=>by
  rcases List.mem_cons.mp hp with q | q
  ·exact q ▸ (⟨keepI (Ne.symm pl.iD) c1.hD,pl.dL,pl.gD⟩)
  ·exact nw2 p q
 have D2:Dx T w e env g ρ1 m led1 F1 { S1 with loc:=S.loc } (At σ h2 t2):=⟨fr2,nw2,⟨c1.rel.full,c1.rel.objs,c1.rel.inj,c1.rel.nodup⟩,fun x v q=>by
  obtain ⟨y,h3,h4⟩:=D.loc x v q
  exact ⟨y,h3,x1.vr h4⟩,c1.cells⟩
 have hyl:ys.length<=2000:=c1.accR.length ▸ hal
 have gCn:g.get? Cc=none:=by
  induction q:g.get? Cc using Option.casesOn with
  | none=>rfl
  | some o=>exact absurd (Nat.lt_of_lt_of_le (Heap.lt_size q) pl.gC) (Nat.lt_irrefl _)
 have offC:∀ p∈(Da,lst ys)::(led1++F1),p.1≠Cc:=fun p hp=>by
  rcases List.mem_cons.mp hp with q | q
  ·exact q ▸ (Nat.ne_of_lt pl.dC)
  ·exact (c1.off p q).1
 have nD:∀ p∈led1++F1,p.1≠Da:=fun p hp=>(c1.off p hp).2.1
 delta ul at hgo
 induction hps:Af acc using Option.casesOn with
 | some ps =>
  rw [hps] at hgo
  exact .mk (S1:={ S1 with loc:=S.loc }) (x1.trans (Ext.frz _ _ _ _)) (D2.freezeN (h':=h2) (t:=t2) fr2 nwD nD) (.p (.lst (.head _) ((PRs.of (j8 c1.accR hps)).mono fun _ q _=>.tail _ q) hyl)) hgo nsC (fun p hp=>offC p (by
   rcases List.mem_append.mp hp with q | q
   ·exact .tail _ (List.mem_append_left _ q)
   ·exact (List.mem_cons.mp q).elim (fun q=>q ▸ .head _) fun q=>.tail _ (List.mem_append_right _ q))) (Nat.ne_of_gt pl.lC) gCn
 | none =>
  rw [hps] at hgo
  refine .mk (S1:=Mine.new (.listV acc) { S1 with loc:=S.loc }) (v:=.ref S1.n) (x1.trans (Ext.new _ _ _ Da)) (D2.moreN (vo:=.listV acc) (h':=h2) (t:=t2) fr2 nwD nD (.listV (c1.accR.mono fun _ _ q=>q.mono (fun _ q _=>q) (Nat.le_succ _) fun k hk=>if_neg (Nat.ne_of_lt hk)) hyl)) ?_ hgo nsC (fun p hp=>offC p hp) (Nat.ne_of_gt pl.lC) gCn
  have:=VR.ref (T:=T) (F:=F1) (U:=fun k=>if k=S1.n then Da else ρ1 k) (n:=S1.n+1) (k:=S1.n) (Nat.lt_succ_self _)
  rw [if_pos rfl] at this
  exact this
theorem mz (Z:Snd T w K lz mn mg mb r) (X:Sx T w K lz mn mg mb e env g A) (D:Dx T w e env g U m led F S σ) {elt:Expr} {gg:Comprehension} {sc:Scope} {pos:Pos} {iv:P} {y:Value} (hx:PR T F iv y) {C:V->St->Prop} (h:dv False r e elt gg sc iv S C)
  {R:Value->Addr->Result->Shared->Prop} (hR:∀ Cc Da s',CEnd T w e env g F U S.n σ C Cc Da s'->R (.ref Da) Cc (.ok .next) s') :
  wpAny (model PG w) A (pyIter y) (fun it s₂=>wpAny (model PG w) A (newList []) (fun acc s₃=>wpAny (model PG w) A (newFunctionEnv sc env.globals (a8 env sc.names).reverse [] env.qual none .none (some env)) (fun cenv s₄ =>
   codeAny (model PG w) A (.compStart (.ListComp elt [gg] sc pos) 0 it acc { cenv with scope:=relabel sc env }) (R acc cenv.locals) s₄) E s₃) E s₂) E σ:=by
 refine bc fun hG=>?_
 obtain ⟨target,iter,ifs,isa⟩:=gg
 obtain ⟨hok,h⟩:=ab h
 obtain ⟨hkind,hasync,_,hnc,_⟩:=qt hok
 refine hG ?_
 dsimp only at hasync
 subst hasync
 refine bc fun hG=>?_
 obtain ⟨cl,hcl,h⟩:=ac h
 obtain ⟨xs,hxs,hgo0⟩:=ac h
 refine hG ?_
 refine Bx X.hand D hx hxs fun fp St' oI hfr It hst hfp hlen=>?_
 refine bc fun hG=>?_
 obtain ⟨Pv,W,hval⟩:=It.walks
 refine hG ?_
 have hs:=ao
 refine wpAny_newObj_type (wpAny_newFunctionEnv hnc (by intro y hy;simp at hy) (fun h₁ hns₁ hsb₁=>?_) hkind)
 dsimp only at hns₁ hsb₁ ⊢
 generalize hH1:σ.heap.push oI=H1 at hns₁ hsb₁ hst ⊢
 generalize hH2:H1.push { cls:=.type "list",dict:=none,data:=.seq ([]:List Value).toArray }=H2 at hns₁ hsb₁ ⊢
 have z1:H1.objs.size=σ.heap.objs.size+1:=by rw [← hH1,Heap.size_push]
 have z2:H2.objs.size=σ.heap.objs.size+2:=by rw [← hH2,Heap.size_push,z1]
 have l3:σ.heap.objs.size<H1.objs.size:=by exact z1 ▸ (Nat.lt_succ_self _)
 have l2:H1.objs.size<H2.objs.size:=by rw [z1,z2];exact Nat.lt_succ_self _
 have l1:σ.heap.objs.size<H2.objs.size:=Nat.lt_trans l3 l2
 have old:∀ b o,σ.heap.get? b=some o->h₁.get? b=some o:=fun b o q=>hsb₁.extBut b o (Nat.ne_of_lt (Nat.lt_trans (Heap.lt_size q) l1)) (Heap.get?_push_of_some _ (hH2 ▸ Heap.get?_push_of_some _ (hH1 ▸ Heap.get?_push_of_some _ q)))
 have old1:∀ b o,H1.get? b=some o->h₁.get? b=some o:=fun b o q=>hsb₁.extBut b o (Nat.ne_of_lt (Nat.lt_trans (Heap.lt_size q) l2)) (Heap.get?_push_of_some _ (hH2 ▸ Heap.get?_push_of_some _ q))
 have hacc:h₁.get? H1.objs.size=some (lst []):=hsb₁.extBut _ _ (Nat.ne_of_lt l2) (Heap.get?_push_of_some _ (hH2 ▸ Heap.get?_push_size _ rfl))
 have gnone:∀ a,σ.heap.objs.size<=a->g.get? a=none:=fun a ha=>by
  induction q:g.get? a using Option.casesOn with
  | none=>rfl
  | some o=>exact absurd (Nat.lt_of_lt_of_le (Heap.lt_size (D.fr.keep _ _ q)) ha) (Nat.lt_irrefl _)
 have hL:env.locals<σ.heap.objs.size:=D.fr.ns.lt
 have pl:CPl g env.locals H2.objs.size H1.objs.size σ.heap.objs.size :=
  ⟨l1,l2,Nat.lt_trans hL l1,Nat.le_of_lt (Nat.lt_of_le_of_lt D.fr.above (Nat.lt_trans hL l1)),Nat.ne_of_lt l3,Nat.ne_of_gt hL,Nat.ne_of_gt (Nat.lt_trans hL l3),gnone _ (Nat.le_refl _),gnone _ (Nat.le_of_lt l3)⟩
 have c0:CSt T w e env g m H2.objs.size H1.objs.size σ.heap.objs.size fp St' 0 F led U { S with loc:=[] } (fun x=>([]:List (Str×Value)).reverse.lookup x) h₁ [] []:=by
  refine ⟨D.fr.keeps old,fun p hp=>⟨old _ _ (D.nw p hp).1,(D.nw p hp).2⟩,⟨D.rel.full,D.rel.objs,D.rel.inj,D.rel.nodup⟩,hns₁,fun x v q=>((by contradiction)),D.cells,hacc,W.frame _ _ _ hst fun b hb o q=>old1 _ _ q,fun p hp=>?_,hfp,.nil⟩
  have:=D.lt p hp
  exact ⟨Nat.ne_of_lt (Nat.lt_trans this l1),Nat.ne_of_lt (Nat.lt_trans this l3),Nat.ne_of_lt this⟩
 have loop:∀ s₃:Shared,s₃=At σ h₁ (σ.toks+([]:List (Str×Value)).length) ->
   codeAny (model PG w) A (.compLoop (.ListComp elt [⟨target,iter,ifs,0⟩] sc pos) 0 (.ref σ.heap.objs.size) (.ref H1.objs.size) (Up sc H2.objs.size env)) (R (.ref H1.objs.size) H2.objs.size) s₃:=by
  rintro s₃ rfl
  refine qu (CInv T w e env g m H2.objs.size H1.objs.size σ.heap.objs.size fp St' F U S.n σ xs (cf False r (cEn e sc cl) elt target ifs (ul S.loc C))) ?_ (xs.length+1) (.mk (i:=0) (S1:={ S with loc:=[] }) (acc:=[]) (Nat.zero_le _) (Ext.refl _ _ _) c0 (Nat.zero_le _) hgo0)
  rintro k s' hh E'
  refine bc fun hG=>?_
  obtain @⟨i,F1,led1,ρ1,S1,mC,h1,tk,acc,ys,hi,x1,c1,hal,hgo⟩:=hh
  refine hG ?_
  by_cases hlt:i<xs.length
  ·rw [List.drop_eq_getElem_cons hlt] at hgo
   refine W.item i _ _ _ hlt c1.hI fun v h2 tk2 hPv hst2 hk2=>?_
   refine bc fun hG=>?_
   obtain ⟨p,hp,hpr⟩:=hval i v hlt hPv
   rw [List.getElem?_eq_getElem hlt] at hp
   (injection hp with hp;subst hp)
   have c2:=c1.next pl hst2 hk2
   obtain ⟨o2,n2,ho2,hc2,hn2,_⟩:=It.there _ _ hst2
   refine hG ?_
   refine X0 ho2 hc2 hn2 ?_
   have hgo:=um hgo
   have sO:∀ i h,St' i h -> ∃ o,h.get? σ.heap.objs.size=some o /\ ¬ da o:=fun i h q=>by
    refine bc fun hG=>?_
    obtain ⟨o,n,a1,a2,a3,a4⟩:=It.there i h q
    refine hG ?_
    exact ⟨o,a1,a4⟩
   have D2:=c2.dx (t:=tk2) (σ:=σ) hcl
   refine gy Z (X.comp (c2.keepG pl) hkind hnc) D2 (.p (hpr.mono fun p hp _=>x1.sub p hp)) hgo fun F3 ρ3 m3 led3 h3 t3 S3 x3 D3 hp3=>?_
   have c3:=c2.step pl W sO x3 D3
   have D3':=c3.dx (t:=t3) (σ:=σ) hcl
   refine Ru Z (X.comp (c3.keepG pl) hkind hnc) D3' hp3 fun F4 ρ4 m4 led4 h4 t4 b S4 x4 D4 hp4=>?_
   have c4:=c3.step pl W sO x4 D4
   refine bc fun hG=>?_
   rcases az hp4 with ⟨rfl,hp4⟩ | ⟨rfl,hp4⟩
   ·refine hG ?_
    have D4':=c4.dx (t:=t4) (σ:=σ) hcl
    refine Z.e (X.comp (c4.keepG pl) hkind hnc) D4' hp4 fun F5 ρ5 m5 led5 h5 t5 vx yx S5 x5 D5 hvx hp5=>?_
    obtain ⟨hf,hp5⟩:=ab hp5
    have c5:=c4.step pl W sO x5 D5
    have hyl:=c5.accR.length
    have hf:=bt hf
    refine append_at (hsz:=by rw [List.size_toArray];exact Zp hs hal hyl) c5.hD fun h6 hs6 hd6=>?_
    have c6:=c5.push pl W hvx hs6 (hd6.trans (congrArg some (lst_snoc ys yx)))
    exact ⟨xs.length+1 - (i+1),by exact Uz hi,.mk hlt (((x1.trans x3).trans x4).trans x5) c6 (by exact (List.length_append) ▸ hf) hp5⟩
   ·refine hG ?_
    exact ⟨xs.length+1 - (i+1),by exact Uz hi,.mk hlt ((x1.trans x3).trans x4) c4 hal hp4⟩
  ·obtain rfl:i=xs.length:=by exact Z7 hi hlt
   rw [List.drop_length] at hgo
   exact W.done _ _ _ c1.hI fun h2 tk2 hk2=>hR _ _ _ (B3 D pl x1 c1 hal hk2 hgo)
 exact codeAny_compStart_list (loop _ rfl) (W.self 0 _ _ _ c0.hI (loop _ rfl))
end
structure KnownOK (T:Pl) (w:World) (K:Frag) (lz:List Str) (mn:ExcName->Option Value) (mg mb:Str->Option Value) (O:Known Prop):Prop where
 comp:∀ line C,O.comp line=some C -> ∀ e elt gg sc iv s Q,C e elt gg sc iv s Q -> ∃ r',Snd T w K lz mn mg mb r'/\dv False r' e elt gg sc iv s Q
 call:∀ c m C,O.call c m=some C -> ∀ {e env g A F U m' led S σ f fv vs xs P Q E},Sx T w K lz mn mg mb e env g A->Dx T w e env g U m' led F S σ->f=(if m=noStr then Mine.P.cls c else Mine.P.fn c m)->PR T F f fv->Each (VR T F U S.n) vs xs->C e.d vs S P ->
  PostE T w e env g F U S.n σ P Q->wpAny (model PG w) A (PySem.call fv xs) Q E σ
theorem m6 {x:Expr} (h:tc x=true) (env:Env) (v:Value):foldedSetIterable x env v=pure v:=by
 induction x using Expr.casesOn <;> first | rfl | injection h
section
variable {T:Pl} {w:World} {K:Frag} {lz:List Str} {mn:ExcName->Option Value} {mg mb:Str->Option Value} {r:H Prop} {O:Known Prop} {e:En} {env:Env} {g:Heap} {A:Around} {F:Led} {U:Nat->Addr} {m:Str->Option Value} {led:Led} {S S':St} {σ:Shared}
 {E:Value->Shared->Prop}
theorem Dx.but {h1 h2:Heap} {t t':Nat} {Cc:Addr} (D:Dx T w e env g U m led F S (At σ h1 t)) (hs:Heap.SameBut Cc h1 h2) (off:∀ p∈led++F,p.1≠Cc) (neC:Cc≠env.locals) (gC:g.get? Cc=none):Dx T w e env g U m led F S (At σ h2 t') :=
 ⟨D.fr.change hs neC gC,fun p hp=>⟨(hs.2 _ (off p hp)).trans (D.nw p hp).1,(D.nw p hp).2⟩,D.rel,D.loc,D.cells⟩
theorem G4 {elt:Expr} {gens:List Comprehension} {sc:Scope} {pos:Pos} {C:V->St->Prop} (h:Gd False O r e elt gens sc pos S C):∃ gg,gens=[gg]/\Gd False O r e elt [gg] sc pos S C:=by
 induction gens using List.casesOn with
 | nil=>exact h.elim
 | cons g q=>induction q using List.casesOn with
  | nil=>exact ⟨g,rfl,h⟩
  | cons=>exact h.elim
theorem B5 (Z:Snd T w K lz mn mg mb r) (N:KnownOK T w K lz mn mg mb O) (X:Sx T w K lz mn mg mb e env g A) (D:Dx T w e env g U m led F S σ) {elt:Expr} {gens:List Comprehension} {sc:Scope} {pos pos':Pos} {C:V->St->Prop} (h:Gd False O r e elt gens sc pos S C)
  {use:Option (Value->Sem Unit)} {Q:Value->Shared->Prop}
  (hR:∀ Cc Da s',CEnd T w e env g F U S.n σ C Cc Da s'->compPost (model PG w) A E use Q (.ref Da) Cc (.ok .next) s') :
  ∃ gg,gens=[gg]/\gg.is_async=0/\wpAny (model PG w) A (comprehension (.ListComp elt gens sc pos) sc env pos' (newList []) false (eval gg.iter env) use) Q E σ:=by
 refine bc fun hG=>?_
 obtain ⟨gg,rfl,h⟩:=G4 h
 ·obtain ⟨hc,h⟩:=ab h
  rw [Bool.and_eq_true] at hc
  obtain ⟨hkind,hasync,hnoset,hnc,hnames⟩:=qt hc.1
  obtain ⟨cl,hcl⟩:=Option.isSome_iff_exists.mp hc.2
  refine hG ⟨gg,rfl,hasync,wpAny_comprehension_free rfl (m6 hnoset env) (my (fun x k q=>⟨_,(D.cells x k q).2⟩) hcl) hkind hnames ?_⟩
  refine Z.e X D h fun F1 ρ1 m1 led1 h1 t1 iv y S1 x1 D1 hv hp=>?_
  cases hv with
  | ref=>exact hp.elim
  | p hv =>
   rename_i x
   have fin:∀ Cc Da s',CEnd T w e env g F1 ρ1 S1.n (At σ h1 t1) C Cc Da s'->compPost (model PG w) A E use Q (.ref Da) Cc (.ok .next) s':=by
    intro Cc Da s' hh
    refine bc fun hG=>?_
    obtain @⟨F2,ρ2,m2,led2,h2,t2,v,S2,mC,x2,b1,b2,b3,b4,b5,b6,b7⟩:=hh
    exact hG (hR Cc Da _ (.mk (x1.trans x2) b1 b2 b3 b4 b5 b6 b7))
   dsimp only at hp
   split at hp
   ·rename_i C' hC
    obtain ⟨r',Z',hp⟩:=N.comp _ _ hC _ _ _ _ _ _ _ hp
    exact mz (E:=E) (R:=fun acc Cc=>compPost (model PG w) A E use Q acc Cc) Z' X D1 hv hp fin
   ·exact mz (E:=E) (R:=fun acc Cc=>compPost (model PG w) A E use Q acc Cc) Z X D1 hv hp fin
theorem Rv (Z:Snd T w K lz mn mg mb r) (N:KnownOK T w K lz mn mg mb O) (X:Sx T w K lz mn mg mb e env g A) (D:Dx T w e env g U m led F S σ) {elt:Expr} {gens:List Comprehension} {sc:Scope} {pos:Pos} {C:V->St->Prop} (h:Gd False O r e elt gens sc pos S C) {Q:Value->Shared->Prop}
  (hQ:PostE T w e env g F U S.n σ C Q):wpAny (model PG w) A (eval (.ListComp elt gens sc pos) env) Q E σ:=by
 obtain ⟨gg,rfl,ha,h⟩:=B5 (E:=E) (use:=none) (Q:=Q) (pos':=firstIterPos gens pos) Z N X D h fun Cc Da s' hh=>bc fun hG=>by
  obtain @⟨F1,ρ1,m1,led1,h1,t1,v,S1,mC,x1,D1,hv,hp,ns,off,neC,gCn⟩:=hh
  exact hG ⟨mC,ns,fun h2 hs=>hQ F1 ρ1 m1 led1 h2 t1 v _ S1 x1 (D1.but hs off neC gCn) hv hp⟩
 have e1:eval (.ListComp elt [gg] sc pos) env=comprehension (.ListComp elt [gg] sc pos) sc env (firstIterPos [gg] pos) (newList []) (firstAsync [gg]) (firstIter [gg] env):=rfl
 have e2:firstAsync [gg]=false:=by obtain ⟨x1,x2,x3,x4⟩:=gg;dsimp only at ha;subst ha;rfl
 have e3:firstIter [gg] env=eval gg.iter env:=by obtain ⟨x1,x2,x3,x4⟩:=gg;rfl
 rw [e1,e2,e3]
 exact h
theorem Rw (Z:Snd T w K lz mn mg mb r) (N:KnownOK T w K lz mn mg mb O) (X:Sx T w K lz mn mg mb e env g A) (D:Dx T w e env g U m led F S σ) {x:Str} {px:Pos} (hx:env.kindOf x=some .local) {elt:Expr} {gens:List Comprehension} {sc:Scope} {pos:Pos} {C:St->Prop} (h:Gd False O r e elt gens sc pos S fun v s=>opt False (store e x v s) C) {Q:Unit->Shared->Prop}
  (hQ:PostU T w e env g F U S.n σ C Q):wpAny (model PG w) A (evalThenUse (.ListComp elt gens sc pos) env (PySem.assign (.Name x px) env)) Q E σ:=by
 obtain ⟨gg,rfl,ha,h⟩:=B5 (E:=E) (use:=some (PySem.assign (.Name x px) env)) (Q:=fun _ s=>Q () s) (pos':=firstIterPos gens pos) Z N X D h fun Cc Da s' hh=>bc fun hG=>by
  obtain @⟨F1,ρ1,m1,led1,h1,t1,v,S1,mC,x1,D1,hv,hp,ns,off,neC,gCn⟩:=hh
  refine hG ?_
  show wpAny _ A (PySem.assign (.Name x px) env (.ref Da)) _ _ _
  obtain ⟨S2,hs2,hp⟩:=ac hp
  have hloc:S2={ S1 with loc:=put x v S1.loc }:=by
   have kd:=X.kinds x
   rcases ip hs2 with ⟨_,e1⟩ | ⟨hk,_⟩
   ·exact e1
   ·obtain ⟨hb,hk⟩:=bj hk
    rw [hk,(show env.scope.names.lookup x=some .local from hx)] at kd
    contradiction
  subst hloc
  refine wpAny_assign_Name (wpAny_storeName_local hx D1.fr.ns (fun h2 hn2 hs2'=>?_) (by rw [X.kind];rfl))
  refine ⟨mC,ns.sameBut hs2' neC,fun h3 hs3=>?_⟩
  have D2:Dx T w e env g ρ1 _ led1 F1 { S1 with loc:=put x v S1.loc } (At σ h2 (t1+1)):=⟨D1.fr.set hn2 hs2',D1.nw.set hs2',⟨D1.rel.full,D1.rel.objs,D1.rel.inj,D1.rel.nodup⟩,fun z u hz=>?_,D1.cells⟩
  ·exact hQ F1 ρ1 _ led1 h3 _ { S1 with loc:=put x v S1.loc } x1 (D2.but hs3 off neC gCn) hp
  ·have hz:look z (put x v S1.loc)=some u:=hz
   rw [n5] at hz
   by_cases q:x=z
   ·rw [if_pos q] at hz
    (injection hz with hz;subst hz)
    exact ⟨_,by rw [if_pos q.symm],hv⟩
   ·rw [if_neg q] at hz
    obtain ⟨y',k1,k2⟩:=D1.loc z u hz
    exact ⟨y',by exact (if_neg (Ne.symm q)) ▸ k1,k2⟩
 have e1:evalThenUse (.ListComp elt [gg] sc pos) env (PySem.assign (.Name x px) env)=(do let _ ← comprehension (.ListComp elt [gg] sc pos) sc env (firstIterPos [gg] pos) (newList []) (firstAsync [gg]) (firstIter [gg] env) (some (PySem.assign (.Name x px) env))):=rfl
 have e2:firstAsync [gg]=false:=by obtain ⟨x1,x2,x3,x4⟩:=gg;dsimp only at ha;subst ha;rfl
 have e3:firstIter [gg] env=eval gg.iter env:=by obtain ⟨x1,x2,x3,x4⟩:=gg;rfl
 rw [e1,e2,e3]
 exact wpAny_bind (wpAny_mono h (fun _ _ q=>wpAny_pure q) fun _ _ x=>x)
end
end Mine
end
section
open PySem PySem.W PySem.Spec PySem.Calls PyProof.Rows PySem.SeqAt
set_option tactic.hygienic false
namespace Mine
theorem eu {α:Type} {x:Str} {l:List (Str×α)} (h:∀ p∈l,p.1≠x):look x l=none:=by
 induction l with
 | nil=>rfl
 | cons p r ih =>
  rw [ag,if_neg (h p (.head _))]
  exact ih fun q hq=>h q (.tail _ hq)
theorem gz {α:Type} {x:Str} {v:α} {l:List (Str×α)} (h:look x l=some v):(x,v)∈l:=by
 induction l with
 | nil=>exact nos h
 | cons p r ih =>
  rw [ag] at h
  by_cases e:p.1=x
  ·rw [if_pos e] at h;rw [← e, ← Option.some.inj h];exact .head _
  ·rw [if_neg e] at h;exact .tail _ (ih h)
theorem kb {α:Type} {x:Str} {v:α} {l:List (Str×α)} (nd:(l.map (·.1)).Nodup) (h:(x,v)∈l):look x l=some v:=by
 induction l with
 | nil=>exact (by contradiction)
 | cons p r ih =>
  rw [List.map_cons,List.nodup_cons] at nd
  rw [ag]
  rcases List.mem_cons.mp h with e | e
  ·rw [← e,if_pos rfl]
  ·rw [if_neg fun (q:p.1=x)=>nd.1 (by exact q ▸ (List.mem_map_of_mem (f:=(·.1)) e))]
   exact ih nd.2 e
theorem qv {α:Type} {x:Str} {l:List (Str×α)} (nd:(l.map (·.1)).Nodup):look x l.reverse=look x l:=by
 have nd':(l.reverse.map (·.1)).Nodup:=by exact (List.map_reverse) ▸ ((List.reverse_perm _).nodup_iff.mpr nd)
 induction h:look x l using Option.casesOn with
 | some v=>exact kb nd' (List.mem_reverse.mpr (gz h))
 | none =>
  induction h':look x l.reverse using Option.casesOn with
  | none=>rfl
  | some v=>rw [kb nd (List.mem_reverse.mp (gz h'))] at h;injection h
theorem l5 {α β:Type} {f:α->Option β} {ts:List α} (h:(ts.filterMap f).length=ts.length):Each (fun t n=>f t=some n) ts (ts.filterMap f):=by
 induction ts with
 | nil=>exact .nil
 | cons t ts ih =>
  induction ht:f t using Option.casesOn with
  | none =>
   rw [List.filterMap_cons_none ht] at h
   exact absurd (h ▸ List.length_filterMap_le f ts) (Nat.not_succ_le_self _)
  | some n =>
   rw [List.filterMap_cons_some ht] at h ⊢
   exact .cons ht (ih (Nat.succ.inj h))
noncomputable def B6 (l:List (Str×V)) (loc:List (Str×V)):List (Str×V):=l.foldl (fun loc p=>put p.1 p.2 loc) loc
theorem y4 {x:Str} {l:List (Str×V)}:∀ {loc:List (Str×V)},(l.map (·.1)).Nodup->look x (B6 l loc)=match look x l with | some v=>some v | none=>look x loc:=by
 induction l with
 | nil=>exact fun _=>rfl
 | cons p r ih =>
  intro loc nd
  rw [List.map_cons,List.nodup_cons] at nd
  show look x (B6 r (put p.1 p.2 loc))=_
  rw [ih nd.2,ag,n5]
  by_cases e:p.1=x
  ·rw [if_pos e]
   have:look x r=none:=eu fun q hq z=>nd.1 (by rw [e, ← z];exact List.mem_map_of_mem (f:=(·.1)) hq)
   rw [this,if_pos e]
  ·rw [if_neg e,if_neg e]
section
variable {T:Pl} {w:World} {K:Frag} {lz:List Str} {mn:ExcName->Option Value} {mg mb:Str->Option Value} {r:H Prop} {O:Known Prop} {e:En} {env:Env} {g:Heap} {A:Around} {F:Led} {U:Nat->Addr} {m:Str->Option Value} {led:Led} {S S':St} {σ:Shared}
 {E:Value->Shared->Prop}
noncomputable abbrev Mo (l:List (Str×Value)) (m:Str->Option Value):Str->Option Value:=fun y=>match look y l with | some v=>some v | none=>m y
theorem uo (X:Sx T w K lz mn mg mb e env g A) {news:Led}:∀ {l:List (Str×Value)} {m:Str->Option Value} {s:Shared} {Q:Unit->Shared->Prop},(∀ p∈l,env.kindOf p.1=some .local)->(l.map (·.1)).Nodup->Fr g env.locals s.heap m->News g env.locals s.heap news ->
  (∀ h' t',Fr g env.locals h' (Mo l m)->News g env.locals h' news->Q () (At s h' t'))->wpAny (model PG w) A (assignInOrder (l.map fun p=>bindName env p.1) (l.map (·.2))) Q E s:=by
 intro l0
 induction l0 with
 | nil =>
  intro m s Q _ _ F N h
  exact wpAny_pure (h s.heap s.toks F N)
 | cons p r ih =>
  intro m s Q hk nd F N h
  rw [List.map_cons,List.nodup_cons] at nd
  show wpAny _ _ (do holding (r.map (·.2)) (bindName env p.1 p.2);assignInOrder (r.map fun p=>bindName env p.1) (r.map (·.2))) Q E s
  refine wpAny_bind (wpAny_holding (wpAny_bindName (wpAny_storeName_local (hk p (.head _)) F.ns (fun h1 hn hs=>?_) (by rw [X.kind];rfl))))
  refine ih (s:=At s h1 (s.toks+1)) (fun q hq=>hk q (.tail _ hq)) nd.2 (F.set hn hs) (N.set hs) fun h' t' F' N'=>?_
  refine h h' t' ?_ N'
  have:Mo (p::r) m=Mo r (fun y=>if y=p.1 then some p.2 else m y):=by
   funext y
   show (match look y (p::r) with | some v=>some v | none=>m y)=match look y r with | some v=>some v | none=>(if y=p.1 then some p.2 else m y)
   rw [ag]
   by_cases q:p.1=y
   ·rw [if_pos q]
    have:look y r=none:=eu fun z hz w=>nd.1 (by rw [q, ← w];exact List.mem_map_of_mem (f:=(·.1)) hz)
    rw [this,if_pos q.symm]
   ·rw [if_neg q]
    induction look y r using Option.casesOn with
    | some v=>rfl
    | none=>rw [if_neg (Ne.symm q)]
  rw [this]
  exact F'
noncomputable def swT (s:Scope) (l:Nat) (t:Expr) (env:Env):Sem Bool:=match t with
 | .Name t pos=>pure (env.blockKind == .function&&env.kindOf t == some .local&&pos.line == l && !(s.names.any fun (n,k)=>n == t&&(k == .local||k == .cell)))
 | _=>pure false
theorem Rx {a:Sem Bool} {p:Prop} (h:a=pure false):∃ b,a=pure b/\(b=true->p):=⟨false,h,fun h=>(by contradiction)⟩
theorem Ry {s:Scope} {l:Nat} {t:Expr}:∃ b,swT s l t env=pure b/\(b=true -> ∃ x px,t = .Name x px/\env.kindOf x=some .local):=by
 induction t using Expr.casesOn with
 | Name x px=>exact ⟨_,rfl,fun h=>⟨x,px,rfl,beq_iff_eq.mp (Bool.and_eq_true_iff.mp (Bool.and_eq_true_iff.mp (Bool.and_eq_true_iff.mp h).1).1).2⟩⟩
 | _=>exact Rx rfl
theorem B7 {v t:Expr} {line:Nat} {s:Scope} {l:Nat} (hn:mh v=false) (h:swapsWith v (some t) line env=swT s l t env):∃ b,swapsWith v (some t) line env=pure b/\(b=true->mh v=false /\ ∃ x px,t = .Name x px/\env.kindOf x=some .local):=by
 obtain ⟨b,h1,h2⟩:=Ry (env:=env) (s:=s) (l:=l) (t:=t)
 exact ⟨b,h.trans h1,fun q=>⟨hn,h2 q⟩⟩
theorem cz0 {a:Expr} {b:List Comprehension} {s:Scope} {p:Pos} {t:Expr} {line:Nat}:swapsWith (.ListComp a b s p) (some t) line env=swT s p.line t env:=by induction t using Expr.casesOn <;> rfl
theorem cz1 {a:Expr} {b:List Comprehension} {s:Scope} {p:Pos} {t:Expr} {line:Nat}:swapsWith (.SetComp a b s p) (some t) line env=swT s p.line t env:=by induction t using Expr.casesOn <;> rfl
theorem cz2 {a c:Expr} {b:List Comprehension} {s:Scope} {p:Pos} {t:Expr} {line:Nat}:swapsWith (.DictComp a c b s p) (some t) line env=swT s p.line t env:=by induction t using Expr.casesOn <;> rfl
theorem wn {v t:Expr} {line:Nat}:(∃ b,swapsWith v (some t) line env=pure b/\(b=true->mh v=false /\ ∃ x px,t = .Name x px/\env.kindOf x=some .local)):=by
 induction v using Expr.casesOn with
 | ListComp=>exact B7 rfl cz0
 | SetComp=>exact B7 rfl cz1
 | DictComp=>exact B7 rfl cz2
 | _=>exact Rx rfl
theorem sw5 {α:Type} {u:Sem (Option α)} {n:α} {c1 c2 c3 c4 c5:Bool} (h:c5=true->c4=true) {x:Sem (Option α)} (hx:x=if c1=true then pure none else if c2=true then pure none else if c3=true then pure none else if c4=true then pure none else if c5=true then u else pure (some n)):x=pure none\/(x=pure (some n)/\c3=false):=by
 subst hx
 induction c1 using Bool.casesOn with
 | true=>exact .inl rfl
 | false =>
 induction c2 using Bool.casesOn with
 | true=>exact .inl rfl
 | false =>
 induction c3 using Bool.casesOn with
 | true=>exact .inl rfl
 | false =>
 induction c4 using Bool.casesOn with
 | true=>exact .inl rfl
 | false =>
 induction c5 using Bool.casesOn with
 | true=>exact Bool.noConfusion (h rfl)
 | false=>exact .inr ⟨rfl,rfl⟩
set_option backward.match.sparseCases true in
noncomputable def qw (env:Env) (ts:List Expr) (x:Expr):Option Str:=match x with
 | .Name id pos=>if env.kindOf id == some .local&&pos.line == (ts.head?.map (·.pos.line)).getD 0 then some id else none
 | _=>none
theorem B9 {ts:List Expr} {t:Expr} {n:Str} (h:qw env ts t=some n):∃ q,t = .Name n q/\env.kindOf n=some .local:=by
 induction t using Expr.casesOn with
 | Name x q =>
  have h:(if (env.kindOf x == some .local&&q.line == (ts.head?.map (·.pos.line)).getD 0)=true then some x else none)=some n:=h
  induction c:(env.kindOf x == some NameKind.local&&q.line == (ts.head?.map (·.pos.line)).getD 0) using Bool.casesOn with
  | true=>rw [c] at h;obtain rfl:=Option.some.inj h;exact ⟨q,rfl,beq_iff_eq.mp (Bool.and_eq_true_iff.mp c).1⟩
  | false=>rw [c] at h;exact nos h
 | _=>exact nos h
set_option backward.match.sparseCases true in
theorem y5 {ts es:List Expr} {k k':Nat} {p p':Pos} (hs:qi es=true):swappedStores [.Tuple ts k p] (.Tuple es k' p') env=pure none \/
  ∃ names,swappedStores [.Tuple ts k p] (.Tuple es k' p') env=pure (some names)/\Each (fun t n=>∃ q,t = .Name n q/\env.kindOf n=some .local) ts names:=by
 rcases sw5 (n:=ts.filterMap (qw env ts)) (c1 := !(ts.length == 2||ts.length == 3)||es.length != ts.length||env.blockKind != .function) (c2:=es.any fun | .Starred .. => true | _=>false) (c3:=(ts.filterMap (qw env ts)).length != ts.length||(ts.filterMap (qw env ts)).eraseDups.length != (ts.filterMap (qw env ts)).length)
  (c4:=es.all (foldedForSure 8)) (c5:=es.all (constantsAlone 8)) (fun c=>by
   have hs:(match es.all (constantsAlone 8) with | true=>es.all (foldedForSure 8) | false=>true)=true:=hs
   rw [c] at hs
   exact hs) (x:=swappedStores [.Tuple ts k p] (.Tuple es k' p') env) rfl with h | ⟨h,c⟩
 ·exact .inl h
 ·exact .inr ⟨_,h,(l5 (bne_eq_false_iff_eq.mp (Bool.or_eq_false_iff.mp c).1)).mono fun _ _=>B9⟩
end
section
variable {T:Pl} {w:World} {K:Frag} {lz:List Str} {mn:ExcName->Option Value} {mg mb:Str->Option Value} {r:H Prop} {O:Known Prop} {e:En} {env:Env} {g:Heap} {A:Around} {F:Led} {U:Nat->Addr} {m:Str->Option Value} {led:Led} {S S':St} {σ:Shared}
 {E:Value->Shared->Prop}
theorem PostS.on' {C:Fl->St->Prop} {Q:Flow->Shared->Prop} (h:PostS T w e env g F U S.n σ C Q) {F':Led} {ρ':Nat->Addr} {S':St} {h':Heap} {t':Nat} (x:Ext F U S.n F' ρ' S'.n):PostS T w e env g F' ρ' S'.n (At σ h' t') C Q:=h.on x
theorem Ca (Z:Snd T w K lz mn mg mb r) (X:Sx T w K lz mn mg mb e env g A) (D:Dx T w e env g U m led F S σ) {t:Expr} {v:V} {y:Value} (hv:VR T F U S.n v y) {C:Fl->St->Prop} (h:assign False r e t v S fun s=>C .next s) {Q:Flow->Shared->Prop}
  (hQ:PostS T w e env g F U S.n σ C Q):wpAny (model PG w) A (assignStores env y none ((PySem.assignEach [t] env).map (·.2))) Q E σ:=by
 have key:(PySem.assignEach [t] env).map (·.2)=[PySem.assign t env] \/ ∃ x q,t = .Starred x q:=by
  induction t using Expr.casesOn <;> first | exact .inl rfl | exact .inr ⟨_,_,rfl⟩
 rcases key with key | ⟨x,q,rfl⟩
 ·rw [key]
  show wpAny _ _ (do assignAll y [PySem.assign t env];pure .next) Q E σ
  refine wpAny_bind ?_
  show wpAny _ _ (PySem.assign t env y) _ E σ
  exact gy Z X D hv h fun F1 ρ1 m1 led1 h1 t1 S1 x1 D1 hp=>wpAny_pure (hQ F1 ρ1 m1 led1 h1 t1 _ _ S1 x1 D1 .next hp)
 ·exact h.elim
noncomputable def X3 (t v:Expr) (env:Env):Prop:=(∃ ts k p es k' p',t = .Tuple ts k p/\v = .Tuple es k' p')\/(∃ ts p,t = .List ts p)\/swappedStores [t] v env=pure none
theorem az5 {t v:Expr} (h:swappedStores [t] v env=pure none):X3 t v env:=.inr (.inr h)
theorem G5 {v:Expr} {ts:List Expr} {k:Nat} {p:Pos}:X3 (.Tuple ts k p) v env:=by
 induction v using Expr.casesOn with
 | Tuple es k' p'=>exact .inl ⟨ts,k,p,es,k',p',rfl,rfl⟩
 | _=>exact az5 rfl
theorem y6 {t v:Expr}:X3 t v env:=by
 induction t using Expr.casesOn with
 | Tuple ts k p=>exact G5
 | List ts p=>exact .inr (.inl ⟨ts,p,rfl⟩)
 | _=>exact az5 rfl
theorem ew {t v:Expr} {pos:Pos} {Q:Flow->Shared->Prop} (hb:swapsWith v (some t) pos.line env=pure false)
  (h:wpAny (model PG w) A (eval v env) (fun y s=>wpAny (model PG w) A (swappedStores [t] v env) (fun sw s=>wpAny (model PG w) A (assignStores env y sw ((PySem.assignEach [t] env).map (·.2))) Q E s) E s) E σ):wpAny (model PG w) A (exec (.Assign [t] v pos) env) Q E σ:=by
 rw [arm_exec_Assign]
 refine wpAny_bind (wpAny_standAt ?_)
 have e1:swapsWithSole [t] v pos.line env=pure false:=hb
 rw [e1]
 exact wpAny_bind (wpAny_pure (wpAny_bind (wpAny_mono h (fun y s h=>wpAny_bind h) fun _ _ x=>x)))
theorem kc (Z:Snd T w K lz mn mg mb r) (X:Sx T w K lz mn mg mb e env g A) (D:Dx T w e env g U m led F S σ) {t v:Expr} {u:V} {y:Value} (ht:∀ ts k p es k' p',t = .Tuple ts k p->v ≠ .Tuple es k' p') (hv:VR T F U S.n u y) {C:Fl->St->Prop} (h:assign False r e t u S fun s=>C .next s) {Q:Flow->Shared->Prop}
  (hQ:PostS T w e env g F U S.n σ C Q):wpAny (model PG w) A (swappedStores [t] v env) (fun sw s=>wpAny (model PG w) A (assignStores env y sw ((PySem.assignEach [t] env).map (·.2))) Q E s) E σ:=by
 rcases y6 (t:=t) (v:=v) (env:=env) with ⟨_,_,_,_,_,_,q1,q2⟩ | ⟨_,_,rfl⟩ | q
 ·exact absurd q2 (ht _ _ _ _ _ _ q1)
 ·exact h.elim
 ·rw [q];exact wpAny_pure (Ca Z X D hv h hQ)
theorem qx (Z:Snd T w K lz mn mg mb r) (N:KnownOK T w K lz mn mg mb O) (X:Sx T w K lz mn mg mb e env g A) (D:Dx T w e env g U m led F S σ) {t v:Expr} {pos:Pos} {C:Fl->St->Prop} (hv:∀ elt gens sc p,v ≠ .ListComp elt gens sc p) (ht:∀ ts k p es k' p',t = .Tuple ts k p->v ≠ .Tuple es k' p')
  (h:cnd (mh v) (r.e e v S fun v s=>assign False r e t v s fun s=>C .next s) False) {Q:Flow->Shared->Prop}
  (hQ:PostS T w e env g F U S.n σ C Q):wpAny (model PG w) A (exec (.Assign [t] v pos) env) Q E σ:=by
 obtain ⟨hc,h⟩:=ab h
 have hb:swapsWith v (some t) pos.line env=pure false:=by
  obtain ⟨b,hb,hb'⟩:=wn (env:=env) (v:=v) (t:=t) (line:=pos.line)
  induction b using Bool.casesOn with
  | false=>exact hb
  | true=>exact Bool.noConfusion (hc.symm.trans (hb' rfl).1)
 exact ew hb (Z.e X D h fun F1 ρ1 m1 led1 h1 t1 u y S1 x1 D1 hu hp=>kc Z X D1 ht hu hp (hQ.on x1))
theorem om (Z:Snd T w K lz mn mg mb r) (N:KnownOK T w K lz mn mg mb O) (X:Sx T w K lz mn mg mb e env g A) (D:Dx T w e env g U m led F S σ) {t elt:Expr} {gens:List Comprehension} {sc:Scope} {p pos:Pos} {C:Fl->St->Prop}
  (h:Gd False O r e elt gens sc p S fun v s=>assign False r e t v s fun s=>C .next s) {Q:Flow->Shared->Prop}
  (hQ:PostS T w e env g F U S.n σ C Q):wpAny (model PG w) A (exec (.Assign [t] (.ListComp elt gens sc p) pos) env) Q E σ:=by
 obtain ⟨b,hb,hb'⟩:=wn (env:=env) (v:=.ListComp elt gens sc p) (t:=t) (line:=pos.line)
 induction b using Bool.casesOn with
 | true =>
  obtain ⟨_,x,px,rfl,hk⟩:=hb' rfl
  rw [arm_exec_Assign]
  refine wpAny_bind (wpAny_standAt ?_)
  have e1:swapsWithSole [.Name x px] (.ListComp elt gens sc p) pos.line env=pure true:=hb
  rw [e1]
  exact wpAny_bind (wpAny_pure (wpAny_bind (Rw (Q:=fun _ s=>wpAny _ _ (pure Flow.next) _ _ s) Z N X D hk h fun F1 ρ1 m1 led1 h1 t1 S1 x1 D1 hp=>wpAny_pure (hQ F1 ρ1 m1 led1 h1 t1 _ _ S1 x1 D1 .next hp))))
 | false=>exact ew hb (Rv Z N X D h fun F1 ρ1 m1 led1 h1 t1 u y S1 x1 D1 hu hp=>kc Z X D1 (v:=.ListComp elt gens sc p) (fun _ _ _ _ _ _ _ h=>(by contradiction)) hu hp (hQ.on x1))
theorem Each.zip_map {α β:Type} {R:α->β->Prop} {x:List α} {y:List β} (h:Each R x y):(x.zip y).map (·.1)=x/\(x.zip y).map (·.2)=y:=by
 induction h with
 | nil=>exact ⟨rfl,rfl⟩
 | cons h _ ih=>exact ⟨by rw [List.zip_cons_cons,List.map_cons,ih.1],by rw [List.zip_cons_cons,List.map_cons,ih.2]⟩
theorem G6 {ts:List Expr} {names:List Str} {n:Str} (hs:Each (fun t n=>∃ q,t=Expr.Name n q/\env.kindOf n=some .local) ts names):n∈names -> ∃ q,Expr.Name n q∈ts:=by
 induction hs with
 | nil=>intro h;cases h
 | cons hh _ ih =>
  intro hm
  rcases List.mem_cons.mp hm with e | e
  ·obtain ⟨q,hq,_⟩:=hh
   exact ⟨q,by rw [hq,e];exact .head _⟩
  ·obtain ⟨q,hq⟩:=ih e
   exact ⟨q,.tail _ hq⟩
theorem oo {ts:List Expr} {names:List Str} (hs:Each (fun t n=>∃ q,t = .Name n q/\env.kindOf n=some .local) ts names):fy ts=true->names.Nodup:=by
 induction hs with
 | nil=>exact fun _=>.nil
 | @cons t n ts names hh hs ih =>
  obtain ⟨q,rfl,hk⟩:=hh
  intro h
  have h:((!(ts.any fun u=>match u with | .Name y _=>seq y n | _=>false))&&fy ts)=true:=h
  rw [Bool.and_eq_true] at h
  refine List.nodup_cons.mpr ⟨fun hm=>?_,ih h.2⟩
  have h1:=h.1
  rw [Bool.not_eq_true',List.any_eq_false] at h1
  obtain ⟨q',hq'⟩:=G6 hs hm
  exact h1 _ hq' (d6 n)
theorem uq {ts:List Expr} {names:List Str} (h:Each (fun t n=>∃ q,t=Expr.Name n q/\env.kindOf n=some .local) ts names):∀ n∈names,env.kindOf n=some .local:=by
 induction h with
 | nil=>exact fun n hn=>(by contradiction)
 | cons hh _ ih =>
  intro n hn
  rcases List.mem_cons.mp hn with q | q
  ·obtain ⟨_,_,hk⟩:=hh;exact q ▸ hk
  ·exact ih n q
theorem G7 {R:V->Value->Prop} {z:Str} {vs:List V} {ys:List Value} (h:Each R vs ys):∀ {names:List Str},(match look z (names.zip vs) with | some u=>∃ y,look z (names.zip ys)=some y/\R u y | none=>look z (names.zip ys)=none):=by
 induction h with
 | nil=>intro names;induction names using List.casesOn <;> rfl
 | @cons v y vs ys h hs ih =>
  intro names
  induction names using List.casesOn with
  | nil=>rfl
  | cons n names =>
   rw [List.zip_cons_cons,List.zip_cons_cons,ag,ag]
   by_cases q:n=z
   ·rw [if_pos q];exact ⟨y,by rw [if_pos q],h⟩
   ·rw [if_neg q,if_neg q];exact ih
theorem jk (X:Sx T w K lz mn mg mb e env g A) {C:St->Prop} {ts:List Expr} {names:List Str} (hs:Each (fun t n=>∃ q,t = .Name n q/\env.kindOf n=some .local) ts names):∀ {vs:List V} {S:St},assignEach False r e ts vs S C ->
  vs.length=names.length/\C { S with loc:=B6 (names.zip vs) S.loc }:=by
 induction hs with
 | nil=>intro vs S h;induction vs using List.casesOn with
  | nil=>exact ⟨rfl,h⟩
  | cons=>exact h.elim
 | @cons t n ts names hh hs ih =>
  obtain ⟨q,rfl,hk⟩:=hh
  intro vs S h
  induction vs using List.casesOn with
  | nil=>exact h.elim
  | cons v vs =>
   obtain ⟨S2,hs2,h⟩:=ac (show opt False (store e n v S) fun s=>assignEach False r e ts vs s C from h)
   have hloc:S2={ S with loc:=put n v S.loc }:=by
    have kd:=X.kinds n
    rcases ip hs2 with ⟨_,e1⟩ | ⟨hk2,_⟩
    ·exact e1
    ·obtain ⟨hb,hk2⟩:=bj hk2
     rw [hk2,(show env.scope.names.lookup n=some .local from hk)] at kd
     contradiction
   rw [hloc] at h
   obtain ⟨h1,h2⟩:=ih h
   exact ⟨by rw [List.length_cons,List.length_cons,h1],h2⟩
theorem qy (Z:Snd T w K lz mn mg mb r) (X:Sx T w K lz mn mg mb e env g A) (D:Dx T w e env g U m led F S σ) {ts es:List Expr} {k k':Nat} {p p' pos:Pos} {C:Fl->St->Prop}
  (h:cnd (aw ts&&aw es&&(qi es&&fy ts)) (r.es e es S fun vs s=>cnd (fits vs.length&&Nat.beq vs.length ts.length) (assignEach False r e ts vs s fun s=>C .next s) False) False) {Q:Flow->Shared->Prop}
  (hQ:PostS T w e env g F U S.n σ C Q):wpAny (model PG w) A (exec (.Assign [.Tuple ts k p] (.Tuple es k' p') pos) env) Q E σ:=by
 have hsz:=ao
 obtain ⟨hc,h⟩:=ab h
 rw [Bool.and_eq_true,Bool.and_eq_true,Bool.and_eq_true] at hc
 obtain ⟨⟨hn1,hn2⟩,hsw,hdf⟩:=hc
 refine ew rfl (Tuple_ (Z.es X D h fun F1 ρ1 m1 led1 h1 t1 vs ys S1 x1 D1 hvs hp=>?_))
 obtain ⟨hf,hp⟩:=ab hp
 rw [Bool.and_eq_true] at hf
 have hlen:=Nat.eq_of_beq_eq_true hf.2
 have hf:=bt hf.1
 have hvl:=hvs.length
 refine newTuple_N D1.fr D1.nw (fun h2 F2 N2=>?_) (by exact Zp hsz hf hvl)
 have N2':News g env.locals h2 (led1++F1):=fun q hq=>N2 q (.tail _ hq)
 have hT:IsTup h2 h1.objs.size ys.toArray:=⟨_,(N2 _ (.head _)).1,rfl,_,rfl⟩
 rcases y5 (env:=env) (ts:=ts) (k:=k) (k':=k') (p:=p) (p':=p') hsw with e2 | ⟨names,e2,hnames⟩
 ·rw [e2]
  refine wpAny_pure ?_
  show wpAny _ _ (do assignAll _ [PySem.assign (.Tuple ts k p) env];pure .next) Q E _
  refine wpAny_bind ?_
  show wpAny _ _ (PySem.assign (.Tuple ts k p) env _) _ E _
  refine unpackN_ F2 N2' hT X.hand (by rw [dm hn1,List.length_map,List.size_toArray];exact hlen.symm.trans hvl) (by rw [dm hn1];exact gv _ _) fun h3 F3 N3=>?_
  rw [dm hn1,List.map_map,List.toList_toArray]
  have D3:Dx T w e env g ρ1 m1 led1 F1 S1 (At σ h3 t1):=⟨F3,N3,D1.rel,D1.loc,D1.cells⟩
  exact gw Z X D3 hvs hp fun F4 ρ4 m4 led4 h4 t4 S4 x4 D4 hp=>wpAny_pure (hQ F4 ρ4 m4 led4 h4 t4 _ _ S4 (x1.trans x4) D4 .next hp)
 ·rw [e2]
  refine wpAny_pure ?_
  show wpAny _ _ (do rule "assign.swapped-stores";let items ← unpackItems _ names.length none;assignInOrder (names.reverse.map fun n=>bindName env n) items.reverse;pure .next) Q E _
  have hnl:=hnames.length
  refine wpAny_bind (wpAny_rule (wpAny_bind (unpackItemsN_ F2 N2' hT X.hand (by rw [List.size_toArray];exact bzr hlen hvl hnl) fun h3 F3 N3=>wpAny_bind ?_)))
  rw [List.toList_toArray]
  obtain ⟨hvn,hp⟩:=jk X hnames hp
  have nd:=oo hnames hdf
  have zl:∀ {α:Type} {l:List α},l.length=names.length->(names.zip l).map (·.1)=names:=fun {α l} q=>List.map_fst_zip (by exact Nat.le_of_eq q.symm)
  have zr:(names.zip ys).map (·.2)=ys:=List.map_snd_zip (by exact bzq hlen hvl hnl)
  have nd1:((names.zip ys).reverse.map (·.1)).Nodup:=by rw [List.map_reverse,zl (by exact hvl.symm.trans hvn)];exact (List.reverse_perm _).nodup_iff.mpr nd
  have a1:names.reverse.map (fun n=>bindName env n)=(names.zip ys).reverse.map fun q=>bindName env q.1:=by
   have q:(names.zip ys).reverse.map (·.1)=names.reverse:=by rw [List.map_reverse,zl (by exact hvl.symm.trans hvn)]
   rw [← q,List.map_map];rfl
  have a2:ys.reverse=(names.zip ys).reverse.map (·.2):=by rw [List.map_reverse,zr]
  rw [a1,a2]
  refine uo X (fun q hq=>uq hnames _ ?_) nd1 F3 N3 fun h4 t4 F4 N4=>wpAny_pure ?_
  ·have:=List.mem_map_of_mem (f:=(·.1)) (List.mem_reverse.mp hq)
   rw [zl (by exact hvl.symm.trans hvn)] at this
   exact this
  ·refine hQ F1 ρ1 _ led1 h4 t4 _ _ { S1 with loc:=B6 (names.zip vs) S1.loc } x1 ⟨F4,N4,⟨D1.rel.full,D1.rel.objs,D1.rel.inj,D1.rel.nodup⟩,fun z u hz=>?_,D1.cells⟩ .next hp
   have nd2:((names.zip vs).map (·.1)).Nodup:=by rw [zl hvn];exact nd
   have nd3:((names.zip ys).map (·.1)).Nodup:=by rw [zl (by exact hvl.symm.trans hvn)];exact nd
   have hz:look z (B6 (names.zip vs) S1.loc)=some u:=hz
   rw [y4 nd2] at hz
   have zk:=G7 (z:=z) (names:=names) hvs
   show ∃ y,(match look z (names.zip ys).reverse with | some v=>some v | none=>m1 z)=some y/\VR T F1 ρ1 S1.n u y
   rw [qv nd3]
   induction hv:look z (names.zip vs) using Option.casesOn with
   | some v =>
    rw [hv] at zk hz
    obtain ⟨y,hy,hr⟩:=zk
    rw [hy]
    exact ⟨y,rfl,Option.some.inj hz ▸ hr⟩
   | none =>
    rw [hv] at zk hz
    rw [zk]
    exact D1.loc z u hz
end
theorem ur {w:World} {ob:Obj} {kvs:List (Int×Value)} (h:ob.IsDictOf (intKind PG w) kvs):¬ da ob:=by
 obtain ⟨es,ep,⟨hc,_,_⟩,hd,_,hp,_⟩:=h
 rintro (h | h | ⟨ds,e,rfl,hne,hk⟩ | h | ⟨C,h⟩ | ⟨vs,q,t,h1,h2⟩)
 ·rw [hc] at h;simp at h
 ·rw [hc] at h;simp at h
 ·have e1:Data.dict ds.toArray e = .dict es ep:=hd
  injection e1 with e1 e2
  subst e1
  rw [List.toList_toArray] at hp
  induction ds using List.casesOn with
  | nil=>exact hne rfl
  | cons d ds =>
   obtain ⟨k,t,hk⟩:=hk d (.head _)
   cases hp with
   | cons h _ =>
    obtain ⟨t',e⟩:=Value.isInt_shape h
    rw [hk] at e;injection e
 ·rw [hc] at h;simp at h
 ·rw [hc] at h;simp at h
 ·rw [hd] at h1;injection h1
section
variable {T:Pl} {w:World} {K:Frag} {lz:List Str} {mn:ExcName->Option Value} {mg mb:Str->Option Value} {r:H Prop} {O:Known Prop} {e:En} {env:Env} {g:Heap} {A:Around} {F:Led} {U:Nat->Addr} {m:Str->Option Value} {led:Led} {S S':St} {σ:Shared}
 {E:Value->Shared->Prop}
noncomputable def jl (I:Addr) (o:Obj) (F:Led):Led:=F.map fun p=>if p.1=I then (I,o) else p
theorem y7 (I:Addr) (o:Obj) (F:Led):(jl I o F).map (·.1)=F.map (·.1):=by
 delta jl
 rw [List.map_map]
 apply List.map_congr_left
 intro p _
 show (if p.1=I then (I,o) else p).1=p.1
 by_cases h:p.1=I
 ·rw [if_pos h,h]
 ·rw [if_neg h]
theorem ey {I:Addr} {o:Obj} {F:Led} {p:Addr×Obj} (h:p∈F) (hn:p.1≠I):p∈jl I o F:=List.mem_map.mpr ⟨p,h,if_neg hn⟩
theorem qz {I:Addr} {o o':Obj} {F:Led} (h:(I,o')∈F):(I,o)∈jl I o F:=List.mem_map.mpr ⟨_,h,if_pos rfl⟩
theorem G8 {I:Addr} {o:Obj} {F:Led} {p:Addr×Obj} (h:p∈jl I o F):p=(I,o)\/(p∈F/\p.1≠I):=by
 obtain ⟨q,hq,e⟩:=List.mem_map.mp h
 by_cases hn:q.1=I
 ·rw [if_pos hn] at e;exact .inl e.symm
 ·rw [if_neg hn] at e;subst e;exact .inr ⟨hq,hn⟩
theorem dy {l:Led} (nd:(l.map (·.1)).Nodup) {a:Addr} {o o':Obj} (h:(a,o)∈l) (h':(a,o')∈l):o=o':=by
 induction l with
 | nil=>cases h
 | cons p r ih =>
  rw [List.map_cons,List.nodup_cons] at nd
  rcases List.mem_cons.mp h with e | e <;> rcases List.mem_cons.mp h' with e' | e'
  ·rw [← e] at e';exact (Prod.mk.inj e').2.symm
  ·exact absurd (by rw [← e];exact List.mem_map_of_mem (f:=(·.1)) e') nd.1
  ·exact absurd (by rw [← e'];exact List.mem_map_of_mem (f:=(·.1)) e) nd.1
  ·exact ih nd.2 e e'
theorem OR.roCls {n:Nat} {a:Addr} {o:VO} {ob:Obj} (h:OR T w F U n a o ob) (hr:o.ro=true):ob.cls = .type "dict" := by
 cases h with
 | dictR hd _ _=>obtain ⟨_,_,⟨hc,_,_⟩,_⟩:=hd;exact hc
 | _=>injection hr
theorem Dx.swap {I:Addr} {oI oI2:Obj} {h1 h2:Heap} {t1 t2:Nat} (D:Dx T w e env g U m led F S (At σ h1 t1)) (hI:(I,oI)∈F) (hs:¬ da oI) (hk:∀ b o,b≠I->h1.get? b=some o->h2.get? b=some o) (hI2:h2.get? I=some oI2) {n:String} (hcI:oI.cls = .type n) (hnI:n∈iterCls) :
  Dx T w e env g U m led (jl I oI2 F) S (At σ h2 t2):=by
 have nI:=D.nw _ (List.mem_append_right _ hI)
 have nd:=D.rel.nodup
 have ndF:(F.map (·.1)).Nodup:=by exact (List.nodup_append.mp ((List.map_append) ▸ nd)).2.1
 have solid:∀ p∈F,da p.2->p∈jl I oI2 F:=fun p hp hs'=>ey hp fun q=>hs (by
  obtain ⟨a,o⟩:=p
  have q:a=I:=q
  subst q
  exact (dy ndF hI hp) ▸ hs')
 have ledI:∀ p∈led,p.1≠I:=fun p hp q=>by
  rw [List.map_append,List.nodup_append] at nd
  exact nd.2.2 _ (List.mem_map_of_mem (f:=(·.1)) hp) _ (List.mem_map_of_mem (f:=(·.1)) hI) q
 refine bc fun hG=>?_
 obtain ⟨oL,esL,epL,hL,rL⟩:=D.fr.ns
 refine hG ?_
 refine ⟨⟨⟨oL,esL,epL,hk _ _ (Ne.symm nI.2.1) hL,rL⟩,fun b o q=>hk _ _ (fun z=>?_) (D.fr.keep b o q),D.fr.above⟩,fun p hp=>?_,⟨D.rel.full,fun k o q=>?_,D.rel.inj,?_⟩,fun x v q=>?_,D.cells⟩
 ·have:=nI.2.2
  rw [z] at q
  have this:g.get? I=none:=this
  rw [this] at q;injection q
 ·rcases List.mem_append.mp hp with q | q
  ·have:=D.nw p (List.mem_append_left _ q)
   exact ⟨hk _ _ (ledI p q) this.1,this.2⟩
  ·rcases G8 q with q | ⟨q,hn⟩
   ·subst q;exact ⟨hI2,nI.2⟩
   ·have:=D.nw p (List.mem_append_right _ q)
    exact ⟨hk _ _ hn this.1,this.2⟩
 ·obtain ⟨ob,hob,hor⟩:=D.rel.objs k o q
  refine ⟨ob,hob.imp id fun z=>⟨z.1,ey z.2 ?_⟩,hor.mono solid (Nat.le_refl _) fun _ _=>rfl⟩
  intro (e:U k=I)
  have zF:=z.2
  rw [e] at zF
  have:=dy ndF hI zF
  subst this
  have hc:=hor.roCls z.1
  rw [hc] at hcI
  injection hcI with hcI
  subst hcI
  simp [iterCls] at hnI
 ·rw [List.map_append,y7, ← List.map_append];exact nd
 ·obtain ⟨y,h1,h2⟩:=D.loc x v q
  exact ⟨y,h1,h2.mono solid (Nat.le_refl _) fun _ _=>rfl⟩
theorem Dx.dropI {I:Addr} {oI:Obj} {h1 h2:Heap} {t1 t2:Nat} {F₀:Led} {ρ₀:Nat->Addr} {n₀:Nat} (D:Dx T w e env g U m led F S (At σ h1 t1)) (hI:(I,oI)∈F) (hs:¬ da oI) (hk:∀ b o,b≠I->h1.get? b=some o->h2.get? b=some o) {n:String} (hcI:oI.cls = .type n) (hnI:n∈iterCls)
  (x:Ext F₀ ρ₀ n₀ F U S.n) (hF:∀ p∈F₀,p.1≠I):Dx T w e env g U m led (F.filter fun p => !decide (p.1=I)) S (At σ h2 t2)/\Ext F₀ ρ₀ n₀ (F.filter fun p => !decide (p.1=I)) U S.n:=by
 have nI:=D.nw _ (List.mem_append_right _ hI)
 have nd:=D.rel.nodup
 have ndF:(F.map (·.1)).Nodup:=by exact (List.nodup_append.mp ((List.map_append) ▸ nd)).2.1
 have inF:∀ {p},p∈F->p.1≠I->p∈F.filter fun p => !decide (p.1=I):=fun hp hn=>List.mem_filter.mpr ⟨hp,by simpa using hn⟩
 have ofF:∀ {p},p∈(F.filter fun p => !decide (p.1=I))->p∈F/\p.1≠I:=fun hp=>by
  have:=List.mem_filter.mp hp
  exact ⟨this.1,by simpa using this.2⟩
 have solid:∀ p∈F,da p.2->p∈F.filter fun p => !decide (p.1=I):=fun p hp hs'=>inF hp fun q=>hs (by
  obtain ⟨a,o⟩:=p
  have q:a=I:=q
  subst q
  exact (dy ndF hI hp) ▸ hs')
 have ledI:∀ p∈led,p.1≠I:=fun p hp q=>by
  rw [List.map_append,List.nodup_append] at nd
  exact nd.2.2 _ (List.mem_map_of_mem (f:=(·.1)) hp) _ (List.mem_map_of_mem (f:=(·.1)) hI) q
 obtain ⟨oL,esL,epL,hL,rL⟩:=D.fr.ns
 refine ⟨⟨⟨⟨oL,esL,epL,hk _ _ (Ne.symm nI.2.1) hL,rL⟩,fun b o q=>hk _ _ (fun z=>?_) (D.fr.keep b o q),D.fr.above⟩,fun p hp=>?_,⟨D.rel.full,fun k o q=>?_,D.rel.inj,?_⟩,fun x v q=>?_,D.cells⟩,⟨x.le,x.same,fun p hp=>inF (x.sub p hp) (hF p hp)⟩⟩
 ·have:=nI.2.2
  rw [z] at q
  have this:g.get? I=none:=this
  rw [this] at q;injection q
 ·rcases List.mem_append.mp hp with q | q
  ·have:=D.nw p (List.mem_append_left _ q)
   exact ⟨hk _ _ (ledI p q) this.1,this.2⟩
  ·obtain ⟨q,hn⟩:=ofF q
   have:=D.nw p (List.mem_append_right _ q)
   exact ⟨hk _ _ hn this.1,this.2⟩
 ·obtain ⟨ob,hob,hor⟩:=D.rel.objs k o q
  refine ⟨ob,hob.imp id fun z=>⟨z.1,inF z.2 ?_⟩,hor.mono solid (Nat.le_refl _) fun _ _=>rfl⟩
  intro (e:U k=I)
  have zF:=z.2
  rw [e] at zF
  have:=dy ndF hI zF
  subst this
  have hc:=hor.roCls z.1
  rw [hc] at hcI
  injection hcI with hcI
  subst hcI
  simp [iterCls] at hnI
 ·rw [List.map_append,List.nodup_append] at nd ⊢
  exact ⟨nd.1,(List.filter_sublist.map _).nodup nd.2.1,fun a ha b hb=>nd.2.2 a ha b ((List.filter_sublist.map _).subset hb)⟩
 ·obtain ⟨y,h1,h2⟩:=D.loc x v q
  exact ⟨y,h1,h2.mono solid (Nat.le_refl _) fun _ _=>rfl⟩
theorem Dx.lock {k:Nat} {es:List (Int×P)} (D:Dx T w e env g U m led F S σ) (hg:S.h.get k=some (.dicti es)) (t:Nat):∃ ob kvs led',ob.IsDictOf (intKind PG w) kvs/\Each (fun p q=>p.1=q.1/\PR T F p.2 q.2) es kvs/\(U k,ob)∈led /\
  Dx T w e env g U m led' ((U k,ob)::F) (upd k (.dictR es) S) (At σ σ.heap t):=by
 obtain ⟨ob,hob,hor⟩:=D.rel.obj k _ hg
 cases hor with
 | @dicti es _ kvs hd he hl =>
  obtain ⟨pre,post,rfl,h1,h2⟩:=D.apart hob
  have perm:((pre++post)++(U k,ob)::F).Perm ((pre++(U k,ob)::post)++F):=by
   simp only [List.append_assoc,List.cons_append]
   exact List.Perm.append_left _ List.perm_middle
  have sub:∀ p∈F,p∈(U k,ob)::F:=fun p hp=>.tail _ hp
  refine ⟨ob,kvs,pre++post,hd,he,hob,⟨D.fr,fun p hp=>D.nw p (perm.mem_iff.mp hp),⟨D.rel.full.set _ _,fun j oj hj=>?_,D.rel.inj,(perm.map (·.1)).nodup_iff.mpr D.rel.nodup⟩,fun x v q=>?_,D.cells⟩⟩
  ·have hj:(S.h.set k (.dictR es)).get j=some oj:=hj
   rw [Tr.get_set] at hj
   by_cases e:j=k
   ·subst e
    rw [if_pos rfl,hg] at hj
    (injection hj with hj;subst hj)
    exact ⟨ob,.inr ⟨rfl,.head _⟩,.dictR hd (he.mono fun _ _ q=>⟨q.1,q.2.mono fun p hp _=>sub p hp⟩) hl⟩
   ·rw [if_neg e] at hj
    obtain ⟨ob',hob',hor'⟩:=D.rel.objs j oj hj
    have hne:U j≠U k:=fun z=>e (D.rel.inj j k (D.rel.lt hj) (D.rel.lt hg) z)
    refine ⟨ob',?_,hor'.mono (fun p hp _=>sub p hp) (Nat.le_refl _) fun _ _=>rfl⟩
    rcases hob' with q | q
    ·refine .inl ?_
     rcases List.mem_append.mp q with q | q
     ·exact List.mem_append_left _ q
     ·rcases List.mem_cons.mp q with q | q
      ·exact absurd (Prod.mk.inj q).1 hne
      ·exact List.mem_append_right _ q
    ·exact .inr ⟨q.1,.tail _ q.2⟩
  ·obtain ⟨y,h3,h4⟩:=D.loc x v q
   exact ⟨y,h3,h4.mono (fun p hp _=>sub p hp) (Nat.le_refl _) fun _ _=>rfl⟩
theorem Dx.unlock {k:Nat} {es:List (Int×P)} (D:Dx T w e env g U m led F S σ) (hg:S.h.get k=some (.dictR es)) (t:Nat):∃ led' F',(∀ p∈F,p.1≠U k->p∈F')/\(∀ p∈F,da p.2->p∈F')/\Dx T w e env g U m led' F' (upd k (.dicti es) S) (At σ σ.heap t):=by
 obtain ⟨ob,hob,hor⟩:=D.rel.objs k _ hg
 cases hor with
 | @dictR es _ kvs hd he hl =>
  have odd:=ur hd
  have nd:=D.rel.nodup
  rcases hob with hob | ⟨_,hob⟩
  ·obtain ⟨pre,post,rfl,h1,h2⟩:=D.apart hob
   refine ⟨pre++(U k,ob)::post,F,fun p hp _=>hp,fun p hp _=>hp,⟨D.fr,D.nw,D.rel.updAt rfl hg (.dicti hd he hl),D.loc,D.cells⟩⟩
  ·obtain ⟨pre,post,rfl,h1,h2⟩:=n6 ((List.nodup_append.mp (List.map_append ▸ nd)).2.1) hob
   have perm:(((U k,ob)::led)++(pre++post)).Perm (led++(pre++(U k,ob)::post)):=by
    refine List.Perm.trans ?_ (List.Perm.append_left led List.perm_middle.symm)
    exact List.perm_middle.symm
   have keep:∀ p∈pre++(U k,ob)::post,p.1≠U k->p∈pre++post:=fun p hp hn=>by
    rcases List.mem_append.mp hp with q | q
    ·exact List.mem_append_left _ q
    ·rcases List.mem_cons.mp q with q | q
     ·exact absurd (by rw [q]) hn
     ·exact List.mem_append_right _ q
   have solid:∀ p∈pre++(U k,ob)::post,da p.2->p∈pre++post:=fun p hp hs=>by
    rcases List.mem_append.mp hp with q | q
    ·exact List.mem_append_left _ q
    ·rcases List.mem_cons.mp q with q | q
     ·rw [q] at hs;exact absurd hs odd
     ·exact List.mem_append_right _ q
   refine ⟨(U k,ob)::led,pre++post,keep,solid,⟨D.fr,fun p hp=>D.nw p (perm.mem_iff.mp hp),⟨D.rel.full.set _ _,fun j oj hj=>?_,D.rel.inj,(perm.map (·.1)).nodup_iff.mpr nd⟩,fun x v q=>?_,D.cells⟩⟩
   ·have hj:(S.h.set k (.dicti es)).get j=some oj:=hj
    rw [Tr.get_set] at hj
    by_cases e:j=k
    ·subst e
     rw [if_pos rfl,hg] at hj
     (injection hj with hj;subst hj)
     exact ⟨ob,.inl (.head _),.dicti hd (he.mono fun _ _ q=>⟨q.1,q.2.mono solid⟩) hl⟩
    ·rw [if_neg e] at hj
     obtain ⟨ob',hob',hor'⟩:=D.rel.objs j oj hj
     have hne:U j≠U k:=fun z=>e (D.rel.inj j k (D.rel.lt hj) (D.rel.lt hg) z)
     exact ⟨ob',hob'.imp (fun q=>.tail _ q) fun q=>⟨q.1,keep _ q.2 hne⟩,hor'.mono solid (Nat.le_refl _) fun _ _=>rfl⟩
   ·obtain ⟨y,h3,h4⟩:=D.loc x v q
    exact ⟨y,h3,h4.mono solid (Nat.le_refl _) fun _ _=>rfl⟩
end
section
variable {T:Pl} {w:World} {K:Frag} {lz:List Str} {mn:ExcName->Option Value} {mg mb:Str->Option Value} {r:H Prop} {O:Known Prop} {e:En} {env:Env} {g:Heap} {A:Around} {F:Led} {U:Nat->Addr} {m:Str->Option Value} {led:Led} {S S':St} {σ:Shared}
 {E:Value->Shared->Prop}
inductive FInv (T:Pl) (w:World) (e:En) (env:Env) (g:Heap) (F:Led) (U:Nat->Addr) (n:Nat) (σ:Shared) (I:Addr) (xs:List P) (St':Nat->Heap->Prop) (go:List P->St->Prop):Nat->Shared->Prop
 | mk {i:Nat} {F1 led1:Led} {ρ1:Nat->Addr} {S1:St} {m1:Str->Option Value} {h1:Heap} {tk:Nat} {o1:Obj}:i<=xs.length->Ext F U n F1 ρ1 S1.n->Dx T w e env g ρ1 m1 led1 F1 S1 (At σ h1 tk)->(I,o1)∈F1->St' i h1->go (xs.drop i) S1->FInv T w e env g F U n σ I xs St' go (xs.length+1 - i) (At σ h1 tk)
theorem wo (Z:Snd T w K lz mn mg mb r) (X:Sx T w K lz mn mg mb e env g A) (D:Dx T w e env g U m led F S σ) {t:Expr} {body:List Stmt} {C:Fl->St->Prop} {I:Addr} {fp:List Addr} {xs:List P} {St':Nat->Heap->Prop} {oI:Obj} (hI:I=σ.heap.objs.size) (hfr:oI.isFreed=false)
  (It:Iter T w A (PR T F) I fp xs St') (hst:St' 0 (σ.heap.push oI)) (hfp:∀ b∈fp,b=I \/ ∃ o,(b,o)∈F) (h:jj False r e t body C xs S) {Q:Flow->Shared->Prop} {E':Value->Shared->Prop}
  (hQ:PostS T w e env g F U S.n σ C Q):codeAny (model PG w) A (.forLoop t (.ref I) body [] env) (fun r s'=>match r with | .ok f=>Q f s' | .error x=>E' x s') { σ with heap:=σ.heap.push oI }:=by
 refine bc fun hG=>?_
 obtain ⟨Pv,W,hval⟩:=It.walks
 subst hI
 refine hG ?_
 have fresh:∀ p∈led++F,p.1≠σ.heap.objs.size:=fun p hp=>Nat.ne_of_lt (D.lt p hp)
 have hgetI:(σ.heap.push oI).get? σ.heap.objs.size=some oI:=Heap.get?_push_size _ hfr
 refine codeAny_forLoop_any (FInv T w e env g F U S.n σ σ.heap.objs.size xs St' (jj False r e t body C)) ?_ (xs.length+1)
  (.mk (i:=0) (S1:=S) (tk:=σ.toks) (Nat.zero_le _) (Ext.frz _ _ _ _) (D.freezeN (h':=σ.heap.push oI) (t:=σ.toks) (D.fr.push _) (News.push D.fr D.nw _ hfr) fresh) (.head _) hst h)
 intro k s' hh
 refine bc fun hG=>?_
 obtain @⟨i,F1,led1,ρ1,S1,m1,h1,tk,o1,hi,x1,D1,hI1,hst1,hgo⟩:=hh
 have getI:h1.get? σ.heap.objs.size=some o1:=(D1.nw _ (List.mem_append_right _ hI1)).1
 obtain ⟨o1',n1,q1,hc1,hn1,ho1⟩:=It.there _ _ hst1
 rw [getI] at q1; (injection q1 with q1;subst q1)
 refine hG ?_
 by_cases hlt:i<xs.length
 ·rw [List.drop_eq_getElem_cons hlt] at hgo
  refine W.item i _ _ _ hlt hst1 fun v h2 tk2 hPv hst2 hk2=>?_
  refine bc fun hG=>?_
  obtain ⟨p,hp,hpr⟩:=hval i v hlt hPv
  rw [List.getElem?_eq_getElem hlt] at hp
  cases hp
  obtain ⟨o2,n2,ho2,hc2,hn2,hs2⟩:=It.there _ _ hst2
  refine hG ?_
  have D2:Dx T w e env g ρ1 m1 led1 (jl σ.heap.objs.size o2 F1) S1 (At σ h2 tk2):=D1.swap hI1 ho1 (fun b o hb q=>hk2 b o (by simpa using hb) q) ho2 hc1 hn1
  have x2:Ext F U S.n (jl σ.heap.objs.size o2 F1) ρ1 S1.n:=⟨x1.le,x1.same,fun p hp=>ey (x1.sub p hp) (fresh p (List.mem_append_right _ hp))⟩
  have hgo:assign False r e t (.p xs[i]) S1 fun s=>r.ss e body s fun f s=>match f with | .next=>jj False r e t body C (xs.drop (i+1)) s | .brk=>C .next s | .ret v=>C (.ret v) s:=hgo
  refine X0 ho2 hc2 hn2 ?_
  refine gy Z X D2 (.p (hpr.mono fun p hp _=>x2.sub p hp)) hgo fun F3 ρ3 m3 led3 h3 t3 S3 x3 D3 hp3=>?_
  refine Z.ss X D3 hp3 fun F4 ρ4 m4 led4 h4 t4 f y S4 x4 D4 hf hp4=>?_
  have x34:=x3.trans x4
  have hI4:(σ.heap.objs.size,o2)∈F4:=x34.sub _ (qz hI1)
  have xx:=x2.trans x34
  cases hf with
  | next =>
   refine ⟨xs.length+1 - (i+1),by exact Uz hi,.mk hlt xx D4 hI4 (W.frame _ _ _ hst2 fun b hb o q=>?_) hp4⟩
   rcases hfp b hb with z | ⟨o',ho'⟩
   ·subst z
    have:h2.get? σ.heap.objs.size=some o:=q
    rw [ho2] at this; (injection this with this;subst this)
    exact (D4.nw _ (List.mem_append_right _ hI4)).1
   ·have e1:=(D2.nw _ (List.mem_append_right _ (x2.sub _ ho'))).1
    have e1:h2.get? b=some o':=e1
    have q:h2.get? b=some o:=q
    rw [e1] at q;cases q
    exact (D4.nw _ (List.mem_append_right _ (xx.sub _ ho'))).1
  | brk=>exact hQ F4 ρ4 m4 led4 h4 t4 .next .next S4 xx D4 .next hp4
  | ret hv=>exact hQ F4 ρ4 m4 led4 h4 t4 _ _ S4 xx D4 (.ret hv) hp4
 ·obtain rfl:i=xs.length:=by exact Z7 hi hlt
  rw [List.drop_length] at hgo
  refine W.done _ _ _ hst1 fun h2 tk2 hk2=>wpAny_execs_nil ?_
  have hgo:C .next S1:=hgo

  have ndF:(F1.map (·.1)).Nodup:=by
   have nd:=D1.rel.nodup
   rw [List.map_append] at nd;exact (List.nodup_append.mp nd).2.1
  obtain ⟨D2,x2⟩:=D1.dropI (h2:=h2) (t2:=tk2) hI1 ho1 (fun b o hb q=>hk2 b o (by simpa using hb) q) hc1 hn1 x1 fun p hp=>fresh p (List.mem_append_right _ hp)
  exact hQ _ ρ1 m1 led1 h2 tk2 .next .next S1 x2 D2 .next hgo
end
end Mine
end
section
open PySem PySem.W PySem.Spec PySem.Calls PyProof.Rows PySem.SeqAt
namespace Mine
section
variable {T:Pl} {w:World} {K:Frag} {lz:List Str} {mn:ExcName->Option Value} {mg mb:Str->Option Value} {r:H Prop} {O:Known Prop} {e:En} {env:Env} {g:Heap} {A:Around} {F:Led} {U:Nat->Addr} {m:Str->Option Value} {led:Led} {S S':St} {σ:Shared}
 {E:Value->Shared->Prop}
theorem ke {h:Heap} {I l:Addr} {i:Nat} (x:h.IsListIter I l i):∃ o,h.get? I=some o/\o.cls = .type "list_iterator" /\ ¬ da o:=by
 obtain ⟨o,ho,hc,hd⟩:=x
 exact ⟨o,ho,hc,et hc (by simp [iterCls]) fun vs q t e1 e2=>by rw [hd] at e1;injection e1 with e1;subst e1;simp at e2⟩
theorem q7 {α β:Type} {R:α->β->Prop} {x:List α} {y:List β} (h:Each R x y) {i:Nat} (e:x[i]? = Option.none):y.length<=i:=by
 rw [← h.length]
 exact List.getElem?_eq_none_iff.mp e
theorem q8 {k i:Nat} {o:Option V} (D:Dx T w e env g U m led F S σ) (h:itemAt k i S=some o):∃ vs:List Value,σ.heap.IsList (U k) vs.toArray/\(match (generalizing:=false) o with | some v=>∃ y,vs[i]? = some y/\VR T F U S.n v y | none=>vs.length<=i):=by
 have h:(match S.h.get k with
  | some (.list xs)=>some (xs[i]?.map .p)
  | some (.listV xs)=>some (xs[i]?)
  | _=>none)=some o:=h
 induction hg:S.h.get k using Option.casesOn with
 | none=>exact nos (hg ▸ h)
 | some v =>
  rw [hg] at h
  induction v using VO.casesOn with
  | list xs =>
   obtain ⟨ob,hob,hor⟩:=D.rel.obj _ _ hg
   obtain ⟨vs,n,rfl,he,hl⟩:=hor.inv
   obtain rfl:=Option.some.inj h
   refine ⟨vs,⟨_,D.at hob,rfl,_,rfl⟩,?_⟩
   induction hx:xs[i]? using Option.casesOn with
   | none=>exact q7 he hx
   | some x =>
    obtain ⟨y,hy,hr⟩:=he.get hx
    exact ⟨y,hy,.p hr⟩
  | listV xs =>
   obtain ⟨ob,hob,hor⟩:=D.rel.obj _ _ hg
   obtain ⟨vs,n,rfl,he,hl⟩:=hor.inv
   obtain rfl:=Option.some.inj h
   refine ⟨vs,⟨_,D.at hob,rfl,_,rfl⟩,?_⟩
   induction hx:xs[i]? using Option.casesOn with
   | none=>exact q7 he hx
   | some x =>
    obtain ⟨y,hy,hr⟩:=he.get hx
    exact ⟨y,hy,hr⟩
  | _=>exact nos h
inductive LInv (T:Pl) (w:World) (e:En) (env:Env) (g:Heap) (F:Led) (U:Nat->Addr) (n:Nat) (σ:Shared) (I l:Addr) (go:Nat->Nat->St->Prop) (f:Nat):Shared->Prop
 | mk {i:Nat} {F1 led1:Led} {ρ1:Nat->Addr} {S1:St} {m1:Str->Option Value} {h1:Heap} {tk:Nat} {o1:Obj}:Ext F U n F1 ρ1 S1.n->Dx T w e env g ρ1 m1 led1 F1 S1 (At σ h1 tk)->(I,o1)∈F1->h1.IsListIter I l i->go f i S1->LInv T w e env g F U n σ I l go f (At σ h1 tk)
theorem Cb (Z:Snd T w K lz mn mg mb r) (X:Sx T w K lz mn mg mb e env g A) (D:Dx T w e env g U m led F S σ) {t:Expr} {body:List Stmt} {C:Fl->St->Prop} {k f:Nat} (hk:k<S.n) (h:qh False r e t body k C f 0 S) {Q:Flow->Shared->Prop}
  (hQ:PostS T w e env g F U S.n σ C Q) {E':Value->Shared->Prop}:wpAny (model PG w) A (pyIter (.ref (U k))) (fun it s₂=>codeAny (model PG w) A (.forLoop t it body [] env) (fun r s'=>match r with | .ok f=>Q f s' | .error x=>E' x s') s₂) E σ:=by
 induction f using Nat.casesAuxOn with
 | zero=>exact h.elim
 | succ f =>
 have hl0:∃ o,itemAt k 0 S=some o:=by
  obtain ⟨o,ho,_⟩:=ac (show opt False (itemAt k 0 S) _ from h)
  exact ⟨o,ho⟩
 refine bc fun hG=>?_
 obtain ⟨o0,ho0⟩:=hl0
 obtain ⟨vs0,hL0,_⟩:=q8 D ho0
 refine hG ?_
 have fresh:∀ p∈led++F,p.1≠σ.heap.objs.size:=fun p hp=>Nat.ne_of_lt (D.lt p hp)
 refine wpAny_pyIter_list hL0 ?_
 generalize hoI:({ cls:=.type "list_iterator",data:=.fields #[.ref (U k),.int 0 0] }:Obj)=oI
 have hfr:oI.isFreed=false:=by rw [← hoI];rfl
 have hgetI:(σ.heap.push oI).get? σ.heap.objs.size=some oI:=Heap.get?_push_size _ hfr
 have hit0:(σ.heap.push oI).IsListIter σ.heap.objs.size (U k) 0:=⟨oI,hgetI,by rw [← hoI],by rw [← hoI];rfl⟩
 refine codeAny_forLoop_any (LInv T w e env g F U S.n σ σ.heap.objs.size (U k) (qh False r e t body k C)) ?_ (f+1)
  (.mk (i:=0) (S1:=S) (tk:=σ.toks) (Ext.frz _ _ _ _) (D.freezeN (h':=σ.heap.push oI) (t:=σ.toks) (D.fr.push _) (News.push D.fr D.nw _ hfr) fresh) (.head _) hit0 h)
 intro f' s' hH
 refine bc fun hG=>?_
 obtain @⟨i,F1,led1,ρ1,S1,m1,h1,tk,o1,x1,D1,hI1,hit1,hgo⟩:=hH
 refine hG ?_
 induction f' using Nat.casesAuxOn with
 | zero=>exact hgo.elim
 | succ f' =>
 have getI:h1.get? σ.heap.objs.size=some o1:=(D1.nw _ (List.mem_append_right _ hI1)).1
 refine bc fun hG=>?_
 obtain ⟨o1',q1,hc1,ho1⟩:=ke hit1
 rw [getI] at q1; (injection q1 with q1;subst q1)
 have hn1 : "list_iterator" ∈ iterCls:=by simp [iterCls]
 obtain ⟨o,ho,hgo⟩:=ac (show opt False (itemAt k i S1) _ from hgo)
 obtain ⟨vs,hL,hv⟩:=q8 D1 ho
 refine hG ?_
 rw [x1.same _ hk] at hL
 have lne:U k≠σ.heap.objs.size:=by
  obtain ⟨o,hob,_⟩:=hL0
  exact Nat.ne_of_lt (Heap.lt_size hob)
 induction o using Option.casesOn with
 | none =>
  have hv:vs.length<=i:=hv
  refine wpAny_pyNext_list_end X.hand hit1 hL (by rw [List.getElem?_toArray];exact List.getElem?_eq_none hv) fun h2 he2=>wpAny_execs_nil ?_
  obtain ⟨D2,x2⟩:=D1.dropI (h2:=h2) (t2:=tk) hI1 ho1 (fun b o hb q=>he2 b o hb q) hc1 hn1 x1 fun p hp=>fresh p (List.mem_append_right _ hp)
  exact hQ _ ρ1 m1 led1 h2 tk .next .next S1 x2 D2 .next hgo
 | some v =>
  refine bc fun hG=>?_
  obtain ⟨y,hy,hr⟩:=hv
  refine hG ?_
  refine wpAny_pyNext_list_item hit1 hL (x:=y) (by simpa using hy) fun h2 hit2 hs2=>?_
  refine bc fun hG=>?_
  obtain ⟨o2,ho2,hc2,hs2'⟩:=ke hit2
  refine hG ?_
  have D2:Dx T w e env g ρ1 m1 led1 (jl σ.heap.objs.size o2 F1) S1 (At σ h2 tk):=D1.swap hI1 ho1 (fun b o hb q=>hs2.extBut b o hb q) ho2 hc1 hn1
  have x2:Ext F U S.n (jl σ.heap.objs.size o2 F1) ρ1 S1.n:=⟨x1.le,x1.same,fun p hp=>ey (x1.sub p hp) (fresh p (List.mem_append_right _ hp))⟩
  have ndF:(F1.map (·.1)).Nodup:=by
   have nd:=D1.rel.nodup
   rw [List.map_append] at nd;exact (List.nodup_append.mp nd).2.1
  have hr2:VR T (jl σ.heap.objs.size o2 F1) ρ1 S1.n v y:=hr.mono (fun p hp hs=>ey hp fun q=>ho1 (by
   obtain ⟨a,o⟩:=p
   have q:a=σ.heap.objs.size:=q
   subst q
   rw [dy ndF hI1 hp];exact hs)) (Nat.le_refl _) fun _ _=>rfl
  have hgo:assign False r e t v S1 fun s=>r.ss e body s fun fl s=>match fl with | .next=>qh False r e t body k C f' (i+1) s | .brk=>C .next s | .ret v=>C (.ret v) s:=hgo
  refine X0 ho2 hc2 hn1 ?_
  refine gy Z X D2 hr2 hgo fun F3 ρ3 m3 led3 h3 t3 S3 x3 D3 hp3=>?_
  refine Z.ss X D3 hp3 fun F4 ρ4 m4 led4 h4 t4 fl y S4 x4 D4 hf hp4=>?_
  have x34:=x3.trans x4
  have hI4:(σ.heap.objs.size,o2)∈F4:=x34.sub _ (qz hI1)
  have xx:=x2.trans x34
  cases hf with
  | next =>
   refine ⟨f',Nat.lt_succ_self _,.mk (i:=i+1) xx D4 hI4 ?_ hp4⟩
   obtain ⟨o,q1,q2,q3⟩:=hit2
   rw [ho2] at q1; (injection q1 with q1;subst q1)
   exact ⟨o2,(D4.nw _ (List.mem_append_right _ hI4)).1,q2,q3⟩
  | brk=>exact hQ F4 ρ4 m4 led4 h4 t4 .next .next S4 xx D4 .next hp4
  | ret hv=>exact hQ F4 ρ4 m4 led4 h4 t4 _ _ S4 xx D4 (.ret hv) hp4
end
end Mine
end
section
open PySem PySem.W PySem.Spec PySem.Calls PyProof.Rows PySem.SeqAt
set_option tactic.hygienic false
namespace Mine
section
variable {T:Pl} {w:World} {K:Frag} {lz:List Str} {mn:ExcName->Option Value} {mg mb:Str->Option Value} {r:H Prop} {O:Known Prop} {e:En} {env:Env} {g:Heap} {A:Around} {F:Led} {U:Nat->Addr} {m:Str->Option Value} {led:Led} {S S':St} {σ:Shared}
 {E:Value->Shared->Prop}
theorem FR.mono' {F':Led} {ρ':Nat->Addr} {n n':Nat} {f:Fl} {y:Flow} (h:FR T F U n f y) (hF:∀ p∈F,da p.2->p∈F') (hn:n<=n') (hρ:∀ k,k<n->ρ' k=U k):FR T F' ρ' n' f y:=by
 cases h with
 | next=>exact .next
 | brk=>exact .brk
 | ret h=>exact .ret (h.mono hF hn hρ)
theorem Mp {o:Option VO} {k1:List (Int×P)->Prop} {k2:Prop} (h:match o with | some (.dicti es)=>k1 es | _=>k2):(∃ es,o=some (.dicti es)/\k1 es)\/k2:=by
 induction o using Option.casesOn with
 | none=>exact .inr h
 | some x=>induction x using VO.casesOn with
  | dicti l=>exact .inl ⟨l,rfl,h⟩
  | _=>exact .inr h
theorem Mq {o:Option VO} {k:List (Int×P)->Prop} (h:match o with | some (.dictR es)=>k es | _=>False):∃ es,o=some (.dictR es)/\k es:=by
 induction o using Option.casesOn with
 | none=>exact False.elim h
 | some x=>induction x using VO.casesOn with
  | dictR l=>exact ⟨l,rfl,h⟩
  | _=>exact False.elim h
theorem Rz (Z:Snd T w K lz mn mg mb r) (X:Sx T w K lz mn mg mb e env g A) (D:Dx T w e env g U m led F S σ) {t it:Expr} {body:List Stmt} {pos:Pos} {C:Fl->St->Prop} (h:evS False O r e (.For t it body [] pos) S C) {Q:Flow->Shared->Prop}
  (hQ:PostS T w e env g F U S.n σ C Q):wpAny (model PG w) A (exec (.For t it body [] pos) env) Q E σ:=by
 obtain ⟨hns,h⟩:=ab h
 refine wpAny_For (Z.e X D h fun F1 ρ1 m1 led1 h1 t1 iv y S1 x1 D1 hv hp=>?_) (m6 hns env)
 cases hv with
 | p hv =>
  obtain ⟨xs,hxs,hp⟩:=ac hp
  exact Bx X.hand D1 hv hxs fun fp St' o hfr It hst hfp _=>wo Z X D1 rfl hfr It hst (fun b hb=>(hfp b hb).imp id fun ⟨o,q,_⟩=>⟨o,q⟩) hp (hQ.on x1)
 | ref hk =>
  rename_i k
  rcases Mp hp with ⟨es,hg,hp⟩ | hp
  ·skip
   refine bc fun hG=>?_
   obtain ⟨hf,hp⟩:=ab hp
   obtain ⟨ob,kvs,led2,hd,he,hob,D2⟩:=D1.lock hg t1
   have hd':=hd
   obtain ⟨des,ep,hex,hdat,hkeys,hpairs,hnd⟩:=hd'
   refine hG ?_
   have hm:(ρ1 k,ob)∈led1++F1:=List.mem_append_left _ hob
   have hat:h1.DictAt (intKind PG w) (ρ1 k) kvs ep:=⟨ob,des,(D1.nw _ hm).1,hex,hdat,hkeys,hpairs,hnd⟩
   refine wpAny_pyIter_dict (knd:=intKind PG w) (X.no_sys (D1.nw _ hm).2.2) hat ?_
   generalize hoI:({ cls:=.type "dict_keyiterator",data:=.fields #[.ref (ρ1 k),.int 0 0,.int kvs.length 0,.int ep 0] }:Obj)=oI
   have hfr:oI.isFreed=false:=by rw [← hoI];rfl
   have hne:ρ1 k≠h1.objs.size:=Nat.ne_of_lt (Heap.lt_size (D1.nw _ hm).1)
   have hlen:=he.length
   have It:Iter T w A (PR T ((ρ1 k,ob)::F1)) h1.objs.size [h1.objs.size,ρ1 k] (es.map fun e=>P.int e.1) (fun i h=>h.IsKeyIter h1.objs.size (ρ1 k) i kvs.length ep/\h.DictAt (intKind PG w) (ρ1 k) kvs ep):=by
    refine ⟨⟨fun i v=>∃ k x,kvs[i]? = some (k,x)/\(intKind PG w).is k v=true,?_,fun i v hi hv=>?_⟩,fun i h hst=>?_⟩
    ·have:=Walks.dictKeys (prog:=PG) (w:=w) (knd:=intKind PG w) X.hand h1.objs.size (ρ1 k) hne kvs ep
     rw [List.length_map,hlen]
     exact this
    ·obtain ⟨k',x',hk',hv'⟩:=hv
     rw [List.length_map] at hi
     refine bc fun hG=>?_
     obtain ⟨p,hp'⟩:∃ p,es[i]? = some p:=⟨es[i],List.getElem?_eq_getElem hi⟩
     obtain ⟨q,hq,hr⟩:=he.get hp'
     rw [hk'] at hq; (injection hq with hq;subst hq)
     obtain ⟨t',rfl⟩:=Value.isInt_shape hv'
     refine hG ?_
     refine ⟨.int p.1,by rw [List.getElem?_map,hp'];rfl,?_⟩
     have e1:p.1=k':=hr.1
     rw [e1]
     exact .int k' t'
    ·obtain ⟨⟨o,ho,hc,hd3⟩,_⟩:=hst
     exact ⟨o,_,ho,hc,by simp [iterCls],et hc (by simp [iterCls]) fun vs q t e1 e2=>by rw [hd3] at e1;injection e1 with e1;subst e1;simp at e2⟩
   have hst:(h1.push oI).IsKeyIter h1.objs.size (ρ1 k) 0 kvs.length ep/\(h1.push oI).DictAt (intKind PG w) (ρ1 k) kvs ep :=
    ⟨⟨oI,Heap.get?_push_size _ hfr,by rw [← hoI],by rw [← hoI];rfl⟩,⟨ob,des,Heap.get?_push_of_some _ (D1.nw _ hm).1,hex,hdat,hkeys,hpairs,hnd⟩⟩
   refine wo (σ:=At σ h1 t1) Z X D2 rfl hfr It hst (fun b hb=>?_) hp fun F3 ρ3 m3 led3 h3 t3 f y S3 x3 D3 hf3 hp3=>?_
   ·rcases List.mem_cons.mp hb with q | q
    ·exact .inl q
    ·rw [List.mem_singleton] at q;subst q;exact .inr ⟨ob,.head _⟩
   ·obtain ⟨es',hg',hp3⟩:=Mq hp3
    ·skip
     obtain ⟨led4,F4,keep,solid,D4⟩:=D3.unlock hg' t3
     have hρ:ρ3 k=ρ1 k:=x3.same _ hk
     have nd:=D1.rel.nodup
     refine hQ F4 ρ3 m3 led4 h3 t3 f y (upd k (.dicti es') S3) (x1.trans ⟨x3.le,x3.same,fun p hp=>keep p (x3.sub p (.tail _ hp)) fun q=>?_⟩) D4 (hf3.mono' solid (Nat.le_refl _) fun _ _=>rfl) hp3
     rw [hρ] at q
     rw [List.map_append,List.nodup_append] at nd
     exact nd.2.2 _ (List.mem_map_of_mem (f:=(·.1)) hob) _ (List.mem_map_of_mem (f:=(·.1)) hp) q.symm
  ·exact Cb Z X D1 hk hp (hQ.on x1)
end
end Mine
end
section
open PySem PySem.W PySem.Spec PySem.Calls PyProof.Rows PySem.SeqAt
namespace Mine
theorem Cd {env:Env}:∀ {l:List Arg},(l.all fun x=>x.annotation.isNone)=true->annotationsOf l env=[]
 | [],_=>rfl
 | ⟨n,none,p⟩::r,h=>Cd (l:=r) (by simpa using h)
 | ⟨n,some a,p⟩::r,h=>by simp at h
theorem bx {α:Type} {l:List α} (h:l.isEmpty=true):l=[]:=List.isEmpty_iff.mp h
theorem g0 {α:Type} {o:Option α} (h:o.isNone=true):o=none:=Option.isNone_iff_eq_none.mp h
section
variable {T:Pl} {w:World} {K:Frag} {lz:List Str} {mn:ExcName->Option Value} {mg mb:Str->Option Value} {r:H Prop} {O:Known Prop} {e:En} {env:Env} {g:Heap} {A:Around} {F:Led} {U:Nat->Addr} {m:Str->Option Value} {led:Led} {S S':St} {σ:Shared}
 {E:Value->Shared->Prop}
theorem G9 {o:Option VO} {k:Str->Prop} (h:match o with | some (.tab f false)=>k f | _=>False):∃ f,o=some (.tab f false)/\k f:=by
 induction o using Option.casesOn with
 | none=>exact False.elim h
 | some x=>induction x using VO.casesOn with
  | tab f u=>induction u using Bool.casesOn with
   | false=>exact ⟨f,rfl,h⟩
   | true=>exact False.elim h
  | _=>exact False.elim h
theorem Ha {a b:Bool} {k:Prop} (h:match a,b with | true,true=>k | _,_=>False):a=true/\b=true/\k:=by
 induction a using Bool.casesOn with
 | false=>exact False.elim h
 | true=>induction b using Bool.casesOn with
  | false=>exact False.elim h
  | true=>exact ⟨rfl,rfl,h⟩
theorem R3 (X:Sx T w K lz mn mg mb e env g A) (D:Dx T w e env g U m led F S σ) {name bnd:Str} {args:Arguments} {body:List Stmt} {sc:Scope} {pos:Pos} {C:Fl->St->Prop} (h:evS False O r e (.FunctionDef name args body [] none [] sc none bnd pos) S C) {Q:Flow->Shared->Prop}
  (hQ:PostS T w e env g F U S.n σ C Q):wpAny (model PG w) A (exec (.FunctionDef name args body [] none [] sc none bnd pos) env) Q E σ:=by
 obtain ⟨kf,hkf,h⟩:=ac h
 obtain ⟨k,f⟩:=kf
 obtain ⟨f',hg,h4⟩:=G9 h
 clear h
 ·obtain ⟨cl,hcl,h5⟩:=ac h4
  clear h4
  obtain ⟨hok,hf,h3⟩:=Ha h5
  clear h5
  ·skip
   have hf:=seq_iff.mp hf
   subst hf
   rw [Bool.and_eq_true,Bool.and_eq_true] at hok
   obtain ⟨⟨hon,hann⟩,hb⟩:=hok
   have hb:=seq_iff.mp hb
   subst hb
   have hon':=hon
   delta gc at hon
   simp only [Bool.and_eq_true] at hon
   obtain ⟨⟨⟨⟨⟨a1,a2⟩,a3⟩,a4⟩,a5⟩,a6⟩:=hon
   have b1:=bx a1
   have b2:=g0 a2
   have b3:=bx a3
   have b4:=bx a4
   have b5:=g0 a5
   have b6:=bx a6
   clear a1 a2 a3 a4 a5 a6
   obtain ⟨cn,cs,a,c,cl0,Pp,henv,hcode,hpa⟩:=X.tab k f' hkf
   obtain ⟨ob,hob,hor⟩:=D.rel.obj k _ hg
   have hbnd:=fun x k q=>D.cells x k q
   have hclo:=my (fun x k q=>⟨_,(D.cells x k q).2⟩) hcl
   have hcells:∀ x k,look x cl=some k->k<S.n/\(a8 env sc.names).reverse.lookup x=some (U k):=fun x k q=>qs hbnd hcl q
   have han:annTrees args none env=[]:=by
    obtain ⟨po,ar,va,ko,kd,kw,df⟩:=args
    dsimp only at b1 b2 b3 b5
    subst b1;subst b2;subst b3;subst b5
    show annotationsOf (ar++[]++[]++[]++[]) env++[]=[]
    simp only [List.append_nil]
    exact Cd hann
   generalize hL:env.locals=L at *
   refine bc fun hG=>?_
   cases hor with
   | tab hpa' hps =>
    refine hG ?_
    rename_i ps
    have e1:Pp=U k:=Option.some.inj (hpa.symm.trans hpa')
    have e2:=hps rfl
    subst e1 e2
    obtain ⟨pre,post,rfl,h1,h2⟩:=D.apart hob
    have DF:=D.fr
    have DN:=D.nw'
    rw [hL] at DF DN
    refine nestDef_K b6 b4 han ?_
    subst henv
    refine nest_K (ps := #[]) DF DN X.top hcode rfl (UpdF.of h1 h2) trivial rfl hclo fun f c' oc vs t ctv doc h' tk F1 N1 hd hv hlt hcf=>?_
    have ne1:∀ p∈(pre++(U k,tabObj (#[] ++ #[rawInt pos.line,rawInt pos.col,.ref c']))::post)++F,p.1<c':=fun p hp=>by
     have hp:p∈pre++(U k,tabObj (#[] ++ #[rawInt pos.line,rawInt pos.col,.ref c']))::(post++F):=by simpa using hp
     rcases List.mem_append.mp hp with q | q
     ·exact hlt p (List.mem_append_left _ q)
     ·rcases List.mem_cons.mp q with z | z
      ·exact z ▸ (hlt (U k,tabObj #[]) (List.mem_append_right _ (.head _)))
      ·exact hlt p (List.mem_append_right _ (.tail _ z))
    have R1:=(D.rel.updAt (vo':=.tab f' true) rfl hg (.tab (ps := #[] ++ #[rawInt pos.line,rawInt pos.col,.ref c']) hpa (fun q=>(by contradiction)))).freeze (a:=c') (o:=oc) fun p hp=>Nat.ne_of_lt (ne1 p hp)
    have ne2:∀ p∈(pre++(U k,tabObj (#[] ++ #[rawInt pos.line,rawInt pos.col,.ref c']))::post)++(c',oc)::F,p.1≠f:=fun p hp=>by
     rcases List.mem_append.mp hp with q | q
     ·exact Nat.ne_of_lt (Nat.lt_trans (ne1 p (List.mem_append_left _ q)) hcf)
     ·rcases List.mem_cons.mp q with z | z
      ·exact z ▸ (Nat.ne_of_lt hcf)
      ·exact Nat.ne_of_lt (Nat.lt_trans (ne1 p (List.mem_append_right _ z)) hcf)
    have xx:Ext F U S.n ((c',oc)::F) (fun j=>if j=S.n then f else U j) (S.n+1):=⟨Nat.le_succ _,fun _ h=>if_neg (Nat.ne_of_lt h),fun _ h=>.tail _ h⟩
    have R2:=R1.new (vo:=.clos name args body sc cl) (o:=fnMade name (qualnameIn (envX cn cs L a (.ref c) cl0) name name) args body sc (a8 (envX cn cs L a (.ref c) cl0) sc.names).reverse doc ((mg "__name__").getD .none) c' ctv) ne2
     (.clos (fun x j q=>⟨Nat.lt_succ_of_lt (hcells x j q).1,by exact ((hcells x j q).2) ▸ (congrArg some (if_neg (Nat.ne_of_lt (hcells x j q).1)).symm)⟩) (.head _) hd hv hon')
    have D2:Dx T w e (envX cn cs L a (.ref c) cl0) g (fun j=>if j=S.n then f else U j) m ((f,fnMade name (qualnameIn (envX cn cs L a (.ref c) cl0) name name) args body sc (a8 (envX cn cs L a (.ref c) cl0) sc.names).reverse doc ((mg "__name__").getD .none) c' ctv)::(pre++(U k,tabObj (#[] ++ #[rawInt pos.line,rawInt pos.col,.ref c']))::post)) ((c',oc)::F)
      (new (.clos name args body sc cl) (upd k (.tab f' true) S)) (At σ h' tk):=by
     refine ⟨F1,fun p hp=>N1 p ?_,R2,fun x v q=>?_,fun x j q=>?_⟩
     ·simp only [List.mem_append,List.mem_cons] at hp ⊢
      rcases hp with (hp | hp | hp | hp) | hp | hp
      ·exact .inl hp
      ·exact .inr (.inr (.inl hp))
      ·exact .inr (.inr (.inr (.inl hp)))
      ·exact .inr (.inr (.inr (.inr (.inl hp))))
      ·exact .inr (.inl hp)
      ·exact .inr (.inr (.inr (.inr (.inr hp))))
     ·obtain ⟨y,q1,q2⟩:=D.loc x v q
      exact ⟨y,q1,xx.vr q2⟩
     ·obtain ⟨q1,q2⟩:=D.cells x j q
      exact ⟨Nat.lt_succ_of_lt q1,by exact q2 ▸ (congrArg some (if_neg (Nat.ne_of_lt q1)).symm)⟩
    have hval:VR T ((c',oc)::F) (fun j=>if j=S.n then f else U j) (S.n+1) (.ref S.n) (.ref f):=by
     have this:(if S.n=S.n then f else U S.n)=f:=if_pos rfl
     have z:=VR.ref (T:=T) (F:=(c',oc)::F) (U:=fun j=>if j=S.n then f else U j) (n:=S.n+1) (k:=S.n) (Nat.lt_succ_self _)
     rw [this] at z
     exact z
    refine n7 X D2 hval h3 fun F3 ρ3 m3 led3 h3 t3 S3 x3 D3 hp3=>?_
    exact hQ F3 ρ3 m3 led3 h3 t3 _ _ S3 (xx.trans x3) D3 .next hp3
end
end Mine
end
section
open PySem PySem.W PySem.Spec PySem.Calls PyProof.Rows PySem.SeqAt
set_option tactic.hygienic false
namespace Mine
theorem q9 {α:Type} {x:Str}:∀ {l:List Str} {v:List α},x∉l->(l.zip v).lookup x=none
 | [],_,_=>rfl
 | _::_,[],_=>rfl
 | y::l,a::v,h=>by
  rw [List.zip_cons_cons,ae,ag, ← ae]
  rw [if_neg (fun e=>h (by simp only [] at e;rw [← e];exact .head _))]
  exact q9 fun q=>h (.tail _ q)
theorem oq {α:Type}:∀ {l:List Str} {v:List α} {i:Nat} {x:Str},l[i]? = some x->i<v.length->((l.zip v).lookup x).isSome=true
 | [],_,_,_,h,_=>by simp at h
 | y::l,[],i,x,h,hi=>absurd hi (Nat.not_lt_zero _)
 | y::l,a::v,i,x,h,hi=>by
  rw [List.zip_cons_cons,ae,ag, ← ae]
  by_cases e:y=x
  ·simp [e]
  ·simp only [e,if_false]
   induction i using Nat.casesAuxOn with
   | zero=>simp at h;exact absurd h e
   | succ i=>exact oq (i:=i) (by simpa using h) (by simpa using hi)
theorem dr {α:Type} {x:Str} {a b:List (Str×α)}:(a++b).lookup x=(a.lookup x).or (b.lookup x):=by
 induction a with
 | nil=>simp
 | cons p a ih =>
  rw [List.cons_append,ae,ae,ag,ag]
  by_cases e:p.1=x
  ·simp [e]
  ·simp only [e,if_false]
   rw [← ae, ← ae];exact ih
theorem Ce {α:Type} {l:List Str} {v:List α} (nd:l.Nodup) (hl:v.length=l.length):(l.filterMap fun n=>((l.zip v).lookup n).map (n, ·))=l.zip v:=by
 have key:∀ (l':List Str) (v':List α) (pre:List (Str×α)),l'.Nodup->v'.length=l'.length->(∀ x∈l',pre.lookup x=none)->(l'.filterMap fun n=>((pre++l'.zip v').lookup n).map (n, ·))=l'.zip v':=by
  intro l'
  induction l' with
  | nil=>intros;rfl
  | cons y l' ih =>
   intro v' pre nd hl hp
   induction v' using List.casesOn with
   | nil=>simp at hl
   | cons a v' =>
    rw [List.nodup_cons] at nd
    have e1:(pre++(y::l').zip (a::v')).lookup y=some a:=by
     rw [List.zip_cons_cons,dr,hp y (.head _)]
     simp [ae,ag]
    rw [List.filterMap_cons_some (by rw [e1];rfl),List.zip_cons_cons]
    congr 1
    have:=ih v' (pre++[(y,a)]) nd.2 (by simpa using hl) fun x hx=>by
     rw [dr,hp x (.tail _ hx),Option.none_or]
     rw [ae,ag]
     rw [if_neg (fun e=>nd.1 (by simp only [] at e;rw [e];exact hx))]
     rfl
    rw [List.append_assoc] at this
    exact this
 exact key l v [] nd hl fun _ _=>rfl
end Mine
end
section
open PySem PySem.W PySem.Spec PySem.Calls PyProof.Rows PySem.SeqAt
namespace Mine
theorem ra {α:Type}:∀ {l:List Str} {vs X:List α},vs.length<=l.length->l.zip (vs++X)=l.zip vs++(l.drop vs.length).zip X
 | _,[],X,_=>by simp
 | [],v::vs,X,h=>by simp at h
 | y::l,v::vs,X,h=>by
  have:=ra (l:=l) (vs:=vs) (X:=X) (by simpa using h)
  simp [this]
theorem kg {f:Str×Value->List (Str×Value)->Sem (ForInStep (List (Str×Value)))} (hf:∀ p acc,f p acc=if (acc.lookup p.1).isNone=true then pure (.yield (acc++[(p.1,p.2)])) else pure (.yield acc)) :
  ∀ (ns:List Str) (ds:List Value) (acc:List (Str×Value)) (j:Nat),ds.length=ns.length->(∀ i x,ns[i]? = some x->i<j->(acc.lookup x).isSome=true)->(∀ i x,ns[i]? = some x->j<=i->acc.lookup x=none)->ns.Nodup ->
   forIn (ns.zip ds) acc f=pure (acc++(ns.drop j).zip (ds.drop j))
 | [],ds,acc,j,hl,_,_,_=>by
  induction ds using List.casesOn with
  | nil=>simp
  | cons=>simp at hl
 | y::ns,[],acc,j,hl,_,_,_=>by simp at hl
 | y::ns,d::ds,acc,j,hl,h1,h2,nd=>by
  rw [List.nodup_cons] at nd
  rw [List.zip_cons_cons,List.forIn_cons,hf]
  induction j using Nat.casesAuxOn with
  | zero =>
   have e1:=h2 0 y rfl (Nat.le_refl _)
   rw [if_pos (by show (List.lookup y acc).isNone=true;rw [e1];rfl),pure_bind]
   refine (kg hf ns ds (acc++[(y,d)]) 0 (by simpa using hl) (fun i x _ hi=>absurd hi (Nat.not_lt_zero _)) (fun i x hx _=>?_) nd.2).trans ?_
   ·rw [dr,h2 (i+1) x (by simpa using hx) (Nat.zero_le _),Option.none_or,ae,ag]
    rw [if_neg (fun e=>nd.1 (by simp only [] at e;exact e ▸ (List.mem_of_getElem? hx)))]
    rfl
   ·simp
  | succ j =>
   have e1:=h1 0 y rfl (Nat.succ_pos _)
   rw [if_neg (by show ¬ (List.lookup y acc).isNone=true;induction q:List.lookup y acc using Option.casesOn with | none=>rw [q] at e1;injection e1 | some _=>exact fun h=>(by contradiction)),pure_bind]
   refine (kg hf ns ds acc j (by simpa using hl) (fun i x hx hi=>h1 (i+1) x (by simpa using hx) (Nat.succ_lt_succ hi)) (fun i x hx hi=>h2 (i+1) x (by simpa using hx) (Nat.succ_le_succ hi)) nd.2).trans ?_
   simp
theorem Cf:∀ {l:List Str},l.Nodup -> ∀ {i j:Nat} {x:Str},l[i]? = some x->l[j]? = some x->i=j:=by
 intro l0
 induction l0 with
 | nil =>
  intro _ i _ _ hi _
  simp at hi
 | cons y l ih =>
  intro nd i j x hi hj
  rw [List.nodup_cons] at nd
  induction i using Nat.casesAuxOn with
  | zero =>
   induction j using Nat.casesAuxOn with
   | zero=>rfl
   | succ j=>simp at hi hj;subst hi;exact absurd (List.mem_of_getElem? hj) nd.1
  | succ i =>
   induction j using Nat.casesAuxOn with
   | zero=>simp at hi hj;subst hj;exact absurd (List.mem_of_getElem? hi) nd.1
   | succ j=>exact congrArg (· + 1) (ih nd.2 (i:=i) (j:=j) (x:=x) (by simpa using hi) (by simpa using hj))
theorem Hb {α:Type} {l:List Str} {v:List α} (nd:l.Nodup) {i:Nat} {x:Str} (h:l[i]? = some x) (hi:v.length<=i):(l.zip v).lookup x=none:=by
 have e:l.zip v=(l.take v.length).zip v:=by
  have:l=l.take v.length++l.drop v.length:=(List.take_append_drop _ _).symm
  clear nd h hi
  induction v generalizing l with
  | nil=>simp
  | cons a v ih =>
   induction l using List.casesOn with
   | nil=>rfl
   | cons y l=>simp only [List.zip_cons_cons,List.length_cons,List.take_succ_cons];congr 1;exact ih (l:=l) (by simp)
 rw [e]
 refine q9 fun hm=>?_
 obtain ⟨j,hj⟩:=List.getElem?_of_mem hm
 have hlt:j<v.length:=by
  have:=List.getElem?_eq_some_iff.mp hj
  obtain ⟨q,_⟩:=this
  rw [List.length_take] at q
  exact bzt q
 rw [List.getElem?_take_of_lt hlt] at hj
 have:=Cf nd hj h
 exact Zz hi hlt this
theorem y8 {f:Str×Value->List (Str×Value)->Sem (ForInStep (List (Str×Value)))} {l:List Str} {vs dl:List Value} {k j:Nat} (hk:l.length=k+dl.length) (hj:vs.length=k+j) (hl:vs.length<=l.length) (nd:l.Nodup)
  (hf:∀ p acc,f p acc=if (acc.lookup p.1).isNone=true then pure (.yield (acc++[(p.1,p.2)])) else pure (.yield acc)):forIn ((l.drop k).zip dl) (l.zip vs) f=pure (l.zip (vs++dl.drop j)):=by
 have h1:∀ i x,(l.drop k)[i]? = some x->i<j->((l.zip vs).lookup x).isSome=true:=fun i x hx hi=>by
  rw [List.getElem?_drop] at hx
  exact oq hx (by rw [hj];exact Nat.add_lt_add_left hi k)
 have h2:∀ i x,(l.drop k)[i]? = some x->j<=i->(l.zip vs).lookup x=none:=fun i x hx hi=>by
  rw [List.getElem?_drop] at hx
  exact Hb nd hx (by rw [hj];exact Nat.add_le_add_left hi k)
 rw [kg hf (l.drop k) dl (l.zip vs) j (by rw [List.length_drop,hk,Nat.add_sub_cancel_left]) h1 h2 ((List.drop_sublist _ _).nodup nd),ra hl,List.drop_drop,hj]
theorem y9 {l:List Str} {vs:List Value} {k j:Nat} (hj:vs.length=k+j):(l.take k).filter (fun n=>(List.lookup n (l.zip vs)).isNone)=[]:=by
 refine List.filter_eq_nil_iff.mpr fun x hx=>?_
 obtain ⟨i,hi⟩:=List.getElem?_of_mem hx
 have hlt:i<k:=Nat.lt_of_lt_of_le (List.getElem?_eq_some_iff.mp hi).1 (by rw [List.length_take];exact Nat.min_le_left _ _)
 rw [List.getElem?_take_of_lt hlt] at hi
 have:=oq (v:=vs) hi (Nat.lt_of_lt_of_le hlt (hj ▸ Nat.le_add_right k j))
 rw [Option.isNone_eq_false_iff.mpr this]
 decide
section
variable {M:Model} {A:Around} {α β:Type} {Q:α->Shared->Prop} {E:Value->Shared->Prop} {s:Shared}
theorem kh {c:Prop} [Decidable c] {a b:Sem α} (h:¬ c) (k:wpAny M A b Q E s):wpAny M A (if c then a else b) Q E s:=by
 rw [if_neg h];exact k
theorem ir {x:Sem β} {f:β->Sem α} {a:β} (h:x=pure a) (k:wpAny M A (f a) Q E s):wpAny M A (x >>= f) Q E s:=by
 rw [h,pure_bind];exact k
end
theorem ut {l:List Str} {vs dl:List Value} {k j:Nat} (hk:l.length=k+dl.length) (hj:vs.length=k+j):¬ (!((l.take (l.length - (dl.toArray.toList.drop (dl.toArray.toList.length - l.length)).length)).filter fun n=>(List.lookup n (l.zip vs)).isNone).isEmpty)=true:=by
 have e0:dl.toArray.toList.drop (dl.toArray.toList.length - l.length)=dl:=by
  show dl.drop (dl.length - l.length)=dl
  rw [Nat.sub_eq_zero_of_le (hk ▸ Nat.le_add_left _ _)];rfl
 rw [e0,hk,Nat.add_sub_cancel,y9 hj]
 decide
theorem uu {f:Str×Value->List (Str×Value)->Sem (ForInStep (List (Str×Value)))} {l:List Str} {vs dl:List Value} {k j:Nat} (hk:l.length=k+dl.length) (hj:vs.length=k+j) (hl:vs.length<=l.length) (nd:l.Nodup)
  (hf:∀ p acc,f p acc=if (acc.lookup p.1).isNone=true then pure (.yield (acc++[(p.1,p.2)])) else pure (.yield acc)) :
  forIn ((l.drop (l.length - (dl.toArray.toList.drop (dl.toArray.toList.length - l.length)).length)).zip (dl.toArray.toList.drop (dl.toArray.toList.length - l.length))) (l.zip vs) f=pure (l.zip (vs++dl.drop j)):=by
 have e0:dl.toArray.toList.drop (dl.toArray.toList.length - l.length)=dl:=by
  show dl.drop (dl.length - l.length)=dl
  rw [Nat.sub_eq_zero_of_le (hk ▸ Nat.le_add_left _ _)];rfl
 rw [e0]
 have ek:l.length - dl.length=k:=by rw [hk,Nat.add_sub_cancel]
 rw [ek]
 exact y8 hk hj hl nd hf
theorem km {fd:FuncData} {vs dl:List Value} {σ:Shared} (h1:fd.params.posonlyargs=[]) (h2:fd.params.vararg=none) (h3:fd.params.kwonlyargs=[]) (h4:fd.params.kwarg=none) (nd:(gf fd.params).Nodup)
  (hl:vs.length<=(gf fd.params).length) (hd:∀ (M:Model) (A:Around) (E:Value->Shared->Prop) (Q:Option (Array Value)->Shared->Prop),(∀ o,o.getD #[]=dl.toArray->Q o σ)->wpAny M A (seqItems? fd.defaults) Q E σ) (hn:(gf fd.params).length<=vs.length+dl.length) (hdn:dl.length<=(gf fd.params).length) :
  BindsTo σ fd ⟨vs,[]⟩ ((gf fd.params).zip (vs++dl.drop (dl.length - ((gf fd.params).length - vs.length)))):=by
 intro M A E Q hq
 obtain ⟨k,hk⟩:∃ k,(gf fd.params).length=k+dl.length:=⟨_,(Nat.sub_add_cancel hdn).symm⟩
 obtain ⟨j,hj⟩:∃ j,vs.length=k+j:=Nat.exists_eq_add_of_le (Nat.le_of_add_le_add_right (hk ▸ hn))
 have hjd:j<=dl.length:=Nat.le_of_add_le_add_left (hk ▸ hj ▸ hl)
 have ej:dl.length - ((gf fd.params).length - vs.length)=j:=by rw [hk,hj,Nat.add_sub_add_left,Nat.sub_sub_self hjd]
 rw [ej] at hq
 have hlen:(vs++dl.drop j).length=(gf fd.params).length:=by rw [List.length_append,List.length_drop,hk,hj,Nat.add_assoc,Nat.add_sub_cancel' hjd]
 obtain ⟨name,qual,params,body,scope,globals,closure,defaults,kwd,doc,pm,an,code,ct,bu⟩:=fd
 obtain ⟨p1,p2,p3,p4,p5,p6,p7⟩:=params
 dsimp only at h1 h2 h3 h4
 subst h1 h2 h3 h4
 refine ir rfl ?_
 refine wpAny_bind (hd M A E _ fun o ho=>?_)
 generalize o.getD #[]=z at ho
 subst ho
 refine kh (fun h=>absurd (of_decide_eq_true (Bool.and_eq_true_iff.mp h).1) (Nat.not_lt.mpr hl)) ?_
 refine kh (ut hk hj) ?_
 refine ir (uu hk hj hl nd fun p acc=>rfl) ?_
 refine ir rfl ?_
 refine kh (c:=(!([]:List Str).isEmpty)=true) (by decide) ?_
 refine wpAny_pure ?_
 rw [← Ce nd hlen] at hq
 exact Eq.mp (congrArg (fun z=>Q (List.filterMap _ z) σ) (List.append_nil (gf ⟨[],p2,none,[],p5,none,p7⟩)).symm) hq
theorem uw (sc:Scope):Ax sc sc:=by
 intro x
 induction h:look x sc.names using Option.casesOn with
 | none=>trivial
 | some k =>
  have e:sc.names.lookup x=some k:=by exact ae ▸ h
  induction k using NameKind.casesOn <;> first | exact e | exact .inl e | trivial
section
variable {T:Pl} {w:World} {K:Frag} {lz:List Str} {mn:ExcName->Option Value} {mg mb:Str->Option Value} {r:H Prop} {O:Known Prop} {e:En} {env:Env} {g:Heap} {A:Around} {F:Led} {U:Nat->Addr} {m:Str->Option Value} {led:Led} {S S':St} {σ:Shared}
 {E:Value->Shared->Prop}
theorem Hc {g':Heap} {L':Addr} {m':Str->Option Value} {loc:List (Str×V)}:∀ {names:List (Str×NameKind)} {h:Heap} {H:Tr} {n:Nat} {led:Led} {U:Nat->Addr} {cl:List (Str×Nat)} {acc:List (Str×Addr)} {h2:Tr} {n2:Nat} {cells:List (Str×Nat)},
  Fr g' L' h m'->News g' L' h (led++F)->Rel T w F U ⟨loc,H,n⟩ led->(∀ x k,look x cl=some k->k<n/\acc.lookup x=some (U k))->em H n cl names=(h2,n2,cells) ->
  ∃ ρ2 led2,Fr g' L' (pushCells h names) m'/\News g' L' (pushCells h names) (led2++F)/\Rel T w F ρ2 ⟨loc,h2,n2⟩ led2/\(∀ x k,look x cells=some k->k<n2/\(cellsFrom h.objs.size names acc).lookup x=some (ρ2 k))/\Ext F U n F ρ2 n2:=by
 intro l0
 induction l0 with
 | nil =>
  intro h H n led U cl acc h2 n2 cells F1 N1 R1 hc hm
  cases hm
  exact ⟨U,led,F1,N1,R1,hc,Ext.refl _ _ _⟩
 | cons p0 names ih =>
  obtain ⟨x,k⟩:=p0
  intro h H n led U cl acc h2 n2 cells F1 N1 R1 hc hm
  have other:(k == NameKind.cell)=false->em H n cl names=(h2,n2,cells) -> ∃ ρ2 led2,Fr g' L' (pushCells h ((x,k)::names)) m'/\News g' L' (pushCells h ((x,k)::names)) (led2++F)/\Rel T w F ρ2 ⟨loc,h2,n2⟩ led2/\(∀ y j,look y cells=some j->j<n2/\(cellsFrom h.objs.size ((x,k)::names) acc).lookup y=some (ρ2 j))/\Ext F U n F ρ2 n2:=fun e1 e2=>by
   dsimp only [pushCells,cellsFrom]
   rw [if_neg (by rw [e1];decide),if_neg (by rw [e1];decide)]
   exact ih F1 N1 R1 hc e2
  induction k using NameKind.casesOn with
  | cell =>
   have hm:em (H.ins n (.cell none)) (n+1) ((x,n)::cl) names=(h2,n2,cells):=hm
   have ha:∀ p∈led++F,p.1≠h.objs.size:=fun p hp=>Nat.ne_of_lt (Heap.lt_size (N1 p hp).1)
   have R2:=R1.new (vo:=.cell none) (o:={ cls:=.type "cell",data:=.cell none }) ha (.cell (x:=none) rfl trivial)
   have N2:=News.push F1 N1 { cls:=.type "cell",data:=.cell none }
   have F2:=F1.push { cls:=.type "cell",data:=.cell none }
   have hρ:∀ j,j<n->(if j=n then h.objs.size else U j)=U j:=fun j hj=>if_neg (Nat.ne_of_lt hj)
   have xx:Ext F U n F (fun j=>if j=n then h.objs.size else U j) (n+1):=Ext.new _ _ _ _
   obtain ⟨ρ2,led2,q1,q2,q3,q4,q5⟩:=ih (cl:=(x,n)::cl) (acc:=(x,h.objs.size)::acc) F2 N2 R2 (fun y j hy=>by
    rw [ag] at hy
    rw [ae,ag, ← ae]
    by_cases q:x=y
    ·simp only [q,if_true] at hy ⊢
     (injection hy with hy;subst hy)
     exact ⟨Nat.lt_succ_self _,congrArg some (if_pos rfl).symm⟩
    ·simp only [q,if_false] at hy ⊢
     obtain ⟨z1,z2⟩:=hc y j hy
     exact ⟨Nat.lt_succ_of_lt z1,by rw [z2,hρ j z1]⟩) hm
   rw [Heap.size_push] at q4
   exact ⟨ρ2,led2,q1,q2,q3,q4,xx.trans q5⟩
  | «local» => exact other rfl hm
  | free=>exact other rfl hm
  | globalExplicit=>exact other rfl hm
  | globalImplicit=>exact other rfl hm
theorem Mr {f:Str×Value->PUnit->Sem (ForInStep PUnit)} (hf:∀ p u,f p u=(do storeName env p.1 p.2;pure (.yield ⟨⟩))) (X:Sx T w K lz mn mg mb e env g A) (S2:St) (Q:PUnit->Shared->Prop):∀ (names:List Str) (vs:List V) (ys:List Value) (F:Led) (U:Nat->Addr) (m:Str->Option Value) (led:Led) (S:St) (σ:Shared),
  Dx T w e env g U m led F S σ->Each (VR T F U S.n) vs ys->bindAll e names vs S=some S2 ->
  (∀ F' ρ' m' led' h' t',Ext F U S.n F' ρ' S2.n->Dx T w e env g ρ' m' led' F' S2 (At σ h' t')->Q ⟨⟩ (At σ h' t'))->wpAny (model PG w) A (forIn (names.zip ys) ⟨⟩ f) Q E σ:=by
 intro names
 induction names with
 | nil =>
  intro vs ys F U m led S σ D hv hb hQ
  induction vs using List.casesOn with
  | cons=>exact nos hb
  | nil =>
   have hb:some S=some S2:=hb
   (injection hb with hb;subst hb)
   rw [List.zip_nil_left,List.forIn_nil]
   exact wpAny_pure (hQ F U m led σ.heap σ.toks (Ext.refl _ _ _) D)
 | cons x names ih =>
  intro vs ys F U m led S σ D hv hb hQ
  cases hv with
  | nil=>exact nos hb
  | cons hv hvs =>
   rename_i v y vs ys
   have hb:(match store e x v S with | some s=>bindAll e names vs s | none=>none)=some S2:=hb
   split at hb
   ·rename_i S1 hs
    rw [List.zip_cons_cons,List.forIn_cons,hf]
    refine wpAny_bind (wpAny_bind (n7 (P:=fun s=>s=S1) X D hv (by rw [hs];rfl) fun F1 ρ1 m1 led1 h1 t1 S1' x1 D1 e1=>wpAny_pure ?_))
    subst e1
    exact ih vs ys F1 ρ1 m1 led1 S1' _ D1 (hvs.mono fun _ _ q=>x1.vr q) hb fun F2 ρ2 m2 led2 h2 t2 x2 D2=>hQ F2 ρ2 m2 led2 h2 t2 (x1.trans x2) D2
   ·exact nos hb
theorem Dx.back {F2:Led} {ρ2:Nat->Addr} {led2:Led} {S2:St} {h:Heap} {t':Nat} (D:Dx T w e env g U m led F S σ) (keep:∀ b o,(hideAll σ.heap ((led++F).map (·.1))).get? b=some o->h.get? b=some o) (N:∀ p∈led2++F2,h.get? p.1=some p.2/\(hideAll σ.heap ((led++F).map (·.1))).get? p.1=none) (R:Rel T w F2 ρ2 S2 led2) (x:Ext F U S.n F2 ρ2 S2.n) (hl:S2.loc=S.loc) :
  Dx T w e env g ρ2 m led2 F2 S2 (At σ h t'):=by
 have nm:∀ b o,g.get? b=some o->b∉(led++F).map (·.1):=fun b o q z=>by
  obtain ⟨p,hp,rfl⟩:=List.mem_map.mp z
  rw [(D.nw p hp).2.2] at q;injection q
 refine bc fun hG=>?_
 obtain ⟨oL,es,ep,hL,hLd,hLk,hLf⟩:=D.fr.ns
 refine hG ?_
 have nL:env.locals∉(led++F).map (·.1):=fun q=>by
  obtain ⟨p,hp,z⟩:=List.mem_map.mp q
  exact (D.nw p hp).2.1 z
 have hLg:=hideAll_get _ hL nL
 refine ⟨⟨⟨oL,es,ep,keep _ _ hLg,hLd,hLk,hLf⟩,fun b o q=>keep _ _ (hideAll_get _ (D.fr.keep b o q) (nm b o q)),D.fr.above⟩,fun p hp=>⟨(N p hp).1,fun q=>?_,?_⟩,R,fun y v q=>?_,fun y k q=>?_⟩
 ·have:=(N p hp).2;rw [q,hLg] at this;injection this
 ·induction q:g.get? p.1 using Option.casesOn with
  | none=>rfl
  | some o=>have:=(N p hp).2;rw [hideAll_get _ (D.fr.keep _ _ q) (nm _ _ q)] at this;injection this
 ·obtain ⟨z,q1,q2⟩:=D.loc y v (hl ▸ q)
  exact ⟨z,q1,x.vr q2⟩
 ·obtain ⟨q1,q2⟩:=D.cells y k q
  exact ⟨Nat.lt_of_lt_of_le q1 x.le,by rw [q2,x.same k q1]⟩
end
theorem Cg {x:Str}:∀ {l:List Str},x∈l->Am x l=true
 | y::l,hm=>by
  show (match seq y x with | true=>true | false=>Am x l)=true
  induction q:seq y x using Bool.casesOn with
  | true=>rfl
  | false =>
   rcases List.mem_cons.mp hm with z | z
   ·exact absurd z.symm (jc q)
   ·exact Cg z
theorem iu:∀ {l:List Str},frameOk.once l=true->l.Nodup
 | [],_=>List.nodup_nil
 | x::l,h=>by
  have h:(!Am x l&&frameOk.once l)=true:=h
  rw [Bool.and_eq_true] at h
  rw [List.nodup_cons]
  refine ⟨fun hm=>?_,iu h.2⟩
  have h1:=h.1
  have this:=Cg hm
  rw [this] at h1;injection h1
theorem iw {a:Arguments} {sc:Scope} {cl:List (Str×Nat)} (h:frameOk a sc cl=true):sc.kind = .function/\sc.isCoroutine=false/\sc.isGenerator=false/\a.posonlyargs=[]/\a.vararg=none/\a.kwonlyargs=[]/\a.kwarg=none/\(gf a).Nodup:=by
 delta frameOk at h
 simp only [Bool.and_eq_true] at h
 refine bc fun hG=>?_
 obtain ⟨⟨⟨⟨⟨⟨⟨⟨h1,h2⟩,h3⟩,h4⟩,h5⟩,h6⟩,h7⟩,h8⟩,_⟩:=h
 refine hG ?_
 refine ⟨?_,by simpa using h2,by simpa using h3,bx h4,g0 h5,bx h6,g0 h7,iu h8⟩
 split at h1
 ·assumption
 ·injection h1
theorem wq {e:En}:∀ {names:List Str} {vs:List V} {S S2:St},bindAll e names vs S=some S2->vs.length=names.length
 | [],[],_,_,_=>rfl
 | x::names,v::vs,S,S2,h=>by
  have h:(match store e x v S with | some s=>bindAll e names vs s | none=>none)=some S2:=h
  split at h
  ·rw [List.length_cons,List.length_cons,wq h]
  ·exact nos h
 | [],_::_,_,_,h=>by injection h
 | _::_,[],_,_,h=>by injection h
section
variable {T:Pl} {w:World} {K:Frag} {lz:List Str} {mn:ExcName->Option Value} {mg mb:Str->Option Value} {r:H Prop} {O:Known Prop} {e:En} {env:Env} {g:Heap} {A:Around} {F:Led} {U:Nat->Addr} {m:Str->Option Value} {led:Led} {S S':St} {σ:Shared}
 {E:Value->Shared->Prop}
theorem Dx.hid (D:Dx T w e env g U m led F S σ):g.StaysIn (hideAll σ.heap ((led++F).map (·.1))):=fun b o q=>hideAll_get _ (D.fr.keep b o q) fun z=>by
 obtain ⟨p,hp,rfl⟩:=List.mem_map.mp z
 rw [(D.nw p hp).2.2] at q;injection q
structure Bs (T:Pl) (w:World) (K:Frag) (lz:List Str) (mn:ExcName->Option Value) (mg mb:Str->Option Value) (d:Nat) (g:Heap) (A:Around):Prop where
 tx:Tx T w K
 kin:K.In g
 top:Top topProg lz mn mg mb g
 depth:A.depth<=310+4 * d
 units:A.units<=100+60 * d
 hand:A.handled=none
noncomputable def Fin (T:Pl) (w:World) (F:Led) (U:Nat->Addr) (n:Nat) (l:List (Str×V)) (g:Heap) (σ:Shared) (C:V->St->Prop) (R:Value->Shared->Prop):Prop :=
 ∀ F' ρ' led' h' t' v x S',Ext F U n F' ρ' S'.n->(∀ b o,g.get? b=some o->h'.get? b=some o)->(∀ p∈led'++F',h'.get? p.1=some p.2/\g.get? p.1=none)->Rel T w F' ρ' S' led'->VR T F' ρ' S'.n v x->S'.loc=l->C v S'->R x (At σ h' t')
theorem m7 (Z:Snd T w K lz mn mg mb r) {led:Led} {U:Nat->Addr} {S:St} {d:Nat} (B:Bs T w K lz mn mg mb d (hideAll σ.heap ((led++F).map (·.1))) A) (N:∀ p∈led++F,σ.heap.get? p.1=some p.2) (R0:Rel T w F U S led)
  {f:Addr} {fo:Obj} {name qual:Str} {args:Arguments} {body:List Stmt} {sc:Scope} {closure:List (Str×Addr)} {dV kV doc pm cdv ct:Value} {an:Option Addr} {mu:Nat} {tb:Option (Nat×Str)} {cutting:Bool} {cl:List (Str×Nat)}
  {vs:List V} {xs ys:List Value} {C:V->St->Prop}
  (ho:σ.heap.get? f=some fo) (hfd:fo.data = .func (fnX name qual args body sc closure dV kV doc pm an cdv ct)) (hcd:σ.heap.CodeRec cdv qual) (hbind:frameOk args sc cl=true->vs.length=(gf args).length->BindsTo σ (fnX name qual args body sc closure dV kV doc pm an cdv ct) ⟨xs,[]⟩ ((gf args).zip ys))
  (hv:Each (VR T F U S.n) vs ys) (hcl:∀ x k,look x cl=some k->k<S.n/\closure.lookup x=some (U k)) (htab:∀ k f',tb=some (k,f') -> ∃ cc P,cdv = .ref cc/\CodeHd (hideAll σ.heap ((led++F).map (·.1))) cc P/\T.pa f'=some P)
  (h:enter False r d mu tb cutting args body sc cl vs S C) {R:Result->Shared->Prop} (hR:Fin T w F U S.n S.loc (hideAll σ.heap ((led++F).map (·.1))) σ C (fun v s'=>R (.ok (.ret v)) s')):codeAny (model PG w) A (.call (.ref f) ⟨xs,[]⟩) R σ:=by
 delta enter at h
 rcases az h with ⟨_,q⟩ | ⟨hb,h⟩
 ·exact q.elim
 rw [Bool.or_eq_false_iff,Bool.not_eq_false'] at hb
 obtain ⟨hdeep,hfok⟩:=hb
 obtain ⟨hkind,hco,hgen,_,_,_,_,_⟩:=iw hfok
 generalize hmk:em S.h S.n cl sc.names=mk at h
 obtain ⟨h2,n2,cells⟩:=mk
 dsimp only at h
 obtain ⟨S2,hba,hss⟩:=ac h
 have hlen:vs.length=(gf args).length:=wq hba
 have hlt:d<40:=by
  rcases Nat.lt_or_ge d 40 with q | q
  ·exact q
  ·have:=Nat.ble_eq_true_of_le q
   rw [this] at hdeep;injection hdeep
 have hdp:=B.depth
 have hun:=B.units
 have hroom:A.depth<recursionLimit:=by
  show A.depth<1000
  exact azy hlt hdp
 have st:∀ b o,(hideAll σ.heap ((led++F).map (·.1))).get? b=some o->σ.heap.get? b=some o:=fun b o q=>of_hideAll _ q
 refine codeAny_call_function hroom ho hfd hco hgen rfl hcd (hbind hfok hlen _ _ _ _ ?_)
 dsimp only
 simp only [newFunctionEnv,Option.isSome_none,Bool.false_eq_true,if_false]
 refine wpAny_bind (wpAny_alloc ?_)
 refine wpAny_bind (wpAny_layCells _ (fun name kind cells=>by induction hkc:kind == NameKind.cell using Bool.casesOn <;> simp) _ _ _ _ ?_)
 generalize hg':hideAll σ.heap ((led++F).map (·.1))=g' at *
 have F1:Fr g' σ.heap.objs.size (σ.heap.push { cls:=.type "frame",data:=.dict #[] }) (fun _=>none) :=
  ⟨Heap.Ns.new _ _,fun b o q=>Heap.get?_push_of_some _ (st b o q),by rw [← hg'];exact Nat.le_of_eq (hideAll_size _ _)⟩
 have N1:News g' σ.heap.objs.size (σ.heap.push { cls:=.type "frame",data:=.dict #[] }) (led++F):=fun p hp =>
  ⟨Heap.get?_push_of_some _ (N p hp),Nat.ne_of_lt (Heap.lt_size (N p hp)),by rw [← hg'];exact hideAll_none _ (List.mem_map_of_mem hp)⟩
 have R1:Rel T w F U ⟨[],S.h,S.n⟩ led:=⟨R0.full,R0.objs,R0.inj,R0.nodup⟩
 refine bc fun hG=>?_
 obtain ⟨ρ2,led2,F2,N2,R2,hc2,x2⟩:=Hc F1 N1 R1 hcl hmk
 refine hG ?_
 have mkX:∀ A':Around,A'.depth<=A.depth+4->A'.units<=A.units+60->A'.handled=none->Sx T w K lz mn mg mb ⟨sc,cells,d+1,mu,tb⟩ (envX qual sc σ.heap.objs.size f cdv (cellsFrom (σ.heap.push { cls:=.type "frame",data:=.dict #[] }).objs.size sc.names closure)) g' A':=fun A' ha hu hh =>
  ⟨B.tx,B.kin,B.top,hkind,rfl,rfl,uw sc,(by show d+1<=41;exact Nat.le_trans hlt (Nat.le_of_ble_eq_true rfl)),(by show A'.depth<=310+4 * (d+1);exact azw hdp ha),(by show A'.units<=100+60 * (d+1);exact azv hun hu),hh,fun k f' q=>by
   refine bc fun hG=>?_
   obtain ⟨cc,P,q1,q2,q3⟩:=htab k f' q
   refine hG ?_
   exact ⟨qual,sc,f,cc,_,P,by rw [q1],q2,q3⟩⟩
 have X1:=mkX A.in1 (Nat.le_add_right _ _) (by show A.units+1<=A.units+60;exact (Nat.add_le_add_left (Nat.le_of_ble_eq_true rfl) _)) B.hand
 have D2:Dx T w ⟨sc,cells,d+1,mu,tb⟩ (envX qual sc σ.heap.objs.size f cdv (cellsFrom (σ.heap.push { cls:=.type "frame",data:=.dict #[] }).objs.size sc.names closure)) g' ρ2 (fun _=>none) led2 F ⟨[],h2,n2⟩ (At σ (pushCells (σ.heap.push { cls:=.type "frame",data:=.dict #[] }) sc.names) σ.toks) :=
  ⟨F2,N2,R2,fun x v q=>((by contradiction)),hc2⟩
 refine wpAny_bind (Mr (fun _ _=>rfl) X1 S2 _ _ _ _ _ _ _ _ _ _ D2 (hv.mono fun _ _ q=>x2.vr q) hba fun F3 ρ3 m3 led3 h3 t3 x3 D3=>?_)
 refine wpAny_pure ⟨X1.top.nolimit.keeps D3.fr.keep,codeAny_func ?_⟩
 refine Z.ss (mkX _ (by show A.depth+1<=A.depth+4;exact (Nat.add_le_add_left (Nat.le_of_ble_eq_true rfl) _)) (by show A.units+3<=A.units+60;exact (Nat.add_le_add_left (Nat.le_of_ble_eq_true rfl) _)) B.hand) D3 hss fun F4 ρ4 m4 led4 h4 t4 fl y S4 x4 D4 hfr hp=>?_
 have xx:Ext F U S.n F4 ρ4 S4.n:=(x2.trans x3).trans x4
 have plain:∀ v z,VR T F4 ρ4 S4.n v z->C v { S4 with loc:=S.loc }->R (.ok (.ret z)) (At σ h4 t4):=fun v z q1 q2 =>
  hR F4 ρ4 led4 h4 t4 v z { S4 with loc:=S.loc } xx D4.fr.keep (fun p hp=>⟨(D4.nw p hp).1,(D4.nw p hp).2.2⟩) ⟨D4.rel.full,D4.rel.objs,D4.rel.inj,D4.rel.nodup⟩ q1 rfl q2
 cases hfr with
 | next=>exact plain _ _ (.p .none) hp
 | brk=>exact plain _ _ (.p .none) hp
 | ret hv4 =>
  rename_i v z
  delta leave at hp
  dsimp only at hp
  refine bc fun hG=>?_
  split at hp
  ·refine hG ?_
   rename_i x
   refine bc fun hG=>?_
   split at hp
   ·refine hG ?_
    rename_i H hH
    exact hR F4 ρ4 led4 h4 t4 _ z ⟨S.loc,H,S.n⟩ ⟨Nat.le_refl _,xx.same,xx.sub⟩ D4.fr.keep (fun p hp=>⟨(D4.nw p hp).1,(D4.nw p hp).2.2⟩) (D4.rel.forget xx.le hH _) (.p hv4.pure) rfl hp
   ·refine hG ?_
    exact plain _ _ hv4 hp
  ·refine hG ?_
   exact plain _ _ hv4 hp
theorem Sx.base (X:Sx T w K lz mn mg mb e env g A) (D:Dx T w e env g U m led F S σ):Bs T w K lz mn mg mb e.d (hideAll σ.heap ((led++F).map (·.1))) A :=
 ⟨X.tx,fun a o q=>D.hid _ _ (X.kin a o q),X.top.keeps D.hid,X.depth,X.units,X.hand⟩
theorem Dx.fin (D:Dx T w e env g U m led F S σ) {C:V->St->Prop} {Q:Value->Shared->Prop} (hR:PostE T w e env g F U S.n σ C Q):Fin T w F U S.n S.loc (hideAll σ.heap ((led++F).map (·.1))) σ C Q :=
 fun F' ρ' led' h' t' v x S' ext keep N R hv hl hp=>hR F' ρ' m led' h' t' v x S' ext (D.back keep N R ext hl) hv hp
theorem Hd (Z:Snd T w K lz mn mg mb r) (X:Sx T w K lz mn mg mb e env g A) (D:Dx T w e env g U m led F S σ) {f:Addr} {fo:Obj} {name qual:Str} {args:Arguments} {body:List Stmt} {sc:Scope} {closure:List (Str×Addr)} {dV kV doc pm cdv ct:Value} {an:Option Addr} {mu:Nat} {tb:Option (Nat×Str)} {cutting:Bool} {cl:List (Str×Nat)}
  {vs:List V} {xs ys:List Value} {C:V->St->Prop}
  (ho:σ.heap.get? f=some fo) (hfd:fo.data = .func (fnX name qual args body sc closure dV kV doc pm an cdv ct)) (hcd:σ.heap.CodeRec cdv qual) (hbind:frameOk args sc cl=true->vs.length=(gf args).length->BindsTo σ (fnX name qual args body sc closure dV kV doc pm an cdv ct) ⟨xs,[]⟩ ((gf args).zip ys))
  (hv:Each (VR T F U S.n) vs ys) (hcl:∀ x k,look x cl=some k->k<S.n/\closure.lookup x=some (U k)) (htab:∀ k f',tb=some (k,f') -> ∃ cc P,cdv = .ref cc/\CodeHd g cc P/\T.pa f'=some P)
  (h:enter False r e.d mu tb cutting args body sc cl vs S C) {R:Result->Shared->Prop} (hR:PostE T w e env g F U S.n σ C (fun v s'=>R (.ok (.ret v)) s')):codeAny (model PG w) A (.call (.ref f) ⟨xs,[]⟩) R σ :=
 m7 Z (X.base D) (fun p hp=>(D.nw p hp).1) D.rel ho hfd hcd hbind hv hcl (fun k f' q=>by
  obtain ⟨cc,P,q1,q2,q3⟩:=htab k f' q
  exact ⟨cc,P,q1,q2.keeps D.hid,q3⟩) h (D.fin hR)
end
section
variable {T:Pl} {w:World} {K:Frag} {lz:List Str} {mn:ExcName->Option Value} {mg mb:Str->Option Value} {r:H Prop} {O:Known Prop} {e:En} {env:Env} {g:Heap} {A:Around} {F:Led} {U:Nat->Addr} {m:Str->Option Value} {led:Led} {S S':St} {σ:Shared}
 {E:Value->Shared->Prop}
theorem He {n:Nat} {ds:List Expr} {vals:List Value} (h:Each wb ds vals):∀ {l:List V},ya ds=some l->Each (VR T F U n) l vals:=by
 induction h with
 | nil=>intro l h;obtain rfl:=Option.some.inj h;exact .nil
 | @cons d v ds vals hd hs ih =>
  intro l h
  have h:(match dflt d,ya ds with | some v,some l=>some (v::l) | _,_=>none)=some l:=h
  induction e1:dflt d using Option.casesOn with
  | none=>exact nos (e1 ▸ h)
  | some y =>
   induction e2:ya ds using Option.casesOn with
   | none=>rw [e1,e2] at h;exact nos h
   | some l' =>
    rw [e1,e2] at h
    obtain rfl:=Option.some.inj h
    refine .cons ?_ (ih e2)
    rcases hd y e1 with ⟨rfl,rfl⟩ | ⟨i,t,rfl,rfl⟩ | ⟨b,rfl,rfl⟩
    ·exact .p .none
    ·exact .p (.int i t)
    ·exact .p (.bool b)
theorem Ms {a:Arguments} {ds:List Expr} {vs vs':List V} {xs vals:List Value} {n:Nat} (h:fill a ds vs=some vs') (hv:Each (VR T F U n) vs xs) (hds:Each wb ds vals):(gf a).length<=xs.length+vals.length/\Each (VR T F U n) vs' (xs++vals.drop (vals.length - ((gf a).length - xs.length))):=by
 have h:(match Nat.blt ds.length (a.args.length - vs.length) with
  | true=>none
  | false=>(ya (ds.drop (ds.length - (a.args.length - vs.length)))).map (vs ++ ·))=some vs':=h
 have hpl:(gf a).length=a.args.length:=by unfold gf;rw [List.length_map]
 induction hb:Nat.blt ds.length (a.args.length - vs.length) using Bool.casesOn with
 | true=>rw [hb] at h;exact nos h
 | false =>
  rw [hb] at h
  obtain ⟨l,hl,rfl⟩:=Option.map_eq_some_iff.mp h
  have hk:a.args.length - vs.length<=ds.length:=Nat.le_of_not_lt fun q=>Bool.noConfusion (hb.symm.trans (Nat.ble_eq_true_of_le q))
  rw [hpl, ← hv.length, ← hds.length]
  exact ⟨Nat.sub_le_iff_le_add'.mp hk,hv.append (He (hds.drop _) hl)⟩
theorem d7 (Z:Snd T w K lz mn mg mb r) {led:Led} {U:Nat->Addr} {S:St} {d:Nat} (B:Bs T w K lz mn mg mb d (hideAll σ.heap ((led++F).map (·.1))) A) (N:∀ p∈led++F,σ.heap.get? p.1=some p.2) (R0:Rel T w F U S led)
  {c mm:Str} {a:Addr} {vs:List V} {xs:List Value} {C:V->St->Prop} (ha:T.fa c mm=some a) (hv:Each (VR T F U S.n) vs xs)
  (h:af False r d c mm vs S C) {R:Result->Shared->Prop} (hR:Fin T w F U S.n S.loc (hideAll σ.heap ((led++F).map (·.1))) σ C (fun v s'=>R (.ok (.ret v)) s')):codeAny (model PG w) A (.call (.ref a) ⟨xs,[]⟩) R σ:=by
 delta af at h
 split at h
 ·rename_i fd ds hfn
  obtain ⟨vs',hfill,hen⟩:=ac h
  obtain @⟨name,qual,dV,kV,doc,pm,an,cdv,ct,oc,od,osl,vals,hK,hcode,hdef,hds,hdl,htab⟩:=B.tx.fns _ _ _ _ _ ha hfn
  have kin:K.In σ.heap:=fun b o q=>of_hideAll _ (B.kin b o q)
  obtain ⟨hle,hv'⟩:=Ms hfill hv hds
  refine m7 Z B N R0 (kin _ _ hK) rfl (codeRec_of kin hcode) (fun hfok hlen=>?_) hv' (cl:=[]) (closure:=[]) (fun x k q=>(by contradiction)) (fun k f' q=>?_) hen hR
  ·obtain ⟨_,_,_,b1,b2,b3,b4,b5⟩:=iw hfok
   rw [hv'.length,List.length_append] at hlen
   refine km (fd:=fnX name qual fd.args fd.body fd.sc [] dV kV doc pm an cdv ct) (dl:=vals) b1 b2 b3 b4 b5 (Nat.le_trans (Nat.le_add_right _ _) (Nat.le_of_eq hlen)) (fun M A E Q hq=>?_) hle (hds.length ▸ hdl)
   show wpAny M A (seqItems? dV) Q E σ
   rcases hdef with ⟨rfl,rfl⟩ | ⟨Td,o,n,rfl,ho,hs⟩
   ·exact wpAny_pure (hq none rfl)
   ·exact wpAny_seqItems (kin _ _ ho) hs (hq _ rfl)
  ·obtain ⟨cc,P,q1,q2,q3⟩:=htab k f' q
   exact ⟨cc,P,q1,q3 _ B.kin,q2⟩
 ·exact h.elim
theorem rb (Z:Snd T w K lz mn mg mb r) (X:Sx T w K lz mn mg mb e env g A) (D:Dx T w e env g U m led F S σ) {c mm:Str} {a:Addr} {vs:List V} {xs:List Value} {C:V->St->Prop} (ha:T.fa c mm=some a) (hv:Each (VR T F U S.n) vs xs)
  (h:af False r e.d c mm vs S C) {R:Result->Shared->Prop} (hR:PostE T w e env g F U S.n σ C (fun v s'=>R (.ok (.ret v)) s')):codeAny (model PG w) A (.call (.ref a) ⟨xs,[]⟩) R σ :=
 d7 Z (X.base D) (fun p hp=>(D.nw p hp).1) D.rel ha hv h (D.fin hR)
theorem ux (Z:Snd T w K lz mn mg mb r) (X:Sx T w K lz mn mg mb e env g A) (D:Dx T w e env g U m led F S σ) {k:Nat} {name:Str} {args:Arguments} {body:List Stmt} {sc:Scope} {cl:List (Str×Nat)} {vs:List V} {xs:List Value} {C:V->St->Prop} (hg:S.h.get k=some (.clos name args body sc cl)) (hv:Each (VR T F U S.n) vs xs)
  (h:enter False r e.d 0 none false args body sc cl vs S C) {R:Result->Shared->Prop} (hR:PostE T w e env g F U S.n σ C (fun v s'=>R (.ok (.ret v)) s')):codeAny (model PG w) A (.call (.ref (U k)) ⟨xs,[]⟩) R σ:=by
 refine bc fun hG=>?_
 obtain ⟨ob,hob,hor⟩:=D.rel.obj k _ hg
 obtain ⟨qual,clos,doc,pm,ctv,c',oc,vs',t,rfl,hcl,hF,hd,hvq,hon⟩:=hor.inv
 have hxl:=hv.length
 refine hG (Hd Z X D (D.at hob) rfl (codeRec_news D.nw (List.mem_append_right _ hF) hd hvq) (fun hfok hlen=>?_) hv (tb:=none) hcl (fun k f' q=>(by contradiction)) h hR)
 obtain ⟨_,_,_,b1,b2,b3,b4,b5⟩:=iw hfok
 have hlen:xs.length=(gf args).length:=hxl.symm.trans hlen
 have hb:=km (σ:=σ) (fd:=fnX name qual args body sc clos .none .none doc pm none (.ref c') ctv) (vs:=xs) (dl:=[]) b1 b2 b3 b4 b5 (Nat.le_of_eq hlen) (fun M A E Q hq=>wpAny_pure (hq none rfl))
  (Nat.le_of_eq hlen.symm) (Nat.zero_le _)
 rw [List.drop_nil,List.append_nil] at hb
 exact hb
end
end Mine
end
section
open PySem PySem.W PySem.Spec PySem.Calls PyProof.Rows PySem.SeqAt
set_option tactic.hygienic false
namespace Mine
section
variable {T:Pl} {w:World} {K:Frag} {lz:List Str} {mn:ExcName->Option Value} {mg mb:Str->Option Value} {r:H Prop} {O:Known Prop} {e:En} {env:Env} {g:Heap} {A:Around} {F:Led} {U:Nat->Addr} {m:Str->Option Value} {led:Led} {S S':St} {σ:Shared}
 {E:Value->Shared->Prop}
theorem Sx.dup (X:Sx T w K lz mn mg mb e env g A) {A':Around} (hd:Nat.ble 40 e.d=false) (ha:A'.depth<=A.depth+4) (hu:A'.units<=A.units+60) (hh:A'.handled=none):Sx T w K lz mn mg mb { e with d:=e.d+1 } env g A':=by
 have hlt:e.d<40:=by
  rcases Nat.lt_or_ge e.d 40 with q | q
  ·exact q
  ·have:=Nat.ble_eq_true_of_le q
   rw [this] at hd;injection hd
 have h1:=X.depth
 have h2:=X.units
 refine ⟨X.tx,X.kin,X.top,X.kind,X.glo,X.blt,X.kinds,?_,?_,?_,hh,X.tab⟩
 ·show e.d+1<=41;exact Nat.le_trans hlt (Nat.le_of_ble_eq_true rfl)
 ·show A'.depth<=310+4 * (e.d+1);exact azt ha h1
 ·show A'.units<=100+60 * (e.d+1);exact azu hu h2
theorem za (Z:Snd T w K lz mn mg mb r) (X:Sx T w K lz mn mg mb e env g A) (D:Dx T w e env g U m led F S σ) {c c' m':Str} {Cx:Addr} {vs:List V} {xs:List Value} {C:V->St->Prop} (hc:T.ca c=some Cx) (hv:Each (VR T F U S.n) vs xs) (hm:cz 3 c "__init__" = some (.fn c' m')) (hd:Nat.ble 40 e.d=false)
  (h:af False r (e.d+1) c' m' (.ref (S.n+1)::vs) (new (.inst c S.n) (new (.ns []) S)) fun v s'=>match v with | .p .none=>C (.ref (S.n+1)) s' | _=>False)
  {R:Result->Shared->Prop} (hR:PostE T w e env g F U S.n σ C (fun v s'=>R (.ok (.ret v)) s')):codeAny (model PG w) A (.call (.ref Cx) ⟨xs,[]⟩) R σ:=by
 refine bc fun hG=>?_
 obtain ⟨fI,hfI,_,hfind,hfn⟩:=X.tx.meths _ _ _ _ _ hc hm
 refine hG ?_
 refine make_K D.fr D.nw (X.kin.keeps D.fr.keep) (X.tx.makes _ _ _ _ hc hm) hfind (beq_iff_eq.mp hfn) fun x dx h' F1 N1 l1 l2=>?_
 have D1:Dx T w e env g (fun k=>if k=S.n then dx else U k) m ((dx,emptyDict)::led) F (new (.ns []) S) (At σ h' σ.toks) :=
  D.more (a:=dx) (vo:=.ns []) (o:=emptyDict) (t:=σ.toks) F1 (fun p hp=>N1 p (.tail _ hp)) l1 (.ns (ds:=[]) (e:=0) .nil (Nat.zero_le _))
 have hρ:(if S.n=S.n+1 then x else (if S.n=S.n then dx else U S.n))=dx:=by rw [if_neg (Nat.ne_of_lt (Nat.lt_succ_self _)),if_pos rfl]
 have D2:Dx T w e env g (fun k=>if k=S.n+1 then x else (if k=S.n then dx else U k)) m ((x,instObj Cx dx)::(dx,emptyDict)::led) F (new (.inst c S.n) (new (.ns []) S)) (At σ h' σ.toks):=by
  have z:=Dx.more (a:=x) (vo:=.inst c S.n) (o:=instObj Cx dx) (h':=h') (t:=σ.toks) D1 F1 N1 (fun p hp=>?_) ?_
  ·exact z
  ·rcases List.mem_cons.mp hp with q | q
   ·rw [q];exact l2
   ·exact Nat.lt_trans (l1 p q) l2
  ·have:=OR.inst (T:=T) (w:=w) (F:=F) (U:=fun k=>if k=S.n+1 then x else (if k=S.n then dx else U k)) (n:=S.n+1+1) (a:=x) (d:=S.n) hc (Nat.lt_succ_of_lt (Nat.lt_succ_self _))
   rw [hρ] at this
   exact this
 have xx:Ext F U S.n F (fun k=>if k=S.n+1 then x else (if k=S.n then dx else U k)) (S.n+1+1):=⟨Nat.le_succ_of_le (Nat.le_succ _),fun k hk=>by
  show (if k=S.n+1 then x else (if k=S.n then dx else U k))=U k
  rw [if_neg (Nat.ne_of_lt (Nat.lt_succ_of_lt hk)),if_neg (Nat.ne_of_lt hk)],fun _ h=>h⟩
 have hx:(if S.n+1=S.n+1 then x else (if S.n+1=S.n then dx else U (S.n+1)))=x:=if_pos rfl
 have hself:VR T F (fun k=>if k=S.n+1 then x else (if k=S.n then dx else U k)) (S.n+1+1) (.ref (S.n+1)) (.ref x):=by
  have z:=VR.ref (T:=T) (F:=F) (U:=fun k=>if k=S.n+1 then x else (if k=S.n then dx else U k)) (n:=S.n+1+1) (k:=S.n+1) (Nat.lt_succ_self _)
  rw [hx] at z
  exact z
 have X1:=X.dup (A':=A.under (.builtin "type.__call__" ⟨.ref Cx::xs,[]⟩)) hd (by show A.depth+1<=A.depth+4;exact (Nat.add_le_add_left (Nat.le_of_ble_eq_true rfl) _)) (by
  show A.units+(Code.builtin "type.__call__" ⟨.ref Cx::xs,[]⟩).cUnits<=A.units+60
  have:(Code.builtin "type.__call__" ⟨.ref Cx::xs,[]⟩).cUnits=1:=rfl
  exact (Nat.add_le_add_left (Nat.le_of_ble_eq_true rfl) _)) X.hand
 have D3:Dx T w { e with d:=e.d+1 } env g (fun k=>if k=S.n+1 then x else (if k=S.n then dx else U k)) m ((x,instObj Cx dx)::(dx,emptyDict)::led) F (new (.inst c S.n) (new (.ns []) S)) (At σ h' σ.toks):=⟨D2.fr,D2.nw,D2.rel,D2.loc,D2.cells⟩
 refine rb Z X1 D3 hfI (.cons hself (hv.mono fun _ _ q=>xx.vr q)) h fun F4 ρ4 m4 led4 h4 t4 v y S4 x4 D4 hv4 hp=>?_
 dsimp only at hp
 split at hp
 ·cases hv4 with
  | p hv4 =>
   cases hv4
   have e1:ρ4 (S.n+1)=x:=(x4.same (S.n+1) (Nat.lt_succ_self _)).trans hx
   have z:=VR.ref (T:=T) (F:=F4) (U:=ρ4) (n:=S4.n) (k:=S.n+1) (Nat.lt_of_lt_of_le (Nat.lt_succ_self _) x4.le)
   rw [e1] at z
   exact ⟨rfl,hR F4 ρ4 m4 led4 h4 t4 _ _ S4 (xx.trans x4) ⟨D4.fr,D4.nw,D4.rel,D4.loc,D4.cells⟩ z hp⟩
 ·exact hp.elim
end
section
variable {T:Pl} {w:World} {K:Frag} {lz:List Str} {mn:ExcName->Option Value} {mg mb:Str->Option Value} {r:H Prop} {O:Known Prop} {e:En} {env:Env} {g:Heap} {A:Around} {F:Led} {U:Nat->Addr} {m:Str->Option Value} {led:Led} {S S':St} {σ:Shared}
 {E:Value->Shared->Prop}
theorem R4:bootBuiltins "len" = some (.builtin "len"):=by kernel_rfl
theorem bb_int:bootBuiltins "int" = some (.type "int"):=by kernel_rfl
theorem R5:bootBuiltins "max" = some (.builtin "max"):=by kernel_rfl
theorem R6:bootBuiltins "min" = some (.builtin "min"):=by kernel_rfl
theorem R7:bootBuiltins "isinstance" = some (.builtin "isinstance"):=by kernel_rfl
theorem Hf:bootBuiltins "range" = some (.type "range"):=by kernel_rfl
theorem Mt:bootBuiltins "bool" = some (.type "bool"):=by kernel_rfl
theorem Hg:bootBuiltins "tuple" = some (.type "tuple"):=by kernel_rfl
theorem Each.one {α β:Type} {R:α->β->Prop} {a:α} {ys:List β} (h:Each R [a] ys):∃ b,ys=[b]/\R a b:=by
 obtain ⟨b,r,rfl,h1,h2⟩:=h.uncons
 exact ⟨b,by rw [h2.unnil],h1⟩
theorem Each.two {α β:Type} {R:α->β->Prop} {a a':α} {ys:List β} (h:Each R [a,a'] ys):∃ b b',ys=[b,b']/\R a b/\R a' b':=by
 obtain ⟨b,r,rfl,h1,h2⟩:=h.uncons
 obtain ⟨b',rfl,h3⟩:=h2.one
 exact ⟨b,b',rfl,h1,h3⟩
theorem OptP.of {α:Type} {R:α->Prop} {o:Option α} (h:∀ z,o=some z->R z):OptP R o:=by
 induction o using Option.casesOn with
 | none=>trivial
 | some z=>exact h z rfl
noncomputable def X4 (vs:List V) (s:St) (z:V):Prop :=
 (∃ l,vs=[.p (.lst l)]/\z = .p (.int l.length))\/(∃ l,vs=[.p (.tup l)]/\z = .p (.int l.length))\/(∃ k l,vs=[.ref k]/\s.h.get k=some (.list l)/\z = .p (.int l.length)) \/ ∃ k l,vs=[.ref k]/\s.h.get k=some (.listV l)/\z = .p (.int l.length)
theorem Hh (vs:List V) (s:St):OptP (X4 vs s) (Xo vs s):=by
 induction vs using List.casesOn with
 | nil=>trivial
 | cons v r=>induction v using V.casesOn with
  | ref k=>induction r using List.casesOn with
   | cons=>trivial
   | nil =>
    show OptP _ (match s.h.get k with | some (.list xs)=>some (V.p (.int xs.length)) | some (.listV xs)=>some (V.p (.int xs.length)) | _=>none)
    induction hg:s.h.get k using Option.casesOn with
    | none=>trivial
    | some o=>induction o using VO.casesOn with
     | list l=>exact .inr (.inr (.inl ⟨k,l,rfl,hg,rfl⟩))
     | listV l=>exact .inr (.inr (.inr ⟨k,l,rfl,hg,rfl⟩))
     | _=>trivial
  | p x=>induction x using P.casesOn with
   | lst l=>induction r using List.casesOn with
    | nil=>exact .inl ⟨l,rfl,rfl⟩
    | cons=>trivial
   | tup l=>induction r using List.casesOn with
    | nil=>exact .inr (.inl ⟨l,rfl,rfl⟩)
    | cons=>trivial
   | _=>trivial
theorem g8 {n:Nat} (hn:n<=2000):(n:Int)<2 ^ 63:=Int.lt_of_le_of_lt (Int.ofNat_le.mpr hn) (by decide)
theorem wt {α:Type} {ps:List α} {ys:List Value} {t:Tok} (e:ps.length=ys.length):VR T F U S.n (.p (.int ps.length)) (.int ys.toArray.size t):=by
 rw [e,List.size_toArray];exact .p (.int _ _)
theorem Mu (D:Dx T w e env g U m led F S σ) {v:V} {vs:List V} {xs:List Value} {C:V->St->Prop} {Q:Value->Shared->Prop} (hv:Each (VR T F U S.n) vs xs) (h:Xo vs S=some v) (hp:C v S) (hQ:PostE T w e env g F U S.n σ C Q) :
  wpAny (model PG w) A (call (.builtin "len") xs) Q E σ:=by
 refine bc fun hG=>?_
 rcases (Hh vs S).get h with ⟨ps,rfl,rfl⟩ | ⟨ps,rfl,rfl⟩ | ⟨k,ps,rfl,hg,rfl⟩ | ⟨k,ps,rfl,hg,rfl⟩
 ·obtain ⟨y,rfl,hy⟩:=hv.one
  obtain ⟨ys,a,ee,rfl,hF,hps,hl⟩:=hy.pure.inv
  exact hG (Calls.call_len_list ⟨_,D.frz hF,rfl,_,rfl⟩ (g8 hl) (hQ.tok D (wt hps.each.length) hp _))
 ·obtain ⟨y,rfl,hy⟩:=hv.one
  obtain ⟨ys,a,rfl,hF,hps,hl⟩:=hy.pure.inv
  exact hG (len_tuple ⟨_,D.frz hF,rfl,_,rfl⟩ (g8 hl) (hQ.tok D (wt hps.each.length) hp _))
 ·obtain ⟨y,rfl,hy⟩:=hv.one
  obtain ⟨hk,rfl⟩:=hy.inv
  obtain ⟨ob,hob,hor⟩:=D.rel.obj k _ hg
  obtain ⟨ys,ee,rfl,hps,hl⟩:=hor.inv
  exact hG (Calls.call_len_list ⟨_,D.at hob,rfl,_,rfl⟩ (g8 hl) (hQ.tok D (wt hps.length) hp _))
 ·obtain ⟨y,rfl,hy⟩:=hv.one
  obtain ⟨hk,rfl⟩:=hy.inv
  obtain ⟨ob,hob,hor⟩:=D.rel.obj k _ hg
  obtain ⟨ys,ee,rfl,hps,hl⟩:=hor.inv
  exact hG (Calls.call_len_list ⟨_,D.at hob,rfl,_,rfl⟩ (g8 hl) (hQ.tok D (wt hps.length) hp _))
end
section
variable {T:Pl} {w:World} {K:Frag} {lz:List Str} {mn:ExcName->Option Value} {mg mb:Str->Option Value} {r:H Prop} {O:Known Prop} {e:En} {env:Env} {g:Heap} {A:Around} {F:Led} {U:Nat->Addr} {m:Str->Option Value} {led:Led} {S S':St} {σ:Shared}
 {E:Value->Shared->Prop} {v:V} {vs:List V} {xs:List Value} {C:V->St->Prop} {Q:Value->Shared->Prop}
theorem Dx.kept (D:Dx T w e env g U m led F S σ) {h':Heap} {t:Nat} (hk:∀ b o,σ.heap.get? b=some o->h'.get? b=some o):Dx T w e env g U m led F S (At σ h' t) :=
 ⟨D.fr.keeps hk,fun p hp=>⟨hk _ _ (D.nw p hp).1,(D.nw p hp).2⟩,D.rel,D.loc,D.cells⟩
theorem VR.int_of {F:Led} {n:Nat} {i:Int} {y:Value} (h:VR T F U n (.p (.int i)) y):∃ t,y = .int i t:=h.pure.inv
theorem VR.bool_of {F:Led} {n:Nat} {b:Bool} {y:Value} (h:VR T F U n (.p (.bool b)) y):y = .bool b:=h.pure.inv
theorem Hi (vs:List V):OptP (fun z=>(∃ i,vs=[.p (.int i)]/\z = .p (.int i)) \/ ∃ b,vs=[.p (.bool b)]/\z = .p (.int (cnd b 1 0))) (Xp vs):=by
 induction vs using List.casesOn with
 | nil=>trivial
 | cons v r=>induction v using V.casesOn with
  | ref=>trivial
  | p x=>induction x using P.casesOn with
   | int i=>induction r using List.casesOn with
    | nil=>exact .inl ⟨i,rfl,rfl⟩
    | cons=>trivial
   | bool i=>induction r using List.casesOn with
    | nil=>exact .inr ⟨i,rfl,rfl⟩
    | cons=>trivial
   | _=>trivial
theorem Mv (D:Dx T w e env g U m led F S σ) (hv:Each (VR T F U S.n) vs xs) (h:Xp vs=some v) (hp:C v S) (hQ:PostE T w e env g F U S.n σ C Q):wpAny (model PG w) A (call (.type "int") xs) Q E σ:=by
 rcases (Hi vs).get h with ⟨i,rfl,rfl⟩ | ⟨b,rfl,rfl⟩
 ·obtain ⟨y,rfl,hy⟩:=hv.one
  obtain ⟨t,rfl⟩:=hy.int_of
  exact call_int_int (hQ.here D hy hp)
 ·obtain ⟨y,rfl,hy⟩:=hv.one
  obtain rfl:=hy.bool_of
  refine call_int_bool (hQ.tok D ?_ hp _)
  induction b using Bool.casesOn <;> exact .p (.int _ _)
theorem wu {f:Int->Int->V} {R:V->Prop} {vs:List V} (h:∀ a b,vs=[.p (.int a),.p (.int b)]->R (f a b)):OptP R (match (generalizing:=false) vs with | [.p (.int a),.p (.int b)]=>some (f a b) | _=>none):=by
 induction vs using List.casesOn with
 | nil=>trivial
 | cons v r=>induction v using V.casesOn with
  | ref=>trivial
  | p x=>induction x using P.casesOn with
   | int a=>induction r using List.casesOn with
    | nil=>trivial
    | cons u r=>induction u using V.casesOn with
     | ref=>trivial
     | p y=>induction y using P.casesOn with
      | int b=>induction r using List.casesOn with
       | nil=>exact h a b rfl
       | cons=>trivial
      | _=>trivial
   | _=>trivial
theorem Mw (X:Sx T w K lz mn mg mb e env g A) (D:Dx T w e env g U m led F S σ) (hv:Each (VR T F U S.n) vs xs) (h:az1 vs=some v) (hp:C v S) (hQ:PostE T w e env g F U S.n σ C Q):wpAny (model PG w) A (call (.builtin "max") xs) Q E σ:=by
 obtain ⟨a,b,rfl,rfl⟩:=OptP.get (R:=fun z:V=>∃ a b,vs=[.p (.int a),.p (.int b)]/\z = .p (.int (cnd (decide (a<b)) b a))) (wu (f:=fun a b=>.p (.int (cnd (decide (a<b)) b a))) fun a b e=>⟨a,b,e,rfl⟩) h
 obtain ⟨y,z,rfl,hy,hz⟩:=hv.two
 obtain ⟨t,rfl⟩:=hy.int_of
 obtain ⟨u,rfl⟩:=hz.int_of
 refine max_two_ints X.hand fun h' tk hk=>hQ F U m led h' tk _ _ S (Ext.refl _ _ _) (D.kept hk) ?_ hp
 by_cases q:a<b
 ·rw [if_pos (show b > a from q),decide_eq_true q];exact .p (.int _ _)
 ·rw [if_neg (show ¬ b > a from q),decide_eq_false q];exact .p (.int _ _)
theorem Mx (X:Sx T w K lz mn mg mb e env g A) (D:Dx T w e env g U m led F S σ) (hv:Each (VR T F U S.n) vs xs) (h:az2 vs=some v) (hp:C v S) (hQ:PostE T w e env g F U S.n σ C Q):wpAny (model PG w) A (call (.builtin "min") xs) Q E σ:=by
 obtain ⟨a,b,rfl,rfl⟩:=OptP.get (R:=fun z:V=>∃ a b,vs=[.p (.int a),.p (.int b)]/\z = .p (.int (cnd (decide (b<a)) b a))) (wu (f:=fun a b=>.p (.int (cnd (decide (b<a)) b a))) fun a b e=>⟨a,b,e,rfl⟩) h
 obtain ⟨y,z,rfl,hy,hz⟩:=hv.two
 obtain ⟨t,rfl⟩:=hy.int_of
 obtain ⟨u,rfl⟩:=hz.int_of
 refine min_two_ints X.hand fun h' tk hk=>hQ F U m led h' tk _ _ S (Ext.refl _ _ _) (D.kept hk) ?_ hp
 by_cases q:b<a
 ·rw [if_pos q,decide_eq_true q];exact .p (.int _ _)
 ·rw [if_neg q,decide_eq_false q];exact .p (.int _ _)
theorem ww {a Cx Dc dx:Addr} (X:Sx T w K lz mn mg mb e env g A) (D:Dx T w e env g U m led F S σ) (ho:σ.heap.get? a=some (instObj Dc dx)) (hi:isIn K (.ref Dc) Cx=true) (hq:Q (.bool true) σ):wpAny (model PG w) A (call (.builtin "isinstance") [.ref a,.ref Cx]) Q E σ :=
 isi_call (t:=.ref Dc) (X.kin.keeps D.fr.keep) (fun M=>(Looks.ld (part:=none) ho).andThen .now) hi (fun q=>(by contradiction)) hq
theorem Hj (vs:List V) (s:St):OptP (fun z=>(∃ x t b,vs=[.p x,.p t]/\ja x t=some b/\z = .p (.bool b)) \/ ∃ k c d dn,vs=[.ref k,.p (.cls c)]/\s.h.get k=some (.inst d dn)/\jz 4 d c=true/\z = .p (.bool true)) (Xq vs s):=by
 induction vs using List.casesOn with
 | nil=>trivial
 | cons v r=>induction r using List.casesOn with
  | nil=>induction v using V.casesOn <;> trivial
  | cons u r=>induction v using V.casesOn with
   | p x=>induction u using V.casesOn with
    | ref=>trivial
    | p t=>induction r using List.casesOn with
     | cons=>trivial
     | nil =>
      show OptP _ ((ja x t).map fun b=>V.p (.bool b))
      induction h:ja x t using Option.casesOn with
      | none=>trivial
      | some b=>exact .inl ⟨x,t,b,rfl,h,rfl⟩
   | ref k=>induction u using V.casesOn with
    | ref=>trivial
    | p t=>induction t using P.casesOn with
     | cls c=>induction r using List.casesOn with
      | cons=>trivial
      | nil =>
       show OptP _ (match s.h.get k with | some (.inst d _)=>(match jz 4 d c with | true=>some (V.p (.bool true)) | false=>none) | _=>none)
       induction hg:s.h.get k using Option.casesOn with
       | none=>trivial
       | some o=>induction o using VO.casesOn with
        | inst d dn=>exact OptP.ifb fun h=>.inr ⟨k,c,d,dn,rfl,hg,h,rfl⟩
        | _=>trivial
     | _=>trivial
theorem zb (x t:P):OptP (fun b=>(t = .bi "int" /\ ((∃ i,x = .int i)/\b=true\/(∃ i,x = .str i)/\b=false\/x = .none/\b=false)) \/ ∃ c d es,t = .cls c/\x = .obj d es/\jz 4 d c=true/\b=true) (ja x t):=by
 induction t using P.casesOn with
 | bi n =>
  show OptP _ (match seq n "int" with | true=>(match x with | .int _=>some true | .str _=>some false | .none=>some false | _=>none) | false=>none)
  induction hs:seq n "int" using Bool.casesOn with
  | false=>trivial
  | true =>
   induction x using P.casesOn with
   | int i=>exact .inl ⟨by rw [seq_iff.mp hs],.inl ⟨⟨i,rfl⟩,rfl⟩⟩
   | str i=>exact .inl ⟨by rw [seq_iff.mp hs],.inr (.inl ⟨⟨i,rfl⟩,rfl⟩)⟩
   | none=>exact .inl ⟨by rw [seq_iff.mp hs],.inr (.inr ⟨rfl,rfl⟩)⟩
   | _=>trivial
 | cls c=>induction x using P.casesOn with
  | obj d es =>
   show OptP _ (match jz 4 d c with | true=>some true | false=>none)
   induction hs:jz 4 d c using Bool.casesOn with
   | false=>trivial
   | true=>exact .inr ⟨c,d,es,rfl,rfl,hs,rfl⟩
  | _=>trivial
 | _=>trivial
theorem My (X:Sx T w K lz mn mg mb e env g A) (D:Dx T w e env g U m led F S σ) (hv:Each (VR T F U S.n) vs xs) (h:Xq vs S=some v) (hp:C v S) (hQ:PostE T w e env g F U S.n σ C Q):wpAny (model PG w) A (call (.builtin "isinstance") xs) Q E σ:=by
 refine bc fun hG=>?_
 rcases (Hj vs S).get h with ⟨x,t,b,rfl,hb,rfl⟩ | ⟨k,c,d,dn,rfl,hg,hs,rfl⟩
 ·obtain ⟨y,z,rfl,hy,hz⟩:=hv.two
  have hz:=hz.pure.inv
  have hy:=hy.pure.inv
  rcases (zb x t).get hb with ⟨rfl,hw⟩ | ⟨c,d,es,rfl,rfl,hs,rfl⟩
  ·obtain rfl:=Option.some.inj (bb_int.symm.trans hz)
   rcases hw with ⟨⟨i,rfl⟩,rfl⟩ | ⟨⟨i,rfl⟩,rfl⟩ | ⟨rfl,rfl⟩
   ·obtain ⟨_,rfl⟩:=hy;exact hG (IsiPair.int_int (hQ.here D (.p (.bool _)) hp))
   ·obtain ⟨_,rfl⟩:=hy;exact hG (IsiPair.str_int (hQ.tok D (.p (.bool _)) hp _))
   ·obtain rfl:=hy;exact hG (IsiPair.NoneType_int (hQ.tok D (.p (.bool _)) hp _))
  ·obtain ⟨_,rfl,hc⟩:=hz
   obtain ⟨_,_,_,_,_,rfl,hd,hF,_⟩:=hy
   exact hG (ww X D (D.frz hF) (X.tx.isas _ _ _ _ hd hc hs) (hQ.here D (.p (.bool _)) hp))
 ·obtain ⟨y,z,rfl,hy,hz⟩:=hv.two
  obtain ⟨_,rfl,hc⟩:=hz.pure.inv
  obtain ⟨hk,rfl⟩:=hy.inv
  obtain ⟨ob,hob,hor⟩:=D.rel.obj k _ hg
  obtain ⟨_,rfl,hd,_⟩:=hor.inv
  exact hG (ww X D (D.at hob) (X.tx.isas _ _ _ _ hd hc hs) (hQ.here D (.p (.bool _)) hp))
theorem zc (vs:List V):OptP (fun z=>(∃ b,vs=[.p (.int b)]/\z = .p (.rng 0 b)) \/ ∃ a b,vs=[.p (.int a),.p (.int b)]/\z = .p (.rng a b)) (Ap vs):=by
 induction vs using List.casesOn with
 | nil=>trivial
 | cons v r=>induction v using V.casesOn with
  | ref=>trivial
  | p x=>induction x using P.casesOn with
   | int a=>induction r using List.casesOn with
    | nil=>exact .inl ⟨a,rfl,rfl⟩
    | cons u r=>induction u using V.casesOn with
     | ref=>trivial
     | p y=>induction y using P.casesOn with
      | int b=>induction r using List.casesOn with
       | nil=>exact .inr ⟨a,b,rfl,rfl⟩
       | cons=>trivial
      | _=>trivial
   | _=>trivial
theorem Ci (D:Dx T w e env g U m led F S σ) (hv:Each (VR T F U S.n) vs xs) (h:Ap vs=some v) (hp:C v S) (hQ:PostE T w e env g F U S.n σ C Q):wpAny (model PG w) A (call (.type "range") xs) Q E σ:=by
 rcases (zc vs).get h with ⟨b,rfl,rfl⟩ | ⟨a,b,rfl,rfl⟩
 ·obtain ⟨y,rfl,hy⟩:=hv.one
  obtain ⟨t,rfl⟩:=hy.int_of
  exact call_range_1 (hQ.frz D (D.fr.push _) (News.push D.fr D.nw _) (fun p hp=>D.lt p hp) (.rng (.head _)) hp)
 ·obtain ⟨y,z,rfl,hy,hz⟩:=hv.two
  obtain ⟨t,rfl⟩:=hy.int_of
  obtain ⟨u,rfl⟩:=hz.int_of
  exact call_range_2 (hQ.frz D (D.fr.push _) (News.push D.fr D.nw _) (fun p hp=>D.lt p hp) (.rng (.head _)) hp)
theorem Cj (vs:List V):OptP (fun z=>∃ b,vs=[.p (.bool b)]/\z = .p (.bool b)) (Lx vs):=by
 induction vs using List.casesOn with
 | nil=>trivial
 | cons v r=>induction v using V.casesOn with
  | ref=>trivial
  | p x=>induction x using P.casesOn with
   | bool b=>induction r using List.casesOn with
    | nil=>exact ⟨b,rfl,rfl⟩
    | cons=>trivial
   | _=>trivial
theorem Hk (D:Dx T w e env g U m led F S σ) (hv:Each (VR T F U S.n) vs xs) (h:Lx vs=some v) (hp:C v S) (hQ:PostE T w e env g F U S.n σ C Q):wpAny (model PG w) A (call (.type "bool") xs) Q E σ:=by
 refine bc fun hG=>?_
 obtain ⟨b,rfl,rfl⟩:=(Cj vs).get h
 obtain ⟨y,rfl,hy⟩:=hv.one
 obtain rfl:=hy.bool_of
 refine hG ?_
 exact call_bool_bool (hQ.here D hy hp)
theorem zd (vs:List V):OptP (fun z=>(∃ l,vs=[.p (.lst l)]/\z = .p (.tup l)) \/ ∃ l,vs=[.p (.tup l)]/\z = .p (.tup l)) (Aq vs):=by
 induction vs using List.casesOn with
 | nil=>trivial
 | cons v r=>induction v using V.casesOn with
  | ref=>trivial
  | p x=>induction x using P.casesOn with
   | lst b=>induction r using List.casesOn with
    | nil=>exact .inl ⟨b,rfl,rfl⟩
    | cons=>trivial
   | tup b=>induction r using List.casesOn with
    | nil=>exact .inr ⟨b,rfl,rfl⟩
    | cons=>trivial
   | _=>trivial
theorem Ck (D:Dx T w e env g U m led F S σ) (hv:Each (VR T F U S.n) vs xs) (h:Aq vs=some v) (hp:C v S) (hQ:PostE T w e env g F U S.n σ C Q):wpAny (model PG w) A (call (.type "tuple") xs) Q E σ:=by
 have hs:=ao
 rcases (zd vs).get h with ⟨ps,rfl,rfl⟩ | ⟨ps,rfl,rfl⟩
 ·obtain ⟨y,rfl,hy⟩:=hv.one
  obtain ⟨ys,a,ee,rfl,hF,hps,hl⟩:=hy.pure.inv
  refine call_tuple_list ⟨_,D.frz hF,rfl,_,rfl⟩ (fun h' hk=>?_) (Nat.le_trans (by rw [List.size_toArray];exact hl) hs)
  have D':=D.kept (t:=σ.toks) hk
  exact (hQ.on (h':=h') (t':=σ.toks) (Ext.refl _ _ _)).frz D' (D'.fr.push _) (News.push D'.fr D'.nw _) (fun p hp=>D'.lt p hp) (.tup (.head _) (hps.mono fun _ h _=>.tail _ h) hl) hp
 ·obtain ⟨y,rfl,hy⟩:=hv.one
  obtain ⟨ys,a,rfl,hF,hps,hl⟩:=hy.pure.inv
  exact call_tuple_same ⟨_,D.frz hF,rfl,_,rfl⟩ (hQ.here D (.p (.tup hF hps hl)) hp)
theorem OptP.sq {R:V->Prop} {n l:Str} {a b:Option V} (h1:n=l->OptP R a) (h2:OptP R b):OptP R (match seq n l with | true=>a | false=>b):=by
 induction h:seq n l using Bool.casesOn with
 | true=>exact h1 (seq_iff.mp h)
 | false=>exact h2
theorem ze {n:Str} {fv:Value} (X:Sx T w K lz mn mg mb e env g A) (D:Dx T w e env g U m led F S σ) (hf:bootBuiltins n=some fv) (hv:Each (VR T F U S.n) vs xs) (h:builtin n vs S=some v) (hp:C v S) (hQ:PostE T w e env g F U S.n σ C Q):wpAny (model PG w) A (call fv xs) Q E σ:=by
 have at':∀ {l:Str} {f:Value},bootBuiltins l=some f->n=l->f=fv:=fun h1 h2=>Option.some.inj (h1.symm.trans (h2 ▸ hf))
 exact OptP.get (R:=fun v=>C v S->wpAny (model PG w) A (call fv xs) Q E σ)
  (OptP.sq (fun q=>at' R4 q ▸ .of fun z h hp=>Mu D hv h hp hQ) <| OptP.sq (fun q=>at' bb_int q ▸ .of fun z h hp=>Mv D hv h hp hQ) <| OptP.sq (fun q=>at' R5 q ▸ .of fun z h hp=>Mw X D hv h hp hQ) <|
  OptP.sq (fun q=>at' R6 q ▸ .of fun z h hp=>Mx X D hv h hp hQ) <| OptP.sq (fun q=>at' R7 q ▸ .of fun z h hp=>My X D hv h hp hQ) <| OptP.sq (fun q=>at' Hf q ▸ .of fun z h hp=>Ci D hv h hp hQ) <|
  OptP.sq (fun q=>at' Mt q ▸ .of fun z h hp=>Hk D hv h hp hQ) <| OptP.sq (fun q=>at' Hg q ▸ .of fun z h hp=>Ck D hv h hp hQ) (b:=none) trivial) h hp
end
end Mine
end
section
open PySem PySem.W PySem.Spec PySem.Calls PyProof.Rows PySem.SeqAt
namespace Mine
theorem plain_any {env:Env} {pos:Pos}:∀ {as:List Expr},aw as=true->(backTo pos (starEach as env)).any (·.1)=false:=by
 intro l0
 induction l0 with
 | nil =>
  intro _
  exact rfl
 | cons a as ih =>
  intro h
  induction a using Expr.casesOn with
  | Starred=>injection h
  | _=>exact ih h
theorem plain_all {env:Env} {pos:Pos} {as:List Expr} (h:aw as=true):(backTo pos (starEach as env)).all (fun x => !x.1)=true:=by
 have:=plain_any (env:=env) (pos:=pos) h
 rw [List.any_eq_false] at this
 rw [List.all_eq_true]
 intro x hx
 have:=this x hx
 simpa using this
theorem Cm {a:Expr} {as:List Expr} {env:Env} (h:aw (a::as)=true):starEach (a::as) env=(false,eval a env)::starEach as env:=by
 induction a using Expr.casesOn with
 | Starred=>injection h
 | _=>rfl
noncomputable def Keeps (M:Model) (v:Value) (h:Heap):Prop:=∃ k,(k=Keeper.frame\/k=Keeper.machine\/k=Keeper.boundFrame)/\Looks M h (keeperOf v) k
section
variable {T:Pl} {w:World} {K:Frag} {lz:List Str} {mn:ExcName->Option Value} {mg mb:Str->Option Value} {r:H Prop} {O:Known Prop} {e:En} {env:Env} {g:Heap} {A:Around} {F:Led} {U:Nat->Addr} {m:Str->Option Value} {led:Led} {S S':St} {σ:Shared}
 {E:Value->Shared->Prop} {v:V} {vs:List V} {xs:List Value} {C:V->St->Prop} {Q:Value->Shared->Prop}
theorem kn (Z:Snd T w K lz mn mg mb r) (X:Sx T w K lz mn mg mb e env g A) (D:Dx T w e env g U m led F S σ) {fv:Value} {first:List Value} {pos:Pos} {as:List Expr} {C:List V->St->Prop} (hs:aw as=true) (h:vz r e as S C)
  (hQ:PostL T w e env g F U S.n σ C (fun vs s=>Keeps (model PG w) fv s.heap/\wpAny (model PG w) A (call fv (first++vs)) Q E s)):wpAny (model PG w) A (callWith pos fv first (backTo pos (starEach as env)) (backToKw pos (keywordEach [] env))) Q E σ:=by
 show wpAny (model PG w) A (callWith pos fv first (backTo pos (starEach as env)) []) Q E σ
 refine callWith_of (P:=Keeps (model PG w) fv) (by rw [plain_any hs];rfl) (fun h p=>p) ?_
 induction as using List.casesOn with
 | nil =>
  have z:=hQ F U m led σ.heap σ.toks [] [] S (Ext.refl _ _ _) D .nil h
  exact evalArgs_nil3 z
 | cons a as =>
  have z:=Z.es (pos:=pos) (E:=E) X D h hQ
  rw [Cm hs] at z ⊢
  exact evalArgs_plain z
theorem c8 {fv:Value} (h:∀ a,fv ≠ .ref a) {M:Model} {hp:Heap}:Keeps M fv hp:=by
 refine ⟨.machine,.inr (.inl rfl),Looks.of_pure ?_⟩
 induction fv using Value.casesOn <;> first | rfl | exact absurd rfl (h _)
noncomputable def noRef (n:Str):Bool:=match bootBuiltins n with
 | some (.ref _)=>false
 | _=>true
theorem Cn:calN.all noRef=true:=by kernel_rfl
theorem Hl {n:Str} {v:Value} (h:calN.any (seq n)=true) (hv:bootBuiltins n=some v) (a:Addr):v ≠ .ref a:=fun e=>by
 obtain ⟨y,hy,hs⟩:=List.any_eq_true.mp h
 have:=List.all_eq_true.mp Cn y hy
 dsimp only [noRef] at this
 rw [← (seq_iff.mp hs:n=y),hv,e] at this
 exact Bool.noConfusion this
theorem zf (D:Dx T w e env g U m led F S σ) {k:Nat} (h:(match S.h.get k with | some (.clos ..)=>true | _=>false)=true):Keeps (model PG w) (.ref (U k)) σ.heap:=by
 induction hg:S.h.get k using Option.casesOn with
 | none=>rw [hg] at h;exact Bool.noConfusion h
 | some o =>
  rw [hg] at h
  induction o using VO.casesOn with
  | clos =>
   obtain ⟨ob,hob,hor⟩:=D.rel.obj k _ hg
   obtain ⟨_,_,_,_,_,_,_,_,_,rfl,_⟩:=hor.inv
   exact keeps_F _ ⟨_,_,_,_,D.at hob⟩
  | _=>exact Bool.noConfusion h
theorem l6 (X:Sx T w K lz mn mg mb e env g A) (D:Dx T w e env g U m led F S σ) {f:V} {fv:Value} {F0:Led} {ρ0:Nat->Addr} {n0:Nat} (hf:VR T F U S.n f fv) (h:callable f S=true):Keeps (model PG w) fv σ.heap:=by
 induction f using V.casesOn with
 | ref k =>
  obtain ⟨_,rfl⟩:=hf.inv
  exact zf D h
 | p x =>
  have hf:=hf.pure.inv
  induction x using P.casesOn with
  | fn=>obtain ⟨_,rfl,q⟩:=hf;exact keeps_K (X.tx.keepF _ _ _ q) _ (X.kin.keeps D.fr.keep)
  | cls=>obtain ⟨_,rfl,q⟩:=hf;exact keeps_K (X.tx.keepC _ _ q) _ (X.kin.keeps D.fr.keep)
  | bi n=>exact c8 (Hl h hf)
  | _=>exact Bool.noConfusion h
theorem Hm {f:Expr} {as:List Expr} {pos:Pos} (h:∀ o a p,f ≠ .Attribute o a p):eval (.Call f as [] pos) env=(do callWith pos (← eval f env) [] (backTo pos (starEach as env)) (backToKw pos (keywordEach [] env))):=by
 induction f using Expr.casesOn <;> first | rfl | exact absurd rfl (h _ _ _)
theorem Hn (Z:Snd T w K lz mn mg mb r) (X:Sx T w K lz mn mg mb e env g A) (D:Dx T w e env g U m led F S σ) {f:Expr} {as:List Expr} {pos:Pos} (hna:∀ o a p,f ≠ .Attribute o a p)
  (h:cnd (aw as) (r.e e f S fun fv s=>vz r e as s fun vs s=>cnd (callable fv s) (r.call e.d fv vs s C) False) False) (hQ:PostE T w e env g F U S.n σ C Q):wpAny (model PG w) A (eval (.Call f as [] pos) env) Q E σ:=by
 obtain ⟨hs,h⟩:=ab h
 rw [Hm hna]
 refine wpAny_bind (Z.e X D h fun F1 ρ1 m1 led1 h1 t1 fv y S1 x1 D1 hf hp=>?_)
 refine kn Z X D1 hs hp fun F2 ρ2 m2 led2 h2 t2 vs ys S2 x2 D2 hvs hp2=>?_
 obtain ⟨hc,hp2⟩:=ab hp2
 have hf2:=x2.vr hf
 refine ⟨l6 (F0:=F) (ρ0:=U) (n0:=0) X D2 hf2 hc,?_⟩
 exact Z.call X D2 hf2 hvs hp2 (hQ.on (x1.trans x2))
theorem Co {o:Option VO} {R:Arguments->List Stmt->Scope->List (Str×Nat)->Prop} (h:match o with | some (.clos _ args body sc cl)=>R args body sc cl | _=>False):∃ name args body sc cl,o=some (.clos name args body sc cl)/\R args body sc cl:=by
 induction o using Option.casesOn with
 | none=>exact h.elim
 | some o=>induction o using VO.casesOn with
  | clos name args body sc cl=>exact ⟨name,args,body,sc,cl,rfl,h⟩
  | _=>exact h.elim
theorem Cp (N:KnownOK T w K lz mn mg mb O) (Z:Snd T w K lz mn mg mb r) (X:Sx T w K lz mn mg mb e env g A) (D:Dx T w e env g U m led F S σ) {c mm:Str} {fv:Value} (hf:PR T F (.fn c mm) fv) (hv:Each (VR T F U S.n) vs xs) (h:mi False O r e.d (.p (.fn c mm)) vs S C) (hQ:PostE T w e env g F U S.n σ C Q) :
  wpAny (model PG w) A (PySem.call fv xs) Q E σ:=by
 delta mi at h
 dsimp only at h
 induction hne:seq mm noStr using Bool.casesOn with
 | true=>exact (hne ▸ h).elim
 | false =>
  rw [hne] at h
  dsimp only at h
  induction hC:O.call c mm using Option.casesOn with
  | some C'=>rw [hC] at h;exact N.call c mm C' hC X D (by rw [if_neg (jc hne)]) hf hv h hQ
  | none =>
   rw [hC] at h
   obtain ⟨a,rfl,ha⟩:=hf.inv
   exact wpAny_call (rb Z X D ha hv h fun F' ρ' m' led' h' t' v x S' x' D' hv' hp=>hQ F' ρ' m' led' h' t' v x S' x' D' hv' hp)
theorem Mz {o:Option P} {k:Str->Str->Prop} (h:match o with | some (.fn c' m')=>k c' m' | _=>False):∃ c' m',o=some (.fn c' m')/\k c' m':=by
 induction o using Option.casesOn with
 | none=>exact False.elim h
 | some x=>induction x using P.casesOn with
  | fn c' m'=>exact ⟨c',m',rfl,h⟩
  | _=>exact False.elim h
theorem zg (N:KnownOK T w K lz mn mg mb O) (Z:Snd T w K lz mn mg mb r) (X:Sx T w K lz mn mg mb e env g A) (D:Dx T w e env g U m led F S σ) {c:Str} {fv:Value} (hf:PR T F (.cls c) fv) (hv:Each (VR T F U S.n) vs xs) (h:mi False O r e.d (.p (.cls c)) vs S C) (hQ:PostE T w e env g F U S.n σ C Q) :
  wpAny (model PG w) A (PySem.call fv xs) Q E σ:=by
 unfold mi at h
 dsimp only at h
 induction hC:O.call c noStr using Option.casesOn with
 | some C'=>rw [hC] at h;exact N.call c noStr C' hC X D (by rw [if_pos rfl]) hf hv h hQ
 | none =>
  rw [hC] at h
  dsimp only at h
  obtain ⟨c',m',hm,h⟩:=Mz h
  rcases az h with ⟨_,q⟩ | ⟨hd,h⟩
  ·exact q.elim
  ·obtain ⟨a,rfl,hc⟩:=hf.inv
   exact wpAny_call (za Z X D hc hv hm hd h fun F' ρ' m' led' h' t' v x S' x' D' hv' hp=>hQ F' ρ' m' led' h' t' v x S' x' D' hv' hp)
theorem Cq (N:KnownOK T w K lz mn mg mb O) (Z:Snd T w K lz mn mg mb r) (X:Sx T w K lz mn mg mb e env g A) (D:Dx T w e env g U m led F S σ) {f:V} {fv:Value} (hf:VR T F U S.n f fv) (hv:Each (VR T F U S.n) vs xs) (h:mi False O r e.d f vs S C) (hQ:PostE T w e env g F U S.n σ C Q) :
  wpAny (model PG w) A (PySem.call fv xs) Q E σ:=by
 induction f using V.casesOn with
 | ref k =>
  obtain ⟨_,rfl⟩:=hf.inv
  obtain ⟨name,args,body,sc,cl,hg,h⟩:=Co (R:=fun args body sc cl=>enter False r e.d 0 none false args body sc cl vs S C) h
  exact wpAny_call (ux Z X D hg hv h fun F' ρ' m' led' h' t' v x S' x' D' hv' hp=>hQ F' ρ' m' led' h' t' v x S' x' D' hv' hp)
 | p x =>
  have hf:=hf.pure
  induction x using P.casesOn with
  | fn c mm=>exact Cp N Z X D hf hv h hQ
  | cls c=>exact zg N Z X D hf hv h hQ
  | bi n =>
   obtain ⟨u,hu,hp⟩:=ac h
   exact ze X D hf.inv hv hu hp hQ
  | _=>exact h.elim
end
end Mine
end
section
open PySem PySem.W PySem.Spec PySem.Calls PyProof.Rows PySem.SeqAt
set_option tactic.hygienic false
namespace Mine
theorem Ho (c:Nat):Xi c=lo1 c:=by
 delta Xi lo1
 by_cases h1:65<=c <;> by_cases h2:c<=90
 ·rw [if_pos ⟨h1,h2⟩,Nat.ble_eq_true_of_le h1,Nat.ble_eq_true_of_le h2]
 ·rw [if_neg (fun h=>h2 h.2)]
  have:Nat.ble c 90=false:=by induction q:Nat.ble c 90 using Bool.casesOn with | false=>rfl | true=>exact absurd (Nat.le_of_ble_eq_true q) h2
  rw [this];induction Nat.ble 65 c using Bool.casesOn <;> rfl
 ·rw [if_neg (fun h=>h1 h.1)]
  have:Nat.ble 65 c=false:=by induction q:Nat.ble 65 c using Bool.casesOn with | false=>rfl | true=>exact absurd (Nat.le_of_ble_eq_true q) h1
  rw [this]
 ·rw [if_neg (fun h=>h1 h.1)]
  have:Nat.ble 65 c=false:=by induction q:Nat.ble 65 c using Bool.casesOn with | false=>rfl | true=>exact absurd (Nat.le_of_ble_eq_true q) h1
  rw [this]
theorem uy {x:Str} (h:plainS x=true):Txt.lower x=Q2 x/\x.length<=2000:=by
 delta plainS at h
 split at h
 ·rename_i hf
  refine ⟨?_,bt hf⟩
  rw [lower_ascii fun c hc=>?_]
  ·delta Q2
   congr 1
   congr 1
   funext c
   exact (Ho c).symm
  ·have:=Array.all_eq_true'.mp h c (by simpa using hc)
   exact Nat.lt_of_succ_le (Nat.le_of_ble_eq_true this)
 ·injection h
inductive MeR (T:Pl):Me->V->Value->Prop
 | low (x:Str):MeR T (.low x) (.p (.str x)) (.builtin "str.lower")
 | own {c m:Str} {a:Addr} {ov:V}:T.fa c m=some a->MeR T (.own c m) ov (.ref a)
 | app (k:Nat):MeR T (.app k) (.ref k) (.builtin "list.append")
 | get (k:Nat):MeR T (.get k) (.ref k) (.builtin "dict.get")
section
variable {T:Pl} {w:World} {K:Frag} {lz:List Str} {mn:ExcName->Option Value} {mg mb:Str->Option Value} {r:H Prop} {O:Known Prop} {e:En} {env:Env} {g:Heap} {A:Around} {F:Led} {U:Nat->Addr} {m:Str->Option Value} {led:Led} {S S':St} {σ:Shared}
 {E:Value->Shared->Prop} {v:V} {vs:List V} {xs:List Value} {C:V->St->Prop} {Q:Value->Shared->Prop}
theorem rc {α:Type} {R:α->Value->Prop} {a:Str} {es:List (Str×α)} {ds:List DictEntry} (h:Each (fun p d=>(∃ t,d.key=Value.str p.1 t)/\R p.2 d.val) es ds) (e:look a es=none):getL a ds=some none:=by
 have:=tu (a:=a) h
 rw [e] at this;exact this
theorem R8 {n:Nat} {xs:List P} {ys:List Value} (h:Each (PR T F) xs ys):Each (VR T F U n) (asV xs) ys:=by
 induction h with
 | nil=>exact .nil
 | cons h _ ih=>exact .cons (.p h) ih
theorem Cr {α:Type} {es:Option α} {c m:Str} {me:Me} (h:jb es c m=some me):es=none /\ ∃ c' m',cz 3 c m=some (.fn c' m')/\me = .own c' m':=by
 induction es using Option.casesOn with
 | some=>exact nos h
 | none =>
 delta jb at h
 induction q:cz 3 c m using Option.casesOn with
 | none=>rw [q] at h;exact nos h
 | some x =>
  rw [q] at h
  induction x using P.casesOn with
  | fn c' m'=>obtain rfl:=Option.some.inj h;exact ⟨rfl,c',m',rfl,rfl⟩
  | _=>exact nos h
theorem Ku (X:Sx T w K lz mn mg mb e env g A) (D:Dx T w e env g U m led F S σ) {ov:V} {a C dx:Addr} {ds:List DictEntry} {n:Nat} {c mm:Str} {me:Me} {pl:Sem Bool} {α:Type} {es:Option α} (hc:T.ca c=some C) (ho:σ.heap.get? a=some (instObj C dx)) (hd:σ.heap.get? dx=some (dictOf ds n))
  (h:jb es c mm=some me) (hl:es=none->getL mm ds=some none) {Q:Value×List Value->Shared->Prop} (hQ:∀ f,MeR T me ov f->Keeps (model PG w) f σ.heap->Q (f,[.ref a]) σ):wpAny (model PG w) A (getMethod (.ref a) mm pl) Q E σ:=by
 refine bc fun hG=>?_
 obtain ⟨h1,c',m',hm,rfl⟩:=Cr h
 obtain ⟨f,hf,hp,hfi,hfn⟩:=X.tx.meths _ _ _ _ _ hc hm
 refine hG ?_
 exact method_inst D.fr X.kin ⟨ho,rfl,rfl,hd⟩ hp hfi hfn (hl h1) (hQ _ (.own hf) (keeps_K (X.tx.keepF _ _ _ hf) _ (X.kin.keeps D.fr.keep)))
noncomputable def R9 (k:Nat) (mm:Str) (S:St) (me:Me):Prop :=
 (∃ c d es,S.h.get k=some (.inst c d)/\S.h.get d=some (.ns es)/\jb (look mm es) c mm=some me)\/(mm = "append" /\ me = .app k/\((∃ l,S.h.get k=some (.list l)) \/ ∃ l,S.h.get k=some (.listV l))) \/ ∃ es,S.h.get k=some (.dicti es)/\mm = "get" /\ me = .get k
theorem sqm {R:Me->Prop} {n l:Str} {x:Me} (h:n=l->R x):OptP R (match seq n l with | true=>some x | false=>none):=by
 induction q:seq n l using Bool.casesOn with
 | true=>exact h (seq_iff.mp q)
 | false=>trivial
theorem Hp (k:Nat) (mm:Str) (S:St):OptP (R9 k mm S) (Un (.ref k) mm S):=by
 show OptP _ (match S.h.get k with
  | some (.inst c d)=>(match S.h.get d with
   | some (.ns es)=>jb (look mm es) c mm
   | _=>none)
  | some (.list _)=>(match seq mm "append" with | true=>some (.app k) | false=>none)
  | some (.listV _)=>(match seq mm "append" with | true=>some (.app k) | false=>none)
  | some (.dicti _)=>(match seq mm "get" with | true=>some (.get k) | false=>none)
  | _=>none)
 induction hg:S.h.get k using Option.casesOn with
 | none=>trivial
 | some o=>induction o using VO.casesOn with
  | inst c d =>
   dsimp only
   induction hg':S.h.get d using Option.casesOn with
   | none=>trivial
   | some o'=>induction o' using VO.casesOn with
    | ns es=>exact .of fun z h=>.inl ⟨c,d,es,hg,hg',h⟩
    | _=>trivial
  | list l=>exact sqm fun q=>.inr (.inl ⟨q,rfl,.inl ⟨l,hg⟩⟩)
  | listV l=>exact sqm fun q=>.inr (.inl ⟨q,rfl,.inr ⟨l,hg⟩⟩)
  | dicti l=>exact sqm fun q=>.inr (.inr ⟨l,hg,q,rfl⟩)
  | _=>trivial
theorem Cs (x:P) (mm:Str) (S:St):OptP (fun me=>(∃ s,x = .str s/\mm = "lower" /\ me = .low s) \/ ∃ c es,x = .obj c es/\jb (look mm es) c mm=some me) (Un (.p x) mm S):=by
 induction x using P.casesOn with
 | str s=>exact sqm fun q=>.inl ⟨s,rfl,q,rfl⟩
 | obj c es=>exact .of fun z h=>.inr ⟨c,es,rfl,h⟩
 | _=>trivial
theorem M0 (X:Sx T w K lz mn mg mb e env g A) (D:Dx T w e env g U m led F S σ) {ov:V} {fv:Value} {mm:Str} {me:Me} {pl:Sem Bool} (hv:VR T F U S.n ov fv) (h:Un ov mm S=some me) {Q:Value×List Value->Shared->Prop} (hQ:∀ f,MeR T me ov f->Keeps (model PG w) f σ.heap->Q (f,[fv]) σ) :
  wpAny (model PG w) A (getMethod fv mm pl) Q E σ:=by
 refine bc fun hG=>?_
 induction ov using V.casesOn with
 | p x =>
  have hv:=hv.pure.inv
  rcases (Cs x mm S).get h with ⟨s,rfl,rfl,rfl⟩ | ⟨c,es,rfl,h⟩
  ·obtain ⟨t,rfl⟩:=hv
   exact hG (GM.lower (hQ _ (.low s) (c8 fun a h=>Value.noConfusion h)))
  ·obtain ⟨_,_,_,_,_,rfl,hd,hF,hdict,hds,hn⟩:=hv
   exact hG (Ku X D hd (D.frz hF) (D.frz hdict) h (fun q=>rc hn.each q) hQ)
 | ref k =>
  obtain ⟨hk,rfl⟩:=hv.inv
  rcases (Hp k mm S).get h with ⟨c,d,es,hg,hg',h⟩ | ⟨rfl,rfl,hg⟩ | ⟨es,hg,rfl,rfl⟩
  ·obtain ⟨ob,hob,hor⟩:=D.rel.obj _ _ hg
   obtain ⟨ob',hob',hor'⟩:=D.rel.obj _ _ hg'
   obtain ⟨_,rfl,hca,hd⟩:=hor.inv
   obtain ⟨_,_,rfl,hn,hl⟩:=hor'.inv
   exact hG (Ku X D hca (D.at hob) (D.at hob') h (fun q=>rc hn q) hQ)
  ·have hob:∃ vs n,(U k,listOf vs n)∈led:=by
    rcases hg with ⟨l,hg⟩ | ⟨l,hg⟩
    ·obtain ⟨ob,hob,hor⟩:=D.rel.obj _ _ hg
     obtain ⟨_,_,rfl,_⟩:=hor.inv
     exact ⟨_,_,hob⟩
    ·obtain ⟨ob,hob,hor⟩:=D.rel.obj _ _ hg
     obtain ⟨_,_,rfl,_⟩:=hor.inv
     exact ⟨_,_,hob⟩
   obtain ⟨_,_,hob⟩:=hob
   exact hG (listMethod_K D.nw (List.mem_append_left _ hob) PySem.F.slot_list_append PySem.F.type_list_append (hQ _ (.app k) (c8 fun a h=>Value.noConfusion h)))
  ·obtain ⟨ob,hob,hor⟩:=D.rel.obj _ _ hg
   obtain ⟨_,hd,_⟩:=hor.inv
   exact hG (kdg_method D.nw (List.mem_append_left _ hob) hd (hQ _ (.get k) (c8 fun a h=>Value.noConfusion h)))
theorem Cu {vo vo':VO} {k ne:Nat} {ys:List Value} {y:Value} (D:Dx T w e env g U m led F S σ) (hob:(U k,listOf ys.toArray ne)∈led) (hg:S.h.get k=some vo) (hn:ys.length+1<=2000) (hor:∀ ne,OR T w F U S.n (U k) vo' (listOf (ys++[y]).toArray ne)) (h:C (.p .none) (upd k vo' S)) (hQ:PostE T w e env g F U S.n σ C Q) :
  wpAny (model PG w) A (PySem.call (.builtin "list.append") [.ref (U k),y]) Q E σ:=by
 have hs:=ao
 obtain ⟨pre,post,rfl,h1,h2⟩:=D.apart hob
 refine append_K D.fr D.nw' (Upd.of h1 h2) (fun h' F1 N1=>?_) (by rw [List.size_toArray];exact bz8 hn hs)
 rw [List.push_toArray] at N1
 exact hQ F U m _ h' σ.toks _ _ (upd k vo' S) (Ext.refl _ _ _) (D.put rfl hg F1 N1 (hor _)) (.p .none) h
noncomputable def Sa (k:Nat) (vs:List V) (S:St) (C:V->St->Prop):Prop :=
 (∃ l x,S.h.get k=some (.list l)/\vs=[.p x]/\l.length+1<=2000/\C (.p .none) (upd k (.list (l++[x])) S))\/(∃ l j,S.h.get k=some (.list l)/\vs=[.ref j]/\l.length+1<=2000/\C (.p .none) (upd k (.listV (asV l++[.ref j])) S)) \/
 ∃ l x,S.h.get k=some (.listV l)/\vs=[x]/\l.length+1<=2000/\C (.p .none) (upd k (.listV (l++[x])) S)
theorem Hq {k:Nat} {ov:V} (h:method False r e (.app k) ov vs S C):Sa k vs S C:=by
 have h:(match S.h.get k with
  | some (.list xs)=>(match (generalizing:=false) vs with
   | [.p v]=>cnd (fits (xs.length+1)) (C (.p .none) (upd k (.list (xs++[v])) S)) False
   | [.ref j]=>cnd (fits (xs.length+1)) (C (.p .none) (upd k (.listV (asV xs++[.ref j])) S)) False
   | _=>False)
  | some (.listV xs)=>(match (generalizing:=false) vs with
   | [v]=>cnd (fits (xs.length+1)) (C (.p .none) (upd k (.listV (xs++[v])) S)) False
   | _=>False)
  | _=>False):=h
 delta Sa
 induction hg:S.h.get k using Option.casesOn with
 | none=>exact (hg ▸ h).elim
 | some o =>
  rw [hg] at h
  induction o using VO.casesOn with
  | list l=>induction vs using List.casesOn with
   | nil=>exact h.elim
   | cons v q=>induction q using List.casesOn with
    | cons=>induction v using V.casesOn <;> exact h.elim
    | nil=>induction v using V.casesOn with
     | p x=>exact .inl ⟨l,x,rfl,rfl,bt (ab h).1,(ab h).2⟩
     | ref j=>exact .inr (.inl ⟨l,j,rfl,rfl,bt (ab h).1,(ab h).2⟩)
  | listV l=>induction vs using List.casesOn with
   | nil=>exact h.elim
   | cons v q=>induction q using List.casesOn with
    | cons=>exact h.elim
    | nil=>exact .inr (.inr ⟨l,v,rfl,rfl,bt (ab h).1,(ab h).2⟩)
  | _=>exact h.elim
theorem Hr {k:Nat} {ov:V} (h:method False r e (.get k) ov vs S C):∃ es i,S.h.get k=some (.dicti es)/\vs=[.p (.int i)]/\C (.p ((eh i es).getD .none)) S:=by
 have h:(match S.h.get k with
  | some (.dicti es)=>(match (generalizing:=false) vs with
   | [.p (.int i)]=>C (.p ((eh i es).getD .none)) S
   | _=>False)
  | _=>False):=h
 induction hg:S.h.get k using Option.casesOn with
 | none=>exact (hg ▸ h).elim
 | some o =>
  rw [hg] at h
  induction o using VO.casesOn with
  | dicti l=>induction vs using List.casesOn with
   | nil=>exact h.elim
   | cons v q=>induction v using V.casesOn with
    | ref=>exact h.elim
    | p x=>induction x using P.casesOn with
     | int i=>induction q using List.casesOn with
      | nil=>exact ⟨l,i,rfl,rfl,h⟩
      | cons=>exact h.elim
     | _=>exact h.elim
  | _=>exact h.elim
theorem MeR.low_inv {x:Str} {ov:V} {f:Value} (h:MeR T (.low x) ov f):ov = .p (.str x)/\f = .builtin "str.lower" := by
 cases h;exact ⟨rfl,rfl⟩
theorem MeR.app_inv {k:Nat} {ov:V} {f:Value} (h:MeR T (.app k) ov f):ov = .ref k/\f = .builtin "list.append" := by
 cases h;exact ⟨rfl,rfl⟩
theorem MeR.get_inv {k:Nat} {ov:V} {f:Value} (h:MeR T (.get k) ov f):ov = .ref k/\f = .builtin "dict.get" := by
 cases h;exact ⟨rfl,rfl⟩
theorem Cv (Z:Snd T w K lz mn mg mb r) (X:Sx T w K lz mn mg mb e env g A) (D:Dx T w e env g U m led F S σ) {ov:V} {fv f:Value} {me:Me} (hme:MeR T me ov f) (hv:VR T F U S.n ov fv) (hvs:Each (VR T F U S.n) vs xs) (h:method False r e me ov vs S C) (hQ:PostE T w e env g F U S.n σ C Q) :
  wpAny (model PG w) A (PySem.call f (fv::xs)) Q E σ:=by
 have hs:=ao
 refine bc fun hG=>?_
 induction me using Me.casesOn with
 | own c m =>
  cases hme with
  | own ha=>exact hG (Z.call X D (.p (.fn ha)) (.cons hv hvs) h hQ)
 | low x =>
  obtain ⟨rfl,rfl⟩:=hme.low_inv
  obtain ⟨t,rfl⟩:=hv.pure.inv
  induction vs using List.casesOn with
  | cons=>exact h.elim
  | nil =>
   obtain rfl:=hvs.unnil
   obtain ⟨hp,h⟩:=ab h
   obtain ⟨e1,e2⟩:=uy hp
   exact hG (SC.lower (fit_lower (by exact bzk e2)) (e1 ▸ hQ.tok D (.p (.str _ _)) h _))
 | app k =>
  obtain ⟨rfl,rfl⟩:=hme.app_inv
  obtain ⟨hk,rfl⟩:=hv.inv
  rcases Hq h with ⟨l,x,hg,rfl,hf,h⟩ | ⟨l,j,hg,rfl,hf,h⟩ | ⟨l,x,hg,rfl,hf,h⟩
  ·obtain ⟨y,rfl,hy⟩:=hvs.one
   obtain ⟨ob,hob,hor⟩:=D.rel.obj _ _ hg
   obtain ⟨ys,ne,rfl,hl,hn⟩:=hor.inv
   rw [hl.length] at hf
   exact hG (Cu D hob hg hf (fun ne=>.list (hl.append (.cons hy.pure .nil)) (by rw [List.length_append];exact hf)) h hQ)
  ·obtain ⟨y,rfl,hy⟩:=hvs.one
   obtain ⟨ob,hob,hor⟩:=D.rel.obj _ _ hg
   obtain ⟨ys,ne,rfl,hl,hn⟩:=hor.inv
   rw [hl.length] at hf
   exact hG (Cu D hob hg hf (fun ne=>.listV ((R8 hl).append (.cons hy .nil)) (by rw [List.length_append];exact hf)) h hQ)
  ·obtain ⟨y,rfl,hy⟩:=hvs.one
   obtain ⟨ob,hob,hor⟩:=D.rel.obj _ _ hg
   obtain ⟨ys,ne,rfl,hl,hn⟩:=hor.inv
   rw [hl.length] at hf
   exact hG (Cu D hob hg hf (fun ne=>.listV (hl.append (.cons hy .nil)) (by rw [List.length_append];exact hf)) h hQ)
 | get k =>
  obtain ⟨rfl,rfl⟩:=hme.get_inv
  obtain ⟨hk,rfl⟩:=hv.inv
  obtain ⟨es,i,hg,rfl,h2⟩:=Hr h
  obtain ⟨y,rfl,hy⟩:=hvs.one
  obtain ⟨t,rfl⟩:=hy.int_of
  obtain ⟨ob,hob,hor⟩:=D.rel.obj _ _ hg
  obtain ⟨kvs,hd,he,hn⟩:=hor.inv
  refine hG (kdg_get1 D.nw (List.mem_append_left _ hob) hd (X.no_sys (D.nw _ (List.mem_append_left _ hob)).2.2) (k:=i) (intKind_is PG w i t) _ rfl (hQ.tok D ?_ h2 _))
  have:=iq (i:=i) he
  induction q:eh i es using Option.casesOn with
  | none=>rw [q] at this;rw [this];exact .p .none
  | some x =>
   rw [q] at this
   obtain ⟨u,hu,hr⟩:=this
   rw [hu]
   exact .p hr
end
theorem zh {o:Expr} {m:Str} {apos pos:Pos} {as:List Expr} {env:Env}:eval (.Call (.Attribute o m apos) as [] pos) env=(do
  let ov ← attributeBase o m env (eval o env)
  standAt apos.atName
  methodCall o m apos pos env ov (as.length+0) (backTo pos (starEach as env)) (backToKw pos (keywordEach [] env))):=rfl
section
variable {T:Pl} {w:World} {K:Frag} {lz:List Str} {mn:ExcName->Option Value} {mg mb:Str->Option Value} {r:H Prop} {O:Known Prop} {e:En} {env:Env} {g:Heap} {A:Around} {F:Led} {U:Nat->Addr} {m:Str->Option Value} {led:Led} {S S':St} {σ:Shared}
 {E:Value->Shared->Prop} {v:V} {vs:List V} {xs:List Value} {C:V->St->Prop} {Q:Value->Shared->Prop}
theorem Hs (Z:Snd T w K lz mn mg mb r) (X:Sx T w K lz mn mg mb e env g A) (D:Dx T w e env g U m led F S σ) {o:Expr} {mm:Str} {apos:Pos} {as:List Expr} {pos:Pos}
  (h:evE False O r e (.Call (.Attribute o mm apos) as [] pos) S C) (hQ:PostE T w e env g F U S.n σ C Q):wpAny (model PG w) A (eval (.Call (.Attribute o mm apos) as [] pos) env) Q E σ:=by
 obtain ⟨hs,h⟩:=ab h
 simp only [Bool.and_eq_true] at hs
 refine bc fun hG=>?_
 obtain ⟨h0,hst,hline,hlen⟩:=hs
 refine hG ?_
 rw [zh,jd h0]
 have hform:methodCallForm (as.length+0) (backTo pos (starEach as env)) (backToKw pos (keywordEach [] env))=true:=by
  delta methodCallForm
  have h1:(backToKw pos (keywordEach [] env))=[]:=rfl
  rw [h1]
  have h2:=plain_all (env:=env) (pos:=pos) hst
  have h3:as.length<30:=Nat.lt_of_succ_le (Nat.le_of_ble_eq_true hlen)
  rw [h2]
  simpa using h3
 have hpos:(apos.endLine == pos.line)=true:=by
  have:=Nat.eq_of_beq_eq_true hline
  rw [this];simp
 refine wpAny_bind (Z.e X D h fun F1 ρ1 m1 led1 h1 t1 ov fv S1 x1 D1 hf hp=>?_)
 refine wpAny_bind (wpAny_standAt ?_)
 obtain ⟨me,hme,hp⟩:=ac hp
 delta methodCall
 rw [hform]
 refine wpAny_bind (wpAny_holding ?_)
 delta calleeOf
 refine M0 X D1 hf hme fun f hmr _=>?_
 dsimp only
 delta methodCallPos
 rw [hpos,if_pos (by decide)]
 refine wpAny_bind (wpAny_pure ?_)
 refine kn Z X D1 hst hp fun F2 ρ2 m2 led2 h2 t2 vs ys S2 x2 D2 hvs hp2=>?_
 refine ⟨?_,Cv Z X D2 hmr (x2.vr hf) hvs hp2 (hQ.on (x1.trans x2))⟩
 cases hmr with
 | low=>exact c8 (by intro a h;injection h)
 | own ha=>exact keeps_K (X.tx.keepF _ _ _ ha) _ (X.kin.keeps D2.fr.keep)
 | app=>exact c8 (by intro a h;injection h)
 | get=>exact c8 (by intro a h;injection h)
theorem Sb (N:KnownOK T w K lz mn mg mb O) (Z:Snd T w K lz mn mg mb r) (X:Sx T w K lz mn mg mb e env g A) (D:Dx T w e env g U m led F S σ) {x:Expr} (h:evE False O r e x S C) (hQ:PostE T w e env g F U S.n σ C Q):wpAny (model PG w) A (eval x env) Q E σ:=by
 induction x using Expr.casesOn with
 | Constant c k p=>exact Gi D h hQ
 | Name x p=>exact L1 X D h hQ
 | BoolOp op xs p=>exact A2 Z X D h hQ
 | BinOp a op b p=>exact Bk Z X D h hQ
 | UnaryOp op x p=>exact Ma Z X D h hQ
 | IfExp t a b p=>exact Gk Z X D h hQ
 | Dict ks vs p=>exact Mc Z X D h hQ
 | List xs p=>exact Mb Z X D h hQ
 | Tuple xs p q=>exact Gv Z X D h hQ
 | Compare a ops bs p=>exact yk Z X D h hQ
 | Attribute o a p=>exact qp Z X D h hQ
 | Subscript o i p=>exact qo Z X D h hQ
 | ListComp elt gens sc p=>exact Rv Z N X D h hQ
 | Call f as ks p =>
  induction ks using List.casesOn with
  | cons=>exact h.elim
  | nil =>
   by_cases q:∃ o a p',f = .Attribute o a p'
   ·obtain ⟨o,a,p',rfl⟩:=q
    exact Hs Z X D h hQ
   ·refine Hn Z X D (fun o a p' z=>q ⟨o,a,p',z⟩) ?_ hQ
    induction f using Expr.casesOn <;> first | exact h | exact absurd ⟨_,_,_,rfl⟩ q
 | _=>exact h.elim
end
section
variable {T:Pl} {w:World} {K:Frag} {lz:List Str} {mn:ExcName->Option Value} {mg mb:Str->Option Value} {r:H Prop} {O:Known Prop} {e:En} {env:Env} {g:Heap} {A:Around} {F:Led} {U:Nat->Addr} {m:Str->Option Value} {led:Led} {S S':St} {σ:Shared}
 {E:Value->Shared->Prop} {v:V} {vs:List V} {xs:List Value}
theorem Sd (Z:Snd T w K lz mn mg mb r) (X:Sx T w K lz mn mg mb e env g A) (D:Dx T w e env g U m led F S σ) {x:Expr} {C:Bool->St->Prop} {Q:Bool->Shared->Prop} (h:evT False r e x S C) (hQ:PostB T w e env g F U S.n σ C Q):wpAny (model PG w) A (isTrue x env (eval x env)) Q E σ :=
 L3 Z X D h hQ fun l ops rs p hx=>by
  subst hx
  exact tq Z X D h hQ
noncomputable def Uq (O:Known Prop) (r:H Prop) (e:En) (t v:Expr) (S:St) (C:Fl->St->Prop):Prop :=
 (∃ ts k p es k' p',t = .Tuple ts k p/\v = .Tuple es k' p'/\cnd (aw ts&&aw es&&(qi es&&fy ts)) (r.es e es S fun vs s=>cnd (fits vs.length&&Nat.beq vs.length ts.length) (assignEach False r e ts vs s fun s=>C .next s) False) False) \/
 (∃ elt gens sc p,v = .ListComp elt gens sc p/\Gd False O r e elt gens sc p S fun v s=>assign False r e t v s fun s=>C .next s) \/
 ((∀ elt gens sc p,v ≠ .ListComp elt gens sc p)/\(∀ ts k p es k' p',t = .Tuple ts k p->v ≠ .Tuple es k' p')/\eo False r e t v S C)
theorem Se {t v:Expr} {C:Fl->St->Prop} (h1:∀ elt gens sc p,v ≠ .ListComp elt gens sc p) (h2:∀ es k' p',v ≠ .Tuple es k' p') (h:eo False r e t v S C):Uq O r e t v S C:=.inr (.inr ⟨h1,fun _ _ _ es k' p' _=>h2 es k' p',h⟩)
theorem Sf {t:Expr} {es:List Expr} {k':Nat} {p':Pos} {C:Fl->St->Prop} (h2:∀ ts k p,t ≠ .Tuple ts k p) (h:eo False r e t (.Tuple es k' p') S C):Uq O r e t (.Tuple es k' p') S C:=.inr (.inr ⟨fun _ _ _ _ h=>Expr.noConfusion h,fun ts k p _ _ _ q=>absurd q (h2 ts k p),h⟩)
theorem l7 {t:Expr} {es:List Expr} {k':Nat} {p':Pos} {C:Fl->St->Prop} (h:qj False r e t es (.Tuple es k' p') S C):Uq O r e t (.Tuple es k' p') S C:=by
 induction t using Expr.casesOn with
 | Tuple ts k p =>
  have h:(match Nat.beq ts.length es.length with
   | true=>cnd (aw ts&&aw es&&(qi es&&fy ts)) (r.es e es S fun vs s=>cnd (fits vs.length&&Nat.beq vs.length ts.length) (assignEach False r e ts vs s fun s=>C .next s) False) False
   | false=>False):=h
  induction q:Nat.beq ts.length es.length using Bool.casesOn with
  | true=>rw [q] at h;exact .inl ⟨ts,k,p,es,k',p',rfl,rfl,h⟩
  | false=>rw [q] at h;exact h.elim
 | _=>exact Sf (fun _ _ _ h=>Expr.noConfusion h) h
theorem ot {t v:Expr} {C:Fl->St->Prop} (h:ny False O r e t v S C):Uq O r e t v S C:=by
 induction v using Expr.casesOn with
 | Tuple es k' p'=>exact l7 h
 | ListComp elt gens sc p=>exact .inr (.inl ⟨elt,gens,sc,p,rfl,h⟩)
 | _=>exact Se (fun _ _ _ _ h=>Expr.noConfusion h) (fun _ _ _ h=>Expr.noConfusion h) h
theorem uz (N:KnownOK T w K lz mn mg mb O) (Z:Snd T w K lz mn mg mb r) (X:Sx T w K lz mn mg mb e env g A) (D:Dx T w e env g U m led F S σ) {t v:Expr} {p:Pos} {C:Fl->St->Prop} {Q:Flow->Shared->Prop} (h:ny False O r e t v S C) (hQ:PostS T w e env g F U S.n σ C Q) :
  wpAny (model PG w) A (exec (.Assign [t] v p) env) Q E σ:=by
 rcases ot h with ⟨ts,k,p,es,k',p',rfl,rfl,q⟩ | ⟨elt,gens,sc,p,rfl,q⟩ | ⟨h1,h2,q⟩
 ·exact qy Z X D q hQ
 ·exact om Z N X D q hQ
 ·exact qx Z N X D h1 h2 q hQ
theorem Sg (N:KnownOK T w K lz mn mg mb O) (Z:Snd T w K lz mn mg mb r) (X:Sx T w K lz mn mg mb e env g A) (D:Dx T w e env g U m led F S σ) {x:Stmt} {C:Fl->St->Prop} {Q:Flow->Shared->Prop} (h:evS False O r e x S C) (hQ:PostS T w e env g F U S.n σ C Q):wpAny (model PG w) A (exec x env) Q E σ:=by
 induction x using Stmt.casesOn with
 | Expr v p =>
  obtain ⟨hc,h⟩:=ab h
  refine wpAny_Expr_any (Z.e X D h fun F1 ρ1 m1 led1 h1 t1 v y S1 x1 D1 hv hp=>hQ F1 ρ1 m1 led1 h1 t1 _ _ S1 x1 D1 .next hp) ?_ ?_
  ·delta interactive;rw [X.kind];rfl
  ·delta swapsWith
   induction v using Expr.casesOn <;> first | rfl | injection hc
 | Return v p =>
  induction v using Option.casesOn with
  | none=>exact wpAny_Return_none (hQ F U m led σ.heap σ.toks _ _ S (Ext.refl _ _ _) D (.ret (.p .none)) h)
  | some v=>exact wpAny_Return_some (Z.e X D h fun F1 ρ1 m1 led1 h1 t1 v y S1 x1 D1 hv hp=>hQ F1 ρ1 m1 led1 h1 t1 _ _ S1 x1 D1 (.ret hv) hp)
 | Assign ts v p =>
  induction ts using List.casesOn with
  | nil=>exact h.elim
  | cons t ts =>
   induction ts using List.casesOn with
   | cons=>exact h.elim
   | nil =>
    exact uz N Z X D h hQ
 | If t a b p =>
  refine wpAny_If (Z.t X D h fun F1 ρ1 m1 led1 h1 t1 b S1 x1 D1 hp=>?_)
  rcases az hp with ⟨rfl,hp⟩ | ⟨rfl,hp⟩
  ·exact Z.ss X D1 hp (hQ.on x1)
  ·exact Z.ss X D1 hp (hQ.on x1)
 | For t it body orelse p =>
  induction orelse using List.casesOn with
  | nil=>exact Rz Z X D h hQ
  | cons=>exact h.elim
 | FunctionDef name args body decs ret tps sc tsc bnd p =>
  induction decs using List.casesOn with
  | cons=>exact h.elim
  | nil =>
  induction ret using Option.casesOn with
  | some=>exact h.elim
  | none =>
  induction tps using List.casesOn with
  | cons=>exact h.elim
  | nil =>
  induction tsc using Option.casesOn with
  | some=>exact h.elim
  | none=>exact R3 X D h hQ
 | Pass p=>exact wpAny_Pass (hQ F U m led σ.heap σ.toks _ _ S (Ext.refl _ _ _) D .next h)
 | Break p=>exact wpAny_Break (hQ F U m led σ.heap σ.toks _ _ S (Ext.refl _ _ _) D .brk h)
 | _=>exact h.elim
theorem M1 (N:KnownOK T w K lz mn mg mb O) (Z:Snd T w K lz mn mg mb r) (X:Sx T w K lz mn mg mb e env g A):∀ (xs:List Stmt) {F:Led} {U:Nat->Addr} {m:Str->Option Value} {led:Led} {S:St} {σ:Shared} {C:Fl->St->Prop} {Q:Flow->Shared->Prop},Dx T w e env g U m led F S σ->evSs False O r e xs S C ->
  PostS T w e env g F U S.n σ C Q->wpAny (model PG w) A (execs xs env) Q E σ:=by
 intro l0
 induction l0 with
 | nil =>
  intro F U m led S σ C Q D h hQ
  exact wpAny_execs_nil (hQ F U m led σ.heap σ.toks _ _ S (Ext.refl _ _ _) D .next h)
 | cons x xs ih =>
  intro F U m led S σ C Q D h hQ
  refine wpAny_execs_cons (Sg N Z X D h fun F1 ρ1 m1 led1 h1 t1 fl y S1 x1 D1 hfr hp=>?_)
  cases hfr with
  | next=>exact ih D1 hp (hQ.on x1)
  | brk=>exact hQ F1 ρ1 m1 led1 h1 t1 _ _ S1 x1 D1 .brk hp
  | ret hv=>exact hQ F1 ρ1 m1 led1 h1 t1 _ _ S1 x1 D1 (.ret hv) hp
theorem Ht (N:KnownOK T w K lz mn mg mb O) (Z:Snd T w K lz mn mg mb r):Snd T w K lz mn mg mb (step False O r) where
 e:=fun X D h hQ=>Sb N Z X D h hQ
 es:=fun X D h hQ=>Xv Z X D h hQ
 t:=fun X D h hQ=>Sd Z X D h hQ
 ss:=fun X D h hQ=>M1 N Z X _ D h hQ
 call:=fun X D hf hv h hQ=>Cq N Z X D hf hv h hQ
 star:=fun e x p s P h=>h
theorem Hu:Snd T w K lz mn mg mb (H.none False) where
 e:=fun _ _ h _=>h.elim
 es:=fun _ _ h _=>h.elim
 t:=fun _ _ h _=>h.elim
 ss:=fun _ _ h _=>h.elim
 call:=fun _ _ _ _ h _=>h.elim
 star:=fun e x p s P h=>h
theorem wx (N:KnownOK T w K lz mn mg mb O):∀ n,Snd T w K lz mn mg mb (ev False O n):=by
 intro l0
 induction l0 with
 | zero =>
  exact Hu
 | succ n ih =>
  exact Ht N (ih)
end
end Mine
end
section
open PySem PySem.W PySem.Spec PySem.Calls PyProof.Rows PySem.SeqAt
namespace Mine
noncomputable def ah (s:St):List Nat->Option (List VO)
 | []=>some []
 | k::ks=>match s.h.get k,ah s ks with
  | some o,some l=>some (o::l)
  | _,_=>none
noncomputable def build:List VO->Nat->Tr->Tr
 | [],_,t=>t
 | o::r,i,t=>build r (i+1) (t.ins i o)
noncomputable def putAll:List Nat->List VO->St->St
 | k::ks,o::os,s=>putAll ks os (upd k o s)
 | _,_,s=>s
noncomputable def ci (o:VO):Bool:=o.low 0 && !o.ro
noncomputable def idxOf (k:Nat):List Nat->Nat->Option Nat
 | [],_=>none
 | j::r,i=>match Nat.beq j k with
  | true=>some i
  | false=>idxOf k r (i+1)
noncomputable def ez (ks:List Nat):List V->Option (List V)
 | []=>some []
 | .p x::r=>match ez ks r with
  | some l=>some (.p x::l)
  | none=>none
 | .ref k::r=>match idxOf k ks 0,ez ks r with
  | some i,some l=>some (.ref i::l)
  | _,_=>none
noncomputable def Fu:Nat->Nat->List Nat
 | 0,_=>[]
 | n+1,i=>i::Fu n (i+1)
noncomputable def rf:List Nat->Bool
 | []=>true
 | k::r=>(match idxOf k r 0 with | none=>true | some _=>false)&&rf r
noncomputable def reifyM (m:Nat) (s:St):Nat->V->Option P
 | _,.p x=>some x
 | 0,.ref _=>none
 | f+1,.ref k=>match Nat.ble m k with
  | false=>none
  | true=>match s.h.get k with
   | some (.list xs)=>some (.lst xs)
   | some (.listV xs)=>match reifyL (reifyM m s f) xs with | some l=>some (.lst l) | none=>none
   | some (.inst c d)=>match Nat.ble m d with
    | false=>none
    | true=>match s.h.get d with
     | some (.ns (e::es))=>match reifyN (reifyM m s f) (e::es) with | some l=>some (.obj c l) | none=>none
     | _=>none
   | _=>none
where
 reifyL (g:V->Option P):List V->Option (List P)
  | []=>some []
  | v::r=>match g v,reifyL g r with | some x,some l=>some (x::l) | _,_=>none
 reifyN (g:V->Option P):List (Str×V)->Option (List (Str×P))
  | []=>some []
  | v::r=>match g v.2,reifyN g r with | some x,some l=>some ((v.1,x)::l) | _,_=>none
noncomputable def rh (r:H Prop) (d:Nat) (c m:Str) (ks:List Nat) (vs:List V) (s:St) (Q:V->St->Prop):Prop :=
 ∃ os vs0,ah s ks=some os/\(rf ks&&os.all ci)=true/\ez ks vs=some vs0/\af False r d c m vs0 ⟨[],build os 0 .nil,os.length⟩ fun v s' =>
  ∃ os' x,ah s' (Fu os.length 0)=some os'/\os'.all ci=true/\reifyM os.length s' 9 v=some x/\Q (.p x) (putAll ks os' s)
theorem ri:∀ (os:List VO) (i:Nat) (t:Tr),t.Full i->(build os i t).Full (i+os.length) /\ ∀ k,(build os i t).get k=if k<i then t.get k else os[k - i]? := by
 intro l0
 induction l0 with
 | nil =>
  intro i t f
  exact ⟨f,fun k=>by
   by_cases h:k<i
   ·rw [if_pos h];rfl
   ·rw [if_neg h]
    show t.get k=_
    induction q:t.get k using Option.casesOn with
    | none=>rfl
    | some o=>exact absurd ((f k).mp (by rw [q];rfl)) h⟩
 | cons o os ih =>
  intro i t f
  obtain ⟨h1,h2⟩:=ih (i+1) (t.ins i o) (f.ins o)
  refine ⟨by rw [List.length_cons];rw [show i+(os.length+1)=i+1+os.length by exact Z1];exact h1,fun k=>?_⟩
  show (build os (i+1) (t.ins i o)).get k=_
  rw [h2,Tr.get_ins o t i f]
  by_cases e:k=i
  ·subst e
   rw [if_pos (Nat.lt_succ_self _),if_pos rfl,if_neg (Nat.lt_irrefl _),Nat.sub_self];rfl
  ·by_cases h:k<i
   ·rw [if_pos (Nat.lt_succ_of_lt h),if_neg e,if_pos h]
   ·rw [if_neg (by exact bz5 e h),if_neg h,show k - i=(k - (i+1))+1 by exact azk e h];rfl
theorem g9 {s:St}:∀ {ks:List Nat} {os:List VO},ah s ks=some os->os.length=ks.length /\ ∀ (i k:Nat),ks[i]? = some k -> ∃ o,os[i]? = some o/\s.h.get k=some o:=by
 intro l0
 induction l0 with
 | nil =>
  intro os h
  (injection h with h;subst h);exact ⟨rfl,fun i k h=>by simp at h⟩
 | cons k ks ih =>
  intro os h
  have h:(match s.h.get k,ah s ks with | some o,some l=>some (o::l) | _,_=>none)=some os:=h
  split at h
  ·rename_i o l h1 h2
   (injection h with h;subst h)
   obtain ⟨a,b⟩:=ih h2
   refine ⟨by rw [List.length_cons,List.length_cons,a],fun i j hj=>?_⟩
   induction i using Nat.casesAuxOn with
   | zero=>simp at hj;subst hj;exact ⟨o,rfl,h1⟩
   | succ i=>exact b i j (by simpa using hj)
  ·exact nos h
theorem Hv {k:Nat}:∀ {ks:List Nat} {i j:Nat},idxOf k ks i=some j->i<=j/\ks[j - i]? = some k:=by
 intro l0
 induction l0 with
 | nil =>
  intro _ _ h
  injection h
 | cons a ks ih =>
  intro i j h
  have h:(match Nat.beq a k with | true=>some i | false=>idxOf k ks (i+1))=some j:=h
  split at h
  ·rename_i q
   (injection h with h;subst h)
   exact ⟨Nat.le_refl _,by rw [Nat.sub_self, ← Nat.eq_of_beq_eq_true q];rfl⟩
  ·obtain ⟨h1,h2⟩:=ih h
   exact ⟨by exact Nat.le_of_lt h1,by exact (show j - i=(j - (i+1))+1 by exact U0 h1) ▸ h2⟩
theorem zi {k:Nat}:∀ {ks:List Nat} {i:Nat},idxOf k ks i=none->k∉ks:=by
 intro l0
 induction l0 with
 | nil =>
  intro _ _
  exact fun h=>(by contradiction)
 | cons a ks ih =>
  intro i h
  have h:(match Nat.beq a k with | true=>some i | false=>idxOf k ks (i+1))=none:=h
  split at h
  ·injection h
  ·rename_i q
   intro hm
   rcases List.mem_cons.mp hm with z | z
   ·subst z;rw [Nat.beq_refl] at q;injection q
   ·exact ih h z
theorem wy:∀ {ks:List Nat},rf ks=true->ks.Nodup:=by
 intro l0
 induction l0 with
 | nil =>
  intro _
  exact List.nodup_nil
 | cons k ks ih =>
  intro h
  have h:((match idxOf k ks 0 with | none=>true | some _=>false)&&rf ks)=true:=h
  rw [Bool.and_eq_true] at h
  rw [List.nodup_cons]
  refine ⟨?_,ih h.2⟩
  have h1:=h.1
  split at h1
  ·rename_i q;exact zi q
  ·injection h1
theorem wz:∀ (n i j:Nat),j<n->(Fu n i)[j]? = some (i+j)
 | 0,_,_,h=>absurd h (Nat.not_lt_zero _)
 | n+1,i,0,_=>rfl
 | n+1,i,j+1,h=>by
  show (Fu n (i+1))[j]? = _
  rw [wz n (i+1) j (by exact Nat.le_of_lt_succ h)]
  congr 1;exact bzm
theorem u4:∀ (n i:Nat),(Fu n i).length=n:=by
 intro l0
 induction l0 with
 | zero =>
  intro _
  exact rfl
 | succ n ih =>
  intro i
  show (Fu n (i+1)).length+1=n+1;rw [ih (i+1)]
section
variable {T:Pl} {w:World} {F:Led} {U:Nat->Addr} {n:Nat}
theorem OR.closed {a:Addr} {o:VO} {ob:Obj} (h:OR T w F U n a o ob) (hc:ci o=true) {F':Led} (hF:∀ p∈F,p∈F') (ρ':Nat->Addr) (n':Nat):OR T w F' ρ' n' a o ob:=by
 unfold ci at hc
 rw [Bool.and_eq_true] at hc
 exact (h.down hc.1).mono (fun p hp _=>hF p hp) (Nat.zero_le _) fun k hk=>absurd hk (Nat.not_lt_zero _)
theorem rj {o:VO} (hc:ci o=true):o.ro=false:=by
 unfold ci at hc
 rw [Bool.and_eq_true,Bool.not_eq_true'] at hc
 exact hc.2
end
end Mine
end
section
open PySem PySem.W PySem.Spec PySem.Calls PyProof.Rows PySem.SeqAt
set_option tactic.hygienic false
namespace Mine
theorem jt (ks:List Nat):∀ (os:List VO) (s:St),(putAll ks os s).n=s.n/\(putAll ks os s).loc=s.loc:=by
 induction ks with
 | nil=>intro os s;induction os using List.casesOn <;> exact ⟨rfl,rfl⟩
 | cons k ks ih=>intro os s;induction os using List.casesOn with
  | nil=>exact ⟨rfl,rfl⟩
  | cons o os=>exact ih os (upd k o s)
theorem zj (ks:List Nat):∀ (os:List VO) (s:St),ks.Nodup->os.length=ks.length->(∀ k∈ks,(s.h.get k).isSome=true)->(∀ (i k:Nat),ks[i]? = some k->(putAll ks os s).h.get k=os[i]?) /\ ∀ j,j∉ks->(putAll ks os s).h.get j=s.h.get j:=by
 induction ks with
 | nil=>exact fun os s _ _ _=>⟨fun i k h=>(nos h),fun j _=>by induction os using List.casesOn <;> rfl⟩
 | cons k ks ih =>
  intro os s nd hl hs
  induction os using List.casesOn with
  | nil=>exact (by contradiction)
  | cons o os =>
   rw [List.nodup_cons] at nd
   have hget:∀ j,(upd k o s).h.get j=if j=k then (s.h.get k).map (fun _=>o) else s.h.get j:=fun j=>Tr.get_set o s.h k j
   obtain ⟨h1,h2⟩:=ih os (upd k o s) nd.2 (Nat.succ.inj hl) (fun j hj=>by
    rw [hget,if_neg fun (e:j=k)=>nd.1 (e ▸ hj)];exact hs j (.tail _ hj))
   refine ⟨fun i j hj=>?_,fun j hj=>?_⟩
   ·induction i using Nat.casesAuxOn with
    | zero =>
     obtain rfl:=Option.some.inj hj
     show (putAll ks os (upd k o s)).h.get k=some o
     rw [h2 k nd.1,hget,if_pos rfl]
     obtain ⟨z,hz⟩:=Option.isSome_iff_exists.mp (hs k (.head _))
     rw [hz];rfl
    | succ i=>exact h1 i j hj
   ·show (putAll ks os (upd k o s)).h.get j=_
    rw [h2 j (fun q=>hj (.tail _ q)),hget,if_neg (fun (e:j=k)=>hj (by exact e ▸ (.head _)))]
theorem u5 (ks:List Nat):∀ (os:List VO) (s:St) (n:Nat),s.h.Full n->(putAll ks os s).h.Full n:=by
 induction ks with
 | nil=>intro os s n f;induction os using List.casesOn <;> exact f
 | cons k ks ih=>intro os s n f;induction os using List.casesOn with
  | nil=>exact f
  | cons o os=>exact ih os (upd k o s) n (f.set k o)
theorem Hw {T:Pl} {F:Led} {U ρ0:Nat->Addr} {n m:Nat} {ks:List Nat} (h0:∀ (i k:Nat),ks[i]? = some k->i<m/\ρ0 i=U k) {vs:List V} {xs:List Value} (hs:Each (VR T F U n) vs xs):∀ {vs0:List V},ez ks vs=some vs0->Each (VR T F ρ0 m) vs0 xs:=by
 induction hs with
 | nil=>intro vs0 h;obtain rfl:=Option.some.inj h;exact .nil
 | @cons v y vs xs hv hs ih =>
  intro vs0 h
  induction v using V.casesOn with
  | p x =>
   have h:(match ez ks vs with | some l=>some (.p x::l) | none=>none)=some vs0:=h
   induction hl:ez ks vs using Option.casesOn with
   | none=>exact nos (hl ▸ h)
   | some l =>
    rw [hl] at h
    obtain rfl:=Option.some.inj h
    exact .cons (.p hv.pure) (ih hl)
  | ref k =>
   have h:(match idxOf k ks 0,ez ks vs with | some i,some l=>some (.ref i::l) | _,_=>none)=some vs0:=h
   induction hi:idxOf k ks 0 using Option.casesOn with
   | none=>exact nos (hi ▸ h)
   | some i =>
    induction hl:ez ks vs using Option.casesOn with
    | none=>rw [hi,hl] at h;exact nos h
    | some l =>
     rw [hi,hl] at h
     obtain rfl:=Option.some.inj h
     obtain ⟨_,h2⟩:=Hv hi
     obtain ⟨q1,q2⟩:=h0 i k (by rw [Nat.sub_zero] at h2;exact h2)
     obtain ⟨hk,rfl⟩:=hv.inv
     exact .cons (q2 ▸ .ref q1) (ih hl)
theorem w3 {T:Pl} {F:Led} {U ρ0:Nat->Addr} {n m:Nat} {ks:List Nat} (h0:∀ (i k:Nat),ks[i]? = some k->i<m/\ρ0 i=U k) {vs vs0:List V} {xs:List Value} (h:ez ks vs=some vs0) (hs:Each (VR T F U n) vs xs):Each (VR T F ρ0 m) vs0 xs:=Hw h0 hs h
section
variable {T:Pl} {w:World} {K:Frag} {lz:List Str} {mn:ExcName->Option Value} {mg mb:Str->Option Value} {r:H Prop} {O:Known Prop} {e:En} {env:Env} {g:Heap} {A:Around} {F:Led} {U:Nat->Addr} {m:Str->Option Value} {led:Led} {S S':St} {σ:Shared} {E:Value->Shared->Prop}
theorem picked (R:Rel T w F U S led) {ks:List Nat}:∀ {os:List VO},ah S ks=some os->os.all ci=true -> ∃ led0:Led,led0.map (·.1)=ks.map U/\(∀ p∈led0,p∈led) /\ ∀ (i:Nat) (o:VO),os[i]? = some o -> ∃ p,led0[i]? = some p /\ ∀ F',(∀ q∈F,q∈F') -> ∀ ρ' n',OR T w F' ρ' n' p.1 o p.2:=by
 induction ks with
 | nil=>intro os h _;obtain rfl:=Option.some.inj h;exact ⟨[],rfl,(fun p h=>(by contradiction)),fun i o h=>nos h⟩
 | cons k ks ih =>
  intro os h hc
  have h:(match S.h.get k,ah S ks with | some o,some l=>some (o::l) | _,_=>none)=some os:=h
  induction h1:S.h.get k using Option.casesOn with
  | none=>exact nos (h1 ▸ h)
  | some o =>
   induction h2:ah S ks using Option.casesOn with
   | none=>rw [h1,h2] at h;exact nos h
   | some l =>
    rw [h1,h2] at h
    obtain rfl:=Option.some.inj h
    have hc:=Bool.and_eq_true_iff.mp (List.all_cons ▸ hc)
    obtain ⟨led0,a,b,c⟩:=ih h2 hc.2
    obtain ⟨ob,hob,hor⟩:=R.obj k o h1 (rj hc.1)
    refine ⟨(U k,ob)::led0,by rw [List.map_cons,List.map_cons,a],fun p hp=>?_,fun i o' ho'=>?_⟩
    ·rcases List.mem_cons.mp hp with q | q
     ·exact q ▸ hob
     ·exact b p q
    ·induction i using Nat.casesAuxOn with
     | zero=>obtain rfl:=Option.some.inj ho';exact ⟨_,rfl,fun F' hF ρ' n'=>hor.closed hc.1 hF ρ' n'⟩
     | succ i=>exact c i o' ho'
theorem Cw {s:St} {ks:List Nat} {os:List VO} {n:Nat} (f:s.h.Full n) (h:ah s ks=some os):∀ k∈ks,k<n:=fun k hk=>by
 obtain ⟨i,hi⟩:=List.getElem?_of_mem hk
 obtain ⟨o,_,ho⟩:=(g9 h).2 i k hi
 exact (f k).mp (by rw [ho];rfl)
theorem rk (R:Rel T w F U S led) {ks:List Nat} {os:List VO} (hg:ah S ks=some os) (hc:os.all ci=true) (nd:ks.Nodup) :
  ∃ led0:Led,led0.map (·.1)=ks.map U/\(∀ p∈led0,p∈led) /\ ∃ ρ0:Nat->Addr,(∀ (i k:Nat),ks[i]? = some k->i<os.length/\ρ0 i=U k)/\Rel T w F ρ0 ⟨[],build os 0 .nil,os.length⟩ led0:=by
 obtain ⟨led0,a,b,c⟩:=picked R hg hc
 obtain ⟨hl,hat⟩:=g9 hg
 obtain ⟨f,hb⟩:=ri os 0 .nil Tr.full_nil
 rw [Nat.zero_add] at f
 have hb:∀ k,(build os 0 .nil).get k=os[k]? := fun k=>by rw [hb,if_neg (Nat.not_lt_zero _),Nat.sub_zero]
 have h0:∀ (i k:Nat),ks[i]? = some k->i<os.length/\(fun i=>U (ks[i]?.getD 0)) i=U k:=fun i k hk=>by
  obtain ⟨q,_⟩:=List.getElem?_eq_some_iff.mp hk
  exact ⟨by rw [hl];exact q,by show U (ks[i]?.getD 0)=U k;rw [hk];rfl⟩
 refine ⟨led0,a,b,fun i=>U (ks[i]?.getD 0),h0,f,fun i o ho=>?_,fun i j hi hj e=>?_,?_⟩
 ·have ho:(build os 0 .nil).get i=some o:=ho
  rw [hb] at ho
  obtain ⟨p,hp,hor⟩:=c i o ho
  have e1:(led0.map (·.1))[i]? = some p.1:=by rw [List.getElem?_map,hp];rfl
  rw [a,List.getElem?_map] at e1
  obtain ⟨k,hk,e2⟩:=Option.map_eq_some_iff.mp e1
  have e3:U (ks[i]?.getD 0)=p.1:=(h0 i k hk).2.trans e2
  refine ⟨p.2,.inl ?_,?_⟩
  ·show (U (ks[i]?.getD 0),p.2)∈led0
   rw [e3];exact List.mem_of_getElem? hp
  ·show OR T w F _ _ (U (ks[i]?.getD 0)) o p.2
   rw [e3];exact hor F (fun q h=>h) _ _
 ·have hi:i<os.length:=hi
  have hj:j<os.length:=hj
  rw [hl] at hi hj
  obtain ⟨ki,hki⟩:∃ k,ks[i]? = some k:=⟨ks[i],List.getElem?_eq_getElem hi⟩
  obtain ⟨kj,hkj⟩:∃ k,ks[j]? = some k:=⟨ks[j],List.getElem?_eq_getElem hj⟩
  have e:U (ks[i]?.getD 0)=U (ks[j]?.getD 0):=e
  rw [hki,hkj] at e
  have hlt:=Cw R.full hg
  have:=R.inj ki kj (hlt ki (List.mem_of_getElem? hki)) (hlt kj (List.mem_of_getElem? hkj)) e
  subst this
  exact nodup_idx nd hki hkj
 ·rw [List.map_append,List.nodup_append]
  have nd2:=R.nodup
  rw [List.map_append,List.nodup_append] at nd2
  refine ⟨?_,nd2.2.1,fun x hx y hy=>?_⟩
  ·rw [a]
   have hlt:=Cw R.full hg
   exact nodup_map nd fun i j hi hj e=>R.inj i j (hlt i hi) (hlt j hj) e
  ·obtain ⟨p,hp,rfl⟩:=List.mem_map.mp hx
   exact nd2.2.2 _ (List.mem_map_of_mem (b p hp)) _ hy
where
 nodup_idx:∀ {l:List Nat},l.Nodup -> ∀ {i j x:Nat},l[i]? = some x->l[j]? = some x->i=j:=by
  intro l nd i j x hi hj
  obtain ⟨h1,e1⟩:=List.getElem?_eq_some_iff.mp hi
  obtain ⟨h2,e2⟩:=List.getElem?_eq_some_iff.mp hj
  rcases Nat.lt_trichotomy i j with q | q | q
  ·exact absurd (e1.trans e2.symm) (List.pairwise_iff_getElem.mp nd i j h1 h2 q)
  ·exact q
  ·exact absurd (e2.trans e1.symm) (List.pairwise_iff_getElem.mp nd j i h2 h1 q)
 nodup_map:∀ {l:List Nat} {f:Nat->Addr},l.Nodup->(∀ i j,i∈l->j∈l->f i=f j->i=j)->(l.map f).Nodup:=by
  intro l f nd hf
  induction l with
  | nil=>exact List.nodup_nil
  | cons a l ih =>
   rw [List.nodup_cons] at nd
   rw [List.map_cons,List.nodup_cons]
   refine ⟨fun hm=>?_,ih nd.2 fun i j hi hj=>hf i j (.tail _ hi) (.tail _ hj)⟩
   obtain ⟨b,hb,e⟩:=List.mem_map.mp hm
   exact nd.1 (hf b a (.tail _ hb) (.head _) e ▸ hb)
end
section
variable {T:Pl} {w:World} {K:Frag} {lz:List Str} {mn:ExcName->Option Value} {mg mb:Str->Option Value} {r:H Prop} {O:Known Prop} {e:En} {env:Env} {g:Heap} {A:Around} {F:Led} {U:Nat->Addr} {m:Str->Option Value} {led:Led} {S S':St} {σ:Shared} {E:Value->Shared->Prop}
theorem Cy {F1:Led} {ρ':Nat->Addr} {n:Nat} {F':Led} {g:V->Option P} (ih:∀ (v:V) (y:Value) (x:P),VR T F' ρ' n v y->g v=some x->PR T F1 x y) {vs:List V} {ys:List Value} (hvs:Each (VR T F' ρ' n) vs ys):∀ {l:List P},reifyM.reifyL g vs=some l->PRs T F1 l ys:=by
 induction hvs with
 | nil=>intro l h;obtain rfl:=Option.some.inj h;exact .nil
 | @cons a b vs ys hv _ ih2 =>
  intro l h
  have h:(match g a,reifyM.reifyL g vs with | some x,some l=>some (x::l) | _,_=>none)=some l:=h
  induction h1:g a using Option.casesOn with
  | none=>exact nos (h1 ▸ h)
  | some x =>
   induction h2:reifyM.reifyL g vs using Option.casesOn with
   | none=>rw [h1,h2] at h;exact nos h
   | some l' =>
    rw [h1,h2] at h
    obtain rfl:=Option.some.inj h
    exact .cons (ih _ _ _ hv h1) (ih2 h2)
theorem Cz {F1:Led} {ρ':Nat->Addr} {n:Nat} {F':Led} {g:V->Option P} (ih:∀ (v:V) (y:Value) (x:P),VR T F' ρ' n v y->g v=some x->PR T F1 x y) {es:List (Str×V)} {ds:List DictEntry} (hes:Each (NR T F' ρ' n) es ds):∀ {l:List (Str×P)},reifyM.reifyN g es=some l->PRn T F1 l ds:=by
 induction hes with
 | nil=>intro l h;obtain rfl:=Option.some.inj h;exact .nil
 | @cons a b es ds hv _ ih2 =>
  intro l h
  have h:(match g a.2,reifyM.reifyN g es with | some x,some l=>some ((a.1,x)::l) | _,_=>none)=some l:=h
  induction h1:g a.2 using Option.casesOn with
  | none=>exact nos (h1 ▸ h)
  | some x =>
   induction h2:reifyM.reifyN g es using Option.casesOn with
   | none=>rw [h1,h2] at h;exact nos h
   | some l' =>
    rw [h1,h2] at h
    obtain rfl:=Option.some.inj h
    obtain ⟨⟨t,ht⟩,hr⟩:=hv
    exact .cons ht (ih _ _ _ hr h1) (ih2 h2)
theorem keys_str {ρ':Nat->Addr} {n:Nat} {F':Led} {es:List (Str×V)} {ds:List DictEntry} (h:Each (NR T F' ρ' n) es ds):∀ d∈ds,∃ k t,d.key=Value.str k t:=by
 induction h with
 | nil=>exact fun d hd=>(by contradiction)
 | cons h1 _ ih3 =>
  intro d hd
  rcases List.mem_cons.mp hd with q | q
  ·rw [q];obtain ⟨⟨t,ht⟩,_⟩:=h1;exact ⟨_,t,ht⟩
  ·exact ih3 d q
noncomputable def Sh (mm:Nat) (s:St) (f k:Nat) (x:P):Prop :=
 (∃ l,mm<=k/\s.h.get k=some (.list l)/\x = .lst l)\/(∃ l l',mm<=k/\s.h.get k=some (.listV l)/\reifyM.reifyL (reifyM mm s f) l=some l'/\x = .lst l') \/
 ∃ c d e es l',mm<=k/\s.h.get k=some (.inst c d)/\mm<=d/\s.h.get d=some (.ns (e::es))/\reifyM.reifyN (reifyM mm s f) (e::es)=some l'/\x = .obj c l'
theorem read_all {mm:Nat} {s:St} {f k:Nat}:OptP (Sh mm s f k) (reifyM mm s (f+1) (.ref k)):=by
 show OptP _ (match Nat.ble mm k with
  | false=>none
  | true=>match s.h.get k with
   | some (.list xs)=>some (P.lst xs)
   | some (.listV xs)=>match reifyM.reifyL (reifyM mm s f) xs with | some l=>some (P.lst l) | none=>none
   | some (.inst c d)=>match Nat.ble mm d with
    | false=>none
    | true=>match s.h.get d with
     | some (.ns (e::es))=>match reifyM.reifyN (reifyM mm s f) (e::es) with | some l=>some (P.obj c l) | none=>none
     | _=>none
   | _=>none)
 induction hb:Nat.ble mm k using Bool.casesOn with
 | false=>trivial
 | true =>
  have hb:=Nat.le_of_ble_eq_true hb
  dsimp only
  induction hg:s.h.get k using Option.casesOn with
  | none=>trivial
  | some o=>induction o using VO.casesOn with
   | list l=>exact .inl ⟨l,hb,hg,rfl⟩
   | listV l =>
    dsimp only
    induction hr:reifyM.reifyL (reifyM mm s f) l using Option.casesOn with
    | none=>trivial
    | some l'=>exact .inr (.inl ⟨l,l',hb,hg,hr,rfl⟩)
   | inst c d =>
    dsimp only
    induction hd:Nat.ble mm d using Bool.casesOn with
    | false=>trivial
    | true =>
     have hd:=Nat.le_of_ble_eq_true hd
     dsimp only
     induction hg':s.h.get d using Option.casesOn with
     | none=>trivial
     | some o'=>induction o' using VO.casesOn with
      | ns es=>induction es using List.casesOn with
       | nil=>trivial
       | cons e es =>
        dsimp only
        induction hr:reifyM.reifyN (reifyM mm s f) (e::es) using Option.casesOn with
        | none=>trivial
        | some l'=>exact .inr (.inr ⟨c,d,e,es,l',hb,hg,hd,hg',hr,rfl⟩)
      | _=>trivial
   | _=>trivial
theorem rl {F' F1:Led} {ρ':Nat->Addr} {led':Led} {mm:Nat} (R:Rel T w F' ρ' S' led') (hF:∀ p∈F',p∈F1) (hl:∀ k ob,mm<=k->k<S'.n->(ρ' k,ob)∈led'->(ρ' k,ob)∈F1) (f:Nat):∀ (v:V) (y:Value) (x:P),VR T F' ρ' S'.n v y->reifyM mm S' f v=some x->PR T F1 x y:=by
 have pure:∀ {f:Nat} {p:P} {y:Value} {x:P},VR T F' ρ' S'.n (.p p) y->some p=some x->PR T F1 x y:=fun hv h=>Option.some.inj h ▸ hv.pure.mono fun p hp _=>hF p hp
 induction f with
 | zero =>
  intro v y x hv h
  induction v using V.casesOn with
  | p p=>exact pure (f:=0) hv h
  | ref=>exact nos h
 | succ f ih =>
  intro v y x hv h
  induction v using V.casesOn with
  | p p=>exact pure (f:=0) hv h
  | ref k =>
   obtain ⟨hk,rfl⟩:=hv.inv
   rcases read_all.get h with ⟨l,hmk,hg,rfl⟩ | ⟨l,l',hmk,hg,hr,rfl⟩ | ⟨c,d,e,es,l',hmk,hg,hmd,hg',hr,rfl⟩
   ·obtain ⟨ob,hob,hor⟩:=R.obj _ _ hg
    obtain ⟨_,_,rfl,hx,hl2⟩:=hor.inv
    exact .lst (hl _ _ hmk hk hob) ((PRs.of hx).mono fun p hp _=>hF p hp) hl2
   ·obtain ⟨ob,hob,hor⟩:=R.obj _ _ hg
    obtain ⟨_,_,rfl,hx,hl2⟩:=hor.inv
    exact .lst (hl _ _ hmk hk hob) (Cy ih hx hr) hl2
   ·obtain ⟨ob,hob,hor⟩:=R.obj _ _ hg
    obtain ⟨ob',hob',hor'⟩:=R.obj _ _ hg'
    obtain ⟨_,rfl,hc,hd⟩:=hor.inv
    obtain ⟨ds,ne,rfl,hn,hl2⟩:=hor'.inv
    exact .obj hc (hl _ _ hmk hk hob) (hl _ _ hmd hd hob') ⟨fun q=>by subst q;exact hn.inv.elim,keys_str hn⟩ (Cz ih hn hr)
theorem m8 (D:Dx T w e env g U m led F S σ) {ks:List Nat} {os os':List VO} (hg:ah S ks=some os) (nd:ks.Nodup) {g':Heap} {n0:Nat} {ρ0:Nat->Addr} (h0:∀ (i k:Nat),ks[i]? = some k->i<os.length/\ρ0 i=U k)
  (hrest:∀ p∈led,p.1∉ks.map U->g'.get? p.1=some p.2) (hgg:∀ b o,g.get? b=some o->g'.get? b=some o) (hL:∀ o,σ.heap.get? env.locals=some o->g'.get? env.locals=some o)
  {F':Led} {ρ':Nat->Addr} {led':Led} {h':Heap} {t':Nat} (ext:Ext F ρ0 n0 F' ρ' S'.n) (hn:os.length<=n0) (keep:∀ b o,g'.get? b=some o->h'.get? b=some o) (N':∀ p∈led'++F',h'.get? p.1=some p.2/\g'.get? p.1=none) (R':Rel T w F' ρ' S' led')
  (hos:ah S' (Fu os.length 0)=some os') (hc':os'.all ci=true) :
  ∃ led1 F1,Ext F U S.n F1 U S.n/\Dx T w e env g U m led1 F1 (putAll ks os' S) (At σ h' t')/\(∀ p∈F',p∈F1) /\ ∀ k ob,os.length<=k->k<S'.n->(ρ' k,ob)∈led'->(ρ' k,ob)∈F1:=by
 classical
 obtain ⟨hl,hat⟩:=g9 hg
 obtain ⟨hl',hat'⟩:=g9 hos
 rw [u4] at hl'
 have hks:=Cw D.rel.full hg
 have notg:∀ p∈led'++F',∀ o,g'.get? p.1≠some o:=fun p hp o q=>by rw [(N' p hp).2] at q;injection q
 have h2:∀ i k,ks[i]? = some k->ρ' i=U k:=fun i k hk=>(ext.same i (Nat.lt_of_lt_of_le (h0 i k hk).1 hn)).trans (h0 i k hk).2
 refine ⟨led.filter (fun p=>decide (p.1∉ks.map U))++led'.filter (fun p=>decide (p.1∈ks.map U)),led'.filter (fun p=>decide (p.1∉ks.map U))++F',⟨Nat.le_refl _,fun _ _=>rfl,fun p hp=>List.mem_append_right _ (ext.sub p hp)⟩,?_,fun p hp=>List.mem_append_right _ hp,fun k ob hk hlt hm=>?_⟩
 ·obtain ⟨oL,es,ep,hoL,hLd,hLk,hLf⟩:=D.fr.ns
  have hLg:=hL oL hoL
  have old:∀ p∈led.filter (fun p=>decide (p.1∉ks.map U)),p∈led/\p.1∉ks.map U:=fun p hp=>by
   obtain ⟨q1,q2⟩:=List.mem_filter.mp hp
   exact ⟨q1,of_decide_eq_true q2⟩
  have new:∀ p,p∈led'.filter (fun p=>decide (p.1∈ks.map U))\/p∈led'.filter (fun p=>decide (p.1∉ks.map U))++F'->p∈led'++F':=fun p hp=>by
   rcases hp with q | q
   ·exact List.mem_append_left _ (List.mem_filter.mp q).1
   ·rcases List.mem_append.mp q with z | z
    ·exact List.mem_append_left _ (List.mem_filter.mp z).1
    ·exact List.mem_append_right _ z
  have hfull:(putAll ks os' S).h.Full S.n:=u5 _ _ _ _ D.rel.full
  obtain ⟨pg1,pg2⟩:=zj ks os' S nd (by rw [hl',hl]) fun k hk=>(D.rel.full k).mpr (hks k hk)
  have en:=(jt ks os' S).1
  have el:=(jt ks os' S).2
  refine ⟨⟨⟨oL,es,ep,keep _ _ hLg,hLd,hLk,hLf⟩,fun b o q=>keep _ _ (hgg b o q),D.fr.above⟩,fun p hp=>?_,⟨by exact en ▸ hfull,fun j o hj=>?_,fun i j hi hj q=>D.rel.inj i j (en ▸ hi) (en ▸ hj) q,?_⟩,fun y v q=>?_,fun y k q=>?_⟩
  ·have fromNew:p∈led'++F'->h'.get? p.1=some p.2/\p.1≠env.locals/\g.get? p.1=none:=fun hp=>by
    refine ⟨(N' p hp).1,fun q=>notg p hp oL (by exact q ▸ hLg),?_⟩
    induction z:g.get? p.1 using Option.casesOn with
    | none=>rfl
    | some o=>exact absurd (hgg _ _ z) (notg p hp o)
   rcases List.mem_append.mp hp with q | q
   ·rcases List.mem_append.mp q with z | z
    ·obtain ⟨z1,z2⟩:=old p z
     exact ⟨keep _ _ (hrest p z1 z2),(D.nw p (List.mem_append_left _ z1)).2⟩
    ·exact fromNew (new p (.inl z))
   ·exact fromNew (new p (.inr q))
  ·by_cases hjk:j∈ks
   ·obtain ⟨i,hi⟩:=List.getElem?_of_mem hjk
    rw [pg1 i j hi] at hj
    have hil:=(h0 i j hi).1
    obtain ⟨o2,ho2,hget⟩:=hat' i i (by rw [wz _ _ _ hil,Nat.zero_add])
    rw [ho2] at hj
    cases hj
    have hcl:=List.all_eq_true.mp hc' o (List.mem_of_getElem? ho2)
    obtain ⟨ob,hob,hor⟩:=R'.obj i o hget (rj hcl)
    rw [h2 i j hi] at hob hor
    refine ⟨ob,.inl (List.mem_append_right _ (List.mem_filter.mpr ⟨hob,decide_eq_true (List.mem_map_of_mem hjk)⟩)),?_⟩
    rw [en]
    exact hor.closed hcl (fun p hp=>List.mem_append_right _ hp) _ _
   ·rw [pg2 j hjk] at hj
    obtain ⟨ob,hob,hor⟩:=D.rel.objs j o hj
    have hjn:U j∉ks.map U:=fun q=>by
     obtain ⟨k,hk,e1⟩:=List.mem_map.mp q
     exact hjk (D.rel.inj k j (hks k hk) (D.rel.lt hj) e1 ▸ hk)
    refine ⟨ob,?_,by exact en ▸ (hor.mono (fun p hp _=>List.mem_append_right _ (ext.sub p hp)) (Nat.le_refl _) fun _ _=>rfl)⟩
    rcases hob with q | ⟨q1,q2⟩
    ·exact .inl (List.mem_append_left _ (List.mem_filter.mpr ⟨q,decide_eq_true hjn⟩))
    ·exact .inr ⟨q1,List.mem_append_right _ (ext.sub _ q2)⟩
  ·have ndL:=D.rel.nodup
   rw [List.map_append,List.nodup_append] at ndL
   have ndN:=R'.nodup
   have pm:(led'.filter (fun p=>decide (p.1∈ks.map U))++(led'.filter (fun p=>decide (p.1∉ks.map U))++F')).Perm (led'++F'):=by
    rw [← List.append_assoc]
    refine List.Perm.append_right _ ?_
    have:=List.filter_append_perm (fun p:Addr×Obj=>decide (p.1∈ks.map U)) led'
    have e1:(fun p:Addr×Obj=>decide (p.1∉ks.map U))=fun p => !decide (p.1∈ks.map U):=by funext p;exact decide_not
    exact e1 ▸ this
   rw [List.append_assoc,List.map_append,List.nodup_append]
   refine ⟨(List.filter_sublist.map _).nodup ndL.1,(pm.map _).nodup_iff.mpr ndN,fun x hx y hy=>?_⟩
   obtain ⟨p,hp,rfl⟩:=List.mem_map.mp hx
   obtain ⟨q,hq,rfl⟩:=List.mem_map.mp hy
   obtain ⟨z1,z2⟩:=old p hp
   intro ee
   exact notg q (pm.mem_iff.mp hq) p.2 (by rw [← ee];exact hrest p z1 z2)
  ·rw [el] at q
   obtain ⟨z,q1,q2⟩:=D.loc y v q
   exact ⟨z,q1,by exact en ▸ (q2.mono (fun p hp _=>List.mem_append_right _ (ext.sub p hp)) (Nat.le_refl _) fun _ _=>rfl)⟩
  ·obtain ⟨q1,q2⟩:=D.cells y k q
   exact ⟨by exact en ▸ q1,q2⟩
 ·refine List.mem_append_left _ (List.mem_filter.mpr ⟨hm,decide_eq_true fun q=>?_⟩)
  obtain ⟨kk,hkk,e1⟩:=List.mem_map.mp q
  obtain ⟨i,hi⟩:=List.getElem?_of_mem hkk
  have e2:=h2 i kk hi
  have hil:=(h0 i kk hi).1
  have e3:ρ' i=ρ' k:=e2.trans e1
  have:=R'.inj i k (Nat.lt_of_lt_of_le (Nat.lt_of_lt_of_le hil hn) ext.le) hlt e3
  exact Zz hk hil this
end
noncomputable def kp (r:H Prop) (d:Nat) (c:Str) (ks:List Nat) (vs:List V) (s:St) (Q:V->St->Prop):Prop :=
 ∃ os vs0 c' m',ah s ks=some os/\(rf ks&&os.all ci)=true/\ez ks vs=some vs0/\cz 3 c "__init__" = some (.fn c' m')/\Nat.ble 40 d=false /\
  af False r (d+1) c' m' (.ref (os.length+1)::vs0) (new (.inst c os.length) (new (.ns []) ⟨[],build os 0 .nil,os.length⟩)) fun v s' =>
   v = .p .none /\ ∃ os' x,ah s' (Fu os.length 0)=some os'/\os'.all ci=true/\reifyM os.length s' 9 (.ref (os.length+1))=some x/\Q (.p x) (putAll ks os' s)
section
variable {T:Pl} {w:World} {K:Frag} {lz:List Str} {mn:ExcName->Option Value} {mg mb:Str->Option Value} {r:H Prop} {O:Known Prop} {e:En} {env:Env} {g:Heap} {A:Around} {F:Led} {U:Nat->Addr} {m:Str->Option Value} {led:Led} {S S':St} {σ:Shared} {E:Value->Shared->Prop}
theorem C0 (D:Dx T w e env g U m led F S σ) {ks:List Nat} {led0:Led} (h1:led0.map (·.1)=ks.map U) (h2:∀ p∈led0,p∈led) {more:Led} (hm:∀ p∈more,g.get? p.1=none/\p.1≠env.locals /\ ∀ q∈led,q.1≠p.1) :
  g.StaysIn (hideAll σ.heap ((more++led0++F).map (·.1)))/\(∀ p∈led,p.1∉ks.map U->(hideAll σ.heap ((more++led0++F).map (·.1))).get? p.1=some p.2) /\ ∀ o,σ.heap.get? env.locals=some o->(hideAll σ.heap ((more++led0++F).map (·.1))).get? env.locals=some o:=by
 have nin:∀ b,(∀ p∈more,p.1≠b)->(∀ p∈led0++F,p.1≠b)->b∉(more++led0++F).map (·.1):=fun b hn1 hn z=>by
  obtain ⟨p,hp,rfl⟩:=List.mem_map.mp z
  rw [List.append_assoc] at hp
  rcases List.mem_append.mp hp with y | y
  ·exact hn1 p y rfl
  ·exact hn p y rfl
 have inl:∀ p∈led0++F,p∈led++F:=fun p hp=>by
  rcases List.mem_append.mp hp with y | y
  ·exact List.mem_append_left _ (h2 p y)
  ·exact List.mem_append_right _ y
 refine ⟨fun b o q=>?_,fun p hp hn=>?_,fun o q=>?_⟩
 ·refine hideAll_get _ (D.fr.keep b o q) (nin b (fun p hp z=>?_) fun p hp z=>?_)
  ·have:=(hm p hp).1
   rw [z,q] at this;injection this
  ·have:=(D.nw p (inl p hp)).2.2
   rw [z,q] at this;injection this
 ·refine hideAll_get _ (D.at hp) (nin _ (fun q hq z=>(hm q hq).2.2 p hp z.symm) fun q hq z=>?_)
  rcases List.mem_append.mp hq with y | y
  ·exact hn (by rw [← z, ← h1];exact List.mem_map_of_mem y)
  ·have nd:=D.rel.nodup
   rw [List.map_append,List.nodup_append] at nd
   exact nd.2.2 _ (List.mem_map_of_mem hp) _ (List.mem_map_of_mem y) z.symm
 ·exact hideAll_get _ q (nin _ (fun p hp z=>(hm p hp).2.1 z) fun p hp z=>(D.nw p (inl p hp)).2.1 z)
theorem C1 (Z:Snd T w K lz mn mg mb r) (X:Sx T w K lz mn mg mb e env g A) (D:Dx T w e env g U m led F S σ) {c mm:Str} {a:Addr} {ks:List Nat} {vs:List V} {xs:List Value} {C:V->St->Prop} (ha:T.fa c mm=some a) (hv:Each (VR T F U S.n) vs xs) {d':Nat} (hd':e.d<=d') (h:rh r d' c mm ks vs S C)
  {R:Result->Shared->Prop} (hR:PostE T w e env g F U S.n σ C (fun v s'=>R (.ok (.ret v)) s')):codeAny (model PG w) A (.call (.ref a) ⟨xs,[]⟩) R σ:=by
 refine bc fun hG=>?_
 obtain ⟨os,vs0,hg,hk,hren,hcall⟩:=h
 rw [Bool.and_eq_true] at hk
 obtain ⟨hon,hc⟩:=hk
 have nd:=wy hon
 obtain ⟨led0,a1,a2,ρ0,h0,R0⟩:=rk D.rel hg hc nd
 obtain ⟨b1,b2,b3⟩:=C0 (more:=[]) D a1 a2 (fun p h=>(by contradiction))
 refine hG ?_
 rw [List.nil_append] at b1 b2 b3
 have B:Bs T w K lz mn mg mb d' (hideAll σ.heap ((led0++F).map (·.1))) A:=⟨X.tx,fun b o q=>b1 _ _ (X.kin b o q),X.top.keeps b1,by have:=X.depth;exact bz3 hd' this,by have:=X.units;exact bz4 hd' this,X.hand⟩
 have N:∀ p∈led0++F,σ.heap.get? p.1=some p.2:=fun p hp=>by
  rcases List.mem_append.mp hp with q | q
  ·exact D.at (a2 p q)
  ·exact D.frz q
 refine d7 Z B N R0 ha (w3 h0 hren hv) hcall fun F' ρ' led' h' t' v x S' ext keep N' R' hv' _ hp=>?_
 refine bc fun hG=>?_
 obtain ⟨os',xx,hos,hc',hr,hp⟩:=hp
 obtain ⟨led1,F1,x1,D1,f1,f2⟩:=m8 (t':=t') D hg nd h0 b2 b1 b3 ext (Nat.le_refl _) keep N' R' hos hc'
 refine hG ?_
 have en:=(jt ks os' S).1
 exact hR F1 U m led1 h' t' _ x _ (by exact en ▸ x1) D1 (.p (rl R' f1 f2 _ _ _ _ hv' hr)) hp
theorem rm (Z:Snd T w K lz mn mg mb r) (X:Sx T w K lz mn mg mb e env g A) (D:Dx T w e env g U m led F S σ) {c:Str} {Cx:Addr} {ks:List Nat} {vs:List V} {xs:List Value} {C:V->St->Prop} (hca:T.ca c=some Cx) (hv:Each (VR T F U S.n) vs xs) {d':Nat} (hd':e.d<=d') (h:kp r d' c ks vs S C)
  {R:Result->Shared->Prop} (hR:PostE T w e env g F U S.n σ C (fun v s'=>R (.ok (.ret v)) s')):codeAny (model PG w) A (.call (.ref Cx) ⟨xs,[]⟩) R σ:=by
 refine bc fun hG=>?_
 obtain ⟨os,vs0,c',m',hg,hk,hren,hm,hd,hcall⟩:=h
 rw [Bool.and_eq_true] at hk
 obtain ⟨hon,hc⟩:=hk
 have nd:=wy hon
 obtain ⟨fI,hfI,_,hfind,hfn⟩:=X.tx.meths _ _ _ _ _ hca hm
 refine hG ?_
 refine make_K D.fr D.nw (X.kin.keeps D.fr.keep) (X.tx.makes _ _ _ _ hca hm) hfind (beq_iff_eq.mp hfn) fun x dx h' F1 N1 l1 l2=>?_
 have D1:Dx T w e env g U m led F S (At σ h' σ.toks):=⟨F1,fun p hp=>N1 p (.tail _ (.tail _ hp)),D.rel,D.loc,D.cells⟩
 refine bc fun hG=>?_
 obtain ⟨led0,a1,a2,ρ0,h0,R0⟩:=rk D1.rel hg hc nd
 refine hG ?_
 have ha1:∀ p∈led0++F,p.1<dx:=fun p hp=>by
  rcases List.mem_append.mp hp with q | q
  ·exact l1 p (List.mem_append_left _ (a2 p q))
  ·exact l1 p (List.mem_append_right _ q)
 have R1:=R0.new (a:=dx) (vo:=.ns []) (o:=emptyDict) (fun p hp=>Nat.ne_of_lt (ha1 p hp)) (.ns (ds:=[]) (e:=0) .nil (Nat.zero_le _))
 have hρ:(if os.length=os.length+1 then x else (if os.length=os.length then dx else ρ0 os.length))=dx:=by rw [if_neg (Nat.ne_of_lt (Nat.lt_succ_self _)),if_pos rfl]
 have R2:Rel T w F (fun k=>if k=os.length+1 then x else (if k=os.length then dx else ρ0 k)) (new (.inst c os.length) (new (.ns []) ⟨[],build os 0 .nil,os.length⟩)) ((x,instObj Cx dx)::(dx,emptyDict)::led0):=by
  have z:=R1.new (a:=x) (vo:=.inst c os.length) (o:=instObj Cx dx) (fun p hp=>?_) ?_
  ·exact z
  ·rcases List.mem_cons.mp hp with q | q
   ·rw [q];exact Nat.ne_of_lt l2
   ·exact Nat.ne_of_lt (Nat.lt_trans (ha1 p q) l2)
  ·have:=OR.inst (T:=T) (w:=w) (F:=F) (U:=fun k=>if k=os.length+1 then x else (if k=os.length then dx else ρ0 k)) (n:=os.length+1+1) (a:=x) (d:=os.length) hca (Nat.lt_succ_of_lt (Nat.lt_succ_self _))
   rw [hρ] at this
   exact this
 have h0':∀ (i k:Nat),ks[i]? = some k->i<os.length/\(if i=os.length+1 then x else (if i=os.length then dx else ρ0 i))=U k:=fun i k hk=>by
  obtain ⟨q1,q2⟩:=h0 i k hk
  exact ⟨q1,by rw [if_neg (Nat.ne_of_lt (Nat.lt_succ_of_lt q1)),if_neg (Nat.ne_of_lt q1)];exact q2⟩
 have hx:(if os.length+1=os.length+1 then x else (if os.length+1=os.length then dx else ρ0 (os.length+1)))=x:=if_pos rfl
 have hself:VR T F (fun k=>if k=os.length+1 then x else (if k=os.length then dx else ρ0 k)) (os.length+1+1) (.ref (os.length+1)) (.ref x):=by
  have z:=VR.ref (T:=T) (F:=F) (U:=fun k=>if k=os.length+1 then x else (if k=os.length then dx else ρ0 k)) (n:=os.length+1+1) (k:=os.length+1) (Nat.lt_succ_self _)
  rw [hx] at z
  exact z
 obtain ⟨b1,b2,b3⟩:=C0 (more:=[(x,instObj Cx dx),(dx,emptyDict)]) D1 a1 a2 (fun p hp=>by
  have hp':p∈(x,instObj Cx dx)::(dx,emptyDict)::(led++F):=by
   rcases List.mem_cons.mp hp with q | q
   ·rw [q];exact .head _
   ·rw [List.mem_singleton] at q;rw [q];exact .tail _ (.head _)
  refine ⟨(N1 p hp').2.2,(N1 p hp').2.1,fun q hq=>?_⟩
  have hq:=l1 q (List.mem_append_left _ hq)
  rcases List.mem_cons.mp hp with z | z
  ·rw [z];exact Nat.ne_of_lt (Nat.lt_trans hq l2)
  ·rw [List.mem_singleton] at z;rw [z];exact Nat.ne_of_lt hq)
 have B:Bs T w K lz mn mg mb (d'+1) (hideAll (At σ h' σ.toks).heap (((x,instObj Cx dx)::(dx,emptyDict)::led0++F).map (·.1))) (A.under (.builtin "type.__call__" ⟨.ref Cx::xs,[]⟩)):=by
  have h1:=X.depth
  have h2:=X.units
  refine ⟨X.tx,fun b o q=>b1 _ _ (X.kin b o q),X.top.keeps b1,?_,?_,X.hand⟩
  ·show A.depth+1<=310+4 * (d'+1);exact azs hd' h1
  ·show A.units+(Code.builtin "type.__call__" ⟨.ref Cx::xs,[]⟩).cUnits<=100+60 * (d'+1)
   have:(Code.builtin "type.__call__" ⟨.ref Cx::xs,[]⟩).cUnits=1:=rfl
   exact azr hd' h2 this
 have N:∀ p∈(x,instObj Cx dx)::(dx,emptyDict)::led0++F,(At σ h' σ.toks).heap.get? p.1=some p.2:=fun p hp=>by
  rcases List.mem_append.mp hp with q | q
  ·rcases List.mem_cons.mp q with z | z
   ·rw [z];exact (N1 _ (.head _)).1
   ·rcases List.mem_cons.mp z with y | y
    ·rw [y];exact (N1 _ (.tail _ (.head _))).1
    ·exact D1.at (a2 p y)
  ·exact D1.frz q
 have hv0:=w3 h0 hren hv
 have up:Ext F ρ0 os.length F (fun k=>if k=os.length+1 then x else (if k=os.length then dx else ρ0 k)) (os.length+1+1):=⟨Nat.le_succ_of_le (Nat.le_succ _),fun k hk=>by
  show (if k=os.length+1 then x else (if k=os.length then dx else ρ0 k))=ρ0 k
  rw [if_neg (Nat.ne_of_lt (Nat.lt_succ_of_lt hk)),if_neg (Nat.ne_of_lt hk)],fun _ h=>h⟩
 refine d7 (σ:=At σ h' σ.toks) (R:=InitBack x R) Z B N R2 hfI (.cons hself (hv0.mono fun _ _ q=>up.vr q)) hcall fun F' ρ' led' h'' t'' v y S' ext keep N' R' hv' _ hp=>?_
 obtain ⟨rfl,os',xx,hos,hc',hr,hp⟩:=hp
 obtain ⟨led1,F1',x1,D2,f1,f2⟩:=m8 (t':=t'') D1 hg nd h0' b2 b1 b3 ext (Nat.le_succ_of_le (Nat.le_succ _)) keep N' R' hos hc'
 have en:=(jt ks os' S).1
 have e1:ρ' (os.length+1)=x:=(ext.same (os.length+1) (Nat.lt_succ_self _)).trans hx
 have z:=VR.ref (T:=T) (F:=F') (U:=ρ') (n:=S'.n) (k:=os.length+1) (Nat.lt_of_lt_of_le (Nat.lt_succ_self _) ext.le)
 rw [e1] at z
 cases hv' with
 | p hv' =>
  cases hv'
  exact ⟨rfl,hR F1' U m led1 h'' t'' _ _ _ (by rw [en];exact x1) D2 (.p (rl R' f1 f2 _ _ _ _ z hr)) hp⟩
end
noncomputable def T0:Pl:=⟨fun c m=>Ly c m FT,fun c=>look c CT,fun x=>look x JT,fun f=>look f PTs⟩
theorem X5 (h:Heap):(K0 h).In h:=by
 intro a o e
 unfold K0 at e
 have hm:=mem_of_lookupK e
 obtain ⟨b,_,hb⟩:=List.mem_filterMap.mp hm
 obtain ⟨o',ho,q⟩:=Option.map_eq_some_iff.mp hb
 cases q
 exact ho
theorem ou {c m:Str} {a:Addr}:∀ {l:List (Str×Str×Addr)},Ly c m l=some a->(c,m,a)∈l:=by
 intro l0
 induction l0 with
 | nil =>
  intro h
  injection h
 | cons p r ih =>
  intro h
  have h:(match seq p.1 c,seq p.2.1 m with | true,true=>some p.2.2 | _,_=>Ly c m r)=some a:=h
  split at h
  ·rename_i h1 h2
   (injection h with h;subst h)
   have e1:=seq_iff.mp h1
   have e2:=seq_iff.mp h2
   subst e1 e2
   exact .head _
  ·exact .tail _ (ih h)
theorem C2 {x:Str} {l:List Str} (h:l.any (seq x)=true):x∈l:=by
 obtain ⟨y,hy,hs⟩:=List.any_eq_true.mp h
 have:=seq_iff.mp hs
 rwa [this]
theorem w4 {x:Str}:∀ {l:List Str},Am x l=true->x∈l
 | y::l,h=>by
  have h:(match seq y x with | true=>true | false=>Am x l)=true:=h
  split at h
  ·rename_i q;rw [seq_iff.mp q];exact .head _
  ·exact .tail _ (w4 h)
end Mine
end
section
open PySem PySem.W PySem.Spec PySem.Calls PyProof.Rows PySem.SeqAt
namespace Mine
theorem d4 {p:Prop} (h:false=true):p:=by injection h
theorem ju {v:Option (Option Value)} {a:Addr} (h:isRef v a=true):v=some (some (.ref a)):=by
 induction v using Option.casesOn with
 | none=>exact d4 h
 | some v=>induction v using Option.casesOn with
  | none=>exact d4 h
  | some v=>induction v using Value.casesOn with
   | ref b=>rw [Nat.eq_of_beq_eq_true (show Nat.beq b a=true from h)]
   | _=>exact d4 h
theorem e9 {α:Type} {x:Str} {v:α} {l:List (Str×α)} (h:look x l=some v):(x,v)∈l:=by
 induction l with
 | nil=>exact nos h
 | cons p r ih =>
  have h:(match seq p.1 x with | true=>some p.2 | false=>look x r)=some v:=h
  induction q:seq p.1 x using Bool.casesOn with
  | true =>
   rw [q] at h
   obtain rfl:=Option.some.inj h
   rw [← (seq_iff.mp q:p.1=x)]
   exact .head _
  | false =>
   rw [q] at h
   exact .tail _ (ih h)
theorem M2:(CT.all fun c=>globNames.any (seq c.1)&&match glob c.1 with | some (.cls _)=>true | _=>false)=true:=by kernel_rfl
theorem X6:(CT.all fun c=>match look c.1 CT with | some a=>Nat.beq a c.2 | none=>false)=true:=by kernel_rfl
theorem M3:(JT.all fun c=>globNames.any (seq c.1)&&match glob c.1 with | some (.top _)=>true | _=>false)=true:=by kernel_rfl
theorem zm {x:Str} {v:P} (h:glob x=some v):x∈globNames:=by
 unfold glob at h
 split at h
 ·rename_i q;exact C2 q
 ·exact nos h
theorem zo {n:Nat} {c m:Str} {v:P} (h:cz n c m=some v):m∈methNames:=by
 unfold cz at h
 split at h
 ·rename_i q;exact C2 q
 ·exact nos h
theorem C3 {x:Expr} {v:Value} {y:V} (h:v5 x v=true) (hy:dflt x=some y):(y = .p .none/\v = .none)\/(∃ i t,y = .p (.int i)/\v = .int i t) \/ ∃ b,y = .p (.bool b)/\v = .bool b:=by
 unfold v5 at h
 rw [hy] at h
 induction y using V.casesOn with
 | ref=>exact d4 h
 | p y=>induction y using P.casesOn with
  | none=>induction v using Value.casesOn with
   | none=>exact .inl ⟨rfl,rfl⟩
   | _=>exact d4 h
  | int i=>induction v using Value.casesOn with
   | int j t=>exact .inr (.inl ⟨i,t,rfl,by rw [of_decide_eq_true h]⟩)
   | _=>exact d4 h
  | bool b=>induction v using Value.casesOn with
   | bool c=>exact .inr (.inr ⟨b,rfl,by rw [beq_iff_eq.mp h]⟩)
   | _=>exact d4 h
  | _=>exact d4 h
theorem zp {xs:List Expr}:∀ {vs:List Value},n4 xs vs=true->Each wb xs vs:=by
 induction xs with
 | nil=>intro vs h;induction vs using List.casesOn with
  | nil=>exact .nil
  | cons=>exact d4 h
 | cons x xs ih=>intro vs h;induction vs using List.casesOn with
  | nil=>exact d4 h
  | cons v vs =>
   have h:=Bool.and_eq_true_iff.mp (show (v5 x v&&n4 xs vs)=true from h)
   exact .cons (fun y hy=>C3 h.1 hy) (ih h.2)
section
variable {o:Option Value}
theorem Si {P:Addr} (h:(match o with | some (.ref q)=>Nat.beq q P | _=>false)=true):o=some (.ref P):=by
 induction o using Option.casesOn with
 | none=>exact d4 h
 | some v=>induction v using Value.casesOn with
  | ref q=>rw [Nat.eq_of_beq_eq_true (show Nat.beq q P=true from h)]
  | _=>exact d4 h
theorem Sj (h:(match o with | some (.str _ _)=>true | _=>false)=true):∃ x t,o=some (.str x t):=by
 induction o using Option.casesOn with
 | none=>exact d4 h
 | some v=>induction v using Value.casesOn with
  | str q t=>exact ⟨q,t,rfl⟩
  | _=>exact d4 h
theorem Kv (h:(match o with | some (.int _ _)=>true | _=>false)=true):∃ x t,o=some (.int x t):=by
 induction o using Option.casesOn with
 | none=>exact d4 h
 | some v=>induction v using Value.casesOn with
  | int q t=>exact ⟨q,t,rfl⟩
  | _=>exact d4 h
theorem is_bool (h:(match o with | some (.bool _)=>true | _=>false)=true):∃ x,o=some (.bool x):=by
 induction o using Option.casesOn with
 | none=>exact d4 h
 | some v=>induction v using Value.casesOn with
  | bool q=>exact ⟨q,rfl⟩
  | _=>exact d4 h
end
theorem fs {a b:Bool} (h:(a&&b)=true):a=true:=(Bool.and_eq_true_iff.mp h).1
theorem bq {a b:Bool} (h:(a&&b)=true):b=true:=(Bool.and_eq_true_iff.mp h).2
theorem C4 {o:Option Obj} {k:String->Option Addr->Array Value->Array (Option Value)->Bool} (h:(match o with | some ⟨.type t,d,.fields vs,sl⟩=>k t d vs sl | _=>false)=true):∃ t d vs sl,o=some ⟨.type t,d,.fields vs,sl⟩/\k t d vs sl=true:=by
 induction o using Option.casesOn with
 | none=>exact d4 h
 | some o =>
 obtain ⟨c,d,data,sl⟩:=o
 induction c using Value.casesOn with
 | type t =>
  induction data using Data.casesOn with
  | fields vs=>exact ⟨t,d,vs,sl,rfl,h⟩
  | _=>exact d4 h
 | _=>exact d4 h
theorem C5 {o:Option Obj} {k:Value->Option Addr->FuncData->Array (Option Value)->Bool} (h:(match o with | some ⟨c,d,.func fd,sl⟩=>k c d fd sl | _=>false)=true):∃ c d fd sl,o=some ⟨c,d,.func fd,sl⟩/\k c d fd sl=true:=by
 induction o using Option.casesOn with
 | none=>exact d4 h
 | some o =>
 obtain ⟨c,d,data,sl⟩:=o
 induction data using Data.casesOn with
 | func fd=>exact ⟨c,d,fd,sl,rfl,h⟩
 | _=>exact d4 h
theorem Hx {o:Option Obj} {k:Array Value->Bool} (h:(match o with | some ⟨_,_,.seq vs _,_⟩=>k vs | _=>false)=true):∃ c d vs n sl,o=some ⟨c,d,.seq vs n,sl⟩/\k vs=true:=by
 induction o using Option.casesOn with
 | none=>exact d4 h
 | some o =>
 obtain ⟨c,d,data,sl⟩:=o
 induction data using Data.casesOn with
 | seq vs n=>exact ⟨c,d,vs,n,sl,rfl,h⟩
 | _=>exact d4 h
theorem C6 {v:Value} {a:Bool} {b:Addr->Bool} (h:(match v with | .none=>a | .ref t=>b t | _=>false)=true):(v = .none/\a=true) \/ ∃ t,v = .ref t/\b t=true:=by
 induction v using Value.casesOn with
 | none=>exact .inl ⟨rfl,h⟩
 | ref t=>exact .inr ⟨t,rfl,h⟩
 | _=>exact d4 h
theorem C7 {K:Frag} {cc P:Addr} (h7:v6 K cc P=true) {h:Heap} (hin:K.In h):CodeHd h cc P:=by
 refine bc fun hG=>?_
 delta v6 at h7
 obtain ⟨t,dd,vs,sl,hcK,h7⟩:=C4 h7
 ·have h8:=bq h7
  have v11:=Si (fs h8)
  have h8:=bq h8
  obtain ⟨file,tf,v18⟩:=Sj (fs h8)
  have h8:=bq h8
  obtain ⟨fl,tg,v7⟩:=Kv (fs h8)
  have h8:=bq h8
  obtain ⟨inF,v9⟩:=is_bool (fs h8)
  have h8:=bq h8
  obtain ⟨text,tt,v10⟩:=Kv (fs h8)
  have g7:=bq h8
  have gd:∀ {i:Nat} {v:Value},vs[i]? = some v->vs.getD i .none=v:=fun {i v} e=>by rw [Array.getD_eq_getD_getElem?,e];rfl
  refine hG ⟨_,vs,file,tf,fl,tg,inF,text,tt,hin _ _ hcK,by rw [of_decide_eq_true (fs h7)],rfl,v11,gd v11,gd v18,gd v7,gd v9,gd v10,fun q=>?_⟩
  rw [q,Nat.beq_refl] at g7
  exact d4 g7
theorem X7 {K:Frag} {m:Str} {code:Value} (h7:(match tabNo m with
  | none=>true
  | some (_,f)=>(match code,look f PTs with
   | .ref cc,some P=>v6 K cc P
   | _,_=>false))=true):∀ k f,tabNo m=some (k,f) -> ∃ cc P,code = .ref cc/\T0.pa f=some P /\ ∀ h,K.In h->CodeHd h cc P:=by
 intro k f hkf
 rw [hkf] at h7
 dsimp only at h7
 induction code using Value.casesOn with
 | ref cc =>
  induction hP:look f PTs using Option.casesOn with
  | none=>rw [hP] at h7;exact d4 h7
  | some P=>rw [hP] at h7;exact ⟨cc,P,rfl,hP,fun h hin=>C7 h7 hin⟩
 | _=>exact d4 h7
theorem Sk {f:FuncData} {b:List Stmt} (h1:f.globals=mainGlobals) (h2:f.builtins=builtinsNs) (h3:f.closure=[]) (h4:f.body = .stmts b):f=fnX f.name f.qualname f.params b f.scope [] f.defaults f.kwdefaults f.doc f.pyModule f.annotations f.code f.closureTuple:=by
 obtain ⟨name,qual,params,body,scope,globals,closure,defaults,kwd,doc,pm,an,code,ct,bu⟩:=f
 obtain rfl:=h1
 obtain rfl:=h2
 obtain rfl:=h3
 obtain rfl:=h4
 rfl
theorem zq {α:Type} {o:FuncBody} {k:List Stmt->α} {x:α} (h:(match o with | .stmts b=>some (k b) | _=>none)=some x):∃ b,o = .stmts b/\k b=x:=by
 induction o using FuncBody.casesOn with
 | stmts b=>exact ⟨b,rfl,Option.some.inj h⟩
 | _=>exact nos h
theorem Hy {K:Frag} {m:Str} {fd:Fn} {ds:List Expr} {a:Addr} (h:As K m ds (gf fd.args) a=true) (hd:gm K a=some (fd.args,fd.body,fd.sc)):FnRec T0 K m fd ds a:=by
 refine bc fun hG=>?_
 delta As at h
 obtain ⟨oc,od,f,osl,hK,h⟩:=C5 (Bool.and_eq_true_iff.mp h).2
 delta gm at hd
 rw [hK] at hd
 obtain ⟨b,hb,hd⟩:=zq hd
 obtain ⟨aa,bb,cc⟩:=fd
 injection hd with e1 e2
 injection e2 with e2 e3
 subst e1 e2 e3
 have q2:=bq h
 have q3:=bq q2
 have q4:=bq q3
 have q5:=bq q4
 have q6:=bq q5
 have mk:=fun vals z1 z2=>FnRec.mk (T:=T0) (m:=m) (fd:=⟨f.params,b,f.scope⟩) (ds:=ds) (vals:=vals) (Sk (Nat.eq_of_beq_eq_true (fs h)) (Nat.eq_of_beq_eq_true (fs q2)) (bx (fs q3)) hb ▸ hK) (fs q4) z1 z2 (Nat.le_of_ble_eq_true (fs q5)) (X7 (bq q6))
 rcases C6 (fs q6) with ⟨e,h6⟩ | ⟨Td,e,h6⟩
 ·exact hG (mk [] (.inl ⟨e,rfl⟩) (bx h6 ▸ .nil))
 ·obtain ⟨c1,d1,vs,n1,s1,hT,h6⟩:=Hx h6
  exact hG (mk vs.toList (.inr ⟨Td,_,n1,e,hT,rfl⟩) (zp h6))
theorem C8:frameOk.once (d5 "JUMPS")=true:=by kernel_rfl
theorem u6 (kvs:List (Str×Value)) (k:Str):(valueAt kvs k).isSome=(kvs.map (·.1)).any (seq k):=by
 induction kvs with
 | nil=>rfl
 | cons p kvs ih =>
  show (valueAt (p::kvs) k).isSome=(seq k p.1||(kvs.map (·.1)).any (seq k))
  unfold valueAt at ih ⊢
  rw [List.find?_cons]
  by_cases e:p.1=k
  ·simp [e,d6]
  ·have:seq k p.1=false:=by
    induction q:seq k p.1 using Bool.casesOn with
    | false=>rfl
    | true=>exact absurd (seq_iff.mp q).symm e
   simp only [e,decide_false,this,Bool.false_or]
   exact ih
theorem jw {o:Option Addr} {k:Addr->Bool} (h:(match o with | some a=>k a | none=>false)=true):∃ a,o=some a/\k a=true:=by
 induction o using Option.casesOn with
 | none=>exact d4 h
 | some a=>exact ⟨a,rfl,h⟩
theorem Hz {o:Option P} (h:(match o with | some (.cls _)=>true | _=>false)=true):∃ y,o=some (.cls y):=by
 induction o using Option.casesOn with
 | none=>exact d4 h
 | some a=>induction a using P.casesOn with
  | cls y=>exact ⟨y,rfl⟩
  | _=>exact d4 h
theorem H0 {o:Option P} (h:(match o with | some (.top _)=>true | _=>false)=true):∃ y,o=some (.top y):=by
 induction o using Option.casesOn with
 | none=>exact d4 h
 | some a=>induction a using P.casesOn with
  | top y=>exact ⟨y,rfl⟩
  | _=>exact d4 h
theorem H3 {o:Option (Option Value)} {i:Int} (h:(match o with | some (some (.int j _))=>decide (j=i) | _=>false)=true):∃ t,o=some (some (.int i t)):=by
 induction o using Option.casesOn with
 | none=>exact d4 h
 | some a =>
 induction a using Option.casesOn with
 | none=>exact d4 h
 | some v=>induction v using Value.casesOn with
  | int j t=>exact ⟨t,by rw [of_decide_eq_true h]⟩
  | _=>exact d4 h
theorem rn {o:Option (Option Value)} (h:(match o with | some none=>true | _=>false)=true):o=some none:=by
 induction o using Option.casesOn with
 | none=>exact d4 h
 | some a =>
 induction a using Option.casesOn with
 | none=>rfl
 | some v=>exact d4 h
theorem C9 {α:Type} {o:Option Obj} {k:String->Array DictEntry->Array (Option Value)->Option α} {x:α} (h:(match o with | some ⟨.type t,none,.dict es _,sl⟩=>k t es sl | _=>none)=some x):∃ t es ep sl,o=some ⟨.type t,none,.dict es ep,sl⟩/\k t es sl=some x:=by
 induction o using Option.casesOn with
 | none=>exact nos h
 | some o =>
 obtain ⟨c,d,data,sl⟩:=o
 induction c using Value.casesOn with
 | type t =>
  induction d using Option.casesOn with
  | some=>exact nos h
  | none =>
  induction data using Data.casesOn with
  | dict es ep=>exact ⟨t,es,ep,sl,rfl,h⟩
  | _=>exact nos h
 | _=>exact nos h
theorem H4 {α:Type} {c:Bool} {a x:α} (h:(match c with | true=>some a | false=>none)=some x):c=true/\a=x:=by
 induction c using Bool.casesOn with
 | true=>exact ⟨rfl,Option.some.inj h⟩
 | false=>exact nos h
theorem H5 {v:Value} {k:Str} (h:Au v=some k):∃ t,v = .str k t:=by
 induction v using Value.casesOn with
 | str q t=>exact ⟨t,by rw [Option.some.inj h]⟩
 | _=>exact nos h
theorem Dd {w:World} (l:List DictEntry):∀ (ks:List Str),(l.map fun e=>(e.hash,Au e.key))=(ks.map fun k=>(hashStr w k,some k)) ->
  (∀ e∈l,∃ k,(PySem.strKind PG w).is k e.key=true/\e.hash=(PySem.strKind PG w).hash k)/\Pairs (PySem.strKind PG w) l (ks.zip (l.map (·.val)))/\(ks.zip (l.map (·.val))).map (·.1)=ks:=by
 induction l with
 | nil =>
  intro ks h
  induction ks using List.casesOn with
  | nil=>exact ⟨(fun e h=>absurd h List.not_mem_nil),.nil,rfl⟩
  | cons=>injection h
 | cons e l ih =>
  intro ks h
  induction ks using List.casesOn with
  | nil=>injection h
  | cons k ks =>
   injection h with h1 h2
   injection h1 with h3 h4
   obtain ⟨i1,i2,i3⟩:=ih ks h2
   obtain ⟨t,ht⟩:=H5 h4
   have his:(PySem.strKind PG w).is k e.key=true:=ht ▸ (show Value.isStrOf k (.str k t)=true by simp [Value.isStrOf])
   refine ⟨fun e' he'=>?_,.cons his rfl i2,congrArg (k :: ·) i3⟩
   rcases List.mem_cons.mp he' with q | q
   ·exact q ▸ (⟨k,his,h3⟩)
   ·exact i1 e' q
theorem M4 {w:World} {K:Frag} {a:Addr} (h:dj K a=b8 w):∃ o kvs,K.lookup a=some o/\o.IsDictOf (PySem.strKind PG w) kvs /\ ∀ k,(valueAt kvs k).isSome=(d5 "JUMPS").any (seq k):=by
 delta dj b8 at h
 obtain ⟨t,es,ep,sl,hK,h⟩:=C9 h
 obtain ⟨hc,h2⟩:=H4 (x:=(d5 "JUMPS").map fun k=>(hashStr w k,some k)) h
 clear h
 obtain rfl:=of_decide_eq_true (fs hc)
 obtain rfl:=Array.eq_empty_of_size_eq_zero (Nat.eq_of_beq_eq_true (bq hc))
 have nd:=iu C8
 generalize d5 "JUMPS" = ks at *
 obtain ⟨m1,m2,m3⟩:=Dd es.toList ks h2
 exact ⟨_,ks.zip (es.toList.map (·.val)),hK,⟨es,ep,⟨rfl,rfl,rfl⟩,rfl,fun e he=>m1 e (Array.mem_toList_iff.mpr he),m2,m3.symm ▸ nd⟩,fun k=>(u6 _ k).trans (congrArg (fun l:List Str=>l.any (seq k)) m3)⟩
section
variable {K:Frag} (h:Rb K=true)
include h
theorem M5 {a:Addr} {o:Obj} (e:K.lookup a=some o):Gg o.cls=true :=
 List.all_eq_true.mp (bq (bq (bq (bq (bq (bq (bq (bq h)))))))) _ (mem_of_lookupK e)
theorem h9 {x:Str} {v:P} (hg:glob x=some v):cg K x=true:=List.all_eq_true.mp (fs h) _ (zm hg)
theorem ow {c:Str} {C:Addr} (q:T0.ca c=some C):Ar K C=true:=List.all_eq_true.mp (fs (bq (bq h))) _ (e9 q)
theorem Kw {c m:Str} {a:Addr} (q:T0.fa c m=some a):(match fnOf c m with | some (fd,ds)=>As K m ds (gf fd.args) a | none=>keepIn K (.ref a))=true:=List.all_eq_true.mp (fs (bq (bq (bq (bq (bq (bq h))))))) _ (ou q)
theorem int_at {x:Str} {i:Int} (q:glob x=some (.int i)):∃ t,nsIn K mainGlobals x=some (some (.int i t)):=by
 have this:cg K x=true:=h9 h q
 delta cg at this
 rw [q] at this
 exact H3 this
theorem X8 {x y:Str} (q:glob x=some (.bi y)):y=x/\x ≠ "__name__" /\ nsIn K mainGlobals x=some none/\(bootBuiltins x).isSome=true:=by
 have this:cg K x=true:=h9 h q
 delta cg at this
 rw [q] at this
 have a1:=fs this
 have a2:=fs a1
 refine ⟨seq_iff.mp (bq a1),fun z=>?_,rn (fs a2),bq a2⟩
 have a4:(!seq x "__name__")=true:=bq this
 rw [z,d6] at a4
 exact d4 a4
theorem X9 {x c m:Str} (q:glob x=some (.fn c m)):∃ a,Ly noStr x FT=some a/\isRef (nsIn K mainGlobals x) a=true:=by
 have this:cg K x=true:=h9 h q
 delta cg at this
 rw [q] at this
 exact jw this
theorem Kx {x c:Str} (q:glob x=some (.cls c)):∃ a,look x CT=some a/\isRef (nsIn K mainGlobals x) a=true:=by
 have this:cg K x=true:=h9 h q
 delta cg at this
 rw [q] at this
 exact jw this
theorem Ky {x c:Str} (q:glob x=some (.top c)):∃ a,look x JT=some a/\isRef (nsIn K mainGlobals x) a=true:=by
 have this:cg K x=true:=h9 h q
 delta cg at this
 rw [q] at this
 exact jw this
theorem M6 {c a:Str} {C:Addr} (q1:T0.ca c=some C) (q2:di c a=true):AttrOk K C a:=by
 have c1:=ow h q1
 have c2:=bq c1
 have c3:=bq c2
 have this:nz K c C a=true:=List.all_eq_true.mp (List.all_eq_true.mp (fs (bq (bq (bq h)))) _ (e9 q1)) a (w4 (fs q2))
 delta nz at this
 have e:Lq c a=false:=(Bool.not_eq_true' _).mp (bq q2)
 rw [e] at this
 have hn:findIn K (.ref C) a=some none:=rn this
 exact ⟨fs c1,fs c2,⟨none,hn,rfl⟩,beq_iff_eq.mp (bq (bq (bq c3))),fs c3,by delta takerIn;rw [hn];rfl⟩
theorem M7 {c m c' m':Str} {C:Addr} (q1:T0.ca c=some C) (q2:cz 3 c m=some (.fn c' m')):∃ a,T0.fa c' m'=some a/\plainGet K C m=true/\findIn K (.ref C) m=some (some (.ref a))/\isFn K (.ref a)=true:=by
 have this:n3 K c C m=true:=List.all_eq_true.mp (List.all_eq_true.mp (fs (bq (bq (bq (bq h))))) _ (e9 q1)) m (zo q2)
 delta n3 at this
 rw [q2] at this
 obtain ⟨a,ha,this⟩:=jw this
 exact ⟨a,ha,fs (ow h q1),ju (fs this),bq this⟩
theorem Sl {c d:Str} {C D:Addr} (q1:T0.ca c=some C) (q2:T0.ca d=some D) (q3:jz 4 c d=true):isIn K (.ref C) D=true:=by
 have this:v4 K c C d D=true:=List.all_eq_true.mp (List.all_eq_true.mp (fs (bq (bq (bq (bq (bq h)))))) _ (e9 q1)) _ (e9 q2)
 delta v4 at this
 rw [q3] at this
 exact this
theorem Sm {x:Str} {a:Addr} (q:T0.fa noStr x=some a):nsIn K mainGlobals x=some (some (.ref a)):=by
 have this:Gf K (noStr,x,a)=true:=List.all_eq_true.mp (fs (bq h)) _ (ou q)
 delta Gf at this
 rw [d6] at this
 exact ju this
theorem M8 {x:Str} {a:Addr} (q:T0.ca x=some a):nsIn K mainGlobals x=some (some (.ref a)):=by
 obtain ⟨y,hy⟩:=Hz (bq (List.all_eq_true.mp M2 _ (e9 q)))
 obtain ⟨b,e,r⟩:=Kx h hy
 obtain rfl:=Option.some.inj (e.symm.trans q)
 exact ju r
theorem M9 {x:Str} {a:Addr} (q:T0.ta x=some a):nsIn K mainGlobals x=some (some (.ref a)):=by
 obtain ⟨y,hy⟩:=H0 (bq (List.all_eq_true.mp M3 _ (e9 q)))
 obtain ⟨b,e,r⟩:=Ky h hy
 obtain rfl:=Option.some.inj (e.symm.trans q)
 exact ju r
theorem H6 {c m:Str} {a:Addr} (q:T0.fa c m=some a):keepIn K (.ref a)=true:=by
 have this:=Kw h q
 induction e:fnOf c m using Option.casesOn with
 | none=>rw [e] at this;exact this
 | some p=>rw [e] at this;exact fs this
theorem Sn {c m:Str} {a:Addr} {fd:Fn} {ds:List Expr} (hd:∀ p∈FT,gm K p.2.2=gn p.1 p.2.1) (q1:T0.fa c m=some a) (q2:fnOf c m=some (fd,ds)):FnRec T0 K m fd ds a:=by
 have this:=Kw h q1
 rw [q2] at this
 have hdd:gm K a=(fnOf c m).map fun x=>(x.1.args,x.1.body,x.1.sc):=hd _ (ou q1)
 rw [q2] at hdd
 exact Hy this hdd
end
theorem Na {w:World} {K:Frag} (hj:dj K 799=b8 w) {x:Str} {a:Addr} (q:T0.ta x=some a):∃ o kvs,K.lookup a=some o/\o.IsDictOf (PySem.strKind PG w) kvs/\(a == sysModules)=false /\ ∀ k,(valueAt kvs k).isSome=(d5 x).any (seq k):=by
 have q:=List.mem_singleton.mp (e9 (show look x JT=some a from q))
 injection q with e1 e2
 subst e1 e2
 obtain ⟨o,kvs,z1,z2,z3⟩:=M4 hj
 exact ⟨o,kvs,z1,z2,rfl,z3⟩
theorem Yb {w:World} {K:Frag} (h:Rb K=true) (hd:∀ p∈FT,gm K p.2.2=gn p.1 p.2.1) (hj:dj K 799=b8 w):Tx T0 w K where
 gfn _ _:=Sm h
 gcls _ _:=M8 h
 gtop _ _:=M9 h
 gint _ _:=int_at h
 gbi _ _:=X8 h
 gfa _ q:=Option.isSome_iff_exists.mpr ((X9 h q).imp fun _=>And.left)
 gca _ q:=Option.isSome_iff_exists.mpr ((Kx h q).imp fun _=>And.left)
 gta _ q:=Option.isSome_iff_exists.mpr ((Ky h q).imp fun _=>And.left)
 tops _ _:=Na hj
 sysm:=Option.isSome_iff_exists.mp (fs (bq (bq (bq (bq (bq (bq (bq h))))))))
 attr _ _ _:=M6 h
 fns _ _ _ _ _:=Sn h hd
 meths _ _ _ _ _:=M7 h
 makes _ _ _ _ q _:=fs (bq (bq (bq (ow h q))))
 isas _ _ _ _:=Sl h
 keepC _ _ q:=fs (bq (bq (bq (bq (ow h q)))))
 keepF _ _ _:=H6 h
end Mine
end
section
open PySem PySem.W PyProof.Rows
set_option tactic.hygienic false
namespace Mine
open Classical
theorem w5 {S:SharedT} {a:Nat} (h:(Nat.blt a S.n&&(S.tree.get a).isSome)=true):S.abs.heap.get? a=Rc S a:=by
 rw [Bool.and_eq_true] at h
 obtain ⟨o,ho⟩:=Option.isSome_iff_exists.mp h.2
 have hlt:a<S.n:=Nat.lt_of_succ_le (Nat.le_of_ble_eq_true h.1)
 unfold Rc
 rw [h.1,ho]
 exact abs_get hlt ho
theorem So {S:SharedT} (h:Rd S=true):K0 S.abs.heap=KT S:=by
 delta Rd at h
 rw [List.all_append,Bool.and_eq_true] at h
 have h1:=List.all_eq_true.mp h.1
 delta K0 KT
 generalize addrs=l at h1
 induction l with
 | nil=>rfl
 | cons a l ih =>
  rw [List.filterMap_cons,List.filterMap_cons,w5 (h1 a (.head _)),ih (fun x hx=>h1 x (.tail _ hx))]
noncomputable def Yc (h:Heap):Prop:=Rb (K0 h)=true/\(∀ p∈FT,gm (K0 h) p.2.2=gn p.1 p.2.1) /\ ∀ p∈PTs,gp (h.get? p.2)=true
noncomputable def Yf (s:Shared):Option (List (Int×Option Str))×Bool:=(dj (K0 s.heap) 799,decide (Yc s.heap))
noncomputable def Ya (w:World):Option (List (Int×Option Str))×Bool:=(b8 w,true)
theorem rp {α β:Type} {f g:α->β}:∀ {l:List α},l.map f=l.map g -> ∀ x∈l,f x=g x
 | a::l,h,x,hx=>by
  rw [List.map_cons,List.map_cons,List.cons.injEq] at h
  rcases List.mem_cons.mp hx with q | q
  ·rw [q];exact h.1
  ·exact rp h.2 x q
theorem Yd {S:SharedT} {w:World} (h:obsT S=Lz w):Yf S.abs=Ya w:=by
 unfold obsT az3 Lz at h
 obtain ⟨h1,h2⟩:=Prod.mk.inj h
 obtain ⟨h2,h3⟩:=Prod.mk.inj h2
 rw [Bool.and_eq_true,Bool.and_eq_true] at h1
 obtain ⟨c1,c2,c3⟩:=h1
 have e:=So c2
 unfold Yf Ya
 rw [e,h3]
 refine Prod.ext rfl ?_
 refine decide_eq_true ⟨by rw [e];exact c1,fun p hp=>by rw [e];exact rp h2 p hp,fun p hp=>?_⟩
 have c4:=List.all_eq_true.mp c3 p hp
 unfold Rd at c2
 rw [List.all_append,Bool.and_eq_true] at c2
 rw [w5 (List.all_eq_true.mp c2.2 _ (List.mem_map_of_mem hp))]
 exact c4
theorem H7 {α β γ:Type} {x y:Option α} {f:α->β} {g:α->γ} {u:β} {v:γ} (h:(x.map (fun s=>(f s,g s)),y.map (fun s=>(f s,g s)))=(some (u,v),some (u,v))) :
  (∃ S,x=some S/\f S=u/\g S=v) /\ ∃ S,y=some S/\f S=u/\g S=v:=by
 obtain ⟨h1,h2⟩:=Prod.mk.inj h
 obtain ⟨S,a,b⟩:=Option.map_eq_some_iff.mp h1
 obtain ⟨S',a',b'⟩:=Option.map_eq_some_iff.mp h2
 obtain ⟨b1,b2⟩:=Prod.mk.inj b
 obtain ⟨b1',b2'⟩:=Prod.mk.inj b'
 exact ⟨⟨S,a,b1,b2⟩,S',a',b1',b2'⟩
theorem De {P:Params} {s:Shared} {y} (h:looks P s=(true,y)):(staticsOk (importedModules PW.main.body) (boot_heap P) s.heap&&namesBound PW s.heap&&gensDone s&&laidKept (boot_heap P) s.heap)=true:=by
 unfold looks at h
 exact (Prod.mk.inj h).1
theorem Df {P:Params} {s:Shared} {y} (h:looks P s=(true,y)):openSeen qV lz (importedModules PW.main.body) (fun _=>true) true s=y:=by
 unfold looks at h
 exact (Prod.mk.inj h).2
theorem H8 {w:World} {os:OsState} {b:Bool} {S:SharedT} (h:both w os b=some S) (hb:w.params.followText "special-get-raises" = b):topRun treeTable PW w 11 (some (.ref 6)) 8980 ⟨boot_heap w.params, #[],boot_drawn,boot_toks,os⟩ (topStub PW)=some S.abs:=by
 rw [← Q1]
 delta both at h
 induction hg:goT PW w 6980 (S0 w.params os) (topStub PW) using Option.casesOn with
 | none=>rw [hg] at h;injection h
 | some r =>
  obtain ⟨s,t⟩:=r
  rw [hg] at h
  dsimp only at h
  rw [← hb,World.withFollow_self] at h
  exact F9 hg (Al h)
theorem Nb (w:World):((boot_heap w.params).isNs mainGlobals&&(#[]:Array GenState).size == 0)=true/\(boot_heap w.params).objs.size=11/\(boot_heap w.params).nsMap mainGlobals "__annotations__" = some (.ref 6):=by
 have sz:((boot_heap w.params).isNs mainGlobals&&(#[]:Array GenState).size == 0,(boot_heap w.params).objs.size,(boot_heap w.params).nsMap mainGlobals "__annotations__")=(true,11,some (.ref 6)):=by kernel_rfl
 exact ⟨congrArg Prod.fst sz,congrArg (fun x=>x.2.1) sz,congrArg (fun x=>x.2.2) sz⟩
theorem Nc (w:World):(fencedOpening treeTable PW w 8980).map (fun s=>(s.heap,s.gens,s.drawn,s.toks))=some (boot_heap w.params,Array.mk [],boot_drawn,boot_toks):=boot_open (p:=PW) (N:=8980) (by kernel_rfl) (by rfl) (fun _=>rfl) w
theorem Dg (w:World):∃ os,fencedOpening treeTable PW w 8980=some ⟨boot_heap w.params, #[],boot_drawn,boot_toks,os⟩:=by
 obtain ⟨⟨h,gs,d,k,os⟩,e,e'⟩:=Option.map_eq_some_iff.mp (Nc w)
 obtain ⟨e1,e2'⟩:=Prod.mk.inj e'
 obtain ⟨e2,e3'⟩:=Prod.mk.inj e2'
 obtain ⟨e3,e4⟩:=Prod.mk.inj e3'
 dsimp only at e1 e2 e3 e4
 clear e' e2' e3'
 subst e1 e2 e3 e4
 exact ⟨os,e⟩
theorem H9 (w:World) (os:OsState) (b:Bool):∃ S,both w os b=some S/\looks w.params S.abs=(true,openGood qV lz)/\obsT S=Lz w:=by
 have q:=H7 (Gh w os)
 induction b using Bool.casesOn with
 | false=>exact q.1
 | true=>exact q.2
theorem u7 {p:Program} {w:World} {N m:Nat} {ann:Option Value} {s s':Shared} (z1:(s.heap.isNs mainGlobals&&s.gens.size == 0)=true) (z2:s.heap.objs.size=m) (z3:s.heap.nsMap mainGlobals "__annotations__" = ann)
  (r:topRun treeTable p w m ann N s (topStub p)=some s') (l:(staticsOk (importedModules p.main.body) s.heap s'.heap&&namesBound p s'.heap&&gensDone s'&&laidKept s.heap s'.heap)=true):topFrom treeTable p w N s=some s':=by
 unfold topFrom
 rw [z1,z2,z3,r]
 show (match staticsOk (importedModules p.main.body) s.heap s'.heap&&namesBound p s'.heap&&gensDone s'&&laidKept s.heap s'.heap with | true=>_ | false=>_)=_
 rw [l]
theorem Dh {p q:Program} {lz:List Str} {w:World} {N:Nat} {α:Type} {Yf:Shared->α} {y:α} {s s':Shared} (e:fencedOpening treeTable p w N=some s) (t:topFrom treeTable p w N s=some s')
  (o:openSeen q lz (importedModules p.main.body) (fun _=>true) true s'=openGood q lz) (hy:Yf s'=y) :
  (openEnds treeTable p w N).map (fun s=>(openSeen q lz (importedModules p.main.body) (fun _=>true) true s,Yf s))=some (openGood q lz,y):=by
 unfold openEnds
 rw [e]
 show (topFrom treeTable p w N s).map _=_
 rw [t]
 show some _=some _
 rw [← o, ← hy]
theorem Ye:LeftO PW qV lz (fun _=>true) Yf Ya 8980:=fun w=>by
 obtain ⟨os,e⟩:=Dg w
 obtain ⟨S,h1,h2,h3⟩:=H9 w os (w.params.followText "special-get-raises")
 obtain ⟨z1,z2,z3⟩:=Nb w
 exact Dh e (u7 (s:=⟨boot_heap w.params, #[],boot_drawn,boot_toks,os⟩) z1 z2 z3 (H8 h1 rfl) (De h2)) (Df h2) (Yd h3)
noncomputable def Kept (w:World) (h:Heap):Prop:=∃ K:Frag,K.In h/\Rb K=true/\(∀ p∈FT,gm K p.2.2=gn p.1 p.2.1)/\dj K 799=b8 w /\ ∀ p∈PTs,gp (h.get? p.2)=true
theorem Nd {w:World} {s:Shared} (h:Yf s=Ya w):Kept w s.heap:=by
 unfold Yf Ya at h
 obtain ⟨h1,h2⟩:=Prod.mk.inj h
 obtain ⟨g1,g2,g3⟩:=of_decide_eq_true h2
 exact ⟨K0 s.heap,X5 _,g1,g2,h1,g3⟩
theorem zt {w:World} {h h':Heap} (x:Kept w h) (k:∀ b o,h.get? b=some o->h'.get? b=some o):Kept w h':=by
 obtain ⟨K,h1,h2,h3,h4,h5⟩:=x
 refine ⟨K,h1.keeps k,h2,h3,h4,fun p hp=>?_⟩
 have:=h5 p hp
 induction q:h.get? p.2 using Option.casesOn with
 | none=>rw [q] at this;injection this
 | some o=>rw [q] at this;exact (k _ _ q) ▸ this
end Mine
end
section
open PySem PySem.W PyProof.Rows
set_option tactic.hygienic false
namespace Mine
theorem Yg:PySem.W.Fast.tw6116379765354995101 TablesWhole.holds PW.main=true:=by kernel_rfl
theorem whole:PW.tablesWhole=true:=by
 have h:=Yg
 rw [← PySem.W.Fast.te6116379765354995101] at h
 show TablesWhole.holds.all [TablesWhole.wModule TablesWhole.holds PW.main,_,_,_]=true
 rw [h]
 rfl
theorem bare:PW.bare:=⟨rfl,rfl,rfl,rfl,rfl,whole⟩
end Mine
end
section
open PySem PySem.W PySem.Spec PySem.Calls PyProof.Rows PySem.SeqAt
set_option tactic.hygienic false
namespace Mine
section
variable {h:Heap} {as:List Addr} {mg mb:Str->Option Value} {p:Program} {loose:List Str} {mean:ExcName->Option Value}
noncomputable def Plain (h:Heap) (as:List Addr):Prop:=∀ a∈as,∀ o,h.get? a=some o->(∀ es ep,o.data ≠ .dict es ep)/\o.cls ≠ .type "module"
theorem w6 {b:Addr} {o:Obj} (hp:Plain h as) (e:h.get? b=some o) (hn:(∃ es ep,o.data = .dict es ep)\/o.cls = .type "module"):(hideAll h as).get? b=some o :=
 hideAll_get _ e fun q=>by
  obtain ⟨h1,h2⟩:=hp b q o e
  rcases hn with ⟨es,ep,z⟩ | z
  ·exact h1 es ep z
  ·exact h2 z
theorem oy {a:Addr} {mm:Str->Option Value} (hp:Plain h as) (x:h.Ns a mm):(hideAll h as).Ns a mm :=
 let ⟨o,es,ep,e,hd,r⟩:=x; ⟨o,es,ep,w6 hp e (.inl ⟨_,_,hd⟩),hd,r⟩
theorem Ia (hp:Plain h as) (T:Top p loose mean mg mb h) :
  Top topProg (loose++(recsOf p).map (·.name)++(litsOf p).map (·.1)++(clssOf p loose).map (·.name)) mean mg mb (hideAll h as) where
 g:=oy hp T.g
 b:=oy hp T.b
 nolimit:=let ⟨mc,a,r⟩:=T.nolimit; ⟨mc,oy hp a,r⟩
 nodigits:=let ⟨mc,a,r⟩:=T.nodigits; ⟨mc,oy hp a,r⟩
 fn:=fun d hd=>absurd (show d∈([]:List DefRec) from hd) List.not_mem_nil
 own:=fun o ho=>absurd (show o∈([]:List OwnSpec) from ho) List.not_mem_nil
 const:=fun x d e=>by cases (show (none:Option PyData)=some d from e)
 free:=fun x h1 h2 _ _ _=>T.free x h1 (fun q=>h2 (List.mem_append_left _ (List.mem_append_left _ (List.mem_append_left _ q))))
  (fun q=>h2 (List.mem_append_left _ (List.mem_append_left _ (List.mem_append_right _ q)))) (fun q=>h2 (List.mem_append_left _ (List.mem_append_right _ q))) fun q=>h2 (List.mem_append_right _ q)
 builtins:=T.builtins
 tab:=fun d hd=>absurd (show d∈([]:List DefRec) from hd) List.not_mem_nil
 bmain:=let ⟨bm,ob,a1,a2,a3,a4,r⟩:=T.bmain; ⟨bm,ob,a1,a2,w6 hp a3 (.inr a4),a4,r⟩
 seer:=fun e=>absurd (show false=true from e) Bool.false_ne_true
end
end Mine
end
section
open PySem PySem.W PySem.Spec PySem.Calls PyProof.Rows PySem.SeqAt
namespace Mine
noncomputable abbrev RWL:OpenLaw:=PySem.Challenge.rw_nt0133_01
theorem nob {p:Prop} (h:false=true):p:=by injection h
theorem Nf {d:WData} (h:WShape.has [] d .int=true):∃ i,d = .int i:=by
 induction d using W.WData.casesOn with
 | int i=>exact ⟨i,rfl⟩
 | _=>exact nob h
theorem Ng {xs:List WData} (h:WShape.hasItems [] xs .int=true):∃ ns:List Int,xs=ns.map .int:=by
 induction xs with
 | nil=>exact ⟨[],rfl⟩
 | cons x xs ih =>
  have h:(WShape.has [] x .int&&WShape.hasItems [] xs .int)=true:=h
  obtain ⟨i,rfl⟩   := Nf (Bool.and_eq_true_iff.mp h).1
  obtain ⟨ns,rfl⟩:=ih (Bool.and_eq_true_iff.mp h).2
  exact ⟨i::ns,rfl⟩
theorem Nh {d:WData} (h:WShape.has [] d (.list .int)=true):∃ xs,d = .list xs/\WShape.hasItems [] xs .int=true:=by
 induction d using W.WData.casesOn with
 | list xs =>
  have h:(WShape.hasItems [] xs .int||false)=true:=h
  exact ⟨xs,rfl,(Bool.or_false _).symm.trans h⟩
 | _=>exact nob h
theorem Di {args:List WData} (h:WShape.hasAll [] args [.list .int]=true):∃ ns:List Int,args=[.list (ns.map .int)]:=by
 induction args using List.casesOn with
 | nil=>exact nob h
 | cons d ds =>
  have h:(WShape.has [] d (.list .int)&&WShape.hasAll [] ds [])=true:=h
  obtain ⟨xs,rfl,h1⟩:=Nh (Bool.and_eq_true_iff.mp h).1
  obtain ⟨ns,rfl⟩:=Ng h1
  induction ds using List.casesOn with
  | nil=>exact ⟨ns,rfl⟩
  | cons=>exact nob (Bool.and_eq_true_iff.mp h).2
theorem Dj {cl:Str->Option Addr} {h:Heap} {vs:List Value} {as:List Addr} (q:ReadsAllW [] cl h vs [] as):vs=[]:=by
 cases q;rfl
theorem zu {cl:Str->Option Addr} {h:Heap} {n:Int} {ds:List WData} {vs:List Value} {as:List Addr} (q:ReadsAllW [] cl h vs (.int n::ds) as):∃ t vs' as',vs = .int n t::vs'/\ReadsAllW [] cl h vs' ds as':=by
 cases q with
 | cons h1 h2 =>
  cases h1 with
  | int i t=>exact ⟨t,_,_,rfl,h2⟩
theorem zv {cl:Str->Option Addr} {h:Heap} {ns:List Int}:∀ {vs:List Value} {as:List Addr},ReadsAllW [] cl h vs (ns.map .int) as->Each (fun (n:Int) v=>∃ t,v=Value.int n t) ns vs:=by
 induction ns with
 | nil=>intro vs as q;rw [Dj q];exact .nil
 | cons n ns ih =>
  intro vs as q
  obtain ⟨t,vs',as',rfl,q'⟩:=zu q
  exact .cons ⟨t,rfl⟩ (ih q')
theorem Ni {w:World} {s₀ s₁:Shared} {ns:List Int} {vs:List Value} {as:List Addr} (L:Laid [] w s₀ s₁ [.list (ns.map .int)] vs as):∃ a its,vs=[.ref a]/\s₁.heap.get? a=some (listOf its.toArray 0)/\Each (fun (n:Int) v=>∃ t,v=Value.int n t) ns its:=by
 obtain ⟨ord,_,hl⟩:=L.laid
 have hr:=L.reads
 cases hr with
 | cons h1 h2 =>
  rename_i v vs' as' bs'
  cases h2
  cases h1 with
  | list g1 g2 g3 g4 =>
   rename_i a o its n as''
   have hi:=zv g4
   simp only [layAllW] at hl
   split at hl
   ·rename_i q hq
    obtain ⟨q2,_,rfl⟩:=layW_list hq
    simp only [Option.some.injEq,Prod.mk.injEq] at hl
    obtain ⟨e1,e2⟩:=hl
    have e3:q2.2.heap.objs.size=a:=by simpa using e1
    have e4:s₁.heap.get? a=some (listOf q2.1.toArray 0):=by
     rw [← e2, ← e3]
     exact Heap.get?_push_size _ rfl
    rw [e4] at g1
    (injection g1 with g1;subst g1)
    have e5:q2.1.toArray=its:=by
     have:Data.seq q2.1.toArray 0=Data.seq its n:=g3
     injection this
    have e6:its.toList=q2.1:=by rw [← e5]
    rw [e6] at hi
    exact ⟨a,q2.1,rfl,e4,hi⟩
   ·injection hl
end Mine
end
section
open PySem PySem.W PySem.Spec PySem.Calls PyProof.Rows PySem.SeqAt
set_option tactic.hygienic false
namespace Mine
theorem pre_of {args:List WData} (h:RWL.row.claim.pre args=true):∃ ns:List Int,args=[.list (ns.map .int)]/\ns.length<=63:=by
 obtain ⟨h1,h2⟩:=pre_splitW (r:=RWL.row.toRowW) h
 obtain ⟨ns,rfl⟩:=Di h1
 refine ⟨ns,rfl,?_⟩
 have h2:WTm.holds [] (OpenLaw.pre RWL) { args:=[.list (ns.map .int)] }=true:=h2
 have e1:RWL.most=some 63:=rfl
 have e2:RWL.bound=none:=rfl
 unfold OpenLaw.pre at h2
 rw [e1,e2] at h2
 simp [WTm.holds,WTm.value] at h2
 have e3:W.less? (WData.int 63) (WData.int ns.length)=some (decide ((63:Int)<ns.length)):=rfl
 rw [e3] at h2
 induction q:decide ((63:Int)<ns.length) using Bool.casesOn with
 | true=>rw [q] at h2;simp at h2
 | false=>have:=of_decide_eq_false q;omega
end Mine
end
section
open PySem PySem.W PyProof.Rows
set_option tactic.hygienic false
namespace Mine
abbrev RW:OpenLaw:=PySem.Challenge.rw_nt0133_01
theorem Sp:∃ d,defOf qV RW.row.name=some (d,[])/\PW.theDef RW.row.name=some (d.params,d.body,d.scope)/\kwWritten? d.params.kwonlyargs d.params.kw_defaults=some []:=by
 induction h:defOf qV RW.row.name using Option.casesOn with
 | none=>exact absurd (show (defOf qV RW.row.name).isSome=true by kernel_rfl) (by rw [h];decide)
 | some r =>
  obtain ⟨d,k⟩:=r
  have h1:(defOf qV RW.row.name).map (fun r=>(r.2,some (r.1.params,r.1.body,r.1.scope),kwWritten? r.1.params.kwonlyargs r.1.params.kw_defaults))=some ([],PW.theDef RW.row.name,some []):=by kernel_rfl
  rw [h] at h1
  have h2:=Option.some.inj h1
  obtain ⟨a,b'⟩:=Prod.mk.inj h2
  obtain ⟨b,c⟩:=Prod.mk.inj b'
  dsimp only at a b c
  subst a
  exact ⟨d,rfl,b.symm,c⟩
theorem okq:(chainsOk qV&&opensWell RW.row.prog&&(frees RW.row.toRowW&&RW.row.within.isEmpty))=true:=by kernel_rfl
theorem promised:RW.row.toRowW.promised:=by w_witness2
noncomputable abbrev CallAsk:Prop:=∀ (w:World) (s₀ s₁:Shared) (mg mb:Str->Option Value),Ground qV lz [] (fun _ _=>True) w s₀ mg mb s₁.heap->Kept w s₁.heap -> ∀ (args:List WData) (vs:List Value) (as:List Addr),
   RW.row.claim.pre args=true->WData.layableAll args=true->Laid [] w s₀ s₁ args vs as->sysModules<s₀.heap.objs.size -> ∃ f,mg RW.row.name=some f /\
    wpAny (model PW w) callerA (PySem.call f vs) (fun v s'=>GoodWG RW.row.claim (classAt s₀.heap) (ExcName.means s₀.heap) args s₁ (.ok (.ret v)) s')
     (fun e s'=>GoodWG RW.row.claim (classAt s₀.heap) (ExcName.means s₀.heap) args s₁ (.error e) s') s₁
theorem head (call:CallAsk):RW.Holds:=by
 refine holds_law bzu fun k1=>⟨k1,promised,?_⟩
 obtain ⟨d,hdef,hp,hk⟩:=Sp
 refine open_anyG (r:=RW.row.toRowW) (q:=qV) (loose:=lz) (Xt:=fun _=>true) (XP:=fun _ _=>True) (Yf:=Yf) (Ya:=Ya) (YP:=Kept) (N:=8980) (run:=fun f vs=>PySem.call f vs) (tree:=fun vs=>do match ← nsGet mainNs RW.row.name with
   | some f=>do ret (← PySem.call f vs)
   | none=>unsupported "claim.caller:no-such-global") Ye (fun w s e=>Nd e) (fun w h h' x k=>zt x k) (fun _ _=>trivial) (fun _ _ _ _ _=>trivial) (fun _ _=>recFacts_nil rfl) (by rfl) okq bare promised
  (fun vs w s mg f Q E hg hf h=>wpAny_bind (wpAny_nsGet hg (by exact hf ▸ (wpAny_bind (wpAny_mono h (fun _ _ x=>wpAny_pure x) fun _ _ x=>x)))))
  (fun w s hg G n hn=>?_) fun w s₀ s₁ mg mb G Y args vs as hpre hlay L low=>call w s₀ s₁ mg mb G Y args vs as hpre hlay L low
 obtain rfl:n=RW.row.name:=by
  have:RW.row.pinned=true:=rfl
  rw [this] at hn
  simpa using hn
 exact pinned_of_view hg G hdef hp hk
end Mine
end
section
open PySem PySem.W PySem.Spec PySem.Calls PyProof.Rows PySem.SeqAt
namespace Mine
noncomputable def zw:List VO:=[.tab "_law_program" false,.tab "walk_list" false,.tab "walk_rowid" false,.tab "walk_index" false]
noncomputable def S4:St:=⟨[],build zw 0 .nil,4⟩
noncomputable def led4:Led:=[(998,tabObj #[]),(139,tabObj #[]),(146,tabObj #[]),(181,tabObj #[])]
noncomputable def ρ4 (k:Nat):Addr:=match k with | 0=>998 | 1=>139 | 2=>146 | _=>181
theorem u9 {o:Option Obj} (h:gp o=true):o=some (tabObj #[]):=by
 induction o using Option.casesOn with
 | none=>exact nob h
 | some o =>
 obtain ⟨cls,d,data,sl⟩:=o
 induction cls using Value.casesOn with
 | none =>
  induction d using Option.casesOn with
  | some=>exact nob h
  | none =>
   induction data using Data.casesOn with
   | fields vs =>
    have h:(Nat.beq vs.size 0&&Nat.beq sl.size 0)=true:=h
    rw [Bool.and_eq_true] at h
    obtain rfl:=Array.eq_empty_of_size_eq_zero (Nat.eq_of_beq_eq_true h.1)
    obtain rfl:=Array.eq_empty_of_size_eq_zero (Nat.eq_of_beq_eq_true h.2)
    rfl
   | _=>exact nob h
 | _=>exact nob h
theorem lt4 {P:Nat->Prop} (h0:P 0) (h1:P 1) (h2:P 2) (h3:P 3) (k:Nat) (h:k<4):P k:=by
 induction k using Nat.casesAuxOn with
 | zero=>exact h0
 | succ k =>
 induction k using Nat.casesAuxOn with
 | zero=>exact h1
 | succ k =>
 induction k using Nat.casesAuxOn with
 | zero=>exact h2
 | succ k =>
 induction k using Nat.casesAuxOn with
 | zero=>exact h3
 | succ k=>exact absurd (Nat.le_of_succ_le_succ (Nat.le_of_succ_le_succ (Nat.le_of_succ_le_succ (Nat.le_of_succ_le_succ h)))) (Nat.not_succ_le_zero _)
theorem cz3 {w:World} {F:Led} (hF:((led4++F).map (·.1)).Nodup):Rel T0 w F ρ4 S4 led4:=by
 obtain ⟨f,hb⟩:=ri zw 0 .nil Tr.full_nil
 have hb:∀ k,(build zw 0 .nil).get k=zw[k]? := fun k=>by rw [hb,if_neg (Nat.not_lt_zero _),Nat.sub_zero]
 refine ⟨f,fun k o h=>?_,fun j k hj hk e=>?_,hF⟩
 ·have h:(build zw 0 .nil).get k=some o:=h
  rw [hb] at h
  have hk:k<4:=by
   obtain ⟨q,_⟩:=List.getElem?_eq_some_iff.mp h
   exact q
  exact lt4 (P:=fun k=>zw[k]? = some o -> ∃ ob,((ρ4 k,ob)∈led4\/o.ro=true/\(ρ4 k,ob)∈F)/\OR T0 w F ρ4 S4.n (ρ4 k) o ob)
   (fun h=>Option.some.inj h ▸ ⟨tabObj #[],.inl (.head _),.tab rfl fun _=>rfl⟩)
   (fun h=>Option.some.inj h ▸ ⟨tabObj #[],.inl (.tail _ (.head _)),.tab rfl fun _=>rfl⟩)
   (fun h=>Option.some.inj h ▸ ⟨tabObj #[],.inl (.tail _ (.tail _ (.head _))),.tab rfl fun _=>rfl⟩)
   (fun h=>Option.some.inj h ▸ ⟨tabObj #[],.inl (.tail _ (.tail _ (.tail _ (.head _)))),.tab rfl fun _=>rfl⟩) k hk h
 ·exact (by decide +kernel:∀ j,j<4 -> ∀ k,k<4->ρ4 j=ρ4 k->j=k) j hj k hk e
end Mine
end
section
open PySem PySem.W PySem.Spec PySem.Calls PyProof.Rows PySem.SeqAt
set_option tactic.hygienic false
namespace Mine
noncomputable def Kz (s:St):Prop:=∀ k,k<4 -> ∃ f u,s.h.get k=some (.tab f u)
theorem Nj {F:Led} {ns:List Int} {its:List Value} (h:Each (fun (n:Int) v=>∃ t,v=Value.int n t) ns its):PRs T0 F (ns.map .int) its:=by
 induction h with
 | nil=>exact .nil
 | cons h _ ih=>obtain ⟨t,rfl⟩:=h;exact .cons (.int _ t) ih
theorem Nk {s:Shared} (h:s.gens = #[]):AllBare s.gens:=by
 rw [h];exact .of_eq rfl
theorem pa4 (k:Nat) (hk:k<4):∃ p∈PTs,p.2=ρ4 k:=by
 exact lt4 (P:=fun k=>∃ p∈PTs,p.2=ρ4 k) ⟨_,.head _,rfl⟩ ⟨_,.tail _ (.head _),rfl⟩ ⟨_,.tail _ (.tail _ (.head _)),rfl⟩ ⟨_,.tail _ (.tail _ (.tail _ (.head _))),rfl⟩ k hk
theorem oz {p:Addr×Obj} (h:p∈led4):∃ k,k<4/\p=(ρ4 k,tabObj #[]):=by
 delta led4 at h
 simp only [List.mem_cons,List.not_mem_nil,or_false] at h
 rcases h with rfl | rfl | rfl | rfl
 ·exact ⟨0,by decide,rfl⟩
 ·exact ⟨1,by decide,rfl⟩
 ·exact ⟨2,by decide,rfl⟩
 ·exact ⟨3,by decide,rfl⟩
theorem Dk (args:List WData):RW.row.claim.post args (.bool true) args=true:=by kernel_rfl
theorem Ib (O:Known Prop) (n:Nat) (N:∀ (w:World) (K:Frag) lz mn mg mb,Tx T0 w K->KnownOK T0 w K lz mn mg mb O)
  (LAW:∀ ns:List Int,ns.length<=63->af False (ev False O n) 0 noStr "law" [.p (.lst (ns.map .int))] S4 fun v s=>v = .p (.bool true)/\Kz s):CallAsk:=by
 intro w s₀ s₁ mg mb G Y args vs as hpre hlay L low
 refine bc fun hG=>?_
 obtain ⟨K,kin,hk,hd,hj,ht⟩:=Y
 have tx:=Yb hk hd hj
 obtain ⟨ns,rfl,hlen⟩:=pre_of hpre
 obtain ⟨a,its,rfl,ha,hi⟩:=Ni L
 refine hG ?_
 have hf:T0.fa noStr "law" = some 1035:=by kernel_rfl
 have htab:∀ k,k<4->s₁.heap.get? (ρ4 k)=some (tabObj #[]):=fun k hk=>by
  obtain ⟨p,hp,e⟩:=pa4 k hk
  rw [← e];exact u9 (ht p hp)
 have hne:∀ k,k<4->ρ4 k≠a:=fun k hk e=>by
  have:=htab k hk
  rw [e,ha] at this
  have e2:=congrArg (fun o:Option Obj=>o.map (·.cls)) this
  simp at e2
 refine ⟨.ref 1035,mg_of kin G.T.g (tx.gfn _ _ hf),?_⟩
 have nd:((led4++[(a,listOf its.toArray 0)]).map (·.1)).Nodup:=by
  have h0:=hne 0 (by decide)
  have h1:=hne 1 (by decide)
  have h2:=hne 2 (by decide)
  have h3:=hne 3 (by decide)
  show ([998,139,146,181,a]:List Addr).Nodup
  simp only [List.nodup_cons,List.mem_cons,List.not_mem_nil,or_false,not_or,List.nodup_nil,not_false_eq_true,and_true]
  exact ⟨⟨by decide,by decide,by decide,h0⟩,⟨by decide,by decide,h1⟩,⟨by decide,h2⟩,h3⟩
 have N0:∀ p∈led4++[(a,listOf its.toArray 0)],s₁.heap.get? p.1=some p.2:=fun p hp=>by
  rcases List.mem_append.mp hp with q | q
  ·obtain ⟨k,hk,rfl⟩:=oz q
   exact htab k hk
  ·rw [List.mem_singleton] at q;exact q ▸ ha
 have hpl:Plain s₁.heap ((led4++[(a,listOf its.toArray 0)]).map (·.1)):=fun b hb o ho=>by
  refine bc fun hG=>?_
  obtain ⟨p,hp,rfl⟩:=List.mem_map.mp hb
  rw [N0 p hp] at ho
  (injection ho with ho;subst ho)
  refine hG ?_
  rcases List.mem_append.mp hp with q | q
  ·obtain ⟨k,hk,rfl⟩:=oz q
   exact ⟨(fun es ep h=>nomatch h),(fun h=>nomatch h)⟩
  ·rw [List.mem_singleton] at q;rw [q]
   exact ⟨(fun es ep h=>(by contradiction)),fun h=>(by
    have h:Value.type "list" = Value.type "module" := h
    revert h;decide)⟩
 have kin':K.In (hideAll s₁.heap ((led4++[(a,listOf its.toArray 0)]).map (·.1))):=fun b o e=>by
  refine hideAll_get _ (kin b o e) fun hb=>?_
  obtain ⟨p,hp,rfl⟩:=List.mem_map.mp hb
  have e1:=kin _ _ e
  rw [N0 p hp] at e1
  (injection e1 with e1;subst e1)
  have hc:=M5 hk e
  rcases List.mem_append.mp hp with q | q
  ·obtain ⟨k,hk,rfl⟩:=oz q
   cases hc
  ·rw [List.mem_singleton] at q;rw [q] at hc
   have hc:Gg (.type "list")=true:=hc
   revert hc;decide
 have top:=Ia hpl G.T
 have B0:∀ {lz:List Str} {mn:ExcName->Option Value},Top topProg lz mn mg mb (hideAll s₁.heap ((led4++[(a,listOf its.toArray 0)]).map (·.1)))->Bs T0 w K lz mn mg mb 0 (hideAll s₁.heap ((led4++[(a,listOf its.toArray 0)]).map (·.1))) callerA:=fun top=>⟨tx,kin',top,by decide,by decide,rfl⟩
 have B:=B0 top
 have hv:Each (VR T0 [(a,listOf its.toArray 0)] ρ4 S4.n) [.p (.lst (ns.map .int))] [.ref a]:=.cons (.p (.lst (.head _) (Nj hi) (by rw [← hi.length];exact bzl hlen))) .nil
 refine enter_call (d7 (σ:=s₁) (R:=fun r s'=>GoodWG RW.row.claim (classAt s₀.heap) (ExcName.means s₀.heap) [.list (ns.map .int)] s₁ r s') (wx (N w K _ _ mg mb tx) n) B N0 (cz3 nd) hf hv (LAW ns hlen) ?_)
 rintro F' ρ' led' h' t' v x S' ext keep N' R' hv' _ ⟨rfl,htabs⟩
 have hx:=hv'.bool_of
 subst hx
 refine ⟨.inl ⟨_,.bool true,[],rfl,fun cls=>rfl,.bool true,Dk _,fun _=>⟨List.nodup_nil,fun a h=>(by contradiction)⟩⟩,?_,rfl,Nk L.gens⟩
 have go:∀ (k:Nat) (hk:k<4) (m:Str) (aa:Addr) (kk:Nat),T0.fa noStr m=some aa->(fnOf noStr m).isSome=true->tabNo m=some (kk,m)->T0.pa m=some (ρ4 k)->isCodeTable s₁.heap (ρ4 k):=fun k hk m aa kk e1 e2 e3 e4=>by
  refine bc fun hG=>?_
  obtain ⟨fd,hfd⟩:=Option.isSome_iff_exists.mp e2
  obtain @⟨_,_,_,_,_,_,_,_,_,_,_,_,_,_,_,_,_,_,z⟩:=tx.fns _ _ _ _ _ e1 hfd
  obtain ⟨cc,P,_,q2,q3⟩:=z _ _ e3
  rw [e4] at q2
  (injection q2 with q2;subst q2)
  refine hG ?_
  exact ((q3 _ kin).tab (htab k hk)).isCodeTable
 have tabCode:∀ k,k<4->isCodeTable s₁.heap (ρ4 k):=fun k hk=>lt4 (P:=fun k=>isCodeTable s₁.heap (ρ4 k)) (go 0 (Nat.le_of_ble_eq_true rfl) "_law_program" 1003 0 (by kernel_rfl) (by kernel_rfl) (by kernel_rfl) (by kernel_rfl)) (go 1 (Nat.le_of_ble_eq_true rfl) "walk_list" 144 1 (by kernel_rfl) (by kernel_rfl) (by kernel_rfl) (by kernel_rfl)) (go 2 (Nat.le_of_ble_eq_true rfl) "walk_rowid" 151 2 (by kernel_rfl) (by kernel_rfl) (by kernel_rfl) (by kernel_rfl)) (go 3 (Nat.le_of_ble_eq_true rfl) "walk_index" 186 3 (by kernel_rfl) (by kernel_rfl) (by kernel_rfl) (by kernel_rfl)) k hk
 have grown:∀ k,k<4 -> ∃ ps,h'.get? (ρ4 k)=some (tabObj ps):=fun k hk=>by
  refine bc fun hG=>?_
  obtain ⟨f,u,hg⟩:=htabs k hk
  obtain ⟨ob,hob,hor⟩:=R'.obj k _ hg
  refine hG ?_
  rw [ext.same k hk] at hob hor
  refine bc fun hG=>?_
  cases hor with
  | tab _ _ =>
   refine hG ?_
   exact ⟨_,(N' _ (List.mem_append_left _ hob)).1⟩
 have cases3:∀ b o,s₁.heap.get? b=some o->(∃ k,k<4/\b=ρ4 k)\/h'.get? b=some o:=fun b o e=>by
  by_cases hb:b∈(led4++[(a,listOf its.toArray 0)]).map (·.1)
  ·obtain ⟨p,hp,rfl⟩:=List.mem_map.mp hb
   rcases List.mem_append.mp hp with q | q
   ·obtain ⟨k,hk,rfl⟩:=oz q
    exact .inl ⟨k,hk,rfl⟩
   ·rw [N0 p hp] at e
    (injection e with e;subst e)
    exact .inr (N' p (List.mem_append_right _ (ext.sub p q))).1
  ·exact .inr (keep b o (hideAll_get _ e hb))
 refine ⟨fun b o e=>?_,fun b o e=>?_⟩
 ·rcases cases3 b o e with ⟨k,hk,rfl⟩ | q
  ·obtain ⟨ps,hps⟩:=grown k hk
   rw [htab k hk] at e
   (injection e with e;subst e)
   exact .inr (.inl ⟨tabCode k hk,rfl, #[],ps,rfl,by rw [Array.empty_append];exact hps⟩)
  ·exact .inl q
 ·rcases cases3 b o e with ⟨k,hk,rfl⟩ | q
  ·obtain ⟨ps,hps⟩:=grown k hk
   exact ⟨_,hps⟩
  ·exact ⟨o,q⟩
noncomputable abbrev Ct:=Nat->List V->St->(V->St->Prop)->Prop
noncomputable abbrev Cc:=En->Expr->Comprehension->Scope->P->St->(V->St->Prop)->Prop
noncomputable def sy (O':Known Prop) (c m:Str) (C:Ct):Prop:=∀ d vs s Q,C d vs s Q -> ∃ n ks d',d<=d'/\((m≠noStr/\rh (ev False O' n) d' c m ks vs s Q)\/(m=noStr/\kp (ev False O' n) d' c ks vs s Q))
noncomputable def P6 (O':Known Prop) (C:Cc):Prop:=∀ e elt gg sc iv s Q,C e elt gg sc iv s Q -> ∃ n,dv False (ev False O' n) e elt gg sc iv s Q
noncomputable def none0:Known Prop:=⟨fun _ _=>none,fun _=>none⟩
section
variable {T:Pl} {w:World} {K:Frag} {lz:List Str} {mn:ExcName->Option Value} {mg mb:Str->Option Value} {O O':Known Prop}
theorem w7:KnownOK T w K lz mn mg mb none0:=⟨(fun _ _ h=>by injection h),(fun _ _ _ h=>by injection h)⟩
theorem o4 (N:KnownOK T w K lz mn mg mb O') (hc:∀ c m C,O.call c m=some C->O'.call c m=some C\/sy O' c m C) (hk:∀ l C,O.comp l=some C->O'.comp l=some C\/P6 O' C):KnownOK T w K lz mn mg mb O where
 comp:=fun l C h e elt gg sc iv s Q hC=>by
  rcases hk l C h with q | q
  ·exact N.comp l C q e elt gg sc iv s Q hC
  ·obtain ⟨n,hn⟩:=q e elt gg sc iv s Q hC
   exact ⟨_,wx N n,hn⟩
 call:=fun c m C h=>by
  intro e env g A F U m' led S σ f fv vs xs P Q E X D hf hp hv hC hQ
  rcases hc c m C h with q | q
  ·exact N.call c m C q X D hf hp hv hC hQ
  ·obtain ⟨n,ks,d',hd,⟨hm,hn⟩ | ⟨hm,hn⟩⟩:=q _ _ _ _ hC
   ·rw [if_neg hm] at hf
    subst hf
    cases hp with
    | fn ha=>exact wpAny_call (C1 (wx N n) X D ha hv hd hn fun F' ρ' m' led' h' t' v x S' x' D' hv' hp=>hQ F' ρ' m' led' h' t' v x S' x' D' hv' hp)
   ·rw [if_pos hm] at hf
    subst hf
    cases hp with
    | cls ha=>exact wpAny_call (rm (wx N n) X D ha hv hd hn fun F' ρ' m' led' h' t' v x S' x' D' hv' hp=>hQ F' ρ' m' led' h' t' v x S' x' D' hv' hp)
end
noncomputable def vals:List P:=[.none,.int 0,.int 1,.int 2,.int 3,.int 4,.int 5,.int 6,.int 7,.int 8,.int 9,.str "a",.str "A",.str "b"]
noncomputable def Vl (v:P):Prop:=v∈vals
noncomputable def jg (n:Bool) (v:P):P:=match v with
 | .none=>.tup [.int 0,.int 0,.str noStr]
 | .int i=>.tup [.int 1,.int i,.str noStr]
 | .str x=>.tup [.int 2,.int 0,.str (match n with | true=>Q2 x | false=>x)]
 | _=>.none
noncomputable def nocase (c:Str):Bool:=seq c "nocase"
noncomputable def au (v:P) (c:Str):P:=jg (nocase c) v
noncomputable def o5 (n:Bool) (v:P):Int:=match v with
 | .none=>0
 | .int i=>1+i
 | .str x=>match seq x "a" with
  | true=>21
  | false=>match seq x "A" with
   | true=>(match n with | true=>21 | false=>20)
   | false=>22
 | _=>0
noncomputable def rank (c:Str) (v:P):Int:=o5 (nocase c) v
theorem jx {v w:P} (hv:Vl v) (hw:Vl w) (c:Str):du (au v c) (au w c)=some (decide (rank c v=rank c w)):=by
 delta au rank
 generalize nocase c=n
 have h:∀ v∈vals,∀ w∈vals,∀ n:Bool,du (jg n v) (jg n w)=some (decide (o5 n v=o5 n w)):=by decide +kernel
 exact h v hv w hw n
theorem w8 {v w:P} (hv:Vl v) (hw:Vl w) (c:Str):j1 (au v c) (au w c)=some (decide (rank c v<rank c w)):=by
 delta au rank
 generalize nocase c=n
 have h:∀ v∈vals,∀ w∈vals,∀ n:Bool,j1 (jg n v) (jg n w)=some (decide (o5 n v<o5 n w)):=by decide +kernel
 exact h v hv w hw n
theorem kq {v:P} (hv:Vl v) (s:St):cmp .Is (.p v) (.p .none) s=some (isNone v):=by
 have h:∀ v∈vals,cmp .Is (.p v) (.p .none) ⟨[],.nil,0⟩=some (isNone v):=by decide +kernel
 exact h v hv
noncomputable def isInt:P->Bool
 | .int _=>true
 | _=>false
theorem Sq {v:P} (hv:Vl v):ja v (.bi "int")=some (isInt v):=by
 have h:∀ v∈vals,ja v (.bi "int")=some (isInt v):=by decide +kernel
 exact h v hv
theorem dz {v:P} (hv:Vl v) (c:Str):0<=rank c v/\(rank c v=0↔isNone v=true):=by
 unfold rank
 generalize nocase c=n
 have h:∀ v∈vals,∀ n:Bool,0<=o5 n v/\(o5 n v=0↔isNone v=true):=by decide +kernel
 exact h v hv n
theorem o6 {v:P} (hv:Vl v):v = .none\/(∃ i,v = .int i) \/ ∃ x,v = .str x/\plainS x=true:=by
 unfold Vl vals at hv
 simp only [List.mem_cons,List.not_mem_nil,or_false] at hv
 rcases hv with rfl | rfl | rfl | rfl | rfl | rfl | rfl | rfl | rfl | rfl | rfl | rfl | rfl | rfl
 ·exact .inl rfl
 all_goals first
  | exact .inr (.inl ⟨_,rfl⟩)
  | exact .inr (.inr ⟨_,rfl,by kernel_rfl⟩)
theorem Nl {v:P} (hv:Vl v):P4 v=true:=by
 rcases o6 hv with rfl | ⟨_,rfl⟩ | ⟨_,rfl,_⟩ <;> rfl
noncomputable def Src (a b:Int):Prop:=0<=a/\0<=b/\b<2147483647
noncomputable def iz (v:V) (s:St) (K:Nat->Int->Int->Prop):Prop:=match v with
 | .ref k=>(match s.h.get k with
  | some (.list [.int a,.int b])=>Src a b/\K k a b
  | _=>False)
 | _=>False
noncomputable def drawn (k:Nat) (s:St) (K:St->Prop):Prop:=∀ a b,Src a b->K (upd k (.list [.int a,.int b]) s)
noncomputable def allOf {α:Type} (K:α->Prop):List α->Prop
 | []=>True
 | x::r=>K x/\allOf K r
theorem o7 {α:Type} {K:α->Prop}:∀ {l:List α},allOf K l -> ∀ {x},x∈l->K x
 | _::_,h,_,.head _=>h.1
 | _::_,h,_,.tail _ m=>o7 h.2 m
noncomputable def Ctake:Ct:=fun d vs s Q=>cnd (Nat.ble d 30) (match vs with
 | [v,.p (.int top)]=>iz v s fun k _ _=>(1<=top/\top<=8)/\match decide (top=3) with
  | true=>allOf (fun x=>drawn k s fun s=>Q (.p (.int x)) s) [0,1,2]
  | false=>∀ x,0<=x->x<top->drawn k s fun s=>Q (.p (.int x)) s
 | _=>False) False
noncomputable def Cone:Ct:=fun d vs s Q=>cnd (Nat.ble d 28) (match vs with
 | [v,.p (.lst xs)]=>iz v s fun k _ _=>(1<=xs.length/\xs.length<=8)/\match Nat.blt 5 xs.length with
  | true=>∀ x,x∈xs->drawn k s fun s=>Q (.p x) s
  | false=>allOf (fun x=>drawn k s fun s=>Q (.p x) s) xs
 | _=>False) False
noncomputable def Cvalue:Ct:=fun d vs s Q=>cnd (Nat.ble d 26) (match vs with
 | [v]=>iz v s fun k _ _=>∀ x,Vl x->drawn k s fun s=>Q (.p x) s
 | _=>False) False
noncomputable def Cclass:Ct:=fun d vs s Q=>cnd (Nat.ble d 30) (match vs with
 | [.p v,.p (.str c)]=>Vl v/\Q (.p (au v c)) s
 | _=>False) False
theorem K1 {A:V->Prop} {vs:List V}:(match vs with | [v]=>A v | _=>False) -> ∃ v,vs=[v]/\A v:=by
 induction vs using List.casesOn with
 | nil=>exact False.elim
 | cons v vs1 =>
  induction vs1 using List.casesOn with
  | nil=>exact fun h=>⟨v,rfl,h⟩
  | cons=>exact False.elim
theorem Nm {A:P->Prop} {vs:List V}:(match vs with | [.p v]=>A v | _=>False) -> ∃ v,vs=[.p v]/\A v:=by
 induction vs using List.casesOn with
 | nil=>exact False.elim
 | cons v0 vs1 =>
  induction v0 using V.casesOn with
  | ref=>exact False.elim
  | p v =>
   induction vs1 using List.casesOn with
   | nil=>exact fun h=>⟨v,rfl,h⟩
   | cons=>exact False.elim
theorem Nn {A:V->Int->Prop} {vs:List V}:(match vs with | [v,.p (.int t)]=>A v t | _=>False) -> ∃ v t,vs=[v,.p (.int t)]/\A v t:=by
 induction vs using List.casesOn with
 | nil=>exact False.elim
 | cons v vs1 =>
  induction vs1 using List.casesOn with
  | nil=>exact False.elim
  | cons v1 vs2 =>
   induction v1 using V.casesOn with
   | ref=>exact False.elim
   | p x1 =>
    induction x1 using P.casesOn with
    | int t =>
     induction vs2 using List.casesOn with
     | nil=>exact fun h=>⟨v,t,rfl,h⟩
     | cons=>exact False.elim
    | _=>exact False.elim
theorem Sr {A:V->List P->Prop} {vs:List V}:(match vs with | [v,.p (.lst x)]=>A v x | _=>False) -> ∃ v x,vs=[v,.p (.lst x)]/\A v x:=by
 induction vs using List.casesOn with
 | nil=>exact False.elim
 | cons v vs1 =>
  induction vs1 using List.casesOn with
  | nil=>exact False.elim
  | cons v1 vs2 =>
   induction v1 using V.casesOn with
   | ref=>exact False.elim
   | p x1 =>
    induction x1 using P.casesOn with
    | lst x =>
     induction vs2 using List.casesOn with
     | nil=>exact fun h=>⟨v,x,rfl,h⟩
     | cons=>exact False.elim
    | _=>exact False.elim
theorem Ic {A:P->Str->Prop} {vs:List V}:(match vs with | [.p v,.p (.str c)]=>A v c | _=>False) -> ∃ v c,vs=[.p v,.p (.str c)]/\A v c:=by
 induction vs using List.casesOn with
 | nil=>exact False.elim
 | cons v0 vs1 =>
  induction v0 using V.casesOn with
  | ref=>exact False.elim
  | p v =>
   induction vs1 using List.casesOn with
   | nil=>exact False.elim
   | cons v1 vs2 =>
    induction v1 using V.casesOn with
    | ref=>exact False.elim
    | p x1 =>
     induction x1 using P.casesOn with
     | str c =>
      induction vs2 using List.casesOn with
      | nil=>exact fun h=>⟨v,c,rfl,h⟩
      | cons=>exact False.elim
     | _=>exact False.elim
theorem Dl {A:List P->List P->P->Prop} {vs:List V}:(match vs with | [.p (.lst x),.p (.lst y),.p i]=>A x y i | _=>False) -> ∃ x y i,vs=[.p (.lst x),.p (.lst y),.p i]/\A x y i:=by
 induction vs using List.casesOn with
 | nil=>exact False.elim
 | cons v0 vs1 =>
  induction v0 using V.casesOn with
  | ref=>exact False.elim
  | p x0 =>
   induction x0 using P.casesOn with
   | lst x =>
    induction vs1 using List.casesOn with
    | nil=>exact False.elim
    | cons v1 vs2 =>
     induction v1 using V.casesOn with
     | ref=>exact False.elim
     | p x1 =>
      induction x1 using P.casesOn with
      | lst y =>
       induction vs2 using List.casesOn with
       | nil=>exact False.elim
       | cons v2 vs3 =>
        induction v2 using V.casesOn with
        | ref=>exact False.elim
        | p i =>
         induction vs3 using List.casesOn with
         | nil=>exact fun h=>⟨x,y,i,rfl,h⟩
         | cons=>exact False.elim
      | _=>exact False.elim
   | _=>exact False.elim
theorem Ss {A:List P->List P->Prop} {vs:List V}:(match vs with | [.p (.tup x),.p (.tup y)]=>A x y | _=>False) -> ∃ x y,vs=[.p (.tup x),.p (.tup y)]/\A x y:=by
 induction vs using List.casesOn with
 | nil=>exact False.elim
 | cons v0 vs1 =>
  induction v0 using V.casesOn with
  | ref=>exact False.elim
  | p x0 =>
   induction x0 using P.casesOn with
   | tup x =>
    induction vs1 using List.casesOn with
    | nil=>exact False.elim
    | cons v1 vs2 =>
     induction v1 using V.casesOn with
     | ref=>exact False.elim
     | p x1 =>
      induction x1 using P.casesOn with
      | tup y =>
       induction vs2 using List.casesOn with
       | nil=>exact fun h=>⟨x,y,rfl,h⟩
       | cons=>exact False.elim
      | _=>exact False.elim
   | _=>exact False.elim
theorem Dm {A:P->P->P->Str->Prop} {vs:List V}:(match vs with | [.p v,.p lo,.p hi,.p (.str c)]=>A v lo hi c | _=>False) -> ∃ v lo hi c,vs=[.p v,.p lo,.p hi,.p (.str c)]/\A v lo hi c:=by
 induction vs using List.casesOn with
 | nil=>exact False.elim
 | cons v0 vs1 =>
  induction v0 using V.casesOn with
  | ref=>exact False.elim
  | p v =>
   induction vs1 using List.casesOn with
   | nil=>exact False.elim
   | cons v1 vs2 =>
    induction v1 using V.casesOn with
    | ref=>exact False.elim
    | p lo =>
     induction vs2 using List.casesOn with
     | nil=>exact False.elim
     | cons v2 vs3 =>
      induction v2 using V.casesOn with
      | ref=>exact False.elim
      | p hi =>
       induction vs3 using List.casesOn with
       | nil=>exact False.elim
       | cons v3 vs4 =>
        induction v3 using V.casesOn with
        | ref=>exact False.elim
        | p x3 =>
         induction x3 using P.casesOn with
         | str c =>
          induction vs4 using List.casesOn with
          | nil=>exact fun h=>⟨v,lo,hi,c,rfl,h⟩
          | cons=>exact False.elim
         | _=>exact False.elim
theorem Su {A:List P->P->P->P->P->List P->Prop} {vs:List V}:(match vs with | [.p (.lst row),.p (.tup [es,sm,lo,hi]),.p (.lst cs)]=>A row es sm lo hi cs | _=>False) -> ∃ row es sm lo hi cs,vs=[.p (.lst row),.p (.tup [es,sm,lo,hi]),.p (.lst cs)]/\A row es sm lo hi cs:=by
 induction vs using List.casesOn with
 | nil=>exact False.elim
 | cons v0 vs1 =>
  induction v0 using V.casesOn with
  | ref=>exact False.elim
  | p x0 =>
   induction x0 using P.casesOn with
   | lst row =>
    induction vs1 using List.casesOn with
    | nil=>exact False.elim
    | cons v1 vs2 =>
     induction v1 using V.casesOn with
     | ref=>exact False.elim
     | p x1 =>
      induction x1 using P.casesOn with
      | tup l0 =>
       induction l0 using List.casesOn with
       | nil=>exact False.elim
       | cons es l1 =>
        induction l1 using List.casesOn with
        | nil=>exact False.elim
        | cons sm l2 =>
         induction l2 using List.casesOn with
         | nil=>exact False.elim
         | cons lo l3 =>
          induction l3 using List.casesOn with
          | nil=>exact False.elim
          | cons hi l4 =>
           induction l4 using List.casesOn with
           | cons=>exact False.elim
           | nil =>
            induction vs2 using List.casesOn with
            | nil=>exact False.elim
            | cons v2 vs3 =>
             induction v2 using V.casesOn with
             | ref=>exact False.elim
             | p x2 =>
              induction x2 using P.casesOn with
              | lst cs =>
               induction vs3 using List.casesOn with
               | nil=>exact fun h=>⟨row,es,sm,lo,hi,cs,rfl,h⟩
               | cons=>exact False.elim
              | _=>exact False.elim
      | _=>exact False.elim
   | _=>exact False.elim
theorem Sv {A:V->P->Prop} {vs:List V}:(match vs with | [v,.p c]=>A v c | _=>False) -> ∃ v c,vs=[v,.p c]/\A v c:=by
 induction vs using List.casesOn with
 | nil=>exact False.elim
 | cons v vs1 =>
  induction vs1 using List.casesOn with
  | nil=>exact False.elim
  | cons v1 vs2 =>
   induction v1 using V.casesOn with
   | ref=>exact False.elim
   | p c =>
    induction vs2 using List.casesOn with
    | nil=>exact fun h=>⟨v,c,rfl,h⟩
    | cons=>exact False.elim
theorem Np {A:List P->Nat->Prop} {vs:List V}:(match vs with | [.p (.lst o),.ref k]=>A o k | _=>False) -> ∃ o k,vs=[.p (.lst o),.ref k]/\A o k:=by
 induction vs using List.casesOn with
 | nil=>exact False.elim
 | cons v0 vs1 =>
  induction v0 using V.casesOn with
  | ref=>exact False.elim
  | p x0 =>
   induction x0 using P.casesOn with
   | lst o =>
    induction vs1 using List.casesOn with
    | nil=>exact False.elim
    | cons v1 vs2 =>
     induction v1 using V.casesOn with
     | p=>exact False.elim
     | ref k =>
      induction vs2 using List.casesOn with
      | nil=>exact fun h=>⟨o,k,rfl,h⟩
      | cons=>exact False.elim
   | _=>exact False.elim
theorem Nq {A:P->Int->Prop} {vs:List V}:(match vs with | [.p p,.p (.int n)]=>A p n | _=>False) -> ∃ p n,vs=[.p p,.p (.int n)]/\A p n:=by
 induction vs using List.casesOn with
 | nil=>exact False.elim
 | cons v0 vs1 =>
  induction v0 using V.casesOn with
  | ref=>exact False.elim
  | p p =>
   induction vs1 using List.casesOn with
   | nil=>exact False.elim
   | cons v1 vs2 =>
    induction v1 using V.casesOn with
    | ref=>exact False.elim
    | p x1 =>
     induction x1 using P.casesOn with
     | int n =>
      induction vs2 using List.casesOn with
      | nil=>exact fun h=>⟨p,n,rfl,h⟩
      | cons=>exact False.elim
     | _=>exact False.elim
theorem vb {k:Nat} {s:St} {K:Nat->Int->Int->Prop}:(match s.h.get k with
  | some (.list [.int a,.int b])=>Src a b/\K k a b
  | _=>False) -> ∃ a b,s.h.get k=some (.list [.int a,.int b])/\Src a b/\K k a b:=by
 induction hg:s.h.get k using Option.casesOn with
 | none=>exact False.elim
 | some o=>induction o using VO.casesOn with
  | list l=>induction l using List.casesOn with
   | nil=>exact False.elim
   | cons x l=>induction x using P.casesOn with
    | int a=>induction l using List.casesOn with
     | nil=>exact False.elim
     | cons y l=>induction y using P.casesOn with
      | int b=>induction l using List.casesOn with
       | nil=>exact fun h=>⟨a,b,rfl,h⟩
       | cons=>exact False.elim
      | _=>exact False.elim
    | _=>exact False.elim
  | _=>exact False.elim
theorem d3 {v:V} {s:St} {K:Nat->Int->Int->Prop} (h:iz v s K):∃ k a b,v = .ref k/\s.h.get k=some (.list [.int a,.int b])/\Src a b/\K k a b:=by
 induction v using V.casesOn with
 | p=>exact h.elim
 | ref k =>
  obtain ⟨a,b,h⟩:=vb h
  exact ⟨k,a,b,rfl,h⟩
noncomputable def fr (ks:List Nat) (s:St) (Q:V->St->Prop) (o:Option (List VO)) (p:Option P):Prop:=∃ os' x,o=some os'/\os'.all ci=true/\p=some x/\Q (.p x) (putAll ks os' s)
theorem vc (ks:List Nat):∀ xs:List P,ez ks (xs.map .p)=some (xs.map .p):=by
 intro l0
 induction l0 with
 | nil =>
  exact rfl
 | cons x r ih =>
  show ez ks (.p x::r.map .p)=some (.p x::r.map .p);unfold ez;rw [ih]
theorem Dn {r:H Prop} {d:Nat} {c m:Str} (xs:List P) {s:St} {Q:V->St->Prop} (h:af False r d c m (xs.map .p) ⟨[],.nil,0⟩ fun v s'=>fr [] s Q (some []) (reifyM 0 s' 9 v)):rh r d c m [] (xs.map .p) s Q :=
 ⟨[],xs.map .p,rfl,rfl,vc _ _,h⟩
theorem fr0 {s:St} {Q:V->St->Prop} {x:P} (h:Q (.p x) s):fr [] s Q (some []) (some x):=⟨[],x,rfl,rfl,rfl,h⟩
theorem Sw {r:H Prop} {d:Nat} {c m:Str} (xs:List P) {s:St} {k:Nat} {a b:Int} {Q:V->St->Prop} (hk:s.h.get k=some (.list [.int a,.int b]))
  (h:af False r d c m (.ref 0::xs.map .p) ⟨[],.node (.list [.int a,.int b]) .nil .nil,1⟩ fun v s'=>fr [k] s Q (ah s' [0]) (reifyM 1 s' 9 v)):rh r d c m [k] (.ref k::xs.map .p) s Q:=by
 refine ⟨[.list [.int a,.int b]],.ref 0::xs.map .p,by unfold ah;rw [hk];rfl,by delta rf idxOf;rfl,?_,h⟩
 dsimp only [ez]
 have:idxOf k [k] 0=some 0:=by unfold idxOf;rw [Nat.beq_refl]
 rw [this,vc]
theorem fr1 {s:St} {Q:V->St->Prop} {x:P} {k:Nat} {a b:Int} (h:Q (.p x) (upd k (.list [.int a,.int b]) s)):fr [k] s Q (some [.list [.int a,.int b]]) (some x):=⟨_,x,rfl,rfl,rfl,h⟩
theorem Ie (a b top:Int) (C:Option (List VO)->Option P->Prop):af False (ev False none0 40) 35 noStr "_law_take" [.ref 0,.p (.int top)] ⟨[],.node (.list [.int a,.int b]) .nil .nil,1⟩ (fun v s'=>C (ah s' [0]) (reifyM 1 s' 9 v)) =
  cnd (decide (0<a)) (cnd (qf .Mod a top) (cnd (qf .FloorDiv a top) (C (some [.list [.int (Int.fdiv a top),.int b]]) (some (.int (Int.fmod a top)))) False) False)
   (cnd (gh b 39373) (cnd (gh (Int.fmod (b * 39373+7) 2147483647) (Int.fmod (b * 39373+7) 2147483647)) (cnd (qf .Mod (Int.fdiv (Int.fmod (Int.fmod (b * 39373+7) 2147483647 * Int.fmod (b * 39373+7) 2147483647) 2147483629) 32) top) (C (some [.list [.int a,.int (Int.fmod (b * 39373+7) 2147483647)]]) (some (.int (Int.fmod (Int.fdiv (Int.fmod (Int.fmod (b * 39373+7) 2147483647 * Int.fmod (b * 39373+7) 2147483647) 2147483629) 32) top)))) False) False) False):=by kernel_rfl
theorem bg {b:Bool} {A B:Prop} (h1:b=true->A) (h2:b=false->B):cnd b A B:=by
 induction b using Bool.casesOn
 ·exact h2 rfl
 ·exact h1 rfl
theorem i0 {b:Bool} {A B:Prop} (hb:b=true) (h1:A):cnd b A B:=by subst hb;exact h1
theorem bk {α:Type} {o:Option α} {x:α} {K:α->Prop} (ho:o=some x) (h:K x):opt False o K:=by subst ho;exact h
theorem c9 {x:Int} (h1 : -4000000000000000000<x) (h2:x<4000000000000000000):a7 x=true:=by
 unfold a7;rw [decide_eq_true h1,decide_eq_true h2];rfl
theorem o8 (x:Int) {y:Int} (hy:0<y):0<=Int.fmod x y/\Int.fmod x y<y:=by
 rw [Int.fmod_eq_emod_of_nonneg _ (Int.le_of_lt hy)]
 exact ⟨Int.emod_nonneg _ (by exact Int.ne_of_gt hy),Int.emod_lt_of_pos _ hy⟩
theorem Nr {x y:Int} (hx:0<=x) (hy:0<y):0<=Int.fdiv x y:=by
 rw [Int.fdiv_eq_ediv_of_nonneg _ (Int.le_of_lt hy)]
 exact Int.ediv_nonneg hx (Int.le_of_lt hy)
theorem Sy {x top:Int} (h1:1<=top) (h2:top<=8):qf .Mod x top=true:=by
 show (!(decide (top=0) || !a7 top))=true
 rw [decide_eq_false (by exact Int.ne_of_gt h1),c9 (by exact Zu h1) (by exact Zv h2)];rfl
theorem Yh {x top:Int} (h1:1<=top) (h2:top<=8):qf .FloorDiv x top=true:=by
 show (!(decide (top=0) || !a7 top))=true
 rw [decide_eq_false (by exact Int.ne_of_gt h1),c9 (by exact Zu h1) (by exact Zv h2)];rfl
theorem Nt {a b top:Int} {C:Option (List VO)->Option P->Prop} (hs:Src a b) (h1:1<=top) (h2:top<=8) (h:∀ x,0<=x->x<top -> ∀ a b,Src a b->C (some [.list [.int a,.int b]]) (some (.int x))) :
  af False (ev False none0 40) 35 noStr "_law_take" [.ref 0,.p (.int top)] ⟨[],.node (.list [.int a,.int b]) .nil .nil,1⟩ (fun v s'=>C (ah s' [0]) (reifyM 1 s' 9 v)):=by
 rw [Ie]
 refine bc fun hG=>?_
 obtain ⟨ha,hb,hb2⟩:=hs
 have hm:gh b 39373=true:=by unfold gh;rw [c9 (by exact Zt hb) (by exact Zo hb2)];rfl
 obtain ⟨h3,h4⟩:=o8 (b * 39373+7) (y:=2147483647) (by exact Int.natCast_nonneg _)
 refine hG ?_
 generalize Int.fmod (b * 39373+7) 2147483647=y at h3 h4 ⊢
 have hm2:gh y y=true:=by unfold gh;rw [c9 (by exact Zt h3) (by exact Zo h4)];rfl
 refine bg (fun ha0=>i0 (Sy h1 h2) (i0 (Yh h1 h2) ?_)) (fun _=>i0 hm (i0 hm2 (i0 (Sy h1 h2) ?_)))
 ·obtain ⟨h5,h6⟩:=o8 a (y:=top) (by exact h1)
  exact h _ h5 h6 _ _ ⟨Nr ha (by exact h1),hb,hb2⟩
 ·generalize Int.fdiv (Int.fmod (y * y) 2147483629) 32=z
  obtain ⟨h5,h6⟩:=o8 z (y:=top) (by exact h1)
  exact h _ h5 h6 _ _ ⟨ha,h3,h4⟩
noncomputable def lay (O':Known Prop) (c m:Str) (C:Ct):Known Prop:=⟨fun c' m'=>match seq m m'&&seq c c' with
 | true=>some C
 | false=>O'.call c' m',O'.comp⟩
theorem a9 {T:Pl} {w:World} {K:Frag} {lz:List Str} {mn:ExcName->Option Value} {mg mb:Str->Option Value} {O':Known Prop} {c m:Str} {C:Ct} (N:KnownOK T w K lz mn mg mb O') (h:sy O' c m C):KnownOK T w K lz mn mg mb (lay O' c m C):=by
 refine o4 N (fun c' m' C' h'=>?_) fun l C h=>.inl h
 unfold lay at h'
 dsimp only at h'
 split at h'
 ·rename_i q
  rw [Bool.and_eq_true] at q
  rw [← seq_iff.mp q.1, ← seq_iff.mp q.2]
  (injection h' with h';subst h')
  exact .inr h
 ·exact .inl h'
theorem Do:sy none0 noStr "_law_take" Ctake:=by
 intro d vs s Q h
 have q:=ab h
 clear h
 obtain ⟨hd,h⟩:=q
 have q:=Nn h
 clear h
 obtain ⟨v,top,rfl,h⟩:=q
 refine bc fun hG=>?_
 obtain ⟨k,a,b,rfl,hk,hs,⟨h1,h2⟩,h⟩:=d3 h
 refine hG ?_
 refine ⟨40,[k],35,Nat.le_trans (c7 hd) (by decide),.inl ⟨by decide,Sw [.int top] hk (Nt hs h1 h2 fun x hx hx2 a b hs=>fr1 ?_)⟩⟩
 split at h
 ·have e:top=3:=of_decide_eq_true (by assumption)
  exact o7 h (show x∈[0,1,2] by simp only [List.mem_cons,List.not_mem_nil,or_false];exact azn hx hx2 e) a b hs
 ·exact h x hx hx2 a b hs
noncomputable def O1:Known Prop:=lay none0 noStr "_law_take" Ctake
theorem Nu (a b:Int) (xs:List P) (C:Option (List VO)->Option P->Prop):af False (ev False O1 40) 29 noStr "_law_one" [.ref 0,.p (.lst xs)] ⟨[],.node (.list [.int a,.int b]) .nil .nil,1⟩ (fun v s'=>C (ah s' [0]) (reifyM 1 s' 9 v)) =
  Ctake 30 [.ref 0,.p (.int xs.length)] ⟨[("source",.ref 0),("things",.p (.lst xs))],.node (.list [.int a,.int b]) .nil .nil,1⟩ fun v s=>match v with
   | .p i=>opt False (j2 (.lst xs) i) fun v=>C (ah { s with loc:=[] } [0]) (reifyM 1 { s with loc:=[] } 9 (.p v))
   | _=>False:=by kernel_rfl
theorem Sz {a b:Int} {xs:List P} {C:Option (List VO)->Option P->Prop} (hs:Src a b) (h1:1<=xs.length) (h2:xs.length<=8) (h:∀ x∈xs,∀ a b,Src a b->C (some [.list [.int a,.int b]]) (some x)) :
  af False (ev False O1 40) 29 noStr "_law_one" [.ref 0,.p (.lst xs)] ⟨[],.node (.list [.int a,.int b]) .nil .nil,1⟩ (fun v s'=>C (ah s' [0]) (reifyM 1 s' 9 v)):=by
 rw [Nu]
 have key:∀ x:Int,0<=x->x<xs.length->drawn 0 ⟨[("source",.ref 0),("things",.p (.lst xs))],.node (.list [.int a,.int b]) .nil .nil,1⟩ fun s=>opt False (j2 (.lst xs) (.int x)) fun v=>C (ah { s with loc:=[] } [0]) (reifyM 1 { s with loc:=[] } 9 (.p v)):=by
  intro x hx hx2 a b hs
  have e:j2 (.lst xs) (.int x)=some xs[x.toNat]:=by
   show item xs x=_
   delta item idx
   rw [decide_eq_true hx,decide_eq_true hx2]
   exact List.getElem?_eq_getElem (by exact azq h1 hx2)
  rw [e]
  exact h _ (List.getElem_mem _) a b hs
 refine i0 rfl ⟨hs,⟨by exact Int.ofNat_lt.mpr h1,by exact Int.ofNat_le.mpr h2⟩,?_⟩
 split
 ·have e:(xs.length:Int)=3:=of_decide_eq_true (by assumption)
  exact ⟨key 0 (by exact Int.natCast_nonneg _) (by exact Int.ofNat_lt.mpr h1),key 1 (by exact Int.natCast_nonneg _) (by omega),key 2 (by exact Int.natCast_nonneg _) (by omega),trivial⟩
 ·exact key
theorem K2:sy O1 noStr "_law_one" Cone:=by
 intro d vs s Q h
 have q:=ab h
 clear h
 obtain ⟨hd,h⟩:=q
 have q:=Sr h
 clear h
 obtain ⟨v,xs,rfl,h⟩:=q
 refine bc fun hG=>?_
 obtain ⟨k,a,b,rfl,hk,hs,⟨h1,h2⟩,h⟩:=d3 h
 refine hG ?_
 exact ⟨40,[k],29,Nat.le_trans (c7 hd) (by decide),.inl ⟨by decide,Sw [.lst xs] hk (Sz hs h1 h2 fun x hx a b hs=>fr1 (by
  split at h
  ·exact h x hx a b hs
  ·exact o7 h hx a b hs))⟩⟩
noncomputable def O2:Known Prop:=lay O1 noStr "_law_one" Cone
theorem Dp (a b:Int) (C:Option (List VO)->Option P->Prop):af False (ev False O2 40) 26 noStr "_law_value" [.ref 0] ⟨[],.node (.list [.int a,.int b]) .nil .nil,1⟩ (fun v s'=>C (ah s' [0]) (reifyM 1 s' 9 v)) =
  Cone 27 [.ref 0,.p (.lst [.none,.int 0,.int 1,.int 1,.int 2,.str "a",.str "A",.str "b"])] ⟨[("source",.ref 0)],.node (.list [.int a,.int b]) .nil .nil,1⟩ fun v s=>C (ah { s with loc:=[] } [0]) (reifyM 1 { s with loc:=[] } 9 v):=by kernel_rfl
theorem w9:sy O2 noStr "_law_value" Cvalue:=by
 intro d vs s Q h
 have q:=ab h
 clear h
 obtain ⟨hd,h⟩:=q
 have q:=K1 h
 clear h
 obtain ⟨v,rfl,h⟩:=q
 refine bc fun hG=>?_
 obtain ⟨k,a,b,rfl,hk,hs,h⟩:=d3 h
 refine hG ?_
 refine ⟨40,[k],26,c7 hd,.inl ⟨by decide,Sw [] hk ?_⟩⟩
 show af False (ev False O2 40) 26 noStr "_law_value" [.ref 0] _ _
 rw [Dp]
 have key:∀ x,Vl x->drawn 0 ⟨[("source",.ref 0)],.node (.list [.int a,.int b]) .nil .nil,1⟩ fun s'=>fr [k] s Q (ah { s' with loc:=[] } [0]) (reifyM 1 { s' with loc:=[] } 9 (.p x)):=fun x hx a b hs=>fr1 (h x hx a b hs)
 refine i0 rfl ⟨hs,by decide,?_⟩
 show ∀ x,x∈_->_
 intro x hx
 refine key x ?_
 simp only [List.mem_cons,List.not_mem_nil,or_false] at hx
 delta Vl vals
 simp only [List.mem_cons,List.not_mem_nil,or_false]
 rcases hx with rfl | rfl | rfl | rfl | rfl | rfl | rfl | rfl <;> simp only [true_or,or_true]
noncomputable def O3:Known Prop:=lay O2 noStr "_law_value" Cvalue
theorem zx (c:Str) (C:Option P->Prop):af False (ev False O3 40) 30 noStr "_law_class" [.p .none,.p (.str c)] ⟨[],.nil,0⟩ (fun v s'=>C (reifyM 0 s' 9 v))=C (some (.tup [.int 0,.int 0,.str noStr])):=by kernel_rfl
theorem Dq (i:Int) (c:Str) (C:Option P->Prop):af False (ev False O3 40) 30 noStr "_law_class" [.p (.int i),.p (.str c)] ⟨[],.nil,0⟩ (fun v s'=>C (reifyM 0 s' 9 v))=C (some (.tup [.int 1,.int i,.str noStr])):=by kernel_rfl
theorem Dr (x c:Str) (C:Option P->Prop):af False (ev False O3 40) 30 noStr "_law_class" [.p (.str x),.p (.str c)] ⟨[],.nil,0⟩ (fun v s'=>C (reifyM 0 s' 9 v))=cnd (seq c "nocase") (cnd (plainS x) (C (some (.tup [.int 2,.int 0,.str (Q2 x)]))) False) (C (some (.tup [.int 2,.int 0,.str x]))):=by kernel_rfl
theorem xa:sy O3 noStr "_law_class" Cclass:=by
 intro d vs s Q h
 have q:=ab h
 clear h
 obtain ⟨hd,h⟩:=q
 have q:=Ic h
 clear h
 obtain ⟨v,c,rfl,h⟩:=q
 obtain ⟨hv,h⟩:=h
 refine ⟨40,[],30,c7 hd,.inl ⟨by decide,Dn [v,.str c] ?_⟩⟩
 rcases o6 hv with rfl | ⟨i,rfl⟩ | ⟨x,rfl,hp⟩
 ·show af False (ev False O3 40) 30 noStr "_law_class" [.p .none,.p (.str c)] _ _
  rw [zx];exact fr0 h
 ·show af False (ev False O3 40) 30 noStr "_law_class" [.p (.int i),.p (.str c)] _ _
  rw [Dq];exact fr0 h
 ·show af False (ev False O3 40) 30 noStr "_law_class" [.p (.str x),.p (.str c)] _ _
  rw [Dr (C:=fr [] s Q (some []))]
  unfold au jg nocase at h
  refine bg (fun e=>i0 hp ?_) fun e=>?_
  ·rw [e] at h;exact fr0 h
  ·rw [e] at h;exact fr0 h
noncomputable def O4:Known Prop:=lay O3 noStr "_law_class" Cclass
noncomputable def kx (c:Str×Bool) (v:P):Int:=match c.2 with
 | true => - rank c.1 v
 | false=>rank c.1 v
noncomputable def ak:List (Str×Bool)->List P->List P->Int
 | c::I,a::x,b::y=>if kx c a<kx c b then -1 else if kx c b<kx c a then 1 else ak I x y
 | _,_,_=>0
noncomputable def bo (I:List (Str×Bool)):P:=.obj "KeyInfo" [("collations",.tup (I.map fun c=>.str c.1)),("descending",.tup (I.map fun c=>.bool c.2))]
noncomputable def Ur:List P->List P->List (Str×Bool)
 | .str c::x,.bool d::y=>(c,d)::Ur x y
 | _,_=>[]
noncomputable def cp (i:P):List (Str×Bool):=match i with
 | .obj _ [(_,.tup cs),(_,.tup ds)]=>Ur cs ds
 | _=>[]
theorem i4 (I:List (Str×Bool)):cp (bo I)=I:=by
 show Ur (I.map fun c=>.str c.1) (I.map fun c=>.bool c.2)=I
 induction I with
 | nil=>rfl
 | cons c I ih=>show c::Ur _ _=_;rw [ih]
noncomputable def qa (i:P) (x y:List P):Prop:=∃ I,i=bo I/\((I.length=3/\x.length=3/\(y.length=1\/y.length=2\/y.length=3))\/(I.length=1/\x.length=1/\y.length=1))/\(∀ v∈x,Vl v) /\ ∀ v∈y,Vl v
noncomputable def Csign:Ct:=fun d vs s Q=>cnd (Nat.ble d 28) (match vs with
 | [.p (.lst x),.p (.lst y),.p i]=>qa i x y/\Q (.p (.int (ak (cp i) x y))) s
 | _=>False) False
noncomputable def sgT (K:Int->Prop):List (Str×Bool)->List P->List P->Prop
 | c::I,a::x,b::y=>Vl a/\(Vl b/\opt False ((du (au a c.1) (au b c.1)).map (!·)) fun ne=>cnd ne (opt False (j1 (au b c.1) (au a c.1)) fun gt=>cnd gt (cnd c.2 (K (-1)) (K 1)) (cnd c.2 (K 1) (K (-1)))) (sgT K I x y))
 | _,_,_=>K 0
theorem xb {K:Int->Prop} {I:List (Str×Bool)}:∀ {x y:List P},(∀ v∈x,Vl v)->(∀ v∈y,Vl v)->K (ak I x y)->sgT K I x y:=by
 induction I with
 | nil=>intro x y _ _ h;exact h
 | cons c I ih =>
  intro x y hx hy h
  induction x using List.casesOn with
  | nil=>exact h
  | cons a x =>
  induction y using List.casesOn with
  | nil=>exact h
  | cons b y =>
  have ha:=hx a (.head _)
  have hb:=hy b (.head _)
  refine ⟨ha,hb,bk (by rw [jx ha hb];rfl) ?_⟩
  have h:K (if kx c a<kx c b then -1 else if kx c b<kx c a then 1 else ak I x y):=h
  refine bg (fun e=>bk (w8 hb ha _) ?_) fun e=>?_
  ·have ne:rank c.1 a≠rank c.1 b:=fun q=>by rw [decide_eq_true q] at e;cases e
   refine bg (fun g=>?_) fun g=>?_
   ·have g:=of_decide_eq_true g
    refine bg (fun d=>?_) fun d=>?_
    ·rw [if_pos (by unfold kx;rw [d];dsimp only;exact Int.neg_lt_neg g)] at h;exact h
    ·rw [if_neg (by unfold kx;rw [d];dsimp only;exact Z4 g),if_pos (by unfold kx;rw [d];dsimp only;exact g)] at h;exact h
   ·have g:=of_decide_eq_false g
    refine bg (fun d=>?_) fun d=>?_
    ·rw [if_neg (by unfold kx;rw [d];dsimp only;exact bzj g),if_pos (by unfold kx;rw [d];dsimp only;exact bzc ne g)] at h;exact h
    ·rw [if_pos (by unfold kx;rw [d];dsimp only;exact Zr ne g)] at h;exact h
  ·have q:rank c.1 a=rank c.1 b:=of_decide_eq_true (by induction q:decide (rank c.1 a=rank c.1 b) using Bool.casesOn with | true=>rfl | false=>rw [q] at e;cases e)
   have q2:kx c a=kx c b:=by unfold kx;rw [q]
   rw [if_neg (by exact Z2 q2),if_neg (by exact Z3 q2)] at h
   exact ih (fun v m=>hx v (.tail _ m)) (fun v m=>hy v (.tail _ m)) h
theorem S6 (c0:Str×Bool) (a0 b0:P) (C:Option P->Prop):af False (ev False O4 60) 28 noStr "_law_sign" [.p (.lst [a0]),.p (.lst [b0]),.p (bo [c0])] ⟨[],.nil,0⟩ (fun v s'=>C (reifyM 0 s' 9 v)) =
  sgT (fun i=>C (some (.int i))) [c0] [a0] [b0]:=by kernel_rfl
theorem S7 (c0 c1 c2:Str×Bool) (a0 a1 a2 b0:P) (C:Option P->Prop):af False (ev False O4 60) 28 noStr "_law_sign" [.p (.lst [a0,a1,a2]),.p (.lst [b0]),.p (bo [c0,c1,c2])] ⟨[],.nil,0⟩ (fun v s'=>C (reifyM 0 s' 9 v)) =
  sgT (fun i=>C (some (.int i))) [c0,c1,c2] [a0,a1,a2] [b0]:=by kernel_rfl
theorem S8 (c0 c1 c2:Str×Bool) (a0 a1 a2 b0 b1:P) (C:Option P->Prop):af False (ev False O4 60) 28 noStr "_law_sign" [.p (.lst [a0,a1,a2]),.p (.lst [b0,b1]),.p (bo [c0,c1,c2])] ⟨[],.nil,0⟩ (fun v s'=>C (reifyM 0 s' 9 v)) =
  sgT (fun i=>C (some (.int i))) [c0,c1,c2] [a0,a1,a2] [b0,b1]:=by kernel_rfl
theorem S9 (c0 c1 c2:Str×Bool) (a0 a1 a2 b0 b1 b2:P) (C:Option P->Prop):af False (ev False O4 60) 28 noStr "_law_sign" [.p (.lst [a0,a1,a2]),.p (.lst [b0,b1,b2]),.p (bo [c0,c1,c2])] ⟨[],.nil,0⟩ (fun v s'=>C (reifyM 0 s' 9 v)) =
  sgT (fun i=>C (some (.int i))) [c0,c1,c2] [a0,a1,a2] [b0,b1,b2]:=by kernel_rfl
theorem jm {α:Type} {l:List α} (h:l.length=1):∃ a,l=[a]:=List.length_eq_one_iff.mp h
theorem Ig {α:Type} {l:List α} (h:l.length=2):∃ a b,l=[a,b]:=by
 obtain ⟨a,t,rfl⟩:=List.exists_cons_of_length_eq_add_one h
 obtain ⟨b,rfl⟩:=jm (Nat.succ.inj h)
 exact ⟨a,b,rfl⟩
theorem Ds {α:Type} {l:List α} (h:l.length=3):∃ a b c,l=[a,b,c]:=by
 obtain ⟨a,t,rfl⟩:=List.exists_cons_of_length_eq_add_one h
 obtain ⟨b,c,rfl⟩:=Ig (Nat.succ.inj h)
 exact ⟨a,b,c,rfl⟩
theorem Yi {α:Type} {P:List α->Prop} (h0:P []) (h1:∀ a,P [a]) (h2:∀ a b,P [a,b]) (h3:∀ a b c,P [a,b,c]) (h4:∀ a b c d,P [a,b,c,d]) {l:List α} (h:l.length<=4):P l:=by
 induction l using List.casesOn with
 | nil=>exact h0
 | cons a l =>
 induction l using List.casesOn with
 | nil=>exact h1 a
 | cons b l =>
 induction l using List.casesOn with
 | nil=>exact h2 a b
 | cons c l =>
 induction l using List.casesOn with
 | nil=>exact h3 a b c
 | cons d l =>
 induction l using List.casesOn with
 | nil=>exact h4 a b c d
 | cons e l=>exact absurd (Nat.le_of_succ_le_succ (Nat.le_of_succ_le_succ (Nat.le_of_succ_le_succ (Nat.le_of_succ_le_succ h)))) (Nat.not_succ_le_zero _)
theorem Dt:sy O4 noStr "_law_sign" Csign:=by
 intro d vs s Q h
 have q:=ab h
 clear h
 obtain ⟨hd,h⟩:=q
 have q:=Dl h
 clear h
 obtain ⟨x,y,i,rfl,h⟩:=q
 obtain ⟨⟨I,rfl,hl,hx,hy⟩,h⟩:=h
 rw [i4] at h
 refine ⟨60,[],28,c7 hd,.inl ⟨by decide,Dn [.lst x,.lst y,bo I] ?_⟩⟩
 show af False (ev False O4 60) 28 noStr "_law_sign" [.p (.lst x),.p (.lst y),.p (bo I)] _ _
 rcases hl with ⟨h1,h2,h3⟩ | ⟨h1,h2,h3⟩
 ·obtain ⟨c0,c1,c2,rfl⟩:=Ds h1
  obtain ⟨a0,a1,a2,rfl⟩:=Ds h2
  rcases h3 with h3 | h3 | h3
  ·obtain ⟨b0,rfl⟩:=jm h3
   rw [S7 (C:=fr [] s Q (some []))];exact xb hx hy (fr0 h)
  ·obtain ⟨b0,b1,rfl⟩:=Ig h3
   rw [S8 (C:=fr [] s Q (some []))];exact xb hx hy (fr0 h)
  ·obtain ⟨b0,b1,b2,rfl⟩:=Ds h3
   rw [S9 (C:=fr [] s Q (some []))];exact xb hx hy (fr0 h)
 ·obtain ⟨c0,rfl⟩:=jm h1
  obtain ⟨a0,rfl⟩:=jm h2
  obtain ⟨b0,rfl⟩:=jm h3
  rw [S6 (C:=fr [] s Q (some []))];exact xb hx hy (fr0 h)
noncomputable def O5:Known Prop:=lay O4 noStr "_law_sign" Csign
noncomputable def vd {α:Type} (G:α->Prop) (p:α->Bool) (K:List α->Prop):List α->List α->Prop
 | [],acc=>K acc
 | x::r,acc=>G x/\cnd (p x) (vd G p K r (acc++[x])) (vd G p K r acc)
theorem xc {α:Type} {G:α->Prop} {p:α->Bool} {K:List α->Prop}:∀ {l acc:List α},(∀ x∈l,G x)->K (acc++l.filter p)->vd G p K l acc:=by
 intro l0
 induction l0 with
 | nil =>
  intro acc _ h
  unfold vd;simpa using h
 | cons x r ih =>
  intro acc hg h
  unfold vd
  refine ⟨hg x (.head _),bg (fun e=>ih (fun y m=>hg y (.tail _ m)) ?_) fun e=>ih (fun y m=>hg y (.tail _ m)) ?_⟩
  ·rw [List.filter_cons_of_pos e] at h;simpa using h
  ·rw [List.filter_cons_of_neg (by rw [e];decide)] at h;exact h
noncomputable def placed (I:List (Str×Bool)) (R:List (List P)) (r:List P):List (List P):=match R.filter fun x=>decide (ak I x r=0) with
 | []=>R.filter (fun x=>decide (ak I x r<0))++[r]++R.drop (R.filter fun x=>decide (ak I x r<0)).length
 | _::_=>R
noncomputable def unP (v:P):List P:=match v with
 | .lst x=>x
 | _=>[]
theorem ve (R:List (List P)):(R.map P.lst).map unP=R:=by
 induction R with
 | nil=>rfl
 | cons x R ih=>show x::_=_;rw [ih]
noncomputable def Ta (i:P) (rows:List P) (r:List P):Prop:=∃ R:List (List P),rows=R.map .lst/\R.length<=3 /\ ∀ x∈R,qa i x r
noncomputable def Cplaced:Ct:=fun d vs s Q=>cnd (Nat.ble d 24) (match vs with
 | [.p (.lst rows),.p (.lst r),.p i]=>Ta i rows r/\Q (.p (.lst ((placed (cp i) (rows.map unP) r).map .lst))) s
 | _=>False) False
noncomputable def plT (i:P) (R:List (List P)) (r:List P) (C:Option P->Prop):Prop :=
 vd (fun x=>qa i x r) (fun x=>decide (ak (cp i) x r=0)) (fun l=>match l with
  | []=>vd (fun x=>qa i x r) (fun x=>decide (ak (cp i) x r<0)) (fun l=>C (some (.lst ((l++[r]++R.drop l.length).map .lst)))) R []
  | _::_=>C (some (.lst (R.map .lst)))) R []
noncomputable abbrev vf (i:P) (R:List (List P)) (r:List P) (C:Option P->Prop):Prop:=af False (ev False O5 60) 24 noStr "_law_placed" [.p (.lst (R.map .lst)),.p (.lst r),.p i] ⟨[],.nil,0⟩ (fun v s'=>C (reifyM 0 s' 9 v))
theorem Nv (i:P) (r:List P) (C:Option P->Prop):vf i [] r C=plT i [] r C:=by kernel_rfl
theorem Nw (i:P) (r x0:List P) (C:Option P->Prop):vf i [x0] r C=plT i [x0] r C:=by kernel_rfl
theorem Nx (i:P) (r x0 x1:List P) (C:Option P->Prop):vf i [x0,x1] r C=plT i [x0,x1] r C:=by kernel_rfl
theorem Ny (i:P) (r x0 x1 x2:List P) (C:Option P->Prop):vf i [x0,x1,x2] r C=plT i [x0,x1,x2] r C:=by kernel_rfl
theorem zy (i:P) (R:List (List P)) (r:List P) (h:R.length<=3) (C:Option P->Prop):vf i R r C=plT i R r C:=by
 exact Yi (P:=fun R=>R.length<=3->vf i R r C=plT i R r C) (fun _=>Nv ..) (fun _ _=>Nw ..) (fun _ _ _=>Nx ..) (fun _ _ _ _=>Ny ..) (fun _ _ _ _ h=>absurd h (Nat.not_succ_le_self 3)) (Nat.le_succ_of_le h) h
theorem rq:sy O5 noStr "_law_placed" Cplaced:=by
 intro d vs s Q h
 have q:=ab h
 clear h
 obtain ⟨hd,h⟩:=q
 have q:=Dl h
 clear h
 obtain ⟨rows,r,i,rfl,h⟩:=q
 refine bc fun hG=>?_
 obtain ⟨⟨R,rfl,hl,hs⟩,h⟩:=h
 refine hG ?_
 rw [ve] at h
 refine ⟨60,[],24,c7 hd,.inl ⟨by decide,Dn [.lst (R.map .lst),.lst r,i] ?_⟩⟩
 show vf i R r (fr [] s Q (some []))
 rw [zy i R r hl]
 refine xc hs ?_
 rw [List.nil_append]
 unfold placed at h
 split
 ·rename_i e
  rw [e] at h
  dsimp only at h
  refine xc hs (fr0 ?_)
  rw [List.nil_append]
  exact h
 ·rename_i e
  rw [e] at h
  exact fr0 h
noncomputable def O6:Known Prop:=lay O5 noStr "_law_placed" Cplaced
theorem az6 {r:H Prop} {d:Nat} {c c' m':Str} (xs:List P) {s:St} {Q:V->St->Prop} (hm:cz 3 c "__init__" = some (.fn c' m')) (hd:Nat.ble 40 d=false)
  (h:af False r (d+1) c' m' (.ref 1::xs.map .p) ⟨[],.node (.ns []) (.node (.inst c 0) .nil .nil) .nil,2⟩ fun v s'=>v = .p .none/\fr [] s Q (some []) (reifyM 0 s' 9 (.ref 1))):kp r d c [] (xs.map .p) s Q :=
 ⟨[],xs.map .p,c',m',rfl,rfl,vc _ _,hm,hd,h⟩
noncomputable def Cliteral:Ct:=fun d vs s Q=>cnd (Nat.ble d 30) (match vs with
 | [.p v]=>Q (.p (.obj "Literal" [("value",v)])) s
 | _=>False) False
noncomputable def Ckeyinfo:Ct:=fun d vs s Q=>cnd (Nat.ble d 30) (match vs with
 | [.p (.tup cs),.p (.tup ds)]=>cnd (decide ((cs.length:Int)=ds.length)) (Q (.p (.obj "KeyInfo" [("collations",.tup cs),("descending",.tup ds)])) s) False
 | _=>False) False
theorem vg (v:P) (C:V->Option P->Prop):af False (ev False O6 60) 31 "Literal" "__init__" [.ref 1,.p v] ⟨[],.node (.ns []) (.node (.inst "Literal" 0) .nil .nil) .nil,2⟩ (fun v s'=>C v (reifyM 0 s' 9 (.ref 1)))=C (.p .none) (some (.obj "Literal" [("value",v)])):=by kernel_rfl
theorem Nz (cs ds:List P) (C:V->Option P->Prop):af False (ev False O6 60) 31 "KeyInfo" "__init__" [.ref 1,.p (.tup cs),.p (.tup ds)] ⟨[],.node (.ns []) (.node (.inst "KeyInfo" 0) .nil .nil) .nil,2⟩ (fun v s'=>C v (reifyM 0 s' 9 (.ref 1)))=cnd (!decide ((cs.length:Int)=ds.length)) False (C (.p .none) (some (.obj "KeyInfo" [("collations",.tup cs),("descending",.tup ds)]))):=by kernel_rfl
theorem m9:sy O6 "Literal" noStr Cliteral:=by
 intro d vs s Q h
 have q:=ab h
 clear h
 obtain ⟨hd,h⟩:=q
 have q:=Nm h
 clear h
 obtain ⟨v,rfl,h⟩:=q
 refine ⟨60,[],30,c7 hd,.inr ⟨rfl,az6 [v] (by kernel_rfl:cz 3 "Literal" "__init__" = some (.fn "Literal" "__init__")) rfl ?_⟩⟩
 show af False (ev False O6 60) 31 "Literal" "__init__" [.ref 1,.p v] _ _
 rw [vg (C:=fun v p=>v = .p .none/\fr [] s Q (some []) p)]
 exact ⟨rfl,fr0 h⟩
noncomputable def O7:Known Prop:=lay O6 "Literal" noStr Cliteral
theorem rt (cs ds:List P) (C:V->Option P->Prop):af False (ev False O7 60) 31 "KeyInfo" "__init__" [.ref 1,.p (.tup cs),.p (.tup ds)] ⟨[],.node (.ns []) (.node (.inst "KeyInfo" 0) .nil .nil) .nil,2⟩ (fun v s'=>C v (reifyM 0 s' 9 (.ref 1)))=cnd (!decide ((cs.length:Int)=ds.length)) False (C (.p .none) (some (.obj "KeyInfo" [("collations",.tup cs),("descending",.tup ds)]))):=by kernel_rfl
theorem nc:sy O7 "KeyInfo" noStr Ckeyinfo:=by
 intro d vs s Q h
 have q:=ab h
 clear h
 obtain ⟨hd,h⟩:=q
 have q:=Ss h
 clear h
 obtain ⟨cs,ds,rfl,h⟩:=q
 have q:=ab h
 clear h
 obtain ⟨hl,h⟩:=q
 refine ⟨60,[],30,c7 hd,.inr ⟨rfl,az6 [.tup cs,.tup ds] (by kernel_rfl:cz 3 "KeyInfo" "__init__" = some (.fn "KeyInfo" "__init__")) rfl ?_⟩⟩
 show af False (ev False O7 60) 31 "KeyInfo" "__init__" [.ref 1,.p (.tup cs),.p (.tup ds)] _ _
 rw [rt (C:=fun v p=>v = .p .none/\fr [] s Q (some []) p),hl]
 exact ⟨rfl,fr0 h⟩
noncomputable def O8:Known Prop:=lay O7 "KeyInfo" noStr Ckeyinfo
noncomputable abbrev Bd:=Option (P×Bool)
noncomputable def aj (b:Bd):P:=match b with
 | none=>.none
 | some (b,i)=>.tup [b,.bool i]
noncomputable def ay (p:P):Bd:=match p with
 | .tup [b,.bool i]=>some (b,i)
 | _=>none
theorem cm (b:Bd):ay (aj b)=b:=by
 match b with
 | none=>rfl
 | some (_,_)=>rfl
noncomputable def bOk (b:Bd):Prop:=∀ x,b=some x->Vl x.1
noncomputable def P7 (v:P) (c:Str) (low:Bool) (b:P):Bool:=match low with
 | true=>decide (rank c b<rank c v)
 | false=>decide (rank c v<rank c b)
noncomputable def okB (v:P) (c:Str) (low:Bool) (b:Bd):Bool:=match b with
 | none=>true
 | some (b,i) => !isNone v&&(!isNone b&&(P7 v c low b||(i&&decide (rank c v=rank c b))))
noncomputable def within (v:P) (c:Str) (lo hi:Bd):Bool:=okB v c true lo&&okB v c false hi
noncomputable def WOk (v lo hi:P):Prop:=Vl v /\ ∃ lo' hi',lo=aj lo'/\hi=aj hi'/\bOk lo'/\bOk hi'
noncomputable def Cwithin:Ct:=fun d vs s Q=>cnd (Nat.ble d 26) (match vs with
 | [.p v,.p lo,.p hi,.p (.str c)]=>WOk v lo hi/\Q (.p (.bool (within v c (ay lo) (ay hi)))) s
 | _=>False) False
noncomputable def s0:St:=⟨[],.nil,0⟩
noncomputable def wT1 (v:P) (c:Str) (low:Bool) (b:Bd) (R N:Prop):Prop:=match b with
 | none=>N
 | some (b,i)=>Vl b/\opt False (match low with | true=>j1 (au b c) (au v c) | false=>j1 (au v c) (au b c)) fun ins =>
  opt False (cmp .Is (.p v) (.p .none) s0) fun b1=>cnd b1 R (opt False (cmp .Is (.p b) (.p .none) s0) fun b2=>cnd b2 R (cnd (!ins) (cnd i (opt False (du (au v c) (au b c)) fun e=>cnd e N R) R) N))
noncomputable def wT (v:P) (c:Str) (lo hi:Bd) (C:Option P->Prop):Prop:=Vl v/\wT1 v c true lo (C (some (.bool false))) (wT1 v c false hi (C (some (.bool false))) (C (some (.bool true))))
theorem K3 {v:P} {c:Str} {low:Bool} {b:Bd} {R N:Prop} (hv:Vl v) (hb:bOk b) (h1:okB v c low b=true->N) (h2:okB v c low b=false->R):wT1 v c low b R N:=by
 delta wT1
 delta okB at h1 h2
 match b with
 | none=>exact h1 rfl
 | some (b,i) =>
  dsimp only at h1 h2 ⊢
  have hb:=hb _ rfl
  dsimp only at hb
  refine ⟨hb,bk (x:=P7 v c low b) (by induction low using Bool.casesOn <;> exact w8 (by assumption) (by assumption) c) ?_⟩
  refine bk (kq hv _) (bg (fun e=>h2 (by rw [e];rfl)) fun e1=>bk (kq hb _) (bg (fun e=>h2 (by rw [e1,e];rfl)) fun e2=>?_))
  rw [e1,e2] at h1 h2
  generalize P7 v c low b=ins at h1 h2 ⊢
  refine bg (fun e=>bg (fun ei=>bk (jx hv hb c) (bg (fun e3=>h1 ?_) fun e3=>h2 ?_)) fun ei=>h2 ?_) fun e=>h1 ?_
  ·rw [e3,ei];induction ins using Bool.casesOn <;> rfl
  ·rw [e3];induction ins using Bool.casesOn <;> induction i using Bool.casesOn <;> first | rfl | injection e
  ·rw [ei];induction ins using Bool.casesOn <;> first | rfl | injection e
  ·induction ins using Bool.casesOn <;> first | rfl | injection e
noncomputable abbrev P8 (v:P) (c:Str) (lo hi:Bd) (C:Option P->Prop):Prop:=af False (ev False O8 60) 26 noStr "_law_within" [.p v,.p (aj lo),.p (aj hi),.p (.str c)] ⟨[],.nil,0⟩ (fun v s'=>C (reifyM 0 s' 9 v))
theorem Ih (v:P) (c:Str) (C:Option P->Prop):P8 v c none none C=wT v c none none C:=by kernel_rfl
theorem Ii (v b:P) (i:Bool) (c:Str) (C:Option P->Prop):P8 v c (some (b,i)) none C=wT v c (some (b,i)) none C:=by kernel_rfl
theorem Ij (v b:P) (i:Bool) (c:Str) (C:Option P->Prop):P8 v c none (some (b,i)) C=wT v c none (some (b,i)) C:=by kernel_rfl
theorem Ik (v b b':P) (i i':Bool) (c:Str) (C:Option P->Prop):P8 v c (some (b,i)) (some (b',i')) C=wT v c (some (b,i)) (some (b',i')) C:=by kernel_rfl
theorem zz (v:P) (c:Str) (lo hi:Bd) (C:Option P->Prop):P8 v c lo hi C=wT v c lo hi C:=by
 match lo,hi with
 | none,none=>exact Ih ..
 | some (_,_),none=>exact Ii ..
 | none,some (_,_)=>exact Ij ..
 | some (_,_),some (_,_)=>exact Ik ..
theorem ru:sy O8 noStr "_law_within" Cwithin:=by
 intro d vs s Q h
 have q:=ab h
 clear h
 obtain ⟨hd,h⟩:=q
 have q:=Dm h
 clear h
 obtain ⟨v,lo,hi,c,rfl,h⟩:=q
 refine bc fun hG=>?_
 obtain ⟨⟨hv,lo,hi,rfl,rfl,hlo,hhi⟩,h⟩:=h
 refine hG ?_
 rw [cm,cm] at h
 refine ⟨60,[],26,c7 hd,.inl ⟨by decide,Dn [v,aj lo,aj hi,.str c] ?_⟩⟩
 show P8 v c lo hi (fr [] s Q (some []))
 rw [zz]
 unfold within at h
 refine ⟨hv,K3 hv hlo (fun e=>?_) fun e=>?_⟩
 ·rw [e] at h
  refine K3 hv hhi (fun e=>?_) fun e=>?_
  ·rw [e] at h;exact fr0 h
  ·rw [e] at h;exact fr0 h
 ·rw [e] at h;exact fr0 h
noncomputable def O9:Known Prop:=lay O8 noStr "_law_within" Cwithin
noncomputable def rv:List P->List P->List Str->Bool
 | e::es,r::rs,c::cs=>(!isNone e&&decide (rank c e=rank c r))&&rv es rs cs
 | _,_,_=>true
noncomputable def o9 (ws:List P) (r:P) (c:Str):Bool:=(ws.filter fun w => !isNone w).any fun w=>decide (rank c w=rank c r)
noncomputable def f7 (sm:Option (List P)) (lo hi:Bd) (n:Nat) (r:P) (c:Str):Bool:=match sm with
 | some ws=>o9 ws r c
 | none=>Nat.blt 1 n||within r c lo hi
noncomputable def due (es:List P) (sm:Option (List P)) (lo hi:Bd) (row:List P) (cs:List Str):Bool :=
 rv es row cs&&f7 sm lo hi es.length (row.getD es.length .none) (cs.getD es.length noStr)
noncomputable def jn (sm:Option (List P)):P:=match sm with
 | none=>.none
 | some ws=>.lst ws
noncomputable def Du (p:P):Option (List P):=match p with
 | .lst ws=>some ws
 | _=>none
theorem Dv (sm:Option (List P)):Du (jn sm)=sm:=by induction sm using Option.casesOn <;> rfl
noncomputable def unS (p:P):Str:=match p with
 | .str s=>s
 | _=>noStr
theorem N5 (cs:List Str):(cs.map P.str).map unS=cs:=by
 induction cs with
 | nil=>rfl
 | cons c cs ih=>show c::_=_;rw [ih]
noncomputable def Il (es:List P) (sm:Option (List P)) (lo hi:Bd):Prop:=(∀ e∈es,Vl e)/\(∀ ws,sm=some ws->(ws.length=1\/ws.length=2\/ws.length=3) /\ ∀ w∈ws,Vl w)/\bOk lo/\bOk hi/\(es.length=0\/es.length=1\/es.length=2/\sm=none)
noncomputable def bz (es:List P) (sm:Option (List P)) (lo hi:Bd):P:=.tup [.lst es,jn sm,aj lo,aj hi]
noncomputable def Tb (row:List P) (es sm lo hi:P) (cs:List P):Prop:=∃ (es':List P) (sm':Option (List P)) (lo' hi':Bd) (cs':List Str),es = .lst es'/\sm=jn sm'/\lo=aj lo'/\hi=aj hi'/\cs=cs'.map .str/\Il es' sm' lo' hi'/\row.length=3/\(∀ v∈row,Vl v)/\cs'.length=3
noncomputable def unL (p:P):List P:=match p with
 | .lst x=>x
 | _=>[]
noncomputable def Cdue:Ct:=fun d vs s Q=>cnd (Nat.ble d 24) (match vs with
 | [.p (.lst row),.p (.tup [es,sm,lo,hi]),.p (.lst cs)]=>Tb row es sm lo hi cs/\Q (.p (.bool (due (unL es) (Du sm) (ay lo) (ay hi) row (cs.map unS)))) s
 | _=>False) False
noncomputable def mkT (c:Str) (K:List P->Prop):List P->List P->Prop
 | [],acc=>K acc
 | w::ws,acc=>opt False (cmp .IsNot (.p w) (.p .none) s0) fun b=>cnd b (Vl w/\mkT c K ws (acc++[au w c])) (mkT c K ws acc)
noncomputable def dT2 (sm:Option (List P)) (lo hi:P) (many:Bool) (C:Bool->Prop) (r:P) (c:Str):Prop:=match sm with
 | some ws=>mkT c (fun ms=>Vl r/\opt False (qe (au r c) ms) C) ws []
 | none=>cnd many (C true) (WOk r lo hi/\C (within r c (ay lo) (ay hi)))
noncomputable def dT1 (e r:P) (c:Str) (R N:Prop):Prop:=opt False (cmp .Is (.p e) (.p .none) s0) fun b=>cnd b R (Vl e/\Vl r/\opt False ((du (au e c) (au r c)).map (!·)) fun ne=>cnd ne R N)
noncomputable def dT (sm:Option (List P)) (lo hi:P) (C:Bool->Prop) (n:Nat):List P->List P->List Str->Prop
 | [],r::_,c::_=>dT2 sm lo hi (Nat.blt 1 n) C r c
 | e::es,r::rs,c::cs=>dT1 e r c (C false) (dT sm lo hi C n es rs cs)
 | _,_,_=>False
noncomputable abbrev Dw (es:List P) (sm:Option (List P)) (lo hi:P) (r0 r1 r2:P) (c0 c1 c2:Str) (C:Option P->Prop):Prop:=af False (ev False O9 60) 24 noStr "_law_is_due" [.p (.lst [r0,r1,r2]),.p (.tup [.lst es,jn sm,lo,hi]),.p (.lst [.str c0,.str c1,.str c2])] ⟨[],.nil,0⟩ (fun v s'=>C (reifyM 0 s' 9 v))
noncomputable abbrev Fv (es:List P) (sm:Option (List P)) (lo hi:P) (r0 r1 r2:P) (c0 c1 c2:Str) (C:Option P->Prop):Prop:=dT sm lo hi (fun b=>C (some (.bool b))) es.length es [r0,r1,r2] [c0,c1,c2]
theorem Yj (lo hi r0 r1 r2:P) (c0 c1 c2:Str) (C:Option P->Prop):Dw [] none lo hi r0 r1 r2 c0 c1 c2 C=Fv [] none lo hi r0 r1 r2 c0 c1 c2 C:=by kernel_rfl
theorem Yk (lo hi w0 r0 r1 r2:P) (c0 c1 c2:Str) (C:Option P->Prop):Dw [] (some [w0]) lo hi r0 r1 r2 c0 c1 c2 C=Fv [] (some [w0]) lo hi r0 r1 r2 c0 c1 c2 C:=by kernel_rfl
theorem Yl (lo hi w0 w1 r0 r1 r2:P) (c0 c1 c2:Str) (C:Option P->Prop):Dw [] (some [w0,w1]) lo hi r0 r1 r2 c0 c1 c2 C=Fv [] (some [w0,w1]) lo hi r0 r1 r2 c0 c1 c2 C:=by kernel_rfl
theorem Ym (lo hi w0 w1 w2 r0 r1 r2:P) (c0 c1 c2:Str) (C:Option P->Prop):Dw [] (some [w0,w1,w2]) lo hi r0 r1 r2 c0 c1 c2 C=Fv [] (some [w0,w1,w2]) lo hi r0 r1 r2 c0 c1 c2 C:=by kernel_rfl
theorem Yn (e0 lo hi r0 r1 r2:P) (c0 c1 c2:Str) (C:Option P->Prop):Dw [e0] none lo hi r0 r1 r2 c0 c1 c2 C=Fv [e0] none lo hi r0 r1 r2 c0 c1 c2 C:=by kernel_rfl
theorem Yo (e0 lo hi w0 r0 r1 r2:P) (c0 c1 c2:Str) (C:Option P->Prop):Dw [e0] (some [w0]) lo hi r0 r1 r2 c0 c1 c2 C=Fv [e0] (some [w0]) lo hi r0 r1 r2 c0 c1 c2 C:=by kernel_rfl
theorem Yp (e0 lo hi w0 w1 r0 r1 r2:P) (c0 c1 c2:Str) (C:Option P->Prop):Dw [e0] (some [w0,w1]) lo hi r0 r1 r2 c0 c1 c2 C=Fv [e0] (some [w0,w1]) lo hi r0 r1 r2 c0 c1 c2 C:=by kernel_rfl
theorem Yq (e0 lo hi w0 w1 w2 r0 r1 r2:P) (c0 c1 c2:Str) (C:Option P->Prop):Dw [e0] (some [w0,w1,w2]) lo hi r0 r1 r2 c0 c1 c2 C=Fv [e0] (some [w0,w1,w2]) lo hi r0 r1 r2 c0 c1 c2 C:=by kernel_rfl
theorem Yr (e0 e1 lo hi r0 r1 r2:P) (c0 c1 c2:Str) (C:Option P->Prop):Dw [e0,e1] none lo hi r0 r1 r2 c0 c1 c2 C=Fv [e0,e1] none lo hi r0 r1 r2 c0 c1 c2 C:=by kernel_rfl
theorem Tc {c:Str} {K:List P->Prop}:∀ {ws acc:List P},(∀ w∈ws,Vl w)->K (acc++(ws.filter fun w => !isNone w).map fun w=>au w c)->mkT c K ws acc:=by
 intro l0
 induction l0 with
 | nil =>
  intro acc _ h
  unfold mkT;simpa using h
 | cons w ws ih =>
  intro acc hw h
  unfold mkT
  refine bk (x := !isNone w) (by
   show Option.map _ (cmp .Is (.p w) (.p .none) s0)=_
   rw [kq (hw w (.head _)) s0];rfl) (bg (fun e=>⟨hw w (.head _),ih (fun v m=>hw v (.tail _ m)) ?_⟩) fun e=>ih (fun v m=>hw v (.tail _ m)) ?_)
  ·rw [List.filter_cons_of_pos (p:=fun w => !isNone w) e] at h;simpa using h
  ·rw [List.filter_cons_of_neg (p:=fun w => !isNone w) (by rw [e];decide)] at h;exact h
theorem N6 {c:Str} {r:P} (hr:Vl r):∀ {ws:List P},(∀ w∈ws,Vl w)->qe (au r c) (ws.map fun w=>au w c)=some (ws.any fun w=>decide (rank c w=rank c r)):=by
 intro l0
 induction l0 with
 | nil =>
  intro _
  exact rfl
 | cons w ws ih =>
  intro hw
  have h1:eqT (au w c) (au r c)=some (decide (rank c w=rank c r)):=by
   have:=jx (hw w (.head _)) hr c
   have h:∀ v∈vals,∀ w∈vals,∀ n:Bool,eqT (jg n v) (jg n w)=some (decide (o5 n v=o5 n w)):=by decide +kernel
   exact h w (hw w (.head _)) r hr (nocase c)
  show (match eqT (au w c) (au r c),qe (au r c) (ws.map fun w=>au w c) with
   | some p,some q=>some (p||q)
   | _,_=>none)=_
  rw [h1,ih (fun v m=>hw v (.tail _ m))]
  rfl
theorem Te {e r:P} {c:Str} {R N:Prop} (he:Vl e) (hr:Vl r) (h1:(!isNone e&&decide (rank c e=rank c r))=true->N) (h2:(!isNone e&&decide (rank c e=rank c r))=false->R):dT1 e r c R N:=by
 refine bk (kq he s0) (bg (fun q=>h2 (by rw [q];rfl)) fun q=>⟨he,hr,bk (by rw [jx he hr];rfl) (bg (fun z=>h2 ?_) fun z=>h1 ?_)⟩)
 ·rw [q];induction y:decide (rank c e=rank c r) using Bool.casesOn with
  | true=>rw [y] at z;injection z
  | false=>rfl
 ·rw [q];induction y:decide (rank c e=rank c r) using Bool.casesOn with
  | true=>rfl
  | false=>rw [y] at z;injection z
theorem Tf {sm:Option (List P)} {lo hi:Bd} {n:Nat} {C:Bool->Prop} {r:P} {c:Str} (hr:Vl r) (hs:∀ ws,sm=some ws -> ∀ w∈ws,Vl w) (h1:bOk lo) (h2:bOk hi)
  (h:C (f7 sm lo hi n r c)):dT2 sm (aj lo) (aj hi) (Nat.blt 1 n) C r c:=by
 unfold dT2
 unfold f7 at h
 match sm with
 | some ws =>
  refine Tc (hs ws rfl) ⟨hr,bk (N6 hr fun w m=>hs ws rfl w (List.mem_filter.mp m).1) ?_⟩
  exact h
 | none =>
  dsimp only at h ⊢
  rw [cm,cm]
  refine bg (fun e=>by rw [e] at h;exact h) fun e=>⟨⟨hr,lo,hi,rfl,rfl,h1,h2⟩,by rw [e] at h;exact h⟩
theorem Tg {sm:Option (List P)} {lo hi:Bd} {C:Bool->Prop} {n:Nat} (hs:∀ ws,sm=some ws -> ∀ w∈ws,Vl w) (h1:bOk lo) (h2:bOk hi):∀ {es row:List P} {cs:List Str},es.length<row.length->row.length=cs.length->(∀ e∈es,Vl e)->(∀ v∈row,Vl v) ->
  C (rv es row cs&&f7 sm lo hi n (row.getD es.length .none) (cs.getD es.length noStr))->dT sm (aj lo) (aj hi) C n es row cs
 | [],r::rs,c::cs,_,_,_,hr,h=>by
  delta dT
  refine Tf (hr r (.head _)) hs h1 h2 ?_
  exact h
 | e::es,r::rs,c::cs,hl,hl2,he,hr,h=>by
  dsimp only [dT]
  unfold rv at h
  refine Te (he e (.head _)) (hr r (.head _)) (fun q=>Tg hs h1 h2 (Nat.lt_of_succ_lt_succ hl) (Nat.succ.inj hl2) (fun v m=>he v (.tail _ m)) (fun v m=>hr v (.tail _ m)) ?_) fun q=>?_
  ·rw [q,Bool.true_and] at h;exact h
  ·rw [q,Bool.false_and,Bool.false_and] at h;exact h
 | _,[],_,hl,_,_,_,_=>absurd hl (Nat.not_lt_zero _)
 | _,_::_,[],_,hl,_,_,_=>by injection hl
theorem N7 {es:List P} {sm:Option (List P)} {lo hi:Bd} (A:Il es sm lo hi) (r0 r1 r2:P) (c0 c1 c2:Str) (C:Option P->Prop):Dw es sm (aj lo) (aj hi) r0 r1 r2 c0 c1 c2 C=Fv es sm (aj lo) (aj hi) r0 r1 r2 c0 c1 c2 C:=by
 obtain ⟨_,h2,_,_,h3⟩:=A
 match sm,h2,h3 with
 | none,_,h3 =>
  rcases h3 with h3 | h3 | ⟨h3,_⟩
  ·exact (List.length_eq_zero_iff.mp h3) ▸ (Yj ..)
  ·obtain ⟨e0,rfl⟩:=jm h3;exact Yn ..
  ·obtain ⟨e0,e1,rfl⟩:=Ig h3;exact Yr ..
 | some ws,h2,h3 =>
  have hw:=(h2 ws rfl).1
  rcases h3 with h3 | h3 | ⟨_,h3⟩
  ·rw [List.length_eq_zero_iff.mp h3]
   rcases hw with hw | hw | hw
   ·obtain ⟨w0,rfl⟩:=jm hw;exact Yk ..
   ·obtain ⟨w0,w1,rfl⟩:=Ig hw;exact Yl ..
   ·obtain ⟨w0,w1,w2,rfl⟩:=Ds hw;exact Ym ..
  ·obtain ⟨e0,rfl⟩:=jm h3
   rcases hw with hw | hw | hw
   ·obtain ⟨w0,rfl⟩:=jm hw;exact Yo ..
   ·obtain ⟨w0,w1,rfl⟩:=Ig hw;exact Yp ..
   ·obtain ⟨w0,w1,w2,rfl⟩:=Ds hw;exact Yq ..
  ·injection h3
theorem K4:sy O9 noStr "_law_is_due" Cdue:=by
 intro d vs s Q h
 have q:=ab h
 clear h
 obtain ⟨hd,h⟩:=q
 have q:=Su h
 clear h
 obtain ⟨row,es,sm,lo,hi,cs,rfl,h⟩:=q
 obtain ⟨⟨es,sm,lo,hi,cs,rfl,rfl,rfl,rfl,rfl,A,hl,hr,hcs⟩,h⟩:=h
 rw [cm,cm,Dv,N5] at h
 obtain ⟨r0,r1,r2,rfl⟩:=Ds hl
 obtain ⟨c0,c1,c2,rfl⟩:=Ds hcs
 refine ⟨60,[],24,c7 hd,.inl ⟨by decide,Dn [.lst [r0,r1,r2],bz es sm lo hi,.lst [.str c0,.str c1,.str c2]] ?_⟩⟩
 show Dw es sm (aj lo) (aj hi) r0 r1 r2 c0 c1 c2 (fr [] s Q (some []))
 rw [N7 A]
 refine Tg (fun ws e=>(A.2.1 ws e).2) A.2.2.1 A.2.2.2.1 ?_ rfl A.1 hr (fr0 h)
 show es.length<3
 rcases A.2.2.2.2 with h3 | h3 | ⟨h3,_⟩ <;> omega
noncomputable def O10:Known Prop:=lay O9 noStr "_law_is_due" Cdue
noncomputable def lit (v:P):P:=.obj "Literal" [("value",v)]
noncomputable def litB (b:Bd):P:=match b with
 | none=>.none
 | some (b,i)=>.tup [lit b,.bool i]
noncomputable def litS (sm:Option (List P)):P:=match sm with
 | none=>.none
 | some ws=>.lst (ws.map lit)
noncomputable def idxP (cols:P):P:=.obj "Index" [("name",.str "i"),("table",.str "t"),("root",.int 2),("columns",cols),("unique",.bool false),("origin",.str "c"),("sql",.none)]
noncomputable def bf (kind:Str) (idx:P) (es:List P) (sm:Option (List P)) (lo hi:Bd) (cov de:Bool):P:=.obj "Path" [("kind",.str kind),("index",idx),("equals",.lst (es.map lit)),("equal_affinities",.lst (List.replicate es.length .none)),("low",litB lo),("high",litB hi),("low_affinity",.none),("high_affinity",.none),("in_list",litS sm),("in_affinity",.none),("covering",.bool cov),("descending",.bool de),("is_single",.bool false),("rows",.int 1000),("cost",.int 2000)]
noncomputable def z0 (xs:List P) (a b:Int) (K:P->Int->Int->Prop):Prop:=Src a b/\((1<=xs.length/\xs.length<=8)/\allOf (fun x=>∀ a b,Src a b->K x a b) xs)
noncomputable def Us (a b:Int) (K:P->Int->Int->Prop):Prop:=Src a b /\ ∀ x,Vl x -> ∀ a b,Src a b->K x a b
noncomputable def i5 (top:Int) (a b:Int) (K:Int->Int->Int->Prop):Prop:=Src a b/\((1<=top/\top<=8) /\ ∀ x,0<=x->x<top -> ∀ a b,Src a b->K x a b)
noncomputable def rx (a b:Int) (K:Int->Int->Int->Prop):Prop:=Src a b/\((1<=(3:Int)/\(3:Int)<=8)/\allOf (fun x=>∀ a b,Src a b->K x a b) [0,1,2])
noncomputable def vh (K:List P->Int->Int->Prop):Nat->List P->Int->Int->Prop
 | 0,acc,a,b=>K acc a b
 | n+1,acc,a,b=>Us a b fun x a b=>vh K n (acc++[x]) a b
noncomputable def tBd (a b:Int) (K:Bd->Int->Int->Prop):Prop:=Us a b fun v a b=>i5 2 a b fun x a b=>z0 [.none,.tup [v,.bool (decide (x=1))]] a b fun r a b=>K (ay r) a b
noncomputable def az7 (cols:P) (a b:Int) (C:Option (List VO)->Option P->Prop):Prop :=
 let fin (es:List P) (sm:Option (List P)) (lo hi:Bd) (de:Bool) (a b:Int):Prop:=C (some [.list [.int a,.int b]]) (some (.lst [bf "index" (idxP cols) es sm lo hi true de,bz es sm lo hi]))
 z0 [.int 0,.int 0,.int 1,.int 1,.int 2] a b fun n a b=>match n with
  | .int n=>vh (fun es a b=>i5 2 a b fun x a b=>match Nat.blt es.length 2 with
   | true=>rx a b fun w a b=>match decide (w=1) with
    | true=>rx a b fun m a b=>vh (fun ws a b=>fin es (some ws) none none (decide (x=1)) a b) (1+m).toNat [] a b
    | false=>match decide (w=2) with
     | true=>tBd a b fun lo a b=>tBd a b fun hi a b=>fin es none lo hi (decide (x=1)) a b
     | false=>fin es none none none (decide (x=1)) a b
   | false=>fin es none none none (decide (x=1)) a b) n.toNat [] a b
  | _=>False
theorem N8 (cols:P) (a b:Int) (C:Option (List VO)->Option P->Prop):af False (ev False O10 60) 20 noStr "_law_index_path" [.ref 0,.p cols] ⟨[],.node (.list [.int a,.int b]) .nil .nil,1⟩ (fun v s'=>C (ah s' [0]) (reifyM 1 s' 9 v))=az7 cols a b C:=by kernel_rfl
theorem xd {K:List P->Int->Int->Prop}:∀ {n:Nat} {acc:List P} {a b:Int},Src a b->(∀ xs:List P,xs.length=n->(∀ x∈xs,Vl x) -> ∀ a b,Src a b->K (acc++xs) a b)->vh K n acc a b:=by
 intro l0
 induction l0 with
 | zero =>
  intro acc a b hs h
  have:=h [] rfl (fun _ m=>(by contradiction)) a b hs;rw [List.append_nil] at this;exact this
 | succ n ih =>
  intro acc a b hs h
  exact ⟨hs,fun x hx a b hs=>ih hs fun xs hl hx2 a b hs=>by
    have:=h (x::xs) (by rw [List.length_cons,hl]) (fun y m=>by
     cases m with
     | head=>exact hx
     | tail _ m=>exact hx2 y m) a b hs
    rw [List.append_assoc];exact this⟩
theorem K5 {a b:Int} {K:Bd->Int->Int->Prop} (hs:Src a b) (h:∀ bd,bOk bd -> ∀ a b,Src a b->K bd a b):tBd a b K :=
 ⟨hs,fun v hv a b hs=>⟨hs,by decide,fun x _ _ a b hs=>⟨hs,(by decide:1<=2/\2<=8),fun a b hs=>h none (fun _ e=>(by contradiction)) a b hs,fun a b hs=>h (some (v,decide (x=1))) (fun _ e=>by (injection e with e;subst e);exact hv) a b hs,trivial⟩⟩⟩
noncomputable def ia (es:List P) (sm:Option (List P)) (lo hi:Bd):Prop:=Il es sm lo hi/\(sm≠none->lo=none/\hi=none)/\(es.length=2->lo=none/\hi=none)
theorem N9 {cols:P} {a b:Int} {C:Option (List VO)->Option P->Prop} (hs:Src a b) (h:∀ es sm lo hi de,ia es sm lo hi -> ∀ a b,Src a b->C (some [.list [.int a,.int b]]) (some (.lst [bf "index" (idxP cols) es sm lo hi true de,bz es sm lo hi]))):az7 cols a b C:=by
 have nb:bOk none:=fun _ e=>(by contradiction)
 have key:∀ n:Nat,n=0\/n=1\/n=2 -> ∀ a b,Src a b->vh (fun es a b=>i5 2 a b fun x a b=>match Nat.blt es.length 2 with
   | true=>rx a b fun w a b=>match decide (w=1) with
    | true=>rx a b fun m a b=>vh (fun ws a b=>C (some [.list [.int a,.int b]]) (some (.lst [bf "index" (idxP cols) es (some ws) none none true (decide (x=1)),bz es (some ws) none none]))) (1+m).toNat [] a b
    | false=>match decide (w=2) with
     | true=>tBd a b fun lo a b=>tBd a b fun hi a b=>C (some [.list [.int a,.int b]]) (some (.lst [bf "index" (idxP cols) es none lo hi true (decide (x=1)),bz es none lo hi]))
     | false=>C (some [.list [.int a,.int b]]) (some (.lst [bf "index" (idxP cols) es none none none true (decide (x=1)),bz es none none none]))
   | false=>C (some [.list [.int a,.int b]]) (some (.lst [bf "index" (idxP cols) es none none none true (decide (x=1)),bz es none none none]))) n [] a b:=by
  intro n hn a b hs
  refine xd hs fun es hl hes a b hs=>?_
  rw [List.nil_append]
  refine ⟨hs,by decide,fun x _ _ a b hs=>?_⟩
  have plain:∀ a b,Src a b->C (some [.list [.int a,.int b]]) (some (.lst [bf "index" (idxP cols) es none none none true (decide (x=1)),bz es none none none])):=fun a b hs=>h es none none none _ ⟨⟨hes,(fun _ e=>(by contradiction)),nb,nb,(by rcases hn with q | q | q <;> rw [hl,q] <;> simp)⟩,(fun e=>absurd rfl e),fun _=>⟨rfl,rfl⟩⟩ a b hs
  split
  ·rename_i q
   have q:es.length<2:=Nat.le_of_ble_eq_true q
   have bds:∀ a b,Src a b->tBd a b fun lo a b=>tBd a b fun hi a b=>C (some [.list [.int a,.int b]]) (some (.lst [bf "index" (idxP cols) es none lo hi true (decide (x=1)),bz es none lo hi])):=fun a b hs=>K5 hs fun lo hlo a b hs=>K5 hs fun hi hhi a b hs=>h es none lo hi _ ⟨⟨hes,(fun _ e=>(by contradiction)),hlo,hhi,(by rcases (by exact Ul q:es.length=0\/es.length=1) with q | q <;> rw [q] <;> simp)⟩,(fun e=>absurd rfl e),fun e=>by exact (Z5 q e).elim⟩ a b hs
   have ins:∀ (m:Nat),m=1\/m=2\/m=3 -> ∀ a b,Src a b->vh (fun ws a b=>C (some [.list [.int a,.int b]]) (some (.lst [bf "index" (idxP cols) es (some ws) none none true (decide (x=1)),bz es (some ws) none none]))) m [] a b:=fun m hm a b hs=>xd hs fun ws hw hws a b hs=>h es (some ws) none none _ ⟨⟨hes,(fun _ e=>by (injection e with e;subst e);exact ⟨by exact bzs hm hw,hws⟩),nb,nb,(by rcases (by exact Ul q:es.length=0\/es.length=1) with q | q <;> rw [q] <;> simp)⟩,(fun _=>⟨rfl,rfl⟩),fun e=>by exact (Z5 q e).elim⟩ a b hs
   refine ⟨hs,by decide,fun a b hs=>plain a b hs,fun a b hs=>⟨hs,by decide,fun a b hs=>ins 1 (by omega) a b hs,fun a b hs=>ins 2 (by omega) a b hs,fun a b hs=>ins 3 (by omega) a b hs,trivial⟩,fun a b hs=>bds a b hs,trivial⟩
  ·exact plain a b hs
 exact ⟨hs,by decide,fun a b hs=>key 0 (by omega) a b hs,fun a b hs=>key 0 (by omega) a b hs,fun a b hs=>key 1 (by omega) a b hs,fun a b hs=>key 1 (by omega) a b hs,fun a b hs=>key 2 (by omega) a b hs,trivial⟩
noncomputable def Cidx:Ct:=fun d vs s Q=>cnd (Nat.ble d 20) (match vs with
 | [v,.p cols]=>iz v s fun k _ _=>∀ es sm lo hi de,ia es sm lo hi->drawn k s fun s=>Q (.p (.lst [bf "index" (idxP cols) es sm lo hi true de,bz es sm lo hi])) s
 | _=>False) False
theorem K6:sy O10 noStr "_law_index_path" Cidx:=by
 intro d vs s Q h
 have q:=ab h
 clear h
 obtain ⟨hd,h⟩:=q
 have q:=Sv h
 clear h
 obtain ⟨v,cols,rfl,h⟩:=q
 refine bc fun hG=>?_
 obtain ⟨k,a,b,rfl,hk,hs,h⟩:=d3 h
 refine hG ?_
 refine ⟨60,[k],20,c7 hd,.inl ⟨by decide,Sw [cols] hk ?_⟩⟩
 show af False (ev False O10 60) 20 noStr "_law_index_path" [.ref 0,.p cols] _ _
 rw [N8]
 exact N9 hs fun es sm lo hi de A a b hs=>fr1 (h es sm lo hi de A a b hs)
noncomputable def O11:Known Prop:=lay O10 noStr "_law_index_path" Cidx
noncomputable def somes:List P:=[.none,.int 1,.int 2,.int 3,.int 9,.str "a"]
noncomputable def Ys (a b:Int) (K:P->Int->Int->Prop):Prop:=Src a b/\((1<=somes.length/\somes.length<=8) /\ ∀ x,x∈somes -> ∀ a b,Src a b->K x a b)
noncomputable def xe (K:List P->Int->Int->Prop):Nat->List P->Int->Int->Prop
 | 0,acc,a,b=>K acc a b
 | n+1,acc,a,b=>Ys a b fun x a b=>xe K n (acc++[x]) a b
noncomputable def ib (sm:Option (List P)) (lo hi:Bd):P:=.tup [jn sm,aj lo,aj hi]
noncomputable def K7 (a b:Int) (C:Option (List VO)->Option P->Prop):Prop :=
 z0 [.str "rowid",.str "rowid_range"] a b fun kd a b=>i5 2 a b fun x a b=>match kd with
  | .str kd=>match seq kd "rowid" with
   | true=>rx a b fun m a b=>xe (fun ws a b=>match ws with
    | [w]=>C (some [.list [.int a,.int b]]) (some (.lst [bf "rowid" .none [w] none none none false (decide (x=1)),ib (some [w]) none none]))
    | ws=>C (some [.list [.int a,.int b]]) (some (.lst [bf "rowid" .none [] (some ws) none none false (decide (x=1)),ib (some ws) none none]))) (1+m).toNat [] a b
   | false=>i5 5 a b fun y a b=>i5 2 a b fun z a b=>z0 [.none,.tup [.int y,.bool (decide (z=1))]] a b fun lo a b =>
     z0 [.none,.int 1,.int 2,.int 3] a b fun y a b=>i5 2 a b fun z a b=>z0 [.none,.tup [y,.bool (decide (z=1))]] a b fun hi a b =>
      C (some [.list [.int a,.int b]]) (some (.lst [bf "rowid_range" .none [] none (ay lo) (ay hi) false (decide (x=1)),ib none (ay lo) (ay hi)]))
  | _=>False
theorem Dy (a b:Int) (C:Option (List VO)->Option P->Prop):af False (ev False O11 60) 20 noStr "_law_rowid_path" [.ref 0] ⟨[],.node (.list [.int a,.int b]) .nil .nil,1⟩ (fun v s'=>C (ah s' [0]) (reifyM 1 s' 9 v))=K7 a b C:=by kernel_rfl
theorem Dz {K:List P->Int->Int->Prop}:∀ {n:Nat} {acc:List P} {a b:Int},Src a b->(∀ xs:List P,xs.length=n->(∀ x∈xs,x∈somes) -> ∀ a b,Src a b->K (acc++xs) a b)->xe K n acc a b:=by
 intro l0
 induction l0 with
 | zero =>
  intro acc a b hs h
  have:=h [] rfl (fun _ m=>(by contradiction)) a b hs;rw [List.append_nil] at this;exact this
 | succ n ih =>
  intro acc a b hs h
  exact ⟨hs,by decide,fun x hx a b hs=>ih hs fun xs hl hx2 a b hs=>by
    have:=h (x::xs) (by rw [List.length_cons,hl]) (fun y m=>by
     cases m with
     | head=>exact hx
     | tail _ m=>exact hx2 y m) a b hs
    rw [List.append_assoc];exact this⟩
theorem ic {x:P} (h:x∈somes):Vl x:=by
 delta somes at h
 delta Vl vals
 simp only [List.mem_cons,List.not_mem_nil,or_false] at h ⊢
 rcases h with rfl | rfl | rfl | rfl | rfl | rfl <;> simp only [true_or,or_true]
theorem jh {y:Int} (h1:0<=y) (h2:y<10):Vl (.int y):=by
 delta Vl vals
 simp only [List.mem_cons,List.not_mem_nil,or_false,P.int.injEq]
 omega
inductive RowAsk:Str->List P->Option (List P)->Bd->Bd->Option (List P)->Prop where
 | one {w}:w∈somes->RowAsk "rowid" [w] none none none (some [w])
 | many {ws:List P}:ws.length=2\/ws.length=3->(∀ w∈ws,w∈somes)->RowAsk "rowid" [] (some ws) none none (some ws)
 | range {lo hi}:(∀ x,lo=some x -> ∃ y,x.1 = .int y/\Vl (.int y))->(∀ x,hi=some x->(x.1 = .none \/ ∃ y,x.1 = .int y)/\Vl x.1)->RowAsk "rowid_range" [] none lo hi none
noncomputable def Crow:Ct:=fun d vs s Q=>cnd (Nat.ble d 20) (match vs with
 | [v]=>iz v s fun k _ _=>∀ kd es sm lo hi ask de,RowAsk kd es sm lo hi ask->drawn k s fun s=>Q (.p (.lst [bf kd .none es sm lo hi false de,ib ask lo hi])) s
 | _=>False) False
theorem D6 {a b:Int} {C:Option (List VO)->Option P->Prop} (hs:Src a b) (h:∀ kd es sm lo hi ask de,RowAsk kd es sm lo hi ask -> ∀ a b,Src a b->C (some [.list [.int a,.int b]]) (some (.lst [bf kd .none es sm lo hi false de,ib ask lo hi]))):K7 a b C:=by
 refine ⟨hs,by decide,fun a b hs=>⟨hs,by decide,fun x _ _ a b hs=>?_⟩,fun a b hs=>⟨hs,by decide,fun x _ _ a b hs=>?_⟩,trivial⟩
 ·have key:∀ n:Nat,n=1\/n=2\/n=3 -> ∀ a b,Src a b->xe (fun ws a b=>match ws with
    | [w]=>C (some [.list [.int a,.int b]]) (some (.lst [bf "rowid" .none [w] none none none false (decide (x=1)),ib (some [w]) none none]))
    | ws=>C (some [.list [.int a,.int b]]) (some (.lst [bf "rowid" .none [] (some ws) none none false (decide (x=1)),ib (some ws) none none]))) n [] a b:=fun n hn a b hs=>Dz hs fun ws hl hw a b hs=>by
   rw [List.nil_append]
   rcases hn with rfl | rfl | rfl
   ·obtain ⟨w,rfl⟩:=jm hl
    exact h _ _ _ _ _ _ _ (.one (hw w (.head _))) a b hs
   ·obtain ⟨w,w',rfl⟩:=Ig hl
    exact h _ _ _ _ _ _ _ (.many (.inl rfl) hw) a b hs
   ·obtain ⟨w,w',w'',rfl⟩:=Ds hl
    exact h _ _ _ _ _ _ _ (.many (.inr rfl) hw) a b hs
  exact ⟨hs,by decide,fun a b hs=>key 1 (by omega) a b hs,fun a b hs=>key 2 (by omega) a b hs,fun a b hs=>key 3 (by omega) a b hs,trivial⟩
 ·refine ⟨hs,(by decide:(1:Int)<=5/\(5:Int)<=8),fun y hy0 hy5 a b hs=>⟨hs,(by decide:(1:Int)<=2/\(2:Int)<=8),fun z _ _ a b hs=>?_⟩⟩
  have hi':∀ (lo:Bd),(∀ x,lo=some x -> ∃ y,x.1 = .int y/\Vl (.int y)) -> ∀ a b,Src a b->z0 [.none,.int 1,.int 2,.int 3] a b fun y a b=>i5 2 a b fun z a b=>z0 [.none,.tup [y,.bool (decide (z=1))]] a b fun hi a b =>
      C (some [.list [.int a,.int b]]) (some (.lst [bf "rowid_range" .none [] none lo (ay hi) false (decide (x=1)),ib none lo (ay hi)])):=fun lo hlo a b hs=>by
   have one:∀ y:P,(y = .none \/ ∃ i,y = .int i)->Vl y -> ∀ a b,Src a b->i5 2 a b fun z a b=>z0 [.none,.tup [y,.bool (decide (z=1))]] a b fun hi a b =>
      C (some [.list [.int a,.int b]]) (some (.lst [bf "rowid_range" .none [] none lo (ay hi) false (decide (x=1)),ib none lo (ay hi)])):=fun y hy hv a b hs =>
    ⟨hs,(by decide:(1:Int)<=2/\(2:Int)<=8),fun z _ _ a b hs=>⟨hs,(by decide:1<=2/\2<=8),fun a b hs=>h _ _ _ _ _ _ _ (.range hlo fun _ e=>by cases (show (none:Bd)=some _ from e)) a b hs,fun a b hs=>h _ _ _ _ _ _ _ (.range hlo fun _ e=>by (injection (show some (y,decide (z=1))=some _ from e) with h;subst h);exact ⟨hy,hv⟩) a b hs,trivial⟩⟩
   exact ⟨hs,(by decide:1<=4/\4<=8),fun a b hs=>one .none (.inl rfl) (.head _) a b hs,fun a b hs=>one _ (.inr ⟨_,rfl⟩) (jh (by exact Int.natCast_nonneg _) (by exact Int.natCast_nonneg _)) a b hs,fun a b hs=>one _ (.inr ⟨_,rfl⟩) (jh (by exact Int.natCast_nonneg _) (by exact Int.natCast_nonneg _)) a b hs,fun a b hs=>one _ (.inr ⟨_,rfl⟩) (jh (by exact Int.natCast_nonneg _) (by exact Int.natCast_nonneg _)) a b hs,trivial⟩
  exact ⟨hs,(by decide:1<=2/\2<=8),fun a b hs=>hi' none (fun _ e=>(by contradiction)) a b hs,fun a b hs=>hi' (some (.int y,decide (z=1))) (fun _ e=>by (injection e with e;subst e);exact ⟨y,rfl,jh hy0 (by exact bze hy5)⟩) a b hs,trivial⟩
theorem K8:sy O11 noStr "_law_rowid_path" Crow:=by
 intro d vs s Q h
 have q:=ab h
 clear h
 obtain ⟨hd,h⟩:=q
 have q:=K1 h
 clear h
 obtain ⟨v,rfl,h⟩:=q
 refine bc fun hG=>?_
 obtain ⟨k,a,b,rfl,hk,hs,h⟩:=d3 h
 refine hG ?_
 refine ⟨60,[k],20,c7 hd,.inl ⟨by decide,Sw [] hk ?_⟩⟩
 show af False (ev False O11 60) 20 noStr "_law_rowid_path" [.ref 0] _ _
 rw [Dy]
 exact D6 hs fun kd es sm lo hi ask de A a b hs=>fr1 (h kd es sm lo hi ask de A a b hs)
noncomputable def O12:Known Prop:=lay O11 noStr "_law_rowid_path" Crow
inductive Op where
 | row (r n:Int)
 | ifNull (r l:Int)
 | mustInt (r l:Int)
 | cmpJump (w:Str) (r l t:Int)
 | move (w:Str) (c l:Int)
 | seekRow (c l r:Int)
 | keyed (w:Str) (c l k n:Int)
 | value (r:Int) (v:P)
 | nul (r:Int)
 | copy (a b:Int)
 | column (c i r:Int)
 | rowid (c r:Int)
 | record (a r:Int)
 | openEph (c:Int) (coll:Str)
 | insert (c r:Int)
 | halt
noncomputable def enc:Op->P
 | .row r n=>.lst [.str "ResultRow",.int r,.int n,.int 0,.none]
 | .ifNull r l=>.lst [.str "IsNull",.int r,.int l,.int 0,.none]
 | .mustInt r l=>.lst [.str "MustBeInt",.int r,.int l,.int 0,.none]
 | .cmpJump w r l t=>.lst [.str "CompareJump",.int r,.int l,.int t,.tup [.str w,.str "binary",.tup [.none,.none],.bool false]]
 | .move w c l=>.lst [.str w,.int c,.int l,.int 0,.none]
 | .seekRow c l r=>.lst [.str "SeekRowid",.int c,.int l,.int r,.none]
 | .keyed w c l k n=>.lst [.str w,.int c,.int l,.int k,.int n]
 | .value r v=>.lst [.str "Value",.int 0,.int r,.int 0,v]
 | .nul r=>.lst [.str "Null",.int 0,.int r,.int 1,.none]
 | .copy a b=>.lst [.str "Copy",.int a,.int b,.int 1,.none]
 | .column c i r=>.lst [.str "Column",.int c,.int i,.int r,.none]
 | .rowid c r=>.lst [.str "Rowid",.int c,.int r,.int 0,.none]
 | .record a r=>.lst [.str "MakeRecord",.int a,.int 1,.int r,.none]
 | .openEph c coll=>.lst [.str "OpenEphemeral",.int c,.int 0,.int 0,.obj "KeyInfo" [("collations",.tup [.str coll]),("descending",.tup [.bool false])]]
 | .insert c r=>.lst [.str "IdxInsert",.int c,.int r,.int 0,.none]
 | .halt=>.lst [.str "Halt",.int 0,.int 0,.int 0,.none]
noncomputable def pick {α:Type} (b:Bool) (x y:α):α:=match b with
 | true=>x
 | false=>y
noncomputable def ce (de i:Bool):Str:=pick de (pick i "SeekLE" "SeekLT") (pick i "SeekGE" "SeekGT")
noncomputable def l8 (de i:Bool):Str:=pick de (pick i "IdxLT" "IdxLE") (pick i "IdxGT" "IdxGE")
noncomputable abbrev Rg:=Option (Int×Bool)
noncomputable def fb (E:Int) (many:Nat) (de up:Bool) (st sp:Rg):List Op:=match st with
 | some (r,i)=>[.copy r (4+many),.keyed (ce de i) 0 E 4 (many+1)]
 | none=>match up&&sp.isSome with
  | true=>[.nul (4+many),.keyed (ce de false) 0 E 4 (many+1)]
  | false=>match Nat.blt 0 many with
   | true=>[.keyed (ce de true) 0 E 4 many]
   | false=>[.move (pick de "Last" "Rewind") 0 E]
noncomputable def b9 (E:Int) (many:Nat) (de up:Bool) (st sp:Rg):List Op:=match sp with
 | some (r,i)=>[.copy r (4+many),.keyed (l8 de i) 0 E 4 (many+1)]
 | none=>match st.isSome && !up with
  | true=>[.nul (4+many),.keyed (l8 de false) 0 E 4 (many+1)]
  | false=>match Nat.blt 0 many with
   | true=>[.keyed (l8 de true) 0 E 4 many]
   | false=>[]
noncomputable def outOps:List Op:=[.column 0 0 1,.column 0 1 2,.column 0 2 3,.row 1 3]
noncomputable def cw (o:Nat) (many:Nat) (de turned:Bool) (lo hi:Rg):List Op :=
 let up:=de == turned
 let st:=pick up lo hi
 let sp:=pick up hi lo
 let t:=o+(fb 0 many de up st sp).length
 let E:Nat:=t+(b9 0 many de up st sp).length+5
 fb E many de up st sp++(b9 E many de up st sp++(outOps++[.move (pick de "Prev" "Next") 0 t]))
noncomputable def vi (E:Int):Nat->List P->List Op
 | _,[]=>[]
 | r,v::vs=>.value r v :: .ifNull r E::vi E (r+1) vs
noncomputable def z4 (E:Int) (r:Nat) (b:Bd):List Op:=match b with
 | none=>[]
 | some (v,_)=>[.value r v,.ifNull r E]
noncomputable def ie (r:Nat) (b:Bd):Rg:=match b with
 | none=>none
 | some (_,i)=>some (r,i)
noncomputable def bdN (b:Bd):Nat:=match b with
 | none=>0
 | some _=>1
noncomputable def fe (es:List P) (lo hi:Bd) (de turned:Bool):List Op :=
 let m:=es.length
 let o:=2 * m+2 * bdN lo+2 * bdN hi
 let l:=ie (5+m) lo
 let h:=ie (5+m+bdN lo) hi
 let E:Nat:=o+(cw o m de turned l h).length
 vi E 4 es++(z4 E (5+m) lo++(z4 E (5+m+bdN lo) hi++(cw o m de turned l h++[.halt])))
noncomputable def f9 (iv:Nat):List P->List Op
 | []=>[]
 | w::ws=>.value iv w :: .record iv (iv+1) :: .insert 1 (iv+1)::f9 iv ws
noncomputable def i6 (o:Nat) (tg:Int) (back:Bool) (n:Nat) (inner:List Op):List Op :=
 .move (pick back "Last" "Rewind") 1 ((o+n+4:Nat):Int) :: .column 1 0 tg :: .ifNull tg ((o+n+3:Nat):Int)::(inner++[.move (pick back "Prev" "Next") 1 ((o+1:Nat):Int)])
noncomputable def pb (es ws:List P) (de turned back:Bool) (coll:Str):List Op :=
 let m:=es.length+1
 let o:=2 * es.length+1+3 * ws.length
 let inner:=cw (o+3) m de turned none none
 vi ((o+inner.length+4:Nat):Int) 4 es++(.openEph 1 coll::(f9 (5+m) ws++(i6 o (3+m) back inner.length inner++[.halt])))
noncomputable def kr (v:P):List Op:=[.value 2 v,.mustInt 2 5,.seekRow 0 5 2,.rowid 0 1,.row 1 1,.halt]
noncomputable def i7 (ws:List P) (de:Bool):List Op :=
 let o:=1+3 * ws.length
 .openEph 1 "binary" :: (f9 3 ws++(i6 o 2 de 4 [.mustInt 2 ((o+7:Nat):Int),.seekRow 0 ((o+7:Nat):Int) 2,.rowid 0 1,.row 1 1]++[.halt]))
noncomputable def Th (de i:Bool):Str:=pick de (pick i "<" "<=") (pick i ">" ">=")
noncomputable def Im (E:Int) (de:Bool) (st:Rg):List Op:=match st with
 | some (r,i)=>[.keyed (ce de i) 0 E r 0]
 | none=>[.move (pick de "Last" "Rewind") 0 E]
noncomputable def br (E:Int) (r:Int) (de:Bool) (sp:Rg):List Op:=match sp with
 | some (t,i)=>[.rowid 0 r,.cmpJump (Th de i) r E t]
 | none=>[]
noncomputable def vj (lo hi:Bd) (de:Bool):List Op :=
 let l:=ie 2 lo
 let h:=ie (2+bdN lo) hi
 let o:=2 * bdN lo+2 * bdN hi
 let st:=pick de h l
 let sp:=pick de l h
 let r:Int:=((2+bdN lo+bdN hi:Nat):Int)
 let E:Nat:=o+1+(br 0 r de sp).length+3
 z4 E 2 lo++(z4 E (2+bdN lo) hi++(Im E de st++(br E r de sp++[.rowid 0 1,.row 1 1,.move (pick de "Prev" "Next") 0 ((o+1:Nat):Int),.halt])))
noncomputable def Yt:List P->Prop->Prop
 | [],X=>X
 | v::vs,X=>cnd (P4 v&&di "Literal" "value") (Yt vs X) False
noncomputable def bdV (b:Bd):List P:=match b with
 | none=>[]
 | some (v,_)=>[v]
noncomputable def Yu:Tr:=.node (.tab "_law_program" false) (.node (.tab "walk_list" false) (.node (.tab "walk_index" false) .nil .nil) .nil) (.node (.tab "walk_rowid" false) .nil .nil)
noncomputable def l9 (l r i:Bool):Option (List VO):=some [.tab "_law_program" true,.tab "walk_list" l,.tab "walk_rowid" r,.tab "walk_index" i]
noncomputable abbrev ku (path:P) (n:Int) (C:Option (List VO)->Option P->Prop):Prop:=af False (ev False O12 300) 15 noStr "_law_program" [.p path,.p (.int n)] ⟨[],Yu,4⟩ fun v s'=>C (ah s' [0,1,2,3]) (reifyM 4 s' 9 v)
noncomputable def colsP (c0 c1:Str×Bool):P:=.lst [.tup [.int 0,.str c0.1,.bool c0.2],.tup [.int 1,.str c1.1,.bool c1.2]]
noncomputable abbrev ry (l r i:Bool) (C:Option (List VO)->Option P->Prop) (vs:List P) (ops:List Op):Prop:=Yt vs (C (l9 l r i) (some (.lst (ops.map enc))))
noncomputable abbrev B2:List Bool:=[true,false]
noncomputable abbrev B4:List (Bool×Bool):=[(true,true),(true,false),(false,true),(false,false)]
noncomputable abbrev B8:List (Bool×Bool×Bool):=[(true,true,true),(true,true,false),(true,false,true),(true,false,false),(false,true,true),(false,true,false),(false,false,true),(false,false,false)]
noncomputable abbrev ky (v w:P):List (Bd×Bd):=[(none,none),(some (v,true),none),(some (v,false),none),(none,some (w,true)),(none,some (w,false)),(some (v,true),some (w,true)),(some (v,true),some (w,false)),(some (v,false),some (w,true)),(some (v,false),some (w,false))]
noncomputable abbrev rz (u v w:P):List (List P):=[[u],[u,v],[u,v,w]]
theorem Oa (c0:Str) (c1:Str×Bool) (v w:P) (C:Option (List VO)->Option P->Prop) :
 B4.map (fun q=>(ky v w).map fun b=>ku (bf "index" (idxP (colsP (c0,q.2) c1)) [] none b.1 b.2 true q.1) 3 C) =
 B4.map (fun q=>(ky v w).map fun b=>ry false false false C (bdV b.1++bdV b.2) (fe [] b.1 b.2 q.1 q.2)):=by kernel_rfl
theorem Ob (c0:Str×Bool) (c1:Str) (e0 v w:P) (C:Option (List VO)->Option P->Prop) :
 B4.map (fun q=>(ky v w).map fun b=>ku (bf "index" (idxP (colsP c0 (c1,q.2))) [e0] none b.1 b.2 true q.1) 3 C) =
 B4.map (fun q=>(ky v w).map fun b=>ry false false false C ([e0]++(bdV b.1++bdV b.2)) (fe [e0] b.1 b.2 q.1 q.2)):=by kernel_rfl
theorem Oc (c0 c1:Str×Bool) (e0 e1:P) (C:Option (List VO)->Option P->Prop):B2.map (fun de=>ku (bf "index" (idxP (colsP c0 c1)) [e0,e1] none none none true de) 3 C)=B2.map (fun de=>ry false false false C [e0,e1] (fe [e0,e1] none none de false)):=by kernel_rfl
theorem Od (c0 c1:Str) (u v w:P) (C:Option (List VO)->Option P->Prop) :
 B8.map (fun q=>(rz u v w).map fun b=>ku (bf "index" (idxP (colsP (c0,q.2.1) (c1,q.2.2))) [] (some b) none none true q.1) 3 C) =
 B8.map (fun q=>(rz u v w).map fun b=>ry true false true C b (pb [] b q.1 q.2.2 (q.1 != q.2.1) c0)):=by kernel_rfl
theorem Oe (c0:Str×Bool) (c1:Str) (e0 u v w:P) (C:Option (List VO)->Option P->Prop) :
 B4.map (fun q=>(rz u v w).map fun b=>ku (bf "index" (idxP (colsP c0 (c1,q.2))) [e0] (some b) none none true q.1) 3 C) =
 B4.map (fun q=>(rz u v w).map fun b=>ry true false true C (e0::b) (pb [e0] b q.1 false (q.1 != q.2) c1)):=by kernel_rfl
theorem Of (de:Bool) (u:P) (C:Option (List VO)->Option P->Prop):ku (bf "rowid" .none [u] none none none false de) 1 C=ry false true false C [u] (kr u):=by kernel_rfl
theorem D7 (u v w:P) (C:Option (List VO)->Option P->Prop) :
 B2.map (fun q=>[[u,v],[u,v,w]].map fun b=>ku (bf "rowid" .none [] (some b) none none false q) 1 C) =
 B2.map (fun q=>[[u,v],[u,v,w]].map fun b=>ry true true false C b (i7 b q)):=by kernel_rfl
theorem Og (v w:P) (C:Option (List VO)->Option P->Prop) :
 B2.map (fun q=>(ky v w).map fun b=>ku (bf "rowid_range" .none [] none b.1 b.2 false q) 1 C) =
 B2.map (fun q=>(ky v w).map fun b=>ry false false false C (bdV b.1++bdV b.2) (vj b.1 b.2 q)):=by kernel_rfl
noncomputable def cellP (e:En) (s:St) (x:Str):Option P:=match look x e.cells with
 | some k=>(match s.h.get k with
  | some (.cell (some (.p v)))=>some v
  | _=>none)
 | none=>none
noncomputable def Gc (e:En) (elt:Expr) (gg:Comprehension) (sc:Scope) (iv:P) (s:St) (x:P):Prop:=∀ Q:V->St->Prop,Q (.p x) s->dv False (ev False O12 60) e elt gg sc iv s Q
noncomputable def sgL (info:P) (key rows:List P):List P:=rows.map fun x=>.int (ak (cp info) (unP x) key)
noncomputable def Csigns:Cc:=fun e elt gg sc iv s Q=>match iv with
 | .lst rows=>opt False (cellP e s "info") fun info=>opt False (cellP e s "key") fun key=>match key with
  | .lst key=>Gc e elt gg sc (.lst rows) s (.lst (sgL info key rows))/\Q (.p (.lst (sgL info key rows))) s
  | _=>False
 | _=>False
noncomputable def isG (w:Str):Bool:=seq w "GE" || seq w "GT"
noncomputable def ft (w:Str) (sg:Int):Bool:=(decide (sg=0)&&(seq w "GE" || seq w "LE"))||decide (sg=match isG w with | true=>1 | false => -1)
noncomputable def dt (w:Str):List P->Int->List Int
 | [],_=>[]
 | .int sg::r,i=>(match ft w sg with
  | true=>i::dt w r (i+1)
  | false=>dt w r (i+1))
 | _::r,i=>dt w r (i+1)
noncomputable def Io {α:Type} (l:List α) (K:List α->Prop):Prop:=(l=[]->K [])/\(∀ a,l=[a]->K [a])/\(∀ a b,l=[a,b]->K [a,b])/\(∀ a b c,l=[a,b,c]->K [a,b,c])/\(∀ a b c d,l=[a,b,c,d]->K [a,b,c,d])/\l.length<=4
theorem xf {α:Type} {l:List α} {K:List α->Prop} (h:l.length<=4) (k:K l):Io l K:=⟨(fun e=>e ▸ k),(fun a e=>e ▸ k),(fun a b e=>e ▸ k),(fun a b c e=>e ▸ k),(fun a b c d e=>e ▸ k),h⟩
theorem Ip {α:Type} {l:List α} {K:List α->Prop} (h:Io l K):K l:=by
 obtain ⟨h0,h1,h2,h3,h4,h5⟩:=h
 exact Yi (P:=fun r=>l=r->K r) h0 h1 h2 h3 h4 h5 rfl
noncomputable def Cfits:Cc:=fun e elt gg sc iv s Q=>opt False (cellP e s "word") fun w=>opt False (cellP e s "signs") fun sg=>match w with
 | .str w=>(match sg with
  | .lst sg=>Gc e elt gg sc iv s (.lst ((dt w sg 0).map .int))/\Io (dt w sg 0) fun l=>Q (.p (.lst (l.map .int))) s
  | _=>False)
 | _=>False
theorem Iq:P6 O12 Csigns:=by
 intro e elt gg sc iv s Q h
 induction iv using P.casesOn with
 | lst rows =>
  obtain ⟨info,_,h⟩:=ac h
  obtain ⟨key,_,h⟩:=ac h
  induction key using P.casesOn with
  | lst key=>exact ⟨60,h.1 Q h.2⟩
  | _=>exact False.elim h
 | _=>exact False.elim h
theorem Oh:P6 O12 Cfits:=by
 intro e elt gg sc iv s Q h
 obtain ⟨w,_,h⟩:=ac h
 obtain ⟨sg,_,h⟩:=ac h
 induction w using P.casesOn with
 | str w =>
  induction sg using P.casesOn with
  | lst sg=>exact ⟨60,h.1 Q (Ip (K:=fun l=>Q (.p (.lst (l.map .int))) s) h.2)⟩
  | _=>exact False.elim h
 | _=>exact False.elim h
noncomputable def O13:Known Prop:=⟨O12.call,fun l=>match Nat.beq l 813 with
 | true=>some Csigns
 | false=>match Nat.beq l 815 with
  | true=>some Cfits
  | false=>none⟩
theorem Ti {T:Pl} {w:World} {K:Frag} {lz:List Str} {mn:ExcName->Option Value} {mg mb:Str->Option Value} (N:KnownOK T w K lz mn mg mb O12):KnownOK T w K lz mn mg mb O13:=by
 refine o4 N (fun c m C h=>.inl h) fun l C h=>?_
 unfold O13 at h
 dsimp only at h
 split at h
 ·(injection h with h;subst h);exact .inr Iq
 ·split at h
  ·(injection h with h;subst h);exact .inr Oh
  ·exact nos h
noncomputable def atL (B:St) (lo:List (Str×V)):St:=⟨lo,B.h,B.n⟩
noncomputable def Oi (r:H Prop) (e:En) (elt t:Expr) (ifs:List Expr) (x:P) (s:St) (k1:V->St->Prop) (k0:St->Prop):Prop:=assign False r e t (.p x) s fun s=>P5 r e ifs s fun b s=>cnd b (r.e e elt s k1) (k0 s)
structure Wr (p:Prop):Prop where
 out:p
theorem Wr.of {p q:Prop} (h:p=q) (hq:q):Wr p:=⟨Eq.mpr h hq⟩
theorem fg {r:H Prop} {e:En} {elt t:Expr} {ifs:List Expr} {Q:List V->St->Prop} {B:St} (f:P->Option P) (good:List (Str×V)->Prop) :
  ∀ {xs:List P} {acc:List V} {l:List (Str×V)},good l->acc.length+xs.length<=2000 ->
  (∀ x∈xs,∀ l,good l -> ∃ l',good l' /\ ∀ (k1:V->St->Prop) (k0:St->Prop),(match f x with | some y=>k1 (.p y) (atL B l') | none=>k0 (atL B l')) ->
   Wr (Oi r e elt t ifs x (atL B l) k1 k0)) ->
  (∀ l,good l->Q (acc++(xs.filterMap f).map .p) (atL B l))->cf False r e elt t ifs Q xs acc (atL B l):=by
 intro l0
 induction l0 with
 | nil =>
  intro acc l hl _ _ h
  have:=h l hl;simp only [List.filterMap_nil,List.map_nil,List.append_nil] at this;exact this
 | cons x xs ih =>
  intro acc l hl hn hturn h
  rw [List.length_cons] at hn
  obtain ⟨l',hl',ht⟩:=hturn x (.head _) l hl
  refine (ht (fun v s=>cnd (fits (acc.length+1)) (cf False r e elt t ifs Q xs (acc++[v]) s) False) (fun s=>cf False r e elt t ifs Q xs acc s) ?_).out
  induction q:f x using Option.casesOn with
  | none =>
   dsimp only
   exact ih hl' (by exact Nat.le_of_lt hn) (fun y m=>hturn y (.tail _ m)) (by simpa only [List.filterMap_cons,q] using h)
  | some y =>
   dsimp only
   refine i0 (Nat.ble_eq_true_of_le (by exact tle hn rfl)) (ih hl' (by rw [List.length_append,List.length_singleton];exact bza hn) (fun y m=>hturn y (.tail _ m)) ?_)
   simpa only [List.filterMap_cons,q,List.map_cons,List.append_assoc,List.singleton_append] using h
structure Eph where
 rows:List P
 info:P
 at1:Int
structure Vm where
 held:List (Int×P)
 rows:List P
 info:P
 at0:Int
 eph:Option Eph
 told:List P
 pc:Int
noncomputable def tb (rows:List P) (info:P) (i:Int):VO:=.dicts [("rows",.lst rows),("info",info),("at",.int i)]
noncomputable def e6:Option Eph->Tr
 | none=>.nil
 | some _=>.node (.cell (some (.ref 3))) .nil .nil
noncomputable def e7:Option Eph->Tr
 | none=>.nil
 | some _=>.node (.cell (some (.p (.int 1)))) .nil .nil
noncomputable def e8:Option Eph->Tr
 | none=>.nil
 | some e=>.node (tb e.rows e.info e.at1) .nil .nil
noncomputable def eN:Option Eph->Nat
 | none=>6
 | some _=>9
noncomputable def eT:Option Eph->VO
 | none=>.dictiV [(0,.ref 0)]
 | some _=>.dictiV [(0,.ref 0),(1,.ref 8)]
noncomputable def vmH (m:Vm) (oc:Option V):Tr:=.node (tb m.rows m.info m.at0) (.node (.cell (some (.ref 3))) (.node (.dicti m.held) (e7 m.eph) .nil) (.node (.list m.told) .nil .nil)) (.node (.cell oc) (.node (eT m.eph) (e8 m.eph) .nil) (e6 m.eph))
noncomputable def vmS (ops:List P) (m:Vm) (oc:Option V) (x:List (Str×V)):St:=⟨("ops",.p (.lst ops))::("table",.ref 0)::("tables",.ref 4)::("told",.ref 5)::("at",.p (.int m.pc))::x,vmH m oc,eN m.eph⟩
noncomputable def fnB (m:Str):List Stmt:=match fnOf noStr m with
 | some (fd,_)=>fd.body
 | none=>[]
noncomputable def fnS (m:Str):Scope:=match fnOf noStr m with
 | some (fd,_)=>fd.sc
 | none=>default
noncomputable def az8:List Stmt->List Stmt
 | []=>[]
 | .For _ _ b _ _::_=>b
 | _::r=>az8 r
noncomputable def az9:List Stmt->Expr
 | []=>.Constant .none 0 default
 | .For t _ _ _ _::_=>t
 | _::r=>az9 r
noncomputable abbrev tR:H Prop:=ev False O13 60
noncomputable def tE:En:=⟨fnS "_law_told",[("op",2),("held",1)],13,1,none⟩
noncomputable def tB:List Stmt:=az8 (fnB "_law_told")
noncomputable def tT:Expr:=az9 (fnB "_law_told")
noncomputable abbrev tX (i:Int) (nm:V) (rest:List (Str×V)):List (Str×V):=("turn",.p (.int i))::("name",nm)::rest
noncomputable def t1R (ops:List P) (m:Vm) (i:Int) (rest:List (Str×V)) (S:St) (K:Fl->St->Prop):Prop :=
 cnd (decide ((ops.length:Int)<=m.pc)) (K (.ret (.ref 5)) S) (opt False (item ops m.pc) fun o=>opt False (j2 o (.int 0)) fun h=>opt False (P3 .Eq h (.str "Halt")) fun b=>cnd b (K (.ret (.ref 5)) S)
  (opt False (item ops m.pc) fun o=>opt False (item ops m.pc) fun o'=>opt False (j2 o' (.int 0)) fun h=>evSs False O13 tR tE (tB.drop 3) (vmS ops { m with pc:=m.pc+1 } (some (.p o)) (tX i (.p h) rest)) K))
theorem Tj (ops:List P) (m:Vm) (i:Int) (oc:Option V) (nm:V) (rest:List (Str×V)) (K:Fl->St->Prop):evSs False O13 tR tE tB (vmS ops m oc (tX i nm rest)) K=t1R ops m i rest (vmS ops m oc (tX i nm rest)) K:=by kernel_rfl
theorem Ir (ops:List P) (m:Vm) (i:Int) (oc:Option V) (K:Fl->St->Prop):evSs False O13 tR tE tB (vmS ops m oc [("turn",.p (.int i))]) K=t1R ops m i [] (vmS ops m oc [("turn",.p (.int i))]) K:=by kernel_rfl
noncomputable def K9 (ops:List P) (op:Op) (nm:Str) (i:Int) (rest:List (Str×V)) (K:Fl->St->Prop) (m:Vm):Prop:=evSs False O13 tR tE (tB.drop 3) (vmS ops m (some (.p (enc op))) (tX i (.p (.str nm)) rest)) K
noncomputable def go4 (ops:List P) (op:Op) (nm:Str) (i:Int) (rest:List (Str×V)) (K:Fl->St->Prop) (m:Vm):Prop:=K .next (vmS ops m (some (.p (enc op))) (tX i (.p (.str nm)) rest))
noncomputable def rd (m:Vm) (r:Int):P:=(eh r m.held).getD .none
noncomputable def wrK (m:Vm) (r:Int) (v:P) (K:Vm->Prop):Prop:=cnd (p9 m.held.length) (K { m with held:=dput r v m.held }) False
noncomputable def vm0 (held:List (Int×P)) (rows:List P) (info:P) (at0:Int) (told:List P) (pc:Int):Vm:=⟨held,rows,info,at0,none,told,pc⟩
noncomputable def vm1 (held:List (Int×P)) (rows:List P) (info:P) (at0:Int) (rows1:List P) (info1:P) (at1:Int) (told:List P) (pc:Int):Vm:=⟨held,rows,info,at0,some ⟨rows1,info1,at1⟩,told,pc⟩
noncomputable def rowT (n:Nat) (m:Vm) (K:Vm->Prop):Prop:=cnd (fits (m.told.length+1)) (K { m with told:=m.told++[.tup (match n with | 1=>[rd m 1] | _=>[rd m 1,rd m 2,rd m 3])] }) False
noncomputable def nullT (r l:Int) (m:Vm) (K:Vm->Prop):Prop:=opt False (cmp .Is (.p (rd m r)) (.p .none) s0) fun b=>cnd b (K { m with pc:=l }) (K m)
noncomputable def mustT (r l:Int) (S:St) (m:Vm) (K:Vm->Prop):Prop:=opt False ((ja (rd m r) (.bi "int")).map fun b=>V.p (.bool b)) fun w=>opt False (truth w S) fun b=>cnd b (K m) (K { m with pc:=l })
noncomputable abbrev st4 (ops:List P) (op:Op) (nm:Str) (i:Int) (rest:List (Str×V)) (m:Vm):St:=vmS ops m (some (.p (enc op))) (tX i (.p (.str nm)) rest)
section
variable (ops:List P) (i:Int) (rest:List (Str×V)) (K:Fl->St->Prop) (m:Vm)
theorem Iu:K9 ops (.row 1 3) "ResultRow" i rest K m=rowT 3 m (go4 ops (.row 1 3) "ResultRow" i rest K):=by kernel_rfl
theorem Iv:K9 ops (.row 1 1) "ResultRow" i rest K m=rowT 1 m (go4 ops (.row 1 1) "ResultRow" i rest K):=by kernel_rfl
theorem Iw (r l:Int):K9 ops (.ifNull r l) "IsNull" i rest K m=nullT r l m (go4 ops (.ifNull r l) "IsNull" i rest K):=by kernel_rfl
theorem Iy (r l:Int):K9 ops (.mustInt r l) "MustBeInt" i rest K m=mustT r l (st4 ops (.mustInt r l) "MustBeInt" i rest m) m (go4 ops (.mustInt r l) "MustBeInt" i rest K):=by kernel_rfl
end
noncomputable def colT (rows:List P) (at0 i r:Int) (m:Vm) (K:Vm->Prop):Prop:=opt False (item rows at0) fun row=>opt False (j2 row (.int i)) fun v=>wrK m r v K
noncomputable def insT (r:Int) (e:Eph) (m:Vm) (K:Vm->Prop):Prop:=opt False (eh r m.held) fun x=>match x with
 | .lst x=>Ta e.info e.rows x/\K { m with eph:=some { e with rows:=(placed (cp e.info) (e.rows.map unP) x).map .lst } }
 | _=>False
noncomputable def fh (coll:Str):P:=bo [(coll,false)]
section
variable (ops:List P) (i:Int) (rest:List (Str×V)) (K:Fl->St->Prop) (held:List (Int×P)) (rows:List P) (info:P) (at0:Int) (rows1:List P) (info1:P) (at1:Int) (told:List P) (pc:Int)
noncomputable abbrev rn0 (op:Op) (nm:Str):Prop:=K9 ops op nm i rest K (vm0 held rows info at0 told pc)
noncomputable abbrev rn1 (op:Op) (nm:Str):Prop:=K9 ops op nm i rest K (vm1 held rows info at0 rows1 info1 at1 told pc)
theorem Tn (r:Int) (v:P):rn0 ops i rest K held rows info at0 told pc (.value r v) "Value" = wrK (vm0 held rows info at0 told pc) r v (go4 ops (.value r v) "Value" i rest K):=by kernel_rfl
theorem To (r:Int) (v:P):rn1 ops i rest K held rows info at0 rows1 info1 at1 told pc (.value r v) "Value" = wrK (vm1 held rows info at0 rows1 info1 at1 told pc) r v (go4 ops (.value r v) "Value" i rest K):=by kernel_rfl
theorem cz4 (r:Int):rn0 ops i rest K held rows info at0 told pc (.nul r) "Null" = wrK (vm0 held rows info at0 told pc) r .none (go4 ops (.nul r) "Null" i rest K):=by kernel_rfl
theorem Yv (a b:Int):rn0 ops i rest K held rows info at0 told pc (.copy a b) "Copy" = wrK (vm0 held rows info at0 told pc) b (rd (vm0 held rows info at0 told pc) a) (go4 ops (.copy a b) "Copy" i rest K):=by kernel_rfl
theorem Oj (j r:Int):rn0 ops i rest K held rows info at0 told pc (.column 0 j r) "Column" = colT rows at0 j r (vm0 held rows info at0 told pc) (go4 ops (.column 0 j r) "Column" i rest K):=by kernel_rfl
theorem Ol (j r:Int):rn1 ops i rest K held rows info at0 rows1 info1 at1 told pc (.column 0 j r) "Column" = colT rows at0 j r (vm1 held rows info at0 rows1 info1 at1 told pc) (go4 ops (.column 0 j r) "Column" i rest K):=by kernel_rfl
theorem Om (j r:Int):rn1 ops i rest K held rows info at0 rows1 info1 at1 told pc (.column 1 j r) "Column" = colT rows1 at1 j r (vm1 held rows info at0 rows1 info1 at1 told pc) (go4 ops (.column 1 j r) "Column" i rest K):=by kernel_rfl
theorem Tp (r:Int):rn0 ops i rest K held rows info at0 told pc (.rowid 0 r) "Rowid" = colT rows at0 0 r (vm0 held rows info at0 told pc) (go4 ops (.rowid 0 r) "Rowid" i rest K):=by kernel_rfl
theorem Tq (r:Int):rn1 ops i rest K held rows info at0 rows1 info1 at1 told pc (.rowid 0 r) "Rowid" = colT rows at0 0 r (vm1 held rows info at0 rows1 info1 at1 told pc) (go4 ops (.rowid 0 r) "Rowid" i rest K):=by kernel_rfl
theorem On (a r:Int):rn1 ops i rest K held rows info at0 rows1 info1 at1 told pc (.record a r) "MakeRecord" = wrK (vm1 held rows info at0 rows1 info1 at1 told pc) r (.lst [rd (vm1 held rows info at0 rows1 info1 at1 told pc) (a+0)]) (go4 ops (.record a r) "MakeRecord" i rest K):=by kernel_rfl
theorem Yw (coll:Str):rn0 ops i rest K held rows info at0 told pc (.openEph 1 coll) "OpenEphemeral" = go4 ops (.openEph 1 coll) "OpenEphemeral" i rest K (vm1 held rows info at0 [] (fh coll) 0 told pc):=by kernel_rfl
theorem Oo (r:Int):rn1 ops i rest K held rows info at0 rows1 info1 at1 told pc (.insert 1 r) "IdxInsert" = insT r ⟨rows1,info1,at1⟩ (vm1 held rows info at0 rows1 info1 at1 told pc) (go4 ops (.insert 1 r) "IdxInsert" i rest K):=by kernel_rfl
end
noncomputable def P9 (rows:List P) (K:Bool->Prop):Prop:=opt False (du (.lst rows) (.lst [])) K
noncomputable def stepT (rows:List P) (a:Int) (K:Bool->Prop):Prop:=cnd (decide (0<=a)) (K (decide (a<rows.length))) (K false)
noncomputable def jmp (l:Int) (K:Vm->Prop) (m:Vm) (b:Bool):Prop:=cnd b (K { m with pc:=l }) (K m)
noncomputable def Fw (w:Str) (sg:Int):Bool:=match seq w "IdxGT" with
 | true=>decide (0<sg)
 | false=>match seq w "IdxGE" with
  | true=>decide (0<=sg)
  | false=>match seq w "IdxLT" with
   | true=>decide (sg<0)
   | false=>decide (sg<=0)
noncomputable def keyOf (m:Vm) (k:Int):Nat->List P
 | 1=>[rd m (k+0)]
 | 2=>[rd m (k+0),rd m (k+1)]
 | _=>[rd m (k+0),rd m (k+1),rd m (k+2)]
noncomputable def Yx (w:Str) (key:List P) (rows:List P) (info:P) (at0:Int) (K:Bool->Prop):Prop:=opt False (item rows at0) fun row=>match row with
 | .lst x=>qa info x key/\K (Fw w (ak (cp info) x key))
 | _=>False
noncomputable def D8 {α:Type} (f:α->Option Bool) (K:List Int->Prop):List α->Int->List Int->Prop
 | [],_,acc=>K acc
 | x::r,i,acc=>opt False (f x) fun b=>cnd b (D8 f K r (i+1) (acc++[i])) (D8 f K r (i+1) acc)
noncomputable def xg (rs:List Int) (l:Int) (key:P) (m:Vm) (K:Vm->Prop):Prop:=D8 (fun x=>du (.int x) key) (fun is=>match is with
 | []=>K { m with at0:=0,pc:=l }
 | j::_=>K { m with at0:=j }) rs 0 []
section
variable (ops:List P) (i:Int) (rest:List (Str×V)) (K:Fl->St->Prop) (held:List (Int×P)) (rows:List P) (info:P) (at0:Int) (rows1:List P) (info1:P) (at1:Int) (told:List P) (pc:Int)
noncomputable abbrev mv0 (w:Str) (l a:Int) (T:(Bool->Prop)->Prop):Prop:=T fun b=>jmp l (go4 ops (.move w 0 l) w i rest K) (vm0 held rows info a told pc) b
noncomputable abbrev mv1 (w:Str) (l a:Int) (T:(Bool->Prop)->Prop):Prop:=T fun b=>jmp l (go4 ops (.move w 0 l) w i rest K) (vm1 held rows info a rows1 info1 at1 told pc) b
noncomputable abbrev mvE (w:Str) (l a:Int) (T:(Bool->Prop)->Prop):Prop:=T fun b=>jmp l (go4 ops (.move w 1 l) w i rest K) (vm1 held rows info at0 rows1 info1 a told pc) b
theorem Oq (l:Int):rn0 ops i rest K held rows info at0 told pc (.move "Rewind" 0 l) "Rewind" = mv0 ops i rest K held rows info told pc "Rewind" l 0 (P9 rows):=by kernel_rfl
theorem Yy (l:Int):rn0 ops i rest K held rows info at0 told pc (.move "Last" 0 l) "Last" = mv0 ops i rest K held rows info told pc "Last" l ((rows.length:Int) - 1) (P9 rows):=by kernel_rfl
theorem Yz (l:Int):rn0 ops i rest K held rows info at0 told pc (.move "Next" 0 l) "Next" = mv0 ops i rest K held rows info told pc "Next" l (at0+1) (stepT rows (at0+1)):=by kernel_rfl
theorem Y0 (l:Int):rn0 ops i rest K held rows info at0 told pc (.move "Prev" 0 l) "Prev" = mv0 ops i rest K held rows info told pc "Prev" l (at0 + -1) (stepT rows (at0 + -1)):=by kernel_rfl
theorem Y1 (l:Int):rn1 ops i rest K held rows info at0 rows1 info1 at1 told pc (.move "Next" 0 l) "Next" = mv1 ops i rest K held rows info rows1 info1 at1 told pc "Next" l (at0+1) (stepT rows (at0+1)):=by kernel_rfl
theorem Y2 (l:Int):rn1 ops i rest K held rows info at0 rows1 info1 at1 told pc (.move "Prev" 0 l) "Prev" = mv1 ops i rest K held rows info rows1 info1 at1 told pc "Prev" l (at0 + -1) (stepT rows (at0 + -1)):=by kernel_rfl
theorem Os (l:Int):rn1 ops i rest K held rows info at0 rows1 info1 at1 told pc (.move "Rewind" 1 l) "Rewind" = mvE ops i rest K held rows info at0 rows1 info1 told pc "Rewind" l 0 (P9 rows1):=by kernel_rfl
theorem Y3 (l:Int):rn1 ops i rest K held rows info at0 rows1 info1 at1 told pc (.move "Last" 1 l) "Last" = mvE ops i rest K held rows info at0 rows1 info1 told pc "Last" l ((rows1.length:Int) - 1) (P9 rows1):=by kernel_rfl
theorem Y4 (l:Int):rn1 ops i rest K held rows info at0 rows1 info1 at1 told pc (.move "Next" 1 l) "Next" = mvE ops i rest K held rows info at0 rows1 info1 told pc "Next" l (at1+1) (stepT rows1 (at1+1)):=by kernel_rfl
theorem Y5 (l:Int):rn1 ops i rest K held rows info at0 rows1 info1 at1 told pc (.move "Prev" 1 l) "Prev" = mvE ops i rest K held rows info at0 rows1 info1 told pc "Prev" l (at1 + -1) (stepT rows1 (at1 + -1)):=by kernel_rfl
noncomputable abbrev sr0 (l r:Int) (rs:List Int):Prop:=rn0 ops i rest K held (rs.map fun x=>.lst [.int x]) info at0 told pc (.seekRow 0 l r) "SeekRowid"
noncomputable abbrev sr1 (l r:Int) (rs:List Int):Prop:=rn1 ops i rest K held (rs.map fun x=>.lst [.int x]) info at0 rows1 info1 at1 told pc (.seekRow 0 l r) "SeekRowid"
noncomputable abbrev cz5 (l r:Int) (rs:List Int):Prop:=xg rs l (rd (vm0 held (rs.map fun x=>.lst [.int x]) info at0 told pc) (r+0)) (vm0 held (rs.map fun x=>.lst [.int x]) info at0 told pc) (go4 ops (.seekRow 0 l r) "SeekRowid" i rest K)
noncomputable abbrev cz6 (l r:Int) (rs:List Int):Prop:=xg rs l (rd (vm1 held (rs.map fun x=>.lst [.int x]) info at0 rows1 info1 at1 told pc) (r+0)) (vm1 held (rs.map fun x=>.lst [.int x]) info at0 rows1 info1 at1 told pc) (go4 ops (.seekRow 0 l r) "SeekRowid" i rest K)
theorem Ts (l r a b c d:Int):[[],[a],[a,b],[a,b,c],[a,b,c,d]].map (sr0 ops i rest K held info at0 told pc l r)=[[],[a],[a,b],[a,b,c],[a,b,c,d]].map (cz5 ops i rest K held info at0 told pc l r):=by kernel_rfl
theorem Tt (l r a b c d:Int):[[],[a],[a,b],[a,b,c],[a,b,c,d]].map (sr1 ops i rest K held info at0 rows1 info1 at1 told pc l r)=[[],[a],[a,b],[a,b,c],[a,b,c,d]].map (cz6 ops i rest K held info at0 rows1 info1 at1 told pc l r):=by kernel_rfl
end
noncomputable def xh (w:Str) (lt le gt ge:Bool):Bool:=match seq w "<" with
 | true=>lt
 | false=>match seq w "<=" with
  | true=>le
  | false=>match seq w ">" with
   | true=>gt
   | false=>ge
section
variable (ops:List P) (i:Int) (rest:List (Str×V)) (K:Fl->St->Prop) (held:List (Int×P)) (rows:List P) (info:P) (at0:Int) (rows1:List P) (info1:P) (at1:Int) (told:List P) (pc:Int)
noncomputable abbrev ix0 (l:Int) (w:Str) (n:Nat):Prop:=rn0 ops i rest K held rows info at0 told pc (.keyed w 0 l 4 n) w
noncomputable abbrev cz7 (l:Int) (w:Str) (n:Nat):Prop:=Yx w (keyOf (vm0 held rows info at0 told pc) 4 n) rows info at0 fun b=>jmp l (go4 ops (.keyed w 0 l 4 n) w i rest K) (vm0 held rows info at0 told pc) b
noncomputable abbrev ix1 (l:Int) (w:Str) (n:Nat):Prop:=rn1 ops i rest K held rows info at0 rows1 info1 at1 told pc (.keyed w 0 l 4 n) w
noncomputable abbrev cz8 (l:Int) (w:Str) (n:Nat):Prop:=Yx w (keyOf (vm1 held rows info at0 rows1 info1 at1 told pc) 4 n) rows info at0 fun b=>jmp l (go4 ops (.keyed w 0 l 4 n) w i rest K) (vm1 held rows info at0 rows1 info1 at1 told pc) b
noncomputable abbrev idxWs:List Str:=["IdxGT", "IdxGE", "IdxLT", "IdxLE"]
theorem Iz (l:Int):idxWs.map (fun w=>[1,2,3].map fun n=>ix0 ops i rest K held rows info at0 told pc l w n)=idxWs.map (fun w=>[1,2,3].map fun n=>cz7 ops i rest K held rows info at0 told pc l w n):=by kernel_rfl
theorem I0 (l:Int):idxWs.map (fun w=>[1,2].map fun n=>ix1 ops i rest K held rows info at0 rows1 info1 at1 told pc l w n)=idxWs.map (fun w=>[1,2].map fun n=>cz8 ops i rest K held rows info at0 rows1 info1 at1 told pc l w n):=by kernel_rfl
noncomputable abbrev cmpWs:List Str:=["<", "<=", ">", ">="]
noncomputable def Y6 (w:Str) (r l t:Int) (m:Vm) (K:Vm->Prop):Prop:=opt False (j1 (rd m r) (rd m t)) fun lt=>opt False (leV (rd m r) (rd m t)) fun le=>opt False (j1 (rd m t) (rd m r)) fun gt=>opt False (leV (rd m t) (rd m r)) fun ge=>jmp l K m (xh w lt le gt ge)
noncomputable abbrev two (a b:P):List (Str×V):=[("one",.p a),("two",.p b)]
noncomputable abbrev cm0 (r l t:Int) (rest:List (Str×V)) (w:Str):Prop:=K9 ops (.cmpJump w r l t) "CompareJump" i rest K (vm0 held rows info at0 told pc)
noncomputable abbrev cmT (r l t:Int) (w:Str):Prop:=Y6 w r l t (vm0 held rows info at0 told pc) (go4 ops (.cmpJump w r l t) "CompareJump" i (two (rd (vm0 held rows info at0 told pc) r) (rd (vm0 held rows info at0 told pc) t)) K)
theorem I1 (r l t:Int):cmpWs.map (cm0 ops i K held rows info at0 told pc r l t [])=cmpWs.map (cmT ops i K held rows info at0 told pc r l t):=by kernel_rfl
theorem I2 (r l t:Int) (a b:P):cmpWs.map (cm0 ops i K held rows info at0 told pc r l t (two a b))=cmpWs.map (cmT ops i K held rows info at0 told pc r l t):=by kernel_rfl
end
noncomputable def noE:Expr:=.Constant .none 0 default
noncomputable def lcS:Stmt->Expr×Comprehension×Scope
 | .Assign _ (.ListComp elt [g] sc _) _=>(elt,g,sc)
 | _=>(noE,⟨noE,noE,[],0⟩,default)
noncomputable def Qa:Nat->List Stmt->Expr×Comprehension×Scope
 | _,[]=>(noE,⟨noE,noE,[],0⟩,default)
 | 0,x::_=>lcS x
 | n+1,_::r=>Qa n r
noncomputable def lc8:Expr×Comprehension×Scope:=Qa 8 (fnB "_law_move")
noncomputable def lc10:Expr×Comprehension×Scope:=Qa 10 (fnB "_law_move")
noncomputable def cz9:Option Eph->List VO
 | none=>[]
 | some e=>[.cell (some (.ref 3)),.cell (some (.p (.int 1))),tb e.rows e.info e.at1]
noncomputable def vmL (m:Vm) (oc:Option V):List VO:=[tb m.rows m.info m.at0,.cell (some (.ref 3)),.cell oc,.dicti m.held,eT m.eph,.list m.told]++cz9 m.eph
noncomputable def mE (n:Nat):En:=⟨fnS "_law_move",[("word",n+6),("signs",n+5),("key",n+4),("info",n+3),("rows",n+2),("p3",n+1),("held",n)],14,0,none⟩
noncomputable def mvS (op:P) (nm:Str) (l k p4:Int) (key:List P) (sg:Option V) (wd:Option V) (m:Vm):St :=
 ⟨[("op",.p op),("tables",.ref 4),("name",.p (.str nm)),("p1",.p (.int 0)),("p2",.p (.int l)),("p4",.p (.int p4)),("table",.ref 0)],
  build (vmL m (some (.p op))++[.cell (some (.ref 3)),.cell (some (.p (.int k))),.cell (some (.p (.lst m.rows))),.cell (some (.p m.info)),.cell (some (.p (.lst key))),.cell sg,.cell wd]) 0 .nil,eN m.eph+7⟩
noncomputable def lastOf (isg:Bool) (a:Int) (r:List Int):Int:=match isg with
 | true=>a
 | false=>r.getLastD a
noncomputable def aq (nm:Str):Str:=⟨(nm.cps.toList.drop 4).toArray⟩
noncomputable def I3 (op:P) (nm:Str) (l k p4:Int) (key:List P) (m:Vm) (K:Vm->Prop):Prop :=
 Gc (mE (eN m.eph)) lc8.1 lc8.2.1 lc8.2.2 (.lst m.rows) (mvS op nm l k p4 key none none m) (.lst (sgL m.info key m.rows)) /\
 (Gc (mE (eN m.eph)) lc10.1 lc10.2.1 lc10.2.2 (.rng 0 (m.rows.length:Int)) (mvS op nm l k p4 key (some (.p (.lst (sgL m.info key m.rows)))) (some (.p (.str (aq nm)))) m) (.lst ((dt (aq nm) (sgL m.info key m.rows) 0).map .int)) /\
  Io (dt (aq nm) (sgL m.info key m.rows) 0) fun is=>match is with
   | []=>K { m with pc:=l }
   | a::r=>K { m with at0:=lastOf (isG (aq nm)) a r })
section
variable (ops:List P) (i:Int) (rest:List (Str×V)) (K:Fl->St->Prop) (held:List (Int×P)) (rows:List P) (info:P) (at0:Int) (rows1:List P) (info1:P) (at1:Int) (told:List P) (pc:Int)
noncomputable abbrev sk0 (l k:Int) (w:Str) (n:Nat):Prop:=rn0 ops i rest K held rows info at0 told pc (.keyed w 0 l k n) w
noncomputable abbrev cza (l k:Int) (w:Str) (n:Nat):Prop:=I3 (enc (.keyed w 0 l k n)) w l k n (keyOf (vm0 held rows info at0 told pc) k (n.max 1)) (vm0 held rows info at0 told pc) (go4 ops (.keyed w 0 l k n) w i rest K)
noncomputable abbrev sk1 (l k:Int) (w:Str) (n:Nat):Prop:=rn1 ops i rest K held rows info at0 rows1 info1 at1 told pc (.keyed w 0 l k n) w
noncomputable abbrev czb (l k:Int) (w:Str) (n:Nat):Prop:=I3 (enc (.keyed w 0 l k n)) w l k n (keyOf (vm1 held rows info at0 rows1 info1 at1 told pc) k (n.max 1)) (vm1 held rows info at0 rows1 info1 at1 told pc) (go4 ops (.keyed w 0 l k n) w i rest K)
noncomputable abbrev seekWs:List Str:=["SeekGE", "SeekGT", "SeekLE", "SeekLT"]
theorem D9 (l k:Int):seekWs.map (fun w=>[0,1,2,3].map fun n=>sk0 ops i rest K held rows info at0 told pc l k w n)=seekWs.map (fun w=>[0,1,2,3].map fun n=>cza ops i rest K held rows info at0 told pc l k w n):=by kernel_rfl
theorem Ea (l k:Int):seekWs.map (fun w=>[1,2].map fun n=>sk1 ops i rest K held rows info at0 rows1 info1 at1 told pc l k w n)=seekWs.map (fun w=>[1,2].map fun n=>czb ops i rest K held rows info at0 rows1 info1 at1 told pc l k w n):=by kernel_rfl
end
noncomputable def ij:Str := "row"
noncomputable def nAt:Str := "at"
noncomputable def cE (n:Nat) (sc:Scope):En:=⟨sc,(am (mE n) sc.names).getD [],14,0,none⟩
noncomputable def Fx (loc:List (Str×V)) (Q:V->St->Prop) (vs:List V) (s':St):Prop:=match Af vs with
 | some ps=>Q (.p (.lst ps)) (atL s' loc)
 | none=>Q (.ref s'.n) (new (.listV vs) (atL s' loc))
section
variable (op:P) (nm:Str) (l k p4:Int) (key:List P) (held:List (Int×P)) (rows:List P) (info:P) (at0:Int) (rows1:List P) (info1:P) (at1:Int) (told:List P) (pc:Int) (sg wd:Option V) (Q:V->St->Prop) (k1:V->St->Prop) (k0:St->Prop)
noncomputable def B0:St:=mvS op nm l k p4 key sg wd (vm0 held rows info at0 told pc)
noncomputable def B1:St:=mvS op nm l k p4 key sg wd (vm1 held rows info at0 rows1 info1 at1 told pc)
noncomputable abbrev r12:H Prop:=ev False O12 60
theorem Ot:dv False r12 (mE 6) lc8.1 lc8.2.1 lc8.2.2 (.lst rows) (B0 op nm l k p4 key held rows info at0 told pc sg wd) Q=cf False r12 (cE 6 lc8.2.2) lc8.1 lc8.2.1.target lc8.2.1.ifs (Fx (B0 op nm l k p4 key held rows info at0 told pc sg wd).loc Q) rows [] (atL (B0 op nm l k p4 key held rows info at0 told pc sg wd) []):=by kernel_rfl
theorem Ou:dv False r12 (mE 9) lc8.1 lc8.2.1 lc8.2.2 (.lst rows) (B1 op nm l k p4 key held rows info at0 rows1 info1 at1 told pc sg wd) Q=cf False r12 (cE 9 lc8.2.2) lc8.1 lc8.2.1.target lc8.2.1.ifs (Fx (B1 op nm l k p4 key held rows info at0 rows1 info1 at1 told pc sg wd).loc Q) rows [] (atL (B1 op nm l k p4 key held rows info at0 rows1 info1 at1 told pc sg wd) []):=by kernel_rfl
noncomputable abbrev los (x:Str) (y:P):List (List (Str×V)):=[[],[(x,.p y)]]
theorem kz (x:Str) (y:P):[]∈los x y:=.head _
theorem k5 (x:Str) (y:P):[(x,V.p y)]∈los x y:=.tail _ (.head _)
noncomputable abbrev turn (n:Nat) (lc:Expr×Comprehension×Scope) (x:P) (s:St) (k1:V->St->Prop) (k0:St->Prop):Prop:=Oi r12 (cE n lc.2.2) lc.1 lc.2.1.target lc.2.1.ifs x s k1 k0
theorem Eb (x y:List P):(los ij (.lst y)).map (fun lo=>turn 6 lc8 (.lst x) (atL (B0 op nm l k p4 key held rows info at0 told pc sg wd) lo) k1 k0)=(los ij (.lst y)).map fun _=>qa info x key/\k1 (.p (.int (ak (cp info) x key))) (atL (B0 op nm l k p4 key held rows info at0 told pc sg wd) [(ij,.p (.lst x))]):=by kernel_rfl
theorem Ec (x y:List P):(los ij (.lst y)).map (fun lo=>turn 9 lc8 (.lst x) (atL (B1 op nm l k p4 key held rows info at0 rows1 info1 at1 told pc sg wd) lo) k1 k0)=(los ij (.lst y)).map fun _=>qa info x key/\k1 (.p (.int (ak (cp info) x key))) (atL (B1 op nm l k p4 key held rows info at0 rows1 info1 at1 told pc sg wd) [(ij,.p (.lst x))]):=by kernel_rfl
theorem I4 (n:Int):dv False r12 (mE 6) lc10.1 lc10.2.1 lc10.2.2 (.rng 0 n) (B0 op nm l k p4 key held rows info at0 told pc sg wd) Q=opt False (items (.rng 0 n)) fun xs=>cf False r12 (cE 6 lc10.2.2) lc10.1 lc10.2.1.target lc10.2.1.ifs (Fx (B0 op nm l k p4 key held rows info at0 told pc sg wd).loc Q) xs [] (atL (B0 op nm l k p4 key held rows info at0 told pc sg wd) []):=by kernel_rfl
theorem I5 (n:Int):dv False r12 (mE 9) lc10.1 lc10.2.1 lc10.2.2 (.rng 0 n) (B1 op nm l k p4 key held rows info at0 rows1 info1 at1 told pc sg wd) Q=opt False (items (.rng 0 n)) fun xs=>cf False r12 (cE 9 lc10.2.2) lc10.1 lc10.2.1.target lc10.2.1.ifs (Fx (B1 op nm l k p4 key held rows info at0 rows1 info1 at1 told pc sg wd).loc Q) xs [] (atL (B1 op nm l k p4 key held rows info at0 rows1 info1 at1 told pc sg wd) []):=by kernel_rfl
noncomputable def isE (w:Str):Bool:=seq w "GE" || seq w "LE"
noncomputable def Tu (w:Str) (sgs:List P) (j:Int) (K:Bool->Prop):Prop :=
 let last:=opt False (j2 (.lst sgs) (.int j)) fun v=>opt False (du v (.int (match isG w with | true=>1 | false => -1))) fun b=>cnd b (K true) (K false)
 opt False (j2 (.lst sgs) (.int j)) fun v=>opt False (du v (.int 0)) fun b=>cnd b (cnd (isE w) (K true) last) last
noncomputable abbrev words:List Str:=["GE", "GT", "LE", "LT"]
theorem xi (sgs:List P) (j:Int) (y:P):words.map (fun w=>(los nAt y).map fun lo=>turn 6 lc10 (.int j) (atL (B0 op nm l k p4 key held rows info at0 told pc (some (.p (.lst sgs))) (some (.p (.str w)))) lo) k1 k0) =
  words.map fun w=>(los nAt y).map fun _=>Tu w sgs j fun b=>cnd b (k1 (.p (.int j)) (atL (B0 op nm l k p4 key held rows info at0 told pc (some (.p (.lst sgs))) (some (.p (.str w)))) [(nAt,.p (.int j))])) (k0 (atL (B0 op nm l k p4 key held rows info at0 told pc (some (.p (.lst sgs))) (some (.p (.str w)))) [(nAt,.p (.int j))])):=by kernel_rfl
theorem xj (sgs:List P) (j:Int) (y:P):words.map (fun w=>(los nAt y).map fun lo=>turn 9 lc10 (.int j) (atL (B1 op nm l k p4 key held rows info at0 rows1 info1 at1 told pc (some (.p (.lst sgs))) (some (.p (.str w)))) lo) k1 k0) =
  words.map fun w=>(los nAt y).map fun _=>Tu w sgs j fun b=>cnd b (k1 (.p (.int j)) (atL (B1 op nm l k p4 key held rows info at0 rows1 info1 at1 told pc (some (.p (.lst sgs))) (some (.p (.str w)))) [(nAt,.p (.int j))])) (k0 (atL (B1 op nm l k p4 key held rows info at0 rows1 info1 at1 told pc (some (.p (.lst sgs))) (some (.p (.str w)))) [(nAt,.p (.int j))])):=by kernel_rfl
end
theorem ai {α β:Type} {f g:α->β} {l:List α} (h:l.map f=l.map g) {x:α} (hx:x∈l):f x=g x:=by
 induction l with
 | nil=>nomatch hx
 | cons y l ih =>
  rw [List.map_cons,List.map_cons] at h
  cases hx with
  | head=>exact (List.cons.inj h).1
  | tail _ m=>exact ih (List.cons.inj h).2 m
theorem I6:∀ xs:List P,Af (xs.map .p)=some xs:=by
 intro l0
 induction l0 with
 | nil =>
  exact rfl
 | cons x r ih =>
  show (match Af (r.map .p) with | some l=>some (x::l) | none=>none)=_;rw [ih]
noncomputable def Ed (x:Str) (p:P->Prop) (lo:List (Str×V)):Prop:=lo=[] \/ ∃ y,p y/\lo=[(x,.p y)]
theorem k6 {Q:V->St->Prop} {ps:List P} {B:St} {lo:List (Str×V)} (h:Q (.p (.lst ps)) B):Fx B.loc Q (ps.map .p) (atL B lo):=by
 unfold Fx;rw [I6];exact h
theorem ik {f:P->Option P} {g:P->P}:∀ {l:List P},(∀ x∈l,f x=some (g x))->l.filterMap f=l.map g:=by
 intro l0
 induction l0 with
 | nil =>
  intro _
  exact rfl
 | cons x l ih =>
  intro h
  rw [List.filterMap_cons,h x (.head _)];dsimp only;rw [ih fun y m=>h y (.tail _ m)];rfl
section
variable (op:P) (nm:Str) (l k p4:Int) (key:List P) (held:List (Int×P)) (rows:List P) (info:P) (at0:Int) (rows1:List P) (info1:P) (at1:Int) (told:List P) (pc:Int) (sg wd:Option V) (Q:V->St->Prop) (k1:V->St->Prop) (k0:St->Prop)
noncomputable def isL (y:P):Prop:=∃ x,y = .lst x
theorem Y7 (hr:∀ x∈rows,∃ y,x = .lst y/\qa info y key) (hl:rows.length<=2000):Gc (mE 6) lc8.1 lc8.2.1 lc8.2.2 (.lst rows) (B0 op nm l k p4 key held rows info at0 told pc sg wd) (.lst (sgL info key rows)):=by
 intro Q hQ
 rw [Ot]
 refine fg (B:=B0 op nm l k p4 key held rows info at0 told pc sg wd) (fun x=>some (.int (ak (cp info) (unP x) key))) (Ed ij isL) (.inl rfl) (by rw [List.length_nil];exact Vt hl) ?_ ?_
 ·intro x hx lo hlo
  obtain ⟨y,rfl,hs⟩:=hr x hx
  refine ⟨[(ij,.p (.lst y))],.inr ⟨_,⟨y,rfl⟩,rfl⟩,fun k1 k0 hk=>?_⟩
  rcases hlo with rfl | ⟨_,⟨z,rfl⟩,rfl⟩
  ·exact Wr.of (ai (Eb op nm l k p4 key held rows info at0 told pc sg wd k1 k0 y []) (kz _ _)) ⟨hs,hk⟩
  ·exact Wr.of (ai (Eb op nm l k p4 key held rows info at0 told pc sg wd k1 k0 y z) (k5 _ _)) ⟨hs,hk⟩
 ·intro lo _
  rw [List.nil_append,ik (g:=fun x=>.int (ak (cp info) (unP x) key)) fun _ _=>rfl]
  exact k6 hQ
theorem Y8 (hr:∀ x∈rows,∃ y,x = .lst y/\qa info y key) (hl:rows.length<=2000):Gc (mE 9) lc8.1 lc8.2.1 lc8.2.2 (.lst rows) (B1 op nm l k p4 key held rows info at0 rows1 info1 at1 told pc sg wd) (.lst (sgL info key rows)):=by
 intro Q hQ
 rw [Ou]
 refine fg (B:=B1 op nm l k p4 key held rows info at0 rows1 info1 at1 told pc sg wd) (fun x=>some (.int (ak (cp info) (unP x) key))) (Ed ij isL) (.inl rfl) (by rw [List.length_nil];exact Vt hl) ?_ ?_
 ·intro x hx lo hlo
  obtain ⟨y,rfl,hs⟩:=hr x hx
  refine ⟨[(ij,.p (.lst y))],.inr ⟨_,⟨y,rfl⟩,rfl⟩,fun k1 k0 hk=>?_⟩
  rcases hlo with rfl | ⟨_,⟨z,rfl⟩,rfl⟩
  ·exact Wr.of (ai (Ec op nm l k p4 key held rows info at0 rows1 info1 at1 told pc sg wd k1 k0 y []) (kz _ _)) ⟨hs,hk⟩
  ·exact Wr.of (ai (Ec op nm l k p4 key held rows info at0 rows1 info1 at1 told pc sg wd k1 k0 y z) (k5 _ _)) ⟨hs,hk⟩
 ·intro lo _
  rw [List.nil_append,ik (g:=fun x=>.int (ak (cp info) (unP x) key)) fun _ _=>rfl]
  exact k6 hQ
noncomputable def I7 (w:Str) (sgs:List P):P->Option P
 | .int j=>(match sgs[j.toNat]? with
  | some (.int s)=>(match ft w s with
   | true=>some (.int j)
   | false=>none)
  | _=>none)
 | _=>none
theorem r4 (w:Str) (ss:List Int):∀ (post pre:List Int),ss=pre++post->(co post.length (pre.length:Int)).filterMap (I7 w (ss.map .int))=(dt w (post.map .int) (pre.length:Int)).map .int:=by
 intro l0
 induction l0 with
 | nil =>
  intro pre _
  exact rfl
 | cons s post ih =>
  intro pre h
  have e:(ss.map P.int)[((pre.length:Int)).toNat]? = some (.int s):=by
   rw [h,Int.toNat_natCast,List.map_append,List.map_cons,List.getElem?_append_right (by rw [List.length_map];exact Nat.le_refl _),List.length_map,Nat.sub_self];rfl
  have ih:=ih (pre++[s]) (by rw [h,List.append_assoc];rfl)
  rw [List.length_append,List.length_singleton,Int.natCast_add] at ih
  show ((.int (pre.length:Int))::co post.length ((pre.length:Int)+1)).filterMap _=(match ft w s with
   | true=>(pre.length:Int)::dt w (post.map .int) ((pre.length:Int)+1)
   | false=>dt w (post.map .int) ((pre.length:Int)+1)).map P.int
  rw [List.filterMap_cons]
  have q:I7 w (ss.map .int) (.int (pre.length:Int))=(match ft w s with | true=>some (.int (pre.length:Int)) | false=>none):=by
   unfold I7;dsimp only;rw [e]
  rw [q]
  induction ft w s using Bool.casesOn with
  | true=>dsimp only;rw [List.map_cons];exact congrArg _ ih
  | false=>dsimp only;exact ih
theorem Ee {w:Str} {ss:List Int} {j:Nat} {K:Bool->Prop} {s:Int} (hj:ss[j]? = some s) (h:K (ft w s)):Tu w (ss.map .int) (j:Int) K:=by
 have hl:j<ss.length:=by
  induction q:decide (j<ss.length) using Bool.casesOn with
  | true=>exact of_decide_eq_true q
  | false=>rw [List.getElem?_eq_none (by have:=of_decide_eq_false q;exact Nat.not_lt.mp this)] at hj;cases hj
 have e:j2 (.lst (ss.map .int)) (.int (j:Int))=some (.int s):=by
  show item (ss.map P.int) (j:Int)=_
  unfold item idx
  rw [decide_eq_true (Int.natCast_nonneg j),decide_eq_true (by rw [List.length_map];exact_mod_cast hl)]
  dsimp only
  rw [Int.toNat_natCast,List.getElem?_map,hj];rfl
 unfold ft at h
 change K (decide (s=0)&&isE w||decide (s=match isG w with | true=>1 | false => -1)) at h
 have last:decide (s=0)=false\/isE w=false->opt False (j2 (.lst (ss.map .int)) (.int (j:Int))) fun v=>opt False (du v (.int (match isG w with | true=>1 | false => -1))) fun b=>cnd b (K true) (K false):=fun hz=>by
  refine bk e (bk (rfl:du (.int s) (.int _)=some (decide (s=_))) ?_)
  have e0:(decide (s=0)&&isE w)=false:=by rcases hz with hz | hz <;> rw [hz];exact Bool.false_and _;exact Bool.and_false _
  rw [e0,Bool.false_or] at h
  exact bg (fun q=>by rw [q] at h;exact h) fun q=>by rw [q] at h;exact h
 refine bk e (bk (rfl:du (.int s) (.int 0)=some (decide (s=0))) (bg (fun q=>bg (fun q2=>?_) fun q2=>last (.inr q2)) fun q=>last (.inl q)))
 rw [q,q2] at h
 exact h
theorem k7:∀ {n:Nat} {a:Int} {x:P},x∈co n a -> ∃ j:Nat,j<n/\x = .int (a+j)
 | n+1,a,_,.head _=>⟨0,Nat.succ_pos _,by rw [Int.natCast_zero,Int.add_zero]⟩
 | n+1,a,x,.tail _ m=>by
  obtain ⟨j,hj,e⟩:=k7 m
  exact ⟨j+1,by exact Nat.lt_succ_of_le hj,by rw [e];congr 1;exact om78⟩
theorem i8:∀ (n:Nat) (a:Int),(co n a).length=n
 | 0,_=>rfl
 | n+1,a=>by show (co n (a+1)).length+1=_;rw [i8]
theorem r5 {n:Nat} (h:n<=1000):items (.rng 0 (n:Int))=some (co n 0):=by
 have e:((n:Int) - 0).toNat=n:=by exact rfl
 show (match fits ((n:Int) - 0).toNat&&(decide (-1000000<=(0:Int))&&decide ((0:Int)<=1000000))&&(decide (-1000000<=(n:Int))&&decide ((n:Int)<=1000000)) with | true=>some (co ((n:Int) - 0).toNat 0) | false=>none)=_
 rw [e,show fits n=true from Nat.ble_eq_true_of_le (by exact Nat.le_trans h (Nat.le_of_ble_eq_true rfl)),decide_eq_true (by exact Int.natCast_nonneg _ : -1000000<=(n:Int)),decide_eq_true (by omega:(n:Int)<=1000000)]
 rfl
noncomputable def isI (y:P):Prop:=∃ x,y = .int x
theorem Tv (w:Str) (hw:w∈words) (ss:List Int) (hl:ss.length<=1000):Gc (mE 6) lc10.1 lc10.2.1 lc10.2.2 (.rng 0 (ss.length:Int)) (B0 op nm l k p4 key held rows info at0 told pc (some (.p (.lst (ss.map .int)))) (some (.p (.str w)))) (.lst ((dt w (ss.map .int) 0).map .int)):=by
 intro Q hQ
 rw [I4]
 refine bk (r5 hl) (fg (B:=B0 op nm l k p4 key held rows info at0 told pc (some (.p (.lst (ss.map .int)))) (some (.p (.str w)))) (I7 w (ss.map .int)) (Ed nAt fun _=>True) (.inl rfl) (by rw [List.length_nil,i8];exact Zn hl) ?_ ?_)
 ·intro x hx lo hlo
  obtain ⟨j,hj,rfl⟩:=k7 hx
  rw [Int.zero_add]
  refine ⟨[(nAt,.p (.int j))],.inr ⟨_,trivial,rfl⟩,fun k1 k0 hk=>?_⟩
  have fit:Tu w (ss.map .int) (j:Int) fun b=>cnd b (k1 (.p (.int (j:Int))) (atL (B0 op nm l k p4 key held rows info at0 told pc (some (.p (.lst (ss.map .int)))) (some (.p (.str w)))) [(nAt,.p (.int (j:Int)))])) (k0 (atL (B0 op nm l k p4 key held rows info at0 told pc (some (.p (.lst (ss.map .int)))) (some (.p (.str w)))) [(nAt,.p (.int (j:Int)))])):=by
   refine Ee (s:=ss[j]) (List.getElem?_eq_getElem hj) ?_
   have q:I7 w (ss.map .int) (.int (j:Int))=(match ft w ss[j] with | true=>some (.int (j:Int)) | false=>none):=by
    unfold I7;dsimp only;rw [Int.toNat_natCast,List.getElem?_map,List.getElem?_eq_getElem hj];rfl
   rw [q] at hk
   refine bg (fun e=>?_) fun e=>?_
   ·rw [e] at hk;exact hk
   ·rw [e] at hk;exact hk
  rcases hlo with rfl | ⟨z,_,rfl⟩
  ·exact Wr.of (ai (ai (xi op nm l k p4 key held rows info at0 told pc k1 k0 (ss.map .int) j .none) hw) (kz _ _)) fit
  ·exact Wr.of (ai (ai (xi op nm l k p4 key held rows info at0 told pc k1 k0 (ss.map .int) j z) hw) (k5 _ _)) fit
 ·intro lo _
  rw [List.nil_append]
  have:=r4 w ss ss [] rfl
  rw [List.length_nil,Int.natCast_zero] at this
  rw [this]
  exact k6 hQ
theorem Tw (w:Str) (hw:w∈words) (ss:List Int) (hl:ss.length<=1000):Gc (mE 9) lc10.1 lc10.2.1 lc10.2.2 (.rng 0 (ss.length:Int)) (B1 op nm l k p4 key held rows info at0 rows1 info1 at1 told pc (some (.p (.lst (ss.map .int)))) (some (.p (.str w)))) (.lst ((dt w (ss.map .int) 0).map .int)):=by
 intro Q hQ
 rw [I5]
 refine bk (r5 hl) (fg (B:=B1 op nm l k p4 key held rows info at0 rows1 info1 at1 told pc (some (.p (.lst (ss.map .int)))) (some (.p (.str w)))) (I7 w (ss.map .int)) (Ed nAt fun _=>True) (.inl rfl) (by rw [List.length_nil,i8];exact Zn hl) ?_ ?_)
 ·intro x hx lo hlo
  obtain ⟨j,hj,rfl⟩:=k7 hx
  rw [Int.zero_add]
  refine ⟨[(nAt,.p (.int j))],.inr ⟨_,trivial,rfl⟩,fun k1 k0 hk=>?_⟩
  have fit:Tu w (ss.map .int) (j:Int) fun b=>cnd b (k1 (.p (.int (j:Int))) (atL (B1 op nm l k p4 key held rows info at0 rows1 info1 at1 told pc (some (.p (.lst (ss.map .int)))) (some (.p (.str w)))) [(nAt,.p (.int (j:Int)))])) (k0 (atL (B1 op nm l k p4 key held rows info at0 rows1 info1 at1 told pc (some (.p (.lst (ss.map .int)))) (some (.p (.str w)))) [(nAt,.p (.int (j:Int)))])):=by
   refine Ee (s:=ss[j]) (List.getElem?_eq_getElem hj) ?_
   have q:I7 w (ss.map .int) (.int (j:Int))=(match ft w ss[j] with | true=>some (.int (j:Int)) | false=>none):=by
    unfold I7;dsimp only;rw [Int.toNat_natCast,List.getElem?_map,List.getElem?_eq_getElem hj];rfl
   rw [q] at hk
   refine bg (fun e=>?_) fun e=>?_
   ·rw [e] at hk;exact hk
   ·rw [e] at hk;exact hk
  rcases hlo with rfl | ⟨z,_,rfl⟩
  ·exact Wr.of (ai (ai (xj op nm l k p4 key held rows info at0 rows1 info1 at1 told pc k1 k0 (ss.map .int) j .none) hw) (kz _ _)) fit
  ·exact Wr.of (ai (ai (xj op nm l k p4 key held rows info at0 rows1 info1 at1 told pc k1 k0 (ss.map .int) j z) hw) (k5 _ _)) fit
 ·intro lo _
  rw [List.nil_append]
  have:=r4 w ss ss [] rfl
  rw [List.length_nil,Int.natCast_zero] at this
  rw [this]
  exact k6 hQ
end
noncomputable def jv (l:Int) (m:Vm) (b:Bool):Vm:=match b with
 | true=>{ m with pc:=l }
 | false=>m
noncomputable def wr (m:Vm) (r:Int) (v:P):Vm:={ m with held:=dput r v m.held }
noncomputable def inside (rows:List P) (a:Int):Bool:=decide (0<=a)&&decide (a<rows.length)
noncomputable def ma (w:Str) (l:Int) (key:List P) (m:Vm):Vm:=match dt (aq w) (sgL m.info key m.rows) 0 with
 | []=>{ m with pc:=l }
 | a::r=>{ m with at0:=lastOf (isG (aq w)) a r }
noncomputable def Ut (l:Int) (m:Vm):List Int->Vm
 | []=>{ m with at0:=0,pc:=l }
 | j::_=>{ m with at0:=j }
noncomputable def hits (y:Int):List Int->Int->List Int
 | [],_=>[]
 | x::r,i=>match decide (x=y) with
  | true=>i::hits y r (i+1)
  | false=>hits y r (i+1)
noncomputable def St1 (op:Op) (m:Vm) (K:Vm->Prop):Prop:=match op with
 | .row r n=>r=1/\((n=1/\K { m with told:=m.told++[.tup [rd m 1]] })\/(n=3/\K { m with told:=m.told++[.tup [rd m 1,rd m 2,rd m 3]] }))
 | .ifNull r l=>Vl (rd m r)/\K (jv l m (isNone (rd m r)))
 | .mustInt r l=>Vl (rd m r)/\K (jv l m (!isInt (rd m r)))
 | .cmpJump w r l t=>w∈cmpWs/\m.eph=none /\ ∃ a b,rd m r = .int a/\rd m t = .int b/\K (jv l m (xh w (decide (a<b)) (decide (a<=b)) (decide (b<a)) (decide (b<=a))))
 | .move w c l=>(c=0/\((m.eph=none/\(w = "Rewind" /\ K (jv l { m with at0:=0 } m.rows.isEmpty)\/w = "Last" /\ K (jv l { m with at0:=(m.rows.length:Int) - 1 } m.rows.isEmpty))) \/
   w = "Next" /\ K (jv l { m with at0:=m.at0+1 } (inside m.rows (m.at0+1)))\/w = "Prev" /\ K (jv l { m with at0:=m.at0 + -1 } (inside m.rows (m.at0 + -1))))) \/
   (c=1 /\ ∃ e,m.eph=some e/\(w = "Rewind" /\ K (jv l { m with eph:=some { e with at1:=0 } } e.rows.isEmpty)\/w = "Last" /\ K (jv l { m with eph:=some { e with at1:=(e.rows.length:Int) - 1 } } e.rows.isEmpty) \/
   w = "Next" /\ K (jv l { m with eph:=some { e with at1:=e.at1+1 } } (inside e.rows (e.at1+1)))\/w = "Prev" /\ K (jv l { m with eph:=some { e with at1:=e.at1 + -1 } } (inside e.rows (e.at1 + -1)))))
 | .seekRow c l r=>c=0 /\ ∃ (rs:List Int) (y:Int),m.rows=(rs.map fun x=>.lst [.int x])/\rs.length<=4/\rd m r = .int y/\K (Ut l m (hits y rs 0))
 | .keyed w c l k n=>c=0/\((w∈idxWs/\k=4 /\ ∃ n':Nat,n=n'/\(n'∈[1,2]\/n'∈[1,2,3]/\m.eph=none) /\ ∃ row,item m.rows m.at0=some (.lst row)/\qa m.info row (keyOf m 4 n')/\K (jv l m (Fw w (ak (cp m.info) row (keyOf m 4 n'))))) \/
   (w∈seekWs /\ ∃ n':Nat,n=n'/\(n'∈[1,2]\/n'∈[0,1,2,3]/\m.eph=none)/\m.rows.length<=4/\(∀ x∈m.rows,∃ y,x = .lst y/\qa m.info y (keyOf m k (n'.max 1)))/\K (ma w l (keyOf m k (n'.max 1)) m)))
 | .value r v=>K (wr m r v)
 | .nul r=>m.eph=none/\K (wr m r .none)
 | .copy a b=>m.eph=none/\K (wr m b (rd m a))
 | .column c i r=>(c=0 /\ ∃ row v,item m.rows m.at0=some row/\j2 row (.int i)=some v/\K (wr m r v))\/(c=1 /\ ∃ e row v,m.eph=some e/\item e.rows e.at1=some row/\j2 row (.int i)=some v/\K (wr m r v))
 | .rowid c r=>c=0 /\ ∃ row v,item m.rows m.at0=some row/\j2 row (.int 0)=some v/\K (wr m r v)
 | .record a r=>m.eph≠none/\K (wr m r (.lst [rd m a]))
 | .openEph c coll=>c=1/\m.eph=none/\K { m with eph:=some ⟨[],fh coll,0⟩ }
 | .insert c r=>c=1 /\ ∃ e x,m.eph=some e/\eh r m.held=some (.lst x)/\Ta e.info e.rows x/\K { m with eph:=some { e with rows:=(placed (cp e.info) (e.rows.map unP) x).map .lst } }
 | .halt=>False
noncomputable def opN:Op->Str
 | .row .. => "ResultRow"
 | .ifNull .. => "IsNull"
 | .mustInt .. => "MustBeInt"
 | .cmpJump .. => "CompareJump"
 | .move w _ _=>w
 | .seekRow .. => "SeekRowid"
 | .keyed w _ _ _ _=>w
 | .value .. => "Value"
 | .nul .. => "Null"
 | .copy .. => "Copy"
 | .column .. => "Column"
 | .rowid .. => "Rowid"
 | .record .. => "MakeRecord"
 | .openEph .. => "OpenEphemeral"
 | .insert .. => "IdxInsert"
 | .halt => "Halt"
noncomputable def restOk (rest:List (Str×V)):Prop:=rest=[] \/ ∃ a b,rest=two a b
theorem pd {rows:List P} {K:Bool->Prop} (h:K rows.isEmpty):P9 rows K:=by
 unfold P9
 induction rows using List.casesOn with
 | nil=>exact bk (rfl:du (.lst []) (.lst [])=some true) h
 | cons x r=>exact bk (rfl:du (.lst (x::r)) (.lst [])=some false) h
theorem fk {rows:List P} {a:Int} {K:Bool->Prop} (h:K (inside rows a)):stepT rows a K:=by
 unfold stepT
 unfold inside at h
 refine bg (fun e=>?_) fun e=>?_
 ·rw [e,Bool.true_and] at h;exact h
 ·rw [e,Bool.false_and] at h;exact h
theorem eg {l:Int} {K:Vm->Prop} {m:Vm} {b:Bool} (h:K (jv l m b)):jmp l K m b:=by
 induction b using Bool.casesOn <;> exact h
theorem nf {m:Vm} {r:Int} {v:P} {K:Vm->Prop} (hl:m.held.length<=800) (h:K (wr m r v)):wrK m r v K:=i0 (Nat.ble_eq_true_of_le (by exact Nat.le_trans hl (Nat.le_of_ble_eq_true rfl))) h
theorem k8 {rows:List P} {at0 i r:Int} {m:Vm} {K:Vm->Prop} {row v:P} (hl:m.held.length<=800) (h1:item rows at0=some row) (h2:j2 row (.int i)=some v) (h:K (wr m r v)):colT rows at0 i r m K:=bk h1 (bk h2 (nf hl h))
theorem I8 {f:Int->Option Bool} {K:List Int->Prop} {y:Int}:∀ {l:List Int} {i:Int} {acc:List Int},(∀ x,f x=some (decide (x=y)))->K (acc++hits y l i)->D8 f K l i acc:=by
 intro l0
 induction l0 with
 | nil =>
  intro i acc _ h
  delta hits at h;rw [List.append_nil] at h;exact h
 | cons x r ih =>
  intro i acc hf h
  dsimp only [D8]
  unfold hits at h
  refine bk (hf x) (bg (fun e=>ih hf ?_) fun e=>ih hf ?_)
  ·rw [e] at h;rw [List.append_assoc];exact h
  ·rw [e] at h;exact h
theorem Ov {w:Str} {key:List P} {rows:List P} {info:P} {at0:Int} {K:Bool->Prop} {row:List P} (h1:item rows at0=some (.lst row)) (h2:qa info row key) (h:K (Fw w (ak (cp info) row key))):Yx w key rows info at0 K:=bk h1 ⟨h2,h⟩
theorem r6 (w:Str):∀ (l:List P) (i:Int),(dt w l i).length<=l.length:=by
 intro l0
 induction l0 with
 | nil =>
  intro _
  exact Nat.le_refl _
 | cons x r ih =>
  intro i
  have ih:=ih (i+1)
  induction x using P.casesOn with
  | int s =>
   show (match ft w s with | true=>i::dt w r (i+1) | false=>dt w r (i+1)).length<=r.length+1
   induction ft w s using Bool.casesOn with
   | true=>exact Nat.succ_le_succ ih
   | false=>exact Nat.le_succ_of_le ih
  | _=>exact Nat.le_succ_of_le ih
theorem r7 {w:Str} (h:w∈seekWs):aq w∈words:=by
 have:∀ w∈seekWs,(words.any fun x=>seq x (aq w))=true:=by decide +kernel
 obtain ⟨x,hx,e⟩:=List.any_eq_true.mp (this w h)
 rw [← seq_iff.mp e];exact hx
noncomputable def sgs (info:P) (key rows:List P):List Int:=rows.map fun x=>ak (cp info) (unP x) key
theorem La (info:P) (key rows:List P):sgL info key rows=(sgs info key rows).map .int:=by
 delta sgL sgs;rw [List.map_map];rfl
theorem pe (info:P) (key rows:List P):(sgs info key rows).length=rows.length:=by unfold sgs;rw [List.length_map]
section
variable {op:P} {nm:Str} {l k p4:Int} {key:List P} {held:List (Int×P)} {rows:List P} {info:P} {at0:Int} {rows1:List P} {info1:P} {at1:Int} {told:List P} {pc:Int} {K:Vm->Prop}
theorem xk {m:Vm} (h:K (ma nm l key m)):(fun is:List Int=>match is with | []=>K { m with pc:=l } | a::r=>K { m with at0:=lastOf (isG (aq nm)) a r }) (dt (aq nm) (sgL m.info key m.rows) 0):=by
 unfold ma at h
 dsimp only
 split <;> rename_i e <;> rw [e] at h <;> exact h
theorem I9 (hr:∀ x∈rows,∃ y,x = .lst y/\qa info y key) (hl:rows.length<=4) (hw:aq nm∈words) (h:K (ma nm l key (vm0 held rows info at0 told pc))):I3 op nm l k p4 key (vm0 held rows info at0 told pc) K:=by
 have g1:=Y7 op nm l k p4 key held rows info at0 told pc none none hr (by exact Nat.le_trans hl (Nat.le_of_ble_eq_true rfl))
 have g2:=Tv op nm l k p4 key held rows info at0 told pc (aq nm) hw (sgs info key rows) (by rw [pe];exact Nat.le_trans hl (Nat.le_of_ble_eq_true rfl))
 rw [pe, ← La] at g2
 exact ⟨g1,g2,xf (Nat.le_trans (r6 _ _ _) (by show (sgL info key rows).length<=4;unfold sgL;rw [List.length_map];exact hl)) (xk h)⟩
theorem Ja (hr:∀ x∈rows,∃ y,x = .lst y/\qa info y key) (hl:rows.length<=4) (hw:aq nm∈words) (h:K (ma nm l key (vm1 held rows info at0 rows1 info1 at1 told pc))):I3 op nm l k p4 key (vm1 held rows info at0 rows1 info1 at1 told pc) K:=by
 have g1:=Y8 op nm l k p4 key held rows info at0 rows1 info1 at1 told pc none none hr (by exact Nat.le_trans hl (Nat.le_of_ble_eq_true rfl))
 have g2:=Tw op nm l k p4 key held rows info at0 rows1 info1 at1 told pc (aq nm) hw (sgs info key rows) (by rw [pe];exact Nat.le_trans hl (Nat.le_of_ble_eq_true rfl))
 rw [pe, ← La] at g2
 exact ⟨g1,g2,xf (Nat.le_trans (r6 _ _ _) (by show (sgL info key rows).length<=4;unfold sgL;rw [List.length_map];exact hl)) (xk h)⟩
end
theorem Ow {rs:List Int} {l:Int} {y:Int} {m:Vm} {K:Vm->Prop} (h:K (Ut l m (hits y rs 0))):xg rs l (.int y) m K:=by
 unfold xg
 refine I8 (y:=y) (fun x=>rfl) ?_
 rw [List.nil_append]
 unfold Ut at h
 split <;> rename_i e <;> rw [e] at h <;> exact h
theorem Tz (rs:List Int) (h:rs.length<=4):∃ a b c d,rs∈[[],[a],[a,b],[a,b,c],[a,b,c,d]]:=by
 exact Yi (P:=fun rs=>∃ a b c d,rs∈[[],[a],[a,b],[a,b,c],[a,b,c,d]]) ⟨0,0,0,0,.head _⟩ (fun a=>⟨a,0,0,0,.tail _ (.head _)⟩) (fun a b=>⟨a,b,0,0,.tail _ (.tail _ (.head _))⟩)
  (fun a b c=>⟨a,b,c,0,.tail _ (.tail _ (.tail _ (.head _)))⟩) (fun a b c d=>⟨a,b,c,d,.tail _ (.tail _ (.tail _ (.tail _ (.head _))))⟩) h
noncomputable def Nxt (ops:List P) (op:Op) (i:Int) (K:Fl->St->Prop) (KK:Vm->Prop):Prop:=∀ m' rest',restOk rest'->KK m'->Wr (go4 ops op (opN op) i rest' K m')
theorem Nxt.go {ops:List P} {op:Op} {i:Int} {K:Fl->St->Prop} {KK:Vm->Prop} (h:Nxt ops op i K KK) {m':Vm} {rest:List (Str×V)} (hr:restOk rest) (q:KK m'):go4 ops op (opN op) i rest K m':=(h m' rest hr q).out
theorem Jb {ops:List P} {i:Int} {rest:List (Str×V)} {op:Op} {m:Vm} {K:Fl->St->Prop} {KK:Vm->Prop} (hrest:restOk rest) (hl:m.held.length<=800) (ht:m.told.length<=800) (h:St1 op m KK)
  (hK':∀ m' rest',restOk rest'->KK m'->Wr (go4 ops op (opN op) i rest' K m')):Wr (K9 ops op (opN op) i rest K m):=by
 have hN:Nxt ops op i K KK:=hK'
 clear hK'
 obtain ⟨held,rows,info,at0,eph,told,pc⟩:=m
 dsimp only at hl ht
 induction op using Op.casesOn with
 | row r n =>
  obtain ⟨rfl,⟨rfl,h⟩ | ⟨rfl,h⟩⟩:=h
  ·exact .of (Iv ops i rest K _) (i0 (Nat.ble_eq_true_of_le (Nat.succ_le_of_lt (Nat.lt_of_le_of_lt ht (by decide)))) (hN.go hrest h))
  ·exact .of (Iu ops i rest K _) (i0 (Nat.ble_eq_true_of_le (Nat.succ_le_of_lt (Nat.lt_of_le_of_lt ht (by decide)))) (hN.go hrest h))
 | ifNull r l =>
  refine .of (Iw ops i rest K _ r l) (bk (kq h.1 s0) ?_)
  have h:=hN.go hrest h.2
  induction q:isNone (rd ⟨held,rows,info,at0,eph,told,pc⟩ r) using Bool.casesOn with
  | true=>rw [q] at h;exact h
  | false=>rw [q] at h;exact h
 | mustInt r l =>
  refine .of (Iy ops i rest K _ r l) (bk (by rw [Sq h.1];rfl) (bk (rfl:truth (.p (.bool _)) _=some _) ?_))
  have h:=hN.go hrest h.2
  induction q:isInt (rd ⟨held,rows,info,at0,eph,told,pc⟩ r) using Bool.casesOn with
  | true=>rw [q] at h;exact h
  | false=>rw [q] at h;exact h
 | cmpJump w r l t =>
  obtain ⟨hw,he,a,b,ha,hb,h⟩:=h
  dsimp only at he
  subst he
  have fin:cmT ops i K held rows info at0 told pc r l t w:=by
   have h2:=hN.go (rest:=two (rd (vm0 held rows info at0 told pc) r) (rd (vm0 held rows info at0 told pc) t)) (.inr ⟨_,_,rfl⟩) h
   show Y6 w r l t (vm0 held rows info at0 told pc) _
   delta Y6
   rw [show rd (vm0 held rows info at0 told pc) r = .int a from ha,show rd (vm0 held rows info at0 told pc) t = .int b from hb] at h2 ⊢
   exact bk rfl (bk rfl (bk rfl (bk rfl (eg h2))))
  rcases hrest with rfl | ⟨x,y,rfl⟩
  ·exact .of (ai (I1 ops i K held rows info at0 told pc r l t) hw) fin
  ·exact .of (ai (I2 ops i K held rows info at0 told pc r l t x y) hw) fin
 | move w c l =>
  rcases h with ⟨rfl,⟨he,⟨rfl,h⟩ | ⟨rfl,h⟩⟩ | ⟨rfl,h⟩ | ⟨rfl,h⟩⟩ | ⟨rfl,e,he,⟨rfl,h⟩ | ⟨rfl,h⟩ | ⟨rfl,h⟩ | ⟨rfl,h⟩⟩
  ·dsimp only at he;subst he
   exact .of (Oq ops i rest K held rows info at0 told pc l) (pd (eg (hN.go hrest h)))
  ·dsimp only at he;subst he
   exact .of (Yy ops i rest K held rows info at0 told pc l) (pd (eg (hN.go hrest h)))
  ·induction eph using Option.casesOn with
   | none=>exact .of (Yz ops i rest K held rows info at0 told pc l) (fk (eg (hN.go hrest h)))
   | some e=>exact .of (Y1 ops i rest K held rows info at0 e.rows e.info e.at1 told pc l) (fk (eg (hN.go hrest h)))
  ·induction eph using Option.casesOn with
   | none=>exact .of (Y0 ops i rest K held rows info at0 told pc l) (fk (eg (hN.go hrest h)))
   | some e=>exact .of (Y2 ops i rest K held rows info at0 e.rows e.info e.at1 told pc l) (fk (eg (hN.go hrest h)))
  ·dsimp only at he;subst he
   exact .of (Os ops i rest K held rows info at0 e.rows e.info e.at1 told pc l) (pd (eg (hN.go hrest h)))
  ·dsimp only at he;subst he
   exact .of (Y3 ops i rest K held rows info at0 e.rows e.info e.at1 told pc l) (pd (eg (hN.go hrest h)))
  ·dsimp only at he;subst he
   exact .of (Y4 ops i rest K held rows info at0 e.rows e.info e.at1 told pc l) (fk (eg (hN.go hrest h)))
  ·dsimp only at he;subst he
   exact .of (Y5 ops i rest K held rows info at0 e.rows e.info e.at1 told pc l) (fk (eg (hN.go hrest h)))
 | seekRow c l r =>
  obtain ⟨rfl,rs,y,hrs,hlen,hy,h⟩:=h
  dsimp only at hrs
  subst hrs
  obtain ⟨a,b,c,d,hm⟩:=Tz rs hlen
  have fin:=Ow (hN.go hrest h)
  have hy:rd ⟨held,rs.map fun x=>.lst [.int x],info,at0,eph,told,pc⟩ (r+0) = .int y:=by rw [Int.add_zero];exact hy
  rw [← hy] at fin
  induction eph using Option.casesOn with
  | none=>exact .of (ai (Ts ops i rest K held info at0 told pc l r a b c d) hm) fin
  | some e=>exact .of (ai (Tt ops i rest K held info at0 e.rows e.info e.at1 told pc l r a b c d) hm) fin
 | keyed w c l k n =>
  obtain ⟨rfl,⟨hw,rfl,n',rfl,hn,row,h1,h2,h⟩ | ⟨hw,n',rfl,hn,hlen,hrows,h⟩⟩:=h
  ·have fin:=Ov h1 h2 (eg (hN.go hrest h))
   induction eph using Option.casesOn with
   | none =>
    have hn3:n'∈[1,2,3]:=by
     rcases hn with hn | ⟨hn,_⟩
     ·simp only [List.mem_cons,List.not_mem_nil,or_false] at hn ⊢;exact Zq hn
     ·exact hn
    exact .of (ai (ai (Iz ops i rest K held rows info at0 told pc l) hw) hn3) fin
   | some e =>
    have hn2:n'∈[1,2]:=by
     rcases hn with hn | ⟨_,hn⟩
     ·exact hn
     ·injection hn
    exact .of (ai (ai (I0 ops i rest K held rows info at0 e.rows e.info e.at1 told pc l) hw) hn2) fin
  ·induction eph using Option.casesOn with
   | none =>
    have hn3:n'∈[0,1,2,3]:=by
     rcases hn with hn | ⟨hn,_⟩
     ·simp only [List.mem_cons,List.not_mem_nil,or_false] at hn ⊢;exact bzb hn
     ·exact hn
    exact .of (ai (ai (D9 ops i rest K held rows info at0 told pc l k) hw) hn3) (I9 hrows hlen (r7 hw) (hN.go hrest h))
   | some e =>
    have hn2:n'∈[1,2]:=by
     rcases hn with hn | ⟨_,hn⟩
     ·exact hn
     ·injection hn
    exact .of (ai (ai (Ea ops i rest K held rows info at0 e.rows e.info e.at1 told pc l k) hw) hn2) (Ja hrows hlen (r7 hw) (hN.go hrest h))
 | value r v =>
  induction eph using Option.casesOn with
  | none=>exact .of (Tn ops i rest K held rows info at0 told pc r v) (nf hl (hN.go hrest h))
  | some e=>exact .of (To ops i rest K held rows info at0 e.rows e.info e.at1 told pc r v) (nf hl (hN.go hrest h))
 | nul r =>
  obtain ⟨he,h⟩:=h
  dsimp only at he;subst he
  exact .of (cz4 ops i rest K held rows info at0 told pc r) (nf hl (hN.go hrest h))
 | copy a b =>
  obtain ⟨he,h⟩:=h
  dsimp only at he;subst he
  exact .of (Yv ops i rest K held rows info at0 told pc a b) (nf hl (hN.go hrest h))
 | column c j r =>
  rcases h with ⟨rfl,row,v,h1,h2,h⟩ | ⟨rfl,e,row,v,he,h1,h2,h⟩
  ·induction eph using Option.casesOn with
   | none=>exact .of (Oj ops i rest K held rows info at0 told pc j r) (k8 hl h1 h2 (hN.go hrest h))
   | some e=>exact .of (Ol ops i rest K held rows info at0 e.rows e.info e.at1 told pc j r) (k8 hl h1 h2 (hN.go hrest h))
  ·dsimp only at he;subst he
   exact .of (Om ops i rest K held rows info at0 e.rows e.info e.at1 told pc j r) (k8 hl h1 h2 (hN.go hrest h))
 | rowid c r =>
  obtain ⟨rfl,row,v,h1,h2,h⟩:=h
  induction eph using Option.casesOn with
  | none=>exact .of (Tp ops i rest K held rows info at0 told pc r) (k8 hl h1 h2 (hN.go hrest h))
  | some e=>exact .of (Tq ops i rest K held rows info at0 e.rows e.info e.at1 told pc r) (k8 hl h1 h2 (hN.go hrest h))
 | record a r =>
  obtain ⟨he,h⟩:=h
  induction eph using Option.casesOn with
  | none=>exact absurd rfl he
  | some e =>
   have fin:=nf (m:=⟨held,rows,info,at0,some e,told,pc⟩) hl (hN.go hrest h)
   refine .of (On ops i rest K held rows info at0 e.rows e.info e.at1 told pc a r) ?_
   rw [Int.add_zero]
   exact fin
 | openEph c coll =>
  obtain ⟨rfl,he,h⟩:=h
  dsimp only at he;subst he
  exact .of (Yw ops i rest K held rows info at0 told pc coll) (hN.go hrest h)
 | insert c r =>
  obtain ⟨rfl,e,x,he,h1,h2,h⟩:=h
  dsimp only at he;subst he
  exact .of (Oo ops i rest K held rows info at0 e.rows e.info e.at1 told pc r) (bk h1 ⟨h2,hN.go hrest h⟩)
 | halt=>exact h.elim
noncomputable def r8 (os:List Op) (pc:Int):Option Op:=match decide (0<=pc) with
 | true=>os[pc.toNat]?
 | false=>none
noncomputable def Runs (os:List Op) (m0:Vm) (told:List P):Prop:=∀ W:Nat->Vm->Prop,(∀ t m op,t<800->r8 os m.pc=some op->St1 op { m with pc:=m.pc+1 } (W (t+1))->W t m)->(∀ t m,t<800->r8 os m.pc=some .halt->m.told=told->W t m)->W 0 m0
theorem xl {os:List Op} {pc:Int} {op:Op} (h:r8 os pc=some op):item (os.map enc) pc=some (enc op)/\decide (((os.map enc).length:Int)<=pc)=false:=by
 delta r8 at h
 refine bc fun hG=>?_
 split at h
 ·refine hG ?_
  rename_i q
  have q:=of_decide_eq_true q
  have hl:pc.toNat<os.length:=by
   induction z:decide (pc.toNat<os.length) using Bool.casesOn with
   | true=>exact of_decide_eq_true z
   | false=>rw [List.getElem?_eq_none (by have:=of_decide_eq_false z;exact Nat.not_lt.mp this)] at h;injection h
  have hp:pc<(os.length:Int):=by exact bz2 hl
  constructor
  ·delta item idx
   rw [decide_eq_true q,List.length_map,decide_eq_true hp]
   dsimp only
   rw [List.getElem?_map,h];rfl
  ·rw [List.length_map];exact decide_eq_false (by exact Int.not_le.mpr hp)
 ·refine hG ?_
  injection h
theorem pf (op:Op):j2 (enc op) (.int 0)=some (.str (opN op)):=by induction op using Op.casesOn <;> rfl
theorem Jc (k:Int) (v:P):∀ l:List (Int×P),(dput k v l).length<=l.length+1:=by
 intro l0
 induction l0 with
 | nil =>
  exact Nat.le_refl _
 | cons e r ih =>
  show (match decide (e.1=k) with | true=>(e.1,v)::r | false=>e::dput k v r).length<=_
  induction decide (e.1=k) using Bool.casesOn with
  | true=>exact Nat.le_succ _
  | false=>exact Nat.succ_le_succ (ih)
noncomputable def grown (n:Nat) (m:Vm):Prop:=m.held.length<=n/\m.told.length<=n
theorem bv {l:Int} {m:Vm} {b:Bool} {n:Nat} (h:grown n m):grown n (jv l m b):=by induction b using Bool.casesOn <;> exact h
theorem d8 {m:Vm} {r:Int} {v:P} {n:Nat} (h:grown n m):grown (n+1) (wr m r v):=⟨Nat.le_trans (Jc _ _ _) (Nat.succ_le_succ h.1),Nat.le_succ_of_le h.2⟩
theorem z5 {l:Int} {m:Vm} {is:List Int} {n:Nat} (h:grown n m):grown n (Ut l m is):=by induction is using List.casesOn <;> exact h
theorem vk {w:Str} {l:Int} {key:List P} {m:Vm} {n:Nat} (h:grown n m):grown n (ma w l key m):=by unfold ma;split <;> exact h
theorem up {n:Nat} {m:Vm} (h:grown n m):grown (n+1) m:=⟨Nat.le_succ_of_le h.1,Nat.le_succ_of_le h.2⟩
theorem Ox {op:Op} {m:Vm} {K:Vm->Prop} {n:Nat} (g:grown n m) (h:St1 op m K):St1 op m fun m'=>K m'/\grown (n+1) m':=by
 have tl:∀ x:P,grown (n+1) { m with told:=m.told++[x] }:=fun x=>⟨Nat.le_succ_of_le g.1,by show (m.told++[x]).length<=_;rw [List.length_append];exact Nat.succ_le_succ g.2⟩
 induction op using Op.casesOn with
 | row r k =>
  obtain ⟨h0,⟨h1,h⟩ | ⟨h1,h⟩⟩:=h
  ·exact ⟨h0,.inl ⟨h1,h,tl _⟩⟩
  ·exact ⟨h0,.inr ⟨h1,h,tl _⟩⟩
 | ifNull r l=>exact ⟨h.1,h.2,bv (up g)⟩
 | mustInt r l=>exact ⟨h.1,h.2,bv (up g)⟩
 | cmpJump w r l t =>
  refine bc fun hG=>?_
  obtain ⟨h1,h2,a,b,ha,hb,h⟩:=h
  refine hG ?_
  exact ⟨h1,h2,a,b,ha,hb,h,bv (up g)⟩
 | move w c l =>
  rcases h with ⟨hc,⟨he,⟨hw,h⟩ | ⟨hw,h⟩⟩ | ⟨hw,h⟩ | ⟨hw,h⟩⟩ | ⟨hc,e,he,⟨hw,h⟩ | ⟨hw,h⟩ | ⟨hw,h⟩ | ⟨hw,h⟩⟩
  ·exact .inl ⟨hc,.inl ⟨he,.inl ⟨hw,h,bv (up g)⟩⟩⟩
  ·exact .inl ⟨hc,.inl ⟨he,.inr ⟨hw,h,bv (up g)⟩⟩⟩
  ·exact .inl ⟨hc,.inr (.inl ⟨hw,h,bv (up g)⟩)⟩
  ·exact .inl ⟨hc,.inr (.inr ⟨hw,h,bv (up g)⟩)⟩
  ·exact .inr ⟨hc,e,he,.inl ⟨hw,h,bv (up g)⟩⟩
  ·exact .inr ⟨hc,e,he,.inr (.inl ⟨hw,h,bv (up g)⟩)⟩
  ·exact .inr ⟨hc,e,he,.inr (.inr (.inl ⟨hw,h,bv (up g)⟩))⟩
  ·exact .inr ⟨hc,e,he,.inr (.inr (.inr ⟨hw,h,bv (up g)⟩))⟩
 | seekRow c l r =>
  refine bc fun hG=>?_
  obtain ⟨h1,rs,y,h2,h3,h4,h⟩:=h
  refine hG ?_
  exact ⟨h1,rs,y,h2,h3,h4,h,z5 (up g)⟩
 | keyed w c l k n =>
  obtain ⟨h0,⟨h1,h2,n',h3,h4,row,h5,h6,h⟩ | ⟨h1,n',h2,h3,h4,h5,h⟩⟩:=h
  ·exact ⟨h0,.inl ⟨h1,h2,n',h3,h4,row,h5,h6,h,bv (up g)⟩⟩
  ·exact ⟨h0,.inr ⟨h1,n',h2,h3,h4,h5,h,vk (up g)⟩⟩
 | value r v=>exact ⟨h,d8 g⟩
 | nul r=>exact ⟨h.1,h.2,d8 g⟩
 | copy a b=>exact ⟨h.1,h.2,d8 g⟩
 | column c i r =>
  refine bc fun hG=>?_
  rcases h with ⟨h1,row,v,h2,h3,h⟩ | ⟨h1,e,row,v,h2,h3,h4,h⟩
  ·refine hG ?_
   exact .inl ⟨h1,row,v,h2,h3,h,d8 g⟩
  ·refine hG ?_
   exact .inr ⟨h1,e,row,v,h2,h3,h4,h,d8 g⟩
 | rowid c r =>
  refine bc fun hG=>?_
  obtain ⟨h1,row,v,h2,h3,h⟩:=h
  refine hG ?_
  exact ⟨h1,row,v,h2,h3,h,d8 g⟩
 | record a r=>exact ⟨h.1,h.2,d8 g⟩
 | openEph c coll=>exact ⟨h.1,h.2.1,h.2.2,up g⟩
 | insert c r =>
  refine bc fun hG=>?_
  obtain ⟨h1,e,x,h2,h3,h4,h⟩:=h
  refine hG ?_
  exact ⟨h1,e,x,h2,h3,h4,h,up g⟩
 | halt=>exact h.elim
theorem Jd {op:Op} {m:Vm} {K:Vm->Prop} (h:St1 op m K):seq (opN op) "Halt" = false:=by
 induction op using Op.casesOn with
 | halt=>exact h.elim
 | move w c l =>
  have key:w = "Rewind" \/ w = "Last" \/ w = "Next" \/ w = "Prev" := by
   rcases h with ⟨hc,⟨he,⟨hw,h⟩ | ⟨hw,h⟩⟩ | ⟨hw,h⟩ | ⟨hw,h⟩⟩ | ⟨hc,e,he,⟨hw,h⟩ | ⟨hw,h⟩ | ⟨hw,h⟩ | ⟨hw,h⟩⟩
   all_goals first | exact .inl hw | exact .inr (.inl hw) | exact .inr (.inr (.inl hw)) | exact .inr (.inr (.inr hw))
  rcases key with rfl | rfl | rfl | rfl <;> kernel_rfl
 | keyed w c l k n =>
  have h1:∀ w∈idxWs,seq w "Halt" = false:=by decide +kernel
  have h2:∀ w∈seekWs,seq w "Halt" = false:=by decide +kernel
  obtain ⟨_,⟨hw,_⟩ | ⟨hw,_⟩⟩:=h
  ·exact h1 w hw
  ·exact h2 w hw
 | _=>kernel_rfl
noncomputable def shp (x:List (Str×V)):Prop:=x=[] \/ ∃ i nm rest,restOk rest/\x=tX i nm rest
noncomputable abbrev r61:H Prop:=ev False O13 61
theorem Je (ops:List P) (m:Vm) (oc:Option V) (i j:Int) (nm:V) (rest:List (Str×V)) (K:St->Prop):assign False r61 tE tT (.p (.int i)) (vmS ops m oc (tX j nm rest)) K=K (vmS ops m oc (tX i nm rest)):=by kernel_rfl
theorem Ef (ops:List P) (m:Vm) (oc:Option V) (i:Int) (K:St->Prop):assign False r61 tE tT (.p (.int i)) (vmS ops m oc []) K=K (vmS ops m oc [("turn",.p (.int i))]):=by kernel_rfl
theorem aza (s:St) (K:Fl->St->Prop):r61.ss tE tB s K=evSs False O13 tR tE tB s K:=by kernel_rfl
noncomputable def KF (Qf:Fl->St->Prop) (vs:List P):Fl->St->Prop:=fun f s=>match f with
 | .next=>jj False r61 tE tT tB Qf vs s
 | .brk=>Qf .next s
 | .ret v=>Qf (.ret v) s
theorem ng (Qf:Fl->St->Prop) (v:P) (vs:List P) (s:St):jj False r61 tE tT tB Qf (v::vs) s=assign False r61 tE tT (.p v) s fun s=>r61.ss tE tB s (KF Qf vs):=by
 show (assign False r61 tE tT (.p v) s fun s=>r61.ss tE tB s fun f s=>match f with
  | .next=>jj False r61 tE tT tB Qf vs s
  | .brk=>Qf .next s
  | .ret v=>Qf (.ret v) s)=_
 unfold KF
 congr 1
theorem Eg {ops:List P} {m:Vm} {oc:Option V} {x:List (Str×V)} {Qf:Fl->St->Prop} {i:Int} {vs:List P} (hx:shp x)
  (h:∀ S rest,restOk rest->(∃ y,S=vmS ops m oc y)->Wr (t1R ops m i rest S (KF Qf vs))):Wr (jj False r61 tE tT tB Qf (.int i::vs) (vmS ops m oc x)):=by
 rcases hx with rfl | ⟨j,nm,rest,hr,rfl⟩
 ·rw [ng,Ef,aza,Ir]
  exact h _ [] (.inl rfl) ⟨_,rfl⟩
 ·rw [ng,Je,aza,Tj]
  exact h _ rest hr ⟨_,rfl⟩
noncomputable def WI (ops:List P) (Qf:Fl->St->Prop) (t:Nat) (m:Vm):Prop:=grown t m -> ∀ oc x,shp x->Wr (jj False r61 tE tT tB Qf (co (1500 - t) t) (vmS ops m oc x))
theorem nh {t:Nat} (h:t<800):co (1500 - t) (t:Int) = .int t::co (1500 - (t+1)) ((t+1:Nat):Int):=by
 have e:1500 - t=(1500 - (t+1))+1:=by exact azl h
 rw [e]
 rfl
theorem md {α:Type} {o:Option α} {x:α} {K:α->Prop} (ho:o=some x) (h:Wr (K x)):Wr (opt False o K):=by subst ho;exact h
theorem xm {b:Bool} {A B:Prop} (hb:b=false) (h:Wr B):Wr (cnd b A B):=by subst hb;exact h
theorem xn {b:Bool} {A B:Prop} (hb:b=true) (h:Wr A):Wr (cnd b A B):=by subst hb;exact h
theorem Oy {os:List Op} {Qf:Fl->St->Prop} {t:Nat} {m:Vm} {op:Op} (ht:t<800) (hf:r8 os m.pc=some op) (h:St1 op { m with pc:=m.pc+1 } (WI (os.map enc) Qf (t+1))):WI (os.map enc) Qf t m:=by
 intro g oc x hx
 rw [nh ht]
 obtain ⟨f1,f2⟩:=xl hf
 have hn:=Jd h
 refine Eg hx fun S rest hr hS=>?_
 refine xm f2 (md f1 (md (pf op) (md (rfl:P3 .Eq (.str (opN op)) (.str "Halt")=some (seq (opN op) "Halt")) (xm hn (md f1 (md f1 (md (pf op) ?_)))))))
 have g':grown t { m with pc:=m.pc+1 }:=g
 exact Jb (KK:=fun m'=>WI (os.map enc) Qf (t+1) m'/\grown (t+1) m') hr (Nat.le_trans g.1 (by exact Nat.le_of_lt ht)) (Nat.le_trans g.2 (by exact Nat.le_of_lt ht)) (Ox g' h) fun m' rest' hr' hw=>hw.1 hw.2 _ _ (.inr ⟨_,_,rest',hr',rfl⟩)
theorem Oz {os:List Op} {Qf:Fl->St->Prop} {t:Nat} {m:Vm} (ht:t<800) (hf:r8 os m.pc=some .halt) (h:∀ oc x,Wr (Qf (.ret (.ref 5)) (vmS (os.map enc) m oc x))):WI (os.map enc) Qf t m:=by
 intro g oc x hx
 rw [nh ht]
 obtain ⟨f1,f2⟩:=xl hf
 refine Eg hx fun S rest hr hS=>?_
 obtain ⟨y,rfl⟩:=hS
 exact xm f2 (md f1 (md (pf .halt) (md (rfl:P3 .Eq (.str (opN .halt)) (.str "Halt")=some (seq (opN .halt) "Halt")) (xn (d6 _) (h _ _)))))
noncomputable def s00 (rows:List P) (info:P) (at0:Int):St:=⟨[],.node (tb rows info at0) .nil .nil,1⟩
noncomputable def O0 (rows:List P) (info:P) (at0:Int) (C:V->St->Prop):Fl->St->Prop:=fun f s=>match f with
 | .next=>evSs False O13 r61 tE ((fnB "_law_told").drop 2) s fun f s'=>leave false (s00 rows info at0) s' f C
 | .brk=>leave false (s00 rows info at0) s .brk C
 | .ret v=>leave false (s00 rows info at0) s (.ret v) C
theorem Jf (ops rows:List P) (info:P) (at0:Int) (C:V->St->Prop):af False (ev False O13 62) 12 noStr "_law_told" [.p (.lst ops),.ref 0] (s00 rows info at0) C=jj False r61 tE tT tB (O0 rows info at0 C) (co 1500 0) (vmS ops (vm0 [] rows info at0 [] 0) none []):=by kernel_rfl
theorem Jg (ops:List P) (m:Vm) (oc:Option V) (x:List (Str×V)) (rows:List P) (info:P) (at0:Int) (F:Option (List VO)->Option P->Prop):O0 rows info at0 (fun v s'=>F (ah s' [0]) (reifyM 1 s' 9 v)) (.ret (.ref 5)) (vmS ops m oc x)=F (some [tb m.rows m.info m.at0]) (some (.lst m.told)):=by kernel_rfl
noncomputable def Ctold:Ct:=fun d vs s Q=>cnd (Nat.ble d 12) (match vs with
 | [.p (.lst ops),.ref k]=>∃ rows info at0 os told,s.h.get k=some (tb rows info at0)/\ops=os.map enc/\Runs os (vm0 [] rows info at0 [] 0) told /\ ∀ o,Q (.p (.lst told)) (upd k o s)
 | _=>False) False
theorem Pa {os:List Op} {rows told:List P} {info:P} {at0:Int} {F:Option (List VO)->Option P->Prop} (hr:Runs os (vm0 [] rows info at0 [] 0) told) (h:∀ m:Vm,m.told=told->F (some [tb m.rows m.info m.at0]) (some (.lst told))) :
  Wr (af False (ev False O13 62) 12 noStr "_law_told" [.p (.lst (os.map enc)),.ref 0] (s00 rows info at0) fun v s'=>F (ah s' [0]) (reifyM 1 s' 9 v)):=by
 rw [Jf]
 refine hr (WI (os.map enc) (O0 rows info at0 fun v s'=>F (ah s' [0]) (reifyM 1 s' 9 v))) (fun t m op ht hf h=>Oy ht hf h) (fun t m ht hf hm=>Oz ht hf fun oc x=>.of (Jg ..) ?_) ⟨Nat.zero_le _,Nat.zero_le _⟩ none [] (.inl rfl)
 rw [hm]
 exact h m hm
theorem Pb:sy O13 noStr "_law_told" Ctold:=by
 intro d vs s Q h
 have q:=ab h
 clear h
 obtain ⟨hd,h⟩:=q
 have q:=Np h
 clear h
 obtain ⟨ops,k,rfl,h⟩:=q
 refine bc fun hG=>?_
 obtain ⟨rows,info,at0,os,told,hk,rfl,hr,h⟩:=h
 refine hG ?_
 refine ⟨62,[k],12,c7 hd,.inl ⟨by decide,[tb rows info at0],[.p (.lst (os.map enc)),.ref 0],by unfold ah;rw [hk];rfl,by delta rf idxOf;rfl,?_,?_⟩⟩
 ·unfold ez
  have:idxOf k [k] 0=some 0:=by unfold idxOf;rw [Nat.beq_refl]
  unfold ez
  rw [this]
  rfl
 ·exact (Pa (F:=fr [k] s Q) hr fun m hm=>⟨_,_,rfl,rfl,rfl,h _⟩).out
noncomputable def O14:Known Prop:=lay O13 noStr "_law_told" Ctold
end Mine
end
section
open PySem PySem.W PySem.Spec PySem.Calls PyProof.Rows PySem.SeqAt
namespace Mine
noncomputable def tAt (c0 c1:Str×Bool):Nat->Bool
 | 0=>c0.2
 | 1=>c1.2
 | _=>false
noncomputable def cAt (c0 c1:Str×Bool):Nat->Str
 | 0=>c0.1
 | 1=>c1.1
 | _ => "binary"
noncomputable def progIdx (c0 c1:Str×Bool) (es:List P) (sm:Option (List P)) (lo hi:Bd) (de:Bool):List Op:=match sm with
 | none=>fe es lo hi de (tAt c0 c1 es.length)
 | some ws=>pb es ws de (tAt c0 c1 (es.length+1)) (de != tAt c0 c1 es.length) (cAt c0 c1 es.length)
noncomputable def pg (es:List P) (sm:Option (List P)) (lo hi:Bd) (de:Bool):List Op:=match es with
 | w::_=>kr w
 | []=>match sm with
  | some ws=>i7 ws de
  | none=>vj lo hi de
noncomputable def nj (path:P) (n:Int) (os:List Op):Prop :=
 (n=3 /\ ∃ c0 c1 es sm lo hi de,path=bf "index" (idxP (colsP c0 c1)) es sm lo hi true de/\ia es sm lo hi/\os=progIdx c0 c1 es sm lo hi de) \/
 (n=1 /\ ∃ kd es sm lo hi ask de,path=bf kd .none es sm lo hi false de/\RowAsk kd es sm lo hi ask/\os=pg es sm lo hi de)
noncomputable def azb (s:St) (u:Bool):Prop:=s.h.get 0=some (.tab "_law_program" u)/\(∃ u,s.h.get 1=some (.tab "walk_list" u))/\(∃ u,s.h.get 2=some (.tab "walk_rowid" u)) /\ ∃ u,s.h.get 3=some (.tab "walk_index" u)
noncomputable def T1 (a l r i:Bool) (s:St):St:=upd 3 (.tab "walk_index" i) (upd 2 (.tab "walk_rowid" r) (upd 1 (.tab "walk_list" l) (upd 0 (.tab "_law_program" a) s)))
noncomputable def Cprog:Ct:=fun d vs s Q=>cnd (Nat.ble d 15) (match vs with
 | [.p path,.p (.int n)]=>(s.h.get 0=some (.tab "_law_program" false)/\s.h.get 1=some (.tab "walk_list" false)/\s.h.get 2=some (.tab "walk_rowid" false)/\s.h.get 3=some (.tab "walk_index" false)) /\ ∃ os,nj path n os /\ ∀ l r i,Q (.p (.lst (os.map enc))) (T1 true l r i s)
 | _=>False) False
theorem d9 {X:Prop}:∀ {vs:List P},(∀ v∈vs,Vl v)->X->Yt vs X:=by
 intro l0
 induction l0 with
 | nil =>
  intro _ h
  exact h
 | cons v vs ih =>
  intro hv h
  exact i0 (by rw [Nl (hv v (.head _))];kernel_rfl) (ih (fun x m=>hv x (.tail _ m)) h)
theorem T2 {lo hi:Bd} (h1:bOk lo) (h2:bOk hi):∃ v w,(lo,hi)∈ky v w:=by
 have none1:P:=.none
 match lo,hi with
 | none,none=>exact ⟨.none,.none,.head _⟩
 | some (v,true),none=>exact ⟨v,.none,.tail _ (.head _)⟩
 | some (v,false),none=>exact ⟨v,.none,.tail _ (.tail _ (.head _))⟩
 | none,some (w,true)=>exact ⟨.none,w,.tail _ (.tail _ (.tail _ (.head _)))⟩
 | none,some (w,false)=>exact ⟨.none,w,.tail _ (.tail _ (.tail _ (.tail _ (.head _))))⟩
 | some (v,true),some (w,true)=>exact ⟨v,w,.tail _ (.tail _ (.tail _ (.tail _ (.tail _ (.head _)))))⟩
 | some (v,true),some (w,false)=>exact ⟨v,w,.tail _ (.tail _ (.tail _ (.tail _ (.tail _ (.tail _ (.head _))))))⟩
 | some (v,false),some (w,true)=>exact ⟨v,w,.tail _ (.tail _ (.tail _ (.tail _ (.tail _ (.tail _ (.tail _ (.head _)))))))⟩
 | some (v,false),some (w,false)=>exact ⟨v,w,.tail _ (.tail _ (.tail _ (.tail _ (.tail _ (.tail _ (.tail _ (.tail _ (.head _))))))))⟩
theorem nk {b:Bd} (h:bOk b):∀ v∈bdV b,Vl v:=by
 intro v hv
 match b,h,hv with
 | some (x,i),h,hv =>
  cases hv with
  | head=>exact h _ rfl
  | tail _ m=>nomatch m
theorem xo {x y:List P} (h1:∀ v∈x,Vl v) (h2:∀ v∈y,Vl v):∀ v∈x++y,Vl v:=fun v m=>(List.mem_append.mp m).elim (h1 v) (h2 v)
theorem Jh (b:Bool):b∈B2:=by induction b using Bool.casesOn <;> simp
theorem Pc (b:Bool×Bool):b∈B4:=by obtain ⟨a,b⟩:=b;induction a using Bool.casesOn <;> induction b using Bool.casesOn <;> simp
theorem Y9 (b:Bool×Bool×Bool):b∈B8:=by obtain ⟨a,b,c⟩:=b;induction a using Bool.casesOn <;> induction b using Bool.casesOn <;> induction c using Bool.casesOn <;> simp
theorem Ji {c0 c1:Str×Bool} {es:List P} {sm:Option (List P)} {lo hi:Bd} {de:Bool} {C:Option (List VO)->Option P->Prop} (A:ia es sm lo hi) (h:∀ l r i,C (l9 l r i) (some (.lst ((progIdx c0 c1 es sm lo hi de).map enc)))) :
  Wr (ku (bf "index" (idxP (colsP c0 c1)) es sm lo hi true de) 3 C):=by
 obtain ⟨⟨hes,hsm,hlo,hhi,hlen⟩,hn,h2⟩:=A
 obtain ⟨n0,d0⟩:=c0
 obtain ⟨n1,d1⟩:=c1
 induction sm using Option.casesOn with
 | none =>
  obtain ⟨v,w,hm⟩:=T2 hlo hhi
  rcases hlen with hl | hl | ⟨hl,_⟩
  ·have e:=List.length_eq_zero_iff.mp hl
   subst e
   have q:=ai (ai (Oa n0 (n1,d1) v w C) (Pc (de,d0))) hm
   dsimp only at q
   have e:progIdx (n0,d0) (n1,d1) [] none lo hi de=fe [] lo hi de d0:=rfl
   rw [e] at h
   exact .of q (d9 (xo (nk hlo) (nk hhi)) (h _ _ _))
  ·obtain ⟨e0,rfl⟩:=jm hl
   have q:=ai (ai (Ob (n0,d0) n1 e0 v w C) (Pc (de,d1))) hm
   dsimp only at q
   have e:progIdx (n0,d0) (n1,d1) [e0] none lo hi de=fe [e0] lo hi de d1:=rfl
   rw [e] at h
   exact .of q (d9 (xo hes (xo (nk hlo) (nk hhi))) (h _ _ _))
  ·obtain ⟨e0,e1,rfl⟩:=Ig hl
   obtain ⟨rfl,rfl⟩:=h2 rfl
   have q:=ai (Oc (n0,d0) (n1,d1) e0 e1 C) (Jh de)
   have e:progIdx (n0,d0) (n1,d1) [e0,e1] none none none de=fe [e0,e1] none none de false:=rfl
   rw [e] at h
   exact .of q (d9 hes (h _ _ _))
 | some ws =>
  obtain ⟨rfl,rfl⟩:=hn (fun e=>(by contradiction))
  obtain ⟨hw,hws⟩:=hsm ws rfl
  have wm:∃ u v w,ws∈rz u v w:=by
   rcases hw with hw | hw | hw
   ·obtain ⟨u,rfl⟩:=jm hw;exact ⟨u,.none,.none,.head _⟩
   ·obtain ⟨u,v,rfl⟩:=Ig hw;exact ⟨u,v,.none,.tail _ (.head _)⟩
   ·obtain ⟨u,v,w,rfl⟩:=Ds hw;exact ⟨u,v,w,.tail _ (.tail _ (.head _))⟩
  obtain ⟨u,v,w,hm⟩:=wm
  rcases hlen with hl | hl | ⟨_,hl⟩
  ·have e:=List.length_eq_zero_iff.mp hl
   subst e
   have q:=ai (ai (Od n0 n1 u v w C) (Y9 (de,d0,d1))) hm
   dsimp only at q
   have e:progIdx (n0,d0) (n1,d1) [] (some ws) none none de=pb [] ws de d1 (de != d0) n0:=rfl
   rw [e] at h
   exact .of q (d9 hws (h _ _ _))
  ·obtain ⟨e0,rfl⟩:=jm hl
   have q:=ai (ai (Oe (n0,d0) n1 e0 u v w C) (Pc (de,d1))) hm
   dsimp only at q
   have e:progIdx (n0,d0) (n1,d1) [e0] (some ws) none none de=pb [e0] ws de false (de != d1) n1:=rfl
   rw [e] at h
   exact .of q (d9 (fun x m=>by
    cases m with
    | head=>exact hes _ (.head _)
    | tail _ m=>exact hws _ m) (h _ _ _))
  ·injection hl
theorem Jj {kd:Str} {es:List P} {sm ask:Option (List P)} {lo hi:Bd} {de:Bool} {C:Option (List VO)->Option P->Prop} (A:RowAsk kd es sm lo hi ask) (h:∀ l r i,C (l9 l r i) (some (.lst ((pg es sm lo hi de).map enc)))) :
  Wr (ku (bf kd .none es sm lo hi false de) 1 C):=by
 cases A with
 | one hw=>exact .of (Of de _ C) (d9 (fun x m=>by
   cases m with
   | head=>exact ic hw
   | tail _ m=>nomatch m) (h _ _ _))
 | many hl hw =>
  rename_i ws
  have hv:∀ w∈ws,Vl w:=fun w m=>ic (hw w m)
  rcases hl with hl | hl
  ·obtain ⟨u,v,rfl⟩:=Ig hl
   exact .of (ai (ai (D7 u v .none C) (Jh de)) (.head _)) (d9 hv (h _ _ _))
  ·obtain ⟨u,v,w,rfl⟩:=Ds hl
   exact .of (ai (ai (D7 u v w C) (Jh de)) (.tail _ (.head _))) (d9 hv (h _ _ _))
 | range hlo hhi =>
  have h1:bOk lo:=fun x e=>by obtain ⟨y,e1,e2⟩:=hlo x e;rw [e1];exact e2
  have h2:bOk hi:=fun x e=>(hhi x e).2
  obtain ⟨v,w,hm⟩:=T2 h1 h2
  have q:=ai (ai (Og v w C) (Jh de)) hm
  dsimp only at q
  have e:pg [] none lo hi de=vj lo hi de:=rfl
  rw [e] at h
  exact .of q (d9 (xo (nk h1) (nk h2)) (h _ _ _))
theorem Wr.of' {p q:Prop} (h:p=q) (hq:Wr q):Wr p:=h ▸ hq
theorem Za (path:P) (n:Int) (F:Option (List VO)->Option P->Prop):af False (ev False O12 300) 15 noStr "_law_program" [.p path,.p (.int n)] ⟨[],build [.tab "_law_program" false,.tab "walk_list" false,.tab "walk_rowid" false,.tab "walk_index" false] 0 .nil,4⟩ (fun v s'=>F (ah s' (Fu 4 0)) (reifyM 4 s' 9 v))=ku path n F:=by kernel_rfl
theorem Eh {r:H Prop} {d:Nat} {c m:Str} {ks:List Nat} {vs vs0:List V} {s:St} {Q:V->St->Prop} {os:List VO} (h1:ah s ks=some os) (h2:(rf ks&&os.all ci)=true) (h3:ez ks vs=some vs0)
  (h:Wr (af False r d c m vs0 ⟨[],build os 0 .nil,os.length⟩ fun v s'=>fr ks s Q (ah s' (Fu os.length 0)) (reifyM os.length s' 9 v))):rh r d c m ks vs s Q:=⟨os,vs0,h1,h2,h3,h.out⟩
theorem Pd:sy O12 noStr "_law_program" Cprog:=by
 intro d vs s Q h
 have q:=ab h
 clear h
 obtain ⟨hd,h⟩:=q
 have q:=Nq h
 clear h
 obtain ⟨path,n,rfl,h⟩:=q
 obtain ⟨⟨t0,t1,t2,t3⟩,os,hp,h⟩:=h
 have fin:∀ l r i,fr [0,1,2,3] s Q (l9 l r i) (some (.lst (os.map enc))):=fun l r i=>⟨_,_,rfl,rfl,rfl,h l r i⟩
 refine ⟨300,[0,1,2,3],15,c7 hd,.inl ⟨by decide,Eh (os:=[.tab "_law_program" false,.tab "walk_list" false,.tab "walk_rowid" false,.tab "walk_index" false]) (by dsimp only [ah,ah,ah,ah,ah];rw [t0,t1,t2,t3]) rfl rfl (Wr.of' (Za path n (fr [0,1,2,3] s Q)) ?_)⟩⟩
 refine bc fun hG=>?_
 rcases hp with ⟨rfl,c0,c1,es,sm,lo,hi,de,rfl,A,rfl⟩ | ⟨rfl,kd,es,sm,lo,hi,ask,de,rfl,A,rfl⟩
 ·refine hG ?_
  exact Ji A fin
 ·refine hG ?_
  exact Jj A fin
theorem Pe {T:Pl} {w:World} {K:Frag} {lz:List Str} {mn:ExcName->Option Value} {mg mb:Str->Option Value} {O' O'':Known Prop} {c m:Str} {C:Ct} (N1:KnownOK T w K lz mn mg mb (lay O'' c m C)) (N:KnownOK T w K lz mn mg mb O'):KnownOK T w K lz mn mg mb (lay O' c m C) where
 comp:=N.comp
 call:=fun c' m' C' h=>by
  unfold lay at h
  dsimp only at h
  refine bc fun hG=>?_
  split at h
  ·refine hG ?_
   rename_i q
   refine N1.call c' m' C' ?_
   unfold lay
   dsimp only
   rw [q]
   exact h
  ·refine hG ?_
   exact N.call c' m' C' h
noncomputable def O15:Known Prop:=lay O14 noStr "_law_program" Cprog
theorem O15_ok {T:Pl} {w:World} {K:Frag} {lz:List Str} {mn:ExcName->Option Value} {mg mb:Str->Option Value}:KnownOK T w K lz mn mg mb O15:=by
 have n12:KnownOK T w K lz mn mg mb O12:=a9 (a9 (a9 (a9 (a9 (a9 (a9 (a9 (a9 (a9 (a9 (a9 w7 Do) K2) w9) xa) Dt) rq) m9) nc) ru) K4) K6) K8
 exact Pe (a9 n12 Pd) (a9 (Ti n12) Pb)
end Mine
end
section
open PySem PySem.W PySem.Spec PySem.Calls PyProof.Rows PySem.SeqAt
set_option tactic.hygienic false
namespace Mine
theorem ph {op:Op} {m:Vm} {K K':Vm->Prop} (hk:∀ m,K m->K' m) (h:St1 op m K):St1 op m K':=by
 induction op using Op.casesOn with
 | row r k =>
  obtain ⟨h0,⟨h1,h⟩ | ⟨h1,h⟩⟩:=h
  ·exact ⟨h0,.inl ⟨h1,hk _ h⟩⟩
  ·exact ⟨h0,.inr ⟨h1,hk _ h⟩⟩
 | ifNull r l=>exact ⟨h.1,hk _ h.2⟩
 | mustInt r l=>exact ⟨h.1,hk _ h.2⟩
 | cmpJump w r l t =>
  refine bc fun hG=>?_
  obtain ⟨h1,h2,a,b,ha,hb,h⟩:=h
  refine hG ?_
  exact ⟨h1,h2,a,b,ha,hb,hk _ h⟩
 | move w c l =>
  refine bc fun hG=>?_
  rcases h with ⟨hc,⟨he,⟨hw,h⟩ | ⟨hw,h⟩⟩ | ⟨hw,h⟩ | ⟨hw,h⟩⟩ | ⟨hc,e,he,⟨hw,h⟩ | ⟨hw,h⟩ | ⟨hw,h⟩ | ⟨hw,h⟩⟩
  ·refine hG ?_
   exact .inl ⟨hc,.inl ⟨he,.inl ⟨hw,hk _ h⟩⟩⟩
  ·refine hG ?_
   exact .inl ⟨hc,.inl ⟨he,.inr ⟨hw,hk _ h⟩⟩⟩
  ·refine hG ?_
   exact .inl ⟨hc,.inr (.inl ⟨hw,hk _ h⟩)⟩
  ·refine hG ?_
   exact .inl ⟨hc,.inr (.inr ⟨hw,hk _ h⟩)⟩
  ·refine hG ?_
   exact .inr ⟨hc,e,he,.inl ⟨hw,hk _ h⟩⟩
  ·refine hG ?_
   exact .inr ⟨hc,e,he,.inr (.inl ⟨hw,hk _ h⟩)⟩
  ·refine hG ?_
   exact .inr ⟨hc,e,he,.inr (.inr (.inl ⟨hw,hk _ h⟩))⟩
  ·refine hG ?_
   exact .inr ⟨hc,e,he,.inr (.inr (.inr ⟨hw,hk _ h⟩))⟩
 | seekRow c l r =>
  refine bc fun hG=>?_
  obtain ⟨h1,rs,y,h2,h3,h4,h⟩:=h
  refine hG ?_
  exact ⟨h1,rs,y,h2,h3,h4,hk _ h⟩
 | keyed w c l k n =>
  obtain ⟨h0,⟨h1,h2,n',h3,h4,row,h5,h6,h⟩ | ⟨h1,n',h2,h3,h4,h5,h⟩⟩:=h
  ·exact ⟨h0,.inl ⟨h1,h2,n',h3,h4,row,h5,h6,hk _ h⟩⟩
  ·exact ⟨h0,.inr ⟨h1,n',h2,h3,h4,h5,hk _ h⟩⟩
 | value r v=>exact hk _ h
 | nul r=>exact ⟨h.1,hk _ h.2⟩
 | copy a b=>exact ⟨h.1,hk _ h.2⟩
 | column c i r =>
  refine bc fun hG=>?_
  rcases h with ⟨h1,row,v,h2,h3,h⟩ | ⟨h1,e,row,v,h2,h3,h4,h⟩
  ·refine hG ?_
   exact .inl ⟨h1,row,v,h2,h3,hk _ h⟩
  ·refine hG ?_
   exact .inr ⟨h1,e,row,v,h2,h3,h4,hk _ h⟩
 | rowid c r =>
  refine bc fun hG=>?_
  obtain ⟨h1,row,v,h2,h3,h⟩:=h
  refine hG ?_
  exact ⟨h1,row,v,h2,h3,hk _ h⟩
 | record a r=>exact ⟨h.1,hk _ h.2⟩
 | openEph c coll=>exact ⟨h.1,h.2.1,hk _ h.2.2⟩
 | insert c r =>
  refine bc fun hG=>?_
  obtain ⟨h1,e,x,h2,h3,h4,h⟩:=h
  refine hG ?_
  exact ⟨h1,e,x,h2,h3,h4,hk _ h⟩
 | halt=>exact h.elim
structure Mach (os:List Op) (res:List P) (V:Nat->Vm->Prop):Prop where
 step:∀ {t:Nat} {m:Vm} {op:Op} (p:Nat),t<800->m.pc=(p:Int)->os[p]? = some op->St1 op { m with pc:=((p+1:Nat):Int) } (V (t+1))->V t m
 halt:∀ {t:Nat} {m:Vm} (p:Nat),t<800->m.pc=(p:Int)->os[p]? = some .halt->m.told=res->V t m
 mono:∀ {t t':Nat} {m:Vm},t<=t'->V t' m->V t m
theorem r9 (os:List Op) (p:Nat):r8 os (p:Int)=os[p]? := by
 unfold r8
 rw [decide_eq_true (Int.natCast_nonneg p)]
 dsimp only
 rw [Int.toNat_natCast]
theorem k9 {os:List Op} {m0:Vm} {res:List P} (h:∀ V,Mach os res V->V 0 m0):Runs os m0 res:=by
 intro W hs hh
 refine h (fun t m=>∀ t',t'<=t->W t' m) ⟨?_,?_,?_⟩ 0 (Nat.le_refl _)
 ·intro t m op p ht hp hf h t' ht'
  refine hs t' m op (by exact Nat.lt_of_le_of_lt ht' ht) (by rw [hp,r9];exact hf) ?_
  rw [hp]
  exact ph (fun m' hm=>hm (t'+1) (by exact Nat.lt_succ_of_le ht')) h
 ·intro t m p ht hp hf hm t' ht'
  exact hh t' m (by exact Nat.lt_of_le_of_lt ht' ht) (by rw [hp,r9];exact hf) hm
 ·intro t t' m h hv t'' h2
  exact hv t'' (by exact Nat.le_trans h2 h)
theorem sa (k j:Int) (v:P):∀ l:List (Int×P),eh j (dput k v l)=if k=j then some v else eh j l:=by
 intro l0
 induction l0 with
 | nil =>
  show (match decide (k=j) with | true=>some v | false=>none)=_
  by_cases h:k=j
  ·rw [decide_eq_true h,if_pos h]
  ·rw [decide_eq_false h,if_neg h];rfl
 | cons e r ih =>
  have ih:=ih
  show eh j (match decide (e.1=k) with | true=>(e.1,v)::r | false=>e::dput k v r)=if k=j then some v else (match decide (e.1=j) with | true=>some e.2 | false=>eh j r)
  by_cases h:e.1=k
  ·rw [decide_eq_true h]
   show (match decide (e.1=j) with | true=>some v | false=>eh j r)=_
   by_cases h2:k=j
   ·rw [if_pos h2,decide_eq_true (h.trans h2)]
   ·rw [if_neg h2,decide_eq_false (fun q=>h2 (h.symm.trans q))]
  ·rw [decide_eq_false h]
   show (match decide (e.1=j) with | true=>some e.2 | false=>eh j (dput k v r))=_
   rw [ih]
   by_cases h2:k=j
   ·rw [if_pos h2,if_pos h2,decide_eq_false (fun q=>h (q.trans h2.symm))]
   ·rw [if_neg h2,if_neg h2]
theorem T3 (m:Vm) (r j:Int) (v:P):rd (wr m r v) j=if r=j then v else rd m j:=by
 delta rd wr
 dsimp only
 rw [sa]
 split <;> rfl
theorem cj (m:Vm) (r:Int) (v:P):rd (wr m r v) r=v:=by rw [T3,if_pos rfl]
theorem av {m:Vm} {r j:Int} {v:P} (h:r≠j):rd (wr m r v) j=rd m j:=by rw [T3,if_neg h]
noncomputable def Code (os:List Op) (p:Nat) (b:List Op):Prop:=∀ i op,b[i]? = some op->os[p+i]? = some op
theorem Code.mk' (a b c:List Op):Code (a++(b++c)) a.length b:=by
 intro i op h
 have hl:i<b.length:=by
  induction z:decide (i<b.length) using Bool.casesOn with
  | true=>exact of_decide_eq_true z
  | false=>rw [List.getElem?_eq_none (by have:=of_decide_eq_false z;exact Nat.not_lt.mp this)] at h;injection h
 rw [List.getElem?_append_right (by exact Nat.le_add_right _ _),Nat.add_sub_cancel_left,List.getElem?_append_left hl,h]
theorem Code.left {os:List Op} {p:Nat} {a b:List Op} (h:Code os p (a++b)):Code os p a:=fun i op hi=>h i op (by
 have hl:i<a.length:=by
  induction z:decide (i<a.length) using Bool.casesOn with
  | true=>exact of_decide_eq_true z
  | false=>rw [List.getElem?_eq_none (by have:=of_decide_eq_false z;exact Nat.not_lt.mp this)] at hi;injection hi
 exact (List.getElem?_append_left hl) ▸ hi)
theorem Code.right {os:List Op} {p:Nat} {a b:List Op} (h:Code os p (a++b)):Code os (p+a.length) b:=fun i op hi=>by
 have:=h (a.length+i) op (by rw [List.getElem?_append_right (by exact Nat.le_add_right _ _),Nat.add_sub_cancel_left];exact hi)
 rwa [← Nat.add_assoc] at this
theorem Code.head {os:List Op} {p:Nat} {x:Op} {b:List Op} (h:Code os p (x::b)):os[p]? = some x:=h 0 x rfl
theorem Code.tail {os:List Op} {p:Nat} {x:Op} {b:List Op} (h:Code os p (x::b)):Code os (p+1) b:=fun i op hi=>by
 have:=h (i+1) op hi
 rwa [show p+(i+1)=p+1+i by exact Z1] at this
theorem Code.all (os:List Op):Code os 0 os:=fun i op h=>by rw [Nat.zero_add];exact h
end Mine
end
section
open PySem PySem.W PySem.Spec PySem.Calls PyProof.Rows PySem.SeqAt
namespace Mine
structure KeptS (many:Nat) (m m':Vm):Prop where
 rows:m'.rows=m.rows
 info:m'.info=m.info
 eph:m'.eph=m.eph
 reg:∀ r:Int,r≠1->r≠2->r≠3->r≠4+many->rd m' r=rd m r
theorem KeptS.refl (many:Nat) (m:Vm):KeptS many m m:=⟨rfl,rfl,rfl,fun _ _ _ _ _=>rfl⟩
theorem KeptS.trans {many:Nat} {a b c:Vm} (h:KeptS many a b) (h':KeptS many b c):KeptS many a c:=⟨h'.rows.trans h.rows,h'.info.trans h.info,h'.eph.trans h.eph,fun r a b c d=>(h'.reg r a b c d).trans (h.reg r a b c d)⟩
theorem KeptS.wr {many:Nat} {m:Vm} {r:Int} {v:P} (h:r=1\/r=2\/r=3\/r=4+many):KeptS many m (wr m r v):=⟨rfl,rfl,rfl,fun j h1 h2 h3 h4=>av (by exact azo h h1 h2 h3 h4)⟩
theorem KeptS.at {many:Nat} {m:Vm} (a:Int) (tl:List P) (pc:Int):KeptS many m { m with at0:=a,told:=tl,pc:=pc }:=⟨rfl,rfl,rfl,fun _ _ _ _ _=>rfl⟩
structure Base (I:List (Str×Bool)) (R:List (List P)) (m:Vm):Prop where
 rows:m.rows=R.map .lst
 info:m.info=bo I
theorem Base.kept {I:List (Str×Bool)} {R:List (List P)} {many:Nat} {m m':Vm} (h:Base I R m) (k:KeptS many m m'):Base I R m':=⟨k.rows.trans h.rows,k.info.trans h.info⟩
structure Good (I:List (Str×Bool)) (R:List (List P)):Prop where
 len:I.length=3
 few:R.length<=4
 row:∀ r∈R,r.length=3 /\ ∀ v∈r,Vl v
structure Key (m:Vm) (many:Nat) (kv:List P):Prop where
 len:kv.length=many
 few:many<=2
 vl:∀ v∈kv,Vl v
 reg:∀ i (h:i<kv.length),rd m (4+(i:Int))=kv[i]
theorem Key.kept {many:Nat} {m m':Vm} {kv:List P} (h:Key m many kv) (k:KeptS many m m'):Key m' many kv:=⟨h.len,h.few,h.vl,fun i hi=>by
 rw [k.reg _ (by omega) (by omega) (by omega) (by have:=h.len;omega)];exact h.reg i hi⟩
theorem Key.of {many:Nat} {m:Vm} {kv:List P} (h:Key m many kv) (h0:0<many):keyOf m 4 many=kv:=by
 refine bc fun hG=>?_
 obtain ⟨hl,hf,_,hr⟩:=h
 refine hG ?_
 match kv,hl with
 | [],hl=>exact absurd hl.symm (by show ¬ many=0;exact Nat.ne_of_gt h0)
 | [a],hl =>
  have:many=1:=hl.symm
  subst this
  have r0:=hr 0 (by simp)
  exact congrArg (fun x=>[x]) r0
 | [a,b],hl =>
  have:many=2:=hl.symm
  subst this
  have r0:=hr 0 (by simp)
  have r1:=hr 1 (by simp)
  show [rd m (4+0),rd m (4+1)]=[a,b]
  rw [show rd m (4+0)=a from r0,show rd m (4+1)=b from r1]
 | a::b::c::l,hl=>simp only [List.length_cons] at hl;exact (Zy hf hl).elim
theorem Key.ext {many:Nat} {m m':Vm} {kv:List P} {b:P} (h:Key m many kv) (k:KeptS many m m') (hb:rd m' (4+(many:Int))=b):keyOf m' 4 (many+1)=kv++[b]:=by
 have h':=h.kept k
 obtain ⟨hl,hf,_,hr⟩:=h'
 match kv,hl with
 | [],hl =>
  have:many=0:=hl.symm
  subst this
  exact congrArg (fun x=>[x]) hb
 | [a],hl =>
  have:many=1:=hl.symm
  subst this
  have r0:=hr 0 (by simp)
  show [rd m' (4+0),rd m' (4+1)]=[a,b]
  rw [show rd m' (4+0)=a from r0,show rd m' (4+1)=b from hb]
 | [a,c],hl =>
  have:many=2:=hl.symm
  subst this
  have r0:=hr 0 (by simp)
  have r1:=hr 1 (by simp)
  show [rd m' (4+0),rd m' (4+1),rd m' (4+2)]=[a,c,b]
  rw [show rd m' (4+0)=a from r0,show rd m' (4+1)=c from r1,show rd m' (4+2)=b from hb]
 | a::b::c::l,hl=>simp only [List.length_cons] at hl;exact (Zy hf hl).elim
noncomputable def BdAt (m:Vm) (many:Nat) (rg:Rg) (b:Bd):Prop:=match rg,b with
 | none,none=>True
 | some (r,i),some (v,i')=>i=i'/\rd m r=v/\Vl v/\5+(many:Int)<=r
 | _,_=>False
theorem BdAt.view {m:Vm} {many:Nat} {rg:Rg} {b:Bd} (h:BdAt m many rg b):(rg=none/\b=none) \/ ∃ r i v,rg=some (r,i)/\b=some (v,i)/\rd m r=v/\Vl v/\5+(many:Int)<=r:=by
 induction rg using Option.casesOn with
 | none=>induction b using Option.casesOn with
  | none=>exact .inl ⟨rfl,rfl⟩
  | some=>exact h.elim
 | some x=>induction b using Option.casesOn with
  | none=>exact h.elim
  | some y =>
   obtain ⟨e,h⟩:=h
   exact .inr ⟨x.1,x.2,y.1,rfl,congrArg some (Prod.ext rfl e.symm),h⟩
theorem BdAt.kept {many:Nat} {m m':Vm} {rg:Rg} {b:Bd} (h:BdAt m many rg b) (k:KeptS many m m'):BdAt m' many rg b:=by
 rcases h.view with ⟨rfl,rfl⟩ | ⟨r,i,v,rfl,rfl,h2,h3,h4⟩
 ·exact trivial
 ·exact ⟨rfl,by rw [k.reg r (by exact bzh h4) (by exact bzg h4) (by exact bzf h4) (by exact bzi h4)];exact h2,h3,h4⟩
section
variable {os:List Op} {res:List P} {V:Nat->Vm->Prop} {I:List (Str×Bool)} {R:List (List P)}
theorem T4 (M:Mach os res V) {many p:Nat} {m:Vm} {t:Nat} {row:List P} (ht:t+4<800) (hp:m.pc=(p:Int)) (hc:Code os p outOps) (hi:item m.rows m.at0=some (.lst row)) (hl:row.length=3)
  (h:∀ m',KeptS many m m'->m'.at0=m.at0->m'.told=m.told++[.tup row]->m'.pc=((p+4:Nat):Int)->V (t+4) m'):V t m:=by
 refine bc fun hG=>?_
 obtain ⟨a,b,c,rfl⟩:=Ds hl
 refine hG ?_
 refine M.step p (by exact Nat.lt_of_le_of_lt (Nat.le_add_right _ _) ht) hp hc.head (.inl ⟨rfl,_,a,hi,rfl,?_⟩)
 refine M.step (p+1) (by exact tlt ht rfl) rfl hc.tail.head (.inl ⟨rfl,_,b,hi,rfl,?_⟩)
 refine M.step (p+1+1) (by exact Nat.le_of_lt (Nat.lt_of_succ_lt ht)) rfl hc.tail.tail.head (.inl ⟨rfl,_,c,hi,rfl,?_⟩)
 refine M.step (p+1+1+1) (by exact Nat.le_of_lt ht) rfl hc.tail.tail.tail.head ⟨rfl,.inr ⟨rfl,?_⟩⟩
 refine h _ ⟨rfl,rfl,rfl,fun r h1 h2 h3 h4=>?_⟩ rfl ?_ rfl
 ·have e:∀ (m:Vm) (a b:Int) (tl:List P) (pc:Int),rd { m with at0:=a,told:=tl,pc:=pc } r=rd m r:=fun _ _ _ _ _=>rfl
  show rd (wr (wr (wr m 1 a) 2 b) 3 c) r=rd m r
  rw [av (by exact h3.symm),av (by exact h2.symm),av (by exact h1.symm)]
 ·show m.told++[.tup [rd (wr (wr (wr m 1 a) 2 b) 3 c) 1,rd (wr (wr (wr m 1 a) 2 b) 3 c) 2,rd (wr (wr (wr m 1 a) 2 b) 3 c) 3]]=_
  rw [cj,av (by omega:(3:Int)≠1),av (by omega:(3:Int)≠2),av (by omega:(2:Int)≠1),cj,cj]
noncomputable def li (I:List (Str×Bool)) (de up:Bool) (kv:List P) (st sp:Bd) (row:List P):Bool:=match sp with
 | some (b,i)=>Fw (l8 de i) (ak I row (kv++[b]))
 | none=>match st.isSome && !up with
  | true=>Fw (l8 de false) (ak I row (kv++[.none]))
  | false=>match Nat.blt 0 kv.length with
   | true=>Fw (l8 de true) (ak I row kv)
   | false=>false
theorem pj (de i:Bool):l8 de i∈idxWs:=by induction de using Bool.casesOn <;> induction i using Bool.casesOn <;> simp [l8,pick]
theorem xp (de i:Bool):ce de i∈seekWs:=by induction de using Bool.casesOn <;> induction i using Bool.casesOn <;> simp [ce,pick]
theorem vm (G:Good I R) {row key:List P} (hr:row∈R) (hk:key.length=1\/key.length=2\/key.length=3) (hv:∀ v∈key,Vl v):qa (bo I) row key:=⟨I,rfl,.inl ⟨G.len,(G.row row hr).1,hk⟩,(G.row row hr).2,hv⟩
theorem Ei {kv:List P} {b:P} (h:∀ v∈kv,Vl v) (hb:Vl b):∀ v∈kv++[b],Vl v:=fun v m=>by
 rcases List.mem_append.mp m with m | m
 ·exact h v m
 ·rw [List.mem_singleton] at m;rw [m];exact hb
theorem Ej:Vl .none:=.head _
theorem BdAt.some_eq {m:Vm} {many:Nat} {rg:Rg} {b:Bd} (h:BdAt m many rg b):rg.isSome=b.isSome:=by
 match rg,b,h with
 | none,none,_=>rfl
 | some _,some _,_=>rfl
theorem xq (M:Mach os res V) (G:Good I R) {many p:Nat} {m:Vm} {t:Nat} {row kv:List P} {b:P} {E:Nat} {w:Str} {x:Op} (hx:St1 x { m with pc:=((p+1:Nat):Int) } (fun m'=>m'=wr { m with pc:=((p+1:Nat):Int) } (4+many) b))
  (ht:t+2<800) (hp:m.pc=(p:Int)) (hc:Code os p [x,.keyed w 0 E 4 (many+1)]) (hw:w∈idxWs) (hb:Vl b) (B:Base I R m) (K:Key m many kv) (he:m.eph=none) (hi:item m.rows m.at0=some (.lst row)) (hr:row∈R)
  (h:∀ m',KeptS many m m'->m'.at0=m.at0->m'.told=m.told->m'.pc=(if Fw w (ak I row (kv++[b])) then (E:Int) else ((p+2:Nat):Int))->V (t+2) m'):V t m:=by
 refine M.step p (by exact Nat.le_of_lt (Nat.lt_of_succ_lt ht)) hp hc.head (ph (fun m' e=>?_) hx)
 subst e
 have k1:KeptS many m (wr { m with pc:=((p+1:Nat):Int) } (4+many) b):=⟨rfl,rfl,rfl,fun j h1 h2 h3 h4=>av (by exact h4.symm)⟩
 have hk:keyOf { wr { m with pc:=((p+1:Nat):Int) } (4+many) b with pc:=((p+1+1:Nat):Int) } 4 (many+1)=kv++[b]:=K.ext ⟨rfl,rfl,rfl,fun j h1 h2 h3 h4=>av (by exact h4.symm)⟩ (cj _ _ _)
 refine M.step (p+1) (by exact tlt ht rfl) rfl hc.tail.head ⟨rfl,.inl ⟨hw,rfl,many+1,rfl,.inr ⟨?_,he⟩,row,hi,?_,?_⟩⟩
 ·have:=K.few
  simp only [List.mem_cons,List.not_mem_nil,or_false];exact Uk this
 ·rw [hk]
  show qa m.info row _
  rw [B.info]
  exact vm G hr (by rw [List.length_append,List.length_singleton,K.len];have:=K.few;exact Uk this) (Ei K.vl hb)
 ·rw [hk]
  have hinf:cp ({ wr { m with pc:=((p+1:Nat):Int) } (4+many) b with pc:=((p+1+1:Nat):Int) }:Vm).info=I:=by show cp m.info=I;rw [B.info,i4]
  rw [hinf]
  induction q:Fw w (ak I row (kv++[b])) using Bool.casesOn with
  | true=>exact h _ (k1.trans (.at _ _ _)) rfl rfl (by rw [q];rfl)
  | false=>exact h _ (k1.trans (.at _ _ _)) rfl rfl (by rw [q];rfl)
theorem Pf (M:Mach os res V) (G:Good I R) {many p:Nat} {m:Vm} {t:Nat} {row kv:List P} {de up:Bool} {stR spR:Rg} {st sp:Bd} {E:Nat}
  (ht:t+2<800) (hp:m.pc=(p:Int)) (hc:Code os p (b9 E many de up stR spR)) (B:Base I R m) (K:Key m many kv) (bs:BdAt m many stR st) (bp:BdAt m many spR sp) (he:m.eph=none\/st=none/\sp=none) (hi:item m.rows m.at0=some (.lst row)) (hr:row∈R)
  (h:∀ m',KeptS many m m'->m'.at0=m.at0->m'.told=m.told->m'.pc=(if li I de up kv st sp row then (E:Int) else ((p+(b9 E many de up stR spR).length:Nat):Int))->V (t+2) m'):V t m:=by
 delta b9 at hc h
 delta li at h
 have hes:stR.isSome=st.isSome:=bs.some_eq
 rcases bp.view with ⟨q1,q2⟩ | ⟨r,i,b,q1,q2,e2,e3,e4⟩
 rotate_left
 ·subst q1;subst q2
  dsimp only at hc h
  have he:m.eph=none:=by rcases he with he | ⟨_,he⟩;exact he;injection he
  refine xq M G (x:=.copy r (4+many)) (b:=b) ⟨he,?_⟩ ht hp hc (pj de i) e3 B K he hi hr h
  show wr _ _ (rd m r)=_
  rw [e2]
 ·subst q1;subst q2
  dsimp only at hc h
  rw [hes] at hc h
  induction q:st.isSome && !up using Bool.casesOn with
  | true =>
   rw [q] at hc h
   dsimp only at hc h
   have he:m.eph=none:=by
    rcases he with he | ⟨he,_⟩
    ·exact he
    ·rw [he] at q;injection q
   exact xq M G (x:=.nul (4+many)) (b:=.none) ⟨he,rfl⟩ ht hp hc (pj de false) Ej B K he hi hr h
  | false =>
   rw [q] at hc h
   dsimp only at hc h
   rw [K.len] at h
   induction q0:Nat.blt 0 many using Bool.casesOn with
   | true =>
    rw [q0] at hc h
    dsimp only at hc h
    have h0:0<many:=Nat.lt_of_succ_le (Nat.le_of_ble_eq_true q0)
    have hk:keyOf { m with pc:=((p+1:Nat):Int) } 4 many=kv:=K.of h0
    refine M.step p (by exact Nat.le_of_lt (Nat.lt_of_succ_lt ht)) hp hc.head ⟨rfl,.inl ⟨pj de true,rfl,many,rfl,.inl (by have:=K.few;simp only [List.mem_cons,List.not_mem_nil,or_false];exact V9 h0 this),row,hi,?_,?_⟩⟩
    ·rw [hk]
     show qa m.info row _
     rw [B.info]
     exact vm G hr (by rw [K.len];have:=K.few;exact Zs h0 this) K.vl
    ·rw [hk]
     have hinf:cp ({ m with pc:=((p+1:Nat):Int) }:Vm).info=I:=by show cp m.info=I;rw [B.info,i4]
     rw [hinf]
     refine M.mono (Nat.le_succ (t+1)) ?_
     induction q:Fw (l8 de true) (ak I row kv) using Bool.casesOn with
     | true=>exact h _ (.at _ _ _) rfl rfl (by rw [q];rfl)
     | false=>exact h _ (.at _ _ _) rfl rfl (by rw [q];rfl)
   | false =>
    rw [q0] at h
    dsimp only at h
    exact M.mono (Nat.le_add_right t 2) (h m (.refl _ _) rfl rfl (by rw [hp];rfl))
end
noncomputable def cx (de:Bool) (R:List (List P)) (j:Nat):List (List P):=match de with
 | true=>(R.take (j+1)).reverse
 | false=>R.drop j
theorem cy (de:Bool) {R:List (List P)} {j:Nat} (hj:j<R.length):∃ L,cx de R j=R[j]::L/\(match de with
  | true=>(j=0/\L=[]) \/ ∃ i,j=i+1/\L=cx true R i
  | false=>(j+1=R.length/\L=[])\/j+1<R.length/\L=cx false R (j+1)):=by
 induction de using Bool.casesOn with
 | false =>
  refine ⟨R.drop (j+1),List.drop_eq_getElem_cons hj,?_⟩
  rcases Nat.lt_or_ge (j+1) R.length with h | h
  ·exact .inr ⟨h,rfl⟩
  ·exact .inl ⟨by exact Nat.le_antisymm hj h,List.drop_eq_nil_of_le h⟩
 | true =>
  refine ⟨(R.take j).reverse,?_,?_⟩
  ·show (R.take (j+1)).reverse=_
   rw [List.take_succ_eq_append_getElem hj,List.reverse_append];rfl
  ·induction j using Nat.casesAuxOn with
   | zero=>exact .inl ⟨rfl,rfl⟩
   | succ i=>exact .inr ⟨i,rfl,rfl⟩
theorem item_at {R:List (List P)} {j:Nat} (hj:j<R.length):item (R.map P.lst) (j:Int)=some (.lst R[j]):=by
 delta item idx
 rw [decide_eq_true (Int.natCast_nonneg j),decide_eq_true (by rw [List.length_map];exact_mod_cast hj)]
 dsimp only
 rw [Int.toNat_natCast,List.getElem?_map,List.getElem?_eq_getElem hj];rfl
section
variable {os:List Op} {res:List P} {V:Nat->Vm->Prop} {I:List (Str×Bool)} {R:List (List P)}
theorem Ek {α:Type} (p:α->Bool) (x:α) (l:List α):(x::l).takeWhile p=if p x then x::l.takeWhile p else []:=by
 rw [List.takeWhile_cons]
theorem Pg (M:Mach os res V) (G:Good I R) {many top:Nat} {kv:List P} {de up:Bool} {stR spR:Rg} {st sp:Bd} {E:Nat} (hE:E=top+(b9 E many de up stR spR).length+5)
  (hc:Code os top (b9 E many de up stR spR++(outOps++[.move (pick de "Prev" "Next") 0 top]))) :
  ∀ (n j:Nat) (m:Vm) (t:Nat),(cx de R j).length=n->j<R.length->m.at0=(j:Int)->m.pc=(top:Int)->Base I R m->Key m many kv->BdAt m many stR st->BdAt m many spR sp->(m.eph=none\/st=none/\sp=none)->t+7 * n<800 ->
  (∀ m',KeptS many m m'->m'.told=m.told++((cx de R j).takeWhile fun x => !li I de up kv st sp x).map .tup->m'.pc=(E:Int)->V (t+7 * n) m')->V t m:=by
 intro n
 induction n with
 | zero =>
  intro j m t hn hj _ _ _ _ _ _ _ _ _
  obtain ⟨L,e,_⟩:=cy de hj
  rw [e] at hn;injection hn
 | succ n ih =>
  intro j m t hn hj ha hp B K bs bp he ht h
  obtain ⟨L,eL,hL⟩:=cy de hj
  rw [eL] at hn h
  have hn:L.length=n:=Nat.succ.inj hn
  have hmem:R[j]∈R:=List.getElem_mem hj
  have hit:item m.rows m.at0=some (.lst R[j]):=by rw [B.rows,ha];exact item_at hj
  refine Pf M G (by exact tlt ht rfl) hp hc.left B K bs bp he hit hmem fun m1 k1 a1 t1 p1=>?_
  rw [Ek] at h
  induction q:li I de up kv st sp R[j] using Bool.casesOn with
  | true =>
   rw [q] at p1 h
   refine M.mono (by exact (Nat.add_le_add_left (Nat.le_of_ble_eq_true rfl) _)) (h m1 k1 ?_ p1)
   rw [t1];simp
  | false =>
   rw [q] at p1 h
   have hit1:item m1.rows m1.at0=some (.lst R[j]):=by rw [k1.rows,a1];exact hit
   have hc2:=hc.right
   refine T4 M (many:=many) (by exact Ql ht) p1 hc2.left hit1 (G.row _ hmem).1 fun m2 k2 a2 t2 p2=>?_
   have k12:=k1.trans k2
   have hnx:=hc2.right.head
   have ha2:m2.at0=(j:Int):=by rw [a2,a1,ha]
   have hr2:m2.rows=R.map .lst:=by rw [k12.rows,B.rows]
   have told2:m2.told=m.told++[.tup R[j]]:=by rw [t2,t1]
   have again:∀ i:Nat,i<R.length->L=cx de R i->V (t+7) { m2 with pc:=(top:Int),at0:=(i:Int),told:=m2.told }:=fun i hi eL2=>by
    have k3:KeptS many m { m2 with pc:=(top:Int),at0:=(i:Int),told:=m2.told }:=k12.trans (.at _ _ _)
    refine ih i _ (t+7) (by rw [← eL2];exact hn) hi rfl rfl (B.kept k3) (K.kept k3) (bs.kept k3) (bp.kept k3) (by rw [show ({ m2 with pc:=(top:Int),at0:=(i:Int),told:=m2.told }:Vm).eph=m2.eph from rfl,k12.eph];exact he) (by exact Wl ht) fun m' k' t' p'=>?_
    rw [show t+7+7 * n=t+7 * (n+1) by exact Qu]
    refine h m' (k3.trans k') ?_ p'
    rw [t', ← eL2]
    show m2.told++_=_
    rw [told2,List.append_assoc]
    rfl
   have stop:L=[] -> ∀ a:Int,V (t+7) { m2 with pc:=((top+(b9 E many de up stR spR).length+4+1:Nat):Int),at0:=a,told:=m2.told }:=fun eL2 a=>by
    refine M.mono (by exact (Nat.add_le_add_left (Nat.le_of_ble_eq_true rfl) _):t+7<=t+7 * (n+1)) (h _ (k12.trans (.at _ _ _)) ?_ ?_)
    ·rw [eL2]
     show m2.told=_
     rw [told2]
     rfl
    ·show ((top+(b9 E many de up stR spR).length+4+1:Nat):Int)=(E:Int)
     exact congrArg Nat.cast (by exact hE.symm)
   refine M.step (op:=.move (pick de "Prev" "Next") 0 top) _ (by exact Ql ht) p2 hnx (.inl ⟨rfl,?_⟩)
   induction de using Bool.casesOn with
   | false =>
    refine .inr (.inl ⟨rfl,?_⟩)
    show V (t+2+4+1) (jv top { m2 with pc:=_,at0:=m2.at0+1 } (inside m2.rows (m2.at0+1)))
    have e1:m2.at0+1=((j+1:Nat):Int):=by rw [ha2];rfl
    rw [e1]
    refine bc fun hG=>?_
    rcases hL with ⟨h1,h2⟩ | ⟨h1,h2⟩
    ·refine hG ?_
     have:inside m2.rows ((j+1:Nat):Int)=false:=by
      delta inside
      rw [hr2,List.length_map,decide_eq_false (by omega:¬ ((j+1:Nat):Int)<(R.length:Int)),Bool.and_false]
     rw [this]
     exact stop h2 _
    ·refine hG ?_
     have:inside m2.rows ((j+1:Nat):Int)=true:=by
      delta inside
      rw [hr2,List.length_map,decide_eq_true (by exact Int.ofNat_lt.mpr h1:((j+1:Nat):Int)<(R.length:Int)),decide_eq_true (Int.natCast_nonneg _)];rfl
     rw [this]
     exact again (j+1) h1 h2
   | true =>
    refine .inr (.inr ⟨rfl,?_⟩)
    show V (t+2+4+1) (jv top { m2 with pc:=_,at0:=m2.at0 + -1 } (inside m2.rows (m2.at0 + -1)))
    refine bc fun hG=>?_
    rcases hL with ⟨h1,h2⟩ | ⟨i,h1,h2⟩
    ·refine hG ?_
     have:inside m2.rows (m2.at0 + -1)=false:=by
      delta inside
      rw [ha2,decide_eq_false (by omega:¬ 0<=(j:Int) + -1),Bool.false_and]
     rw [this]
     exact stop h2 _
    ·refine hG ?_
     have e1:m2.at0 + -1=((i:Nat):Int):=by rw [ha2];omega
     rw [e1]
     have:inside m2.rows (i:Int)=true:=by
      delta inside
      rw [hr2,List.length_map,decide_eq_true (by omega:(i:Int)<(R.length:Int)),decide_eq_true (Int.natCast_nonneg _)];rfl
     rw [this]
     exact again i (by exact V5 hj h1) h2
end
noncomputable def Ag {α:Type} (p:α->Bool):List α->Int->List Int
 | [],_=>[]
 | x::r,i=>match p x with
  | true=>i::Ag p r (i+1)
  | false=>Ag p r (i+1)
theorem El (w:Str) (I:List (Str×Bool)) (key:List P):∀ (R:List (List P)) (i:Int),dt w (sgL (bo I) key (R.map .lst)) i=Ag (fun x=>ft w (ak I x key)) R i:=by
 intro l0
 induction l0 with
 | nil =>
  intro _
  exact rfl
 | cons x R ih =>
  intro i
  have ih:=ih (i+1)
  show (match ft w (ak (cp (bo I)) x key) with
   | true=>i::dt w (sgL (bo I) key (R.map .lst)) (i+1)
   | false=>dt w (sgL (bo I) key (R.map .lst)) (i+1))=(match ft w (ak I x key) with
   | true=>i::Ag (fun x=>ft w (ak I x key)) R (i+1)
   | false=>Ag (fun x=>ft w (ak I x key)) R (i+1))
  rw [i4,ih]
theorem Jk {α:Type} (p:α->Bool):∀ (R:List α) (i:Int),(Ag p R i=[]/\R.dropWhile (fun x => !p x)=[]) \/ ∃ (a:Int) (r:List Int) (j:Nat),Ag p R i=a::r/\a=i+j/\j<R.length/\R.dropWhile (fun x => !p x)=R.drop j:=by
 intro l0
 induction l0 with
 | nil =>
  intro _
  exact .inl ⟨rfl,rfl⟩
 | cons x R ih =>
  intro i
  dsimp only [Ag]
  rw [List.dropWhile_cons]
  induction q:p x using Bool.casesOn with
  | true=>exact .inr ⟨i,_,0,rfl,by exact Xe,Nat.succ_pos _,rfl⟩
  | false =>
   rcases ih (i+1) with ⟨h1,h2⟩ | ⟨a,r,j,h1,h2,h3,h4⟩
   ·exact .inl ⟨h1,h2⟩
   ·exact .inr ⟨a,r,j+1,h1,by exact Qr h2,Nat.succ_lt_succ h3,h4⟩
theorem Jl {α:Type} (p:α->Bool):∀ (R:List α) (i:Int),(Ag p R i=[]/\R.reverse.dropWhile (fun x => !p x)=[]) \/ ∃ (a:Int) (r:List Int) (j:Nat),Ag p R i=a::r/\r.getLastD a=i+j/\j<R.length/\R.reverse.dropWhile (fun x => !p x)=(R.take (j+1)).reverse:=by
 intro l0
 induction l0 with
 | nil =>
  intro _
  exact .inl ⟨rfl,rfl⟩
 | cons x R ih =>
  intro i
  dsimp only [Ag]
  rw [List.reverse_cons,List.dropWhile_append]
  rcases ih (i+1) with ⟨h1,h2⟩ | ⟨a,r,j,h1,h2,h3,h4⟩
  ·rw [h1,h2]
   induction q:p x using Bool.casesOn with
   | true=>exact .inr ⟨i,[],0,rfl,by simp,Nat.succ_pos _,by simp [q]⟩
   | false=>exact .inl ⟨rfl,by simp [q]⟩
  ·have hne:((R.take (j+1)).reverse).isEmpty=false:=by
    induction R using List.casesOn with
    | nil=>exact absurd h3 (Nat.not_lt_zero _)
    | cons y R=>simp
   rw [h1,h4,hne]
   have e:(R.take (j+1)).reverse++[x]=((x::R).take (j+1+1)).reverse:=by simp
   induction q:p x using Bool.casesOn with
   | true=>exact .inr ⟨i,a::r,j+1,rfl,by rw [List.getLastD_cons,h2];exact om78,Nat.succ_lt_succ h3,by simpa using e⟩
   | false=>exact .inr ⟨a,r,j+1,rfl,by exact Qr h2,Nat.succ_lt_succ h3,by simpa using e⟩
noncomputable def turned (de:Bool) (R:List (List P)):List (List P):=match de with
 | true=>R.reverse
 | false=>R
theorem Jm (de i:Bool):isG (aq (ce de i)) = !de:=by
 induction de using Bool.casesOn <;> induction i using Bool.casesOn <;> kernel_rfl
theorem nq (de i:Bool) {I:List (Str×Bool)} {key:List P} {R:List (List P)} {l:Int} {m:Vm} (hr:m.rows=R.map .lst) (hi:m.info=bo I) :
  (ma (ce de i) l key m={ m with pc:=l }/\(turned de R).dropWhile (fun x => !ft (aq (ce de i)) (ak I x key))=[]) \/
  ∃ j:Nat,j<R.length/\ma (ce de i) l key m={ m with at0:=(j:Int) }/\(turned de R).dropWhile (fun x => !ft (aq (ce de i)) (ak I x key))=cx de R j:=by
 unfold ma
 have e:dt (aq (ce de i)) (sgL m.info key m.rows) 0=Ag (fun x=>ft (aq (ce de i)) (ak I x key)) R 0:=by rw [hr,hi,El]
 rw [e,Jm]
 induction de using Bool.casesOn with
 | false =>
  rcases Jk (fun x=>ft (aq (ce false i)) (ak I x key)) R 0 with ⟨h1,h2⟩ | ⟨a,r,j,h1,h2,h3,h4⟩
  ·rw [h1];exact .inl ⟨rfl,h2⟩
  ·rw [h1];exact .inr ⟨j,h3,by rw [h2,Int.zero_add];rfl,h4⟩
 | true =>
  rcases Jl (fun x=>ft (aq (ce true i)) (ak I x key)) R 0 with ⟨h1,h2⟩ | ⟨a,r,j,h1,h2,h3,h4⟩
  ·rw [h1];exact .inl ⟨rfl,h2⟩
  ·rw [h1];refine .inr ⟨j,h3,?_,h4⟩
   show { m with at0:=r.getLastD a }=_
   rw [h2,Int.zero_add]
noncomputable def fu (I:List (Str×Bool)) (de up:Bool) (kv:List P) (st sp:Bd) (row:List P):Bool:=match st with
 | some (b,i)=>ft (aq (ce de i)) (ak I row (kv++[b]))
 | none=>match up&&sp.isSome with
  | true=>ft (aq (ce de false)) (ak I row (kv++[.none]))
  | false=>match Nat.blt 0 kv.length with
   | true=>ft (aq (ce de true)) (ak I row kv)
   | false=>true
section
variable {os:List Op} {res:List P} {V:Nat->Vm->Prop} {I:List (Str×Bool)} {R:List (List P)}
theorem sb (M:Mach os res V) (G:Good I R) {p:Nat} {m:Vm} {t n:Nat} {key:List P} {E:Nat} {de i:Bool}
  (ht:t+1<800) (hp:m.pc=(p:Int)) (hc:os[p]? = some (.keyed (ce de i) 0 E 4 n)) (hn:n∈[1,2]\/n∈[1,2,3]/\m.eph=none) (B:Base I R m) (hk:keyOf m 4 n=key) (hkl:key.length=1\/key.length=2\/key.length=3) (hv:∀ v∈key,Vl v) (many:Nat)
  (h1:∀ m' (j:Nat),KeptS many m m'->m'.told=m.told->j<R.length->m'.at0=(j:Int)->m'.pc=((p+1:Nat):Int)->(turned de R).dropWhile (fun x => !ft (aq (ce de i)) (ak I x key))=cx de R j->V (t+1) m')
  (h2:∀ m',KeptS many m m'->m'.told=m.told->m'.pc=(E:Int)->(turned de R).dropWhile (fun x => !ft (aq (ce de i)) (ak I x key))=[]->V (t+1) m'):V t m:=by
 have n1:n.max 1=n:=by
  rcases hn with hn | ⟨hn,_⟩ <;> simp only [List.mem_cons,List.not_mem_nil,or_false] at hn <;> rcases hn with rfl | hn <;> first | rfl | (rcases hn with rfl | rfl <;> rfl) | (subst hn;rfl)
 have hk':keyOf { m with pc:=((p+1:Nat):Int) } 4 n=key:=hk
 refine M.step p (by exact Nat.le_of_lt ht) hp hc ⟨rfl,.inr ⟨xp de i,n,rfl,?_,?_,?_,?_⟩⟩
 ·rcases hn with hn | ⟨hn,he⟩
  ·exact .inl hn
  ·exact .inr ⟨.tail _ hn,he⟩
 ·show m.rows.length<=4
  rw [B.rows,List.length_map];exact G.few
 ·intro x hx
  have hx:x∈m.rows:=hx
  rw [B.rows] at hx
  obtain ⟨y,hy,rfl⟩:=List.mem_map.mp hx
  refine ⟨y,rfl,?_⟩
  rw [n1,hk']
  show qa m.info y key
  rw [B.info]
  exact vm G hy hkl hv
 ·rw [n1,hk']
  rcases nq de i (key:=key) (l:=(E:Int)) (m:={ m with pc:=((p+1:Nat):Int) }) B.rows B.info with ⟨e1,e2⟩ | ⟨j,hj,e1,e2⟩
  ·rw [e1];exact h2 _ (.at _ _ _) rfl rfl e2
  ·rw [e1];exact h1 _ j (.at _ _ _) rfl hj rfl rfl e2
theorem Jn (M:Mach os res V) (G:Good I R) {many p:Nat} {m:Vm} {t:Nat} {kv:List P} {de up:Bool} {stR spR:Rg} {st sp:Bd} {E:Nat}
  (ht:t+2<800) (hp:m.pc=(p:Int)) (hc:Code os p (fb E many de up stR spR)) (B:Base I R m) (K:Key m many kv) (bs:BdAt m many stR st) (bp:BdAt m many spR sp) (he:m.eph=none\/st=none/\sp=none/\0<many)
  (h1:∀ m' (j:Nat),KeptS many m m'->m'.told=m.told->j<R.length->m'.at0=(j:Int)->m'.pc=((p+(fb E many de up stR spR).length:Nat):Int)->(turned de R).dropWhile (fun x => !fu I de up kv st sp x)=cx de R j->V (t+2) m')
  (h2:∀ m',KeptS many m m'->m'.told=m.told->m'.pc=(E:Int)->(turned de R).dropWhile (fun x => !fu I de up kv st sp x)=[]->V (t+2) m'):V t m:=by
 delta fb at hc h1
 delta fu at h1 h2
 have hes:spR.isSome=sp.isSome:=bp.some_eq
 have hf:=K.few
 have hkl:=K.len
 have two:∀ (x:Op) (b:P) (i:Bool),Vl b->m.eph=none->Code os p [x,.keyed (ce de i) 0 E 4 (many+1)]->St1 x { m with pc:=((p+1:Nat):Int) } (fun m'=>m'=wr { m with pc:=((p+1:Nat):Int) } (4+many) b) ->
   (∀ m' (j:Nat),KeptS many m m'->m'.told=m.told->j<R.length->m'.at0=(j:Int)->m'.pc=((p+2:Nat):Int)->(turned de R).dropWhile (fun x => !ft (aq (ce de i)) (ak I x (kv++[b])))=cx de R j->V (t+2) m') ->
   (∀ m',KeptS many m m'->m'.told=m.told->m'.pc=(E:Int)->(turned de R).dropWhile (fun x => !ft (aq (ce de i)) (ak I x (kv++[b])))=[]->V (t+2) m')->V t m:=by
  intro x b i hb he hc hx g1 g2
  refine M.step p (by exact Nat.le_of_lt (Nat.lt_of_succ_lt ht)) hp hc.head (ph (fun m' e=>?_) hx)
  subst e
  have k1:KeptS many m (wr { m with pc:=((p+1:Nat):Int) } (4+many) b):=⟨rfl,rfl,rfl,fun j h1 h2 h3 h4=>av (by exact h4.symm)⟩
  have hk:keyOf (wr { m with pc:=((p+1:Nat):Int) } (4+many) b) 4 (many+1)=kv++[b]:=K.ext k1 (cj _ _ _)
  exact sb M G (n:=many+1) (by exact ht) rfl hc.tail.head (.inr ⟨by simp only [List.mem_cons,List.not_mem_nil,or_false];exact Uk hf,he⟩) (B.kept k1) hk (by rw [List.length_append,List.length_singleton];exact U7 hf hkl) (Ei K.vl hb) many
   (fun m' j k' t' hj a' p' e'=>g1 m' j (k1.trans k') t' hj a' p' e') fun m' k' t' p' e'=>g2 m' (k1.trans k') t' p' e'
 rcases bs.view with ⟨q1,q2⟩ | ⟨r,i,b,q1,q2,e2,e3,e4⟩
 rotate_left
 ·subst q1;subst q2
  have he:m.eph=none:=by rcases he with he | ⟨he,_⟩;exact he;injection he
  refine two (.copy r (4+many)) b i e3 he hc ⟨he,?_⟩ h1 h2
  show wr _ _ (rd m r)=_
  rw [e2]
 ·subst q1;subst q2
  dsimp only at hc h1 h2
  rw [hes] at hc h1
  induction q:up&&sp.isSome using Bool.casesOn with
  | true =>
   rw [q] at hc h1 h2
   have he:m.eph=none:=by
    rcases he with he | ⟨_,he,_⟩
    ·exact he
    ·rw [he] at q;induction up using Bool.casesOn <;> injection q
   exact two (.nul (4+many)) .none false Ej he hc ⟨he,rfl⟩ h1 h2
  | false =>
   rw [q] at hc h1 h2
   dsimp only at hc h1 h2
   rw [K.len] at h1 h2
   induction q0:Nat.blt 0 many using Bool.casesOn with
   | true =>
    rw [q0] at hc h1 h2
    dsimp only at hc h1 h2
    have h0:0<many:=Nat.lt_of_succ_le (Nat.le_of_ble_eq_true q0)
    exact M.mono (Nat.le_succ t) (sb M G (n:=many) (by exact ht) hp hc.head (.inl (by simp only [List.mem_cons,List.not_mem_nil,or_false];exact Wa hf h0)) B (K.of h0) (by exact Wb hf hkl h0) K.vl many h1 h2)
   | false =>
    rw [q0] at hc h1 h2
    dsimp only at hc h1 h2
    have h0:many=0:=by
     induction many using Nat.casesAuxOn with
     | zero=>rfl
     | succ n=>injection q0
    have he:m.eph=none:=by rcases he with he | ⟨_,_,he⟩;exact he;exact (Z6 h0 he).elim
    have all:∀ l:List (List P),l.dropWhile (fun _ => !true)=l:=fun l=>by induction l using List.casesOn <;> rfl
    rw [all] at h1 h2
    refine M.mono (Nat.le_succ t) (M.step p (by exact tlt ht rfl) hp hc.head (.inl ⟨rfl,.inl ⟨he,?_⟩⟩))
    induction de using Bool.casesOn with
    | false =>
     refine .inl ⟨rfl,?_⟩
     show V (t+2) (jv E { m with pc:=_,at0:=0 } m.rows.isEmpty)
     have e1:m.rows.isEmpty=R.isEmpty:=by rw [B.rows];induction R using List.casesOn <;> rfl
     rw [e1]
     induction R using List.casesOn with
     | nil=>exact h2 _ (.at _ _ _) rfl rfl rfl
     | cons x R=>exact h1 _ 0 (.at _ _ _) rfl (Nat.succ_pos _) rfl rfl rfl
    | true =>
     refine .inr ⟨rfl,?_⟩
     show V (t+2) (jv E { m with pc:=_,at0:=(m.rows.length:Int) - 1 } m.rows.isEmpty)
     have e1:m.rows.isEmpty=R.isEmpty:=by rw [B.rows];induction R using List.casesOn <;> rfl
     have e2:m.rows.length=R.length:=by rw [B.rows,List.length_map]
     rw [e1,e2]
     induction R using List.casesOn with
     | nil=>exact h2 _ (.at _ _ _) rfl rfl rfl
     | cons x R =>
      refine h1 _ R.length (.at _ _ _) rfl (Nat.lt_succ_self _) ?_ rfl ?_
      ·show (((x::R).length:Nat):Int) - 1=_
       rw [List.length_cons];omega
      ·show (x::R).reverse=((x::R).take (R.length+1)).reverse
       rw [List.take_of_length_le (by exact (List.length_cons) ▸ (Nat.le_refl _))]
theorem xr (M:Mach os res V) (G:Good I R) {many o:Nat} {m:Vm} {t:Nat} {kv:List P} {de tn:Bool} {lR hR:Rg} {lo hi:Bd} (ht:t+40<800) (hp:m.pc=(o:Int)) (hc:Code os o (cw o many de tn lR hR)) (B:Base I R m) (K:Key m many kv) (bl:BdAt m many lR lo) (bh:BdAt m many hR hi)
  (he:m.eph=none\/lo=none/\hi=none/\0<many)
  (h:∀ m',KeptS many m m'->m'.told=m.told++(((turned de R).dropWhile fun x => !fu I de (de == tn) kv (pick (de == tn) lo hi) (pick (de == tn) hi lo) x).takeWhile fun x => !li I de (de == tn) kv (pick (de == tn) lo hi) (pick (de == tn) hi lo) x).map .tup ->
   m'.pc=((o+(cw o many de tn lR hR).length:Nat):Int)->V (t+30) m'):V t m:=by
 delta cw at hc h
 dsimp only at hc h
 have bs:BdAt m many (pick (de == tn) lR hR) (pick (de == tn) lo hi):=by induction (de == tn) using Bool.casesOn <;> assumption
 have bp:BdAt m many (pick (de == tn) hR lR) (pick (de == tn) hi lo):=by induction (de == tn) using Bool.casesOn <;> assumption
 have hn:m.eph=none\/(pick (de == tn) lo hi)=none/\(pick (de == tn) hi lo)=none/\0<many:=by
  rcases he with he | ⟨h1,h2,h3⟩
  ·exact .inl he
  ·subst h1;subst h2
   induction (de == tn) using Bool.casesOn <;> exact .inr ⟨rfl,rfl,h3⟩
 generalize pick (de == tn) lR hR=stR at hc h bs
 generalize pick (de == tn) hR lR=spR at hc h bp
 generalize pick (de == tn) lo hi=st at h bs hn
 generalize pick (de == tn) hi lo=sp at h bp hn
 generalize (de == tn)=up at hc h
 have len0:∀ E E':Int,(fb E many de up stR spR).length=(fb E' many de up stR spR).length:=fun E E'=>by
  delta fb;split
  ·rfl
  ·split
   ·rfl
   ·split <;> rfl
 have jm:∀ E E':Int,(b9 E many de up stR spR).length=(b9 E' many de up stR spR).length:=fun E E'=>by
  delta b9;split
  ·rfl
  ·split
   ·rfl
   ·split <;> rfl
 generalize hEE:o+(fb 0 many de up stR spR).length+(b9 0 many de up stR spR).length+5=E at hc h
 have hlen:o+(fb (E:Int) many de up stR spR++(b9 (E:Int) many de up stR spR++(outOps++[Op.move (pick de "Prev" "Next") 0 ((o+(fb 0 many de up stR spR).length:Nat):Int)]))).length=E:=by
  have a:=len0 (E:Int) 0
  have b:=jm (E:Int) 0
  have c:outOps.length=4:=rfl
  simp only [List.length_append,List.length_singleton,a,b,c]
  exact Wx hEE
 rw [hlen] at h
 refine Jn M G (by exact tlt ht rfl) hp hc.left B K bs bp hn (fun m1 j k1 t1 hj a1 p1 e1=>?_) fun m1 k1 t1 p1 e1=>?_
 ·have hv:(cx de R j).length<=4:=by
   have:=G.few
   delta cx;split
   ·rw [List.length_reverse,List.length_take];exact Lj this
   ·rw [List.length_drop];exact Li this
  have hc2:=hc.right
  rw [len0 (E:Int) 0] at hc2 p1
  refine Pg M G (by have:=jm (E:Int) 0;exact Ww hEE this) hc2 _ j m1 (t+2) rfl hj a1 p1 (B.kept k1) (K.kept k1) (bs.kept k1) (bp.kept k1) (by rw [k1.eph];rcases hn with hn | hn;exact .inl hn;exact .inr ⟨hn.1,hn.2.1⟩) (by exact U6 ht hv) fun m2 k2 t2 p2=>?_
  refine M.mono (by exact Vb hv) (h m2 (k1.trans k2) ?_ p2)
  rw [t2,t1,e1]
 ·refine M.mono (by exact (Nat.add_le_add_left (Nat.le_of_ble_eq_true rfl) _)) (h m1 k1 ?_ p1)
  rw [t1,e1];simp
end
end Mine
end
section
open PySem PySem.W PySem.Spec PySem.Calls PyProof.Rows PySem.SeqAt
set_option tactic.hygienic false
namespace Mine
theorem fi:∀ (I:List (Str×Bool)) (a b:List P),ak I a b = -1\/ak I a b=0\/ak I a b=1
 | [],_,_=>.inr (.inl (by delta ak;rfl))
 | _::_,[],_=>.inr (.inl (by delta ak;rfl))
 | _::_,_::_,[]=>.inr (.inl (by delta ak;rfl))
 | c::I,x::a,y::b=>by
  dsimp only [ak]
  split
  ·exact .inl rfl
  ·split
   ·exact .inr (.inr rfl)
   ·exact fi I a b
theorem bw (c:Str×Bool) (I:List (Str×Bool)) (x y:P) (a b:List P):(kx c x<kx c y->ak (c::I) (x::a) (y::b) = -1)/\(kx c y<kx c x->ak (c::I) (x::a) (y::b)=1)/\(kx c x=kx c y->ak (c::I) (x::a) (y::b)=ak I a b):=by
 refine ⟨fun h=>?_,fun h=>?_,fun h=>?_⟩
 ·show (if _ then _ else _)=_
  rw [if_pos h]
 ·show (if _ then _ else _)=_
  rw [if_neg (by exact Z4 h),if_pos h]
 ·show (if _ then _ else _)=_
  rw [if_neg (by exact Z2 h),if_neg (by exact Z3 h)]
theorem cb (I:List (Str×Bool)) (a:List P):ak I a []=0:=by
 induction I using List.casesOn <;> induction a using List.casesOn <;> (delta ak;rfl)
theorem jy:∀ (I:List (Str×Bool)) (a b k:List P),a.length=b.length->ak I a b<=0->k.length<=a.length->ak I a k<=ak I b k
 | [],_,_,_,_,_,_=>by delta ak;exact Int.le_refl _
 | _::_,_,_,[],_,_,_=>by rw [cb,cb];exact Int.le_refl _
 | _::_,[],_,_::_,_,_,hk=>by simp at hk
 | _::_,_::_,[],_::_,hl,_,_=>by simp at hl
 | c::I,x::a,y::b,z::k,hl,h,hk=>by
  obtain ⟨p1,p2,p3⟩:=bw c I x y a b
  obtain ⟨q1,q2,q3⟩:=bw c I x z a k
  obtain ⟨r1,r2,r3⟩:=bw c I y z b k
  have i1:=fi (c::I) (x::a) (z::k)
  have i2:=fi (c::I) (y::b) (z::k)
  have ih:=jy I a b k (by simpa using hl)
  simp only [List.length_cons] at hk
  rcases Int.lt_trichotomy (kx c x) (kx c y) with e | e | e
  ·rcases Int.lt_trichotomy (kx c x) (kx c z) with f | f | f
   ·have:=q1 f;exact Qk i2 this
   ·have:=r2 (by exact f ▸ e);exact Lm i1 this
   ·have:=r2 (by exact Int.lt_trans f e);exact Lm i1 this
  ·have h3:=p3 e
   have ih:=ih (by exact h3 ▸ h) (by exact Nat.le_of_lt_succ hk)
   rcases Int.lt_trichotomy (kx c x) (kx c z) with f | f | f
   ·have:=q1 f;exact Qk i2 this
   ·have:=q3 f;have:=r3 (by exact e.symm.trans f);omega
   ·have:=r2 (by exact e ▸ f);exact Lm i1 this
  ·have:=p2 e;exact W2 h this
theorem lj:∀ (I:List (Str×Bool)) (row kv:List P) (b:P) (h1:kv.length<I.length) (h2:kv.length<row.length),(ak I row kv≠0->ak I row (kv++[b])=ak I row kv)/\(ak I row kv=0 ->
  (kx I[kv.length] row[kv.length]<kx I[kv.length] b->ak I row (kv++[b]) = -1)/\(kx I[kv.length] b<kx I[kv.length] row[kv.length]->ak I row (kv++[b])=1)/\(kx I[kv.length] row[kv.length]=kx I[kv.length] b->ak I row (kv++[b])=0))
 | [],_,_,_,h1,_=>absurd h1 (Nat.not_lt_zero _)
 | _::_,[],_,_,_,h2=>absurd h2 (Nat.not_lt_zero _)
 | c::I,x::row,[],b,_,_=>by
  obtain ⟨p1,p2,p3⟩:=bw c I x b row []
  rw [cb] at p3
  exact ⟨fun h=>absurd (cb _ _) h,fun _=>⟨p1,p2,p3⟩⟩
 | c::I,x::row,y::kv,b,h1,h2=>by
  obtain ⟨p1,p2,p3⟩:=bw c I x y row kv
  obtain ⟨q1,q2,q3⟩:=bw c I x y row (kv++[b])
  obtain ⟨ih1,ih2⟩:=lj I row kv b (Nat.lt_of_succ_lt_succ h1) (Nat.lt_of_succ_lt_succ h2)
  rw [List.cons_append]
  rcases Int.lt_trichotomy (kx c x) (kx c y) with e | e | e
  ·rw [p1 e,q1 e];exact ⟨fun _=>rfl,fun h=>absurd h (by decide)⟩
  ·rw [p3 e,q3 e];exact ⟨ih1,ih2⟩
  ·rw [p2 e,q2 e];exact ⟨fun _=>rfl,fun h=>absurd h (by decide)⟩
theorem sd {α:Type} {S Z:α->Bool}:∀ {l:List α},l.Pairwise (fun a b=>(S a=true->S b=true)/\(Z a=true->Z b=true))->(l.dropWhile fun x => !S x).takeWhile (fun x => !Z x)=l.filter fun x=>S x && !Z x:=by
 intro l0
 induction l0 with
 | nil =>
  intro _
  exact rfl
 | cons x l ih =>
  intro h
  obtain ⟨h1,h2⟩:=List.pairwise_cons.mp h
  rw [List.dropWhile_cons,List.filter_cons]
  induction q:S x using Bool.casesOn with
  | false=>exact ih h2
  | true =>
   show (x::l).takeWhile _=_
   rw [List.takeWhile_cons]
   have all:l.dropWhile (fun x => !S x)=l:=by
    induction l using List.casesOn with
    | nil=>rfl
    | cons y l=>rw [List.dropWhile_cons,(h1 y (.head _)).1 q];rfl
   induction q2:Z x using Bool.casesOn with
   | true =>
    show []=l.filter _
    symm
    rw [List.filter_eq_nil_iff]
    intro y hy
    rw [(h1 y hy).2 q2]
    simp
   | false =>
    have ih:=ih h2
    rw [all] at ih
    show x::l.takeWhile _=x::l.filter _
    rw [ih]
noncomputable def dsg (de:Bool) (sg:Int):Int:=match de with
 | true => -sg
 | false=>sg
noncomputable def geB (i:Bool) (x:Int):Bool:=match i with
 | true=>decide (0<=x)
 | false=>decide (0<x)
theorem pk (de i:Bool) {sg:Int} (h:sg = -1\/sg=0\/sg=1):ft (aq (ce de i)) sg=geB i (dsg de sg):=by
 rcases h with rfl | rfl | rfl <;> induction de using Bool.casesOn <;> induction i using Bool.casesOn <;> kernel_rfl
theorem pq (de i:Bool) {sg:Int} (h:sg = -1\/sg=0\/sg=1):Fw (l8 de i) sg=geB (!i) (dsg de sg):=by
 rcases h with rfl | rfl | rfl <;> induction de using Bool.casesOn <;> induction i using Bool.casesOn <;> kernel_rfl
theorem dp {i:Bool} {x y:Int} (h:x<=y) (g:geB i x=true):geB i y=true:=by
 induction i using Bool.casesOn
 ·exact decide_eq_true (Int.lt_of_lt_of_le (of_decide_eq_true g) h)
 ·exact decide_eq_true (Int.le_trans (of_decide_eq_true g) h)
noncomputable def cu (I:List (Str×Bool)) (R:List (List P)):Prop:=R.Pairwise fun a b=>ak I a b<0
section
variable {I:List (Str×Bool)} {R:List (List P)}
theorem lk (G:Good I R) (hs:cu I R) (de:Bool):(turned de R).Pairwise fun a b=>∀ k:List P,k.length<=3->dsg de (ak I a k)<=dsg de (ak I b k):=by
 have key:R.Pairwise fun a b=>∀ k:List P,k.length<=3->ak I a k<=ak I b k:=by
  refine List.Pairwise.imp_of_mem (fun ha hb h k hk=>?_) hs
  exact jy I _ _ k (by rw [(G.row _ ha).1,(G.row _ hb).1]) (Int.le_of_lt h) (by rw [(G.row _ ha).1];exact hk)
 induction de using Bool.casesOn with
 | false=>exact key
 | true =>
  show R.reverse.Pairwise _
  rw [List.pairwise_reverse]
  exact key.imp fun h k hk=>Int.neg_le_neg (h k hk)
theorem se {de up:Bool} {kv:List P} {st sp:Bd} {row:List P}:fu I de up kv st sp row=(match st with
  | some (b,i)=>geB i (dsg de (ak I row (kv++[b])))
  | none=>match up&&sp.isSome with
   | true=>geB false (dsg de (ak I row (kv++[.none])))
   | false=>match Nat.blt 0 kv.length with
    | true=>geB true (dsg de (ak I row kv))
    | false=>true):=by
 unfold fu
 match st with
 | some (b,i)=>exact pk _ _ (fi _ _ _)
 | none =>
  dsimp only
  generalize (up&&sp.isSome)=z
  induction z using Bool.casesOn with
  | true=>exact pk _ _ (fi _ _ _)
  | false =>
   dsimp only
   generalize Nat.blt 0 kv.length=z
   induction z using Bool.casesOn with
   | true=>exact pk _ _ (fi _ _ _)
   | false=>rfl
theorem sf {de up:Bool} {kv:List P} {st sp:Bd} {row:List P}:li I de up kv st sp row=(match sp with
  | some (b,i)=>geB (!i) (dsg de (ak I row (kv++[b])))
  | none=>match st.isSome && !up with
   | true=>geB true (dsg de (ak I row (kv++[.none])))
   | false=>match Nat.blt 0 kv.length with
    | true=>geB false (dsg de (ak I row kv))
    | false=>false):=by
 unfold li
 match sp with
 | some (b,i)=>exact pq _ _ (fi _ _ _)
 | none =>
  dsimp only
  generalize (st.isSome && !up)=z
  induction z using Bool.casesOn with
  | true=>exact pq _ _ (fi _ _ _)
  | false =>
   dsimp only
   generalize Nat.blt 0 kv.length=z
   induction z using Bool.casesOn with
   | true=>exact pq _ _ (fi _ _ _)
   | false=>rfl
theorem nr (G:Good I R) (hs:cu I R) {de up:Bool} {kv:List P} {st sp:Bd} (hk:kv.length<=2):((turned de R).dropWhile fun x => !fu I de up kv st sp x).takeWhile (fun x => !li I de up kv st sp x)=(turned de R).filter fun x=>fu I de up kv st sp x && !li I de up kv st sp x:=by
 refine sd ((lk G hs de).imp fun {a b} h=>⟨fun q=>?_,fun q=>?_⟩)
 ·rw [se] at q ⊢
  match st,q with
  | some (b,i),q=>exact dp (h _ (by rw [List.length_append,List.length_singleton];exact Nat.lt_succ_of_le hk)) q
  | none,q =>
   dsimp only at q ⊢
   generalize (up&&sp.isSome)=z at q ⊢
   induction z using Bool.casesOn with
   | true=>exact dp (h _ (by rw [List.length_append,List.length_singleton];exact Nat.lt_succ_of_le hk)) q
   | false =>
    dsimp only at q ⊢
    generalize Nat.blt 0 kv.length=z at q ⊢
    induction z using Bool.casesOn with
    | true=>exact dp (h _ (by exact Nat.le_trans hk (Nat.le_of_ble_eq_true rfl))) q
    | false=>rfl
 ·rw [sf] at q ⊢
  match sp,q with
  | some (b,i),q=>exact dp (h _ (by rw [List.length_append,List.length_singleton];exact Nat.lt_succ_of_le hk)) q
  | none,q =>
   dsimp only at q ⊢
   generalize (st.isSome && !up)=z at q ⊢
   induction z using Bool.casesOn with
   | true=>exact dp (h _ (by rw [List.length_append,List.length_singleton];exact Nat.lt_succ_of_le hk)) q
   | false =>
    dsimp only at q ⊢
    generalize Nat.blt 0 kv.length=z at q ⊢
    induction z using Bool.casesOn with
    | true=>exact dp (h _ (by exact Nat.le_trans hk (Nat.le_of_ble_eq_true rfl))) q
    | false=>injection q
end
noncomputable def kxi (tn:Bool) (x:Int):Int:=match tn with
 | true => -x
 | false=>x
theorem ll (c:Str×Bool) (v:P):kx c v=kxi c.2 (rank c.1 v):=by
 delta kx kxi;induction c.2 using Bool.casesOn <;> rfl
noncomputable def Lb (tn:Bool) (s r b k:Int):Prop:=(s≠0->k=s)/\(s=0->(kxi tn r<kxi tn b->k = -1)/\(kxi tn b<kxi tn r->k=1)/\(kxi tn r=kxi tn b->k=0))
noncomputable def okI (r:Int) (low:Bool):Option (Int×Bool)->Bool
 | none=>true
 | some (b,i) => !decide (r=0)&&(!decide (b=0)&&((match low with | true=>decide (b<r) | false=>decide (r<b))||(i&&decide (r=b))))
theorem Em {v:P} (hv:Vl v) (c:Str) (low:Bool) {b:Bd} (hb:bOk b):okB v c low b=okI (rank c v) low (b.map fun x=>(rank c x.1,x.2)):=by
 have isn:∀ v,Vl v->isNone v=decide (rank c v=0):=fun v hv=>by
  have:=(dz hv c).2
  induction q:isNone v using Bool.casesOn with
  | true=>exact (decide_eq_true (this.mpr q)).symm
  | false=>exact (decide_eq_false (fun z=>by rw [this.mp z] at q;injection q)).symm
 match b,hb with
 | none,_=>rfl
 | some (x,i),hb =>
  delta okB okI P7
  dsimp only [Option.map]
  rw [isn v hv,isn x (hb _ rfl)]
  all_goals (induction low using Bool.casesOn <;> rfl)
noncomputable def stI (de up:Bool) (many:Nat) (s k0:Int) (st:Option (Int×Bool)) (sp:Bool):Bool:=match st with
 | some (k,i)=>geB i (dsg de k)
 | none=>match up&&sp with
  | true=>geB false (dsg de k0)
  | false=>match Nat.blt 0 many with
   | true=>geB true (dsg de s)
   | false=>true
noncomputable def spI (de up:Bool) (many:Nat) (s k0:Int) (st:Bool) (sp:Option (Int×Bool)):Bool:=match sp with
 | some (k,i)=>geB (!i) (dsg de k)
 | none=>match st && !up with
  | true=>geB true (dsg de k0)
  | false=>match Nat.blt 0 many with
   | true=>geB false (dsg de s)
   | false=>false
theorem ec {p q:Bool} (h:p=true↔q=true):p=q:=Bool.eq_iff_iff.mpr h
theorem Eo (x:Int):dsg true x = -x:=rfl
theorem Ep (x:Int):dsg false x=x:=rfl
theorem Er (x:Int):(geB true x=true)=(0<=x):=by unfold geB;exact decide_eq_true_eq
theorem Es (x:Int):(geB false x=true)=(0<x):=by delta geB;exact decide_eq_true_eq
theorem azc (x:Int):(geB true x=false)=(x<0):=by unfold geB;rw [decide_eq_false_iff_not];exact propext Int.not_le
theorem azd (x:Int):(geB false x=false)=(x<=0):=by unfold geB;rw [decide_eq_false_iff_not];exact propext Int.not_lt
noncomputable def sI:Ordering->Int
 | .lt => -1
 | .eq=>0
 | .gt=>1
noncomputable def cI (a b:Int):Ordering:=match decide (a<b) with
 | true=>.lt
 | false=>match decide (b<a) with | true=>.gt | false=>.eq
theorem z6 {a b:Int} (h:a<b):cI a b = .lt:=by unfold cI;rw [decide_eq_true h]
theorem sh {a b:Int} (h:b<a):cI a b = .gt:=by unfold cI;rw [decide_eq_false (Int.lt_asymm h),decide_eq_true h]
theorem z7 {a:Int}:cI a a = .eq:=by unfold cI;rw [decide_eq_false (Int.lt_irrefl a)]
noncomputable def kO (tn:Bool) (s c:Ordering):Ordering:=match s with
 | .eq=>(match tn with | true=>c.swap | false=>c)
 | x=>x
theorem T5 {tn:Bool} {s:Ordering} {r b k:Int} (h:Lb tn (sI s) r b k):k=sI (kO tn s (cI r b)):=by
 induction s using Ordering.casesOn with
 | lt=>exact h.1 (by decide)
 | gt=>exact h.1 (by decide)
 | eq =>
  obtain ⟨h1,h2,h3⟩:=h.2 rfl
  rcases Int.lt_trichotomy r b with q | q | q
  ·rw [z6 q]
   induction tn using Bool.casesOn with
   | true=>exact h2 (Int.neg_lt_neg q)
   | false=>exact h1 q
  ·subst q
   rw [z7,h3 rfl]
   induction tn using Bool.casesOn <;> rfl
  ·rw [sh q]
   induction tn using Bool.casesOn with
   | true=>exact h1 (Int.neg_lt_neg q)
   | false=>exact h2 q
noncomputable def okO (c0:Ordering) (low:Bool):Option (Ordering×Bool)->Bool
 | none=>true
 | some (c,i)=>(match c0 with | .eq=>false | _=>true)&&((match low,c with | true,.gt=>true | false,.lt=>true | _,_=>false)||(i&&(match c with | .eq=>true | _=>false)))
theorem Et {r:Int} {low:Bool} {l:Option (Int×Bool)} (hr:0<=r) (hl:∀ b i,l=some (b,i)->0<b):okI r low l=okO (cI r 0) low (l.map fun x=>(cI r x.1,x.2)):=by
 match l with
 | none=>rfl
 | some (b,i) =>
  have hb:=hl b i rfl
  have e0:(!decide (r=0))=(match cI r 0 with | .eq=>false | _=>true):=by
   rcases Int.lt_trichotomy 0 r with q | q | q
   ·rw [sh q,decide_eq_false (Int.ne_of_gt q)];rfl
   ·subst q;rfl
   ·exact absurd q (Int.not_lt.mpr hr)
  have e1:((match low with | true=>decide (b<r) | false=>decide (r<b))||(i&&decide (r=b)))=((match low,cI r b with | true,.gt=>true | false,.lt=>true | _,_=>false)||(i&&(match cI r b with | .eq=>true | _=>false))):=by
   rcases Int.lt_trichotomy r b with q | q | q
   ·rw [z6 q,decide_eq_false (Int.lt_asymm q),decide_eq_true q,decide_eq_false (Int.ne_of_lt q)];induction low using Bool.casesOn <;> rfl
   ·subst q;rw [z7,decide_eq_false (Int.lt_irrefl r),decide_eq_true rfl];induction low using Bool.casesOn <;> rfl
   ·rw [sh q,decide_eq_true q,decide_eq_false (Int.lt_asymm q),decide_eq_false (Int.ne_of_gt q)];induction low using Bool.casesOn <;> rfl
  show (!decide (r=0)&&(!decide (b=0)&&_))=_
  rw [e0,decide_eq_false (Int.ne_of_gt hb)]
  exact congrArg _ e1
noncomputable abbrev LO:=Option (Ordering×Bool)
noncomputable def kx3 (tn:Bool) (s:Ordering) (l:LO):Option (Int×Bool):=l.map fun x=>(sI (kO tn s x.1),x.2)
noncomputable def z8 (de tn:Bool) (many:Nat) (s c0:Ordering) (lo hi:LO):Bool :=
 (stI de (de == tn) many (sI s) (sI (kO tn s c0)) (pick (de == tn) (kx3 tn s lo) (kx3 tn s hi)) (pick (de == tn) hi.isSome lo.isSome) && !spI de (de == tn) many (sI s) (sI (kO tn s c0)) (pick (de == tn) lo.isSome hi.isSome) (pick (de == tn) (kx3 tn s hi) (kx3 tn s lo))) ==
  ((match s with | .eq=>true | _=>false)&&(okO c0 true lo&&okO c0 false hi))
noncomputable def ok3 (c0:Ordering):LO->Bool
 | some (c,_)=>(match c0,c with | .eq,.lt=>true | .eq,_=>false | _,_=>true)
 | none=>true
noncomputable def allB (f:Bool->Bool):Bool:=f true&&f false
noncomputable def Uu (f:Ordering->Bool):Bool:=f .lt&&(f .eq&&f .gt)
noncomputable def Ph (f:LO->Bool):Bool:=f none&&(Uu fun c=>allB fun i=>f (some (c,i)))
theorem pu {f:Bool->Bool} (h:allB f=true) (b:Bool):f b=true:=by
 have h:=Bool.and_eq_true_iff.mp h
 induction b using Bool.casesOn with
 | true=>exact h.1
 | false=>exact h.2
theorem vn {f:Ordering->Bool} (h:Uu f=true) (s:Ordering):f s=true:=by
 have h:=Bool.and_eq_true_iff.mp h
 have h2:=Bool.and_eq_true_iff.mp h.2
 induction s using Ordering.casesOn with
 | lt=>exact h.1
 | eq=>exact h2.1
 | gt=>exact h2.2
theorem pv {f:LO->Bool} (h:Ph f=true) (l:LO):f l=true:=by
 have h:=Bool.and_eq_true_iff.mp h
 induction l using Option.casesOn with
 | none=>exact h.1
 | some x=>exact pu (vn h.2 x.1) x.2
noncomputable def tests (many:Nat) (s0:Ordering->Bool):Bool:=allB fun de=>allB fun tn=>Uu fun s => !s0 s||(Uu fun c0=>(match c0 with | .lt=>true | _=>Ph fun lo => !ok3 c0 lo||(Ph fun hi => !ok3 c0 hi||z8 de tn many s c0 lo hi)))
theorem T6:tests 0 (fun s=>match s with | .eq=>true | _=>false)=true:=by decide +kernel
theorem T7:tests 1 (fun _=>true)=true:=by decide +kernel
theorem Eu {a b:Bool} (h:(!a||b)=true) (ha:a=true):b=true:=by
 rw [ha] at h;exact h
theorem xt {many:Nat} {s0:Ordering->Bool} (h:tests many s0=true) {de tn:Bool} {s c0:Ordering} {lo hi:LO} (h0:s0 s=true) (hc:c0 ≠ .lt) (hlo:ok3 c0 lo=true) (hhi:ok3 c0 hi=true):z8 de tn many s c0 lo hi=true:=by
 have h2:=vn (Eu (vn (pu (pu h de) tn) s) h0) c0
 have h3:(Ph fun lo => !ok3 c0 lo||(Ph fun hi => !ok3 c0 hi||z8 de tn many s c0 lo hi))=true:=by
  induction c0 using Ordering.casesOn with
  | lt=>exact absurd rfl hc
  | eq=>exact h2
  | gt=>exact h2
 exact Eu (pv (Eu (pv h3 lo) hlo) hi) hhi
theorem Ew {de tn:Bool} {n:Nat} {s c0:Ordering} {lo hi:LO}:z8 de tn (n+1) s c0 lo hi=z8 de tn 1 s c0 lo hi:=rfl
theorem T8 {r b:Int} {i:Bool} (hr:0<=r) (hb:0<b):ok3 (cI r 0) (some (cI r b,i))=true:=by
 rcases Int.lt_trichotomy 0 r with q | q | q
 ·rw [sh q];rfl
 ·subst q;rw [z7,z6 hb];rfl
 ·exact absurd q (Int.not_lt.mpr hr)
theorem T9 {tn:Bool} {s:Ordering} {r:Int} {l:Option (Int×Int×Bool)} (h:∀ b k i,l=some (b,k,i)->0<b/\Lb tn (sI s) r b k):l.map (·.2)=kx3 tn s (l.map fun x=>(cI r x.1,x.2.2)):=by
 match l with
 | none=>rfl
 | some (b,k,i)=>exact congrArg (fun k=>some (k,i)) (T5 (h b k i rfl).2)
theorem arith {de tn:Bool} {many:Nat} {s r k0:Int} {lo hi:Option (Int×Int×Bool)} (hs:s = -1\/s=0\/s=1) (hz:many=0->s=0) (hr:0<=r) (h0:Lb tn s r 0 k0)
  (hlo:∀ b k i,lo=some (b,k,i)->0<b/\Lb tn s r b k) (hhi:∀ b k i,hi=some (b,k,i)->0<b/\Lb tn s r b k) :
  (stI de (de == tn) many s k0 (pick (de == tn) (lo.map (·.2)) (hi.map (·.2))) (pick (de == tn) hi.isSome lo.isSome) && !spI de (de == tn) many s k0 (pick (de == tn) lo.isSome hi.isSome) (pick (de == tn) (hi.map (·.2)) (lo.map (·.2)))) =
  (decide (s=0)&&(okI r true (lo.map fun x=>(x.1,x.2.2))&&okI r false (hi.map fun x=>(x.1,x.2.2)))):=by
 have ho:∃ o,s=sI o:=by
  rcases hs with q | q | q
  ·exact ⟨.lt,q⟩
  ·exact ⟨.eq,q⟩
  ·exact ⟨.gt,q⟩
 obtain ⟨o,rfl⟩:=ho
 have bd:∀ {l:Option (Int×Int×Bool)},(∀ b k i,l=some (b,k,i)->0<b/\Lb tn (sI o) r b k)->(∀ b i,(l.map fun x=>(x.1,x.2.2))=some (b,i)->0<b)/\ok3 (cI r 0) (l.map fun x=>(cI r x.1,x.2.2))=true:=fun {l} h=>by
  match l with
  | none=>exact ⟨nofun,rfl⟩
  | some (b,k,i) =>
   have hb:=(h b k i rfl).1
   exact ⟨fun b' i' e=>by (injection e with e;injection e with e;subst e);exact hb,T8 hr hb⟩
 have key:z8 de tn many o (cI r 0) (lo.map fun x=>(cI r x.1,x.2.2)) (hi.map fun x=>(cI r x.1,x.2.2))=true:=by
  have hc:cI r 0 ≠ .lt:=by
   rcases Int.lt_trichotomy 0 r with q | q | q
   ·exact (sh q) ▸ nofun
   ·subst q;exact nofun
   ·exact absurd q (Int.not_lt.mpr hr)
  induction many using Nat.casesAuxOn with
  | zero =>
   have:o = .eq:=by
    have:=hz rfl
    induction o using Ordering.casesOn with
    | eq=>rfl
    | _=>exact absurd this (by decide)
   exact xt T6 (by rw [this]) hc (bd hlo).2 (bd hhi).2
  | succ n=>exact Ew ▸ (xt T7 rfl hc (bd hlo).2 (bd hhi).2)
 have e1:=T9 hlo
 have e2:=T9 hhi
 have es:decide (sI o=0)=(match o with | .eq=>true | _=>false):=by induction o using Ordering.casesOn <;> rfl
 rw [Et hr (bd hlo).1,Et hr (bd hhi).1,Option.map_map,Option.map_map,e1,e2,T5 h0,es]
 have key:=eq_of_beq key
 have i1:lo.isSome=(lo.map fun x=>(cI r x.1,x.2.2)).isSome:=by induction lo using Option.casesOn <;> rfl
 have i2:hi.isSome=(hi.map fun x=>(cI r x.1,x.2.2)).isSome:=by induction hi using Option.casesOn <;> rfl
 rw [i1,i2]
 exact key
theorem xu {α β:Type} (b:Bool) (f:α->β) (x y:Option α):pick b (x.map f) (y.map f)=(pick b x y).map f:=by induction b using Bool.casesOn <;> rfl
theorem sj {α:Type} (b:Bool) (x y:Option α):pick b x.isSome y.isSome=(pick b x y).isSome:=by induction b using Bool.casesOn <;> rfl
theorem Jo {α β:Type} (f:α->β) (x:Option α):(x.map f).isSome=x.isSome:=by induction x using Option.casesOn <;> rfl
section
variable {I:List (Str×Bool)} {R:List (List P)}
noncomputable def sgF (I:List (Str×Bool)) (row kv:List P) (x:P×Bool):Int×Bool:=(ak I row (kv++[x.1]),x.2)
theorem Ex {de up:Bool} {kv:List P} {st sp:Bd} {row:List P}:fu I de up kv st sp row=stI de up kv.length (ak I row kv) (ak I row (kv++[.none])) (st.map (sgF I row kv)) sp.isSome:=by
 rw [se];induction st using Option.casesOn <;> rfl
theorem Jp {de up:Bool} {kv:List P} {st sp:Bd} {row:List P}:li I de up kv st sp row=spI de up kv.length (ak I row kv) (ak I row (kv++[.none])) st.isSome (sp.map (sgF I row kv)):=by
 rw [sf];induction sp using Option.casesOn <;> rfl
theorem Ey {row kv:List P} (b:P) (h1:kv.length<I.length) (h2:kv.length<row.length):Lb I[kv.length].2 (ak I row kv) (rank I[kv.length].1 row[kv.length]) (rank I[kv.length].1 b) (ak I row (kv++[b])):=by
 obtain ⟨a1,a2⟩:=lj I row kv b h1 h2
 simp only [ll] at a2
 exact ⟨a1,a2⟩
theorem sk (G:Good I R) {row:List P} (hr:row∈R) {de:Bool} {kv:List P} {lo hi:Bd} (hk:kv.length<=2) (h1:kv.length<I.length) (h2:kv.length<row.length) (hlo:bOk lo) (hhi:bOk hi) (nlo:∀ x,lo=some x->isNone x.1=false) (nhi:∀ x,hi=some x->isNone x.1=false) :
  (fu I de (de == I[kv.length].2) kv (pick (de == I[kv.length].2) lo hi) (pick (de == I[kv.length].2) hi lo) row && !li I de (de == I[kv.length].2) kv (pick (de == I[kv.length].2) lo hi) (pick (de == I[kv.length].2) hi lo) row) =
  (decide (ak I row kv=0)&&within row[kv.length] I[kv.length].1 lo hi):=by
 have hv:Vl row[kv.length]:=(G.row row hr).2 _ (List.getElem_mem _)
 rw [Ex,Jp]
 delta within
 rw [Em hv _ true hlo,Em hv _ false hhi]
 have key:=arith (de:=de) (tn:=I[kv.length].2) (many:=kv.length) (s:=ak I row kv) (r:=rank I[kv.length].1 row[kv.length]) (k0:=ak I row (kv++[.none]))
  (lo:=lo.map fun x=>(rank I[kv.length].1 x.1,ak I row (kv++[x.1]),x.2)) (hi:=hi.map fun x=>(rank I[kv.length].1 x.1,ak I row (kv++[x.1]),x.2)) (fi _ _ _) (fun e=>by rw [List.length_eq_zero_iff.mp e,cb]) (dz hv _).1 (show Lb _ _ _ (rank I[kv.length].1 .none) _ from Ey .none h1 h2)
  (fun b k i e=>by
   match lo,hlo,nlo,e with
   | some (x,j),hlo,nlo,e =>
    cases e
    have:=dz (hlo _ rfl) I[kv.length].1
    have n:=nlo _ rfl
    dsimp only at this n ⊢
    refine ⟨?_,Ey x h1 h2⟩
    have:¬ rank I[kv.length].1 x=0:=fun z=>by rw [this.2.mp z] at n;contradiction
    omega)
  (fun b k i e=>by
   match hi,hhi,nhi,e with
   | some (x,j),hhi,nhi,e =>
    cases e
    have:=dz (hhi _ rfl) I[kv.length].1
    have n:=nhi _ rfl
    dsimp only at this n ⊢
    refine ⟨?_,Ey x h1 h2⟩
    have:¬ rank I[kv.length].1 x=0:=fun z=>by rw [this.2.mp z] at n;contradiction
    omega)
 simp only [Option.map_map,Jo] at key
 rw [sj,sj,show ((fun x:Int×Int×Bool=>x.2) ∘ fun x:P×Bool=>(rank I[kv.length].1 x.1,ak I row (kv++[x.1]),x.2))=sgF I row kv from rfl,xu,xu] at key
 exact key
theorem Pi (c:Str×Bool) (a b:P):kx c a=kx c b↔rank c.1 a=rank c.1 b:=by
 rw [ll,ll];unfold kxi;induction c.2 using Bool.casesOn <;> (dsimp only;omega)
theorem lm:∀ (I:List (Str×Bool)) (es row:List P),es.length<=I.length->es.length<=row.length->rv es row (I.map (·.1))=(es.all (fun e => !isNone e)&&decide (ak I row es=0))
 | I,[],row,_,_=>by
  rw [cb]
  induction row using List.casesOn <;> rfl
 | [],_::_,_,h,_=>absurd h (Nat.not_succ_le_zero _)
 | _::_,_::_,[],_,h=>absurd h (Nat.not_succ_le_zero _)
 | c::I,e::es,r::row,h1,h2=>by
  have ih:=lm I es row (Nat.le_of_succ_le_succ h1) (Nat.le_of_succ_le_succ h2)
  obtain ⟨p1,p2,p3⟩:=bw c I r e row es
  show ((!isNone e&&decide (rank c.1 e=rank c.1 r))&&rv es row (I.map (·.1)))=((!isNone e&&es.all fun e => !isNone e)&&_)
  rw [ih]
  induction q:isNone e using Bool.casesOn with
  | true=>rfl
  | false =>
   rcases Int.lt_trichotomy (kx c r) (kx c e) with f | f | f
   ·rw [p1 f,decide_eq_false (fun z=>by have:=(Pi c r e).mpr z.symm;exact W4 f this)]
    simp
   ·rw [p3 f,decide_eq_true ((Pi c r e).mp f).symm]
    simp
   ·rw [p2 f,decide_eq_false (fun z=>by have:=(Pi c r e).mpr z.symm;exact W3 f this)]
    simp
end
structure Same (m m':Vm):Prop where
 rows:m'.rows=m.rows
 info:m'.info=m.info
 eph:m'.eph=m.eph
 told:m'.told=m.told
theorem Same.trans {a b c:Vm} (h:Same a b) (h':Same b c):Same a c:=⟨h'.rows.trans h.rows,h'.info.trans h.info,h'.eph.trans h.eph,h'.told.trans h.told⟩
section
variable {os:List Op} {res:List P} {V:Nat->Vm->Prop}
theorem Lc (M:Mach os res V) {p:Nat} {m:Vm} {t:Nat} {r:Nat} {v:P} {E:Nat} (ht:t+2<800) (hp:m.pc=(p:Int)) (hc:Code os p [.value r v,.ifNull r E]) (hv:Vl v)
  (h1:isNone v=false -> ∀ m',Same m m'->rd m' r=v->(∀ j:Int,j≠r->rd m' j=rd m j)->m'.pc=((p+2:Nat):Int)->V (t+2) m') (h2:isNone v=true -> ∀ m',Same m m'->m'.pc=(E:Int)->V (t+2) m'):V t m:=by
 refine M.step p (by exact Nat.le_of_lt (Nat.lt_of_succ_lt ht)) hp hc.head ?_
 refine M.step (p+1) (by exact tlt ht rfl) rfl hc.tail.head ?_
 have hr:rd ({ wr { m with pc:=((p+1:Nat):Int) } r v with pc:=((p+1+1:Nat):Int) }:Vm) r=v:=cj _ _ _
 refine ⟨by rw [hr];exact hv,?_⟩
 rw [hr]
 induction q:isNone v using Bool.casesOn with
 | true=>exact h2 q _ ⟨rfl,rfl,rfl,rfl⟩ rfl
 | false=>exact h1 q _ ⟨rfl,rfl,rfl,rfl⟩ (cj _ _ _) (fun j hj=>av (m:={ m with pc:=((p+1:Nat):Int) }) (by exact hj.symm)) rfl
theorem Ld (M:Mach os res V) {E:Nat}:∀ {es:List P} {p r:Nat} {m:Vm} {t:Nat},t+2 * es.length<800->m.pc=(p:Int)->Code os p (vi E r es)->(∀ v∈es,Vl v) ->
  (es.all (fun e => !isNone e)=true -> ∀ m',Same m m'->(∀ i (h:i<es.length),rd m' ((r:Int)+(i:Int))=es[i])->(∀ j:Int,j<r\/(r:Int)+es.length<=j->rd m' j=rd m j)->m'.pc=((p+2 * es.length:Nat):Int)->V (t+2 * es.length) m') ->
  (es.all (fun e => !isNone e)=false -> ∀ m',Same m m'->m'.pc=(E:Int)->V (t+2 * es.length) m')->V t m:=by
 intro l0
 induction l0 with
 | nil =>
  intro p r m t _ hp _ _ h1 _
  exact h1 rfl m ⟨rfl,rfl,rfl,rfl⟩ (fun i h=>absurd h (Nat.not_lt_zero _)) (fun _ _=>rfl) hp
 | cons e es ih =>
  intro p r m t ht hp hc hv h1 h2
  rw [List.length_cons] at ht
  have hc:Code os p ([.value r e,.ifNull r E]++vi E (r+1) es):=hc
  refine Lc M (by exact tlt ht rfl) hp hc.left (hv e (.head _)) (fun q m1 s1 r1 o1 p1=>?_) fun q m1 s1 p1=>?_
  ·refine ih (r:=r+1) (by exact Wm ht) p1 hc.right (fun v m=>hv v (.tail _ m)) (fun ha m2 s2 g2 o2 p2=>?_) fun ha m2 s2 p2=>?_
   ·rw [show t+2+2 * es.length=t+2 * (es.length+1) by exact Fz]
    refine h1 (by rw [List.all_cons,q,ha];rfl) m2 (s1.trans s2) (fun i hi=>?_) (fun j hj=>?_) (by rw [p2];exact congrArg Nat.cast (by rw [List.length_cons];exact Fz))
    ·induction i using Nat.casesAuxOn with
     | zero =>
      rw [o2 _ (by omega)]
      rw [show (r:Int)+((0:Nat):Int)=r by exact rfl]
      exact r1
     | succ i =>
      have:=g2 i (Nat.lt_of_succ_lt_succ hi)
      rw [show (r:Int)+((i+1:Nat):Int)=((r+1:Nat):Int)+(i:Int) by omega]
      exact this
    ·rw [List.length_cons] at hj
     rw [o2 j (by exact U4 hj),o1 j (by exact V4 hj)]
   ·rw [show t+2+2 * es.length=t+2 * (es.length+1) by exact Fz]
    exact h2 (by rw [List.all_cons,q,ha];rfl) m2 (s1.trans s2) p2
  ·exact M.mono (by rw [List.length_cons];exact (Nat.add_le_add_left (Nat.le_of_ble_eq_true rfl) _)) (h2 (by rw [List.all_cons,q];rfl) m1 s1 p1)
theorem Jq (M:Mach os res V) {E:Nat} {b:Bd} {p r:Nat} {m:Vm} {t:Nat} (ht:t+2<800) (hp:m.pc=(p:Int)) (hc:Code os p (z4 E r b)) (hv:bOk b)
  (h1:(∀ x,b=some x->isNone x.1=false) -> ∀ m',Same m m'->(∀ x,b=some x->rd m' r=x.1)->(∀ j:Int,j≠r->rd m' j=rd m j)->m'.pc=((p+2 * bdN b:Nat):Int)->V (t+2) m')
  (h2:(∃ x,b=some x/\isNone x.1=true) -> ∀ m',Same m m'->m'.pc=(E:Int)->V (t+2) m'):V t m:=by
 match b,hc,hv,h1,h2 with
 | none,hc,hv,h1,h2=>exact M.mono (Nat.le_add_right t 2) (h1 (fun _ e=>(by contradiction)) m ⟨rfl,rfl,rfl,rfl⟩ (fun _ e=>(by contradiction)) (fun _ _=>rfl) hp)
 | some (v,i),hc,hv,h1,h2 =>
  refine Lc M ht hp hc (hv _ rfl) (fun q m' s' r' o' p'=>h1 (fun x e=>by (injection e with e;subst e);exact q) m' s' (fun x e=>by (injection e with e;subst e);exact r') o' p') fun q m' s' p'=>h2 ⟨_,rfl,q⟩ m' s' p'
end
theorem so (E:Int):∀ (es:List P) (r:Nat),(vi E r es).length=2 * es.length:=by
 intro l0
 induction l0 with
 | nil =>
  intro _
  exact rfl
 | cons e es ih =>
  intro r
  show (vi E (r+1) es).length+1+1=_
  rw [ih,List.length_cons];exact rfl
theorem il (E:Int) (r:Nat) (b:Bd):(z4 E r b).length=2 * bdN b:=by induction b using Option.casesOn <;> rfl
theorem Ez {m:Vm} {many r:Nat} {b:Bd} (hv:bOk b) (hr:∀ x,b=some x->rd m r=x.1) (hl:5+many<=r):BdAt m many (ie r b) b:=by
 match b,hv,hr with
 | none,_,_=>exact trivial
 | some (v,i),hv,hr=>exact ⟨rfl,hr _ rfl,hv _ rfl,by exact Int.ofNat_le.mpr hl⟩
section
variable {I:List (Str×Bool)} {R:List (List P)}
noncomputable def Fy (I:List (Str×Bool)) (R:List (List P)) (de:Bool) (es:List P) (sm:Option (List P)) (lo hi:Bd):List P:=((turned de R).filter fun row=>due es sm lo hi row (I.map (·.1))).map .tup
theorem ck {de:Bool} {x:List P} (h:x∈turned de R):x∈R:=by
 induction de using Bool.casesOn with
 | false=>exact h
 | true=>exact List.mem_reverse.mp h
theorem pw {de:Bool} {es:List P} {sm:Option (List P)} {lo hi:Bd} (h:∀ row∈R,due es sm lo hi row (I.map (·.1))=false):Fy I R de es sm lo hi=[]:=by
 unfold Fy
 rw [List.filter_eq_nil_iff.mpr (fun x hx=>by rw [h x (ck hx)];decide)]
 rfl
theorem lp {v:P} {c:Str} {lo hi:Bd} (h:(∃ x,lo=some x/\isNone x.1=true) \/ ∃ x,hi=some x/\isNone x.1=true):within v c lo hi=false:=by
 unfold within
 rcases h with ⟨⟨x,i⟩,rfl,h⟩ | ⟨⟨x,i⟩,rfl,h⟩
 ·have:okB v c true (some (x,i))=false:=by unfold okB;dsimp only at h ⊢;rw [h];simp
  rw [this];rfl
 ·have:okB v c false (some (x,i))=false:=by unfold okB;dsimp only at h ⊢;rw [h];simp
  rw [this];simp
theorem E0 (G:Good I R) (hs:cu I R) {es:List P} {lo hi:Bd} {de:Bool} (A:ia es none lo hi) (hm:es.length<I.length):Runs (fe es lo hi de I[es.length].2) (vm0 [] (R.map .lst) (bo I) 0 [] 0) (Fy I R de es none lo hi):=by
 refine bc fun hG=>?_
 obtain ⟨⟨hes,_,hlo,hhi,hlen⟩,_,h2⟩:=A
 refine hG ?_
 have hle:es.length<=2:=by rcases hlen with h | h | ⟨h,_⟩ <;> omega
 have hI3:=G.len
 refine k9 fun V M=>?_
 generalize hres:Fy I R de es none lo hi=res at M
 generalize hos:fe es lo hi de I[es.length].2=os at M
 have hc0:Code os 0 (fe es lo hi de I[es.length].2):=by exact hos ▸ (Code.all os)
 clear hos
 delta fe at hc0
 dsimp only at hc0
 generalize htn:I[es.length].2=tn at hc0
 generalize hl:ie (5+es.length) lo=lR at hc0
 generalize hh:ie (5+es.length+bdN lo) hi=hR at hc0
 generalize hE:2 * es.length+2 * bdN lo+2 * bdN hi+(cw (2 * es.length+2 * bdN lo+2 * bdN hi) es.length de tn lR hR).length=E at hc0
 have c1:=hc0.right
 have c2:=c1.right
 have c3:=c2.right
 have c4:=c3.right
 rw [so,Nat.zero_add] at c1 c2 c3 c4
 rw [il] at c2 c3 c4
 rw [il] at c3 c4
 rw [hE] at c4
 have fin:∀ t (m:Vm),t<800->m.told=res->m.pc=(E:Int)->V t m:=fun t m ht hm hp=>M.halt E ht hp c4.head hm
 have dsg:∀ row∈R,rv es row (I.map (·.1))=(es.all (fun e => !isNone e)&&decide (ak I row es=0)):=fun row hr=>lm I es row (by exact Nat.le_of_lt hm) (by exact ((G.row row hr).1) ▸ (Nat.le_trans hle (Nat.le_of_ble_eq_true rfl)))
 refine Ld M (r:=4) (by exact Ln hle) rfl hc0.left hes (fun ha m1 s1 g1 o1 p1=>?_) fun ha m1 s1 p1=>fin _ _ (by exact Ln hle) (by
  rw [s1.told, ← hres]
  exact (pw fun row hr=>by delta due;rw [dsg row hr,ha];rfl).symm) p1
 have nul:((∃ x,lo=some x/\isNone x.1=true) \/ ∃ x,hi=some x/\isNone x.1=true)->res=[]:=fun h=>by
  rw [← hres]
  refine pw fun row hr=>?_
  have:es.length≠2:=fun e=>by
   obtain ⟨e1,e2⟩:=h2 e
   rcases h with ⟨x,hx,_⟩ | ⟨x,hx,_⟩
   ·rw [e1] at hx;injection hx
   ·rw [e2] at hx;injection hx
  delta due f7
  dsimp only
  rw [lp h,show Nat.blt 1 es.length=false by
   rcases (by exact V7 hle this:es.length=0\/es.length=1) with e | e <;> rw [e] <;> rfl]
  simp
 rw [Nat.zero_add] at p1
 refine Jq M (by exact Qp hle) p1 c1.left hlo (fun n1 m2 s2 r2 o2 p2=>?_) fun ha m2 s2 p2=>fin _ _ (by exact Qp hle) (by rw [s2.told,s1.told,nul (.inl ha)];rfl) p2
 refine Jq M (by exact Qo hle) p2 c2.left hhi (fun n2 m3 s3 r3 o3 p3=>?_) fun ha m3 s3 p3=>fin _ _ (by exact Qo hle) (by rw [s3.told,s2.told,s1.told,nul (.inr ha)];rfl) p3
 have s13:=(s1.trans s2).trans s3
 have B:Base I R m3:=⟨s13.rows,s13.info⟩
 have K:Key m3 es.length es:=⟨rfl,hle,hes,fun i hi=>by
  rw [o3 _ (by omega),o2 _ (by omega)]
  exact g1 i hi⟩
 have bl:BdAt m3 es.length lR lo:=by
  rw [← hl]
  refine Ez hlo (fun x e=>?_) (Nat.le_refl _)
  have:bdN lo=1:=by rw [e];rfl
  rw [o3 _ (by omega)]
  exact r2 x e
 have bh:BdAt m3 es.length hR hi:=by
  rw [← hh]
  exact Ez hhi (fun x e=>r3 x e) (by exact Nat.le_add_right _ _)
 refine xr M G (by exact Vw hle) p3 c3.left B K bl bh (.inl s13.eph) fun m4 k4 t4 p4=>?_
 refine fin _ _ (by exact Vx hle) ?_ (by rw [p4,hE])
 rw [t4,s13.told]
 rw [nr G hs hle, ← hres]
 delta Fy
 show []++_=_
 rw [List.nil_append]
 congr 1
 refine List.filter_congr fun row hr=>?_
 have hr:=ck hr
 have h3:=(G.row row hr).1
 rw [← htn]
 rw [sk G hr hle hm (by exact gb hle h3) hlo hhi n1 n2]
 delta due f7
 dsimp only
 rw [dsg row hr,ha,Bool.true_and]
 congr 1
 have e1:row.getD es.length .none=row[es.length]:=by rw [List.getD_eq_getElem?_getD,List.getElem?_eq_getElem (by exact gb hle h3)];rfl
 have e2:(I.map (·.1)).getD es.length noStr=I[es.length].1:=by rw [List.getD_eq_getElem?_getD,List.getElem?_map,List.getElem?_eq_getElem hm];rfl
 rw [e1,e2]
 rcases (by exact V8 hle:es.length=2\/es.length<2) with e | e
 ·obtain ⟨f1,f2⟩:=h2 e
  rw [f1,f2]
  delta within okB
  simp
 ·rw [show Nat.blt 1 es.length=false by
   rcases (by exact Ul e:es.length=0\/es.length=1) with e | e <;> rw [e] <;> rfl,Bool.false_or]
end
end Mine
end
section
open PySem PySem.W PySem.Spec PySem.Calls PyProof.Rows PySem.SeqAt
namespace Mine
theorem pz:∀ (I:List (Str×Bool)) (a b:List P),ak I b a = - ak I a b
 | [],_,_=>by delta ak;rfl
 | _::_,[],b=>by
  induction b using List.casesOn <;> (delta ak;rfl)
 | _::_,_::_,[]=>by delta ak;rfl
 | c::I,x::a,y::b=>by
  obtain ⟨p1,p2,p3⟩:=bw c I x y a b
  obtain ⟨q1,q2,q3⟩:=bw c I y x b a
  rcases Int.lt_trichotomy (kx c x) (kx c y) with e | e | e
  ·rw [p1 e,q2 e];rfl
  ·rw [p3 e,q3 e.symm];exact pz I a b
  ·rw [p2 e,q1 e]
theorem vp {α:Type} {p:α->Bool}:∀ {l:List α},l.Pairwise (fun a b=>p b=true->p a=true)->l.filter p=l.takeWhile p/\l.drop (l.filter p).length=l.dropWhile p:=by
 intro l0
 induction l0 with
 | nil =>
  intro _
  exact ⟨rfl,rfl⟩
 | cons x l ih =>
  intro h
  obtain ⟨h1,h2⟩:=List.pairwise_cons.mp h
  obtain ⟨i1,i2⟩:=ih h2
  induction q:p x using Bool.casesOn with
  | true =>
   rw [List.filter_cons_of_pos q,List.takeWhile_cons,q,List.dropWhile_cons,q]
   exact ⟨by rw [i1];rfl,i2⟩
  | false =>
   have e:(x::l).filter p=[]:=List.filter_eq_nil_iff.mpr fun y hy=>by
    cases hy with
    | head=>rw [q];decide
    | tail _ m=>exact fun z=>by rw [h1 y m z] at q;injection q
   rw [e,List.takeWhile_cons,q,List.dropWhile_cons,q]
   exact ⟨rfl,rfl⟩
theorem ed {I:List (Str×Bool)} {R:List (List P)} {r:List P} {n:Nat} (hR:∀ x∈R,x.length=n) (hr:r.length=n) (hs:cu I R) :
  cu I (placed I R r)/\(∀ x,x∈placed I R r->x∈R\/x=r)/\(∀ x∈R,x∈placed I R r)/\(∃ y∈placed I R r,ak I y r=0)/\(placed I R r).length<=R.length+1:=by
 delta placed
 split
 ·rename_i h0
  have ne:∀ x∈R,ak I x r≠0:=fun x hx e=>by
   have:=List.filter_eq_nil_iff.mp h0 x hx
   rw [e] at this
   exact this rfl
  have mono:R.Pairwise fun a b=>decide (ak I b r<0)=true->decide (ak I a r<0)=true:=by
   refine List.Pairwise.imp_of_mem (fun {a b} ha hb h z=>?_) hs
   have:=jy I a b r (by rw [hR a ha,hR b hb]) (Int.le_of_lt h) (by rw [hr,hR a ha];exact Nat.le_refl _)
   have z:=of_decide_eq_true z
   exact decide_eq_true (by exact Int.lt_of_le_of_lt this z)
  obtain ⟨e1,e2⟩:=vp mono
  rw [e2,e1]
  have split:R.takeWhile (fun x=>decide (ak I x r<0))++R.dropWhile (fun x=>decide (ak I x r<0))=R:=List.takeWhile_append_dropWhile
  have less:∀ x∈R.takeWhile (fun x=>decide (ak I x r<0)),ak I x r<0:=fun x hx=>by
   rw [← e1] at hx
   exact of_decide_eq_true (List.mem_filter.mp hx).2
  have hs2:=hs
  dsimp only [cu] at hs2
  rw [← split] at hs2
  obtain ⟨a1,a2,a3⟩:=List.pairwise_append.mp hs2
  have more:∀ x∈R.dropWhile (fun x=>decide (ak I x r<0)),ak I r x<0:=by
   have key:∀ l:List (List P),(∀ x∈l,x.length=n)->(∀ x∈l,ak I x r≠0)->l.Pairwise (fun a b=>ak I a b<0) -> ∀ x∈l.dropWhile (fun x=>decide (ak I x r<0)),ak I r x<0:=by
    intro l
    induction l with
    | nil=>exact fun _ _ _ _ h=>(by contradiction)
    | cons y l ih =>
     intro hl hn hp x hx
     obtain ⟨b1,b2⟩:=List.pairwise_cons.mp hp
     rw [List.dropWhile_cons] at hx
     induction q:decide (ak I y r<0) using Bool.casesOn with
     | true =>
      rw [q] at hx
      exact ih (fun z m=>hl z (.tail _ m)) (fun z m=>hn z (.tail _ m)) b2 x hx
     | false =>
      rw [q] at hx
      have q:=of_decide_eq_false q
      have pos:0<ak I y r:=by have:=hn y (.head _);exact V0 q this
      rw [pz]
      have hx:x∈y::l:=hx
      cases hx with
      | head=>exact Int.neg_lt_neg pos
      | tail _ m =>
       have:=jy I y x r (by rw [hl y (.head _),hl x (.tail _ m)]) (Int.le_of_lt (b1 x m)) (by rw [hr,hl y (.head _)];exact Nat.le_refl _)
       exact Wc pos this
   exact key R hR ne hs
  refine ⟨?_,fun x hx=>?_,fun x hx=>?_,⟨r,?_,?_⟩,?_⟩
  ·delta cu
   rw [List.append_assoc]
   refine List.pairwise_append.mpr ⟨a1,List.pairwise_cons.mpr ⟨more,a2⟩,fun x hx y hy=>?_⟩
   have hy:y∈r::R.dropWhile (fun x=>decide (ak I x r<0)):=hy
   cases hy with
   | head=>exact less x hx
   | tail _ m=>exact a3 x hx y m
  ·rcases List.mem_append.mp hx with hx | hx
   ·rcases List.mem_append.mp hx with hx | hx
    ·exact .inl (split ▸ List.mem_append_left _ hx)
    ·exact .inr (List.mem_singleton.mp hx)
   ·exact .inl (split ▸ List.mem_append_right _ hx)
  ·rw [← split] at hx
   rcases List.mem_append.mp hx with hx | hx
   ·exact List.mem_append_left _ (List.mem_append_left _ hx)
   ·exact List.mem_append_right _ hx
  ·exact List.mem_append_left _ (List.mem_append_right _ (.head _))
  ·have:=pz I r r;exact Xg this
  ·have:=congrArg List.length split
   simp only [List.length_append,List.length_singleton] at this ⊢
   exact W5 this
 ·rename_i x l h0
  have hx:x∈R.filter fun x=>decide (ak I x r=0):=by exact h0 ▸ (.head _)
  obtain ⟨m1,m2⟩:=List.mem_filter.mp hx
  exact ⟨hs,fun y hy=>.inl hy,fun y hy=>hy,⟨x,m1,of_decide_eq_true m2⟩,Nat.le_succ _⟩
theorem E1 {α:Type} {p q:α->Bool}:∀ {l:List α},(∀ x∈l,p x=true->q x=false)->l.Pairwise (fun a b=>q a=true->p b=false)->(l.filter fun x=>p x||q x)=l.filter p++l.filter q:=by
 intro l0
 induction l0 with
 | nil =>
  intro _ _
  exact rfl
 | cons x l ih =>
  intro hd h
  obtain ⟨h1,h2⟩:=List.pairwise_cons.mp h
  have ih:=ih (fun y m=>hd y (.tail _ m)) h2
  induction e:p x using Bool.casesOn with
  | true =>
   rw [List.filter_cons_of_pos (p:=fun x=>p x||q x) (by rw [e];rfl),List.filter_cons_of_pos e,List.filter_cons_of_neg (by rw [hd x (.head _) e];decide),ih];rfl
  | false =>
   induction f:q x using Bool.casesOn with
   | true =>
    have none:l.filter p=[]:=List.filter_eq_nil_iff.mpr fun y hy=>by rw [h1 y hy f];decide
    rw [List.filter_cons_of_pos (p:=fun x=>p x||q x) (by rw [e,f];rfl),List.filter_cons_of_neg (by rw [e];decide),List.filter_cons_of_pos f,ih,none]
    rfl
   | false =>
    rw [List.filter_cons_of_neg (p:=fun x=>p x||q x) (by rw [e,f];decide),List.filter_cons_of_neg (by rw [e];decide),List.filter_cons_of_neg (by rw [f];decide),ih]
theorem lq {α:Type} {f:α->Int} {L:List α} (hL:L.Pairwise fun a b=>f a<=f b):∀ {T:List Int},T.Pairwise (· < ·)->T.flatMap (fun t=>L.filter fun x=>decide (f x=t))=L.filter fun x=>T.any fun t=>decide (f x=t):=by
 intro l0
 induction l0 with
 | nil =>
  intro _
  rw [List.flatMap_nil]
  exact (List.filter_eq_nil_iff.mpr fun x _=>by simp).symm
 | cons t T ih =>
  intro h
  obtain ⟨h1,h2⟩:=List.pairwise_cons.mp h
  rw [List.flatMap_cons,ih h2]
  have:=E1 (l:=L) (p:=fun x=>decide (f x=t)) (q:=fun x=>T.any fun t=>decide (f x=t)) (fun x _ e=>by
   have e:=of_decide_eq_true e
   induction q:T.any fun t=>decide (f x=t) using Bool.casesOn with
   | false=>rfl
   | true =>
    obtain ⟨u,hu,hv⟩:=List.any_eq_true.mp q
    have:=h1 u hu
    have:=of_decide_eq_true hv
    omega) (hL.imp fun {a b} hab e=>by
   obtain ⟨u,hu,hv⟩:=List.any_eq_true.mp e
   have:=h1 u hu
   have:=of_decide_eq_true hv
   exact decide_eq_false (by omega))
  rw [← this]
  refine List.filter_congr fun x _=>?_
  rw [List.any_cons]
noncomputable def E2 (outF:P->List P) (d:List P):List P:=match d with
 | [v]=>(match isNone v with
  | true=>[]
  | false=>outF v)
 | _=>[]
noncomputable def lr (J:List (Str×Bool)) (ws:List P) (D:List (List P)):List (List P):=ws.foldl (fun D w=>placed J D [w]) D
section
variable {os:List Op} {res:List P} {V:Nat->Vm->Prop}
theorem xv (M:Mach os res V) {coll:Str}:∀ {ws:List P} {D:List (List P)} {p iv:Nat} {m:Vm} {t:Nat},t+3 * ws.length<800->m.pc=(p:Int)->Code os p (f9 iv ws)->(∀ w∈ws,Vl w)->(∀ x∈D,x.length=1 /\ ∀ v∈x,Vl v)->cu [(coll,false)] D->D.length+ws.length<=4->(∃ a,m.eph=some ⟨D.map .lst,fh coll,a⟩) ->
  (∀ m',m'.rows=m.rows->m'.info=m.info->m'.told=m.told->(∃ a,m'.eph=some ⟨(lr [(coll,false)] ws D).map .lst,fh coll,a⟩)->(∀ j:Int,j≠iv->j≠iv+1->rd m' j=rd m j)->m'.pc=((p+3 * ws.length:Nat):Int)->V (t+3 * ws.length) m')->V t m:=by
 intro l0
 induction l0 with
 | nil =>
  intro D p iv m t _ hp _ _ _ _ _ he h
  exact h m rfl rfl rfl he (fun _ _ _=>rfl) hp
 | cons w ws ih =>
  rintro D p iv m t ht hp hc hw hD hs hl ⟨a,he⟩ h
  rw [List.length_cons] at ht hl
  have hv:=hw w (.head _)
  refine M.step p (by exact Nat.lt_of_le_of_lt (Nat.le_add_right _ _) ht) hp hc.head ?_
  refine M.step (p+1) (by exact tlt ht rfl) rfl hc.tail.head ⟨(by show m.eph≠none;rw [he];exact (fun e=>nomatch e)),?_⟩
  have e1:rd ({ wr { m with pc:=((p+1:Nat):Int) } iv w with pc:=((p+1+1:Nat):Int) }:Vm) iv=w:=cj _ _ _
  rw [e1]
  have hdg:eh ((iv:Int)+1) (dput ((iv:Int)+1) (.lst [w]) (dput (iv:Int) w m.held))=some (.lst [w]):=by rw [sa,if_pos rfl]
  have hok:Ta (fh coll) (D.map .lst) [w]:=⟨D,rfl,by exact Qq hl,fun x hx=>⟨[(coll,false)],rfl,.inr ⟨rfl,(hD x hx).1,rfl⟩,(hD x hx).2,fun v m=>by cases m with | head=>exact hv | tail _ m=>nomatch m⟩⟩
  refine M.step (p+1+1) (by exact Vc ht) rfl hc.tail.tail.head ⟨rfl,_,[w],he,hdg,hok,?_⟩
  refine bc fun hG=>?_
  obtain ⟨s1,s2,s3,s4,s5⟩:=ed (r:=[w]) (n:=1) (fun x hx=>(hD x hx).1) rfl hs
  refine hG ?_
  have hc2:Code os (p+3) (f9 iv ws):=hc.tail.tail.tail
  refine ih (D:=placed [(coll,false)] D [w]) (by exact Wo ht) rfl hc2 (fun v m=>hw v (.tail _ m)) (fun x hx=>?_) s1 (by exact V1 hl s5) ⟨a,?_⟩ fun m' r' i' t' e' g' p'=>?_
  ·rcases s2 x hx with hx | rfl
   ·exact hD x hx
   ·exact ⟨rfl,fun v m=>by cases m with | head=>exact hv | tail _ m=>nomatch m⟩
  ·show some (⟨(placed (cp (fh coll)) ((D.map .lst).map unP) [w]).map .lst,fh coll,a⟩:Eph)=_
   rw [ve,show cp (fh coll)=[(coll,false)] from i4 _]
  ·rw [show t+1+1+1+3 * ws.length=t+3 * (ws.length+1) by exact Lp] at *
   refine h m' r' i' t' e' (fun j h1 h2=>?_) ?_
   ·rw [g' j h1 h2]
    show rd (wr (wr { m with pc:=((p+1:Nat):Int) } iv w) (iv+1) (.lst [w])) j=rd m j
    rw [av (Ne.symm h2),av (Ne.symm h1)]
    rfl
   ·rw [p',List.length_cons];exact congrArg Nat.cast (by exact Lp)
theorem E3 (M:Mach os res V) {o n:Nat} {tg:Int} {back:Bool} {inner:List Op} (hc:Code os o (i6 o tg back n inner)) (hn:inner.length=n) {D:List (List P)} {info1:P} {Inv:Vm->Prop} {outF:P->List P}
  (hI:∀ m v pc e,Inv m->Inv { wr m tg v with pc:=pc,eph:=e }) (hI2:∀ m pc e,Inv m->Inv { m with pc:=pc,eph:=e })
  (hD:∀ d∈D,∃ v,d=[v]/\Vl v)
  (body:∀ m t v,t+40<800->Inv m->m.eph≠none->rd m tg=v->Vl v->isNone v=false->m.pc=((o+3:Nat):Int)->(∀ m',Inv m'->m'.eph=m.eph->m'.told=m.told++outF v->m'.pc=((o+3+n:Nat):Int)->V (t+30) m')->V t m) :
  ∀ (k j:Nat) (m:Vm) (t:Nat),(cx back D j).length=k->j<D.length->m.eph=some ⟨D.map .lst,info1,(j:Int)⟩->m.pc=((o+1:Nat):Int)->Inv m->t+33 * k+40<800 ->
   (∀ m',Inv m'->m'.told=m.told++(cx back D j).flatMap (E2 outF)->m'.pc=((o+n+4:Nat):Int)->V (t+33 * k) m')->V t m:=by
 intro k
 induction k with
 | zero =>
  intro j m t hk hj _ _ _ _ _
  obtain ⟨L,e,_⟩:=cy back hj
  rw [e] at hk;injection hk
 | succ k ih =>
  intro j m t hk hj he hp hi ht h
  obtain ⟨L,eL,hL⟩:=cy back hj
  rw [eL] at hk h
  have hk:L.length=k:=Nat.succ.inj hk
  obtain ⟨v,hv,hvl⟩:=hD _ (List.getElem_mem hj)
  have hc1:=hc.tail
  have hc2:=hc1.tail
  have hc3:=hc2.tail
  have hnx:=hc3.right.head
  rw [hn] at hnx

  have after:∀ m2:Vm,Inv m2->m2.eph=m.eph->m2.told=m.told++E2 outF D[j]->m2.pc=((o+3+n:Nat):Int)->V (t+32) m2:=by
   intro m2 i2 e2 t2 p2
   have again:∀ i:Nat,i<D.length->L=cx back D i->V (t+33) { m2 with pc:=((o+1:Nat):Int),eph:=some ⟨D.map .lst,info1,(i:Int)⟩ }:=fun i hi' eL2=>by
    refine ih i _ (t+33) (by rw [← eL2];exact hk) hi' rfl rfl (hI2 _ _ _ i2) (by exact Wn ht) fun m' i' t' p'=>?_
    rw [show t+33+33 * k=t+33 * (k+1) by exact Qv]
    refine h m' i' ?_ p'
    rw [t', ← eL2,List.flatMap_cons]
    show m2.told++_=_
    rw [t2,List.append_assoc]
   have stop:L=[] -> ∀ a:Int,V (t+33) { m2 with pc:=((o+3+n+1:Nat):Int),eph:=some ⟨D.map .lst,info1,a⟩ }:=fun eL2 a=>by
    refine M.mono (by exact (Nat.add_le_add_left (Nat.le_of_ble_eq_true rfl) _):t+33<=t+33 * (k+1)) (h _ (hI2 _ _ _ i2) ?_ ?_)
    ·rw [eL2,List.flatMap_cons,List.flatMap_nil,List.append_nil]
     exact t2
    ·show ((o+3+n+1:Nat):Int)=_
     exact congrArg Nat.cast (by exact Ws)
   refine M.step (op:=.move (pick back "Prev" "Next") 1 ((o+1:Nat):Int)) _ (by exact Vf ht) p2 hnx (.inr ⟨rfl,_,e2.trans he,?_⟩)
   refine bc fun hG=>?_
   induction back using Bool.casesOn with
   | false =>
    refine hG ?_
    refine .inr (.inr (.inl ⟨rfl,?_⟩))
    show V (t+32+1) (jv _ { m2 with pc:=_,eph:=some ⟨D.map .lst,info1,(j:Int)+1⟩ } (inside (D.map .lst) ((j:Int)+1)))
    have e1:(j:Int)+1=((j+1:Nat):Int):=rfl
    rw [e1]
    refine bc fun hG=>?_
    rcases hL with ⟨h1,h2⟩ | ⟨h1,h2⟩
    ·refine hG ?_
     have:inside (D.map P.lst) ((j+1:Nat):Int)=false:=by
      delta inside
      rw [List.length_map,decide_eq_false (by omega:¬ ((j+1:Nat):Int)<(D.length:Int)),Bool.and_false]
     rw [this]
     exact stop h2 _
    ·refine hG ?_
     have:inside (D.map P.lst) ((j+1:Nat):Int)=true:=by
      delta inside
      rw [List.length_map,decide_eq_true (by exact Int.ofNat_lt.mpr h1:((j+1:Nat):Int)<(D.length:Int)),decide_eq_true (Int.natCast_nonneg _)];rfl
     rw [this]
     exact again (j+1) h1 h2
   | true =>
    refine hG ?_
    refine .inr (.inr (.inr ⟨rfl,?_⟩))
    show V (t+32+1) (jv _ { m2 with pc:=_,eph:=some ⟨D.map .lst,info1,(j:Int) + -1⟩ } (inside (D.map .lst) ((j:Int) + -1)))
    refine bc fun hG=>?_
    rcases hL with ⟨h1,h2⟩ | ⟨i,h1,h2⟩
    ·refine hG ?_
     have:inside (D.map P.lst) ((j:Int) + -1)=false:=by
      delta inside
      rw [decide_eq_false (by omega:¬ 0<=(j:Int) + -1),Bool.false_and]
     rw [this]
     exact stop h2 _
    ·refine hG ?_
     have e1:(j:Int) + -1=((i:Nat):Int):=by omega
     rw [e1]
     have:inside (D.map P.lst) (i:Int)=true:=by
      delta inside
      rw [List.length_map,decide_eq_true (by omega:(i:Int)<(D.length:Int)),decide_eq_true (Int.natCast_nonneg _)];rfl
     rw [this]
     exact again i (by exact V5 hj h1) h2
  refine M.step (o+1) (by exact Vd ht) hp hc1.head (.inr ⟨rfl,_,_,v,he,item_at hj,?_,?_⟩)
  ·rw [hv];rfl
  refine M.step (o+1+1) (by exact Vg ht) rfl hc2.head ?_
  have hr:rd ({ wr { m with pc:=((o+1+1:Nat):Int) } tg v with pc:=((o+1+1+1:Nat):Int) }:Vm) tg=v:=cj _ _ _
  refine ⟨by rw [hr];exact hvl,?_⟩
  rw [hr]
  have iv:∀ pc,Inv { wr { m with pc:=((o+1+1:Nat):Int) } tg v with pc:=pc }:=fun pc=>hI _ _ _ _ (hI2 m ((o+1+1:Nat):Int) m.eph hi)
  induction q:isNone v using Bool.casesOn with
  | true =>
   refine M.mono (by exact (Nat.add_lt_add_left (Nat.le_of_ble_eq_true rfl) _)) (after _ (iv _) rfl ?_ ?_)
   ·show m.told=_
    rw [hv]
    delta E2
    dsimp only
    rw [q,List.append_nil]
   ·show ((o+n+3:Nat):Int)=_
    exact congrArg Nat.cast (by exact Wq)
  | false =>
   refine body _ (t+1+1) v (by exact Ve ht) (iv _) (by show m.eph≠none;exact he ▸ ((fun e=>nomatch e))) hr hvl q rfl fun m2 i2 e2 t2 p2=>?_
   refine after m2 i2 e2 ?_ p2
   rw [t2]
   show m.told++_=_
   rw [hv]
   delta E2
   dsimp only
   rw [q]
theorem xw (M:Mach os res V) {o n:Nat} {tg:Int} {back:Bool} {inner:List Op} (hc:Code os o (i6 o tg back n inner)) (hn:inner.length=n) {D:List (List P)} {info1:P} {Inv:Vm->Prop} {outF:P->List P}
  (hI:∀ m v pc e,Inv m->Inv { wr m tg v with pc:=pc,eph:=e }) (hI2:∀ m pc e,Inv m->Inv { m with pc:=pc,eph:=e })
  (hD:∀ d∈D,∃ v,d=[v]/\Vl v) (hl:D.length<=4)
  (body:∀ m t v,t+40<800->Inv m->m.eph≠none->rd m tg=v->Vl v->isNone v=false->m.pc=((o+3:Nat):Int)->(∀ m',Inv m'->m'.eph=m.eph->m'.told=m.told++outF v->m'.pc=((o+3+n:Nat):Int)->V (t+30) m')->V t m)
  {m:Vm} {t:Nat} (he:∃ a,m.eph=some ⟨D.map .lst,info1,a⟩) (hp:m.pc=(o:Int)) (hi:Inv m) (ht:t+200<800)
  (h:∀ m',Inv m'->m'.told=m.told++(turned back D).flatMap (E2 outF)->m'.pc=((o+n+4:Nat):Int)->V (t+133) m'):V t m:=by
 obtain ⟨a,he⟩:=he
 have e1:(D.map P.lst).isEmpty=D.isEmpty:=by induction D using List.casesOn <;> rfl
 have go:∀ j:Nat,j<D.length->turned back D=cx back D j->V (t+1) { m with pc:=((o+1:Nat):Int),eph:=some ⟨D.map .lst,info1,(j:Int)⟩ }:=fun j hj e=>by
  have hv:(cx back D j).length<=4:=by
   delta cx;split
   ·rw [List.length_reverse,List.length_take];exact Lj hl
   ·rw [List.length_drop];exact Li hl
  refine E3 M hc hn hI hI2 hD body _ j _ (t+1) rfl hj rfl rfl (hI2 _ _ _ hi) (by exact Va ht hv) fun m' i' t' p'=>?_
  refine M.mono (by exact Qh hv) (h m' i' ?_ p')
  rw [t',e]
 have none:D=[] -> ∀ e,V (t+1) { m with pc:=((o+n+4:Nat):Int),eph:=e }:=fun e x=>by
  refine M.mono (by exact (Nat.add_le_add_left (Nat.le_of_ble_eq_true rfl) _)) (h _ (hI2 _ _ _ hi) ?_ rfl)
  rw [e]
  show m.told=m.told++(turned back []).flatMap _
  induction back using Bool.casesOn <;> simp [turned]
 refine M.step (op:=.move (pick back "Last" "Rewind") 1 ((o+n+4:Nat):Int)) o (by exact Nat.lt_of_le_of_lt (Nat.le_add_right _ _) ht) hp hc.head (.inr ⟨rfl,_,he,?_⟩)
 refine bc fun hG=>?_
 induction back using Bool.casesOn with
 | false =>
  refine hG ?_
  refine .inl ⟨rfl,?_⟩
  show V (t+1) (jv _ { m with pc:=_,eph:=some ⟨D.map .lst,info1,0⟩ } (D.map P.lst).isEmpty)
  rw [e1]
  induction hb:D.isEmpty using Bool.casesOn with
  | true=>exact none (List.isEmpty_iff.mp hb) _
  | false =>
   have hpos:0<D.length:=List.length_pos_iff.mpr fun e=>by rw [e] at hb;injection hb
   exact go 0 hpos rfl
 | true =>
  refine hG ?_
  refine .inr (.inl ⟨rfl,?_⟩)
  show V (t+1) (jv _ { m with pc:=_,eph:=some ⟨D.map .lst,info1,((D.map P.lst).length:Int) - 1⟩ } (D.map P.lst).isEmpty)
  rw [e1,List.length_map]
  induction hb:D.isEmpty using Bool.casesOn with
  | true=>exact none (List.isEmpty_iff.mp hb) _
  | false =>
   have hpos:0<D.length:=List.length_pos_iff.mpr fun e=>by rw [e] at hb;injection hb
   have:=go (D.length - 1) (by exact U5 hpos) (by
    show D.reverse=(D.take (D.length - 1+1)).reverse
    rw [List.take_of_length_le (by exact Qg)])
   have e2:(D.length:Int) - 1=((D.length - 1:Nat):Int):=by omega
   rw [e2]
   exact this
end
end Mine
end
section
open PySem PySem.W PySem.Spec PySem.Calls PyProof.Rows PySem.SeqAt
set_option tactic.hygienic false
namespace Mine
theorem lu (iv:Nat):∀ ws:List P,(f9 iv ws).length=3 * ws.length:=by
 intro l0
 induction l0 with
 | nil =>
  exact rfl
 | cons w ws ih =>
  show (f9 iv ws).length+1+1+1=_
  rw [ih,List.length_cons];exact rfl
structure Puts (J:List (Str×Bool)) (ws:List P) (D D':List (List P)):Prop where
 sorted:cu J D'
 ones:∀ x∈D',x.length=1 /\ ∀ v∈x,Vl v
 mem:∀ x∈D',x∈D \/ ∃ w∈ws,x=[w]
 old:∀ x∈D,x∈D'
 all:∀ w∈ws,∃ y∈D',ak J y [w]=0
 len:D'.length<=D.length+ws.length
theorem aze (J:List (Str×Bool)):∀ {ws:List P} {D:List (List P)},(∀ w∈ws,Vl w)->(∀ x∈D,x.length=1 /\ ∀ v∈x,Vl v)->cu J D->Puts J ws D (lr J ws D):=by
 intro l0
 induction l0 with
 | nil =>
  intro D _ hD hs
  exact ⟨hs,hD,fun x h=>.inl h,fun x h=>h,(fun w h=>nomatch h),Nat.le_refl _⟩
 | cons w ws ih =>
  intro D hw hD hs
  have hv:=hw w (.head _)
  refine bc fun hG=>?_
  obtain ⟨s1,s2,s3,s4,s5⟩:=ed (r:=[w]) (n:=1) (fun x hx=>(hD x hx).1) rfl hs
  refine hG ?_
  have ih:=ih (D:=placed J D [w]) (fun v m=>hw v (.tail _ m)) (fun x hx=>by
   rcases s2 x hx with hx | rfl
   ·exact hD x hx
   ·exact ⟨rfl,fun v m=>by cases m with | head=>exact hv | tail _ m=>nomatch m⟩) s1
  refine ⟨ih.sorted,ih.ones,fun x hx=>?_,fun x hx=>ih.old x (s3 x hx),fun v hv=>?_,?_⟩
  ·rcases ih.mem x hx with h | ⟨u,hu,rfl⟩
   ·rcases s2 x h with h | rfl
    ·exact .inl h
    ·exact .inr ⟨w,.head _,rfl⟩
   ·exact .inr ⟨u,.tail _ hu,rfl⟩
  ·cases hv with
   | head =>
    obtain ⟨y,hy,e⟩:=s4
    exact ⟨y,ih.old y hy,e⟩
   | tail _ m=>exact ih.all v m
  ·have:=ih.len
   show (lr J ws (placed J D [w])).length<=_
   rw [List.length_cons];exact Vp s5 this
theorem sgn_one {c:Str} {a b:P}:ak [(c,false)] [a] [b]=0↔rank c a=rank c b:=by
 refine bc fun hG=>?_
 obtain ⟨p1,p2,p3⟩:=bw (c,false) [] a b [] []
 refine hG ?_
 have e:∀ v,kx (c,false) v=rank c v:=fun _=>rfl
 rw [e,e] at p1 p2 p3
 rw [cb] at p3
 rcases Int.lt_trichotomy (rank c a) (rank c b) with f | f | f
 ·have:=p1 f;exact U9 f this
 ·have:=p3 f;exact Wu f this
 ·have:=p2 f;exact U8 f this
theorem z9 {c:Str} {a b:P}:ak [(c,false)] [a] [b]<0->rank c a<rank c b:=fun h=>by
 obtain ⟨p1,p2,p3⟩:=bw (c,false) [] a b [] []
 have e:∀ v,kx (c,false) v=rank c v:=fun _=>rfl
 rw [e,e] at p1 p2 p3
 rw [cb] at p3
 rcases Int.lt_trichotomy (rank c a) (rank c b) with f | f | f
 ·exact f
 ·have:=p3 f;exact W1 h this
 ·have:=p2 f;exact W0 h this
noncomputable def hd1 (d:List P):P:=d.headD .none
noncomputable def Jr (c:Str) (back:Bool) (D:List (List P)):List Int:=((turned back D).filter fun d => !isNone (hd1 d)).map fun d=>kxi back (rank c (hd1 d))
theorem xy {c:Str} {back:Bool} {D:List (List P)} (hs:cu [(c,false)] D) (h1:∀ x∈D,x.length=1):(Jr c back D).Pairwise (· < ·):=by
 have key:D.Pairwise fun a b=>rank c (hd1 a)<rank c (hd1 b):=by
  refine List.Pairwise.imp_of_mem (fun {a b} ha hb h=>?_) hs
  obtain ⟨x,rfl⟩:=jm (h1 a ha)
  obtain ⟨y,rfl⟩:=jm (h1 b hb)
  exact z9 h
 unfold Jr
 refine List.Pairwise.map _ (R:=fun a b=>kxi back (rank c (hd1 a))<kxi back (rank c (hd1 b))) (fun a b h=>h) (List.Pairwise.filter _ ?_)
 induction back using Bool.casesOn with
 | false=>exact key
 | true =>
  show D.reverse.Pairwise _
  rw [List.pairwise_reverse]
  exact key.imp fun h=>Int.neg_lt_neg h
theorem sr {c:Str} {back:Bool} {D:List (List P)} {outF:P->List P} {g:Int->List P} (h1:∀ x∈D,x.length=1) (hg:∀ x∈D,outF (hd1 x)=g (kxi back (rank c (hd1 x)))):(turned back D).flatMap (E2 outF)=(Jr c back D).flatMap g:=by
 have key:∀ l:List (List P),(∀ x∈l,x.length=1)->(∀ x∈l,outF (hd1 x)=g (kxi back (rank c (hd1 x))))->l.flatMap (E2 outF)=((l.filter fun d => !isNone (hd1 d)).map fun d=>kxi back (rank c (hd1 d))).flatMap g:=by
  intro l
  induction l with
  | nil=>exact fun _ _=>rfl
  | cons x l ih =>
   intro hl hg
   have ih:=ih (fun y m=>hl y (.tail _ m)) (fun y m=>hg y (.tail _ m))
   obtain ⟨v,rfl⟩:=jm (hl x (.head _))
   have hv:=hg [v] (.head _)
   rw [List.flatMap_cons,ih]
   refine bc fun hG=>?_
   induction q:isNone v using Bool.casesOn with
   | true =>
    refine hG ?_
    rw [List.filter_cons_of_neg (by show ¬ (!isNone v)=true;rw [q];decide)]
    have:E2 outF [v]=[]:=by unfold E2;dsimp only;rw [q]
    rw [this];rfl
   | false =>
    refine hG ?_
    rw [List.filter_cons_of_pos (by show (!isNone v)=true;rw [q];rfl),List.map_cons,List.flatMap_cons]
    have:E2 outF [v]=outF v:=by unfold E2;dsimp only;rw [q]
    rw [this]
    congr 1
 exact key _ (fun x hx=>h1 x (by induction back using Bool.casesOn with | false=>exact hx | true=>exact List.mem_reverse.mp hx)) fun x hx=>hg x (by induction back using Bool.casesOn with | false=>exact hx | true=>exact List.mem_reverse.mp hx)
theorem p8 {b:Bool} {x y:Int} (h:kxi b x=kxi b y):x=y:=by
 unfold kxi at h;induction b using Bool.casesOn <;> (dsimp only at h;omega)
theorem su {c:Str} {back:Bool} {ws:List P} {D:List (List P)} (hp:Puts [(c,false)] ws [] D) (hw:∀ w∈ws,Vl w) {r:P}:((Jr c back D).any fun t=>decide (kxi back (rank c r)=t))=o9 ws r c:=by
 refine ec ⟨fun h=>?_,fun h=>?_⟩
 ·obtain ⟨t,ht,e⟩:=List.any_eq_true.mp h
  obtain ⟨d,hd,rfl⟩:=List.mem_map.mp ht
  obtain ⟨hd,hn⟩:=List.mem_filter.mp hd
  have hd:d∈D:=by induction back using Bool.casesOn with | false=>exact hd | true=>exact List.mem_reverse.mp hd
  rcases hp.mem d hd with h | ⟨w,hw',rfl⟩
  ·nomatch h
  ·refine List.any_eq_true.mpr ⟨w,List.mem_filter.mpr ⟨hw',hn⟩,decide_eq_true ?_⟩
   exact (p8 (of_decide_eq_true e)).symm
 ·obtain ⟨w,hw',e⟩:=List.any_eq_true.mp h
  obtain ⟨hw',hn⟩:=List.mem_filter.mp hw'
  obtain ⟨y,hy,hs⟩:=hp.all w hw'
  obtain ⟨v,rfl⟩:=jm (hp.ones y hy).1
  have ev:=sgn_one.mp hs
  have e:=of_decide_eq_true e
  have hv:Vl v:=(hp.ones _ hy).2 v (.head _)
  have nv:isNone v=false:=by
   induction q:isNone v using Bool.casesOn with
   | false=>rfl
   | true =>
    have a:=(dz hv c).2.mpr q
    have b:=(dz (hw w hw') c).2.mp (by exact ev.symm.trans a)
    rw [b] at hn;injection hn
  refine List.any_eq_true.mpr ⟨kxi back (rank c v),List.mem_map.mpr ⟨[v],List.mem_filter.mpr ⟨by induction back using Bool.casesOn with | false=>exact hy | true=>exact List.mem_reverse.mpr hy,by show (!isNone v)=true;rw [nv];rfl⟩,rfl⟩,decide_eq_true ?_⟩
  rw [show rank c r=rank c v by exact Xb ev e]
section
variable {I:List (Str×Bool)} {R:List (List P)}
noncomputable def Le (I:List (Str×Bool)) (back:Bool) (e:Nat) (row:List P):Int:=kxi back (rank (I.getD e (noStr,false)).1 (row.getD e .none))
theorem E4 (G:Good I R) (hs:cu I R) {de:Bool} {es:List P} (he:es.length<I.length) (hl:es.length<=2):((turned de R).filter fun row=>decide (ak I row es=0)).Pairwise fun a b=>Le I (de != I[es.length].2) es.length a<=Le I (de != I[es.length].2) es.length b:=by
 refine List.Pairwise.imp_of_mem (fun {a b} ha hb h=>?_) ((lk G hs de).filter _)
 obtain ⟨ha,ea⟩:=List.mem_filter.mp ha
 obtain ⟨hb,eb⟩:=List.mem_filter.mp hb
 have ea:=of_decide_eq_true ea
 have eb:=of_decide_eq_true eb
 have la:=(G.row a (ck ha)).1
 have lb:=(G.row b (ck hb)).1
 have:=h (es++[a[es.length]'(by exact gb hl la)]) (by rw [List.length_append,List.length_singleton];exact Nat.lt_succ_of_le hl)
 obtain ⟨_,a2⟩:=lj I a es (a[es.length]'(by exact gb hl la)) he (by exact gb hl la)
 obtain ⟨_,b2⟩:=lj I b es (a[es.length]'(by exact gb hl la)) he (by exact gb hl lb)
 have a3:=(a2 ea).2.2 rfl
 obtain ⟨b3,b4,b5⟩:=b2 eb
 rw [a3] at this
 unfold Le
 have i1:I.getD es.length (noStr,false)=I[es.length]:=by rw [List.getD_eq_getElem?_getD,List.getElem?_eq_getElem he];rfl
 have i2:a.getD es.length .none=a[es.length]'(by exact gb hl la):=by rw [List.getD_eq_getElem?_getD,List.getElem?_eq_getElem (by exact gb hl la)];rfl
 have i3:b.getD es.length .none=b[es.length]'(by exact gb hl lb):=by rw [List.getD_eq_getElem?_getD,List.getElem?_eq_getElem (by exact gb hl lb)];rfl
 rw [i1,i2,i3]
 rw [ll,ll] at b3 b4 b5
 generalize rank I[es.length].1 (a[es.length]'(by exact gb hl la))=x at *
 generalize rank I[es.length].1 (b[es.length]'(by exact gb hl lb))=y at *
 generalize ak I b (es++[a[es.length]'(by exact gb hl la)])=z at *
 generalize I[es.length].2=tn at *
 induction de using Bool.casesOn <;> induction tn using Bool.casesOn <;> (simp only [kxi,dsg,bne,BEq.beq,Bool.not_true,Bool.not_false] at * <;> simp at * <;> omega)
end
section
variable {I:List (Str×Bool)} {R:List (List P)}
theorem Ua (G:Good I R) (hs:cu I R) {es ws:List P} {de:Bool} (A:ia es (some ws) none none) (hm:es.length+1<I.length) :
  Runs (pb es ws de I[es.length+1].2 (de != I[es.length].2) I[es.length].1) (vm0 [] (R.map .lst) (bo I) 0 [] 0) (Fy I R de es (some ws) none none):=by
 refine bc fun hG=>?_
 obtain ⟨⟨hes,hsm,hlo,hhi,hlen⟩,_,_⟩:=A
 obtain ⟨hwl,hws⟩:=hsm ws rfl
 refine hG ?_
 have hle:es.length<=1:=by
  rcases hlen with h | h | ⟨_,h⟩
  ·exact Xc h
  ·exact Nat.le_of_eq h
  ·injection h
 have hI3:=G.len
 refine k9 fun V M=>?_
 generalize hres:Fy I R de es (some ws) none none=res at M
 generalize hos:pb es ws de I[es.length+1].2 (de != I[es.length].2) I[es.length].1=os at M
 have hc0:Code os 0 (pb es ws de I[es.length+1].2 (de != I[es.length].2) I[es.length].1):=by exact hos ▸ (Code.all os)
 clear hos
 delta pb at hc0
 dsimp only at hc0
 generalize htn:I[es.length+1].2=tn at hc0
 generalize hbk:(de != I[es.length].2)=back at hc0
 generalize hco:I[es.length].1=coll at hc0
 generalize hin:cw (2 * es.length+1+3 * ws.length+3) (es.length+1) de tn none none=inner at hc0
 have c1:=hc0.right
 have c2:=c1.tail.right
 have c3:=c2.right
 have c2:=c2.left
 have c1i:=c1.tail.left
 have c1h:=c1.head
 rw [so,Nat.zero_add] at c1h c1i c2 c3
 rw [lu] at c2 c3
 generalize ho:2 * es.length+1+3 * ws.length=o at *
 have hll:(i6 o (3+((es.length+1:Nat):Int)) back inner.length inner).length=inner.length+4:=by
  delta i6;simp only [List.length_cons,List.length_append,List.length_nil]
 rw [hll] at c3
 have fin:∀ t (m:Vm),t<800->m.told=res->m.pc=((o+inner.length+4:Nat):Int)->V t m:=fun t m ht hm hp=>M.halt _ ht hp (by rw [Nat.add_assoc];exact c3.head) hm
 have dsg:∀ row∈R,rv es row (I.map (·.1))=(es.all (fun e => !isNone e)&&decide (ak I row es=0)):=fun row hr=>lm I es row (by exact Nat.le_of_lt (Nat.lt_of_succ_lt hm)) (by exact ((G.row row hr).1) ▸ (Nat.le_trans hle (Nat.le_of_ble_eq_true rfl)))
 refine Ld M (r:=4) (by exact Lo hle) rfl hc0.left hes (fun ha m1 s1 g1 o1 p1=>?_) fun ha m1 s1 p1=>fin _ _ (by exact Lo hle) (by
  rw [s1.told, ← hres]
  exact (pw fun row hr=>by delta due;rw [dsg row hr,ha];rfl).symm) p1
 rw [Nat.zero_add] at p1
 refine M.step _ (by exact Lo hle) p1 c1h ⟨rfl,s1.eph,?_⟩
 have P0:=aze [(coll,false)] (ws:=ws) (D:=[]) hws (fun _ h=>(by contradiction)) .nil
 refine xv M (D:=[]) (coll:=coll) (by exact U1 hwl hle) rfl c1i hws (fun _ h=>(by contradiction)) .nil (by rw [List.length_nil];exact Qm hwl) ⟨0,rfl⟩ fun m2 r2 i2 t2 e2 g2 p2=>?_
 generalize hD:lr [(coll,false)] ws []=D at P0 e2
 have ones:∀ d∈D,∃ v,d=[v]/\Vl v:=fun d hd=>by
  obtain ⟨v,rfl⟩:=jm (P0.ones d hd).1
  exact ⟨v,rfl,(P0.ones _ hd).2 v (.head _)⟩
 have hDl:D.length<=4:=by have:=P0.len;rw [List.length_nil] at this;exact Vq hwl this
 have inv0:Base I R m2 /\ ∀ i (h:i<es.length),rd m2 (4+(i:Int))=es[i]:=⟨⟨r2.trans s1.rows,i2.trans s1.info⟩,fun i hi=>by
  rw [g2 _ (by omega) (by omega)]
  exact g1 i hi⟩
 have p2:m2.pc=(o:Int):=by exact p2 ▸ (congrArg Nat.cast (by exact ho))
 refine xw M (D:=D) (Inv:=fun m=>Base I R m /\ ∀ i (h:i<es.length),rd m (4+(i:Int))=es[i]) (outF:=fun v=>((turned de R).filter fun row=>decide (ak I row (es++[v])=0)).map .tup) c2 rfl
  (fun m v pc e hi=>⟨⟨hi.1.rows,hi.1.info⟩,fun i h=>by
   show rd (wr m (3+((es.length+1:Nat):Int)) v) _=_
   rw [av (by omega)];exact hi.2 i h⟩) (fun m pc e hi=>⟨⟨hi.1.rows,hi.1.info⟩,hi.2⟩) ones hDl (fun m t v ht hi he hr hv hn hp h=>?_) e2 p2 inv0 (by omega) fun m3 i3 t3 p3=>?_
 ·-- an item's rows
  have K:Key m (es.length+1) (es++[v]):=⟨by rw [List.length_append,List.length_singleton],by exact Nat.lt_succ_of_le hle,Ei hes hv,fun i hi'=>by
   rw [List.length_append,List.length_singleton] at hi'
   rcases Nat.lt_or_ge i es.length with q | q
   ·exact (List.getElem_append_left q) ▸ (hi.2 i q)
   ·have:i=es.length:=by exact Vz hi' q
    subst this
    rw [List.getElem_append_right (Nat.le_refl _)]
    simp only [Nat.sub_self,List.getElem_cons_zero]
    rw [← hr]
    congr 1
    omega⟩
  have cin:Code os (o+3) (cw (o+3) (es.length+1) de tn none none):=by
   rw [hin]
   exact c2.tail.tail.tail.left
  refine xr M G (lo:=none) (hi:=none) (by exact ht) hp cin hi.1 K trivial trivial (.inr ⟨rfl,rfl,Nat.succ_pos _⟩) fun m' k' t' p'=>?_
  refine h m' ⟨hi.1.kept k',fun i h=>?_⟩ k'.eph ?_ ?_
  ·rw [k'.reg _ (by omega) (by omega) (by omega) (by omega)];exact hi.2 i h
  ·rw [t',nr G hs (by rw [List.length_append,List.length_singleton];exact Nat.lt_succ_of_le hle)]
   congr 2
   refine List.filter_congr fun row hr=>?_
   have hr:=ck hr
   have h3:=(G.row row hr).1
   have kl:(es++[v]).length=es.length+1:=by rw [List.length_append,List.length_singleton]
   have:=sk G hr (de:=de) (kv:=es++[v]) (lo:=none) (hi:=none) (by exact Wi hle kl) (by exact kl ▸ hm) (by exact Wh hle h3 kl) hlo hhi (fun _ e=>(by contradiction)) (fun _ e=>(by contradiction))
   have e1:I[(es++[v]).length]'(by exact kl ▸ hm)=I[es.length+1]:=by congr 1
   rw [e1,htn] at this
   rw [this]
   delta within okB
   simp
  ·rw [p',hin]
 ·refine fin _ _ (by exact U2 hwl hle) ?_ p3
  rw [t3,t2]
  show m1.told++_=_
  rw [s1.told, ← hres]
  show []++_=_
  rw [List.nil_append]
  have hi1:I.getD es.length (noStr,false)=I[es.length]:=by rw [List.getD_eq_getElem?_getD,List.getElem?_eq_getElem (by exact Nat.le_of_lt hm)];rfl
  rw [sr (c:=coll) (g:=fun t=>(((turned de R).filter fun row=>decide (ak I row es=0)).filter fun row=>decide (Le I back es.length row=t)).map .tup) (fun x hx=>(P0.ones x hx).1) (fun x hx=>?_)]
  ·have hp:=E4 G hs (de:=de) (es:=es) (by exact Nat.le_of_lt hm) (by exact Nat.le_trans hle (Nat.le_of_ble_eq_true rfl))
   rw [hbk] at hp
   have ff:=lq hp (xy (back:=back) P0.sorted fun x hx=>(P0.ones x hx).1)
   have fm:∀ T:List Int,T.flatMap (fun t=>(((turned de R).filter fun row=>decide (ak I row es=0)).filter fun row=>decide (Le I back es.length row=t)).map P.tup)=(T.flatMap fun t=>((turned de R).filter fun row=>decide (ak I row es=0)).filter fun row=>decide (Le I back es.length row=t)).map P.tup:=fun T=>by
    induction T with
    | nil=>rfl
    | cons t T ih=>rw [List.flatMap_cons,List.flatMap_cons,ih,List.map_append]
   rw [fm,ff,List.filter_filter]
   delta Fy
   congr 1
   refine List.filter_congr fun row hr=>?_
   have hr:=ck hr
   delta due f7
   dsimp only
   rw [dsg row hr,ha,Bool.true_and,Bool.and_comm]
   congr 1
   have e2:(I.map (·.1)).getD es.length noStr=coll:=by rw [List.getD_eq_getElem?_getD,List.getElem?_map,List.getElem?_eq_getElem (by exact Nat.le_of_lt hm), ← hco];rfl
   rw [e2, ← su (back:=back) P0 hws]
   delta Le
   rw [hi1,hco]
  ·obtain ⟨v,rfl,hv⟩:=ones x hx
   show ((turned de R).filter fun row=>decide (ak I row (es++[v])=0)).map P.tup=_
   rw [List.filter_filter]
   congr 1
   refine List.filter_congr fun row hr=>?_
   have hr:=ck hr
   have h3:=(G.row row hr).1
   obtain ⟨a1,a2⟩:=lj I row es v (by exact Nat.le_of_lt hm) (by exact Ai hle h3)
   have i2:row.getD es.length .none=row[es.length]'(by exact Ai hle h3):=by rw [List.getD_eq_getElem?_getD,List.getElem?_eq_getElem (by exact Ai hle h3)];rfl
   delta Le
   rw [hi1,i2]
   show _=(decide (kxi back (rank I[es.length].1 (row[es.length]'(by exact Ai hle h3)))=kxi back (rank coll v))&&decide (ak I row es=0))
   rw [← hco]
   rw [ll,ll] at a2
   refine ec ?_
   rw [Bool.and_eq_true,decide_eq_true_eq,decide_eq_true_eq,decide_eq_true_eq]
   constructor
   ·intro z
    have s0:ak I row es=0:=by
     induction Int.decEq (ak I row es) 0 using Decidable.casesOn with
     | isTrue h=>exact h
     | isFalse h=>have:=a1 h;exact this.symm.trans z
    obtain ⟨b1,b2,b3⟩:=a2 s0
    rcases Int.lt_trichotomy (kxi I[es.length].2 (rank I[es.length].1 (row[es.length]'(by exact Ai hle h3)))) (kxi I[es.length].2 (rank I[es.length].1 v)) with f | f | f
    ·have:=b1 f;exact Wz z this
    ·exact ⟨by rw [p8 f],s0⟩
    ·have:=b2 f;exact Wy z this
   ·rintro ⟨f,s0⟩
    exact (a2 s0).2.2 (by rw [p8 f])
end
noncomputable abbrev ax (rs:List Int):List (List P):=rs.map fun x=>[.int x]
noncomputable abbrev J1:List (Str×Bool):=[("binary",false)]
structure GoodR (rs:List Int):Prop where
 lt:rs.Pairwise (· < ·)
 in4:∀ x∈rs,1<=x/\x<=4
 few:rs.length<=4
theorem sv (rs:List Int):(ax rs).map P.lst=rs.map fun x=>.lst [.int x]:=by
 unfold ax;rw [List.map_map];rfl
noncomputable def Aa (rs:List Int) (y:Int):Bool:=rs.any fun x=>decide (x=y)
noncomputable def Lf (rs:List Int) (v:P):List P:=match v with
 | .int y=>(match Aa rs y with
  | true=>[.tup [.int y]]
  | false=>[])
 | _=>[]
theorem Pj (y:Int):∀ (rs:List Int) (i:Int),(hits y rs i=[]/\Aa rs y=false) \/ ∃ (j:Nat) (r:List Int) (h:j<rs.length),hits y rs i=(i+j)::r/\Aa rs y=true/\rs[j]=y:=by
 intro l0
 induction l0 with
 | nil =>
  intro _
  exact .inl ⟨rfl,rfl⟩
 | cons x rs ih =>
  intro i
  dsimp only [hits]
  have e:Aa (x::rs) y=(decide (x=y)||Aa rs y):=rfl
  rw [e]
  induction q:decide (x=y) using Bool.casesOn with
  | true=>exact .inr ⟨0,_,Nat.succ_pos _,by dsimp only;rw [show i+((0:Nat):Int)=i by exact Xd],rfl,of_decide_eq_true q⟩
  | false =>
   refine bc fun hG=>?_
   rcases ih (i+1) with ⟨h1,h2⟩ | ⟨j,r,hj,h1,h2,h3⟩
   ·refine hG ?_
    exact .inl ⟨h1,h2⟩
   ·refine hG ?_
    exact .inr ⟨j+1,r,Nat.succ_lt_succ hj,by dsimp only;rw [h1];congr 1;exact om78,h2,h3⟩
section
variable {os:List Op} {res:List P} {V:Nat->Vm->Prop} {rs:List Int}
theorem E5 (M:Mach os res V) (hf:rs.length<=4) {p:Nat} {m:Vm} {t:Nat} {v:P} (ht:t+4<800) (hp:m.pc=(p:Int)) (hc:Code os p [.mustInt 2 ((p+4:Nat):Int),.seekRow 0 ((p+4:Nat):Int) 2,.rowid 0 1,.row 1 1]) (hr:rd m 2=v) (hv:Vl v) (hrows:m.rows=(ax rs).map .lst)
  (h:∀ m',m'.rows=m.rows->m'.info=m.info->m'.eph=m.eph->m'.told=m.told++Lf rs v->m'.pc=((p+4:Nat):Int)->V (t+4) m'):V t m:=by
 have hr1:rd ({ m with pc:=((p+1:Nat):Int) }:Vm) 2=v:=hr
 refine M.step p (by exact Nat.lt_of_le_of_lt (Nat.le_add_right _ _) ht) hp hc.head ⟨by exact hr1 ▸ hv,?_⟩
 rw [hr1]
 have away:isInt v=false->V (t+1) (jv ((p+4:Nat):Int) { m with pc:=((p+1:Nat):Int) } true):=fun q=>by
  refine M.mono (by exact (Nat.add_le_add_left (Nat.le_of_ble_eq_true rfl) _)) (h _ rfl rfl rfl ?_ rfl)
  have:Lf rs v=[]:=by induction v using P.casesOn <;> first | rfl | injection q
  rw [this,List.append_nil]
  rfl
 induction v using P.casesOn with
 | int y =>
  refine M.step (p+1) (by exact tlt ht rfl) rfl hc.tail.head ⟨rfl,rs,y,by show m.rows=_;rw [hrows,sv],hf,hr,?_⟩
  delta Lf at h
  dsimp only at h
  refine bc fun hG=>?_
  rcases Pj y rs 0 with ⟨h1,h2⟩ | ⟨j,r,hj,h1,h2,h3⟩
  ·refine hG ?_
   rw [h2] at h
   rw [h1]
   refine M.mono (by exact (Nat.add_lt_add_left (Nat.le_of_ble_eq_true rfl) _)) (h _ rfl rfl rfl ?_ rfl)
   rw [List.append_nil];rfl
  ·refine hG ?_
   rw [h2] at h
   rw [h1]
   have hit:item m.rows (0+(j:Int))=some (.lst [.int y]):=by
    rw [hrows,Int.zero_add]
    have:=item_at (R:=ax rs) (j:=j) (by rw [List.length_map];exact hj)
    rw [this]
    congr 1
    rw [List.getElem_map,h3]
   refine M.step (p+1+1) (by exact Nat.le_of_lt (Nat.lt_of_succ_lt ht)) rfl hc.tail.tail.head ⟨rfl,_,.int y,hit,rfl,?_⟩
   refine M.step (p+1+1+1) (by exact Nat.le_of_lt ht) rfl hc.tail.tail.tail.head ⟨rfl,.inl ⟨rfl,?_⟩⟩
   refine h _ rfl rfl rfl ?_ rfl
   show m.told++[.tup [rd (wr _ 1 (.int y)) 1]]=_
   rw [cj]
 | _=>exact away rfl
theorem fq (G:GoodR rs) (y:Int):(rs.filter fun x=>decide (x=y))=(match Aa rs y with | true=>[y] | false=>[]):=by
 have key:∀ l:List Int,l.Pairwise (· < ·)->(l.filter fun x=>decide (x=y))=(match Aa l y with | true=>[y] | false=>[]):=by
  intro l
  induction l with
  | nil=>exact fun _=>rfl
  | cons x l ih =>
   intro h
   obtain ⟨h1,h2⟩:=List.pairwise_cons.mp h
   have e:Aa (x::l) y=(decide (x=y)||Aa l y):=rfl
   rw [e]
   induction q:decide (x=y) using Bool.casesOn with
   | true =>
    have q':=of_decide_eq_true q
    have none:(l.filter fun x=>decide (x=y))=[]:=List.filter_eq_nil_iff.mpr fun z hz=>by
     have:=h1 z hz
     rw [decide_eq_false (by exact Wj q' this)];decide
    rw [List.filter_cons_of_pos (p:=fun x=>decide (x=y)) q,none,q'];rfl
   | false =>
    rw [List.filter_cons_of_neg (p:=fun x=>decide (x=y)) (by rw [q];decide),ih h2];rfl
 exact key rs G.lt
noncomputable def inB (ws:List P) (x:Int):Bool:=ws.any fun w=>match w with
 | .int y=>decide (y=x)
 | _=>false
noncomputable def ba (de:Bool) (rs:List Int):List Int:=match de with
 | true=>rs.reverse
 | false=>rs
noncomputable def tupI (x:Int):P:=.tup [.int x]
theorem Js (G:GoodR rs) {v:P} (hv:Vl v) (de:Bool):Runs (kr v) (vm0 [] ((ax rs).map .lst) (bo J1) 0 [] 0) (((ba de rs).filter (inB [v])).map tupI):=by
 refine k9 fun V M=>?_
 have hc:Code (kr v) 0 (kr v):=Code.all _
 have hc2:Code (kr v) 1 [.mustInt 2 ((1+4:Nat):Int),.seekRow 0 ((1+4:Nat):Int) 2,.rowid 0 1,.row 1 1]:=(show Code (kr v) 1 ([.mustInt 2 ((1+4:Nat):Int),.seekRow 0 ((1+4:Nat):Int) 2,.rowid 0 1,.row 1 1]++[.halt]) from hc.tail).left
 refine M.step 0 (by exact Nat.succ_pos _) rfl hc.head ?_
 refine E5 M (rs:=rs) (v:=v) G.few (by exact Nat.le_add_left _ _) rfl hc2 (cj _ _ _) hv rfl fun m' r' i' e' t' p'=>?_
 refine M.halt 5 (by exact Nat.le_add_left _ _) p' rfl ?_
 rw [t']
 show []++Lf rs v=_
 rw [List.nil_append]
 have rev:∀ y,(ba de rs).filter (fun x=>decide (x=y))=rs.filter fun x=>decide (x=y):=fun y=>by
  induction de using Bool.casesOn with
  | false=>rfl
  | true =>
   show rs.reverse.filter _=_
   rw [List.filter_reverse,fq G y]
   induction Aa rs y using Bool.casesOn <;> rfl
 induction v using P.casesOn with
 | int y =>
  have:inB [.int y]=fun x=>decide (x=y):=by
   funext x
   show (decide (y=x)||false)=_
   rw [Bool.or_false]
   exact ec (by rw [decide_eq_true_eq,decide_eq_true_eq];exact Wt)
  rw [this,rev,fq G y]
  delta Lf
  dsimp only
  induction Aa rs y using Bool.casesOn <;> rfl
 | _ =>
  symm
  rw [List.filter_eq_nil_iff.mpr]
  ·rfl
  ·intro x _;exact fun e=>by injection e
theorem Jt {ws:List P} (hw:∀ w∈ws,Vl w) {x:Int} (h1:1<=x) (h4:x<=4):o9 ws (.int x) "binary" = inB ws x:=by
 have key:∀ w∈vals,∀ x∈[(1:Int),2,3,4],(!isNone w&&decide (rank "binary" w=rank "binary" (.int x)))=(match w with | .int y=>decide (y=x) | _=>false):=by decide +kernel
 have hx:x∈[(1:Int),2,3,4]:=by simp only [List.mem_cons,List.not_mem_nil,or_false];exact Qe h1 h4
 unfold o9 inB
 rw [List.any_filter]
 induction ws with
 | nil=>rfl
 | cons w ws ih =>
  rw [List.any_cons,List.any_cons,ih fun v m=>hw v (.tail _ m),key w (hw w (.head _)) x hx]
theorem Ju (G:GoodR rs) {ws:List P} (hl:ws.length<=3) (hw:∀ w∈ws,Vl w) (de:Bool):Runs (i7 ws de) (vm0 [] ((ax rs).map .lst) (bo J1) 0 [] 0) (((ba de rs).filter (inB ws)).map tupI):=by
 refine k9 fun V M=>?_
 generalize hres:((ba de rs).filter (inB ws)).map tupI=res at M
 generalize hos:i7 ws de=os at M
 have hc0:Code os 0 (i7 ws de):=by exact hos ▸ (Code.all os)
 clear hos
 delta i7 at hc0
 dsimp only at hc0
 have c1:=hc0.tail.left
 have c2:=hc0.tail.right
 have c3:=c2.right
 have c2:=c2.left
 rw [lu] at c2 c3
 rw [Nat.zero_add] at c1 c2 c3
 generalize ho:1+3 * ws.length=o at *
 have hfin:os[o+4+4]? = some .halt:=c3.head
 have P0:=aze J1 (ws:=ws) (D:=[]) hw (fun _ h=>(by contradiction)) .nil
 refine M.step 0 (by exact Nat.succ_pos _) rfl hc0.head ⟨rfl,rfl,?_⟩
 refine xv M (D:=[]) (coll := "binary") (iv:=3) (p:=1) (by exact Vn hl) rfl c1 hw (fun _ h=>(by contradiction)) .nil (by rw [List.length_nil];exact Qn hl) ⟨0,rfl⟩ fun m2 r2 i2 t2 e2 g2 p2=>?_
 generalize hD:lr [("binary",false)] ws []=D at P0 e2
 have ones:∀ d∈D,∃ v,d=[v]/\Vl v:=fun d hd=>by
  obtain ⟨v,rfl⟩:=jm (P0.ones d hd).1
  exact ⟨v,rfl,(P0.ones _ hd).2 v (.head _)⟩
 have hDl:D.length<=4:=by have:=P0.len;rw [List.length_nil] at this;exact Vr hl this
 have p2:m2.pc=(o:Int):=by exact p2 ▸ (congrArg Nat.cast ho)
 refine xw M (D:=D) (n:=4) (Inv:=fun m=>m.rows=(ax rs).map .lst) (outF:=Lf rs) c2 rfl (fun m v pc e hi=>hi) (fun m pc e hi=>hi) ones hDl (fun m t v ht hi he hr hv hn hp h=>?_) e2 p2 r2 (by exact Vk hl) fun m3 i3 t3 p3=>?_
 ·have cl:Code os (o+3) [.mustInt 2 ((o+3+4:Nat):Int),.seekRow 0 ((o+3+4:Nat):Int) 2,.rowid 0 1,.row 1 1]:=c2.tail.tail.tail.left
  exact E5 M G.few (by exact tlt ht rfl) hp cl hr hv hi fun m' r' i' e' t' p'=>M.mono (by exact (Nat.add_le_add_left (Nat.le_of_ble_eq_true rfl) _)) (h m' (r'.trans hi) e' t' p')
 ·refine M.halt (o+4+4) (by exact Vj hl) p3 hfin ?_
  rw [t3,t2]
  show []++_=_
  rw [List.nil_append, ← hres]
  have hpw:(ba de rs).Pairwise fun a b=>kxi de (1+a)<=kxi de (1+b):=by
   induction de using Bool.casesOn with
   | false=>exact G.lt.imp fun {a b} h=>by show 1+a<=1+b;exact W7 h
   | true =>
    show rs.reverse.Pairwise _
    rw [List.pairwise_reverse]
    exact G.lt.imp fun {a b} h=>by show -(1+b) <= -(1+a);exact W6 h
  have mem:∀ x∈ba de rs,x∈rs:=fun x hx=>by
   induction de using Bool.casesOn with
   | false=>exact hx
   | true=>exact List.mem_reverse.mp hx
  rw [sr (c := "binary") (g:=fun t=>((ba de rs).filter fun x=>decide (kxi de (1+x)=t)).map tupI) (fun x hx=>(P0.ones x hx).1) (fun x hx=>?_)]
  ·have ff:=lq hpw (xy (back:=de) P0.sorted fun x hx=>(P0.ones x hx).1)
   have fm:∀ T:List Int,T.flatMap (fun t=>((ba de rs).filter fun x=>decide (kxi de (1+x)=t)).map tupI)=(T.flatMap fun t=>(ba de rs).filter fun x=>decide (kxi de (1+x)=t)).map tupI:=fun T=>by
    induction T with
    | nil=>rfl
    | cons t T ih=>rw [List.flatMap_cons,List.flatMap_cons,ih,List.map_append]
   rw [fm,ff]
   congr 1
   refine List.filter_congr fun x hx=>?_
   have hx:=G.in4 x (mem x hx)
   rw [← Jt hw hx.1 hx.2, ← su (back:=de) P0 hw]
   rfl
  ·obtain ⟨v,rfl,hv⟩:=ones x hx
   show Lf rs v=((ba de rs).filter fun x=>decide (kxi de (1+x)=kxi de (rank "binary" v))).map tupI
   have rev:∀ y,(ba de rs).filter (fun x=>decide (x=y))=rs.filter fun x=>decide (x=y):=fun y=>by
    induction de using Bool.casesOn with
    | false=>rfl
    | true =>
     show rs.reverse.filter _=_
     rw [List.filter_reverse,fq G y]
     induction Aa rs y using Bool.casesOn <;> rfl
   have key:∀ w∈vals,∀ x∈[(1:Int),2,3,4],decide (1+x=rank "binary" w)=(match w with | .int y=>decide (x=y) | _=>false):=by decide +kernel
   have fc:((ba de rs).filter fun x=>decide (kxi de (1+x)=kxi de (rank "binary" v)))=(ba de rs).filter fun x=>match v with | .int y=>decide (x=y) | _=>false:=List.filter_congr fun x hx=>by
    have hx:=G.in4 x (mem x hx)
    rw [← key v hv x (by simp only [List.mem_cons,List.not_mem_nil,or_false];exact U3 hx)]
    exact ec (by rw [decide_eq_true_eq,decide_eq_true_eq];exact ⟨p8,fun e=>by rw [e]⟩)
   rw [fc]
   induction v using P.casesOn with
   | int y =>
    dsimp only
    rw [rev,fq G y]
    delta Lf
    dsimp only
    induction Aa rs y using Bool.casesOn <;> rfl
   | _ =>
    symm
    rw [List.filter_eq_nil_iff.mpr]
    ·rfl
    ·intro x _;exact fun e=>by injection e
end
end Mine
end
section
open PySem PySem.W PySem.Spec PySem.Calls PyProof.Rows PySem.SeqAt
namespace Mine
theorem E6 (de i a b c d:Bool):xh (Th de i) a b c d=pick de (pick i a b) (pick i c d):=by
 induction de using Bool.casesOn <;> induction i using Bool.casesOn <;> kernel_rfl
theorem Pk (de i:Bool):Th de i∈cmpWs:=by induction de using Bool.casesOn <;> induction i using Bool.casesOn <;> simp [Th,pick]
noncomputable def lw (de:Bool) (sp:Bd) (row:List P):Bool:=match sp,row with
 | some (.int b,i),[.int x]=>geB (!i) (dsg de (x - b))
 | _,_=>false
theorem Jv (de i:Bool) (x b:Int):xh (Th de i) (decide (x<b)) (decide (x<=b)) (decide (b<x)) (decide (b<=x))=geB (!i) (dsg de (x - b)):=by
 rw [E6]
 induction de using Bool.casesOn <;> induction i using Bool.casesOn <;> refine ec ?_ <;> simp [pick,Er,Es,Eo,Ep] <;> omega
structure KeptR (r:Int) (m m':Vm):Prop where
 rows:m'.rows=m.rows
 info:m'.info=m.info
 eph:m'.eph=m.eph
 reg:∀ j:Int,j≠1->j≠r->rd m' j=rd m j
theorem KeptR.refl (r:Int) (m:Vm):KeptR r m m:=⟨rfl,rfl,rfl,fun _ _ _=>rfl⟩
theorem KeptR.trans {r:Int} {a b c:Vm} (h:KeptR r a b) (h':KeptR r b c):KeptR r a c:=⟨h'.rows.trans h.rows,h'.info.trans h.info,h'.eph.trans h.eph,fun j x y=>(h'.reg j x y).trans (h.reg j x y)⟩
noncomputable def BdR (m:Vm) (rg:Rg) (b:Bd) (r:Int):Prop:=match rg,b with
 | none,none=>True
 | some (t,i),some (v,i')=>i=i'/\(∃ y,v = .int y)/\Vl v/\rd m t=v/\t≠1/\t≠r
 | _,_=>False
theorem BdR.view {m:Vm} {rg:Rg} {b:Bd} {r:Int} (h:BdR m rg b r):(rg=none/\b=none) \/ ∃ t i y,rg=some (t,i)/\b=some (.int y,i)/\Vl (.int y)/\rd m t = .int y/\t≠1/\t≠r:=by
 induction rg using Option.casesOn with
 | none=>induction b using Option.casesOn with
  | none=>exact .inl ⟨rfl,rfl⟩
  | some=>exact h.elim
 | some x=>induction b using Option.casesOn with
  | none=>exact h.elim
  | some z =>
   obtain ⟨v,i⟩:=z
   obtain ⟨e,⟨y,rfl⟩,h⟩:=h
   exact .inr ⟨x.1,x.2,y,rfl,congrArg some (Prod.ext rfl e.symm),h⟩
theorem BdR.kept {m m':Vm} {rg:Rg} {b:Bd} {r:Int} (h:BdR m rg b r) (k:KeptR r m m'):BdR m' rg b r:=by
 rcases h.view with ⟨rfl,rfl⟩ | ⟨t,i,y,rfl,rfl,h3,h4,h5,h6⟩
 ·exact trivial
 ·exact ⟨rfl,⟨y,rfl⟩,h3,(k.reg _ h5 h6).trans h4,h5,h6⟩
section
variable {os:List Op} {res:List P} {V:Nat->Vm->Prop} {rs:List Int}
theorem Jw (M:Mach os res V) {top E:Nat} {r:Int} {de:Bool} {spR:Rg} {sp:Bd} (h1r:r≠1) (hE:E=top+(br E r de spR).length+3)
  (hc:Code os top (br E r de spR++[.rowid 0 1,.row 1 1,.move (pick de "Prev" "Next") 0 top])) :
  ∀ (n j:Nat) (m:Vm) (t:Nat),(cx de (ax rs) j).length=n->j<(ax rs).length->m.at0=(j:Int)->m.pc=(top:Int)->m.rows=(ax rs).map .lst->m.eph=none->BdR m spR sp r->t+5 * n<800 ->
  (∀ m',KeptR r m m'->m'.told=m.told++((cx de (ax rs) j).takeWhile fun x => !lw de sp x).map .tup->m'.pc=(E:Int)->V (t+5 * n) m')->V t m:=by
 intro n
 induction n with
 | zero =>
  intro j m t hn hj _ _ _ _ _ _ _
  obtain ⟨L,e,_⟩:=cy de hj
  rw [e] at hn;injection hn
 | succ n ih =>
  intro j m t hn hj ha hp hrows he bp ht h
  obtain ⟨L,eL,hL⟩:=cy de hj
  rw [eL] at hn h
  have hn:L.length=n:=Nat.succ.inj hn
  have hj':j<rs.length:=by rw [List.length_map] at hj;exact hj
  generalize hx:rs[j]=x at *
  have eR:(ax rs)[j]=[.int x]:=by rw [List.getElem_map,hx]
  have hit:item m.rows m.at0=some (.lst [.int x]):=by rw [hrows,ha,item_at hj,eR]
  rw [eR,Ek] at h

  have after:lw de sp [.int x]=false -> ∀ m1 t1,KeptR r m m1->m1.at0=m.at0->m1.told=m.told->m1.pc=((top+(br E r de spR).length:Nat):Int)->t1<=t+2->V t1 m1:=by
   intro q m1 t1 k1 a1 e1 p1 ht1
   rw [q] at h
   have hc2:=hc.right
   have hit1:item m1.rows m1.at0=some (.lst [.int x]):=by rw [k1.rows,a1];exact hit
   refine M.step _ (by exact Vh ht ht1) p1 hc2.head ⟨rfl,_,.int x,hit1,rfl,?_⟩
   refine M.step (top+(br E r de spR).length+1) (by exact Vi ht ht1) rfl hc2.tail.head ⟨rfl,.inl ⟨rfl,?_⟩⟩
   have e2:rd (wr { m1 with pc:=((top+(br E r de spR).length+1:Nat):Int) } 1 (.int x)) 1 = .int x:=cj _ _ _
   have k2:∀ (a pc:Int) (tl:List P),KeptR r m { wr { m1 with pc:=((top+(br E r de spR).length+1:Nat):Int) } 1 (.int x) with at0:=a,pc:=pc,told:=tl }:=fun a pc tl=>⟨k1.rows,k1.info,k1.eph,fun j h1 h2=>by
    show rd (wr { m1 with pc:=((top+(br E r de spR).length+1:Nat):Int) } 1 (.int x)) j=_
    rw [av (Ne.symm h1)];exact k1.reg j h1 h2⟩
   have tl2:m1.told++[.tup [rd (wr { m1 with pc:=((top+(br E r de spR).length+1:Nat):Int) } 1 (.int x)) 1]]=m.told++[.tup [.int x]]:=by rw [e2,e1]
   have again:∀ i:Nat,i<(ax rs).length->L=cx de (ax rs) i->V (t+5) { wr { m1 with pc:=((top+(br E r de spR).length+1:Nat):Int) } 1 (.int x) with at0:=(i:Int),pc:=(top:Int),told:=m1.told++[.tup [rd (wr { m1 with pc:=((top+(br E r de spR).length+1:Nat):Int) } 1 (.int x)) 1]] }:=fun i hi eL2=>by
    refine ih i _ (t+5) (by rw [← eL2];exact hn) hi rfl rfl (k1.rows.trans hrows) (k1.eph.trans he) (bp.kept (k2 _ _ _)) (by exact Wp ht) fun m' k' t' p'=>?_
    rw [show t+5+5 * n=t+5 * (n+1) by exact Qw]
    refine h m' ((k2 _ _ _).trans k') ?_ p'
    rw [t', ← eL2]
    show (m1.told++_)++_=_
    rw [tl2,List.append_assoc]
    rfl
   have stop:L=[] -> ∀ a:Int,V (t+5) { wr { m1 with pc:=((top+(br E r de spR).length+1:Nat):Int) } 1 (.int x) with at0:=a,pc:=((top+(br E r de spR).length+1+1+1:Nat):Int),told:=m1.told++[.tup [rd (wr { m1 with pc:=((top+(br E r de spR).length+1:Nat):Int) } 1 (.int x)) 1]] }:=fun eL2 a=>by
    refine M.mono (by exact (Nat.add_le_add_left (Nat.le_of_ble_eq_true rfl) _):t+5<=t+5 * (n+1)) (h _ (k2 _ _ _) ?_ ?_)
    ·rw [eL2]
     show m1.told++_=_
     rw [tl2]
     rfl
    ·show ((top+(br E r de spR).length+1+1+1:Nat):Int)=(E:Int)
     exact congrArg Nat.cast (by exact hE.symm)
   refine M.mono (by exact W9 ht1:t1+1+1<=t+4) ?_
   refine M.step (op:=.move (pick de "Prev" "Next") 0 top) (top+(br E r de spR).length+1+1) (by exact tlt ht rfl) rfl hc2.tail.tail.head (.inl ⟨rfl,?_⟩)
   have ha1:m1.at0=(j:Int):=a1.trans ha
   have hr1:m1.rows=(ax rs).map .lst:=k1.rows.trans hrows
   induction de using Bool.casesOn with
   | false =>
    refine .inr (.inl ⟨rfl,?_⟩)
    show V (t+4+1) (jv top { wr { m1 with pc:=_ } 1 (.int x) with pc:=_,told:=_,at0:=m1.at0+1 } (inside m1.rows (m1.at0+1)))
    have e1:m1.at0+1=((j+1:Nat):Int):=by rw [ha1];rfl
    rw [e1]
    rcases hL with ⟨h1,h2⟩ | ⟨h1,h2⟩
    ·have:inside m1.rows ((j+1:Nat):Int)=false:=by
      delta inside
      rw [hr1,List.length_map,decide_eq_false (by omega:¬ ((j+1:Nat):Int)<((ax rs).length:Int)),Bool.and_false]
     rw [this]
     exact stop h2 _
    ·have:inside m1.rows ((j+1:Nat):Int)=true:=by
      delta inside
      rw [hr1,List.length_map,decide_eq_true (by exact Int.ofNat_lt.mpr h1:((j+1:Nat):Int)<((ax rs).length:Int)),decide_eq_true (Int.natCast_nonneg _)];rfl
     rw [this]
     exact again (j+1) h1 h2
   | true =>
    refine .inr (.inr ⟨rfl,?_⟩)
    show V (t+4+1) (jv top { wr { m1 with pc:=_ } 1 (.int x) with pc:=_,told:=_,at0:=m1.at0 + -1 } (inside m1.rows (m1.at0 + -1)))
    rcases hL with ⟨h1,h2⟩ | ⟨i,h1,h2⟩
    ·have:inside m1.rows (m1.at0 + -1)=false:=by
      delta inside
      rw [ha1,decide_eq_false (by omega:¬ 0<=(j:Int) + -1),Bool.false_and]
     rw [this]
     exact stop h2 _
    ·have e1:m1.at0 + -1=((i:Nat):Int):=by rw [ha1];omega
     rw [e1]
     have:inside m1.rows (i:Int)=true:=by
      delta inside
      rw [hr1,List.length_map,decide_eq_true (by omega:(i:Int)<((ax rs).length:Int)),decide_eq_true (Int.natCast_nonneg _)];rfl
     rw [this]
     exact again i (by exact V5 hj h1) h2
  rcases bp.view with ⟨q1,q2⟩ | ⟨tr,i,y,q1,q2,g3,g4,g5,g6⟩
  ·subst q1;subst q2;exact after rfl m t (.refl _ _) rfl rfl hp (by exact Nat.le_add_right _ _)
  ·subst q1;subst q2
   refine M.step top (by exact Nat.lt_of_le_of_lt (Nat.le_add_right _ _) ht) hp hc.left.head ⟨rfl,_,.int x,hit,rfl,?_⟩
   have e1:rd ({ wr { m with pc:=((top+1:Nat):Int) } r (.int x) with pc:=((top+1+1:Nat):Int) }:Vm) r = .int x:=cj _ _ _
   have e2:rd ({ wr { m with pc:=((top+1:Nat):Int) } r (.int x) with pc:=((top+1+1:Nat):Int) }:Vm) tr = .int y:=by
    show rd (wr { m with pc:=((top+1:Nat):Int) } r (.int x)) tr=_
    rw [av (Ne.symm g6)];exact g4
   refine M.step (top+1) (by exact tlt ht rfl) rfl hc.left.tail.head ⟨Pk de i,he,x,y,e1,e2,?_⟩
   rw [Jv]
   have k1:∀ pc:Int,KeptR r m { wr { m with pc:=((top+1:Nat):Int) } r (.int x) with pc:=pc }:=fun pc=>⟨rfl,rfl,rfl,fun j h1 h2=>by
    show rd (wr { m with pc:=((top+1:Nat):Int) } r (.int x)) j=_
    rw [av (Ne.symm h2)];rfl⟩
   have eq:lw de (some (.int y,i)) [.int x]=geB (!i) (dsg de (x - y)):=rfl
   induction q:geB (!i) (dsg de (x - y)) using Bool.casesOn with
   | true =>
    rw [eq,q] at h
    refine M.mono (by exact (Nat.add_lt_add_left (Nat.le_of_ble_eq_true rfl) _)) (h _ (k1 _) ?_ rfl)
    show m.told=_
    simp
   | false=>exact after (eq.trans q) _ (t+1+1) (k1 _) rfl rfl rfl (by exact Nat.le_refl _)
end
noncomputable def stB (de:Bool) (st:Bd) (row:List P):Bool:=match st,row with
 | some (.int b,i),[.int x]=>geB i (dsg de (x - b))
 | none,_=>true
 | _,_=>false
theorem Jx (x y:Int):(x<y->ak J1 [.int x] [.int y] = -1)/\(y<x->ak J1 [.int x] [.int y]=1)/\(x=y->ak J1 [.int x] [.int y]=0):=by
 obtain ⟨p1,p2,p3⟩:=bw ("binary",false) [] (.int x) (.int y) [] []
 have e:∀ v:Int,kx ("binary",false) (.int v)=1+v:=fun _=>rfl
 rw [e,e] at p1 p2 p3
 rw [cb] at p3
 exact ⟨fun h=>p1 (by exact Ah h),fun h=>p2 (by exact Ah h),fun h=>p3 (by exact Xa h)⟩
theorem vq (de i:Bool) (x y:Int):geB i (dsg de (x - y))=geB i (dsg de (sI (cI x y))):=by
 rcases Int.lt_trichotomy x y with f | f | f
 ·rw [z6 f]
  induction de using Bool.casesOn <;> induction i using Bool.casesOn <;> refine ec ?_ <;> simp only [Er,Es,Eo,Ep,sI] <;> omega
 ·rw [f,z7,Int.sub_self];rfl
 ·rw [sh f]
  induction de using Bool.casesOn <;> induction i using Bool.casesOn <;> refine ec ?_ <;> simp only [Er,Es,Eo,Ep,sI] <;> omega
theorem Jy (de i:Bool) (x y:Int):ft (aq (ce de i)) (ak J1 [.int x] [.int y])=geB i (dsg de (x - y)):=by
 rw [pk _ _ (fi _ _ _),vq]
 obtain ⟨p1,p2,p3⟩:=Jx x y
 rcases Int.lt_trichotomy x y with f | f | f
 ·rw [p1 f,z6 f];rfl
 ·rw [p3 f,f,z7];rfl
 ·rw [p2 f,sh f];rfl
noncomputable def intB (b:Bd):Prop:=∀ x,b=some x -> ∃ y,x.1 = .int y
noncomputable def Ub (x:Int) (b:Bd):LO:=b.map fun z=>(cI x (match z.1 with | .int y=>y | _=>0),z.2)
noncomputable def okC (low:Bool):LO->Bool
 | none=>true
 | some (c,i)=>(match low,c with | true,.gt=>true | false,.lt=>true | _,_=>false)||(i&&(match c with | .eq=>true | _=>false))
noncomputable def stC (de:Bool):LO->Bool
 | none=>true
 | some (c,i)=>geB i (dsg de (sI c))
noncomputable def paC (de:Bool):LO->Bool
 | none=>false
 | some (c,i)=>geB (!i) (dsg de (sI c))
theorem intB.view {b:Bd} (h:intB b):b=none \/ ∃ y i,b=some (.int y,i):=by
 induction b using Option.casesOn with
 | none=>exact .inl rfl
 | some z =>
  obtain ⟨v,i⟩:=z
  obtain ⟨y,hy⟩:=h _ rfl
  exact .inr ⟨y,i,by rw [show v = .int y from hy]⟩
theorem E7 {x:Int} {low:Bool} {b:Bd} (h:intB b):okB (.int x) "binary" low b=okC low (Ub x b):=by
 rcases h.view with rfl | ⟨y,i,rfl⟩
 ·rfl
 ·show (P7 (.int x) "binary" low (.int y)||(i&&decide (rank "binary" (.int x)=rank "binary" (.int y))))=((match low,cI x y with | true,.gt=>true | false,.lt=>true | _,_=>false)||(i&&(match cI x y with | .eq=>true | _=>false)))
  have e:∀ v:Int,rank "binary" (.int v)=1+v:=fun _=>rfl
  unfold P7
  rw [e,e]
  rcases Int.lt_trichotomy x y with q | q | q
  ·rw [z6 q,decide_eq_false (show ¬ 1+x=1+y by exact Wg q),decide_eq_true (show 1+x<1+y by exact Ah q),decide_eq_false (show ¬ 1+y<1+x by exact Qt q)];induction low using Bool.casesOn <;> rfl
  ·subst q;rw [z7,decide_eq_true rfl,decide_eq_false (Int.lt_irrefl _)];induction low using Bool.casesOn <;> rfl
  ·rw [sh q,decide_eq_false (show ¬ 1+x=1+y by exact Wf q),decide_eq_true (show 1+y<1+x by exact Ah q),decide_eq_false (show ¬ 1+x<1+y by exact Qt q)];induction low using Bool.casesOn <;> rfl
theorem E8 {de:Bool} {x:Int} {b:Bd} (h:intB b):stB de b [.int x]=stC de (Ub x b):=by
 rcases h.view with rfl | ⟨y,i,rfl⟩
 ·rfl
 ·exact vq de i x y
theorem E9 {de:Bool} {x:Int} {b:Bd} (h:intB b):lw de b [.int x]=paC de (Ub x b):=by
 rcases h.view with rfl | ⟨y,i,rfl⟩
 ·rfl
 ·exact vq de (!i) x y
theorem Pm:(allB fun de=>Ph fun lo=>Ph fun hi=>(stC de (pick de hi lo) && !paC de (pick de lo hi)) == (okC true lo&&okC false hi))=true:=by decide +kernel
theorem Jz (de:Bool) {lo hi:Bd} (hl:intB lo) (hh:intB hi) (x:Int):(stB de (pick de hi lo) [.int x] && !lw de (pick de lo hi) [.int x])=within (.int x) "binary" lo hi:=by
 unfold within
 rw [E7 hl,E7 hh]
 have key:=eq_of_beq (pv (pv (pu Pm de) (Ub x lo)) (Ub x hi))
 rw [← key]
 induction de using Bool.casesOn with
 | true=>show (stB true hi [.int x] && !lw true lo [.int x])=_;rw [E8 hh,E9 hl];rfl
 | false=>show (stB false lo [.int x] && !lw false hi [.int x])=_;rw [E8 hl,E9 hh];rfl
theorem lx (de:Bool) (rs:List Int):turned de (ax rs)=(ba de rs).map fun x=>[.int x]:=by
 induction de using Bool.casesOn with
 | false=>rfl
 | true=>show (rs.map fun x=>[P.int x]).reverse=rs.reverse.map fun x=>[P.int x];rw [List.map_reverse]
theorem J0 {de:Bool} {st:Bd} (hs:intB st) {x y:Int} (h:dsg de x<=dsg de y) (q:stB de st [.int x]=true):stB de st [.int y]=true:=by
 rcases hs.view with rfl | ⟨b,i,rfl⟩
 ·rfl
 ·exact dp (i:=i) (by induction de using Bool.casesOn <;> simp only [Eo,Ep] at * <;> omega) q
theorem Ab {de:Bool} {sp:Bd} (hs:intB sp) {x y:Int} (h:dsg de x<=dsg de y) (q:lw de sp [.int x]=true):lw de sp [.int y]=true:=by
 rcases hs.view with rfl | ⟨b,i,rfl⟩
 ·exact q
 ·exact dp (i := !i) (by induction de using Bool.casesOn <;> simp only [Eo,Ep] at * <;> omega) q
theorem Lg {m:Vm} {k:Nat} {b:Bd} {r:Int} (hi:intB b) (hv:bOk b) (hr:∀ x,b=some x->rd m k=x.1) (h1:(k:Int)≠1) (h2:b≠none->(k:Int)≠r):BdR m (ie k b) b r:=by
 induction b using Option.casesOn with
 | none=>exact trivial
 | some z=>exact ⟨rfl,hi z rfl,hv z rfl,hr z rfl,h1,h2 nofun⟩
theorem x6 {b:Bd} (h:b≠none):bdN b=1:=by
 induction b using Option.casesOn with
 | none=>exact absurd rfl h
 | some=>rfl
theorem nt {rs:List Int} (G:GoodR rs) (de:Bool) {lo hi:Bd} (hl:intB lo) (hh:intB hi) :
  (((turned de (ax rs)).dropWhile fun x => !stB de (pick de hi lo) x).takeWhile fun x => !lw de (pick de lo hi) x).map P.tup=((ba de rs).filter fun x=>within (.int x) "binary" lo hi).map tupI:=by
 have hpw:(ba de rs).Pairwise fun a b=>dsg de a<=dsg de b:=by
  induction de using Bool.casesOn with
  | false=>exact G.lt.imp fun {a b} h=>by show a<=b;exact Int.le_of_lt h
  | true =>
   show rs.reverse.Pairwise _
   rw [List.pairwise_reverse]
   exact G.lt.imp fun {a b} h=>by show -b <= -a;exact W8 h
 have h1:intB (pick de hi lo):=by induction de using Bool.casesOn <;> assumption
 have h2:intB (pick de lo hi):=by induction de using Bool.casesOn <;> assumption
 rw [lx,sd (List.pairwise_map.mpr (hpw.imp fun {a b} h=>⟨J0 h1 h,Ab h2 h⟩))]
 rw [List.filter_map,List.map_map]
 have e:(fun x:List P=>stB de (pick de hi lo) x && !lw de (pick de lo hi) x) ∘ (fun x:Int=>[P.int x])=fun x=>within (.int x) "binary" lo hi:=by
  funext x
  exact Jz de hl hh x
 rw [e]
 rfl
theorem Uc {rs:List Int} (G:GoodR rs) (de:Bool) {lo hi:Bd} (hlo:∀ x,lo=some x -> ∃ y,x.1 = .int y/\Vl (.int y)) (hhi:∀ x,hi=some x->(x.1 = .none \/ ∃ y,x.1 = .int y)/\Vl x.1) :
  Runs (vj lo hi de) (vm0 [] ((ax rs).map .lst) (bo J1) 0 [] 0) (((ba de rs).filter fun x=>within (.int x) "binary" lo hi).map tupI):=by
 refine k9 fun V M=>?_
 generalize hres:((ba de rs).filter fun x=>within (.int x) "binary" lo hi).map tupI=res at M
 generalize hos:vj lo hi de=os at M
 have hc0:Code os 0 (vj lo hi de):=by exact hos ▸ (Code.all os)
 clear hos
 delta vj at hc0
 dsimp only at hc0
 generalize hr:((2+bdN lo+bdN hi:Nat):Int)=r at hc0
 generalize hst:pick de (ie (2+bdN lo) hi) (ie 2 lo)=stR at hc0
 generalize hsp:pick de (ie 2 lo) (ie (2+bdN lo) hi)=spR at hc0
 have jm:∀ E E':Int,(br E r de spR).length=(br E' r de spR).length:=fun E E'=>by delta br;split <;> rfl
 generalize hE:2 * bdN lo+2 * bdN hi+1+(br 0 r de spR).length+3=E at hc0
 have hpl:∀ E:Int,(Im E de stR).length=1:=fun E=>by delta Im;split <;> rfl
 have c1:=hc0.right
 have c2:=c1.right
 have c3:=c2.right
 rw [il,Nat.zero_add] at c1 c2 c3
 rw [il] at c2 c3
 rw [hpl] at c3
 have c4:=c3.right
 have hfin:os[E]? = some .halt:=by
  have:=c4.tail.tail.tail.head
  rw [jm (E:Int) 0] at this
  rw [← this]
  congr 1
  exact hE.symm
 have fin:∀ t (m:Vm),t<800->m.told=res->m.pc=(E:Int)->V t m:=fun t m ht hm hp=>M.halt E ht hp hfin hm
 have vlo:bOk lo:=fun x e=>by obtain ⟨y,h1,h2⟩:=hlo x e;exact h1 ▸ h2
 have vhi:bOk hi:=fun x e=>(hhi x e).2
 have nul:((∃ x,lo=some x/\isNone x.1=true) \/ ∃ x,hi=some x/\isNone x.1=true)->res=[]:=fun h=>by
  rw [← hres,List.filter_eq_nil_iff.mpr (fun x _=>by rw [lp h];decide)]
  rfl
 refine Jq M (by exact Nat.le_add_left _ _) rfl hc0.left vlo (fun n1 m1 s1 r1 o1 p1=>?_) fun ha m1 s1 p1=>fin _ _ (by exact Nat.le_add_left _ _) (by rw [s1.told,nul (.inl ha)];rfl) p1
 rw [Nat.zero_add] at p1
 refine Jq M (by exact Nat.le_add_left _ _) p1 c1.left vhi (fun n2 m2 s2 r2 o2 p2=>?_) fun ha m2 s2 p2=>fin _ _ (by exact Nat.le_add_left _ _) (by rw [s2.told,s1.told,nul (.inr ha)];rfl) p2
 have s12:=s1.trans s2
 have ilo:intB lo:=fun x e=>by obtain ⟨y,h,_⟩:=hlo x e;exact ⟨y,h⟩
 have ihi:intB hi:=fun x e=>by
  rcases (hhi x e).1 with h | h
  ·have:=n2 x e;rw [h] at this;injection this
  ·exact h
 have rlo:∀ x,lo=some x->rd m2 2=x.1:=fun x e=>by
  have:bdN lo=1:=by rw [e];rfl
  rw [o2 _ (by omega)];exact r1 x e
 have bl:BdR m2 (ie 2 lo) lo r:=Lg ilo vlo rlo (by decide) fun q=>by rw [← hr,x6 q];omega
 have bh:BdR m2 (ie (2+bdN lo) hi) hi r:=Lg ihi vhi r2 (by omega) fun q=>by rw [← hr,x6 q];omega
 have bs:BdR m2 stR (pick de hi lo) r:=by rw [← hst];induction de using Bool.casesOn <;> assumption
 have bp:BdR m2 spR (pick de lo hi) r:=by rw [← hsp];induction de using Bool.casesOn <;> assumption
 have h1r:r≠1:=by rw [← hr];omega
 have hrows:m2.rows=(ax rs).map .lst:=s12.rows
 have heph:m2.eph=none:=s12.eph
 have p2:m2.pc=((2 * bdN lo+2 * bdN hi:Nat):Int):=p2
 have hR4:(ax rs).length<=4:=by rw [List.length_map];exact G.few

 have go:∀ (m:Vm) (j t:Nat),KeptR r m2 m->m.told=m2.told->j<(ax rs).length->m.at0=(j:Int)->m.pc=((2 * bdN lo+2 * bdN hi+1:Nat):Int)->t<=100->(turned de (ax rs)).dropWhile (fun x => !stB de (pick de hi lo) x)=cx de (ax rs) j->V t m:=fun m j t k e hj ha hp ht hd=>by
  have hv:(cx de (ax rs) j).length<=4:=by
   delta cx;split
   ·rw [List.length_reverse,List.length_take];exact Lj hR4
   ·rw [List.length_drop];exact Li hR4
  have c5:Code os (2 * bdN lo+2 * bdN hi+1) ((br E r de spR++[.rowid 0 1,.row 1 1,.move (pick de "Prev" "Next") 0 ((2 * bdN lo+2 * bdN hi+1:Nat):Int)])++[.halt]):=by
   rw [List.append_assoc];exact c3
  refine Jw M (E:=E) h1r (by exact (jm (E:Int) 0) ▸ (hE.symm)) c5.left _ j m t rfl hj ha hp (k.rows.trans hrows) (k.eph.trans heph) (bp.kept k) (by exact Qj ht hv) fun m' k' t' p'=>?_
  refine fin _ _ (by exact Qj ht hv) ?_ p'
  rw [t',e,s12.told, ← hres, ← hd]
  show []++_=_
  rw [List.nil_append]
  exact nt G de ilo ihi
 have out:∀ (m:Vm) (t:Nat),m.told=m2.told->m.pc=(E:Int)->t<=100->(turned de (ax rs)).dropWhile (fun x => !stB de (pick de hi lo) x)=[]->V t m:=fun m t e hp ht hd=>by
  refine fin _ _ (by exact Nat.lt_of_le_of_lt ht (Nat.le_of_ble_eq_true rfl)) ?_ hp
  have:=nt G de ilo ihi
  rw [hd] at this
  rw [e,s12.told, ← hres, ← this]
  rfl
 have cpre:=c2.left
 have ipk:intB (pick de hi lo):=by induction de using Bool.casesOn <;> assumption
 dsimp only [Im] at cpre
 generalize pick de hi lo=st at *
 rcases bs.view with ⟨q1,q2⟩ | ⟨tr,i,y,q1,q2,g3,g4,g5,g6⟩
 ·subst q1;subst q2
  have all:∀ l:List (List P),l.dropWhile (fun x => !stB de none x)=l:=fun l=>by induction l using List.casesOn <;> rfl
  rw [all] at go out
  have e1:m2.rows.isEmpty=(ax rs).isEmpty:=by rw [hrows];induction rs using List.casesOn <;> rfl
  have e2:m2.rows.length=(ax rs).length:=by rw [hrows,List.length_map]
  refine M.step _ (by exact Nat.le_add_left _ _) p2 cpre.head (.inl ⟨rfl,.inl ⟨heph,?_⟩⟩)
  induction de using Bool.casesOn with
  | false =>
   refine .inl ⟨rfl,?_⟩
   show V _ (jv E { m2 with pc:=_,at0:=0 } m2.rows.isEmpty)
   rw [e1]
   induction hb:(ax rs).isEmpty using Bool.casesOn with
   | true=>exact out _ _ rfl rfl (by exact Nat.le_add_left _ _) (List.isEmpty_iff.mp hb)
   | false=>exact go _ 0 _ ⟨rfl,rfl,rfl,fun _ _ _=>rfl⟩ rfl (List.length_pos_iff.mpr fun e=>by rw [e] at hb;injection hb) rfl rfl (by exact Nat.le_add_left _ _) rfl
  | true =>
   refine .inr ⟨rfl,?_⟩
   show V _ (jv E { m2 with pc:=_,at0:=(m2.rows.length:Int) - 1 } m2.rows.isEmpty)
   rw [e1,e2]
   induction hb:(ax rs).isEmpty using Bool.casesOn with
   | true=>exact out _ _ rfl rfl (by exact Nat.le_add_left _ _) (by show (ax rs).reverse=[];rw [List.isEmpty_iff.mp hb];rfl)
   | false =>
    have hpos:0<(ax rs).length:=List.length_pos_iff.mpr fun e=>by rw [e] at hb;injection hb
    refine go _ ((ax rs).length - 1) _ ⟨rfl,rfl,rfl,fun _ _ _=>rfl⟩ rfl (by omega) (by show ((ax rs).length:Int) - 1=_;omega) rfl (by exact Nat.le_add_left _ _) ?_
    show (ax rs).reverse=((ax rs).take ((ax rs).length - 1+1)).reverse
    rw [List.take_of_length_le (by exact Qg)]
 ·subst q1;subst q2
  have dw:(turned de (ax rs)).dropWhile (fun x => !stB de (some (.int y,i)) x)=(turned de (ax rs)).dropWhile fun x => !ft (aq (ce de i)) (ak J1 x [.int y]):=by
   rw [lx]
   have key:∀ l:List Int,(l.map fun x=>[P.int x]).dropWhile (fun x => !stB de (some (.int y,i)) x)=(l.map fun x=>[P.int x]).dropWhile fun x => !ft (aq (ce de i)) (ak J1 x [.int y]):=by
    intro l
    induction l with
    | nil=>rfl
    | cons x l ih =>
     rw [List.map_cons,List.dropWhile_cons,List.dropWhile_cons,ih,Jy]
     rfl
   exact key _
  rw [dw] at go out
  have hk:keyOf ({ m2 with pc:=((2 * bdN lo+2 * bdN hi+1:Nat):Int) }:Vm) tr (Nat.max 0 1)=[.int y]:=by
   show [rd m2 (tr+0)]=_
   rw [Int.add_zero,g4]
  refine M.step _ (by exact Nat.le_add_left _ _) p2 cpre.head ⟨rfl,.inr ⟨xp de i,0,rfl,.inr ⟨.head _,heph⟩,?_,?_,?_⟩⟩
  ·show m2.rows.length<=4
   rw [hrows,List.length_map];exact hR4
  ·intro x hx
   have hx:x∈m2.rows:=hx
   rw [hrows] at hx
   obtain ⟨z,hz,rfl⟩:=List.mem_map.mp hx
   obtain ⟨a,ha,rfl⟩:=List.mem_map.mp hz
   refine ⟨_,rfl,J1,?_,.inr ⟨rfl,rfl,?_⟩,?_,?_⟩
   ·show m2.info=_
    rw [s12.info];rfl
   ·rw [hk];rfl
   ·intro v hv
    cases hv with
    | head=>exact jh (by have:=G.in4 a ha;exact Ll this) (by have:=G.in4 a ha;exact Lk this)
    | tail _ m=>nomatch m
   ·rw [hk]
    intro v hv
    cases hv with
    | head=>exact g3
    | tail _ m=>nomatch m
  ·rw [hk]
   have hinf:m2.info=bo J1:=s12.info
   rcases nq de i (I:=J1) (key:=[.int y]) (R:=ax rs) (l:=(E:Int)) (m:={ m2 with pc:=((2 * bdN lo+2 * bdN hi+1:Nat):Int) }) hrows hinf with ⟨e1,e2⟩ | ⟨j,hj,e1,e2⟩
   ·exact e1 ▸ (out _ _ rfl rfl (by exact Nat.le_add_left _ _) e2)
   ·exact e1 ▸ (go _ j _ ⟨rfl,rfl,rfl,fun _ _ _=>rfl⟩ rfl hj rfl rfl (by exact Nat.le_add_left _ _) e2)
end Mine
end
section
open PySem PySem.W PySem.Spec PySem.Calls PyProof.Rows PySem.SeqAt
set_option tactic.hygienic false
namespace Mine
noncomputable def Zb (row:List P) (asked coll:P):Bool:=match asked,coll with
 | .tup [es,sm,lo,hi],.str c=>due (unL es) (Du sm) (ay lo) (ay hi) row [c, "binary", "binary"]
 | _,_=>false
noncomputable def ji (rows:List P) (asked coll:P):List P:=(rows.filter fun r=>Zb (unP r) asked coll).map fun r=>.tup (unP r)
noncomputable def C865:Cc:=fun e elt gg sc iv s Q=>match iv with
 | .lst rows=>opt False (cellP e s "asked") fun asked=>opt False (cellP e s "collation") fun coll=>Gc e elt gg sc (.lst rows) s (.lst (ji rows asked coll))/\Q (.p (.lst (ji rows asked coll))) s
 | _=>False
noncomputable def hdP (r:P):P:=(unP r).headD .none
noncomputable def inBP (ws:P) (x:P):Bool:=match x with
 | .int i=>inB' (unL ws) i
 | _=>false
where inB' (ws:List P) (x:Int):Bool:=ws.any fun w=>match w with
 | .int y=>decide (y=x)
 | _=>false
noncomputable def ef (rows:List P) (sm:P):List P:=(rows.filter fun r=>inBP sm (hdP r)).map fun r=>.tup [hdP r]
noncomputable def C873:Cc:=fun e elt gg sc iv s Q=>match iv with
 | .lst rows=>opt False (cellP e s "some") fun sm=>Gc e elt gg sc (.lst rows) s (.lst (ef rows sm))/\Q (.p (.lst (ef rows sm))) s
 | _=>False
noncomputable def cq (rows:List P) (lo hi:P):List P:=(rows.filter fun r=>within (hdP r) "binary" (ay lo) (ay hi)).map fun r=>.tup [hdP r]
noncomputable def C875:Cc:=fun e elt gg sc iv s Q=>match iv with
 | .lst rows=>opt False (cellP e s "low") fun lo=>opt False (cellP e s "high") fun hi=>Gc e elt gg sc (.lst rows) s (.lst (cq rows lo hi))/\Q (.p (.lst (cq rows lo hi))) s
 | _=>False
theorem Pn:P6 O12 C865:=by
 intro e elt gg sc iv s Q h
 unfold C865 at h
 split at h
 ·obtain ⟨a,_,h⟩:=ac h
  obtain ⟨c,_,h⟩:=ac h
  exact ⟨60,h.1 Q h.2⟩
 ·exact h.elim
theorem Po:P6 O12 C873:=by
 intro e elt gg sc iv s Q h
 unfold C873 at h
 split at h
 ·obtain ⟨a,_,h⟩:=ac h
  exact ⟨60,h.1 Q h.2⟩
 ·exact h.elim
theorem Pq:P6 O12 C875:=by
 intro e elt gg sc iv s Q h
 unfold C875 at h
 split at h
 ·obtain ⟨a,_,h⟩:=ac h
  obtain ⟨c,_,h⟩:=ac h
  exact ⟨60,h.1 Q h.2⟩
 ·exact h.elim
noncomputable def vt (l:Nat):Option Cc:=match Nat.beq l 865 with
 | true=>some C865
 | false=>match Nat.beq l 873 with
  | true=>some C873
  | false=>match Nat.beq l 875 with
   | true=>some C875
   | false=>none
noncomputable def O12c:Known Prop:=⟨O12.call,vt⟩
noncomputable def O16:Known Prop:=⟨O15.call,vt⟩
theorem Ud {T:Pl} {w:World} {K:Frag} {lz:List Str} {mn:ExcName->Option Value} {mg mb:Str->Option Value}:KnownOK T w K lz mn mg mb O16:=by
 have n12:KnownOK T w K lz mn mg mb O12:=a9 (a9 (a9 (a9 (a9 (a9 (a9 (a9 (a9 (a9 (a9 (a9 w7 Do) K2) w9) xa) Dt) rq) m9) nc) ru) K4) K6) K8
 have n12c:KnownOK T w K lz mn mg mb O12c:=by
  refine o4 n12 (fun c m C h=>.inl h) fun l C h=>?_
  unfold O12c vt at h
  dsimp only at h
  split at h
  ·(injection h with h;subst h);exact .inr Pn
  ·split at h
   ·(injection h with h;subst h);exact .inr Po
   ·split at h
    ·(injection h with h;subst h);exact .inr Pq
    ·injection h
 exact ⟨n12c.comp,O15_ok.call⟩
noncomputable def tabsH (a b:Int):Tr:=.node (.tab "_law_program" false) (.node (.tab "walk_list" false) (.node (.tab "walk_index" false) .nil .nil) .nil) (.node (.tab "walk_rowid" false) (.node (.list [.int a,.int b]) .nil .nil) .nil)
noncomputable def Zc (a b:Int) (x y:V):Tr:=.node (.tab "_law_program" false) (.node (.tab "walk_list" false) (.node (.tab "walk_index" false) .nil .nil) (.node (.cell (some x)) .nil .nil)) (.node (.tab "walk_rowid" false) (.node (.list [.int a,.int b]) .nil .nil) (.node (.cell (some y)) .nil .nil))
noncomputable def Fb (info:P) (K:List P->Int->Int->Prop):Nat->Int->List P->Int->Int->Prop
 | 0,_,rows,a,b=>K rows a b
 | n+1,i,rows,a,b=>Us a b fun v a b=>Us a b fun w a b=>Ta info rows [v,w,.int (i+1)]/\Fb info K n (i+1) ((placed (cp info) (rows.map unP) [v,w,.int (i+1)]).map .lst) a b
noncomputable def mf (path:P) (n:Int) (rows:List P) (info:P) (dl:List P) (F:V->Option (List VO)->Prop):Prop :=
 (some (VO.tab "_law_program" false)=some (VO.tab "_law_program" false)/\some (VO.tab "walk_list" false)=some (VO.tab "walk_list" false)/\some (VO.tab "walk_rowid" false)=some (VO.tab "walk_rowid" false)/\some (VO.tab "walk_index" false)=some (VO.tab "walk_index" false)) /\
  ∃ os,nj path n os /\ ∀ l r i,∃ rows' info' at0 os' told,some (tb rows info 0)=some (tb rows' info' at0)/\os.map enc=os'.map enc/\Runs os' (vm0 [] rows' info' at0 [] 0) told /\ ∀ o:VO,opt False (du (.lst told) (.lst dl)) fun b=>F (.p (.bool b)) (l9 l r i)
noncomputable def eI:En:=⟨fnS "_law_index_right",[("asked",6),("collation",5)],2,0,none⟩
noncomputable def lcI:Expr×Comprehension×Scope:=Qa 4 (fnB "_law_index_right")
noncomputable def Pr:Nat->List (Str×V)
 | 0=>[]
 | n+1=>[("turn",.p (.int n))]
noncomputable def Ue (c:Str) (x y:Bool) (path asked info:P) (rows:List P) (n:Nat) (a b:Int):St:=⟨("source",.ref 4)::("downs",.p (.lst [.bool x,.bool y]))::("path",.p path)::("info",.p info)::("rows",.p (.lst rows))::Pr n,Zc a b (.p (.str c)) (.p asked),7⟩
noncomputable def sx (c:Str) (x y:Bool):List (Str×Bool):=[(c,x),("binary",y),("binary",false)]
noncomputable def Ug (a b:Int) (F:V->Option (List VO)->Prop):Prop :=
 z0 [.str "binary",.str "nocase"] a b fun col a b=>i5 2 a b fun x a b=>i5 2 a b fun y a b=>match col with
  | .str c=>Src a b /\ ∀ es sm lo hi de,ia es sm lo hi -> ∀ a b,Src a b->z0 [.int 0,.int 2,.int 3,.int 4] a b fun n a b=>match n with
   | .int n=>Fb (bo (sx c (decide (x=1)) (decide (y=1)))) (fun rows a b =>
     let path:=bf "index" (idxP (colsP (c,decide (x=1)) ("binary",decide (y=1)))) es sm lo hi true de
     let asked:=bz es sm lo hi
     let info:=bo (sx c (decide (x=1)) (decide (y=1)))
     let dl:=ji rows asked (.str c)
     Gc eI lcI.1 lcI.2.1 lcI.2.2 (.lst rows) (Ue c (decide (x=1)) (decide (y=1)) path asked info rows n.toNat a b) (.lst dl)/\cnd de (mf path 3 rows info dl.reverse F) (mf path 3 rows info dl F)) n.toNat 0 [] a b
   | _=>False
  | _=>False
set_option maxHeartbeats 1000000 in
theorem J2 (loc:List (Str×V)) (a b:Int) (F:V->Option (List VO)->Prop):af False (ev False O16 200) 1 noStr "_law_index_right" [.ref 4] ⟨loc,tabsH a b,5⟩ (fun v s=>F v (ah s [0,1,2,3]))=Ug a b F:=by kernel_rfl
noncomputable def Zd (a b:Int) (s l h:P):Tr:=.node (.tab "_law_program" false) (.node (.tab "walk_list" false) (.node (.tab "walk_index" false) (.node (.cell (some (.p l))) .nil .nil) .nil) (.node (.cell (some (.ref 4))) .nil .nil)) (.node (.tab "walk_rowid" false) (.node (.list [.int a,.int b]) (.node (.cell (some (.p h))) .nil .nil) .nil) (.node (.cell (some (.p s))) .nil .nil))
noncomputable def eR:En:=⟨fnS "_law_rowids_right",[("high",8),("low",7),("some",6),("source",5)],2,0,none⟩
noncomputable def Ze:Nat->List Stmt->List Stmt×List Stmt
 | _,[]=>([],[])
 | 0,.If _ x y _::_=>(x,y)
 | 0,_::_=>([],[])
 | n+1,_::r=>Ze n r
noncomputable def lcA:Expr×Comprehension×Scope:=Qa 0 (Ze 3 (fnB "_law_rowids_right")).1
noncomputable def lcB:Expr×Comprehension×Scope:=Qa 0 (Ze 3 (fnB "_law_rowids_right")).2
noncomputable def Uh (path:P) (ask lo hi:P) (rows:List P) (a b:Int):St:=⟨[("path",.p path),("asked",.p (.tup [ask,lo,hi])),("rows",.p (.lst rows))],Zd a b ask lo hi,9⟩
noncomputable def J3 (K:List P->Int->Int->Prop):Nat->Int->List P->Int->Int->Prop
 | 0,_,acc,a,b=>K acc a b
 | n+1,i,acc,a,b=>i5 4 a b fun x a b=>cnd (decide (0<x)) (J3 K n (i+1) (acc++[.lst [.int i]]) a b) (J3 K n (i+1) acc a b)
noncomputable def Ui (a b:Int) (F:V->Option (List VO)->Prop):Prop :=
 Src a b /\ ∀ kd es sm lo hi ask de,RowAsk kd es sm lo hi ask -> ∀ a b,Src a b->J3 (fun rows a b =>
  let path:=bf kd .none es sm lo hi false de
  let info:=bo [("binary",false)]
  let d1:=ef rows (jn ask)
  let d2:=cq rows (aj lo) (aj hi)
  opt False (cmp .IsNot (.p (jn ask)) (.p .none) s0) fun c=>cnd c
   (Gc eR lcA.1 lcA.2.1 lcA.2.2 (.lst rows) (Uh path (jn ask) (aj lo) (aj hi) rows a b) (.lst d1)/\cnd de (mf path 1 rows info d1.reverse F) (mf path 1 rows info d1 F))
   (Gc eR lcB.1 lcB.2.1 lcB.2.2 (.lst rows) (Uh path (jn ask) (aj lo) (aj hi) rows a b) (.lst d2)/\cnd de (mf path 1 rows info d2.reverse F) (mf path 1 rows info d2 F))) 4 1 [] a b
set_option maxHeartbeats 1000000 in
theorem J4 (loc:List (Str×V)) (a b:Int) (F:V->Option (List VO)->Prop):af False (ev False O16 200) 1 noStr "_law_rowids_right" [.ref 4] ⟨loc,tabsH a b,5⟩ (fun v s=>F v (ah s [0,1,2,3]))=Ui a b F:=by kernel_rfl
noncomputable def hT:Tr:=.node (.tab "_law_program" false) (.node (.tab "walk_list" false) (.node (.tab "walk_index" false) .nil .nil) .nil) (.node (.tab "walk_rowid" false) .nil .nil)
noncomputable def eL:En:=⟨fnS "law",[],1,0,none⟩
noncomputable def eP:En:=⟨fnS "_law_pool",[],2,2,none⟩
noncomputable def tgtOf:List Stmt->Expr
 | .Assign [t] _ _::_=>t
 | _=>noE
noncomputable def S4':St:=⟨[],hT,4⟩
noncomputable def sL (xs:List P):St:=⟨[("script",.p (.lst xs))],hT,4⟩
noncomputable def Qb (C:V->St->Prop):Fl->St->Prop:=fun f s'=>leave false S4' s' f C
theorem Pt (xs:List P) (C:V->St->Prop):af False (ev False O16 204) 0 noStr "law" [.p (.lst xs)] S4' C =
  af False (ev False O16 201) 1 noStr "_law_pool" [.p (.lst xs),.p (.int 0)] (sL xs) fun v s=>assign False (ev False O16 203) eL (tgtOf (fnB "law")) v s fun s=>evSs False O16 (ev False O16 203) eL ((fnB "law").drop 1) s (Qb C):=by kernel_rfl
noncomputable def sP (xs:List P) (c:V):St:=⟨[("script",.p (.lst xs)),("k",.p (.int 0)),("cell",c)],hT,4⟩
theorem Fc {r:H Prop} {d:Nat} {c m:Str} {vs:List V} {s:St} {Q:V->St->Prop} {fd:Fn} {ds:List Expr} {vs':List V} {h:Tr} {n:Nat} {cells:List (Str×Nat)} {s':St} (h1:fnOf c m=some (fd,ds)) (h2:fill fd.args ds vs=some vs') (h3:(Nat.ble 40 d || !frameOk fd.args fd.sc [])=false)
  (h4:em s.h s.n [] fd.sc.names=(h,n,cells)) (h5:bindAll ⟨fd.sc,cells,d+1,Ra c m,tabNo m⟩ (gf fd.args) vs' ⟨[],h,n⟩=some s') :
  af False r d c m vs s Q=r.ss ⟨fd.sc,cells,d+1,Ra c m,tabNo m⟩ fd.body s' fun f s''=>leave (Ge m) s s'' f Q:=by
 unfold af
 rw [h1]
 dsimp only
 rw [h2]
 show enter False r d (Ra c m) (tabNo m) (Ge m) fd.args fd.body fd.sc [] vs' s Q=_
 unfold enter
 rw [h3,h4]
 dsimp only
 rw [h5]
 rfl
noncomputable def Zf (m:Str) (h:(fnOf noStr m).isSome=true):Fn×List Expr:=(fnOf noStr m).get h
theorem Fd:(fnOf noStr "_law_pool").isSome=true:=by kernel_rfl
noncomputable def poolF:Fn×List Expr:=Zf "_law_pool" Fd
theorem Zg (e:En) (b:List Stmt) (s:St) (K:Fl->St->Prop):(ev False O16 201).ss e b s K=evSs False O16 (ev False O16 200) e b s K:=rfl
theorem Fe (xs:List P) (K:V->St->Prop):af False (ev False O16 201) 1 noStr "_law_pool" [.p (.lst xs),.p (.int 0)] (sL xs) K =
  evSs False O16 (ev False O16 200) eP (fnB "_law_pool") ⟨[("script",.p (.lst xs)),("k",.p (.int 0))],hT,4⟩ fun f s'=>leave false (sL xs) s' f K:=by
 rw [Fc (fd:=poolF.1) (ds:=poolF.2) (vs':=[.p (.lst xs),.p (.int 0)]) (h:=hT) (n:=4) (cells:=[]) (s':=⟨[("script",.p (.lst xs)),("k",.p (.int 0))],hT,4⟩) (by kernel_rfl) (by kernel_rfl) (by kernel_rfl) (by kernel_rfl) (by kernel_rfl)]
 have e1:(⟨poolF.1.sc,[],1+1,Ra noStr "_law_pool",tabNo "_law_pool"⟩:En)=eP:=by kernel_rfl
 have e2:poolF.1.body=fnB "_law_pool" := by kernel_rfl
 have e3:Ge "_law_pool" = false:=by kernel_rfl
 rw [e1,e2,e3,Zg]
theorem Ff (xs:List P) (rest:List Stmt) (K:Fl->St->Prop):evSs False O16 (ev False O16 200) eP ((fnB "_law_pool").take 2++rest) ⟨[("script",.p (.lst xs)),("k",.p (.int 0))],hT,4⟩ K =
  cnd (decide (0<(xs.length:Int))) (opt False (item xs 0) fun c=>evSs False O16 (ev False O16 200) eP rest (sP xs (.p c)) K) (evSs False O16 (ev False O16 200) eP rest (sP xs (.p (.int 0))) K):=by kernel_rfl
noncomputable def bigOf (c:Int):Int:=cnd (decide (c < -1 - c)) (-1 - c) c
noncomputable def Uv (c:Int):Int:=Int.fmod (bigOf c) 2147483629+7919 * 0 * 0+31 * 0+17
noncomputable def Pu (c:Int):Int:=Int.fmod (Uv c * 48271) 2147483647
noncomputable def headOf (c:Int):Int:=bigOf c * cnd (decide (10 ^ 18<=bigOf c)) 1 0
theorem Fg (xs:List P) (c:Int) (K:Fl->St->Prop):evSs False O16 (ev False O16 200) eP ((fnB "_law_pool").drop 2) (sP xs (.p (.int c))) K =
  cnd (gh (Uv c) 48271) (cnd (gh (bigOf c) (cnd (decide (10 ^ 18<=bigOf c)) 1 0)) (K (.ret (.ref 4)) ⟨[("script",.p (.lst xs)),("k",.p (.int 0)),("cell",.p (.int c)),("big",.p (.int (bigOf c))),("mixed",.p (.int (Pu c)))],tabsH (headOf c) (Pu c),5⟩) False) False:=by kernel_rfl
theorem J5 (xs:List P) (a b:Int) (KL:Fl->St->Prop):(assign False (ev False O16 203) eL (tgtOf (fnB "law")) (.ref 4) ⟨[("script",.p (.lst xs))],tabsH a b,5⟩ fun s=>evSs False O16 (ev False O16 203) eL ((fnB "law").drop 1) s KL) =
  i5 4 a b fun x a b=>cnd (decide (x=0)) (af False (ev False O16 200) 1 noStr "_law_rowids_right" [.ref 4] ⟨[("script",.p (.lst xs)),("source",.ref 4)],tabsH a b,5⟩ fun v s=>KL (.ret v) s)
   (af False (ev False O16 200) 1 noStr "_law_index_right" [.ref 4] ⟨[("script",.p (.lst xs)),("source",.ref 4)],tabsH a b,5⟩ fun v s=>KL (.ret v) s):=by kernel_rfl
noncomputable def cOf (e:En) (sc:Scope):En:=⟨sc,(am e sc.names).getD [],2,0,none⟩
noncomputable abbrev J6 (e:En) (lc:Expr×Comprehension×Scope) (x:P) (s:St) (k1:V->St->Prop) (k0:St->Prop):Prop:=Oi r12 (cOf e lc.2.2) lc.1 lc.2.1.target lc.2.1.ifs x s k1 k0
theorem vw {e:En} {lc:Expr×Comprehension×Scope} {B:St} {rows:List P} {p:P->Bool} {g:P->P} (hl:rows.length<=2000)
  (hc:∀ Q,dv False r12 e lc.1 lc.2.1 lc.2.2 (.lst rows) B Q=cf False r12 (cOf e lc.2.2) lc.1 lc.2.1.target lc.2.1.ifs (Fx B.loc Q) rows [] (atL B []))
  (ht:∀ x∈rows,∃ y,x = .lst y /\ ∀ z lo,lo∈los ij (.lst z) -> ∀ k1 k0,Wr (cnd (p x) (k1 (.p (g x)) (atL B [(ij,.p (.lst y))])) (k0 (atL B [(ij,.p (.lst y))])))->Wr (J6 e lc (.lst y) (atL B lo) k1 k0)) :
  Gc e lc.1 lc.2.1 lc.2.2 (.lst rows) B (.lst ((rows.filter p).map g)):=by
 intro Q hQ
 rw [hc]
 refine fg (B:=B) (fun x=>match p x with | true=>some (g x) | false=>none) (Ed ij isL) (.inl rfl) (by rw [List.length_nil];exact Vt hl) ?_ ?_
 ·intro x hx lo hlo
  obtain ⟨y,rfl,hy⟩:=ht x hx
  refine ⟨[(ij,.p (.lst y))],.inr ⟨_,⟨y,rfl⟩,rfl⟩,fun k1 k0 hk=>?_⟩
  have hk:Wr (cnd (p (.lst y)) (k1 (.p (g (.lst y))) (atL B [(ij,.p (.lst y))])) (k0 (atL B [(ij,.p (.lst y))]))):=by
   induction q:p (.lst y) using Bool.casesOn with
   | true=>rw [q] at hk;exact ⟨hk⟩
   | false=>rw [q] at hk;exact ⟨hk⟩
  rcases hlo with rfl | ⟨_,⟨z,rfl⟩,rfl⟩
  ·exact hy [] [] (kz _ _) k1 k0 hk
  ·exact hy z _ (k5 _ _) k1 k0 hk
 ·intro lo _
  rw [List.nil_append]
  have e:rows.filterMap (fun x=>match p x with | true=>some (g x) | false=>none)=(rows.filter p).map g:=by
   clear ht hl hQ hc
   induction rows with
   | nil=>rfl
   | cons x r ih =>
    induction q:p x using Bool.casesOn with
    | true=>rw [List.filterMap_cons,q];dsimp only;rw [List.filter_cons_of_pos q,List.map_cons,ih]
    | false=>rw [List.filterMap_cons,q];dsimp only;rw [List.filter_cons_of_neg (by rw [q];decide),ih]
  rw [e]
  exact k6 hQ
section
variable (c:Str) (x y:Bool) (path info:P) (es:List P) (sm:Option (List P)) (lo hi:Bd) (rows:List P) (n:Nat) (a b:Int) (Q:V->St->Prop) (k1:V->St->Prop) (k0:St->Prop)
noncomputable def Pw:St:=Ue c x y path (bz es sm lo hi) info rows n a b
theorem Fh:dv False r12 eI lcI.1 lcI.2.1 lcI.2.2 (.lst rows) (Pw c x y path info es sm lo hi rows n a b) Q=cf False r12 (cOf eI lcI.2.2) lcI.1 lcI.2.1.target lcI.2.1.ifs (Fx (Pw c x y path info es sm lo hi rows n a b).loc Q) rows [] (atL (Pw c x y path info es sm lo hi rows n a b) []):=by kernel_rfl
theorem Fi (r z:List P):(los ij (.lst z)).map (fun l=>J6 eI lcI (.lst r) (atL (Pw c x y path info es sm lo hi rows n a b) l) k1 k0)=(los ij (.lst z)).map fun _=>Tb r (.lst es) (jn sm) (aj lo) (aj hi) [.str c,.str "binary",.str "binary"] /\
  cnd (due (unL (.lst es)) (Du (jn sm)) (ay (aj lo)) (ay (aj hi)) r (([.str c,.str "binary",.str "binary"]:List P).map unS)) (k1 (.p (.tup r)) (atL (Pw c x y path info es sm lo hi rows n a b) [(ij,.p (.lst r))])) (k0 (atL (Pw c x y path info es sm lo hi rows n a b) [(ij,.p (.lst r))])):=by kernel_rfl
end
section
variable (path:P) (ws:List P) (s lo hi:P) (rows:List P) (a b:Int) (Q:V->St->Prop) (k1:V->St->Prop) (k0:St->Prop)
noncomputable def x7:St:=Uh path s lo hi rows a b
theorem Fj:dv False r12 eR lcA.1 lcA.2.1 lcA.2.2 (.lst rows) (x7 path s lo hi rows a b) Q=cf False r12 (cOf eR lcA.2.2) lcA.1 lcA.2.1.target lcA.2.1.ifs (Fx (x7 path s lo hi rows a b).loc Q) rows [] (atL (x7 path s lo hi rows a b) []):=by kernel_rfl
theorem Fk:dv False r12 eR lcB.1 lcB.2.1 lcB.2.2 (.lst rows) (x7 path s lo hi rows a b) Q=cf False r12 (cOf eR lcB.2.2) lcB.1 lcB.2.1.target lcB.2.1.ifs (Fx (x7 path s lo hi rows a b).loc Q) rows [] (atL (x7 path s lo hi rows a b) []):=by kernel_rfl
theorem Fm (i:Int) (z:List P):(los ij (.lst z)).map (fun l=>J6 eR lcA (.lst [.int i]) (atL (x7 path (.lst ws) lo hi rows a b) l) k1 k0)=(los ij (.lst z)).map fun _=>opt False (qe (.int i) ws) fun q =>
  cnd q (k1 (.p (.tup [.int i])) (atL (x7 path (.lst ws) lo hi rows a b) [(ij,.p (.lst [.int i]))])) (k0 (atL (x7 path (.lst ws) lo hi rows a b) [(ij,.p (.lst [.int i]))])):=by kernel_rfl
theorem Fo (i:Int) (z:List P):(los ij (.lst z)).map (fun l=>J6 eR lcB (.lst [.int i]) (atL (x7 path s lo hi rows a b) l) k1 k0)=(los ij (.lst z)).map fun _=>WOk (.int i) lo hi /\
  cnd (within (.int i) "binary" (ay lo) (ay hi)) (k1 (.p (.tup [.int i])) (atL (x7 path s lo hi rows a b) [(ij,.p (.lst [.int i]))])) (k0 (atL (x7 path s lo hi rows a b) [(ij,.p (.lst [.int i]))])):=by kernel_rfl
end
theorem gcI {c:Str} {x y:Bool} {path info:P} {es:List P} {sm:Option (List P)} {lo hi:Bd} {R:List (List P)} {n:Nat} {a b:Int} (A:Il es sm lo hi) (hR:∀ r∈R,r.length=3 /\ ∀ v∈r,Vl v) (hl:R.length<=2000) :
  Gc eI lcI.1 lcI.2.1 lcI.2.2 (.lst (R.map .lst)) (Ue c x y path (bz es sm lo hi) info (R.map .lst) n a b) (.lst (ji (R.map .lst) (bz es sm lo hi) (.str c))):=by
 refine vw (B:=Pw c x y path info es sm lo hi (R.map .lst) n a b) (p:=fun r=>Zb (unP r) (bz es sm lo hi) (.str c)) (g:=fun r=>.tup (unP r)) (by rw [List.length_map];exact hl) (fun Q=>Fh ..) fun q hq=>?_
 obtain ⟨r,hr,rfl⟩:=List.mem_map.mp hq
 refine ⟨r,rfl,fun z lo' hlo k1 k0 hk=>Wr.of (ai (Fi c x y path info es sm lo hi (R.map .lst) n a b k1 k0 r z) hlo) ⟨⟨es,sm,lo,hi,[c, "binary", "binary"],rfl,rfl,rfl,rfl,rfl,A,(hR r hr).1,(hR r hr).2,rfl⟩,hk.out⟩⟩
noncomputable def czc (w:P) (i:Int):Bool:=match w with
 | .int y=>decide (y=i)
 | _=>false
theorem Px {w:P} (hw:Vl w) (i:Int):eqT w (.int i)=some (czc w i):=by
 rcases o6 hw with rfl | ⟨y,rfl⟩ | ⟨x,rfl,_⟩ <;> rfl
theorem Fp (i:Int):∀ {ws:List P},(∀ w∈ws,Vl w)->qe (.int i) ws=some (inBP.inB' ws i):=by
 intro l0
 induction l0 with
 | nil =>
  intro _
  exact rfl
 | cons w ws ih =>
  intro hw
  show (match eqT w (.int i),qe (.int i) ws with | some p,some q=>some (p||q) | _,_=>none)=_
  rw [Px (hw w (.head _)),ih fun v m=>hw v (.tail _ m)]
  rfl
theorem gcA {path lo hi:P} {ws:List P} {rs:List Int} {a b:Int} (hw:∀ w∈ws,Vl w) (hl:rs.length<=2000) :
  Gc eR lcA.1 lcA.2.1 lcA.2.2 (.lst (rs.map fun x=>.lst [.int x])) (Uh path (.lst ws) lo hi (rs.map fun x=>.lst [.int x]) a b) (.lst (ef (rs.map fun x=>.lst [.int x]) (.lst ws))):=by
 refine vw (B:=x7 path (.lst ws) lo hi (rs.map fun x=>.lst [.int x]) a b) (p:=fun r=>inBP (.lst ws) (hdP r)) (g:=fun r=>.tup [hdP r]) (by rw [List.length_map];exact hl) (fun Q=>Fj ..) fun q hq=>?_
 obtain ⟨i,hi',rfl⟩:=List.mem_map.mp hq
 exact ⟨[.int i],rfl,fun z lo' hlo k1 k0 hk=>Wr.of (ai (Fm path ws lo hi (rs.map fun x=>.lst [.int x]) a b k1 k0 i z) hlo) (bk (Fp i hw) hk.out)⟩
theorem gcB {path s:P} {lo hi:Bd} {rs:List Int} {a b:Int} (h1:bOk lo) (h2:bOk hi) (hr:∀ x∈rs,1<=x/\x<=4) (hl:rs.length<=2000) :
  Gc eR lcB.1 lcB.2.1 lcB.2.2 (.lst (rs.map fun x=>.lst [.int x])) (Uh path s (aj lo) (aj hi) (rs.map fun x=>.lst [.int x]) a b) (.lst (cq (rs.map fun x=>.lst [.int x]) (aj lo) (aj hi))):=by
 refine vw (B:=x7 path s (aj lo) (aj hi) (rs.map fun x=>.lst [.int x]) a b) (p:=fun r=>within (hdP r) "binary" (ay (aj lo)) (ay (aj hi))) (g:=fun r=>.tup [hdP r]) (by rw [List.length_map];exact hl) (fun Q=>Fk ..) fun q hq=>?_
 obtain ⟨i,hi',rfl⟩:=List.mem_map.mp hq
 have:=hr i hi'
 exact ⟨[.int i],rfl,fun z lo' hlo k1 k0 hk=>Wr.of (ai (Fo path s (aj lo) (aj hi) (rs.map fun x=>.lst [.int x]) a b k1 k0 i z) hlo) ⟨⟨jh (by exact Ll this) (by exact Lk this),lo,hi,rfl,rfl,h1,h2⟩,hk.out⟩⟩
theorem x8 {f:P->P->Option Bool}:∀ {l:List P},(∀ x∈l,f x x=some true)->eqL f l l=some true:=by
 intro l0
 induction l0 with
 | nil =>
  intro _
  exact rfl
 | cons x l ih =>
  intro h
  show (match f x x,eqL f l l with | some p,some q=>some (p&&q) | _,_=>none)=_
  rw [h x (.head _),ih fun y m=>h y (.tail _ m)]
  rfl
theorem J7 {v:P} (h:Vl v):eqV v v=some true:=by
 have h2:∀ v∈vals,eqV v v=some true:=by decide +kernel
 exact h2 v h
theorem Ac {L:List (List P)} (h:∀ r∈L,∀ v∈r,Vl v):du (.lst (L.map .tup)) (.lst (L.map .tup))=some true:=by
 show (match Nat.beq (L.map P.tup).length (L.map P.tup).length with | true=>eqL eqT (L.map .tup) (L.map .tup) | false=>some false)=_
 rw [Nat.beq_refl]
 refine x8 fun x hx=>?_
 obtain ⟨r,hr,rfl⟩:=List.mem_map.mp hx
 show (match Nat.beq r.length r.length with | true=>eqL eqV r r | false=>none)=_
 rw [Nat.beq_refl]
 exact x8 fun v hv=>J7 (h r hr v hv)
theorem x9 {path info:P} {n:Int} {rows:List P} {L:List (List P)} {F:V->Option (List VO)->Prop} {os:List Op} (hp:nj path n os) (hr:Runs os (vm0 [] rows info 0 [] 0) (L.map .tup)) (hL:∀ r∈L,∀ v∈r,Vl v) (hF:∀ l r i,F (.p (.bool true)) (l9 l r i)):mf path n rows info (L.map .tup) F :=
 ⟨⟨rfl,rfl,rfl,rfl⟩,os,hp,fun l r i=>⟨rows,info,0,os,L.map .tup,rfl,rfl,hr,fun o=>bk (Ac hL) (hF l r i)⟩⟩
theorem Fq {xs:List P} {a b:Int} {K:P->Int->Int->Prop} (hs:Src a b) (hl:1<=xs.length/\xs.length<=8) (h:∀ x∈xs,∀ a b,Src a b->K x a b):z0 xs a b K:=by
 refine ⟨hs,hl,?_⟩
 have:∀ ys:List P,(∀ y∈ys,y∈xs)->allOf (fun x=>∀ a b,Src a b->K x a b) ys:=by
  intro ys
  induction ys with
  | nil=>exact fun _=>trivial
  | cons y ys ih=>exact fun hy=>⟨h y (hy y (.head _)),ih fun z m=>hy z (.tail _ m)⟩
 exact this xs fun y m=>m
theorem J8 {I:List (Str×Bool)} {K:List P->Int->Int->Prop} (hI:I.length=3):∀ (n i:Nat) (R:List (List P)) (a b:Int),Src a b->R.length<=i->i+n<=4->(∀ r∈R,r.length=3 /\ ∀ v∈r,Vl v)->cu I R ->
  (∀ R' a b,Src a b->Good I R'->cu I R'->K (R'.map .lst) a b)->Fb (bo I) K n (i:Int) (R.map .lst) a b:=by
 intro l0
 induction l0 with
 | zero =>
  intro i R a b hs hl hn hr ho h
  exact h R a b hs ⟨hI,by exact Nat.le_trans hl hn,hr⟩ ho
 | succ n ih =>
  intro i R a b hs hl hn hr ho h
  refine ⟨hs,fun v hv a b hs=>⟨hs,fun w hw a b hs=>?_⟩⟩
  have hv3:∀ z∈[v,w,.int ((i:Int)+1)],Vl z:=fun z hz=>by
   simp only [List.mem_cons,List.not_mem_nil,or_false] at hz
   rcases hz with rfl | rfl | rfl
   ·exact hv
   ·exact hw
   ·exact jh (by exact Int.natCast_nonneg _) (by omega)
  refine ⟨⟨R,rfl,by exact V3 hl hn,fun x hx=>⟨I,rfl,.inl ⟨hI,(hr x hx).1,.inr (.inr rfl)⟩,(hr x hx).2,hv3⟩⟩,?_⟩
  rw [ve,i4]
  obtain ⟨s1,s2,s3,s4,s5⟩:=ed (r:=[v,w,.int ((i:Int)+1)]) (n:=3) (fun x hx=>(hr x hx).1) rfl ho
  refine ih (i+1) _ a b hs (by exact V6 hl s5) (by exact V2 hn) (fun r hr'=>?_) s1 h
  rcases s2 r hr' with q | rfl
  ·exact hr r q
  ·exact ⟨rfl,hv3⟩
theorem Ad {R:List (List P)} {p:List P->Bool}:((R.map P.lst).filter fun r=>p (unP r)).map (fun r=>P.tup (unP r))=(R.filter p).map .tup:=by
 induction R with
 | nil=>rfl
 | cons x R ih =>
  rw [List.map_cons]
  induction q:p x using Bool.casesOn with
  | true=>rw [List.filter_cons_of_pos (by exact q),List.filter_cons_of_pos q,List.map_cons,List.map_cons,ih];rfl
  | false=>rw [List.filter_cons_of_neg (by show ¬ p x=true;rw [q];decide),List.filter_cons_of_neg (by rw [q];decide),ih]
theorem J9 {c:Str} {x y de:Bool} {es:List P} {sm:Option (List P)} {lo hi:Bd} {R:List (List P)} (A:ia es sm lo hi) (G:Good (sx c x y) R) (ho:cu (sx c x y) R) :
  Runs (progIdx (c,x) ("binary",y) es sm lo hi de) (vm0 [] (R.map .lst) (bo (sx c x y)) 0 [] 0) (Fy (sx c x y) R de es sm lo hi):=by
 have hlen:=A.1.2.2.2.2
 induction sm using Option.casesOn with
 | none =>
  have hlt:es.length<(sx c x y).length:=by show es.length<3;rcases hlen with h | h | ⟨h,_⟩ <;> omega
  have:=E0 G ho (de:=de) A hlt
  have e:(sx c x y)[es.length].2=tAt (c,x) ("binary",y) es.length:=by
   rcases hlen with h | h | ⟨h,_⟩
   ·simp only [h];rfl
   ·simp only [h];rfl
   ·simp only [h];rfl
  rw [e] at this
  exact this
 | some ws =>
  obtain ⟨rfl,rfl⟩:=A.2.1 (fun e=>(by contradiction))
  have hle:es.length=0\/es.length=1:=by
   rcases hlen with h | h | ⟨_,h⟩
   ·exact .inl h
   ·exact .inr h
   ·injection h
  have hlt:es.length+1<(sx c x y).length:=by show es.length+1<3;exact Vy hle
  have:=Ua G ho (de:=de) A hlt
  have e1:(sx c x y)[es.length+1].2=tAt (c,x) ("binary",y) (es.length+1):=by
   rcases hle with h | h <;> simp only [h] <;> rfl
  have e2:(sx c x y)[es.length].2=tAt (c,x) ("binary",y) es.length:=by
   rcases hle with h | h <;> simp only [h] <;> rfl
  have e3:(sx c x y)[es.length].1=cAt (c,x) ("binary",y) es.length:=by
   rcases hle with h | h <;> simp only [h] <;> rfl
  rw [e1,e2,e3] at this
  exact this
theorem Ka {a b:Int} {F:V->Option (List VO)->Prop} (hs:Src a b) (hF:∀ l r i,F (.p (.bool true)) (l9 l r i)):Ug a b F:=by
 refine Fq hs (by decide) fun col hcol a b hs=>⟨hs,(by decide:(1:Int)<=2/\(2:Int)<=8),fun x _ _ a b hs=>⟨hs,(by decide:(1:Int)<=2/\(2:Int)<=8),fun y _ _ a b hs=>?_⟩⟩
 have go:∀ (c:Str) (a b:Int),Src a b->Src a b /\ ∀ es sm lo hi de,ia es sm lo hi -> ∀ a b,Src a b->z0 [.int 0,.int 2,.int 3,.int 4] a b fun n a b=>match n with
   | .int n=>Fb (bo (sx c (decide (x=1)) (decide (y=1)))) (fun rows a b =>
     let path:=bf "index" (idxP (colsP (c,decide (x=1)) ("binary",decide (y=1)))) es sm lo hi true de
     let asked:=bz es sm lo hi
     let info:=bo (sx c (decide (x=1)) (decide (y=1)))
     let dl:=ji rows asked (.str c)
     Gc eI lcI.1 lcI.2.1 lcI.2.2 (.lst rows) (Ue c (decide (x=1)) (decide (y=1)) path asked info rows n.toNat a b) (.lst dl)/\cnd de (mf path 3 rows info dl.reverse F) (mf path 3 rows info dl F)) n.toNat 0 [] a b
   | _=>False:=fun c a b hs=>by
  refine ⟨hs,fun es sm lo hi de A a b hs=>Fq hs (by decide) fun n hn a b hs=>?_⟩
  have rows:∀ n:Nat,n<=4->Fb (bo (sx c (decide (x=1)) (decide (y=1)))) (fun rows a b =>
     let path:=bf "index" (idxP (colsP (c,decide (x=1)) ("binary",decide (y=1)))) es sm lo hi true de
     let asked:=bz es sm lo hi
     let info:=bo (sx c (decide (x=1)) (decide (y=1)))
     let dl:=ji rows asked (.str c)
     Gc eI lcI.1 lcI.2.1 lcI.2.2 (.lst rows) (Ue c (decide (x=1)) (decide (y=1)) path asked info rows n a b) (.lst dl)/\cnd de (mf path 3 rows info dl.reverse F) (mf path 3 rows info dl F)) n 0 [] a b:=fun n hn=>by
   refine J8 rfl n 0 [] a b hs (Nat.le_refl _) (by exact Vs hn) (fun _ h=>(by contradiction)) .nil fun R a b hs G ho=>?_
   refine ⟨gcI A.1 G.row (Nat.le_trans G.few (by decide)),?_⟩
   have e0:ji (R.map .lst) (bz es sm lo hi) (.str c)=(R.filter fun row=>due es sm lo hi row ((sx c (decide (x=1)) (decide (y=1))).map (·.1))).map .tup:=by
    delta ji
    have e1:(fun r:P=>Zb (unP r) (bz es sm lo hi) (.str c))=fun r=>due es sm lo hi (unP r) [c, "binary", "binary"]:=by
     funext r
     show due (unL (.lst es)) (Du (jn sm)) (ay (aj lo)) (ay (aj hi)) (unP r) [c, "binary", "binary"]=_
     rw [Dv,cm,cm]
     rfl
    rw [e1]
    exact Ad (p:=fun row=>due es sm lo hi row [c, "binary", "binary"])
   have hp:nj (bf "index" (idxP (colsP (c,decide (x=1)) ("binary",decide (y=1)))) es sm lo hi true de) 3 (progIdx (c,decide (x=1)) ("binary",decide (y=1)) es sm lo hi de):=.inl ⟨rfl,_,_,es,sm,lo,hi,de,rfl,A,rfl⟩
   have hr:=J9 (de:=de) A G ho
   dsimp only [Fy] at hr
   rw [e0]
   induction de using Bool.casesOn with
   | true =>
    show mf _ _ _ _ _ _
    rw [← List.map_reverse, ← List.filter_reverse]
    exact x9 hp hr (fun r hr v hv=>(G.row r (List.mem_reverse.mp (List.mem_filter.mp hr).1)).2 v hv) hF
   | false=>exact x9 hp hr (fun r hr v hv=>(G.row r (List.mem_filter.mp hr).1).2 v hv) hF
  simp only [List.mem_cons,List.not_mem_nil,or_false] at hn
  rcases hn with rfl | rfl | rfl | rfl
  ·exact rows 0 (by decide)
  ·exact rows 2 (by decide)
  ·exact rows 3 (by decide)
  ·exact rows 4 (by decide)
 simp only [List.mem_cons,List.not_mem_nil,or_false] at hcol
 rcases hcol with rfl | rfl
 ·exact go _ a b hs
 ·exact go _ a b hs
theorem Kb {K:List P->Int->Int->Prop}:∀ (n:Nat) (i:Int) (rs:List Int) (a b:Int),Src a b->1<=i->i+n=5->rs.Pairwise (· < ·)->(∀ x∈rs,1<=x/\x<i)->(rs.length:Int)<i ->
  (∀ rs a b,Src a b->GoodR rs->K (rs.map fun x=>.lst [.int x]) a b)->J3 K n i (rs.map fun x=>.lst [.int x]) a b:=by
 intro l0
 induction l0 with
 | zero =>
  intro i rs a b hs h1 h5 hp hin hl h
  exact h rs a b hs ⟨hp,fun x hx=>by have:=hin x hx;exact Vu h5 this,by exact Vv h5 hl⟩
 | succ n ih =>
  intro i rs a b hs h1 h5 hp hin hl h
  refine ⟨hs,(by decide:(1:Int)<=4/\(4:Int)<=8),fun x _ _ a b hs=>bg (fun _=>?_) fun _=>?_⟩
  ·have e:(rs.map fun x=>P.lst [.int x])++[.lst [.int i]]=(rs++[i]).map fun x=>P.lst [.int x]:=by rw [List.map_append];rfl
   rw [e]
   refine ih (i+1) (rs++[i]) a b hs (by exact Qx h1) (by exact Qs h5) (List.pairwise_append.mpr ⟨hp,List.pairwise_singleton _ _,fun x hx y hy=>?_⟩) (fun x hx=>?_) (by rw [List.length_append,List.length_singleton];exact Wd hl) h
   ·rw [List.mem_singleton] at hy;subst hy;exact (hin x hx).2
   ·rcases List.mem_append.mp hx with hx | hx
    ·have:=hin x hx;exact Qi this
    ·rw [List.mem_singleton] at hx;exact Vo h1 hx
  ·exact ih (i+1) rs a b hs (by exact Qx h1) (by exact Qs h5) hp (fun x hx=>by have:=hin x hx;exact Qi this) (by exact We hl) h
theorem ly {rs:List Int} {p:P->Bool}:((rs.map fun x=>P.lst [.int x]).filter fun r=>p (hdP r)).map (fun r=>P.tup [hdP r])=((rs.filter fun x=>p (.int x)).map fun x=>[P.int x]).map .tup:=by
 induction rs with
 | nil=>rfl
 | cons x rs ih =>
  rw [List.map_cons]
  induction q:p (.int x) using Bool.casesOn with
  | true=>rw [List.filter_cons_of_pos (by exact q),List.filter_cons_of_pos (p:=fun x=>p (.int x)) q,List.map_cons,List.map_cons,List.map_cons,ih];rfl
  | false=>rw [List.filter_cons_of_neg (by show ¬ p (.int x)=true;rw [q];decide),List.filter_cons_of_neg (p:=fun x=>p (.int x)) (by rw [q];decide),ih]
theorem i9 {path:P} {rs:List Int} (G:GoodR rs) {p:Int->Bool} {de:Bool} {os:List Op} {F:V->Option (List VO)->Prop} (hp:nj path 1 os) (hr:Runs os (vm0 [] ((ax rs).map .lst) (bo J1) 0 [] 0) (((ba de rs).filter p).map tupI)) (hF:∀ l r i,F (.p (.bool true)) (l9 l r i)) :
  cnd de (mf path 1 (rs.map fun x=>.lst [.int x]) (bo J1) (((rs.filter p).map fun x=>[P.int x]).map P.tup).reverse F) (mf path 1 (rs.map fun x=>.lst [.int x]) (bo J1) (((rs.filter p).map fun x=>[P.int x]).map P.tup) F):=by
 rw [sv] at hr
 have e:∀ l:List Int,l.map tupI=(l.map fun x=>[P.int x]).map P.tup:=fun l=>by rw [List.map_map];rfl
 rw [e] at hr
 have hv:∀ l:List Int,(∀ x∈l,x∈rs) -> ∀ r∈l.map fun x=>[P.int x],∀ v∈r,Vl v:=fun l hl r hr v hv=>by
  obtain ⟨x,hx,rfl⟩:=List.mem_map.mp hr
  rw [List.mem_singleton] at hv
  subst hv
  have:=G.in4 x (hl x hx)
  exact jh (by exact Ll this) (by exact Lk this)
 induction de using Bool.casesOn with
 | true =>
  show mf _ _ _ _ _ _
  rw [← List.map_reverse, ← List.map_reverse, ← List.filter_reverse]
  exact x9 hp hr (hv _ fun x hx=>List.mem_reverse.mp (List.mem_filter.mp hx).1) hF
 | false=>exact x9 hp hr (hv _ fun x hx=>(List.mem_filter.mp hx).1) hF
theorem Kc {a b:Int} {F:V->Option (List VO)->Prop} (hs:Src a b) (hF:∀ l r i,F (.p (.bool true)) (l9 l r i)):Ui a b F:=by
 refine ⟨hs,fun kd es sm lo hi ask de A a b hs=>Kb 4 1 [] a b hs (by decide) rfl .nil (fun _ h=>nomatch h) (by decide) fun rs a b hs G=>?_⟩
 have hp:nj (bf kd .none es sm lo hi false de) 1 (pg es sm lo hi de):=.inr ⟨rfl,kd,es,sm,lo,hi,ask,de,rfl,A,rfl⟩
 have few:rs.length<=2000:=Nat.le_trans G.few (by decide)
 have sres:∀ ws:List P,(∀ w∈ws,Vl w)->ef (rs.map fun x=>.lst [.int x]) (.lst ws)=((rs.filter (inB ws)).map fun x=>[P.int x]).map .tup:=fun ws _=>ly (p:=fun x=>inBP (.lst ws) x)
 cases A with
 | one hw =>
  rename_i w
  have hv:∀ w'∈[w],Vl w':=fun z m=>by cases m with | head=>exact ic hw | tail _ m=>nomatch m
  refine bk (rfl:cmp .IsNot (.p (.lst [w])) (.p .none) s0=some true) ⟨gcA hv few,?_⟩
  show cnd _ (mf _ _ _ _ (ef _ (.lst [w])).reverse _) (mf _ _ _ _ (ef _ (.lst [w])) _)
  rw [sres _ hv]
  exact i9 G hp (Js G (ic hw) de) hF
 | many hl hw =>
  rename_i ws
  have hv:∀ w'∈ws,Vl w':=fun z m=>ic (hw z m)
  refine bk (rfl:cmp .IsNot (.p (.lst ws)) (.p .none) s0=some true) ⟨gcA hv few,?_⟩
  show cnd _ (mf _ _ _ _ (ef _ (.lst ws)).reverse _) (mf _ _ _ _ (ef _ (.lst ws)) _)
  rw [sres _ hv]
  exact i9 G hp (Ju G (by exact Wk hl) hv de) hF
 | range hlo hhi =>
  have h1:bOk lo:=fun x e=>by obtain ⟨y,e1,e2⟩:=hlo x e;exact e1 ▸ e2
  have h2:bOk hi:=fun x e=>(hhi x e).2
  refine bk (rfl:cmp .IsNot (.p .none) (.p .none) s0=some false) ⟨gcB h1 h2 G.in4 few,?_⟩
  have e:cq (rs.map fun x=>.lst [.int x]) (aj lo) (aj hi)=((rs.filter fun x=>within (.int x) "binary" lo hi).map fun x=>[P.int x]).map .tup:=by
   delta cq
   rw [cm,cm]
   exact ly (p:=fun x=>within x "binary" lo hi)
  show cnd _ (mf _ _ _ _ (cq _ (aj lo) (aj hi)).reverse _) (mf _ _ _ _ (cq _ (aj lo) (aj hi)) _)
  rw [e]
  exact i9 G hp (Uc G de hlo hhi) hF
noncomputable def Py (s:St):Prop:=∀ k,k<4 -> ∃ f u,s.h.get k=some (.tab f u)
noncomputable def CTl:V->St->Prop:=fun v s=>v = .p (.bool true)/\Py s
noncomputable def FTl (v:V) (o:Option (List VO)):Prop:=v = .p (.bool true) /\ ∃ f0 u0 f1 u1 f2 u2 f3 u3,o=some [.tab f0 u0,.tab f1 u1,.tab f2 u2,.tab f3 u3]
theorem czd (s:St):Py s ↔ ∃ f0 u0 f1 u1 f2 u2 f3 u3,ah s [0,1,2,3]=some [.tab f0 u0,.tab f1 u1,.tab f2 u2,.tab f3 u3]:=by
 constructor
 ·intro h
  obtain ⟨f0,u0,h0⟩:=h 0 (by decide)
  obtain ⟨f1,u1,h1⟩:=h 1 (by decide)
  obtain ⟨f2,u2,h2⟩:=h 2 (by decide)
  obtain ⟨f3,u3,h3⟩:=h 3 (by decide)
  refine ⟨f0,u0,f1,u1,f2,u2,f3,u3,?_⟩
  dsimp only [ah,ah,ah,ah,ah]
  rw [h0,h1,h2,h3]
 ·rintro ⟨f0,u0,f1,u1,f2,u2,f3,u3,h⟩
  dsimp only [ah,ah,ah,ah,ah] at h
  induction h0:s.h.get 0 using Option.casesOn with
  | none=>rw [h0] at h;contradiction
  | some o0 =>
   induction h1:s.h.get 1 using Option.casesOn with
   | none=>rw [h0,h1] at h;contradiction
   | some o1 =>
    induction h2:s.h.get 2 using Option.casesOn with
    | none=>rw [h0,h1,h2] at h;contradiction
    | some o2 =>
     induction h3:s.h.get 3 using Option.casesOn with
     | none=>rw [h0,h1,h2,h3] at h;contradiction
     | some o3 =>
      rw [h0,h1,h2,h3] at h
      dsimp only at h
      injection h with h
      injection h with e0 h
      injection h with e1 h
      injection h with e2 h
      injection h with e3 h
      subst e0;subst e1;subst e2;subst e3
      intro k hk
      match k,hk with
      | 0,_=>exact ⟨_,_,h0⟩
      | 1,_=>exact ⟨_,_,h1⟩
      | 2,_=>exact ⟨_,_,h2⟩
      | 3,_=>exact ⟨_,_,h3⟩
theorem Fs:(fun v s=>Qb CTl (.ret v) s)=fun v s=>FTl v (ah s [0,1,2,3]):=by
 funext v s
 have e:Qb CTl (.ret v) s=CTl v ⟨[],s.h,s.n⟩:=by induction v using V.casesOn <;> rfl
 rw [e]
 have g:∀ l:List Nat,ah ⟨[],s.h,s.n⟩ l=ah s l:=by
  intro l
  induction l with
  | nil=>rfl
  | cons k l ih=>dsimp only [ah];rw [ih]
 apply propext
 show (v=_/\Py _)↔_
 rw [czd,g]
 exact Iff.rfl
theorem Lh (l r i:Bool):FTl (.p (.bool true)) (l9 l r i):=⟨rfl,_,_,_,_,_,_,_,_,rfl⟩
theorem Pz {b:Bool} {A B:Prop} (h1:Wr A) (h2:Wr B):cnd b A B:=by
 induction b using Bool.casesOn
 ·exact h2.out
 ·exact h1.out
theorem Kd (xs:List P) (l:List (Str×V)) (h:Tr) (n k:Nat) (Q:V->St->Prop):leave false (sL xs) ⟨l,h,n⟩ (.ret (.ref k)) Q=Q (.ref k) ⟨[("script",.p (.lst xs))],h,n⟩:=rfl
theorem P1 (c:Int):0<=bigOf c:=by
 unfold bigOf
 by_cases h:c < -1 - c
 ·rw [decide_eq_true h];show 0 <= -1 - c;exact Wv h
 ·rw [decide_eq_false h];show 0<=c;exact Xf h
theorem Ke (c:Int):Src (headOf c) (Pu c):=by
 have:=o8 (Uv c * 48271) (y:=2147483647) (by exact Int.natCast_nonneg _)
 refine ⟨?_,this.1,this.2⟩
 unfold headOf
 induction decide (10 ^ 18<=bigOf c) using Bool.casesOn with
 | true=>show 0<=bigOf c * 1;rw [Int.mul_one];exact P1 c
 | false=>show 0<=bigOf c * 0;rw [Int.mul_zero];exact Int.le_refl _
theorem Kf (ns:List Int):Wr (af False (ev False O16 204) 0 noStr "law" [.p (.lst (ns.map .int))] S4' CTl):=by
 have go:∀ c:Int,Wr (evSs False O16 (ev False O16 200) eP ((fnB "_law_pool").drop 2) (sP (ns.map .int) (.p (.int c))) fun f s'=>leave false (sL (ns.map .int)) s' f fun v s=>assign False (ev False O16 203) eL (tgtOf (fnB "law")) v s fun s=>evSs False O16 (ev False O16 203) eL ((fnB "law").drop 1) s (Qb CTl)):=fun c=>by
  rw [Fg]
  have m1:gh (Uv c) 48271=true:=by delta gh;rw [c9 (x:=48271) (by exact Int.natCast_nonneg _) (by exact Int.natCast_nonneg _),Bool.or_true]
  have m2:gh (bigOf c) (cnd (decide (10 ^ 18<=bigOf c)) 1 0)=true:=by
   have:a7 (cnd (decide (10 ^ 18<=bigOf c)) 1 0)=true:=by
    induction decide (10 ^ 18<=bigOf c) using Bool.casesOn
    ·exact c9 (by show (-4000000000000000000:Int)<0;exact Int.natCast_nonneg _) (by show (0:Int)<_;exact Int.natCast_nonneg _)
    ·exact c9 (by show (-4000000000000000000:Int)<1;exact Int.natCast_nonneg _) (by show (1:Int)<_;exact Int.natCast_nonneg _)
   delta gh;rw [this,Bool.or_true]
  refine xn m1 (xn m2 ?_)
  rw [Kd,J5]
  have hr:∀ a b,Src a b->Wr (af False (ev False O16 200) 1 noStr "_law_rowids_right" [.ref 4] ⟨[("script",.p (.lst (ns.map .int))),("source",.ref 4)],tabsH a b,5⟩ fun v s=>Qb CTl (.ret v) s):=fun a b hs=>by
   rw [Fs]
   exact .of (J4 _ a b FTl) (Kc hs Lh)
  have hi:∀ a b,Src a b->Wr (af False (ev False O16 200) 1 noStr "_law_index_right" [.ref 4] ⟨[("script",.p (.lst (ns.map .int))),("source",.ref 4)],tabsH a b,5⟩ fun v s=>Qb CTl (.ret v) s):=fun a b hs=>by
   rw [Fs]
   exact .of (J2 _ a b FTl) (Ka hs Lh)
  exact ⟨Ke c,(by decide:(1:Int)<=4/\(4:Int)<=8),fun x _ _ a b hs=>Pz (hr a b hs) (hi a b hs)⟩
 rw [Pt,Fe, ← List.take_append_drop 2 (fnB "_law_pool"),Ff]
 induction ns using List.casesOn with
 | nil=>exact xm rfl (go 0)
 | cons n r =>
  refine xn (decide_eq_true (by rw [List.length_map,List.length_cons];omega)) (md (x:=.int n) ?_ (go n))
  delta item idx
  rw [decide_eq_true (by decide),decide_eq_true (by rw [List.length_map,List.length_cons];omega)]
  rfl
theorem Ft (ns:List Int):af False (ev False O16 204) 0 noStr "law" [.p (.lst (ns.map .int))] S4 fun v s=>v = .p (.bool true)/\Kz s:=by
 obtain ⟨h⟩:=Kf ns
 exact h
theorem law_holds:RW.Holds:=head (Ib O16 204 (fun w K lz mn mg mb t=>Ud) fun ns _=>Ft ns)
end Mine
end
theorem PySem.Challenge.cw_nt0133_01_holds : PySem.Challenge.rw_nt0133_01.Holds :=
 Mine.law_holds
