/- For any text of at most 80 bytes, followed by any number up to 200 of zeros, the program reads the number that the reference reads, or the first error, and a right number of at most 80 bytes as itself. Conditions: none but the card's own cells (the listed variables of Go's library hold what the program's text lays). -/
import Derived.Lib.IndexBytes
import Derived.Test.YtnfgokmecllpbaaGreatDoorCards
import Derived.LaidByTextLater
import Derived.SevenTiedAt
import Derived.LaidSub
import Derived.LaidOnce
import Derived.Test.YtnfgokmecllpbaaGreatDoorMParses5
set_option linter.unusedVariables false
set_option linter.unusedSimpArgs false
set_option maxHeartbeats 8000000
set_option maxRecDepth 100000
section
namespace Go.Klippe
theorem divmod_neg (x y:Nat) (hy:0<y):(-(x:Int)) / (y:Int)= (if x % y=0 then -((x / y:Nat):Int) else -((x / y+1:Nat):Int))∧(-(x:Int)) % (y:Int)= (if x % y=0 then 0 else((y - x % y:Nat):Int)):=by
 have hm:=Nat.div_add_mod x y;have hlt:=Nat.mod_lt x hy;have e:((y * (x / y):Nat):Int)= (y:Int) * ((x / y:Nat):Int):=Int.natCast_mul _ _;refine(Int.ediv_emod_unique (by omega)).2 ?_;by_cases h:x % y=0
 ·rw[if_pos h,if_pos h,Int.mul_neg];generalize (y:Int) * ((x / y:Nat):Int)=u at *;omega
 ·rw[if_neg h,if_neg h,Int.mul_neg,Int.natCast_add,Int.mul_add];generalize (y:Int) * ((x / y:Nat):Int)=u at *;refine⟨?_,?_,?_⟩ <;> omega
end Go.Klippe
namespace Go.Proofs.YtnfgokmecllpbaaGreatDoor.Print
open Go.RowKit Go.Klippe Go.Proofs.YtnfgokmecllpbaaGreatDoorW.PrintWords Go.Proofs.YtnfgokmecllpbaaGreatDoorW.PrintLast Go.Proofs.YtnfgokmecllpbaaGreatDoorW.PrintMore
theorem lit1:([1]:List Int)=pI 1:=(pI_one (by decide) (by decide)).symm
theorem pI_pos_iff (m:Nat):((pI m).length:Int) > 0↔m≠0:=by
 constructor
 ·intro h e;rw[pI_nil.2 e] at h;exact absurd h (by decide)
 ·intro h;have h1:pI m≠[]:=fun e=>h (pI_nil.1 e)
  have h2:=List.length_pos_iff.2 h1;omega
theorem len_add {x y k:Nat} (hx:(pI x).length≤k) (hy:(pI y).length≤k):(pI (x+y)).length≤k+1:=by
 rw[pI_length];refine pd_length_le (by decide) ?_;have h3:=lt_pow_pd (B:=1000000000) (by decide) x;have h4:=lt_pow_pd (B:=1000000000) (by decide) y;rw[←pI_length] at h3 h4;have h5:1000000000 ^ (pI x).length≤1000000000 ^ k:=Nat.pow_le_pow_right (by decide) hx;have h6:1000000000 ^ (pI y).length≤1000000000 ^ k:=Nat.pow_le_pow_right (by decide) hy;rw[Nat.pow_succ];generalize (1000000000:Nat) ^ k=u at *;generalize 1000000000 ^ (pI x).length=u1 at *;generalize 1000000000 ^ (pI y).length=u2 at *;omega
theorem div_sign (a b:Int) (hb:b≠0) (h: ¬(a<0∧a.natAbs % b.natAbs≠0)):
  (if(decide (a<0)!=decide (b<0))=true then -((a.natAbs / b.natAbs:Nat):Int) else((a.natAbs / b.natAbs:Nat):Int))=a / b∧((a.natAbs % b.natAbs:Nat):Int)=a % b:=by
 have hy:0<b.natAbs:=by omega
 obtain⟨h1,h2⟩ :=divmod_neg a.natAbs b.natAbs hy;by_cases ha:a<0
 ·have hm:a.natAbs % b.natAbs=0:=by
   apply Classical.byContradiction;intro hh;exact h ⟨ha,hh⟩
  rw[if_pos hm] at h1 h2;rw[Int.ofNat_natAbs_of_nonpos (a:=a) (by omega),Int.neg_neg] at h1 h2;rw[hm];by_cases hb0:b<0
  ·rw[Int.ofNat_natAbs_of_nonpos (a:=b) (by omega)] at h1 h2;rw[Int.ediv_neg] at h1;rw[Int.emod_neg] at h2;simp only[decide_eq_true ha,decide_eq_true hb0,bne_self_eq_false,Bool.false_eq_true,if_false];exact⟨by omega,h2.symm⟩
  ·rw[Int.natAbs_of_nonneg (a:=b) (by omega)] at h1 h2;simp only[decide_eq_true ha,decide_eq_false hb0,show(true !=false)=true from rfl,if_true];exact⟨h1.symm,h2.symm⟩
 ·have ea:(a.natAbs:Int)=a:=Int.natAbs_of_nonneg (by omega);by_cases hb0:b<0
  ·simp only[decide_eq_false ha,decide_eq_true hb0,show(false !=true)=true from rfl,if_true];have eb:(b.natAbs:Int)= -b:=Int.ofNat_natAbs_of_nonpos (by omega);rw[Int.natCast_ediv,Int.natCast_emod,ea,eb,Int.ediv_neg,Int.emod_neg,Int.neg_neg];exact⟨rfl,rfl⟩
  ·simp only[decide_eq_false ha,decide_eq_false hb0,bne_self_eq_false,Bool.false_eq_true,if_false];have eb:(b.natAbs:Int)=b:=Int.natAbs_of_nonneg (by omega);rw[Int.natCast_ediv,Int.natCast_emod,ea,eb];exact⟨rfl,rfl⟩
theorem div_sign2 (a b:Int) (hb:b≠0) (ha:a<0) (h:a.natAbs % b.natAbs≠0):
  (if(decide (a<0)!=decide (b<0))=true then -((a.natAbs / b.natAbs+1:Nat):Int) else((a.natAbs / b.natAbs+1:Nat):Int))=a / b∧((b.natAbs - a.natAbs % b.natAbs:Nat):Int)=a % b:=by
 have hy:0<b.natAbs:=by omega
 obtain⟨h1,h2⟩ :=divmod_neg a.natAbs b.natAbs hy;rw[if_neg h] at h1 h2;rw[Int.ofNat_natAbs_of_nonpos (a:=a) (by omega),Int.neg_neg] at h1 h2;by_cases hb0:b<0
 ·rw[Int.ofNat_natAbs_of_nonpos (a:=b) (by omega)] at h1 h2;rw[Int.ediv_neg] at h1;rw[Int.emod_neg] at h2;simp only[decide_eq_true ha,decide_eq_true hb0,bne_self_eq_false,Bool.false_eq_true,if_false];exact⟨by omega,h2.symm⟩
 ·rw[Int.natAbs_of_nonneg (a:=b) (by omega)] at h1 h2;simp only[decide_eq_true ha,decide_eq_false hb0,show(true !=false)=true from rfl,if_true];exact⟨h1.symm,h2.symm⟩
theorem DivMod_j0 (a b:Int) (hb:b≠0) (x31:Bool) (hx:x31=decide (a<0∧a.natAbs % b.natAbs≠0)) (hla:(pI a.natAbs).length≤100000) (hlb:(pI b.natAbs).length≤100000):
  Eu (fun k=>Y48.j0 k (pI (a.natAbs / b.natAbs)) (pI (a.natAbs % b.natAbs)) x31 (decide (a<0)) (pI a.natAbs) (decide (b<0)) (pI b.natAbs)) (tI (a / b),tI (a % b),0):=by
 have hlt:=Nat.mod_lt a.natAbs (show 0<b.natAbs by omega);have hq:=pI_length_mono (Nat.div_le_self a.natAbs b.natAbs);have hr:=pI_length_mono (Nat.le_of_lt hlt);have hs:=pI_length_mono (Nat.sub_le b.natAbs (a.natAbs % b.natAbs));have h1:(pI 1).length=1:=by rw[←lit1];rfl
 refine Eu.succ ?_;simp only[Y48.j0];by_cases hc:a<0∧a.natAbs % b.natAbs≠0
 ·rw[hx,decide_eq_true hc,lit1];obtain⟨e1,e2⟩ :=div_sign2 a b hb hc.1 hc.2;have hq1:(pI (a.natAbs / b.natAbs+1)).length≤100001:=len_add (Nat.le_trans hq hla) (by omega);refine Eu.ifp rfl (Eu.bind (plus_ev _ _ (by omega) (by omega)) (Eu.bind (minus_ev _ _ (Nat.le_of_lt hlt) (by omega)) (Eu.bindc (close_f _ _ (by omega)) (Eu.bindc (close_f _ _ (by omega)) ?_))));rw[e1,if_neg (by decide),e2];exact Eu.some _
 ·rw[hx,decide_eq_false hc];obtain⟨e1,e2⟩ :=div_sign a b hb hc;refine Eu.ifn (by decide) (Eu.bindc (close_f _ _ (by omega)) (Eu.bindc (close_f _ _ (by omega)) ?_));rw[e1,if_neg (by decide),e2];exact Eu.some _
theorem DivMod_ev (a b:Int) (hb:b≠0) (ha:Bz a) (hbb:Bz b):Eu (fun k=>Y48.f k (tI a) (tI b)) (tI (a / b),tI (a % b),0):=by
 have la:=Bz_pI ha;have lb:=Bz_pI hbb;unfold Y48.f;refine Eu.ifn (fun e=>hb ((tI_toList_zero b).1 e)) (Eu.bind (open_ev a (Bz_digits ha)) (Eu.bind (open_ev b (Bz_digits hbb)) (Eu.bind (divide_ev a.natAbs b.natAbs (by omega) (by omega) (by omega)) ?_)));refine Eu.ite (fun h=>?_) (fun h=>?_)
 ·have ha0:a<0:=by simpa using h
  refine DivMod_j0 a b hb _ ?_ la lb;apply decide_eq_decide.2;rw[pI_pos_iff];exact⟨fun hh=> ⟨ha0,hh⟩,fun hh=>hh.2⟩
 ·have ha0: ¬a<0:=by simpa using h
  exact DivMod_j0 a b hb false (decide_eq_false (fun hh=>ha0 hh.1)).symm la lb
theorem gcd_step (x y:Nat):Nat.gcd x y=Nat.gcd y (x % y):=by
 rw[Nat.gcd_comm x y,Nat.gcd_rec y x,Nat.gcd_comm]
theorem Gcd_l1: ∀(y x:Nat),(pI x).length≤100000→(pI y).length≤100000→Eu (fun k=>Y78.l1 k (pI x) (pI y)) (tI ((Nat.gcd x y:Nat):Int)):=by
 intro y
 induction y using Nat.strongRecOn with
 |ind y ih=>
  intro x hx hy;refine Eu.succ ?_;simp only[Y78.l1];by_cases h0:y=0
  ·subst h0;refine Eu.ifn (by rw[pI_pos_iff];simp) (Eu.bindc (close_f _ _ (by omega)) ?_);rw[if_neg (by decide),Nat.gcd_zero_right];exact Eu.some _
  ·have hlt:=Nat.mod_lt x (show 0<y by omega);refine Eu.ifp ((pI_pos_iff y).2 h0) (Eu.bind (divide_ev x y h0 (by omega) (by omega)) ?_);rw[gcd_step x y];exact ih (x % y) hlt y hy (Nat.le_trans (pI_length_mono (Nat.le_of_lt hlt)) hy)
theorem Gcd_l0: ∀(n:Nat) (x y:Int),y.natAbs=n→nb 18 x→nb 18 y→Eu (fun k=>Y78.l0 k x y) (tI ((Nat.gcd x.natAbs y.natAbs:Nat):Int)):=by
 intro n;have h18:(10:Nat) ^ 18=1000000000000000000:=by decide
 induction n using Nat.strongRecOn with
 |ind n ih=>
  intro x y hn hx hy;refine Eu.succ ?_;simp only[Y78.l0];by_cases h0:y=0
  ·subst h0;have hx':=hx;unfold nb at hx';have e:mx x (wrap64 (-x))= (x.natAbs:Int):=by
    rw[w64 (by omega) (by omega)];unfold mx;split <;> omega
   rw[e];refine Eu.ifp rfl (Eu.bindc (Of_f (by unfold nb;rw[Int.natAbs_natCast];exact hx')) ?_);rw[Int.natAbs_zero,Nat.gcd_zero_right];exact Eu.some _
  ·have e:(x.tmod y).natAbs=x.natAbs % y.natAbs:=Int.natAbs_tmod x y;have hlt:=Nat.mod_lt x.natAbs (show 0<y.natAbs by omega);refine Eu.ifn h0 ?_;rw[gcd_step,←e];refine ih _ (by rw[e];omega) y (x.tmod y) rfl hy ?_;unfold nb at *;rw[e];omega
theorem Gcd_j1 (a b:Int) (ha:Bz a) (hb:Bz b):Eu (fun k=>Y78.j1 k (tI a) (tI b)) (tI ((Int.gcd a b:Nat):Int)):=by
 refine Eu.succ ?_;simp only[Y78.j1];exact Eu.bind (open_ev a (Bz_digits ha)) (Eu.bind (open_ev b (Bz_digits hb)) (Gcd_l1 b.natAbs a.natAbs (Bz_pI ha) (Bz_pI hb)))
theorem Gcd_ev (a b:Int) (ha:Bz a) (hb:Bz b):Eu (fun k=>Y78.f k (tI a) (tI b)) (tI ((Int.gcd a b:Nat):Int)):=by
 unfold Y78.f;refine Eu.bindc (quick_f a 18 (by decide)) ?_;by_cases h1:(Lib.itoa a).length≤18
 ·rw[if_pos h1];refine Eu.ifp rfl (Eu.bindc (quick_f b 18 (by decide)) ?_);by_cases h2:(Lib.itoa b).length≤18
  ·rw[if_pos h2];exact Eu.ifp rfl (Gcd_l0 _ a b rfl (nb_of_length h1) (nb_of_length h2))
  ·rw[if_neg h2];exact Eu.ifn (by simp) (Gcd_j1 a b ha hb)
 ·rw[if_neg h1];exact Eu.ifn (by simp) (Gcd_j1 a b ha hb)
theorem lit2:([2]:List Int)=pI 2:=(pI_one (by decide) (by decide)).symm
theorem ordN_ge (m n:Nat):ordN m n≥0↔n≤m:=by
 unfold ordN;split
 ·omega
 ·split <;> omega
theorem Root_l0 (n:Nat) (hn:0<n) (hl:(pI n).length≤100000): ∀(x:Nat),0<x→n< (x+1) * (x+1)→(pI x).length≤100001→
  ∃r,IsRoot r n∧Eu (fun k=>Y68.l0 k (pI n) (pI x)) (tI (r:Int),0):=by
 intro x
 induction x using Nat.strongRecOn with
 |ind x ih=>
  intro hx habove hlx;have h2:(pI 2).length=1:=by rw[←lit2];rfl
  have hq:=pI_length_mono (Nat.div_le_self n x);have hsum:(pI (x+n / x)).length≤100002:=len_add hlx (by omega);have hstep: ∀r,((x+n / x) / 2<x→Eu (fun k=>Y68.l0 k (pI n) (pI ((x+n / x) / 2))) (tI (r:Int),0))→(x≤(x+n / x) / 2→r=x)→Eu (fun k=>Y68.l0 k (pI n) (pI x)) (tI (r:Int),0):=by
   intro r h1 h2';have hl2:=pI_length_mono (Nat.div_le_self (x+n / x) 2);refine Eu.succ ?_;simp only[Y68.l0];refine Eu.bind (divide_ev n x (by omega) (by omega) (by omega)) (Eu.bind (plus_ev _ _ (by omega) (by omega)) ?_);rw[lit2];refine Eu.bind (divide_ev _ 2 (by decide) (by omega) (by omega)) (Eu.bind (order_ev _ _ (by omega)) ?_);by_cases hc:x≤(x+n / x) / 2
   ·refine Eu.ifp ((ordN_ge _ _).2 hc) (Eu.bindc (close_f _ _ (by omega)) ?_);rw[if_neg (by decide),h2' hc];exact Eu.some _
   ·exact Eu.ifn (fun h=>hc ((ordN_ge _ _).1 h)) (h1 (by omega))
  by_cases hc:x≤(x+n / x) / 2
  ·exact⟨x,⟨newton_stop hx hc,habove⟩,hstep x (fun h=>absurd hc (by omega)) (fun _=>rfl)⟩
  ·obtain⟨r,hr,he⟩ :=ih ((x+n / x) / 2) (by omega) (newton_pos hn hx) (newton_above hx) (Nat.le_trans (pI_length_mono (show(x+n / x) / 2≤x by omega)) hlx);exact⟨r,hr,hstep r (fun _=>he) (fun h=>absurd h hc)⟩
theorem zeros_one (h:Nat):(List.replicate h 0:List Int)++ [1]=pI (1000000000 ^ h):=by
 have e:(List.replicate h 0:List Int)++ [1]=cI (List.replicate h 0++ [1]):=by simp[cI]
 have hb:bdd 1000000000 (List.replicate h 0++ [1]):=by
  intro x hx;rw[List.mem_append,List.mem_replicate,List.mem_singleton] at hx;omega
 have ht:trd (List.replicate h 0++ [1]):=by
  intro q x hx;have:=List.append_inj_right' hx rfl;simp at this;omega
 have hp:=pd_pv (B:=1000000000) (by decide) _ hb ht;rw[pv_snoc,pv_zeros,List.length_replicate,Nat.zero_add,Nat.mul_one] at hp;rw[e,←hp];rfl
theorem Root_ev (z:Int) (hz:0≤z) (hb:Bz z): ∃r,IsRoot r z.natAbs∧Eu (fun k=>Y68.f k (tI z)) (tI (r:Int),0):=by
 have la:=Bz_pI hb;have hs: ¬sgn z<0:=by unfold sgn;split <;> (try split) <;> omega
 by_cases h0:z=0
 ·subst h0;refine⟨0,⟨by decide,by decide⟩,?_⟩;unfold Y68.f;refine Eu.bindc (Sign_f 0) (Eu.ifn hs (Eu.bind (open_ev 0 (Bz_digits hb)) (Eu.ifp (by rw[Int.natAbs_zero,pI_zero];rfl) ?_)));refine(Eu.some _).eq ?_;rw[show((0:Nat):Int)=0 from rfl,tI_zero]
 ·have hn:0<z.natAbs:=by omega
  have hlen:((pI z.natAbs).length:Int)≠0:=by have:=(pI_pos_iff z.natAbs).2 (by omega);omega
  obtain⟨h,hh⟩ : ∃h,h= ((pI z.natAbs).length+1) / 2:= ⟨_,rfl⟩
  have hx:0<1000000000 ^ h:=Nat.pow_pos (by decide);have habove:z.natAbs< (1000000000 ^ h+1) * (1000000000 ^ h+1):=by
   have h1:=lt_pow_pd (B:=1000000000) (by decide) z.natAbs;rw[←pI_length] at h1;have h2:1000000000 ^ (pI z.natAbs).length≤1000000000 ^ (h+h):=Nat.pow_le_pow_right (by decide) (by omega);rw[Nat.pow_add] at h2;have h3:1000000000 ^ h * 1000000000 ^ h≤(1000000000 ^ h+1) * (1000000000 ^ h+1):=Nat.mul_le_mul (by omega) (by omega);exact Nat.lt_of_lt_of_le h1 (Nat.le_trans h2 h3)
  have hlx:(pI (1000000000 ^ h)).length≤100001:=by rw[←zeros_one];simp;omega
  obtain⟨r,hr,he⟩ :=Root_l0 z.natAbs hn la (1000000000 ^ h) hx habove hlx;refine⟨r,hr,?_⟩;unfold Y68.f;refine Eu.bindc (Sign_f z) (Eu.ifn hs (Eu.bind (open_ev z (Bz_digits hb)) (Eu.ifn hlen ?_)));have ew:wrap64 (Int.tdiv (wrap64 (((pI z.natAbs).length:Int)+1)) 2)= (h:Int):=by
   rw[w64 (z:=((pI z.natAbs).length:Int)+1) (by omega) (by omega),Int.tdiv_eq_ediv_of_nonneg (by omega),w64 (by omega) (by omega)];omega
  simp only;rw[ew,Int.toNat_natCast];refine Eu.ifp (by omega) (Eu.ifp (by omega) (Eu.bindc rfl (Eu.ifp (by rw[List.length_replicate];omega) ?_)));rw[zeros_one];exact he
end Go.Proofs.YtnfgokmecllpbaaGreatDoor.Print
end
section
namespace Go.Klippe
def vI:List Int→Int
 | []=>0
 |x::p=>x+10000 * vI p
theorem vI_append (p q:List Int):vI (p++q)=vI p+10000 ^ p.length * vI q:=by
 induction p with
 |nil=>simp[vI]
 |cons x p ih=>
  rw[List.cons_append,vI,vI,ih,List.length_cons,Int.pow_succ,Int.mul_add,←Int.mul_assoc,Int.mul_comm (10000 ^ p.length) 10000];omega
theorem vI_snoc (p:List Int) (x:Int):vI (p++ [x])=vI p+10000 ^ p.length * x:=by
 rw[vI_append];simp[vI]
theorem vI_set: ∀(p:List Int) (j:Nat) (v:Int) (h:j<p.length),vI (p.set j v)=vI p+10000 ^ j * (v - p[j])
 | [],j,v,h=>by simp at h
 |x::p,0,v,h=>by simp[vI];omega
 |x::p,j+1,v,h=>by
  have h':j<p.length:=by simpa using h
  have e:=vI_set p j v h';rw[List.set_cons_succ,List.getElem_cons_succ,vI,vI,e,Int.pow_succ,Int.mul_add,←Int.mul_assoc,Int.mul_comm (10000 ^ j) 10000];omega
theorem vI_take_succ (p:List Int) {i:Nat} (h:i<p.length):vI (p.take (i+1))=vI (p.take i)+10000 ^ i * p[i]:=by
 rw[List.take_succ_eq_append_getElem h,vI_snoc,List.length_take,Nat.min_eq_left (by omega)]
theorem vI_drop (p:List Int) {i:Nat} (h:i<p.length):vI (p.drop i)=p[i]+10000 * vI (p.drop (i+1)):=by
 rw[List.drop_eq_getElem_cons h,vI]
theorem carry_round {s:List Nat} {i:Nat} {x t V:Int} (hs:s.length=i) (hV:(pv 10000 s:Int)+10000 ^ i * (x+10000 * t)=V) (n:Nat) (hn:(n:Int)=x % 10000):
  (pv 10000 (s++ [n]):Int)+10000 ^ (i+1) * (x / 10000+t)=V:=by
 rw[pv_snoc,hs,Int.natCast_add,Int.natCast_mul,Int.natCast_pow,Int.pow_succ,hn,←hV];have h1:x=x % 10000+10000 * (x / 10000):=by omega
 have h2:(10000:Int) ^ i * (x+10000 * t)=10000 ^ i * (x % 10000)+10000 ^ i * 10000 * (x / 10000+t):=by
  rw[Int.mul_assoc,←Int.mul_add];congr 1;omega
 rw[h2];have:((10000:Nat):Int)=10000:=rfl;rw[this];omega
end Go.Klippe
namespace Go.Proofs.YtnfgokmecllpbaaGreatDoor.Print
open Go.RowKit Go.Klippe Go.Proofs.YtnfgokmecllpbaaGreatDoorW.PrintWords Go.Proofs.YtnfgokmecllpbaaGreatDoorW.PrintLast Go.Proofs.YtnfgokmecllpbaaGreatDoorW.PrintMore
theorem cut_trim: ∀(k:Nat) (l:List Int),Y46.l0 k l=Y72.l0 k l
 |0,_=>rfl
 |k+1,l=>by
  unfold Y46.l0 Y72.l0;simp only[cut_trim k]
theorem cut_f (k:Nat) (l:List Int) (h:l.length<k) (hb:l.length<4611686018427387904):Y46.f k l=some (trimI l):=by
 unfold Y46.f;rw[cut_trim];exact trim_l0 k l h hb
def pJ (n:Nat):List Int:=cI (pd 10000 n)
theorem pJ_def (n:Nat):cI (pd 10000 n)=pJ n:=rfl
theorem pJ_length (n:Nat):(pJ n).length= (pd 10000 n).length:=cI_length _
theorem pJ_zero:pJ 0= []:=by unfold pJ;rw[pd_zero];rfl
theorem pJ_length_mono {m n:Nat} (h:m≤n):(pJ m).length≤(pJ n).length:=by
 rw[pJ_length,pJ_length];exact pd_length_mono (by decide) h
theorem pJ_nil {n:Nat}:pJ n= []↔n=0:=by
 constructor
 ·intro h;have h1:(pJ n).length=0:=by rw[h];rfl
  rw[pJ_length] at h1;exact(pd_eq_nil (by decide)).1 (List.length_eq_zero_iff.1 h1)
 ·rintro rfl;exact pJ_zero
theorem cut_ev (p:List Nat) (hb:bdd 10000 p) (hl:p.length<4611686018427387904):Eu (fun k=>Y46.f k (cI p)) (pJ (pv 10000 p)):=by
 refine Eu.of (p.length+1) fun k hk=>?_
 rw[cut_f k _ (by rw[cI_length];omega) (by rw[cI_length];exact hl),trimI_cI,trim_eq (by decide) hb];rfl
theorem vI_cI (p:List Nat):vI (cI p)= (pv 10000 p:Int):=by
 induction p with
 |nil=>rfl
 |cons x p ih=>
  have e:cI (x::p)= (x:Int)::cI p:=rfl;rw[e,vI,ih,pv_cons,Int.natCast_add,Int.natCast_mul];rfl
theorem vI_pJ (n:Nat):vI (pJ n)= (n:Int):=by unfold pJ;rw[vI_cI,pv_pd (by decide)]
theorem tmod_neg (m:Nat):Int.tmod (-(m:Int)) 10000= -((m % 10000:Nat):Int):=by
 rw[Int.neg_tmod,Int.tmod_eq_emod_of_nonneg (by omega)];rfl
theorem tdiv_neg (m:Nat):Int.tdiv (-(m:Int)) 10000= -((m / 10000:Nat):Int):=by
 rw[Int.neg_tdiv,Int.tdiv_eq_ediv_of_nonneg (by omega)];rfl
theorem carry_neg {x:Int} (h0:-4000000000000000000<x) (h1:x<4000000000000000000) (h:Int.tmod x 10000<0):
  wrap64 ((Int.tmod x 10000)+10000)=x % 10000∧wrap64 (Int.tdiv (wrap64 (x - (wrap64 ((Int.tmod x 10000)+10000)))) 10000)=x / 10000:=by
 have hx:x<0:=by
  apply Classical.byContradiction;intro hh;rw[Int.tmod_eq_emod_of_nonneg (by omega)] at h;omega
 obtain⟨m,rfl⟩ : ∃m:Nat,x= -(m:Int):= ⟨x.natAbs,by omega⟩
 rw[tmod_neg] at h⊢;have e1:wrap64 (-((m % 10000:Nat):Int)+10000)= (-(m:Int)) % 10000:=by rw[w64 (by omega) (by omega)];omega
 rw[e1];refine⟨rfl,?_⟩;obtain⟨q,hq⟩ : ∃q:Nat,-(m:Int) - (-(m:Int)) % 10000= -((10000 * q:Nat):Int):= ⟨(m+ ((-(m:Int)) % 10000).toNat) / 10000,by omega⟩
 rw[hq,w64 (z:=-((10000 * q:Nat):Int)) (by omega) (by omega),tdiv_neg,w64 (by omega) (by omega)];omega
theorem carry_pos {x:Int} (h0:-4000000000000000000<x) (h1:x<4000000000000000000) (h: ¬Int.tmod x 10000<0):
  Int.tmod x 10000=x % 10000∧wrap64 (Int.tdiv (wrap64 (x - (Int.tmod x 10000))) 10000)=x / 10000:=by
 by_cases hx:0≤x
 ·rw[Int.tmod_eq_emod_of_nonneg hx,w64 (z:=x - x % 10000) (by omega) (by omega),Int.tdiv_eq_ediv_of_nonneg (by omega),w64 (by omega) (by omega)];refine⟨rfl,?_⟩;omega
 ·obtain⟨m,rfl⟩ : ∃m:Nat,x= -(m:Int):= ⟨x.natAbs,by omega⟩
  rw[tmod_neg] at h⊢;have hm:m % 10000=0:=by omega
  rw[hm];have e:-(m:Int) - -((0:Nat):Int)= -(m:Int):=by omega
  rw[e,w64 (z:=-(m:Int)) (by omega) (by omega),tdiv_neg,w64 (by omega) (by omega)];constructor <;> omega
theorem carry_end (p:List Int) (V:Nat): ∀(d o i:Nat) (s:List Nat),p.length≤i→s.length=i→i+d<4000000000000→o<10000 ^ d→o<4000000000000000000→bdd 10000 s→pv 10000 s+10000 ^ i * o=V→
  Eu (fun k=>Y18.l0 k p (cI s) (o:Int) (i:Int)) (pJ V):=by
 intro d
 induction d with
 |zero=>
  intro o i s hi hs hio hod ho hb hV;obtain rfl:o=0:=by rw[Nat.pow_zero] at hod;exact Nat.lt_one_iff.1 hod
  rw[Nat.mul_zero,Nat.add_zero] at hV;refine Eu.succ ?_;simp only[Y18.l0];refine Eu.ifn (by omega) (Eu.succ ?_);simp only[Y18.j1];refine Eu.ifn (by decide) (Eu.bind (cut_ev s hb (by omega)) ?_);rw[hV];exact Eu.some _
 |succ d ih=>
  intro o i s hi hs hio hod ho hb hV;have hod2:o / 10000<10000 ^ d:=Nat.div_lt_of_lt_mul (by rw[Nat.pow_succ,Nat.mul_comm] at hod;exact hod);have HV:=Aside0.mk hV;clear hV hod;refine Eu.succ ?_;simp only[Y18.l0];refine Eu.ifn (by omega) (Eu.succ ?_);simp only[Y18.j1];by_cases h0:o=0
  ·subst h0;refine Eu.ifn (by decide) (Eu.bind (cut_ev s hb (by omega)) ?_);have:=HV.out;rw[Nat.mul_zero,Nat.add_zero] at this;rw[this];exact Eu.some _
  ·have hne:((o:Int)!=0)=true:=by rw[bne_iff_ne];omega
   have ht: ¬Int.tmod (o:Int) 10000<0:=by rw[Int.tmod_eq_emod_of_nonneg (by omega)];omega
   obtain⟨e1,e2⟩ :=carry_pos (x:=(o:Int)) (by omega) (by omega) ht;have hi1:wrap64 ((i:Int)+1)= ((i+1:Nat):Int):=w64_succ (by omega);have f1:(cI s).length<17592186044416:=by rw[cI_length];omega
   have f2: ¬(i:Int)< (p.length:Int):=by omega
   have f3:p.length≤i+1:=by omega
   have f4:i+1+d<4000000000000:=by omega
   have f5:o / 10000<4000000000000000000:=by omega
   refine Eu.ifp hne (Eu.ifn f2 (Eu.ifn ht (Eu.ifp f1 ?_)));rw[e2,hi1,e1,show(o:Int) % 10000= ((o % 10000:Nat):Int) from rfl,show(o:Int) / 10000= ((o / 10000:Nat):Int) from rfl,cI_snoc];refine ih (o / 10000) (i+1) (s++ [o % 10000]) f3 (by rw[List.length_append,hs];rfl) f4 hod2 f5 (bdd_append.2 ⟨hb,by intro x hx;rw[List.mem_singleton] at hx;omega⟩) ?_;have h1:=HV.out;rw[pv_snoc,hs,Nat.pow_succ,←h1,Nat.add_assoc,Nat.mul_assoc,←Nat.mul_add,Nat.mod_add_div]
theorem over_nonneg {s:List Nat} {o:Int} {V:Nat} (hb:bdd 10000 s) (h:(pv 10000 s:Int)+10000 ^ s.length * o=V):0≤o:=by
 apply Classical.byContradiction;intro hn;have h1:=pv_lt (B:=10000) (by decide) hb;have h2:(10000:Int) ^ s.length= ((10000 ^ s.length:Nat):Int):=by rw[Int.natCast_pow];rfl
 rw[h2] at h;have h3:((10000 ^ s.length:Nat):Int) * o≤((10000 ^ s.length:Nat):Int) * (-1):=Int.mul_le_mul_of_nonneg_left (by omega) (by omega);generalize (10000:Nat) ^ s.length=u at *;generalize ((u:Nat):Int) * o=t at *;omega
theorem rd_get {l:List Int} {i:Nat} (h:i<l.length):rd l (i:Int)=l[i]:=rd_nat h
theorem carry_l0 (p:List Int) (hp: ∀x∈p,-200000000000000000<x∧x<200000000000000000) (hlp:p.length<1000000000000) (V:Nat):
  ∀(m i:Nat) (s:List Nat) (o:Int),p.length - i=m→i≤p.length→s.length=i→bdd 10000 s→-100000000000000000<o→o<100000000000000000→(pv 10000 s:Int)+10000 ^ i * (o+vI (p.drop i))=V→
   Eu (fun k=>Y18.l0 k p (cI s) o (i:Int)) (pJ V):=by
 intro m
 induction m with
 |zero=>
  intro i s o hm hi hs hb ho1 ho2 hV;have hie:i=p.length:=by omega
  rw[hie,List.drop_length,vI,Int.add_zero,←hie,←hs] at hV;have h0:=over_nonneg hb hV;obtain⟨n,rfl⟩ :=Int.eq_ofNat_of_zero_le h0;refine carry_end p V 5 n i s (by omega) hs (by omega) ?_ (by omega) hb ?_
  ·have:(10000:Nat) ^ 5=100000000000000000000:=by decide
   rw[this];omega
  ·have h2:(10000:Int) ^ s.length= ((10000 ^ s.length:Nat):Int):=by rw[Int.natCast_pow];rfl
   rw[h2,←Int.natCast_mul,←Int.natCast_add] at hV;rw[←hs];exact Int.ofNat.inj hV
 |succ m ih=>
  intro i s o hm hi hs hb ho1 ho2 hV;have hip:i<p.length:=by omega
  have hx:=hp _ (List.getElem_mem hip);rw[vI_drop p hip,←Int.add_assoc] at hV;have hst:=fun n hn=>carry_round hs hV n hn
  clear hV;have hr:=rd_get hip;have f1:(cI s).length<17592186044416:=by rw[cI_length];omega
  have f2:(i:Int)< (p.length:Int):=by omega
  have f3:p.length - (i+1)=m:=by omega
  generalize p[i]=y at *;obtain⟨x,hx1⟩ : ∃x,x=o+y:= ⟨_,rfl⟩
  rw[←hx1] at hst;have f4:-4000000000000000000<x:=by omega
  have f5:x<4000000000000000000:=by omega
  have ex:wrap64 (o+y)=x:=by rw[w64 (by omega) (by omega),hx1]
  have f6:(((x % 10000).toNat:Nat):Int)=x % 10000:=by omega
  have f7:(x % 10000).toNat<10000:=by omega
  have f8:-100000000000000000<x / 10000:=by omega
  have f9:x / 10000<100000000000000000:=by omega
  have hi1:wrap64 ((i:Int)+1)= ((i+1:Nat):Int):=w64_succ (by omega);have hn:=ih (i+1) (s++ [(x % 10000).toNat]) (x / 10000) f3 hip (by rw[List.length_append,hs];rfl) (bdd_append.2 ⟨hb,by intro z hz;rw[List.mem_singleton] at hz;rw[hz];exact f7⟩) f8 f9 (hst _ f6);rw[←cI_snoc,f6] at hn;refine Eu.succ ?_;simp only[Y18.l0];refine Eu.ifp f2 (Eu.succ ?_);simp only[Y18.j1];refine Eu.ifp trivial (Eu.ifp f2 (Eu.ifp (Int.natCast_nonneg i) ?_));rw[hr,ex];refine Eu.ite (fun h=>?_) (fun h=>?_)
  ·obtain⟨e1,e2⟩ :=carry_neg f4 f5 h;refine Eu.ifp f1 ?_;rw[e2,e1,hi1];exact hn
  ·obtain⟨e1,e2⟩ :=carry_pos f4 f5 h;refine Eu.ifp f1 ?_;rw[e2,e1,hi1];exact hn
theorem carry_ev (p:List Int) (hp: ∀x∈p,-200000000000000000<x∧x<200000000000000000) (hlp:p.length<1000000000000) (V:Nat) (hV:vI p= (V:Int)):Eu (fun k=>Y18.f k p) (pJ V):=by
 unfold Y18.f;exact carry_l0 p hp hlp V p.length 0 [] 0 (by omega) (Nat.zero_le _) rfl (bdd_nil _) (by decide) (by decide) (by rw[List.drop_zero,hV,pv_nil];simp)
end Go.Proofs.YtnfgokmecllpbaaGreatDoor.Print
end
section
namespace Go.Proofs.YtnfgokmecllpbaaGreatDoor.Print
open Go.RowKit Go.Klippe Go.Proofs.YtnfgokmecllpbaaGreatDoorW.PrintWords Go.Proofs.YtnfgokmecllpbaaGreatDoorW.PrintLast Go.Proofs.YtnfgokmecllpbaaGreatDoorW.PrintMore
theorem less_l0 (B:Nat) (hB:1≤B) (p q:List Nat) (hp:bdd B p) (hq:bdd B q) (hl:p.length=q.length) (hb:p.length<4611686018427387904):
  ∀(j:Nat),j≤p.length→Eu (fun k=>Y30.l0 k (cI p) (cI q) ((j:Int) - 1)) (decide (pv B (p.take j)<pv B (q.take j))):=by
 intro j
 induction j with
 |zero=>
  intro _;refine Eu.succ ?_;simp only[Y30.l0];refine Eu.ifn (by omega) ?_;exact(Eu.some _).eq (decide_eq_false (by simp)).symm
 |succ j ih=>
  intro hj;have hj1:j<p.length:=by omega
  have hj2:j<q.length:=by omega
  have e:((j+1:Nat):Int) - 1= (j:Int):=by omega
  have ih':=ih (by omega);have f1:(j:Int)< ((cI p).length:Int):=by rw[cI_length];omega
  have f2:(j:Int)< ((cI q).length:Int):=by rw[cI_length];omega
  have l1:(p.take j).length= (q.take j).length:=by simp;omega
  have t1:p.take (j+1)=p.take j++ [p[j]]:=by rw[List.take_succ_eq_append_getElem hj1]
  have t2:q.take (j+1)=q.take j++ [q[j]]:=by rw[List.take_succ_eq_append_getElem hj2]
  have h64:j<4611686018427387904:=by omega
  refine Eu.succ ?_;simp only[Y30.l0];rw[e];refine Eu.ifp (Int.natCast_nonneg j) (Eu.ifp (Int.natCast_nonneg j) (Eu.ifp f1 (Eu.ifp f2 ?_)));rw[rd_cI hj1,rd_cI hj2,w64_predj h64,t1,t2];by_cases h1:p[j]=q[j]
  ·refine Eu.ifp (by rw[h1]) ?_;refine ih'.eq ?_;rw[h1,pv_snoc,pv_snoc,l1];exact decide_eq_decide.2 ⟨fun h=>Nat.add_lt_add_right h _,fun h=>Nat.lt_of_add_lt_add_right h⟩
  ·refine Eu.ifn (by omega) ((Eu.some _).eq ?_);by_cases h2:p[j]<q[j]
   ·have:=pv_lt_of_last hB l1 (bdd_take hp j) h2;rw[decide_eq_true this,decide_eq_true (by omega)]
   ·have:=pv_lt_of_last hB l1.symm (bdd_take hq j) (show q[j]<p[j] by omega);rw[decide_eq_false (Nat.lt_asymm this),decide_eq_false (by omega)]
theorem less_ev (m n:Nat) (hb:(pJ m).length<4611686018427387904):Eu (fun k=>Y30.f k (pJ m) (pJ n)) (decide (m<n)):=by
 have hB:2≤10000:=by decide
 unfold Y30.f;by_cases hl:(pd 10000 m).length= (pd 10000 n).length
 ·have h64:(pd 10000 m).length<4611686018427387904:=by rw[←pJ_length];exact hb
  refine Eu.ifp (by rw[pJ_length,pJ_length,hl]) ?_;rw[pJ_length,w64_predj h64];have:=less_l0 10000 (by decide) (pd 10000 m) (pd 10000 n) (bdd_pd hB m) (bdd_pd hB n) hl h64 (pd 10000 m).length (Nat.le_refl _);rw[List.take_length,hl,List.take_length,pv_pd hB,pv_pd hB] at this;rw[hl];exact this
 ·refine Eu.ifn (by rw[pJ_length,pJ_length];omega) ((Eu.some _).eq ?_);rw[pJ_length,pJ_length];by_cases h2:(pd 10000 m).length< (pd 10000 n).length
  ·rw[decide_eq_true (lt_of_pd_length hB h2),decide_eq_true (by omega)]
  ·have:=lt_of_pd_length hB (show(pd 10000 n).length< (pd 10000 m).length by omega);rw[decide_eq_false (Nat.lt_asymm this),decide_eq_false (by omega)]
def fresh (out:List Int) (i:Nat):Prop:=(∀x∈out,-200000000<x∧x<200000000)∧∀j (h:j<out.length),i≤j→0≤out[j]∧out[j]<10000
theorem mul_small {K:Int} {y:Nat} (hK:-10000≤K∧K≤10000) (hy:y<10000):-100000000≤K * (y:Int)∧K * (y:Int)≤100000000:=by
 have h1:K * (y:Int)≤10000 * (y:Int):=Int.mul_le_mul_of_nonneg_right hK.2 (by omega);have h2:(-10000) * (y:Int)≤K * (y:Int):=Int.mul_le_mul_of_nonneg_right hK.1 (by omega);generalize K * (y:Int)=t at *;omega
theorem joined_set (q:List Nat) (hq:bdd 10000 q) (hlq:q.length<1000000000000) (K M:Int) (hK:-10000≤K∧K≤10000) (i:Nat) (hi:i<q.length) (out:List Int) (hlo:out.length<1000000000000) (hio:i<out.length) (hf:fresh out i) (hv:vI out=M+K * vI ((cI q).take i)) (r:List Int)
  (hr: ∀out':List Int,out'.length=out.length→fresh out' (i+1)→vI out'=M+K * vI ((cI q).take (i+1))→Eu (fun k=>Y10.l0 k (cI q) K 0 out' ((i+1:Nat):Int)) r):
  Eu (fun k=>Y10.l1 k (cI q) K 0 out (i:Int)) r:=by
 have hy:=hq _ (List.getElem_mem hi);have hm:=mul_small hK hy;have hz:=hf.2 i hio (Nat.le_refl _);have r1:=rd_cI hi;have r2:=rd_get hio;have hic:i< (cI q).length:=by rw[cI_length];exact hi
 have hg:(cI q)[i]= ((q[i]:Nat):Int):=by simp[cI]
 have htk:=vI_take_succ (cI q) hic;rw[hg] at htk;clear hg;have hset:=fun v=>vI_set out i v hio
 have f1:(i:Int)< (out.length:Int):=Int.ofNat_lt.2 hio;have f2:(i:Int)< ((cI q).length:Int):=Int.ofNat_lt.2 hic;have f3: ¬(out.length:Int)≤(i:Int):=Int.not_le.2 f1;have f4:i<4611686018427387904:=by omega
 generalize out[i]=z at *;generalize q[i]=y at *;have hnew:vI (out.set i (z+K * (y:Int)))=M+K * vI ((cI q).take (i+1)):=by
  rw[hset,htk,hv,show z+K * (y:Int) - z=K * (y:Int) from by rw[Int.add_comm,Int.add_sub_cancel],Int.mul_add K,Int.mul_left_comm K,Int.add_assoc]
 clear hset htk hv;have hfr:fresh (out.set i (z+K * (y:Int))) (i+1):=by
  generalize K * (y:Int)=t at *;clear r1 r2;constructor
  ·intro x hx;rcases List.mem_or_eq_of_mem_set hx with h1|h1
   ·exact hf.1 x h1
   ·subst h1;omega
  ·intro j h hj;rw[List.getElem_set_ne (by omega)];exact hf.2 j (by rw[List.length_set] at h;exact h) (by omega)
 have hrr:=hr _ (by rw[List.length_set]) hfr hnew;clear hfr hnew hf hr;have e1:wrap64 (z+wrap64 (K * (y:Int)))=z+K * (y:Int):=by
  clear r1 r2 hrr;generalize K * (y:Int)=t at *;rw[w64 (z:=t) (by omega) (by omega),w64 (by omega) (by omega)]
 refine Eu.succ ?_;simp only[Y10.l1];rw[Int.add_zero,w64_nat f4,r1,r2];refine Eu.ifn f3 (Eu.ifp (Int.natCast_nonneg i) (Eu.ifp f1 (Eu.ifp (Int.natCast_nonneg i) (Eu.ifp f2 ?_))));rw[w64_succ f4,Int.toNat_natCast];rw[e1];exact hrr
theorem joined_l0 (q:List Nat) (hq:bdd 10000 q) (K M:Int) (hK:-10000≤K∧K≤10000) (V:Nat) (hV:M+K * (pv 10000 q:Int)=V):
  ∀(m i:Nat) (out:List Int),q.length - i=m→i≤q.length→i≤out.length→out.length+q.length - i<1000000000000→fresh out i→vI out=M+K * vI ((cI q).take i)→
   Eu (fun k=>Y10.l0 k (cI q) K 0 out (i:Int)) (pJ V):=by
 intro m
 induction m with
 |zero=>
  intro i out hm hi hio hl hf hv;have hie:i=q.length:=by omega
  rw[List.take_of_length_le (by rw[cI_length];omega),vI_cI,hV] at hv;refine Eu.succ ?_;simp only[Y10.l0];refine Eu.ifn (by rw[cI_length];omega) (Eu.bind (carry_ev out (fun x hx=>by have:=hf.1 x hx;omega) (by omega) V hv) (Eu.some _))
 |succ m ih=>
  intro i out hm hi hio hl hf hv;have hiq:i<q.length:=by omega
  have hlq:q.length<1000000000000:=by omega
  refine Eu.succ ?_;simp only[Y10.l0];refine Eu.ifp (by rw[cI_length];omega) ?_;by_cases hc:i<out.length
  ·refine joined_set q hq hlq K M hK i hiq out (by omega) hc hf hv _ (fun out' h1 h2 h3=>ih (i+1) out' (by omega) hiq (by omega) (by omega) h2 h3)
  ·have hl1:(out++ [0]).length=out.length+1:=by simp
   have hf':fresh (out++ [0]) i:=by
    constructor
    ·intro x hx;rw[List.mem_append,List.mem_singleton] at hx;rcases hx with h|h
     ·exact hf.1 x h
     ·subst h;omega
    ·intro j h hj;have hj2:j=out.length:=by omega
     subst hj2;rw[List.getElem_append_right (Nat.le_refl _)];simp
   have hv':vI (out++ [0])=M+K * vI ((cI q).take i):=by rw[vI_snoc,Int.mul_zero,Int.add_zero];exact hv
   have hn:=joined_set q hq hlq K M hK i hiq (out++ [0]) (by omega) (by omega) hf' hv' (pJ V) (fun out' h1 h2 h3=>ih (i+1) out' (by omega) hiq (by omega) (by omega) h2 h3);have f1:(out.length:Int)≤(i:Int):=by omega
   have f2:out.length<17592186044416:=by omega
   have e0:wrap64 ((i:Int)+0)= (i:Int):=by rw[Int.add_zero];exact w64_nat (by omega)
   refine Eu.succ ?_;simp only[Y10.l1];rw[e0];exact Eu.ifp f1 (Eu.ifp f2 hn)
theorem fresh_cI {p:List Nat} (h:bdd 10000 p):fresh (cI p) 0:=by
 have key: ∀x∈cI p,0≤x∧x<10000:=by
  intro x hx;obtain⟨y,hy,rfl⟩ :=List.mem_map.1 hx;have h1:=h y hy;have h2:(y:Int)<10000:=by omega
  exact⟨Int.natCast_nonneg y,h2⟩
 constructor
 ·intro x hx;have:=key x hx;omega
 ·intro j hj _;exact key _ (List.getElem_mem hj)
theorem joined_ev (m n:Nat) (K:Int) (hK:-10000≤K∧K≤10000) (V:Nat) (hV:(m:Int)+K * (n:Int)=V) (hl:(pJ m).length+ (pJ n).length<1000000000000):Eu (fun k=>Y10.f k (pJ m) (pJ n) K 0) (pJ V):=by
 unfold Y10.f;refine Eu.bindc rfl (Eu.ifp (by rw[List.length_nil];omega) ?_);rw[List.nil_append];have h:=joined_l0 (pd 10000 n) (bdd_pd (by decide) n) K (m:Int) hK V (by rw[pv_pd (by decide)];exact hV) (pd 10000 n).length 0 (pJ m) (by omega) (Nat.zero_le _) (Nat.zero_le _) (by rw[←pJ_length];omega) (fresh_cI (bdd_pd (by decide) m)) (by rw[vI_pJ,List.take_zero,vI,Int.mul_zero,Int.add_zero]);exact h
end Go.Proofs.YtnfgokmecllpbaaGreatDoor.Print
end
section
namespace Go.Klippe
def hiQ (A i:Nat):Nat:=A / 10000 ^ i
theorem hiQ_zero (A:Nat):hiQ A 0=A:=by unfold hiQ;rw[Nat.pow_zero,Nat.div_one]
theorem hiQ_quo {A b:Nat} (i:Nat) (hb:0<b):hiQ A i / b=hiQ A (i+1) / b * 10000+ (hiQ A (i+1) % b * 10000+hiQ A i % 10000) / b∧hiQ A i % b= (hiQ A (i+1) % b * 10000+hiQ A i % 10000) % b:=
 quo_step hb (by decide)
theorem hiQ_digit (A i:Nat) (h:i< (pd 10000 A).length):(pd 10000 A)[i]=hiQ A i % 10000:=by
 have:=pd_get (B:=10000) (by decide) A i;rw[List.getD_eq_getElem?_getD,List.getElem?_eq_getElem h] at this;exact this
theorem hiQ_all (A:Nat):hiQ A (pd 10000 A).length=0:=by
 unfold hiQ;exact Nat.div_eq_of_lt (lt_pow_pd (by decide) A)
theorem lenQ_mul (m d:Nat) (hd:d≤10000):(pd 10000 (m * d)).length≤(pd 10000 m).length+1:=by
 by_cases hm:m=0
 ·subst hm;rw[Nat.zero_mul,pd_zero];exact Nat.zero_le _
 ·refine pd_length_le (by decide) ?_;rw[Nat.pow_succ];have h1:=lt_pow_pd (B:=10000) (by decide) m;have h2:m * d≤m * 10000:=Nat.mul_le_mul_left _ hd;have h3:m * 10000<10000 ^ (pd 10000 m).length * 10000:=Nat.mul_lt_mul_of_pos_right h1 (by decide);exact Nat.lt_of_le_of_lt h2 h3
theorem lenQ_lt_mul {R b:Nat} (h:R<10000 * b):(pd 10000 R).length≤(pd 10000 b).length+1:=by
 have h1:=lenQ_mul b 10000 (Nat.le_refl _);have h2:=pd_length_mono (B:=10000) (by decide) (Nat.le_of_lt h);rw[Nat.mul_comm] at h2;exact Nat.le_trans h2 h1
end Go.Klippe
namespace Go.Proofs.YtnfgokmecllpbaaGreatDoor.Print
open Go.RowKit Go.Klippe Go.Proofs.YtnfgokmecllpbaaGreatDoorW.PrintWords Go.Proofs.YtnfgokmecllpbaaGreatDoorW.PrintLast Go.Proofs.YtnfgokmecllpbaaGreatDoorW.PrintMore
theorem mid_num {low high mid:Nat} (hmid:mid= (low+high+1) / 2) (h:low≤9999) (h3:high≤9999):wrap64 (Int.tdiv (wrap64 ((wrap64 ((low:Int)+ (high:Int)))+1)) 2)= (mid:Int):=by
 rw[w64 (z:=(low:Int)+ (high:Int)) (by omega) (by omega),w64 (z:=(low:Int)+ (high:Int)+1) (by omega) (by omega),Int.tdiv_eq_ediv_of_nonneg (by omega),w64 (by omega) (by omega)];omega
theorem mid_pred {mid:Nat} (h:1≤mid) (h2:mid≤9999):wrap64 ((mid:Int) - 1)= ((mid - 1:Nat):Int):=by rw[w64 (by omega) (by omega)];omega
theorem parts_end (x0 out:List Int) (R n:Nat) (x8:Int) (r:List Int×List Int) (hn:n≠0) (hl:(pJ n).length<100000000000) (hlR:(pJ R).length<100000000000) (h0:0≤x8) (hx:x8< (out.length:Int))
  (hr:Eu (fun k=>Y19.l0 k x0 (pJ n) (out.set x8.toNat ((R / n:Nat):Int)) (pJ (R % n)) (wrap64 (x8 - 1))) r) (low high:Nat) (hlow:low=R / n) (hlo:low≤9999) (hc: ¬low<high):
  Eu (fun k=>Y19.l1 k x0 (pJ n) out (pJ R) x8 (low:Int) (high:Int)) r:=by
 have hle:low * n≤R:=by rw[hlow];exact Nat.div_mul_le_self _ _
 have hmod:R - low * n=R % n:=by have:=Nat.div_add_mod R n;rw[←hlow,Nat.mul_comm] at this;omega
 have hV:(R:Int)+ -(low:Int) * (n:Int)= ((R - low * n:Nat):Int):=by rw[Int.neg_mul,Int.ofNat_sub hle,Int.natCast_mul];rfl
 have hK:-10000≤-(low:Int)∧-(low:Int)≤10000:=by clear hV;omega
 have ha:-9223372036854775808≤-(low:Int):=by clear hV;omega
 have hb:-(low:Int)<9223372036854775808:=by clear hV;omega
 have hlen:(pJ R).length+ (pJ n).length<1000000000000:=by clear hV;omega
 have hj:=joined_ev R n (-(low:Int)) hK (R - low * n) hV hlen;rw[hmod] at hj;rw[←hlow] at hr;refine Eu.succ ?_;simp only[Y19.l1];rw[w64 ha hb];exact Eu.ifn (fun h=>hc (Int.ofNat_lt.1 h)) (Eu.ifp h0 (Eu.ifp hx (Eu.bind hj hr)))
theorem parts_l1 (x0 out:List Int) (R n:Nat) (x8:Int) (r:List Int×List Int) (hn:n≠0) (hl:(pJ n).length<100000000000) (hlR:(pJ R).length<100000000000) (h0:0≤x8) (hx:x8< (out.length:Int))
  (hr:Eu (fun k=>Y19.l0 k x0 (pJ n) (out.set x8.toNat ((R / n:Nat):Int)) (pJ (R % n)) (wrap64 (x8 - 1))) r):
  ∀(m low high:Nat),high - low≤m→low≤R / n→R / n≤high→high≤9999→Eu (fun k=>Y19.l1 k x0 (pJ n) out (pJ R) x8 (low:Int) (high:Int)) r:=by
 intro m
 induction m with
 |zero=>
  intro low high hm h1 h2 h3;exact parts_end x0 out R n x8 r hn hl hlR h0 hx hr low high (by generalize R / n=u at *;omega) (by omega) (by omega)
 |succ m ih=>
  intro low high hm h1 h2 h3;by_cases hc:low<high
  ·obtain⟨mid,hmid⟩ : ∃mid,mid= (low+high+1) / 2:= ⟨_,rfl⟩
   have hlm:(pJ (mid * n)).length≤(pJ n).length+1:=by rw[Nat.mul_comm,pJ_length,pJ_length];exact lenQ_mul n mid (by omega)
   have hj:=joined_ev 0 n (mid:Int) (by omega) (mid * n) (by rw[Int.natCast_mul];omega) (by rw[pJ_zero,List.length_nil];omega);rw[pJ_zero] at hj;have hls:(pJ R).length<4611686018427387904:=by omega
   have e1:=mid_num hmid (by omega) h3;have e2:=mid_pred (show 1≤mid by clear e1;omega) (show mid≤9999 by clear e1;omega);refine Eu.succ ?_;simp only[Y19.l1];rw[e1,e2];refine Eu.ifp (Int.ofNat_lt.2 hc) (Eu.bind hj (Eu.bind (less_ev R (mid * n) hls) ?_));clear e1 e2;by_cases hlt:R<mid * n
   ·refine Eu.ifp (decide_eq_true hlt) ?_;have hd:R / n<mid:=Nat.div_lt_of_lt_mul (by rw[Nat.mul_comm];exact hlt);exact ih low (mid - 1) (by omega) h1 (by omega) (by omega)
   ·refine Eu.ifn (by rw[decide_eq_true_eq];exact hlt) ?_;have hd:mid≤R / n:=(Nat.le_div_iff_mul_le (by omega)).2 (by omega);exact ih mid high (by omega) hd h2 h3
  ·exact parts_end x0 out R n x8 r hn hl hlR h0 hx hr low high (by generalize R / n=u at *;omega) (by omega) hc
theorem parts_l0 (A n:Nat) (hn:n≠0) (hl:(pJ n).length<10000000000) (hlA:(pJ A).length<10000000000):
  ∀(j:Nat) (q:List Nat),j≤(pd 10000 A).length→q.length= (pd 10000 A).length→bdd 10000 q→(∀t (h:t<q.length),t<j→q[t]=0)→pv 10000 q=10000 ^ j * (hiQ A j / n)→
   Eu (fun k=>Y19.l0 k (pJ A) (pJ n) (cI q) (pJ (hiQ A j % n)) ((j:Int) - 1)) (pJ (A / n),pJ (A % n)):=by
 intro j
 induction j with
 |zero=>
  intro q hj hq hbq hz hv;rw[hiQ_zero,Nat.pow_zero,Nat.one_mul] at hv;rw[hiQ_zero];refine Eu.succ ?_;simp only[Y19.l0];refine Eu.ifn (by omega) ?_;have h1:=cut_ev q hbq (by rw[hq,←pJ_length];omega);rw[hv] at h1;exact Eu.bind h1 (Eu.some _)
 |succ j ih=>
  intro q hj hq hbq hz hv;have hb0:0<n:=by omega
  have hjq:j<q.length:=by omega
  have hjA:j< (pd 10000 A).length:=by omega
  have hjl:j< (pJ A).length:=by rw[pJ_length];exact hjA
  have hj62:j<4611686018427387904:=by omega
  have hq2:=q_step (d:=(hiQ A (j+1) % n * 10000+hiQ A j % 10000) / n) hjq (hz j hjq (by omega)) hv;obtain⟨e1,e2⟩ :=hiQ_quo (A:=A) (b:=n) j hb0;have hR0:hiQ A (j+1) % n<n:=Nat.mod_lt _ hb0;have hdig:=hiQ_digit A j hjA;have hx0:hiQ A j % 10000<10000:=Nat.mod_lt _ (by decide);have hR:hiQ A (j+1) % n * 10000+hiQ A j % 10000<10000 * n:=rest_lt hR0 hx0;have hd9:(hiQ A (j+1) % n * 10000+hiQ A j % 10000) / n<10000:=Nat.div_lt_of_lt_mul (by omega);have ih1:=ih (q.set j ((hiQ A (j+1) % n * 10000+hiQ A j % 10000) / n)) (by omega) (by rw[List.length_set];exact hq) (bdd_set hbq j hd9)
   (fun t h ht=>by rw[List.getElem_set_ne (by omega)];exact hz t (by rw[List.length_set] at h;exact h) (by omega))
  rw[e1] at ih1;rw[e2] at ih1;have hlr:(pJ (hiQ A (j+1) % n)).length≤(pJ n).length:=pJ_length_mono (Nat.le_of_lt hR0);clear e1 e2 hv hz ih;generalize hiQ A (j+1) % n=R at *;generalize hiQ A (j+1) / n=Q at *;have hrd:rd (pJ A) (j:Int)= ((hiQ A j % 10000:Nat):Int):=by unfold pJ;rw[rd_cI hjA,hdig]
  have htr:=cut_ev (hiQ A j % 10000::pd 10000 R) (bdd_cons.2 ⟨hx0,bdd_pd (by decide) R⟩) (by rw[List.length_cons,←pJ_length];omega);rw[pv_cons,pv_pd (by decide),cI_cons',pJ_def] at htr;clear hdig;generalize hiQ A j % 10000=x at *;have eR:x+10000 * R=R * 10000+x:=by omega
  rw[eR] at htr;clear eR;refine Eu.succ ?_;simp only[Y19.l0];rw[show((j+1:Nat):Int) - 1= (j:Int) by omega,hrd];refine Eu.ifp (Int.natCast_nonneg j) (Eu.ifp (Int.natCast_nonneg j) (Eu.ifp (Int.ofNat_lt.2 hjl) (Eu.bindc (a:=[(x:Int)]) rfl (Eu.ifp (by rw[List.length_singleton];omega) (Eu.bind (a:=pJ (R * 10000+x)) htr ?_)))));obtain⟨S,hS⟩ : ∃S,R * 10000+x=S:= ⟨_,rfl⟩
  simp only[hS] at hR hq2 ih1 hd9⊢;clear hS;have hlS:=lenQ_lt_mul hR;rw[←pJ_length,←pJ_length] at hlS;have h3:=ih1 hq2;refine parts_l1 (pJ A) (cI q) S n (j:Int) _ hn (by omega) (by omega) (Int.natCast_nonneg j) (by rw[cI_length];exact Int.ofNat_lt.2 hjq) ?_ 9999 0 9999 (by omega) (Nat.zero_le _) (by omega) (by omega);rw[w64_predj hj62,Int.toNat_natCast,cI_set];exact h3
theorem parts_ev (m n:Nat) (hn:n≠0) (hlm:(pJ m).length<10000000000) (hln:(pJ n).length<10000000000):Eu (fun k=>Y19.f k (pJ m) (pJ n)) (pJ (m / n),pJ (m % n)):=by
 unfold Y19.f;rw[Int.toNat_natCast,w64_predj (by omega)];refine Eu.ifp (by omega) (Eu.ifp (by omega) ?_);have h:=parts_l0 m n hn hln hlm (pd 10000 m).length (List.replicate (pd 10000 m).length 0) (Nat.le_refl _) (by rw[List.length_replicate]) (by intro x hx;rw[List.mem_replicate] at hx;omega) (by intro t h _;rw[List.getElem_replicate]) (by rw[pv_zeros,hiQ_all,Nat.zero_div,Nat.mul_zero]);rw[hiQ_all,Nat.zero_mod,pJ_zero] at h;have hz:cI (List.replicate (pd 10000 m).length 0)=List.replicate (pJ m).length 0:=by rw[pJ_length];simp[cI]
 rw[hz] at h;rw[show(((pJ m).length:Nat):Int)= ((pd 10000 m).length:Int) by rw[pJ_length]];exact h
end Go.Proofs.YtnfgokmecllpbaaGreatDoor.Print
end
section
namespace Go.Proofs.YtnfgokmecllpbaaGreatDoor.Print
open Go.RowKit Go.Klippe Go.Proofs.YtnfgokmecllpbaaGreatDoorW.PrintWords Go.Proofs.YtnfgokmecllpbaaGreatDoorW.PrintLast Go.Proofs.YtnfgokmecllpbaaGreatDoorW.PrintMore
theorem bt0_bs (c:UInt8) (r:List UInt8):bt (bs (c::r)) 0= (c.toNat:Int):=bt_bs (l:=c::r) (i:=0) (by simp)
theorem Split_yes (r:List UInt8):Y16.f (bs (45::r))=some (true,bs r):=by
 unfold Y16.f;rw[bs_size,bt0_bs,List.length_cons,if_pos (by omega),if_pos (by omega),if_pos (show((UInt8.toNat 45:Nat):Int)=45 from rfl),if_pos (by omega)];have:=bs_extract_end (45::r) 1;rw[List.length_cons] at this;rw[this];rfl
theorem Split_no {l:List UInt8} (h:l.head? ≠some 45):Y16.f (bs l)=some (false,bs l):=by
 unfold Y16.f;rw[bs_size];cases l with
 |nil=>rfl
 |cons c r=>
  have hc: ¬(c.toNat:Int)=45:=by
   intro e;apply h;rw[List.head?_cons];congr 1;apply UInt8.toNat_inj.1;show c.toNat=45;omega
  rw[bt0_bs,List.length_cons,if_pos (by omega),if_pos (by omega),if_neg hc]
theorem Split_tI (z:Int):Y16.f (tI z)=some (decide (z<0),bs (Lib.decDigits z.natAbs)):=by
 unfold tI;by_cases h:z<0
 ·rw[itoa_neg h,Split_yes,decide_eq_true h]
 ·rw[itoa_nonneg (by omega),Split_no (digits_head _),decide_eq_false h,show z.toNat=z.natAbs by omega]
theorem take_l1 (s:List UInt8) (hs: ∀b∈s,isD b=true) (out:List Int) (ho:out.length<17592186044416) (e:Nat) (he:e≤s.length) (hl:s.length<1000000000000) (r:List Int):
  ∀(m i acc:Nat),e - i=m→i≤e→dvF acc ((s.take e).drop i)<1000000→Eu (fun k=>Y32.l0 k (bs s) (out++ [((dvF acc ((s.take e).drop i):Nat):Int)]) (wrap64 ((e:Int) - 4))) r→
   Eu (fun k=>Y32.l1 k (bs s) out (e:Int) (acc:Int) (i:Int)) r:=by
 intro m
 induction m with
 |zero=>
  intro i acc hm hi hb hr;have hie:i=e:=by omega
  have hnil:(s.take e).drop i= []:=List.drop_eq_nil_of_le (by rw[List.length_take];omega);rw[hnil,dvF_nil] at hr;refine Eu.succ ?_;simp only[Y32.l1];exact Eu.ifn (by omega) (Eu.ifp ho hr)
 |succ m ih=>
  intro i acc hm hi hb hr;have hie:i<e:=by omega
  have hil:i<s.length:=by omega
  have hit:i< (s.take e).length:=by rw[List.length_take];omega
  have hd:(s.take e).drop i=s[i]:: (s.take e).drop (i+1):=by rw[List.drop_eq_getElem_cons hit,List.getElem_take]
  rw[hd,dvF_cons] at hr hb;have hge:=dvF_ge ((s.take e).drop (i+1)) (acc * 10+dd s[i]);have hD:=hs _ (List.getElem_mem hil);unfold isD at hD;rw[Bool.and_eq_true,decide_eq_true_eq,decide_eq_true_eq] at hD;have r1:=bt_bs hil;have hdd:dd s[i]=s[i].toNat - 48:=rfl;have f1:i<4611686018427387904:=by omega
  have f2:e - (i+1)=m:=by omega
  have f3:(i:Int)< ((bs s).size:Int):=by rw[bs_size];omega
  have hn:=ih (i+1) (acc * 10+dd s[i]) f2 hie hb hr;have hb2:acc * 10+dd s[i]<1000000:=by omega
  clear hr hb hge hd ih;have ew:wrap64 ((wrap64 ((wrap64 (10 * (acc:Int)))+ (wrap64 ((s[i].toNat:Nat):Int)))) - 48)= ((acc * 10+dd s[i]:Nat):Int):=by
   clear hn r1;generalize dd s[i]=d at *;generalize s[i].toNat=c at *;rw[w64 (z:=10 * (acc:Int)) (by omega) (by omega),w64 (z:=(c:Int)) (by omega) (by omega),w64 (z:=10 * (acc:Int)+ (c:Int)) (by omega) (by omega),w64 (by omega) (by omega)];omega
  refine Eu.succ ?_;simp only[Y32.l1];rw[r1,ew,w64_succ f1];exact Eu.ifp (Int.ofNat_lt.2 hie) (Eu.ifp (Int.natCast_nonneg i) (Eu.ifp f3 hn))
theorem take_end (s:ByteArray) (P:List Nat) (hb:bdd 10000 P) (hl:P.length<4611686018427387904) (z:Int) (hz:z≤0):Eu (fun k=>Y32.l0 k s (cI P) z) (pJ (pv 10000 P)):=by
 refine Eu.succ ?_;simp only[Y32.l0];exact Eu.ifn (by omega) (Eu.bind (cut_ev P hb hl) (Eu.some _))
theorem mx4 (e:Nat) (h:e<4611686018427387904):mx 0 (wrap64 ((e:Int) - 4))= ((e - 4:Nat):Int):=by
 rw[w64 (by omega) (by omega)];unfold mx;split <;> omega
theorem take_l0 (s:List UInt8) (hs: ∀b∈s,isD b=true) (hl:s.length<100000000000):
  ∀(n e:Nat) (P:List Nat),e≤n→e≤s.length→P.length+e<200000000000→bdd 10000 P→Eu (fun k=>Y32.l0 k (bs s) (cI P) (e:Int)) (pJ (pv 10000 P+10000 ^ P.length * dv (s.take e))):=by
 intro n
 induction n with
 |zero=>
  intro e P he hes hP hb;obtain rfl:e=0:=by omega
  have h:=take_end (bs s) P hb (by omega) 0 (by omega);rw[List.take_zero,show dv []=0 from rfl,Nat.mul_zero,Nat.add_zero];exact h
 |succ n ih=>
  intro e P he hes hP hb;by_cases h0:e=0
  ·subst h0;have h:=take_end (bs s) P hb (by omega) 0 (by omega);rw[List.take_zero,show dv []=0 from rfl,Nat.mul_zero,Nat.add_zero];exact h
  ·have hdc: ∀b∈(s.take e).drop (e - 4),isD b=true:=fun b hb=>hs b (List.mem_of_mem_take (List.mem_of_mem_drop hb))
   have hlc:((s.take e).drop (e - 4)).length≤4:=by rw[List.length_drop,List.length_take];omega
   have hv:dv ((s.take e).drop (e - 4))<10000:=by
    have h2:=dv_lt _ hdc;have h3:10 ^ ((s.take e).drop (e - 4)).length≤10 ^ 4:=Nat.pow_le_pow_right (by decide) hlc;have h4:(10:Nat) ^ 4=10000:=by decide
    omega
   have hb':bdd 10000 (P++ [dv ((s.take e).drop (e - 4))]):=bdd_append.2 ⟨hb,by intro x hx;rw[List.mem_singleton] at hx;omega⟩;have hlP:(P++ [dv ((s.take e).drop (e - 4))]).length=P.length+1:=by simp
   have hval:pv 10000 (P++ [dv ((s.take e).drop (e - 4))])+10000 ^ (P++ [dv ((s.take e).drop (e - 4))]).length * dv (s.take (e - 4))=pv 10000 P+10000 ^ P.length * dv (s.take e):=by
    have hV:dv (s.take e)=dv (s.take (e - 4)) * 10000+dv ((s.take e).drop (e - 4)):=by
     by_cases h4:4≤e
     ·have h5:=dv_cut (s.take e) (e - 4) 4 (by rw[List.length_take];omega);rw[List.take_take,Nat.min_eq_left (by omega)] at h5;exact h5
     ·rw[show e - 4=0 by omega,List.take_zero,List.drop_zero,show dv []=0 from rfl,Nat.zero_mul,Nat.zero_add]
    rw[hlP,pv_snoc,Nat.pow_succ,hV,Nat.mul_add,Nat.mul_assoc,Nat.mul_comm (dv (s.take (e - 4)))];omega
   have hnext:Eu (fun k=>Y32.l0 k (bs s) (cI (P++ [dv ((s.take e).drop (e - 4))])) (wrap64 ((e:Int) - 4))) (pJ (pv 10000 P+10000 ^ P.length * dv (s.take e))):=by
    by_cases h4:4≤e
    ·have h5:=ih (e - 4) _ (by omega) (by omega) (by rw[hlP];omega) hb';rw[hval] at h5;have ew:wrap64 ((e:Int) - 4)= ((e - 4:Nat):Int):=by rw[w64 (by omega) (by omega)];omega
     rw[ew];exact h5
    ·have h5:=take_end (bs s) _ hb' (by rw[hlP];omega) (wrap64 ((e:Int) - 4)) (by rw[w64 (by omega) (by omega)];omega);rw[show e - 4=0 by omega,List.take_zero,show dv []=0 from rfl,Nat.mul_zero,Nat.add_zero] at hval;rw[←hval];rw[show e - 4=0 by omega] at h5⊢;exact h5
   have f1:e - (e - 4)=e - (e - 4):=rfl;refine Eu.succ ?_;simp only[Y32.l0];rw[mx4 e (by omega)];refine Eu.ifp (by omega) ?_;rw[←cI_snoc] at hnext;exact take_l1 s hs (cI P) (by rw[cI_length];omega) e hes (by omega) _ _ (e - 4) 0 rfl (by omega) (by show dv _<_;omega) hnext
theorem take_ev (u:Nat) (hl:(Lib.decDigits u).length<100000000000):Eu (fun k=>Y32.f k (bs (Lib.decDigits u))) (pJ u):=by
 unfold Y32.f;rw[bs_size];have h:=take_l0 (Lib.decDigits u) (decDigits_isD u) hl _ _ [] (Nat.le_refl _) (Nat.le_refl _) (by rw[List.length_nil];omega) (bdd_nil _);rw[List.take_length,dv_decDigits,pv_nil,List.length_nil,Nat.pow_zero,Nat.one_mul,Nat.zero_add] at h;exact h
theorem closeT_len: ∀(p:List Nat),bdd (10 ^ 4) p→(closeT 4 p).length≤4 * p.length
 | [],_=>by simp[closeT]
 |x::p,h=>by
  have ih:=closeT_len p (bdd_cons.1 h).2;have hx:=(bdd_cons.1 h).1;show(if p= [] then Lib.decDigits x else closeT 4 p++pad 4 x).length≤_;split
  ·rw[nDigits_len,List.length_cons];have:=nDigits_le_of_lt (k:=4) (by decide) hx;omega
  ·rw[List.length_append,pad_length,List.length_cons];omega
theorem Itoa4 (x:Nat) (h:x<10000):Y36.f (wrap64 (10000+ (x:Int)))=some (bs (49::pad 4 x)):=by
 rw[w64 (by omega) (by omega),Itoa_f (by omega) (by omega),show(10000:Int)+ (x:Int)= ((1 * 10 ^ 4+x:Nat):Int) by omega,tI_nat,decDigits_join 4 1 x (by decide) h];congr 2;rw[Lib.decDigits_one (by decide)];rfl
theorem give_l0 (p:List Nat) (hb:bdd 10000 p) (hl:p.length<100000000000): ∀(i:Nat),i<p.length→Eu (fun k=>Y29.l0 k (cI p) (bs (closeT 4 (p.drop i))) ((i:Int) - 1)) (bs (closeT 4 p)):=by
 intro i
 induction i with
 |zero=>
  intro _;refine Eu.succ ?_;simp only[Y29.l0];exact Eu.ifn (by omega) (by rw[List.drop_zero];exact Eu.some _)
 |succ i ih=>
  intro hi;have hi0:i<p.length:=by omega
  have hx:=hb _ (List.getElem_mem hi0);have r1:=rd_cI hi0;have h2:=ih hi0;have hne:p.drop (i+1)≠[]:=by intro h;have:=congrArg List.length h;rw[List.length_drop] at this;simp at this;omega
  have hcl:=closeT_len (p.drop (i+1)) (bdd_drop hb _);rw[List.length_drop] at hcl;have hc:closeT 4 (p.drop i)=closeT 4 (p.drop (i+1))++pad 4 p[i]:=by
   rw[List.drop_eq_getElem_cons hi0];show(if p.drop (i+1)= [] then Lib.decDigits p[i] else closeT 4 (p.drop (i+1))++pad 4 p[i])=_;rw[if_neg hne]
  rw[hc] at h2;have f1:(i:Int)< ((cI p).length:Int):=by rw[cI_length];omega
  have f2:((i+1:Nat):Int) - 1= (i:Int):=by omega
  have f3:i<4611686018427387904:=by omega
  generalize p[i]=x at *;have hex:(bs (49::pad 4 x)).extract 1 (bs (49::pad 4 x)).size=bs (pad 4 x):=by
   rw[bs_size];exact bs_extract_end (49::pad 4 x) 1
  refine Eu.succ ?_;simp only[Y29.l0];rw[f2,r1];refine Eu.ifp (Int.natCast_nonneg i) (Eu.ifp (Int.natCast_nonneg i) (Eu.ifp f1 (Eu.bindc (Itoa4 x hx) ?_)));rw[hex];refine Eu.ifp (by rw[bs_size,List.length_cons];omega) (Eu.ifp (by rw[bs_size,bs_size,pad_length];omega) ?_);rw[bs_append,w64_predj f3];exact h2
theorem give_ev (n:Nat) (hl:(pJ n).length<100000000000):Eu (fun k=>Y29.f k (pJ n)) (bs (Lib.decDigits n)):=by
 unfold Y29.f;by_cases h0:n=0
 ·subst h0;rw[pJ_zero];refine Eu.ifp rfl ((Eu.some _).eq ?_);rw[decDigits_zero];rfl
 ·have hne:(pd 10000 n).length≠0:=fun h=>h0 ((pd_eq_nil (by decide)).1 (List.length_eq_zero_iff.1 h))
  obtain⟨i,hi⟩ : ∃i,(pd 10000 n).length=i+1:= ⟨_,(Nat.succ_pred_eq_of_ne_zero hne).symm⟩
  have e:(pJ n).length=i+1:=(pJ_length n).trans hi;have hii:i< (pd 10000 n).length:=by omega
  have hb:bdd 10000 (pd 10000 n):=bdd_pd (by decide) n;have hx:=hb _ (List.getElem_mem hii);have r1:rd (pJ n) (i:Int)= (((pd 10000 n)[i]:Nat):Int):=rd_cI hii;have ht:=closeT_eq 4 (pd 10000 n) hb (trd_pd (by decide) n) (by rw[Ne,pd_eq_nil (by decide)];exact h0);rw[show(10:Nat) ^ 4=10000 from rfl,pv_pd (by decide)] at ht;have hd:(pd 10000 n).drop i= [(pd 10000 n)[i]]:=by rw[List.drop_eq_getElem_cons hii,List.drop_eq_nil_of_le (by omega)]
  have h:=give_l0 (pd 10000 n) hb (by omega) i hii;rw[ht,hd] at h;have hc1:closeT 4 [(pd 10000 n)[i]]=Lib.decDigits (pd 10000 n)[i]:=by show(if([]:List Nat)= [] then _ else _)=_;rw[if_pos rfl]
  rw[hc1] at h;rw[w64_pred e (by omega)];have e2:wrap64 (((pJ n).length:Int) - 2)= (i:Int) - 1:=by rw[e,w64 (by omega) (by omega)];omega
  rw[e2,r1];clear e2;refine Eu.ifn (by omega) (Eu.ifp (by omega) (Eu.ifp (by omega) (Eu.bindc (Itoa_f (by omega) (by omega)) ?_)));rw[tI_nat];exact h
theorem made_ev (m:Bool) (n:Nat) (hl:(pJ n).length<100000000000):Eu (fun k=>Y31.f k m (pJ n)) (tI (if m then -(n:Int) else n)):=by
 unfold Y31.f;have hcut:=cut_ev (pd 10000 n) (bdd_pd (by decide) n) (by rw[←pJ_length];omega);rw[pv_pd (by decide),pJ_def] at hcut;have hg:=give_ev n hl;have hdl:(Lib.decDigits n).length≤4 * (pJ n).length+1:=by
  by_cases h0:n=0
  ·subst h0;rw[decDigits_zero];simp
  ·have ht:=closeT_eq 4 (pd 10000 n) (bdd_pd (by decide) n) (trd_pd (by decide) n) (by rw[Ne,pd_eq_nil (by decide)];exact h0);rw[show(10:Nat) ^ 4=10000 from rfl,pv_pd (by decide)] at ht;rw[←ht,pJ_length];have:=closeT_len (pd 10000 n) (bdd_pd (by decide) n);omega
 refine Eu.bind hcut (Eu.ite (fun h=>?_) (fun h=>?_))
 ·by_cases h0:n=0
  ·subst h0;rw[pJ_zero,h] at *;refine Eu.succ ?_;simp only[Y31.j0];refine Eu.ifn (by decide) (Eu.bind hg ((Eu.some _).eq ?_));exact(tI_nat 0).symm.trans (congrArg tI (by simp))
  ·have hp:(pJ n).length≠0:=fun e=>h0 (pJ_nil.1 (List.length_eq_zero_iff.1 e))
   rw[h,if_pos rfl,decide_eq_true (by omega)];refine Eu.succ ?_;simp only[Y31.j0];refine Eu.ifp trivial (Eu.bind hg (Eu.ifp (by rw[bs_size];omega) ((Eu.some _).eq ?_)));rw[minus_lit,bs_append];unfold tI;rw[itoa_neg (by omega),Int.natAbs_neg,Int.natAbs_natCast];rfl
 ·have hm:m=false:=by cases m <;> simp_all
  rw[hm];refine Eu.succ ?_;simp only[Y31.j0];refine Eu.ifn (by decide) (Eu.bind hg ((Eu.some _).eq ?_));rw[if_neg (by decide),tI_nat]
end Go.Proofs.YtnfgokmecllpbaaGreatDoor.Print
end
section
namespace Go.Klippe
theorem euclid_unique {x y q r:Int} (hy:y≠0) (h:x=r+y * q) (h0:0≤r) (h1:r< (y.natAbs:Int)):x / y=q∧x % y=r:=by
 have key: ∀{y:Int},0<y→r<y→r / y=0∧r % y=r:=fun hy hr=> ⟨Int.ediv_eq_zero_of_lt h0 hr,Int.emod_eq_of_lt h0 hr⟩
 have hk:r / y=0∧r % y=r:=by
  by_cases hp:0<y
  ·exact key hp (by omega)
  ·have:=key (y:=-y) (by omega) (by omega);rw[Int.ediv_neg,Int.emod_neg] at this;exact⟨by omega,this.2⟩
 rw[h,Int.add_mul_ediv_left _ _ hy,Int.add_mul_emod_self_left,hk.1,hk.2,Int.zero_add];exact⟨rfl,rfl⟩
end Go.Klippe
namespace Go.Proofs.YtnfgokmecllpbaaGreatDoor.Print
open Go.RowKit Go.Klippe Go.Proofs.YtnfgokmecllpbaaGreatDoorW.PrintWords Go.Proofs.YtnfgokmecllpbaaGreatDoorW.PrintLast Go.Proofs.YtnfgokmecllpbaaGreatDoorW.PrintMore
theorem pJ_of_lt {n k:Nat} (h:n<10 ^ (4 * k)):(pJ n).length≤k:=by
 rw[pJ_length];refine pd_length_le (by decide) ?_;rw[Nat.pow_mul] at h;exact h
theorem nb_pJ {k m:Nat} {z:Int} (h:nb k z) (hk:k≤4 * m):(pJ z.natAbs).length≤m:=pJ_of_lt (nb_mono h hk)
theorem Bz_pJ {z:Int} (h:Bz z):(pJ z.natAbs).length≤25000:=nb_pJ h (by decide)
theorem small_cond {d a:Nat} (hd:d<10) (ha:a<100000000000000000): ¬(-(a:Int))<wrap64 (Int.tdiv (wrap64 ((-9223372036854775808)+ (d:Int))) 10):=by
 rw[w64 (z:=(-9223372036854775808)+ (d:Int)) (by omega) (by omega)];obtain⟨m,hm⟩ : ∃m:Nat,(-9223372036854775808:Int)+ (d:Int)= -(m:Int):= ⟨9223372036854775808 - d,by omega⟩
 rw[hm,Int.neg_tdiv,Int.tdiv_eq_ediv_of_nonneg (by omega),w64 (by omega) (by omega)];omega
theorem small_e1 {c d:Nat} (h1:48≤c) (h2:c≤57) (hd:d=c - 48):wrap64 ((wrap64 (c:Int)) - 48)= (d:Int):=by
 rw[w64 (z:=(c:Int)) (by omega) (by omega),w64 (by omega) (by omega)];omega
theorem small_e2 {acc d:Nat} (h1:acc<100000000000000000) (h2:d<10):wrap64 ((wrap64 (10 * (-(acc:Int)))) - (d:Int))= -((acc * 10+d:Nat):Int):=by
 rw[w64 (z:=10 * (-(acc:Int))) (by omega) (by omega),w64 (by omega) (by omega)];omega
theorem rSmall_l0 (m:Bool) (s:List UInt8) (hs: ∀b∈s,isD b=true) (hl:s.length<100): ∀(n i acc:Nat),s.length - i=n→i≤s.length→dvF acc (s.drop i)<1000000000000000000→
  Eu (fun k=>Y15.l0 k m (bs s) (-(acc:Int)) (i:Int)) (if m then -((dvF acc (s.drop i):Nat):Int) else((dvF acc (s.drop i):Nat):Int),true):=by
 intro n
 induction n with
 |zero=>
  intro i acc hn hi hb;have hnil:s.drop i= []:=List.drop_eq_nil_of_le (by omega);rw[hnil,dvF_nil] at hb⊢;refine Eu.succ ?_;simp only[Y15.l0];refine Eu.ifn (by rw[bs_size];omega) ?_;cases m with
  |true=>exact Eu.ifp rfl (Eu.some _)
  |false=>
   refine Eu.ifn (by decide) (Eu.ifn (by omega) ?_);rw[w64 (by omega) (by omega),Int.neg_neg];exact Eu.some _
 |succ n ih=>
  intro i acc hn hi hb;have hil:i<s.length:=by omega
  have hd:s.drop i=s[i]::s.drop (i+1):=List.drop_eq_getElem_cons hil;rw[hd,dvF_cons] at hb⊢;have hge:=dvF_ge (s.drop (i+1)) (acc * 10+dd s[i]);have hD:=hs _ (List.getElem_mem hil);unfold isD at hD;rw[Bool.and_eq_true,decide_eq_true_eq,decide_eq_true_eq] at hD;have r1:=bt_bs hil;have hdd:dd s[i]=s[i].toNat - 48:=rfl;have f1:i<4611686018427387904:=by omega
  have f2:s.length - (i+1)=n:=by omega
  have f3:(i:Int)< ((bs s).size:Int):=by rw[bs_size];omega
  have hn2:=ih (i+1) (acc * 10+dd s[i]) f2 hil hb;have hb2:acc * 10+dd s[i]<1000000000000000000:=by omega
  clear hb hge hd ih;generalize dvF (acc * 10+dd s[i]) (s.drop (i+1))=R at *;have f4:dd s[i]<10:=by omega
  have f5:acc<100000000000000000:=by omega
  have e1:=small_e1 hD.1 hD.2 hdd;have e2:=small_e2 f5 f4;refine Eu.succ ?_;simp only[Y15.l0];rw[r1,e1,e2,w64_succ f1];exact Eu.ifp f3 (Eu.ifp (Int.natCast_nonneg i) (Eu.ifn (small_cond f4 f5) hn2))
theorem rSmall_ev (z:Int) (hl:(Lib.decDigits z.natAbs).length≤18):Eu (fun k=>Y15.f k (tI z)) (z,true):=by
 unfold Y15.f;have hb:dvF 0 ((Lib.decDigits z.natAbs).drop 0)<1000000000000000000:=by
  have h1:=dv_lt _ (decDigits_isD z.natAbs);have h2:10 ^ (Lib.decDigits z.natAbs).length≤10 ^ 18:=Nat.pow_le_pow_right (by decide) hl;have h18:(10:Nat) ^ 18=1000000000000000000:=by decide
  rw[List.drop_zero];show dv _<_;omega
 have h:=rSmall_l0 (decide (z<0)) (Lib.decDigits z.natAbs) (decDigits_isD _) (by omega) _ 0 0 rfl (Nat.zero_le _) hb;refine Eu.bindc (Split_tI z) (Eu.ifn (by rw[bs_size];omega) (h.eq ?_));rw[List.drop_zero];have hd:dvF 0 (Lib.decDigits z.natAbs)=z.natAbs:=dv_decDigits _;rw[hd,sign_close]
theorem rbrief_ev (z:Int):Eu (fun k=>Y17.f k (tI z)) (if(Lib.decDigits z.natAbs).length≤17 then(z,true) else(0,false)):=by
 unfold Y17.f;refine Eu.bindc (Split_tI z) ?_;by_cases h:(Lib.decDigits z.natAbs).length≤17
 ·rw[if_pos h];exact Eu.ifn (by rw[bs_size];omega) (Eu.bind (rSmall_ev z (by omega)) (Eu.some _))
 ·rw[if_neg h];exact Eu.ifp (by rw[bs_size];omega) (Eu.some _)
theorem rOf_f {z:Int} (h:nb 18 z):Y50.f z=some (tI z):=by
 unfold nb at h;have h18:(10:Nat) ^ 18=1000000000000000000:=by decide
 unfold Y50.f;rw[Itoa_f (by omega) (by omega)];rfl
theorem nb17 {z:Int} (h:(Lib.decDigits z.natAbs).length≤17):nb 17 z:=nb_mono nb_of_digits h
theorem rSign_f (z:Int):Y28.f (tI z)=some (sgn z):=by
 unfold Y28.f;rw[Split_tI];show(if decide (z<0)=true then some (-1) else if(tI z).toList= ([48]:List UInt8) then some 0 else some 1)=_;unfold sgn;by_cases h:z<0
 ·rw[if_pos (decide_eq_true h),if_neg (show¬z=0 by omega),if_pos h]
 ·rw[if_neg (by rw[decide_eq_true_eq];exact h)];by_cases h0:z=0
  ·rw[if_pos ((tI_toList_zero z).2 h0),if_pos h0]
  ·rw[if_neg (fun e=>h0 ((tI_toList_zero z).1 e)),if_neg h0,if_neg h]
theorem rNeg_f (z:Int) (h:Bz z):Y44.f (tI z)=some (tI (-z)):=by
 have hl:=Bz_digits h;unfold Y44.f;rw[Split_tI];show(if decide (z<0)=true then some (bs (Lib.decDigits z.natAbs)) else if(tI z).toList= ([48]:List UInt8) then some (bs (Lib.decDigits z.natAbs)) else if 1+ (bs (Lib.decDigits z.natAbs)).size≤9223372036854775807 then some ((⟨#[45]⟩ :ByteArray)++bs (Lib.decDigits z.natAbs)) else none)=_;by_cases h1:z<0
 ·rw[if_pos (decide_eq_true h1),←tI_nat];congr 2;omega
 ·rw[if_neg (by rw[decide_eq_true_eq];exact h1)];by_cases h0:z=0
  ·rw[if_pos ((tI_toList_zero z).2 h0),←tI_nat];congr 2;omega
  ·rw[if_neg (fun e=>h0 ((tI_toList_zero z).1 e)),if_pos (by rw[bs_size];omega),minus_lit,bs_append];unfold tI;rw[itoa_neg (by omega),Int.natAbs_neg];rfl
theorem rAbs_f (z:Int):Y41.f (tI z)=some (tI (z.natAbs:Int)):=by
 unfold Y41.f;rw[Split_tI,tI_nat];rfl
theorem rAdd_big (a b x5 x7:Int) (ha:Bz a) (hb:Bz b):Eu (fun k=>Y42.j0 k (tI a) (tI b) x5 x7 false) (tI (a+b)):=by
 have la:=Bz_pJ ha;have lb:=Bz_pJ hb;refine Eu.succ ?_;simp only[Y42.j0];refine Eu.ifn (by decide) (Eu.bindc (Split_tI a) (Eu.bindc (Split_tI b) (Eu.bind (take_ev _ (Bz_digits ha)) (Eu.bind (take_ev _ (Bz_digits hb)) (Eu.ite (fun h=>?_) (fun h=>?_))))))
 ·have hs:(a<0↔b<0):=by
   simp only[beq_iff_eq] at h;exact decide_eq_decide.1 h
  have hl:(pJ (a.natAbs+b.natAbs)).length<100000000000:=by
   have h1:nb (4 * 25001) (a+b):=nb_mono (nb_add (m:=0) ha hb) (by decide);have h2:a.natAbs+b.natAbs= (a+b).natAbs:=by omega
   rw[h2];exact Nat.lt_of_le_of_lt (pJ_of_lt h1) (by decide)
  refine Eu.bind (joined_ev _ _ 1 (by decide) (a.natAbs+b.natAbs) (by omega) (by omega)) (Eu.bind (made_ev _ _ hl) ((Eu.some _).eq (congrArg tI ?_)));by_cases h0:a<0
  ·simp only[decide_eq_true h0,if_true];omega
  ·simp only[decide_eq_false h0,if_false,Bool.false_eq_true];omega
 ·have hs: ¬(a<0↔b<0):=by
   simp only[beq_iff_eq] at h;exact fun hh=>h (decide_eq_decide.2 hh)
  refine Eu.bind (less_ev _ _ (by omega)) ?_;by_cases hlt:a.natAbs<b.natAbs
  ·refine Eu.ifp (decide_eq_true hlt) ?_;refine Eu.bind (joined_ev _ _ (-1) (by decide) (b.natAbs - a.natAbs) (by omega) (by omega)) (Eu.bind (made_ev _ _ (by have:=pJ_length_mono (Nat.sub_le b.natAbs a.natAbs);omega)) ((Eu.some _).eq (congrArg tI ?_)));by_cases h0:b<0
   ·simp only[decide_eq_true h0,if_true];omega
   ·simp only[decide_eq_false h0,if_false,Bool.false_eq_true];omega
  ·refine Eu.ifn (by rw[decide_eq_true_eq];exact hlt) ?_;refine Eu.bind (joined_ev _ _ (-1) (by decide) (a.natAbs - b.natAbs) (by omega) (by omega)) (Eu.bind (made_ev _ _ (by have:=pJ_length_mono (Nat.sub_le a.natAbs b.natAbs);omega)) ((Eu.some _).eq (congrArg tI ?_)));by_cases h0:a<0
   ·simp only[decide_eq_true h0,if_true];omega
   ·simp only[decide_eq_false h0,if_false,Bool.false_eq_true];omega
theorem rAdd_ev (a b:Int) (ha:Bz a) (hb:Bz b):Eu (fun k=>Y42.f k (tI a) (tI b)) (tI (a+b)):=by
 unfold Y42.f;refine Eu.bind (rbrief_ev a) (Eu.bind (rbrief_ev b) ?_);by_cases h1:(Lib.decDigits a.natAbs).length≤17
 ·rw[if_pos h1];refine Eu.ifp rfl ?_;by_cases h2:(Lib.decDigits b.natAbs).length≤17
  ·rw[if_pos h2];have h3:=nb_add (m:=0) (nb17 h1) (nb17 h2);have h4:=h3;unfold nb at h4;have h18:(10:Nat) ^ (17+1)=1000000000000000000:=by decide
   refine Eu.succ ?_;simp only[Y42.j0];refine Eu.ifp trivial ?_;rw[w64 (by omega) (by omega)];exact Eu.bindc (rOf_f h3) (Eu.some _)
  ·rw[if_neg h2];exact rAdd_big a b _ _ ha hb
 ·rw[if_neg h1];exact Eu.ifn (by decide) (rAdd_big a b _ _ ha hb)
theorem rSub_ev (a b:Int) (ha:Bz a) (hb:Bz b):Eu (fun k=>Y45.f k (tI a) (tI b)) (tI (a - b)):=by
 unfold Y45.f;exact Eu.bindc (rNeg_f b hb) (Eu.bind (rAdd_ev a (-b) ha (nb_neg hb)) ((Eu.some _).eq (by rw[Int.sub_eq_add_neg])))
theorem rCompare_ev (a b:Int) (ha:Bz a) (hb:Bz b):Eu (fun k=>Y8.f k (tI a) (tI b)) (sgn (a - b)):=by
 unfold Y8.f;exact Eu.bind (rSub_ev a b ha hb) (Eu.bindc (rSign_f _) (Eu.some _))
theorem quick_div {x y:Int} (hx:nb 17 x) (hy0:y≠0) (hy:nb 17 y):
  (if Int.tmod x y<0 then wrap64 (Int.tdiv (wrap64 (x - (wrap64 ((Int.tmod x y)+ (mx y (wrap64 (-y))))))) y)=x / y∧wrap64 ((Int.tmod x y)+ (mx y (wrap64 (-y))))=x % y else wrap64 (Int.tdiv x y)=x / y∧Int.tmod x y=x % y):=by
 unfold nb at hx hy;have h17:(10:Nat) ^ 17=100000000000000000:=by decide
 rw[h17] at hx hy;have h1:=Int.natAbs_tmod x y;have h2:=Nat.mod_lt x.natAbs (show 0<y.natAbs by omega);have h3:(Int.tdiv x y).natAbs=x.natAbs / y.natAbs:=Int.natAbs_tdiv x y;have h4:=Nat.div_le_self x.natAbs y.natAbs;have h5:x=Int.tmod x y+y * Int.tdiv x y:=(Int.tmod_add_mul_tdiv x y).symm;have emx:mx y (wrap64 (-y))= (y.natAbs:Int):=by
  rw[w64 (by omega) (by omega)];unfold mx;split <;> omega
 rw[emx];clear emx;rw[←h1] at h2;rw[←h3] at h4;clear h1 h3;split
 ·rename_i hneg
  have hr:wrap64 (Int.tmod x y+ (y.natAbs:Int))=Int.tmod x y+ (y.natAbs:Int):=by clear h5;generalize Int.tmod x y=t at *;exact w64 (by omega) (by omega)
  obtain⟨q,hq⟩ : ∃q:Int,x= (Int.tmod x y+ (y.natAbs:Int))+y * q:=by
   by_cases hp:0<y
   ·refine⟨Int.tdiv x y - 1,?_⟩;rw[Int.mul_sub,Int.mul_one];omega
   ·refine⟨Int.tdiv x y+1,?_⟩;rw[Int.mul_add,Int.mul_one];omega
  obtain⟨e1,e2⟩ :=euclid_unique hy0 hq (by clear hq h5 hr;omega) (by clear hq h5 hr;omega);rw[hr,e1,e2];clear hr h5;have hs:x - (Int.tmod x y+ (y.natAbs:Int))=y * q:=by omega
  have hb1:-9223372036854775808≤x - (Int.tmod x y+ (y.natAbs:Int)):=by clear hq hs e1 e2;omega
  have hb2:x - (Int.tmod x y+ (y.natAbs:Int))<9223372036854775808:=by clear hq hs e1 e2;omega
  refine⟨?_,rfl⟩;rw[w64 hb1 hb2,hs,Int.mul_tdiv_cancel_left _ hy0];have hqb:q.natAbs≤x.natAbs+1:=by
   rw[←e1];have:=Int.natAbs_ediv_le_natAbs x y;omega
  exact w64 (by clear hs hq e1 e2;omega) (by clear hs hq e1 e2;omega)
 ·rename_i hneg
  obtain⟨e1,e2⟩ :=euclid_unique hy0 h5 (by clear h5;omega) (by clear h5;omega);rw[e1,e2];refine⟨?_,rfl⟩;rw[←e1];clear h5;have hd:x / y=Int.tdiv x y:=e1;rw[hd];generalize Int.tdiv x y=t at *;exact w64 (by clear hd e1 e2;omega) (by clear hd e1 e2;omega)
theorem rlit1:([1]:List Int)=pJ 1:=by
 have:pd 10000 1= [1]:=by rw[pd_pos (by decide) (by decide),Nat.mod_eq_of_lt (by decide),Nat.div_eq_of_lt (by decide),pd_zero]
 unfold pJ;rw[this];rfl
theorem pJ_pos_iff (m:Nat):((pJ m).length:Int) > 0↔m≠0:=by
 constructor
 ·intro h e;rw[pJ_nil.2 e] at h;exact absurd h (by decide)
 ·intro h;have h1:pJ m≠[]:=fun e=>h (pJ_nil.1 e)
  have h2:=List.length_pos_iff.2 h1;omega
theorem pJ_succ {n k:Nat} (h:(pJ n).length≤k):(pJ (n+1)).length≤k+1:=by
 rw[pJ_length];refine pd_length_le (by decide) ?_;have h5:=lt_pow_pd (B:=10000) (by decide) n;rw[←pJ_length] at h5;have h6:10000 ^ (pJ n).length<10000 ^ ((pJ n).length+1):=Nat.pow_lt_pow_right (by decide) (Nat.lt_succ_self _);have h7:10000 ^ ((pJ n).length+1)≤10000 ^ (k+1):=Nat.pow_le_pow_right (by decide) (by omega);exact Nat.lt_of_le_of_lt h5 (Nat.lt_of_lt_of_le h6 h7)
theorem rDivMod_j1 (a b:Int) (hb:b≠0) (x78:Bool) (hx:x78=decide (a<0∧a.natAbs % b.natAbs≠0)) (hla:(pJ a.natAbs).length≤25000) (hlb:(pJ b.natAbs).length≤25000) (hdb:(Lib.decDigits b.natAbs).length<100000000000):
  Eu (fun k=>Y9.j1 k (decide (a<0)) (decide (b<0)) (bs (Lib.decDigits b.natAbs)) (pJ (a.natAbs / b.natAbs)) (pJ (a.natAbs % b.natAbs)) x78) (tI (a / b),tI (a % b)):=by
 have hlt:=Nat.mod_lt a.natAbs (show 0<b.natAbs by omega);have hq:=pJ_length_mono (Nat.div_le_self a.natAbs b.natAbs);have hr:=pJ_length_mono (Nat.le_of_lt hlt);have hs:=pJ_length_mono (Nat.sub_le b.natAbs (a.natAbs % b.natAbs));have h1:(pJ 1).length=1:=by rw[←rlit1];rfl
 refine Eu.succ ?_;simp only[Y9.j1];by_cases hc:a<0∧a.natAbs % b.natAbs≠0
 ·rw[hx,decide_eq_true hc,rlit1];obtain⟨e1,e2⟩ :=div_sign2 a b hb hc.1 hc.2;have hq1:(pJ (a.natAbs / b.natAbs+1)).length≤25001:=by
   have h3:a.natAbs / b.natAbs+1≤a.natAbs+1:=by have:=Nat.div_le_self a.natAbs b.natAbs;omega
   have h4:(pJ (a.natAbs+1)).length≤25001:=pJ_succ hla;exact Nat.le_trans (pJ_length_mono h3) h4
  refine Eu.ifp rfl (Eu.bind (joined_ev _ 1 1 (by decide) (a.natAbs / b.natAbs+1) (by omega) (by omega)) (Eu.bind (take_ev _ hdb) (Eu.bind (joined_ev _ _ (-1) (by decide) (b.natAbs - a.natAbs % b.natAbs) (by omega) (by omega)) (Eu.bind (made_ev _ _ (by omega)) (Eu.bind (made_ev _ _ (by omega)) ?_)))));rw[e1,if_neg (by decide),e2];exact Eu.some _
 ·rw[hx,decide_eq_false hc];obtain⟨e1,e2⟩ :=div_sign a b hb hc;refine Eu.ifn (by decide) (Eu.bind (made_ev _ _ (by omega)) (Eu.bind (made_ev _ _ (by omega)) ?_));rw[e1,if_neg (by decide),e2];exact Eu.some _
theorem rDivMod_big (a b x6 x8:Int) (hb:b≠0) (ha:Bz a) (hbb:Bz b):Eu (fun k=>Y9.j0 k (tI a) (tI b) x6 x8 false) (tI (a / b),tI (a % b)):=by
 have la:=Bz_pJ ha;have lb:=Bz_pJ hbb;refine Eu.succ ?_;simp only[Y9.j0];refine Eu.ifn (by decide) (Eu.bindc (Split_tI a) (Eu.bindc (Split_tI b) (Eu.bind (take_ev _ (Bz_digits ha)) (Eu.bind (take_ev _ (Bz_digits hbb)) (Eu.bind (parts_ev a.natAbs b.natAbs (by omega) (by omega) (by omega)) (Eu.ite (fun h=>?_) (fun h=>?_)))))))
 ·have ha0:a<0:=by simpa using h
  refine rDivMod_j1 a b hb _ ?_ la lb (Bz_digits hbb);apply decide_eq_decide.2;rw[pJ_pos_iff];exact⟨fun hh=> ⟨ha0,hh⟩,fun hh=>hh.2⟩
 ·have ha0: ¬a<0:=by simpa using h
  exact rDivMod_j1 a b hb false (decide_eq_false (fun hh=>ha0 hh.1)).symm la lb (Bz_digits hbb)
theorem rDivMod_ev (a b:Int) (hb:b≠0) (ha:Bz a) (hbb:Bz b):Eu (fun k=>Y9.f k (tI a) (tI b)) (tI (a / b),tI (a % b)):=by
 unfold Y9.f;refine Eu.bind (rbrief_ev a) (Eu.bind (rbrief_ev b) ?_);by_cases h1:(Lib.decDigits a.natAbs).length≤17
 ·rw[if_pos h1];refine Eu.ifp rfl ?_;by_cases h2:(Lib.decDigits b.natAbs).length≤17
  ·rw[if_pos h2];have hd:=quick_div (nb17 h1) hb (nb17 h2);have hq:nb 18 (a / b):=by
    have:=nb_mono (nb17 h1) (show 17≤18 by decide);unfold nb at this⊢;exact Nat.lt_of_le_of_lt (Int.natAbs_ediv_le_natAbs a b) this
   have hr:nb 18 (a % b):=by
    have:=nb_mono (nb17 h2) (show 17≤18 by decide);unfold nb at this⊢;have h3:=Int.emod_nonneg a hb;have h4:=Int.emod_lt a hb;omega
   refine Eu.succ ?_;simp only[Y9.j0];refine Eu.ifp trivial (Eu.ifn hb ?_);split at hd
   ·rename_i hneg
    refine Eu.ifp hneg ?_;rw[hd.1,hd.2];exact Eu.bindc (rOf_f hq) (Eu.bindc (rOf_f hr) (Eu.some _))
   ·rename_i hneg
    refine Eu.ifn hneg ?_;rw[hd.1,hd.2];exact Eu.bindc (rOf_f hq) (Eu.bindc (rOf_f hr) (Eu.some _))
  ·rw[if_neg h2];exact rDivMod_big a b _ _ hb ha hbb
 ·rw[if_neg h1];exact Eu.ifn (by decide) (rDivMod_big a b _ _ hb ha hbb)
theorem rGcd_l0: ∀(y x:Nat),Bz (x:Int)→Bz (y:Int)→Eu (fun k=>Y43.l0 k (tI (x:Int)) (tI (y:Int))) (tI ((Nat.gcd x y:Nat):Int)):=by
 intro y
 induction y using Nat.strongRecOn with
 |ind y ih=>
  intro x hx hy;refine Eu.succ ?_;simp only[Y43.l0];by_cases h0:y=0
  ·subst h0;refine Eu.ifp ((tI_toList_zero _).2 rfl) ?_;rw[Nat.gcd_zero_right];exact Eu.some _
  ·refine Eu.ifn (fun e=>h0 (by have:=(tI_toList_zero _).1 e;omega)) (Eu.bind (rDivMod_ev _ _ (by omega) hx hy) ?_);have hlt:=Nat.mod_lt x (show 0<y by omega);rw[gcd_step x y];refine ih (x % y) hlt y hy ?_;unfold Bz nb at *;rw[Int.natAbs_natCast] at *;omega
theorem rGcd_ev (a b:Int) (ha:Bz a) (hb:Bz b):Eu (fun k=>Y43.f k (tI a) (tI b)) (tI ((Int.gcd a b:Nat):Int)):=by
 unfold Y43.f;refine Eu.bindc (rAbs_f a) (Eu.bindc (rAbs_f b) (rGcd_l0 b.natAbs a.natAbs ?_ ?_))
 ·unfold Bz nb at *;rw[Int.natAbs_natCast];exact ha
 ·unfold Bz nb at *;rw[Int.natAbs_natCast];exact hb
end Go.Proofs.YtnfgokmecllpbaaGreatDoor.Print
end
section
namespace Go.Klippe
open Go.Lib
def rs (q:Rat):List UInt8:=if q.den=1 then itoa q.num else itoa q.num++47::decDigits q.den
theorem rs_int {q:Rat} (h:q.den=1):rs q=itoa q.num:=by unfold rs;rw[if_pos h]
theorem rs_frac {q:Rat} (h:q.den≠1):rs q=itoa q.num++47::decDigits q.den:=by unfold rs;rw[if_neg h]
theorem divInt_norm (n d:Int) (hd:0<d):Rat.divInt n d=Rat.normalize n d.toNat (by omega):=by
 obtain⟨k,rfl⟩ : ∃k:Nat,d= (k:Int):= ⟨d.toNat,by omega⟩
 rw[Rat.divInt_ofNat,Rat.mkRat_def,dif_neg (by omega)];rfl
theorem num_divInt' (n d:Int) (hd:0<d):(Rat.divInt n d).num=n / (Int.gcd n d:Int):=by
 rw[divInt_norm n d hd,Rat.normalize_eq];show n / ((n.natAbs.gcd d.toNat:Nat):Int)=_;congr 2;unfold Int.gcd;congr 1;omega
theorem den_divInt' (n d:Int) (hd:0<d):((Rat.divInt n d).den:Int)=d / (Int.gcd n d:Int):=by
 rw[divInt_norm n d hd,Rat.normalize_eq];show((d.toNat / n.natAbs.gcd d.toNat:Nat):Int)=_;have e:n.natAbs.gcd d.toNat=Int.gcd n d:=by unfold Int.gcd;congr 1;omega
 rw[e];have e2:(d.toNat:Int)=d:=by omega
 rw[Int.natCast_ediv,e2]
theorem add_divInt (a b:Rat):a+b=Rat.divInt (a.num * b.den+b.num * a.den) (a.den * b.den):=by
 have h:(0:Int)< (a.den:Int) * b.den:=by have:=a.den_pos;have:=b.den_pos;exact Int.mul_pos (by omega) (by omega)
 rw[Rat.add_def,divInt_norm _ _ h];congr 1
theorem mul_divInt (a b:Rat):a * b=Rat.divInt (a.num * b.num) (a.den * b.den):=by
 have h:(0:Int)< (a.den:Int) * b.den:=by have:=a.den_pos;have:=b.den_pos;exact Int.mul_pos (by omega) (by omega)
 rw[Rat.mul_def,divInt_norm _ _ h];congr 1
theorem itoa_no_slash (z:Int): ∀b∈itoa z,b≠47:=by
 intro b hb;have hD: ∀u,∀b∈decDigits u,b≠47:=by
  intro u b hb e;have:=decDigits_isD u b hb;subst e;revert this;decide
 by_cases h:z<0
 ·rw[itoa_neg h] at hb;rcases List.mem_cons.1 hb with rfl|hb
  ·decide
  ·exact hD _ b hb
 ·rw[itoa_nonneg (by omega)] at hb;exact hD _ b hb
theorem append_slash_inj {a b c d:List UInt8} (ha: ∀x∈a,x≠47) (hc: ∀x∈c,x≠47) (h:a++47::b=c++47::d):a=c∧b=d:=by
 induction a generalizing c with
 |nil=>
  cases c with
  |nil=>simp at h;exact⟨rfl,h⟩
  |cons y c=>simp at h;exact absurd h.1.symm (hc y List.mem_cons_self)
 |cons x a ih=>
  cases c with
  |nil=>simp at h;exact absurd h.1 (ha x List.mem_cons_self)
  |cons y c=>
   simp only[List.cons_append,List.cons.injEq] at h;obtain⟨rfl,h⟩ :=h;obtain⟨e1,e2⟩ :=ih (fun z hz=>ha z (List.mem_cons_of_mem _ hz)) (fun z hz=>hc z (List.mem_cons_of_mem _ hz)) h;exact⟨by rw[e1],e2⟩
theorem rs_inj {p q:Rat} (h:rs p=rs q):p=q:=by
 by_cases hp:p.den=1 <;> by_cases hq:q.den=1
 ·rw[rs_int hp,rs_int hq] at h;exact Rat.ext (itoa_inj h) (by omega)
 ·rw[rs_int hp,rs_frac hq] at h;have:(47:UInt8)∈itoa p.num:=by rw[h];simp
  exact absurd rfl (itoa_no_slash _ _ this)
 ·rw[rs_int hq,rs_frac hp] at h;have:(47:UInt8)∈itoa q.num:=by rw[←h];simp
  exact absurd rfl (itoa_no_slash _ _ this)
 ·rw[rs_frac hp,rs_frac hq] at h;obtain⟨e1,e2⟩ :=append_slash_inj (itoa_no_slash _) (itoa_no_slash _) h;exact Rat.ext (itoa_inj e1) (decDigits_inj e2)
theorem rs_ne_nil (q:Rat):rs q≠[]:=by
 by_cases h:q.den=1
 ·rw[rs_int h];exact itoa_ne_nil _
 ·rw[rs_frac h];simp
theorem itoa_head_minus {z:Int}:(∃r,itoa z=45::r)↔z<0:=by
 constructor
 ·rintro⟨r,e⟩;apply Int.lt_of_not_ge;intro h;rw[itoa_nonneg (by omega)] at e;exact head_not_minus _ _ e
 ·intro h;exact⟨_,itoa_neg h⟩
theorem rs_head_minus {q:Rat}:(∃r,rs q=45::r)↔q.num<0:=by
 constructor
 ·rintro⟨r,e⟩;by_cases h:q.den=1
  ·rw[rs_int h] at e;exact itoa_head_minus.1 ⟨_,e⟩
  ·rw[rs_frac h] at e;cases hi:itoa q.num with
   |nil=>exact absurd hi (itoa_ne_nil _)
   |cons b r'=>
    rw[hi] at e;simp only[List.cons_append,List.cons.injEq] at e;rw[e.1] at hi;exact itoa_head_minus.1 ⟨_,hi⟩
 ·intro h;by_cases hd:q.den=1
  ·rw[rs_int hd];exact itoa_head_minus.2 h
  ·rw[rs_frac hd];obtain⟨r,e⟩ :=itoa_head_minus.2 h;exact⟨_,by rw[e];rfl⟩
theorem rs_zero:rs 0= [48]:=by
 rw[rs_int rfl];show itoa 0=_;rw[itoa_nonneg (by decide)];exact decDigits_zero
theorem rs_eq_zero {q:Rat}:rs q= [48]↔q=0:=by
 constructor
 ·intro h;rw[←rs_zero] at h;exact rs_inj h
 ·rintro rfl;exact rs_zero
end Go.Klippe
end
section
namespace Go.Klippe
open Go.Lib
theorem indexByte_none {l:List UInt8} {c:UInt8} (h: ∀b∈l,b≠c):indexByte l c= -1:=by
 induction l with
 |nil=>rfl
 |cons b l ih=>
  unfold indexByte;rw[if_neg (by rw[beq_iff_eq];exact h b List.mem_cons_self),ih (fun x hx=>h x (List.mem_cons_of_mem _ hx))];rfl
theorem indexByte_at {a:List UInt8} {c:UInt8} (r:List UInt8) (h: ∀b∈a,b≠c):indexByte (a++c::r) c= (a.length:Int):=by
 induction a with
 |nil=>unfold indexByte;rw[List.nil_append];simp
 |cons b a ih=>
  have e:=ih (fun x hx=>h x (List.mem_cons_of_mem _ hx));rw[List.cons_append];unfold indexByte;rw[if_neg (by rw[beq_iff_eq];exact h b List.mem_cons_self),e,if_neg (by rw[beq_iff_eq];omega),List.length_cons];omega
def joinT (a b:Int):List UInt8:=if b=1 then itoa a else itoa a++47::itoa b
theorem joinT_rs (q:Rat):joinT q.num (q.den:Int)=rs q:=by
 unfold joinT rs;by_cases h:q.den=1
 ·rw[if_pos (by omega),if_pos h]
 ·rw[if_neg (by omega),if_neg h,itoa_nonneg (z:=(q.den:Int)) (by omega),Int.toNat_natCast]
theorem rs_divInt (n d:Int) (hd:0<d):rs (Rat.divInt n d)=joinT (n / (Int.gcd n d:Int)) (d / (Int.gcd n d:Int)):=by
 rw[←joinT_rs,num_divInt' n d hd,den_divInt' n d hd]
def RB (k:Nat) (q:Rat):Prop:=nb k q.num∧nb k (q.den:Int)
theorem nb_div {k:Nat} {x:Int} (h:nb k x) (g:Int):nb k (x / g):=Nat.lt_of_le_of_lt (Int.natAbs_ediv_le_natAbs x g) h
theorem RB_divInt {k:Nat} {n d:Int} (hd:0<d) (hn:nb k n) (hdd:nb k d):RB k (Rat.divInt n d):=by
 refine⟨?_,?_⟩
 ·rw[num_divInt' n d hd];exact nb_div hn _
 ·rw[den_divInt' n d hd];exact nb_div hdd _
theorem RB_mono {k m:Nat} {q:Rat} (h:RB k q) (hk:k≤m):RB m q:= ⟨nb_mono h.1 hk,nb_mono h.2 hk⟩
theorem den_pos' (q:Rat):(0:Int)< (q.den:Int):=by have:=q.den_pos;omega
theorem RB_add {k m:Nat} {a b:Rat} (ha:RB k a) (hb:RB m b):RB (k+m+1) (a+b):=by
 rw[add_divInt];refine RB_divInt (Int.mul_pos (den_pos' a) (den_pos' b)) (nb_add (m:=0) (nb_mul ha.1 hb.2) ?_) (nb_mono (nb_mul ha.2 hb.2) (Nat.le_succ _));rw[Nat.add_comm k m];exact nb_mul hb.1 ha.2
theorem RB_mul {k m:Nat} {a b:Rat} (ha:RB k a) (hb:RB m b):RB (k+m) (a * b):=by
 rw[mul_divInt];exact RB_divInt (Int.mul_pos (den_pos' a) (den_pos' b)) (nb_mul ha.1 hb.1) (nb_mul ha.2 hb.2)
theorem drop_cons' {l:List UInt8} {i:Nat} {c:UInt8} {r:List UInt8} (h:l.drop i=c::r): ∃hi:i<l.length,l[i]=c∧l.drop (i+1)=r:=by
 have hi:i<l.length:=by
  apply Classical.byContradiction;intro hn;rw[List.drop_eq_nil_of_le (by omega)] at h;exact absurd h (by simp)
 rw[List.drop_eq_getElem_cons hi] at h;exact⟨hi,(List.cons.inj h).1,(List.cons.inj h).2⟩
end Go.Klippe
namespace Go.Proofs.YtnfgokmecllpbaaGreatDoor.Print
open Go.RowKit Go.Klippe Go.Proofs.YtnfgokmecllpbaaGreatDoorW.PrintWords Go.Proofs.YtnfgokmecllpbaaGreatDoorW.PrintLast Go.Proofs.YtnfgokmecllpbaaGreatDoorW.PrintMore
def tR (q:Rat):ByteArray:=bs (rs q)
theorem lit49:(⟨#[49]⟩ :ByteArray)=tI 1:=by
 unfold tI;rw[itoa_nonneg (by decide),show(1:Int).toNat=1 from rfl,Lib.decDigits_one (by decide)];rfl
theorem toList49 (z:Int):(tI z).toList= ([49]:List UInt8)↔z=1:=by
 have h:([49]:List UInt8)=Lib.itoa 1:=by rw[itoa_nonneg (by decide),show(1:Int).toNat=1 from rfl,Lib.decDigits_one (by decide)];rfl
 unfold tI;rw[bs_toList,h];exact⟨itoa_inj,fun e=>by rw[e]⟩
theorem cut_no {l:List UInt8} (h: ∀b∈l,b≠47) (hl:l.length<4294967281):Y82.f (bs l) (⟨#[47]⟩ :ByteArray)=some (bs l,bs [],false):=by
 unfold Y82.f;rw[bs_size,if_pos hl,bs_data];have e:Lib.cut l [47]= (l,[],false):=by
  unfold Lib.cut;rw[Lib.index_one,indexByte_none h];rfl
 show some ((⟨(Lib.cut l [47]).1.toArray⟩ :ByteArray),(⟨(Lib.cut l [47]).2.1.toArray⟩ :ByteArray),(Lib.cut l [47]).2.2)=_
 rw[e];rfl
theorem cut_yes {a:List UInt8} (b:List UInt8) (h: ∀x∈a,x≠47) (hl:(a++47::b).length<4294967281):Y82.f (bs (a++47::b)) (⟨#[47]⟩ :ByteArray)=some (bs a,bs b,true):=by
 unfold Y82.f;rw[bs_size,if_pos hl,bs_data];have e:Lib.cut (a++47::b) [47]= (a,b,true):=by
  unfold Lib.cut;rw[Lib.index_one,indexByte_at b h,if_pos (by omega),Int.toNat_natCast,List.take_left,show([47]:List UInt8).length=1 from rfl];rw[←List.drop_drop,List.drop_left];rfl
 show some ((⟨(Lib.cut (a++47::b) [47]).1.toArray⟩ :ByteArray),(⟨(Lib.cut (a++47::b) [47]).2.1.toArray⟩ :ByteArray),(Lib.cut (a++47::b) [47]).2.2)=_
 rw[e];rfl
theorem Parts_no {l:List UInt8} (h: ∀b∈l,b≠47) (hl:l.length<4294967281):Y53.f (bs l)=some (bs l,tI 1):=by
 unfold Y53.f;rw[cut_no h hl,←lit49];rfl
theorem Parts_yes {a:List UInt8} (b:List UInt8) (h: ∀x∈a,x≠47) (hl:(a++47::b).length<4294967281):Y53.f (bs (a++47::b))=some (bs a,bs b):=by
 unfold Y53.f;rw[cut_yes b h hl];rfl
theorem rParts_no {l:List UInt8} (h: ∀b∈l,b≠47):Y21.f (bs l)=some (bs l,tI 1):=by
 unfold Y21.f Y27.f;rw[bs_data,show(47:Int).toNat.toUInt8=47 from rfl,indexByte_none h,←lit49];rfl
theorem rParts_yes {a:List UInt8} (b:List UInt8) (h: ∀x∈a,x≠47) (hl:(a++47::b).length<4294967281):Y21.f (bs (a++47::b))=some (bs a,bs b):=by
 unfold Y21.f Y27.f;rw[bs_data,show(47:Int).toNat.toUInt8=47 from rfl,indexByte_at b h];have h1:(a++47::b).length=a.length+b.length+1:=by simp;omega
 show(if(a.length:Int)<0 then some (bs (a++47::b),(⟨#[49]⟩ :ByteArray)) else if 0≤(a.length:Int) then if(a.length:Int)≤((bs (a++47::b)).size:Int) then if 0≤wrap64 ((a.length:Int)+1) then if wrap64 ((a.length:Int)+1)≤((bs (a++47::b)).size:Int) then some ((bs (a++47::b)).extract 0 (a.length:Int).toNat,(bs (a++47::b)).extract (wrap64 ((a.length:Int)+1)).toNat (bs (a++47::b)).size) else none else none else none else none)=_
 rw[w64_succ (by omega),bs_size,Int.toNat_natCast,Int.toNat_natCast,if_neg (by omega),if_pos (by omega),if_pos (by omega),if_pos (by omega),if_pos (by omega),bs_extract0,bs_extract_end,List.take_left,←List.drop_drop,List.drop_left];rfl
theorem rs_parts (q:Rat):(q.den=1∧rs q=Lib.itoa q.num)∨(q.den≠1∧rs q=Lib.itoa q.num++47::Lib.itoa (q.den:Int)):=by
 by_cases h:q.den=1
 ·exact .inl ⟨h,rs_int h⟩
 ·exact .inr ⟨h,by rw[rs_frac h,itoa_nonneg (z:=(q.den:Int)) (by omega),Int.toNat_natCast]⟩
theorem itoa_len_lt {z:Int} (h:Bz z):(Lib.itoa z).length≤100001:=by
 have h1:=itoa_length_le z;have h2:=nb_digits (by decide) h;omega
theorem Parts_tR (q:Rat) (h:RB 100000 q):Y53.f (tR q)=some (tI q.num,tI (q.den:Int)):=by
 have l1:=itoa_len_lt h.1;have l2:=itoa_len_lt h.2;unfold tR;rcases rs_parts q with ⟨h1,h2⟩ | ⟨h1,h2⟩
 ·rw[h2,Parts_no (itoa_no_slash _) (by omega),h1];rfl
 ·rw[h2,Parts_yes _ (itoa_no_slash _) (by rw[List.length_append,List.length_cons];omega)];rfl
theorem join_f (a b:Int) (ha:Bz a) (hb:Bz b):Y67.f (tI a) (tI b)=some (bs (joinT a b)):=by
 have l1:=itoa_len_lt ha;have l2:=itoa_len_lt hb;unfold Y67.f joinT;by_cases h:b=1
 ·rw[if_pos ((toList49 b).2 h),if_pos h];rfl
 ·rw[if_neg (fun e=>h ((toList49 b).1 e)),if_neg h];unfold tI;have e:bs (Lib.itoa a)++ (⟨#[47]⟩ :ByteArray)=bs (Lib.itoa a++ [47]):=bs_append _ [47];rw[e,bs_size,bs_size,bs_size,if_pos (by omega),if_pos (by rw[List.length_append,List.length_singleton];omega),bs_append,List.append_assoc];rfl
theorem gcd_pos_int {n d:Int} (hd:d≠0):(0:Int)< (Int.gcd n d:Int):=by
 have:0<Int.gcd n d:=Int.gcd_pos_of_ne_zero_right n hd;omega
theorem Bz_gcd {n d:Int} (hd:d≠0) (h:Bz d):Bz (Int.gcd n d:Int):=by
 unfold Bz nb at *;rw[Int.natAbs_natCast];have h1:Int.gcd n d∣d.natAbs:=Nat.gcd_dvd_right _ _;have:=Nat.le_of_dvd (by omega) h1;omega
theorem lowest_j0 (n d:Int) (hd:0<d) (hn:Bz n) (hdd:Bz d):Eu (fun k=>Y47.j0 k (tI n) (tI d)) (tR (Rat.divInt n d)):=by
 refine Eu.succ ?_;simp only[Y47.j0];refine Eu.bind (Gcd_ev n d hn hdd) ?_;unfold tR;rw[rs_divInt n d hd];have hg:=gcd_pos_int (n:=n) (show d≠0 by omega);have hgB:=Bz_gcd (n:=n) (show d≠0 by omega) hdd;generalize (Int.gcd n d:Int)=g at *;by_cases h:g=1
 ·subst h;refine Eu.ifp ((toList49 1).2 rfl) (Eu.bindc (join_f n d hn hdd) ?_);rw[Int.ediv_one,Int.ediv_one];exact Eu.some _
 ·exact Eu.ifn (fun e=>h ((toList49 g).1 e)) (Eu.bind (DivMod_ev n g (by omega) hn hgB) (Eu.bind (DivMod_ev d g (by omega) hdd hgB) (Eu.bindc (join_f _ _ (nb_div hn g) (nb_div hdd g)) (Eu.some _))))
theorem lowest_ev (n d:Int) (hd:d≠0) (hn:Bz n) (hdd:Bz d):Eu (fun k=>Y47.f k (tI n) (tI d)) (tR (Rat.divInt n d)):=by
 unfold Y47.f;refine Eu.bindc (Sign_f d) ?_;by_cases h:d<0
 ·refine Eu.ifp (by unfold sgn;rw[if_neg hd,if_pos h];decide) (Eu.bindc (Neg_f n hn) (Eu.bindc (Neg_f d hdd) ?_));rw[←Rat.neg_divInt_neg];exact lowest_j0 (-n) (-d) (by omega) (nb_neg hn) (nb_neg hdd)
 ·exact Eu.ifn (by unfold sgn;rw[if_neg hd,if_neg h];decide) (lowest_j0 n d (by omega) hn hdd)
def nS (z:Int):Prop:=z.natAbs<4000000000000000000
theorem nS_nb {z:Int} (h:nb 18 z):nS z:=by
 unfold nb at h;have h18:(10:Nat) ^ 18=1000000000000000000:=by decide
 unfold nS;omega
theorem nS_Bz {z:Int} (h:nS z):Bz z:=by
 have h1:nb 19 z:=by
  unfold nb;have h19:(10:Nat) ^ 19=10000000000000000000:=by decide
  unfold nS at h;omega
 exact nb_mono h1 (by decide)
theorem nS_div {z:Int} (h:nS z) (g:Int):nS (z / g):=Nat.lt_of_le_of_lt (Int.natAbs_ediv_le_natAbs z g) h
theorem Itoa18 {z:Int} (h:nS z):Y36.f z=some (tI z):=by
 unfold nS at h;exact Itoa_f (by omega) (by omega)
theorem small_l0 (n d:Int) (hn:nS n) (hd0:0<d) (hd:nS d): ∀(m:Nat) (x y:Int),y.natAbs=m→nS x→nS y→Int.gcd x y=Int.gcd n d→Eu (fun k=>Y57.l0 k n d x y) (tR (Rat.divInt n d)):=by
 intro m
 induction m using Nat.strongRecOn with
 |ind m ih=>
  intro x y hm hx hy hg;refine Eu.succ ?_;simp only[Y57.l0];by_cases h0:y=0
  ·subst h0;have hx':=hx;unfold nS at hx';rw[Int.gcd_zero_right] at hg;have hgp:=gcd_pos_int (n:=n) (show d≠0 by omega);have hdv1:(Int.gcd n d:Int)∣n:=Int.gcd_dvd_left ..;have hdv2:(Int.gcd n d:Int)∣d:=Int.gcd_dvd_right ..;have hrs:=rs_divInt n d hd0;have key: ∀g:Int,g= (Int.gcd n d:Int)→Eu (fun k=>Y57.j1 k n d g) (tR (Rat.divInt n d)):=by
    intro g hge;rw[←hge] at hgp hdv1 hdv2 hrs;have n1:nS (n / g):=nS_div hn g;have n2:nS (d / g):=nS_div hd g;have b1:Bz (n / g):=nS_Bz n1;have b2:Bz (d / g):=nS_Bz n2;have l1:=itoa_len_lt b1;have l2:=itoa_len_lt b2;have e1:wrap64 (Int.tdiv n g)=n / g:=by rw[Int.tdiv_eq_ediv_of_dvd hdv1];unfold nS at n1;exact w64 (by omega) (by omega)
    have e2:wrap64 (Int.tdiv d g)=d / g:=by rw[Int.tdiv_eq_ediv_of_dvd hdv2];unfold nS at n2;exact w64 (by omega) (by omega)
    refine Eu.succ ?_;simp only[Y57.j1];rw[e1,e2];clear e1 e2;refine Eu.ifn (by omega) ?_;unfold tR;rw[hrs];unfold joinT;by_cases h1:d / g=1
    ·simp only[if_pos h1];exact(Eu.bindc (Itoa18 n1) (Eu.some _))
    ·simp only[if_neg h1];refine(Eu.bindc (Itoa18 n1) ?_);have e:tI (n / g)++ (⟨#[47]⟩ :ByteArray)=bs (Lib.itoa (n / g)++ [47]):=bs_append _ [47];rw[e];refine Eu.ifp (by rw[tI_size];omega) (Eu.bindc (Itoa18 n2) (Eu.ifp (by rw[tI_size,bs_size,List.length_append,List.length_singleton];omega) ((Eu.some _).eq ?_)));unfold tI;rw[bs_append,List.append_assoc];rfl
   refine Eu.ifp rfl (Eu.ite (fun hneg=>?_) (fun hneg=>?_))
   ·rw[w64 (by omega) (by omega)];exact key (-x) (by omega)
   ·exact key x (by omega)
  ·have e:(x.tmod y).natAbs=x.natAbs % y.natAbs:=Int.natAbs_tmod x y;have hlt:=Nat.mod_lt x.natAbs (show 0<y.natAbs by omega);refine Eu.ifn h0 ?_;refine ih _ (by rw[e];omega) y (x.tmod y) rfl hy ?_ ?_
   ·unfold nS at *;rw[e];omega
   ·rw[←hg];unfold Int.gcd;rw[e,←gcd_step]
theorem small_ev' (n d:Int) (hn:nS n) (hd0:0<d) (hd:nS d):Eu (fun k=>Y57.f k n d) (tR (Rat.divInt n d)):=by
 unfold Y57.f;exact small_l0 n d hn hd0 hd _ n d rfl hn hd rfl
end Go.Proofs.YtnfgokmecllpbaaGreatDoor.Print
end
section
namespace Go.Proofs.YtnfgokmecllpbaaGreatDoor.Print
open Go.RowKit Go.Klippe Go.Proofs.YtnfgokmecllpbaaGreatDoorW.PrintWords Go.Proofs.YtnfgokmecllpbaaGreatDoorW.PrintLast Go.Proofs.YtnfgokmecllpbaaGreatDoorW.PrintMore
theorem digit_step {c:UInt8} {acc:Nat} (h:isD c=true) (ha:acc<1000000000000):wrap64 ((wrap64 (10 * (acc:Int)))+ (((c.toNat:Int) - 48) % 256))= ((acc * 10+dd c:Nat):Int):=by
 unfold isD at h;rw[Bool.and_eq_true,decide_eq_true_eq,decide_eq_true_eq] at h;have hd:dd c=c.toNat - 48:=rfl;generalize c.toNat=u at *;generalize dd c=d at *;rw[w64 (z:=10 * (acc:Int)) (by omega) (by omega),w64 (by omega) (by omega)];omega
theorem isD_ne47 {c:UInt8} (h:isD c=true): ¬(c.toNat:Int)=47:=by
 unfold isD at h;rw[Bool.and_eq_true,decide_eq_true_eq,decide_eq_true_eq] at h;omega
theorem dd_le {c:UInt8} (h:isD c=true):dd c≤9:=by
 unfold isD at h;rw[Bool.and_eq_true,decide_eq_true_eq,decide_eq_true_eq] at h;have hd:dd c=c.toNat - 48:=rfl;omega
theorem pow_lt {acc j d:Nat} (h:acc<10 ^ j) (hd:d≤9):acc * 10+d<10 ^ (j+1):=by
 rw[Nat.pow_succ];omega
theorem lt_pow9 {acc j:Nat} (h:acc<10 ^ j) (hj:j≤9):acc<1000000000000:=by
 have h1:10 ^ j≤10 ^ 9:=Nat.pow_le_pow_right (by decide) hj;have h2:(10:Nat) ^ 9=1000000000:=by decide
 omega
theorem quick_l0 (l:List UInt8) (hl:l.length<1000000000000) (suf:List UInt8) (hs:suf= []∨∃D2,suf=47::D2) (x3:Int) (x6:Bool) (b:Nat) (R:Int×Int×Bool):
  ∀(D:List UInt8) (i acc:Nat),l.drop i=D++suf→i≤l.length→(∀c∈D,isD c=true)→b≤i→i - b≤9→acc<10 ^ (i - b)→
   ((i - b)+D.length≤9→Eu (fun k=>Y56.j3 k (bs l) (dvF acc D:Nat) x3 ((i+D.length:Nat):Int) x6 (b:Int) false) R)→
   Eu (fun k=>Y56.l0 k (bs l) (acc:Int) x3 (i:Int) x6 (b:Int)) (if(i - b)+D.length≤9 then R else(0,0,false)):=by
 intro D
 induction D with
 |nil=>
  intro i acc hd hil hD hb h9 ha hr;rw[List.nil_append] at hd;rw[if_pos (by simp;omega)];have h:=hr (by simp;omega);refine Eu.succ ?_;simp only[Y56.l0];rw[bs_size];rcases hs with rfl| ⟨D2,rfl⟩
  ·have:l.length≤i:=by
    apply Classical.byContradiction;intro hn;have:=congrArg List.length hd;rw[List.length_drop,List.length_nil] at this;omega
   exact Eu.ifn (by omega) h
  ·obtain⟨hi,e1,e2⟩ :=drop_cons' hd;refine Eu.ifp (by omega) (Eu.ifp (by omega) ?_);rw[bt_bs hi,e1,show((((47:UInt8).toNat:Nat):Int)!=47)=false from rfl];exact h
 |cons c D ih=>
  intro i acc hd hil hD hb h9 ha hr;rw[List.cons_append] at hd;obtain⟨hi,e1,e2⟩ :=drop_cons' hd;have hc:=hD c List.mem_cons_self;have hbt:=bt_bs hi;rw[e1] at hbt;have hne:(((c.toNat:Nat):Int)!=47)=true:=by rw[bne_iff_ne];exact isD_ne47 hc
  have f1:i<4611686018427387904:=by omega
  have hw:wrap64 ((i:Int) - (b:Int))= ((i - b:Nat):Int):=by rw[w64 (by omega) (by omega)];omega
  refine Eu.succ ?_;simp only[Y56.l0];rw[bs_size,hbt,hne];refine Eu.ifp (Int.ofNat_lt.2 hi) (Eu.ifp (Int.natCast_nonneg i) (Eu.succ ?_));simp only[Y56.j3];rw[hw,bs_size,hbt];clear hw;refine Eu.ifp trivial ?_;by_cases h10:i - b=9
  ·rw[if_neg (by rw[List.length_cons];omega)];exact Eu.ifp (by rw[h10];rfl) (Eu.some _)
  ·have hj:i+1 - b= (i - b)+1:=by omega
   have ha2:acc * 10+dd c<10 ^ (i+1 - b):=by rw[hj];exact pow_lt ha (dd_le hc)
   have hacc:=lt_pow9 ha h9;have f2: ¬(((i - b:Nat):Int)=9):=by omega
   have f3:i+1 - b≤9:=by omega
   have f4:i+1 - b+D.length=i - b+ (c::D).length:=by rw[List.length_cons];omega
   have f5:i+1+D.length=i+ (c::D).length:=by rw[List.length_cons];omega
   clear ha;have h:=ih (i+1) (acc * 10+dd c) e2 hi (fun x hx=>hD x (List.mem_cons_of_mem _ hx)) (by omega) f3 ha2 (fun hh=>by
    rw[f4] at hh;have:=hr hh;rw[dvF_cons] at this;rw[f5];exact this)
   rw[f4] at h;refine Eu.ifn f2 (Eu.ifp (Int.natCast_nonneg i) (Eu.ifp (Int.ofNat_lt.2 hi) ?_));rw[digit_step hc hacc,w64_succ f1];exact h
theorem quick_l1 (l:List UInt8) (hl:l.length<1000000000000) (x2:Int) (b:Nat):
  ∀(D:List UInt8) (i acc:Nat),l.drop i=D→i≤l.length→(∀c∈D,isD c=true)→b≤i→i - b≤9→acc<10 ^ (i - b)→
   Eu (fun k=>Y56.l1 k (bs l) x2 (acc:Int) (i:Int) (b:Int)) (if(i - b)+D.length≤9 then(x2,((dvF acc D:Nat):Int),true) else(0,0,false)):=by
 intro D
 induction D with
 |nil=>
  intro i acc hd hil hD hb h9 ha;rw[if_pos (by simp;omega)];have:l.length≤i:=by
   apply Classical.byContradiction;intro hn;have:=congrArg List.length hd;rw[List.length_drop,List.length_nil] at this;omega
  refine Eu.succ ?_;simp only[Y56.l1];rw[bs_size];exact Eu.ifn (by omega) (Eu.some _)
 |cons c D ih=>
  intro i acc hd hil hD hb h9 ha;obtain⟨hi,e1,e2⟩ :=drop_cons' hd;have hc:=hD c List.mem_cons_self;have hbt:=bt_bs hi;rw[e1] at hbt;have f1:i<4611686018427387904:=by omega
  have hw:wrap64 ((i:Int) - (b:Int))= ((i - b:Nat):Int):=by rw[w64 (by omega) (by omega)];omega
  refine Eu.succ ?_;simp only[Y56.l1];rw[hw,bs_size,hbt];clear hw;refine Eu.ifp (Int.ofNat_lt.2 hi) ?_;by_cases h10:i - b=9
  ·rw[if_neg (by rw[List.length_cons];omega)];exact Eu.ifp (by rw[h10];rfl) (Eu.some _)
  ·have hj:i+1 - b= (i - b)+1:=by omega
   have ha2:acc * 10+dd c<10 ^ (i+1 - b):=by rw[hj];exact pow_lt ha (dd_le hc)
   have hacc:=lt_pow9 ha h9;have f2: ¬(((i - b:Nat):Int)=9):=by omega
   have f3:i+1 - b≤9:=by omega
   have f4:i+1 - b+D.length=i - b+ (c::D).length:=by rw[List.length_cons];omega
   clear ha;have h:=ih (i+1) (acc * 10+dd c) e2 hi (fun x hx=>hD x (List.mem_cons_of_mem _ hx)) (by omega) f3 ha2;rw[f4] at h;refine Eu.ifn f2 (Eu.ifp (Int.natCast_nonneg i) ?_);rw[digit_step hc hacc,w64_succ f1];exact h
theorem dvF0 (u:Nat):dvF 0 (Lib.decDigits u)=u:=dv_decDigits u
theorem nb9_digits {z:Int} (h:(Lib.decDigits z.natAbs).length≤9):nb 9 z:=nb_mono nb_of_digits h
theorem quick_tail (q:Rat) (l:List UInt8) (hl:l.length<100000000000) (i:Nat) (m:Bool) (hm:m=decide (q.num<0)) (b:Nat) (h9:(Lib.decDigits q.num.natAbs).length≤9)
  (hd:(q.den=1∧i=l.length)∨(q.den≠1∧i<l.length∧l.drop (i+1)=Lib.decDigits q.den)):
  Eu (fun k=>Y56.j3 k (bs l) ((q.num.natAbs:Nat):Int) 0 (i:Int) m (b:Int) false) (if q.den=1∨(Lib.decDigits q.den).length≤9 then(q.num,(q.den:Int),true) else(0,0,false)):=by
 have hnb:=nb9_digits h9;unfold nb at hnb;have e9:(10:Nat) ^ 9=1000000000:=by decide
 have key: ∀z:Int,z=q.num→Eu (fun k=>Y56.j4 k (bs l) z 0 (i:Int)) (if q.den=1∨(Lib.decDigits q.den).length≤9 then(q.num,(q.den:Int),true) else(0,0,false)):=by
  rintro z rfl;refine Eu.succ ?_;simp only[Y56.j4];rw[bs_size];rcases hd with ⟨h1,h2⟩ | ⟨h1,h2,h3⟩
  ·rw[if_pos (.inl h1),h1];exact Eu.ifp (by omega) (Eu.some _)
  ·refine Eu.ifn (by omega) ?_;rw[w64_succ (by omega)];have h:=quick_l1 l (by omega) q.num (i+1) (Lib.decDigits q.den) (i+1) 0 h3 (by omega) (decDigits_isD _) (Nat.le_refl _) (by omega) (Nat.pow_pos (by decide));rw[dvF0] at h;refine h.eq ?_;by_cases hc:(Lib.decDigits q.den).length≤9
   ·rw[if_pos (by omega),if_pos (.inr hc)]
   ·rw[if_neg (by omega),if_neg (by intro hh;rcases hh with hh|hh;exact h1 hh;exact hc hh)]
 refine Eu.succ ?_;simp only[Y56.j3];refine Eu.ifn (by decide) ?_;rw[hm];refine Eu.ite (fun h=>?_) (fun h=>?_)
 ·rw[decide_eq_true_eq] at h;rw[w64 (by omega) (by omega)];exact key _ (by omega)
 ·rw[decide_eq_true_eq] at h;exact key _ (by omega)
theorem rs_sign (q:Rat):rs q= (if q.num<0 then [45] else [])++Lib.decDigits q.num.natAbs++ (if q.den=1 then [] else 47::Lib.decDigits q.den):=by
 have e:Lib.itoa q.num= (if q.num<0 then [45] else [])++Lib.decDigits q.num.natAbs:=by
  by_cases h:q.num<0
  ·rw[if_pos h,itoa_neg h];rfl
  ·rw[if_neg h,itoa_nonneg (by omega),show q.num.toNat=q.num.natAbs by omega];rfl
 by_cases h1:q.den=1
 ·rw[rs_int h1,if_pos h1,e,List.append_nil]
 ·rw[rs_frac h1,if_neg h1,e]
theorem rs_len {q:Rat} (h:RB 100000 q):(rs q).length≤200003:=by
 have l1:=nb_digits (by decide) h.1;have l2:=nb_digits (by decide) h.2;rw[Int.natAbs_natCast] at l2;rw[rs_sign,List.length_append,List.length_append];split <;> split <;> simp <;> omega
def brf (q:Rat):Bool:=decide ((Lib.decDigits q.num.natAbs).length≤9∧(q.den=1∨(Lib.decDigits q.den).length≤9))
theorem brf_nb {q:Rat} (h:brf q=true):nb 9 q.num∧nb 9 (q.den:Int):=by
 unfold brf at h;rw[decide_eq_true_eq] at h;refine⟨nb9_digits h.1,?_⟩;rcases h.2 with h2|h2
 ·rw[h2];unfold nb;decide
 ·exact nb9_digits (z:=(q.den:Int)) (by rw[Int.natAbs_natCast];exact h2)
theorem quick_from (q:Rat) (h:RB 100000 q) (m:Bool) (hm:m=decide (q.num<0)) (b:Nat) (hb:b≤1) (hd:(rs q).drop b=Lib.decDigits q.num.natAbs++ (if q.den=1 then [] else 47::Lib.decDigits q.den)):
  Eu (fun k=>Y56.l0 k (tR q) 0 0 (b:Int) m (b:Int)) (if brf q=true then(q.num,(q.den:Int),true) else(0,0,false)):=by
 have hlen:=rs_len h;have hne:(Lib.decDigits q.num.natAbs).length≠0:=fun e=>decDigits_ne_nil _ (List.length_eq_zero_iff.1 e)
 have hbl:b+ (Lib.decDigits q.num.natAbs++ (if q.den=1 then [] else 47::Lib.decDigits q.den)).length= (rs q).length:=by
  rw[←hd,List.length_drop];have h1:=congrArg List.length hd;rw[List.length_drop,List.length_append] at h1;omega
 have hs:(if q.den=1 then([]:List UInt8) else 47::Lib.decDigits q.den)= []∨∃D2,(if q.den=1 then([]:List UInt8) else 47::Lib.decDigits q.den)=47::D2:=by
  by_cases h1:q.den=1
  ·exact .inl (if_pos h1)
  ·exact .inr ⟨_,if_neg h1⟩
 have hq:=quick_l0 (rs q) (by omega) _ hs 0 m b (if q.den=1∨(Lib.decDigits q.den).length≤9 then(q.num,(q.den:Int),true) else(0,0,false)) (Lib.decDigits q.num.natAbs) b 0 hd (by omega) (decDigits_isD _) (Nat.le_refl _) (by omega) (Nat.pow_pos (by decide)) (fun h9=>by
  rw[dvF0];refine quick_tail q (rs q) (by omega) _ m hm b (by omega) ?_;by_cases h1:q.den=1
  ·rw[if_pos h1,List.append_nil] at hbl;exact .inl ⟨h1,by omega⟩
  ·rw[if_neg h1,List.length_append,List.length_cons] at hbl;refine .inr ⟨h1,by omega,?_⟩;rw[if_neg h1] at hd;rw[Nat.add_assoc,←List.drop_drop,hd,←List.drop_drop,List.drop_left];rfl)
 refine hq.eq ?_;unfold brf;by_cases h9:(Lib.decDigits q.num.natAbs).length≤9
 ·rw[if_pos (by omega)];by_cases h2:q.den=1∨(Lib.decDigits q.den).length≤9
  ·rw[if_pos h2,if_pos (decide_eq_true ⟨h9,h2⟩)]
  ·rw[if_neg h2,if_neg (by rw[decide_eq_true_eq];exact fun hh=>h2 hh.2)]
 ·rw[if_neg (by omega),if_neg (by rw[decide_eq_true_eq];exact fun hh=>h9 hh.1)]
theorem rquick_ev (q:Rat) (h:RB 100000 q):Eu (fun k=>Y56.f k (tR q)) (if brf q=true then(q.num,(q.den:Int),true) else(0,0,false)):=by
 have hne:(Lib.decDigits q.num.natAbs).length≠0:=fun e=>decDigits_ne_nil _ (List.length_eq_zero_iff.1 e)
 have hlen:0< (rs q).length:=by rw[rs_sign,List.length_append,List.length_append];omega
 unfold Y56.f;have hsz:(tR q).size= (rs q).length:=bs_size _;rw[hsz];refine Eu.ifp (by omega) (Eu.ifp (by omega) (Eu.succ ?_));simp only[Y56.j0];by_cases hneg:q.num<0
 ·have e:rs q=45:: (Lib.decDigits q.num.natAbs++ (if q.den=1 then [] else 47::Lib.decDigits q.den)):=by rw[rs_sign,if_pos hneg];rfl
  have hb:bt (tR q) 0=45:=by unfold tR;rw[e,bt0_bs];rfl
  rw[hb];refine Eu.ifp rfl (Eu.succ ?_);simp only[Y56.j1];exact quick_from q h true (decide_eq_true hneg).symm 1 (Nat.le_refl _) (by rw[e];rfl)
 ·have e:rs q=Lib.decDigits q.num.natAbs++ (if q.den=1 then [] else 47::Lib.decDigits q.den):=by rw[rs_sign,if_neg hneg];rfl
  have hb:(bt (tR q) 0==45)=false:=by
   unfold tR;cases hd:Lib.decDigits q.num.natAbs with
   |nil=>exact absurd hd (decDigits_ne_nil _)
   |cons c r=>
    have hc:=decDigits_isD q.num.natAbs c (by rw[hd];exact List.mem_cons_self);rw[e,hd,List.cons_append,bt0_bs,beq_eq_false_iff_ne];unfold isD at hc;rw[Bool.and_eq_true,decide_eq_true_eq,decide_eq_true_eq] at hc;omega
  rw[hb];refine Eu.ifn (by decide) (Eu.succ ?_);simp only[Y56.j1];exact quick_from q h false (decide_eq_false hneg).symm 0 (by omega) (by rw[List.drop_zero];exact e)
theorem tR_toList (q:Rat):(tR q).toList=rs q:=bs_toList _
theorem tR_zero_iff (q:Rat):(tR q).toList= ([48]:List UInt8)↔q=0:=by rw[tR_toList,rs_eq_zero]
theorem rs_one:rs 1= [49]:=by
 rw[rs_int (by rfl)];show Lib.itoa 1=_;rw[itoa_nonneg (by decide),show(1:Int).toNat=1 from rfl,Lib.decDigits_one (by decide)];rfl
theorem tR_one_iff (q:Rat):(tR q).toList= ([49]:List UInt8)↔q=1:=by
 rw[tR_toList,←rs_one];exact⟨rs_inj,fun e=>by rw[e]⟩
theorem tI_toList_iff (a b:Int):(tI a).toList= (tI b).toList↔a=b:=by
 unfold tI;rw[bs_toList,bs_toList];exact⟨itoa_inj,fun e=>by rw[e]⟩
theorem Bz_mul {x y:Int} (hx:nb 20000 x) (hy:nb 20000 y):nb 40000 (x * y):=nb_mono (nb_mul hx hy) (by decide)
theorem Bz4 {x:Int} (h:nb 40000 x):Bz x:=nb_mono h (by decide)
theorem Bz2 {x:Int} (h:nb 20000 x):Bz x:=nb_mono h (by decide)
theorem nb_add' {k m:Nat} {x y:Int} (hx:nb k x) (hy:nb k y) (h:k+1≤m):nb m (x+y):=nb_mono (nb_add (m:=0) hx hy) h
theorem dd_pos (a b:Rat):(a.den:Int) * (b.den:Int)≠0:=Int.ne_of_gt (Int.mul_pos (den_pos' a) (den_pos' b))
theorem RB5 {q:Rat} (h:RB 20000 q):RB 100000 q:=RB_mono h (by decide)
theorem RAdd_j0 (a b:Rat) (ha:RB 20000 a) (hb:RB 20000 b):Eu (fun k=>Y73.j0 k (tR a) (tR b)) (tR (a+b)):=by
 refine Eu.succ ?_;simp only[Y73.j0];have m1:=Bz_mul ha.1 hb.2;have m2:=Bz_mul hb.1 ha.2;have m3:=Bz_mul ha.2 hb.2;have hadd:nb 40001 (a.num * (b.den:Int)+b.num * (a.den:Int)):=nb_add' m1 m2 (Nat.le_refl _);refine Eu.bindc (Parts_tR a (RB5 ha)) (Eu.bindc (Parts_tR b (RB5 hb)) (Eu.bind (Mul_ev _ _ (Bz2 ha.1) (Bz2 hb.2)) (Eu.bind (Mul_ev _ _ (Bz2 hb.1) (Bz2 ha.2)) (Eu.bind (Add_ev _ _ (Bz4 m1) (Bz4 m2)) (Eu.bind (Mul_ev _ _ (Bz2 ha.2) (Bz2 hb.2)) (Eu.bind (lowest_ev _ _ (dd_pos a b) (nb_mono hadd (by decide)) (Bz4 m3)) ?_))))));rw[add_divInt];exact Eu.some _
theorem nS_mul {x y:Int} (hx:nb 9 x) (hy:nb 9 y):nb 18 (x * y):=nb_mul hx hy
theorem nS_w {z:Int} (h:nS z):wrap64 z=z:=by unfold nS at h;exact w64 (by omega) (by omega)
theorem nS_add {x y:Int} (hx:nb 18 x) (hy:nb 18 y):nS (x+y):=by
 unfold nb at hx hy;have h18:(10:Nat) ^ 18=1000000000000000000:=by decide
 unfold nS;omega
theorem RAdd_ev (a b:Rat) (ha:RB 20000 a) (hb:RB 20000 b):Eu (fun k=>Y73.f k (tR a) (tR b)) (tR (a+b)):=by
 unfold Y73.f;refine Eu.ite (fun h=>?_) (fun h=>Eu.ite (fun h2=>?_) (fun h2=>?_))
 ·rw[(tR_zero_iff a).1 h,Rat.zero_add];exact Eu.some _
 ·rw[(tR_zero_iff b).1 h2,Rat.add_zero];exact Eu.some _
 ·refine Eu.bind (rquick_ev a (RB5 ha)) ?_;by_cases h3:brf a=true
  ·rw[if_pos h3];refine Eu.ifp rfl (Eu.bind (rquick_ev b (RB5 hb)) ?_);by_cases h4:brf b=true
   ·rw[if_pos h4];obtain⟨a1,a2⟩ :=brf_nb h3;obtain⟨b1,b2⟩ :=brf_nb h4;have m1:=nS_mul a1 b2;have m2:=nS_mul b1 a2;have m3:=nS_mul a2 b2;refine Eu.ifp rfl ?_;simp only;rw[nS_w (nS_nb m1),nS_w (nS_nb m2),nS_w (nS_nb m3),nS_w (nS_add m1 m2),add_divInt];exact Eu.bind (small_ev' _ _ (nS_add m1 m2) (Int.mul_pos (den_pos' a) (den_pos' b)) (nS_nb m3)) (Eu.some _)
   ·rw[if_neg h4];exact Eu.ifn (by decide) (RAdd_j0 a b ha hb)
  ·rw[if_neg h3];exact Eu.ifn (by decide) (RAdd_j0 a b ha hb)
theorem RMul_j1 (a b:Rat) (ha:RB 20000 a) (hb:RB 20000 b):Eu (fun k=>Y74.j1 k (tR a) (tR b)) (tR (a * b)):=by
 refine Eu.succ ?_;simp only[Y74.j1];have m1:=Bz_mul ha.1 hb.1;have m3:=Bz_mul ha.2 hb.2;refine Eu.bindc (Parts_tR a (RB5 ha)) (Eu.bindc (Parts_tR b (RB5 hb)) (Eu.bind (Mul_ev _ _ (Bz2 ha.1) (Bz2 hb.1)) (Eu.bind (Mul_ev _ _ (Bz2 ha.2) (Bz2 hb.2)) (Eu.bind (lowest_ev _ _ (dd_pos a b) (Bz4 m1) (Bz4 m3)) ?_))));rw[mul_divInt];exact Eu.some _
theorem tR_zero:tR 0= (⟨#[48]⟩ :ByteArray):=by unfold tR;rw[rs_zero];rfl
theorem RMul_ev (a b:Rat) (ha:RB 20000 a) (hb:RB 20000 b):Eu (fun k=>Y74.f k (tR a) (tR b)) (tR (a * b)):=by
 have hz:a * b=0→Eu (fun k=>Y74.j0 k (tR a) (tR b) true) (tR (a * b)):=by
  intro h;refine Eu.succ ?_;simp only[Y74.j0];refine Eu.ifp trivial ?_;rw[h,tR_zero];exact Eu.some _
 unfold Y74.f;refine Eu.ite (fun h=>?_) (fun h=>?_)
 ·rw[beq_iff_eq.2 h];exact hz (by rw[(tR_zero_iff a).1 h,Rat.zero_mul])
 ·by_cases h2:(tR b).toList= ([48]:List UInt8)
  ·rw[beq_iff_eq.2 h2];exact hz (by rw[(tR_zero_iff b).1 h2,Rat.mul_zero])
  ·rw[beq_eq_false_iff_ne.2 h2];refine Eu.succ ?_;simp only[Y74.j0];refine Eu.ifn (by decide) (Eu.ite (fun h5=>?_) (fun h5=>Eu.ite (fun h6=>?_) (fun h6=>?_)))
   ·rw[(tR_one_iff a).1 h5,Rat.one_mul];exact Eu.some _
   ·rw[(tR_one_iff b).1 h6,Rat.mul_one];exact Eu.some _
   ·refine Eu.bind (rquick_ev a (RB5 ha)) ?_;by_cases h3:brf a=true
    ·rw[if_pos h3];refine Eu.ifp rfl (Eu.bind (rquick_ev b (RB5 hb)) ?_);by_cases h4:brf b=true
     ·rw[if_pos h4];obtain⟨a1,a2⟩ :=brf_nb h3;obtain⟨b1,b2⟩ :=brf_nb h4;have m1:=nS_mul a1 b1;have m3:=nS_mul a2 b2;refine Eu.ifp rfl ?_;simp only;rw[nS_w (nS_nb m1),nS_w (nS_nb m3),mul_divInt];exact Eu.bind (small_ev' _ _ (nS_nb m1) (Int.mul_pos (den_pos' a) (den_pos' b)) (nS_nb m3)) (Eu.some _)
     ·rw[if_neg h4];exact Eu.ifn (by decide) (RMul_j1 a b ha hb)
    ·rw[if_neg h3];exact Eu.ifn (by decide) (RMul_j1 a b ha hb)
theorem rs_head_bt (q:Rat):(bt (tR q) 0=45)↔q.num<0:=by
 have hh:=rs_head_minus (q:=q);unfold tR;cases e:rs q with
 |nil=>exact absurd e (rs_ne_nil q)
 |cons c r=>
  rw[bt0_bs,←hh,e];constructor
  ·intro h;refine⟨r,?_⟩;congr 1;apply UInt8.toNat_inj.1;show c.toNat=45;omega
  ·rintro⟨r',h⟩;obtain⟨rfl,_⟩ :=List.cons.inj h;rfl
theorem rs_pos_len (q:Rat):0< (rs q).length:=List.length_pos_iff.2 (rs_ne_nil q)
theorem RSign_f (q:Rat):Y66.f (tR q)=some (sgn q.num):=by
 have hp:=rs_pos_len q;have hs:(tR q).size= (rs q).length:=bs_size _;unfold Y66.f sgn;by_cases h0:q=0
 ·rw[if_pos ((tR_zero_iff q).2 h0),if_pos (Rat.num_eq_zero.2 h0)]
 ·rw[if_neg (fun e=>h0 ((tR_zero_iff q).1 e)),if_neg (fun e=>h0 (Rat.num_eq_zero.1 e)),hs,if_pos (by omega),if_pos (by omega)];by_cases hneg:q.num<0
  ·rw[if_pos ((rs_head_bt q).2 hneg),if_pos hneg]
  ·rw[if_neg (fun e=>hneg ((rs_head_bt q).1 e)),if_neg hneg]
theorem slash_text {x y:Int} (hx:Bz x) (hy:Bz y):(if(tI x).size+1≤9223372036854775807 then(if((tI x)++ (⟨#[47]⟩ :ByteArray)).size+ (tI y).size≤9223372036854775807 then(some (((tI x)++ (⟨#[47]⟩ :ByteArray))++ (tI y))) else(none)) else(none))=some (bs (Lib.itoa x++47::Lib.itoa y)):=by
 have l1:=itoa_len_lt hx;have l2:=itoa_len_lt hy;have e:tI x++ (⟨#[47]⟩ :ByteArray)=bs (Lib.itoa x++ [47]):=bs_append _ [47];rw[e,tI_size,bs_size,tI_size,if_pos (by omega),if_pos (by rw[List.length_append,List.length_singleton];omega)];unfold tI;rw[bs_append,List.append_assoc];rfl
theorem itoa_join {x y:Int} (hx:nS x) (hy:nS y) (k:Nat):(if y=1 then((Y36.f x).bind fun t=>(some t)) else((Y36.f x).bind fun t=>(if t.size+1≤9223372036854775807 then((Y36.f y).bind fun t2=>(if(t++ (⟨#[47]⟩ :ByteArray)).size+t2.size≤9223372036854775807 then(some ((t++ (⟨#[47]⟩ :ByteArray))++t2)) else(none))) else(none))))=some (bs (joinT x y)):=by
 unfold joinT;rw[Itoa18 hx,Itoa18 hy];by_cases h:y=1
 ·rw[if_pos h,if_pos h];rfl
 ·rw[if_neg h,if_neg h];exact slash_text (nS_Bz hx) (nS_Bz hy)
theorem qsmall_l0 (n d:Int) (hn:nS n) (hd0:0<d) (hd:nS d): ∀(m:Nat) (x y:Int),y.natAbs=m→nS x→0≤x→0≤y→nS y→Int.gcd x y=Int.gcd n d→Eu (fun k=>Y24.l0 k n d x y) (tR (Rat.divInt n d)):=by
 intro m
 induction m using Nat.strongRecOn with
 |ind m ih=>
  intro x y hm hx hx0 hy0 hy hg;refine Eu.succ ?_;simp only[Y24.l0];by_cases h0:y=0
  ·subst h0;rw[Int.gcd_zero_right] at hg;have hgp:=gcd_pos_int (n:=n) (show d≠0 by omega);have hdv1:(Int.gcd n d:Int)∣n:=Int.gcd_dvd_left ..;have hdv2:(Int.gcd n d:Int)∣d:=Int.gcd_dvd_right ..;have hrs:=rs_divInt n d hd0;have hge:x= (Int.gcd n d:Int):=by omega
   rw[←hge] at hgp hdv1 hdv2 hrs;have n1:nS (n / x):=nS_div hn x;have n2:nS (d / x):=nS_div hd x;have e1:wrap64 (Int.tdiv n x)=n / x:=by rw[Int.tdiv_eq_ediv_of_dvd hdv1];exact nS_w n1
   have e2:wrap64 (Int.tdiv d x)=d / x:=by rw[Int.tdiv_eq_ediv_of_dvd hdv2];exact nS_w n2
   rw[e1,e2];refine Eu.ifp rfl (Eu.ifn (by clear e1 e2;omega) ?_);rw[itoa_join n1 n2 0];unfold tR;rw[hrs];exact Eu.some _
  ·have e:(x.tmod y).natAbs=x.natAbs % y.natAbs:=Int.natAbs_tmod x y;have hlt:=Nat.mod_lt x.natAbs (show 0<y.natAbs by omega);have hnn:0≤x.tmod y:=by rw[Int.tmod_eq_emod_of_nonneg hx0];exact Int.emod_nonneg _ h0
   refine Eu.ifn h0 ?_;refine ih _ (by rw[e];omega) y (x.tmod y) rfl hy hy0 hnn ?_ ?_
   ·unfold nS at *;rw[e];omega
   ·rw[←hg];unfold Int.gcd;rw[e,←gcd_step]
theorem qsmall_j0 (n d:Int) (hn:nS n) (hd0:0<d) (hd:nS d):Eu (fun k=>Y24.j0 k n d) (tR (Rat.divInt n d)):=by
 have key: ∀x:Int,x= (n.natAbs:Int)→Eu (fun k=>Y24.j1 k n d x d) (tR (Rat.divInt n d)):=by
  intro x hx;refine Eu.succ ?_;simp only[Y24.j1];refine qsmall_l0 n d hn hd0 hd _ x d rfl (by unfold nS at *;omega) (by omega) (by omega) hd ?_;unfold Int.gcd;rw[hx,Int.natAbs_natCast]
 refine Eu.succ ?_;simp only[Y24.j0];have hn':=hn;unfold nS at hn';refine Eu.ite (fun h=>?_) (fun h=>?_)
 ·rw[w64 (by omega) (by omega)];exact key _ (by omega)
 ·exact key _ (by omega)
theorem Atoi_f {z:Int} (h:(Lib.itoa z).length≤18):Y35.f (tI z)=some (z,none):=by
 unfold Y35.f tI;rw[if_pos (by rw[bs_size];omega),bs_data,atoi_itoa];rfl
theorem qsmall_ev (n d:Int) (hd:d≠0) (h1:(Lib.itoa n).length≤9) (h2:(Lib.itoa d).length≤9):Eu (fun k=>Y24.f k (tI n) (tI d)) (tR (Rat.divInt n d)):=by
 have n1:nS n:=nS_nb (nb_mono (nb_of_length h1) (by decide));have n2:nS d:=nS_nb (nb_mono (nb_of_length h2) (by decide));have n3:nS (-n):=by unfold nS at *;omega
 have n4:nS (-d):=by unfold nS at *;omega
 unfold Y24.f;refine Eu.bindc (Atoi_f (by omega)) (Eu.bindc (Atoi_f (by omega)) (Eu.ite (fun h=>?_) (fun h=>?_)))
 ·simp only;rw[nS_w n3,nS_w n4,←Rat.neg_divInt_neg];exact qsmall_j0 _ _ n3 (by simp only at h;omega) n4
 ·exact qsmall_j0 _ _ n1 (by simp only at h;omega) n2
theorem qFraction_j1 (n d:Int) (hd:0<d) (hn:Bz n) (hdd:Bz d):Eu (fun k=>Y7.j1 k (tI n) (tI d)) (tR (Rat.divInt n d)):=by
 refine Eu.succ ?_;simp only[Y7.j1];refine Eu.bind (rGcd_ev n d hn hdd) ?_;have hg:=gcd_pos_int (n:=n) (show d≠0 by omega);have hgB:=Bz_gcd (n:=n) (show d≠0 by omega) hdd;unfold tR;rw[rs_divInt n d hd];generalize (Int.gcd n d:Int)=g at *;refine Eu.bind (rDivMod_ev n g (by omega) hn hgB) (Eu.bind (rDivMod_ev d g (by omega) hdd hgB) ?_);unfold joinT;by_cases h:d / g=1
 ·rw[if_pos h];exact Eu.ifp ((toList49 _).2 h) (Eu.some _)
 ·rw[if_neg h];refine Eu.ifn (fun e=>h ((toList49 _).1 e)) ?_;simp only;rw[slash_text (nb_div hn g) (nb_div hdd g)];exact Eu.some _
theorem qFraction_ev (n d:Int) (hd:d≠0) (hn:Bz n) (hdd:Bz d):Eu (fun k=>Y7.f k (tI n) (tI d)) (tR (Rat.divInt n d)):=by
 have big:Eu (fun k=>Y7.j0 k (tI n) (tI d) false) (tR (Rat.divInt n d)):=by
  refine Eu.succ ?_;simp only[Y7.j0];refine Eu.ifn (by decide) (Eu.bindc (rSign_f d) (Eu.ite (fun h=>?_) (fun h=>?_)))
  ·have h2:d<0:=by
    apply Classical.byContradiction;intro hh;unfold sgn at h;rw[if_neg hd,if_neg hh] at h;exact absurd h (by decide)
   refine Eu.bindc (rNeg_f n hn) (Eu.bindc (rNeg_f d hdd) ?_);rw[←Rat.neg_divInt_neg];exact qFraction_j1 (-n) (-d) (by omega) (nb_neg hn) (nb_neg hdd)
  ·have h2: ¬d<0:=by
    intro hh;unfold sgn at h;rw[if_neg hd,if_pos hh] at h;exact h (by decide)
   exact qFraction_j1 n d (by omega) hn hdd
 unfold Y7.f;rw[tI_size,tI_size];refine Eu.ite (fun h1=>?_) (fun _=>big);by_cases h2:((Lib.itoa d).length:Int)≤9
 ·rw[decide_eq_true h2];refine Eu.succ ?_;simp only[Y7.j0];exact Eu.ifp trivial (Eu.bind (qsmall_ev n d hd (by omega) (by omega)) (Eu.some _))
 ·rw[decide_eq_false h2];exact big
end Go.Proofs.YtnfgokmecllpbaaGreatDoor.Print
end
section
namespace Go.Klippe
open Go.Lib
def canonEnd (m:Bool):List UInt8→Bool
 | []=>false
 |c::r=>if c=48 then !m && r.isEmpty else true
theorem canonEnd_cons (m:Bool) (c:UInt8) (r:List UInt8):canonEnd m (c::r)= (if c=48 then !m && r.isEmpty else true):=rfl
def right01 (l:List UInt8):Bool:=
 match l with
 | []=>false
 |c::r=>if c=45 then r.all isD && canonEnd true r && decide (r.length≤200) else(c::r).all isD && canonEnd false (c::r) && decide ((c::r).length≤200)
theorem canon_dec {m:Bool} {s:List UInt8} (h1:s.all isD=true) (h2:canonEnd m s=true):decDigits (dv s)=s:=by
 cases s with
 |nil=>simp[canonEnd] at h2
 |cons c r=>
  refine decDigits_dv (c::r) (fun b hb=>List.all_eq_true.1 h1 b hb) c r rfl ?_;rw[canonEnd_cons] at h2;by_cases hc:c=48
  ·rw[if_pos hc] at h2;right;cases r with
   |nil=>rfl
   |cons _ _=>simp at h2
  ·left;intro e;exact hc (UInt8.toNat_inj.1 e)
theorem canon_pos {s:List UInt8} (h1:s.all isD=true) (h2:canonEnd true s=true):dv s≠0:=by
 intro e;have h3:=canon_dec h1 h2;rw[e,decDigits_zero] at h3;rw[←h3] at h2
 revert h2;decide
theorem nb_dv {s:List UInt8} (h1:s.all isD=true) (hl:s.length≤200):dv s<10 ^ 200:=
 Nat.lt_of_lt_of_le (dv_lt s (fun b hb=>List.all_eq_true.1 h1 b hb)) (Nat.pow_le_pow_right (by decide) hl)
theorem right01_int {l:List UInt8} (h:right01 l=true): ∃z:Int,l=itoa z∧nb 200 z:=by
 cases l with
 |nil=>simp[right01] at h
 |cons c r=>
  unfold right01 at h;simp only at h;by_cases hc:c=45
  ·rw[if_pos hc,Bool.and_eq_true,Bool.and_eq_true,decide_eq_true_eq] at h;obtain⟨⟨h1,h2⟩,h3⟩ :=h;have h4:=canon_pos h1 h2;refine⟨-(dv r:Int),?_,?_⟩
   ·rw[itoa_neg (by omega),Int.natAbs_neg,Int.natAbs_natCast,canon_dec h1 h2,hc]
   ·unfold nb;rw[Int.natAbs_neg,Int.natAbs_natCast];exact nb_dv h1 h3
  ·rw[if_neg hc,Bool.and_eq_true,Bool.and_eq_true,decide_eq_true_eq] at h;obtain⟨⟨h1,h2⟩,h3⟩ :=h;refine⟨(dv (c::r):Int),?_,?_⟩
   ·rw[itoa_nonneg (by omega),Int.toNat_natCast,canon_dec h1 h2]
   ·unfold nb;rw[Int.natAbs_natCast];exact nb_dv h1 h3
theorem right01_tI {z:Int} (h:nb 200 z):right01 (itoa z)=true:=by
 have hd:=nb_digits (by decide) h;have hall:(decDigits z.natAbs).all isD=true:=List.all_eq_true.2 (decDigits_isD _);by_cases hz:z<0
 ·rw[itoa_neg hz];unfold right01;simp only;rw[if_pos trivial,Bool.and_eq_true,Bool.and_eq_true,decide_eq_true_eq];refine⟨⟨hall,?_⟩,hd⟩;obtain⟨b,r,e,h1,h2⟩ :=decDigits_head z.natAbs (by omega);rw[e];rw[canonEnd_cons];rw[if_neg];intro hb;rw[hb] at h1
  revert h1;decide
 ·rw[itoa_nonneg (by omega),show z.toNat=z.natAbs by omega];cases e:decDigits z.natAbs with
  |nil=>exact absurd e (decDigits_ne_nil _)
  |cons c r=>
   rw[e] at hall hd;unfold right01;simp only;have hc: ¬c=45:=by intro hh;rw[hh] at e;exact head_not_minus _ r e
   rw[if_neg hc,Bool.and_eq_true,Bool.and_eq_true,decide_eq_true_eq];refine⟨⟨hall,?_⟩,hd⟩;rw[canonEnd_cons];by_cases h48:c=48
   ·rw[if_pos h48];by_cases h0:z.natAbs=0
    ·rw[h0,decDigits_zero] at e;obtain⟨_,rfl⟩ :=List.cons.inj e;rfl
    ·obtain⟨b,r',e2,h1,h2⟩ :=decDigits_head z.natAbs h0;rw[e] at e2;obtain⟨rfl,_⟩ :=List.cons.inj e2;rw[h48] at h1;exact absurd h1 (by decide)
   ·rw[if_neg h48]
end Go.Klippe
namespace Go.Proofs.YtnfgokmecllpbaaGreatDoor.Print
open Go.RowKit Go.Klippe Go.Proofs.YtnfgokmecllpbaaGreatDoorW.PrintWords Go.Proofs.YtnfgokmecllpbaaGreatDoorW.PrintLast Go.Proofs.YtnfgokmecllpbaaGreatDoorW.PrintMore
theorem isD_bt {c:UInt8}:isD c=true↔¬(c.toNat:Int)<48∧¬(c.toNat:Int) > 57:=by
 unfold isD;rw[Bool.and_eq_true,decide_eq_true_eq,decide_eq_true_eq];omega
theorem canon_l0 (m:Bool) (s:List UInt8) (hl:s.length<1000000000000): ∀(n i:Nat),s.length - i=n→i≤s.length→Eu (fun k=>Y2.l0 k m (bs s) (i:Int)) ((s.drop i).all isD && canonEnd m s):=by
 intro n
 induction n with
 |zero=>
  intro i hn hi;have hie:i=s.length:=by omega
  rw[List.drop_eq_nil_of_le (by omega),List.all_nil,Bool.true_and];refine Eu.succ ?_;simp only[Y2.l0];rw[bs_size];refine Eu.ifn (by omega) ?_;cases s with
  |nil=>exact Eu.ifp rfl (Eu.some _)
  |cons c r=>
   rw[List.length_cons];refine Eu.ifn (by omega) (Eu.ifp (by omega) ?_);rw[bt0_bs];rw[canonEnd_cons];by_cases hc:c=48
   ·rw[if_pos hc];refine Eu.ifp (by rw[hc];rfl) ?_;cases m with
    |true=>exact Eu.ifp rfl (Eu.some _)
    |false=>
     refine Eu.ifn (by decide) ?_;cases r with
     |nil=>exact Eu.ifn (by decide) (Eu.some _)
     |cons d r=>exact Eu.ifp (by rw[List.length_cons];omega) (Eu.some _)
   ·rw[if_neg hc];refine Eu.ifn ?_ (Eu.some _);intro e;apply hc;apply UInt8.toNat_inj.1;show c.toNat=48;omega
 |succ n ih=>
  intro i hn hi;have hil:i<s.length:=by omega
  rw[List.drop_eq_getElem_cons hil,List.all_cons];have hbt:=bt_bs hil;refine Eu.succ ?_;simp only[Y2.l0];rw[bs_size,hbt];refine Eu.ifp (by omega) (Eu.ifp (by omega) (Eu.ite (fun h1=>?_) (fun h1=>Eu.ite (fun h2=>?_) (fun h2=>?_))))
  ·have:isD s[i]=false:=by
    rw[Bool.eq_false_iff];intro h;exact(isD_bt.1 h).1 h1
   rw[this];exact Eu.some _
  ·have:isD s[i]=false:=by
    rw[Bool.eq_false_iff];intro h;exact(isD_bt.1 h).2 h2
   rw[this];exact Eu.some _
  ·rw[isD_bt.2 ⟨h1,h2⟩,Bool.true_and,w64_succ (by omega)];exact ih (i+1) (by omega) hil
theorem rRight_ev (l:List UInt8) (hl:l.length<1000000000000):Eu (fun k=>Y14.f k (bs l)) (right01 l):=by
 have key: ∀(m:Bool) (s:List UInt8),s.length<1000000000000→Y16.f (bs l)=some (m,bs s)→Eu (fun k=>Y14.f k (bs l)) (s.all isD && canonEnd m s && decide (s.length≤200)):=by
  intro m s hs h;have hc:=canon_l0 m s hs s.length 0 (by omega) (Nat.zero_le _);rw[List.drop_zero] at hc;unfold Y14.f Y2.f;rw[h];refine Eu.bindc rfl (Eu.bind (a:=s.all isD && canonEnd m s) (Eu.bindc rfl hc) (Eu.ite (fun h1=>?_) (fun h1=>?_)))
  ·rw[h1,Bool.true_and,bs_size];refine(Eu.some _).eq ?_;exact decide_eq_decide.2 (by omega)
  ·rw[Bool.not_eq_true] at h1;rw[h1,Bool.false_and];exact Eu.some _
 cases l with
 |nil=>exact key false [] (by simp) (Split_no (by simp))
 |cons c r=>
  by_cases hc:c=45
  ·subst hc;have:=key true r (by simp at hl;omega) (Split_yes r);unfold right01;simp only;rw[if_pos trivial];exact this
  ·have:=key false (c::r) hl (Split_no (by rw[List.head?_cons];intro e;exact hc (Option.some.inj e)));unfold right01;simp only;rw[if_neg hc];exact this
theorem slash_cases (l:List UInt8):(∀b∈l,b≠47)∨∃a b,l=a++47::b∧∀x∈a,x≠47:=by
 induction l with
 |nil=>exact .inl (by intro b hb;simp at hb)
 |cons c r ih=>
  by_cases hc:c=47
  ·exact .inr ⟨[],r,by rw[hc];rfl,by intro x hx;simp at hx⟩
  ·rcases ih with h| ⟨a,b,e,h⟩
   ·refine .inl (fun x hx=>?_);rcases List.mem_cons.1 hx with rfl|hx
    ·exact hc
    ·exact h x hx
   ·refine .inr ⟨c::a,b,by rw[e];rfl,fun x hx=>?_⟩;rcases List.mem_cons.1 hx with rfl|hx
    ·exact hc
    ·exact h x hx
def rightQ (n d:Int):Bool:=decide (0<d - 1) && !decide (n=0) && decide (Int.gcd n d=1)
theorem Bz200 {z:Int} (h:nb 200 z):Bz z:=nb_mono h (by decide)
theorem nb_one:nb 200 1:=by unfold nb;exact Nat.lt_of_lt_of_le (by decide:(1:Int).natAbs<10) (Nat.le_self_pow (by decide) 10)
theorem sgn_pos {z:Int}:sgn z > 0↔0<z:=by unfold sgn;split <;> (try split) <;> omega
theorem qRight_j0 (x:ByteArray) (t:Int) (hx:Y27.f x 47=some t) (ht: ¬t<0) (n d:Int) (hn:nb 200 n) (hd:nb 200 d):Eu (fun k=>Y22.j0 k x (tI n) (tI d) false) (rightQ n d):=by
 refine Eu.succ ?_;simp only[Y22.j0];refine Eu.ifn (by decide) (Eu.bindc hx (Eu.ifn ht ?_));rw[lit49];refine Eu.bind (rCompare_ev d 1 (Bz200 hd) (Bz200 nb_one)) ?_;unfold rightQ;refine Eu.ite (fun h1=>?_) (fun h1=>?_)
 ·rw[decide_eq_true (sgn_pos.1 h1)];refine Eu.ite (fun h2=>?_) (fun h2=>?_)
  ·rw[decide_eq_true ((tI_toList_zero n).1 h2)];exact Eu.some _
  ·rw[decide_eq_false (fun e=>h2 ((tI_toList_zero n).2 e))];refine Eu.bind (rGcd_ev n d (Bz200 hn) (Bz200 hd)) ((Eu.some _).eq ?_);have e:((tI (Int.gcd n d:Int)).toList== ([49]:List UInt8))=decide (Int.gcd n d=1):=by
    rw[Bool.eq_iff_iff,beq_iff_eq,toList49,decide_eq_true_eq];omega
   rw[e];rfl
 ·rw[decide_eq_false (fun e=>h1 (sgn_pos.2 e))];exact Eu.some _
theorem rightQ_rat {n d:Int} (hn:nb 200 n) (hd:nb 200 d) (h:rightQ n d=true): ∃q:Rat,Lib.itoa n++47::Lib.itoa d=rs q∧RB 200 q∧q.num=n∧(q.den:Int)=d:=by
 unfold rightQ at h;rw[Bool.and_eq_true,Bool.and_eq_true,decide_eq_true_eq,decide_eq_true_eq] at h;obtain⟨⟨h1,h2⟩,h3⟩ :=h;have hd0:0<d:=by omega
 refine⟨Rat.divInt n d,?_,RB_divInt hd0 hn hd,?_,?_⟩
 ·rw[rs_divInt n d hd0,h3,show((1:Nat):Int)=1 from rfl,Int.ediv_one,Int.ediv_one];unfold joinT;rw[if_neg (by omega)]
 ·rw[num_divInt' n d hd0,h3,show((1:Nat):Int)=1 from rfl,Int.ediv_one]
 ·rw[den_divInt' n d hd0,h3,show((1:Nat):Int)=1 from rfl,Int.ediv_one]
theorem rs_ofInt (z:Int):Lib.itoa z=rs (z:Rat):=(rs_int (q:=(z:Rat)) rfl).symm
theorem RB_ofInt {z:Int} (h:nb 200 z):RB 200 (z:Rat):= ⟨h,nb_one⟩
def right02 (l:List UInt8) (r:Bool):Prop:=
 ((∀b∈l,b≠47)∧r=right01 l)∨∃a b,l=a++47::b∧(∀x∈a,x≠47)∧((r=false∧(right01 a && right01 b)=false)∨∃n d:Int,a=Lib.itoa n∧b=Lib.itoa d∧nb 200 n∧nb 200 d∧r=rightQ n d)
theorem qRight_ev (l:List UInt8) (hl:l.length<4294967281): ∃r,Eu (fun k=>Y22.f k (bs l)) r∧right02 l r:=by
 unfold Y22.f;rcases slash_cases l with h| ⟨a,b,e,h⟩
 ·refine⟨right01 l,?_,.inl ⟨h,rfl⟩⟩;have hix:Y27.f (bs l) 47=some (-1):=by
   unfold Y27.f;rw[bs_data,show(47:Int).toNat.toUInt8=47 from rfl,indexByte_none h]
  have h1:Eu (fun k=>Y14.f k (tI 1)) true:=by
   have:=rRight_ev (Lib.itoa 1) (by have:=itoa_len_lt (Bz200 nb_one);omega);rw[right01_tI nb_one] at this;exact this
  refine Eu.bindc (rParts_no h) (Eu.bind (rRight_ev l (by omega)) (Eu.ite (fun h2=>?_) (fun h2=>?_)))
  ·refine Eu.bind h1 (Eu.succ ?_);simp only[Y22.j0];refine Eu.ifn (by decide) (Eu.bindc hix (Eu.ifp (by decide) ?_));rw[h2];exact Eu.some _
  ·rw[Bool.not_eq_true] at h2;rw[h2];refine Eu.succ ?_;simp only[Y22.j0];exact Eu.ifp trivial (Eu.some _)
 ·have hla:a.length<1000000000000:=by rw[e,List.length_append,List.length_cons] at hl;omega
  have hlb:b.length<1000000000000:=by rw[e,List.length_append,List.length_cons] at hl;omega
  have hP:=rParts_yes b h (by rw[←e];exact hl);rw[←e] at hP;by_cases h1:(right01 a && right01 b)=true
  ·rw[Bool.and_eq_true] at h1;obtain⟨n,en,hn⟩ :=right01_int h1.1;obtain⟨d,ed,hd⟩ :=right01_int h1.2;refine⟨rightQ n d,?_,.inr ⟨a,b,e,h,.inr ⟨n,d,en,ed,hn,hd,rfl⟩⟩⟩;have hra:=rRight_ev a hla;have hrb:=rRight_ev b hlb;rw[h1.1] at hra;rw[h1.2] at hrb;refine Eu.bindc hP (Eu.bind hra (Eu.ifp rfl (Eu.bind hrb ?_)));have hix:Y27.f (bs l) 47=some (a.length:Int):=by
    unfold Y27.f;rw[bs_data,show(47:Int).toNat.toUInt8=47 from rfl,e,indexByte_at b h]
   have hj:=qRight_j0 (bs l) (a.length:Int) hix (by omega) n d hn hd;unfold tI at hj;rw[←en,←ed] at hj;exact hj
  ·rw[Bool.not_eq_true] at h1;refine⟨false,?_,.inr ⟨a,b,e,h,.inl ⟨rfl,h1⟩⟩⟩;have hf:Eu (fun k=>Y22.j0 k (bs l) (bs a) (bs b) true) false:=by
    refine Eu.succ ?_;simp only[Y22.j0];exact Eu.ifp trivial (Eu.some _)
   refine Eu.bindc hP (Eu.bind (rRight_ev a hla) (Eu.ite (fun h2=>?_) (fun h2=>hf)));rw[h2,Bool.true_and] at h1;have hrb:=rRight_ev b hlb;rw[h1] at hrb;exact Eu.bind hrb hf
theorem right02_rat {l:List UInt8} (h:right02 l true): ∃q:Rat,l=rs q∧RB 200 q:=by
 rcases h with ⟨_,h⟩ | ⟨a,b,e,_,h| ⟨n,d,en,ed,hn,hd,hr⟩⟩
 ·obtain⟨z,ez,hz⟩ :=right01_int h.symm;exact⟨(z:Rat),ez.trans (rs_ofInt z),RB_ofInt hz⟩
 ·exact absurd h.1 (by decide)
 ·obtain⟨q,eq,hq,_⟩ :=rightQ_rat hn hd hr.symm;exact⟨q,by rw[e,en,ed,eq],hq⟩
end Go.Proofs.YtnfgokmecllpbaaGreatDoor.Print
end
section
namespace Go.Klippe
open Go.Lib
theorem floor_neg (x d:Int) (hx:x<0) (hd:0<d):x / d= (if(-x) % d=0 then -((-x) / d) else -((-x) / d+1)):=by
 obtain⟨h1,h2⟩ :=divmod_neg (-x).toNat d.toNat (by omega);have e1:(((-x).toNat:Nat):Int)= -x:=by omega
 have e2:((d.toNat:Nat):Int)=d:=by omega
 have e3:(((-x).toNat / d.toNat:Nat):Int)= (-x) / d:=by rw[Int.natCast_ediv,e1,e2]
 have e4:(((-x).toNat % d.toNat:Nat):Int)= (-x) % d:=by rw[Int.natCast_emod,e1,e2]
 rw[e1,e2,Int.neg_neg] at h1;rw[h1];by_cases h:(-x).toNat % d.toNat=0
 ·rw[if_pos h,if_pos (by omega),e3]
 ·rw[if_neg h,if_neg (by omega),Int.natCast_add,e3];rfl
theorem pad_zero (k:Nat):pad k 0=List.replicate k 48:=by
 induction k with
 |zero=>rfl
 |succ k ih=>rw[pad_succ,Nat.zero_div,ih,List.replicate_succ'];rfl
theorem decDigits_pow (p:Nat):decDigits (10 ^ p)=49::List.replicate p 48:=by
 have h:=decDigits_join p 1 0 (by decide) (Nat.pow_pos (by decide));have h1:decDigits 1= [49]:=by rw[decDigits_one (by decide)];rfl
 rw[Nat.one_mul,Nat.add_zero,pad_zero,h1] at h;exact h
theorem repeat_zero (n:Nat):repeatL [48] n=List.replicate n 48:=by
 induction n with
 |zero=>rfl
 |succ n ih=>rw[repeatL,ih,List.replicate_succ];rfl
theorem trim_digits: ∀(s:List UInt8),(∀b∈s,isD b=true)→(if s.dropWhile (·==48)= [] then [48] else s.dropWhile (·==48))=decDigits (dv s)
 | [],_=>by rw[show dv []=0 from rfl,decDigits_zero];rfl
 |c::r,h=>by
  have ih:=trim_digits r (fun b hb=>h b (List.mem_cons_of_mem _ hb));by_cases hc:c=48
  ·subst hc;have e:dv (48::r)=dv r:=by rw[dv_cons];simp[dd]
   rw[e,←ih];simp
  ·rw[List.dropWhile_cons_of_neg (by simpa using hc),if_neg (by simp)];exact(decDigits_dv (c::r) h c r rfl (.inl (fun e=>hc (UInt8.toNat_inj.1 e)))).symm
def halfQ:Rat:=Rat.divInt 1 2
theorem rs_half:rs halfQ= [49,47,50]:=by
 unfold halfQ;rw[rs_divInt 1 2 (by decide)];have hg:Int.gcd 1 2=1:=by decide
 rw[hg,show((1:Nat):Int)=1 from rfl,Int.ediv_one,Int.ediv_one];unfold joinT;rw[if_neg (by decide),itoa_nonneg (by decide),itoa_nonneg (by decide),show(1:Int).toNat=1 from rfl,show(2:Int).toNat=2 from rfl,decDigits_one (by decide),decDigits_one (by decide)];rfl
theorem nb_small {z:Int} {k:Nat} (hk:1≤k) (h:z.natAbs<10):nb k z:=Nat.lt_of_lt_of_le h (Nat.le_self_pow (by omega) 10)
theorem RB_half:RB 1 halfQ:=RB_divInt (by decide) (nb_small (by decide) (by decide)) (nb_small (by decide) (by decide))
def decT0 (n:Int) (p:Nat):List UInt8:=List.replicate (p+1 - (decDigits n.natAbs).length) 48++decDigits n.natAbs
def decT (n:Int) (p:Nat):List UInt8:=(if n<0 then [45] else [])++ (if p=0 then decT0 n p else(decT0 n p).take ((decT0 n p).length - p)++46:: (decT0 n p).drop ((decT0 n p).length - p))
theorem decT0_len (n:Int) (p:Nat):p< (decT0 n p).length:=by
 unfold decT0;rw[List.length_append,List.length_replicate];omega
theorem decT0_le (n:Int) (p:Nat):(decT0 n p).length≤p+1+ (decDigits n.natAbs).length:=by
 unfold decT0;rw[List.length_append,List.length_replicate];omega
end Go.Klippe
namespace Go.Proofs.YtnfgokmecllpbaaGreatDoor.Print
open Go.RowKit Go.Klippe Go.Proofs.YtnfgokmecllpbaaGreatDoorW.PrintWords Go.Proofs.YtnfgokmecllpbaaGreatDoorW.PrintLast Go.Proofs.YtnfgokmecllpbaaGreatDoorW.PrintMore
theorem lit_half:(⟨#[49,47,50]⟩ :ByteArray)=tR halfQ:=by unfold tR;rw[rs_half];rfl
theorem Bz_succ {z:Int} (h:nb 50000 z):Bz (z+1):=nb_add' (k:=50000) h (nb_small (by decide) (by decide)) (by decide)
theorem RFloor_ev (q:Rat) (h:RB 50000 q):Eu (fun k=>Y51.f k (tR q)) (tI q.floor):=by
 have h5:RB 100000 q:=RB_mono h (by decide);have hd:=den_pos' q;rw[Rat.floor_def];unfold Y51.f;refine Eu.bindc (Parts_tR q h5) (Eu.bindc (Sign_f _) (Eu.ite (fun h1=>?_) (fun h1=>?_)))
 ·exact Eu.bind (DivMod_ev _ _ (by omega) h5.1 h5.2) (Eu.some _)
 ·have hneg:q.num<0:=by
   apply Classical.byContradiction;intro hh;apply h1;unfold sgn;split <;> (try split) <;> omega
  have hf:=floor_neg q.num (q.den:Int) hneg hd;refine Eu.bindc (Neg_f _ h5.1) (Eu.bind (DivMod_ev _ _ (by omega) (nb_neg h5.1) h5.2) (Eu.ite (fun h2=>?_) (fun h2=>?_)))
  ·have h3:(-q.num) % (q.den:Int)=0:=(tI_toList_zero _).1 h2;rw[if_pos h3] at hf;refine Eu.bindc (Neg_f _ (nb_div (nb_neg h5.1) _)) ?_;rw[hf];exact Eu.some _
  ·have h3: ¬(-q.num) % (q.den:Int)=0:=fun e=>h2 ((tI_toList_zero _).2 e)
   rw[if_neg h3] at hf;rw[lit49];refine Eu.bind (Add_ev _ 1 (nb_div (nb_neg h5.1) _) (Bz200 nb_one)) (Eu.bindc (Neg_f _ (Bz_succ (nb_div (nb_neg h.1) _))) ?_);rw[hf];exact Eu.some _
def nearQ (q:Rat):Int:=(q+halfQ).floor
theorem RB_nearadd {k:Nat} {q:Rat} (h:RB k q):RB (k+2) (q+halfQ):=RB_add h RB_half
theorem RB_half2:RB 20000 halfQ:=RB_mono RB_half (by decide)
theorem nearest_ev (q:Rat) (h:RB 20000 q):Eu (fun k=>Y34.f k (tR q)) (tI (nearQ q)):=by
 unfold Y34.f;rw[lit_half];exact Eu.bind (RAdd_ev _ _ h RB_half2) (Eu.bind (RFloor_ev _ (RB_mono (RB_nearadd h) (by decide))) (Eu.some _))
theorem nb_near {k:Nat} {q:Rat} (h:RB k q):nb (k+2) (nearQ q):=by
 unfold nearQ;rw[Rat.floor_def];exact nb_div (RB_nearadd h).1 _
def tenQ (p:Nat):Rat:=(((10 ^ p:Nat):Int):Rat)
theorem tR_ten (p:Nat):tR (tenQ p)=bs (49::List.replicate p 48):=by
 unfold tR tenQ;rw[←rs_ofInt,itoa_nonneg (Int.natCast_nonneg _),Int.toNat_natCast,decDigits_pow]
theorem RB_ten {p:Nat} (h:p≤12):RB 13 (tenQ p):=by
 refine⟨?_,show nb 13 1 from nb_small (by decide) (by decide)⟩;show((10 ^ p:Nat):Int).natAbs<10 ^ 13;rw[Int.natAbs_natCast];exact Nat.pow_lt_pow_right (by decide) (by omega)
theorem Repeat_f (p:Nat) (h:p<1000000):Y58.f (⟨#[48]⟩ :ByteArray) (p:Int)=some (bs (List.replicate p 48)):=by
 unfold Y58.f;have e:(⟨#[48]⟩ :ByteArray).size=1:=rfl;rw[e,Int.toNat_natCast,if_pos ⟨by omega,by omega,by omega⟩];show some (bs (Lib.repeatL [48] p))=_;rw[repeat_zero]
theorem power_f (p:Nat) (h:p≤12):Y55.f (p:Int)=some (tR (tenQ p)):=by
 unfold Y55.f;rw[Repeat_f p (by omega)];show(if 1+ (bs (List.replicate p 48)).size≤9223372036854775807 then some ((⟨#[49]⟩ :ByteArray)++bs (List.replicate p 48)) else none)=_;rw[bs_size,List.length_replicate,if_pos (by omega),tR_ten];have:(⟨#[49]⟩ :ByteArray)=bs [49]:=rfl;rw[this,bs_append];rfl
theorem lit_empty:(⟨#[]⟩ :ByteArray)=bs []:=rfl
theorem lit_dot:(⟨#[46]⟩ :ByteArray)=bs [46]:=rfl
theorem Decimal_j1 (n:Int) (p:Nat) (hp:p≤12) (hn:nb 1000 n):Eu (fun k=>Y33.j1 k (p:Int) (tI n) (bs (decT0 n p))) (bs (decT n p),0):=by
 have hl:=decT0_len n p;have hl2:=decT0_le n p;have hd:=nb_digits (by decide) hn;have hw:wrap64 (((decT0 n p).length:Int) - (p:Int))= (((decT0 n p).length - p:Nat):Int):=by rw[w64 (by omega) (by omega)];omega
 refine Eu.succ ?_;simp only[Y33.j1];refine Eu.bindc (Sign_f n) ?_;rw[bs_size,hw,Int.toNat_natCast,bs_extract0,bs_extract_end,minus_lit,lit_empty,lit_dot];clear hw;have hs:(sgn n<0)↔n<0:=by unfold sgn;split <;> (try split) <;> omega
 unfold decT;by_cases h0:p=0
 ·refine Eu.ite (fun h1=>?_) (fun h1=>?_)
  ·rw[if_pos (hs.1 h1),if_pos h0];refine Eu.ifp (by omega) (Eu.ifp (by omega) ?_);rw[bs_append];exact Eu.some _
  ·rw[if_neg (fun e=>h1 (hs.2 e)),if_pos h0];refine Eu.ifp (by omega) (Eu.ifp (by omega) ?_);rw[bs_append];exact Eu.some _
 ·have f1:((decT0 n p).take ((decT0 n p).length - p)).length≤2000:=by rw[List.length_take];omega
  have f2:((decT0 n p).drop ((decT0 n p).length - p)).length≤2000:=by rw[List.length_drop];omega
  refine Eu.ite (fun h1=>?_) (fun h1=>?_)
  ·rw[if_pos (hs.1 h1),if_neg h0];simp only[bs_append,bs_size];refine Eu.ifn (by omega) (Eu.ifp (by omega) (Eu.ifp (by omega) (Eu.ifp (by omega) (Eu.ifp (by rw[List.length_append,List.length_singleton];omega) (Eu.ifp (by rw[List.length_append,List.length_append,List.length_singleton,List.length_singleton];omega) ?_)))));refine(Eu.some _).eq ?_;rw[List.append_assoc,List.append_assoc];rfl
  ·rw[if_neg (fun e=>h1 (hs.2 e)),if_neg h0];simp only[bs_append,bs_size];refine Eu.ifn (by omega) (Eu.ifp (by omega) (Eu.ifp (by omega) (Eu.ifp (by omega) (Eu.ifp (by rw[List.length_append,List.length_nil];omega) (Eu.ifp (by rw[List.length_append,List.length_append,List.length_nil,List.length_singleton];omega) ?_)))));refine(Eu.some _).eq ?_;rw[List.append_assoc,List.append_assoc];rfl
theorem RB_scaled {x:Rat} {p:Nat} (hp:p≤12) (h:RB 200 x):RB 213 (x * tenQ p):=RB_mul h (RB_ten hp)
theorem Decimal_ev (x:Rat) (p:Nat) (hp:p≤12) (h:RB 200 x):Eu (fun k=>Y33.f k (tR x) (p:Int)) (bs (decT (nearQ (x * tenQ p)) p),0):=by
 have hn:nb 1000 (nearQ (x * tenQ p)):=nb_mono (nb_near (RB_scaled hp h)) (by decide);have hd:=nb_digits (by decide) hn;unfold Y33.f;rw[show decide ((p:Int) > 12)=false from decide_eq_false (by omega)];refine Eu.ifn (by omega) (Eu.succ ?_);simp only[Y33.j0];refine Eu.ifn (by decide) (Eu.bindc (power_f p hp) (Eu.bind (RMul_ev _ _ (RB_mono h (by decide)) (RB_mono (RB_ten hp) (by decide))) (Eu.bind (nearest_ev _ (RB_mono (RB_scaled hp h) (by decide))) (Eu.bindc (Abs_f _) ?_))));have hj:=Decimal_j1 (nearQ (x * tenQ p)) p hp hn;rw[tI_nat,bs_size];unfold decT0 at hj;generalize nearQ (x * tenQ p)=n at *;refine Eu.ite (fun h1=>?_) (fun h1=>?_)
 ·have hw:wrap64 ((wrap64 ((p:Int)+1)) - ((Lib.decDigits n.natAbs).length:Int))= ((p+1 - (Lib.decDigits n.natAbs).length:Nat):Int):=by
   rw[w64 (z:=(p:Int)+1) (by omega) (by omega),w64 (by omega) (by omega)];omega
  rw[hw];clear hw;refine Eu.bindc (Repeat_f _ (by omega)) (Eu.ifp (by rw[bs_size,List.length_replicate];omega) ?_);rw[bs_append];exact hj
 ·rw[show p+1 - (Lib.decDigits n.natAbs).length=0 by omega,List.replicate_zero,List.nil_append] at hj;exact hj
theorem ROf_ev (n d:Int) (hn:-9223372036854775808≤n∧n<9223372036854775808) (hd:-9223372036854775808≤d∧d<9223372036854775808) (h0:d≠0):Eu (fun k=>Y81.f k n d) (tR (Rat.divInt n d),0):=by
 have h19:(10:Nat) ^ 19=10000000000000000000:=by decide
 have c1:nb 19 n:=by unfold nb;omega
 have c2:nb 19 d:=by unfold nb;omega
 have b1:Bz n:=nb_mono c1 (by decide);have b2:Bz d:=nb_mono c2 (by decide);unfold Y81.f;refine Eu.bindc (show Y83.f n=some (tI n) by unfold Y83.f;rw[Itoa_f hn.1 hn.2];rfl) (Eu.bindc (show Y83.f d=some (tI d) by unfold Y83.f;rw[Itoa_f hd.1 hd.2];rfl) ?_);refine Eu.bind (a:=(tR (Rat.divInt n d),0)) ?_ (Eu.some _);unfold Y75.f;exact Eu.bindc (Sign_f d) (Eu.ifn (by unfold sgn;rw[if_neg h0];split <;> decide) (Eu.bind (lowest_ev n d h0 b1 b2) (Eu.some _)))
end Go.Proofs.YtnfgokmecllpbaaGreatDoor.Print
end
section
namespace Go.Klippe
open Go.Lib
def dgs (s:List UInt8):Bool:=s.all isD && !s.isEmpty
theorem indexAny_none {l c:List UInt8} (h: ∀b∈l,c.contains b=false):indexAny l c= -1:=by
 induction l with
 |nil=>rfl
 |cons b l ih=>
  unfold indexAny;rw[if_neg (by rw[h b List.mem_cons_self];decide),ih (fun x hx=>h x (List.mem_cons_of_mem _ hx))];rfl
theorem indexAny_at {a c:List UInt8} {x:UInt8} (r:List UInt8) (h: ∀b∈a,c.contains b=false) (hx:c.contains x=true):indexAny (a++x::r) c= (a.length:Int):=by
 induction a with
 |nil=>
  rw[List.nil_append];unfold indexAny;rw[if_pos hx];rfl
 |cons b a ih=>
  have e:=ih (fun y hy=>h y (List.mem_cons_of_mem _ hy));rw[List.cons_append];unfold indexAny;rw[if_neg (by rw[h b List.mem_cons_self];decide),e,if_neg (by rw[beq_iff_eq];omega),List.length_cons];omega
end Go.Klippe
namespace Go.Proofs.YtnfgokmecllpbaaGreatDoor.Print
open Go.RowKit Go.Klippe Go.Proofs.YtnfgokmecllpbaaGreatDoorW.PrintWords Go.Proofs.YtnfgokmecllpbaaGreatDoorW.PrintLast Go.Proofs.YtnfgokmecllpbaaGreatDoorW.PrintMore
theorem plain_l0 (s:List UInt8) (hl:s.length<1000000000000): ∀(n i:Nat),s.length - i=n→i≤s.length→(∀b∈s.take i,isD b=true)→Eu (fun k=>Y54.l0 k (bs s) (s.length:Int) (i:Int)) (if(s.drop i).all isD=true then(tI (dv s:Int),true) else(bs [],false)):=by
 intro n
 induction n with
 |zero=>
  intro i hn hi ht;rw[List.drop_eq_nil_of_le (by omega),List.all_nil,if_pos rfl];rw[List.take_of_length_le (by omega)] at ht;have h:=trim_digits s ht;refine Eu.succ ?_;simp only[Y54.l0];refine Eu.ifn (by omega) (Eu.bindc (a:=bs (s.dropWhile (·==48))) ?_ ?_)
  ·unfold Y38.f;rw[if_pos rfl,bs_data];rfl
  ·rw[bs_toList,tI_nat,←h];refine Eu.ite (fun h1=>?_) (fun h1=>?_)
   ·rw[if_pos h1];exact Eu.some _
   ·rw[if_neg h1];exact Eu.some _
 |succ n ih=>
  intro i hn hi ht;have hil:i<s.length:=by omega
  have hbt:=bt_bs hil;rw[List.drop_eq_getElem_cons hil,List.all_cons];refine Eu.succ ?_;simp only[Y54.l0];rw[bs_size,hbt];refine Eu.ifp (by omega) (Eu.ifp (by omega) (Eu.ifp (by omega) (Eu.ite (fun h1=>?_) (fun h1=>Eu.ite (fun h2=>?_) (fun h2=>?_)))))
  ·have:isD s[i]=false:=by
    rw[Bool.eq_false_iff];intro h;exact(isD_bt.1 h).1 h1
   rw[this];exact Eu.some _
  ·have:isD s[i]=false:=by
    rw[Bool.eq_false_iff];intro h;exact(isD_bt.1 h).2 h2
   rw[this];exact Eu.some _
  ·have hd:=isD_bt.2 ⟨h1,h2⟩;rw[hd,Bool.true_and,w64_succ (by omega)];refine ih (i+1) (by omega) hil (fun b hb=>?_);rw[List.take_succ_eq_append_getElem hil,List.mem_append,List.mem_singleton] at hb;rcases hb with h|h
   ·exact ht b h
   ·rw[h];exact hd
theorem plain_ev (s:List UInt8) (hl:s.length<1000000000000):Eu (fun k=>Y54.f k (bs s)) (if dgs s=true then(tI (dv s:Int),true) else(bs [],false)):=by
 unfold Y54.f;rw[bs_toList,bs_size];refine Eu.ite (fun h=>?_) (fun h=>?_)
 ·subst h;exact Eu.some _
 ·have hp:=plain_l0 s hl s.length 0 (by omega) (Nat.zero_le _) (by intro b hb;simp at hb);rw[List.drop_zero] at hp;refine hp.eq ?_;have hne:s.isEmpty=false:=by cases s with|nil=>exact absurd rfl h|cons _ _=>rfl
  unfold dgs;rw[hne];simp
theorem nb_dv' {s:List UInt8} {k:Nat} (h: ∀b∈s,isD b=true) (hl:s.length≤k):nb k (dv s:Int):=by
 unfold nb;rw[Int.natAbs_natCast];exact Nat.lt_of_lt_of_le (dv_lt s h) (Nat.pow_le_pow_right (by decide) hl)
theorem dgs_all {s:List UInt8} (h:dgs s=true): ∀b∈s,isD b=true:=by
 unfold dgs at h;rw[Bool.and_eq_true] at h;exact List.all_eq_true.1 h.1
def pfin (n:Nat) (m:Bool) (u v:Nat):ByteArray×Int:=
 if 200<n then(bs [],16) else if v=0 then(bs [],17) else(tR (Rat.divInt (if m then -(u:Int) else u) v),0)
theorem Parse_j3_bad (x0 x9 x11:ByteArray) (m:Bool):Eu (fun k=>Y52.j3 k x0 m x9 false x11) (bs [],15):=by
 refine Eu.succ ?_;simp only[Y52.j3];exact Eu.ifn (by decide) (Eu.some _)
theorem Parse_j3 (x0:ByteArray) (m:Bool) (u v:Nat) (hu:nb 1000 (u:Int)) (hv:nb 1000 (v:Int)):Eu (fun k=>Y52.j3 k x0 m (tI (u:Int)) true (tI (v:Int))) (pfin x0.size m u v):=by
 have bu:Bz (u:Int):=nb_mono hu (by decide);have bv:Bz (v:Int):=nb_mono hv (by decide);refine Eu.succ ?_;simp only[Y52.j3];unfold pfin;refine Eu.ifp trivial (Eu.ite (fun h1=>?_) (fun h1=>Eu.ite (fun h2=>?_) (fun h2=>?_)))
 ·rw[if_pos (by omega)];exact Eu.some _
 ·have:v=0:=by have:=(tI_toList_zero _).1 h2;omega
  rw[if_neg (by omega),if_pos this];exact Eu.some _
 ·have hv0: ¬v=0:=fun e=>h2 ((tI_toList_zero _).2 (by omega))
  rw[if_neg (by omega),if_neg hv0];cases m with
  |true=>exact Eu.ifp rfl (Eu.bindc (Neg_f _ bu) (Eu.bind (lowest_ev _ _ (by omega) (nb_neg bu) bv) (Eu.some _)))
  |false=>exact Eu.ifn (by decide) (Eu.bind (lowest_ev _ _ (by omega) bu bv) (Eu.some _))
theorem nb_pow {k m:Nat} (h:k<m):nb m ((10 ^ k:Nat):Int):=by
 unfold nb;rw[Int.natAbs_natCast];exact Nat.pow_lt_pow_right (by decide) h
theorem anyc (b:UInt8):([47,46]:List UInt8).contains b=false↔b≠47∧b≠46:=by
 constructor
 ·intro h;constructor
  ·rintro rfl;revert h;decide
  ·rintro rfl;revert h;decide
 ·rintro⟨h1,h2⟩;simp[h1,h2]
theorem IndexAny_f {l:List UInt8} (hl:l.length<4294967281):Y37.f (bs l) (⟨#[47,46]⟩ :ByteArray)=some (Lib.indexAny l [47,46]):=by
 unfold Y37.f;rw[if_pos ⟨by rw[bs_size];exact hl,rfl⟩,bs_data]
theorem Parse_none (x0:ByteArray) (l:List UInt8) (m:Bool) (hl:l.length≤1000) (h: ∀b∈l,b≠47∧b≠46):
  Eu (fun k=>Y52.j0 k x0 (bs l) m) (if dgs l=true then pfin x0.size m (dv l) 1 else(bs [],15)):=by
 refine Eu.succ ?_;simp only[Y52.j0];refine Eu.bindc (IndexAny_f (by omega)) ?_;rw[indexAny_none (fun b hb=>(anyc b).2 (h b hb))];refine Eu.ifn (by decide) (Eu.succ ?_);simp only[Y52.j1];refine Eu.bind (plain_ev l (by omega)) (Eu.ifn (by decide) (Eu.succ ?_));simp only[Y52.j2];refine Eu.ifn (by decide) ?_;by_cases hd:dgs l=true
 ·rw[if_pos hd,if_pos hd,lit49];exact Parse_j3 x0 m (dv l) 1 (nb_dv' (dgs_all hd) hl) (nb_small (by decide) (by decide))
 ·rw[if_neg hd,if_neg hd];exact Parse_j3_bad _ _ _ _
theorem Parse_at (x0:ByteArray) (a b:List UInt8) (c:UInt8) (m:Bool) (hc:c=47∨c=46) (hl:(a++c::b).length≤900) (h: ∀x∈a,x≠47∧x≠46):
  Eu (fun k=>Y52.j0 k x0 (bs (a++c::b)) m) (if(dgs a && dgs b)=true then(if c=47 then pfin x0.size m (dv a) (dv b) else pfin x0.size m (dv (a++b)) (10 ^ b.length)) else(bs [],15)):=by
 have hlen:(a++c::b).length=a.length+b.length+1:=by simp;omega
 have hlt:a.length< (a++c::b).length:=by omega
 have hcc:([47,46]:List UInt8).contains c=true:=by rcases hc with rfl|rfl <;> decide
 have hge:(a++c::b)[a.length]'hlt=c:=by simp
 have hbt:bt (bs (a++c::b)) (a.length:Int)= (c.toNat:Int):=by rw[bt_bs hlt,hge]
 refine Eu.succ ?_;simp only[Y52.j0];refine Eu.bindc (IndexAny_f (by omega)) ?_;rw[indexAny_at b (fun x hx=>(anyc x).2 (h x hx)) hcc];rw[w64_succ (by omega),bs_size,Int.toNat_natCast,Int.toNat_natCast,bs_extract0,bs_extract_end,List.take_left,←List.drop_drop,List.drop_left,show(c::b).drop 1=b from rfl];refine Eu.ifp (by omega) (Eu.ifp (by omega) (Eu.ifp (by omega) (Eu.ifp (by omega) (Eu.ifp (by omega) (Eu.succ ?_)))));simp only[Y52.j1];refine Eu.bind (plain_ev a (by omega)) (Eu.ifp (by omega) (Eu.succ ?_));simp only[Y52.j2];by_cases hda:dgs a=true
 ·rw[if_pos hda,hda,Bool.true_and,bs_size,hbt];refine Eu.ifp rfl (Eu.bind (plain_ev b (by omega)) (Eu.ifp (by omega) (Eu.ifp (by omega) ?_)));by_cases hc7:c=47
  ·rw[if_pos hc7];refine Eu.ifp (by rw[hc7];rfl) ?_;by_cases hdb:dgs b=true
   ·rw[if_pos hdb,if_pos hdb];exact Parse_j3 x0 m (dv a) (dv b) (nb_dv' (dgs_all hda) (by omega)) (nb_dv' (dgs_all hdb) (by omega))
   ·rw[if_neg hdb,if_neg hdb];exact Parse_j3_bad _ _ _ _
  ·rw[if_neg hc7];have hc6:c=46:=by rcases hc with h|h;exact absurd h hc7;exact h
   have hp10:(⟨#[49]⟩ :ByteArray)++bs (List.replicate b.length 48)=tI ((10 ^ b.length:Nat):Int):=by
    rw[tI_nat,decDigits_pow];exact bs_append [49] _
   refine Eu.ifn (by rw[hc6];decide) (Eu.ifp (by rw[bs_size,bs_size];omega) ?_);rw[bs_append,bs_size];refine Eu.bind (plain_ev (a++b) (by rw[List.length_append];omega)) (Eu.bindc (Repeat_f _ (by omega)) (Eu.ifp (by rw[bs_size,List.length_replicate];omega) ?_));rw[hp10];by_cases hdb:dgs b=true
   ·have hab: ∀x∈a++b,isD x=true:=by
     intro x hx;rcases List.mem_append.1 hx with h|h
     ·exact dgs_all hda x h
     ·exact dgs_all hdb x h
    have hdab:dgs (a++b)=true:=by
     unfold dgs at hda⊢;rw[Bool.and_eq_true] at hda⊢;refine⟨List.all_eq_true.2 hab,?_⟩;cases a with
     |nil=>exact absurd hda.2 (by decide)
     |cons _ _=>rfl
    rw[if_pos hdb,if_pos hdb,if_pos hdab];refine Parse_j3 x0 m _ _ (nb_dv' hab (by rw[List.length_append];omega)) ?_;exact nb_pow (by omega)
   ·rw[if_neg hdb,if_neg hdb];exact Parse_j3_bad _ _ _ _
 ·rw[Bool.not_eq_true] at hda;rw[hda,Bool.false_and];exact Eu.ifn Bool.false_ne_true (Parse_j3_bad _ _ _ _)
theorem Parse_minus (l:List UInt8) (r:ByteArray×Int) (h:Eu (fun k=>Y52.j0 k (bs (45::l)) (bs l) true) r):Eu (fun k=>Y52.f k (bs (45::l))) r:=by
 unfold Y52.f Y25.f;rw[minus_lit,cutPrefix_yes];exact Eu.ifn (by rw[bs_toList];simp) (Eu.bindc rfl (Eu.ifp rfl h))
theorem Parse_plain (c:UInt8) (l:List UInt8) (h1:c≠45) (h2:c≠43) (r:ByteArray×Int) (h:Eu (fun k=>Y52.j0 k (bs (c::l)) (bs (c::l)) false) r):Eu (fun k=>Y52.f k (bs (c::l))) r:=by
 unfold Y52.f Y25.f;rw[minus_lit,cutPrefix_no (by rw[List.head?_cons];intro e;exact h1 (Option.some.inj e))];have h43:(⟨#[43]⟩ :ByteArray)=bs [43]:=rfl;rw[h43];exact Eu.ifn (by rw[bs_toList];simp) (Eu.bindc rfl (Eu.ifn Bool.false_ne_true (Eu.bindc (trimPrefix_no (by rw[List.head?_cons];intro e;exact h2 (Option.some.inj e))) h)))
theorem Parse_plus (l:List UInt8) (r:ByteArray×Int) (h:Eu (fun k=>Y52.j0 k (bs (43::l)) (bs l) false) r):Eu (fun k=>Y52.f k (bs (43::l))) r:=by
 unfold Y52.f Y25.f;rw[minus_lit,cutPrefix_no (by rw[List.head?_cons];decide)];have h43:(⟨#[43]⟩ :ByteArray)=bs [43]:=rfl;rw[h43];exact Eu.ifn (by rw[bs_toList];simp) (Eu.bindc rfl (Eu.ifn Bool.false_ne_true (Eu.bindc (trimPrefix_yes 43 l) h)))
theorem RRoot_ev (q:Rat) (h:RB 20000 q) (h0: ¬q.num<0): ∃r s:Nat,IsRoot r q.num.natAbs∧IsRoot s q.den∧
  Eu (fun k=>Y65.f k (tR q)) (if(r:Int) * r=q.num∧(s:Int) * s= (q.den:Int) then(bs (joinT r s),true) else(bs [],false)):=by
 have h5:=RB5 h;obtain⟨r,hr,er⟩ :=Root_ev q.num (by omega) h5.1;obtain⟨s,hs,es⟩ :=Root_ev (q.den:Int) (by omega) h5.2;rw[Int.natAbs_natCast] at hs;have br:nb 20000 (r:Int):=by
  have:=h.1;unfold nb at *;rw[Int.natAbs_natCast];have h1:=hr.1;have h2:r≤r * r:=by cases r with|zero=>exact Nat.le_refl _|succ n=>exact Nat.le_mul_of_pos_right _ (Nat.succ_pos n)
  exact Nat.lt_of_le_of_lt (Nat.le_trans h2 h1) this
 have bss:nb 20000 (s:Int):=by
  have:=h.2;unfold nb at *;rw[Int.natAbs_natCast] at *;have h1:=hs.1;have h2:s≤s * s:=by cases s with|zero=>exact Nat.le_refl _|succ n=>exact Nat.le_mul_of_pos_right _ (Nat.succ_pos n)
  exact Nat.lt_of_le_of_lt (Nat.le_trans h2 h1) this
 refine⟨r,s,hr,hs,?_⟩;unfold Y65.f;refine Eu.bindc (RSign_f q) (Eu.ifn (by unfold sgn;split <;> (try split) <;> omega) (Eu.bindc (Parts_tR q h5) (Eu.bind er (Eu.bind es (Eu.bind (Mul_ev _ _ (Bz2 br) (Bz2 br)) (Eu.ite (fun h1=>?_) (fun h1=>?_)))))))
 ·have e1:=(tI_toList_iff _ _).1 h1;refine Eu.bind (Mul_ev _ _ (Bz2 bss) (Bz2 bss)) (Eu.ite (fun h2=>?_) (fun h2=>?_))
  ·have e2:=(tI_toList_iff _ _).1 h2;rw[if_pos ⟨e1,e2⟩];exact Eu.bindc (join_f _ _ (Bz2 br) (Bz2 bss)) (Eu.some _)
  ·rw[if_neg (fun hh=>h2 ((tI_toList_iff _ _).2 hh.2))];exact Eu.some _
 ·rw[if_neg (fun hh=>h1 ((tI_toList_iff _ _).2 hh.1))];exact Eu.some _
end Go.Proofs.YtnfgokmecllpbaaGreatDoor.Print
end
section
namespace Go.Klippe
open Go.Lib
theorem dec1 (u:Nat) (h:u<10):decDigits u= [UInt8.ofNat (48+u)]:=by rw[decDigits_one h]
theorem decBig {u q r:Nat} (l:List UInt8) (h:u=q * 10+r) (hr:r<10) (hq:0<q) (hl:decDigits q=l):decDigits u=l++ [UInt8.ofNat (48+r)]:=by
 rw[decDigits_big (by omega),show u / 10=q by omega,hl,show u % 10=r by omega]
theorem rs_lit {q:Rat} {n:Int} {d:Nat} (hn:q.num=n) (hd:q.den=d) (h1:d≠1):rs q=itoa n++47::decDigits d:=by
 rw[rs_frac (by omega),hn,hd]
end Go.Klippe
namespace Go.Proofs.YtnfgokmecllpbaaGreatDoor.Print
open Go.RowKit Go.Klippe Go.Proofs.YtnfgokmecllpbaaGreatDoorW.PrintWords Go.Proofs.YtnfgokmecllpbaaGreatDoorW.PrintLast Go.Proofs.YtnfgokmecllpbaaGreatDoorW.PrintMore
def kx:Rat:=Rat.divInt 6 (-4)
def ky:Rat:=Rat.divInt 250 100
theorem kx_rs:rs kx= [45,51,47,50]:=by
 have hn:kx.num= -3:=by decide+kernel
 have hd:kx.den=2:=by decide+kernel
 rw[rs_lit hn hd (by decide),itoa_neg (by decide),show(-3:Int).natAbs=3 from rfl,dec1 3 (by decide),dec1 2 (by decide)];rfl
theorem ky_rs:rs ky= [53,47,50]:=by
 have hn:ky.num=5:=by decide+kernel
 have hd:ky.den=2:=by decide+kernel
 rw[rs_lit hn hd (by decide),itoa_nonneg (by decide),show(5:Int).toNat=5 from rfl,dec1 5 (by decide),dec1 2 (by decide)];rfl
def k23:Rat:=Rat.divInt 2 3
def k94:Rat:=Rat.divInt 9 4
theorem k23_rs:rs k23= [50,47,51]:=by
 have hn:k23.num=2:=by decide+kernel
 have hd:k23.den=3:=by decide+kernel
 rw[rs_lit hn hd (by decide),itoa_nonneg (by decide),show(2:Int).toNat=2 from rfl,dec1 3 (by decide),dec1 2 (by decide)];rfl
theorem k94_num:k94.num=9:=by decide+kernel
theorem k94_den:k94.den=4:=by decide+kernel
theorem k94_rs:rs k94= [57,47,52]:=by
 rw[rs_lit k94_num k94_den (by decide),itoa_nonneg (by decide),show(9:Int).toNat=9 from rfl,dec1 9 (by decide),dec1 4 (by decide)];rfl
theorem RB_lit {q:Rat} {n:Int} {d:Nat} {k:Nat} (hk:1≤k) (hn:q.num=n) (hd:q.den=d) (h1:n.natAbs<10) (h2:d<10):RB k q:=by
 refine⟨?_,?_⟩
 ·rw[hn];exact nb_small hk h1
 ·rw[hd];exact nb_small hk (by rw[Int.natAbs_natCast];exact h2)
theorem RB_kx {k:Nat} (hk:1≤k):RB k kx:=RB_lit hk (n:=-3) (d:=2) (by decide+kernel) (by decide+kernel) (by decide) (by decide)
theorem RB_ky {k:Nat} (hk:1≤k):RB k ky:=RB_lit hk (n:=5) (d:=2) (by decide+kernel) (by decide+kernel) (by decide) (by decide)
theorem RB_k23 {k:Nat} (hk:1≤k):RB k k23:=RB_lit hk (n:=2) (d:=3) (by decide+kernel) (by decide+kernel) (by decide) (by decide)
theorem RB_k94 {k:Nat} (hk:1≤k):RB k k94:=RB_lit hk k94_num k94_den (by decide) (by decide)
theorem k_near:nearQ (k23 * tenQ 3)=667:=by decide+kernel
theorem k_sum:kx+ky=1:=by decide+kernel
theorem dec667:Lib.decDigits 667= [54,54,55]:=decBig [54,54] (q:=66) (r:=7) rfl (by decide) (by decide) (decBig [54] (q:=6) (r:=6) rfl (by decide) (by decide) (dec1 6 (by decide)))
theorem k_dec:decT 667 3= [48,46,54,54,55]:=by
 unfold decT decT0;rw[show(667:Int).natAbs=667 from rfl,dec667];rfl
theorem k_parse:Eu (fun k=>Y52.f k (⟨#[50,46,53,48]⟩ :ByteArray)) (tR ky,0):=by
 have h:=Parse_at (bs [50,46,53,48]) [50] [53,48] 46 false (.inr rfl) (by decide) (by intro x hx;rw[List.mem_singleton] at hx;subst hx;decide);rw[if_pos (by decide),if_neg (by decide)] at h;have e:pfin (bs [50,46,53,48]).size false (dv ([50]++ [53,48])) (10 ^ ([53,48]:List UInt8).length)= (tR ky,0):=by
  rw[show dv ([50]++ [53,48])=250 from by decide,show(10 ^ ([53,48]:List UInt8).length)=100 from by decide];unfold pfin;rw[if_neg (by decide),if_neg (by decide)];rfl
 rw[e] at h;exact Parse_plain 50 [46,53,48] (by decide) (by decide) _ h
theorem k_root:Eu (fun k=>Y65.f k (⟨#[57,47,52]⟩ :ByteArray)) (bs [51,47,50],true):=by
 obtain⟨r,s,hr,hs,he⟩ :=RRoot_ev k94 (RB_k94 (by decide)) (by rw[k94_num];decide);rw[k94_num] at hr he;rw[k94_den] at hs he;have h3:r=3:=isRoot_unique hr ⟨by decide,by decide⟩;have h2:s=2:=isRoot_unique hs ⟨by decide,by decide⟩;subst h3;subst h2;rw[if_pos ⟨by decide,by decide⟩] at he;have e1:bs (joinT ((3:Nat):Int) ((2:Nat):Int))=bs [51,47,50]:=by
  unfold joinT;rw[if_neg (by decide),itoa_nonneg (by decide),itoa_nonneg (by decide),show((3:Nat):Int).toNat=3 from rfl,show((2:Nat):Int).toNat=2 from rfl,dec1 3 (by decide),dec1 2 (by decide)];rfl
 rw[e1] at he;unfold tR at he;rw[k94_rs] at he;exact he
theorem known_ev:Eu (fun k=>Y13.f k) true:=by
 have hof:=ROf_ev 6 (-4) (by decide) (by decide) (by decide);have hdec:=Decimal_ev k23 3 (by decide) (RB_k23 (by decide));rw[k_near,k_dec] at hdec;unfold tR at hdec;rw[k23_rs] at hdec;have hadd:=RAdd_ev kx ky (RB_kx (by decide)) (RB_ky (by decide));rw[k_sum] at hadd;unfold Y13.f;refine Eu.bind (a:=(tR kx,0)) hof (Eu.bind k_parse (Eu.bind (a:=(bs [48,46,54,54,55],0)) hdec (Eu.bind k_root ?_)));refine Eu.ifp rfl (Eu.ifp rfl (Eu.ifp rfl (Eu.ifp (by rw[tR_toList];exact kx_rs) (Eu.ifp (by rw[tR_toList];exact ky_rs) (Eu.ifp (bs_toList _) (Eu.ifp rfl (Eu.ifp (bs_toList _) (Eu.bind hadd ?_))))))));refine(Eu.some _).eq ?_;rw[beq_iff_eq,tR_toList,rs_one]
end Go.Proofs.YtnfgokmecllpbaaGreatDoor.Print
end
section
namespace Go.Proofs.YtnfgokmecllpbaaGreatDoor.Print
open Go.RowKit Go.Klippe Go.Proofs.YtnfgokmecllpbaaGreatDoorW.PrintWords Go.Proofs.YtnfgokmecllpbaaGreatDoorW.PrintLast Go.Proofs.YtnfgokmecllpbaaGreatDoorW.PrintMore
theorem beq_tR (p:Rat):((tR p).toList== (tR p).toList)=true:=beq_iff_eq.2 rfl
theorem isD_ascii {b:UInt8} (h:isD b=true):b.toNat<128∧b≠47∧b≠46∧b≠45∧b≠43:=by
 unfold isD at h;rw[Bool.and_eq_true,decide_eq_true_eq,decide_eq_true_eq] at h;refine⟨by omega,?_,?_,?_,?_⟩ <;> (intro e;subst e;revert h;decide)
theorem dgs_of {l:List UInt8} (h: ∀b∈l,isD b=true) (h0:l≠[]):dgs l=true:=by
 unfold dgs;rw[Bool.and_eq_true];refine⟨List.all_eq_true.2 h,?_⟩;cases l with
 |nil=>exact absurd rfl h0
 |cons _ _=>rfl
theorem qdigits_l0 (s:List UInt8) (hl:s.length<1000000000000): ∀(n i:Nat),s.length - i=n→i≤s.length→Eu (fun k=>Y11.l0 k (bs s) (i:Int)) ((s.drop i).all isD && !s.isEmpty):=by
 intro n
 induction n with
 |zero=>
  intro i hn hi;rw[List.drop_eq_nil_of_le (by omega),List.all_nil,Bool.true_and];refine Eu.succ ?_;simp only[Y11.l0];rw[bs_size];refine Eu.ifn (by omega) ((Eu.some _).eq ?_);rw[bs_toList];cases s <;> rfl
 |succ n ih=>
  intro i hn hi;have hil:i<s.length:=by omega
  rw[List.drop_eq_getElem_cons hil,List.all_cons];have hbt:=bt_bs hil;refine Eu.succ ?_;simp only[Y11.l0];rw[bs_size,hbt];refine Eu.ifp (by omega) (Eu.ifp (by omega) (Eu.ite (fun h1=>?_) (fun h1=>Eu.ite (fun h2=>?_) (fun h2=>?_))))
  ·have:isD s[i]=false:=by
    rw[Bool.eq_false_iff];intro h;exact(isD_bt.1 h).1 h1
   rw[this];exact Eu.some _
  ·have:isD s[i]=false:=by
    rw[Bool.eq_false_iff];intro h;exact(isD_bt.1 h).2 h2
   rw[this];exact Eu.some _
  ·rw[isD_bt.2 ⟨h1,h2⟩,Bool.true_and,w64_succ (by omega)];exact ih (i+1) (by omega) hil
theorem qdigits_ev (s:List UInt8) (hl:s.length<1000000000000):Eu (fun k=>Y11.f k (bs s)) (dgs s):=by
 unfold Y11.f;have h:=qdigits_l0 s hl s.length 0 rfl (Nat.zero_le _);rw[List.drop_zero] at h;exact h
theorem qplain_l0: ∀(s:List UInt8),(∀b∈s,isD b=true)→s≠[]→Eu (fun k=>Y23.l0 k (bs s)) (tI (dv s:Int))
 | [],_,h=>absurd rfl h
 | [c],hd,_=>by
  refine Eu.succ ?_;simp only[Y23.l0];rw[bs_size];refine Eu.ifn (by simp) ((Eu.some _).eq ?_);rw[tI_nat,decDigits_dv [c] hd c [] rfl (.inr rfl)]
 |c::d::r,hd,_=>by
  have hlen:(c::d::r).length=r.length+2:=rfl;refine Eu.succ ?_;simp only[Y23.l0];rw[bs_size,bt0_bs,bs_extract_end];by_cases h:(c.toNat:Int)=48
  ·have hc:c=48:=UInt8.toNat_inj.1 (by show c.toNat=48;omega);have ih:=qplain_l0 (d::r) (fun b hb=>hd b (List.mem_cons_of_mem _ hb)) (by simp);have hv:dv (c::d::r)=dv (d::r):=by rw[dv_cons,hc];simp[dd]
   rw[hv];exact Eu.ifp (by omega) (Eu.ifp (by omega) (Eu.ifp h (Eu.ifp (by omega) ih)))
  ·refine Eu.ifp (by omega) (Eu.ifp (by omega) (Eu.ifn h ((Eu.some _).eq ?_)));rw[tI_nat,decDigits_dv (c::d::r) hd c (d::r) rfl (.inl (by omega))]
theorem qplain_ev (s:List UInt8) (h:dgs s=true):Eu (fun k=>Y23.f k (bs s)) (tI (dv s:Int)):=by
 unfold Y23.f;exact qplain_l0 s (dgs_all h) (by intro e;rw[e] at h;exact absurd h (by decide))
theorem qParse_j7 (x0:ByteArray) (m:Bool) (hx:0<x0.size) (hm:bt x0 0=45↔m=true) (hs: ¬200<x0.size) (u v:Nat) (hu:nb 1000 (u:Int)) (hv:nb 1000 (v:Int)):Eu (fun k=>Y20.j7 k x0 (tI (u:Int)) (tI (v:Int))) (pfin x0.size m u v):=by
 have bu:Bz (u:Int):=nb_mono hu (by decide);have bv:Bz (v:Int):=nb_mono hv (by decide);refine Eu.succ ?_;simp only[Y20.j7];unfold pfin;rw[if_neg hs];refine Eu.ite (fun h2=>?_) (fun h2=>?_)
 ·have:v=0:=by have:=(tI_toList_zero _).1 h2;omega
  rw[if_pos this];exact Eu.some _
 ·have hv0: ¬v=0:=fun e=>h2 ((tI_toList_zero _).2 (by omega))
  rw[if_neg hv0];refine Eu.ifp (by omega) (Eu.ite (fun h3=>?_) (fun h3=>?_))
  ·rw[hm.1 h3];exact Eu.bindc (rNeg_f _ bu) (Eu.bind (qFraction_ev _ _ (by omega) (nb_neg bu) bv) (Eu.some _))
  ·have hmf:m=false:=by
    cases m with
    |false=>rfl
    |true=>exact absurd (hm.2 rfl) h3
   rw[hmf];exact Eu.bind (qFraction_ev _ _ (by omega) bu bv) (Eu.some _)
theorem qParse_bad (x0 x4 x6 x7:ByteArray) (x5:Int):Eu (fun k=>Y20.j3 k x0 x4 x5 x6 x7 true) (bs [],15):=by
 refine Eu.succ ?_;simp only[Y20.j3];exact Eu.ifp trivial (Eu.some _)
theorem pfin_long {n:Nat} (h:200<n) (m:Bool) (u v:Nat):pfin n m u v= (bs [],16):=by unfold pfin;rw[if_pos h]
theorem qParse_none (x0:ByteArray) (l:List UInt8) (m:Bool) (hx:0<x0.size) (hm:bt x0 0=45↔m=true) (hl:l.length≤1000) (h: ∀b∈l,b≠47∧b≠46):
  Eu (fun k=>Y20.j1 k x0 (bs l)) (if dgs l=true then pfin x0.size m (dv l) 1 else(bs [],15)):=by
 refine Eu.succ ?_;simp only[Y20.j1];refine Eu.bindc (IndexAny_f (by omega)) ?_;rw[indexAny_none (fun b hb=>(anyc b).2 (h b hb))];refine Eu.ifn (by decide) (Eu.succ ?_);simp only[Y20.j2];refine Eu.bind (qdigits_ev l (by omega)) ?_;by_cases hd:dgs l=true
 ·rw[if_pos hd];refine Eu.ifp hd (Eu.ifn (by decide) (Eu.succ ?_));simp only[Y20.j3];refine Eu.ifn Bool.false_ne_true (Eu.ite (fun h2=>?_) (fun h2=>?_))
  ·rw[pfin_long (by omega)];exact Eu.some _
  ·refine Eu.bind (qplain_ev l hd) (Eu.ifn (by decide) (Eu.succ ?_));simp only[Y20.j4];refine Eu.ifn Bool.false_ne_true (Eu.succ ?_);simp only[Y20.j5];refine Eu.ifn (by decide) (Eu.succ ?_);simp only[Y20.j6];rw[lit49];exact Eu.ifn Bool.false_ne_true (qParse_j7 x0 m hx hm (by omega) (dv l) 1 (nb_dv' (dgs_all hd) hl) (nb_small (by decide) (by decide)))
 ·rw[if_neg hd];exact Eu.ifn hd (qParse_bad _ _ _ _ _)
theorem dgs_append {a b:List UInt8} (ha:dgs a=true) (hb:dgs b=true):dgs (a++b)=true:=by
 refine dgs_of ?_ ?_
 ·intro x hx;rcases List.mem_append.1 hx with h|h
  ·exact dgs_all ha x h
  ·exact dgs_all hb x h
 ·intro e;have:=List.append_eq_nil_iff.1 e;rw[this.1] at ha;exact absurd ha (by decide)
theorem qParse_at (x0:ByteArray) (a b:List UInt8) (c:UInt8) (m:Bool) (hx:0<x0.size) (hm:bt x0 0=45↔m=true) (hc:c=47∨c=46) (hl:(a++c::b).length≤900) (h: ∀x∈a,x≠47∧x≠46):
  Eu (fun k=>Y20.j1 k x0 (bs (a++c::b))) (if(dgs a && dgs b)=true then(if c=47 then pfin x0.size m (dv a) (dv b) else pfin x0.size m (dv (a++b)) (10 ^ b.length)) else(bs [],15)):=by
 have hlen:(a++c::b).length=a.length+b.length+1:=by simp;omega
 have hab:a.length+b.length+1≤900:=by omega
 have hlt:a.length< (a++c::b).length:=by omega
 have hcc:([47,46]:List UInt8).contains c=true:=by rcases hc with rfl|rfl <;> decide
 have hge:(a++c::b)[a.length]'hlt=c:=by simp
 have hbt:bt (bs (a++c::b)) (a.length:Int)= (c.toNat:Int):=by rw[bt_bs hlt,hge]
 refine Eu.succ ?_;simp only[Y20.j1];refine Eu.bindc (IndexAny_f (by omega)) ?_;rw[indexAny_at b (fun x hx=>(anyc x).2 (h x hx)) hcc];rw[w64_succ (by omega),bs_size,Int.toNat_natCast,Int.toNat_natCast,bs_extract0,bs_extract_end,List.take_left,←List.drop_drop,List.drop_left,show(c::b).drop 1=b from rfl];refine Eu.ifp (by omega) (Eu.ifp (by omega) (Eu.ifp (by omega) (Eu.ifp (by omega) (Eu.ifp (by omega) (Eu.succ ?_)))));simp only[Y20.j2];refine Eu.bind (qdigits_ev a (by omega)) ?_;by_cases hda:dgs a=true
 ·rw[hda,Bool.true_and];refine Eu.ifp rfl (Eu.ifp (by omega) (Eu.bind (qdigits_ev b (by omega)) ?_));by_cases hdb:dgs b=true
  ·rw[hdb,if_pos rfl];have na:nb 1000 (dv a:Int):=nb_dv' (dgs_all hda) (by omega);have nbb:nb 1000 (dv b:Int):=nb_dv' (dgs_all hdb) (by omega);refine Eu.succ ?_;simp only[Y20.j3];rw[hbt];refine Eu.ifn (by decide) (Eu.ite (fun h2=>?_) (fun h2=>?_))
   ·rw[pfin_long (by omega),pfin_long (by omega),ite_self];exact Eu.some _
   ·refine Eu.bind (qplain_ev a hda) (Eu.ifp (by omega) (Eu.ifp (by omega) (Eu.ifp (by rw[bs_size];omega) ?_)));by_cases hc7:c=47
    ·rw[if_pos hc7,hc7,show((((47:UInt8).toNat:Int))==47)=true from by decide];refine Eu.succ ?_;simp only[Y20.j4];refine Eu.ifp trivial (Eu.bind (qplain_ev b hdb) (Eu.succ ?_));simp only[Y20.j5];rw[hc7] at hbt;rw[hc7] at hlen;rw[hbt,show((((47:UInt8).toNat:Int))==46)=false from by decide];refine Eu.ifp (by omega) (Eu.ifp (by omega) (Eu.ifp (by rw[bs_size];omega) (Eu.succ ?_)));simp only[Y20.j6];exact Eu.ifn Bool.false_ne_true (qParse_j7 x0 m hx hm (by omega) _ _ na nbb)
    ·have hc6:c=46:=by rcases hc with h|h;exact absurd h hc7;exact h
     have hp10:(⟨#[49]⟩ :ByteArray)++bs (List.replicate b.length 48)=tI ((10 ^ b.length:Nat):Int):=by
      rw[tI_nat,decDigits_pow];exact bs_append [49] _
     rw[if_neg hc7,hc6,show((((46:UInt8).toNat:Int))==47)=false from by decide];refine Eu.succ ?_;simp only[Y20.j4];refine Eu.ifn Bool.false_ne_true (Eu.succ ?_);simp only[Y20.j5];rw[hc6] at hbt;rw[hc6] at hlen;rw[hbt,show((((46:UInt8).toNat:Int))==46)=true from by decide];refine Eu.ifp (by omega) (Eu.ifp (by omega) (Eu.ifp (by rw[bs_size];omega) (Eu.succ ?_)));simp only[Y20.j6];rw[bs_append,bs_size,bs_size];refine Eu.ifp trivial (Eu.ifp (by omega) (Eu.bind (qplain_ev (a++b) (dgs_append hda hdb)) (Eu.bindc (Repeat_f _ (by omega)) (Eu.ifp (by rw[bs_size,List.length_replicate];omega) ?_))));rw[hp10];exact qParse_j7 x0 m hx hm (by omega) _ _ (nb_dv' (dgs_all (dgs_append hda hdb)) (by rw[List.length_append];omega)) (nb_pow (by omega))
  ·rw[if_neg hdb];rw[Bool.not_eq_true] at hdb;rw[hdb];exact qParse_bad _ _ _ _ _
 ·rw[Bool.not_eq_true] at hda;rw[hda,Bool.false_and];exact Eu.ifn Bool.false_ne_true (qParse_bad _ _ _ _ _)
theorem sep_cases (l:List UInt8):(∀b∈l,b≠47∧b≠46)∨∃a c b,l=a++c::b∧(c=47∨c=46)∧∀x∈a,x≠47∧x≠46:=by
 induction l with
 |nil=>exact .inl (by intro b hb;simp at hb)
 |cons c r ih=>
  by_cases hc:c=47∨c=46
  ·exact .inr ⟨[],c,r,rfl,hc,by intro x hx;simp at hx⟩
  ·have hc':c≠47∧c≠46:= ⟨fun e=>hc (.inl e),fun e=>hc (.inr e)⟩
   rcases ih with h| ⟨a,d,b,e,hd,h⟩
   ·refine .inl (fun x hx=>?_);rcases List.mem_cons.1 hx with rfl|hx
    ·exact hc'
    ·exact h x hx
   ·refine .inr ⟨c::a,d,b,by rw[e];rfl,hd,fun x hx=>?_⟩;rcases List.mem_cons.1 hx with rfl|hx
    ·exact hc'
    ·exact h x hx
theorem both_body (x0:ByteArray) (t:List UInt8) (m:Bool) (hx:0<x0.size) (hm:bt x0 0=45↔m=true) (hl:t.length≤900):
  ∃R,Eu (fun k=>Y52.j0 k x0 (bs t) m) R∧Eu (fun k=>Y20.j1 k x0 (bs t)) R:=by
 rcases sep_cases t with h| ⟨a,c,b,rfl,hc,h⟩
 ·exact⟨_,Parse_none x0 t m (by omega) h,qParse_none x0 t m hx hm (by omega) h⟩
 ·exact⟨_,Parse_at x0 a b c m hc hl h,qParse_at x0 a b c m hx hm hc hl h⟩
theorem both_parse (l:List UInt8) (hl:l.length≤900): ∃R,Eu (fun k=>Y52.f k (bs l)) R∧Eu (fun k=>Y20.f k (bs l)) R:=by
 cases l with
 |nil=>
  refine⟨(bs [],13),?_,?_⟩
  ·unfold Y52.f;exact Eu.ifp (bs_toList []) (Eu.some _)
  ·unfold Y20.f;exact Eu.ifp (bs_toList []) (Eu.some _)
 |cons c t=>
  have hx:0< (bs (c::t)).size:=by rw[bs_size,List.length_cons];omega
  have hb0:bt (bs (c::t)) 0= (c.toNat:Int):=bt0_bs c t;have hlt:t.length≤900:=by rw[List.length_cons] at hl;omega
  have hne: ¬(bs (c::t)).toList= ([]:List UInt8):=by rw[bs_toList];simp
  by_cases h45:c=45
  ·subst h45;obtain⟨R,h1,h2⟩ :=both_body (bs (45::t)) t true hx (by rw[hb0];simp) hlt;refine⟨R,Parse_minus t R h1,?_⟩;unfold Y20.f;rw[hb0];refine Eu.ifn hne (Eu.ifp (by omega) (Eu.ifn (by decide) ?_));rw[show((((45:UInt8).toNat:Int))==45)=true from by decide];refine Eu.succ ?_;simp only[Y20.j0];refine Eu.ifp trivial (Eu.ifp (by rw[bs_size,List.length_cons];omega) ?_);rw[bs_size,bs_extract_end];exact h2
  ·by_cases h43:c=43
   ·subst h43;obtain⟨R,h1,h2⟩ :=both_body (bs (43::t)) t false hx (by rw[hb0];simp) hlt;refine⟨R,Parse_plus t R h1,?_⟩;unfold Y20.f;rw[hb0];refine Eu.ifn hne (Eu.ifp (by omega) (Eu.ifp (by decide) (Eu.succ ?_)));simp only[Y20.j0];refine Eu.ifp trivial (Eu.ifp (by rw[bs_size,List.length_cons];omega) ?_);rw[bs_size,bs_extract_end];exact h2
   ·have n45: ¬(c.toNat:Int)=45:=fun e=>h45 (UInt8.toNat_inj.1 (by show c.toNat=45;omega))
    have n43: ¬(c.toNat:Int)=43:=fun e=>h43 (UInt8.toNat_inj.1 (by show c.toNat=43;omega))
    obtain⟨R,h1,h2⟩ :=both_body (bs (c::t)) (c::t) false hx (by rw[hb0];simp[n45]) hl;refine⟨R,Parse_plain c t h45 h43 R h1,?_⟩;unfold Y20.f;rw[hb0];refine Eu.ifn hne (Eu.ifp (by omega) (Eu.ifn n43 ?_));rw[beq_eq_false_iff_ne.2 n45];refine Eu.succ ?_;simp only[Y20.j0];exact Eu.ifn Bool.false_ne_true h2
theorem Parse_read (q:Rat) (hs:(tR q).size≤80):Eu (fun k=>Y52.f k (tR q)) (tR q,0):=by
 have hsz:(tR q).size= (rs q).length:=bs_size _;have hden: ¬q.den=0:=by have:=q.den_pos;omega
 have hD:=decDigits_isD q.num.natAbs;have hD2:=decDigits_isD q.den;have hfin: ∀m:Bool,(m=true↔q.num<0)→pfin (tR q).size m q.num.natAbs q.den= (tR q,0):=by
  intro m hm;unfold pfin;rw[if_neg (by omega),if_neg hden];have e:(if m=true then -(q.num.natAbs:Int) else(q.num.natAbs:Int))=q.num:=by
   cases m with
   |true=>have:=hm.1 rfl;rw[if_pos rfl];omega
   |false=>have: ¬q.num<0:=fun e=>absurd (hm.2 e) (by decide);rw[if_neg (by decide)];omega
  rw[e,Rat.num_divInt_den]
 have hbody: ∀m:Bool,(m=true↔q.num<0)→Eu (fun k=>Y52.j0 k (tR q) (bs (Lib.decDigits q.num.natAbs++ (if q.den=1 then [] else 47::Lib.decDigits q.den))) m) (tR q,0):=by
  intro m hm;have hl:(rs q).length≤80:=by omega
  rw[rs_sign,List.length_append,List.length_append] at hl;by_cases h1:q.den=1
  ·rw[if_pos h1,List.append_nil];have h:=Parse_none (tR q) (Lib.decDigits q.num.natAbs) m (by omega) (fun b hb=> ⟨(isD_ascii (hD b hb)).2.1,(isD_ascii (hD b hb)).2.2.1⟩);rw[if_pos (dgs_of hD (decDigits_ne_nil _)),dv_decDigits] at h;have h2:=hfin m hm;rw[h1] at h2;rw[h2] at h;exact h
  ·rw[if_neg h1] at hl⊢;rw[List.length_cons] at hl;have h:=Parse_at (tR q) (Lib.decDigits q.num.natAbs) (Lib.decDigits q.den) 47 m (.inl rfl) (by rw[List.length_append,List.length_cons];omega) (fun b hb=> ⟨(isD_ascii (hD b hb)).2.1,(isD_ascii (hD b hb)).2.2.1⟩);rw[dgs_of hD (decDigits_ne_nil _),dgs_of hD2 (decDigits_ne_nil _),if_pos (show(true && true)=true from rfl),if_pos rfl,dv_decDigits,dv_decDigits,hfin m hm] at h;exact h
 by_cases hneg:q.num<0
 ·have h:=hbody true (by simp[hneg]);have e:tR q=bs (45:: (Lib.decDigits q.num.natAbs++ (if q.den=1 then [] else 47::Lib.decDigits q.den))):=by
   unfold tR;rw[rs_sign,if_pos hneg,List.append_assoc];rfl
  rw[e] at h⊢;exact Parse_minus _ _ h
 ·have h:=hbody false (by simp[hneg]);have e:tR q=bs (Lib.decDigits q.num.natAbs++ (if q.den=1 then [] else 47::Lib.decDigits q.den)):=by
   unfold tR;rw[rs_sign,if_neg hneg,List.append_assoc];rfl
  rw[e] at h⊢;cases ed:Lib.decDigits q.num.natAbs with
  |nil=>exact absurd ed (decDigits_ne_nil _)
  |cons c r=>
   have hc:=isD_ascii (hD c (by rw[ed];exact List.mem_cons_self));rw[ed] at h;exact Parse_plain c _ hc.2.2.2.1 hc.2.2.2.2 _ h
theorem parses_ev (a0:ByteArray) (z:Int) (hz:0≤z∧z<256):Eu (fun k=>Y0.f k a0 z) true:=by
 have hk:Eu (fun k=>Y0.j0 k a0 z true) true:=by
  refine Eu.succ ?_;simp only[Y0.j0];exact Eu.ifp trivial (Eu.bind known_ev (Eu.some _))
 unfold Y0.f;refine Eu.bind known_ev (Eu.ifp rfl ?_);by_cases hs:(a0.size:Int) > 80
 ·rw[decide_eq_true hs];exact hk
 rw[decide_eq_false hs];have hsl:(a0.data.toList).length=a0.size:=by rw[Array.length_toList];rfl
 obtain⟨n,hn⟩ : ∃n:Nat,n=z.toNat % 201:= ⟨_,rfl⟩
 have hn2:n<201:=by rw[hn];exact Nat.mod_lt _ (by decide)
 have ez:Int.tmod (wrap64 z) 201= (n:Int):=by
  rw[w64 (by omega) (by omega),Int.tmod_eq_emod_of_nonneg (by omega),hn];omega
 have ecat:a0++bs (List.replicate n 48)=bs (a0.data.toList++List.replicate n 48):=by
  conv=>lhs;rw[←bs_eta a0]
  rw[bs_append]
 obtain⟨R,h1,h2⟩ :=both_parse (a0.data.toList++List.replicate n 48) (by rw[List.length_append,List.length_replicate];omega);have hj:Eu (fun k=>Y0.j1 k a0 false) true:=by
  obtain⟨r,hr,h02⟩ :=qRight_ev a0.data.toList (by omega);rw[bs_eta] at hr;refine Eu.succ ?_;simp only[Y0.j1];refine Eu.ifn Bool.false_ne_true (Eu.bind hr ?_);cases r with
  |false=>exact Eu.ifn Bool.false_ne_true (Eu.some _)
  |true=>
   obtain⟨q,eq,hq⟩ :=right02_rat h02;have ea:a0=tR q:=by rw[←bs_eta a0,eq];rfl
   subst ea;exact Eu.ifp rfl (Eu.bind (Parse_read q (by omega)) (Eu.ifp rfl ((Eu.some _).eq (beq_tR _))))
 refine Eu.succ ?_;simp only[Y0.j0];rw[ez];refine Eu.ifn Bool.false_ne_true (Eu.bindc (Repeat_f n (by omega)) (Eu.ifp (by rw[bs_size,List.length_replicate];omega) ?_));rw[ecat];refine Eu.bind h1 (Eu.bind h2 (Eu.ifp rfl ?_));rw[show(R.2 !=R.2)=false by simp];exact hj
end Go.Proofs.YtnfgokmecllpbaaGreatDoor.Print
end
section
namespace Go.Proofs.YtnfgokmecllpbaaGreatDoor
open Go Go.ChangeShapes Go.WideShapes Go.ChangeAt Go.RowKit
open Go.ChangeMaps (open_string shut_string)
theorem parses_lifted (os:Os) (started:os.Started) (H:Type) (enc:TypeId×Value→H):
  ReturnsInHanded {} Tryz.checked os 6 .any (fun w args=>(Rows.rationalParsesSpec.pre enc Tryz.prog Tryz.f6 [] false w args∧laidMetH Tryz.prog laid7 w)∧sizedMet enc Tryz.prog Tryz.f6 (OpenSpec.ofChange Rows.rationalParsesSpec) false w args)
   (Rows.rationalParsesSpec.post enc Tryz.prog Tryz.f6 false true false false):=by
 refine returns_and_shaped (C:=Tryz.checked) (X:=fun w _=>laidMetH Tryz.prog laid7 w) (fun _ _ _ hh h=>h.of_heap hh) own started (by kernel_rfl) Tryz.func6
  (ChangeSpec.witness_shaped (enc:=enc) (C:=Tryz.checked) (os:=os) (X:=fun w _=>laidMetH Tryz.prog laid7 w) false (World.laidAll Tryz.prog os laid7) #[.string ByteArray.empty,.int .u8 0] 8 (World.laidAll_os _ _ _)
   (World.shaped_of_ZipB (by kernel_rfl) (by kernel_rfl)) (by kernel_rfl) (by kernel_rfl) (by kernel_rfl) (start_met os _)) ?_
 intro W base args ds gs before hval0 hW _ hL hsh;have hval: ∀(j:Nat) t v,Tryz.f6.params[j]? =some t→args[j]? =some v→Value.okWide Tryz.prog W .any base t v:=hval0;have hW':=hW;obtain⟨p,q,hA0,hV,rfl,hfz,hnd⟩ :=hW;have hA:DataW.TrodAll enc Tryz.prog W 0 (fun _=>true) true Tryz.f6.params.toList args.toList ds p:=hA0;rw[Tryz.params6] at hA hval;obtain⟨v0,v1,d0,d1,p0,p1,rfl,rfl,rfl,h0,h1⟩ :=trodAll_two hA;obtain⟨rfl,rfl⟩ :=trodVars_none hV;obtain⟨a0,rfl,rfl,rfl,y0⟩ :=open_string Tryz.underlying9 (hval 0 9 v0 rfl rfl) h0;obtain⟨a1,rfl,rfl,rfl,y1⟩ :=open_int Tryz.underlying5 (hval 1 5 v1 rfl rfl) h1;clear hA0 hval0;have hGL:=GL_of hsh hL;obtain⟨k,hk⟩ :=Print.parses_ev a0 a1 (wf8 y1);refine(Print.Y0.calls k a0 a1 true W hGL (hk k (Nat.le_refl _))).mono fun e W' ⟨he,bel⟩ =>?_
 subst he;exact⟨_,rfl,_,_,_,[],_,[],hW',trodAll_mk1 (shut_bool Tryz.underlying4 _),trodAll_mk2 (shut_string Tryz.underlying9 y0) (shut_int Tryz.underlying5 y1),rfl,bel.frame _,fun h=>by cases h⟩
theorem parses_row:Rows.RationalParsesSaid:=
 OpenClaim.holds_of_wide 6 Tryz.f6 rfl rfl rfl rfl rfl rfl rfl ⟨rfl,rfl,rfl,rfl,rfl⟩ rfl rfl rfl rfl rfl (by kernel_rfl) Tryz.func6 parses_closed
  (of_decide_eq_true (by kernel_rfl)) (by unfold Func.isWrapper;first| (rw[if_pos (by decide+kernel)];kernel_rfl)| (rw[if_neg (by decide+kernel)];exact⟨rfl,rfl⟩))
  (fun os started H enc _=>parses_lifted os started H enc)
end Go.Proofs.YtnfgokmecllpbaaGreatDoor
end
section
namespace Go.Proofs.YtnfgokmecllpbaaGreatDoor
open Go
set_option maxRecDepth 100000
theorem seatTie1:Tryz.prog.laidByTextLater [("math/bits.deBruijn32tab",Rows.laid_math_bits_deBruijn32tab),("math/bits.deBruijn64tab",Rows.laid_math_bits_deBruijn64tab),("internal/strconv.uint64pow10",Rows.laid_internal_strconv_uint64pow10),("unicode/utf8.acceptRanges",Rows.laid_unicode_utf8_acceptRanges),("strconv.ErrRange",Rows.laid_strconv_ErrRange),("strconv.ErrSyntax",Rows.laid_strconv_ErrSyntax)] [.data,.data,.data,.data,.sentinel,.sentinel] true:=
 Program.laidByTextLater_by_one 72 8 65 (by kernel_rfl) (by kernel_rfl) (by kernel_rfl) (by kernel_rfl) (by kernel_rfl) (by kernel_rfl) (fun _ _=>by kernel_rfl)
theorem pin_laid_unicode_utf8_first:Tryz.pinned.checked.prog.pinnedFits "unicode/utf8.first" =true:=by kernel_rfl
theorem noOwnUnsafe:Tryz.pinned.checked.prog.headLifts.contains "ownunsafe" =false:=by kernel_rfl
theorem fits1:Tryz.pinned.checked.prog.listedFits [("math/bits.deBruijn32tab",Rows.laid_math_bits_deBruijn32tab),("math/bits.deBruijn64tab",Rows.laid_math_bits_deBruijn64tab),("internal/strconv.uint64pow10",Rows.laid_internal_strconv_uint64pow10),("unicode/utf8.acceptRanges",Rows.laid_unicode_utf8_acceptRanges),("strconv.ErrRange",Rows.laid_strconv_ErrRange),("strconv.ErrSyntax",Rows.laid_strconv_ErrSyntax),("unicode/utf8.first",Rows.laid_unicode_utf8_first)]=true:=by
 unfold Program.listedFits;rw[noOwnUnsafe]
 kernel_rfl
theorem tie:Tryz.prog.laidByTextLater [("math/bits.deBruijn32tab",Rows.laid_math_bits_deBruijn32tab),("math/bits.deBruijn64tab",Rows.laid_math_bits_deBruijn64tab),("internal/strconv.uint64pow10",Rows.laid_internal_strconv_uint64pow10),("unicode/utf8.acceptRanges",Rows.laid_unicode_utf8_acceptRanges),("strconv.ErrRange",Rows.laid_strconv_ErrRange),("strconv.ErrSyntax",Rows.laid_strconv_ErrSyntax)] [.data,.data,.data,.data,.sentinel,.sentinel] true:=
 Program.laidByTextLater.sub seatTie1 ["math/bits.deBruijn32tab", "math/bits.deBruijn64tab", "internal/strconv.uint64pow10", "unicode/utf8.acceptRanges", "strconv.ErrRange", "strconv.ErrSyntax"] (by kernel_rfl) (by kernel_rfl)
theorem rationalParses_row_tie:Rows.rationalParsesRow.laidByTextAt .later Tryz.pinned [.data,.data,.data,.data,.sentinel,.sentinel,.pinned] true:=
 OpenClaim.laidByTextAt_pinned rfl rfl tie rfl rfl rfl rfl (fun y hy _e=>by
  simp only[Rows.rationalParsesRow,List.zip_cons_cons,List.zip_nil_right,List.mem_cons,List.mem_nil_iff,or_false] at hy;rcases hy with rfl|rfl|rfl|rfl|rfl|rfl|rfl
  ·cases _e
  ·cases _e
  ·cases _e
  ·cases _e
  ·cases _e
  ·cases _e
  ·exact⟨pin_laid_unicode_utf8_first,by kernel_rfl⟩) fits1
theorem cardWf:Rows.rationalParsesRow.wfByText (OpenSpec.ofChange Rows.rationalParsesSpec)=true:=by kernel_rfl
theorem cardMain:Tryz.prog.mainIs=some (true, "d2a0f633061d1f0b31109403d6538737b09c70964949b2662c8b5cb4cb26bd3f".toList):=by kernel_rfl
theorem cardLooks:true=Tryz.prog.looks []:=by kernel_rfl
theorem cardWants:([9,5].all fun u=>!Tryz.prog.wantsStandIn u)=true:=by kernel_rfl
theorem cardGoes:false=Rows.rationalParsesRow.goesBy Tryz.prog:=by kernel_rfl
theorem cardNamed:Tryz.prog.funcNamed "klippe/klippelaw02.RationalParses" =some 6:=by kernel_rfl
theorem parses_card:Rows.RationalParsesCardSaid:=
 Claim7.holds_tied_plain_at .later [] [.data,.data,.data,.data,.sentinel,.sentinel,.pinned] true (true, "d2a0f633061d1f0b31109403d6538737b09c70964949b2662c8b5cb4cb26bd3f") true
  parses_row (fun _ h=>by cases h) cardWf (fun _ h=>by cases h) rationalParses_row_tie rfl ⟨rfl,rfl⟩ cardMain rfl
  (fun f fn hf hfn=>by
   obtain rfl:f=6:=(Option.some.inj (cardNamed.symm.trans hf)).symm;obtain rfl:fn=Tryz.f6:=(Option.some.inj (Tryz.func6.symm.trans hfn)).symm;exact⟨cardLooks,fun j t ht=>by
    rw[Tryz.params6] at ht;have hm:t∈[9,5]:=by simpa using Array.mem_of_getElem? ht
    exact(show Tryz.prog.wantsStandIn t=false by simpa using List.all_eq_true.1 cardWants t hm)⟩)
  cardGoes
end Go.Proofs.YtnfgokmecllpbaaGreatDoor
end
