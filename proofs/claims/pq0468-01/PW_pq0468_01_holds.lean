import PyProof.Rows.All
import Wide.All
import OpenK.AllK
import Wide.FinOn
import PySem.Challenge.RW_pq0468_01
set_option Elab.async false
set_option maxRecDepth 100000
set_option linter.all false
set_option genSizeOf false
set_option bootstrap.genMatcherCode false
set_option genInjectivity false
set_option tactic.hygienic false
set_option backward.match.sparseCases false
namespace Mine
open PySem PySem.W PyProof.Rows
section
set_option genSizeOf true
set_option bootstrap.genMatcherCode true
set_option genInjectivity true
set_option backward.match.sparseCases true
theorem bl{a b:Nat}(h:Nat.ble a b=true):a≤b:=Nat.le_of_ble_eq_true h
theorem nA{a b c d k:Nat}(h:c<k):a+b+c+1<a+k+b+d+1:=Nat.succ_lt_succ (Nat.lt_of_lt_of_le (Nat.add_lt_add_left h (a+b)) (Nat.add_right_comm a k b▸Nat.le_add_right _ d))
theorem nB{a b c d k:Nat}(h:c<k):a+b+c+1<a+(b+k)+d+1:=Nat.succ_lt_succ (Nat.lt_of_lt_of_le (Nat.add_lt_add_left h (a+b)) (Nat.add_assoc a b k▸Nat.le_add_right _ d))
theorem nP{a k:Nat}(h:a<k):k-a=k-(a+1)+1:=(Nat.succ_pred_eq_of_pos (Nat.sub_pos_of_lt h)).symm
theorem pa{x y p q r:Nat}(hx:x%2=p)(hy:y%2=q)(e:(p+q)%2=r):(x+y)%2=r:=by rw[Nat.add_mod,hx,hy];exact e
theorem cI{x y:Nat}(h:x=y):(x:Int)=y:=congrArg _ h
theorem tnI{x y:Int}(h:0<x)(e:x.toNat=y.toNat):x=y:=by
 rw[← Int.toNat_of_nonneg (Int.le_of_lt h)]
 by_cases k:0≤y
 ·rw[e,Int.toNat_of_nonneg k]
 ·rw[Int.toNat_of_nonpos (Int.le_of_lt (Int.not_le.1 k))] at e
  exact absurd (Int.toNat_eq_zero.1 e) (Int.not_le.2 h)
theorem ar158{a b c d e f g h i:Nat}:a≤100→b=c→a=b→d≤127∧e≤889→f=(1000-e)*1000+(10-g)*200+(c-h)+1→(1000-(e+1))*1000+(10-g)*200+(c-i)+1<f:=fun h1 h2 h3 h4 h5=>by
 rw[h5,nP (Nat.lt_of_le_of_lt h4.2 (bl rfl)),Nat.succ_mul];exact nA (Nat.lt_of_le_of_lt (Nat.le_trans (Nat.sub_le _ _) (h2▸h3▸h1)) (bl rfl))
theorem ar125{a b c d e f g:Nat}:(10-a)*200=(10-(a+1))*200+200→b≤100→b=c→d=(1000-e)*1000+(10-a)*200+(c-f)+1→(1000-e)*1000+(10-(a+1))*200+(c-g)+1<d:=fun h1 h2 h3 h5=>by
 rw[h5,h1];exact nB (Nat.lt_of_le_of_lt (Nat.le_trans (Nat.sub_le _ _) (h3▸h2)) (bl rfl))
theorem ar218{a b c:Nat}:a<b-1→c=b-1-a→b-a=c+1:=fun h e=>by rw[e,Nat.sub_right_comm,Nat.sub_add_cancel (Nat.sub_pos_of_lt (Nat.lt_of_lt_of_le h (Nat.sub_le b 1)))]
theorem ar287{a b c d:Nat}:a≤200→a=3*(b-c)+(d+1)→3*(b-(c+1))+d≤200:=fun h e=>Nat.le_trans (Nat.add_le_add (Nat.mul_le_mul_left 3 (Nat.sub_le_sub_left (Nat.le_succ c) b)) (Nat.le_succ d)) (e▸h)
theorem ar286{a b c d:Nat}:a=3*(b-c)+(d+1)→3*(b-(c+1))+d<a:=fun e=>Nat.lt_of_lt_of_eq (Nat.lt_succ_of_le (Nat.add_le_add (Nat.mul_le_mul_left 3 (Nat.sub_le_sub_left (Nat.le_succ c) b)) (Nat.le_refl d))) e.symm
theorem ar281{a b c d:Nat}:a≤200→a=3*(b-c)+(d+1)→3*(b-c)+d≤200:=fun h e=>Nat.le_trans (Nat.le_succ _) (e▸h:3*(b-c)+(d+1)≤200)
theorem nM{a:Nat}(h:3≤a):2*a-1<2*a:=Nat.sub_lt (Nat.mul_pos (Nat.zero_lt_succ 1) (Nat.lt_of_lt_of_le (Nat.zero_lt_succ 2) h)) (bl rfl)
theorem ar431{a b:Nat}:3≤a→(2*a-1-b)/2<a:=fun h=>Nat.div_lt_of_lt_mul (Nat.lt_of_le_of_lt (Nat.sub_le _ b) (nM h))
theorem ar453{a b c:Nat}:3≤a→b=2*a-1-c→b/2<a:=fun h e=>e▸ar431 h
theorem ar220{a b c:Nat}:0<a→b=a-1-c→b<a:=fun h e=>e▸Nat.lt_of_le_of_lt (Nat.sub_le _ _) (Nat.sub_lt h (bl rfl))
theorem ar221{a b c d:Nat}:0<a→b=a→c=a-1-d→c<b:=fun h e k=>e▸ar220 h k
theorem ar385{a b:Nat}:a%2=1→b%2=1→(1+(↑b:Int)+1+(↑a:Int))%2=0:=fun h k=>by exact cI (pa (pa (pa (x:=1) rfl k rfl) (y:=1) rfl rfl) h rfl)
theorem ar373{a b:Nat}:a%2=0→b%2=0→((↑b:Int)+1+(↑a:Int))%2=1:=fun h k=>by exact cI (pa (pa k (y:=1) rfl rfl) h rfl)
theorem ar372{a b:Nat}:a%2=0→b%2=0→((↑b:Int)+(↑a:Int))%2=0:=fun h k=>by exact cI (pa k h rfl)
theorem ar376{a b:Nat}:a%2=0→b%2=1→((↑a:Int)+(↑b:Int))%2=1:=fun h k=>by exact cI (pa h k rfl)
theorem ar377{a b:Nat}:a%2=0→b%2=1→((↑a:Int)+1+(↑b:Int))%2=0:=fun h k=>by exact cI (pa (pa h (y:=1) rfl rfl) k rfl)
theorem ar382{a b:Nat}:a%2=0→b%2=1→(1+(↑b:Int)+1+(↑a:Int))%2=1:=fun h k=>by exact cI (pa (pa (pa (x:=1) rfl k rfl) (y:=1) rfl rfl) h rfl)
theorem ar351{a:Nat}:a%2=0→(1+(↑a:Int))%2=1:=fun h=>by exact cI (pa (x:=1) rfl h rfl)
theorem ar589{a:Nat}:a=2∨a=3∨a=4∨a=5∨a=6∨a=7∨a=8↔2≤a∧a≤8:=⟨fun h=>by rcases h with rfl | rfl | rfl | rfl | rfl | rfl | rfl <;> exact⟨bl rfl,bl rfl⟩,fun h=>(by decide:∀v:Fin 9,2≤v.val→v.val=2∨v.val=3∨v.val=4∨v.val=5∨v.val=6∨v.val=7∨v.val=8) ⟨a,Nat.lt_succ_of_le h.2⟩ h.1⟩
theorem ar629{a:Nat}:a=1∨a=2∨a=3∨a=4∨a=5∨a=6∨a=7→1≤a∧a≤7:=fun h=>by rcases h with rfl | rfl | rfl | rfl | rfl | rfl | rfl <;> exact⟨bl rfl,bl rfl⟩
theorem ar401{a:Nat}:a<7→a=0∨a=1∨a=2∨a=3∨a=4∨a=5∨a=6:=fun h=>(by decide:∀v:Fin 7,v.val=0∨v.val=1∨v.val=2∨v.val=3∨v.val=4∨v.val=5∨v.val=6) ⟨a,h⟩
theorem ar106{a:Nat}:1≤a→a≤7→a=1∨a=2∨a=3∨a=4∨a=5∨a=6∨a=7:=fun h k=>(by decide:∀v:Fin 8,1≤v.val→v.val=1∨v.val=2∨v.val=3∨v.val=4∨v.val=5∨v.val=6∨v.val=7) ⟨a,Nat.lt_succ_of_le k⟩ h
theorem r63{a:Int}(h : -16777216≤a)(k:a≤16777216): -2^63≤a∧a<2^63:=⟨Int.le_trans (by decide) h,Int.lt_of_le_of_lt k (by decide)⟩
theorem r63'{a:Int}(h:0≤a∧a≤↑16777216): -2^63≤a∧a<2^63:=r63 (Int.le_trans (by decide) h.1) h.2
theorem r0{a:Int}:a+(-1+1)=a:=Int.add_zero a
theorem ar513{a b:Int}:0≤a∧a≤↑16777216→0≤b∧b≤↑16777216→((((-2^63≤b∧b<2^63)∧-2^63≤a∧a<2^63)∧-2^63≤-1∧-1<2^63)∧-2^63≤b-a∧b-a<2^63)∧(b-a=0∨-2^63≤a+(-1+1)∧a+(-1+1)<2^63):=fun h k=>⟨⟨⟨⟨r63' k,r63' h⟩,r63 (by decide) (by decide)⟩,r63 (Int.le_trans (Int.neg_le_neg h.2) (Int.le_trans (Int.zero_sub a▸Int.le_refl _) (Int.sub_le_sub_right k.1 a))) (Int.le_trans (Int.sub_le_self b h.1) k.2)⟩,.inr (r0▸r63' h)⟩
theorem ar514{a b:Int}:(0:Int)≤a∧a≤(↑(16777216:Nat):Int)→(0:Int)≤b∧b≤(↑(16777216:Nat):Int)→((((-(2:Int)^(63:Nat)≤b∧b<(2:Int)^(63:Nat))∧-(2:Int)^(63:Nat)≤a∧a<(2:Int)^(63:Nat))∧-(2:Int)^(63:Nat)≤(-1:Int)∧(-1:Int)<(2:Int)^(63:Nat))∧-(2:Int)^(63:Nat)≤(0:Int)∧(0:Int)<(2:Int)^(63:Nat))∧((0:Int)=(0:Int)∨-(2:Int)^(63:Nat)≤a+((-1:Int)+(1:Int))∧a+((-1:Int)+(1:Int))<(2:Int)^(63:Nat)):=fun h k=>⟨⟨⟨⟨r63' k,r63' h⟩,r63 (by decide) (by decide)⟩,r63 (by decide) (by decide)⟩,.inl rfl⟩
theorem ar426{a b:Nat}:a<2*b-2→2 * ↑b-1 - ↑a=(↑(2*b-1-a):Int):=fun h=>by
 rw[Int.ofNat_sub (Nat.le_of_lt (Nat.lt_of_lt_of_le h (Nat.sub_le_sub_left (Nat.le_succ 1) _))),Int.ofNat_sub (Nat.lt_of_le_of_lt (Nat.zero_le a) (Nat.lt_of_lt_of_le h (Nat.sub_le _ _)))];rfl
theorem ar422{a:Nat}:3≤a→2 * ↑a-2=(↑(2*a-2):Int):=fun h=>(Int.ofNat_sub (Nat.mul_le_mul_left 2 (Nat.le_trans (bl rfl) h):2*1≤2*a)).symm
theorem ar430{a b:Nat}:a<2*b-2→(2+a)/2<b:=fun h=>Nat.div_lt_of_lt_mul (Nat.add_lt_of_lt_sub' h)
theorem ar452{a b c:Nat}:a<2*b-2→c=2+a→c/2<b:=fun h e=>e▸ar430 h
theorem ar429{a b:Nat}:a<2*b-2→2≤2*b-1-a:=fun h=>Nat.le_sub_of_add_le (Nat.le_sub_one_of_lt (Nat.add_lt_of_lt_sub' h))
theorem ar451{a b c:Nat}:a<2*b-2→c=2*b-1-a→2≤c:=fun h e=>e▸ar429 h
theorem ar613{a b c:Nat}:a/2<b→min a c/2<b:=Nat.lt_of_le_of_lt (Nat.div_le_div_right (Nat.min_le_left a c))
theorem ar614{a b c:Nat}:a/2<b→c/2<b→max c a/2<b:=fun h k=>(Nat.le_total c a).elim (fun q=>by rw[Nat.max_eq_right q];exact h) (fun q=>by rw[Nat.max_eq_left q];exact k)
theorem ar644{a b:Nat}:a<b→b=a+1+(b-a-1):=fun h=>(Nat.add_sub_of_le h).symm
theorem ar143{a b c d e f g:Nat}:a+1≤b→b=c→d≤a→e=(1000-f)*1000+(10-g)*200+(c-d)+1→(1000-f)*1000+(10-g)*200+(c-(a+1))+1<e:=fun h1 h2 h3 h4=>h4▸Nat.succ_lt_succ (Nat.add_lt_add_left (Nat.sub_lt_sub_left (Nat.lt_of_le_of_lt h3 (h2▸h1)) (Nat.lt_succ_of_le h3)) _)
theorem ar308{a b c:Nat}:a≠b→a≤b→c=b-a→b-(a+1)<c:=fun h k e=>e▸Nat.sub_lt_sub_left (Nat.lt_of_le_of_ne k h) (Nat.lt_succ_self a)
theorem ar346{a b:Nat}:a<50→b=50-a→50-(a+1)<b:=fun h e=>e▸Nat.sub_lt_sub_left h (Nat.lt_succ_self a)
theorem ar554{a:Int}{b:Nat}:a.natAbs≤b→a≠0→a.natAbs-1<b:=fun h k=>Nat.lt_of_lt_of_le (Nat.sub_lt (Int.natAbs_pos.2 k) (bl rfl)) h
theorem ar123{a:Nat}:a≤6→(10-a)*200=(10-(a+1))*200+200:=fun h=>(congrArg (· * 200) (nP (Nat.lt_of_le_of_lt h (bl rfl)))).trans (Nat.succ_mul _ _)
theorem ar319{a b c d e:Nat}:a<60→b≤6→c≤a→d≤min e c→1+b+d≤100:=fun h1 h2 h3 h4=>Nat.le_trans (Nat.add_le_add (Nat.add_le_add_left h2 1) (Nat.le_trans h4 (Nat.le_trans (Nat.min_le_right _ _) (Nat.le_trans h3 (Nat.le_of_lt h1))))) (bl rfl)
theorem nL{b c x:Nat}(e:b=2*(c+1)+x):2≤b:=e▸Nat.le_trans (Nat.mul_le_mul_left 2 (Nat.succ_le_succ (Nat.zero_le c))) (Nat.le_add_right _ _)
theorem ar411{a b c d:Nat}:2≤a→min a b=0→(b=2*(c+1)+if c=d then 1 else 0)→False:=fun h k e=>absurd (k▸Nat.le_min.2 ⟨h,nL e⟩:2≤0) (Nat.not_succ_le_zero 1)
theorem ar415{a b c d:Nat}:2≤a→min a b=1→(b=2*(c+1)+if c=d then 1 else 0)→False:=fun h k e=>absurd (k▸Nat.le_min.2 ⟨h,nL e⟩:2≤1) (Nat.not_succ_le_self 1)
theorem ar406{a b c:Nat}:(a=2*(b+1)+if b=c then 1 else 0)→min 1 a=1:=fun e=>Nat.min_eq_left (Nat.le_of_lt (nL e))
theorem ar11{a b:Nat}:a<b-2→(2+(↑a:Int)).toNat<b:=Nat.add_lt_of_lt_sub'
theorem ar12{a b:Nat}:a<b-2→2+a<b:=Nat.add_lt_of_lt_sub'
theorem ar28{a b:Nat}:a<b-1→(1+(↑a:Int)).toNat<b:=Nat.add_lt_of_lt_sub'
theorem ar601{a:Nat}:2≤a→((↑(a-1):Int)+1).natAbs=a:=fun h=>Nat.sub_add_cancel (Nat.le_of_lt h)
theorem ar240{a:Nat}:a≠0→(-((↑a:Int)+1)).natAbs≠1:=fun h e=>h (Nat.succ.inj ((Int.natAbs_neg (a+1:Nat)).symm.trans e))
theorem ar604{a b c:Nat}:a/2=b+1→c/2=a/2→c/2-1=b:=fun h k=>congrArg Nat.pred (k.trans h)
theorem ar607{a b:Nat}:a/2=b+1→a/2-1=b:=congrArg Nat.pred
theorem ar575{a:Nat}:(↑(a/2+1):Int).natAbs=a/2+1:=rfl
theorem ar574{a:Nat}:(-(↑(a/2+1):Int)).natAbs=a/2+1:=Int.natAbs_neg _
theorem ar412{a b:Nat}:a%2=1→b/2≠a/2→(↑b:Int)=(↑a:Int)-1→False:=fun h k e=>by
 have e:b+1=a:=Int.ofNat.inj ((congrArg (· + 1) e).trans (Int.sub_add_cancel _ 1))
 subst e
 exact k (Nat.succ_div_of_not_dvd fun d=>absurd ((Nat.mod_eq_zero_of_dvd d).symm.trans h) (by decide)).symm
theorem ar244{a:Int}{b c:Nat}:a.natAbs=b/2+1→b/2<c→¬((↑c:Int)+1).natAbs=a.natAbs:=fun h k e=>Nat.ne_of_gt k (Nat.succ.inj (e.trans h))
theorem ar363{a:Int}{b:Nat}:a.toNat<b→0≤a→b≤16777216→0≤a∧a < ↑b∧a<2^62:=fun h k l=>⟨k,(Int.toNat_lt k).1 h,Int.lt_trans ((Int.toNat_lt k).1 h) (Int.lt_of_le_of_lt (Int.ofNat_le.2 l) (by decide))⟩
theorem ar632{a b:Int}:a<0→(1-2*a).toNat=(1-2*b).toNat→a=b:=fun h e=>(Int.mul_eq_mul_left_iff (by decide)).1 ((Int.sub_right_inj 1).1 (tnI (Int.sub_pos_of_lt (Int.lt_trans (Int.mul_neg_of_pos_of_neg (by decide) h) (by decide))) e))
theorem ar634{a b:Int}:a≠0→¬a<0→(2*a).toNat=(1-2*b).toNat→a=b:=fun h k e=>by
 have e:=tnI (Int.mul_pos (by decide) (Int.lt_iff_le_and_ne.2 ⟨Int.not_lt.1 k,Ne.symm h⟩)) e
 exact absurd ((Int.mul_emod_right 2 (a+b)).symm.trans (congrArg (· % 2) ((Int.mul_add 2 a b).trans ((congrArg (· + 2*b) e).trans (Int.sub_add_cancel 1 (2*b)))))) (by decide)
theorem tN(a:Int):a.toNat≤a.natAbs:=by
 induction a using Int.casesOn with
 | ofNat n=>exact Nat.le_refl _
 | negSucc n=>exact Nat.zero_le _
theorem sN{n b:Nat}(h:n+1≤b):0≤1-2*Int.negSucc n∧(1-2*Int.negSucc n).toNat<2*b+2∧2≤1-2*Int.negSucc n:=by
 have e:1-2*Int.negSucc n=((1+2*(n+1):Nat):Int):=rfl
 rw[e]
 exact⟨Int.natCast_nonneg _,Nat.lt_of_lt_of_le (Nat.add_comm 1 (2*(n+1))▸Nat.lt_succ_self _) (Nat.succ_le_succ (Nat.succ_le_succ (Nat.mul_le_mul_left 2 h))),Int.ofNat_le.2 (Nat.add_le_add_left (Nat.le_trans (Nat.succ_le_succ (Nat.zero_le n)) (Nat.le_mul_of_pos_left _ (bl rfl))) 1)⟩
theorem sP{n b:Nat}(h:n≤b)(k:n≠0):0≤2*(n:Int)∧(2*(n:Int)).toNat<2*b+2∧2≤2*(n:Int):=⟨Int.natCast_nonneg (2*n),Nat.lt_succ_of_le (Nat.le_succ_of_le (Nat.mul_le_mul_left 2 h)),Int.ofNat_le.2 (Nat.mul_le_mul_left 2 (Nat.pos_of_ne_zero k):2*1≤2*n)⟩
theorem ar223{a b c d e:Nat}(h1:a/2<b)(h2:c=d)(h3:b=d-1-e):a/2<c:=by subst_vars;exact Nat.lt_of_lt_of_le h1 (Nat.le_trans (Nat.sub_le _ _) (Nat.sub_le _ _))
theorem ar500{a:Int}{b:Nat}:max 0 (min a ↑b)=(↑(min a.toNat b):Int):=by induction a using Int.casesOn with | ofNat n=>exact(congrArg (max 0) (Lean.Omega.Int.ofNat_min n b).symm).trans (Int.max_eq_right (Int.natCast_nonneg _)) | negSucc n=>exact(congrArg (max 0) (Int.min_eq_left (Int.le_trans (Int.le_of_lt (Int.negSucc_lt_zero n)) (Int.natCast_nonneg b)))).trans ((Int.max_eq_left (Int.le_of_lt (Int.negSucc_lt_zero n))).trans (congrArg Nat.cast (Nat.zero_min b).symm))
theorem ar630{a b c d:Nat}(h1:a=2*b)(h2:c=2*d)(h3:¬c=a):c/2≠a/2:=by subst_vars;intro e;rw[Nat.mul_div_cancel_left _ (bl rfl),Nat.mul_div_cancel_left _ (bl rfl)] at e;exact h3 (congrArg (2 * ·) e)
theorem ar380{a b:Nat}(h1:a%2=0)(h2:b%2=1):((↑b:Int)+(↑a:Int))%2=1:=by exact cI (pa h2 h1 rfl)
theorem ar381{a b:Nat}(h1:a%2=0)(h2:b%2=1):((↑b:Int)+1+(↑a:Int))%2=0:=by exact cI (pa (pa h2 (y:=1) rfl rfl) h1 rfl)
theorem ar598{a b:Nat}(h1:2≤a)(h2:a≤b):a-1<b:=Nat.lt_of_lt_of_le (Nat.sub_lt (Nat.lt_of_lt_of_le (bl rfl) h1) (bl rfl)) h2
theorem ar491{a b c:Nat}(h1:a+10*b<9000)(h2:c≤b):a+10*c<9000:=Nat.lt_of_le_of_lt (Nat.add_le_add_left (Nat.mul_le_mul_left 10 h2) a) h1
theorem ar490{a b c:Nat}(h1:a+2*b<900)(h2:c≤b):a+2*c<900:=Nat.lt_of_le_of_lt (Nat.add_le_add_left (Nat.mul_le_mul_left 2 h2) a) h1
theorem ar368{a:Int}{b c:Nat}(h1:a.natAbs≤b)(h2:c=b+1):a.toNat<c:=h2▸Nat.lt_succ_of_le (Nat.le_trans (tN a) h1)
theorem ar365{a:Int}{b c:Nat}(h1:a.natAbs≤b)(h2:c=b+1):(-a).toNat<c:=h2▸Nat.lt_succ_of_le (Nat.le_trans (tN (-a)) ((Int.natAbs_neg a).symm▸h1))
theorem ar302{a:Nat}(h1:a≤4294967296):((↑a:Int)+1).natAbs<2^64:=by exact Nat.lt_of_le_of_lt (Nat.succ_le_succ h1) (bl rfl)
theorem ar520{a:Int}(h1:a<0): -a=(↑a.natAbs:Int):=(Int.ofNat_natAbs_of_nonpos (Int.le_of_lt h1)).symm
theorem ar18{a b:Nat}(h1:a<b):a<2+(b-2):=Nat.lt_of_lt_of_le h1 (Nat.sub_le_iff_le_add'.1 (Nat.le_refl _))
theorem ar91{a b:Nat}(h1:a-1<b)(h2:¬b=a):a<b:=Nat.lt_of_le_of_ne (Nat.le_of_pred_lt h1) (Ne.symm h2)
theorem ar260{a:Nat}(h1:10≤a):0<a-1-1:=Nat.le_sub_of_add_le (Nat.le_sub_of_add_le (Nat.le_trans (bl rfl) h1))
theorem ar462{a b:Nat}(h1:a≠b)(h2:¬a<b):1≤a-b:=Nat.sub_pos_of_lt (Nat.lt_of_le_of_ne (Nat.not_lt.1 h2) (Ne.symm h1))
theorem ar423{a:Nat}(h1:3≤a):0<2*a-2:=Nat.sub_pos_of_lt (Nat.lt_of_lt_of_le (bl rfl:2<2*3) (Nat.mul_le_mul_left 2 h1))
theorem ar594{a:Nat}(h1:2≤a∧a≤8):a-1+1=a:=Nat.sub_add_cancel (Nat.le_of_lt h1.1)
theorem ar87{a b:Nat}(h1:a≠b)(h2:b≤a):a-1<a:=Nat.sub_lt (Nat.lt_of_le_of_lt (Nat.zero_le b) (Nat.lt_of_le_of_ne h2 (Ne.symm h1))) (bl rfl)
theorem ar402{a:Nat}:(2*(a+1)+1)/2=a+1:=by exact Nat.mul_add_div (bl rfl) (a+1) 1
theorem ar257{a b c:Nat}(h1:a≤100)(h2:b≤a):min c b<16777216:=Nat.lt_of_le_of_lt (Nat.min_le_right _ _) (Nat.lt_of_le_of_lt h2 (Nat.lt_of_le_of_lt h1 (bl rfl)))
theorem ar216{a:Nat}(h1:a<1000):(↑(a-1):Int)≤↑16777216:=Int.ofNat_le.2 (Nat.le_trans (Nat.sub_le _ _) (Nat.le_trans (Nat.le_of_lt h1) (bl rfl)))
theorem ar449{a b c:Nat}(h1:a<3)(h2:b<6)(h3:c=2+a):c+1+b≤50:=Nat.le_trans (Nat.add_le_add (Nat.succ_le_succ (h3▸Nat.add_le_add_left (Nat.le_of_lt h1) 2)) (Nat.le_of_lt h2)) (bl rfl)
theorem ar447{a b c d:Nat}(h1:a<3)(h2:b<6)(h3:c=2+a)(h4:d≤c+1+b):d≤16777216:=Nat.le_trans h4 (Nat.le_trans (ar449 h1 h2 h3) (bl rfl))
theorem ar517{a b:Int}(h1:a<b):b-a=(↑(b-a).toNat:Int):=(Int.toNat_of_nonneg (Int.sub_nonneg_of_le (Int.le_of_lt h1))).symm
theorem ar518{a b:Int}(h1:¬a<b):0=(↑(b-a).toNat:Int):=(congrArg Nat.cast (Int.toNat_of_nonpos (Int.sub_nonpos_of_le (Int.not_lt.1 h1)))).symm
theorem ar641{a:Int}(h1:0=a.natAbs)(h2:a≠0):False:=h2 (Int.natAbs_eq_zero.1 h1.symm)
theorem ar618{a b:Nat}(h1:a≠0)(h2:a<b+1):a-1<b:=Nat.lt_of_lt_of_le (Nat.sub_lt (Nat.pos_of_ne_zero h1) (bl rfl)) (Nat.le_of_lt_succ h2)
theorem ar688{a b c d e:Nat}(h1:1≤a)(h2:b+c+a≤128)(h3:d+e≤c):b+1+d+e≤128:=by rw[Nat.add_right_comm b 1 d,Nat.add_right_comm (b+d) 1 e,Nat.add_assoc b d e];exact Nat.le_trans (Nat.add_le_add (Nat.add_le_add_left h3 b) h1) h2
theorem ar128{a b c:Nat}(h1:127*(a+1-1)=127*(a-1)+127)(h2:b≤127∧c≤889)(h3:c≤127*(a-1)+b):c≤127*(a+1-1)+0:=by rw[h1];exact Nat.le_trans h3 (Nat.add_le_add_left h2.1 _)
theorem ar316{a b:Nat}(h1:a≤6):1+min b a<16777216:=Nat.lt_of_le_of_lt (Nat.add_le_add_left (Nat.le_trans (Nat.min_le_right _ _) h1) 1) (bl rfl)
theorem ar473{a b c:Nat}(h1 : ↑a<(↑(b+1):Int))(h2:b+1=a+c):b-a<c:=Nat.sub_lt_left_of_lt_add (Nat.le_of_lt_succ (Int.ofNat_lt.1 h1)) (h2▸Nat.lt_succ_self b)
theorem ar675{a:Int}(h1:a≠0)(h2:¬a.natAbs=1):2≤a.natAbs:=Nat.lt_of_le_of_ne (Int.natAbs_pos.2 h1) (Ne.symm h2)
theorem ar660{a:Int}{b c:Nat}(h1:a<(↑b:Int))(h2:(↑b:Int)<(↑c:Int)):a<(↑(min b c):Int):=(Nat.min_eq_left (Nat.le_of_lt (Int.ofNat_lt.1 h2))).symm▸h1
theorem ar482{a b c:Nat}(h1:a<b+1-1)(h2:c=b+1):(1+(↑a:Int)).toNat<c:=by subst_vars;exact Nat.add_lt_of_lt_sub' h1
theorem ar469{a b:Nat}(h1:(↑a:Int)<(↑b:Int)):b=b-1+1:=(Nat.sub_add_cancel (Nat.lt_of_le_of_lt (Nat.zero_le a) (Int.ofNat_lt.1 h1))).symm
theorem ar278{a b c d:Nat}(h1:a≤200)(h2:a=3*(b-c)+(d+1)):d<16777216:=Nat.lt_of_lt_of_le (Nat.lt_of_lt_of_le (Nat.lt_succ_self d) (Nat.le_add_left _ _)) (Nat.le_trans (h2▸h1:3*(b-c)+(d+1)≤200) (bl rfl))
theorem ar288{a b c d:Nat}(h1:a≤200)(h2:a=3*(b-c)+(d+1)):d+1<16777216:=Nat.lt_of_le_of_lt (Nat.le_trans (Nat.le_add_left _ _) (h2▸h1:3*(b-c)+(d+1)≤200)) (bl rfl)
theorem ar174{a b c:Nat}(h1:a<b):min c a<b:=Nat.lt_of_le_of_lt (Nat.min_le_right _ _) h1
theorem ar151{a:Int}{b:Nat}{c:Int}(h1:a = ↑b)(h2:a≤c):b≤c.toNat:=Int.toNat_le_toNat (h1▸h2:(b:Int)≤c)
theorem ar110{a b c:Nat}(h1:127*(a-1)≤127*6)(h2:b≤127)(h3:c≤127*(a-1)+b):b≤127∧c≤889:=⟨h2,Nat.le_trans h3 (Nat.add_le_add h1 h2)⟩
theorem ar192{a b c d:Nat}(h1:a=b)(h2:b=max c d)(h3:a=min c d):c=d:=have e:min c d=max c d:=h3.symm.trans (h1.trans h2);Nat.le_antisymm (Nat.le_trans (Nat.le_max_left c d) (e▸Nat.min_le_right c d:max c d≤d)) (Nat.le_trans (Nat.le_max_right c d) (e▸Nat.min_le_left c d:max c d≤c))
theorem ar510{a:Int}(h1:0≤a)(h2:a≤↑16777216): -2^63≤a∧a<2^63:=r63' ⟨h1,h2⟩
theorem ar528{a:Int}(h1:0≤a)(h2:a<2^62): -2^63≤a∧a<2^63:=⟨Int.le_trans (by decide) h1,Int.lt_trans h2 (by decide)⟩
theorem ar534{a b:Nat}(h1:a+2*b.succ<900):a+1+2*b<900:=Nat.lt_of_le_of_lt (Nat.le_trans (Nat.le_of_eq (Nat.add_right_comm a 1 (2*b))) (Nat.le_succ _)) h1
theorem ar677{a b c d e:Nat}(h1:a=b+b)(h2:a≤c)(h3:d+e+c≤128):d+(e+b)+b≤128:=by rw[← Nat.add_assoc,Nat.add_assoc (d+e)];exact Nat.le_trans (Nat.add_le_add_left (h1▸h2) _) h3
theorem ar536{a b c:Nat}(h1:a≤4)(h2:b+10*c.succ<9000):b+a+10*c<9000:=Nat.lt_of_le_of_lt (Nat.le_trans (Nat.le_of_eq (Nat.add_right_comm b a (10*c))) (Nat.add_le_add_left (Nat.le_trans h1 (bl rfl:4≤10)) (b+10*c))) h2
theorem ar548{a b:Nat}(h1:a+10*(b+1)<9000):a+3+10*b<9000:=Nat.lt_of_le_of_lt (Nat.le_trans (Nat.le_of_eq (Nat.add_right_comm a 3 (10*b))) (Nat.add_le_add_left (bl rfl:3≤10) (a+10*b))) h1
theorem ar694{a:Int}{b:Nat}(h1:0≤a∧a < ↑b):0≤a∧a<(↑(b+1):Int):=⟨h1.1,Int.lt_trans h1.2 (Int.ofNat_lt.2 (Nat.lt_succ_self b))⟩
theorem ar205{a b:Nat}(h1:a<b): ↑b - ↑a=(↑(b-a):Int):=(Int.ofNat_sub (Nat.le_of_lt h1)).symm
theorem ar84{a b:Nat}(h1:a<b): ↑b-1=(↑(b-1):Int):=by exact(Int.ofNat_sub (Nat.lt_of_le_of_lt (Nat.zero_le a) h1)).symm
theorem ar154{a b c d e:Nat}(h1:a<b)(h2:c=d+1)(h3:b≤c)(h4:e≤a)(h5:(↑d:Int)≤(↑e:Int)):a=d:=Nat.le_antisymm (Nat.le_of_lt_succ (Nat.lt_of_lt_of_le h1 (h2▸h3:b≤d+1))) (Nat.le_trans (Int.ofNat_le.1 h5) h4)
theorem ar670{a b c d e f:Nat}(h1:a<b)(h2:c≤a)(h3:(↑d:Int)≤(↑c:Int))(h4:e+1=f∧b=d+1):a=d:=Nat.le_antisymm (Nat.le_of_lt_succ (h4.2▸h1:a<d+1)) (Nat.le_trans (Int.ofNat_le.1 h3) h2)
theorem ar162{a b c d:Nat}(h1:a≤127∧b≤889)(h2:c≤4000+b)(h3:d≤c):d+1<16777216:=Nat.lt_of_le_of_lt (Nat.succ_le_succ (Nat.le_trans h3 (Nat.le_trans h2 (Nat.add_le_add_left h1.2 4000)))) (bl rfl)
theorem ar161{a b c:Nat}(h1:a≤127∧b≤889)(h2:c≤4000+b):c<16777216:=Nat.lt_of_le_of_lt (Nat.le_trans h2 (Nat.add_le_add_left h1.2 4000)) (bl rfl)
theorem ar156{a b c:Nat}(h1:a≤127∧b≤889)(h2:c≤b):c<5000:=Nat.lt_of_le_of_lt (Nat.le_trans h2 h1.2) (bl rfl)
theorem ar369{a:Int}(h1:¬a<0):a.toNat=a.natAbs:=by induction a using Int.casesOn with | ofNat n=>rfl | negSucc n=>exact absurd (Int.negSucc_lt_zero n) h1
theorem ar366{a:Int}(h1:a<0):(-a).toNat=a.natAbs:=by induction a using Int.casesOn with | ofNat n=>exact absurd h1 (Int.not_lt.2 (Int.natCast_nonneg n)) | negSucc n=>rfl
theorem ar663{a b:Nat}(h1:(↑a:Int)<(↑b:Int)):a≤min a b:=Nat.le_min.2 ⟨Nat.le_refl _,Nat.le_of_lt (Int.ofNat_lt.1 h1)⟩
theorem ar274{a:Nat}:min a 2<16777216:=Nat.lt_of_le_of_lt (Nat.min_le_right _ _) (bl rfl)
theorem ar36{a b:Nat}(h1:a<1000)(h2:b=a):1+b≤16777216:=by subst_vars;exact Nat.le_trans (Nat.add_le_add_left (Nat.le_of_lt h1) 1) (bl rfl)
theorem ar230{a b c d:Nat}(h1:a<1000)(h2:b≤3*c)(h3:c≤d)(h4:d≤a):b≤3*1000:=Nat.le_trans h2 (Nat.mul_le_mul_left 3 (Nat.le_trans h3 (Nat.le_trans h4 (Nat.le_of_lt h1))))
theorem ar339{a:Nat}:min 30 a≤16777216:=Nat.le_trans (Nat.min_le_left _ _) (bl rfl)
theorem ar603{a b c d e:Nat}(h1:a=b+1)(h2:c≤d+1)(h3:d+a≤e+7):c+b≤e+7:=by subst_vars;exact Nat.le_trans (Nat.add_le_add_right h2 b) (Nat.le_trans (Nat.le_of_eq (Nat.add_right_comm d 1 b)) h3)
theorem ar478{a b:Nat}(h1:a≤1000)(h2:b<a):(↑b:Int)<2^62:=Int.lt_of_lt_of_le (Int.ofNat_lt.2 (Nat.lt_of_lt_of_le h2 h1)) (by decide)
theorem ar494{a b:Nat}(h1:a+10*b<9000):a+64<9900:=Nat.lt_of_lt_of_le (Nat.add_lt_add_right (Nat.lt_of_le_of_lt (Nat.le_add_right _ _) h1) 64) (bl rfl)
theorem ar458{a b:Nat}(h1:a+0≤7+1+7)(h2:b+0≤a+7):b<60:=Nat.lt_of_le_of_lt (Nat.le_trans h2 (Nat.add_le_add_right h1 7)) (bl rfl)
theorem ar502{a:Int}(h1:0≤a∧a≤1000000):¬1*a.toNat>(2^63-1)/8:=Nat.not_lt.2 (Nat.le_trans (Nat.le_of_eq (Nat.one_mul _)) (Nat.le_trans (Int.toNat_le (n:=1000000).2 h1.2) (bl rfl)))
theorem ar405{a b c:Nat}(h1:a<50)(h2:b+c≤a+7):b<1000:=Nat.lt_of_le_of_lt (Nat.le_trans (Nat.le_add_right b c) (Nat.le_trans h2 (Nat.add_le_add_right (Nat.le_of_lt h1) 7))) (bl rfl)
theorem ar410{a b c:Nat}(h1:(↑1:Int)=(↑a:Int)+1)(h2:(a=2*(b+1)+if b=c then 1 else 0)):False:=absurd (Nat.succ.inj (Int.ofNat.inj h1)) (Nat.ne_of_lt (Nat.lt_of_lt_of_le (bl rfl) (nL h2)))
theorem ar421{a b c d:Nat}(h1:a≤6)(h2:b≤6)(h3:c<b)(h4:d≤a+c):d≤16777216:=Nat.le_trans h4 (Nat.le_trans (Nat.add_le_add h1 (Nat.le_trans (Nat.le_of_lt h3) h2)) (bl rfl))
theorem ar529{a b c:Nat}(h1:a≤16777216)(h2:b<c)(h3:a=c):(↑b:Int)<2^63-1:=by subst_vars;exact Int.lt_of_lt_of_le (Int.ofNat_lt.2 (Nat.lt_of_lt_of_le h2 h1)) (by decide)
theorem ar483{a:Nat}:(1+(↑a:Int)).toNat=a+1:=by exact Nat.add_comm 1 a
theorem ar409{a:Nat}(h1:a%2=1)(h2:(↑1:Int)=(↑a:Int)-1):False:=by have e:2=a:=Int.ofNat.inj ((congrArg (· + 1) h2).trans (Int.sub_add_cancel _ 1));subst e;exact absurd h1 (by decide)
theorem ar609{a b:Nat}(h1:a/2=b+1):2≤a:=by exact(Nat.le_div_iff_mul_le (k:=2) (x:=1) (bl rfl)).1 (h1.symm▸Nat.succ_le_succ (Nat.zero_le b):1≤a/2)
theorem ar477{a b c:Nat}(h1:¬(↑a:Int)<(↑b:Int))(h2:b=a+c):b=a:=Nat.le_antisymm (Int.ofNat_le.1 (Int.not_lt.1 h1)) (h2▸Nat.le_add_right a c)
theorem ar39{a b c:Nat}(h1:a≤5000)(h2:b<a)(h3:c≤b):c<16777216:=Nat.lt_of_le_of_lt h3 (Nat.lt_of_lt_of_le h2 (Nat.le_trans h1 (bl rfl)))
theorem ar472{a:Int}{b:Nat}{c:Int}{d:Nat}(h1:a.natAbs≤b∧(c=1∨c = -1))(h2:d=b+1):(↑a.natAbs:Int).toNat<d:=h2▸Nat.lt_succ_of_le h1.1
theorem ar476{a:Int}{b:Nat}{c:Int}{d e:Nat}(h1:a.natAbs≤b∧(c=1∨c = -1))(h2:d=e)(h3:e=b+1):a.natAbs<d:=by subst_vars;exact Nat.lt_succ_of_le h1.1
theorem ar242{a:Int}{b c d:Nat}(h1:a.natAbs=b/2+1)(h2:b/2<c)(h3:c<d):a.natAbs≤d:=Nat.le_trans (Nat.le_of_eq h1) (Nat.le_trans h2 (Nat.le_of_lt h3))
theorem ar17{a b:Nat}(h1:a<2+(b+1))(h2:¬a=2+b):a<2+b:=Nat.lt_of_le_of_ne (Nat.le_of_lt_succ h1) h2
theorem ar33{a b:Nat}(h1:a<1+(b+1))(h2:¬a=1+b):a<1+b:=Nat.lt_of_le_of_ne (Nat.le_of_lt_succ h1) h2
theorem ar118{a:Int}{b:Nat}(h1:0≤a∧a < ↑b):(↑a.toNat:Int)=a:=Int.toNat_of_nonneg h1.1
theorem ar557{a:Int}(h1:a<0):(-if 0<a then 1 else -1)=1:=by rw[if_neg (Int.not_lt.2 (Int.le_of_lt h1))];rfl
theorem ar199{a b:Nat}(h1:a<b):a=min b a:=(Nat.min_eq_right (Nat.le_of_lt h1)).symm
theorem ar187{a b c d:Nat}(h1:a+b=c+2*d):(↑a:Int)+(↑b:Int)-2*(↑d:Int)=(↑c:Int):=Int.sub_eq_iff_eq_add.2 (by exact cI h1)
theorem ar15{a:Nat}(h1:a≤100):2*a+2≤16777216:=Nat.le_trans (Nat.add_le_add_right (Nat.mul_le_mul_left 2 h1) 2) (bl rfl)
theorem ar347{a:Nat}(h1:¬a<50):¬(↑a:Int)<50:=fun h=>h1 (Int.ofNat_lt.1 h)
theorem ar656{a:Int}{b c:Nat}(h1:a < ↑b)(h2:b≤c):a≤↑c:=Int.le_of_lt (Int.lt_of_lt_of_le h1 (Int.ofNat_le.2 h2))
theorem ar236{a b c:Nat}(h1:a<4000)(h2:b=a)(h3:c≤b):c+1<16777216:=by subst_vars;exact Nat.lt_of_le_of_lt (Nat.lt_of_le_of_lt h3 h1) (bl rfl)
theorem ar237{a b:Nat}(h1:a<4000)(h2:b=a):b<5000:=by subst_vars;exact Nat.lt_trans h1 (bl rfl)
theorem ar413{a b:Nat}(h1:a≤b)(h2:(↑a:Int)=(↑b:Int)+1):False:=have e:a=b+1:=Int.ofNat.inj h2;Nat.not_succ_le_self b (e▸h1:b+1≤b)
theorem ar228{a b c:Nat}(h1:a≤3)(h2:b≤3*c):a+b≤3*(c+1):=Nat.le_trans (Nat.le_of_eq (Nat.add_comm a b)) (Nat.add_le_add h2 h1)
theorem ar559{a b:Nat}(h1:a-b=0)(h2:b≤a):a=b:=Nat.le_antisymm (Nat.le_of_sub_eq_zero h1) h2
theorem ar692{a b c:Nat}(h1:1≤a)(h2:b+c+a≤128):b≤127:=Nat.le_of_succ_le_succ (Nat.le_trans (Nat.add_le_add (Nat.le_add_right b c) h1) h2)
theorem ar407{a b c:Nat}(h1:(a=2*(b+1)+if b=c then 1 else 0)):max 1 a=a:=Nat.max_eq_right (Nat.le_of_lt (nL h1))
theorem ar653{a:Nat}{b:Int}{c:Nat}(h1 : ↑a≤b)(h2:c<a): ↑c<b:=Int.lt_of_lt_of_le (Int.ofNat_lt.2 h2) h1
theorem ar546{a b:Nat}(h1:a+2*(b+1)<900):a<1000:=Nat.lt_of_le_of_lt (Nat.le_add_right _ _) (Nat.lt_trans h1 (bl rfl))
theorem ar327{a b c:Nat}(h1:a<60)(h2:b≤c)(h3:c≤a):b≤60:=Nat.le_trans h2 (Nat.le_trans h3 (Nat.le_of_lt h1))
theorem ar271{a:Nat}(h1:a≤300):a+1<4000:=Nat.lt_of_le_of_lt (Nat.succ_le_succ h1) (bl rfl)
theorem ar650{a:Int}{b c d:Nat}(h1:a < ↑b)(h2 : ↑b<a):c<d:=absurd (Int.lt_trans h1 h2) (Int.lt_irrefl a)
theorem ar262{a b c:Nat}(h1:a≤100)(h2:b≤3*c)(h3:c≤a):b≤300:=Nat.le_trans h2 (Nat.mul_le_mul_left 3 (Nat.le_trans h3 h1))
theorem ar270{a:Int}{b c:Nat}(h1:a.natAbs=b/2+1)(h2:b/2<c):(-a).natAbs≤c:=Nat.le_trans (Nat.le_of_eq ((Int.natAbs_neg a).trans h1)) h2
theorem ar506{a b:Nat}(h1:a+64<b):a+1<b:=Nat.lt_of_le_of_lt (Nat.add_le_add_left (bl rfl) a) h1
theorem ar296{a b:Nat}(h1:a≤6)(h2:b<a):b≤6:=Nat.le_trans (Nat.le_of_lt h2) h1
theorem ar498{a:Int}(h1:a<2^62):a<2^63:=Int.lt_trans h1 (by decide)
theorem ar592{a:Nat}(h1:2≤a∧a≤8):1≤a-1:=Nat.le_sub_of_add_le h1.1
theorem ar122{a:Nat}(h1:1≤a):127*(a+1-1)=127*(a-1)+127:=by exact congrArg (127 * ·) (Nat.sub_add_cancel h1).symm
theorem ar496{a b:Nat}(h1:a≤16777216)(h2:b=a):(↑b:Int)<2^63:=by subst_vars;exact Int.lt_of_le_of_lt (Int.ofNat_le.2 h1) (by decide)
theorem ar210{a:Nat}(h1:a<1000):(↑a:Int)≤1000000:=Int.ofNat_le.2 (Nat.le_trans (Nat.le_of_lt h1) (bl rfl))
theorem ar507{a b c d:Nat}(h1:a+1≤b)(h2:c≤a)(h3:d≤c+1):d≤b:=Nat.le_trans h3 (Nat.le_trans (Nat.succ_le_succ h2) h1)
theorem ar140{a b c:Nat}(h1:a≤100)(h2:b≤c)(h3:c≤a):b<900:=Nat.lt_of_le_of_lt h2 (Nat.lt_of_le_of_lt h3 (Nat.lt_of_le_of_lt h1 (bl rfl)))
theorem ar543{a b c:Nat}(h1:a≤b)(h2:c≤a+1):c≤b+1:=Nat.le_trans h2 (Nat.succ_le_succ h1)
theorem ar511{a:Int}(h1:0≤a∧a≤↑16777216): -2^62≤a:=Int.le_trans (by decide) h1.1
theorem ar680{a b c d:Nat}(h1:a≤b)(h2:b+c≤d):a+c≤d:=Nat.le_trans (Nat.add_le_add_right h1 c) h2
theorem ar170{a b:Nat}(h1:¬a<b)(h2:¬a=b):¬a<b+1:=fun h=>h1 (Nat.lt_of_le_of_ne (Nat.le_of_lt_succ h) h2)
theorem ar209{a b c:Nat}(h1:a/2<b)(h2:b≤c):¬c=a/2:=Nat.ne_of_gt (Nat.lt_of_lt_of_le h1 h2)
theorem ar460{a:Int}{b:Nat}(h1:a.natAbs≤b)(h2:a<0):0≤1-2*a∧(1-2*a).toNat<2*b+2∧2≤1-2*a:=by induction a using Int.casesOn with | ofNat n=>exact absurd h2 (Int.not_lt.2 (Int.natCast_nonneg n)) | negSucc n=>exact sN h1
theorem ar461{a:Int}{b:Nat}(h1:a.natAbs≤b)(h2:a≠0)(h3:¬a<0):0≤2*a∧(2*a).toNat<2*b+2∧2≤2*a:=by induction a using Int.casesOn with | ofNat n=>exact sP h1 (fun e=>h2 (e▸rfl)) | negSucc n=>exact absurd (Int.negSucc_lt_zero n) h3
theorem ar0{a:Nat}(h1:0<a):a=a-1+1:=(Nat.sub_add_cancel h1).symm
theorem ar1{a b c:Nat}(h1:a≤b):a≤b+c:=Nat.le_add_right_of_le h1
theorem ar2{a:Nat}:0≤(↑a:Int):=Int.natCast_nonneg a
theorem ar3{a:Nat}(h1:2<a):0<a:=Nat.zero_lt_of_lt h1
theorem ar4 : (0:Int)≤(0:Int):=Int.zero_le_ofNat 0
theorem ar5{a:Nat}(h1:2≤a):0<a:=Nat.zero_lt_of_lt h1
theorem ar6{a:Nat}(h1:2<a):0<a-1:=Nat.le_sub_of_add_le (Nat.le_trans (bl rfl) h1)
theorem ar7 : 2≤16777216:=Nat.le_of_ble_eq_true rfl
theorem ar8{a:Nat}{b:Int}(h1:2≤a)(h2:a<2+0):b<0:=absurd h1 (Nat.not_le.2 h2)
theorem ar9{a:Nat}:(2+(↑a:Int)).toNat=2+a:=rfl
theorem ar13{a:Nat}(h1:2≤a):1<a:=by assumption
theorem ar14{a:Nat}:¬2+a=1:=by lia
theorem ar16{a:Nat}:2≤2+a:=Nat.le_add_right 2 a
theorem ar19{a:Nat}(h1:1≤a):0<a:=by assumption
theorem ar21{a:Nat}(h1:2<a):1<a-1:=Nat.lt_sub_of_add_lt h1
theorem ar22{a:Nat}(h1:1≤a)(h2:¬(↑a:Int)=1):2≤a:=by lia
theorem ar23{a:Nat}(h1:a<1000):a≤16777216:=Nat.le_trans (Nat.le_of_lt h1) (bl rfl)
theorem ar24{a:Nat}(h1:1<a):0<a:=Nat.zero_lt_of_lt h1
theorem ar25{a:Nat}(h1:a<1+0):a=0:=Nat.lt_one_iff.mp h1
theorem ar26{a b:Nat}(h1:a<b-1):1+a<b:=Nat.add_lt_of_lt_sub' h1
theorem ar27{a:Nat}:0≤1+(↑a:Int):=Int.zero_le_ofNat (1+a)
theorem ar29{a:Nat}:(1+(↑a:Int)).toNat=1+a:=rfl
theorem ar30{a:Int}:0≤(↑a.natAbs:Int):=Int.natCast_nonneg a.natAbs
theorem ar31{a:Int}{b c:Nat}(h1:a.natAbs≤b)(h2:c=b+1):(↑a.natAbs:Int).toNat<c:=by subst_vars;exact Nat.lt_succ_of_le h1
theorem ar32{a:Int}{b c:Nat}(h1:a.natAbs≤b)(h2:c=b+1):a.natAbs<c:=by subst_vars;exact Nat.lt_succ_of_le h1
theorem ar34{a:Nat}(h1:0<a):Int.toNat 0<a:=by assumption
theorem ar37{a b:Nat}(h1:0<a)(h2:b=a):0<b:=Nat.lt_of_lt_of_le h1 (Nat.le_of_eq h2.symm)
theorem ar38{a b c:Nat}(h1:a=b)(h2:b≤c):a≤c:=le_of_eq_of_le h1 h2
theorem ar40{a:Int}{b:Nat}(h1:a.natAbs≤b):a.natAbs<b+1:=Nat.lt_succ_of_le h1
theorem ar42{a:Int}(h1 : -a=1):a = -1:=Int.eq_neg_comm.mp (id (Eq.symm h1))
theorem ar43{a b:Nat}(h1:2≤a)(h2:b=a):0<b:=by subst_vars;exact Nat.zero_lt_of_lt h1
theorem ar44{a:Nat}(h1:4≤a):2<a:=Nat.le_of_lt h1
theorem ar45{a:Nat}(h1:a≤5000):a≤16777216:=Nat.le_trans h1 (bl rfl)
theorem ar46{a:Nat}(h1:a≤100):a<1000:=Nat.lt_of_le_of_lt h1 (bl rfl)
theorem ar47{a:Int}(h1:a = -1):a<0:=by subst_vars;exact Int.sign_eq_neg_one_iff_neg.mp rfl
theorem ar48{a:Int}(h1:a=0):¬a=1:=by subst_vars;exact Int.zero_ne_one
theorem ar49{a:Nat}:2≤a+2:=Nat.le_add_left 2 a
theorem ar51{a b:Nat}(h1:a≤b):a≤b:=by omega
theorem ar52{a:Int}(h1:a<0):¬a=1:=by lia
theorem ar53{a:Int}(h1:a=1):a=1:=by omega
theorem ar54{a:Int}(h1:a=0)(h2:a≠0):a=1:=by trivial
theorem ar55{a:Int}(h1:a = -1)(h2:¬a<0):a=1:=by simp_all
theorem ar56{a:Nat}(h1:a≤5000):a<16777216:=Nat.lt_of_le_of_lt h1 (bl rfl)
theorem ar57{a b:Nat}(h1:a≤b):a≤b+1:=by solve_by_elim
theorem ar58{a:Int}(h1:0≤a)(h2:a = -1):False:=by subst_vars;exact(Int.negSucc_not_nonneg 0).mp h1
theorem ar59{a:Nat}:¬(↑a:Int)<0:=Int.not_ofNat_neg a
theorem ar60{a b:Nat}(h1:¬a<b):b≤a:=Nat.le_of_not_lt h1
theorem ar61{a:Nat}(h1:5≤a):0<a:=Nat.zero_lt_of_lt h1
theorem ar62{a:Nat}(h1:a≤100):a≤16777216:=Nat.le_trans h1 (bl rfl)
theorem ar63{a b:Nat}(h1:(↑a:Int)<(↑b:Int)):a<b:=Int.ofNat_lt.1 h1
theorem ar64{a:Int}(h1:a≠0): -a≠0:=Int.neg_ne_zero.mpr h1
theorem ar65{a:Int}{b:Nat}(h1:a.natAbs≤b):(-a).natAbs≤b:=Nat.le_trans (Nat.le_of_eq (Int.natAbs_neg _)) h1
theorem ar66{a b:Nat}(h1:(↑a:Int)<(↑b:Int)):(↑a:Int).toNat<b:=by simp_all
theorem ar67{a:Nat}(h1:5≤a):0<a-1:=Nat.le_sub_of_add_le (Nat.le_trans (bl rfl) h1)
theorem ar68{a:Nat}(h1:5≤a):4≤a-1:=Nat.le_sub_one_of_lt h1
theorem ar70{a:Int}(h1:a.natAbs=1):(-a).natAbs=1:=(Int.natAbs_neg _).trans h1
theorem ar72{a b:Nat}(h1:a≤b)(h2:¬(↑a:Int)<(↑b:Int)):a=b:=by lia
theorem ar73{a:Nat}(h1:a≤100):a+1≤16777216:=Nat.lt_of_le_of_lt h1 (bl rfl)
theorem ar74{a:Nat}(h1:¬a=0):0<a:=Nat.zero_lt_of_ne_zero h1
theorem ar76{a:Nat}(h1:a≤200):a<16777216:=Nat.lt_of_le_of_lt h1 (bl rfl)
theorem ar77{a:Nat}(h1:3≤a):0<a:=Nat.zero_lt_of_lt h1
theorem ar78 : 1≤16777216:=Nat.le_of_ble_eq_true rfl
theorem ar79{a:Nat}:0≤(↑a:Int)+1:=Int.zero_le_ofNat (a+1)
theorem ar80{a:Nat}(h1:a≤100):(↑a:Int)+1≤1000000:=by lia
theorem ar81{a:Nat}:((↑a:Int)+1).toNat=a+1:=Int.toNat_natCast_add_one
theorem ar82{a:Nat}(h1:3≤a):2≤a-1:=Nat.le_sub_one_of_lt h1
theorem ar83{a b c:Nat}(h1:a<b)(h2:b≤c):a<c:=Nat.lt_of_lt_of_le h1 h2
theorem ar85{a b:Nat}(h1:a<b):a≤b-1:=Nat.le_sub_one_of_lt h1
theorem ar86{a b:Nat}(h1:a<b):b-1<b:=Nat.sub_one_lt_of_lt h1
theorem ar90{a b:Nat}(h1:a<b):a-1<b:=Nat.sub_lt_of_lt h1
theorem ar92{a b:Nat}(h1:a≤b)(h2:b≤a):a=b:=Nat.le_antisymm h1 h2
theorem ar93{a b:Nat}(h1:¬a<b)(h2:¬a=b):b<a:=by lia
theorem ar95{a:Nat}(h1:3≤a):1<a-1:=Nat.lt_sub_of_add_lt h1
theorem ar96{a:Nat}(h1:a≤101):a<1000:=Nat.lt_of_le_of_lt h1 (bl rfl)
theorem ar97{a:Nat}(h1:a<a):False:=by simp_all
theorem ar98{a:Nat}(h1:¬a=0):¬(↑a:Int)=0:=Int.ofNat_ne_zero.mpr h1
theorem ar99{a b:Nat}(h1:0<a)(h2:b=0)(h3:b=a):False:=by subst_vars;exact Nat.not_succ_le_zero 0 h1
theorem ar100{a b:Nat}(h1:a<b)(h2:b≤a):False:=absurd h1 (Nat.not_lt.2 h2)
theorem ar101{a b:Nat}(h1:a<b):a<b:=by omega
theorem ar102{a b c:Nat}(h1:a<b)(h2:b≤c):a≤c:=by lia
theorem ar103{a:Nat}(h1:a≤7):a<18446744073709551616:=Nat.lt_of_le_of_lt h1 (bl rfl)
theorem ar104{a:Nat}(h1:1≤a):¬(↑a:Int)=0:=Int.natCast_ne_zero_iff_pos.mpr h1
theorem ar107 : 1≤1:=by solve_by_elim
theorem ar108 : 1≤7:=Nat.le_of_ble_eq_true rfl
theorem ar109{a:Nat}(h1:a≤7):a-1≤6:=Nat.sub_le_of_le_add h1
theorem ar111{a:Nat}(h1:6≤a):0<a:=Nat.zero_lt_of_lt h1
theorem ar112 : 0≤127*(1-1)+0:=by solve_by_elim
theorem ar113{a:Nat}(h1:a≤4000):a≤4000+0:=by omega
theorem ar114{a:Nat}(h1:6≤a):5≤a-1:=Nat.le_sub_one_of_lt h1
theorem ar115{a:Nat}(h1:6≤a):1≤a-1:=Nat.le_sub_of_add_le (Nat.le_trans (bl rfl) h1)
theorem ar116{a b:Int}(h1:a<b):a≠b:=Int.ne_of_lt h1
theorem ar117{a:Int}{b:Nat}(h1:0≤a∧a < ↑b):a.toNat<b:=by simp_all
theorem ar119{a:Nat}(h1:a<7):a≤6:=Nat.le_sub_one_of_lt h1
theorem ar120{a:Nat}(h1:a≤7)(h2:a≥7):a=7:=Nat.le_antisymm h1 h2
theorem ar124{a:Nat}(h1:6≤a):1<a-1:=Nat.le_sub_of_add_le (Nat.le_trans (bl rfl) h1)
theorem ar126{a:Nat}:1≤a+1:=Nat.le_add_left 1 a
theorem ar127{a:Nat}(h1:a≤6):a+1≤7:=Nat.succ_le_succ h1
theorem ar129{a:Nat}(h1:¬0<a):a≤0:=Nat.le_of_not_lt h1
theorem ar130{a:Nat}(h1:¬0<a):a=0:=Nat.eq_zero_of_not_pos h1
theorem ar131{a:Nat}(h1:6≤a):2<a-1:=Nat.le_sub_of_add_le (Nat.le_trans (bl rfl) h1)
theorem ar132{a:Nat}(h1:1≤a):(↑a:Int)≠0:=Int.natCast_ne_zero_iff_pos.mpr h1
theorem ar133{a:Nat}(h1:1≤a):a≠0:=Nat.ne_zero_of_lt h1
theorem ar134{a b c:Nat}(h1:a=b+1)(h2:c≤b):c<a:=by subst_vars;exact Nat.lt_succ_of_le h2
theorem ar135{a:Nat}:((↑a:Int)*1).natAbs=a:=by simp
theorem ar136{a:Nat}:((↑a:Int) * -1).natAbs=a:=by simp
theorem ar137{a b:Nat}(h1:a≤100)(h2:b≤a):b<18446744073709551616:=Nat.lt_of_le_of_lt h2 (Nat.lt_of_le_of_lt h1 (bl rfl))
theorem ar138{a:Int}{b:Nat}(h1:a.natAbs=b)(h2:1≤b):a≠0:=by subst_vars;exact Int.natAbs_pos.mp h2
theorem ar139{a:Int}{b c:Nat}(h1:a.natAbs=b)(h2:b≤c):a.natAbs≤c:=le_of_eq_of_le h1 h2
theorem ar141{a b:Nat}(h1:a≤100)(h2:b+1≤a):b<1000:=Nat.le_trans h2 (Nat.le_trans h1 (bl rfl))
theorem ar142{a b c:Nat}(h1:a≤100)(h2:b+1≤a)(h3:c≤b):c<1000:=by apply Nat.le_of_not_lt;lia
theorem ar144{a:Nat}(h1:6≤a):0<a-1:=Nat.le_sub_of_add_le (Nat.le_trans (bl rfl) h1)
theorem ar145{a b c:Nat}(h1:a≤127∧b≤889)(h2:c≤b):c<16777216:=by apply Nat.le_of_not_lt;lia
theorem ar146{a b c d e:Nat}(h1:a=(1000-b)*1000+(10-c)*200+(d-e)+1):0<a:=Nat.lt_of_sub_eq_succ h1
theorem ar148{a:Int}{b:Nat}(h1:a = ↑b):0≤a:=by subst_vars;exact Int.natCast_nonneg b
theorem ar149{a:Int}{b c:Nat}(h1:a = ↑b)(h2:b<c):a.toNat<c:=by subst_vars;assumption
theorem ar150{a:Int}{b:Nat}(h1:a = ↑b):b=a.toNat:=by subst_vars;rfl
theorem ar152{a b:Nat}(h1:a<b):min a b=a:=Nat.min_eq_left (Nat.le_of_lt h1)
theorem ar153{a b c d:Nat}(h1:a+1≤b)(h2:b≤a):c<d:=absurd h2 (Nat.not_le.2 h1)
theorem ar155{a:Nat}(h1:1≤a)(h2:(↑a:Int)=0):False:=by simp_all
theorem ar160{a b:Nat}(h1:a≤100)(h2:b≤a+1):b≤16777216:=by lia
theorem ar163{a:Nat}(h1:(↑a:Int)=0):a=0:=Int.ofNat.inj h1
theorem ar165{a b:Nat}(h1:a≤b):a+1≤b+1:=Nat.lt_succ_of_le h1
theorem ar166{a b c d:Nat}(h1:a+1≤b)(h2:b=a):c<d:=by subst_vars;lia
theorem ar169{a b:Nat}(h1:a<b):a<b+1:=Nat.lt_succ_of_lt h1
theorem ar171{a b c d:Nat}(h1:a<b)(h2:a=b):c=d:=by simp_all
theorem ar172{a b:Nat}(h1:a<b):a≤b:=Nat.le_of_succ_le h1
theorem ar173{a b:Nat}(h1:a<b)(h2:a=b):False:=by simp_all
theorem ar175{a:Nat}(h1:a<2):a=0∨a=1:=by lia
theorem ar176 : 0<16777216:=Nat.zero_lt_succ 16777215
theorem ar177{a:Int}(h1:a≠0):¬-a=a:=by lia
theorem ar178{a:Nat}(h1:3≤a):0<a-1:=Nat.le_sub_of_add_le (Nat.le_trans (bl rfl) h1)
theorem ar179{a:Nat}(h1:2≤a):¬(↑a:Int)=1:=by lia
theorem ar180{a:Nat}(h1:2≤a):a≠1:=Nat.ne_of_gt h1
theorem ar181{a:Int}(h1:a = -1):¬a=0:=by subst_vars;exact PyProof.Rows.bi_ine.mp rfl
theorem ar182{a:Nat}: ↑a%2=(↑(a%2):Int):=rfl
theorem ar183{a:Nat}(h1:a%2=1):(↑a:Int)+1-2*((↑a:Int)%2)=(↑a:Int)-1:=by lia
theorem ar185{a:Nat}(h1:¬a=0):a/2<a:=Nat.bitwise_rec_lemma h1
theorem ar188{a:Nat}(h1:a<1000):a<16777216:=Nat.lt_of_lt_of_le h1 (Nat.le_add_left _ _)
theorem ar189{a:Nat}(h1:a=1):(↑a:Int)=1:=by solve_by_elim
theorem ar190{a:Nat}(h1:¬a=1):¬(↑a:Int)=1:=Nat.ToInt.of_diseq rfl rfl h1
theorem ar191{a b:Nat}(h1:a=b):(↑a:Int)=(↑b:Int):=by solve_by_elim
theorem ar193{a b:Nat}(h1:¬a=b):¬(↑a:Int)=(↑b:Int):=Nat.ToInt.of_diseq rfl rfl h1
theorem ar194{a b c d:Nat}(h1:(↑a:Int)=(↑b:Int)∧(↑c:Int)=(↑d:Int)):a=b:=by lia
theorem ar196{a b:Nat}(h1:a<b):a≠b:=Nat.ne_of_lt h1
theorem ar197{a b:Nat}(h1:a-b=0)(h2:¬a<b):a=b:=Nat.le_antisymm (Nat.le_of_sub_eq_zero h1) (Nat.le_of_not_lt h2)
theorem ar198{a b:Nat}(h1:a<1000)(h2:b≤a):b<16777216:=Nat.lt_of_le_of_lt h2 (Nat.lt_of_lt_of_le h1 (bl rfl))
theorem ar201{a b:Nat}(h1:¬a<b):b=min b a:=by simp_all
theorem ar202{a b:Nat}(h1:¬a<b):a=max b a:=by simp_all
theorem ar203{a:Nat}(h1:a%2=1):(↑a:Int)%2=1:=congrArg _ h1
theorem ar204{a:Nat}(h1:¬a%2=1):¬(↑a:Int)%2=1:=Nat.ToInt.of_diseq rfl rfl h1
theorem ar206{a:Nat}(h1:a≠0):1≤a:=Nat.pos_of_ne_zero h1
theorem ar207{a b:Nat}(h1:a≤b)(h2:¬b=a):a+1≤b:=Nat.lt_of_le_of_ne h1 (Ne.symm h2)
theorem ar208{a b c d:Nat}(h1:a/2<b)(h2:b<c)(h3:d=c):a/2<d:=by subst_vars;exact Nat.lt_trans h1 h2
theorem ar211{a:Nat}:((↑a:Int)/2).toNat=a/2:=Nat.add_zero (a.div 2)
theorem ar212{a:Nat}:0≤(↑a:Int)/2:=Int.zero_le_ofNat (a/2)
theorem ar213{a b c:Nat}(h1:a/2<b)(h2:c=b):a/2<c:=Nat.lt_of_lt_of_le h1 (Nat.le_of_eq h2.symm)
theorem ar214{a:Nat}(h1:0<a): ↑a-1=(↑(a-1):Int):=(Int.ofNat_sub h1).symm
theorem ar215{a:Nat}:0≤(↑(a-1):Int):=Int.natCast_nonneg (a-1)
theorem ar219{a b c:Nat}(h1:a=b-1-c):b-(c+1)=a:=by grind_order
theorem ar222{a:Nat}(h1:2≤a):0<a-1:=Nat.zero_lt_sub_of_lt h1
theorem ar224{a:Nat}(h1:0<a):a-(a-1)=1:=Nat.sub_sub_self h1
theorem ar225{a b c:Nat}(h1:a<b)(h2:c=b):a<c:=Nat.lt_of_lt_of_le h1 (Nat.le_of_eq h2.symm)
theorem ar226{a b c:Nat}(h1:a<b)(h2:b=c):a<c:=Nat.lt_of_lt_of_eq h1 h2
theorem ar227{a b c:Nat}(h1:a=b)(h2:¬c<a):¬c<b:=h1▸h2
theorem ar229{a b:Nat}(h1:a<1000)(h2:b≤a):b≤16777216:=Nat.le_trans h2 (Nat.le_trans (Nat.le_of_lt h1) (bl rfl))
theorem ar231{a:Nat}(h1:a≤3*1000):a<16777216:=Nat.lt_of_le_of_lt h1 (bl rfl)
theorem ar232{a:Nat}(h1:a≤3*1000):a+1<16777216:=by apply Nat.le_of_not_lt;lia
theorem ar233{a:Nat}(h1:a≤3*1000):a+2<16777216:=by apply Nat.le_of_not_lt;lia
theorem ar234{a b:Nat}(h1:a≤100)(h2:b≤a+1):b<16777216:=by apply Nat.le_of_not_lt;lia
theorem ar235{a b:Nat}(h1:a<4000)(h2:b=a):b<16777216:=by subst_vars;lia
theorem ar238{a:Nat}: -((↑a:Int)+1)≠0:=Ne.symm ((fun {x y}=>PyProof.Rows.bi_ine.mp) rfl)
theorem ar239{a b:Nat}(h1:a<b):(-((↑a:Int)+1)).natAbs≤b:=by assumption
theorem ar241{a:Int}(h1:a≠0):a≠0:=by omega
theorem ar243{a:Int}{b:Nat}(h1:a.natAbs=b/2+1)(h2:b/2≠0):a.natAbs≠1:=by simp_all
theorem ar245{a:Nat}:(↑a:Int)+1≠0:=Ne.symm ((fun {x y}=>PyProof.Rows.bi_ine.mp) rfl)
theorem ar246{a b:Nat}(h1:a<b):((↑a:Int)+1).natAbs≤b:=by assumption
theorem ar247{a:Nat}(h1:a≠0):((↑a:Int)+1).natAbs≠1:=Ne.symm ((fun {a b}=>Nat.add_one_ne_add_one_iff.mpr) (id (Ne.symm h1)))
theorem ar248{a:Int}{b c d:Nat}(h1:a.natAbs=b/2+1)(h2:b/2<c)(h3:c<d):(-a).natAbs≤d:=by simp;lia
theorem ar249{a:Int}{b:Nat}(h1:a.natAbs=b/2+1)(h2:b/2≠0):(-a).natAbs≠1:=by simp_all
theorem ar251{a:Nat}(h1:8≤a):6≤a:=Nat.le_of_add_left_le h1
theorem ar252{a:Nat}(h1:8≤a):0<a:=Nat.zero_lt_of_lt h1
theorem ar253{a b:Nat}(h1:a≤100)(h2:b≤a):b≤16777216:=Nat.le_trans h2 (Nat.le_trans h1 (bl rfl))
theorem ar254{a b c d:Nat}(h1:a<b)(h2:c=b)(h3:d=c+1):((↑a:Int)+1).toNat<d:=by subst_vars;exact Nat.lt_succ_of_le h1
theorem ar255{a b c:Nat}(h1:a≤100)(h2:b=a)(h3:c=b+1):c≤16777216:=by subst_vars;lia
theorem ar258{a:Nat}(h1:10≤a):0<a:=Nat.zero_lt_of_lt h1
theorem ar259{a:Nat}(h1:10≤a):0<a-1:=Nat.le_sub_of_add_le (Nat.le_trans (bl rfl) h1)
theorem ar261{a:Nat}(h1:10≤a):3≤a-1:=Nat.le_sub_of_add_le (Nat.le_trans (bl rfl) h1)
theorem ar263{a:Nat}(h1:a≤300):a≤16777216:=Nat.le_trans h1 (bl rfl)
theorem ar264{a b:Nat}(h1:a≤300):min b a<4000:=Nat.lt_of_le_of_lt (Nat.min_le_right _ _) (Nat.lt_of_le_of_lt h1 (bl rfl))
theorem ar265{a:Int}{b c:Nat}(h1:a.natAbs=b/2+1)(h2:b/2<c):a.natAbs≤c:=le_of_eq_of_le h1 h2
theorem ar266{a:Nat}(h1:a<1000):a<1000:=by omega
theorem ar267{a:Nat}(h1:10≤a):8≤a-1:=Nat.le_sub_of_add_le (Nat.le_trans (bl rfl) h1)
theorem ar269{a:Nat}(h1:a≤300):a<4000:=Nat.lt_of_le_of_lt h1 (bl rfl)
theorem ar272{a b:Nat}(h1:a<b):a+1≤b:=by assumption
theorem ar273{a:Nat}: ↑a/2=(↑(a/2):Int):=rfl
theorem ar275{a:Nat}(h1:a<60):3*a+2≤200:=by simp;lia
theorem ar276{a b c d:Nat}(h1:a≤200)(h2:a=3*(b-c)+d):d≤16777216:=by subst_vars;lia
theorem ar277{a b:Nat}(h1:a<60)(h2:b≤a):b<64:=Nat.lt_of_le_of_lt h2 (Nat.lt_of_lt_of_le h1 (bl rfl))
theorem ar279{a:Nat}(h1:a=0):a=0:=by omega
theorem ar280{a b c d:Nat}(h1:a=3*(b-c)+(d+1)):3*(b-c)+d<a:=by subst_vars;exact Nat.lt_add_one (3*(b-c)+d)
theorem ar282{a:Nat}(h1:¬a=0):¬a=0:=by omega
theorem ar283{a b:Nat}(h1:(↑a:Int)=(↑b:Int)):a=b:=Int.ofNat.inj h1
theorem ar284{a b:Nat}(h1:a<60)(h2:b≤a):b<16777216:=Nat.lt_of_le_of_lt h2 (Nat.lt_of_lt_of_le h1 (bl rfl))
theorem ar285{a:Nat}(h1:a<60):a≤16777216:=Nat.le_trans (Nat.le_of_lt h1) (bl rfl)
theorem ar291{a:Nat}(h1:a≤1000):(↑a:Int)≤1000:=Int.ofNat_le.2 h1
theorem ar292 : 2>0:=Nat.zero_lt_two
theorem ar293{a:Nat}(h1:a≤6):a≤1000:=Nat.le_trans h1 (bl rfl)
theorem ar294{a:Nat}(h1:a≤64):a≤1000:=Nat.le_trans h1 (bl rfl)
theorem ar295{a:Nat}(h1:0<a):(↑(a-1):Int) = ↑a-1:=Int.ofNat_sub h1
theorem ar297{a b:Nat}(h1:a≤6)(h2:b<a):b≤5:=Nat.le_sub_one_of_lt (Nat.lt_of_lt_of_le h2 h1)
theorem ar298{a:Nat}(h1:a≤2^5):a≤32:=by omega
theorem ar301{a:Nat}:0<(↑a:Int)+1:=Int.succ_ofNat_pos a
theorem ar303{a:Nat}: ↑a+1=(↑(a+1):Int):=Int.ofNat_add_one_out a
theorem ar304{a:Nat}:0≤a:=Nat.zero_le a
theorem ar305{a:Nat}:a=a-0:=rfl
theorem ar306{a:Nat}(h1:a%2=0):(↑(a%2):Int)=0:=by solve_by_elim
theorem ar307{a:Nat}(h1:a%2=0)(h2:a%2=1):False:=by simp_all
theorem ar309{a b:Nat}(h1:a≠b)(h2:a≤b):a+1≤b:=Nat.lt_of_le_of_ne h2 h1
theorem ar310{a:Nat}(h1:¬a%2=0):¬(↑(a%2):Int)=0:=Int.ofNat_ne_zero.mpr h1
theorem ar311{a:Nat}(h1:¬a%2=0):a%2=1:=Nat.mod_two_ne_zero.mp h1
theorem ar312{a:Nat}(h1:4≤a):0<a:=Nat.zero_lt_of_lt h1
theorem ar313{a:Nat}(h1:a≤6):a≤16777216:=Nat.le_trans h1 (bl rfl)
theorem ar314{a:Nat}(h1:4≤a):0<a-1:=Nat.le_sub_of_add_le (Nat.le_trans (bl rfl) h1)
theorem ar315{a:Nat}(h1:4≤a):2≤a-1:=Nat.le_sub_of_add_le (Nat.le_trans (bl rfl) h1)
theorem ar317{a:Nat}(h1:a≤6):a<7:=Nat.lt_succ_of_le h1
theorem ar318{a b:Nat}(h1:a<60)(h2:b≤a):b≤16777216:=Nat.le_trans h2 (Nat.le_trans (Nat.le_of_lt h1) (bl rfl))
theorem ar320{a:Nat}(h1:a≤100):a<16777216:=Nat.lt_of_le_of_lt h1 (bl rfl)
theorem ar321{a b:Nat}(h1:a≤6):min b a<16777216:=Nat.lt_of_le_of_lt (Nat.min_le_right _ _) (Nat.lt_of_le_of_lt h1 (bl rfl))
theorem ar322{a:Nat}(h1:12≤a):0<a:=Nat.zero_lt_of_lt h1
theorem ar323{a:Nat}(h1:12≤a):1≤a-1:=Nat.le_sub_of_add_le (Nat.le_trans (bl rfl) h1)
theorem ar325{a:Nat}(h1:a<60):a<1000:=Nat.lt_of_lt_of_le h1 (Nat.le_add_left _ _)
theorem ar326{a b:Nat}(h1:a<60)(h2:b≤a):b<1000:=Nat.lt_of_le_of_lt h2 (Nat.lt_of_lt_of_le h1 (bl rfl))
theorem ar328{a:Nat}(h1:a≤60):a≤16777216:=Nat.le_trans h1 (bl rfl)
theorem ar329{a:Nat}(h1:a≤6):(↑a:Int)≤6:=Int.ofNat_le.2 h1
theorem ar330{a:Nat}(h1:12≤a):5≤a-1:=Nat.le_sub_of_add_le (Nat.le_trans (bl rfl) h1)
theorem ar331{a:Nat}(h1:¬a≤6):¬(↑a:Int)≤6:=by lia
theorem ar332{a:Nat}(h1:12≤a):10≤a-1:=Nat.le_sub_of_add_le (Nat.le_trans (bl rfl) h1)
theorem ar334{a:Nat}(h1:a≤59):a<16777216:=Nat.lt_of_le_of_lt h1 (bl rfl)
theorem ar335{a:Nat}(h1:0<a):0<(↑a:Int):=Int.ofNat_lt.2 h1
theorem ar336{a:Nat}(h1:a≤59):a≤60:=Nat.le_succ_of_le h1
theorem ar337 : (0:Int)≤(30:Int):=Int.zero_le_ofNat 30
theorem ar338{a:Nat}(h1:a≤63):a≤16777216:=Nat.le_trans h1 (bl rfl)
theorem ar340{a:Nat}(h1:a≤50):a≤16777216:=Nat.le_trans h1 (bl rfl)
theorem ar341{a:Nat}(h1:a<50):(↑a:Int)<50:=Int.ofNat_lt.2 h1
theorem ar342 : (0:Int)<(157:Int):=by solve_by_elim
theorem ar344{a:Nat}(h1:a<50):a<16777216:=Nat.lt_of_lt_of_le h1 (Nat.le_add_left _ _)
theorem ar345{a:Nat}(h1:a<50):a≤49:=Nat.le_sub_one_of_lt h1
theorem ar349 : (0:Int)≤(2:Int):=Int.zero_le_ofNat 2
theorem ar350{a:Nat}(h1:a%2=0):(↑a:Int)%2=0:=congrArg _ h1
theorem ar353 : (0:Int)<(2:Int):=by solve_by_elim
theorem ar355{a b:Nat}(h1:a<60)(h2:b<a):b<16777216:=Nat.le_trans h2 (Nat.le_trans (Nat.le_of_lt h1) (bl rfl))
theorem ar356{a:Nat}(h1:a≤10):a≤16777216:=Nat.le_trans h1 (bl rfl)
theorem ar357{a b c:Nat}(h1:a≤10)(h2:b<a)(h3:c=b):(↑c:Int)≤1000:=by subst_vars;lia
theorem ar359{a:Nat}(h1:a≤2^10):a≤1024:=by omega
theorem ar361{a:Nat}(h1:a=0):a<16777216:=by subst_vars;exact Nat.zero_lt_succ 16777215
theorem ar362{a b c d:Nat}(h1:a≤200)(h2:a=3*(b-c)+(d+1)):d+2≤16777216:=by subst_vars;lia
theorem ar364{a:Int}(h1:a<0):0≤-a:=by lia
theorem ar367{a:Int}(h1:¬a<0):0≤a:=by simp_all
theorem ar370{a:Nat}(h1:a≤1000):a≤16777216:=Nat.le_trans h1 (bl rfl)
theorem ar371{a:Nat}(h1:1<a):0<a-1:=Nat.zero_lt_sub_of_lt h1
theorem ar386{a:Nat}(h1:13≤a):0<a:=Nat.zero_lt_of_lt h1
theorem ar387{a:Nat}(h1:a≤10):a≤10:=by omega
theorem ar388{a:Nat}(h1:a≤10):a≤1000:=Nat.le_trans h1 (bl rfl)
theorem ar389{a:Nat}(h1:a≤1024):a≤16777216:=Nat.le_trans h1 (bl rfl)
theorem ar390{a:Nat}(h1:13≤a):0<a-1:=Nat.le_sub_of_add_le (Nat.le_trans (bl rfl) h1)
theorem ar391{a b c:Nat}(h1:a≤1024)(h2:b<a)(h3:c≤b):c<16777216:=by apply Nat.le_of_not_lt;lia
theorem ar392{a:Nat}(h1:13≤a):12≤a-1:=Nat.le_sub_one_of_lt h1
theorem ar393{a b:Nat}(h1:a≤10)(h2:b≤a):b<64:=Nat.lt_of_le_of_lt h2 (Nat.lt_of_le_of_lt h1 (bl rfl))
theorem ar394{a b:Nat}(h1:a≤10)(h2:b<a):b≤1000:=by lia
theorem ar395{a:Nat}:a*2=a+a:=Nat.mul_two a
theorem ar397{a b:Nat}(h1:a<b+1)(h2:¬a=b):a<b:=by apply Nat.le_of_not_lt;lia
theorem ar399 : 7≤16777216:=Nat.le_of_ble_eq_true rfl
theorem ar400{a:Nat}(h1:a≤7):a≤16777216:=Nat.le_trans h1 (bl rfl)
theorem ar403{a:Nat}:(2*(a+1)+0)/2=a+1:=by simp
theorem ar404{a b c:Nat}(h1:a=b)(h2:b=c+1):c<a:=by subst_vars;exact Nat.lt_add_one c
theorem ar408(h1:1=0):False:=by trivial
theorem ar416{a b:Nat}(h1:a=2*(b+1)+1):2*((↑b:Int)+1)+1=(↑a:Int):=by subst_vars;rfl
theorem ar417{a b:Nat}(h1:a=2*(b+1)+0):2*((↑b:Int)+1)+0=(↑a:Int):=by subst_vars;exact Int.add_zero (2*(↑b+1))
theorem ar418{a:Nat}(h1:a≤20):a≤16777216:=Nat.le_trans h1 (bl rfl)
theorem ar419{a b:Nat}(h1:a≤20)(h2:b<a):b+1<1000:=Nat.lt_of_le_of_lt h2 (Nat.lt_of_le_of_lt h1 (bl rfl))
theorem ar420{a b:Nat}(h1:a≤20)(h2:b<a):b<1000:=Nat.le_trans h2 (Nat.le_trans h1 (bl rfl))
theorem ar424{a b:Nat}(h1:a<2*b-2):0<2*b-2:=Nat.zero_lt_of_lt h1
theorem ar425{a:Nat}:2 + ↑a=(↑(2+a):Int):=rfl
theorem ar428{a b c:Nat}(h1:a≤b+c):a≤b+(c+1):=Nat.le_succ_of_le h1
theorem ar432{a:Nat}(h1:2≤a):a/2≠0:=by simp_all
theorem ar433{a b:Nat}(h1:a≤50)(h2:b≤a):b<60:=Nat.lt_of_le_of_lt h2 (Nat.lt_of_le_of_lt h1 (bl rfl))
theorem ar434{a:Nat}(h1:a≤6):a≤10:=by solve_by_elim
theorem ar435{a b:Nat}(h1:a≤6)(h2:b≤a):b≤6:=Nat.le_trans h2 h1
theorem ar436 : 0<100:=Nat.zero_lt_succ 99
theorem ar437 : 0<99:=Nat.zero_lt_succ 98
theorem ar438 : 0<3:=Nat.zero_lt_succ 2
theorem ar439{a:Nat}(h1:a<3):2+a≤16777216:=by lia
theorem ar441{a b:Nat}(h1:a=2+b):3≤a+1:=by simp_all
theorem ar442 : 0<6:=Nat.zero_lt_succ 5
theorem ar443{a:Nat}(h1:a<6):a≤16777216:=Nat.le_trans (Nat.le_of_lt h1) (bl rfl)
theorem ar444 : 3≤100:=Nat.le_of_ble_eq_true rfl
theorem ar446{a b:Nat}(h1:a<3)(h2:b=2+a):b+1≤6:=by subst_vars;lia
theorem ar448{a b:Nat}(h1:a<3)(h2:b=2+a):b≤6:=by subst_vars;lia
theorem ar450{a b:Nat}(h1:a=2+b):2≤a:=Nat.le.intro (id (Eq.symm h1))
theorem ar454 : 7+1<50:=by simp
theorem ar455 : 0<10:=Nat.zero_lt_succ 9
theorem ar456 : 0<12:=Nat.zero_lt_succ 11
theorem ar457{a:Nat}(h1:a+0≤7+1+7):a<50:=Nat.lt_of_le_of_lt h1 (bl rfl)
theorem ar459{a:Nat}(h1:a<1000):a≤999:=Nat.le_sub_one_of_lt h1
theorem ar463{a b:Nat}(h1:a<b):¬a=b:=Nat.ne_of_lt h1
theorem ar464{a b:Nat}(h1:a+1<b):a<b:=Nat.lt_of_succ_lt h1
theorem ar465{a:Int}{b:Nat}(h1:0≤a∧a.toNat<2*b+2∧2≤a):a.toNat<2*b+2:=by simp_all
theorem ar466{a b:Nat}(h1:a<b):¬b≤a:=Nat.not_le_of_lt h1
theorem ar467{a b:Nat}(h1:a≤b):b=a+(b-a):=Eq.symm (Nat.add_sub_of_le h1)
theorem ar468{a b:Nat}(h1:a≤1000):min b a≤16777216:=Nat.le_trans (Nat.min_le_right _ _) (Nat.le_trans h1 (bl rfl))
theorem ar470{a b:Nat}(h1:a+1≤b):a<b:=by assumption
theorem ar471{a b:Nat}(h1:a≤1000):min b a<16777216:=Nat.lt_of_le_of_lt (Nat.min_le_right _ _) (Nat.lt_of_le_of_lt h1 (bl rfl))
theorem ar475{a b:Nat}(h1:a+1≤b):a≤b:=Nat.le_of_succ_le h1
theorem ar479{a:Int}(h1:1≤0):a=0:=by trivial
theorem ar480{a:Nat}{b:Int}(h1:1≤a)(h2:a≤0):b≠0:=absurd h2 (Nat.not_le.2 h1)
theorem ar481{a:Nat}:1 + ↑a=(↑(a+1):Int):=by simp;lia
theorem ar484{a b:Nat}(h1:a<b+1-1):a+1≤b:=by assumption
theorem ar485{a b c:Nat}(h1:a=b+1)(h2:c≤b):(↑c:Int).toNat<a:=by subst_vars;exact Nat.lt_succ_of_le h2
theorem ar486{a b:Nat}(h1:a≤b+1)(h2:¬a=b+1):a≤b:=by lia
theorem ar487{a b:Nat}(h1:a≤b):a≤b+1-1:=by assumption
theorem ar488{a:Nat}(h1:¬a=0):1≤a:=Nat.pos_of_ne_zero h1
theorem ar489{a:Nat}(h1:0<a):0<a:=by omega
theorem ar492 : 0≤64:=Nat.zero_le 64
theorem ar493{a:Nat}(h1:a<64):a+1≤64:=by assumption
theorem ar495{a b:Nat}(h1:a+64<b):a<b:=Nat.lt_of_add_right_lt h1
theorem ar497{a:Int}(h1:0≤a):¬a<0:=Int.not_lt_of_ge h1
theorem ar503{a:Int}(h1:0≤a∧a≤1000000):a.toNat≤1000000:=by simp_all
theorem ar504{a:Int}(h1:0≤a∧a≤1000000):a≤16777216:=by lia
theorem ar505{a b c:Nat}(h1:a<b)(h2:c=a):c≤b:=by subst_vars;exact Nat.le_of_succ_le h1
theorem ar508{a b c d:Nat}(h1:a=b)(h2:c≤d)(h3:b≤c):a≤d:=by subst_vars;exact Nat.le_trans h3 h2
theorem ar509{a b:Nat}(h1:a≤19)(h2:b≤a):b≤16777216+1:=Nat.le_trans h2 (Nat.le_trans h1 (bl rfl))
theorem ar515 : 0≤(↑16777216:Int):=Int.zero_le_ofNat 16777216
theorem ar516{a:Int}{b:Nat}:a + ↑b=a + ↑b*1:=by simp
theorem ar522{a:Nat}(h1:a≤16777216):a≤2^24:=by omega
theorem ar523{a b c:Nat}(h1:a=b)(h2:¬c<b):a≤c:=by subst_vars;exact Nat.le_of_not_lt h2
theorem ar524{a b:Nat}(h1:a<64)(h2:b=a):b≤16777216:=by subst_vars;lia
theorem ar525{a b c:Nat}(h1:a<64)(h2:b=c)(h3:c=a):b<64:=by subst_vars;omega
theorem ar530{a b c d:Nat}(h1:a<b)(h2:b<c)(h3:d=c):a<d:=by subst_vars;exact Nat.lt_trans h1 h2
theorem ar531{a b c:Nat}(h1:a<b)(h2:b<c):a<c:=Nat.lt_trans h1 h2
theorem ar532{a:Nat}(h1:a<29):a<30:=Nat.lt_succ_of_lt h1
theorem ar537{a b:Nat}(h1:a<b):0<(↑b:Int)-(↑a:Int):=by simp;omega
theorem ar538{a b c:Int}:a+(b+c)=a+b+c:=Eq.symm (Int.add_assoc a b c)
theorem ar539{a b:Nat}: ↑a-(↑(b+1):Int) = ↑a - ↑b-1:=by simp;lia
theorem ar541{a b:Nat}(h1:a=b+1):b≠a:=by subst_vars;exact Nat.ne_add_one b
theorem ar544{a:Nat}:a≤a+1:=by solve_by_elim
theorem ar547{a b:Nat}(h1:a+2*(b+1)<900):a+1+2*b<900:=by lia
theorem ar549{a:Int}(h1:a<0):¬-a<0:=by lia
theorem ar550{a:Int}(h1:a≠0)(h2:¬a<0): -a<0:=by lia
theorem ar551{a:Int}(h1:a<0)(h2:a=1): -a=1:=by simp_all
theorem ar552{a:Int}(h1:a<0)(h2:a=0): -a=1:=by simp_all
theorem ar553{a:Int}(h1:a = -1): -a=1:=congrArg _ h1
theorem ar556{a:Int}{b c:Nat}(h1:a≤↑b)(h2:b≤c):a≤↑c:=by lia
theorem ar558{a:Int}(h1:a≠0)(h2:¬a<0):0<a:=by lia
theorem ar560{a:Int}{b:Nat}(h1:0≤a∧a < ↑b):a<(↑(b+1):Int):=by simp;lia
theorem ar561{a:Int}{b:Nat}(h1:a < ↑b):a≤↑b:=Int.le_of_lt h1
theorem ar562{a b:Nat}(h1:a=0)(h2:b≤a):b=0:=by subst_vars;exact Nat.eq_zero_of_le_zero h2
theorem ar563{a b:Nat}(h1:a<b)(h2:(↑b:Int)=(↑a:Int)):False:=by lia
theorem ar564 : 0≠1:=Nat.zero_ne_one
theorem ar565{a:Nat}(h1:a<5000):a+1≤5000:=by assumption
theorem ar566{a:Int}(h1:a = -a)(h2:a≠0):False:=by grind_order
theorem ar567{a b:Nat}(h1:a≤b):a<b+1:=Nat.lt_succ_of_le h1
theorem ar568{a b:Nat}(h1:a<b):a+0<b+1:=Nat.lt_succ_of_lt h1
theorem ar569{a b:Nat}(h1:a<b):a+0<b+0:=by omega
theorem ar570{a b:Nat}(h1:a=0)(h2:¬a<b):b=0:=by subst_vars;exact Nat.eq_zero_of_not_pos h2
theorem ar571{a:Nat}:a<a+1:=Nat.lt_add_one a
theorem ar573{a b c:Nat}(h1:a/2<b)(h2:b<c):a/2<c:=Nat.lt_trans h1 h2
theorem ar576{a:Nat}: -(↑(a/2+1):Int)≠0:=Ne.symm ((fun {x y}=>PyProof.Rows.bi_ine.mp) rfl)
theorem ar577{a:Nat}:(↑(a/2+1):Int)≠0:=Ne.symm ((fun {x y}=>PyProof.Rows.bi_ine.mp) rfl)
theorem ar580{a:Nat}:¬(↑a:Int)+1<0:=of_decide_eq_false rfl
theorem ar581{a b:Nat}(h1:a<b)(h2:b<a):b=a:=by lia
theorem ar582{a:Int}{b c:Nat}(h1:a = ↑b)(h2:a = ↑c):b=c:=by subst_vars;exact Int.ofNat_inj.mp h2
theorem ar583{a b c d:Nat}(h1:a<b)(h2:c<d)(h3:b=c)(h4:a=d):False:=by subst_vars;lia
theorem ar584{a b:Nat}(h1:a≥b)(h2:¬b<a):a=b:=by lia
theorem ar585{a:Nat}:2*a/2=a:=by simp
theorem ar586{a:Nat}:¬2*a%2=1:=by simp
theorem ar587{a:Nat}:(↑(2*a/2+1):Int) = ↑a+1:=by simp
theorem ar588{a:Nat}(h1:a≠0):2≤2*a:=by lia
theorem ar590{a b:Nat}(h1:a/2+1=b+1):a/2=b:=Eq.symm (Nat.add_right_cancel (id (Eq.symm h1)))
theorem ar591{a b:Nat}(h1:a/2=b):a/2+1=b+1:=congrArg _ h1
theorem ar593{a:Nat}(h1:2≤a∧a≤8):a-1≤7:=by simp_all
theorem ar599{a:Nat}(h1:2≤a):a-1≠0:=Nat.sub_ne_zero_iff_lt.mpr h1
theorem ar602{a b c d:Nat}(h1:a=b+1)(h2:c+a≤d+7):c+b≤d+7:=by subst_vars;exact Nat.le_of_succ_le h2
theorem ar605{a b:Nat}(h1:a/2=b+1):1≤a/2:=by simp_all
theorem ar606{a b:Nat}(h1:a<7)(h2:b/2=a+1):b/2≤7:=le_of_eq_of_le h2 h1
theorem ar608{a b c:Nat}(h1:a/2=b+1)(h2:c=b):c+1=a/2:=by simp_all
theorem ar610{a:Nat}(h1:a<7):a+1≤7:=by assumption
theorem ar611{a b c:Nat}(h1:a+1<b)(h2:c/2=a+1):c/2<b:=lt_of_eq_of_lt h2 h1
theorem ar612{a b:Nat}(h1:a=2*b):a/2=b:=by simp_all
theorem ar616{a b:Nat}(h1:a<b):a+1<b+1:=Nat.add_lt_add_right h1 1
theorem ar619{a:Nat}(h1:a≠0):a-1+1=a:=Nat.succ_pred_eq_of_ne_zero h1
theorem ar620{a:Nat}(h1:3≤a):2≤a:=Nat.le_of_lt h1
theorem ar622 : 0<7:=Nat.zero_lt_succ 6
theorem ar623 : 1<7:=Nat.one_lt_succ_succ 5
theorem ar624 : 2<7:=by simp
theorem ar625{a b:Nat}(h1:0=a∨1=b/2)(h2:1=a∨2=b/2)(h3:2=a∨3=b/2):False:=by lia
theorem ar627{a:Nat}(h1:a≤7):¬a-1=9:=by simp;lia
theorem ar628{a:Nat}(h1:1≤a):a-1+1=a:=Nat.sub_add_cancel h1
theorem ar636{a b:Nat}(h1:a+1<b+1):a<b:=Nat.le_of_lt_succ h1
theorem ar637 : 1≠0:=Nat.one_ne_zero
theorem ar639{a:Nat}(h1:2≤a):a≠0:=Nat.ne_zero_of_lt h1
theorem ar640{a:Int}{b:Nat}(h1:a≤↑b):a≤(↑(b+1):Int):=by simp;lia
theorem ar642{a b:Nat}(h1:a≠b)(h2:a≤b):a<b:=Nat.lt_of_le_of_ne h2 h1
theorem ar643{a b:Nat}(h1:a≤b)(h2:¬a=b):a<b:=Nat.lt_of_le_of_ne h1 h2
theorem ar646{a b c:Nat}(h1:a<b+1+c):a<b+1+(c+1):=Nat.lt_succ_of_lt h1
theorem ar647{a b:Nat}:a+1+b<a+1+(b+1):=Nat.lt_add_one (a+1+b)
theorem ar648{a:Int}{b:Nat}(h1:a < ↑b)(h2:0≤a):a.toNat<b:=(Int.toNat_lt h2).2 h1
theorem ar649{a:Int}(h1:0≤a):a=(↑a.toNat:Int):=(Int.toNat_of_nonneg h1).symm
theorem ar651{a b:Nat}(h1:¬a=0):b<b+a:=by simp;lia
theorem ar654{a b:Nat}(h1:a=0):b=b+a:=by simp;omega
theorem ar655{a b:Nat}(h1:a<b):min (a+1) b=a+1:=Nat.min_eq_left h1
theorem ar657{a b c:Nat}(h1:a=b+1):b+1≤a+c:=by subst_vars;exact Nat.le_add_right (b+1) c
theorem ar658{a b:Nat}(h1:(↑a:Int)≤(↑b:Int)):a≤b:=Int.ofNat_le.1 h1
theorem ar659{a b:Nat}(h1:a≤1000):min b a≤1000:=Nat.le_trans (Nat.min_le_right _ _) (Nat.le_trans h1 (bl rfl))
theorem ar661{a b:Nat}(h1:a<b):(↑a:Int)<(↑b:Int):=Int.ofNat_lt.2 h1
theorem ar662{a b c d e:Nat}(h1:a+1≤b)(h2:c≤a)(h3:b≤c):d<e:=by lia
theorem ar664{a:Nat}(h1:a<5000):a≤4999:=Nat.le_sub_one_of_lt h1
theorem ar665{a:Nat}(h1:0<a):1≤a:=by assumption
theorem ar666{a:Int}{b c:Nat}(h1:a < ↑b)(h2:c=b):a≤↑c:=by subst_vars;exact Int.le_of_lt h1
theorem ar667{a b:Nat}(h1:a=b):a≤b+1:=by subst_vars;exact Nat.le_add_right b 1
theorem ar668 : 1≤128:=Nat.le_of_ble_eq_true rfl
theorem ar669{a b:Nat}(h1:(↑a:Int)<(↑b:Int)):a≤b:=by lia
theorem ar671{a b:Nat}(h1:a+1=b):b≤a+1:=Nat.le_of_eq (id (Eq.symm h1))
theorem ar672{a b:Nat}(h1:a<b+1)(h2:¬a<b):a=b:=Nat.eq_of_lt_succ_of_not_lt h1 h2
theorem ar673{a b:Nat}(h1:(↑a:Int)=(↑b:Int)):b=a:=Int.ofNat_inj.mp (id (Eq.symm h1))
theorem ar674{a b c:Nat}(h1:a+b+c≤128):a+b+c≤128:=by omega
theorem ar676{a:Nat}(h1:1≤a):a=a-1+1:=(Nat.sub_add_cancel h1).symm
theorem ar678{a b c:Nat}:a+b≤a+(b+c):=by simp
theorem ar679{a b:Nat}:a≤a+b:=Nat.le_add_right a b
theorem ar681{a:Int}(h1:a≠0)(h2:a.natAbs≠1):2≤a.natAbs:=by lia
theorem ar682{a b:Nat}(h1:(↑a:Int)<(↑b:Int)):min a b=a:=by lia
theorem ar683{a b c:Nat}(h1:a=b)(h2:(↑c:Int)<(↑b:Int)):c<a:=by subst_vars;exact Int.ofNat_lt.mp h2
theorem ar684{a b c:Nat}(h1:a=b)(h2:(↑c:Int)<(↑b:Int)):c≤a:=by subst_vars;lia
theorem ar685{a b:Nat}(h1:a+1≥b)(h2:a<b):a+1=b:=Nat.le_antisymm h2 h1
theorem ar686{a b:Nat}(h1:a<b):1≤b:=Nat.one_le_of_lt h1
theorem ar687{a b c d e:Nat}(h1:a<b)(h2:c=b)(h3:c≤a):d≤e:=by subst_vars;lia
theorem ar689{a b:Nat}(h1:(↑(a+1):Int) < ↑b):a+1<b:=Int.ofNat_lt.1 h1
theorem ar690{a:Nat}(h1:a=a+1):False:=by simp_all
theorem ar691{a b c:Nat}(h1:a+1<b)(h2:c=b):a+1<c:=Nat.lt_of_lt_of_le h1 (Nat.le_of_eq h2.symm)
theorem ar693{a:Nat}(h1:a<900):a≤999:=Nat.le_trans (Nat.le_of_lt h1) (bl rfl)
theorem ar695{a:Nat}:0≤(↑a:Int)∧(↑a:Int)<(↑(a+1):Int):=by simp;lia
theorem ar696{a:Int}(h1:a≠0):1≤a.natAbs:=Int.natAbs_pos.2 h1
theorem ar697{a:Int}(h1 : -a=1):¬a=1:=by lia
end
section
set_option genSizeOf true
set_option bootstrap.genMatcherCode true
set_option genInjectivity true
set_option tactic.hygienic true
set_option backward.match.sparseCases true
theorem oa{p0:Prop}{p1:Prop}{G:Prop}(h:p0∧p1)(k:p0→p1→G):G:=k h.1 h.2
theorem oa2{p0:Prop}{p1:Prop}{p2:Prop}{G:Prop}(h:p0∧p1∧p2)(k:p0→p1→p2→G):G:=k h.1 h.2.1 h.2.2
theorem oa3{p0:Prop}{p1:Prop}{p2:Prop}{p3:Prop}{G:Prop}(h:p0∧p1∧p2∧p3)(k:p0→p1→p2→p3→G):G:=k h.1 h.2.1 h.2.2.1 h.2.2.2
theorem oa4{p0:Prop}{p1:Prop}{p2:Prop}{p3:Prop}{p4:Prop}{G:Prop}(h:p0∧p1∧p2∧p3∧p4)(k:p0→p1→p2→p3→p4→G):G:=k h.1 h.2.1 h.2.2.1 h.2.2.2.1 h.2.2.2.2
theorem oa5{p0:Prop}{p1:Prop}{p2:Prop}{p3:Prop}{p4:Prop}{p5:Prop}{G:Prop}(h:p0∧p1∧p2∧p3∧p4∧p5)(k:p0→p1→p2→p3→p4→p5→G):G:=k h.1 h.2.1 h.2.2.1 h.2.2.2.1 h.2.2.2.2.1 h.2.2.2.2.2
theorem oa6{p0:Prop}{p1:Prop}{p2:Prop}{p3:Prop}{p4:Prop}{p5:Prop}{p6:Prop}{G:Prop}(h:p0∧p1∧p2∧p3∧p4∧p5∧p6)(k:p0→p1→p2→p3→p4→p5→p6→G):G:=k h.1 h.2.1 h.2.2.1 h.2.2.2.1 h.2.2.2.2.1 h.2.2.2.2.2.1 h.2.2.2.2.2.2
theorem oa7{p0:Prop}{p1:Prop}{p2:Prop}{p3:Prop}{p4:Prop}{p5:Prop}{p6:Prop}{p7:Prop}{G:Prop}(h:p0∧p1∧p2∧p3∧p4∧p5∧p6∧p7)(k:p0→p1→p2→p3→p4→p5→p6→p7→G):G:=k h.1 h.2.1 h.2.2.1 h.2.2.2.1 h.2.2.2.2.1 h.2.2.2.2.2.1 h.2.2.2.2.2.2.1 h.2.2.2.2.2.2.2
theorem oa8{p0:Prop}{p1:Prop}{p2:Prop}{p3:Prop}{p4:Prop}{p5:Prop}{p6:Prop}{p7:Prop}{p8:Prop}{G:Prop}(h:p0∧p1∧p2∧p3∧p4∧p5∧p6∧p7∧p8)(k:p0→p1→p2→p3→p4→p5→p6→p7→p8→G):G:=k h.1 h.2.1 h.2.2.1 h.2.2.2.1 h.2.2.2.2.1 h.2.2.2.2.2.1 h.2.2.2.2.2.2.1 h.2.2.2.2.2.2.2.1 h.2.2.2.2.2.2.2.2
theorem oa9{p0:Prop}{p1:Prop}{p2:Prop}{p3:Prop}{p4:Prop}{p5:Prop}{p6:Prop}{p7:Prop}{p8:Prop}{p9:Prop}{G:Prop}(h:p0∧p1∧p2∧p3∧p4∧p5∧p6∧p7∧p8∧p9)(k:p0→p1→p2→p3→p4→p5→p6→p7→p8→p9→G):G:=k h.1 h.2.1 h.2.2.1 h.2.2.2.1 h.2.2.2.2.1 h.2.2.2.2.2.1 h.2.2.2.2.2.2.1 h.2.2.2.2.2.2.2.1 h.2.2.2.2.2.2.2.2.1 h.2.2.2.2.2.2.2.2.2
theorem oae3{A1 A2 A3:Type}{p0:Prop}{p4:A1→A2→A3→Prop}{G:Prop}(h:p0∧∃x1:A1,∃x2:A2,∃x3:A3,p4 x1 x2 x3)(k:p0→(x1:A1)→(x2:A2)→(x3:A3)→p4 x1 x2 x3→G):G:=h.2.elim fun x1 w1=>w1.elim fun x2 w2=>w2.elim fun x3 w3=>k h.1 x1 x2 x3 w3
theorem oe{A0:Type}{p1:A0→Prop}{G:Prop}(h:∃x0:A0,p1 x0)(k:(x0:A0)→p1 x0→G):G:=h.elim fun x0 w0=>k x0 w0
theorem oea{A0:Type}{p1:A0→Prop}{p2:A0→Prop}{G:Prop}(h:∃x0:A0,p1 x0∧p2 x0)(k:(x0:A0)→p1 x0→p2 x0→G):G:=h.elim fun x0 w0=>k x0 w0.1 w0.2
theorem oea2{A0:Type}{p1:A0→Prop}{p2:A0→Prop}{p3:A0→Prop}{G:Prop}(h:∃x0:A0,p1 x0∧p2 x0∧p3 x0)(k:(x0:A0)→p1 x0→p2 x0→p3 x0→G):G:=h.elim fun x0 w0=>k x0 w0.1 w0.2.1 w0.2.2
theorem oea3{A0:Type}{p1:A0→Prop}{p2:A0→Prop}{p3:A0→Prop}{p4:A0→Prop}{G:Prop}(h:∃x0:A0,p1 x0∧p2 x0∧p3 x0∧p4 x0)(k:(x0:A0)→p1 x0→p2 x0→p3 x0→p4 x0→G):G:=h.elim fun x0 w0=>k x0 w0.1 w0.2.1 w0.2.2.1 w0.2.2.2
theorem oea4{A0:Type}{p1:A0→Prop}{p2:A0→Prop}{p3:A0→Prop}{p4:A0→Prop}{p5:A0→Prop}{G:Prop}(h:∃x0:A0,p1 x0∧p2 x0∧p3 x0∧p4 x0∧p5 x0)(k:(x0:A0)→p1 x0→p2 x0→p3 x0→p4 x0→p5 x0→G):G:=h.elim fun x0 w0=>k x0 w0.1 w0.2.1 w0.2.2.1 w0.2.2.2.1 w0.2.2.2.2
theorem oe2{A0 A1:Type}{p2:A0→A1→Prop}{G:Prop}(h:∃x0:A0,∃x1:A1,p2 x0 x1)(k:(x0:A0)→(x1:A1)→p2 x0 x1→G):G:=h.elim fun x0 w0=>w0.elim fun x1 w1=>k x0 x1 w1
theorem Be{A0 A1:Type}{p2:A0→A1→Prop}{p3:A0→A1→Prop}{G:Prop}(h:∃x0:A0,∃x1:A1,p2 x0 x1∧p3 x0 x1)(k:(x0:A0)→(x1:A1)→p2 x0 x1→p3 x0 x1→G):G:=h.elim fun x0 w0=>w0.elim fun x1 w1=>k x0 x1 w1.1 w1.2
theorem B3{A0 A1:Type}{p2:A0→A1→Prop}{p3:A0→A1→Prop}{p4:A0→A1→Prop}{G:Prop}(h:∃x0:A0,∃x1:A1,p2 x0 x1∧p3 x0 x1∧p4 x0 x1)(k:(x0:A0)→(x1:A1)→p2 x0 x1→p3 x0 x1→p4 x0 x1→G):G:=h.elim fun x0 w0=>w0.elim fun x1 w1=>k x0 x1 w1.1 w1.2.1 w1.2.2
theorem oe3{A0 A1 A2:Type}{p3:A0→A1→A2→Prop}{G:Prop}(h:∃x0:A0,∃x1:A1,∃x2:A2,p3 x0 x1 x2)(k:(x0:A0)→(x1:A1)→(x2:A2)→p3 x0 x1 x2→G):G:=h.elim fun x0 w0=>w0.elim fun x1 w1=>w1.elim fun x2 w2=>k x0 x1 x2 w2
theorem oe3a{A0 A1 A2:Type}{p3:A0→A1→A2→Prop}{p4:A0→A1→A2→Prop}{G:Prop}(h:∃x0:A0,∃x1:A1,∃x2:A2,p3 x0 x1 x2∧p4 x0 x1 x2)(k:(x0:A0)→(x1:A1)→(x2:A2)→p3 x0 x1 x2→p4 x0 x1 x2→G):G:=h.elim fun x0 w0=>w0.elim fun x1 w1=>w1.elim fun x2 w2=>k x0 x1 x2 w2.1 w2.2
theorem oe3a2{A0 A1 A2:Type}{p3:A0→A1→A2→Prop}{p4:A0→A1→A2→Prop}{p5:A0→A1→A2→Prop}{G:Prop}(h:∃x0:A0,∃x1:A1,∃x2:A2,p3 x0 x1 x2∧p4 x0 x1 x2∧p5 x0 x1 x2)(k:(x0:A0)→(x1:A1)→(x2:A2)→p3 x0 x1 x2→p4 x0 x1 x2→p5 x0 x1 x2→G):G:=h.elim fun x0 w0=>w0.elim fun x1 w1=>w1.elim fun x2 w2=>k x0 x1 x2 w2.1 w2.2.1 w2.2.2
theorem oe3a3{A0 A1 A2:Type}{p3:A0→A1→A2→Prop}{p4:A0→A1→A2→Prop}{p5:A0→A1→A2→Prop}{p6:A0→A1→A2→Prop}{G:Prop}(h:∃x0:A0,∃x1:A1,∃x2:A2,p3 x0 x1 x2∧p4 x0 x1 x2∧p5 x0 x1 x2∧p6 x0 x1 x2)(k:(x0:A0)→(x1:A1)→(x2:A2)→p3 x0 x1 x2→p4 x0 x1 x2→p5 x0 x1 x2→p6 x0 x1 x2→G):G:=h.elim fun x0 w0=>w0.elim fun x1 w1=>w1.elim fun x2 w2=>k x0 x1 x2 w2.1 w2.2.1 w2.2.2.1 w2.2.2.2
theorem oe4{A0 A1 A2 A3:Type}{p4:A0→A1→A2→A3→Prop}{G:Prop}(h:∃x0:A0,∃x1:A1,∃x2:A2,∃x3:A3,p4 x0 x1 x2 x3)(k:(x0:A0)→(x1:A1)→(x2:A2)→(x3:A3)→p4 x0 x1 x2 x3→G):G:=h.elim fun x0 w0=>w0.elim fun x1 w1=>w1.elim fun x2 w2=>w2.elim fun x3 w3=>k x0 x1 x2 x3 w3
theorem oe4a{A0 A1 A2 A3:Type}{p4:A0→A1→A2→A3→Prop}{p5:A0→A1→A2→A3→Prop}{G:Prop}(h:∃x0:A0,∃x1:A1,∃x2:A2,∃x3:A3,p4 x0 x1 x2 x3∧p5 x0 x1 x2 x3)(k:(x0:A0)→(x1:A1)→(x2:A2)→(x3:A3)→p4 x0 x1 x2 x3→p5 x0 x1 x2 x3→G):G:=h.elim fun x0 w0=>w0.elim fun x1 w1=>w1.elim fun x2 w2=>w2.elim fun x3 w3=>k x0 x1 x2 x3 w3.1 w3.2
theorem oe5{A0 A1 A2 A3 A4:Type}{p5:A0→A1→A2→A3→A4→Prop}{G:Prop}(h:∃x0:A0,∃x1:A1,∃x2:A2,∃x3:A3,∃x4:A4,p5 x0 x1 x2 x3 x4)(k:(x0:A0)→(x1:A1)→(x2:A2)→(x3:A3)→(x4:A4)→p5 x0 x1 x2 x3 x4→G):G:=h.elim fun x0 w0=>w0.elim fun x1 w1=>w1.elim fun x2 w2=>w2.elim fun x3 w3=>w3.elim fun x4 w4=>k x0 x1 x2 x3 x4 w4
theorem oe6{A0 A1 A2 A3 A4 A5:Type}{p6:A0→A1→A2→A3→A4→A5→Prop}{G:Prop}(h:∃x0:A0,∃x1:A1,∃x2:A2,∃x3:A3,∃x4:A4,∃x5:A5,p6 x0 x1 x2 x3 x4 x5)(k:(x0:A0)→(x1:A1)→(x2:A2)→(x3:A3)→(x4:A4)→(x5:A5)→p6 x0 x1 x2 x3 x4 x5→G):G:=h.elim fun x0 w0=>w0.elim fun x1 w1=>w1.elim fun x2 w2=>w2.elim fun x3 w3=>w3.elim fun x4 w4=>w4.elim fun x5 w5=>k x0 x1 x2 x3 x4 x5 w5
theorem oe7{A0 A1 A2 A3 A4 A5 A6:Type}{p7:A0→A1→A2→A3→A4→A5→A6→Prop}{G:Prop}(h:∃x0:A0,∃x1:A1,∃x2:A2,∃x3:A3,∃x4:A4,∃x5:A5,∃x6:A6,p7 x0 x1 x2 x3 x4 x5 x6)(k:(x0:A0)→(x1:A1)→(x2:A2)→(x3:A3)→(x4:A4)→(x5:A5)→(x6:A6)→p7 x0 x1 x2 x3 x4 x5 x6→G):G:=h.elim fun x0 w0=>w0.elim fun x1 w1=>w1.elim fun x2 w2=>w2.elim fun x3 w3=>w3.elim fun x4 w4=>w4.elim fun x5 w5=>w5.elim fun x6 w6=>k x0 x1 x2 x3 x4 x5 x6 w6
theorem oe9{A0 A1 A2 A3 A4 A5 A6 A7 A8:Type}{p9:A0→A1→A2→A3→A4→A5→A6→A7→A8→Prop}{G:Prop}(h:∃x0:A0,∃x1:A1,∃x2:A2,∃x3:A3,∃x4:A4,∃x5:A5,∃x6:A6,∃x7:A7,∃x8:A8,p9 x0 x1 x2 x3 x4 x5 x6 x7 x8)(k:(x0:A0)→(x1:A1)→(x2:A2)→(x3:A3)→(x4:A4)→(x5:A5)→(x6:A6)→(x7:A7)→(x8:A8)→p9 x0 x1 x2 x3 x4 x5 x6 x7 x8→G):G:=h.elim fun x0 w0=>w0.elim fun x1 w1=>w1.elim fun x2 w2=>w2.elim fun x3 w3=>w3.elim fun x4 w4=>w4.elim fun x5 w5=>w5.elim fun x6 w6=>w6.elim fun x7 w7=>w7.elim fun x8 w8=>k x0 x1 x2 x3 x4 x5 x6 x7 x8 w8
theorem oe10{A0 A1 A2 A3 A4 A5 A6 A7 A8 A9:Type}{p10:A0→A1→A2→A3→A4→A5→A6→A7→A8→A9→Prop}{G:Prop}(h:∃x0:A0,∃x1:A1,∃x2:A2,∃x3:A3,∃x4:A4,∃x5:A5,∃x6:A6,∃x7:A7,∃x8:A8,∃x9:A9,p10 x0 x1 x2 x3 x4 x5 x6 x7 x8 x9)(k:(x0:A0)→(x1:A1)→(x2:A2)→(x3:A3)→(x4:A4)→(x5:A5)→(x6:A6)→(x7:A7)→(x8:A8)→(x9:A9)→p10 x0 x1 x2 x3 x4 x5 x6 x7 x8 x9→G):G:=h.elim fun x0 w0=>w0.elim fun x1 w1=>w1.elim fun x2 w2=>w2.elim fun x3 w3=>w3.elim fun x4 w4=>w4.elim fun x5 w5=>w5.elim fun x6 w6=>w6.elim fun x7 w7=>w7.elim fun x8 w8=>w8.elim fun x9 w9=>k x0 x1 x2 x3 x4 x5 x6 x7 x8 x9 w9
theorem oe11{A0 A1 A2 A3 A4 A5 A6 A7 A8 A9 A10:Type}{p11:A0→A1→A2→A3→A4→A5→A6→A7→A8→A9→A10→Prop}{G:Prop}(h:∃x0:A0,∃x1:A1,∃x2:A2,∃x3:A3,∃x4:A4,∃x5:A5,∃x6:A6,∃x7:A7,∃x8:A8,∃x9:A9,∃x10:A10,p11 x0 x1 x2 x3 x4 x5 x6 x7 x8 x9 x10)(k:(x0:A0)→(x1:A1)→(x2:A2)→(x3:A3)→(x4:A4)→(x5:A5)→(x6:A6)→(x7:A7)→(x8:A8)→(x9:A9)→(x10:A10)→p11 x0 x1 x2 x3 x4 x5 x6 x7 x8 x9 x10→G):G:=h.elim fun x0 w0=>w0.elim fun x1 w1=>w1.elim fun x2 w2=>w2.elim fun x3 w3=>w3.elim fun x4 w4=>w4.elim fun x5 w5=>w5.elim fun x6 w6=>w6.elim fun x7 w7=>w7.elim fun x8 w8=>w8.elim fun x9 w9=>w9.elim fun x10 w10=>k x0 x1 x2 x3 x4 x5 x6 x7 x8 x9 x10 w10
end
section
set_option genInjectivity true
set_option genCtorIdx false in
inductive CV where
 | undef | none | bool (b:Bool) | int (i:Int) | ref (a:Addr)
noncomputable def CV.ctorIdx(x:CV):Nat:=CV.casesOn x 0 1 (fun _=>2) (fun _=>3) (fun _=>4)
deriving instance DecidableEq for CV
inductive Cl where
 | aig | solver
 deriving DecidableEq
inductive At where
 | nodes | inputs | outputs | table | count | clauses | watches | values | levels | reasons | phases | activity | step | trail | limits | head | learned | refuted | found
 deriving DecidableEq
noncomputable def At.name:At→Str
 | .nodes=>"nodes" | .inputs=>"inputs" | .outputs=>"outputs" | .table=>"table" | .count=>"count" | .clauses=>"clauses" | .watches=>"watches" | .values=>"values" | .levels=>"levels"
 | .reasons=>"reasons" | .phases=>"phases" | .activity=>"activity" | .step=>"step" | .trail=>"trail" | .limits=>"limits" | .head=>"head" | .learned=>"learned" | .refuted=>"refuted" | .found=>"found"
noncomputable def At.all:List At:=[.nodes,.inputs,.outputs,.table,.count,.clauses,.watches,.values,.levels,.reasons,.phases,.activity,.step,.trail,.limits,.head,.learned,.refuted,.found]
theorem At.mem_all(a:At):a∈At.all:=by induction a using At.casesOn <;> decide
theorem At.nodup:(At.all.map At.name).Nodup:=by decide +kernel
theorem inj_of_nodup{α β:Type}{f:α→β}{a b:α}(e:f a=f b):∀l:List α,(l.map f).Nodup→a∈l→b∈l→a=b:=by
 intro l
 induction l with
 | nil=>intro _ h;cases h
 | cons c l ih=>
  intro hn ha hb
  rw[List.map_cons,List.nodup_cons] at hn
  rcases List.mem_cons.mp ha with h1 | ha <;> rcases List.mem_cons.mp hb with h2 | hb
  ·rw[h1,h2]
  ·exact absurd (by rw[← h1,e];exact List.mem_map_of_mem hb) hn.1
  ·exact absurd (by rw[← h2,← e];exact List.mem_map_of_mem ha) hn.1
  ·exact ih hn.2 ha hb
theorem At.name_inj{a b:At}(h:a.name=b.name):a=b:=inj_of_nodup h At.all At.nodup a.mem_all b.mem_all
set_option genCtorIdx false in
inductive CO where
 | list (vs:List CV)
 | tup (vs:List CV)
 | dicti (es:List (Int × CV))
 | dictp (es:List (List Int × CV))
 | inst (c:Cl) (d:Addr) (f:At→CV)
 | range (a b c:Int)
 | frz (vs:List CV) (ob:Obj)
noncomputable def CO.ctorIdx(x:CO):Nat:=CO.casesOn x (fun _=>0) (fun _=>1) (fun _=>2) (fun _=>3) (fun _ _ _=>4) (fun _ _ _=>5) (fun _ _=>6)
abbrev CH:=Addr→Option CO
noncomputable def CH.put(H:CH)(a:Addr)(o:CO):CH:=fun b=>if b=a then some o else H b
@[simp] theorem CH.put_self(H:CH)(a:Addr)(o:CO):H.put a o a=some o:=by simp[CH.put]
theorem CH.put_ne(H:CH){a b:Addr}(o:CO)(h:b≠a):H.put a o b=H b:=by simp[CH.put,h]
noncomputable def cv:Value→CV
 | .none=>.none
 | .bool b=>.bool b
 | .int i _=>.int i
 | .ref a=>.ref a
 | _=>.undef
theorem ofn{α:Type}{x:α}{G:Prop}(e:none=some x):G:=by cases e
noncomputable def asR:CV→Option Addr
 | .ref a=>some a
 | _=>none
noncomputable def asI:CV→Option Int
 | .int a=>some a
 | _=>none
noncomputable def asB:CV→Option Bool
 | .bool a=>some a
 | _=>none
noncomputable def asN:CV→Option Unit
 | .none=>some ()
 | _=>none
theorem cv_int{v:Value}{i:Int}(h:cv v=.int i):∃t,v=.int i t:=by
 have e:asI (cv v)=some i:=congrArg asI h
 clear h
 revert e
 induction v using Value.casesOn with
 | int j t=>exact fun e=>⟨t,congrArg (fun x=>Value.int x t) (Option.some.inj e)⟩
 | _=>exact ofn
theorem cv_ref{v:Value}{a:Addr}(h:cv v=.ref a):v=.ref a:=by
 have e:asR (cv v)=some a:=congrArg asR h
 clear h
 revert e
 induction v using Value.casesOn with
 | ref b=>exact fun e=>congrArg Value.ref (Option.some.inj e)
 | _=>exact ofn
theorem cv_none{v:Value}(h:cv v=.none):v=.none:=by
 have e:asN (cv v)=some ():=congrArg asN h
 clear h
 revert e
 induction v using Value.casesOn with
 | none=>exact fun _=>rfl
 | _=>exact ofn
theorem cv_bool{v:Value}{b:Bool}(h:cv v=.bool b):v=.bool b:=by
 have e:asB (cv v)=some b:=congrArg asB h
 clear h
 revert e
 induction v using Value.casesOn with
 | bool c=>exact fun e=>congrArg Value.bool (Option.some.inj e)
 | _=>exact ofn
structure Base where
 prog:Program
 w:World
 s₀:Shared
 K:Frag
 cls:Cl→Addr
abbrev ik (B:Base):KeyKind B.prog B.w Int:=intKind B.prog B.w
abbrev tk (B:Base):HeapKind B.prog B.w (List Int):=tupleKind (intKind B.prog B.w)
noncomputable def Attrs(m:Str→Option Value)(f:At→CV):Prop:=
 (∀x v,m x=some v→∃a,At.name a=x∧cv v=f a∧f a≠.undef)∧∀a,f a≠.undef→∃v,m a.name=some v∧cv v=f a
noncomputable def NsZ(h:Heap)(a:Addr)(m:Str→Option Value)(k:Nat):Prop:=
 ∃o es ep,h.get? a=some o∧o.data=.dict es ep∧StrKeys es∧(∀name,nsFind es name=m name)∧es.size≤k
theorem NsZ.ns{h:Heap}{a:Addr}{m:Str→Option Value}{k:Nat}(x:NsZ h a m k):h.Ns a m:=let ⟨o,es,ep,p,q,r,t,_⟩:=x;⟨o,es,ep,p,q,r,t⟩
noncomputable def cnt(f:At→CV):Nat:=At.all.countP fun a=>decide (f a≠.undef)
theorem cnt_le(f:At→CV):cnt f≤19:=List.countP_le_length
theorem countP_one{α:Type}{a:α}{p q:α→Bool}(hp:p a=false)(hq:q a=true)(h:∀x,x≠a→p x=q x):∀l:List α,l.Nodup→a∈l→l.countP p+1≤l.countP q:=by
 intro l
 induction l with
 | nil=>intro _ h;cases h
 | cons b l ih=>
  intro hnd hm
  rw[List.nodup_cons] at hnd
  rw[List.countP_cons,List.countP_cons]
  rcases List.mem_cons.mp hm with rfl | hm
  ·have:l.countP p=l.countP q:=by
    apply List.countP_congr
    intro x hx
    rw[h x (fun e=>hnd.1 (e▸hx))]
   rw[hp,hq,this];simp
  ·have hb:b≠a:=fun e=>hnd.1 (e▸hm)
   have:=ih hnd.2 hm
   rw[h b hb];lia
theorem cnt_new{f:At→CV}{a:At}{v:CV}(hf:f a=.undef)(hv:v≠.undef):cnt f+1≤cnt fun y=>if y=a then v else f y:=
 countP_one (by simp[hf]) (by simp[hv]) (fun x hx=>by simp[hx]) At.all (by decide) a.mem_all
theorem cnt_old{f:At→CV}{a:At}{v:CV}(hv:v≠.undef):cnt f≤cnt fun y=>if y=a then v else f y:=
 List.countP_mono_left fun x _ hx=>by
  by_cases h:x=a
  ·simp[h,hv]
  ·simpa[h] using hx
theorem putName_spec{o:Obj}{es:Array DictEntry}{ep:Nat}{name:Str}{hsh:Int}{tk:Tok}{v:Value}(hd:o.data=.dict es ep)(hk:StrKeys es):
  ∃es' ep',(Obj.putName name hsh (.str name tk) v o).data=.dict es' ep'∧StrKeys es'∧(∀x,nsFind es' x=if x=name then some v else nsFind es x)∧es'.size≤es.size+1∧((nsFind es name).isSome=true→es'.size=es.size):=by
 obtain⟨c,d,dt,sl⟩:=o
 subst hd
 induction hi:es.findIdx? (·.key.isStr name) using Option.casesOn with
 | some i=>
  refine⟨_,ep,(by simp only[Obj.putName_eq,Obj.putNameByArray,hi];try rfl),hk.modify _ _,fun x=>findBy_modify (fun n v=>v.isStr n) Value.isStr_inj es name x v i hi,by simp,fun _=>by simp⟩
 | none=>
  refine⟨_,ep+1,(by simp only[Obj.putName_eq,Obj.putNameByArray,hi];try rfl),hk.push _ _ _ _,fun x=>?_,by simp,fun hs=>?_⟩
  ·exact findBy_push (fun n v=>v.isStr n) es name x _ _ v (fun y=>by
    show(name==y)=decide (y=name)
    by_cases h:y=name
    ·subst h;simp
    ·have:¬ name=y:=fun e=>h e.symm
     simp[h,this]) hi
  ·have hn:es.find? (fun e=>e.key.isStr name)=none:=by
    rw[Array.find?_eq_none];intro e he
    simpa using (Array.findIdx?_eq_none_iff.mp hi) e he
   unfold nsFind findBy at hs
   rw[hn] at hs;cases hs
noncomputable def OR(B:Base)(h:Heap)(a:Addr):CO→Prop
 | .list vs=>∃its n,h.get? a=some (listOf its n)∧its.toList.map cv=vs
 | .tup vs=>∃its n,h.get? a=some { cls:=.type "tuple",data:=.seq its n }∧its.toList.map cv=vs
 | .dicti es=>∃kvs,h.DictOf (ik B) a kvs∧kvs.map (fun p=>(p.1,cv p.2))=es
 | .dictp es=>∃xs,h.DictOfH (tk B) a xs∧xs.map (fun x=>(x.1,cv x.2.2))=es
 | .inst c d f=>h.get? a=some (instObj (B.cls c) d)∧∃m,NsZ h d m (cnt f)∧Attrs m f
 | .range x y z=>Builtin.Range.small x y z=true∧∃t u v,IsRange h a x y z t u v
 | .frz vs ob=>h.get? a=some ob∧∃its n,ob.cls=.type "list"∧ob.data=.seq its n∧its.toList.map cv=vs
noncomputable def Own(H:CH)(b:Addr):Prop:=(∃o,H b=some o)∨∃a c f,H a=some (.inst c b f)
abbrev Fz:=Addr→Option Obj
structure RH (B:Base) (H:CH) (F:Fz) (s:Shared):Prop where
 obj:∀a o,H a=some o→OR B s.heap a o
 fr:∀b o,F b=some o→s.heap.get? b=some o
 apart:∀b o,F b=some o→¬ Own H b
 dapart:∀a c d f,H a=some (.inst c d f)→H d=none∧∀a' c' f',H a'=some (.inst c' d f')→a'=a
 base:∀b o,B.s₀.heap.get? b=some o→F b=some o
 rest:s.gens=B.s₀.gens∧s.os=B.s₀.os
theorem RH.toks{B:Base}{H:CH}{F:Fz}{s:Shared}(R:RH B H F s)(t:Nat):RH B H F { s with toks:=t }:=⟨R.obj,R.fr,R.apart,R.dapart,R.base,R.rest⟩
theorem OR.seen{B:Base}{h:Heap}{a:Addr}{o:CO}(x:OR B h a o):∃ob,h.get? a=some ob:=by
 induction o using CO.casesOn with
 | list vs=>refine Be x fun its n e _=>?_;exact⟨_,e⟩
 | tup vs=>refine Be x fun its n e _=>?_;exact⟨_,e⟩
 | dicti es=>obtain⟨kvs,⟨o,es,ep,e,_⟩,_⟩:=x;exact⟨_,e⟩
 | dictp es=>obtain⟨xs,⟨o,es,ep,e,_⟩,_⟩:=x;exact⟨_,e⟩
 | inst c d f=>exact⟨_,x.1⟩
 | range p q r=>refine oae3 x fun _ t u v e=>?_;exact⟨_,e⟩
 | frz vs ob=>exact⟨_,x.1⟩
noncomputable def NotTup(h:Heap)(b:Addr):Prop:=∀o,h.get? b=some o→o.cls=.type "tuple"→∀its n,o.data=.seq its n→False
theorem OR.notTup{B:Base}{h:Heap}{a:Addr}{o:CO}(x:OR B h a o)(hn:∀vs,o≠.tup vs):NotTup h a:=by
 intro ob e hc its n hd
 induction o using CO.casesOn with
 | list vs=>refine Be x fun its n e' _=>?_;rw[e] at e';cases e';simp at hc
 | tup vs=>exact hn _ rfl
 | dicti es=>
  obtain⟨kvs,⟨o,es,ep,e',hx,_⟩,_⟩:=x;rw[e] at e';cases e'
  have:=hx.1;rw[hc] at this;simp at this
 | dictp es=>
  obtain⟨kvs,⟨o,es,ep,e',hx,_⟩,_⟩:=x;rw[e] at e';cases e'
  have:=hx.1;rw[hc] at this;simp at this
 | inst c d f=>have e':=x.1;rw[e] at e';cases e';simp at hc
 | range p q r=>refine oae3 x fun _ t u v e'=>?_;have e':h.get? a=_:=e';rw[e] at e';cases e';simp at hc
 | frz vs ob'=>refine oa x fun e' w0_=>?_;refine oe2 w0_ fun its' n' w1_=>?_;clear w0_;refine oa w1_ fun q _=>?_;clear w1_;rw[e] at e';cases e';rw[q] at hc;simp at hc
theorem ns_notTup{h:Heap}{d:Addr}{m}(x:h.Ns d m):NotTup h d:=by
 intro ob e _ its n hd
 refine oe3a2 x fun o es ep e' hd' _=>?_
 rw[e] at e';cases e';rw[hd] at hd';cases hd'
theorem OR.keep{B:Base}{h h':Heap}{a:Addr}{o:CO}(x:OR B h a o)(k:∀ob,h.get? a=some ob→h'.get? a=some ob)
  (kt:∀t ob its n,h.get? t=some ob→ob.cls=.type "tuple"→ob.data=.seq its n→h'.get? t=some ob)
  (kd:∀c d f,o=.inst c d f→∀ob,h.get? d=some ob→h'.get? d=some ob):OR B h' a o:=by
 induction o using CO.casesOn with
 | list vs=>refine Be x fun its n e r=>?_;exact⟨its,n,k _ e,r⟩
 | tup vs=>refine Be x fun its n e r=>?_;exact⟨its,n,k _ e,r⟩
 | dicti es=>obtain⟨kvs,⟨o,es,ep,e,r⟩,q⟩:=x;exact⟨kvs,⟨o,es,ep,k _ e,r⟩,q⟩
 | dictp es=>
  obtain⟨xs,⟨o,es,ep,e,r1,r2,r3,r4,r5⟩,q⟩:=x
  refine⟨xs,⟨o,es,ep,k _ e,r1,r2,r3,fun y hy=>?_,r5⟩,q⟩
  refine oe3a3 (r4 y hy) fun ob its n e' hc hd hi=>?_
  exact⟨ob,its,n,kt _ _ _ _ e' hc hd,hc,hd,hi⟩
 | inst c d f=>
  obtain⟨e,m,⟨o,es,ep,e',r⟩,q⟩:=x
  exact⟨k _ e,m,⟨o,es,ep,kd c d f rfl _ e',r⟩,q⟩
 | range p q r=>refine oae3 x fun z t u v e=>?_;exact⟨z,t,u,v,k _ e⟩
 | frz vs ob=>exact⟨k _ x.1,x.2⟩
theorem OR.push{B:Base}{h:Heap}{a:Addr}{o:CO}(x:OR B h a o)(ob:Obj):OR B (h.push ob) a o:=
 x.keep (fun _ e=>Heap.get?_push_of_some _ e) (fun _ _ _ _ e _ _=>Heap.get?_push_of_some _ e) (fun _ _ _ _ _ e=>Heap.get?_push_of_some _ e)
theorem RH.own_seen{B:Base}{H:CH}{F:Fz}{s:Shared}(R:RH B H F s){b:Addr}(x:Own H b):∃ob,s.heap.get? b=some ob:=by
 rcases x with ⟨o,e⟩ | ⟨a,c,f,e⟩
 ·exact(R.obj _ _ e).seen
 ·obtain⟨_,m,⟨o,es,ep,e',_⟩,_⟩:=R.obj _ _ e;exact⟨o,e'⟩
theorem RH.push{B:Base}{H:CH}{F:Fz}{s:Shared}(R:RH B H F s)(ob:Obj):RH B H F { s with heap:=s.heap.push ob }:=
 ⟨fun a o e=>(R.obj a o e).push ob,fun b o e=>Heap.get?_push_of_some _ (R.fr b o e),R.apart,R.dapart,R.base,R.rest⟩
theorem Bf(h:Heap):h.get? h.objs.size=none:=by
 induction e:h.get? h.objs.size using Option.casesOn with
 | none=>rfl
 | some o=>exact absurd (Heap.lt_size e) (Nat.lt_irrefl _)
theorem RH.free{B:Base}{H:CH}{F:Fz}{s:Shared}(R:RH B H F s){b:Addr}(hb:s.heap.get? b=none):H b=none∧F b=none∧¬ Own H b:=by
 refine⟨?_,?_,fun x=>?_⟩
 ·induction e:H b using Option.casesOn with
  | none=>rfl
  | some o=>refine oe ((R.obj _ _ e).seen) fun ob e'=>?_;rw[hb] at e';cases e'
 ·induction e:F b using Option.casesOn with
  | none=>rfl
  | some o=>have:=R.fr _ _ e;rw[hb] at this;cases this
 ·refine oe (R.own_seen x) fun ob e'=>?_;rw[hb] at e';cases e'
noncomputable def Fz.add(F:Fz)(b:Addr)(o:Obj):Fz:=fun x=>if x=b then some o else F x
theorem RH.freeze{B:Base}{H:CH}{F:Fz}{s:Shared}(R:RH B H F s){b:Addr}{o:Obj}(e:s.heap.get? b=some o)(hn:¬ Own H b)(hF:F b=none):RH B H (F.add b o) s:=by
 refine⟨R.obj,fun c o' e'=>?_,fun c o' e'=>?_,R.dapart,fun c o' e'=>?_,R.rest⟩
 ·unfold Fz.add at e';split at e'
  ·rename_i q;cases e';rw[q];exact e
  ·exact R.fr c o' e'
 ·unfold Fz.add at e';split at e'
  ·rename_i q;rw[q];exact hn
  ·exact R.apart c o' e'
 ·unfold Fz.add
  split
  ·rename_i q;have:=R.base _ _ e';rw[q,hF] at this;cases this
  ·exact R.base _ _ e'
theorem RH.thaw{B:Base}{H:CH}{F F':Fz}{s:Shared}(R:RH B H F' s)(k:∀b o,F b=some o→F' b=some o)(hb:∀b o,B.s₀.heap.get? b=some o→F b=some o):RH B H F s:=
 ⟨R.obj,fun b o e=>R.fr b o (k b o e),fun b o e=>R.apart b o (k b o e),R.dapart,hb,R.rest⟩
theorem Fz.add_le{F:Fz}{b:Addr}{o:Obj}(hF:F b=none):∀c o',F c=some o'→F.add b o c=some o':=by
 intro c o' e;unfold Fz.add;split
 ·rename_i q;rw[q,hF] at e;cases e
 ·exact e
theorem RH.off{B:Base}{H:CH}{F:Fz}{s:Shared}{h':Heap}{b:Addr}(R:RH B H F s)(hs:Heap.ExtBut b s.heap h')(hn:¬ Own H b)(hF:F b=none)(ht:NotTup s.heap b):RH B H F { s with heap:=h' }:=by
 refine⟨fun a o e=>(R.obj a o e).keep (fun ob e'=>hs _ _ (fun q=>hn (.inl ⟨o,q▸e⟩)) e') (fun t ob its n e' hc hd=>hs _ _ (fun q=>ht ob (q▸e') hc its n hd) e') (fun c d f q ob e'=>hs _ _ (fun z=>hn (.inr ⟨a,c,f,?_⟩)) e'),fun c o e=>hs _ _ (fun q=>?_) (R.fr c o e),R.apart,R.dapart,R.base,R.rest⟩
 ·rw[← z,← q];exact e
 ·rw[q,hF] at e;cases e
theorem RH.upd{B:Base}{H:CH}{F:Fz}{s:Shared}{h':Heap}{a:Addr}{o o':CO}(R:RH B H F s)(e:H a=some o)(hs:Heap.SameBut a s.heap h')(ho:OR B h' a o')
  (hi:∀c d f,o≠.inst c d f) (hi':∀c d f,o'≠.inst c d f) (ht:∀vs,o≠.tup vs):RH B (H.put a o') F { s with heap:=h' }:=by
 have nt:=(R.obj _ _ e).notTup ht
 refine⟨fun b p q=>?_,fun b p q=>(hs.2 _ fun z=>R.apart b p q (.inl ⟨o,by rw[z];exact e⟩)).trans (R.fr b p q),fun b p q=>fun z=>R.apart b p q ?_,fun b c d f q=>?_,R.base,R.rest⟩
 ·by_cases z:b=a
  ·subst z;rw[CH.put_self] at q;cases q;exact ho
  ·rw[CH.put_ne _ _ z] at q
   refine(R.obj _ _ q).keep (fun ob e'=>(hs.2 _ z).trans e') (fun t ob its n e' hc hd=>(hs.2 _ fun y=>nt ob (y▸e') hc its n hd).trans e') (fun c d f y ob e'=>(hs.2 _ fun x=>?_).trans e')
   subst y
   have:=(R.dapart _ _ _ _ q).1
   rw[x,e] at this
   cases this
 ·rcases z with ⟨x,z⟩ | ⟨x,c,f,z⟩
  ·by_cases y:b=a
   ·exact .inl ⟨o,y▸e⟩
   ·rw[CH.put_ne _ _ y] at z;exact .inl ⟨x,z⟩
  ·by_cases y:x=a
   ·subst y;rw[CH.put_self] at z;cases z;exact absurd rfl (hi' _ _ _)
   ·rw[CH.put_ne _ _ y] at z;exact .inr ⟨x,c,f,z⟩
 ·by_cases y:b=a
  ·subst y;rw[CH.put_self] at q;cases q;exact absurd rfl (hi' _ _ _)
  ·rw[CH.put_ne _ _ y] at q
   refine oa (R.dapart _ _ _ _ q) fun p1 p2=>?_
   refine⟨?_,fun a' c' f' r=>?_⟩
   ·have:d≠a:=fun x=>by rw[x,e] at p1;cases p1
    rw[CH.put_ne _ _ this];exact p1
   ·by_cases x:a'=a
    ·subst x;rw[CH.put_self] at r;cases r;exact absurd rfl (hi' _ _ _)
    ·rw[CH.put_ne _ _ x] at r;exact p2 _ _ _ r
theorem RH.updD{B:Base}{H:CH}{F:Fz}{s:Shared}{h':Heap}{a d:Addr}{c:Cl}{f f':At→CV}{m':Str→Option Value}(R:RH B H F s)(e:H a=some (.inst c d f))(hs:Heap.SameBut d s.heap h')(hn:NsZ h' d m' (cnt f'))(hm:Attrs m' f'):
  RH B (H.put a (.inst c d f')) F { s with heap:=h' }:=by
 refine oa (R.obj _ _ e) fun ha w0_=>?_;refine oe w0_ fun m w1_=>?_;clear w0_;refine oa w1_ fun hd _=>?_;clear w1_
 refine oa (R.dapart _ _ _ _ e) fun p1 p2=>?_
 have nt:=ns_notTup hd.ns
 refine⟨fun b p q=>?_,fun b p q=>(hs.2 _ fun z=>R.apart b p q (.inr ⟨a,c,f,by rw[z];exact e⟩)).trans (R.fr b p q),fun b p q=>fun z=>R.apart b p q ?_,fun b c' d' f'' q=>?_,R.base,R.rest⟩
 ·by_cases z:b=a
  ·subst z;rw[CH.put_self] at q;cases q
   refine⟨(hs.2 _ fun y=>?_).trans ha,m',hn,hm⟩
   rw[y,p1] at e;cases e
  ·rw[CH.put_ne _ _ z] at q
   refine(R.obj _ _ q).keep (fun ob e'=>(hs.2 _ fun y=>?_).trans e') (fun t ob its n e' hc hd'=>(hs.2 _ fun y=>nt ob (y▸e') hc its n hd').trans e') (fun c d f y ob e'=>(hs.2 _ fun x=>?_).trans e')
   ·rw[y,p1] at q;cases q
   ·subst y;exact z (p2 _ _ _ (x▸q))
 ·rcases z with ⟨x,z⟩ | ⟨x,c',f'',z⟩
  ·by_cases y:b=a
   ·exact .inl ⟨_,y▸e⟩
   ·rw[CH.put_ne _ _ y] at z;exact .inl ⟨x,z⟩
  ·by_cases y:x=a
   ·subst y;rw[CH.put_self] at z;cases z;exact .inr ⟨_,_,_,e⟩
   ·rw[CH.put_ne _ _ y] at z;exact .inr ⟨x,c',f'',z⟩
 ·have key:∀b c' d' f'',(H.put a (.inst c d f')) b=some (.inst c' d' f'')→∃f₀,H b=some (.inst c' d' f₀):=by
   intro b c' d' f'' q
   by_cases y:b=a
   ·subst y;rw[CH.put_self] at q;cases q;exact⟨f,e⟩
   ·rw[CH.put_ne _ _ y] at q;exact⟨_,q⟩
  refine oe (key _ _ _ _ q) fun f₀ q'=>?_
  refine oa (R.dapart _ _ _ _ q') fun r1 r2=>?_
  refine⟨?_,fun a' c'' g r=>?_⟩
  ·have:d'≠a:=fun x=>by rw[x,e] at r1;cases r1
   rw[CH.put_ne _ _ this];exact r1
  ·refine oe (key _ _ _ _ r) fun g₀ r'=>?_
   exact r2 _ _ _ r'
theorem RH.new{B:Base}{H:CH}{F:Fz}{s:Shared}{ob:Obj}{o:CO}(R:RH B H F s)(h:OR B (s.heap.push ob) s.heap.objs.size o)(hi:∀c d f,o≠.inst c d f):
  RH B (H.put s.heap.objs.size o) F { s with heap:=s.heap.push ob }:=by
 refine oa2 (R.free (Bf s.heap)) fun f1 f2 f3=>?_
 refine⟨fun b p q=>?_,fun b p q=>Heap.get?_push_of_some _ (R.fr b p q),fun b p q=>fun z=>R.apart b p q ?_,fun b c d f q=>?_,R.base,R.rest⟩
 ·by_cases z:b=s.heap.objs.size
  ·subst z;rw[CH.put_self] at q;cases q;exact h
  ·rw[CH.put_ne _ _ z] at q;exact(R.obj _ _ q).push ob
 ·rcases z with ⟨x,z⟩ | ⟨x,c,f,z⟩
  ·by_cases y:b=s.heap.objs.size
   ·rw[y,f2] at q;cases q
   ·rw[CH.put_ne _ _ y] at z;exact .inl ⟨x,z⟩
  ·by_cases y:x=s.heap.objs.size
   ·subst y;rw[CH.put_self] at z;cases z;exact absurd rfl (hi _ _ _)
   ·rw[CH.put_ne _ _ y] at z;exact .inr ⟨x,c,f,z⟩
 ·by_cases y:b=s.heap.objs.size
  ·subst y;rw[CH.put_self] at q;cases q;exact absurd rfl (hi _ _ _)
  ·rw[CH.put_ne _ _ y] at q
   refine oa (R.dapart _ _ _ _ q) fun p1 p2=>?_
   have:d≠s.heap.objs.size:=fun x=>f3 (.inr ⟨b,c,f,x▸q⟩)
   refine⟨by rw[CH.put_ne _ _ this];exact p1,fun a' c' f' r=>?_⟩
   by_cases x:a'=s.heap.objs.size
   ·subst x;rw[CH.put_self] at r;cases r;exact absurd rfl (hi _ _ _)
   ·rw[CH.put_ne _ _ x] at r;exact p2 _ _ _ r
theorem RH.newInst{B:Base}{H:CH}{F:Fz}{s:Shared}(R:RH B H F s)(c:Cl):
  RH B (H.put (s.heap.objs.size+1) (.inst c s.heap.objs.size fun _=>.undef)) F { s with heap:=(s.heap.push emptyDict).push (instObj (B.cls c) s.heap.objs.size) }:=by
 refine oa2 (R.free (Bf s.heap)) fun f1 f2 f3=>?_
 have hg:s.heap.get? (s.heap.objs.size+1)=none:=by
  induction e:s.heap.get? (s.heap.objs.size+1) using Option.casesOn with
  | none=>rfl
  | some o=>exact absurd (Heap.lt_size e) (Nat.not_lt.mpr (Nat.le_succ _))
 refine oa2 (R.free hg) fun g1 g2 g3=>?_
 have hd:(s.heap.push emptyDict).get? s.heap.objs.size=some emptyDict:=Heap.get?_push_size _ rfl
 have hx:((s.heap.push emptyDict).push (instObj (B.cls c) s.heap.objs.size)).get? (s.heap.objs.size+1)=some (instObj (B.cls c) s.heap.objs.size):=by
  have:=Heap.get?_push_size (s.heap.push emptyDict) (o:=instObj (B.cls c) s.heap.objs.size) rfl
  rwa [Heap.size_push] at this
 refine⟨fun b p q=>?_,fun b p q=>Heap.get?_push_of_some _ (Heap.get?_push_of_some _ (R.fr b p q)),fun b p q=>fun z=>R.apart b p q ?_,fun b c' d f q=>?_,R.base,R.rest⟩
 ·by_cases z:b=s.heap.objs.size+1
  ·subst z;rw[CH.put_self] at q;cases q
   refine⟨hx,fun _=>none,⟨emptyDict,#[],0,Heap.get?_push_of_some _ hd,rfl,fun e he=>by simp at he,fun _=>rfl,Nat.zero_le _⟩,(fun x v e=>nomatch e),fun a e=>absurd rfl e⟩
  ·rw[CH.put_ne _ _ z] at q;exact((R.obj _ _ q).push _).push _
 ·rcases z with ⟨x,z⟩ | ⟨x,c',f,z⟩
  ·by_cases y:b=s.heap.objs.size+1
   ·rw[y,g2] at q;cases q
   ·rw[CH.put_ne _ _ y] at z;exact .inl ⟨x,z⟩
  ·by_cases y:x=s.heap.objs.size+1
   ·subst y;rw[CH.put_self] at z;cases z;rw[f2] at q;cases q
   ·rw[CH.put_ne _ _ y] at z;exact .inr ⟨x,c',f,z⟩
 ·by_cases y:b=s.heap.objs.size+1
  ·subst y;rw[CH.put_self] at q;cases q
   refine⟨by rw[CH.put_ne _ _ (Nat.ne_of_lt (Nat.lt_succ_self _))];exact f1,fun a' c' f' r=>?_⟩
   by_cases x:a'=s.heap.objs.size+1
   ·exact x
   ·rw[CH.put_ne _ _ x] at r;exact absurd (.inr ⟨_,_,_,r⟩) f3
  ·rw[CH.put_ne _ _ y] at q
   refine oa (R.dapart _ _ _ _ q) fun p1 p2=>?_
   have:d≠s.heap.objs.size+1:=fun x=>g3 (.inr ⟨b,c',f,x▸q⟩)
   refine⟨by rw[CH.put_ne _ _ this];exact p1,fun a' c'' f' r=>?_⟩
   by_cases x:a'=s.heap.objs.size+1
   ·subst x;rw[CH.put_self] at r;cases r;exact absurd (.inr ⟨_,_,_,q⟩) f3
   ·rw[CH.put_ne _ _ x] at r;exact p2 _ _ _ r
end
section
set_option genInjectivity true
inductive Fn where
 | variableOf | coneCnf | aigCnf | luby | slot | plainClause
 | sInit | sValue | sLevel | sAdd | sAttach | sLearn | sRefute | sAssign | sDecide | sCancel | sPropagate | sStill | sForces | sBump | sAnalyze | sOrdered | sFree | sAssume | sSolve | sLeave | sModel
 | fullTable | varTable | lowBit
 | aInit | aAddInput | aIsAnd | aLand
 | literalWord | coneEquiv | coneInputs | coneWords | tableDifference | solverParting | parting
 | lSalt | lPinch | lValues | lBelow | lRight | lChain
noncomputable def Fn.name:Fn→Str
 | .variableOf=>"variable_of" | .coneCnf=>"cone_nodes_cnf" | .aigCnf=>"aig_cnf" | .luby=>"luby" | .slot=>"slot" | .plainClause=>"plain_clause"
 | .sInit=>"__init__" | .sValue=>"value" | .sLevel=>"level" | .sAdd=>"add" | .sAttach=>"attach" | .sLearn=>"learn" | .sRefute=>"refute" | .sAssign=>"assign" | .sDecide=>"decide" | .sCancel=>"cancel"
 | .sPropagate=>"propagate" | .sStill=>"still_watched" | .sForces=>"forces" | .sBump=>"bump" | .sAnalyze=>"analyze" | .sOrdered=>"ordered" | .sFree=>"free_variable" | .sAssume=>"assume" | .sSolve=>"solve"
 | .sLeave=>"leave" | .sModel=>"model"
 | .fullTable=>"full_table" | .varTable=>"var_table" | .lowBit=>"low_bit"
 | .aInit=>"__init__" | .aAddInput=>"add_input" | .aIsAnd=>"is_and" | .aLand=>"land"
 | .literalWord=>"literal_word" | .coneEquiv=>"cone_nodes_equiv" | .coneInputs=>"cone_inputs" | .coneWords=>"cone_words" | .tableDifference=>"table_difference" | .solverParting=>"solver_parting" | .parting=>"parting"
 | .lSalt=>"_law_salt" | .lPinch=>"_law_pinch" | .lValues=>"_law_values" | .lBelow=>"_law_below" | .lRight=>"_law_right" | .lChain=>"_law_chain"
noncomputable def Fn.cl:Fn→Option Cl
 | .sInit | .sValue | .sLevel | .sAdd | .sAttach | .sLearn | .sRefute | .sAssign | .sDecide | .sCancel | .sPropagate | .sStill | .sForces | .sBump | .sAnalyze | .sOrdered | .sFree | .sAssume | .sSolve | .sLeave | .sModel=>some .solver
 | .aInit | .aAddInput | .aIsAnd | .aLand=>some .aig
 | _=>none
noncomputable def Cl.name:Cl→Str
 | .aig=>"Aig"
 | .solver=>"Solver"
noncomputable def Cl.init:Cl→Fn
 | .aig=>.aInit
 | .solver=>.sInit
inductive BF where
 | len | abs | sorted | list | tuple
noncomputable def BF.name:BF→String
 | .len=>"len" | .abs=>"abs" | .sorted=>"sorted" | .list=>"list" | .tuple=>"tuple"
inductive BM where
 | append | pop0 | pop1 | get2 | index | reverse | bitlen
noncomputable def BM.name:BM→String
 | .append=>"append" | .pop0=>"pop" | .pop1=>"pop" | .get2=>"get" | .index=>"index" | .reverse=>"reverse" | .bitlen=>"bit_length"
set_option genCtorIdx false in
inductive IE where
 | int (i:Int) | bool (b:Bool) | none
 | var (i:Nat)
 | glob (x:Str) (i:Int)
 | attr (e:IE) (a:At)
 | sub (e i:IE)
 | upto (e u:IE)
 | bin (o:Operator) (a b:IE)
 | neg (a:IE)
 | not (a:IE)
 | cmp (o:CmpOp) (a b:IE)
 | and (es:List IE) | or (es:List IE)
 | ite (t a b:IE)
 | fn (f:Fn) (es:List IE)
 | cls (c:Cl) (es:List IE)
 | mth (o:IE) (f:Fn) (es:List IE)
 | bf (f:BF) (e:IE)
 | bm (o:IE) (m:BM) (es:List IE)
 | list (es:List IE) | tup (es:List IE) | dict0 (p:Bool) | dict1 (k v:Int)
 | range (es:List IE)
 | comp (elt iter:IE) (cond:List IE) (free:List Nat)
set_option genCtorIdx false in
inductive Tg where
 | v (i:Nat)
 | s (o i:IE)
set_option genCtorIdx false in
inductive IS where
 | setv (i:Nat) (e:IE)
 | setattr (o:IE) (a:At) (e:IE)
 | setsub (o i e:IE)
 | unpack (ts:List Tg) (e:IE)
 | swap (i j:Nat)
 | augv (i:Nat) (o:Operator) (e:IE)
 | augsub (o i:IE) (op:Operator) (e:IE)
 | expr (e:IE)
 | ite (t:IE) (a b:List IS)
 | whl (t:IE) (b:List IS)
 | for (x:Nat) (it:IE) (b:List IS)
 | ret (e:IE)
 | ret0
 | brk
 | asgComp (i:Nat) (e:IE)
structure CS where
 vars:List CV
 heap:CH
noncomputable def CS.get(σ:CS)(i:Nat):CV:=σ.vars.getD i .undef
noncomputable def CS.set(σ:CS)(i:Nat)(v:CV):CS:=⟨σ.vars.set i v,σ.heap⟩
set_option genCtorIdx false in
inductive RV where
 | v (c:CV)
 | new (o:CO)
 | upd (c:CV) (a:Addr) (o:CO)
noncomputable def RV.ctorIdx(x:RV):Nat:=RV.casesOn x (fun _=>0) (fun _=>1) (fun _ _ _=>2)
noncomputable def RV.go(H:CH)(Q:CV→CH→Prop):RV→Prop
 | .v c=>Q c H
 | .new o=>∀a,H a=none→Q (.ref a) (H.put a o)
 | .upd c a o=>Q c (H.put a o)
noncomputable def Opt{α:Type}(x:Option α)(Q:α→Prop):Prop:=match x with
 | some a=>Q a
 | none=>False
theorem Opt.ex{α:Type}{x:Option α}{Q:α→Prop}(h:Opt x Q):∃a,x=some a∧Q a:=by
 induction x using Option.casesOn with
 | some a=>exact⟨a,rfl,h⟩
 | none=>exact h.elim
theorem Opt.exk{α:Type}{x:Option α}{Q:α→Prop}{G:Prop}(h:Opt x Q)(k:∀a,x=some a→Q a→G):G:=Exists.elim h.ex fun a z=>k a z.1 z.2
theorem Opt.mk{α:Type}{x:Option α}{Q:α→Prop}{a:α}(h:x=some a)(q:Q a):Opt x Q:=by subst h;exact q
@[simp] theorem Ac{α:Type}(a:α)(Q:α→Prop):Opt (some a) Q=Q a:=rfl
@[simp] theorem Opt_none{α:Type}(Q:α→Prop):Opt none Q=False:=rfl
@[simp] theorem Opt_ite{α:Type}(c:Prop)[Decidable c](a:α)(Q:α→Prop):Opt (if c then some a else none) Q↔c∧Q a:=by split <;> simp_all [Opt]
theorem lim_ex:∃n:Nat,n=16777216:=⟨_,rfl⟩
noncomputable def lim:Nat:=Classical.choose lim_ex
theorem Ab:lim=16777216:=Classical.choose_spec lim_ex
theorem Bt:sizeLine=lim:=by rw[Ab];decide +kernel
noncomputable def idx(i:Int)(n:Nat):Option Nat:=@ite _ (0≤i∧i<n∧i<2^62) (Classical.propDecidable _) (some i.toNat) none
noncomputable def CO.ls:CO→Option (List CV)
 | .list vs=>some vs
 | _=>none
noncomputable def CO.tp:CO→Option (List CV)
 | .tup vs=>some vs
 | _=>none
noncomputable def CO.di:CO→Option (List (Int × CV))
 | .dicti es=>some es
 | _=>none
noncomputable def CH.lsA(H:CH)(a:Addr):Option (List CV):=(H a).bind CO.ls
noncomputable def nil?:List CV→Option Unit
 | []=>some ()
 | _=>none
noncomputable def one:List CV→Option CV
 | []=>none
 | a::r=>(nil? r).map fun _=>a
noncomputable def two:List CV→Option (CV × CV)
 | []=>none
 | a::r=>(one r).map fun b=>(a,b)
@[simp] theorem Ae(a:Addr):asR (.ref a)=some a:=rfl
@[simp] theorem asR_int(a:Int):asR (.int a)=none:=rfl
@[simp] theorem Af(a:Int):asI (.int a)=some a:=rfl
@[simp] theorem asI_ref(a:Addr):asI (.ref a)=none:=rfl
@[simp] theorem Ah(vs:List CV):CO.ls (.list vs)=some vs:=rfl
@[simp] theorem tp_tup(vs:List CV):CO.tp (.tup vs)=some vs:=rfl
@[simp] theorem Bx(vs:List (Int × CV)):CO.di (.dicti vs)=some vs:=rfl
@[simp] theorem B8:nil? []=some ():=rfl
@[simp] theorem Bi(a:CV):one [a]=some a:=rfl
@[simp] theorem two_two(a b:CV):two [a,b]=some (a,b):=rfl
noncomputable def Cl.has:Cl→At→Bool
 | .aig,.nodes | .aig,.inputs | .aig,.outputs | .aig,.table=>true
 | .aig,_=>false
 | .solver,.nodes | .solver,.inputs | .solver,.outputs | .solver,.table=>false
 | .solver,_=>true
noncomputable def CO.attr(a:At):CO→Option CV
 | .inst c _ f=>if c.has a=true∧f a≠.undef then some (f a) else none
 | _=>none
noncomputable def attrV(H:CH)(v:CV)(a:At):Option CV:=(asR v).bind fun x=>(H x).bind (CO.attr a)
noncomputable def Ap(es:List (Int × CV))(k:Int):Option CV:=(es.find? fun p=>p.1=k).map (·.2)
noncomputable def CO.sub(k:Int):CO→Option CV
 | .list vs=>(idx k vs.length).bind fun j=>vs[j]?
 | .tup vs=>(idx k vs.length).bind fun j=>vs[j]?
 | .dicti es=>Ap es k
 | _=>none
noncomputable def subV(H:CH)(v i:CV):Option CV:=(asR v).bind fun x=>(asI i).bind fun k=>(H x).bind (CO.sub k)
noncomputable def CO.lf:CO→Option (List CV)
 | .list vs=>some vs
 | .frz vs _=>some vs
 | _=>none
noncomputable def uptoV(H:CH)(v u:CV):Option RV:=
 (asR v).bind fun x=>(asI u).bind fun k=>(H x).bind fun o=>o.lf.bind fun vs=>
  @ite _ (0≤k∧k<2^62∧vs.length≤lim) (Classical.propDecidable _) (some (.new (.list (vs.take k.toNat)))) none
noncomputable def Ak(x:Int):Prop:=x.natAbs<2^64
instance (x:Int):Decidable (Ak x):=inferInstanceAs (Decidable (_<_))
noncomputable def Aw:Operator→Int→Int→Option Int
 | .Add,x,y=>some (x+y)
 | .Sub,x,y=>some (x-y)
 | .Mult,x,y=>if Ak x∨Ak y then some (x*y) else none
 | .FloorDiv,x,y=>@ite _ (0<y∧y<1073741824∨(0<y∧Ak y)) (Classical.propDecidable _) (some (x.fdiv y)) none
 | .Mod,x,y=>if 0<y then some (x.fmod y) else none
 | .RShift,x,y=>if 0≤y then some (x.fdiv (2^y.toNat)) else none
 | .LShift,x,y=>if 0≤y∧y≤1000∧Ak x then some (x*2^y.toNat) else none
 | .Pow,x,y=>if 0≤y∧y≤1000∧Ak x then some (x^y.toNat) else none
 | .BitAnd,x,y=>some (Builtin.bitAnd x y)
 | .BitXor,x,y=>some (Builtin.bitXor x y)
 | _,_,_=>none
noncomputable def refBin(o:Operator)(H:CH)(p:Addr)(b:CV):Option RV:=match o with
 | .Add=>(H.lsA p).bind fun xs=>(asR b).bind fun q=>(H.lsA q).bind fun ys=>if xs.length+ys.length≤lim then some (.new (.list (xs++ys))) else none
 | .Mult=>(H.lsA p).bind fun xs=>(one xs).bind fun x=>(asI b).bind fun n=>@ite _ (0≤n∧n≤1000000) (Classical.propDecidable _) (some (.new (.list (List.replicate n.toNat x)))) none
 | _=>none
noncomputable def binV(o:Operator)(H:CH)(a b:CV):Option RV:=match a with
 | .int x=>(asI b).bind fun y=>(Aw o x y).map fun r=>.v (.int r)
 | .ref p=>refBin o H p b
 | _=>none
noncomputable def negV:CV→Option CV
 | .int x=>some (.int (-x))
 | _=>none
noncomputable def Av:List CV→Option (List Int)
 | []=>some []
 | .int i::r=>(Av r).map (i :: ·)
 | _::_=>none
noncomputable def intCmp:CmpOp→Int→Int→Option Bool
 | .Lt,x,y=>some (decide (x<y))
 | .LtE,x,y=>some (decide (x≤y))
 | .Gt,x,y=>some (decide (y<x))
 | .GtE,x,y=>some (decide (y≤x))
 | .Eq,x,y=>some (decide (x=y))
 | .NotEq,x,y=>some (decide (x≠y))
 | _,_,_=>none
noncomputable def CO.eqB(p:CO)(q:CO):Option Bool:=match p with
 | .list xs=>q.ls.bind fun ys=>(Av xs).bind fun is=>(Av ys).map fun js=>decide (is=js)
 | .dicti es=>q.di.bind fun fs=>if fs=[] then some es.isEmpty else none
 | _=>none
noncomputable def CO.ninB(i:Int)(q:CO):Option Bool:=match q with
 | .list ys=>(Av ys).map fun js=>!decide (i∈js)
 | .dicti es=>some (Ap es i).isNone
 | _=>none
noncomputable def refCmp(H:CH)(o:CmpOp)(a:CV)(b:CV):Option Bool:=match o with
 | .Eq=>(asR a).bind fun x=>(asR b).bind fun y=>(H x).bind fun p=>(H y).bind fun q=>p.eqB q
 | .NotEq=>(asR a).bind fun x=>(asR b).bind fun y=>(H.lsA x).bind fun xs=>(H.lsA y).bind fun ys=>(Av xs).bind fun is=>(Av ys).map fun js=>decide (is≠js)
 | .In=>(asI a).bind fun i=>(asR b).bind fun y=>(H.lsA y).bind fun ys=>(Av ys).map fun js=>decide (i∈js)
 | .NotIn=>(asI a).bind fun i=>(asR b).bind fun y=>(H y).bind (CO.ninB i)
 | _=>none
noncomputable def noneCmp(o:CmpOp)(a:Bool):Option Bool:=match o with
 | .Is=>some a
 | .IsNot=>some !a
 | _=>none
noncomputable def Bm(o:CmpOp)(H:CH)(a b:CV):Option Bool:=match b with
 | .none=>match a with
  | .none=>noneCmp o true
  | .ref _=>noneCmp o false
  | .bool _=>noneCmp o false
  | _=>none
 | .int y=>match a with
  | .int x=>intCmp o x y
  | _=>none
 | .bool y=>match a with
  | .bool x=>match o with
   | .NotEq=>some (x != y)
   | _=>none
  | _=>none
 | .ref _=>refCmp H o a b
 | .undef=>none
noncomputable def truth(H:CH)(v:CV):Option Bool:=
 match v with
 | .bool b=>some b
 | .none=>some false
 | .ref a=>(H.lsA a).bind fun vs=>if vs.length≤lim then some (!vs.isEmpty) else none
 | _=>none
noncomputable def Bw(a b c:Int):Option (List Int):=
 if c=1 then some ((List.range (b-a).toNat).map fun(i:Nat)=>a+(i:Int))
 else if c = -1 then some ((List.range (a-b).toNat).map fun(i:Nat)=>a-(i:Int))
 else none
noncomputable def Bc:CO→Option (List CV)
 | .list vs=>some vs
 | .tup vs=>some vs
 | .range a b c=>(Bw a b c).map fun l=>l.map CV.int
 | _=>none
noncomputable def CO.len:CO→Option RV
 | .list vs=>if vs.length≤lim then some (.v (.int vs.length)) else none
 | .tup vs=>if vs.length≤lim then some (.v (.int vs.length)) else none
 | _=>none
noncomputable def CO.mkList:CO→Option RV
 | .list vs=>if vs.length≤lim then some (.new (.list vs)) else none
 | .range a b c=>(Bw a b c).bind fun l=>if l.length≤lim then some (.new (.list (l.map CV.int))) else none
 | _=>none
noncomputable def bfV(f:BF)(H:CH)(v:CV):Option RV:=match f with
 | .len=>(asR v).bind fun a=>(H a).bind CO.len
 | .abs=>(asI v).map fun i=>.v (.int i.natAbs)
 | .list=>(asR v).bind fun a=>(H a).bind CO.mkList
 | .tuple=>(asR v).bind fun a=>(H.lsA a).bind fun vs=>if vs.length≤lim then some (.new (.tup vs)) else none
 | .sorted=>(asR v).bind fun a=>(H a).bind fun o=>o.di.bind fun es=>if es.length<64 then some (.new (.list (((es.map (·.1)).mergeSort fun x y=>decide (x≤y)).map CV.int))) else none
noncomputable def range2'(a b:CV)(c:List CV):Option CO:=(asI a).bind fun a=>(asI b).bind fun b=>match c with
 | []=>if 0≤a∧a≤lim∧0≤b∧b≤lim then some (.range a b 1) else none
 | c::r=>(nil? r).bind fun _=>(asI c).bind fun c=>if 0≤a∧a≤lim∧0≤b∧b≤lim∧c = -1 then some (.range a b c) else none
noncomputable def range1'(a:CV):List CV→Option CO
 | []=>(asI a).bind fun b=>if 0≤b∧b≤lim then some (.range 0 b 1) else none
 | b::c=>range2' a b c
noncomputable def rangeV:List CV→Option CO
 | []=>none
 | a::r=>range1' a r
noncomputable def CO.get2(H:CH)(k d:CV):CO→Option RV
 | .dicti es=>(asI k).map fun k=>.v ((Ap es k).getD d)
 | .dictp es=>(asR k).bind fun t=>(H t).bind fun q=>q.tp.bind fun ks=>(Av ks).map fun is=>.v (((es.find? fun p=>p.1=is).map (·.2)).getD d)
 | _=>none
noncomputable def bmV(m:BM)(H:CH)(o:CV)(vs:List CV):Option RV:=match m with
 | .append=>(asR o).bind fun a=>(H.lsA a).bind fun xs=>(one vs).bind fun x=>if xs.length<lim then some (.upd .none a (.list (xs++[x]))) else none
 | .pop0=>(asR o).bind fun a=>(H.lsA a).bind fun xs=>(nil? vs).bind fun _=>(xs.getLast?).bind fun x=>if xs.length≤lim then some (.upd x a (.list xs.dropLast)) else none
 | .pop1=>(asR o).bind fun a=>(H.lsA a).bind fun xs=>(one vs).bind fun k=>(asI k).bind fun k=>(idx k xs.length).bind fun j=>(xs[j]?).bind fun x=>if xs.length≤lim then some (.upd x a (.list (xs.eraseIdx j))) else none
 | .get2=>(asR o).bind fun a=>(two vs).bind fun p=>(H a).bind (CO.get2 H p.1 p.2)
 | .index=>(asR o).bind fun a=>(H.lsA a).bind fun xs=>(one vs).bind fun k=>(asI k).bind fun k=>(Av xs).bind fun is=>(is.idxOf? k).bind fun j=>if xs.length≤lim then some (.v (.int j)) else none
 | .reverse=>(asR o).bind fun a=>(H.lsA a).bind fun xs=>(nil? vs).bind fun _=>if xs.length≤lim then some (.upd .none a (.list xs.reverse)) else none
 | .bitlen=>(asI o).bind fun i=>(nil? vs).bind fun _=>if 0≤i∧Ak i then some (.v (.int (if i=0 then 0 else (i.natAbs.log2+1:Nat)))) else none
noncomputable def CO.isD:CO→Option Unit
 | .dicti _=>some ()
 | .dictp _=>some ()
 | _=>none
noncomputable def bmLook(m:BM)(H:CH)(o:CV):Option Unit:=match m with
 | .get2=>(asR o).bind fun a=>(H a).bind CO.isD
 | .bitlen=>(asI o).map fun _=>()
 | _=>(asR o).bind fun a=>(H.lsA a).map fun _=>()
noncomputable def bmOk(m:BM)(H:CH)(o:CV):Bool:=(bmLook m H o).isSome
noncomputable def CO.setI(H:CH)(a:Addr)(i v:CV):CO→Option CH
 | .list vs=>(asI i).bind fun k=>(idx k vs.length).map fun j=>H.put a (.list (vs.set j v))
 | .dicti es=>(asI i).bind fun k=>if es.length<lim then some (H.put a (.dicti (if es.any (fun p=>p.1=k) then es.map (fun p=>if p.1=k then (p.1,v) else p) else es++[(k,v)]))) else none
 | .dictp es=>(asR i).bind fun t=>(H t).bind fun q=>q.tp.bind fun ks=>(Av ks).bind fun is=>if es.length<lim∧es.all (fun p=>p.1≠is) then some (H.put a (.dictp (es++[(is,v)]))) else none
 | _=>none
noncomputable def setI(H:CH)(o i v:CV):Option CH:=(asR o).bind fun a=>(H a).bind (CO.setI H a i v)
noncomputable def CO.setA(H:CH)(a:Addr)(x:At)(v:CV):CO→Option CH
 | .inst c d f=>if c.has x=true∧v≠.undef then some (H.put a (.inst c d fun y=>if y=x then v else f y)) else none
 | _=>none
noncomputable def setA(H:CH)(o:CV)(x:At)(v:CV):Option CH:=(asR o).bind fun a=>(H a).bind (CO.setA H a x v)
/- taking an answer apart -/
theorem obk{α β:Type}{x:Option α}{f:α→Option β}{r:β}{G:Prop}(e:x.bind f=some r)(k:∀a,x=some a→f a=some r→G):G:=by
 induction x using Option.casesOn with
 | none=>cases e
 | some a=>exact k a rfl e
theorem omk{α β:Type}{x:Option α}{f:α→β}{r:β}{G:Prop}(e:x.map f=some r)(k:∀a,x=some a→f a=r→G):G:=by
 induction x using Option.casesOn with
 | none=>cases e
 | some a=>exact k a rfl (Option.some.inj e)
theorem oif{α:Type}{c:Prop}{d:Decidable c}{x r:α}{G:Prop}(e:(if c then some x else none)=some r)(k:c→x=r→G):G:=by
 by_cases h:c
 ·rw[if_pos h] at e;exact k h (Option.some.inj e)
 ·rw[if_neg h] at e;cases e
theorem obR{β:Type}{v:Value}{f:Addr→Option β}{r:β}{G:Prop}(e:(asR (cv v)).bind f=some r)(k:∀a,v=.ref a→f a=some r→G):G:=by
 induction h:cv v using CV.casesOn with
 | ref a=>rw[h] at e;exact k a (cv_ref h) e
 | _=>rw[h] at e;exact ofn e
theorem obI{β:Type}{v:Value}{f:Int→Option β}{r:β}{G:Prop}(e:(asI (cv v)).bind f=some r)(k:∀i t,v=.int i t→f i=some r→G):G:=by
 induction h:cv v using CV.casesOn with
 | int a=>rw[h] at e;exact Exists.elim (cv_int h) fun t ht=>k a t ht e
 | _=>rw[h] at e;exact ofn e
theorem omI{β:Type}{v:Value}{f:Int→β}{r:β}{G:Prop}(e:(asI (cv v)).map f=some r)(k:∀i t,v=.int i t→f i=r→G):G:=by
 induction h:cv v using CV.casesOn with
 | int a=>rw[h] at e;exact Exists.elim (cv_int h) fun t ht=>k a t ht (Option.some.inj e)
 | _=>rw[h] at e;exact ofn e
theorem obT{β:Type}{o:CO}{f:List CV→Option β}{r:β}{G:Prop}(e:o.tp.bind f=some r)(k:∀vs,o=.tup vs→f vs=some r→G):G:=by
 induction o using CO.casesOn with
 | tup vs=>exact k vs rfl e
 | _=>exact ofn e
theorem obL{β:Type}{o:CO}{f:List CV→Option β}{r:β}{G:Prop}(e:o.ls.bind f=some r)(k:∀vs,o=.list vs→f vs=some r→G):G:=by
 induction o using CO.casesOn with
 | list vs=>exact k vs rfl e
 | _=>exact ofn e
theorem obD{β:Type}{o:CO}{f:List (Int × CV)→Option β}{r:β}{G:Prop}(e:o.di.bind f=some r)(k:∀vs,o=.dicti vs→f vs=some r→G):G:=by
 induction o using CO.casesOn with
 | dicti vs=>exact k vs rfl e
 | _=>exact ofn e
theorem obN{β:Type}{vs:List Value}{f:Unit→Option β}{r:β}{G:Prop}(e:(nil? (vs.map cv)).bind f=some r)(k:vs=[]→f ()=some r→G):G:=by
 induction vs using List.casesOn with
 | nil=>exact k rfl e
 | cons _ _=>exact ofn e
theorem ob1{β:Type}{vs:List Value}{f:CV→Option β}{r:β}{G:Prop}(e:(one (vs.map cv)).bind f=some r)(k:∀v,vs=[v]→f (cv v)=some r→G):G:=by
 induction vs using List.casesOn with
 | nil=>exact ofn e
 | cons v vs=>induction vs using List.casesOn with
  | nil=>exact k v rfl e
  | cons _ _=>exact ofn e
theorem ob2{β:Type}{vs:List Value}{f:CV × CV→Option β}{r:β}{G:Prop}(e:(two (vs.map cv)).bind f=some r)(k:∀v w,vs=[v,w]→f (cv v,cv w)=some r→G):G:=by
 induction vs using List.casesOn with
 | nil=>exact ofn e
 | cons v vs=>induction vs using List.casesOn with
  | nil=>exact ofn e
  | cons w vs=>induction vs using List.casesOn with
   | nil=>exact k v w rfl e
   | cons _ _=>exact ofn e
theorem Ai:(∀x y,Aw .Add x y=(some (x+y)))∧(∀x y,Aw .Sub x y=(some (x-y)))∧(∀x y,Aw .Mult x y=(if Ak x∨Ak y then some (x*y) else none))∧(∀x y,Aw .FloorDiv x y=(@ite _ (0<y∧y<1073741824∨(0<y∧Ak y)) (Classical.propDecidable _) (some (x.fdiv y)) none))∧(∀x y,Aw .Mod x y=(if 0<y then some (x.fmod y) else none))∧(∀x y,Aw .RShift x y=(if 0≤y then some (x.fdiv (2^y.toNat)) else none))∧(∀x y,Aw .LShift x y=(if 0≤y∧y≤1000∧Ak x then some (x*2^y.toNat) else none))∧(∀x y,Aw .Pow x y=(if 0≤y∧y≤1000∧Ak x then some (x^y.toNat) else none))∧(∀x y,Aw .BitAnd x y=(some (Builtin.bitAnd x y)))∧(∀x y,Aw .BitXor x y=(some (Builtin.bitXor x y))):=⟨fun _ _=>rfl,fun _ _=>rfl,fun _ _=>rfl,fun _ _=>rfl,fun _ _=>rfl,fun _ _=>rfl,fun _ _=>rfl,fun _ _=>rfl,fun _ _=>rfl,fun _ _=>rfl⟩
theorem lf_e:(∀vs,CO.lf (.list vs)=some vs)∧(∀vs ob,CO.lf (.frz vs ob)=some vs):=⟨fun _=>rfl,fun _ _=>rfl⟩
theorem eqB_e:(∀xs q,CO.eqB (.list xs) q=q.ls.bind fun ys=>(Av xs).bind fun is=>(Av ys).map fun js=>decide (is=js))∧(∀es q,CO.eqB (.dicti es) q=q.di.bind fun fs=>if fs=[] then some es.isEmpty else none):=⟨fun _ _=>rfl,fun _ _=>rfl⟩
theorem Bs:(∀i ys,CO.ninB i (.list ys)=(Av ys).map fun js=>!decide (i∈js))∧(∀i es,CO.ninB i (.dicti es)=some (Ap es i).isNone):=⟨fun _ _=>rfl,fun _ _=>rfl⟩
theorem Ba:(∀H a b,refCmp H .Eq a b=(asR a).bind fun x=>(asR b).bind fun y=>(H x).bind fun p=>(H y).bind fun q=>p.eqB q)∧(∀H a b,refCmp H .NotEq a b=(asR a).bind fun x=>(asR b).bind fun y=>(H.lsA x).bind fun xs=>(H.lsA y).bind fun ys=>(Av xs).bind fun is=>(Av ys).map fun js=>decide (is≠js))∧(∀H a b,refCmp H .In a b=(asI a).bind fun i=>(asR b).bind fun y=>(H.lsA y).bind fun ys=>(Av ys).map fun js=>decide (i∈js))∧(∀H a b,refCmp H .NotIn a b=(asI a).bind fun i=>(asR b).bind fun y=>(H y).bind (CO.ninB i)):=⟨fun _ _ _=>rfl,fun _ _ _=>rfl,fun _ _ _=>rfl,fun _ _ _=>rfl⟩
theorem Bu:(∀o H,Bm o H .none .none=noneCmp o true)∧(∀o H b,Bm o H (.ref b) .none=noneCmp o false)∧(∀o H p,Bm o H (.bool p) .none=noneCmp o false)∧(∀o H x y,Bm o H (.int x) (.int y)=intCmp o x y)∧(∀H p q,Bm .NotEq H (.bool p) (.bool q)=some (p != q))∧(∀o H a b,Bm o H a (.ref b)=refCmp H o a (.ref b)):=⟨fun _ _=>rfl,fun _ _ _=>rfl,fun _ _ _=>rfl,fun _ _ _ _=>rfl,fun _ _ _=>rfl,fun _ _ _ _=>rfl⟩
theorem negV_e:(∀x,negV (.int x)=some (.int (-x))):=fun _=>rfl
theorem allInts_e:(Av []=some [])∧(∀i r,Av (.int i::r)=(Av r).map (i :: ·)):=⟨rfl,fun _ _=>rfl⟩
theorem refBin_e:(∀H p b,refBin .Add H p b=(H.lsA p).bind fun xs=>(asR b).bind fun q=>(H.lsA q).bind fun ys=>if xs.length+ys.length≤lim then some (.new (.list (xs++ys))) else none)∧(∀H p b,refBin .Mult H p b=(H.lsA p).bind fun xs=>(one xs).bind fun x=>(asI b).bind fun n=>@ite _ (0≤n∧n≤1000000) (Classical.propDecidable _) (some (.new (.list (List.replicate n.toNat x)))) none):=⟨fun _ _ _=>rfl,fun _ _ _=>rfl⟩
theorem binV_e:(∀o H x b,binV o H (.int x) b=(asI b).bind fun y=>(Aw o x y).map fun r=>.v (.int r))∧(∀o H p b,binV o H (.ref p) b=refBin o H p b):=⟨fun _ _ _ _=>rfl,fun _ _ _ _=>rfl⟩
theorem truth_e:(∀H b,truth H (.bool b)=some b)∧(∀H,truth H .none=some false)∧(∀H a,truth H (.ref a)=(H.lsA a).bind fun vs=>if vs.length≤lim then some (!vs.isEmpty) else none):=⟨fun _ _=>rfl,fun _=>rfl,fun _ _=>rfl⟩
theorem len_e:(∀vs,CO.len (.list vs)=if vs.length≤lim then some (.v (.int vs.length)) else none)∧(∀vs,CO.len (.tup vs)=if vs.length≤lim then some (.v (.int vs.length)) else none):=⟨fun _=>rfl,fun _=>rfl⟩
theorem mkList_e:(∀vs,CO.mkList (.list vs)=if vs.length≤lim then some (.new (.list vs)) else none)∧(∀a b c,CO.mkList (.range a b c)=(Bw a b c).bind fun l=>if l.length≤lim then some (.new (.list (l.map CV.int))) else none):=⟨fun _=>rfl,fun _ _ _=>rfl⟩
theorem get2_e:(∀H k d es,CO.get2 H k d (.dicti es)=(asI k).map fun k=>.v ((Ap es k).getD d))∧(∀H k d ep,CO.get2 H k d (.dictp ep)=(asR k).bind fun t=>(H t).bind fun q=>q.tp.bind fun ks=>(Av ks).map fun is=>.v (((ep.find? fun p=>p.1=is).map (·.2)).getD d)):=⟨fun _ _ _ _=>rfl,fun _ _ _ _=>rfl⟩
theorem isD_e:(∀es,CO.isD (.dicti es)=some ())∧(∀ep,CO.isD (.dictp ep)=some ()):=⟨fun _=>rfl,fun _=>rfl⟩
theorem bfV_e:(∀H v,bfV .len H v=(asR v).bind fun a=>(H a).bind CO.len)∧(∀H v,bfV .abs H v=(asI v).map fun i=>.v (.int i.natAbs))∧(∀H v,bfV .list H v=(asR v).bind fun a=>(H a).bind CO.mkList)∧(∀H v,bfV .tuple H v=(asR v).bind fun a=>(H.lsA a).bind fun vs=>if vs.length≤lim then some (.new (.tup vs)) else none)∧(∀H v,bfV .sorted H v=(asR v).bind fun a=>(H a).bind fun o=>o.di.bind fun es=>if es.length<64 then some (.new (.list (((es.map (·.1)).mergeSort fun x y=>decide (x≤y)).map CV.int))) else none):=⟨fun _ _=>rfl,fun _ _=>rfl,fun _ _=>rfl,fun _ _=>rfl,fun _ _=>rfl⟩
theorem bmV_e:(∀H o vs,bmV .append H o vs=(asR o).bind fun a=>(H.lsA a).bind fun xs=>(one vs).bind fun x=>if xs.length<lim then some (.upd .none a (.list (xs++[x]))) else none)∧(∀H o vs,bmV .pop0 H o vs=(asR o).bind fun a=>(H.lsA a).bind fun xs=>(nil? vs).bind fun _=>(xs.getLast?).bind fun x=>if xs.length≤lim then some (.upd x a (.list xs.dropLast)) else none)∧(∀H o vs,bmV .pop1 H o vs=(asR o).bind fun a=>(H.lsA a).bind fun xs=>(one vs).bind fun k=>(asI k).bind fun k=>(idx k xs.length).bind fun j=>(xs[j]?).bind fun x=>if xs.length≤lim then some (.upd x a (.list (xs.eraseIdx j))) else none)∧(∀H o vs,bmV .get2 H o vs=(asR o).bind fun a=>(two vs).bind fun p=>(H a).bind (CO.get2 H p.1 p.2))∧(∀H o vs,bmV .index H o vs=(asR o).bind fun a=>(H.lsA a).bind fun xs=>(one vs).bind fun k=>(asI k).bind fun k=>(Av xs).bind fun is=>(is.idxOf? k).bind fun j=>if xs.length≤lim then some (.v (.int j)) else none)∧(∀H o vs,bmV .reverse H o vs=(asR o).bind fun a=>(H.lsA a).bind fun xs=>(nil? vs).bind fun _=>if xs.length≤lim then some (.upd .none a (.list xs.reverse)) else none)∧(∀H o vs,bmV .bitlen H o vs=(asI o).bind fun i=>(nil? vs).bind fun _=>if 0≤i∧Ak i then some (.v (.int (if i=0 then 0 else (i.natAbs.log2+1:Nat)))) else none):=⟨fun _ _ _=>rfl,fun _ _ _=>rfl,fun _ _ _=>rfl,fun _ _ _=>rfl,fun _ _ _=>rfl,fun _ _ _=>rfl,fun _ _ _=>rfl⟩
theorem bmLook_e:(∀H o,bmLook .get2 H o=(asR o).bind fun a=>(H a).bind CO.isD)∧(∀H o,bmLook .bitlen H o=(asI o).map fun _=>())∧(∀H o,bmLook .append H o=(asR o).bind fun a=>(H.lsA a).map fun _=>())∧(∀H o,bmLook .pop0 H o=(asR o).bind fun a=>(H.lsA a).map fun _=>())∧(∀H o,bmLook .pop1 H o=(asR o).bind fun a=>(H.lsA a).map fun _=>())∧(∀H o,bmLook .index H o=(asR o).bind fun a=>(H.lsA a).map fun _=>())∧(∀H o,bmLook .reverse H o=(asR o).bind fun a=>(H.lsA a).map fun _=>()):=⟨fun _ _=>rfl,fun _ _=>rfl,fun _ _=>rfl,fun _ _=>rfl,fun _ _=>rfl,fun _ _=>rfl,fun _ _=>rfl⟩
theorem setI_e:(∀H a i v vs,CO.setI H a i v (.list vs)=(asI i).bind fun k=>(idx k vs.length).map fun j=>H.put a (.list (vs.set j v)))∧(∀H a i v es,CO.setI H a i v (.dicti es)=(asI i).bind fun k=>if es.length<lim then some (H.put a (.dicti (if es.any (fun p=>p.1=k) then es.map (fun p=>if p.1=k then (p.1,v) else p) else es++[(k,v)]))) else none)∧(∀H a i v ep,CO.setI H a i v (.dictp ep)=(asR i).bind fun t=>(H t).bind fun q=>q.tp.bind fun ks=>(Av ks).bind fun is=>if ep.length<lim∧ep.all (fun p=>p.1≠is) then some (H.put a (.dictp (ep++[(is,v)]))) else none):=⟨fun _ _ _ _ _=>rfl,fun _ _ _ _ _=>rfl,fun _ _ _ _ _=>rfl⟩
end
section
set_option genInjectivity true
noncomputable def Room(n:Nat)(A:Around):Prop:=A.handled=none∧A.depth+2*n<900∧A.units+10*n<9000
abbrev BM_ (B:Base):Model:=model B.prog B.w
noncomputable def FT(B:Base)(fa:Fn→Addr)(n:Nat)(f:Fn)(vs:List CV)(H:CH)(Q:CV→CH→Prop):Prop:=
 ∀rvs:List Value,rvs.map cv=vs→∀A,Room n A→∀F s,RH B H F s→
  codeAny (model B.prog B.w) A (.call (.ref (fa f)) ⟨rvs,[]⟩) (fun r s'=>∃v,r=.ok (.ret v)∧∃H',RH B H' F s'∧Q (cv v) H') s
theorem FT.mono{B:Base}{fa:Fn→Addr}{n m:Nat}{f:Fn}{vs:List CV}{H:CH}{Q Q':CV→CH→Prop}(h:FT B fa n f vs H Q)(hn:n≤m)(q:∀v H',Q v H'→Q' v H'):FT B fa m f vs H Q':=by
 intro rvs e A hA F s R
 refine codeAny_mono (h rvs e A ⟨hA.1,by have:=hA.2.1;exact ar490 this hn,by have:=hA.2.2;exact ar491 this hn⟩ F s R) fun r s' z=>?_
 refine oe z fun v w0_=>?_;refine oa w0_ fun e w1_=>?_;clear w0_;refine oe w1_ fun H' w2_=>?_;clear w1_;refine oa w2_ fun R' q'=>?_;clear w2_
 exact⟨v,e,H',R',q _ _ q'⟩
noncomputable def Br(v:CV)(P Q:Prop):Prop:=match v with
 | .bool true=>P
 | .bool false=>Q
 | _=>False
@[simp] theorem Br_true(P Q:Prop):Br (.bool true) P Q=P:=rfl
@[simp] theorem Br_false(P Q:Prop):Br (.bool false) P Q=Q:=rfl
@[simp] theorem B4(p:Prop)[Decidable p](P Q:Prop):Br (.bool (decide p)) P Q↔if p then P else Q:=by by_cases h:p <;> simp[h]
theorem Br_bool(b:Bool)(P Q:Prop):Br (.bool b) P Q↔if b=true then P else Q:=by induction b using Bool.casesOn <;> simp
noncomputable def fin(t:Bool)(Q:CV→CS→Prop)(v:CV)(σ:CS):Prop:=match t with
 | false=>Q v σ
 | true=>Opt (truth σ.heap v) fun b=>Q (.bool b) σ
@[simp] theorem Aj(Q:CV→CS→Prop)(v:CV)(σ:CS):fin false Q v σ=Q v σ:=rfl
@[simp] theorem fin_tb(Q:CV→CS→Prop)(b:Bool)(σ:CS):fin true Q (.bool b) σ=Q (.bool b) σ:=rfl
theorem fin_bool(t:Bool)(Q:CV→CS→Prop)(b:Bool)(σ:CS):fin t Q (.bool b) σ↔Q (.bool b) σ:=by induction t using Bool.casesOn <;> simp
theorem fin_true(Q:CV→CS→Prop)(v:CV)(σ:CS):fin true Q v σ=Opt (truth σ.heap v) fun b=>Q (.bool b) σ:=rfl
noncomputable def Def(v:CV)(P:Prop):Prop:=match v with
 | .undef=>False
 | _=>P
theorem Def.ex{v:CV}{P:Prop}(h:Def v P):v≠.undef∧P:=by
 induction v using CV.casesOn <;> first | exact h.elim | exact⟨nofun,h⟩
theorem Def.mk{v:CV}{P:Prop}(h:v≠.undef)(p:P):Def v P:=by
 induction v using CV.casesOn <;> first | exact absurd rfl h | exact p
@[simp] theorem Def_int(i:Int)(P:Prop):Def (.int i) P=P:=rfl
@[simp] theorem Def_bool(i:Bool)(P:Prop):Def (.bool i) P=P:=rfl
@[simp] theorem Def_ref(i:Addr)(P:Prop):Def (.ref i) P=P:=rfl
@[simp] theorem Def_none(P:Prop):Def .none P=P:=rfl
noncomputable def Tst(t:Bool)(P:Prop):Prop:=match t with
 | true=>P
 | false=>False
@[simp] theorem Tst_true(P:Prop):Tst true P=P:=rfl
noncomputable def MOk(H:CH)(v:CV)(f:Fn):Prop:=∃x c d g,v=.ref x∧H x=some (.inst c d g)∧f.cl=some c
noncomputable def notV(Q:CV→CS→Prop)(v:CV)(σ:CS):Prop:=match v with
 | .bool b=>Q (.bool (!b)) σ
 | _=>False
@[simp] theorem notV_bool(Q:CV→CS→Prop)(b:Bool)(σ:CS):notV Q (.bool b) σ=Q (.bool (!b)) σ:=rfl
noncomputable def Rng(σ:CS)(Q:CV→CS→Prop)(o:CO):Prop:=∀a,σ.heap a=none→Q (.ref a) ⟨σ.vars,σ.heap.put a o⟩
mutual
noncomputable def WE(B:Base)(fa:Fn→Addr)(n:Nat):IE→Bool→CS→(CV→CS→Prop)→Prop
 | .int i,t,σ,Q=>fin t Q (.int i) σ
 | .bool b,t,σ,Q=>fin t Q (.bool b) σ
 | .none,t,σ,Q=>fin t Q .none σ
 | .var i,t,σ,Q=>Def (σ.get i) (fin t Q (σ.get i) σ)
 | .glob _ i,t,σ,Q=>fin t Q (.int i) σ
 | .attr e a,t,σ,Q=>WE B fa n e false σ fun v σ₁=>Opt (attrV σ₁.heap v a) fun r=>fin t Q r σ₁
 | .sub e i,t,σ,Q=>WE B fa n e false σ fun v σ₁=>WE B fa n i false σ₁ fun k σ₂=>Opt (subV σ₂.heap v k) fun r=>fin t Q r σ₂
 | .upto e u,t,σ,Q=>WE B fa n e false σ fun v σ₁=>WE B fa n u false σ₁ fun k σ₂=>Opt (uptoV σ₂.heap v k) fun r=>r.go σ₂.heap fun c H=>fin t Q c ⟨σ₂.vars,H⟩
 | .bin o a b,t,σ,Q=>WE B fa n a false σ fun v σ₁=>WE B fa n b false σ₁ fun k σ₂=>Opt (binV o σ₂.heap v k) fun r=>r.go σ₂.heap fun c H=>fin t Q c ⟨σ₂.vars,H⟩
 | .neg a,t,σ,Q=>WE B fa n a false σ fun v σ₁=>Opt (negV v) fun r=>fin t Q r σ₁
 | .not a,t,σ,Q=>Tst t (WE B fa n a true σ (notV Q))
 | .cmp o a b,t,σ,Q=>WE B fa n a false σ fun v σ₁=>WE B fa n b false σ₁ fun k σ₂=>Opt (Bm o σ₂.heap v k) fun r=>fin t Q (.bool r) σ₂
 | .and es,t,σ,Q=>Tst t (WA B fa n es σ Q)
 | .or es,t,σ,Q=>Tst t (WO B fa n es σ Q)
 | .ite c a b,t,σ,Q=>WE B fa n c true σ fun v σ₁=>Br v (WE B fa n a t σ₁ Q) (WE B fa n b t σ₁ Q)
 | .fn f es,t,σ,Q=>WL B fa n es σ fun vs σ₁=>FT B fa n f vs σ₁.heap fun r H=>fin t Q r ⟨σ₁.vars,H⟩
 | .cls c es,t,σ,Q=>WL B fa n es σ fun vs σ₁=>0<n∧∀x d,σ₁.heap x=none→FT B fa n.pred c.init (.ref x::vs) (σ₁.heap.put x (.inst c d fun _=>.undef)) fun r H=>r=.none∧fin t Q (.ref x) ⟨σ₁.vars,H⟩
 | .mth o f es,t,σ,Q=>WE B fa n o false σ fun v σ₁=>MOk σ₁.heap v f∧WL B fa n es σ₁ fun vs σ₂=>FT B fa n f (v::vs) σ₂.heap fun r H=>fin t Q r ⟨σ₂.vars,H⟩
 | .bf f e,t,σ,Q=>WE B fa n e false σ fun v σ₁=>Opt (bfV f σ₁.heap v) fun r=>r.go σ₁.heap fun c H=>fin t Q c ⟨σ₁.vars,H⟩
 | .bm o m es,t,σ,Q=>WE B fa n o false σ fun v σ₁=>bmOk m σ₁.heap v=true∧WL B fa n es σ₁ fun vs σ₂=>Opt (bmV m σ₂.heap v vs) fun r=>r.go σ₂.heap fun c H=>fin t Q c ⟨σ₂.vars,H⟩
 | .list es,t,σ,Q=>WL B fa n es σ fun vs σ₁=>vs.length≤lim∧Rng σ₁ (fin t Q) (.list vs)
 | .tup es,t,σ,Q=>WL B fa n es σ fun vs σ₁=>vs.length≤lim∧Rng σ₁ (fin t Q) (.tup vs)
 | .dict0 p,t,σ,Q=>(Rng σ (fin t Q) (if p=true then .dictp [] else .dicti []))
 | .dict1 k v,t,σ,Q=>Rng σ (fin t Q) (.dicti [(k,.int v)])
 | .range es,t,σ,Q=>WL B fa n es σ fun vs σ₁=>Opt (rangeV vs) fun o=>Rng σ₁ (fin t Q) o
 | .comp elt iter cond free,t,σ,Q=>WE B fa n iter false σ fun v σ₁=>∃a o items,v=.ref a∧σ₁.heap a=some o∧Bc o=some items∧items.length≤lim∧
   ∃I:Nat→List CV→CH→Prop,I 0 [] σ₁.heap∧
    (∀i x acc H,items[i]?=some x→I i acc H→H a=some o∧
     WA B fa n cond ⟨x::free.map σ₁.get,H⟩ fun b σ₂=>Br b (WE B fa n elt false σ₂ fun y σ₃=>I (i+1) (acc++[y]) σ₃.heap) (I (i+1) acc σ₂.heap))∧
    (∀acc H,I items.length acc H→H a=some o∧∀d,H d=none→fin t Q (.ref d) ⟨σ₁.vars,H.put d (.list acc)⟩)
noncomputable def WL(B:Base)(fa:Fn→Addr)(n:Nat):List IE→CS→(List CV→CS→Prop)→Prop
 | [],σ,Q=>Q [] σ
 | e::r,σ,Q=>WE B fa n e false σ fun v σ₁=>WL B fa n r σ₁ fun vs σ₂=>Q (v::vs) σ₂
noncomputable def WA(B:Base)(fa:Fn→Addr)(n:Nat):List IE→CS→(CV→CS→Prop)→Prop
 | [],σ,Q=>Q (.bool true) σ
 | e::r,σ,Q=>WE B fa n e true σ fun v σ₁=>Br v (WA B fa n r σ₁ Q) (Q (.bool false) σ₁)
noncomputable def WO(B:Base)(fa:Fn→Addr)(n:Nat):List IE→CS→(CV→CS→Prop)→Prop
 | [],σ,Q=>Q (.bool false) σ
 | e::r,σ,Q=>WE B fa n e true σ fun v σ₁=>Br v (Q (.bool true) σ₁) (WO B fa n r σ₁ Q)
end
set_option genCtorIdx false in
inductive CF where
 | next | brk | ret (v:CV)
noncomputable def CF.ctorIdx(x:CF):Nat:=CF.casesOn x 0 1 (fun _=>2)
noncomputable def WT(B:Base)(fa:Fn→Addr)(n:Nat):List Tg→List CV→CS→(CS→Prop)→Prop
 | [],[],σ,Q=>Q σ
 | .v i::r,x::xs,σ,Q=>WT B fa n r xs (σ.set i x) Q
 | .s o i::r,x::xs,σ,Q=>WE B fa n o false σ fun ov σ₁=>WE B fa n i false σ₁ fun iv σ₂=>Opt (setI σ₂.heap ov iv x) fun H=>WT B fa n r xs ⟨σ₂.vars,H⟩ Q
 | _,_,_,_=>False
noncomputable def SqK(k:CS→Prop)(Q:CF→CS→Prop)(f:CF)(σ:CS):Prop:=match f with
 | .next=>k σ
 | f=>Q f σ
mutual
noncomputable def WS(B:Base)(fa:Fn→Addr)(n:Nat):IS→CS→(CF→CS→Prop)→Prop
 | .setv i e,σ,Q=>WE B fa n e false σ fun v σ₁=>Q .next (σ₁.set i v)
 | .asgComp i e,σ,Q=>WE B fa n e false σ fun v σ₁=>Q .next (σ₁.set i v)
 | .setattr o a e,σ,Q=>WE B fa n e false σ fun v σ₁=>WE B fa n o false σ₁ fun ov σ₂=>Opt (setA σ₂.heap ov a v) fun H=>Q .next ⟨σ₂.vars,H⟩
 | .setsub o i e,σ,Q=>WE B fa n e false σ fun v σ₁=>WE B fa n o false σ₁ fun ov σ₂=>WE B fa n i false σ₂ fun iv σ₃=>Opt (setI σ₃.heap ov iv v) fun H=>Q .next ⟨σ₃.vars,H⟩
 | .unpack ts e,σ,Q=>WE B fa n e false σ fun v σ₁=>∃a vs,v=.ref a∧σ₁.heap a=some (.tup vs)∧vs.length=ts.length∧WT B fa n ts vs σ₁ (Q .next)
 | .swap i j,σ,Q=>σ.get i≠.undef∧σ.get j≠.undef∧Q .next ((σ.set j (σ.get i)).set i (σ.get j))
 | .augv i o e,σ,Q=>σ.get i≠.undef∧WE B fa n e false σ fun v σ₁=>Opt (binV o σ₁.heap (σ.get i) v) fun r=>∃c,r=.v (.int c)∧Q .next (σ₁.set i (.int c))
 | .augsub o i op e,σ,Q=>WE B fa n o false σ fun ov σ₁=>WE B fa n i false σ₁ fun iv σ₂=>Opt (subV σ₂.heap ov iv) fun old=>WE B fa n e false σ₂ fun v σ₃=>
   Opt (binV op σ₃.heap old v) fun r=>∃c,r=.v (.int c)∧Opt (setI σ₃.heap ov iv (.int c)) fun H=>Q .next ⟨σ₃.vars,H⟩
 | .expr e,σ,Q=>WE B fa n e false σ fun _ σ₁=>Q .next σ₁
 | .ite t a b,σ,Q=>WE B fa n t true σ fun v σ₁=>Br v (WSs B fa n a σ₁ Q) (WSs B fa n b σ₁ Q)
 | .whl t b,σ,Q=>∃I:Nat→CS→Prop,(∃m,I m σ)∧∀m σ₁,I m σ₁→WE B fa n t true σ₁ fun v σ₂=>Br v
   (WSs B fa n b σ₂ fun f σ₃=>match f with
    | .next=>∃k,k<m∧I k σ₃
    | .brk=>Q .next σ₃
    | .ret v=>Q (.ret v) σ₃) (Q .next σ₂)
 | .for x e b,σ,Q=>WE B fa n e false σ fun v σ₁=>∃a o items,v=.ref a∧σ₁.heap a=some o∧Bc o=some items∧items.length≤lim∧
   ∃I:Nat→CS→Prop,I 0 σ₁∧
    (∀i y σ₂,items[i]?=some y→I i σ₂→σ₂.heap a=some o∧WSs B fa n b (σ₂.set x y) fun f σ₃=>match f with
     | .next=>I (i+1) σ₃
     | .brk=>Q .next σ₃
     | .ret v=>Q (.ret v) σ₃)∧
    (∀σ₂,I items.length σ₂→σ₂.heap a=some o∧Q .next σ₂)
 | .ret e,σ,Q=>WE B fa n e false σ fun v σ₁=>Q (.ret v) σ₁
 | .ret0,σ,Q=>Q (.ret .none) σ
 | .brk,σ,Q=>Q .brk σ
noncomputable def WSs(B:Base)(fa:Fn→Addr)(n:Nat):List IS→CS→(CF→CS→Prop)→Prop
 | [],σ,Q=>Q .next σ
 | s::r,σ,Q=>WS B fa n s σ (SqK (fun σ₁=>WSs B fa n r σ₁ Q) Q)
end
end
section
noncomputable def HT{α:Type}(B:Base)(n:Nat)(t:Sem α)(H:CH)(Q:α→CH→Prop):Prop:=
 ∀A,Room n A→∀F s,RH B H F s→wpAny (model B.prog B.w) A t (fun v s'=>∃H',RH B H' F s'∧Q v H') (fun _ _=>False) s
section
variable {B:Base} {n:Nat} {H:CH}
theorem HT.mono{α:Type}{t:Sem α}{Q Q':α→CH→Prop}(h:HT B n t H Q)(q:∀v H',Q v H'→Q' v H'):HT B n t H Q':=
 fun A hA F s R=>wpAny_mono (h A hA F s R) (fun _ _ ⟨H',R',z⟩=>⟨H',R',q _ _ z⟩) fun _ _ z=>z
theorem HT.bind{α β:Type}{m:Sem α}{f:α→Sem β}{Q:β→CH→Prop}(h:HT B n m H fun a H'=>HT B n (f a) H' Q):HT B n (m >>= f) H Q:=
 fun A hA F s R=>wpAny_bind (wpAny_mono (h A hA F s R) (fun _ s' ⟨_,R',z⟩=>z A hA F s' R') fun _ _ z=>z)
theorem HT.pure{α:Type}{a:α}{Q:α→CH→Prop}(h:Q a H):HT B n (pure a) H Q:=fun _ _ _ _ R=>wpAny_pure ⟨_,R,h⟩
theorem RH.tok{F:Fz}{s:Shared}(R:RH B H F s)(t:Nat):RH B H F { s with toks:=t }:=R.toks t
theorem smallInt_bits{x:Int}(h:Ak x):Builtin.Int.intBits x≤64:=by
 unfold Builtin.Int.intBits
 split
 ·exact ar492
 ·rename_i q
  have hx:x.natAbs≠0:=by
   intro e;apply q;simpa using e
  have:x.natAbs.log2<64:=(Nat.log2_lt hx).mpr h
  exact ar493 this
theorem mulOk{x y:Int}(h:Ak x∨Ak y):IntMulOk x y:=by
 unfold IntMulOk
 intro e
 simp only[Bool.and_eq_true,decide_eq_true_eq] at e
 have s64:shortFactorBits=64:=rfl
 rcases h with h | h
 ·have:=smallInt_bits h;lia
 ·have:=smallInt_bits h;lia
theorem ht_int{o:Operator}{x y r:Int}{t u:Tok}{Q:Value→CH→Prop}(e:Aw o x y=some r)(q:∀t,Q (.int r t) H):HT B n (binaryOp o (.int x t) (.int y u)) H Q:=by
 intro A hA F s R
 have fin:∀r',r'=r→(∃H',RH B H' F { s with toks:=s.toks+1 }∧Q (.int r' s.toks) H'):=fun r' e=>⟨H,R.tok _,e▸q _⟩
 induction o using Operator.casesOn with
 | Add=>exact PyProof.Rows.add_int (fin _ (Option.some.inj e))
 | Sub=>exact PyProof.Rows.sub_int (fin _ (Option.some.inj e))
 | Mult=>exact oif e fun z e=>PyProof.Rows.mul_int (fin _ e) (mulOk z)
 | Mod=>exact oif e fun z e=>PyProof.Rows.mod_int' (Int.ne_of_gt z) (fin _ e)
 | FloorDiv=>
  refine oif e fun z e=>PyProof.Rows.floordiv_int (by omega) (fin _ e) (.inl (PyProof.noPylong_of_log2 ?_))
  have h64:y.natAbs<2^64:=by
   rcases z with ⟨_,z⟩ | ⟨_,z⟩
   ·have:(2:Nat)^64=18446744073709551616:=by decide
    omega
   ·exact z
  have hy:y.natAbs≠0:=by omega
  have:y.natAbs.log2<64:=(Nat.log2_lt hy).mpr h64
  omega
 | Pow=>
  refine oif e fun z e=>PyProof.Rows.pow_int z.1 ?_ (fin _ e)
  have b:=smallInt_bits z.2.2
  have:(Builtin.Int.intBits x:Int)*y≤64*1000:=Int.mul_le_mul (by omega) z.2.1 z.1 (by omega)
  have h27:(2:Int)^27=134217728:=by decide
  omega
 | LShift=>exact oif e fun z e=>PyProof.Rows.lshift_int_small z.1 (by omega) z.2.2 (fin _ e)
 | RShift=>exact oif e fun z e=>PyProof.Rows.rshift_int z (fin _ e)
 | BitAnd=>exact PyProof.Rows.and_int (fin _ (Option.some.inj e))
 | BitXor=>exact PyProof.Rows.xor_int (fin _ (Option.some.inj e))
 | _=>exact ofn e
theorem ht_neg{v:Value}{r:CV}{Q:Value→CH→Prop}(e:negV (cv v)=some r)(q:∀v',cv v'=r→Q v' H):HT B n (unaryOp .USub v) H Q:=by
 intro A hA F s R
 induction v using Value.casesOn with
 | int i t=>exact PyProof.Rows.neg_int ⟨H,R.tok _,q _ (Option.some.inj e)⟩
 | _=>exact ofn e
theorem bne_dec(x y:Int):(x != y)=decide (x≠y):=by
 by_cases h:x=y <;> simp[h]
theorem ht_cmpInt{o:CmpOp}{x y:Int}{t u:Tok}{b:Bool}{Q:Value→CH→Prop}(e:intCmp o x y=some b)(q:Q (.bool b) H):HT B n (compareOp o (.int x t) (.int y u)) H Q:=by
 intro A hA F s R
 have fin:∀b',b'=b→(∃H',RH B H' F s∧Q (.bool b') H'):=fun b' e=>⟨H,R,e▸q⟩
 induction o using CmpOp.casesOn with
 | Lt=>exact PyProof.Rows.lt_int (fin _ (Option.some.inj e))
 | LtE=>exact PyProof.Rows.le_int (fin _ (Option.some.inj e))
 | Gt=>exact PyProof.Rows.gt_int (fin _ (Option.some.inj e))
 | GtE=>exact PyProof.Rows.ge_int (fin _ (Option.some.inj e))
 | Eq=>exact PyProof.Rows.eq_int (fin _ (Option.some.inj e))
 | NotEq=>exact PyProof.Rows.ne_int (fin _ ((bne_dec x y).trans (Option.some.inj e)))
 | _=>exact ofn e
end
end
section
set_option tactic.hygienic true
theorem ints_of{its:List Value}{vs:List CV}{is:List Int}(h:its.map cv=vs)(e:Av vs=some is):IntsAre its is:=by
 induction its generalizing vs is with
 | nil=>subst h;simp[allInts_e] at e;subst e;exact .nil
 | cons v r ih=>
  subst h
  induction hv:cv v using CV.casesOn with
  | int i=>
   refine oe (cv_int hv) fun t z1_=>?_;subst z1_
   rw[List.map_cons,hv,allInts_e.2,Option.map_eq_some_iff] at e
   obtain⟨js,e,rfl⟩:=e
   exact .cons i t (ih rfl e)
  | _=>rw[List.map_cons,hv] at e;exact ofn e
theorem carried_of{its:List Value}{is:List Int}(h:IntsAre its is):CarriedAll its (is.map PyData.int):=by
 induction h with
 | nil=>exact .nil
 | cons n t _ ih=>exact .cons (.int n t) ih
theorem any_hits(x:Int)(is:List Int):(is.map PyData.int).any (datHitsInt x)=decide (x∈is):=by
 rw[datHitsInt_map,Bool.eq_iff_iff];simp
section
variable {B:Base} {n:Nat} {H:CH}
theorem IsL_of{h:Heap}{a:Addr}{its:Array Value}{k:Nat}(e:h.get? a=some (PySem.W.listOf its k)):h.IsList a its:=⟨_,e,rfl,k,rfl⟩
theorem arr{its:Array Value}:its.toList.toArray=its:=by simp
structure Base0 (B:Base):Prop where
 kin:B.K.In B.s₀.heap
 nolimit:B.s₀.heap.NoLimit
 mods:∃o,B.s₀.heap.get? sysModules=some o
theorem RH.notMods{F:Fz}{s:Shared}(b0:Base0 B)(R:RH B H F s){d:Addr}{o:CO}(e:H d=some o):(d==sysModules)=false:=by
 induction h:d==sysModules using Bool.casesOn with
 | false=>rfl
 | true=>
  have:=eq_of_beq h;subst this
  refine oe b0.mods fun ob q=>?_
  exact absurd (.inl ⟨o,e⟩) (R.apart _ _ (R.base _ _ q))
theorem RH.kin{F:Fz}{s:Shared}(b0:Base0 B)(R:RH B H F s):B.K.In s.heap:=fun a o e=>R.fr _ _ (R.base _ _ (b0.kin a o e))
theorem RH.keeps{F:Fz}{s:Shared}(R:RH B H F s):∀b o,B.s₀.heap.get? b=some o→s.heap.get? b=some o:=fun b o e=>R.fr _ _ (R.base _ _ e)
theorem room_units{A:Around}(h:Room n A):A.units+64<cLine:=by
 have:=h.2.2
 show A.units+64<9900
 exact ar494 this
theorem RH.lsA{F:Fz}{s:Shared}(R:RH B H F s){β:Type}{a:Addr}{f:List CV→Option β}{r:β}{G:Prop}(e:(H.lsA a).bind f=some r)
  (k:∀its c,H a=some (.list (its.toList.map cv))→s.heap.get? a=some (PySem.W.listOf its c)→f (its.toList.map cv)=some r→G):G:=by
 refine obk e fun xs h e=>obk h fun o ho h=>?_
 induction o using CO.casesOn with
 | list vs=>
  cases h
  refine Be (R.obj _ _ ho) fun its c g m=>?_
  subst m
  exact k its c ho g e
 | _=>exact ofn h
theorem eq_ints{F:Fz}{s:Shared}{A:Around}(R:RH B H F s)(hA:Room n A){o:CmpOp}{a c:Addr}{xs ys:List CV}{is js:List Int}{b:Bool}{Q:Value→CH→Prop}(h1:H a=some (.list xs))(h2:H c=some (.list ys))(e1:Av xs=some is)(e2:Av ys=some js)
  (hb:(o = .Eq∧b=decide (is=js))∨(o = .NotEq∧b=decide (is≠js))) (q:Q (.bool b) H) :
  wpAny (model B.prog B.w) A (compareOp o (.ref a) (.ref c)) (fun v s'=>∃H',RH B H' F s'∧Q v H') (fun _ _=>False) s:=by
 refine Be (R.obj _ _ h1) fun i1 k1 g1 m1=>?_
 refine Be (R.obj _ _ h2) fun i2 k2 g2 m2=>?_
 rcases hb with ⟨rfl,rfl⟩ | ⟨rfl,rfl⟩
 ·exact PySem.W.eq_intsK (by rw[arr];exact IsL_of g1) (ints_of m1 e1) (by rw[arr];exact IsL_of g2) (ints_of m2 e2) (room_units hA) ⟨H,R,q⟩
 ·exact PySem.W.ne_intsK (by rw[arr];exact IsL_of g1) (ints_of m1 e1) (by rw[arr];exact IsL_of g2) (ints_of m2 e2) (room_units hA) ⟨H,R,(by simpa using q)⟩
theorem ls_eq{a:Addr}{xs:List CV}(e:H.lsA a=some xs):H a=some (.list xs):=by
 refine obk e fun o ho h=>?_
 induction o using CO.casesOn with
 | list vs=>cases h;exact ho
 | _=>exact ofn h
theorem ht_refCmp(b0:Base0 B){o:CmpOp}{x y:Value}{b:Bool}{Q:Value→CH→Prop}(e:refCmp H o (cv x) (cv y)=some b)(q:Q (.bool b) H):HT B n (compareOp o x y) H Q:=by
 intro A hA F s R
 induction o using CmpOp.casesOn with
 | Eq=>
  refine obR e fun a z e=>obR e fun c z' e=>obk e fun p h1 e=>obk e fun p' h2 w=>?_
  subst z;subst z'
  induction p using CO.casesOn with
  | list xs=>exact obL w fun ys hy e=>obk e fun is e1 e=>omk e fun js e2 e=>eq_ints R hA h1 (h2.trans (congrArg some hy)) e1 e2 (.inl ⟨rfl,e.symm⟩) q
  | dicti es=>
   refine obD w fun fs hf e=>oif e fun hn w2=>?_
   subst hf;subst hn;subst w2
   refine oea (R.obj _ _ h1) fun ka g1 m1=>?_
   refine oea (R.obj _ _ h2) fun kb g2 m2=>?_
   have hkb:kb=[]:=List.map_eq_nil_iff.mp m2
   subst hkb
   refine PySem.W.keq_eq (knd:=ik B) (r:=true) (R.notMods b0 h1) (R.notMods b0 h2) g1 g2 (by have:=room_units hA;exact ar495 this) (fun hl=>?_) ⟨H,R,?_⟩
   ·induction ka using List.casesOn with
    | nil=>exact .nil
    | cons p r=>cases hl
   ·subst m1
    induction ka using List.casesOn with
    | nil=>exact q
    | cons p r=>exact q
  | _=>exact ofn w
 | NotEq=>
  refine obR e fun a z e=>obR e fun c z' e=>obk e fun xs h1 e=>obk e fun ys h2 e=>obk e fun is e1 e=>omk e fun js e2 w=>?_
  subst z;subst z'
  exact eq_ints R hA (ls_eq h1) (ls_eq h2) e1 e2 (.inr ⟨rfl,w.symm⟩) q
 | In=>
  refine obI e fun i t z e=>obR e fun c z' e=>R.lsA e fun its k h g e=>omk e fun js e2 w=>?_
  subst z;subst z';subst w
  refine PyProof.Rows.in_made_int (by rw[arr];exact IsL_of g) (carried_of (ints_of rfl e2)) ⟨H,R,?_⟩
  rw[any_hits];exact q
 | NotIn=>
  refine obI e fun i t z e=>obR e fun c z' e=>obk e fun p h2 w=>?_
  subst z;subst z'
  induction p using CO.casesOn with
  | list ys=>
   refine omk w fun js e2 w=>?_
   subst w
   refine Be (R.obj _ _ h2) fun i2 k2 g2 m2=>?_
   refine PyProof.Rows.notin_made_int (by rw[arr];exact IsL_of g2) (carried_of (ints_of m2 e2)) ⟨H,R,?_⟩
   rw[any_hits];exact q
  | dicti es=>
   refine oea (R.obj _ _ h2) fun kvs g m=>?_
   cases w
   refine wpAny_notIn_of (knd:=ik B) (k:=i) (by simp[ik,intKind,Value.isInt]) (R.notMods b0 h2) g.mapOf ⟨H,R.tok _,?_⟩
   have:(valueAt kvs i).isSome=(Ap es i).isSome:=by
    subst m
    unfold valueAt Ap
    rw[List.find?_map]
    simp[Function.comp_def]
   rw[this]
   induction hh:Ap es i using Option.casesOn <;> rw[hh] at q <;> exact q
  | _=>exact ofn w
 | _=>exact ofn e
theorem ht_none{o:CmpOp}{x y:Value}{a b:Bool}{Q:Value→CH→Prop}(e:noneCmp o a=some b)(h:∀A F s,RH B H F s→(Q (.bool a) H→wpAny (model B.prog B.w) A (compareOp .Is x y) (fun v s'=>∃H',RH B H' F s'∧Q v H') (fun _ _=>False) s)∧(Q (.bool !a) H→wpAny (model B.prog B.w) A (compareOp .IsNot x y) (fun v s'=>∃H',RH B H' F s'∧Q v H') (fun _ _=>False) s))(q:Q (.bool b) H):HT B n (compareOp o x y) H Q:=by
 induction o using CmpOp.casesOn with
 | Is=>cases e;exact fun A hA F s R=>(h A F s R).1 q
 | IsNot=>cases e;exact fun A hA F s R=>(h A F s R).2 q
 | _=>exact ofn e
theorem ht_cmpG(b0:Base0 B){o:CmpOp}{x y:Value}{a c:CV}{b:Bool}{Q:Value→CH→Prop}(ha:cv x=a)(hc:cv y=c)(e:Bm o H a c=some b)(q:Q (.bool b) H):HT B n (compareOp o x y) H Q:=by
 induction c using CV.casesOn with
 | none=>
  have:=cv_none hc;subst this
  induction a using CV.casesOn with
  | none=>
   have:=cv_none ha;subst this
   exact ht_none e (fun A F s R=>⟨fun q=>wpAny_is_self rfl ⟨H,R,q⟩,fun q=>wpAny_isNot_self rfl ⟨H,R,q⟩⟩) q
  | ref r=>
   have:=cv_ref ha;subst this
   exact ht_none e (fun A F s R=>⟨fun q=>wpAny_is_other rfl (by simp) ⟨H,R,q⟩,fun q=>wpAny_isNot_other rfl (by simp) ⟨H,R,q⟩⟩) q
  | bool p=>
   have:=cv_bool ha;subst this
   exact ht_none e (fun A F s R=>⟨fun q=>wpAny_is_other (by induction p using Bool.casesOn <;> rfl) (by simp) ⟨H,R,q⟩,fun q=>wpAny_isNot_other (by induction p using Bool.casesOn <;> rfl) (by simp) ⟨H,R,q⟩⟩) q
  | _=>exact ofn e
 | int j=>
  induction a using CV.casesOn with
  | int i=>exact Exists.elim (cv_int ha) fun t ht=>Exists.elim (cv_int hc) fun u hu=>by subst ht;subst hu;exact ht_cmpInt e q
  | _=>exact ofn e
 | bool p=>
  induction a using CV.casesOn with
  | bool r=>
   have:=cv_bool ha;subst this
   have:=cv_bool hc;subst this
   induction o using CmpOp.casesOn with
   | NotEq=>cases e;exact fun A hA F s R=>PyProof.Rows.ne_bool ⟨H,R,q⟩
   | _=>exact ofn e
  | _=>exact ofn e
 | ref r=>subst ha;exact ht_refCmp b0 (by rw[hc];exact e) q
 | undef=>exact ofn e
theorem ht_cmp(b0:Base0 B){o:CmpOp}{x y:Value}{b:Bool}{Q:Value→CH→Prop}(e:Bm o H (cv x) (cv y)=some b)(q:Q (.bool b) H):HT B n (compareOp o x y) H Q:=ht_cmpG b0 rfl rfl e q
theorem ht_truth{v:Value}{b:Bool}{Q:Bool→CH→Prop}(e:truth H (cv v)=some b)(q:Q b H):HT B n (truthy v) H Q:=by
 intro A hA F s R
 induction h:cv v using CV.casesOn with
 | bool c=>rw[h] at e;cases e;rw[cv_bool h];exact wpAny_truthy_bool ⟨H,R,q⟩
 | none=>rw[h] at e;cases e;rw[cv_none h];exact wpAny_pure ⟨H,R,q⟩
 | ref a=>
  rw[h] at e
  have:=cv_ref h;subst this
  refine R.lsA e fun its c _ g e=>oif e fun hz e=>?_
  subst e
  have hl:its.size=(its.toList.map cv).length:=by simp
  refine wpAny_truthy_list (IsL_of g) ?_ ⟨H,R.tok _,?_⟩
  ·rw[Ab] at hz;exact ar496 hz hl
  ·have:its.isEmpty=(its.toList.map cv).isEmpty:=by
    induction its using Array.casesOn with | mk l=>induction l using List.casesOn <;> simp
   rw[this];exact q
 | _=>rw[h] at e;exact ofn e
end
end
section
set_option tactic.hygienic true
theorem idx_some{i:Int}{n j:Nat}(h:idx i n=some j):0≤i∧i<n∧i<2^62∧j=i.toNat:=by
 unfold idx at h;split at h
 ·rename_i q;cases h;exact⟨q.1,q.2.1,q.2.2,rfl⟩
 ·cases h
theorem arr_get{its:Array Value}{vs:List CV}(m:its.toList.map cv=vs){j:Nat}{c:CV}(e:vs[j]?=some c):∃v,its[j]?=some v∧cv v=c:=by
 subst m
 rw[List.getElem?_map,Option.map_eq_some_iff] at e
 obtain⟨v,e,rfl⟩:=e
 exact⟨v,by rw[← Array.getElem?_toList];exact e,rfl⟩
theorem seqIdx_pos{k:Int}{m:Nat}(h:0≤k)(h2:k<m):seqIndex? k m=some k.toNat:=by
 unfold seqIndex?
 have h3:¬ k<0:=by exact ar497 h
 simp only[h3,if_false]
 rw[if_pos (by simp[h,h2])]
theorem B2{its:Array Value}{vs:List CV}(m:its.toList.map cv=vs):its.size=vs.length:=by subst m;simp
section
variable {B:Base} {n:Nat} {H:CH}
theorem RH.typeList{F:Fz}{s:Shared}(R:RH B H F s){a:Addr}{vs:List CV}(e:H a=some (.list vs)):s.TypeIs (.ref a) "list":=by
 refine Be (R.obj _ _ e) fun its k g m=>?_;exact⟨_,g,rfl⟩
theorem ht_getItem(b0:Base0 B){v i:Value}{r:CV}{Q:Value→CH→Prop}(e:subV H (cv v) (cv i)=some r)(q:∀v',cv v'=r→Q v' H):HT B n (getItem v i) H Q:=by
 intro A hA F s R
 refine obR e fun a z e=>obI e fun k t z' e=>obk e fun o h1 w=>?_
 subst z;subst z'
 induction o using CO.casesOn with
 | list vs=>
  refine Be (R.obj _ _ h1) fun its c g m=>?_
  refine obk w fun j e1 e2=>?_
  refine oa3 (idx_some e1) fun p1 p2 p3 z3_=>?_;subst z3_
  refine oea (arr_get m e2) fun v' g' z2_=>?_;subst z2_
  exact wpAny_getItem_list (IsL_of g) p1 (by exact ar498 p3) g' ⟨H,R,q _ rfl⟩
 | tup vs=>
  refine Be (R.obj _ _ h1) fun its c g m=>?_
  refine obk w fun j e1 e2=>?_
  refine oa3 (idx_some e1) fun p1 p2 p3 z3_=>?_;subst z3_
  refine oea (arr_get m e2) fun v' g' z2_=>?_;subst z2_
  rw[← B2 m] at p2
  exact PyProof.Rows.getItem_tuple (j:=k.toNat) ⟨_,g,rfl,c,rfl⟩ (by lia) (by lia) (seqIdx_pos p1 p2) g' ⟨H,R,q _ rfl⟩
 | dicti es=>
  refine oea (R.obj _ _ h1) fun kvs g m=>?_
  have:∃v',valueAt kvs k=some v'∧cv v'=r:=by
   subst m
   have e:Ap (kvs.map fun p=>(p.1,cv p.2)) k=some r:=w
   unfold Ap at e
   rw[List.find?_map,Option.map_map] at e
   refine omk e fun p e z=>⟨p.2,?_,z⟩
   unfold valueAt
   simp only[Function.comp_def] at e
   rw[e];rfl
  refine oea this fun v' e' z2_=>?_;subst z2_
  exact wpAny_getItem_of (knd:=ik B) (k:=k) (by simp[ik,intKind,Value.isInt]) g.mapOf e' ⟨H,R.tok _,q _ rfl⟩
 | _=>exact ofn w
theorem sub_type{F:Fz}{s:Shared}(R:RH B H F s){v i:Value}{r:CV}(e:subV H (cv v) (cv i)=some r):
  ∃T id,s.TypeIs v T∧typeLookup (.type T) "__getitem__" = pure (some (.builtin id)):=by
 refine obR e fun a z e=>obI e fun k t z' e=>obk e fun o h1 w=>?_
 subst z
 induction o using CO.casesOn with
 | list vs=>exact⟨_,_,R.typeList h1,PySem.F.slot_list_getitem.lookup⟩
 | tup vs=>
  refine Be (R.obj _ _ h1) fun its c g m=>?_
  exact⟨_,_,⟨_,g,rfl⟩,PySem.F.slot_tuple_getitem.lookup⟩
 | dicti es=>
  refine oea (R.obj _ _ h1) fun kvs g m=>?_
  exact⟨_,_,g.typeIs,PySem.slot_dict_getitem.lookup⟩
 | _=>exact ofn w
theorem ht_subTail(b0:Base0 B){value slice:Expr}{v i:Value}{r:CV}{Q:Value→CH→Prop}(e:subV H (cv v) (cv i)=some r)(q:∀v',cv v'=r→Q v' H)
  (hs:∀o i,subscripted slice false o i=operate [o,i] (getItem o i)):HT B n (subscriptTail value slice v i) H Q:=by
 intro A hA F s R
 refine Be (sub_type R e) fun T id h1 h2=>?_
 exact tail_any h1 h2 (ht_getItem b0 e q A hA F s R) (hs _ _)
theorem RH.newList{F:Fz}{s:Shared}(R:RH B H F s)(its:Array Value):RH B (H.put s.heap.objs.size (.list (its.toList.map cv))) F { s with heap:=s.heap.push { cls:=.type "list",data:=.seq its } }:=
 R.new (ob:={ cls:=.type "list",data:=.seq its }) ⟨its,0,Heap.get?_push_size _ rfl,rfl⟩ (fun _ _ _ e=>by cases e)
theorem RH.newTup{F:Fz}{s:Shared}(R:RH B H F s)(its:Array Value):RH B (H.put s.heap.objs.size (.tup (its.toList.map cv))) F { s with heap:=s.heap.push { cls:=.type "tuple",data:=.seq its } }:=
 R.new (ob:={ cls:=.type "tuple",data:=.seq its }) ⟨its,0,Heap.get?_push_size _ rfl,rfl⟩ (fun _ _ _ e=>by cases e)
theorem RH.newDict{F:Fz}{s:Shared}(R:RH B H F s):RH B (H.put s.heap.objs.size (.dicti [])) F { s with heap:=s.heap.push { cls:=.type "dict",data:=.dict #[] } }:=
 R.new ⟨[],Heap.DictOf.new _,rfl⟩ (fun _ _ _ e=>by cases e)
theorem RH.newDictp{F:Fz}{s:Shared}(R:RH B H F s):RH B (H.put s.heap.objs.size (.dictp [])) F { s with heap:=s.heap.push { cls:=.type "dict",data:=.dict #[] } }:=
 R.new ⟨[],Heap.DictOfH.new _,rfl⟩ (fun _ _ _ e=>by cases e)
theorem RH.fresh{F:Fz}{s:Shared}(R:RH B H F s):H s.heap.objs.size=none:=(R.free (Bf _)).1
theorem ht_newList{vs:List Value}{Q:Value→CH→Prop}(hz:vs.length≤lim)(q:∀a,H a=none→Q (.ref a) (H.put a (.list (vs.map cv)))):HT B n (newList vs) H Q:=by
 intro A hA F s R
 refine wpAny_newList ⟨_,R.newList _,?_⟩ (by rw[Bt];exact hz)
 simpa using q _ R.fresh
theorem ht_newTup{vs:List Value}{Q:Value→CH→Prop}(hz:vs.length≤lim)(q:∀a,H a=none→Q (.ref a) (H.put a (.tup (vs.map cv)))):HT B n (newTuple vs) H Q:=by
 intro A hA F s R
 refine wpAny_newTuple ⟨_,R.newTup _,?_⟩ (by rw[Bt];exact hz)
 simpa using q _ R.fresh
theorem take_map(its:Array Value)(k:Nat):(its.toList.take k).map cv=(its.toList.map cv).take k:=by rw[List.map_take]
theorem pick_upto(its:Array Value){k:Int}(h:0≤k):slicePick its none (some k) none=(its.toList.take k.toNat).toArray:=by
 have e:sliceBounds none (some k) none its.size=(((0:Nat):Int),((min k.toNat its.size:Nat):Int),1):=by
  simp only[sliceBounds,Option.getD_none,show(1:Int)>0 by decide,if_true,if_neg (show ¬ (k<0) by lia)]
  congr 1
  congr 1
  exact ar500
 simp only[kmk_pick_nat _ e,List.drop_zero,Nat.sub_zero,← Array.length_toList,kmk_take_min]
theorem sliceW(b0:Base0 B){value:Expr}{p:Pos}{ue:Expr}{v u:Value}{r:RV}{Q:Value→CH→Prop}(e:uptoV H (cv v) (cv u)=some r)
  (q:r.go H fun c H'=>∀v',cv v'=c→Q v' H'):∀{A:Around} {F:Fz} {s:Shared},RH B H F s→
  wpAny (model B.prog B.w) A (newFields "slice" [.none,u,.none]) (fun i s'=>wpAny (model B.prog B.w) A (subscriptTail value (.Slice none (some ue) none p) v i) (fun v s''=>∃H',RH B H' F s''∧Q v H') (fun _ _=>False) s') (fun _ _=>False) s:=by
 intro A F s R
 refine obR e fun a z e=>obI e fun k t z' e=>obk e fun o h1 e=>obk e fun vs hv w=>?_
 subst z;subst z'
 have hob:∃ob its c,s.heap.get? a=some ob∧ob.cls=.type "list"∧ob.data=.seq its c∧its.toList.map cv=vs:=by
  induction o using CO.casesOn with
  | list xs=>cases hv;exact Exists.elim (R.obj _ _ h1) fun its x=>Exists.elim x fun c x=>⟨_,its,c,x.1,rfl,rfl,x.2⟩
  | frz xs ob=>cases hv;exact Exists.elim (R.obj _ _ h1).2 fun its x=>Exists.elim x fun c x=>⟨ob,its,c,(R.obj _ _ h1).1,x.1,x.2.1,x.2.2⟩
  | _=>exact ofn hv
 refine oe3a3 hob fun ob0 its c g hcl hda m=>?_
 refine oif w fun hz w=>?_
 subst w
 have hl:=B2 m
 refine wpAny_newObj_type (T:="slice") ?_ (by show(3:Nat)≤sizeLine+2;rw[Bt,Ab];decide)
 let ob:Obj:={ cls:=.type "slice",data:=.fields #[.none,.int k t,.none] }
 have R1:RH B H F { s with heap:=s.heap.push ob }:=R.push ob
 have g1:(s.heap.push ob).get? a=some ob0:=Heap.get?_push_of_some _ g
 have g2:(s.heap.push ob).get? s.heap.objs.size=some ob:=Heap.get?_push_size _ rfl
 refine tail_any (s:={ s with heap:=s.heap.push ob }) ⟨_,g1,hcl⟩ PySem.F.slot_list_getitem.lookup ?_ (by rfl)
 refine wpAny_getItem_list_slice (s:={ s with heap:=s.heap.push ob }) ⟨_,g1,hcl,_,hda⟩ ⟨_,g2,rfl,rfl⟩ .none (.int k t) .none (by simp) ?_ (by rw[Bt];show its.size≤lim;rw[hl];exact hz.2.2)
 have R2:=R1.newList (slicePick its none (some k) none)
 refine⟨_,R2,?_⟩
 rw[pick_upto its hz.1]
 have:=q _ R1.fresh (.ref _) rfl
 simpa[m,List.map_take] using this
theorem list_add{A:Around}{F:Fz}{s:Shared}(R:RH B H F s){p:Addr}{y:Value}{r:RV}{Q:Value→CH→Prop}(e:refBin .Add H p (cv y)=some r)(q:r.go H fun c H'=>∀v',cv v'=c→Q v' H'):
  wpAny (model B.prog B.w) A (binaryOp .Add (.ref p) y) (fun v s'=>∃H',RH B H' F s'∧Q v H') (fun _ _=>False) s:=by
 refine R.lsA e fun i1 k1 _ g1 e=>obR e fun c z e=>R.lsA e fun i2 k2 _ g2 e=>oif e fun hz w=>?_
 subst z;subst w
 refine concat_meets ⟨_,g1,rfl⟩ ⟨_,g2,rfl⟩ noFill_list_add seq_list_add PySem.F.slot_list_add PySem.F.entry_list_add (PySem.F.args_list_add_2 _ _)
  (list_addW p c i1 i2 k1 k2 none none #[] #[] (by simpa[Bt] using hz)) ⟨g1,g2,_,R.newList _,?_⟩
 have:=q _ R.fresh (.ref _) rfl
 simpa using this
theorem list_mult{A:Around}{F:Fz}{s:Shared}(R:RH B H F s){p:Addr}{y:Value}{r:RV}{Q:Value→CH→Prop}(e:refBin .Mult H p (cv y)=some r)(q:r.go H fun c H'=>∀v',cv v'=c→Q v' H'):
  wpAny (model B.prog B.w) A (binaryOp .Mult (.ref p) y) (fun v s'=>∃H',RH B H' F s'∧Q v H') (fun _ _=>False) s:=by
 refine R.lsA e fun its k _ g e=>ob1 e fun v0 hv e=>obI e fun nn t z e=>oif e fun hz w=>?_
 subst z;subst w
 have hi:its = #[v0]:=by rw[← arr (its:=its),hv]
 subst hi
 refine PySem.wpAny_binaryOp_repeat_ref (T:="list") (U:="int") (by decide) ⟨_,g,rfl⟩ (fun s'=>typeIs_int s' nn t) noFill_list_mul PySem.F.fills_int_mul PySem.F.slot_int_rmul repeat_list PySem.F.slot_int_index.lookup
  (call_meets PySem.F.slot_int_rmul (typeIs_int s nn t) PySem.F.entry_int_rmul (PySem.F.args_int_rmul_2 _ _) (int___rmul___int_list nn t p _ k)
   ⟨g,rfl,⟨_,g,rfl⟩,call_meets PySem.F.slot_list_mul ⟨_,g,rfl⟩ PySem.F.entry_list_mul (PySem.F.args_list_mul_2 _ _)
    (AutoListH.list___mul___list_int_3 p _ k nn t (by simp[Builtin.List.listFitsIndex];lia) (by have h1:(#[v0]:Array Value).size=1:=rfl;rw[h1];exact ar502 hz) (by have:nn.toNat≤1000000:=(by exact ar503 hz);simp[Builtin.List.listTooLong,sizeLine];exact ar504 hz))
    ⟨g,_,R.newList _,?_⟩⟩)
 have key:∀(j:Nat) (acc:Array Value),(List.foldl (fun x1 x2=>x1++x2) acc (List.replicate j #[v0])).toList.map cv=acc.toList.map cv++List.replicate j (cv v0):=by
  intro j
  induction j with
  | zero=>intro acc;simp
  | succ j ih=>intro acc;rw[List.replicate_succ,List.foldl_cons,ih];simp[List.replicate_succ]
 have:=q _ R.fresh (.ref _) rfl
 simp only[List.isEmpty_toArray,List.isEmpty_cons,Bool.false_eq_true,if_false]
 simp only[key]
 simpa using this
theorem ht_binG{o:Operator}{x y:Value}{a:CV}{r:RV}{Q:Value→CH→Prop}(ha:cv x=a)(e:binV o H a (cv y)=some r)(q:r.go H fun c H'=>∀v',cv v'=c→Q v' H'):HT B n (binaryOp o x y) H Q:=by
 induction a using CV.casesOn with
 | int i=>exact Exists.elim (cv_int ha) fun t ht=>obI e fun j u z e=>omk e fun c e' w=>by subst ht;subst z;subst w;exact ht_int e' fun t=>q _ rfl
 | ref p=>
  have:=cv_ref ha;subst this
  intro A hA F s R
  induction o using Operator.casesOn with
  | Add=>exact list_add R e q
  | Mult=>exact list_mult R e q
  | _=>exact ofn e
 | _=>exact ofn e
theorem ht_bin(b0:Base0 B){o:Operator}{x y:Value}{r:RV}{Q:Value→CH→Prop}(e:binV o H (cv x) (cv y)=some r)(q:r.go H fun c H'=>∀v',cv v'=c→Q v' H'):HT B n (binaryOp o x y) H Q:=ht_binG rfl e q
end
end
section
set_option tactic.hygienic true
structure ClsOk (B:Base) (c:Cl):Prop where
 setattr:findIn B.K (.ref (B.cls c)) "__setattr__" = some (some (.builtin "object.__setattr__"))
 over:plainOver B.K (B.cls c)=true
 dict:hasDictIn B.K (B.cls c)=true
 get:plainGet B.K (B.cls c) "" = true
 makes:makesIn B.K (B.cls c)=true
 at_:∀a:At,c.has a=true→findIn B.K (.ref (B.cls c)) a.name=some none∧takerIn B.K (B.cls c) a.name=some none
section
variable {B:Base} {n:Nat} {H:CH}
theorem IsL_upd{h:Heap}{a:Addr}{its:Array Value}{k:Nat}(e:h.get? a=some (PySem.W.listOf its k))(f:Array Value→Array Value):
  (h.update a (Obj.mapSeq f)).get? a=some (PySem.W.listOf (f its) (if (f its).size==its.size then k else k+1)):=PySem.IsL.update e f
theorem RH.setList{F:Fz}{s:Shared}{h':Heap}(R:RH B H F s){a:Addr}{vs:List CV}{its':Array Value}{k:Nat}(e:H a=some (.list vs))(hs:Heap.SameBut a s.heap h')(g:h'.get? a=some (PySem.W.listOf its' k)):
  RH B (H.put a (.list (its'.toList.map cv))) F { s with heap:=h' }:=
 R.upd e hs ⟨its',k,g,rfl⟩ (fun _ _ _ q=>by cases q) (fun _ _ _ q=>by cases q) (fun _ q=>by cases q)
theorem set_map(its:Array Value)(j:Nat)(v:Value):(its.setIfInBounds j v).toList.map cv=(its.toList.map cv).set j (cv v):=by
 rw[Array.toList_setIfInBounds,List.map_set]
theorem ints_are{l:List Value}{is:List Int}(h:IntsAre l is):ItemsAre (intKind B.prog B.w) is l:=by
 induction h with
 | nil=>exact .nil
 | cons i u _ ih=>exact .cons (by simp[intKind,Value.isInt]) ih
theorem ht_setItem(b0:Base0 B){o i v:Value}{H':CH}{Q:CH→Prop}(e:setI H (cv o) (cv i) (cv v)=some H')(q:Q H'):HT B n (setItem o i v) H fun _=>Q:=by
 intro A hA F s R
 refine obR e fun a z e=>obk e fun ob h1 w=>?_
 subst z
 induction ob using CO.casesOn with
 | list vs=>
  refine obI w fun k t z' w=>omk w fun j e1 w2=>?_
  subst z';subst w2
  refine Be (R.obj _ _ h1) fun its c g m=>?_
  refine oa3 (idx_some e1) fun p1 p2 p3 z3_=>?_;subst z3_
  refine ki_setAt g p1 (by exact ar498 p3) (by rw[B2 m];exact p2) ⟨_,R.setList h1 (Heap.SameBut.update ..) (IsL_upd g _),?_⟩
  rw[set_map,m];exact q
 | dicti es=>
  refine obI w fun k t z' w=>oif w fun hz w2=>?_
  subst z';subst w2
  refine oea (R.obj _ _ h1) fun kvs g m=>?_
  have hl:kvs.length=es.length:=by rw[← m];simp
  refine wpAny_setItem_pairs (knd:=ik B) (k:=k) (by simp[ik,intKind,Value.isInt]) g (fun h' g' hs=>⟨_,(R.upd h1 hs (o':=.dicti ((stored kvs k v).map fun p=>(p.1,cv p.2))) ⟨_,g',rfl⟩ (fun _ _ _ q=>by cases q) (fun _ _ _ q=>by cases q) (fun _ q=>by cases q)).tok _,?_⟩) (by rw[Bt];exact ar505 hz hl)
  have:(stored kvs k v).map (fun p=>(p.1,cv p.2))=(if es.any (fun p=>p.1=k) then es.map (fun p=>if p.1=k then (p.1,cv v) else p) else es++[(k,cv v)]):=by
   subst m
   unfold stored
   simp only[List.any_map,Function.comp_def,List.map_map]
   split
   ·rw[List.map_map]
    apply List.map_congr_left
    intro p _
    simp only[Function.comp_def]
    split <;> rfl
   ·simp
  rw[this];exact q
 | dictp es=>
  refine obR w fun t z' w=>obk w fun o2 h3 w=>obT w fun ks hk w=>obk w fun is e1 w=>oif w fun hz w2=>?_
  subst z';subst w2;subst hk
  refine oea (R.obj _ _ h1) fun xs g m=>?_
  refine Be (R.obj _ _ h3) fun its c g3 m3=>?_
  have hl:xs.length=es.length:=by rw[← m];simp
  have hk:(tk B).is s.heap is t:=⟨_,its,c,g3,rfl,rfl,ints_are (ints_of m3 e1)⟩
  have ha:atKey xs is=none:=by
   unfold atKey
   rw[Option.map_eq_none_iff,List.find?_eq_none]
   intro y hy
   have:=List.all_eq_true.mp hz.2 (y.1,cv y.2.2) (by rw[← m];exact List.mem_map_of_mem hy)
   simpa using this
  refine wpAny_setItem_heap (knd:=tk B) (k:=is) (tupleKind_room_in1 (by have:=room_units hA;exact ar506 this)) hk g (fun h' g' hs=>⟨_,(R.upd h1 hs (o':=.dictp ((storedH xs is t v).map fun x=>(x.1,cv x.2.2))) ⟨_,g',rfl⟩ (fun _ _ _ q=>by cases q) (fun _ _ _ q=>by cases q) (fun _ q=>by cases q)).tok _,?_⟩) (by rw[Bt];lia)
  rw[storedH_new ha]
  simpa[m] using q
 | _=>exact ofn w
theorem inst_at{F:Fz}{s:Shared}(R:RH B H F s){a d:Addr}{c:Cl}{f:At→CV}(e:H a=some (.inst c d f)):
  ∃od m es ep,InstAt s.heap a (instObj (B.cls c) d) (B.cls c) (some od)∧(s.heap.get? d=some od∧od.data=.dict es ep∧StrKeys es∧(∀x,nsFind es x=m x)∧es.size≤cnt f)∧Attrs m f∧∀x,lookIn x od=some (m x):=by
 obtain⟨g,m,⟨od,es,ep,hd,hde,hk,hf,hz⟩,hat⟩:=R.obj _ _ e
 refine⟨od,m,es,ep,⟨g,rfl,rfl,hd⟩,⟨hd,hde,hk,hf,hz⟩,hat,fun x=>?_⟩
 unfold lookIn
 rw[hde]
 dsimp only
 have:=hf x
 unfold nsFind findBy at this
 rw[← Array.find?_toList] at this
 induction hq:es.toList.find? (fun y=>y.key.isStr x) using Option.casesOn with
 | some y=>rw[hq] at this;exact congrArg some this
 | none=>
  rw[hq] at this
  dsimp only
  rw[if_neg]
  ·exact congrArg some this
  ·rw[Bool.not_eq_true,List.any_eq_false]
   intro y hy
   refine oe2 (hk y (by simpa using hy)) fun nm tk q=>?_
   simp[DictEntry.refKey,q]
theorem ht_getAttr(b0:Base0 B)(cok:∀c,ClsOk B c){v:Value}{a:At}{r:CV}{expr:Bool}{Q:Value→CH→Prop}(e:attrV H (cv v) a=some r)(q:∀v',cv v'=r→Q v' H):HT B n (getAttr v a.name expr) H Q:=by
 intro A hA F s R
 refine obR e fun x z e=>obk e fun o h1 w=>?_
 subst z
 induction o using CO.casesOn with
 | inst c d f=>
  refine oif w fun hz w2=>?_
  subst w2
  obtain⟨od,m,es,ep,I,⟨hD,hde,hsk,hf,hsz⟩,hat,hl⟩:=inst_at R h1
  refine oea (hat.2 a hz.2) fun v' e1 e2=>?_
  have ck:=cok c
  have hh:handedIn v'=true:=by
   induction v' using Value.casesOn with
   | builtin i=>simp[cv] at e2;exact absurd e2.symm hz.2
   | _=>rfl
  exact get_value (R.kin b0) I (plainGet_of ck.get).1 (findObj_own ck.dict (ck.at_ a hz.1).1 rfl ((hl _).trans (congrArg some e1))) hh ⟨H,R.tok _,q _ e2⟩
 | _=>exact ofn w
theorem ht_setAttr(b0:Base0 B)(cok:∀c,ClsOk B c){o v:Value}{a:At}{H':CH}{Q:CH→Prop}(e:setA H (cv o) a (cv v)=some H')(q:Q H'):HT B n (setAttr o a.name v) H fun _=>Q:=by
 intro A hA F s R
 refine obR e fun x z e=>obk e fun o h1 w=>?_
 subst z
 induction o using CO.casesOn with
 | inst c d f=>
  refine oif w fun hz w2=>?_
  subst w2
  obtain⟨od,m,es,ep,I,⟨hD,hde,hsk,hf,hsz⟩,hat,hl⟩:=inst_at R h1
  have ck:=cok c
  refine set_plain (R.kin b0) I ck.setattr ?_
  have R1:=R.tok (s.toks+1)
  have I1:InstAt ({ s with toks:=s.toks+1 }:Shared).heap x (instObj (B.cls c) d) (B.cls c) (some od):=I
  refine osa_open (s:={ s with toks:=s.toks+1 }) (R1.kin b0) I1 ck.over (ck.at_ a hz.1).2 fun b=>?_
  refine oea (any_some ck.dict) fun cd hc hd'=>?_
  refine wpAny_bind (wpAny_pure (wpAny_bind (wpAny_bind (wpAny_loadPart I.at_ (wpAny_bind ((looks_clsIn (R1.kin b0) hc).here ?_))))))
  rw[hd']
  refine wpAny_pure (a:=some d) (wpAny_bind (wpAny_pure (wpAny_bind ?_)))
  unfold nsSet
  refine wpAny_bind (wpAny_bind (wpAny_askSetting (wpAny_pure (wpAny_bind (wpAny_mkText (wpAny_bind (wpAny_loadPart hD ?_)))))))
  rw[hde]
  dsimp only
  have hany:es.any (·.refKey)=false:=by
   rw[Array.any_eq_false'];intro e he;refine oe2 (hsk e he) fun n t h=>?_;simp[DictEntry.refKey,h]
  rw[aRefKeyMayBeTheName_at,hany,Bool.and_false]
  refine oe2 (putName_spec (name:=a.name) (hsh:=PyData.keyHash B.w.params a.name) (tk:=s.toks+1) (v:=v) hde hsk) fun es' ep' w0_=>?_;refine oa4 w0_ fun p1 p2 p3 p4 p5=>?_;clear w0_
  have hfr:(Obj.putName a.name (PyData.keyHash B.w.params a.name) (.str a.name (s.toks+1)) v od).isFreed=false:=by
   generalize Obj.putName a.name (PyData.keyHash B.w.params a.name) (.str a.name (s.toks+1)) v od=o at p1
   obtain⟨_,_,dd,_⟩:=o;cases p1;rfl
  have g':=Heap.get?_update_self (Obj.putName a.name (PyData.keyHash B.w.params a.name) (.str a.name (s.toks+1)) v) hD hfr
  have hcnt:es'.size≤cnt fun y=>if y=a then cv v else f y:=by
   induction hfa:decide (f a=.undef) using Bool.casesOn with
   | true=>
    have hfa:=of_decide_eq_true hfa
    have:cnt f+1≤cnt fun y=>if y=a then cv v else f y:=cnt_new hfa hz.2
    exact ar507 this hsz p4
   | false=>
    have hfa:=of_decide_eq_false hfa
    have e1:es'.size=es.size:=p5 (by refine oea (hat.2 a hfa) fun w q1 _=>?_;rw[hf,q1];rfl)
    have:cnt f≤cnt fun y=>if y=a then cv v else f y:=cnt_old hz.2
    exact ar508 e1 this hsz
  have hs:Heap.SameBut d s.heap (s.heap.update d (Obj.putName a.name (PyData.keyHash B.w.params a.name) (.str a.name (s.toks+1)) v)):=Heap.SameBut.update ..
  refine wpAny_updatePart hD ?_
  refine wpAny_bind (wpAny_lookBehind g' (by rw[p1];exact pastItsLine_dict (by have:=cnt_le fun y=>if y=a then cv v else f y;rw[Bt];rw[Ab];exact ar509 this hcnt)) ?_)
  refine wpAny_pure ⟨_,(R.updD h1 hs (f':=fun y=>if y=a then cv v else f y) (m':=fun x=>if x=a.name then some v else m x) ⟨_,es',ep',g',p1,p2,fun x=>by rw[p3,hf],hcnt⟩ ⟨fun y w e=>?_,fun y hy=>?_⟩).tok _,q⟩
  ·by_cases hx:y=a.name
   ·simp only[hx,if_true] at e;cases e
    exact⟨a,hx.symm,by simp,by simpa using hz.2⟩
   ·simp only[hx,if_false] at e
    refine oea2 (hat.1 y w e) fun a' e1 e2 e3=>?_
    have:a'≠a:=fun z=>hx (by rw[← e1,z])
    exact⟨a',e1,by simp[this,e2],by simpa[this] using e3⟩
  ·by_cases hx:y=a
   ·subst hx;exact⟨v,by simp,by simp⟩
   ·have hx':y.name≠a.name:=fun z=>hx (At.name_inj z)
    simp only[hx,if_false] at hy ⊢
    refine oea (hat.2 y hy) fun w e1 e2=>?_
    exact⟨w,by simp[hx',e1],e2⟩
 | _=>exact ofn w
end
end
section
set_option tactic.hygienic true
open PySem PySem.W PyProof.Rows PySem.SeqAt
section
variable {B:Base} {n:Nat} {H:CH}
theorem RH.newAt{F:Fz}{s:Shared}{h':Heap}{D:Addr}{o:CO}{t:Nat}(R:RH B H F s)(k:∀b ob,s.heap.get? b=some ob→h'.get? b=some ob)(hD:s.heap.get? D=none)(ho:OR B h' D o)(hi:∀c d f,o≠.inst c d f):
  RH B (H.put D o) F { s with heap:=h',toks:=t }:=by
 refine oa2 (R.free hD) fun f1 f2 f3=>?_
 refine⟨fun b p q=>?_,fun b p q=>k _ _ (R.fr b p q),fun b p q=>fun z=>R.apart b p q ?_,fun b c d f q=>?_,R.base,R.rest⟩
 ·by_cases z:b=D
  ·subst z;rw[CH.put_self] at q;cases q;exact ho
  ·rw[CH.put_ne _ _ z] at q
   exact(R.obj _ _ q).keep (fun _ e=>k _ _ e) (fun _ _ _ _ e _ _=>k _ _ e) (fun _ _ _ _ _ e=>k _ _ e)
 ·rcases z with ⟨x,z⟩ | ⟨x,c,f,z⟩
  ·by_cases y:b=D
   ·rw[y,f2] at q;cases q
   ·rw[CH.put_ne _ _ y] at z;exact .inl ⟨x,z⟩
  ·by_cases y:x=D
   ·subst y;rw[CH.put_self] at z;cases z;exact absurd rfl (hi _ _ _)
   ·rw[CH.put_ne _ _ y] at z;exact .inr ⟨x,c,f,z⟩
 ·by_cases y:b=D
  ·subst y;rw[CH.put_self] at q;cases q;exact absurd rfl (hi _ _ _)
  ·rw[CH.put_ne _ _ y] at q
   refine oa (R.dapart _ _ _ _ q) fun p1 p2=>?_
   have:d≠D:=fun x=>f3 (.inr ⟨b,c,f,x▸q⟩)
   refine⟨by rw[CH.put_ne _ _ this];exact p1,fun a' c' f' r=>?_⟩
   by_cases x:a'=D
   ·subst x;rw[CH.put_self] at r;cases r;exact absurd rfl (hi _ _ _)
   ·rw[CH.put_ne _ _ x] at r;exact p2 _ _ _ r
theorem size_none(h:Heap)(k:Nat):h.get? (h.objs.size+k)=none:=by
 induction e:h.get? (h.objs.size+k) using Option.casesOn with
 | none=>rfl
 | some o=>exact absurd (Heap.lt_size e) (Nat.not_lt.mpr (Nat.le_add_right _ _))
theorem fits63{x:Int}(h0:0≤x)(h1:x≤lim):Builtin.Range.rangeFitsLong x=true:=by
 unfold Builtin.Range.rangeFitsLong
 have:(2:Int)^63=9223372036854775808:=by decide
 simp only[Ab] at h1
 simp only[Bool.and_eq_true,decide_eq_true_eq]
 exact ar510 h0 h1
theorem rsize_up(a b:Int):Builtin.Range.rangeSize a b 1=if a<b then b-a else 0:=PySem.rangeSize_one a b
theorem rsize_down(a b:Int):Builtin.Range.rangeSize a b (-1)=if b<a then a-b else 0:=by
 unfold Builtin.Range.rangeSize
 simp only[show ¬ ((-1:Int)>0) by decide,if_false]
 split <;> simp <;> lia
theorem small_up{a b:Int}(ha:0≤a∧a≤lim)(hb:0≤b∧b≤lim):Builtin.Range.small a b 1=true:=by
 have:(2:Int)^62=4611686018427387904:=by decide
 simp only[Ab] at ha hb
 exact PySem.small_one (by exact ar511 ha) (by lia) (by lia) (by lia)
theorem small_down{a b:Int}(ha:0≤a∧a≤lim)(hb:0≤b∧b≤lim):Builtin.Range.small a b (-1)=true:=by
 unfold Builtin.Range.small
 rw[rsize_down]
 have:(2:Int)^63=9223372036854775808:=by decide
 rw[Ab] at ha hb
 simp only[Builtin.Range.rangeFitsLong,Bool.and_eq_true,Bool.or_eq_true,decide_eq_true_eq,beq_iff_eq,show ¬ ((-1:Int)>0) by decide,if_false]
 split <;> (first | exact ar513 hb ha | exact ar514 hb ha | lia)
theorem ht_range{vs:List Value}{o:CO}{Q:Value→CH→Prop}(e:rangeV (vs.map cv)=some o)(q:∀a,H a=none→Q (.ref a) (H.put a o)):HT B n (call (.type "range") vs) H Q:=by
 intro A hA F s R
 induction vs using List.casesOn with
 | nil=>exact ofn e
 | cons a vs=>
  induction vs using List.casesOn with
  | nil=>
   refine obI e fun y t z e=>oif e fun hz w=>?_
   subst z;subst w
   exact PySem.call_range_1 ⟨_,(R.new (ob:={ cls:=.type "range",data:=.fields #[.int 0 s.toks,.int y t,.int 1 (s.toks+1)] }) (o:=.range 0 y 1) ⟨small_up ⟨Int.le_refl 0,by rw[Ab];exact ar515⟩ hz,_,_,_,Heap.get?_push_size _ rfl⟩ (fun _ _ _ q=>by cases q)).tok _,q _ R.fresh⟩
  | cons b vs=>
   refine obI e fun x t z e=>obI e fun y u z2 w=>?_
   subst z;subst z2
   induction vs using List.casesOn with
   | nil=>
    refine oif w fun hz w2=>?_
    subst w2
    exact PySem.call_range_2 ⟨_,(R.new (ob:={ cls:=.type "range",data:=.fields #[.int x t,.int y u,.int 1 s.toks] }) (o:=.range x y 1) ⟨small_up ⟨hz.1,hz.2.1⟩ hz.2.2,_,_,_,Heap.get?_push_size _ rfl⟩ (fun _ _ _ q=>by cases q)).tok _,q _ R.fresh⟩
   | cons c vs=>
    refine obN w fun z3 w=>obI w fun k v z4 w=>oif w fun hz w2=>?_
    subst z3;subst z4;subst w2
    refine oa4 hz fun z1 z2 z3 z4 z4_=>?_;subst z4_
    exact PySem.call_range_3 (by decide) ⟨_,R.new (ob:={ cls:=.type "range",data:=.fields #[.int x t,.int y u,.int (-1) v] }) (o:=.range x y (-1)) ⟨small_down ⟨z1,z2⟩ ⟨z3,z4⟩,_,_,_,Heap.get?_push_size _ rfl⟩ (fun _ _ _ q=>by cases q),q _ R.fresh⟩
     (.inl (PyProof.noPylong_small (by decide)))
theorem sorted_unique:∀{l l':List Int},l.Perm l'→l.Pairwise (·≤·)→l'.Pairwise (·≤·)→l=l':=by
 intro l l' p h h'
 exact p.eq_of_pairwise (fun a b _ _ h1 h2=>Int.le_antisymm h1 h2) h h'
noncomputable def BF.val:BF→Value
 | .len=>.builtin "len" | .abs=>.builtin "abs" | .sorted=>.builtin "sorted" | .list=>.type "list" | .tuple=>.type "tuple"
theorem range_map{n:Nat}{f:Nat→Int}{i:Nat}{x:Int}(q:((List.range n).map f)[i]?=some x):x=f i:=by
 rw[List.getElem?_map] at q
 refine omk q fun j q e=>?_
 rw[← e]
 exact congrArg f ((List.getElem?_eq_some_iff.mp q).2.symm.trans (List.getElem_range _))
theorem range_items{a b c:Int}{l:List Int}(e:Bw a b c=some l):(∀(i:Nat) x,l[i]?=some x→x=a+i*c)∧Builtin.Range.rangeSize a b c=l.length:=by
 unfold Bw at e
 by_cases h:c=1
 ·rw[if_pos h] at e;subst h;cases e
  refine⟨fun i x q=>by rw[range_map q];exact ar516,?_⟩
  rw[rsize_up,List.length_map,List.length_range];split <;> (first | exact ar517 (by assumption) | exact ar518 (by assumption) | lia)
 ·rw[if_neg h] at e
  refine oif e fun h w=>?_
  subst h;subst w
  refine⟨fun i x q=>by rw[range_map q];lia,?_⟩
  rw[rsize_down,List.length_map,List.length_range];split <;> (first | exact ar517 (by assumption) | exact ar518 (by assumption) | lia)
theorem size_lt{h h':Heap}(hk:∀b o,h.get? b=some o→h'.get? b=some o):h.get? h'.objs.size=none:=by
 induction e:h.get? h'.objs.size using Option.casesOn with
 | none=>rfl
 | some o=>exact absurd (Heap.lt_size (hk _ _ e)) (Nat.lt_irrefl _)
theorem ints_cv{l:List Value}{is:List Int}(h:IntsAre l is):l.map cv=is.map CV.int:=by
 induction h with
 | nil=>rfl
 | cons n t _ ih=>rw[List.map_cons,List.map_cons,ih];rfl
theorem acc_ints{l:List Value}:∀{ks:List (Int × Value)},l.length=ks.length→(∀(j:Nat) v,l[j]?=some v→∃k x,ks[j]?=some (k,x)∧(ik B).is k v=true)→IntsAre l (ks.map (·.1)):=by
 induction l with
 | nil=>intro ks h _;induction ks using List.casesOn with
  | nil=>exact .nil
  | cons _ _=>cases h
 | cons v l ih=>
  intro ks h hj
  induction ks using List.casesOn with
  | nil=>cases h
  | cons p ks=>
   refine Exists.elim (hj 0 v rfl) fun k y=>Exists.elim y fun x y=>?_
   have e1:p=(k,x):=Option.some.inj y.1
   subst e1
   refine Exists.elim (Value.isInt_shape (k:=k) y.2) fun t ht=>?_
   subst ht
   exact .cons k t (ih (Nat.succ.inj h) fun j v' e=>hj (j+1) v' e)
theorem ht_bf(b0:Base0 B){f:BF}{v:Value}{r:RV}{Q:Value→CH→Prop}(e:bfV f H (cv v)=some r)(q:r.go H fun c H'=>∀v',cv v'=c→Q v' H'):HT B n (call f.val [v]) H Q:=by
 intro A hA F s R
 induction f using BF.casesOn with
 | len=>
  refine obR e fun a z e=>obk e fun o h1 w=>?_
  subst z
  induction o using CO.casesOn with
  | list vs=>
   refine oif w fun hz w=>?_
   subst w
   refine Be (R.obj _ _ h1) fun its k g m=>?_
   have hl:=B2 m
   exact PyProof.Rows.len_list (IsL_of g) (by rw[Ab] at hz;exact ar496 hz hl) ⟨_,R.tok _,q _ (by rw[hl];rfl)⟩
  | tup vs=>
   refine oif w fun hz w=>?_
   subst w
   refine Be (R.obj _ _ h1) fun its k g m=>?_
   have hl:=B2 m
   exact PyProof.Rows.len_tuple ⟨_,g,rfl,_,rfl⟩ (by rw[Ab] at hz;lia) ⟨_,R.tok _,q _ (by rw[hl];rfl)⟩
  | _=>exact ofn w
 | abs=>
  refine omI e fun i t z w=>?_
  subst z;subst w
  exact PyProof.Rows.call_abs_int fun u tk=>⟨_,R.tok _,q _ (by show CV.int _=CV.int _;congr 1;split <;> (first | exact ar520 (by assumption) | lia))⟩
 | list=>
  refine obR e fun a z e=>obk e fun o h1 w=>?_
  subst z
  induction o using CO.casesOn with
  | list vs=>
   refine oif w fun hz w=>?_
   subst w
   refine Be (R.obj _ _ h1) fun its k g m=>?_
   have hl:=B2 m
   refine PySem.call_list_seq (o:=PySem.W.listOf its k) a (.inl rfl) g rfl rfl (fun h' c' hk hg=>⟨_,R.newAt hk (Bf _) (o:=.list (its.toList.map cv)) ⟨its,c',hg,rfl⟩ (fun _ _ _ q=>by cases q),?_⟩) (by rw[Bt,hl];exact hz)
   rw[m];exact q _ R.fresh _ rfl
  | range x y z=>
   refine obk w fun l e1 w=>oif w fun hz w=>?_
   subst w
   refine oae3 (R.obj _ _ h1) fun hsm t u w g=>?_
   refine oa (range_items e1) fun p1 p2=>?_
   refine PySem.call_list_range hA.1 g hsm p2 (by rw[Ab] at hz;exact ar522 hz) fun h' tk acc' c' hk hg hacc=>⟨_,R.newAt hk (Bf _) (o:=.list (acc'.toList.map cv)) ⟨acc',c',hg,rfl⟩ (fun _ _ _ q=>by cases q),?_⟩
   have:acc'.toList.map cv=l.map CV.int:=by
    apply List.ext_getElem?
    intro i
    simp only[List.getElem?_map,List.getElem?_map]
    have hsz:acc'.toList.length=l.length:=by rw[Array.length_toList];exact hacc.1
    by_cases hi:i<l.length
    ·have h1:acc'.toList[i]?=some (acc'.toList[i]'(by exact ar225 hi hsz)):=List.getElem?_eq_getElem _
     have h2:l[i]?=some l[i]:=List.getElem?_eq_getElem _
     refine oe (hacc.2 i _ (by rw[← Array.getElem?_toList];exact h1)) fun t' e'=>?_
     rw[h1,h2,Option.map_some,Option.map_some,e',p1 i _ h2];rfl
    ·rw[List.getElem?_eq_none (by exact ar523 hsz hi),List.getElem?_eq_none (by exact ar60 hi)];rfl
   rw[this];exact q _ R.fresh _ rfl
  | _=>exact ofn w
 | tuple=>
  refine obR e fun a z e=>R.lsA e fun its k h1 g e=>oif e fun hz w=>?_
  subst z;subst w
  refine PySem.call_tuple_list (IsL_of g) (fun h' hk=>?_) (by rw[Bt];simpa using hz)
  have hD:=size_lt hk
  exact⟨_,R.newAt (h':=h'.push { cls:=.type "tuple",data:=.seq its }) (t:=s.toks) (fun b o e=>Heap.get?_push_of_some _ (hk b o e)) hD (o:=.tup (its.toList.map cv)) ⟨its,0,Heap.get?_push_size _ rfl,rfl⟩ (fun _ _ _ q=>by cases q),q _ (R.free hD).1 _ rfl⟩
 | sorted=>
  refine obR e fun a z e=>obk e fun o h1 e=>obD e fun es ho e=>oif e fun hz w=>?_
  subst z;subst ho;subst w
  refine oea (R.obj _ _ h1) fun kvs g m=>?_
  have hl:kvs.length=es.length:=by rw[← m];simp
  refine oe g.dictAt fun ep hat=>?_
  refine Calls.call_function_entry kind_sorted plain_sorted entry_sorted (args_sorted1 _) ?_
  unfold Builtin.«sorted»
  refine wpAny_bind (m:=checkCount "sorted" 1 1 _) (wpAny_pure ?_)
  refine wpAny_bind (PySem.W.kdu_collect (A:=A.in1) (PySem.W.kdl_dict (knd:=ik B) (kvs:=kvs) (ep:=ep) (R.notMods b0 h1)) hA.1 hat (by rw[Bt];rw[Ab];exact ar524 hz hl) fun h' tk acc hk hacc=>?_)
  have hlen:acc.toList.length=kvs.length:=by rw[Array.length_toList];exact hacc.1
  have hints:IntsAre acc.toList (kvs.map (·.1)):=acc_ints hlen fun j v e=>hacc.2 j v (by rw[← Array.getElem?_toList];exact e)
  refine wpAny_bind (wpAny_newList ?_ (by rw[hlen,Bt];rw[Ab];lia))
  have hoL:(h'.push (seqObj "list" acc.toList.toArray 0)).get? h'.objs.size=some (seqObj "list" acc.toList.toArray 0):=Heap.get?_push_size _ rfl
  refine wpAny_bind (wpAny_holding (wpAny_call_entry slot_list_sort ⟨_,hoL,rfl⟩ entry_list_sort (list_sort_tree hoL hints (by exact ar525 hz hlen hl) fun out ns' a1 a2 a3=>⟨_,rfl,?_⟩) (args_list_sort _)))
  have hD:=size_lt hk
  refine oe (sortedHeap_at (vs:=acc.toList) (out:=out) hoL) fun c' hg=>?_
  have R1:=R.newAt (h':=sortedHeap (h'.push (seqObj "list" acc.toList.toArray 0)) h'.objs.size acc.toList out) (t:=tk) (fun b o e=>by
    have hb:=hk b o e
    have hlt:=Heap.lt_size hb
    rw[sortedHeap_old (Nat.ne_of_lt hlt) (by rw[Heap.size_push];exact Nat.lt_succ_of_lt hlt)]
    exact Heap.get?_push_of_some _ hb) hD (o:=.list (out.toList.map cv)) ⟨out,c',hg,rfl⟩ (fun _ _ _ q=>by cases q)
  refine wpAny_pure ⟨_,rfl,_,R1,?_⟩
  have h1:=ints_cv a1
  have h2:ns'=(es.map (·.1)).mergeSort fun x y=>decide (x≤y):=by
   have hk':kvs.map (·.1)=es.map (·.1):=by rw[← m];simp
   refine sorted_unique (a2.trans ((hk'▸List.Perm.refl _:(kvs.map (·.1)).Perm (es.map (·.1))).trans (List.mergeSort_perm _ _).symm)) a3 ?_
   have:=List.pairwise_mergeSort (le:=fun x y:Int=>decide (x≤y)) (fun a b c h1 h2=>by simp at *;lia) (fun a b=>by simp;lia) (es.map (·.1))
   simpa using this
  simp only[h1,h2]
  exact q _ (R.free hD).1 _ rfl
end
end
section
set_option tactic.hygienic true
open PySem PySem.W PyProof.Rows PySem.SeqAt
noncomputable def BM.id:BM→String
 | .append=>"list.append" | .pop0=>"list.pop" | .pop1=>"list.pop" | .get2=>"dict.get" | .index=>"list.index" | .reverse=>"list.reverse" | .bitlen=>"int.bit_length"
theorem two_of{vs:List Value}{x y:CV}(h:vs.map cv=[x,y]):∃v w,vs=[v,w]∧cv v=x∧cv w=y:=
 ob2 (f:=some) (r:=(x,y)) (by rw[h];rfl) fun v w hv e=>⟨v,w,hv,congrArg Prod.fst (Option.some.inj e),congrArg Prod.snd (Option.some.inj e)⟩
theorem map_erase{α β:Type}(f:α→β):∀(l:List α) (j:Nat),(l.eraseIdx j).map f=(l.map f).eraseIdx j
 | [],j=>by simp
 | a::l,0=>by simp
 | a::l,j+1=>by simp[map_erase f l j]
theorem dropLast_erase{α:Type}:∀(l:List α),l.eraseIdx (l.length-1)=l.dropLast
 | []=>rfl
 | [a]=>rfl
 | a::b::l=>by
  have:=dropLast_erase (b::l)
  simp only[List.length_cons,Nat.add_sub_cancel] at this ⊢
  rw[List.eraseIdx_cons_succ,this];rfl
theorem idxOf_of{k:Int}:∀{l:List Int} {j:Nat},l.idxOf? k=some j→l.idxOf k=j
 | [],j,h=>by cases h
 | a::l,j,h=>by
  rw[List.idxOf?_cons] at h
  rw[List.idxOf_cons]
  induction ha:(a==k) using Bool.casesOn with
  | true=>rw[ha] at h;simp at h;simpa using h
  | false=>
   rw[ha] at h
   simp only[Bool.false_eq_true,if_false,Option.map_eq_some_iff] at h
   obtain⟨i,h,rfl⟩:=h
   dsimp
   simp[idxOf_of h]
section
variable {B:Base} {n:Nat} {H:CH}
theorem ht_bmGet{m:BM}{v:Value}{pl:Sem Bool}{Q:Value × List Value→CH→Prop}(e:bmOk m H (cv v)=true)(q:Q (.builtin m.id,[v]) H):
  HT B n (getMethod v (Str.ofString m.name) pl) H Q:=by
 intro A hA F s R
 have use:∀{name:Str} {id:String},((asR (cv v)).bind fun a=>(H.lsA a).map fun _=>())=some ()→PySem.Slot "list" name id→typeOf (.builtin id)=pure (.type "method_descriptor")→Q (.builtin id,[v]) H→
   wpAny (model B.prog B.w) A (getMethod v name pl) (fun v s'=>∃H',RH B H' F s'∧Q v H') (fun _ _=>False) s:=by
  intro name id h sl ty q
  refine obR h fun a z h=>omk h fun vs h2 _=>?_
  subst z
  refine Exists.elim (R.obj _ _ (ls_eq h2)) fun its x=>Exists.elim x fun k x=>?_
  exact getMethod_builtin ⟨_,x.1,rfl⟩ PySem.F.plainAttrs_list sl ty (fun b e=>by cases e;exact⟨_,x.1,rfl⟩) ⟨H,R,q⟩
 have e:bmLook m H (cv v)=some ():=by
  revert e
  show(bmLook m H (cv v)).isSome=true→_
  induction bmLook m H (cv v) using Option.casesOn with
  | none=>exact nofun
  | some u=>exact fun _=>rfl
 induction m using BM.casesOn with
 | get2=>
  refine obR e fun a z e=>obk e fun o h w=>?_
  subst z
  induction o using CO.casesOn with
  | dicti es=>
   refine oea (R.obj _ _ h) fun kvs g _=>?_
   exact getMethod_builtin g.typeIs PySem.F.plainAttrs_dict PySem.F.slot_dict_get PySem.F.type_dict_get g.mapOf.noDict ⟨H,R,q⟩
  | dictp es=>
   refine oea (R.obj _ _ h) fun xs g _=>?_
   refine oe3a2 (id g) fun o es' ep ho hx _=>?_
   exact getMethod_builtin g.typeIs PySem.F.plainAttrs_dict PySem.F.slot_dict_get PySem.F.type_dict_get (fun b e=>by cases e;exact⟨o,ho,hx.2.1⟩) ⟨H,R,q⟩
  | _=>exact ofn w
 | bitlen=>
  refine omI e fun i t z w=>?_
  subst z
  exact PyProof.Rows.getMethod_int_bit_length ⟨H,R,q⟩
 | append=>exact use e PySem.F.slot_list_append PySem.F.type_list_append q
 | pop0=>exact use e PySem.F.slot_list_pop PySem.F.type_list_pop q
 | pop1=>exact use e PySem.F.slot_list_pop PySem.F.type_list_pop q
 | index=>exact use e PySem.F.slot_list_index PySem.F.type_list_index q
 | reverse=>exact use e PySem.F.slot_list_reverse PySem.F.type_list_reverse q
theorem erase_map(its:Array Value)(j:Nat):(its.eraseIdxIfInBounds j).toList.map cv=(its.toList.map cv).eraseIdx j:=by
 unfold Array.eraseIdxIfInBounds
 split
 ·rw[Array.toList_eraseIdx]
  exact map_erase cv its.toList j
 ·rename_i h
  rw[List.eraseIdx_of_length_le]
  simp only[List.length_map,Array.length_toList]
  exact ar60 h
theorem ht_bmCall(b0:Base0 B){m:BM}{v:Value}{vs:List Value}{r:RV}{Q:Value→CH→Prop}(e:bmV m H (cv v) (vs.map cv)=some r)(q:r.go H fun c H'=>∀v',cv v'=c→Q v' H'):
  HT B n (call (.builtin m.id) (v::vs)) H Q:=by
 intro A hA F s R
 induction m using BM.casesOn with
 | append=>
  refine obR e fun a z e=>R.lsA e fun its k h1 g e=>ob1 e fun v1 hv e=>oif e fun hz w=>?_
  subst z;subst hv;subst w
  refine append_at g (fun h' hs g'=>⟨_,R.setList h1 hs g',?_⟩) (by rw[Bt];exact Nat.le_of_lt (by simpa using hz))
  have:(its.push v1).toList.map cv=its.toList.map cv++[cv v1]:=by simp
  rw[this];exact q _ rfl
 | pop0=>
  refine obR e fun a z e=>R.lsA e fun its k h1 g e=>obN e fun hv e=>obk e fun x e1 e=>oif e fun hz w=>?_
  subst z;subst hv;subst w
  have hl:=B2 (its:=its) rfl
  simp only[List.getLast?_eq_getElem?] at e1
  refine Exists.elim (arr_get rfl e1) fun y hy=>?_
  simp only[← hl] at hy
  refine call_meets PySem.F.slot_list_pop ⟨_,g,rfl⟩ PySem.F.entry_list_pop (PySem.F.args_list_pop_1 _) (PySem.MeetsSeq.list_pop_last a _ k y hy.1 (by rw[Bt,hl];exact hz)) ⟨g,_,R.setList h1 (Heap.SameBut.update ..) (IsL_upd g _),?_⟩
  simp only[erase_map,hl,dropLast_erase]
  exact q _ hy.2
 | pop1=>
  refine obR e fun a z e=>R.lsA e fun its k h1 g e=>ob1 e fun v1 hv e=>obI e fun j0 t hv1 e=>obk e fun j e1 e=>obk e fun x e2 e=>oif e fun hz w=>?_
  subst z;subst hv;subst hv1;subst w
  have hl:=B2 (its:=its) rfl
  refine oa3 (idx_some e1) fun p1 p2 p3 z3_=>?_;subst z3_
  refine Exists.elim (arr_get rfl e2) fun y hy=>?_
  simp only[← hl] at p2
  refine call_meets PySem.F.slot_list_pop ⟨_,g,rfl⟩ PySem.F.entry_list_pop (PySem.F.args_list_pop_2 _ _) (PySem.MeetsSeq.list_pop_at a _ k j0 t j0.toNat y (by
   simp only[Builtin.List.listFitsIndex,Bool.and_eq_true,decide_eq_true_eq]
   exact ar528 p1 p3) (seqIdx_pos p1 p2) hy.1 (by rw[Bt,hl];exact hz)) ⟨g,_,R.setList h1 (Heap.SameBut.update ..) (IsL_upd g _),?_⟩
  simp only[erase_map]
  exact q _ hy.2
 | get2=>
  refine obR e fun a z e=>ob2 e fun v1 v2 hv e=>obk e fun o h1 w=>?_
  subst z;subst hv
  induction o using CO.casesOn with
  | dicti es=>
   refine omI w fun k t hv1 w=>?_
   subst hv1;subst w
   refine oea (R.obj _ _ h1) fun kvs g mm=>?_
   refine call_meetsIn PySem.F.slot_dict_get g.typeIs PySem.F.entry_dict_get (PySem.F.args_dict_get_3 _ _ _) (meets_dict_get_default (ik B) a (k:=k) (by simp[ik,intKind,Value.isInt]) (R.notMods b0 h1) v2) ⟨_,g.mapOf,_,R.tok _,q _ ?_⟩
   have:(valueAt kvs k).map cv=Ap es k:=by
    subst mm
    unfold valueAt Ap
    simp only[List.find?_map,Option.map_map,Option.map_map]
    rfl
   induction hh:valueAt kvs k using Option.casesOn <;> rw[hh] at this <;> simp[← this]
  | dictp es=>
   refine obR w fun t hv1 w=>obk w fun o2 h3 w=>obT w fun ks hk w=>omk w fun is e1 w2=>?_
   subst hv1;subst hk;subst w2
   refine oea (R.obj _ _ h1) fun xs g mm=>?_
   refine Be (R.obj _ _ h3) fun its c g3 m3=>?_
   refine call_meetsIn PySem.F.slot_dict_get g.typeIs PySem.F.entry_dict_get (PySem.F.args_dict_get_3 _ _ _) (meetsH_dict_get_default (tk B) a t (R.notMods b0 h1) v2)
    ⟨tupleKind_room_in1 (by have:=room_units hA;exact ar506 this),is,xs,⟨_,its,c,g3,rfl,rfl,ints_are (ints_of m3 e1)⟩,g,_,R.tok _,q _ ?_⟩
   have:((atKey xs is).map (·.2)).map cv=(es.find? fun p=>p.1=is).map (·.2):=by
    subst mm
    unfold atKey
    simp only[List.find?_map,Option.map_map,Option.map_map,Option.map_map]
    rfl
   induction hh:(atKey xs is).map (·.2) using Option.casesOn <;> rw[hh] at this <;> simp[← this]
  | _=>exact ofn w
 | index=>
  refine obR e fun a z e=>R.lsA e fun its c h1 g e=>ob1 e fun v1 hv e=>obI e fun k t hv1 e=>obk e fun is e1 e=>obk e fun j e2 e=>oif e fun hz w=>?_
  subst z;subst hv;subst hv1;subst w
  have hl:=B2 (its:=its) rfl
  have hi:=ints_of rfl e1
  have hlen:its.size=is.length:=by rw[← Array.length_toList];exact hi.length.symm▸rfl
  have hmem:k∈is:=by
   apply Classical.byContradiction
   intro hn
   rw[List.idxOf?_eq_none_iff.mpr hn] at e2;cases e2
  have hj:is.idxOf k=j:=idxOf_of e2
  subst hj
  have hlt:is.idxOf k<is.length:=List.idxOf_lt_length_iff.mpr hmem
  refine call_meets PySem.F.slot_list_index ⟨_,g,rfl⟩ PySem.F.entry_list_index (PySem.F.args_list_index_2 _ _)
   (list_indexAt a its c none #[] (.int k t) (isInt k) (is.idxOf k) (by exact ar225 hlt hlen) (by have hz':its.size≤16777216:=(by rw[hl,← Ab];exact hz);exact ar529 hz' hlt hlen) ?_ ?_) ⟨g,fun y hy=>(eq_isInt k t hi y (by simpa using hy)).at _ _,_,R.tok _,q _ rfl⟩
  ·have:=isInt_at k hi (is.idxOf k) (by rw[Array.length_toList];lia) hlt
   simp only[Array.getElem_toList] at this
   simp only[this]
   simpa using List.getElem_idxOf hlt
  ·intro j hjs hlt'
   have:=isInt_at k hi j (by rw[Array.length_toList];exact ar530 hlt' hlt hlen) (by exact ar531 hlt' hlt)
   simp only[Array.getElem_toList] at this
   simp only[this]
   exact ne_of_lt_idxOf hlt' _
 | reverse=>
  refine obR e fun a z e=>R.lsA e fun its k h1 g e=>obN e fun hv e=>oif e fun hz w=>?_
  subst z;subst hv;subst w
  refine call_meets PySem.F.slot_list_reverse ⟨_,g,rfl⟩ PySem.F.entry_list_reverse (PySem.F.args_list_reverse_1 _) (AutoSeq1.list_reverse_list_0 a its k (by rw[Bt];simpa using hz)) ⟨g,_,R.setList h1 (Heap.SameBut.update ..) (IsL_upd g _),?_⟩
  have:its.reverse.toList.map cv=(its.toList.map cv).reverse:=by simp
  rw[this];exact q _ rfl
 | bitlen=>
  refine obI e fun i t z e=>obN e fun hv e=>oif e fun hz w=>?_
  subst z;subst hv;subst w
  refine PyProof.Rows.call_int_bit_length ⟨_,R.tok _,q _ ?_⟩
  show CV.int _=CV.int _
  congr 1
  unfold Builtin.Int.intBits
  by_cases h:i=0
  ·subst h;rfl
  ·simp[h]
end
end
section
structure EnvOk (env:Env) (ns:List Str):Prop where
 kind:env.scope.kind=.function
 globals:env.globals=mainGlobals
 builtins:env.builtins=builtinsNs
 nodup:ns.Nodup
 kinds:∀x∈ns,env.kindOf x=some .local∨((env.kindOf x=some .cell∨env.kindOf x=some .free)∧∃c,env.cells.lookup x=some c)
 dbg:∀x∈ns,(x==("__debug__" : Str))=false∧(x==("__classdict__" : Str))=false
noncomputable def Pl(env:Env)(b:Addr):Prop:=b=env.locals∨∃x,env.cells.lookup x=some b
structure LcR (env:Env) (ns:List Str) (vars:List CV) (F:Fz) (H:CH) (h:Heap):Prop where
 loc:∃m,h.Ns env.locals m∧∀(i:Nat) x v,ns[i]?=some x→vars[i]?=some v→v≠.undef→env.kindOf x=some .local→∃rv,m x=some rv∧cv rv=v
 cel:∀x c,env.cells.lookup x=some c→∃ov,h.IsCell c ov
 cev:∀(i:Nat) x v c,ns[i]?=some x→vars[i]?=some v→v≠.undef→env.kindOf x≠some .local→env.cells.lookup x=some c→∃rv,h.IsCell c (some rv)∧cv rv=v
 free:∀b,Pl env b→F b=none∧¬ Own H b
 inj:∀x y c,env.cells.lookup x=some c→env.cells.lookup y=some c→x=y
theorem LcR.seen{env:Env}{ns:List Str}{vars:List CV}{F:Fz}{H:CH}{h:Heap}(L:LcR env ns vars F H h){b:Addr}(p:Pl env b):∃o,h.get? b=some o:=by
 rcases p with rfl | ⟨x,e⟩
 ·obtain⟨m,⟨o,es,ep,g,_⟩,_⟩:=L.loc;exact⟨o,g⟩
 ·refine Be (L.cel x b e) fun ov o g _=>?_;exact⟨o,g⟩
theorem LcR.notTup{env:Env}{ns:List Str}{vars:List CV}{F:Fz}{H:CH}{h:Heap}(L:LcR env ns vars F H h){b:Addr}(p:Pl env b):NotTup h b:=by
 rcases p with rfl | ⟨x,e⟩
 ·refine oea L.loc fun m hn _=>?_;exact ns_notTup hn
 ·refine Be (L.cel x b e) fun ov o g hd=>?_
  intro ob e' _ its n hd'
  rw[g] at e';cases e';rw[hd] at hd';cases hd'
noncomputable def frz(F:Fz)(env:Env)(h:Heap):Fz:=fun b=>open Classical in if Pl env b then h.get? b else F b
section
variable {B:Base} {env:Env} {ns:List Str} {vars:List CV} {F:Fz} {H:CH} {s:Shared}
theorem frz_RH(R:RH B H F s)(L:LcR env ns vars F H s.heap):RH B H (frz F env s.heap) s:=by
 refine⟨R.obj,fun b o e=>?_,fun b o e=>?_,R.dapart,fun b o e=>?_,R.rest⟩
 ·unfold frz at e;split at e
  ·exact e
  ·exact R.fr b o e
 ·unfold frz at e;split at e
  ·rename_i p;exact(L.free b p).2
  ·exact R.apart b o e
 ·unfold frz;split
  ·rename_i p;have:=R.base b o e;rw[(L.free b p).1] at this;cases this
  ·exact R.base b o e
theorem frz_back{H':CH}{s':Shared}(R:RH B H F s)(L:LcR env ns vars F H s.heap)(R':RH B H' (frz F env s.heap) s'):RH B H' F s'∧LcR env ns vars F H' s'.heap:=by
 have keep:∀b,Pl env b→∀o,s.heap.get? b=some o→s'.heap.get? b=some o:=fun b p o e=>R'.fr b o (by unfold frz;rw[if_pos p];exact e)
 refine⟨R'.thaw (fun b o e=>?_) R.base,?_⟩
 ·unfold frz;split
  ·rename_i p;rw[(L.free b p).1] at e;cases e
  ·exact e
 ·refine⟨?_,fun x c e=>?_,fun i x v c e1 e2 e3 e4 e5=>?_,fun b p=>⟨(L.free b p).1,?_⟩,L.inj⟩
  ·obtain⟨m,⟨o,es,ep,g,r⟩,q⟩:=L.loc
   exact⟨m,⟨o,es,ep,keep _ (.inl rfl) _ g,r⟩,q⟩
  ·refine Be (L.cel x c e) fun ov o g hd=>?_
   exact⟨ov,o,keep _ (.inr ⟨x,e⟩) _ g,hd⟩
  ·obtain⟨rv,⟨o,g,hd⟩,q⟩:=L.cev i x v c e1 e2 e3 e4 e5
   exact⟨rv,⟨o,keep _ (.inr ⟨x,e5⟩) _ g,hd⟩,q⟩
  ·refine oe (L.seen p) fun o g=>?_
   exact R'.apart b o (by unfold frz;rw[if_pos p];exact g)
end
noncomputable def TT{α:Type}(B:Base)(n:Nat)(env:Env)(ns:List Str)(t:Sem α)(σ:CS)(Q:α→CS→Prop):Prop:=
 ∀A,Room n A→∀F s,RH B σ.heap F s→LcR env ns σ.vars F σ.heap s.heap→
  wpAny (model B.prog B.w) A t (fun v s'=>∃σ',RH B σ'.heap F s'∧LcR env ns σ'.vars F σ'.heap s'.heap∧Q v σ') (fun _ _=>False) s
section
variable {B:Base} {n:Nat} {env:Env} {ns:List Str} {σ:CS}
theorem TT.mono{α:Type}{t:Sem α}{Q Q':α→CS→Prop}(h:TT B n env ns t σ Q)(q:∀v σ',Q v σ'→Q' v σ'):TT B n env ns t σ Q':=
 fun A hA F s R L=>wpAny_mono (h A hA F s R L) (fun _ _ ⟨σ',R',L',z⟩=>⟨σ',R',L',q _ _ z⟩) fun _ _ z=>z
theorem TT.bind{α β:Type}{m:Sem α}{f:α→Sem β}{Q:β→CS→Prop}(h:TT B n env ns m σ fun a σ'=>TT B n env ns (f a) σ' Q):TT B n env ns (m >>= f) σ Q:=
 fun A hA F s R L=>wpAny_bind (wpAny_mono (h A hA F s R L) (fun _ s' ⟨_,R',L',z⟩=>z A hA F s' R' L') fun _ _ z=>z)
theorem TT.pure{α:Type}{a:α}{Q:α→CS→Prop}(h:Q a σ):TT B n env ns (pure a) σ Q:=fun _ _ _ _ R L=>wpAny_pure ⟨_,R,L,h⟩
theorem HT.lift{α:Type}{t:Sem α}{Q:α→CS→Prop}(h:HT B n t σ.heap fun v H=>Q v ⟨σ.vars,H⟩):TT B n env ns t σ Q:=by
 intro A hA F s R L
 refine wpAny_mono (h A hA _ s (frz_RH R L)) (fun v s' z=>?_) fun _ _ z=>z
 refine oea z fun H' R' q=>?_
 refine oa (frz_back R L R') fun R2 L2=>?_
 exact⟨⟨σ.vars,H'⟩,R2,L2,q⟩
theorem get_of{i:Nat}{x:Str}(v:CV)(hv:σ.get i=v)(hd:v≠.undef):σ.vars[i]?=some v:=by
 unfold CS.get at hv
 rw[List.getD_eq_getElem?_getD] at hv
 induction h:σ.vars[i]? using Option.casesOn with
 | none=>rw[h] at hv;exact absurd hv.symm hd
 | some w=>rw[h] at hv;simp at hv;rw[hv]
theorem tt_loadName(e0:EnvOk env ns){i:Nat}{x:Str}(hx:ns[i]?=some x)(hd:σ.get i≠.undef){Q:Value→CS→Prop}(q:∀v,cv v=σ.get i→Q v σ):TT B n env ns (loadName env x) σ Q:=by
 intro A hA F s R L
 have hv:=get_of (x:=x) (σ.get i) rfl hd
 have hm:=List.mem_of_getElem? hx
 rcases e0.kinds x hm with hk | ⟨hk,c,hc⟩
 ·refine oea L.loc fun m hn hl=>?_
  refine oea (hl i x _ hx hv hd hk) fun rv h1 h2=>?_
  exact wpAny_loadName_local e0.kind hk hn h1 ⟨σ,R,L,q _ h2⟩
 ·have hnl:env.kindOf x≠some .local:=by rcases hk with hk | hk <;> rw[hk] <;> simp
  refine oea (L.cev i x _ c hx hv hd hnl hc) fun rv h1 h2=>?_
  rcases hk with hk | hk
  ·exact wpAny_loadName_cell e0.kind hk hc h1 ⟨σ,R,L,q _ h2⟩
  ·exact wpAny_loadName_free e0.kind hk hc h1 ⟨σ,R,L,q _ h2⟩ (e0.dbg x hm).2
theorem tt_Name(e0:EnvOk env ns){i:Nat}{x:Str}{pos:Pos}(hx:ns[i]?=some x)(hd:σ.get i≠.undef){Q:Value→CS→Prop}(q:∀v,cv v=σ.get i→Q v σ):TT B n env ns (eval (.Name x pos) env) σ Q:=
 fun A hA F s R L=>wpAny_Name (tt_loadName e0 hx hd q A hA F s R L) (e0.dbg x (List.mem_of_getElem? hx)).1
theorem set_get{l:List CV}{i j:Nat}{v w:CV}(h:(l.set i v)[j]?=some w):(j=i∧w=v)∨(j≠i∧l[j]?=some w):=by
 by_cases hij:j=i
 ·subst hij
  rw[List.getElem?_set_self'] at h
  induction hl:l[j]? using Option.casesOn with
  | none=>rw[hl] at h;cases h
  | some y=>rw[hl] at h;simp at h;exact .inl ⟨rfl,h.symm⟩
 ·rw[List.getElem?_set_ne (Ne.symm hij)] at h
  exact .inr ⟨hij,h⟩
theorem nodup_at{l:List Str}(hn:l.Nodup){i j:Nat}{x:Str}(h1:l[i]?=some x)(h2:l[j]?=some x):i=j:=by
 obtain⟨p1,q1⟩:=List.getElem?_eq_some_iff.mp h1
 obtain⟨p2,q2⟩:=List.getElem?_eq_some_iff.mp h2
 exact(List.getElem_inj hn).mp (q1.trans q2.symm)
theorem B6(e0:EnvOk env ns){i:Nat}{x:Str}{v:Value}(hx:ns[i]?=some x)(hfree:env.kindOf x≠some .free){Q:CS→Prop}(q:Q (σ.set i (cv v))):TT B n env ns (storeName env x v) σ fun _=>Q:=by
 intro A hA F s R L
 have hm:=List.mem_of_getElem? hx
 rcases e0.kinds x hm with hk | ⟨hk,c,hc⟩
 ·refine oea L.loc fun m hn hl=>?_
  refine wpAny_storeName_local hk hn (fun h' hn' hs=>⟨σ.set i (cv v),?_,?_,q⟩) (by rw[e0.kind];rfl)
  ·exact(R.off hs.extBut (L.free _ (.inl rfl)).2 (L.free _ (.inl rfl)).1 (L.notTup (.inl rfl))).toks _
  ·have hcl:∀y c,env.cells.lookup y=some c→c≠env.locals:=by
    rintro y c e rfl
    refine Be (L.cel y _ e) fun ov o g hd=>?_
    refine oe3a2 hn fun o' es ep g' hd' _=>?_
    rw[g] at g';cases g';rw[hd] at hd';cases hd'
   refine⟨⟨_,hn',fun j y w h1 h2 h3 h4=>?_⟩,fun y c e=>?_,fun j y w c h1 h2 h3 h4 h5=>?_,fun b p=>L.free b p,L.inj⟩
   ·rcases set_get h2 with ⟨rfl,rfl⟩ | ⟨hne,h2⟩
    ·rw[hx] at h1;cases h1
     exact⟨v,by simp,rfl⟩
    ·have hyx:y≠x:=fun e=>hne (nodup_at e0.nodup h1 (e▸hx))
     refine oea (hl j y w h1 h2 h3 h4) fun rv p1 p2=>?_
     exact⟨rv,by simp[hyx,p1],p2⟩
   ·refine Be (L.cel y c e) fun ov o g hd=>?_
    exact⟨ov,o,(hs.2 _ (hcl y c e)).trans g,hd⟩
   ·rcases set_get h2 with ⟨rfl,rfl⟩ | ⟨hne,h2⟩
    ·rw[hx] at h1;cases h1;exact absurd hk h4
    ·obtain⟨rv,⟨o,g,hd⟩,p2⟩:=L.cev j y w c h1 h2 h3 h4 h5
     exact⟨rv,⟨o,(hs.2 _ (hcl y c h5)).trans g,hd⟩,p2⟩
 ·have hk:env.kindOf x=some .cell:=hk.resolve_right hfree
  refine oe (L.cel x c hc) fun ov hcell=>?_
  refine wpAny_storeName_cell e0.kind hk hc hcell fun h' hcell' hs=>⟨σ.set i (cv v),?_,?_,q⟩
  ·exact R.off hs.extBut (L.free _ (.inr ⟨x,hc⟩)).2 (L.free _ (.inr ⟨x,hc⟩)).1 (L.notTup (.inr ⟨x,hc⟩))
  ·have hlc:env.locals≠c:=by
    rintro rfl
    refine oea L.loc fun m hn _=>?_
    refine oea hcell fun o g hd=>?_
    refine oe3a2 hn fun o' es ep g' hd' _=>?_
    rw[g] at g';cases g';rw[hd] at hd';cases hd'
   refine⟨?_,fun y c' e=>?_,fun j y w c' h1 h2 h3 h4 h5=>?_,fun b p=>L.free b p,L.inj⟩
   ·obtain⟨m,⟨o,es,ep,g,r⟩,hl⟩:=L.loc
    refine⟨m,⟨o,es,ep,(hs.2 _ hlc).trans g,r⟩,fun j y w h1 h2 h3 h4=>?_⟩
    rcases set_get h2 with ⟨rfl,rfl⟩ | ⟨hne,h2⟩
    ·rw[hx] at h1;cases h1;rw[hk] at h4;cases h4
    ·exact hl j y w h1 h2 h3 h4
   ·by_cases hcc:c'=c
    ·subst hcc;exact⟨_,hcell'⟩
    ·refine Be (L.cel y c' e) fun ov o g hd=>?_
     exact⟨ov,o,(hs.2 _ hcc).trans g,hd⟩
   ·rcases set_get h2 with ⟨rfl,rfl⟩ | ⟨hne,h2⟩
    ·rw[hx] at h1;cases h1;rw[hc] at h5;cases h5
     exact⟨v,hcell',rfl⟩
    ·have hyx:y≠x:=fun e=>hne (nodup_at e0.nodup h1 (e▸hx))
     have hcc:c'≠c:=fun e=>hyx (L.inj _ _ _ (e▸h5) hc)
     obtain⟨rv,⟨o,g,hd⟩,p2⟩:=L.cev j y w c' h1 h2 h3 h4 h5
     exact⟨rv,⟨o,(hs.2 _ hcc).trans g,hd⟩,p2⟩
noncomputable def TArgs(B:Base)(n:Nat)(env:Env)(ns:List Str):List Expr→CS→(List Value→CS→Prop)→Prop
 | [],σ,Q=>Q [] σ
 | e::r,σ,Q=>TT B n env ns (eval e env) σ fun v σ₁=>TArgs B n env ns r σ₁ fun vs σ₂=>Q (v::vs) σ₂
noncomputable def Au:Expr→Bool
 | .Starred ..=>false
 | _=>true
theorem starEach_cons{e:Expr}(r:List Expr)(h:Au e=true):starEach (e::r) env=(false,eval e env)::starEach r env:=by
 induction e using Expr.casesOn <;> first | rfl | cases h
theorem back_any{pos:Pos}:∀{es:List Expr},es.all Au=true→(backTo pos (starEach es env)).any (·.1)=false
 | [],_=>rfl
 | e::r,h=>by
  rw[List.all_cons,Bool.and_eq_true] at h
  rw[starEach_cons r h.1]
  show(false||(backTo pos (starEach r env)).any (·.1))=false
  rw[back_any h.2];rfl
theorem back_all{pos:Pos}:∀{es:List Expr},es.all Au=true→(backTo pos (starEach es env)).all (fun x=>!x.1)=true
 | [],_=>rfl
 | e::r,h=>by
  rw[List.all_cons,Bool.and_eq_true] at h
  rw[starEach_cons r h.1]
  show(true&&(backTo pos (starEach r env)).all (fun x=>!x.1))=true
  rw[back_all h.2];rfl
theorem tt_spliced{pos:Pos}:∀{es:List Expr} {σ:CS} {Q:List Value→CS→Prop},es.all Au=true→TArgs B n env ns es σ Q→TT B n env ns (spliced (backTo pos (starEach es env))) σ Q
 | [],σ,Q,_,h=>TT.pure h
 | e::r,σ,Q,hs,h=>by
  simp only[List.all_cons,Bool.and_eq_true] at hs
  intro A hA F s R L
  simp only[starEach_cons r hs.1]
  show wpAny _ _ (spliced ((false,eval e env)::backTo pos (starEach r env))) _ _ _
  refine Calls.spliced_cons (wpAny_mono (h A hA F s R L) (fun v s₁ z=>?_) fun _ _ z=>z)
  refine oea2 z fun σ₁ R₁ L₁ z=>?_
  exact tt_spliced hs.2 z A hA F s₁ R₁ L₁
theorem tt_evalArgs{pos:Pos}{f:Value}{es:List Expr}{Q:Args→CS→Prop}(hs:es.all Au=true)(h:TArgs B n env ns es σ fun vs σ'=>Q ⟨vs,[]⟩ σ'):TT B n env ns (evalArgs f true (backTo pos (starEach es env)) []) σ Q:=by
 intro A hA F s R L
 induction es using List.casesOn with
 | nil=>exact evalArgs_nil3 ⟨σ,R,L,h⟩
 | cons e r=>
  have:=tt_spliced (pos:=pos) hs h A hA F s R L
  simp only[List.all_cons,Bool.and_eq_true] at hs
  rw[starEach_cons r hs.1] at this ⊢
  exact Calls.evalArgs_plain this
theorem tt_callB{pos:Pos}{id:String}{first:List Value}{es:List Expr}{Q:Value→CS→Prop}(hs:es.all Au=true)
  (h:TArgs B n env ns es σ fun vs σ'=>TT B n env ns (call (.builtin id) (first++vs)) σ' Q):TT B n env ns (callWith pos (.builtin id) first (backTo pos (starEach es env)) []) σ Q:=by
 intro A hA F s R L
 refine Calls.callWith_builtin (back_any hs) (wpAny_mono (tt_evalArgs (Q:=fun a σ'=>TT B n env ns (call (.builtin id) (first++a.pos) a.kw) σ' Q) (f:=.builtin id) hs h A hA F s R L) (fun a s₁ z=>?_) fun _ _ z=>z)
 refine oea2 z fun σ₁ R₁ L₁ z=>?_
 exact z A hA F s₁ R₁ L₁
end
end
section
noncomputable def globs:List (Str × Int):=[("RESTART_UNIT",32),("ACTIVITY_LIMIT",1000000000000),("ACTIVITY_SCALE",1000000),("TABLE_INPUTS",6)]
noncomputable def isGlob(sc:Scope)(x:Str):Bool:=sc.names.lookup x==some .globalImplicit && !(x==("__debug__" : Str))
noncomputable def notCall:Expr→Bool
 | .Call ..=>false
 | _=>true
noncomputable def notSlice:Expr→Bool
 | .Slice ..=>false
 | _=>true
noncomputable def notComp:Expr→Bool
 | .ListComp .. | .SetComp .. | .DictComp ..=>false
 | _=>true
noncomputable def notSet:Expr→Bool
 | .Set ..=>false
 | _=>true
noncomputable def relab(sc inner:Scope):Scope:={ inner with names:=inner.names.map fun(n,k)=>if (k==.free&&sc.names.lookup n==some .cell) then (n,.cell) else (n,k) }
noncomputable def Ar(ns:List Str)(x:Str)(free:List Nat):List Str:=x::free.map fun i=>ns.getD i "__debug__"
noncomputable def compScopeOk(sc inner:Scope)(ns:List Str)(x:Str)(free:List Nat):Bool:=
 inner.kind==.function&&decide ((inner.names.map (·.1)).Nodup)&&inner.names.lookup x==some .local &&
 decide (Ar ns x free).Nodup&&(Ar ns x free).all (fun y=>!(y==("__debug__" : Str)) && !(y==("__classdict__" : Str))) &&
 free.all (fun i=>match ns[i]? with | some y=>inner.names.lookup y==some .free&&sc.names.lookup y==some .cell | none=>false) &&
 inner.names.all (fun p=>p.2==.local||(p.2==.free&&sc.names.lookup p.1==some .cell&&free.any (fun i=>ns[i]?==some p.1)))
theorem ff{P:Prop}(h:false=true):P:=nomatch h
theorem an2{a b:Bool}(h:(a&&b)=true):a=true∧b=true:=Bool.and_eq_true_iff.mp h
theorem Bn{a b:Bool}{G:Prop}(h:(a&&b)=true)(k:a=true→b=true→G):G:=k (an2 h).1 (an2 h).2
theorem an3k{a b c:Bool}{G:Prop}(h:(a&&b&&c)=true)(k:a=true→b=true→c=true→G):G:=Bn h fun h z=>Bn h fun x y=>k x y z
theorem an4k{a b c d:Bool}{G:Prop}(h:(a&&b&&c&&d)=true)(k:a=true→b=true→c=true→d=true→G):G:=Bn h fun h z=>an3k h fun x y w=>k x y w z
theorem an5k{a b c d e:Bool}{G:Prop}(h:(a&&b&&c&&d&&e)=true)(k:a=true→b=true→c=true→d=true→e=true→G):G:=Bn h fun h z=>an4k h fun x y w v=>k x y w v z
theorem an6k{a b c d e f:Bool}{G:Prop}(h:(a&&b&&c&&d&&e&&f)=true)(k:a=true→b=true→c=true→d=true→e=true→f=true→G):G:=Bn h fun h z=>an5k h fun x y w v u=>k x y w v u z
theorem an7k{a b c d e f g:Bool}{G:Prop}(h:(a&&b&&c&&d&&e&&f&&g)=true)(k:a=true→b=true→c=true→d=true→e=true→f=true→g=true→G):G:=Bn h fun h z=>an6k h fun x y w v u t=>k x y w v u t z
theorem an8k{a b c d e f g i:Bool}{G:Prop}(h:(a&&b&&c&&d&&e&&f&&g&&i)=true)(k:a=true→b=true→c=true→d=true→e=true→f=true→g=true→i=true→G):G:=Bn h fun h z=>an7k h fun x y w v u t s=>k x y w v u t s z
noncomputable def nmE(t:Expr)(f:Str→Pos→Bool):Bool:=match t with
 | .Name x p=>f x p
 | _=>false
@[elab_as_elim] theorem nmE_k{t:Expr}{f:Str→Pos→Bool}{P:Expr→Prop}(h:nmE t f=true)(k:∀x p,f x p=true→P (.Name x p)):P t:=by
 revert h
 induction t using Expr.casesOn with
 | Name x p=>exact k x p
 | _=>exact ff
noncomputable def atE(t:Expr)(f:Expr→Str→Pos→Bool):Bool:=match t with
 | .Attribute v n p=>f v n p
 | _=>false
@[elab_as_elim] theorem atE_k{t:Expr}{f:Expr→Str→Pos→Bool}{P:Expr→Prop}(h:atE t f=true)(k:∀v n p,f v n p=true→P (.Attribute v n p)):P t:=by
 revert h
 induction t using Expr.casesOn with
 | Attribute v n p=>exact k v n p
 | _=>exact ff
noncomputable def sbE(t:Expr)(f:Expr→Expr→Bool):Bool:=match t with
 | .Subscript v k p=>f v k
 | _=>false
@[elab_as_elim] theorem sbE_k{t:Expr}{f:Expr→Expr→Bool}{P:Expr→Prop}(h:sbE t f=true)(w:∀v k p,f v k=true→P (.Subscript v k p)):P t:=by
 revert h
 induction t using Expr.casesOn with
 | Subscript v k p=>exact w v k p
 | _=>exact ff
noncomputable def clE(t:Expr)(f:Expr→List Expr→List Keyword→Pos→Bool):Bool:=match t with
 | .Call g as ks p=>f g as ks p
 | _=>false
@[elab_as_elim] theorem clE_k{t:Expr}{f:Expr→List Expr→List Keyword→Pos→Bool}{P:Expr→Prop}(h:clE t f=true)(k:∀g as ks p,f g as ks p=true→P (.Call g as ks p)):P t:=by
 revert h
 induction t using Expr.casesOn with
 | Call g as ks p=>exact k g as ks p
 | _=>exact ff
noncomputable def csE(t:Expr)(f:Const→Bool):Bool:=match t with
 | .Constant c k p=>f c
 | _=>false
@[elab_as_elim] theorem csE_k{t:Expr}{f:Const→Bool}{P:Expr→Prop}(h:csE t f=true)(w:∀c k p,f c=true→P (.Constant c k p)):P t:=by
 revert h
 induction t using Expr.casesOn with
 | Constant c k p=>exact w c k p
 | _=>exact ff
noncomputable def biE(t:Expr)(f:Expr→Operator→Expr→Bool):Bool:=match t with
 | .BinOp l o r p=>f l o r
 | _=>false
@[elab_as_elim] theorem biE_k{t:Expr}{f:Expr→Operator→Expr→Bool}{P:Expr→Prop}(h:biE t f=true)(k:∀l o r p,f l o r=true→P (.BinOp l o r p)):P t:=by
 revert h
 induction t using Expr.casesOn with
 | BinOp l o r p=>exact k l o r p
 | _=>exact ff
noncomputable def unE(t:Expr)(f:UnaryOp→Expr→Bool):Bool:=match t with
 | .UnaryOp o y p=>f o y
 | _=>false
@[elab_as_elim] theorem unE_k{t:Expr}{f:UnaryOp→Expr→Bool}{P:Expr→Prop}(h:unE t f=true)(k:∀o y p,f o y=true→P (.UnaryOp o y p)):P t:=by
 revert h
 induction t using Expr.casesOn with
 | UnaryOp o y p=>exact k o y p
 | _=>exact ff
noncomputable def boE(t:Expr)(f:BoolOp→List Expr→Bool):Bool:=match t with
 | .BoolOp o vs p=>f o vs
 | _=>false
@[elab_as_elim] theorem boE_k{t:Expr}{f:BoolOp→List Expr→Bool}{P:Expr→Prop}(h:boE t f=true)(k:∀o vs p,f o vs=true→P (.BoolOp o vs p)):P t:=by
 revert h
 induction t using Expr.casesOn with
 | BoolOp o vs p=>exact k o vs p
 | _=>exact ff
noncomputable def cpE(t:Expr)(f:Expr→List CmpOp→List Expr→Bool):Bool:=match t with
 | .Compare l o r p=>f l o r
 | _=>false
@[elab_as_elim] theorem cpE_k{t:Expr}{f:Expr→List CmpOp→List Expr→Bool}{P:Expr→Prop}(h:cpE t f=true)(k:∀l o r p,f l o r=true→P (.Compare l o r p)):P t:=by
 revert h
 induction t using Expr.casesOn with
 | Compare l o r p=>exact k l o r p
 | _=>exact ff
noncomputable def ifE(t:Expr)(f:Expr→Expr→Expr→Bool):Bool:=match t with
 | .IfExp t y z p=>f t y z
 | _=>false
@[elab_as_elim] theorem ifE_k{t:Expr}{f:Expr→Expr→Expr→Bool}{P:Expr→Prop}(h:ifE t f=true)(k:∀t y z p,f t y z=true→P (.IfExp t y z p)):P t:=by
 revert h
 induction t using Expr.casesOn with
 | IfExp t y z p=>exact k t y z p
 | _=>exact ff
noncomputable def liE(t:Expr)(f:List Expr→Bool):Bool:=match t with
 | .List as p=>f as
 | _=>false
@[elab_as_elim] theorem liE_k{t:Expr}{f:List Expr→Bool}{P:Expr→Prop}(h:liE t f=true)(k:∀as p,f as=true→P (.List as p)):P t:=by
 revert h
 induction t using Expr.casesOn with
 | List as p=>exact k as p
 | _=>exact ff
noncomputable def tpE(t:Expr)(f:List Expr→Bool):Bool:=match t with
 | .Tuple as c p=>f as
 | _=>false
@[elab_as_elim] theorem tpE_k{t:Expr}{f:List Expr→Bool}{P:Expr→Prop}(h:tpE t f=true)(k:∀as c p,f as=true→P (.Tuple as c p)):P t:=by
 revert h
 induction t using Expr.casesOn with
 | Tuple as c p=>exact k as c p
 | _=>exact ff
noncomputable def diE(t:Expr)(f:List (Option Expr)→List Expr→Bool):Bool:=match t with
 | .Dict ks vs p=>f ks vs
 | _=>false
@[elab_as_elim] theorem diE_k{t:Expr}{f:List (Option Expr)→List Expr→Bool}{P:Expr→Prop}(h:diE t f=true)(k:∀ks vs p,f ks vs=true→P (.Dict ks vs p)):P t:=by
 revert h
 induction t using Expr.casesOn with
 | Dict ks vs p=>exact k ks vs p
 | _=>exact ff
noncomputable def lcE(t:Expr)(f:Expr→List Comprehension→Scope→Bool):Bool:=match t with
 | .ListComp x gs sc p=>f x gs sc
 | _=>false
@[elab_as_elim] theorem lcE_k{t:Expr}{f:Expr→List Comprehension→Scope→Bool}{P:Expr→Prop}(h:lcE t f=true)(k:∀x gs sc p,f x gs sc=true→P (.ListComp x gs sc p)):P t:=by
 revert h
 induction t using Expr.casesOn with
 | ListComp x gs sc p=>exact k x gs sc p
 | _=>exact ff
noncomputable def slE(t:Expr)(f:Option Expr→Option Expr→Option Expr→Bool):Bool:=match t with
 | .Slice a b c p=>f a b c
 | _=>false
@[elab_as_elim] theorem slE_k{t:Expr}{f:Option Expr→Option Expr→Option Expr→Bool}{P:Expr→Prop}(h:slE t f=true)(k:∀a b c p,f a b c=true→P (.Slice a b c p)):P t:=by
 revert h
 induction t using Expr.casesOn with
 | Slice a b c p=>exact k a b c p
 | _=>exact ff
noncomputable def asS(t:Stmt)(f:List Expr→Expr→Bool):Bool:=match t with
 | .Assign ts v p=>f ts v
 | _=>false
@[elab_as_elim] theorem asS_k{t:Stmt}{f:List Expr→Expr→Bool}{P:Stmt→Prop}(h:asS t f=true)(k:∀ts v p,f ts v=true→P (.Assign ts v p)):P t:=by
 revert h
 induction t using Stmt.casesOn with
 | Assign ts v p=>exact k ts v p
 | _=>exact ff
noncomputable def auS(t:Stmt)(f:Expr→Operator→Expr→Bool):Bool:=match t with
 | .AugAssign l o v p=>f l o v
 | _=>false
@[elab_as_elim] theorem auS_k{t:Stmt}{f:Expr→Operator→Expr→Bool}{P:Stmt→Prop}(h:auS t f=true)(k:∀l o v p,f l o v=true→P (.AugAssign l o v p)):P t:=by
 revert h
 induction t using Stmt.casesOn with
 | AugAssign l o v p=>exact k l o v p
 | _=>exact ff
noncomputable def exS(t:Stmt)(f:Expr→Bool):Bool:=match t with
 | .Expr v p=>f v
 | _=>false
@[elab_as_elim] theorem exS_k{t:Stmt}{f:Expr→Bool}{P:Stmt→Prop}(h:exS t f=true)(k:∀v p,f v=true→P (.Expr v p)):P t:=by
 revert h
 induction t using Stmt.casesOn with
 | Expr v p=>exact k v p
 | _=>exact ff
noncomputable def ifS(t:Stmt)(f:Expr→List Stmt→List Stmt→Bool):Bool:=match t with
 | .If x y z p=>f x y z
 | _=>false
@[elab_as_elim] theorem ifS_k{t:Stmt}{f:Expr→List Stmt→List Stmt→Bool}{P:Stmt→Prop}(h:ifS t f=true)(k:∀x y z p,f x y z=true→P (.If x y z p)):P t:=by
 revert h
 induction t using Stmt.casesOn with
 | If x y z p=>exact k x y z p
 | _=>exact ff
noncomputable def whS(t:Stmt)(f:Expr→List Stmt→List Stmt→Bool):Bool:=match t with
 | .While x y z p=>f x y z
 | _=>false
@[elab_as_elim] theorem whS_k{t:Stmt}{f:Expr→List Stmt→List Stmt→Bool}{P:Stmt→Prop}(h:whS t f=true)(k:∀x y z p,f x y z=true→P (.While x y z p)):P t:=by
 revert h
 induction t using Stmt.casesOn with
 | While x y z p=>exact k x y z p
 | _=>exact ff
noncomputable def foS(t:Stmt)(f:Expr→Expr→List Stmt→List Stmt→Bool):Bool:=match t with
 | .For l z y e p=>f l z y e
 | _=>false
@[elab_as_elim] theorem foS_k{t:Stmt}{f:Expr→Expr→List Stmt→List Stmt→Bool}{P:Stmt→Prop}(h:foS t f=true)(k:∀l z y e p,f l z y e=true→P (.For l z y e p)):P t:=by
 revert h
 induction t using Stmt.casesOn with
 | For l z y e p=>exact k l z y e p
 | _=>exact ff
noncomputable def reS(t:Stmt)(f:Option Expr→Bool):Bool:=match t with
 | .Return o p=>f o
 | _=>false
@[elab_as_elim] theorem reS_k{t:Stmt}{f:Option Expr→Bool}{P:Stmt→Prop}(h:reS t f=true)(k:∀o p,f o=true→P (.Return o p)):P t:=by
 revert h
 induction t using Stmt.casesOn with
 | Return o p=>exact k o p
 | _=>exact ff
noncomputable def brS(t:Stmt):Bool:=match t with
 | .Break _=>true
 | _=>false
@[elab_as_elim] theorem brS_k{t:Stmt}{f:Bool}{P:Stmt→Prop}(h:brS t=true)(k:∀p,P (.Break p)):P t:=by
 revert h
 induction t using Stmt.casesOn with
 | Break p=>exact fun _=>k p
 | _=>exact ff
noncomputable def inC(t:Const)(f:Int→Bool):Bool:=match t with
 | .int i=>f i
 | _=>false
@[elab_as_elim] theorem inC_k{t:Const}{f:Int→Bool}{P:Const→Prop}(h:inC t f=true)(k:∀i,f i=true→P (.int i)):P t:=by
 revert h
 induction t using Const.casesOn with
 | int i=>exact k i
 | _=>exact ff
noncomputable def boC(t:Const)(f:Bool→Bool):Bool:=match t with
 | .bool i=>f i
 | _=>false
@[elab_as_elim] theorem boC_k{t:Const}{f:Bool→Bool}{P:Const→Prop}(h:boC t f=true)(k:∀i,f i=true→P (.bool i)):P t:=by
 revert h
 induction t using Const.casesOn with
 | bool i=>exact k i
 | _=>exact ff
noncomputable def noC(t:Const):Bool:=match t with
 | .none=>true
 | _=>false
@[elab_as_elim] theorem noC_k{t:Const}{f:Bool}{P:Const→Prop}(h:noC t=true)(k:P .none):P t:=by
 revert h
 induction t using Const.casesOn with
 | none=>exact fun _=>k
 | _=>exact ff
noncomputable def nilE{α:Type}:List α→Bool
 | []=>true
 | _=>false
@[elab_as_elim] theorem nilE_k{α:Type}{t:List α}{P:List α→Prop}(h:nilE t=true)(k:P []):P t:=by
 revert h
 induction t using List.casesOn with
 | nil=>exact fun _=>k
 | _=>exact ff
noncomputable def consE{α:Type}(t:List α)(f:α→List α→Bool):Bool:=match t with
 | x::xs=>f x xs
 | []=>false
@[elab_as_elim] theorem consE_k{α:Type}{t:List α}{f:α→List α→Bool}{P:List α→Prop}(h:consE t f=true)(k:∀x xs,f x xs=true→P (x::xs)):P t:=by
 revert h
 induction t using List.casesOn with
 | nil=>exact ff
 | cons x xs=>exact k x xs
noncomputable def noneE{α:Type}:Option α→Bool
 | none=>true
 | _=>false
@[elab_as_elim] theorem noneE_k{α:Type}{t:Option α}{P:Option α→Prop}(h:noneE t=true)(k:P none):P t:=by
 revert h
 induction t using Option.casesOn with
 | none=>exact fun _=>k
 | some x=>exact ff
noncomputable def someE{α:Type}(t:Option α)(f:α→Bool):Bool:=match t with
 | some x=>f x
 | none=>false
@[elab_as_elim] theorem B1{α:Type}{t:Option α}{f:α→Bool}{P:Option α→Prop}(h:someE t f=true)(k:∀x,f x=true→P (some x)):P t:=by
 revert h
 induction t using Option.casesOn with
 | none=>exact ff
 | some x=>exact k x
noncomputable def one1{α:Type}(ts:List α)(f:α→Bool):Bool:=consE ts fun t r=>nilE r&&f t
@[elab_as_elim] theorem one1_k{α:Type}{ts:List α}{f:α→Bool}{P:List α→Prop}(h:one1 ts f=true)(k:∀t,f t=true→P [t]):P ts:=
 consE_k h fun t r h=>Bn h fun h1 h2=>nilE_k (P:=fun r=>P (t::r)) h1 (k t h2)
noncomputable def nm1(ts:List Expr)(f:Str→Pos→Bool):Bool:=one1 ts fun t=>nmE t f
@[elab_as_elim] theorem nm1_k{ts:List Expr}{f:Str→Pos→Bool}{P:List Expr→Prop}(h:nm1 ts f=true)(k:∀x p,f x p=true→P [.Name x p]):P ts:=
 one1_k h fun t h=>nmE_k (P:=fun t=>P [t]) h k
noncomputable def two1(ts:List Expr)(f:Expr→Expr→Bool):Bool:=consE ts fun x r=>one1 r fun y=>f x y
@[elab_as_elim] theorem two1_k{ts:List Expr}{f:Expr→Expr→Bool}{P:List Expr→Prop}(h:two1 ts f=true)(k:∀x y,f x y=true→P [x,y]):P ts:=
 consE_k h fun x r h=>one1_k (P:=fun r=>P (x::r)) h (k x)
noncomputable def tp2(t:Expr)(f:Str→Pos→Str→Pos→Bool):Bool:=tpE t fun as=>two1 as fun x y=>nmE x fun a p=>nmE y fun b q=>f a p b q
@[elab_as_elim] theorem tp2_k{t:Expr}{f:Str→Pos→Str→Pos→Bool}{P:Expr→Prop}(h:tp2 t f=true)(k:∀a p b q c r,f a p b q=true→P (.Tuple [.Name a p,.Name b q] c r)):P t:=
 tpE_k h fun as c r h=>two1_k (P:=fun as=>P (.Tuple as c r)) h fun x y h=>nmE_k (P:=fun x=>P (.Tuple [x,y] c r)) h fun a p h=>nmE_k (P:=fun y=>P (.Tuple [.Name a p,y] c r)) h fun b q h=>k a p b q c r h
noncomputable def gen1(gs:List Comprehension)(f:Str→Expr→List Expr→Bool):Bool:=one1 gs fun g=>g.is_async==0&&nmE g.target fun y _=>f y g.iter g.ifs
@[elab_as_elim] theorem gen1_k{gs:List Comprehension}{f:Str→Expr→List Expr→Bool}{P:List Comprehension→Prop}(h:gen1 gs f=true)(k:∀y p z ifs,f y z ifs=true→P [⟨.Name y p,z,ifs,0⟩]):P gs:=
 one1_k h fun g=>match g with
  | ⟨t,z,ifs,a⟩=>fun h=>Bn h fun h1 h2=>(nmE_k (P:=fun t=>P [⟨t,z,ifs,a⟩]) h2 fun y p h=>(eq_of_beq h1:a=0)▸k y p z ifs h)
noncomputable def inE(t:Expr)(f:Int→Bool):Bool:=csE t fun c=>inC c f
@[elab_as_elim] theorem inE_k{t:Expr}{f:Int→Bool}{P:Expr→Prop}(h:inE t f=true)(k:∀x a p,f x=true→P (.Constant (.int x) a p)):P t:=
 csE_k h fun c a p h=>inC_k (P:=fun c=>P (.Constant c a p)) h fun x h=>k x a p h
noncomputable def clN(t:Expr)(f:Str→List Expr→Bool):Bool:=clE t fun g as ks _=>nilE ks&&nmE g fun x _=>f x as
@[elab_as_elim] theorem clN_k{t:Expr}{f:Str→List Expr→Bool}{P:Expr→Prop}(h:clN t f=true)(k:∀x q as p,f x as=true→P (.Call (.Name x q) as [] p)):P t:=
 clE_k h fun g as ks p h=>Bn h fun h1 h2=>nilE_k (P:=fun ks=>P (.Call g as ks p)) h1 (nmE_k (P:=fun g=>P (.Call g as [] p)) h2 fun x q h=>k x q as p h)
noncomputable def clA_(t:Expr)(f:Expr→Str→Pos→List Expr→Pos→Bool):Bool:=clE t fun g as ks p=>nilE ks&&atE g fun v x ap=>f v x ap as p
@[elab_as_elim] theorem clA_k{t:Expr}{f:Expr→Str→Pos→List Expr→Pos→Bool}{P:Expr→Prop}(h:clA_ t f=true)(k:∀v x ap as p,f v x ap as p=true→P (.Call (.Attribute v x ap) as [] p)):P t:=
 clE_k h fun g as ks p h=>Bn h fun h1 h2=>nilE_k (P:=fun ks=>P (.Call g as ks p)) h1 (atE_k (P:=fun g=>P (.Call g as [] p)) h2 fun v x ap h=>k v x ap as p h)
noncomputable def cp1(t:Expr)(f:Expr→CmpOp→Expr→Bool):Bool:=cpE t fun l os rs=>one1 os fun o=>one1 rs fun r=>f l o r
@[elab_as_elim] theorem cp1_k{t:Expr}{f:Expr→CmpOp→Expr→Bool}{P:Expr→Prop}(h:cp1 t f=true)(k:∀l o r p,f l o r=true→P (.Compare l [o] [r] p)):P t:=
 cpE_k h fun l os rs p h=>one1_k (P:=fun os=>P (.Compare l os rs p)) h fun o h=>one1_k (P:=fun rs=>P (.Compare l [o] rs p)) h fun r h=>k l o r p h
noncomputable def d1E(t:Expr)(f:Int→Int→Bool):Bool:=diE t fun ks vs=>one1 ks fun o=>someE o fun a=>inE a fun x=>one1 vs fun b=>inE b fun y=>f x y
@[elab_as_elim] theorem d1E_k{t:Expr}{f:Int→Int→Bool}{P:Expr→Prop}(h:d1E t f=true)(k:∀x a b y c d p,f x y=true→P (.Dict [some (.Constant (.int x) a b)] [.Constant (.int y) c d] p)):P t:=
 diE_k h fun ks vs p h=>one1_k (P:=fun ks=>P (.Dict ks vs p)) h fun o h=>B1 (P:=fun o=>P (.Dict [o] vs p)) h fun e h=>inE_k (P:=fun e=>P (.Dict [some e] vs p)) h fun x a b h=>
  one1_k (P:=fun vs=>P (.Dict [some (.Constant (.int x) a b)] vs p)) h fun e h=>inE_k (P:=fun e=>P (.Dict [some (.Constant (.int x) a b)] [e] p)) h fun y c d h=>k x a b y c d p h
noncomputable def isU:UnaryOp→Bool
 | .USub=>true
 | _=>false
@[elab_as_elim] theorem isU_k{o:UnaryOp}{P:UnaryOp→Prop}(h:isU o=true)(k:P .USub):P o:=by
 revert h
 induction o using UnaryOp.casesOn with
 | USub=>exact fun _=>k
 | _=>exact ff
noncomputable def isN:UnaryOp→Bool
 | .Not=>true
 | _=>false
@[elab_as_elim] theorem isN_k{o:UnaryOp}{P:UnaryOp→Prop}(h:isN o=true)(k:P .Not):P o:=by
 revert h
 induction o using UnaryOp.casesOn with
 | Not=>exact fun _=>k
 | _=>exact ff
noncomputable def isA:BoolOp→Bool
 | .And=>true
 | .Or=>false
noncomputable def isO:BoolOp→Bool
 | .And=>false
 | .Or=>true
mutual
noncomputable def mE(sc:Scope)(ns:List Str):IE→Expr→Bool
 | .int i,t=>inE t fun j=>i==j
 | .bool b,t=>csE t fun c=>boC c fun d=>b==d
 | .none,t=>csE t noC
 | .var i,t=>nmE t fun x _=>ns[i]?==some x
 | .glob x i,t=>nmE t fun y _=>x==y&&isGlob sc x&&globs.contains (x,i)
 | .attr e a,t=>atE t fun v n _=>n==a.name&&notCall v&&mE sc ns e v
 | .sub e i,t=>sbE t fun v k=>notSlice k&&mE sc ns e v&&mE sc ns i k
 | .upto e u,t=>sbE t fun v s=>slE s fun a b c=>noneE a&&noneE c&&someE b fun k=>mE sc ns e v&&mE sc ns u k
 | .bin o a b,t=>biE t fun l p r=>o==p&&mE sc ns a l&&mE sc ns b r
 | .neg a,t=>unE t fun o x=>isU o&&mE sc ns a x
 | .not a,t=>unE t fun o x=>isN o&&mE sc ns a x
 | .cmp o a b,t=>cp1 t fun l p r=>o==p&&notSet r&&mE sc ns a l&&mE sc ns b r
 | .and es,t=>boE t fun o vs=>isA o&&mL sc ns es vs
 | .or es,t=>boE t fun o vs=>isO o&&mL sc ns es vs
 | .ite c a b,t=>ifE t fun t x y=>mE sc ns c t&&mE sc ns a x&&mE sc ns b y
 | .fn f es,t=>clN t fun x as=>x==f.name&&f.cl==none&&isGlob sc x&&as.all Au&&mL sc ns es as
 | .cls c es,t=>clN t fun x as=>x==c.name&&isGlob sc x&&as.all Au&&mL sc ns es as
 | .mth o f es,t=>clA_ t fun v x ap as p=>x==f.name&&notCall v&&ap.endLine==p.line&&decide (as.length<29)&&as.all Au&&mE sc ns o v&&mL sc ns es as
 | .bf f e,t=>clN t fun x as=>x==Str.ofString f.name&&isGlob sc x&&one1 as fun a=>Au a&&mE sc ns e a
 | .bm o m es,t=>clA_ t fun v x ap as p=>x==Str.ofString m.name&&notCall v&&ap.endLine==p.line&&decide (as.length<29)&&as.all Au&&mE sc ns o v&&mL sc ns es as
 | .list es,t=>liE t fun as=>as.all Au&&mL sc ns es as
 | .tup es,t=>tpE t fun as=>as.all Au&&mL sc ns es as
 | .dict0 _,t=>diE t fun ks vs=>nilE ks&&nilE vs
 | .dict1 k v,t=>d1E t fun x y=>k==x&&v==y
 | .range es,t=>clN t fun x as=>x==Str.ofString "range" && isGlob sc x&&as.all Au&&mL sc ns es as
 | .comp elt it cond free,t=>lcE t fun x gs inner=>gen1 gs fun y z ifs=>compScopeOk sc inner ns y free&&notSet z&&mE sc ns it z&&mE (relab sc inner) (Ar ns y free) elt x&&mL (relab sc inner) (Ar ns y free) cond ifs
noncomputable def mL(sc:Scope)(ns:List Str):List IE→List Expr→Bool
 | [],xs=>nilE xs
 | e::es,xs=>consE xs fun x xs=>mE sc ns e x&&mL sc ns es xs
end
noncomputable def stores(sc:Scope)(ns:List Str)(i:Nat)(x:Str):Bool:=ns[i]?==some x&&sc.names.lookup x != some .free
noncomputable def mT(sc:Scope)(ns:List Str):Tg→Expr→Bool
 | .v i,t=>nmE t fun x _=>stores sc ns i x
 | .s o i,t=>sbE t fun v k=>notSlice k&&mE sc ns o v&&mE sc ns i k
noncomputable def mTs(sc:Scope)(ns:List Str):List Tg→List Expr→Bool
 | [],xs=>nilE xs
 | t::ts,xs=>consE xs fun x xs=>mT sc ns t x&&mTs sc ns ts xs
noncomputable def isName:Expr→Bool
 | .Name ..=>true
 | _=>false
noncomputable def notTup:Expr→Bool
 | .Tuple .. | .List ..=>false
 | _=>true
mutual
noncomputable def mS(sc:Scope)(ns:List Str):IS→Stmt→Bool
 | .setv i e,t=>asS t fun ts v=>nm1 ts fun x _=>stores sc ns i x&&notComp v&&mE sc ns e v
 | .asgComp i e,t=>asS t fun ts v=>nm1 ts fun x px=>stores sc ns i x&&sc.names.lookup x==some .local&&px.line==v.pos.line&&(lcE v fun _ _ inner=>!(inner.names.any fun(n,k)=>n==x&&(k==.local||k==.cell)))&&mE sc ns e v
 | .setattr o a e,t=>asS t fun ts x=>one1 ts fun l=>atE l fun v n _=>n==a.name&&mE sc ns o v&&mE sc ns e x
 | .setsub o i e,t=>asS t fun ts x=>one1 ts fun l=>sbE l fun v k=>notSlice k&&mE sc ns o v&&mE sc ns i k&&mE sc ns e x
 | .unpack ts e,t=>asS t fun ls x=>one1 ls fun l=>tpE l fun as=>(notTup x||as.any fun a=>!isName a)&&notComp x&&as.all Au&&mTs sc ns ts as&&mE sc ns e x
 | .swap i j,t=>asS t fun ls r=>one1 ls fun l=>tp2 l fun a pa b pb=>tp2 r fun c _ d _=>
  stores sc ns i a&&stores sc ns j b&&c==b&&d==a&&a != b&&sc.names.lookup a==some .local&&sc.names.lookup b==some .local&&pa.line==pb.line
 | .augv i o e,t=>auS t fun l p v=>nmE l fun x _=>stores sc ns i x&&o == .Add&&p == .Add&&mE sc ns e v
 | .augsub o i op e,t=>auS t fun l p x=>sbE l fun v k=>notSlice k&&op == .Add&&p == .Add&&mE sc ns o v&&mE sc ns i k&&mE sc ns e x
 | .expr e,t=>exS t fun v=>notComp v&&mE sc ns e v
 | .ite t a b,s=>ifS s fun x y z=>mE sc ns t x&&mSs sc ns a y&&mSs sc ns b z
 | .whl t b,s=>whS s fun x y el=>nilE el&&mE sc ns t x&&mSs sc ns b y
 | .for i e b,t=>foS t fun l z y el=>nilE el&&nmE l fun x _=>stores sc ns i x&&notSet z&&mE sc ns e z&&mSs sc ns b y
 | .ret e,t=>reS t fun o=>someE o fun v=>mE sc ns e v
 | .ret0,t=>reS t noneE
 | .brk,t=>brS t
noncomputable def mSs(sc:Scope)(ns:List Str):List IS→List Stmt→Bool
 | [],xs=>nilE xs
 | a::r,xs=>consE xs fun x xs=>mS sc ns a x&&mSs sc ns r xs
end
end
section
section
variable {B:Base} {n:Nat} {env:Env} {ns:List Str} {σ:CS}
theorem TT.go{α:Type}{t:Sem α}{P:α→CS→Prop}{X:α→Shared→Prop}{A:Around}{F:Fz}{s:Shared}{E:Value→Shared→Prop}(h:TT B n env ns t σ P)(hA:Room n A)(R:RH B σ.heap F s)(L:LcR env ns σ.vars F σ.heap s.heap)
  (k:∀a σ₁ s₁,RH B σ₁.heap F s₁→LcR env ns σ₁.vars F σ₁.heap s₁.heap→P a σ₁→X a s₁):wpAny (model B.prog B.w) A t X E s:=
 wpAny_mono (h A hA F s R L) (fun a s₁ ⟨σ₁,R₁,L₁,p⟩=>k a σ₁ s₁ R₁ L₁ p) fun _ _ z=>z.elim
theorem tt_int{i:Int}{k:Nat}{pos:Pos}{Q:Value→CS→Prop}(q:∀v,cv v=.int i→Q v σ):TT B n env ns (eval (.Constant (.int i) k pos) env) σ Q:=
 fun _ _ _ _ R L=>wpAny_Constant_int ⟨σ,R.tok _,L,q _ rfl⟩
theorem tt_bool{b:Bool}{k:Nat}{pos:Pos}{Q:Value→CS→Prop}(q:Q (.bool b) σ):TT B n env ns (eval (.Constant (.bool b) k pos) env) σ Q:=
 fun _ _ _ _ R L=>wpAny_Constant_bool ⟨σ,R,L,q⟩
theorem tt_none{k:Nat}{pos:Pos}{Q:Value→CS→Prop}(q:Q .none σ):TT B n env ns (eval (.Constant .none k pos) env) σ Q:=
 fun _ _ _ _ R L=>wpAny_Constant_none ⟨σ,R,L,q⟩
theorem tt_bin{l r:Expr}{op:Operator}{pos:Pos}{Q:Value→CS→Prop}(h:TT B n env ns (eval l env) σ fun a σ₁=>TT B n env ns (eval r env) σ₁ fun b σ₂=>TT B n env ns (binaryOp op a b) σ₂ Q):
  TT B n env ns (eval (.BinOp l op r pos) env) σ Q:=
 fun A hA F s R L=>wpAny_BinOp (h.go hA R L fun _ _ _ R₁ L₁ h₁=>h₁.go hA R₁ L₁ fun _ _ s₂ R₂ L₂ h₂=>h₂ A hA F s₂ R₂ L₂)
theorem tt_un{x:Expr}{op:UnaryOp}{pos:Pos}{Q:Value→CS→Prop}(h:TT B n env ns (eval x env) σ fun a σ₁=>TT B n env ns (unaryOp op a) σ₁ Q):TT B n env ns (eval (.UnaryOp op x pos) env) σ Q:=
 fun A hA F s R L=>wpAny_UnaryOp (h.go hA R L fun _ _ s₁ R₁ L₁ h₁=>h₁ A hA F s₁ R₁ L₁)
theorem behind_not{op:CmpOp}{r:Expr}(h:notSet r=true):behindInMarks op r=false:=by induction r using Expr.casesOn <;> first | rfl | cases h
theorem tt_cmp{l r:Expr}{op:CmpOp}{pos:Pos}{Q:Value→CS→Prop}(hr:notSet r=true)(h:TT B n env ns (eval l env) σ fun a σ₁=>TT B n env ns (eval r env) σ₁ fun b σ₂=>TT B n env ns (compareOp op a b) σ₂ Q):
  TT B n env ns (eval (.Compare l [op] [r] pos) env) σ Q:=
 fun A hA F s R L=>wpAny_Compare1 (h.go hA R L fun _ _ _ R₁ L₁ h₁=>h₁.go hA R₁ L₁ fun _ _ s₂ R₂ L₂ h₂=>h₂ A hA F s₂ R₂ L₂) (behind_not hr)
theorem tt_cmpT{l r:Expr}{op:CmpOp}{pos:Pos}{whole:Sem Value}{Q:Bool→CS→Prop}(hr:notSet r=true)
  (h:TT B n env ns (eval l env) σ fun a σ₁=>TT B n env ns (eval r env) σ₁ fun b σ₂=>TT B n env ns (compareOp op a b) σ₂ fun c σ₃=>TT B n env ns (truthy c) σ₃ Q) :
  TT B n env ns (isTrue (.Compare l [op] [r] pos) env whole) σ Q:=
 fun A hA F s R L=>wpAny_isTrue_Compare1 (h.go hA R L fun _ _ _ R₁ L₁ h₁=>h₁.go hA R₁ L₁ fun _ _ _ R₂ L₂ h₂=>h₂.go hA R₂ L₂ fun _ _ s₃ R₃ L₃ h₃=>h₃ A hA F s₃ R₃ L₃) (behind_not hr)
theorem tt_notT{x:Expr}{pos:Pos}{whole:Sem Value}{Q:Bool→CS→Prop}(h:TT B n env ns (isTrue x env (eval x env)) σ fun b σ₁=>Q (!b) σ₁):TT B n env ns (isTrue (.UnaryOp .Not x pos) env whole) σ Q:=
 fun _ hA _ _ R L=>wpAny_isTrue_Not (h.go hA R L fun _ σ₁ _ R₁ L₁ h₁=>⟨σ₁,R₁,L₁,h₁⟩)
theorem tt_boolT{op:BoolOp}{vs:List Expr}{pos:Pos}{whole:Sem Value}{Q:Bool→CS→Prop}(h:TT B n env ns (allTrue op vs env) σ Q):TT B n env ns (isTrue (.BoolOp op vs pos) env whole) σ Q:=
 fun A hA F s R L=>wpAny_isTrue_BoolOp (h A hA F s R L)
theorem tt_and_nil{Q:Bool→CS→Prop}(h:Q true σ):TT B n env ns (allTrue .And [] env) σ Q:=fun _ _ _ _ R L=>wpAny_allTrue_And_nil ⟨σ,R,L,h⟩
theorem tt_or_nil{Q:Bool→CS→Prop}(h:Q false σ):TT B n env ns (allTrue .Or [] env) σ Q:=fun _ _ _ _ R L=>wpAny_allTrue_Or_nil ⟨σ,R,L,h⟩
theorem tt_and_cons{x:Expr}{r:List Expr}{Q:Bool→CS→Prop}(h:TT B n env ns (isTrue x env (eval x env)) σ fun b σ₁=>if b=true then TT B n env ns (allTrue .And r env) σ₁ Q else Q false σ₁):TT B n env ns (allTrue .And (x::r) env) σ Q:=
 fun A hA F s R L=>wpAny_allTrue_And_cons (h.go hA R L fun b σ₁ s₁ R₁ L₁ h₁=>by
  induction b using Bool.casesOn with
  | true=>exact h₁ A hA F s₁ R₁ L₁
  | false=>exact⟨σ₁,R₁,L₁,h₁⟩)
theorem tt_or_cons{x:Expr}{r:List Expr}{Q:Bool→CS→Prop}(h:TT B n env ns (isTrue x env (eval x env)) σ fun b σ₁=>if b=true then Q true σ₁ else TT B n env ns (allTrue .Or r env) σ₁ Q):TT B n env ns (allTrue .Or (x::r) env) σ Q:=
 fun A hA F s R L=>wpAny_allTrue_Or_cons (h.go hA R L fun b σ₁ s₁ R₁ L₁ h₁=>by
  induction b using Bool.casesOn with
  | false=>exact h₁ A hA F s₁ R₁ L₁
  | true=>exact⟨σ₁,R₁,L₁,h₁⟩)
theorem tt_ifexp{t x y:Expr}{pos:Pos}{Q:Value→CS→Prop}(h:TT B n env ns (isTrue t env (eval t env)) σ fun b σ₁=>if b=true then TT B n env ns (eval x env) σ₁ Q else TT B n env ns (eval y env) σ₁ Q):
  TT B n env ns (eval (.IfExp t x y pos) env) σ Q:=
 fun A hA F s R L=>wpAny_IfExp (h.go hA R L fun b σ₁ s₁ R₁ L₁ h₁=>by induction b using Bool.casesOn <;> exact h₁ A hA F s₁ R₁ L₁)
theorem tt_ifexpT{t x y:Expr}{pos:Pos}{whole:Sem Value}{Q:Bool→CS→Prop}(h:TT B n env ns (isTrue t env (eval t env)) σ fun b σ₁=>if b=true then TT B n env ns (isTrue x env (eval x env)) σ₁ Q else TT B n env ns (isTrue y env (eval y env)) σ₁ Q):
  TT B n env ns (isTrue (.IfExp t x y pos) env whole) σ Q:=
 fun A hA F s R L=>by
  show wpAny _ _ (isTrue t env (eval t env) >>= fun b=>if b=true then isTrue x env (eval x env) else isTrue y env (eval y env)) _ _ s
  exact wpAny_bind (h.go hA R L fun b σ₁ s₁ R₁ L₁ h₁=>by induction b using Bool.casesOn <;> exact h₁ A hA F s₁ R₁ L₁)
theorem tt_test{e:Expr}{Q:Bool→CS→Prop}(h:TT B n env ns (eval e env) σ fun v σ₁=>TT B n env ns (truthy v) σ₁ Q)
  (he:isTrue e env (eval e env)=(do let v ← eval e env;standAt e.pos;holding [v] (truthy v))):TT B n env ns (isTrue e env (eval e env)) σ Q:=
 fun A hA F s R L=>wpAny_isTrue_value (h.go hA R L fun _ _ s₁ R₁ L₁ h₁=>h₁ A hA F s₁ R₁ L₁) he
theorem tt_attr{v:Expr}{x:Str}{pos:Pos}{Q:Value→CS→Prop}(hc:notCall v=true)(h:TT B n env ns (eval v env) σ fun o σ₁=>TT B n env ns (getAttr o x true) σ₁ Q):TT B n env ns (eval (.Attribute v x pos) env) σ Q:=
 fun A hA F s R L=>Attribute_any_ (h.go hA R L fun _ _ s₁ R₁ L₁ h₁=>h₁ A hA F s₁ R₁ L₁) (by induction v using Expr.casesOn <;> first | rfl | cases hc)
theorem tt_sub{v k:Expr}{pos:Pos}{Q:Value→CS→Prop}(h:TT B n env ns (eval v env) σ fun o σ₁=>TT B n env ns (eval k env) σ₁ fun i σ₂=>TT B n env ns (subscriptTail v k o i) σ₂ Q):
  TT B n env ns (eval (.Subscript v k pos) env) σ Q:=
 fun A hA F s R L=>Subscript_ (h.go hA R L fun _ _ _ R₁ L₁ h₁=>h₁.go hA R₁ L₁ fun _ _ s₂ R₂ L₂ h₂=>h₂ A hA F s₂ R₂ L₂)
theorem subscripted_not{k:Expr}(h:notSlice k=true)(o i:Value):subscripted k false o i=operate [o,i] (getItem o i):=by induction k using Expr.casesOn <;> first | rfl | cases h
theorem tt_slice{u:Expr}{pos:Pos}{Q:Value→CS→Prop}(h:TT B n env ns (eval u env) σ fun v σ₁=>TT B n env ns (newFields "slice" [.none,v,.none]) σ₁ Q):TT B n env ns (eval (.Slice none (some u) none pos) env) σ Q:=
 fun A hA F s R L=>by
  show wpAny _ _ (pure Value.none >>= fun l=>holding [l] (eval u env) >>= fun v=>holding [l,v] (pure Value.none) >>= fun st=>newFields "slice" [l,v,st]) _ _ s
  refine wpAny_bind (wpAny_pure (wpAny_bind (wpAny_holding (h.go hA R L fun v σ₁ s₁ R₁ L₁ h₁=>?_))))
  exact wpAny_bind (wpAny_holding (wpAny_pure (h₁ A hA F s₁ R₁ L₁)))
theorem tt_list{es:List Expr}{pos:Pos}{Q:Value→CS→Prop}(hs:es.all Au=true)(h:TArgs B n env ns es σ fun vs σ₁=>TT B n env ns (newList vs) σ₁ Q):TT B n env ns (eval (.List es pos) env) σ Q:=
 fun A hA F s R L=>List_ ((tt_spliced hs h).go hA R L fun _ _ s₁ R₁ L₁ h₁=>h₁ A hA F s₁ R₁ L₁)
theorem tt_tup{es:List Expr}{k:Nat}{pos:Pos}{Q:Value→CS→Prop}(hs:es.all Au=true)(h:TArgs B n env ns es σ fun vs σ₁=>TT B n env ns (newTuple vs) σ₁ Q):TT B n env ns (eval (.Tuple es k pos) env) σ Q:=
 fun A hA F s R L=>Tuple_ ((tt_spliced hs h).go hA R L fun _ _ s₁ R₁ L₁ h₁=>h₁ A hA F s₁ R₁ L₁)
theorem tt_dict0{p:Bool}{pos:Pos}{Q:Value→CS→Prop}(q:∀a,σ.heap a=none→Q (.ref a) ⟨σ.vars,σ.heap.put a (if p=true then .dictp [] else .dicti [])⟩):TT B n env ns (eval (.Dict [] [] pos) env) σ Q:=by
 refine HT.lift fun A hA F s R=>wpAny_Dict_empty ?_
 induction p using Bool.casesOn
 ·exact⟨_,R.newDict,q _ R.fresh⟩
 ·exact⟨_,R.newDictp,q _ R.fresh⟩
theorem tt_dict1{x y:Int}{k1 k2:Nat}{p1 p2 pos:Pos}{Q:Value→CS→Prop}(q:∀a,σ.heap a=none→Q (.ref a) ⟨σ.vars,σ.heap.put a (.dicti [(x,.int y)])⟩):
  TT B n env ns (eval (.Dict [some (.Constant (.int x) k1 p1)] [.Constant (.int y) k2 p2] pos) env) σ Q:=by
 refine HT.lift fun A hA F s R=>?_
 refine wpAny_Dict_pairs (knd:=ik B) (pairs:=[(eval (.Constant (.int x) k1 p1) env,do let x ← eval (.Constant (.int y) k2 p2) env;standAt pos;pure x)]) rfl (by simp) (by simp) ?_
 show wpAny _ _ (eval (.Constant (.int x) k1 p1) env >>= fun kv=>holding [kv] (eval (.Constant (.int y) k2 p2) env >>= fun x=>standAt pos >>= fun _=>pure x) >>= fun vv=>holding [kv,vv] (evalPairs []) >>= fun r=>pure ((kv,vv)::r)) _ _ _
 refine wpAny_bind (wpAny_Constant_int (wpAny_bind (wpAny_holding (wpAny_bind (wpAny_Constant_int (wpAny_bind (wpAny_standAt (wpAny_pure (wpAny_bind (wpAny_holding (wpAny_pure ?_)))))))))))
 refine wpAny_pure ⟨[(x,.int y (s.toks+1))],?_,Heap.DictOf.new _,fun h' hd hs=>?_⟩
 ·exact⟨by simp[ik,intKind,Value.isInt],rfl,trivial⟩
 ·refine⟨_,R.newAt (h':=h') (D:=s.heap.objs.size) (fun b o e=>(hs.2 b (Nat.ne_of_lt (Heap.lt_size e))).trans (Heap.get?_push_of_some _ e)) (Bf _) (o:=.dicti [(x,.int y)]) ⟨_,hd,rfl⟩ (fun _ _ _ q=>by cases q),q _ R.fresh⟩
end
end
section
structure Glo (B:Base) (fa:Fn→Addr):Prop where
 base:Base0 B
 ns:∃mg mb,B.s₀.heap.Ns mainGlobals mg∧B.s₀.heap.Ns builtinsNs mb∧∀x:Str,x≠"__name__"→mb x=bootBuiltins x
 gfn:∀f:Fn,f.cl=none→nsIn B.K mainGlobals f.name=some (some (.ref (fa f)))
 gcl:∀c:Cl,nsIn B.K mainGlobals c.name=some (some (.ref (B.cls c)))
 gbf:∀f:BF,nsIn B.K mainGlobals (Str.ofString f.name)=some none
 grange:nsIn B.K mainGlobals (Str.ofString "range")=some none
 gint:∀p∈globs,∃t,nsIn B.K mainGlobals p.1=some (some (.int p.2 t))
 cls:∀c,ClsOk B c
 clsKeep:∀c,keepIn B.K (.ref (B.cls c))=true
 keep:∀f,keepIn B.K (.ref (fa f))=true
 isfn:∀f,isFn B.K (.ref (fa f))=true
 meth:∀f c,f.cl=some c→findIn B.K (.ref (B.cls c)) f.name=some (some (.ref (fa f)))
theorem meth_notAt(f:Fn)(h:f.cl≠none)(a:At):a.name≠f.name:=by
 have key:(f.cl.isNone||At.all.all fun a=>At.name a != f.name)=true:=by induction f using Fn.casesOn <;> kernel_rfl
 rcases(Bool.or_eq_true _ _).mp key with q | q
 ·exact absurd (Option.isNone_iff_eq_none.mp q) h
 ·exact bne_iff_ne.mp (List.all_eq_true.mp q a a.mem_all)
section
variable {B:Base} {fa:Fn→Addr} {n:Nat} {env:Env} {ns:List Str} {σ:CS}
theorem tt_global(g:Glo B fa)(e0:EnvOk env ns){x:Str}{pos:Pos}{v:Value}{Q:Value→CS→Prop}(hx:isGlob env.scope x=true)(hv:nsIn B.K mainGlobals x=some (some v))(q:Q v σ):TT B n env ns (eval (.Name x pos) env) σ Q:=by
 intro A hA F s R L
 simp only[isGlob,Bool.and_eq_true,beq_iff_eq,Bool.not_eq_true'] at hx
 refine B3 g.ns fun mg mb h1 h2 h3=>?_
 refine Calls.Name_function_global e0.kind hx.1 (Calls.loadGlobal_global (by rw[e0.globals];exact h1.keeps R.keeps) (mg_of g.base.kin h1 hv) ⟨σ,R,L,q⟩) hx.2
theorem tt_builtin(g:Glo B fa)(e0:EnvOk env ns){x:Str}{pos:Pos}{v:Value}{Q:Value→CS→Prop}(hx:isGlob env.scope x=true)(hv:nsIn B.K mainGlobals x=some none)(hb:bootBuiltins x=some v)(hn:x≠"__name__")(q:Q v σ):
  TT B n env ns (eval (.Name x pos) env) σ Q:=by
 intro A hA F s R L
 simp only[isGlob,Bool.and_eq_true,beq_iff_eq,Bool.not_eq_true'] at hx
 refine B3 g.ns fun mg mb h1 h2 h3=>?_
 refine Calls.Name_function_global e0.kind hx.1 (Calls.loadGlobal_builtin (by rw[e0.globals];exact h1.keeps R.keeps) (mg_none_of g.base.kin h1 hv) (by rw[e0.builtins];exact h2.keeps R.keeps) ((h3 x hn).trans hb) ⟨σ,R,L,q⟩) hx.2
theorem bf_boot(f:BF):bootBuiltins (Str.ofString f.name)=some f.val∧Str.ofString f.name≠"__name__":=by
 induction f using BF.casesOn <;> exact⟨by decide +kernel,by decide +kernel⟩
theorem range_boot:bootBuiltins (Str.ofString "range")=some (.type "range")∧Str.ofString "range"≠"__name__":=⟨by decide +kernel,by decide +kernel⟩
theorem tt_callName{x:Str}{np pos:Pos}{as:List Expr}{Q:Value→CS→Prop}(h:TT B n env ns (eval (.Name x np) env) σ fun f σ₁=>TT B n env ns (callWith pos f [] (backTo pos (starEach as env)) []) σ₁ Q):
  TT B n env ns (eval (.Call (.Name x np) as [] pos) env) σ Q:=
 fun A hA F s R L=>wpAny_Call_NameR (h.go hA R L fun _ _ s₁ R₁ L₁ h₁=>h₁ A hA F s₁ R₁ L₁)
theorem tt_callK(g:Glo B fa){pos:Pos}{f:Value}{first:List Value}{es:List Expr}{Q:Value→CS→Prop}(hk:keepIn B.K f=true)(hs:es.all Au=true)
  (h:TArgs B n env ns es σ fun vs σ'=>TT B n env ns (call f (first++vs)) σ' Q):TT B n env ns (callWith pos f first (backTo pos (starEach es env)) []) σ Q:=by
 intro A hA F s R L
 refine callWith_of (P:=B.K.In) (by rw[back_any hs];rfl) (keeps_K hk) ((tt_evalArgs (Q:=fun a σ'=>TT B n env ns (call f (first++a.pos) a.kw) σ' Q) (f:=f) hs h).go hA R L fun a σ₁ s₁ R₁ L₁ z=>?_)
 exact⟨R₁.kin g.base,z A hA F s₁ R₁ L₁⟩
theorem looks_machine_type(T:String)(h:Heap){M:Model}:∃k,(k=Keeper.frame∨k=Keeper.machine∨k=Keeper.boundFrame)∧Looks M h (keeperOf (.type T)) k:=
 ⟨.machine,.inr (.inl rfl),Looks.of_pure rfl⟩
theorem tt_callT{pos:Pos}{T:String}{es:List Expr}{Q:Value→CS→Prop}(hs:es.all Au=true)
  (h:TArgs B n env ns es σ fun vs σ'=>TT B n env ns (call (.type T) vs) σ' Q):TT B n env ns (callWith pos (.type T) [] (backTo pos (starEach es env)) []) σ Q:=by
 intro A hA F s R L
 refine callWith_of (P:=fun _=>True) (by rw[back_any hs];rfl) (fun h _=>looks_machine_type T h) ((tt_evalArgs (Q:=fun a σ'=>TT B n env ns (call (.type T) ([]++a.pos) a.kw) σ' Q) (f:=.type T) hs h).go hA R L fun a σ₁ s₁ R₁ L₁ z=>?_)
 exact⟨trivial,z A hA F s₁ R₁ L₁⟩
theorem ht_fn{f:Fn}{vs:List Value}{H:CH}{Q:Value→CH→Prop}(h:FT B fa n f (vs.map cv) H fun c H'=>∀v,cv v=c→Q v H'):HT B n (call (.ref (fa f)) vs) H Q:=by
 intro A hA F s R
 refine wpAny_call (codeAny_mono (h vs rfl A hA F s R) fun r s' z=>?_)
 refine oe z fun v w0_=>?_;refine oa w0_ fun z1_ w1_=>?_;clear w0_;refine oe w1_ fun H' w2_=>?_;clear w1_;refine oa w2_ fun R' q=>?_;clear w2_;subst z1_
 exact⟨H',R',q v rfl⟩
theorem TArgs.mono:∀{es:List Expr} {σ:CS} {P Q:List Value→CS→Prop},TArgs B n env ns es σ P→(∀vs σ',P vs σ'→Q vs σ')→TArgs B n env ns es σ Q
 | [],_,_,_,h,k=>k _ _ h
 | _::r,_,_,_,h,k=>TT.mono h fun _ _ z=>TArgs.mono (es:=r) z fun vs σ' p=>k _ _ p
theorem tt_fnCall(g:Glo B fa)(e0:EnvOk env ns){f:Fn}{x:Str}{np pos:Pos}{as:List Expr}{Q:Value→CS→Prop}(hx:x=f.name)(hc:f.cl=none)(hg:isGlob env.scope x=true)(hs:as.all Au=true)
  (h:TArgs B n env ns as σ fun vs σ₁=>FT B fa n f (vs.map cv) σ₁.heap fun c H=>∀v,cv v=c→Q v ⟨σ₁.vars,H⟩):TT B n env ns (eval (.Call (.Name x np) as [] pos) env) σ Q:=by
 subst hx
 refine tt_callName (tt_global g e0 hg (g.gfn f hc) (tt_callK g (g.keep f) hs ?_))
 exact h.mono fun vs σ₁ q=>HT.lift (ht_fn q)
theorem base_not{v:Expr}{x:Str}{w:Sem Value}(h:notCall v=true):attributeBase v x env w=w:=by induction v using Expr.casesOn <;> first | rfl | cases h
theorem tt_callMeth{v:Expr}{x:Str}{ap pos:Pos}{as:List Expr}{Q:Value→CS→Prop}(hn:notCall v=true)(hl:(ap.endLine==pos.line)=true)(hz:as.length<29)(hs:as.all Au=true)
  (h:TT B n env ns (eval v env) σ fun o σ₁=>TT B n env ns (getMethod o x (do return (← importBound v env).getD true)) σ₁ fun fx σ₂=>TT B n env ns (callWith pos fx.1 fx.2 (backTo pos (starEach as env)) []) σ₂ Q) :
  TT B n env ns (eval (.Call (.Attribute v x ap) as [] pos) env) σ Q:=by
 intro A hA F s R L
 rw[arm_eval_Call,base_not hn]
 have hform:methodCallForm (as.length+([]:List Keyword).length) (backTo pos (starEach as env)) (backToKw pos (keywordEach [] env))=true:=by
  unfold methodCallForm
  rw[back_all hs]
  show(true&&decide (as.length<30))=true
  simp;exact ar532 hz
 have hpos:methodCallPos true v env ap pos=pure pos:=by unfold methodCallPos;simp[hl]
 refine wpAny_bind (h.go hA R L fun o σ₁ s₁ R₁ L₁ h₁=>wpAny_bind (wpAny_standAt ?_))
 unfold methodCall
 rw[hform]
 refine wpAny_bind (wpAny_holding (h₁.go hA R₁ L₁ fun fx σ₂ s₂ R₂ L₂ h₂=>?_))
 exact wpAny_bind (wpAny_of_eq hpos (h₂ A hA F s₂ R₂ L₂))
theorem ht_getMeth(g:Glo B fa){H:CH}{v:Value}{f:Fn}{pl:Sem Bool}{Q:Value × List Value→CH→Prop}(e:∃x c d f',cv v=.ref x∧H x=some (.inst c d f')∧f.cl=some c)(q:Q (.ref (fa f),[v]) H):
  HT B n (getMethod v f.name pl) H Q:=by
 intro A hA F s R
 refine oe4 e fun x c d f' w0_=>?_;refine oa2 w0_ fun e1 e2 e3=>?_;clear w0_
 obtain⟨od,m,es,ep,I,⟨hD,hde,hsk,hf,hsz⟩,hat,hl⟩:=inst_at R e2
 have:=cv_ref e1;subst this
 refine method_fn (R.kin g.base) I (plainGet_of (g.cls c).get).1 (plainGet_of (g.cls c).get).2 (g.meth f c e3) (beq_iff_eq.mp (g.isfn f)) ?_ ⟨H,R,q⟩
 have:m f.name=none:=by
  induction hm:m f.name using Option.casesOn with
  | none=>rfl
  | some w=>
   refine oea (hat.1 _ _ hm) fun a p1 _=>?_
   exact absurd p1 (meth_notAt f (by rw[e3];simp) a)
 show(lookIn f.name od).map _=some false
 rw[hl,this];rfl
theorem ht_cls(g:Glo B fa){H:CH}{c:Cl}{vs:List Value}{Q:Value→CH→Prop}(hn:0<n)
  (h:∀x d,H x=none→FT B fa n.pred c.init (.ref x::vs.map cv) (H.put x (.inst c d fun _=>.undef)) fun r H'=>r=.none∧Q (.ref x) H'):HT B n (call (.ref (B.cls c)) vs) H Q:=by
 intro A hA F s R
 refine wpAny_call ?_
 obtain⟨hh,gg,d,t,os⟩:=s
 have X:=R.kin g.base
 have ck:=g.cls c
 have hi:findIn B.K (.ref (B.cls c)) c.init.name=some (some (.ref (fa c.init))):=g.meth c.init c (by induction c using Cl.casesOn <;> rfl)
 have hnm:c.init.name = "__init__":=by induction c using Cl.casesOn <;> rfl
 rw[hnm] at hi
 refine make_core (makes_of X ck.makes) (looks_findIn X hi) (fun self=>bind_fn X self (beq_iff_eq.mp (g.isfn _))) (.inl rfl) ?_
 have R1:=R.newInst c
 have hfree:H (hh.objs.size+1)=none:=(R.free (by exact size_none hh 1)).1
 have hw:(Code.builtin "type.__call__" ⟨.ref (B.cls c)::vs,[]⟩).weight=1:=by rfl
 have hu:(Code.builtin "type.__call__" ⟨.ref (B.cls c)::vs,[]⟩).cUnits≤4:=by show 1+3*Code.frames _≤4;have:(Code.builtin "type.__call__" ⟨.ref (B.cls c)::vs,[]⟩).frames=0:=(by rfl);rw[this];decide
 have hA':Room n.pred (A.under (.builtin "type.__call__" ⟨.ref (B.cls c)::vs,[]⟩)):=by
  refine⟨hA.1,?_,?_⟩
  ·show A.depth+Code.weight _+2*n.pred<900
   rw[hw];have:=hA.2.1;induction n using Nat.casesOn with | zero=>lia | succ k=>simp;exact ar534 this
  ·show A.units+Code.cUnits _+10*n.pred<9000
   have:=hA.2.2;induction n using Nat.casesOn with | zero=>lia | succ k=>simp;exact ar536 hu this
 refine codeAny_mono (h _ hh.objs.size hfree (.ref (hh.objs.size+1)::vs) rfl _ hA' F _ R1) fun r s' z=>?_
 refine oe z fun v w0_=>?_;refine oa w0_ fun z1_ w1_=>?_;clear w0_;refine oe w1_ fun H' w2_=>?_;clear w1_;refine oa2 w2_ fun R' q1 q2=>?_;clear w2_;subst z1_
 exact⟨cv_none q1,_,R',q2⟩
end
end
section
section
variable {B:Base} {n:Nat} {env:Env} {ns:List Str} {σ:CS} {vars:List CV} {F:Fz} {H:CH} {h h':Heap} {b:Addr}
theorem LcR.off(L:LcR env ns vars F H h)(hs:Heap.ExtBut b h h')(hb:¬ Pl env b):LcR env ns vars F H h':=by
 have k:∀c,Pl env c→∀o,h.get? c=some o→h'.get? c=some o:=fun c p o e=>hs _ _ (fun q=>hb (q▸p)) e
 refine⟨?_,fun x c e=>?_,fun i x v c e1 e2 e3 e4 e5=>?_,L.free,L.inj⟩
 ·obtain⟨m,⟨o,es,ep,g,r⟩,q⟩:=L.loc;exact⟨m,⟨o,es,ep,k _ (.inl rfl) _ g,r⟩,q⟩
 ·refine Be (L.cel x c e) fun ov o g hd=>?_;exact⟨ov,o,k _ (.inr ⟨x,e⟩) _ g,hd⟩
 ·obtain⟨rv,⟨o,g,hd⟩,q⟩:=L.cev i x v c e1 e2 e3 e4 e5;exact⟨rv,⟨o,k _ (.inr ⟨x,e5⟩) _ g,hd⟩,q⟩
theorem LcR.frame(L:LcR env ns vars F H h)(o:Obj)(hb:¬ Pl env b):LcR env ns vars (F.add b o) H h:=
 ⟨L.loc,L.cel,L.cev,fun c p=>⟨by unfold Fz.add;rw[if_neg (fun(q:c=b)=>hb (q▸p))];exact(L.free c p).1,(L.free c p).2⟩,L.inj⟩
theorem LcR.unframe{o:Obj}(L:LcR env ns vars (F.add b o) H h)(hF:F b=none):LcR env ns vars F H h:=
 ⟨L.loc,L.cel,L.cev,fun c p=>⟨by
  have:=(L.free c p).1
  unfold Fz.add at this;split at this
  ·rename_i q;rw[q];exact hF
  ·exact this,(L.free c p).2⟩,L.inj⟩
theorem LcR.fresh{s:Shared}(L:LcR env ns vars F H s.heap)(hb:s.heap.get? b=none):¬ Pl env b:=fun p=>by
 refine oe (L.seen p) fun o e=>?_;rw[hb] at e;cases e
noncomputable def IterAt(h:Heap)(it a:Addr)(i:Nat):CO→Prop
 | .list _=>h.IsListIter it a i
 | .tup _=>h.IsTupleIter it a i
 | .range x y c=>∃l,Bw x y c=some l∧IsRangeIter h it (x+i*c) (l.length-i) c
 | _=>False
theorem IterAt.obj{it a:Addr}{i:Nat}{o:CO}(x:IterAt h it a i o):∃ob,h.get? it=some ob∧ob.cls≠.type "tuple":=by
 induction o using CO.casesOn with
 | list vs=>refine oea2 x fun ob g c _=>?_;exact⟨ob,g,by rw[c];simp⟩
 | tup vs=>refine oea2 x fun ob g c _=>?_;exact⟨ob,g,by rw[c];simp⟩
 | range p q c=>refine oea x fun l _ g=>?_;exact⟨_,g,by simp⟩
 | _=>exact x.elim
theorem IterAt.keep{it a:Addr}{i:Nat}{o:CO}(x:IterAt h it a i o)(k:∀ob,h.get? it=some ob→h'.get? it=some ob):IterAt h' it a i o:=by
 induction o using CO.casesOn with
 | list vs=>refine oea x fun ob g r=>?_;exact⟨ob,k _ g,r⟩
 | tup vs=>refine oea x fun ob g r=>?_;exact⟨ob,k _ g,r⟩
 | range p q c=>refine oea x fun l e g=>?_;exact⟨l,e,k _ g⟩
 | _=>exact x.elim
end
section
variable {B:Base} {n:Nat} {F:Fz} {H:CH} {s:Shared} {A:Around} {E:Value→Shared→Prop}
theorem iter_start{a:Addr}{o:CO}{items:List CV}{X:Value→Shared→Prop}(R:RH B H F s)(e:H a=some o)(hi:Bc o=some items)
  (k:∀ob,IterAt (s.heap.push ob) s.heap.objs.size a 0 o→X (.ref s.heap.objs.size) { s with heap:=s.heap.push ob }) :
  wpAny (model B.prog B.w) A (pyIter (.ref a)) X E s:=by
 induction o using CO.casesOn with
 | list vs=>
  refine Be (R.obj _ _ e) fun its m g _=>?_
  exact wpAny_pyIter_list (IsL_of g) (k _ ⟨_,Heap.get?_push_size _ rfl,rfl,rfl⟩)
 | tup vs=>
  refine Be (R.obj _ _ e) fun its m g _=>?_
  exact wpAny_pyIter_tuple ⟨_,g,rfl,m,rfl⟩ (k _ ⟨_,Heap.get?_push_size _ rfl,rfl,rfl⟩)
 | range x y c=>
  refine oae3 (R.obj _ _ e) fun hr t u v g=>?_
  refine oea (Option.map_eq_some_iff.mp hi) fun l e1 _=>?_
  refine wpAny_pyIter_range g hr (k _ ⟨l,e1,?_⟩)
  have h2:=(range_items e1).2
  have:(s.heap.push { cls:=.type "range_iterator",data:=.fields #[rawInt x,rawInt (Builtin.Range.rangeSize x y c),rawInt c] }).get? s.heap.objs.size=some { cls:=.type "range_iterator",data:=.fields #[rawInt x,rawInt (Builtin.Range.rangeSize x y c),rawInt c] }:=Heap.get?_push_size _ rfl
  simpa[h2] using this
 | _=>cases hi
theorem iter_next{it a:Addr}{i:Nat}{o:CO}{items:List CV}{c:CV}{X:Option Value→Shared→Prop}(R:RH B H F s)(e:H a=some o)(hi:Bc o=some items)(hc:items[i]?=some c)
  (x:IterAt s.heap it a i o) (hn:¬ Own H it) (hF:F it=none)
  (k:∀v h' t,cv v=c→IterAt h' it a (i+1) o→Heap.SameBut it s.heap h'→RH B H F { s with heap:=h',toks:=t }→X (some v) { s with heap:=h',toks:=t }) :
  wpAny (model B.prog B.w) A (pyNext (.ref it)) X E s:=by
 refine oea x.obj fun ob g0 hcls=>?_
 have nt:NotTup s.heap it:=fun ob' e' hc' _ _ _=>by rw[g0] at e';cases e';exact hcls hc'
 have R':∀h' t,Heap.SameBut it s.heap h'→RH B H F { s with heap:=h',toks:=t }:=fun h' t hs=>(R.off hs.extBut hn hF nt).tok t
 induction o using CO.casesOn with
 | list vs=>
  refine Be (R.obj _ _ e) fun its m g mm=>?_
  cases hi
  refine oea (arr_get mm hc) fun v hv z2_=>?_;subst z2_
  exact wpAny_pyNext_list_item x (IsL_of g) hv fun h' hx hs=>k v h' s.toks rfl hx hs (R' _ _ hs)
 | tup vs=>
  refine Be (R.obj _ _ e) fun its m g mm=>?_
  cases hi
  refine oea (arr_get mm hc) fun v hv z2_=>?_;subst z2_
  exact wpAny_pyNext_tuple_item x ⟨_,g,rfl,m,rfl⟩ hv fun h' hx hs=>k v h' s.toks rfl hx hs (R' _ _ hs)
 | range p q st=>
  refine oea x fun l e1 hit=>?_
  refine oea (Option.map_eq_some_iff.mp hi) fun l' e1' z2_=>?_;subst z2_
  rw[e1] at e1';cases e1'
  rw[List.getElem?_map,Option.map_eq_some_iff] at hc
  refine oea hc fun z hz z2_=>?_;subst z2_
  have hlt:=(List.getElem?_eq_some_iff.mp hz).1
  have hz':=(range_items e1).1 i z hz
  subst hz'
  refine wpAny_pyNext_range_item hit (by exact ar537 hlt) fun h' hx hs=>k _ h' (s.toks+1) rfl ⟨l,e1,?_⟩ hs (R' _ _ hs)
  have e2:p+((i+1:Nat):Int)*st=p+i*st+st:=by rw[Int.natCast_add,Int.add_mul];simp;exact ar538
  have e3:((l.length:Int)-((i+1:Nat):Int))=l.length-i-1:=by exact ar539
  rw[e2,e3];exact hx
 | _=>cases hi
theorem iter_end{it a:Addr}{o:CO}{items:List CV}{X:Option Value→Shared→Prop}(hh:A.handled=none)(R:RH B H F s)(e:H a=some o)(hi:Bc o=some items)
  (x:IterAt s.heap it a items.length o) (hn:¬ Own H it) (hF:F it=none)
  (k:∀h',Heap.ExtBut it s.heap h'→RH B H F { s with heap:=h' }→X none { s with heap:=h' }) :
  wpAny (model B.prog B.w) A (pyNext (.ref it)) X E s:=by
 refine oea x.obj fun ob g0 hcls=>?_
 have nt:NotTup s.heap it:=fun ob' e' hc' _ _ _=>by rw[g0] at e';cases e';exact hcls hc'
 induction o using CO.casesOn with
 | list vs=>
  refine Be (R.obj _ _ e) fun its m g mm=>?_
  cases hi
  exact wpAny_pyNext_list_end hh x (IsL_of g) (by rw[Array.getElem?_eq_none];rw[B2 mm];exact Nat.le_refl _) fun h' hs=>k h' hs (R.off hs hn hF nt)
 | tup vs=>
  refine Be (R.obj _ _ e) fun its m g mm=>?_
  cases hi
  exact wpAny_pyNext_tuple_end hh x ⟨_,g,rfl,m,rfl⟩ (by rw[Array.getElem?_eq_none];rw[B2 mm];exact Nat.le_refl _) fun h' hs=>k h' hs (R.off hs hn hF nt)
 | range p q st=>
  refine oea x fun l e1 hit=>?_
  refine oea (Option.map_eq_some_iff.mp hi) fun l' e1' z2_=>?_;subst z2_
  rw[e1] at e1';cases e1'
  rw[List.length_map] at hit
  exact wpAny_pyNext_range_end hh hit (by lia) fun h' hs=>k h' hs (R.off hs hn hF nt)
 | _=>cases hi
theorem fold_not{e:Expr}{env:Env}(h:notSet e=true)(x:Value):foldedSetIterable e env x=pure x:=by induction e using Expr.casesOn <;> first | rfl | cases h
end
end
section
section
variable {B:Base} {n:Nat} {env:Env} {ns:List Str} {σ:CS}
theorem tt_assignName(e0:EnvOk env ns){i:Nat}{x:Str}{px:Pos}{v:Value}(hx:ns[i]?=some x)(hfree:env.kindOf x≠some .free){Q:CS→Prop}(q:Q (σ.set i (cv v))):TT B n env ns (assign (.Name x px) env v) σ fun _=>Q:=
 fun A hA F s R L=>wpAny_assign_Name (B6 e0 hx hfree q A hA F s R L)
theorem tt_for(e0:EnvOk env ns){i:Nat}{x:Str}{px pos:Pos}{z:Expr}{body:List Stmt}{Q:Flow→CS→Prop}(hx:ns[i]?=some x)(hfree:env.kindOf x≠some .free)(hz:notSet z=true)
  (h:TT B n env ns (eval z env) σ fun v σ₁=>∃a o items,v=.ref a∧σ₁.heap a=some o∧Bc o=some items∧∃I:Nat→CS→Prop,I 0 σ₁∧
   (∀j y σ₂,items[j]?=some y→I j σ₂→σ₂.heap a=some o∧TT B n env ns (execs body env) (σ₂.set i y) fun f σ₃=>match f with
    | .next | .cont=>I (j+1) σ₃
    | .brk=>Q .next σ₃
    | .ret v=>Q (.ret v) σ₃)∧
   (∀σ₂,I items.length σ₂→σ₂.heap a=some o∧Q .next σ₂)):TT B n env ns (exec (.For (.Name x px) z body [] pos) env) σ Q:=by
 intro A hA F s R L
 refine wpAny_For (h.go hA R L fun v σ₁ s₁ R₁ L₁ hv=>?_) (fold_not hz)
 refine oe3 hv fun a o items w0_=>?_;refine oa3 w0_ fun z3_ ho hi w1_=>?_;clear w0_;refine oe w1_ fun I w2_=>?_;clear w1_;refine oa2 w2_ fun h0 hturn hend=>?_;clear w2_;subst z3_
 refine iter_start R₁ ho hi fun ob hit=>?_
 generalize hitd:s₁.heap.objs.size=it at hit ⊢
 have hnone:s₁.heap.get? it=none:=hitd▸Bf _
 refine oa2 (R₁.free hnone) fun _ hF hOwn=>?_
 have hPl:=L₁.fresh hnone
 have start:∃j σ₂,items.length=items.length-j∧j≤items.length∧RH B σ₂.heap F { s₁ with heap:=s₁.heap.push ob }∧LcR env ns σ₂.vars F σ₂.heap (s₁.heap.push ob)∧IterAt (s₁.heap.push ob) it a j o∧¬ Own σ₂.heap it∧I j σ₂:=
  ⟨0,σ₁,rfl,Nat.zero_le _,R₁.push ob,L₁.off (b:=it) (fun b o' _ e=>Heap.get?_push_of_some _ e) hPl,hit,hOwn,h0⟩
 refine codeAny_forLoop (fun k s=>∃j σ₂,k=items.length-j∧j≤items.length∧RH B σ₂.heap F s∧LcR env ns σ₂.vars F σ₂.heap s.heap∧IterAt s.heap it a j o∧¬ Own σ₂.heap it∧I j σ₂) ?_ items.length start
 rintro k s₂ ⟨j,σ₂,hk,hj,R₂,L₂,hit₂,hOwn₂,hI⟩
 rcases Nat.lt_or_eq_of_le hj with hlt | heq
 ·have hc:items[j]?=some items[j]:=List.getElem?_eq_getElem hlt
  refine oa (hturn j _ σ₂ hc hI) fun hoa hbody=>?_
  refine iter_next R₂ hoa hi hc hit₂ hOwn₂ hF fun v h' t hcv hit' hs R'=>?_
  refine oea hit'.obj fun ob' hob' _=>?_
  have L':=(L₂.off hs.extBut hPl).frame ob' hPl
  have R'':=RH.freeze (s:={ s₂ with heap:=h',toks:=t }) R' hob' hOwn₂ hF
  refine TT.go (tt_assignName e0 hx hfree (Q:=fun σ'=>σ'=σ₂.set i (cv v)) rfl) hA R'' L' fun _ σ₃ s₃ R₃ L₃ e₃=>?_
  subst e₃
  rw[hcv] at R₃ L₃
  refine hbody.go hA R₃ L₃ fun f σ₄ s₄ R₄ L₄ q=>?_
  have g4:s₄.heap.get? it=some ob':=R₄.fr it ob' (by unfold Fz.add;rw[if_pos rfl])
  have Ow4:¬ Own σ₄.heap it:=R₄.apart it ob' (by unfold Fz.add;rw[if_pos rfl])
  have R5:RH B σ₄.heap F s₄:=R₄.thaw (Fz.add_le hF) R.base
  have L5:=L₄.unframe hF
  have next:I (j+1) σ₄→∃m,m<k∧∃j' σ',m=items.length-j'∧j'≤items.length∧RH B σ'.heap F s₄∧LcR env ns σ'.vars F σ'.heap s₄.heap∧IterAt s₄.heap it a j' o∧¬ Own σ'.heap it∧I j' σ':=
   fun hI'=>⟨items.length-(j+1),by omega,j+1,σ₄,rfl,hlt,R5,L5,hit'.keep fun ob e=>by rw[hob'] at e;cases e;exact g4,Ow4,hI'⟩
  induction f using Flow.casesOn with
  | next=>exact next q
  | cont=>exact next q
  | brk=>exact⟨σ₄,R5,L5,q⟩
  | ret v=>exact⟨σ₄,R5,L5,q⟩
 ·subst heq
  refine oa (hend σ₂ hI) fun hoa hq=>?_
  refine iter_end hA.1 R₂ hoa hi hit₂ hOwn₂ hF fun h' hs R'=>?_
  exact wpAny_execs_nil ⟨σ₂,R',L₂.off hs hPl,hq⟩
theorem tt_while{t:Expr}{body:List Stmt}{pos:Pos}{Q:Flow→CS→Prop}
  (h:∃I:Nat→CS→Prop,(∃m,I m σ)∧∀m σ₁,I m σ₁→TT B n env ns (isTrue t env (eval t env)) σ₁ fun b σ₂=>if b=true then
   TT B n env ns (execs body env) σ₂ fun f σ₃=>match f with
    | .next | .cont=>∃k,k<m∧I k σ₃
    | .brk=>Q .next σ₃
    | .ret v=>Q (.ret v) σ₃ else Q .next σ₂):TT B n env ns (exec (.While t body [] pos) env) σ Q:=by
 obtain⟨I,⟨m,hm⟩,turn⟩:=h
 intro A hA F s R L
 refine wpAny_While (codeAny_whileLoop (fun k s=>∃σ₂,RH B σ₂.heap F s∧LcR env ns σ₂.vars F σ₂.heap s.heap∧I k σ₂) ?_ m ⟨σ,R,L,hm⟩)
 rintro k s₁ ⟨σ₁,R₁,L₁,hI⟩
 refine(turn k σ₁ hI).go hA R₁ L₁ fun b σ₂ s₂ R₂ L₂ hb=>?_
 induction b using Bool.casesOn with
 | true=>
  refine TT.go hb hA R₂ L₂ fun f σ₃ s₃ R₃ L₃ q=>?_
  induction f using Flow.casesOn with
  | next=>refine oea q fun m' h1 h2=>?_;exact⟨m',h1,σ₃,R₃,L₃,h2⟩
  | cont=>refine oea q fun m' h1 h2=>?_;exact⟨m',h1,σ₃,R₃,L₃,h2⟩
  | brk=>exact⟨σ₃,R₃,L₃,q⟩
  | ret v=>exact⟨σ₃,R₃,L₃,q⟩
 | false=>exact wpAny_execs_nil ⟨σ₂,R₂,L₂,hb⟩
theorem tt_if{t:Expr}{a b:List Stmt}{pos:Pos}{Q:Flow→CS→Prop}(h:TT B n env ns (isTrue t env (eval t env)) σ fun c σ₁=>if c=true then TT B n env ns (execs a env) σ₁ Q else TT B n env ns (execs b env) σ₁ Q):
  TT B n env ns (exec (.If t a b pos) env) σ Q:=
 fun A hA F s R L=>wpAny_If (h.go hA R L fun c σ₁ s₁ R₁ L₁ h₁=>by induction c using Bool.casesOn <;> exact h₁ A hA F s₁ R₁ L₁)
theorem tt_cons{a:Stmt}{r:List Stmt}{Q:Flow→CS→Prop}(h:TT B n env ns (exec a env) σ fun f σ₁=>match f with | .next=>TT B n env ns (execs r env) σ₁ Q | f=>Q f σ₁):TT B n env ns (execs (a::r) env) σ Q:=
 fun A hA F s R L=>wpAny_execs_cons (h.go hA R L fun f σ₁ s₁ R₁ L₁ h₁=>by
  induction f using Flow.casesOn <;> first | exact h₁ A hA F s₁ R₁ L₁ | exact⟨σ₁,R₁,L₁,h₁⟩)
theorem tt_nil{Q:Flow→CS→Prop}(h:Q .next σ):TT B n env ns (execs [] env) σ Q:=fun _ _ _ _ R L=>wpAny_execs_nil ⟨σ,R,L,h⟩
theorem tt_ret{e:Expr}{pos:Pos}{Q:Flow→CS→Prop}(h:TT B n env ns (eval e env) σ fun v=>Q (.ret v)):TT B n env ns (exec (.Return (some e) pos) env) σ Q:=
 fun A hA F s R L=>wpAny_Return_some (h A hA F s R L)
theorem tt_ret0{pos:Pos}{Q:Flow→CS→Prop}(h:Q (.ret .none) σ):TT B n env ns (exec (.Return none pos) env) σ Q:=fun _ _ _ _ R L=>wpAny_Return_none ⟨σ,R,L,h⟩
theorem tt_brk{pos:Pos}{Q:Flow→CS→Prop}(h:Q .brk σ):TT B n env ns (exec (.Break pos) env) σ Q:=fun _ _ _ _ R L=>wpAny_Break ⟨σ,R,L,h⟩
theorem swaps_not{v:Expr}{t:Option Expr}{l:Nat}(h:notComp v=true):swapsWith v t l env=pure false:=by induction v using Expr.casesOn <;> first | rfl | cases h
theorem tt_expr(e0:EnvOk env ns){e:Expr}{pos:Pos}{Q:Flow→CS→Prop}(hc:notComp e=true)(h:TT B n env ns (eval e env) σ fun _=>Q .next):TT B n env ns (exec (.Expr e pos) env) σ Q:=
 fun A hA F s R L=>wpAny_Expr_any (h A hA F s R L) (by unfold interactive;rw[e0.kind];rfl) (swaps_not hc)
theorem tt_setv{x:Str}{px pos:Pos}{v:Expr}{Q:Flow→CS→Prop}(hc:notComp v=true)(h:TT B n env ns (eval v env) σ fun w σ₁=>TT B n env ns (storeName env x w) σ₁ fun _=>Q .next):
  TT B n env ns (exec (.Assign [.Name x px] v pos) env) σ Q:=
 fun A hA F s R L=>wpAny_Assign_Name (h.go hA R L fun _ _ s₁ R₁ L₁ h₁=>h₁ A hA F s₁ R₁ L₁) (swaps_not hc)
theorem swapped_none{t v:Expr}(h:isName t=false→True)(ht:notTup t=true):swappedStores [t] v env=pure none:=by
 induction t using Expr.casesOn <;> first | rfl | cases ht
theorem sole_attr{o:Expr}{x:Str}{p:Pos}{v:Expr}{l:Nat}:swapsWithSole [.Attribute o x p] v l env=pure false:=by
 show swapsWith v (some (.Attribute o x p)) l env=pure false
 unfold swapsWith
 induction v using Expr.casesOn <;> rfl
theorem tt_setattr{o v:Expr}{x:Str}{p pos:Pos}{Q:Flow→CS→Prop}(h:TT B n env ns (eval v env) σ fun w σ₁=>TT B n env ns (eval o env) σ₁ fun ov σ₂=>TT B n env ns (setAttr ov x w) σ₂ fun _=>Q .next):
  TT B n env ns (exec (.Assign [.Attribute o x p] v pos) env) σ Q:=by
 intro A hA F s R L
 refine wpAny_Assign_stores (h.go hA R L fun w σ₁ s₁ R₁ L₁ h₁=>?_) sole_attr rfl
 show wpAny _ _ (holding [w] (eval o env) >>= fun ov=>standAt p.atName >>= fun _=>holding [w,ov] (setAttr ov x w) >>= fun _=>release [w,ov] []) _ _ s₁
 refine wpAny_bind (wpAny_holding (h₁.go hA R₁ L₁ fun ov σ₂ s₂ R₂ L₂ h₂=>wpAny_bind (wpAny_standAt (wpAny_bind (wpAny_holding (h₂.go hA R₂ L₂ fun _ σ₃ s₃ R₃ L₃ h₃=>?_))))))
 exact wpAny_release ⟨σ₃,R₃,L₃,h₃⟩
theorem tt_setsub{o k v:Expr}{p pos:Pos}{Q:Flow→CS→Prop}(h:TT B n env ns (eval v env) σ fun w σ₁=>TT B n env ns (eval o env) σ₁ fun ov σ₂=>TT B n env ns (eval k env) σ₂ fun iv σ₃=>TT B n env ns (setItem ov iv w) σ₃ fun _=>Q .next):
  TT B n env ns (exec (.Assign [.Subscript o k p] v pos) env) σ Q:=
 fun A hA F s R L=>wpAny_Assign_Subscript (h.go hA R L fun _ _ _ R₁ L₁ h₁=>h₁.go hA R₁ L₁ fun _ _ _ R₂ L₂ h₂=>h₂.go hA R₂ L₂ fun _ _ s₃ R₃ L₃ h₃=>h₃ A hA F s₃ R₃ L₃) (by unfold swapsWith;induction v using Expr.casesOn <;> rfl)
theorem tt_augv{x:Str}{px pos:Pos}{op:Operator}{v:Expr}{Q:Flow→CS→Prop}(h:TT B n env ns (loadName env x) σ fun old σ₁=>TT B n env ns (eval v env) σ₁ fun w σ₂=>TT B n env ns (inplaceOp op old w) σ₂ fun r σ₃=>TT B n env ns (storeName env x r) σ₃ fun _=>Q .next):
  TT B n env ns (exec (.AugAssign (.Name x px) op v pos) env) σ Q:=
 fun A hA F s R L=>wpAny_AugAssign_Name (h.go hA R L fun _ _ _ R₁ L₁ h₁=>h₁.go hA R₁ L₁ fun _ _ _ R₂ L₂ h₂=>h₂.go hA R₂ L₂ fun _ _ s₃ R₃ L₃ h₃=>h₃ A hA F s₃ R₃ L₃)
theorem aug_not{k:Expr}(h:notSlice k=true)(ov iv new:Value):augStore k ov iv new=(do holding [new,ov,iv] (setItem ov iv new);release [new,ov,iv] [];pure .next):=by induction k using Expr.casesOn <;> first | rfl | cases h
theorem tt_augsub{o k v:Expr}{p pos:Pos}{op:Operator}{Q:Flow→CS→Prop}(hk:notSlice k=true)
  (h:TT B n env ns (eval o env) σ fun ov σ₁=>TT B n env ns (eval k env) σ₁ fun iv σ₂=>TT B n env ns (getItem ov iv) σ₂ fun old σ₃=>TT B n env ns (eval v env) σ₃ fun w σ₄=>TT B n env ns (inplaceOp op old w) σ₄ fun r σ₅=>TT B n env ns (setItem ov iv r) σ₅ fun _=>Q .next) :
  TT B n env ns (exec (.AugAssign (.Subscript o k p) op v pos) env) σ Q:=
 fun A hA F s R L=>wpAny_AugAssign_SubscriptAny (h.go hA R L fun _ _ _ R₁ L₁ h₁=>h₁.go hA R₁ L₁ fun _ _ _ R₂ L₂ h₂=>h₂.go hA R₂ L₂ fun _ _ _ R₃ L₃ h₃=>h₃.go hA R₃ L₃ fun _ _ _ R₄ L₄ h₄=>h₄.go hA R₄ L₄ fun _ _ s₅ R₅ L₅ h₅=>h₅ A hA F s₅ R₅ L₅)
  (aug_not hk)
end
end
section
theorem clos_go{env:Env}:∀(names:List (Str × NameKind)) (cs:List (Str × Addr)),(∀p∈names,p.2=.free→∃a,env.cells.lookup p.1=some a)→
  (∀x a,cs.lookup x=some a→env.cells.lookup x=some a)→
  ∃cl,(forIn names cs (fun(x:Str × NameKind) c=>if x.2==.free then do let a ← cellOf env x.1;pure (ForInStep.yield ((x.1,a)::c)) else pure (ForInStep.yield c)):Sem (List (Str × Addr)))=pure cl∧
   (∀x a,cl.lookup x=some a→env.cells.lookup x=some a)∧(∀x a,cl.lookup x=some a→(cs.lookup x=some a∨(x,NameKind.free)∈names))∧
   (∀x,(cs.lookup x).isSome=true→(cl.lookup x).isSome=true)∧(∀x,(x,NameKind.free)∈names→(cl.lookup x).isSome=true)
 | [],cs,_,h2=>⟨cs,rfl,h2,fun _ _ h=>.inl h,fun _ h=>h,fun _ h=>nomatch h⟩
 | (n,k)::r,cs,h1,h2=>by
  rw[List.forIn_cons]
  by_cases hk:k=.free
  ·subst hk
   refine oe (h1 (n,.free) List.mem_cons_self rfl) fun a ha=>?_
   have hc:cellOf env n=pure a:=by unfold cellOf;rw[ha]
   have h3:∀x b,List.lookup x ((n,a)::cs)=some b→env.cells.lookup x=some b:=by
    intro x b e
    rw[List.lookup_cons] at e
    by_cases hx:x=n
    ·subst hx;simp at e;rw[ha,e]
    ·have:(x==n)=false:=by simpa using hx
     rw[this] at e;exact h2 x b e
   refine oea4 (clos_go r ((n,a)::cs) (fun p hp=>h1 p (List.mem_cons_of_mem _ hp)) h3) fun cl e p1 p2 p3 p4=>?_
   refine⟨cl,?_,p1,fun x b hx=>?_,fun x hx=>p3 x ?_,fun x hx=>?_⟩
   ·simp only[beq_self_eq_true,if_true,hc]
    show(pure (ForInStep.yield ((n,a)::cs)) >>= _:Sem _)=_
    exact e
   ·rcases p2 x b hx with h | h
    ·rw[List.lookup_cons] at h
     by_cases hxn:x=n
     ·subst hxn;exact .inr List.mem_cons_self
     ·have:(x==n)=false:=by simpa using hxn
      rw[this] at h;exact .inl h
    ·exact .inr (List.mem_cons_of_mem _ h)
   ·rw[List.lookup_cons];induction x==n using Bool.casesOn <;> simp[hx]
   ·rcases List.mem_cons.mp hx with h | h
    ·cases h;apply p3;rw[List.lookup_cons];simp
    ·exact p4 x h
  ·have hb:(k==NameKind.free)=false:=by simpa using hk
   refine oea4 (clos_go r cs (fun p hp=>h1 p (List.mem_cons_of_mem _ hp)) h2) fun cl e p1 p2 p3 p4=>?_
   refine⟨cl,?_,p1,fun x b hx=>?_,p3,fun x hx=>?_⟩
   ·simp only[hb,Bool.false_eq_true,if_false]
    show(pure (ForInStep.yield cs) >>= _:Sem _)=_
    exact e
   ·rcases p2 x b hx with h | h
    ·exact .inl h
    ·exact .inr (List.mem_cons_of_mem _ h)
   ·rcases List.mem_cons.mp hx with h | h
    ·cases h;exact absurd rfl hk
    ·exact p4 x h
theorem clos_of{env:Env}{scope:Scope}(h:∀p∈scope.names,p.2=.free→∃a,env.cells.lookup p.1=some a):
  ∃cl,closureFor scope env=pure cl∧(∀x a,cl.lookup x=some a→env.cells.lookup x=some a∧(x,NameKind.free)∈scope.names)∧(∀x,(x,NameKind.free)∈scope.names→cl.lookup x=env.cells.lookup x):=by
 refine oea4 (clos_go scope.names [] h (fun _ _ h=>nomatch h)) fun cl e p1 p2 p3 p4=>?_
 refine⟨cl,?_,fun x a hx=>⟨p1 x a hx,?_⟩,fun x hx=>?_⟩
 ·simp only[closureFor]
  show(forIn scope.names ([]:List (Str × Addr)) _ >>= fun c=>pure c:Sem _)=_
  rw[show(fun(x:Str × NameKind) (c:List (Str × Addr))=>_)=_ from rfl]
  have:∀t:Sem (List (Str × Addr)),(t >>= fun c=>pure c)=t:=fun t=>bind_pure t
  rw[this]
  exact e
 ·rcases p2 x a hx with h | h
  ·cases h
  ·exact h
 ·have:=p4 x hx
  induction hc:cl.lookup x using Option.casesOn with
  | none=>rw[hc] at this;cases this
  | some a=>rw[p1 x a hc]
end
section
set_option tactic.hygienic true
theorem RH.adopt{B:Base}{H:CH}{F:Fz}{s:Shared}{D:Addr}{o:CO}(R:RH B H F s)(hn:¬ Own H D)(hF:F D=none)(ho:OR B s.heap D o)(hi:∀c d f,o≠.inst c d f):RH B (H.put D o) F s:=by
 have hD:H D=none:=by induction e:H D using Option.casesOn with | none=>rfl | some o=>exact absurd (.inl ⟨_,e⟩) hn
 refine⟨fun b p q=>?_,R.fr,fun b p q=>fun z=>R.apart b p q ?_,fun b c d f q=>?_,R.base,R.rest⟩
 ·by_cases z:b=D
  ·subst z;rw[CH.put_self] at q;cases q;exact ho
  ·rw[CH.put_ne _ _ z] at q;exact R.obj _ _ q
 ·rcases z with ⟨x,z⟩ | ⟨x,c,f,z⟩
  ·by_cases y:b=D
   ·rw[y,hF] at q;cases q
   ·rw[CH.put_ne _ _ y] at z;exact .inl ⟨x,z⟩
  ·by_cases y:x=D
   ·subst y;rw[CH.put_self] at z;cases z;exact absurd rfl (hi _ _ _)
   ·rw[CH.put_ne _ _ y] at z;exact .inr ⟨x,c,f,z⟩
 ·by_cases y:b=D
  ·subst y;rw[CH.put_self] at q;cases q;exact absurd rfl (hi _ _ _)
  ·rw[CH.put_ne _ _ y] at q
   refine oa (R.dapart _ _ _ _ q) fun p1 p2=>?_
   have:d≠D:=fun x=>hn (.inr ⟨b,c,f,x▸q⟩)
   refine⟨by rw[CH.put_ne _ _ this];exact p1,fun a' c' f' r=>?_⟩
   by_cases x:a'=D
   ·subst x;rw[CH.put_self] at r;cases r;exact absurd rfl (hi _ _ _)
   ·rw[CH.put_ne _ _ x] at r;exact p2 _ _ _ r
theorem relab_eq{env:Env}(h:env.scope.kind=.function)(inner:Scope):relabel inner env=relab env.scope inner:=by
 unfold relabel relab Env.kindOf
 simp[h]
theorem lookup_map_kind{f:Str→NameKind→NameKind}:∀{names:List (Str × NameKind)} {x:Str} {k:NameKind},names.lookup x=some k→(names.map fun(n,k)=>(n,f n k)).lookup x=some (f x k)
 | [],_,_,h=>by simp at h
 | (n,k)::r,x,k',h=>by
  show List.lookup x ((n,f n k)::_)=_
  rw[List.lookup_cons] at h ⊢
  by_cases hx:x=n
  ·subst hx;simp at h ⊢;rw[h]
  ·have:(x==n)=false:=by simpa using hx
   rw[this] at h ⊢;exact lookup_map_kind h
theorem B7{sc inner:Scope}{x:Str}{k:NameKind}(h:inner.names.lookup x=some k):(relab sc inner).names.lookup x=some (if (k==.free&&sc.names.lookup x==some .cell) then .cell else k):=by
 have e:(relab sc inner).names=inner.names.map fun(n,k)=>(n,(fun n k=>if (k==NameKind.free&&sc.names.lookup n==some NameKind.cell) then NameKind.cell else k) n k):=by
  unfold relab
  apply List.map_congr_left
  rintro⟨n,k⟩ _
  dsimp only
  split <;> rfl
 simp only[e]
 exact lookup_map_kind (f:=fun n k=>if (k==NameKind.free&&sc.names.lookup n==some NameKind.cell) then NameKind.cell else k) h
theorem lookup_mem{l:List (Str × NameKind)}(hn:(l.map (·.1)).Nodup){x:Str}{k:NameKind}(h:(x,k)∈l):l.lookup x=some k:=by
 induction l with
 | nil=>cases h
 | cons p r ih=>
  rw[List.map_cons,List.nodup_cons] at hn
  rw[List.lookup_cons]
  rcases List.mem_cons.mp h with h | h
  ·subst h;simp
  ·have:x≠p.1:=fun e=>hn.1 (e▸List.mem_map_of_mem h)
   have:(x==p.1)=false:=by simpa using this
   rw[this];exact ih hn.2 h
structure CompOk (sc inner:Scope) (ns:List Str) (x:Str) (free:List Nat):Prop where
 kind:inner.kind=.function
 nd:(inner.names.map (·.1)).Nodup
 loc:inner.names.lookup x=some .local
 ndI:(Ar ns x free).Nodup
 dbg:∀y∈Ar ns x free,(y==("__debug__" : Str))=false∧(y==("__classdict__" : Str))=false
 fr:∀i∈free,∃y,ns[i]?=some y∧inner.names.lookup y=some .free∧sc.names.lookup y=some .cell
 all:∀p∈inner.names,p.2=.local∨(p.2=.free∧sc.names.lookup p.1=some .cell∧∃i∈free,ns[i]?=some p.1)
theorem compOk{sc inner:Scope}{ns:List Str}{x:Str}{free:List Nat}(h:compScopeOk sc inner ns x free=true):CompOk sc inner ns x free:=by
 unfold compScopeOk at h
 simp only[Bool.and_eq_true,decide_eq_true_eq,beq_iff_eq,List.all_eq_true,Bool.not_eq_true',Bool.or_eq_true,List.any_eq_true] at h
 obtain⟨⟨⟨⟨⟨⟨h1,h2⟩,h3⟩,h4⟩,h5⟩,h6⟩,h7⟩:=h
 refine⟨h1,h2,h3,h4,h5,fun i hi=>?_,fun p hp=>?_⟩
 ·have:=h6 i hi
  split at this
  ·rename_i y hy
   simp only[Bool.and_eq_true,beq_iff_eq] at this
   exact⟨y,hy,this.1,this.2⟩
  ·cases this
 ·rcases h7 p hp with h | h
  ·exact .inl h
  ·exact .inr ⟨h.1.1,h.1.2,h.2⟩
theorem iter_self{prog:Program}{w:World}{A:Around}{E:Value→Shared→Prop}{s:Shared}{it a:Addr}{i:Nat}{o:CO}(x:IterAt s.heap it a i o){Q:Value→Shared→Prop}(h:Q (.ref it) s):
  wpAny (model prog w) A (pyIter (.ref it)) Q E s:=by
 induction o using CO.casesOn with
 | list vs=>exact wpAny_pyIter_listiter x h
 | tup vs=>exact wpAny_pyIter_tupleiter x h
 | range p q c=>refine oea x fun l _ g=>?_;exact wpAny_pyIter_rangeiter g h
 | _=>exact x.elim
noncomputable def tests(ifs:List Expr)(env:Env):Sem Bool:=forIn ifs true fun c r=>if r=true then do let ok ← isTrue c env (eval c env);pure (ForInStep.yield ok) else pure (ForInStep.yield r)
end
section
section
variable {B:Base} {n:Nat} {env:Env} {ns:List Str} {σ:CS}
theorem compEnv_ok(e0:EnvOk env ns){inner:Scope}{y:Str}{free:List Nat}(k:CompOk env.scope inner ns y free){cl:List (Str × Addr)}{C:Addr}
  (c2:∀x,(x,NameKind.free)∈inner.names→cl.lookup x=env.cells.lookup x):EnvOk (compEnvC inner cl C env) (Ar ns y free):=by
 have hrl:=relab_eq e0.kind inner
 refine⟨?_,e0.globals,e0.builtins,k.ndI,fun x hx=>?_,k.dbg⟩
 ·show(relabel inner env).kind=_;rw[hrl];exact k.kind
 ·show(relabel inner env).names.lookup x=some .local∨(((relabel inner env).names.lookup x=some .cell∨_)∧_)
  rw[hrl]
  rcases List.mem_cons.mp hx with rfl | hx
  ·left;rw[B7 k.loc];rfl
  ·right
   refine oea (List.mem_map.mp hx) fun i hi z2_=>?_;subst z2_
   refine oea2 (k.fr i hi) fun z h1 h2 h3=>?_
   have hz:ns.getD i ("__debug__" : Str)=z:=by rw[List.getD_eq_getElem?_getD,h1];rfl
   rw[hz]
   refine⟨.inl ?_,?_⟩
   ·rw[B7 h2,h3];rfl
   ·have hm:(z,NameKind.free)∈inner.names:=by
     clear hrl
     have:∀(l:List (Str × NameKind)),l.lookup z=some .free→(z,NameKind.free)∈l:=by
      intro l
      induction l with
      | nil=>intro h;cases h
      | cons p r ih=>
       intro h
       rw[List.lookup_cons] at h
       by_cases e:z=p.1
       ·subst e;simp at h;rw[← h];exact List.mem_cons_self
       ·have:(z==p.1)=false:=by simpa using e
        rw[this] at h;exact List.mem_cons_of_mem _ (ih h)
     exact this _ h2
    show ∃c,cl.lookup z=some c
    rw[c2 z hm]
    rcases e0.kinds z (List.mem_of_getElem? h1) with q | ⟨_,q⟩
    ·unfold Env.kindOf at q;rw[h3] at q;cases q
    ·exact q
theorem comp_core(e0:EnvOk env ns){elt z:Expr}{y:Str}{py pos:Pos}{ifs:List Expr}{inner:Scope}{free:List Nat}{cl:List (Str × Addr)}(k:CompOk env.scope inner ns y free)
  (c1:∀x a,cl.lookup x=some a→env.cells.lookup x=some a∧(x,NameKind.free)∈inner.names) (c2:∀x,(x,NameKind.free)∈inner.names→cl.lookup x=env.cells.lookup x)
  {A:Around} (hA:Room n A) {F:Fz} {s:Shared} {a it:Addr} {o:CO} {items:List CV} (R:RH B σ.heap F s) (L:LcR env ns σ.vars F σ.heap s.heap) (hi:Bc o=some items) (hz:items.length≤lim)
  (hit:IterAt s.heap it a 0 o) (hOwn:¬ Own σ.heap it) (hF:F it=none) (hPl:¬ Pl env it) {I:Nat→List CV→CH→Prop} (h0:I 0 [] σ.heap)
  (turn:∀cenv,cenv.scope=relab env.scope inner→EnvOk cenv (Ar ns y free)→∀i x acc H,items[i]?=some x→I i acc H→H a=some o∧
   TT B n cenv (Ar ns y free) (tests ifs cenv) ⟨x::free.map σ.get,H⟩ fun b σ₂=>if b=true then TT B n cenv (Ar ns y free) (eval elt cenv) σ₂ fun w σ₃=>σ₃.vars=x::free.map σ.get∧I (i+1) (acc++[cv w]) σ₃.heap
    else σ₂.vars=x::free.map σ.get∧I (i+1) acc σ₂.heap)
  (hend:∀acc H,I items.length acc H→H a=some o) {RR:Value→Addr→Result→Shared→Prop} {E:Value→Shared→Prop}
  (hRR:∀D C s' acc H m,I items.length acc H→H D=none→RH B (H.put D (.list acc)) F s'→LcR env ns σ.vars F (H.put D (.list acc)) s'.heap→s'.heap.Ns C m→¬ Own (H.put D (.list acc)) C→F C=none→¬ Pl env C→
   RR (.ref D) C (.ok .next) s') :
  wpAny (model B.prog B.w) A (newList []) (fun acc s₃=>wpAny (model B.prog B.w) A (newFunctionEnv inner env.globals cl [] env.qual none .none (some env)) (fun cenv s₄=>
   codeAny (model B.prog B.w) A (.compStart (.ListComp elt [⟨.Name y py,z,ifs,0⟩] inner pos) 0 (.ref it) acc { cenv with scope:=relabel inner env }) (RR acc cenv.locals) s₄) E s₃) E s:=by
 classical
 have hcell:∀p∈inner.names,p.2≠.cell:=fun p hp e=>by
  rcases k.all p hp with q | ⟨q,_⟩ <;> rw[q] at e <;> cases e
 refine wpAny_newObj_type (wpAny_newFunctionEnv hcell (by intro y hy;simp at hy) (fun h₁ hns hsb=>?_) k.kind)
 dsimp only at hns hsb ⊢
 generalize hD:s.heap.objs.size=D at hns hsb ⊢
 generalize hH2:s.heap.push { cls:=.type "list",dict:=none,data:=.seq ([]:List Value).toArray }=H2 at hns hsb ⊢
 generalize hC:H2.objs.size=C at hns hsb ⊢
 have hCD:C=D+1:=by rw[← hC,← hH2,Heap.size_push,hD]
 have hDn:s.heap.get? D=none:=hD▸Bf _
 have hCn:s.heap.get? C=none:=by rw[hCD,← hD];exact size_none _ 1
 refine oa2 (R.free hDn) fun _ hFD hOD=>?_
 refine oa2 (R.free hCn) fun _ hFC hOC=>?_
 have hPD:=L.fresh hDn
 have hPC:=L.fresh hCn
 have hDC:D≠C:=by exact ar541 hCD
 have hitD:it≠D:=fun e=>by refine oea hit.obj fun ob g _=>?_;rw[e,hDn] at g;cases g
 have hitC:it≠C:=fun e=>by refine oea hit.obj fun ob g _=>?_;rw[e,hCn] at g;cases g
 have old:∀b ob,s.heap.get? b=some ob→h₁.get? b=some ob:=fun b ob e=>by
  refine hsb.extBut b ob (fun q=>?_) (Heap.get?_push_of_some _ (hH2▸Heap.get?_push_of_some _ e))
  rw[q,hCn] at e;cases e
 have R1:RH B σ.heap F { s with heap:=h₁,toks:=s.toks+([]:List (Str × Value)).length }:=by
  have Ra:RH B σ.heap F { s with heap:=H2 }:=hH2▸R.push _
  have Rb:=Ra.push { cls:=.type (if (some env).isSome then "dict" else "frame"),data:=.dict #[] }
  have hg:(H2.push { cls:=.type (if (some env).isSome then "dict" else "frame"),data:=.dict #[] }).get? C=some { cls:=.type (if (some env).isSome then "dict" else "frame"),data:=.dict #[] }:=by
   rw[← hC];exact Heap.get?_push_size _ rfl
  exact(Rb.off (b:=C) hsb.extBut hOC hFC (fun ob e _ its q hd=>by rw[hg] at e;cases e;cases hd)).toks _
 have L1:LcR env ns σ.vars F σ.heap h₁:=L.off (b:=C) (fun b ob _ e=>old b ob e) hPC
 have hacc:h₁.PlainList D #[]:=by
  refine⟨0,hsb.extBut _ _ hDC (Heap.get?_push_of_some _ ?_)⟩
  rw[← hH2,← hD];exact Heap.get?_push_size _ rfl
 have hit1:IterAt h₁ it a 0 o:=hit.keep fun ob e=>old _ _ e
 let cenv:Env:=compEnvC inner cl C env
 have ce:EnvOk cenv (Ar ns y free):=compEnv_ok e0 k c2
 have csc:cenv.scope=relab env.scope inner:=relab_eq e0.kind inner
 have hPc:∀b,Pl cenv b→b=C∨Pl env b:=fun b p=>by
  rcases p with p | ⟨x,p⟩
  ·exact .inl p
  ·exact .inr (.inr ⟨x,(c1 x b p).1⟩)
 have hPcD:¬ Pl cenv D:=fun p=>by rcases hPc D p with p | p;exact hDC p;exact hPD p
 have hPcI:¬ Pl cenv it:=fun p=>by rcases hPc it p with p | p;exact hitC p;exact hPl p
 let Fo:Fz:=fun b=>if Pl env b∧¬ Pl cenv b then h₁.get? b else F b
 have FoD:Fo D=none:=by show(if _ then _ else _)=_;rw[if_neg (fun q=>hPD q.1)];exact hFD
 have FoC:Fo C=none:=by show(if _ then _ else _)=_;rw[if_neg (fun q=>hPC q.1)];exact hFC
 have FoI:Fo it=none:=by show(if _ then _ else _)=_;rw[if_neg (fun q=>hPl q.1)];exact hF
 have Fo_in:∀b,Pl env b→¬ Pl cenv b→Fo b=h₁.get? b:=fun b p q=>by show(if _ then _ else _)=_;rw[if_pos ⟨p,q⟩]
 have Fo_le:∀b ob,F b=some ob→Fo b=some ob:=fun b ob e=>by
  show(if _ then _ else _)=_
  rw[if_neg (fun q=>by rw[(L1.free b q.1).1] at e;cases e)];exact e
 have Ro:RH B σ.heap Fo { s with heap:=h₁,toks:=s.toks+([]:List (Str × Value)).length }:=by
  refine⟨R1.obj,fun b ob e=>?_,fun b ob e=>?_,R1.dapart,fun b ob e=>Fo_le b ob (R1.base b ob e),R1.rest⟩
  ·have e:(if _ then _ else _)=_:=e
   split at e
   ·exact e
   ·exact R1.fr b ob e
  ·have e:(if _ then _ else _)=_:=e
   split at e
   ·rename_i q;exact(L1.free b q.1).2
   ·exact R1.apart b ob e
 have hfv:∀(j:Nat) x v,(Ar ns y free)[j+1]?=some x→(free.map σ.get)[j]?=some v→∃i,ns[i]?=some x∧σ.get i=v∧i∈free:=by
  intro j x v h1 h2
  have h1:(free.map fun i=>ns.getD i "__debug__")[j]?=some x:=h1
  rw[List.getElem?_map,Option.map_eq_some_iff] at h1 h2
  refine oea h1 fun i e1 z2_=>?_;subst z2_
  refine oea h2 fun i' e2 z2_=>?_;subst z2_
  rw[e1] at e2;cases e2
  have hm:=List.mem_of_getElem? e1
  refine oea (k.fr i hm) fun z q1 _=>?_
  refine⟨i,?_,rfl,hm⟩
  rw[List.getD_eq_getElem?_getD,q1];rfl
 have Lo:LcR cenv (Ar ns y free) (.undef::free.map σ.get) Fo σ.heap h₁:=by
  refine⟨⟨_,hns,fun i x v e1 e2 e3 e4=>?_⟩,fun x c e=>L1.cel x c (c1 x c e).1,fun i x v c e1 e2 e3 e4 e5=>?_,fun b p=>?_,fun x x' c e e'=>L1.inj x x' c (c1 x c e).1 (c1 x' c e').1⟩
  ·induction i using Nat.casesOn with
   | zero=>simp at e2;exact absurd e2.symm e3
   | succ j=>
    refine oea2 (hfv j x v e1 (by simpa using e2)) fun i q1 q2 q3=>?_
    refine oea2 (k.fr i q3) fun z r1 r2 r3=>?_
    rw[q1] at r1;cases r1
    have:cenv.kindOf x=some .cell:=by show cenv.scope.names.lookup x=_;rw[csc,B7 r2,r3];rfl
    rw[this] at e4;cases e4
  ·induction i using Nat.casesOn with
   | zero=>simp at e2;exact absurd e2.symm e3
   | succ j=>
    refine oea2 (hfv j x v e1 (by simpa using e2)) fun i q1 q2 q3=>?_
    refine oea2 (k.fr i q3) fun z r1 r2 r3=>?_
    rw[q1] at r1;cases r1
    refine L1.cev i x v c q1 (get_of (x:=x) v q2 e3) e3 ?_ (c1 x c e5).1
    unfold Env.kindOf;rw[r3];simp
  ·have hb:Fo b=F b:=by show(if _ then _ else _)=_;rw[if_neg (fun q=>q.2 p)]
   rcases hPc b p with q | q
   ·subst q;exact⟨FoC,hOC⟩
   ·rw[hb];exact L1.free b q
 have hnd:∀i j x,ns[i]?=some x→ns[j]?=some x→i=j:=fun i j x h1 h2=>nodup_at e0.nodup h1 h2
 have loop:codeAny (model B.prog B.w) A (.compLoop (.ListComp elt [⟨.Name y py,z,ifs,0⟩] inner pos) 0 (.ref it) (.ref D) cenv) (RR (.ref D) C) { s with heap:=h₁,toks:=s.toks+([]:List (Str × Value)).length }:=by
  refine codeAny_compLoop_tests (fun m s'=>∃j H acc ys x0,m=items.length-j∧j≤items.length∧acc.length≤j∧RH B H Fo s'∧LcR cenv (Ar ns y free) (x0::free.map σ.get) Fo H s'.heap∧IterAt s'.heap it a j o∧¬ Own H it∧
   s'.heap.PlainList D ys∧ys.toList.map cv=acc∧¬ Own H D∧I j acc H) ?_ items.length ⟨0,σ.heap,[],#[],.undef,rfl,Nat.zero_le _,Nat.le_refl _,Ro,Lo,hit1,hOwn,hacc,rfl,hOD,h0⟩
  rintro m s₂ ⟨j,H,acc,ys,x0,hm,hj,hal,R₂,L₂,hit₂,hOwn₂,hacc₂,hys,hOD₂,hI⟩
  rcases Nat.lt_or_eq_of_le hj with hlt | heq
  ·have hc:items[j]?=some items[j]:=List.getElem?_eq_getElem hlt
   refine oa (turn cenv csc ce j _ acc H hc hI) fun hoa hbody=>?_
   refine iter_next R₂ hoa hi hc hit₂ hOwn₂ FoI fun v h' t hcv hit' hs R'=>?_
   refine oea hit'.obj fun ob' hob' _=>?_
   have hD':h'.PlainList D ys:=hacc₂.at fun ob e=>(hs.2 _ (Ne.symm hitD)).trans e
   refine oe (id hD') fun nD hDo=>?_
   have La:=(L₂.off hs.extBut hPcI).frame ob' hPcI
   have Ra:=RH.freeze (s:={ s₂ with heap:=h',toks:=t }) R' hob' hOwn₂ FoI
   have FaD:(Fo.add it ob') D=none:=by unfold Fz.add;rw[if_neg (Ne.symm hitD)];exact FoD
   have Rb:=RH.freeze (s:={ s₂ with heap:=h',toks:=t }) Ra hDo hOD₂ FaD
   have Lb:=La.frame { cls:=.type "list",data:=.seq ys nD } hPcD
   have hy0:(Ar ns y free)[0]?=some y:=rfl
   have hyf:cenv.kindOf y≠some .free:=by
    show cenv.scope.names.lookup y≠_;rw[csc,B7 k.loc];simp
   refine TT.go (σ:=⟨x0::free.map σ.get,H⟩) (tt_assignName ce hy0 hyf (Q:=fun σ'=>σ'=⟨cv v::free.map σ.get,H⟩) rfl) hA Rb Lb fun _ σ₃ s₃ R₃ L₃ e₃=>?_
   subst e₃
   rw[hcv] at R₃ L₃
   have finish:∀{s₄:Shared} {σ₄:CS} {acc':List CV} {ys':Array Value},RH B σ₄.heap (Fo.add it ob') s₄→LcR cenv (Ar ns y free) σ₄.vars (Fo.add it ob') σ₄.heap s₄.heap→s₄.heap.PlainList D ys'→ys'.toList.map cv=acc'→acc'.length≤acc.length+1→
     ¬ Own σ₄.heap D→σ₄.vars=items[j]::free.map σ.get→I (j+1) acc' σ₄.heap→∃m',m'<m∧∃j' H' acc' ys' x0,m'=items.length-j'∧j'≤items.length∧acc'.length≤j'∧RH B H' Fo s₄∧LcR cenv (Ar ns y free) (x0::free.map σ.get) Fo H' s₄.heap∧IterAt s₄.heap it a j' o∧¬ Own H' it∧
   s₄.heap.PlainList D ys'∧ys'.toList.map cv=acc'∧¬ Own H' D∧I j' acc' H':=by
    intro s₄ σ₄ acc' ys' R₄ L₄ hD₄ hys₄ hlen hO hv hI'
    have g4:s₄.heap.get? it=some ob':=R₄.fr it ob' (by unfold Fz.add;rw[if_pos rfl])
    have Ow4:¬ Own σ₄.heap it:=R₄.apart it ob' (by unfold Fz.add;rw[if_pos rfl])
    have R5:RH B σ₄.heap Fo s₄:=R₄.thaw (Fz.add_le FoI) Ro.base
    have L5:=L₄.unframe FoI
    rw[hv] at L5
    exact⟨items.length-(j+1),by lia,j+1,σ₄.heap,acc',ys',_,rfl,hlt,by exact ar543 hal hlen,R5,L5,hit'.keep fun ob e=>by rw[hob'] at e;cases e;exact g4,Ow4,hD₄,hys₄,hO,hI'⟩
   refine hbody.go hA R₃ L₃ fun ok σ₄ s₄ R₄ L₄ q=>?_
   have gD4:s₄.heap.get? D=some { cls:=.type "list",data:=.seq ys nD }:=R₄.fr D _ (by unfold Fz.add;rw[if_pos rfl])
   have OD4:¬ Own σ₄.heap D:=R₄.apart D { cls:=.type "list",data:=.seq ys nD } (by unfold Fz.add;rw[if_pos rfl])
   induction ok using Bool.casesOn with
   | false=>exact finish (R₄.thaw (Fz.add_le FaD) Ra.base) (L₄.unframe FaD) ⟨nD,gD4⟩ hys (by exact ar544) OD4 q.1 q.2
   | true=>
    simp only[if_true] at q ⊢
    refine TT.go q hA R₄ L₄ fun w σ₅ s₅ R₅ L₅ q=>?_
    have gD5:s₅.heap.get? D=some { cls:=.type "list",data:=.seq ys nD }:=R₅.fr D _ (by unfold Fz.add;rw[if_pos rfl])
    have OD5:¬ Own σ₅.heap D:=R₅.apart D { cls:=.type "list",data:=.seq ys nD } (by unfold Fz.add;rw[if_pos rfl])
    have R6:=R₅.thaw (F:=Fo.add it ob') (Fz.add_le FaD) Ra.base
    have L6:=L₅.unframe FaD
    refine wpAny_list_append_plain ⟨nD,gD5⟩ (fun h6 hD6 hs6=>?_) (by
     have:ys.size=acc.length:=by rw[← hys];simp
     rw[Bt];lia)
    have nt:NotTup s₅.heap D:=fun ob' e' hc' _ _ _=>by rw[gD5] at e';cases e';simp at hc'
    exact finish (σ₄:=σ₅) (R6.off hs6.extBut OD5 FaD nt) (L6.off hs6.extBut hPcD) hD6 (by simp[hys]) (by simp) OD5 q.1 q.2
  ·subst heq
   have hoa:=hend acc H hI
   refine iter_end hA.1 R₂ hoa hi hit₂ hOwn₂ FoI fun h' hs R'=>?_
   have hD':h'.PlainList D ys:=hacc₂.at fun ob e=>hs _ _ (Ne.symm hitD) e
   refine oe (id hD') fun nD hDo=>?_
   have hHD:H D=none:=by induction e:H D using Option.casesOn with | none=>rfl | some o=>exact absurd (.inl ⟨_,e⟩) hOD₂
   have L':=L₂.off hs hPcI
   have Rf:RH B H F { s₂ with heap:=h' }:=R'.thaw Fo_le R.base
   have Rg:=Rf.adopt (D:=D) (o:=.list acc) hOD₂ hFD ⟨ys,nD,hDo,hys⟩ (fun _ _ _ e=>by cases e)
   refine oea L'.loc fun m' hm' _=>?_
   have own:∀b,b≠D→¬ Own H b→¬ Own (H.put D (.list acc)) b:=by
    rintro b hb hO (⟨ob,e⟩ | ⟨x,c,f,e⟩)
    ·rw[CH.put_ne _ _ hb] at e;exact hO (.inl ⟨_,e⟩)
    ·by_cases q:x=D
     ·subst q;rw[CH.put_self] at e;cases e
     ·rw[CH.put_ne _ _ q] at e;exact hO (.inr ⟨_,_,_,e⟩)
   have hOC':¬ Own H C:=(L'.free C (.inl rfl)).2
   have keepOut:∀b,Pl env b→¬ Pl cenv b→∀ob,h₁.get? b=some ob→h'.get? b=some ob∧¬ Own H b:=fun b p q ob e=>
    have hb:Fo b=some ob:=by rw[Fo_in b p q,e]
    ⟨R'.fr b ob hb,R'.apart b ob hb⟩
   have hloc:¬ Pl cenv env.locals:=by
    rintro(p | ⟨x,p⟩)
    ·exact hPC (.inl p.symm)
    ·refine Be (L1.cel x _ (c1 x _ p).1) fun ov ob g hd=>?_
     obtain⟨m,⟨ob',es,ep,g',hd',_⟩,_⟩:=L1.loc
     rw[g] at g';cases g';rw[hd] at hd';cases hd'
   refine hRR D C _ acc H m' hI hHD Rg ?_ hm' (own C (Ne.symm hDC) hOC') hFC hPC
   refine⟨?_,fun x c e=>?_,fun i x v c e1 e2 e3 e4 e5=>?_,fun b p=>⟨(L1.free b p).1,own b (fun q=>hPD (q▸p)) ?_⟩,L1.inj⟩
   ·obtain⟨m,⟨ob,es,ep,g,r⟩,q⟩:=L1.loc
    exact⟨m,⟨ob,es,ep,(keepOut _ (.inl rfl) hloc _ g).1,r⟩,q⟩
   ·by_cases p:Pl cenv c
    ·rcases p with p | ⟨x',p⟩
     ·exact absurd (.inr ⟨x,(show c=C from p)▸e⟩) hPC
     ·exact L'.cel x' c p
    ·refine Be (L1.cel x c e) fun ov ob g hd=>?_
     exact⟨ov,ob,(keepOut c (.inr ⟨x,e⟩) p _ g).1,hd⟩
   ·by_cases p:Pl cenv c
    ·rcases p with p | ⟨x',p⟩
     ·exact absurd (.inr ⟨x,(show c=C from p)▸e5⟩) hPC
     ·have:=L1.inj x x' c e5 (c1 x' c p).1
      subst this
      have hmem:=(c1 x c p).2
      rcases k.all _ hmem with q | ⟨_,q,i',hi',q'⟩
      ·cases q
      ·have:=hnd i i' x e1 q'
       subst this
       refine oe (List.getElem?_of_mem hi') fun j hj'=>?_
       have w1:(Ar ns y free)[j+1]?=some x:=by
        show(free.map fun i=>ns.getD i "__debug__")[j]?=some x
        rw[List.getElem?_map,hj'];simp[List.getD_eq_getElem?_getD,e1]
       have w2:(x0::free.map σ.get)[j+1]?=some v:=by
        show(free.map σ.get)[j]?=some v
        rw[List.getElem?_map,hj'];simp[CS.get,List.getD_eq_getElem?_getD,e2]
       refine L'.cev (j+1) x v c w1 w2 e3 ?_ p
       have hfr:=lookup_mem k.nd hmem
       show cenv.scope.names.lookup x≠_
       rw[csc,B7 hfr,q];simp
    ·obtain⟨rv,⟨ob,g,hd⟩,q⟩:=L1.cev i x v c e1 e2 e3 e4 e5
     exact⟨rv,⟨ob,(keepOut c (.inr ⟨x,e5⟩) p _ g).1,hd⟩,q⟩
   ·by_cases p':Pl cenv b
    ·exact(L'.free b p').2
    ·refine oe (L1.seen p) fun ob g=>?_
     exact(keepOut b p p' _ g).2
 exact codeAny_compStart_list loop (iter_self hit1 loop)
end
end
section
set_option tactic.hygienic true
set_option backward.match.sparseCases true
section
variable {B:Base} {n:Nat} {env:Env} {ns:List Str} {σ:CS}
theorem clos_cells(e0:EnvOk env ns){inner:Scope}{y:Str}{free:List Nat}(k:CompOk env.scope inner ns y free):∀p∈inner.names,p.2=.free→∃a,env.cells.lookup p.1=some a:=by
 intro p hp hf
 rcases k.all p hp with q | ⟨_,q,i,_,hi⟩
 ·rw[hf] at q;cases q
 ·rcases e0.kinds p.1 (List.mem_of_getElem? hi) with r | ⟨_,r⟩
  ·unfold Env.kindOf at r;rw[q] at r;cases r
  ·exact r
theorem comp_names{sc inner:Scope}{y:Str}{free:List Nat}(k:CompOk sc inner ns y free):∀x∈inner.names,x.2=.local→inner.names.lookup x.1=some .local:=by
 intro x hx hl
 obtain⟨a,b⟩:=x
 dsimp only at hl;subst hl
 exact lookup_mem k.nd hx
noncomputable def CompW(B:Base)(n:Nat)(env:Env)(ns:List Str)(elt z:Expr)(y:Str)(ifs:List Expr)(inner:Scope)(free:List Nat)(σ:CS)(Q:Addr→CS→Prop):Prop:=
 TT B n env ns (eval z env) σ fun v σ₁=>∃a o items,v=.ref a∧σ₁.heap a=some o∧Bc o=some items∧items.length≤lim∧
  ∃I:Nat→List CV→CH→Prop,I 0 [] σ₁.heap∧
  (∀cenv,cenv.scope=relab env.scope inner→EnvOk cenv (Ar ns y free)→∀i x acc H,items[i]?=some x→I i acc H→H a=some o∧
   TT B n cenv (Ar ns y free) (tests ifs cenv) ⟨x::free.map σ₁.get,H⟩ fun b σ₂=>if b=true then TT B n cenv (Ar ns y free) (eval elt cenv) σ₂ fun w σ₃=>σ₃.vars=x::free.map σ₁.get∧I (i+1) (acc++[cv w]) σ₃.heap
    else σ₂.vars=x::free.map σ₁.get∧I (i+1) acc σ₂.heap)∧
  (∀acc H,I items.length acc H→H a=some o∧∀d,H d=none→Q d ⟨σ₁.vars,H.put d (.list acc)⟩)
theorem tt_comp(e0:EnvOk env ns){elt z:Expr}{y:Str}{py pos:Pos}{ifs:List Expr}{inner:Scope}{free:List Nat}{Q:Value→CS→Prop}
  (hsc:compScopeOk env.scope inner ns y free=true) (hz:notSet z=true) (h:CompW B n env ns elt z y ifs inner free σ fun d=>Q (.ref d)) :
  TT B n env ns (eval (.ListComp elt [⟨.Name y py,z,ifs,0⟩] inner pos) env) σ Q:=by
 intro A hA F s R L
 have k:=compOk hsc
 refine oea2 (clos_of (clos_cells e0 k)) fun cl hcl c1 c2=>?_
 simp only[eval_ListComp]
 refine wpAny_comprehension_free (use:=none) rfl (fold_not hz) hcl k.kind (comp_names k) (TT.go h hA R L fun v σ₁ s₁ R₁ L₁ hv=>?_)
 refine oe3 hv fun a o items w0_=>?_;refine oa4 w0_ fun z3_ ho hi hlen w1_=>?_;clear w0_;refine oe w1_ fun I w2_=>?_;clear w1_;refine oa2 w2_ fun h0 hturn hend=>?_;clear w2_;subst z3_
 refine iter_start R₁ ho hi fun ob hit=>?_
 have hnone:=Bf s₁.heap
 refine oa2 (R₁.free hnone) fun _ hF hOwn=>?_
 have hPl:=L₁.fresh hnone
 have L2:LcR env ns σ₁.vars F σ₁.heap (s₁.heap.push ob):=L₁.off (b:=s₁.heap.objs.size) (fun b o' _ e=>Heap.get?_push_of_some _ e) hPl
 refine comp_core (RR:=fun acc C=>compPost (model B.prog B.w) A (fun _ _=>False) none _ acc C) e0 k c1 c2 hA (R₁.push ob) L2 hi hlen hit hOwn hF hPl h0 hturn (fun acc H hI=>(hend acc H hI).1) ?_
 intro D C s' acc H m hI hD R' L' hm hO hFC hPC
 refine⟨m,hm,fun h' hs=>⟨_,R'.off hs.extBut hO hFC (ns_notTup hm),L'.off hs.extBut hPC,(hend acc H hI).2 D hD⟩⟩
theorem swaps_yes(e0:EnvOk env ns){elt:Expr}{gens:List Comprehension}{inner:Scope}{vp px:Pos}{x:Str}{l:Nat}(h1:env.scope.names.lookup x=some .local)(h2:px.line=vp.line)
  (h3:(inner.names.any fun(n,k)=>n==x&&(k==.local||k==.cell))=false):swapsWith (.ListComp elt gens inner vp) (some (.Name x px)) l env=pure true:=by
 have hb:env.blockKind=.function:=by unfold Env.blockKind;rw[e0.kind];rfl
 unfold swapsWith
 have:env.kindOf x=some .local:=h1
 show(pure (env.blockKind==.function&&env.kindOf x==some .local&&px.line==vp.line && !(inner.names.any fun(n,k)=>n==x&&(k==.local||k==.cell))):Sem Bool)=_
 rw[hb,this,h2,h3];simp
theorem tt_asgComp(e0:EnvOk env ns){elt z:Expr}{x y:Str}{px py cp pos:Pos}{ifs:List Expr}{inner:Scope}{free:List Nat}{i:Nat}{Q:Flow→CS→Prop}
  (hsc:compScopeOk env.scope inner ns y free=true) (hz:notSet z=true) (hx:ns[i]?=some x) (h1:env.scope.names.lookup x=some .local) (h2:px.line=cp.line)
  (h3:(inner.names.any fun(n,k)=>n==x&&(k==.local||k==.cell))=false) (h:CompW B n env ns elt z y ifs inner free σ fun d σ'=>Q .next (σ'.set i (.ref d))) :
  TT B n env ns (exec (.Assign [.Name x px] (.ListComp elt [⟨.Name y py,z,ifs,0⟩] inner cp) pos) env) σ Q:=by
 intro A hA F s R L
 have k:=compOk hsc
 refine oea2 (clos_of (clos_cells e0 k)) fun cl hcl c1 c2=>?_
 rw[exec_Assign_Name_used _ _ _ _ (swaps_yes e0 h1 h2 h3)]
 refine wpAny_bind (wpAny_standAt (wpAny_bind ?_))
 show wpAny _ A (do let _ ← comprehension (.ListComp elt [⟨.Name y py,z,ifs,0⟩] inner cp) inner env _ (newList []) false (eval z env) (some (assign (.Name x px) env))) _ _ s
 refine wpAny_bind (wpAny_mono (wpAny_comprehension_free (use:=some (assign (.Name x px) env)) (Q:=fun _ s'=>∃σ',RH B σ'.heap F s'∧LcR env ns σ'.vars F σ'.heap s'.heap∧Q .next σ') rfl (fold_not hz) hcl k.kind (comp_names k)
  (TT.go h hA R L fun v σ₁ s₁ R₁ L₁ hv=>?_)) (fun _ s' hq=>wpAny_pure (wpAny_pure hq)) fun _ _ e=>e)
 refine oe3 hv fun a o items w0_=>?_;refine oa4 w0_ fun z3_ ho hi hlen w1_=>?_;clear w0_;refine oe w1_ fun I w2_=>?_;clear w1_;refine oa2 w2_ fun h0 hturn hend=>?_;clear w2_;subst z3_
 refine iter_start R₁ ho hi fun ob hit=>?_
 have hnone:=Bf s₁.heap
 refine oa2 (R₁.free hnone) fun _ hF hOwn=>?_
 have hPl:=L₁.fresh hnone
 have L2:LcR env ns σ₁.vars F σ₁.heap (s₁.heap.push ob):=L₁.off (b:=s₁.heap.objs.size) (fun b o' _ e=>Heap.get?_push_of_some _ e) hPl
 refine comp_core (RR:=fun acc C=>compPost (model B.prog B.w) A (fun _ _=>False) (some (assign (.Name x px) env)) _ acc C) e0 k c1 c2 hA (R₁.push ob) L2 hi hlen hit hOwn hF hPl h0 hturn (fun acc H hI=>(hend acc H hI).1) ?_
 intro D C s' acc H m hI hD R' L' hm hO hFC hPC
 show wpAny _ A (assign (.Name x px) env (.ref D)) _ _ _
 refine oe3a (id hm) fun co es ep hco r=>?_
 have Rf:=R'.freeze hco hO hFC
 have Lf:=L'.frame co hPC
 have hfree:env.kindOf x≠some .free:=by show env.scope.names.lookup x≠_;rw[h1];simp
 refine TT.go (σ:=⟨σ₁.vars,H.put D (.list acc)⟩) (tt_assignName e0 hx hfree (Q:=fun σ'=>σ'=CS.set ⟨σ₁.vars,H.put D (.list acc)⟩ i (.ref D)) rfl) hA Rf Lf fun _ σ₃ s₃ R₃ L₃ e₃=>?_
 subst e₃
 have g3:s₃.heap.get? C=some co:=R₃.fr C co (by unfold Fz.add;rw[if_pos rfl])
 have O3:¬ Own (H.put D (.list acc)) C:=R₃.apart C co (by unfold Fz.add;rw[if_pos rfl])
 have R4:=R₃.thaw (Fz.add_le hFC) R'.base
 have L4:=L₃.unframe hFC
 have hm3:s₃.heap.Ns C m:=⟨co,es,ep,g3,r⟩
 exact⟨m,hm3,fun h' hs=>⟨_,R4.off hs.extBut O3 hFC (ns_notTup hm3),L4.off hs.extBut hPC,(hend acc H hI).2 D hD⟩⟩
theorem unpack_at{A:Around}(hh:A.handled=none){F:Fz}{H:CH}{s:Shared}{a:Addr}{vs:List CV}(R:RH B H F s)(e:H a=some (.tup vs)){Q:List Value→Shared→Prop}{E:Value→Shared→Prop}
  (h:∀its s',its.map cv=vs→RH B H F s'→(∀b ob,s.heap.get? b=some ob→s'.heap.get? b=some ob)→Q its s'):wpAny (model B.prog B.w) A (unpackItems (.ref a) vs.length none) Q E s:=by
 refine Be (R.obj _ _ e) fun its m g mm=>?_
 have hl:its.size=vs.length:=B2 mm
 rw[← hl]
 have hnone:=Bf s.heap
 refine oa2 (R.free hnone) fun _ hF hOwn=>?_
 refine wpAny_unpackItems_tuple hh ⟨_,g,rfl,m,rfl⟩ fun h' hs=>h _ _ mm (R.off hs hOwn hF (fun ob e=>by rw[hnone] at e;cases e)) fun b ob e=>hs _ _ (fun q=>by rw[q,hnone] at e;cases e) e
theorem assignEach_cons{e:Expr}(r:List Expr)(h:Au e=true):assignEach (e::r) env=(false,assign e env)::assignEach r env:=by
 induction e using Expr.casesOn <;> first | rfl | cases h
theorem assignEach_star:∀{es:List Expr},es.all Au=true→(assignEach es env).findIdx? (·.1)=none∧(assignEach es env).length=es.length
 | [],_=>⟨rfl,rfl⟩
 | e::r,h=>by
  rw[List.all_cons,Bool.and_eq_true] at h
  rw[assignEach_cons r h.1]
  refine oa (assignEach_star (es:=r) h.2) fun p q=>?_
  exact⟨by rw[List.findIdx?_cons];simp[p],by simp[q]⟩
theorem LcR.keeps{vars:List CV}{F:Fz}{H:CH}{h h':Heap}(L:LcR env ns vars F H h)(k:∀b ob,h.get? b=some ob→h'.get? b=some ob):LcR env ns vars F H h':=by
 refine⟨?_,fun x c e=>?_,fun i x v c e1 e2 e3 e4 e5=>?_,L.free,L.inj⟩
 ·obtain⟨m,⟨o,es,ep,g,r⟩,q⟩:=L.loc;exact⟨m,⟨o,es,ep,k _ _ g,r⟩,q⟩
 ·refine Be (L.cel x c e) fun ov o g hd=>?_;exact⟨ov,o,k _ _ g,hd⟩
 ·obtain⟨rv,⟨o,g,hd⟩,q⟩:=L.cev i x v c e1 e2 e3 e4 e5;exact⟨rv,⟨o,k _ _ g,hd⟩,q⟩
theorem fm_lt{f:Expr→Option Str}(hf:∀e,isName e=false→f e=none):∀l:List Expr,(l.any fun a=>!isName a)=true→(l.filterMap f).length<l.length:=by
 intro l
 induction l with
 | nil=>intro h;cases h
 | cons e r ih=>
  intro h
  have hr:(r.filterMap f).length≤r.length:=List.length_filterMap_le ..
  by_cases he:isName e=true
  ·simp only[List.any_cons,Bool.or_eq_true] at h
   have:=ih (h.resolve_left (by simp[he]))
   induction q:f e using Option.casesOn with
   | none=>rw[List.filterMap_cons_none q];exact Nat.lt_succ_of_lt this
   | some y=>rw[List.filterMap_cons_some q];exact Nat.succ_lt_succ this
  ·rw[List.filterMap_cons_none (hf e (by simpa using he))];exact Nat.lt_succ_of_le hr
theorem tt_unpackStmt{as:List Expr}{tk:Nat}{v:Expr}{tp pos:Pos}{Q:Flow→CS→Prop}(hc:notComp v=true)(hs:as.all Au=true)(hw:(notTup v||as.any fun a=>!isName a)=true)
  (h:TT B n env ns (eval v env) σ fun w σ₁=>∃a vs,w=.ref a∧σ₁.heap a=some (.tup vs)∧vs.length=as.length∧∀its:List Value,its.map cv=vs→TT B n env ns (assignInOrder ((assignEach as env).map (·.2)) its) σ₁ fun _=>Q .next) :
  TT B n env ns (exec (.Assign [.Tuple as tk tp] v pos) env) σ Q:=by
 intro A hA F s R L
 have hsw:swapsWithSole [.Tuple as tk tp] v pos.line env=pure false:=by
  show swapsWith v (some (.Tuple as tk tp)) pos.line env=pure false
  unfold swapsWith
  induction v using Expr.casesOn <;> rfl
 have key:swappedStores [.Tuple as tk tp] v env=pure none:=by
  simp only[Bool.or_eq_true] at hw
  rcases hw with hw | hw
  ·induction v using Expr.casesOn <;> first | rfl | cases hw
  ·have hlen:∀f:Expr→Option Str,(∀e,isName e=false→f e=none)→(as.filterMap f).length≠as.length:=fun f hf=>Nat.ne_of_lt (fm_lt hf as hw)
   induction v using Expr.casesOn with
   | Tuple vs vk vp=>
    unfold swappedStores
    dsimp only
    split
    ·rfl
    ·split
     ·rfl
     ·refine if_pos ?_
      rw[Bool.or_eq_true];left
      exact bne_iff_ne.mpr (hlen _ fun e he=>by induction e using Expr.casesOn <;> first | rfl | exact absurd he nofun)
   | _=>rfl
 refine Assign_Tuple (TT.go h hA R L fun w σ₁ s₁ R₁ L₁ hv=>?_) hsw key
 refine oe2 hv fun a vs w0_=>?_;refine oa3 w0_ fun z2_ e hl hx=>?_;clear w0_;subst z2_
 simp only[arm_assign_Tuple]
 refine wpAny_bind (wpAny_standAt ?_)
 unfold unpack
 refine oa (assignEach_star (env:=env) hs) fun p q=>?_
 simp only[p,q,← hl]
 refine wpAny_bind (wpAny_holding (unpack_at hA.1 R₁ e fun its s' hm R' k=>?_))
 exact TT.go (hx its hm) hA R' (L₁.keeps k) fun _ σ₂ s₂ R₂ L₂ q=>⟨σ₂,R₂,L₂,q⟩
end
end
section
section
variable {B:Base} {n:Nat} {env:Env} {ns:List Str} {σ:CS}
theorem RH.forget{H:CH}{F:Fz}{s:Shared}{D:Addr}{o:CO}(R:RH B (H.put D o) F s)(hD:H D=none):RH B H F s:=by
 have up:∀b p,H b=some p→(H.put D o) b=some p:=fun b p e=>by
  rw[CH.put_ne];exact e
  intro q;rw[q,hD] at e;cases e
 have own:∀b,Own H b→Own (H.put D o) b:=by
  rintro b (⟨p,e⟩ | ⟨x,c,f,e⟩)
  ·exact .inl ⟨p,up _ _ e⟩
  ·exact .inr ⟨x,c,f,up _ _ e⟩
 refine⟨fun b p q=>R.obj _ _ (up _ _ q),R.fr,fun b p q z=>R.apart b p q (own _ z),fun a c d f q=>?_,R.base,R.rest⟩
 refine oa (R.dapart _ _ _ _ (up _ _ q)) fun p1 p2=>?_
 refine⟨?_,fun a' c' f' e=>p2 _ _ _ (up _ _ e)⟩
 induction e:H d using Option.casesOn with
 | none=>rfl
 | some o'=>rw[up _ _ e] at p1;cases p1
theorem LcR.forget{vars:List CV}{F:Fz}{H:CH}{h:Heap}{D:Addr}{o:CO}(L:LcR env ns vars F (H.put D o) h)(hD:H D=none):LcR env ns vars F H h:=by
 have up:∀b p,H b=some p→(H.put D o) b=some p:=fun b p e=>by
  rw[CH.put_ne];exact e
  intro q;rw[q,hD] at e;cases e
 refine⟨L.loc,L.cel,L.cev,fun b p=>⟨(L.free b p).1,?_⟩,L.inj⟩
 rintro(⟨p',e⟩ | ⟨x,c,f,e⟩)
 ·exact(L.free b p).2 (.inl ⟨p',up _ _ e⟩)
 ·exact(L.free b p).2 (.inr ⟨x,c,f,up _ _ e⟩)
noncomputable def swapNames(env:Env)(ln:Nat)(a b:Str)(pa pb:Pos):List Str:=[Expr.Name a pa,Expr.Name b pb].filterMap fun
  | .Name id pos=>if (env.kindOf id==some .local&&pos.line==ln)=true then some id else none
  | _=>none
theorem swapNames_eq{env:Env}{a b:Str}{pa pb:Pos}(ka:env.kindOf a=some .local)(kb:env.kindOf b=some .local)(hl:pa.line=pb.line):swapNames env pa.line a b pa pb=[a,b]:=by
 have h1:(env.kindOf a==some .local&&pa.line==pa.line)=true:=by rw[ka];simp
 have h2:(env.kindOf b==some .local&&pb.line==pa.line)=true:=by rw[kb,hl];simp
 exact(List.filterMap_cons_some (by exact if_pos h1)).trans (congrArg (a :: ·) (List.filterMap_cons_some (by exact if_pos h2)))
theorem swap_stores(e0:EnvOk env ns){a b:Str}{pa pb pc pd tp vp:Pos}{tk vk:Nat}(ha:env.scope.names.lookup a=some .local)(hb:env.scope.names.lookup b=some .local)(hab:a≠b)(hl:pa.line=pb.line)
  (hda:(a==("__debug__" : Str))=false):swappedStores [.Tuple [.Name a pa,.Name b pb] tk tp] (.Tuple [.Name b pc,.Name a pd] vk vp) env=pure (some [a,b]):=by
 have hbk:env.blockKind=.function:=by unfold Env.blockKind;rw[e0.kind];rfl
 have ka:env.kindOf a=some .local:=ha
 have kb:env.kindOf b=some .local:=hb
 refine(if_neg ?_).trans ((if_neg nofun).trans ((if_neg ?_).trans ((if_neg nofun).trans ((if_neg ?_).trans ?_))))
 ·show ¬ (false||env.blockKind != .function)=true
  rw[hbk];nofun
 ·show ¬ ((swapNames env pa.line a b pa pb).length != 2||(swapNames env pa.line a b pa pb).eraseDups.length != (swapNames env pa.line a b pa pb).length)=true
  rw[swapNames_eq ka kb hl]
  have:(b==a)=false:=beq_eq_false_iff_ne.mpr fun e=>hab e.symm
  simp[List.eraseDups_cons,this]
 ·exact fun h=>Bn h fun _ h=>Bn h fun h _=>ff (hda.symm.trans h)
 ·exact congrArg (fun x=>(pure (some x):Sem _)) (swapNames_eq ka kb hl)
theorem tt_swap(e0:EnvOk env ns){i j:Nat}{a b:Str}{pa pb pc pd tp vp pos:Pos}{tk vk:Nat}{Q:Flow→CS→Prop}(hi:ns[i]?=some a)(hj:ns[j]?=some b)
  (ha:env.scope.names.lookup a=some .local) (hb:env.scope.names.lookup b=some .local) (hab:a≠b) (hl:pa.line=pb.line) (di:σ.get i≠.undef) (dj:σ.get j≠.undef)
  (q:Q .next ((σ.set j (σ.get i)).set i (σ.get j))):TT B n env ns (exec (.Assign [.Tuple [.Name a pa,.Name b pb] tk tp] (.Tuple [.Name b pc,.Name a pd] vk vp) pos) env) σ Q:=by
 intro A hA F s R L
 have fa:env.kindOf a≠some .free:=by show env.scope.names.lookup a≠_;rw[ha];simp
 have fb:env.kindOf b≠some .free:=by show env.scope.names.lookup b≠_;rw[hb];simp
 refine Assign_Tuple_swapped (names:=[a,b]) (TT.go (tt_tup (es:=[.Name b pc,.Name a pd]) (by rfl) (Q:=fun w σ'=>∃D,w=.ref D∧σ.heap D=none∧σ'=⟨σ.vars,σ.heap.put D (.tup [σ.get j,σ.get i])⟩)
  (tt_Name e0 hj dj fun v1 h1=>tt_Name e0 hi di fun v2 h2=>HT.lift (ht_newTup (by simp[Ab]) fun D hD=>⟨D,rfl,hD,by simp[h1,h2]⟩))) hA R L fun w σ₁ s₁ R₁ L₁ hw=>?_) rfl
  (swap_stores e0 ha hb hab hl (e0.dbg a (List.mem_of_getElem? hi)).1)
 refine oea2 hw fun D z1_ hD z3_=>?_;subst z1_;subst z3_
 have hDo:(σ.heap.put D (.tup [σ.get j,σ.get i])) D=some (.tup [σ.get j,σ.get i]):=CH.put_self ..
 refine unpack_at (vs:=[σ.get j,σ.get i]) hA.1 R₁ hDo fun its s' hm R' k=>?_
 have L':=L₁.keeps k
 refine B3 (two_of hm) fun v1 v2 z2_ h1 h2=>?_;subst z2_
 have R2:=R'.forget hD
 have L2:=L'.forget hD
 show wpAny _ _ (do holding [v1] (bindName env b v2);assignInOrder [bindName env a] [v1]) _ _ s'
 refine wpAny_bind (wpAny_holding (bindName_ (TT.go (σ:=σ) (B6 e0 hj fb (Q:=fun σ'=>σ'=σ.set j (σ.get i)) (by rw[h2])) hA R2 L2 fun _ σ₃ s₃ R₃ L₃ e₃=>?_)))
 subst e₃
 show wpAny _ _ (do holding [] (bindName env a v1);assignInOrder [] []) _ _ s₃
 refine wpAny_bind (wpAny_holding (bindName_ (TT.go (B6 e0 hi fa (Q:=fun σ'=>σ'=(σ.set j (σ.get i)).set i (σ.get j)) (by rw[h1])) hA R₃ L₃ fun _ σ₄ s₄ R₄ L₄ e₄=>?_)))
 subst e₄
 exact wpAny_pure ⟨_,R₄,L₄,q⟩
end
end
section
set_option tactic.hygienic true
theorem RV.go_mono{r:RV}{H:CH}{P Q:CV→CH→Prop}(h:r.go H P)(k:∀c H',P c H'→Q c H'):r.go H Q:=by
 induction r using RV.casesOn with
 | v c=>exact k _ _ h
 | new o=>exact fun a ha=>k _ _ (h a ha)
 | upd c a o=>exact k _ _ h
theorem ht_iaddG{B:Base}{n:Nat}{H:CH}{x y:Value}{a:CV}{c:Int}{Q:Value→CH→Prop}(ha:cv x=a)(e:binV .Add H a (cv y)=some (.v (.int c)))(q:∀v,cv v=.int c→Q v H):HT B n (inplaceOp .Add x y) H Q:=by
 intro A hA F s R
 induction a using CV.casesOn with
 | int i=>
  refine Exists.elim (cv_int ha) fun t ht=>obI e fun j u z w=>?_
  subst ht;subst z;cases w
  exact PySem.AutoIntOps.iadd_0 ⟨H,R.tok _,q _ rfl⟩
 | ref p=>exact R.lsA e fun its k h g e=>obR e fun a z e=>R.lsA e fun its k h g e=>oif e fun hz w=>nomatch w
 | _=>exact ofn e
theorem ht_iadd{B:Base}{n:Nat}{H:CH}{x y:Value}{c:Int}{Q:Value→CH→Prop}(e:binV .Add H (cv x) (cv y)=some (.v (.int c)))(q:∀v,cv v=.int c→Q v H):HT B n (inplaceOp .Add x y) H Q:=ht_iaddG rfl e q
theorem testOf{B:Base}{n:Nat}{env:Env}{ns:List Str}{σ:CS}{x:Expr}{Q:CV→CS→Prop}(h:TT B n env ns (eval x env) σ fun v σ'=>σ'.vars=σ.vars∧fin true Q (cv v) σ')
  (he:isTrue x env (eval x env)=(do let v ← eval x env;standAt x.pos;holding [v] (truthy v))):TT B n env ns (isTrue x env (eval x env)) σ fun b σ'=>σ'.vars=σ.vars∧Q (.bool b) σ':=
 tt_test (h.mono fun v σ' ⟨hv,zo⟩=>have ⟨b,hb,q⟩:=Opt.ex zo;HT.lift (ht_truth hb ⟨hv,q⟩)) he
theorem TArgs.ev{B:Base}{n:Nat}{env:Env}{ns:List Str}{σ:CS}{es:List Expr}{P Q:List Value→CS→Prop}(h:TArgs B n env ns es σ P)(k:∀vs σ',P vs σ'→Q vs σ'):TArgs B n env ns es σ Q:=h.mono k
end
section
section
variable {B:Base} {fa:Fn→Addr} {n:Nat}
noncomputable def SE(B:Base)(fa:Fn→Addr)(n:Nat)(e:IE):Prop:=∀{x:Expr} {env:Env} {ns:List Str} {σ:CS} {Q:CV→CS→Prop},EnvOk env ns→mE env.scope ns e x=true→WE B fa n e false σ Q→
 TT B n env ns (eval x env) σ fun v σ'=>σ'.vars=σ.vars∧Q (cv v) σ'
noncomputable def ST(B:Base)(fa:Fn→Addr)(n:Nat)(e:IE):Prop:=∀{x:Expr} {env:Env} {ns:List Str} {σ:CS} {Q:CV→CS→Prop},EnvOk env ns→mE env.scope ns e x=true→WE B fa n e true σ Q→
 TT B n env ns (isTrue x env (eval x env)) σ fun b σ'=>σ'.vars=σ.vars∧Q (.bool b) σ'
noncomputable def SLs(B:Base)(fa:Fn→Addr)(n:Nat)(es:List IE):Prop:=∀{xs:List Expr} {env:Env} {ns:List Str} {σ:CS} {Q:List CV→CS→Prop},EnvOk env ns→mL env.scope ns es xs=true→WL B fa n es σ Q→
 TArgs B n env ns xs σ fun vs σ'=>σ'.vars=σ.vars∧Q (vs.map cv) σ'
noncomputable def SAs(B:Base)(fa:Fn→Addr)(n:Nat)(es:List IE):Prop:=∀{xs:List Expr} {env:Env} {ns:List Str} {σ:CS} {Q:CV→CS→Prop},EnvOk env ns→mL env.scope ns es xs=true→WA B fa n es σ Q→
 TT B n env ns (allTrue .And xs env) σ (fun b σ'=>σ'.vars=σ.vars∧Q (.bool b) σ')∧TT B n env ns (tests xs env) σ (fun b σ'=>σ'.vars=σ.vars∧Q (.bool b) σ')
noncomputable def SOs(B:Base)(fa:Fn→Addr)(n:Nat)(es:List IE):Prop:=∀{xs:List Expr} {env:Env} {ns:List Str} {σ:CS} {Q:CV→CS→Prop},EnvOk env ns→mL env.scope ns es xs=true→WO B fa n es σ Q→
 TT B n env ns (allTrue .Or xs env) σ fun b σ'=>σ'.vars=σ.vars∧Q (.bool b) σ'
theorem s_int(i:Int):SE B fa n (.int i):=by
 intro x env ns σ Q e0 hm h
 refine inE_k hm fun j a p hm=>?_
 have:=eq_of_beq hm;subst this;exact tt_int fun v hv=>⟨rfl,hv▸h⟩
theorem s_attr{e:IE}{a:At}(g:Glo B fa)(ih:SE B fa n e):SE B fa n (.attr e a):=by
 intro x env ns σ Q e0 hm h
 refine atE_k hm fun v nm p hm=>an3k hm fun h1 h2 h3=>?_
 have h1:=eq_of_beq h1;subst h1
 exact tt_attr h2 ((ih e0 h3 h).mono fun w σ₁ z=>Opt.exk z.2 fun r hr q=>HT.lift (ht_getAttr g.base g.cls hr fun v' hv'=>⟨z.1,hv'▸q⟩))
theorem s_call{es:List IE}{f:Fn}(g:Glo B fa)(ih:SLs B fa n es):SE B fa n (.fn f es):=by
 intro x env ns σ Q e0 hm h
 refine clN_k hm fun x q as p hm=>an5k hm fun h1 h2 h3 h4 h5=>?_
 exact tt_fnCall g e0 (eq_of_beq h1) (eq_of_beq h2) h3 h4 ((ih e0 h5 h).mono fun vs σ₁ z=>z.2.mono (Nat.le_refl _) fun r H hq v hv'=>⟨z.1,hv'▸hq⟩)
end
end
section
section
variable {B:Base} {fa:Fn→Addr} {n:Nat}
noncomputable def plainX:Expr→Bool
 | .UnaryOp .Not _ _ | .BoolOp .. | .IfExp .. | .Compare ..=>false
 | _=>true
theorem plain_he{x:Expr}{env:Env}(h:plainX x=true):isTrue x env (eval x env)=(do let v ← eval x env;standAt x.pos;holding [v] (truthy v)):=by
 induction x using Expr.casesOn with
 | UnaryOp op _ _=>induction op using UnaryOp.casesOn with
  | Not=>exact ff h
  | _=>rfl
 | BoolOp=>exact ff h
 | IfExp=>exact ff h
 | Compare=>exact ff h
 | _=>rfl
noncomputable def plainI:IE→Bool
 | .not _ | .and _ | .or _ | .ite .. | .cmp ..=>false
 | _=>true
theorem plain_of{e:IE}{x:Expr}{sc:Scope}{ns:List Str}(h:plainI e=true)(hm:mE sc ns e x=true):plainX x=true:=by
 induction e using IE.casesOn with
 | int=>exact inE_k hm fun _ _ _ _=>rfl
 | bool=>exact csE_k hm fun _ _ _ _=>rfl
 | none=>exact csE_k hm fun _ _ _ _=>rfl
 | var=>exact nmE_k hm fun _ _ _=>rfl
 | glob=>exact nmE_k hm fun _ _ _=>rfl
 | attr=>exact atE_k hm fun _ _ _ _=>rfl
 | sub=>exact sbE_k hm fun _ _ _ _=>rfl
 | upto=>exact sbE_k hm fun _ _ _ _=>rfl
 | bin=>exact biE_k hm fun _ _ _ _ _=>rfl
 | neg=>exact unE_k hm fun o y p h=>Bn h fun h _=>isU_k (P:=fun o=>plainX (.UnaryOp o y p)=true) h rfl
 | fn=>exact clN_k hm fun _ _ _ _ _=>rfl
 | cls=>exact clN_k hm fun _ _ _ _ _=>rfl
 | mth=>exact clA_k hm fun _ _ _ _ _ _=>rfl
 | bf=>exact clN_k hm fun _ _ _ _ _=>rfl
 | bm=>exact clA_k hm fun _ _ _ _ _ _=>rfl
 | list=>exact liE_k hm fun _ _ _=>rfl
 | tup=>exact tpE_k hm fun _ _ _ _=>rfl
 | dict0=>exact diE_k hm fun _ _ _ _=>rfl
 | dict1=>exact diE_k hm fun _ _ _ _=>rfl
 | range=>exact clN_k hm fun _ _ _ _ _=>rfl
 | comp=>exact lcE_k hm fun _ _ _ _ _=>rfl
 | _=>exact ff h
theorem st_plain{e:IE}(hp:plainI e=true)(ih:SE B fa n e)(hw:∀σ Q,WE B fa n e true σ Q→WE B fa n e false σ (fin true Q)):ST B fa n e:=by
 intro x env ns σ Q e0 hm h
 exact testOf (ih e0 hm (hw _ _ h)) (plain_he (plain_of hp hm))
theorem s_bool(b:Bool):SE B fa n (.bool b):=by
 intro x env ns σ Q e0 hm h
 refine csE_k hm fun c k p hm=>boC_k (P:=fun c=>TT B n env ns (eval (.Constant c k p) env) σ fun v σ'=>σ'.vars=σ.vars∧Q (cv v) σ') hm fun d hm=>?_
 have:=eq_of_beq hm;subst this;exact tt_bool ⟨rfl,h⟩
theorem s_none:SE B fa n .none:=by
 intro x env ns σ Q e0 hm h
 exact csE_k hm fun c k p hm=>noC_k (f:=true) (P:=fun c=>TT B n env ns (eval (.Constant c k p) env) σ fun v σ'=>σ'.vars=σ.vars∧Q (cv v) σ') hm (tt_none ⟨rfl,h⟩)
theorem s_var(i:Nat):SE B fa n (.var i):=by
 intro x env ns σ Q e0 hm h
 exact nmE_k hm fun x p hm=>tt_Name e0 (eq_of_beq hm) (Def.ex h).1 fun v hv=>⟨rfl,hv▸(Def.ex h).2⟩
theorem s_glob(g:Glo B fa)(x:Str)(i:Int):SE B fa n (.glob x i):=by
 intro x env ns σ Q e0 hm h
 refine nmE_k hm fun y p hm=>an3k hm fun h1 h2 h3=>?_
 have h1:=eq_of_beq h1;subst h1
 exact Exists.elim (g.gint _ (List.contains_iff_mem.mp h3)) fun t ht=>tt_global g e0 h2 ht ⟨rfl,h⟩
theorem s_sub{e i:IE}(g:Glo B fa)(ih:SE B fa n e)(ih2:SE B fa n i):SE B fa n (.sub e i):=by
 intro x env ns σ Q e0 hm h
 exact sbE_k hm fun v k p hm=>an3k hm fun h1 h2 h3=>tt_sub ((ih e0 h2 h).mono fun w σ₁ z=>(ih2 e0 h3 z.2).mono fun u σ₂ y=>Opt.exk y.2 fun r hr q=>HT.lift (ht_subTail g.base hr (fun v' hv'=>⟨y.1.trans z.1,hv'▸q⟩) (subscripted_not h1)))
theorem s_upto{e u:IE}(g:Glo B fa)(ih:SE B fa n e)(ih2:SE B fa n u):SE B fa n (.upto e u):=by
 intro x env ns σ Q e0 hm h
 refine sbE_k hm fun v k p hm=>slE_k (P:=fun k=>TT B n env ns (eval (.Subscript v k p) env) σ fun v σ'=>σ'.vars=σ.vars∧Q (cv v) σ') hm fun a b c sp hm=>an3k hm fun h1 h2 h3=>?_
 refine noneE_k (P:=fun a=>TT B n env ns (eval (.Subscript v (.Slice a b c sp) p) env) σ fun v σ'=>σ'.vars=σ.vars∧Q (cv v) σ') h1 (noneE_k (P:=fun c=>TT B n env ns (eval (.Subscript v (.Slice none b c sp) p) env) σ fun v σ'=>σ'.vars=σ.vars∧Q (cv v) σ') h2 (B1 (P:=fun b=>TT B n env ns (eval (.Subscript v (.Slice none b none sp) p) env) σ fun v σ'=>σ'.vars=σ.vars∧Q (cv v) σ') h3 fun b hm=>Bn hm fun h1 h2=>?_))
 intro A hA F s R L
 refine Subscript_ (TT.go (ih e0 h1 h) hA R L fun o σ₁ s₁ R₁ L₁ q=>?_)
 show wpAny _ _ (pure Value.none >>= fun l=>holding [l] (eval b env) >>= fun v=>holding [l,v] (pure Value.none) >>= fun st=>newFields "slice" [l,v,st]) _ _ s₁
 refine wpAny_bind (wpAny_pure (wpAny_bind (wpAny_holding (TT.go (ih2 e0 h2 q.2) hA R₁ L₁ fun k σ₂ s₂ R₂ L₂ q₂=>Opt.exk q₂.2 fun r hr qq=>?_))))
 refine wpAny_bind (wpAny_holding (wpAny_pure ?_))
 exact wpAny_mono (sliceW (Q:=fun v H'=>Q (cv v) ⟨σ₂.vars,H'⟩) g.base hr (RV.go_mono qq fun c H' hq v' hv'=>hv'▸hq) (frz_RH R₂ L₂)) (fun i s₃ z=>wpAny_mono z (fun w s₄ z=>Exists.elim z fun H' z=>⟨⟨σ₂.vars,H'⟩,(frz_back R₂ L₂ z.1).1,(frz_back R₂ L₂ z.1).2,q₂.1.trans q.1,z.2⟩) fun _ _ z=>z.elim) fun _ _ z=>z.elim
theorem s_bin{o:Operator}{a b:IE}(g:Glo B fa)(ih:SE B fa n a)(ih2:SE B fa n b):SE B fa n (.bin o a b):=by
 intro x env ns σ Q e0 hm h
 refine biE_k hm fun l op r p hm=>an3k hm fun h1 h2 h3=>?_
 have h1:=eq_of_beq h1;subst h1
 exact tt_bin ((ih e0 h2 h).mono fun w σ₁ z=>(ih2 e0 h3 z.2).mono fun u σ₂ y=>Opt.exk y.2 fun r hr q=>HT.lift (ht_bin g.base hr (RV.go_mono q fun c H' hq v' hv'=>⟨y.1.trans z.1,hv'▸hq⟩)))
theorem s_neg{a:IE}(ih:SE B fa n a):SE B fa n (.neg a):=by
 intro x env ns σ Q e0 hm h
 exact unE_k hm fun o y p hm=>Bn hm fun h1 h2=>isU_k (P:=fun o=>TT B n env ns (eval (.UnaryOp o y p) env) σ fun v σ'=>σ'.vars=σ.vars∧Q (cv v) σ') h1 (tt_un ((ih e0 h2 h).mono fun w σ₁ z=>Opt.exk z.2 fun r hr q=>HT.lift (ht_neg hr fun v' hv'=>⟨z.1,hv'▸q⟩)))
theorem s_not{a:IE}:SE B fa n (.not a):=fun _ _ h=>nomatch h
theorem t_not{a:IE}(ih:ST B fa n a):ST B fa n (.not a):=by
 intro x env ns σ Q e0 hm h
 exact unE_k hm fun o y p hm=>Bn hm fun h1 h2=>isN_k (P:=fun o=>TT B n env ns (isTrue (.UnaryOp o y p) env (eval (.UnaryOp o y p) env)) σ fun b σ'=>σ'.vars=σ.vars∧Q (.bool b) σ') h1 (tt_notT (ih e0 h2 h))
theorem s_cmp{o:CmpOp}{a b:IE}(g:Glo B fa)(ih:SE B fa n a)(ih2:SE B fa n b):SE B fa n (.cmp o a b):=by
 intro x env ns σ Q e0 hm h
 refine cp1_k hm fun l op r p hm=>an4k hm fun h0 h1 h2 h3=>?_
 have h0:=eq_of_beq h0;subst h0
 exact tt_cmp h1 ((ih e0 h2 h).mono fun w σ₁ z=>(ih2 e0 h3 z.2).mono fun u σ₂ y=>Opt.exk y.2 fun r hr q=>HT.lift (ht_cmp g.base hr ⟨y.1.trans z.1,q⟩))
theorem t_cmp{o:CmpOp}{a b:IE}(g:Glo B fa)(ih:SE B fa n a)(ih2:SE B fa n b):ST B fa n (.cmp o a b):=by
 intro x env ns σ Q e0 hm h
 refine cp1_k hm fun l op r p hm=>an4k hm fun h0 h1 h2 h3=>?_
 have h0:=eq_of_beq h0;subst h0
 exact tt_cmpT h1 ((ih e0 h2 h).mono fun w σ₁ z=>(ih2 e0 h3 z.2).mono fun u σ₂ y=>Opt.exk y.2 fun r hr q=>HT.lift (ht_cmp g.base hr (HT.lift (σ:=σ₂) (env:=env) (ns:=ns) (ht_truth (b:=r) rfl ⟨y.1.trans z.1,q⟩))))
theorem s_and{es:List IE}:SE B fa n (.and es):=fun _ _ h=>nomatch h
theorem s_or{es:List IE}:SE B fa n (.or es):=fun _ _ h=>nomatch h
theorem t_and{es:List IE}(ih:SAs B fa n es):ST B fa n (.and es):=by
 intro x env ns σ Q e0 hm h
 refine boE_k hm fun op vs p hm=>Bn hm fun h1 h2=>?_
 induction op using BoolOp.casesOn with
 | And=>exact tt_boolT (ih e0 h2 h).1
 | Or=>exact ff h1
theorem t_or{es:List IE}(ih:SOs B fa n es):ST B fa n (.or es):=by
 intro x env ns σ Q e0 hm h
 refine boE_k hm fun op vs p hm=>Bn hm fun h1 h2=>?_
 induction op using BoolOp.casesOn with
 | Or=>exact tt_boolT (ih e0 h2 h)
 | And=>exact ff h1
theorem s_ite{c a b:IE}(ihc:ST B fa n c)(ia:SE B fa n a)(ib:SE B fa n b):SE B fa n (.ite c a b):=by
 intro x env ns σ Q e0 hm h
 refine ifE_k hm fun t y z p hm=>an3k hm fun h1 h2 h3=>tt_ifexp ((ihc e0 h1 h).mono fun w σ₁ z=>?_)
 induction w using Bool.casesOn with
 | true=>exact(ia e0 h2 z.2).mono fun v σ₂ y=>⟨y.1.trans z.1,y.2⟩
 | false=>exact(ib e0 h3 z.2).mono fun v σ₂ y=>⟨y.1.trans z.1,y.2⟩
theorem t_ite{c a b:IE}(ihc:ST B fa n c)(ia:ST B fa n a)(ib:ST B fa n b):ST B fa n (.ite c a b):=by
 intro x env ns σ Q e0 hm h
 refine ifE_k hm fun t y z p hm=>an3k hm fun h1 h2 h3=>tt_ifexpT ((ihc e0 h1 h).mono fun w σ₁ z=>?_)
 induction w using Bool.casesOn with
 | true=>exact(ia e0 h2 z.2).mono fun v σ₂ y=>⟨y.1.trans z.1,y.2⟩
 | false=>exact(ib e0 h3 z.2).mono fun v σ₂ y=>⟨y.1.trans z.1,y.2⟩
end
end
section
section
variable {B:Base} {fa:Fn→Addr} {n:Nat}
theorem s_cls{c:Cl}{es:List IE}(g:Glo B fa)(ih:SLs B fa n es):SE B fa n (.cls c es):=by
 intro x env ns σ Q e0 hm h
 refine clN_k hm fun x q as p hm=>an4k hm fun h1 h3 h4 h5=>?_
 have h1:=eq_of_beq h1;subst h1
 exact tt_callName (tt_global g e0 h3 (g.gcl c) (tt_callK g (g.clsKeep c) h4 ((ih e0 h5 h).mono fun vs σ₁ z=>HT.lift (ht_cls g z.2.1 fun x d hx=>(z.2.2 x d hx).mono (Nat.le_refl _) fun r H y=>⟨y.1,z.1,y.2⟩))))
theorem s_mth{o:IE}{f:Fn}{es:List IE}(g:Glo B fa)(iho:SE B fa n o)(ih:SLs B fa n es):SE B fa n (.mth o f es):=by
 intro x env ns σ Q e0 hm h
 refine clA_k hm fun v x ap as p hm=>an7k hm fun h1 h2 h3 h4 h5 h6 h7=>?_
 have h1:=eq_of_beq h1;subst h1
 exact tt_callMeth h2 h3 (of_decide_eq_true h4) h5 ((iho e0 h6 h).mono fun w σ₁ z=>HT.lift (ht_getMeth g z.2.1 (tt_callK g (g.keep f) h5 ((ih e0 h7 z.2.2).mono fun vs σ₂ y=>
  HT.lift (ht_fn (y.2.mono (Nat.le_refl _) fun r H hq v hv'=>⟨y.1.trans z.1,hv'▸hq⟩))))))
theorem s_bf{f:BF}{e:IE}(g:Glo B fa)(ih:SE B fa n e):SE B fa n (.bf f e):=by
 intro x env ns σ Q e0 hm h
 refine clN_k hm fun x q as p hm=>an3k hm fun h1 h2 h3=>?_
 have h1:=eq_of_beq h1;subst h1
 refine one1_k (P:=fun as=>TT B n env ns (eval (.Call (.Name (Str.ofString f.name) q) as [] p) env) σ fun v σ'=>σ'.vars=σ.vars∧Q (cv v) σ') h3 fun a hm=>Bn hm fun h3 h4=>?_
 have hs:[a].all Au=true:=by rw[List.all_cons,h3];rfl
 have args:TArgs B n env ns [a] σ fun vs σ'=>TT B n env ns (call f.val ([]++vs)) σ' fun v σ''=>σ''.vars=σ.vars∧Q (cv v) σ'':=
  (ih e0 h4 h).mono fun w σ₁ z=>Opt.exk z.2 fun r hr q=>HT.lift (ht_bf g.base hr (RV.go_mono q fun c H' hq v' hv'=>⟨z.1,hv'▸hq⟩))
 refine tt_callName (tt_builtin g e0 h2 (g.gbf f) (bf_boot f).1 (bf_boot f).2 ?_)
 induction f using BF.casesOn with
 | len=>exact tt_callB hs args
 | abs=>exact tt_callB hs args
 | sorted=>exact tt_callB hs args
 | list=>exact tt_callT hs args
 | tuple=>exact tt_callT hs args
theorem s_bm{o:IE}{m:BM}{es:List IE}(g:Glo B fa)(iho:SE B fa n o)(ih:SLs B fa n es):SE B fa n (.bm o m es):=by
 intro x env ns σ Q e0 hm h
 refine clA_k hm fun v x ap as p hm=>an7k hm fun h1 h2 h3 h4 h5 h6 h7=>?_
 have h1:=eq_of_beq h1;subst h1
 exact tt_callMeth h2 h3 (of_decide_eq_true h4) h5 ((iho e0 h6 h).mono fun w σ₁ z=>HT.lift (ht_bmGet z.2.1 (tt_callB (first:=[w]) h5 ((ih e0 h7 z.2.2).mono fun vs σ₂ y=>Opt.exk y.2 fun r hr q=>
  HT.lift (ht_bmCall g.base hr (RV.go_mono q fun c H' hq v' hv'=>⟨y.1.trans z.1,hv'▸hq⟩))))))
theorem map_len{vs:List Value}{k:Nat}(h:(vs.map cv).length≤k):vs.length≤k:=by simpa using h
theorem s_list{es:List IE}(ih:SLs B fa n es):SE B fa n (.list es):=by
 intro x env ns σ Q e0 hm h
 exact liE_k hm fun as p hm=>Bn hm fun h1 h2=>tt_list h1 ((ih e0 h2 h).mono fun vs σ₁ z=>HT.lift (ht_newList (map_len z.2.1) fun a ha=>⟨z.1,z.2.2 a ha⟩))
theorem s_tup{es:List IE}(ih:SLs B fa n es):SE B fa n (.tup es):=by
 intro x env ns σ Q e0 hm h
 exact tpE_k hm fun as k p hm=>Bn hm fun h1 h2=>tt_tup h1 ((ih e0 h2 h).mono fun vs σ₁ z=>HT.lift (ht_newTup (map_len z.2.1) fun a ha=>⟨z.1,z.2.2 a ha⟩))
theorem s_dict0{p:Bool}:SE B fa n (.dict0 p):=by
 intro x env ns σ Q e0 hm h
 exact diE_k hm fun ks vs p' hm=>Bn hm fun h1 h2=>nilE_k (P:=fun ks=>TT B n env ns (eval (.Dict ks vs p') env) σ fun v σ'=>σ'.vars=σ.vars∧Q (cv v) σ') h1 (nilE_k (P:=fun vs=>TT B n env ns (eval (.Dict [] vs p') env) σ fun v σ'=>σ'.vars=σ.vars∧Q (cv v) σ') h2 (tt_dict0 fun a ha=>⟨rfl,h a ha⟩))
theorem d1_eq{x:Expr}{k v:Int}(hm:d1E x (fun x y=>k==x&&v==y)=true):∃a1 a2 b1 b2 p,x = .Dict [some (.Constant (.int k) a1 a2)] [.Constant (.int v) b1 b2] p:=
 d1E_k hm fun x a1 a2 y b1 b2 p hm=>Bn hm fun h1 h2=>⟨a1,a2,b1,b2,p,by rw[eq_of_beq h1,eq_of_beq h2]⟩
theorem s_dict1{k v:Int}:SE B fa n (.dict1 k v):=by
 intro x env ns σ Q e0 hm h
 refine oe5 (d1_eq hm) fun a1 a2 b1 b2 p hx=>?_
 rw[hx]
 exact tt_dict1 fun a ha=>⟨rfl,h a ha⟩
theorem s_range{es:List IE}(g:Glo B fa)(ih:SLs B fa n es):SE B fa n (.range es):=by
 intro x env ns σ Q e0 hm h
 refine clN_k hm fun x q as p hm=>an4k hm fun h1 h2 h4 h5=>?_
 have h1:=eq_of_beq h1;subst h1
 exact tt_callName (tt_builtin g e0 h2 g.grange range_boot.1 range_boot.2 (tt_callT h4 ((ih e0 h5 h).mono fun vs σ₁ z=>Opt.exk z.2 fun o ho q=>HT.lift (ht_range ho fun a ha=>⟨z.1,q a ha⟩))))
theorem compW_of{elt iter:IE}{cond:List IE}{free:List Nat}(ihE:SE B fa n elt)(ihI:SE B fa n iter)(ihC:SAs B fa n cond){x z:Expr}{y:Str}{ifs:List Expr}{inner:Scope}{env:Env}{ns:List Str}{σ:CS}{Q:CV→CS→Prop}
  (e0:EnvOk env ns) (h3:mE env.scope ns iter z=true) (h4:mE (relab env.scope inner) (Ar ns y free) elt x=true) (h5:mL (relab env.scope inner) (Ar ns y free) cond ifs=true)
  (h:WE B fa n (.comp elt iter cond free) false σ Q):CompW B n env ns x z y ifs inner free σ fun d σ'=>σ'.vars=σ.vars∧Q (.ref d) σ':=by
 refine(ihI e0 h3 h).mono fun w σ₁ ⟨hv,a,o,items,e1,e2,e3,e4,I,h0,turn,fin⟩=>⟨a,o,items,cv_ref e1,e2,e3,e4,I,h0,fun cenv hc ce i y acc H hy hI=>?_,fun acc H hI=>?_⟩
 ·refine oa (turn i y acc H hy hI) fun ha q=>?_
  refine⟨ha,((ihC ce (by rw[hc];exact h5) q).2).mono fun b σ₂ ⟨hv2,q⟩=>?_⟩
  induction b using Bool.casesOn with
  | false=>exact⟨hv2,q⟩
  | true=>
   rw[if_pos rfl]
   exact(ihE ce (by rw[hc];exact h4) q).mono fun v σ₃ ⟨hv3,q⟩=>⟨hv3.trans hv2,q⟩
 ·refine oa (fin acc H hI) fun ha q=>?_
  exact⟨ha,fun d hd=>⟨hv,q d hd⟩⟩
theorem s_comp{elt iter:IE}{cond:List IE}{free:List Nat}(ihE:SE B fa n elt)(ihI:SE B fa n iter)(ihC:SAs B fa n cond):SE B fa n (.comp elt iter cond free):=by
 intro x env ns σ Q e0 hm h
 exact lcE_k hm fun x gens inner p hm=>gen1_k (P:=fun gens=>TT B n env ns (eval (.ListComp x gens inner p) env) σ fun v σ'=>σ'.vars=σ.vars∧Q (cv v) σ') hm fun y yp z ifs hm=>an5k hm fun h1 h2 h3 h4 h5=>tt_comp e0 h1 h2 (compW_of ihE ihI ihC e0 h3 h4 h5 h)
theorem sl_nil:SLs B fa n []:=by
 intro xs env ns σ Q e0 hm h
 exact nilE_k hm ⟨rfl,h⟩
theorem sl_cons{e:IE}{r:List IE}(ih:SE B fa n e)(ihr:SLs B fa n r):SLs B fa n (e::r):=by
 intro xs env ns σ Q e0 hm h
 exact consE_k hm fun x xs hm=>Bn hm fun h1 h2=>(ih e0 h1 h).mono fun v σ₁ z=>(ihr e0 h2 z.2).mono fun vs σ₂ y=>⟨y.1.trans z.1,y.2⟩
theorem tests_nil{env:Env}:tests [] env=pure true:=rfl
theorem tests_cons{env:Env}(c:Expr)(r:List Expr):tests (c::r) env=(isTrue c env (eval c env) >>= fun b=>if b=true then tests r env else pure false):=by
 have key:∀l:List Expr,(forIn l false (fun c r=>if r=true then do let ok ← isTrue c env (eval c env);pure (ForInStep.yield ok) else pure (ForInStep.yield r)):Sem Bool)=pure false:=by
  intro l
  induction l with
  | nil=>rfl
  | cons a l ih=>rw[List.forIn_cons];simp only[Bool.false_eq_true,if_false];exact ih
 unfold tests
 rw[List.forIn_cons]
 simp only[if_true]
 rw[bind_assoc]
 congr 1
 funext b
 induction b using Bool.casesOn with
 | true=>rfl
 | false=>
  simp only[Bool.false_eq_true,if_false]
  exact key r
theorem sa_nil:SAs B fa n []:=by
 intro xs env ns σ Q e0 hm h
 exact nilE_k hm ⟨tt_and_nil ⟨rfl,h⟩,by rw[tests_nil];exact TT.pure ⟨rfl,h⟩⟩
theorem sa_cons{e:IE}{r:List IE}(ih:ST B fa n e)(ihr:SAs B fa n r):SAs B fa n (e::r):=by
 intro xs env ns σ Q e0 hm h
 refine consE_k hm fun x xs hm=>Bn hm fun h1 h2=>⟨tt_and_cons ((ih e0 h1 h).mono fun b σ₁ z=>?_),?_⟩
 ·induction b using Bool.casesOn with
  | true=>exact((ihr e0 h2 z.2).1).mono fun b σ₂ y=>⟨y.1.trans z.1,y.2⟩
  | false=>exact z
 ·rw[tests_cons]
  refine TT.bind ((ih e0 h1 h).mono fun b σ₁ z=>?_)
  induction b using Bool.casesOn with
  | true=>exact((ihr e0 h2 z.2).2).mono fun b σ₂ y=>⟨y.1.trans z.1,y.2⟩
  | false=>exact TT.pure z
theorem so_nil:SOs B fa n []:=by
 intro xs env ns σ Q e0 hm h
 exact nilE_k hm (tt_or_nil ⟨rfl,h⟩)
theorem so_cons{e:IE}{r:List IE}(ih:ST B fa n e)(ihr:SOs B fa n r):SOs B fa n (e::r):=by
 intro xs env ns σ Q e0 hm h
 refine consE_k hm fun x xs hm=>Bn hm fun h1 h2=>tt_or_cons ((ih e0 h1 h).mono fun b σ₁ z=>?_)
 induction b using Bool.casesOn with
 | true=>exact z
 | false=>exact(ihr e0 h2 z.2).mono fun b σ₂ y=>⟨y.1.trans z.1,y.2⟩
theorem Am{e:IE}(hp:plainI e=true)(ih:SE B fa n e)(hw:∀σ Q,WE B fa n e true σ Q→WE B fa n e false σ (fin true Q)):SE B fa n e∧ST B fa n e:=⟨ih,st_plain hp ih hw⟩
mutual
theorem Aq(g:Glo B fa):∀e:IE,SE B fa n e∧ST B fa n e
 | .int i=>Am rfl (s_int i) fun _ _ h=>h
 | .bool b=>Am rfl (s_bool b) fun _ _ h=>h
 | .none=>Am rfl s_none fun _ _ h=>h
 | .var i=>Am rfl (s_var i) fun _ _ h=>h
 | .glob x i=>Am rfl (s_glob g x i) fun _ _ h=>h
 | .attr e a=>Am rfl (s_attr g (Aq g e).1) fun _ _ h=>h
 | .sub e i=>Am rfl (s_sub g (Aq g e).1 (Aq g i).1) fun _ _ h=>h
 | .upto e u=>Am rfl (s_upto g (Aq g e).1 (Aq g u).1) fun _ _ h=>h
 | .bin o a b=>Am rfl (s_bin g (Aq g a).1 (Aq g b).1) fun _ _ h=>h
 | .neg a=>Am rfl (s_neg (Aq g a).1) fun _ _ h=>h
 | .not a=>⟨s_not,t_not (Aq g a).2⟩
 | .cmp o a b=>⟨s_cmp g (Aq g a).1 (Aq g b).1,t_cmp g (Aq g a).1 (Aq g b).1⟩
 | .and es=>⟨s_and,t_and (soundA g es)⟩
 | .or es=>⟨s_or,t_or (soundO g es)⟩
 | .ite c a b=>⟨s_ite (Aq g c).2 (Aq g a).1 (Aq g b).1,t_ite (Aq g c).2 (Aq g a).2 (Aq g b).2⟩
 | .fn f es=>Am rfl (s_call g (soundL g es)) fun _ _ h=>h
 | .cls c es=>Am rfl (s_cls g (soundL g es)) fun _ _ h=>h
 | .mth o f es=>Am rfl (s_mth g (Aq g o).1 (soundL g es)) fun _ _ h=>h
 | .bf f e=>Am rfl (s_bf g (Aq g e).1) fun _ _ h=>h
 | .bm o m es=>Am rfl (s_bm g (Aq g o).1 (soundL g es)) fun _ _ h=>h
 | .list es=>Am rfl (s_list (soundL g es)) fun _ _ h=>h
 | .tup es=>Am rfl (s_tup (soundL g es)) fun _ _ h=>h
 | .dict0 _=>Am rfl s_dict0 fun _ _ h=>h
 | .dict1 _ _=>Am rfl s_dict1 fun _ _ h=>h
 | .range es=>Am rfl (s_range g (soundL g es)) fun _ _ h=>h
 | .comp elt iter cond free=>Am rfl (s_comp (Aq g elt).1 (Aq g iter).1 (soundA g cond)) fun _ _ h=>h
theorem soundL(g:Glo B fa):∀es:List IE,SLs B fa n es
 | []=>sl_nil
 | e::r=>sl_cons (Aq g e).1 (soundL g r)
theorem soundA(g:Glo B fa):∀es:List IE,SAs B fa n es
 | []=>sa_nil
 | e::r=>sa_cons (Aq g e).2 (soundA g r)
theorem soundO(g:Glo B fa):∀es:List IE,SOs B fa n es
 | []=>so_nil
 | e::r=>so_cons (Aq g e).2 (soundO g r)
end
end
end
section
set_option tactic.hygienic true
noncomputable def FQ(Q:CF→CS→Prop)(f:Flow)(σ:CS):Prop:=match f with
 | .next=>Q .next σ
 | .brk=>Q .brk σ
 | .ret v=>Q (.ret (cv v)) σ
 | .cont=>False
section
variable {B:Base} {fa:Fn→Addr} {n:Nat}
noncomputable def SSt(B:Base)(fa:Fn→Addr)(n:Nat)(e:IS):Prop:=∀{x:Stmt} {env:Env} {ns:List Str} {σ:CS} {Q:CF→CS→Prop},EnvOk env ns→mS env.scope ns e x=true→WS B fa n e σ Q→TT B n env ns (exec x env) σ (FQ Q)
noncomputable def SSts(B:Base)(fa:Fn→Addr)(n:Nat)(es:List IS):Prop:=∀{xs:List Stmt} {env:Env} {ns:List Str} {σ:CS} {Q:CF→CS→Prop},EnvOk env ns→mSs env.scope ns es xs=true→WSs B fa n es σ Q→TT B n env ns (execs xs env) σ (FQ Q)
theorem stores_k{env:Env}{ns:List Str}{i:Nat}{x:Str}{G:Prop}(h:stores env.scope ns i x=true)(k:ns[i]?=some x→env.kindOf x≠some .free→G):G:=
 Bn h fun h1 h2=>k (eq_of_beq h1) (bne_iff_ne.mp h2)
theorem ss_setv{i:Nat}{e:IE}(g:Glo B fa):SSt B fa n (.setv i e):=by
 intro x env ns σ Q e0 hm h
 exact asS_k hm fun ts v ps hm=>nm1_k (P:=fun ts=>TT B n env ns (exec (.Assign ts v ps) env) σ (FQ Q)) hm fun y yp hm=>an3k hm fun h1 h2 h3=>stores_k h1 fun p q=>tt_setv h2 (((Aq g e).1 e0 h3 h).mono fun w σ₁ z=>B6 e0 p q z.2)
theorem nt{b:Bool}(h:(!b)=true):b=false:=(Bool.not_eq_true' b).mp h
theorem lcE_eq{x:Expr}{gs:List Comprehension}{sc:Scope}{p:Pos}{f:Expr→List Comprehension→Scope→Bool}(h:lcE (.ListComp x gs sc p) f=true):f x gs sc=true:=h
theorem ss_asgComp{i:Nat}{e:IE}(g:Glo B fa):SSt B fa n (.asgComp i e):=by
 intro x env ns σ Q e0 hm h
 refine asS_k hm fun ts v ps hm=>nm1_k (P:=fun ts=>TT B n env ns (exec (.Assign ts v ps) env) σ (FQ Q)) hm fun y yp hm=>an5k hm fun h1 h3 h4 h5 h6=>stores_k h1 fun p q=>?_
 refine lcE_k (P:=fun v=>yp.line==v.pos.line→mE env.scope ns e v=true→TT B n env ns (exec (.Assign [.Name y yp] v ps) env) σ (FQ Q)) h5 (fun x gs inner vp h5 h4 h6=>?_) h4 h6
 induction e using IE.casesOn with
 | comp elt iter cond free=>
  refine gen1_k (P:=fun gs=>yp.line==(Expr.ListComp x gs inner vp).pos.line→TT B n env ns (exec (.Assign [.Name y yp] (.ListComp x gs inner vp) ps) env) σ (FQ Q)) (lcE_eq h6) (fun y2 yp2 z ifs h6 h4=>an5k h6 fun a1 a2 a3 a4 a5=>?_) h4
  refine tt_asgComp e0 a1 a2 p (eq_of_beq h3) (eq_of_beq h4) (nt h5) (TT.mono (compW_of (Aq g elt).1 (Aq g iter).1 (soundA g cond) e0 a3 a4 a5 h) fun w σ₁ z=>?_)
  refine oe3 z fun a o items w0_=>?_;refine oa4 w0_ fun e1 e2 e3 e4 w1_=>?_;clear w0_;refine oe w1_ fun I w2_=>?_;clear w1_;refine oa2 w2_ fun i0 turn fin=>?_;clear w2_
  exact⟨a,o,items,e1,e2,e3,e4,I,i0,turn,fun acc H hI=>⟨(fin acc H hI).1,fun d hd=>((fin acc H hI).2 d hd).2⟩⟩
 | _=>exact ff h6
theorem ss_setattr{o e:IE}{a:At}(g:Glo B fa):SSt B fa n (.setattr o a e):=by
 intro x env ns σ Q e0 hm h
 refine asS_k hm fun ts x ps hm=>one1_k (P:=fun ts=>TT B n env ns (exec (.Assign ts x ps) env) σ (FQ Q)) hm fun l hm=>atE_k (P:=fun l=>TT B n env ns (exec (.Assign [l] x ps) env) σ (FQ Q)) hm fun v nm p hm=>an3k hm fun h1 h2 h3=>?_
 have h1:=eq_of_beq h1;subst h1
 exact tt_setattr (((Aq g e).1 e0 h3 h).mono fun w σ₁ z=>((Aq g o).1 e0 h2 z.2).mono fun ov σ₂ z=>Opt.exk z.2 fun H' hH z=>HT.lift (ht_setAttr g.base g.cls hH z))
theorem ss_setsub{o i e:IE}(g:Glo B fa):SSt B fa n (.setsub o i e):=by
 intro x env ns σ Q e0 hm h
 exact asS_k hm fun ts x ps hm=>one1_k (P:=fun ts=>TT B n env ns (exec (.Assign ts x ps) env) σ (FQ Q)) hm fun l hm=>sbE_k (P:=fun l=>TT B n env ns (exec (.Assign [l] x ps) env) σ (FQ Q)) hm fun v k p hm=>an4k hm fun h1 h2 h3 h4=>
  tt_setsub (((Aq g e).1 e0 h4 h).mono fun w σ₁ z=>((Aq g o).1 e0 h2 z.2).mono fun ov σ₂ z=>((Aq g i).1 e0 h3 z.2).mono fun iv σ₃ z=>Opt.exk z.2 fun H' hH z=>HT.lift (ht_setItem g.base hH z))
theorem tg_of(g:Glo B fa){env:Env}{ns:List Str}(e0:EnvOk env ns){t:Tg}{a:Expr}{v:Value}{xs:List CV}{ts:List Tg}{σ:CS}{Q:CS→Prop}(hm:mT env.scope ns t a=true)(h:WT B fa n (t::ts) (cv v::xs) σ Q):
  TT B n env ns (assign a env v) σ fun _ σ'=>WT B fa n ts xs σ' Q:=by
 induction t using Tg.casesOn with
 | v i=>exact nmE_k hm fun x p hm=>stores_k hm fun p1 p2=>tt_assignName e0 p1 p2 h
 | s o i=>
  refine sbE_k hm fun v' k p hm=>an3k hm fun h1 h2 h3=>?_
  intro A hA F s R L
  rw[arm_assign_Subscript]
  refine wpAny_bind (wpAny_holding (TT.go ((Aq g o).1 e0 h2 h) hA R L fun ov σ₁ s₁ R₁ L₁ z=>?_))
  refine wpAny_bind (wpAny_holding (TT.go ((Aq g i).1 e0 h3 z.2) hA R₁ L₁ fun iv σ₂ s₂ R₂ L₂ z=>Opt.exk z.2 fun H' hH z=>?_))
  exact wpAny_bind (wpAny_standAt (wpAny_bind (wpAny_holding (TT.go (HT.lift (env:=env) (ns:=ns) (Q:=fun _ σ'=>WT B fa n ts xs σ' Q) (ht_setItem g.base hH z)) hA R₂ L₂ fun _ σ₃ s₃ R₃ L₃ e3=>wpAny_release ⟨σ₃,R₃,L₃,e3⟩))))
theorem tgs_of(g:Glo B fa){env:Env}{ns:List Str}(e0:EnvOk env ns)(ts:List Tg):∀{as:List Expr} {vs:List CV} {its:List Value} {σ:CS} {Q:CS→Prop},as.all Au=true→mTs env.scope ns ts as=true→its.map cv=vs→WT B fa n ts vs σ Q→
  TT B n env ns (assignInOrder ((assignEach as env).map (·.2)) its) σ fun _=>Q:=by
 induction ts with
 | nil=>
  intro as vs its σ Q _ hm he h
  subst he
  refine nilE_k hm ?_
  induction its using List.casesOn with
  | nil=>exact TT.pure h
  | cons=>exact h.elim
 | cons t ts ih=>
  intro as vs its σ Q hs hm he h
  subst he
  refine consE_k (P:=fun as=>as.all Au=true→TT B n env ns (assignInOrder ((assignEach as env).map (·.2)) its) σ fun _=>Q) hm (fun a as hm hs=>Bn hm fun hm1 hm2=>Bn hs fun hs1 hs2=>?_) hs
  induction its using List.casesOn with
  | nil=>induction t using Tg.casesOn <;> exact h.elim
  | cons v r=>
   rw[assignEach_cons as hs1]
   refine TT.bind (m:=holding r (assign a env v)) ?_
   intro A hA F s R L
   exact wpAny_holding (wpAny_mono (tg_of g e0 hm1 h A hA F s R L) (fun _ s₁ z=>Exists.elim z fun σ₁ z=>⟨σ₁,z.1,z.2.1,ih hs2 hm2 rfl z.2.2⟩) fun _ _ z=>z)
theorem mTs_len{sc:Scope}{ns:List Str}(ts:List Tg):∀{as:List Expr},mTs sc ns ts as=true→ts.length=as.length:=by
 induction ts with
 | nil=>exact fun h=>nilE_k h rfl
 | cons t ts ih=>exact fun h=>consE_k h fun a as h=>congrArg (· + 1) (ih (an2 h).2)
theorem ss_unpack{ts:List Tg}{e:IE}(g:Glo B fa):SSt B fa n (.unpack ts e):=by
 intro x env ns σ Q e0 hm h
 refine asS_k hm fun ls x ps hm=>one1_k (P:=fun ls=>TT B n env ns (exec (.Assign ls x ps) env) σ (FQ Q)) hm fun l hm=>tpE_k (P:=fun l=>TT B n env ns (exec (.Assign [l] x ps) env) σ (FQ Q)) hm fun as c p hm=>an5k hm fun h1 h2 h3 h4 h5=>?_
 refine tt_unpackStmt h2 h3 h1 (((Aq g e).1 e0 h5 h).mono fun w σ₁ z=>?_)
 refine oa z fun _ w0_=>?_;refine oe2 w0_ fun a vs w1_=>?_;clear w0_;refine oa3 w1_ fun e1 e2 e3 z=>?_;clear w1_
 exact⟨a,vs,cv_ref e1,e2,e3.trans (mTs_len _ h4),fun its hi=>tgs_of g e0 ts h3 h4 hi z⟩
theorem ss_swap{i j:Nat}(g:Glo B fa):SSt B fa n (.swap i j):=by
 intro x env ns σ Q e0 hm h
 refine asS_k hm fun ls r ps hm=>one1_k (P:=fun ls=>TT B n env ns (exec (.Assign ls r ps) env) σ (FQ Q)) hm fun l hm=>tp2_k (P:=fun l=>TT B n env ns (exec (.Assign [l] r ps) env) σ (FQ Q)) hm fun a pa b pb c1 c2 hm=>
  tp2_k (P:=fun r=>TT B n env ns (exec (.Assign [.Tuple [.Name a pa,.Name b pb] c1 c2] r ps) env) σ (FQ Q)) hm fun c pc d pd d1 d2 hm=>an8k hm fun h1 h2 h3 h4 h5 h6 h7 h8=>stores_k h1 fun p1 _=>stores_k h2 fun p2 _=>?_
 have h3:=eq_of_beq h3
 have h4:=eq_of_beq h4
 subst h3 h4
 exact tt_swap e0 p1 p2 (eq_of_beq h6) (eq_of_beq h7) (bne_iff_ne.mp h5) (eq_of_beq h8) h.1 h.2.1 h.2.2
theorem ss_augv{i:Nat}{o:Operator}{e:IE}(g:Glo B fa):SSt B fa n (.augv i o e):=by
 intro x env ns σ Q e0 hm h
 refine auS_k hm fun l p v ps hm=>nmE_k (P:=fun l=>TT B n env ns (exec (.AugAssign l p v ps) env) σ (FQ Q)) hm fun x q hm=>an4k hm fun h1 h2 h3 h4=>stores_k h1 fun p1 p2=>?_
 have h2:=eq_of_beq h2
 have h3:=eq_of_beq h3
 subst h2 h3
 exact tt_augv (tt_loadName e0 p1 h.1 fun old ho=>((Aq g e).1 e0 h4 h.2).mono fun w σ₁ z=>Opt.exk z.2 fun r hr z=>Exists.elim z fun c z=>HT.lift (ht_iadd (c:=c) (by rw[ho,← z.1];exact hr) fun v hv=>B6 e0 p1 p2 (by rw[hv];exact z.2)))
theorem ss_augsub{o i:IE}{op:Operator}{e:IE}(g:Glo B fa):SSt B fa n (.augsub o i op e):=by
 intro x env ns σ Q e0 hm h
 refine auS_k hm fun l p x ps hm=>sbE_k (P:=fun l=>TT B n env ns (exec (.AugAssign l p x ps) env) σ (FQ Q)) hm fun v k q hm=>an6k hm fun h1 h2 h3 h4 h5 h6=>?_
 have h2:=eq_of_beq h2
 have h3:=eq_of_beq h3
 subst h2 h3
 exact tt_augsub h1 (((Aq g o).1 e0 h4 h).mono fun ov σ₁ z=>((Aq g i).1 e0 h5 z.2).mono fun iv σ₂ z=>Opt.exk z.2 fun old hold z=>HT.lift (ht_getItem g.base hold fun ov' ho=>((Aq g e).1 e0 h6 z).mono fun w σ₃ z=>
  Opt.exk z.2 fun r hr z=>Exists.elim z fun c z=>Opt.exk z.2 fun H' hH y=>HT.lift (ht_iadd (c:=c) (by rw[ho,← z.1];exact hr) fun v hv=>HT.lift (ht_setItem g.base (by rw[hv];exact hH) y))))
theorem ss_expr{e:IE}(g:Glo B fa):SSt B fa n (.expr e):=by
 intro x env ns σ Q e0 hm h
 exact exS_k hm fun v ps hm=>Bn hm fun h1 h2=>tt_expr e0 h1 (((Aq g e).1 e0 h2 h).mono fun w σ₁ z=>z.2)
theorem ss_ret{e:IE}(g:Glo B fa):SSt B fa n (.ret e):=by
 intro x env ns σ Q e0 hm h
 exact reS_k hm fun o ps hm=>B1 (P:=fun o=>TT B n env ns (exec (.Return o ps) env) σ (FQ Q)) hm fun v hm=>tt_ret (((Aq g e).1 e0 hm h).mono fun w σ₁ z=>z.2)
theorem ss_ret0:SSt B fa n .ret0:=by
 intro x env ns σ Q e0 hm h
 exact reS_k hm fun o ps hm=>noneE_k (P:=fun o=>TT B n env ns (exec (.Return o ps) env) σ (FQ Q)) hm (tt_ret0 h)
theorem ss_brk:SSt B fa n .brk:=by
 intro x env ns σ Q e0 hm h
 exact brS_k (f:=true) hm fun ps=>tt_brk h
theorem ss_ite{t:IE}{a b:List IS}(g:Glo B fa)(ia:SSts B fa n a)(ib:SSts B fa n b):SSt B fa n (.ite t a b):=by
 intro x env ns σ Q e0 hm h
 refine ifS_k hm fun u y z ps hm=>an3k hm fun h1 h2 h3=>tt_if (((Aq g t).2 e0 h1 h).mono fun w σ₁ z=>?_)
 induction w using Bool.casesOn with
 | true=>exact ia e0 h2 z.2
 | false=>exact ib e0 h3 z.2
theorem ss_whl{t:IE}{b:List IS}(g:Glo B fa)(ib:SSts B fa n b):SSt B fa n (.whl t b):=by
 intro x env ns σ Q e0 hm h
 refine whS_k hm fun u y el ps hm=>an3k hm fun h0 h1 h2=>nilE_k (P:=fun el=>TT B n env ns (exec (.While u y el ps) env) σ (FQ Q)) h0 (Exists.elim h fun I z=>tt_while ⟨I,z.1,fun m σ₁ hi=>((Aq g t).2 e0 h1 (z.2 m σ₁ hi)).mono fun w σ₂ z=>?_⟩)
 induction w using Bool.casesOn with
 | true=>
  refine(ib e0 h2 z.2).mono fun f σ₃ z=>?_
  induction f using Flow.casesOn with
  | next=>exact z
  | brk=>exact z
  | ret v=>exact z
  | cont=>exact z.elim
 | false=>exact z.2
theorem ss_for{i:Nat}{e:IE}{b:List IS}(g:Glo B fa)(ib:SSts B fa n b):SSt B fa n (.for i e b):=by
 intro x env ns σ Q e0 hm h
 refine foS_k hm fun l z y el ps hm=>Bn hm fun h0 h9=>nilE_k (P:=fun el=>TT B n env ns (exec (.For l z y el ps) env) σ (FQ Q)) h0 (nmE_k (P:=fun l=>TT B n env ns (exec (.For l z y [] ps) env) σ (FQ Q)) h9 fun yn yp h8=>an4k h8 fun h1 h2 h3 h4=>stores_k h1 fun p1 p2=>
  tt_for e0 p1 p2 h2 (((Aq g e).1 e0 h3 h).mono fun w σ₁ z=>?_))
 refine oa z fun _ w0_=>?_;refine oe3 w0_ fun a o items w1_=>?_;clear w0_;refine oa4 w1_ fun e1 e2 e3 e4 w2_=>?_;clear w1_;refine oe w2_ fun I w3_=>?_;clear w2_;refine oa2 w3_ fun i0 turn fin=>?_;clear w3_
 refine⟨a,o,items,cv_ref e1,e2,e3,I,i0,fun j y σ₂ hy hi=>⟨(turn j y σ₂ hy hi).1,(ib e0 h4 (turn j y σ₂ hy hi).2).mono fun f σ₃ z=>?_⟩,fin⟩
 induction f using Flow.casesOn with
 | next=>exact z
 | brk=>exact z
 | ret v=>exact z
 | cont=>exact z.elim
theorem sss_nil:SSts B fa n []:=by
 intro xs env ns σ Q e0 hm h
 exact nilE_k hm (tt_nil h)
theorem sss_cons{a:IS}{r:List IS}(ia:SSt B fa n a)(ir:SSts B fa n r):SSts B fa n (a::r):=by
 intro xs env ns σ Q e0 hm h
 refine consE_k hm fun x xs hm=>Bn hm fun h1 h2=>tt_cons ((ia e0 h1 h).mono fun f σ₁ z=>?_)
 induction f using Flow.casesOn with
 | next=>exact ir e0 h2 z
 | brk=>exact z
 | ret v=>exact z
 | cont=>exact z.elim
mutual
theorem soundS(g:Glo B fa):∀s:IS,SSt B fa n s
 | .setv i e=>ss_setv g
 | .setattr o a e=>ss_setattr g
 | .setsub o i e=>ss_setsub g
 | .unpack ts e=>ss_unpack g
 | .swap i j=>ss_swap g
 | .augv i o e=>ss_augv g
 | .augsub o i op e=>ss_augsub g
 | .expr e=>ss_expr g
 | .ite t a b=>ss_ite g (soundSs g a) (soundSs g b)
 | .whl t b=>ss_whl g (soundSs g b)
 | .for x it b=>ss_for g (soundSs g b)
 | .ret e=>ss_ret g
 | .ret0=>ss_ret0
 | .brk=>ss_brk
 | .asgComp i e=>ss_asgComp g
theorem soundSs(g:Glo B fa):∀es:List IS,SSts B fa n es
 | []=>sss_nil
 | s::r=>sss_cons (soundS g s) (soundSs g r)
end
end
end
section
noncomputable def scopeOk(sc:Scope)(ps ns:List Str):Bool:=
 decide ns.Nodup&&ns.all (fun x=>(sc.names.lookup x==some .local||sc.names.lookup x==some .cell) && !(x==("__debug__" : Str)) && !(x==("__classdict__" : Str)))&&(ns.take ps.length==ps)
structure FnOk (K:Frag) (a:Addr) (ps ns:List Str) (ir:List IS) (o:Obj) (fd:FuncData) (body:List Stmt):Prop where
 look:K.lookup a=some o
 data:o.data=.func fd
 code:codeIn K fd.code fd.qualname=true
 bdy:fd.body=.stmts body
 glob:fd.globals=mainGlobals
 blt:fd.builtins=builtinsNs
 clo:fd.closure=[]
 kind:fd.scope.kind=.function
 co:fd.scope.isCoroutine=false
 gen:fd.scope.isGenerator=false
 scope:scopeOk fd.scope ps ns=true
 irs:mSs fd.scope ns ir body=true
 bind:∀s:Shared,K.In s.heap→∀rvs:List Value,rvs.length=ps.length→BindsTo s fd ⟨rvs,[]⟩ (ps.zip rvs)
noncomputable def RetQ(Q:CV→CH→Prop)(f:CF)(σ:CS):Prop:=match f with
 | .next=>Q .none σ.heap
 | .ret v=>Q v σ.heap
 | .brk=>False
theorem bindL_skip{k:Str→Option NameKind}{x:Str}:∀(bs:List (Str × Value)) (m:Str→Option Value),x∉bs.map (·.1)→bindL k bs m x=m x
 | [],_,_=>rfl
 | (y,v)::r,m,h=>by
  rw[List.map_cons,List.mem_cons,not_or] at h
  unfold bindL
  rw[bindL_skip r _ h.2]
  split
  ·simp only[if_neg h.1]
  ·rfl
theorem bindL_get{k:Str→Option NameKind}{x:Str}{v:Value}(hk:k x=some .local):∀(bs:List (Str × Value)) (m:Str→Option Value),(bs.map (·.1)).Nodup→(x,v)∈bs→bindL k bs m x=some v
 | (y,w)::r,m,hn,h=>by
  rw[List.map_cons,List.nodup_cons] at hn
  unfold bindL
  rcases List.mem_cons.mp h with e | h
  ·cases e
   rw[bindL_skip r _ hn.1,if_pos hk];simp
  ·exact bindL_get hk r _ hn.2 h
theorem bindC_skip{k:Str→Option NameKind}{x:Str}:∀(bs:List (Str × Value)) (m:Str→Option Value),x∉bs.map (·.1)→bindC k bs m x=m x
 | [],_,_=>rfl
 | (y,v)::r,m,h=>by
  rw[List.map_cons,List.mem_cons,not_or] at h
  unfold bindC
  rw[bindC_skip r _ h.2]
  split
  ·rfl
  ·simp only[if_neg h.1]
theorem bindC_get{k:Str→Option NameKind}{x:Str}{v:Value}(hk:k x=some .cell):∀(bs:List (Str × Value)) (m:Str→Option Value),(bs.map (·.1)).Nodup→(x,v)∈bs→bindC k bs m x=some v
 | (y,w)::r,m,hn,h=>by
  rw[List.map_cons,List.nodup_cons] at hn
  unfold bindC
  rcases List.mem_cons.mp h with e | h
  ·cases e
   rw[bindC_skip r _ hn.1,if_neg (by rw[hk];simp)];simp
  ·exact bindC_get hk r _ hn.2 h
theorem apart_inj{cs:List (Str × Addr)}(h:cs.Pairwise fun x y=>x.2≠y.2){x y:Str}{c:Addr}(h1:(x,c)∈cs)(h2:(y,c)∈cs):x=y:=by
 induction cs with
 | nil=>cases h1
 | cons p r ih=>
  rw[List.pairwise_cons] at h
  rcases List.mem_cons.mp h1 with e1 | h1'
  ·rcases List.mem_cons.mp h2 with e2 | h2'
   ·rw[← e1] at e2;cases e2;rfl
   ·subst e1;exact(h.1 (y,c) h2' rfl).elim
  ·rcases List.mem_cons.mp h2 with e2 | h2'
   ·subst e2;exact(h.1 (x,c) h1' rfl).elim
   ·exact ih h.2 h1' h2'
theorem zip_mem{ps:List Str}{rvs:List Value}{i:Nat}{x:Str}{v:Value}(h1:ps[i]?=some x)(h2:rvs[i]?=some v):(x,v)∈ps.zip rvs:=by
 apply List.mem_of_getElem? (i:=i)
 rw[List.getElem?_zip_eq_some];exact⟨h1,h2⟩
theorem zip_names{ps:List Str}{rvs:List Value}(h:rvs.length=ps.length):(ps.zip rvs).map (·.1)=ps:=List.map_fst_zip (Nat.le_of_eq h.symm)
theorem FT_of{B:Base}{fa:Fn→Addr}(g:Glo B fa){f:Fn}{n:Nat}{ps ns:List Str}{ir:List IS}{o:Obj}{fd:FuncData}{body:List Stmt}(ok:FnOk B.K (fa f) ps ns ir o fd body){vs:List CV}{H:CH}{Q:CV→CH→Prop}
  (hl:vs.length=ps.length) (h:WSs B fa n ir ⟨vs++List.replicate (ns.length-ps.length) .undef,H⟩ (RetQ Q)):FT B fa (n+1) f vs H Q:=by
 intro rvs hrv A hA F s R
 have X:=R.kin g.base
 have hlen:rvs.length=ps.length:=by rw[← hl,← hrv];simp
 have sok:=ok.scope
 unfold scopeOk at sok
 simp only[Bool.and_eq_true,decide_eq_true_eq,List.all_eq_true,Bool.or_eq_true,beq_iff_eq,Bool.not_eq_true'] at sok
 obtain⟨⟨nnd,nk⟩,ntk⟩:=sok
 have pnd:ps.Nodup:=by rw[← ntk];exact nnd.sublist (List.take_sublist _ _)
 have pns:∀i x,ps[i]?=some x→ns[i]?=some x:=fun i x e=>by
  rw[← ntk] at e
  rw[List.getElem?_take] at e
  split at e
  ·exact e
  ·cases e
 have nl:B.s₀.heap.NoLimit:=g.base.nolimit
 have hcd:s.heap.CodeRec fd.code fd.qualname:=codeRec_of X ok.code
 refine codeAny_call_function (by have:=hA.2.1;show A.depth<1000;exact ar546 this) (X _ _ ok.look) ok.data ok.co ok.gen ok.bdy hcd ?_
 refine ok.bind s X rvs hlen _ _ _ _ ?_
 rw[ok.clo]
 have kinds:∀x∈ns,fd.scope.names.lookup x=some .local∨(fd.scope.names.lookup x=some .cell∧((cellsFrom (s.heap.objs.size+1) fd.scope.names []).lookup x).isSome=true):=fun x hx=>by
  rcases(nk x hx).1.1 with q | q
  ·exact .inl q
  ·exact .inr ⟨q,cellsFrom_some _ _ _ (.inl q)⟩
 refine wpAny_newFunctionEnv_cells ok.kind (fun p hp=>kinds _ ?_) fun env he s' x=>?_
 ·refine oe (List.getElem?_of_mem hp) fun i hi=>?_
  obtain⟨a,b⟩:=p
  rw[List.getElem?_zip_eq_some] at hi
  exact List.mem_of_getElem? (pns i _ hi.1)
 refine oe2 x.toInCall.same fun h₁ tk z2_=>?_;subst z2_
 have keep:=x.toInCall.keep
 have nsL:=x.toInCall.ns
 have cellx:=x.cell
 have apx:=x.apart
 have abx:=x.above
 dsimp only at keep nsL cellx
 have hloc:env.locals=s.heap.objs.size:=by rw[he];rfl
 have hsc:env.scope=fd.scope:=by rw[he];rfl
 have hcells:env.cells=cellsFrom (s.heap.objs.size+1) fd.scope.names []:=by rw[he];rfl
 refine⟨(nl.keeps R.keeps).keeps keep,codeAny_func ?_⟩
 have e0:EnvOk env ns:=by
  refine⟨by rw[hsc];exact ok.kind,by rw[he];exact ok.glob,by rw[he];exact ok.blt,nnd,fun x hx=>?_,fun x hx=>⟨(nk x hx).1.2,(nk x hx).2⟩⟩
  unfold Env.kindOf
  rw[hsc,hcells]
  rcases kinds x hx with q | ⟨q,r⟩
  ·exact .inl q
  ·exact .inr ⟨.inl q,Option.isSome_iff_exists.mp r⟩
 have free:∀b,Pl env b→s.heap.get? b=none:=by
  rintro b (rfl | ⟨y,e⟩)
  ·rw[hloc];exact Bf _
  ·have:=abx y b (mem_of_lookup e)
   rw[hloc] at this
   induction q:s.heap.get? b using Option.casesOn with
   | none=>rfl
   | some ob=>exact absurd (Heap.lt_size q) (Nat.lt_asymm this)
 have R1:RH B H F { s with heap:=h₁,toks:=tk }:=
  ⟨fun a o e=>(R.obj a o e).keep (fun _ e=>keep _ _ e) (fun _ _ _ _ e _ _=>keep _ _ e) (fun _ _ _ _ _ e=>keep _ _ e),fun b o e=>keep _ _ (R.fr b o e),R.apart,R.dapart,R.base,R.rest⟩
 have L1:LcR env ns (vs++List.replicate (ns.length-ps.length) .undef) F H h₁:=by
  have val:∀(i:Nat) x v,ns[i]?=some x→(vs++List.replicate (ns.length-ps.length) CV.undef)[i]?=some v→v≠.undef→∃rv,(x,rv)∈ps.zip rvs∧cv rv=v:=by
   intro i x v e1 e2 e3
   rw[List.getElem?_append] at e2
   split at e2
   ·rename_i hi
    have hps:ps[i]?=some x:=by
     rw[← ntk,List.getElem?_take,if_pos (by rw[← hl];exact hi)];exact e1
    rw[← hrv,List.getElem?_map,Option.map_eq_some_iff] at e2
    refine oea e2 fun rv r1 r2=>?_
    exact⟨rv,zip_mem hps r1,r2⟩
   ·rw[List.getElem?_replicate] at e2
    split at e2 <;> cases e2
    exact absurd rfl e3
  have znd:((ps.zip rvs).map (·.1)).Nodup:=by rw[zip_names hlen];exact pnd
  refine⟨⟨_,nsL,fun i x v e1 e2 e3 e4=>?_⟩,fun x c e=>⟨_,cellx x c e⟩,fun i x v c e1 e2 e3 e4 e5=>?_,fun b p=>?_,fun x y c e1 e2=>apart_inj apx (mem_of_lookup e1) (mem_of_lookup e2)⟩
  ·refine oea (val i x v e1 e2 e3) fun rv r1 r2=>?_
   exact⟨rv,bindL_get e4 _ _ znd r1,r2⟩
  ·refine oea (val i x v e1 e2 e3) fun rv r1 r2=>?_
   have hk:env.kindOf x=some .cell:=by
    unfold Env.kindOf at e4 ⊢
    rw[hsc] at e4 ⊢
    rcases kinds x (List.mem_of_getElem? e1) with q | q
    ·exact absurd q e4
    ·exact q.1
   have:=cellx x c e5
   rw[bindC_get hk _ _ znd r1] at this
   exact⟨rv,this,r2⟩
  ·refine oa2 (R.free (free b p)) fun _ f1 f2=>?_
   exact⟨f1,f2⟩
 have hA':Room n (A.deeper env):=by
  refine⟨hA.1,?_,?_⟩
  ·show A.depth+1+2*n<900
   have:=hA.2.1;exact ar547 this
  ·show A.units+3+10*n<9000
   have:=hA.2.2;exact ar548 this
 have irs:=ok.irs
 rw[← hsc] at irs
 refine wpAny_mono (soundSs g ir e0 irs h (A.deeper env) hA' F { s with heap:=h₁,toks:=tk } R1 L1) (fun fl s₂ z=>?_) fun _ _ z=>z.elim
 refine oea2 z fun σ' R2 L2 q=>?_
 induction fl using Flow.casesOn with
 | next=>exact⟨.none,rfl,σ'.heap,R2,q⟩
 | ret v=>exact⟨v,rfl,σ'.heap,R2,q⟩
 | brk=>exact q.elim
 | cont=>exact q.elim
end
section
noncomputable def ps_variableOf:List Str:=["literal"]
noncomputable def ns_variableOf:List Str:=["literal","number"]
noncomputable def ir_variableOf:List IS:=[.setv 1 (.bin .Add (.bin .RShift (.var 0) (.int 1)) (.int 1)),
 .ite (.cmp .Eq (.bin .BitAnd (.var 0) (.int 1)) (.int 1))
  [.ret (.neg (.var 1))]
  [],
 .ret (.var 1)]
noncomputable def ps_aigCnf:List Str:=["aig","literals"]
noncomputable def ns_aigCnf:List Str:=["aig","literals","clauses","variables","node","out","left","right"]
noncomputable def ir_aigCnf:List IS:=[.setv 2 (.list []),
 .setv 3 (.bin .Mult (.list [(.int 0)]) (.bf .len (.attr (.var 0) .nodes))),
 .for 4 (.fn .coneCnf [(.var 0),(.var 1)])
  [.setv 5 (.bin .Add (.var 4) (.int 1)),
   .setsub (.var 3) (.var 4) (.var 5),
   .ite (.cmp .Eq (.var 4) (.int 0))
    [.expr (.bm (.var 2) .append [(.tup [(.neg (.var 5))])])]
    [.ite (.mth (.var 0) .aIsAnd [(.var 4)])
     [.setv 6 (.fn .variableOf [(.sub (.sub (.attr (.var 0) .nodes) (.var 4)) (.int 0))]),
      .setv 7 (.fn .variableOf [(.sub (.sub (.attr (.var 0) .nodes) (.var 4)) (.int 1))]),
      .expr (.bm (.var 2) .append [(.tup [(.neg (.var 5)),(.var 6)])]),
      .expr (.bm (.var 2) .append [(.tup [(.neg (.var 5)),(.var 7)])]),
      .expr (.bm (.var 2) .append [(.tup [(.var 5),(.neg (.var 6)),(.neg (.var 7))])])]
     []]],
 .ret (.tup [(.var 2),(.var 3)])]
noncomputable def ps_luby:List Str:=["place"]
noncomputable def ns_luby:List Str:=["place","rest","bits"]
noncomputable def ir_luby:List IS:=[.setv 1 (.var 0),
 .whl (.bool true)
  [.setv 2 (.bm (.var 1) .bitlen []),
   .ite (.cmp .Eq (.var 1) (.bin .Sub (.bin .LShift (.int 1) (.var 2)) (.int 1)))
    [.ret (.bin .LShift (.int 1) (.bin .Sub (.var 2) (.int 1)))]
    [],
   .setv 1 (.bin .Add (.bin .Sub (.var 1) (.bin .LShift (.int 1) (.bin .Sub (.var 2) (.int 1)))) (.int 1))]]
noncomputable def ps_slot:List Str:=["literal"]
noncomputable def ns_slot:List Str:=["literal"]
noncomputable def ir_slot:List IS:=[.ite (.cmp .Lt (.var 0) (.int 0))
  [.ret (.bin .Sub (.int 1) (.bin .Mult (.int 2) (.var 0)))]
  [],
 .ret (.bin .Mult (.int 2) (.var 0))]
noncomputable def ps_plainClause:List Str:=["clause"]
noncomputable def ns_plainClause:List Str:=["clause","kept","literal"]
noncomputable def ir_plainClause:List IS:=[.setv 1 (.list []),
 .for 2 (.var 0)
  [.ite (.cmp .In (.neg (.var 2)) (.var 1))
    [.ret .none]
    [],
   .ite (.cmp .NotIn (.var 2) (.var 1))
    [.expr (.bm (.var 1) .append [(.var 2)])]
    []],
 .ret (.var 1)]
noncomputable def ps_sInit:List Str:=["self","count"]
noncomputable def ns_sInit:List Str:=["self","count"]
noncomputable def ir_sInit:List IS:=[.setattr (.var 0) .count (.var 1),
 .setattr (.var 0) .clauses (.list []),
 .setattr (.var 0) .watches (.comp (.list []) (.range [(.bin .Add (.bin .Mult (.int 2) (.var 1)) (.int 2))]) [] []),
 .setattr (.var 0) .values (.bin .Mult (.list [(.int 0)]) (.bin .Add (.var 1) (.int 1))),
 .setattr (.var 0) .levels (.bin .Mult (.list [(.int 0)]) (.bin .Add (.var 1) (.int 1))),
 .setattr (.var 0) .reasons (.bin .Mult (.list [(.neg (.int 1))]) (.bin .Add (.var 1) (.int 1))),
 .setattr (.var 0) .phases (.bin .Mult (.list [(.neg (.int 1))]) (.bin .Add (.var 1) (.int 1))),
 .setattr (.var 0) .activity (.bin .Mult (.list [(.int 0)]) (.bin .Add (.var 1) (.int 1))),
 .setattr (.var 0) .step (.int 1),
 .setattr (.var 0) .trail (.list []),
 .setattr (.var 0) .limits (.list []),
 .setattr (.var 0) .head (.int 0),
 .setattr (.var 0) .learned (.list []),
 .setattr (.var 0) .refuted (.bool false),
 .setattr (.var 0) .found (.bin .Mult (.list [(.bool false)]) (.bin .Add (.var 1) (.int 1)))]
noncomputable def ps_sValue:List Str:=["self","literal"]
noncomputable def ns_sValue:List Str:=["self","literal"]
noncomputable def ir_sValue:List IS:=[.ite (.cmp .Lt (.var 1) (.int 0))
  [.ret (.neg (.sub (.attr (.var 0) .values) (.neg (.var 1))))]
  [],
 .ret (.sub (.attr (.var 0) .values) (.var 1))]
noncomputable def ps_sLevel:List Str:=["self"]
noncomputable def ns_sLevel:List Str:=["self"]
noncomputable def ir_sLevel:List IS:=[.ret (.bf .len (.attr (.var 0) .limits))]
noncomputable def ps_sAdd:List Str:=["self","clause"]
noncomputable def ns_sAdd:List Str:=["self","clause","literals","rest","literal"]
noncomputable def ir_sAdd:List IS:=[.setv 2 (.fn .plainClause [(.var 1)]),
 .ite (.or [(.cmp .Is (.var 2) .none),(.attr (.var 0) .refuted)])
  [.ret0]
  [],
 .setv 3 (.list []),
 .for 4 (.var 2)
  [.ite (.cmp .Eq (.mth (.var 0) .sValue [(.var 4)]) (.int 1))
    [.ret0]
    [],
   .ite (.cmp .Eq (.mth (.var 0) .sValue [(.var 4)]) (.int 0))
    [.expr (.bm (.var 3) .append [(.var 4)])]
    []],
 .ite (.not (.var 3))
  [.expr (.mth (.var 0) .sRefute [])]
  [.ite (.cmp .Eq (.bf .len (.var 3)) (.int 1))
    [.expr (.mth (.var 0) .sAssign [(.sub (.var 3) (.int 0)),(.neg (.int 1))])]
    [.expr (.mth (.var 0) .sAttach [(.var 3)])]]]
noncomputable def ps_sAttach:List Str:=["self","literals"]
noncomputable def ns_sAttach:List Str:=["self","literals","number"]
noncomputable def ir_sAttach:List IS:=[.setv 2 (.bf .len (.attr (.var 0) .clauses)),
 .expr (.bm (.attr (.var 0) .clauses) .append [(.var 1)]),
 .expr (.bm (.sub (.attr (.var 0) .watches) (.fn .slot [(.sub (.var 1) (.int 0))])) .append [(.var 2)]),
 .expr (.bm (.sub (.attr (.var 0) .watches) (.fn .slot [(.sub (.var 1) (.int 1))])) .append [(.var 2)]),
 .ret (.var 2)]
noncomputable def ps_sLearn:List Str:=["self","literals"]
noncomputable def ns_sLearn:List Str:=["self","literals"]
noncomputable def ir_sLearn:List IS:=[.expr (.bm (.attr (.var 0) .learned) .append [(.bf .tuple (.var 1))]),
 .ite (.cmp .Eq (.bf .len (.var 1)) (.int 1))
  [.expr (.mth (.var 0) .sAssign [(.sub (.var 1) (.int 0)),(.neg (.int 1))])]
  [.expr (.mth (.var 0) .sAssign [(.sub (.var 1) (.int 0)),(.mth (.var 0) .sAttach [(.var 1)])])]]
noncomputable def ps_sRefute:List Str:=["self"]
noncomputable def ns_sRefute:List Str:=["self"]
noncomputable def ir_sRefute:List IS:=[.setattr (.var 0) .refuted (.bool true),
 .expr (.bm (.attr (.var 0) .learned) .append [(.tup [])])]
noncomputable def ps_sAssign:List Str:=["self","literal","reason"]
noncomputable def ns_sAssign:List Str:=["self","literal","reason","variable"]
noncomputable def ir_sAssign:List IS:=[.setv 3 (.bf .abs (.var 1)),
 .setsub (.attr (.var 0) .values) (.var 3) (.ite (.cmp .Gt (.var 1) (.int 0)) (.int 1) (.neg (.int 1))),
 .setsub (.attr (.var 0) .levels) (.var 3) (.mth (.var 0) .sLevel []),
 .setsub (.attr (.var 0) .reasons) (.var 3) (.var 2),
 .expr (.bm (.attr (.var 0) .trail) .append [(.var 1)])]
noncomputable def ps_sDecide:List Str:=["self","literal"]
noncomputable def ns_sDecide:List Str:=["self","literal"]
noncomputable def ir_sDecide:List IS:=[.expr (.bm (.attr (.var 0) .limits) .append [(.bf .len (.attr (.var 0) .trail))]),
 .expr (.mth (.var 0) .sAssign [(.var 1),(.neg (.int 1))])]
noncomputable def ps_sCancel:List Str:=["self","level"]
noncomputable def ns_sCancel:List Str:=["self","level","length","variable"]
noncomputable def ir_sCancel:List IS:=[.ite (.cmp .GtE (.var 1) (.mth (.var 0) .sLevel []))
  [.ret0]
  [],
 .setv 2 (.sub (.attr (.var 0) .limits) (.var 1)),
 .whl (.cmp .Gt (.bf .len (.attr (.var 0) .trail)) (.var 2))
  [.setv 3 (.bf .abs (.bm (.attr (.var 0) .trail) .pop0 [])),
   .setsub (.attr (.var 0) .phases) (.var 3) (.sub (.attr (.var 0) .values) (.var 3)),
   .setsub (.attr (.var 0) .values) (.var 3) (.int 0)],
 .setattr (.var 0) .limits (.upto (.attr (.var 0) .limits) (.var 1)),
 .setattr (.var 0) .head (.var 2)]
noncomputable def ps_sPropagate:List Str:=["self"]
noncomputable def ns_sPropagate:List Str:=["self","false","row","kept","conflict","number"]
noncomputable def ir_sPropagate:List IS:=[.whl (.cmp .Lt (.attr (.var 0) .head) (.bf .len (.attr (.var 0) .trail)))
  [.setv 1 (.neg (.sub (.attr (.var 0) .trail) (.attr (.var 0) .head))),
   .setattr (.var 0) .head (.bin .Add (.attr (.var 0) .head) (.int 1)),
   .setv 2 (.sub (.attr (.var 0) .watches) (.fn .slot [(.var 1)])),
   .setv 3 (.list []),
   .setv 4 (.neg (.int 1)),
   .for 5 (.var 2)
    [.ite (.or [(.cmp .GtE (.var 4) (.int 0)),(.mth (.var 0) .sStill [(.var 5),(.var 1)])])
     [.expr (.bm (.var 3) .append [(.var 5)]),
      .ite (.and [(.cmp .Lt (.var 4) (.int 0)),(.mth (.var 0) .sForces [(.var 5)])])
       [.setv 4 (.var 5)]
       []]
     []],
   .setsub (.attr (.var 0) .watches) (.fn .slot [(.var 1)]) (.var 3),
   .ite (.cmp .GtE (.var 4) (.int 0))
    [.ret (.var 4)]
    []],
 .ret (.neg (.int 1))]
noncomputable def ps_sStill:List Str:=["self","number","false"]
noncomputable def ns_sStill:List Str:=["self","number","false","clause","place"]
noncomputable def ir_sStill:List IS:=[.setv 3 (.sub (.attr (.var 0) .clauses) (.var 1)),
 .ite (.cmp .Eq (.sub (.var 3) (.int 0)) (.var 2))
  [.setsub (.var 3) (.int 0) (.sub (.var 3) (.int 1)),
   .setsub (.var 3) (.int 1) (.var 2)]
  [],
 .ite (.cmp .Eq (.mth (.var 0) .sValue [(.sub (.var 3) (.int 0))]) (.int 1))
  [.ret (.bool true)]
  [],
 .for 4 (.range [(.int 2),(.bf .len (.var 3))])
  [.ite (.cmp .GtE (.mth (.var 0) .sValue [(.sub (.var 3) (.var 4))]) (.int 0))
    [.setsub (.var 3) (.int 1) (.sub (.var 3) (.var 4)),
    .setsub (.var 3) (.var 4) (.var 2),
    .expr (.bm (.sub (.attr (.var 0) .watches) (.fn .slot [(.sub (.var 3) (.int 1))])) .append [(.var 1)]),
    .ret (.bool false)]
    []],
 .ret (.bool true)]
noncomputable def ps_sForces:List Str:=["self","number"]
noncomputable def ns_sForces:List Str:=["self","number","first"]
noncomputable def ir_sForces:List IS:=[.setv 2 (.sub (.sub (.attr (.var 0) .clauses) (.var 1)) (.int 0)),
 .ite (.cmp .Eq (.mth (.var 0) .sValue [(.var 2)]) (.int 0))
  [.expr (.mth (.var 0) .sAssign [(.var 2),(.var 1)])]
  [],
 .ret (.cmp .Lt (.mth (.var 0) .sValue [(.var 2)]) (.int 0))]
noncomputable def ps_sBump:List Str:=["self","variable"]
noncomputable def ns_sBump:List Str:=["self","variable","other"]
noncomputable def ir_sBump:List IS:=[.augsub (.attr (.var 0) .activity) (.var 1) .Add (.attr (.var 0) .step),
 .ite (.cmp .Gt (.sub (.attr (.var 0) .activity) (.var 1)) (.glob "ACTIVITY_LIMIT" 1000000000000))
  [.for 2 (.range [(.int 1),(.bin .Add (.attr (.var 0) .count) (.int 1))])
    [.setsub (.attr (.var 0) .activity) (.var 2) (.bin .FloorDiv (.sub (.attr (.var 0) .activity) (.var 2)) (.glob "ACTIVITY_SCALE" 1000000))],
   .setattr (.var 0) .step (.bin .Add (.bin .FloorDiv (.attr (.var 0) .step) (.glob "ACTIVITY_SCALE" 1000000)) (.int 1))]
  []]
noncomputable def ps_sAnalyze:List Str:=["self","conflict"]
noncomputable def ns_sAnalyze:List Str:=["self","conflict","seen","rest","open_count","place","number","skipped","literal","variable"]
noncomputable def ir_sAnalyze:List IS:=[.setv 2 (.bin .Mult (.list [(.bool false)]) (.bin .Add (.attr (.var 0) .count) (.int 1))),
 .setv 3 (.list []),
 .setv 4 (.int 0),
 .setv 5 (.bf .len (.attr (.var 0) .trail)),
 .setv 6 (.var 1),
 .setv 7 (.int 0),
 .whl (.bool true)
  [.for 8 (.sub (.attr (.var 0) .clauses) (.var 6))
    [.setv 9 (.bf .abs (.var 8)),
    .ite (.and [(.cmp .NotEq (.var 8) (.var 7)),(.not (.sub (.var 2) (.var 9))),(.cmp .Gt (.sub (.attr (.var 0) .levels) (.var 9)) (.int 0))])
     [.setsub (.var 2) (.var 9) (.bool true),
      .expr (.mth (.var 0) .sBump [(.var 9)]),
      .ite (.cmp .Eq (.sub (.attr (.var 0) .levels) (.var 9)) (.mth (.var 0) .sLevel []))
       [.setv 4 (.bin .Add (.var 4) (.int 1))]
       [.expr (.bm (.var 3) .append [(.var 8)])]]
     []],
   .setv 5 (.bin .Sub (.var 5) (.int 1)),
   .whl (.not (.sub (.var 2) (.bf .abs (.sub (.attr (.var 0) .trail) (.var 5)))))
    [.setv 5 (.bin .Sub (.var 5) (.int 1))],
   .setv 7 (.sub (.attr (.var 0) .trail) (.var 5)),
   .setv 4 (.bin .Sub (.var 4) (.int 1)),
   .ite (.cmp .Eq (.var 4) (.int 0))
    [.ret (.mth (.var 0) .sOrdered [(.neg (.var 7)),(.var 3)])]
    [],
   .setv 6 (.sub (.attr (.var 0) .reasons) (.bf .abs (.var 7)))]]
noncomputable def ps_sOrdered:List Str:=["self","first","rest"]
noncomputable def ns_sOrdered:List Str:=["self","first","rest","best","place"]
noncomputable def ir_sOrdered:List IS:=[.setv 3 (.int 0),
 .for 4 (.range [(.int 1),(.bf .len (.var 2))])
  [.ite (.cmp .Gt (.sub (.attr (.var 0) .levels) (.bf .abs (.sub (.var 2) (.var 4)))) (.sub (.attr (.var 0) .levels) (.bf .abs (.sub (.var 2) (.var 3)))))
    [.setv 3 (.var 4)]
    []],
 .ite (.not (.var 2))
  [.ret (.tup [(.list [(.var 1)]),(.int 0)])]
  [],
 .unpack [.s (.var 2) (.int 0),.s (.var 2) (.var 3)] (.tup [(.sub (.var 2) (.var 3)),(.sub (.var 2) (.int 0))]),
 .ret (.tup [(.bin .Add (.list [(.var 1)]) (.var 2)),(.sub (.attr (.var 0) .levels) (.bf .abs (.sub (.var 2) (.int 0))))])]
noncomputable def ps_sFree:List Str:=["self"]
noncomputable def ns_sFree:List Str:=["self","best","variable"]
noncomputable def ir_sFree:List IS:=[.setv 1 (.int 0),
 .for 2 (.range [(.int 1),(.bin .Add (.attr (.var 0) .count) (.int 1))])
  [.ite (.and [(.cmp .Eq (.sub (.attr (.var 0) .values) (.var 2)) (.int 0)),(.or [(.cmp .Eq (.var 1) (.int 0)),(.cmp .Gt (.sub (.attr (.var 0) .activity) (.var 2)) (.sub (.attr (.var 0) .activity) (.var 1)))])])
    [.setv 1 (.var 2)]
    []],
 .ret (.var 1)]
noncomputable def ps_sAssume:List Str:=["self","assumptions"]
noncomputable def ns_sAssume:List Str:=["self","assumptions","literal"]
noncomputable def ir_sAssume:List IS:=[.whl (.cmp .Lt (.mth (.var 0) .sLevel []) (.bf .len (.var 1)))
  [.setv 2 (.sub (.var 1) (.mth (.var 0) .sLevel [])),
   .ite (.cmp .NotEq (.mth (.var 0) .sValue [(.var 2)]) (.int 1))
    [.ret (.var 2)]
    [],
   .expr (.bm (.attr (.var 0) .limits) .append [(.bf .len (.attr (.var 0) .trail))])],
 .ret (.int 0)]
noncomputable def ps_sSolve:List Str:=["self","assumptions","most"]
noncomputable def ns_sSolve:List Str:=["self","assumptions","most","conflicts","since","turn","conflict","literals","back","literal"]
noncomputable def ir_sSolve:List IS:=[.setv 3 (.int 0),
 .setv 4 (.int 0),
 .setv 5 (.int 1),
 .whl (.not (.attr (.var 0) .refuted))
  [.setv 6 (.mth (.var 0) .sPropagate []),
   .ite (.cmp .GtE (.var 6) (.int 0))
    [.ite (.cmp .Eq (.mth (.var 0) .sLevel []) (.int 0))
     [.expr (.mth (.var 0) .sRefute [])]
     [.setv 3 (.bin .Add (.var 3) (.int 1)),
      .setv 4 (.bin .Add (.var 4) (.int 1)),
      .unpack [.v 7,.v 8] (.mth (.var 0) .sAnalyze [(.var 6)]),
      .expr (.mth (.var 0) .sCancel [(.var 8)]),
      .expr (.mth (.var 0) .sLearn [(.var 7)]),
      .setattr (.var 0) .step (.bin .Add (.bin .Add (.attr (.var 0) .step) (.bin .FloorDiv (.attr (.var 0) .step) (.int 16))) (.int 1)),
      .ite (.cmp .GtE (.var 3) (.var 2))
       [.ret (.mth (.var 0) .sLeave [.none])]
       []]]
    [.ite (.cmp .GtE (.var 4) (.bin .Mult (.glob "RESTART_UNIT" 32) (.fn .luby [(.var 5)])))
     [.setv 4 (.int 0),
      .setv 5 (.bin .Add (.var 5) (.int 1)),
      .expr (.mth (.var 0) .sCancel [(.int 0)])]
     [.setv 9 (.mth (.var 0) .sAssume [(.var 1)]),
      .ite (.and [(.cmp .NotEq (.var 9) (.int 0)),(.cmp .Lt (.mth (.var 0) .sValue [(.var 9)]) (.int 0))])
       [.ret (.mth (.var 0) .sLeave [(.bool false)])]
       [],
      .ite (.cmp .Eq (.var 9) (.int 0))
       [.setv 9 (.mth (.var 0) .sFree []),
       .ite (.cmp .Eq (.var 9) (.int 0))
        [.setattr (.var 0) .found (.comp (.cmp .Eq (.var 0) (.int 1)) (.attr (.var 0) .values) [] []),
         .ret (.mth (.var 0) .sLeave [(.bool true)])]
        [],
       .setv 9 (.bin .Mult (.var 9) (.sub (.attr (.var 0) .phases) (.var 9)))]
       [],
      .expr (.mth (.var 0) .sDecide [(.var 9)])]]],
 .ret (.bool false)]
noncomputable def ps_sLeave:List Str:=["self","answer"]
noncomputable def ns_sLeave:List Str:=["self","answer"]
noncomputable def ir_sLeave:List IS:=[.expr (.mth (.var 0) .sCancel [(.int 0)]),
 .ret (.var 1)]
noncomputable def ps_sModel:List Str:=["self"]
noncomputable def ns_sModel:List Str:=["self"]
noncomputable def ir_sModel:List IS:=[.ret (.bf .list (.attr (.var 0) .found))]
noncomputable def ps_fullTable:List Str:=["k"]
noncomputable def ns_fullTable:List Str:=["k"]
noncomputable def ir_fullTable:List IS:=[.ret (.bin .Sub (.bin .LShift (.int 1) (.bin .LShift (.int 1) (.var 0))) (.int 1))]
noncomputable def ps_varTable:List Str:=["i","k"]
noncomputable def ns_varTable:List Str:=["i","k","full"]
noncomputable def ir_varTable:List IS:=[.setv 2 (.fn .fullTable [(.var 1)]),
 .ret (.bin .BitXor (.var 2) (.bin .FloorDiv (.var 2) (.bin .Add (.bin .LShift (.int 1) (.bin .LShift (.int 1) (.var 0))) (.int 1))))]
noncomputable def ps_lowBit:List Str:=["n"]
noncomputable def ns_lowBit:List Str:=["n","place"]
noncomputable def ir_lowBit:List IS:=[.setv 1 (.int 0),
 .whl (.cmp .Eq (.bin .BitAnd (.bin .RShift (.var 0) (.var 1)) (.int 1)) (.int 0))
  [.augv 1 .Add (.int 1)],
 .ret (.var 1)]
noncomputable def ps_aInit:List Str:=["self"]
noncomputable def ns_aInit:List Str:=["self"]
noncomputable def ir_aInit:List IS:=[.setattr (.var 0) .nodes (.list [.none]),
 .setattr (.var 0) .inputs (.list []),
 .setattr (.var 0) .outputs (.list []),
 .setattr (.var 0) .table (.dict0 true)]
noncomputable def ps_aAddInput:List Str:=["self"]
noncomputable def ns_aAddInput:List Str:=["self","node"]
noncomputable def ir_aAddInput:List IS:=[.setv 1 (.bf .len (.attr (.var 0) .nodes)),
 .expr (.bm (.attr (.var 0) .nodes) .append [.none]),
 .expr (.bm (.attr (.var 0) .inputs) .append [(.var 1)]),
 .ret (.bin .Mult (.int 2) (.var 1))]
noncomputable def ps_aIsAnd:List Str:=["self","node"]
noncomputable def ns_aIsAnd:List Str:=["self","node"]
noncomputable def ir_aIsAnd:List IS:=[.ret (.cmp .IsNot (.sub (.attr (.var 0) .nodes) (.var 1)) .none)]
noncomputable def ps_aLand:List Str:=["self","l","r"]
noncomputable def ns_aLand:List Str:=["self","l","r","node"]
noncomputable def ir_aLand:List IS:=[.ite (.cmp .Gt (.var 1) (.var 2))
  [.swap 1 2]
  [],
 .ite (.or [(.cmp .Eq (.var 1) (.int 0)),(.cmp .Eq (.var 1) (.bin .BitXor (.var 2) (.int 1)))])
  [.ret (.int 0)]
  [],
 .ite (.or [(.cmp .Eq (.var 1) (.int 1)),(.cmp .Eq (.var 1) (.var 2))])
  [.ret (.var 2)]
  [],
 .setv 3 (.bm (.attr (.var 0) .table) .get2 [(.tup [(.var 1),(.var 2)]),(.neg (.int 1))]),
 .ite (.cmp .Lt (.var 3) (.int 0))
  [.setv 3 (.bf .len (.attr (.var 0) .nodes)),
   .expr (.bm (.attr (.var 0) .nodes) .append [(.tup [(.var 1),(.var 2)])]),
   .setsub (.attr (.var 0) .table) (.tup [(.var 1),(.var 2)]) (.var 3)]
  [],
 .ret (.bin .Mult (.int 2) (.var 3))]
noncomputable def ps_literalWord:List Str:=["words","literal","mask"]
noncomputable def ns_literalWord:List Str:=["words","literal","mask"]
noncomputable def ir_literalWord:List IS:=[.ite (.cmp .Eq (.bin .BitAnd (.var 1) (.int 1)) (.int 1))
  [.ret (.bin .BitXor (.sub (.var 0) (.bin .RShift (.var 1) (.int 1))) (.var 2))]
  [],
 .ret (.sub (.var 0) (.bin .RShift (.var 1) (.int 1)))]
noncomputable def ps_coneInputs:List Str:=["aig","nodes"]
noncomputable def ns_coneInputs:List Str:=["aig","nodes"]
noncomputable def ir_coneInputs:List IS:=[.ret (.comp (.var 0) (.var 1) [(.not (.mth (.var 1) .aIsAnd [(.var 0)]))] [0])]
noncomputable def ps_coneWords:List Str:=["aig","nodes","inputs"]
noncomputable def ns_coneWords:List Str:=["aig","nodes","inputs","k","full","words","i","node","pair","left"]
noncomputable def ir_coneWords:List IS:=[.setv 3 (.bf .len (.var 2)),
 .setv 4 (.fn .fullTable [(.var 3)]),
 .setv 5 (.dict1 0 0),
 .for 6 (.range [(.var 3)])
  [.setsub (.var 5) (.sub (.var 2) (.var 6)) (.fn .varTable [(.var 6),(.var 3)])],
 .for 7 (.var 1)
  [.setv 8 (.sub (.attr (.var 0) .nodes) (.var 7)),
   .ite (.cmp .IsNot (.var 8) .none)
    [.setv 9 (.fn .literalWord [(.var 5),(.sub (.var 8) (.int 0)),(.var 4)]),
    .setsub (.var 5) (.var 7) (.bin .BitAnd (.var 9) (.fn .literalWord [(.var 5),(.sub (.var 8) (.int 1)),(.var 4)]))]
    []],
 .ret (.var 5)]
noncomputable def ps_tableDifference:List Str:=["aig","left","right","nodes","inputs"]
noncomputable def ns_tableDifference:List Str:=["aig","left","right","nodes","inputs","words","full","differ","row","bits","i"]
noncomputable def ir_tableDifference:List IS:=[.setv 5 (.fn .coneWords [(.var 0),(.var 3),(.var 4)]),
 .setv 6 (.fn .fullTable [(.bf .len (.var 4))]),
 .setv 7 (.bin .BitXor (.fn .literalWord [(.var 5),(.var 1),(.var 6)]) (.fn .literalWord [(.var 5),(.var 2),(.var 6)])),
 .ite (.cmp .Eq (.var 7) (.int 0))
  [.ret .none]
  [],
 .setv 8 (.fn .lowBit [(.var 7)]),
 .setv 9 (.dict0 false),
 .for 10 (.range [(.bf .len (.var 4))])
  [.setsub (.var 9) (.sub (.var 4) (.var 10)) (.bin .BitAnd (.bin .RShift (.var 8) (.var 10)) (.int 1))],
 .ret (.var 9)]
noncomputable def ps_solverParting:List Str:=["aig","left","right","inputs","conflicts"]
noncomputable def ns_solverParting:List Str:=["aig","left","right","inputs","conflicts","solver","clause","answer","bits","model","node"]
noncomputable def ir_solverParting:List IS:=[.setv 5 (.cls .solver [(.bf .len (.attr (.var 0) .nodes))]),
 .for 6 (.sub (.fn .aigCnf [(.var 0),(.list [(.var 1),(.var 2)])]) (.int 0))
  [.expr (.mth (.var 5) .sAdd [(.var 6)])],
 .expr (.mth (.var 5) .sAdd [(.tup [(.fn .variableOf [(.var 1)]),(.fn .variableOf [(.var 2)])])]),
 .expr (.mth (.var 5) .sAdd [(.tup [(.neg (.fn .variableOf [(.var 1)])),(.neg (.fn .variableOf [(.var 2)]))])]),
 .setv 7 (.mth (.var 5) .sSolve [(.tup []),(.var 4)]),
 .ite (.cmp .Is (.var 7) .none)
  [.ret .none]
  [],
 .setv 8 (.dict0 false),
 .ite (.var 7)
  [.setv 9 (.mth (.var 5) .sModel []),
   .for 10 (.var 3)
    [.setsub (.var 8) (.var 10) (.ite (.sub (.var 9) (.bin .Add (.var 10) (.int 1))) (.int 1) (.int 0))]]
  [],
 .ret (.var 8)]
noncomputable def ps_parting:List Str:=["aig","left","right","conflicts"]
noncomputable def ns_parting:List Str:=["aig","left","right","conflicts","nodes","inputs","bits"]
noncomputable def ir_parting:List IS:=[.setv 4 (.fn .coneEquiv [(.var 0),(.tup [(.var 1),(.var 2)])]),
 .setv 5 (.fn .coneInputs [(.var 0),(.var 4)]),
 .ite (.cmp .LtE (.bf .len (.var 5)) (.glob "TABLE_INPUTS" 6))
  [.setv 6 (.fn .tableDifference [(.var 0),(.var 1),(.var 2),(.var 4),(.var 5)]),
   .ret (.ite (.cmp .Is (.var 6) .none) (.dict0 false) (.var 6))]
  [],
 .ret (.fn .solverParting [(.var 0),(.var 1),(.var 2),(.var 5),(.var 3)])]
noncomputable def ps_lSalt:List Str:=["script"]
noncomputable def ns_lSalt:List Str:=["script","salt","cell","rest"]
noncomputable def ir_lSalt:List IS:=[.setv 1 (.list []),
 .for 2 (.upto (.var 0) (.int 30))
  [.setv 3 (.ite (.cmp .GtE (.var 2) (.int 0)) (.var 2) (.bin .Sub (.int 3) (.bin .Mult (.int 2) (.var 2)))),
   .whl (.cmp .Lt (.bf .len (.var 1)) (.int 50))
    [.expr (.bm (.var 1) .append [(.bin .Mod (.var 3) (.int 157))]),
    .setv 3 (.bin .FloorDiv (.var 3) (.int 157)),
    .ite (.cmp .Eq (.var 3) (.int 0))
     [.brk]
     []]],
 .expr (.bm (.var 1) .reverse []),
 .ret (.var 1)]
noncomputable def ps_lPinch:List Str:=["salt","many"]
noncomputable def ns_lPinch:List Str:=["salt","many"]
noncomputable def ir_lPinch:List IS:=[.ite (.cmp .Eq (.var 0) (.list []))
  [.ret (.int 0)]
  [],
 .ret (.bin .Mod (.bm (.var 0) .pop0 []) (.var 1))]
noncomputable def ps_lValues:List Str:=["aig","line"]
noncomputable def ns_lValues:List Str:=["aig","line","found","spot","one","two"]
noncomputable def ir_lValues:List IS:=[.setv 2 (.list []),
 .for 3 (.range [(.bf .len (.attr (.var 0) .nodes))])
  [.ite (.cmp .IsNot (.sub (.attr (.var 0) .nodes) (.var 3)) .none)
    [.unpack [.v 4,.v 5] (.sub (.attr (.var 0) .nodes) (.var 3)),
    .expr (.bm (.var 2) .append [(.bin .Mult (.bin .Mod (.bin .Add (.sub (.var 2) (.bin .FloorDiv (.var 4) (.int 2))) (.var 4)) (.int 2)) (.bin .Mod (.bin .Add (.sub (.var 2) (.bin .FloorDiv (.var 5) (.int 2))) (.var 5)) (.int 2)))])]
    [.ite (.cmp .In (.var 3) (.attr (.var 0) .inputs))
     [.expr (.bm (.var 2) .append [(.bin .Mod (.bin .FloorDiv (.var 1) (.bin .Pow (.int 2) (.bm (.attr (.var 0) .inputs) .index [(.var 3)]))) (.int 2))])]
     [.expr (.bm (.var 2) .append [(.int 0)])]]],
 .ret (.var 2)]
noncomputable def ps_lBelow:List Str:=["aig","literals"]
noncomputable def ns_lBelow:List Str:=["aig","literals","waiting","seen","spot"]
noncomputable def ir_lBelow:List IS:=[.asgComp 2 (.comp (.bin .FloorDiv (.var 0) (.int 2)) (.var 1) [] []),
 .setv 3 (.list []),
 .whl (.cmp .NotEq (.var 2) (.list []))
  [.setv 4 (.bm (.var 2) .pop0 []),
   .ite (.cmp .NotIn (.var 4) (.var 3))
    [.expr (.bm (.var 3) .append [(.var 4)]),
    .ite (.cmp .IsNot (.sub (.attr (.var 0) .nodes) (.var 4)) .none)
     [.setv 2 (.bin .Add (.var 2) (.list [(.bin .FloorDiv (.sub (.sub (.attr (.var 0) .nodes) (.var 4)) (.int 0)) (.int 2)),(.bin .FloorDiv (.sub (.sub (.attr (.var 0) .nodes) (.var 4)) (.int 1)) (.int 2))]))]
     []]
    []],
 .ret (.comp (.var 0) (.attr (.var 0) .inputs) [(.cmp .In (.var 0) (.var 1))] [3])]
noncomputable def ps_lRight:List Str:=["aig","left","right"]
noncomputable def ns_lRight:List Str:=["aig","left","right","many","differs","line","found","told","at"]
noncomputable def ir_lRight:List IS:=[.setv 3 (.bf .len (.attr (.var 0) .inputs)),
 .setv 4 (.list []),
 .for 5 (.range [(.bin .Pow (.int 2) (.var 3))])
  [.setv 6 (.fn .lValues [(.var 0),(.var 5)]),
   .ite (.cmp .Eq (.bin .Mod (.bin .Add (.bin .Add (.bin .Add (.sub (.var 6) (.bin .FloorDiv (.var 1) (.int 2))) (.var 1)) (.sub (.var 6) (.bin .FloorDiv (.var 2) (.int 2)))) (.var 2)) (.int 2)) (.int 1))
    [.expr (.bm (.var 4) .append [(.var 5)])]
    []],
 .setv 7 (.fn .parting [(.var 0),(.var 1),(.var 2),(.int 1000)]),
 .ite (.or [(.cmp .Is (.var 7) .none),(.cmp .NotEq (.cmp .Eq (.var 7) (.dict0 false)) (.cmp .Eq (.var 4) (.list [])))])
  [.ret (.bool false)]
  [],
 .ite (.cmp .Eq (.var 4) (.list []))
  [.ret (.bool true)]
  [],
 .ite (.cmp .NotEq (.bf .sorted (.var 7)) (.fn .lBelow [(.var 0),(.list [(.var 1),(.var 2)])]))
  [.ret (.bool false)]
  [],
 .setv 5 (.int 0),
 .for 8 (.range [(.var 3)])
  [.augv 5 .Add (.bin .Mult (.bm (.var 7) .get2 [(.sub (.attr (.var 0) .inputs) (.var 8)),(.int 0)]) (.bin .Pow (.int 2) (.var 8)))],
 .ret (.cmp .In (.var 5) (.var 4))]
noncomputable def ps_lChain:List Str:=["salt","aig","skipped","turned"]
noncomputable def ns_lChain:List Str:=["salt","aig","skipped","turned","order_now","made","at","literal"]
noncomputable def ir_lChain:List IS:=[.setv 4 (.bf .list (.range [(.int 7)])),
 .setv 5 (.int 1),
 .whl (.cmp .NotEq (.var 4) (.list []))
  [.setv 6 (.bm (.var 4) .pop1 [(.fn .lPinch [(.var 0),(.bf .len (.var 4))])]),
   .setv 7 (.bin .Add (.bin .Mult (.int 2) (.sub (.attr (.var 1) .inputs) (.var 6))) (.ite (.cmp .Eq (.var 6) (.var 3)) (.int 1) (.int 0))),
   .ite (.cmp .NotEq (.var 6) (.var 2))
    [.setv 5 (.mth (.var 1) .aLand [(.var 5),(.var 7)])]
    []],
 .ret (.var 5)]
noncomputable def ps_law:List Str:=["script"]
noncomputable def ns_law:List Str:=["script","salt","aig","lap","size","left","right","long","first","second"]
noncomputable def ir_law:List IS:=[.setv 1 (.fn .lSalt [(.var 0)]),
 .setv 2 (.cls .aig []),
 .for 3 (.range [(.bin .Add (.int 2) (.fn .lPinch [(.var 1),(.int 3)]))])
  [.expr (.mth (.var 2) .aAddInput [])],
 .for 3 (.range [(.fn .lPinch [(.var 1),(.int 6)])])
  [.setv 4 (.bin .Mult (.int 2) (.bf .len (.attr (.var 2) .nodes))),
   .expr (.mth (.var 2) .aLand [(.bin .Add (.int 2) (.fn .lPinch [(.var 1),(.bin .Sub (.var 4) (.int 2))])),(.bin .Sub (.bin .Sub (.var 4) (.int 1)) (.fn .lPinch [(.var 1),(.bin .Sub (.var 4) (.int 2))]))])],
 .setv 4 (.bin .Mult (.int 2) (.bf .len (.attr (.var 2) .nodes))),
 .setv 5 (.bin .Add (.int 2) (.fn .lPinch [(.var 1),(.bin .Sub (.var 4) (.int 2))])),
 .setv 6 (.bin .Sub (.bin .Sub (.var 4) (.int 1)) (.fn .lPinch [(.var 1),(.bin .Sub (.var 4) (.int 2))])),
 .ite (.or [(.not (.fn .lRight [(.var 2),(.var 5),(.var 6)])),(.not (.fn .lRight [(.var 2),(.var 5),(.var 5)]))])
  [.ret (.bool false)]
  [],
 .setv 7 (.cls .aig []),
 .for 3 (.range [(.int 7)])
  [.expr (.mth (.var 7) .aAddInput [])],
 .setv 8 (.fn .lChain [(.var 1),(.var 7),(.int 9),(.int 9)]),
 .setv 9 (.fn .lChain [(.var 1),(.var 7),(.fn .lPinch [(.var 1),(.int 10)]),(.fn .lPinch [(.var 1),(.int 12)])]),
 .ret (.fn .lRight [(.var 7),(.var 8),(.var 9)])]
noncomputable def ps_coneCnf:List Str:=["aig","literals"]
noncomputable def ns_coneCnf:List Str:=["aig","literals","used","literal","node","left","right"]
noncomputable def ir_coneCnf:List IS:=[.setv 2 (.bin .Mult (.list [(.bool false)]) (.bf .len (.attr (.var 0) .nodes))),
 .for 3 (.var 1)
  [.setsub (.var 2) (.bin .RShift (.var 3) (.int 1)) (.bool true)],
 .for 4 (.range [(.bin .Sub (.bf .len (.attr (.var 0) .nodes)) (.int 1)),(.int 0),(.neg (.int 1))])
  [.ite (.and [(.sub (.var 2) (.var 4)),(.mth (.var 0) .aIsAnd [(.var 4)])])
    [.unpack [.v 5,.v 6] (.sub (.attr (.var 0) .nodes) (.var 4)),
    .setsub (.var 2) (.bin .RShift (.var 5) (.int 1)) (.bool true),
    .setsub (.var 2) (.bin .RShift (.var 6) (.int 1)) (.bool true)]
    []],
 .ret (.comp (.var 0) (.range [(.bf .len (.attr (.var 0) .nodes))]) [(.sub (.var 1) (.var 0))] [2])]
noncomputable def ps_coneEquiv:List Str:=["aig","literals"]
noncomputable def ns_coneEquiv:List Str:=["aig","literals","seen","stack","literal","node","pair"]
noncomputable def ir_coneEquiv:List IS:=[.setv 2 (.dict0 false),
 .setv 3 (.list []),
 .for 4 (.var 1)
  [.expr (.bm (.var 3) .append [(.bin .RShift (.var 4) (.int 1))])],
 .whl (.var 3)
  [.setv 5 (.bm (.var 3) .pop0 []),
   .ite (.and [(.cmp .NotEq (.var 5) (.int 0)),(.cmp .NotIn (.var 5) (.var 2))])
    [.setsub (.var 2) (.var 5) (.bool true),
    .setv 6 (.sub (.attr (.var 0) .nodes) (.var 5)),
    .ite (.cmp .IsNot (.var 6) .none)
     [.expr (.bm (.var 3) .append [(.bin .RShift (.sub (.var 6) (.int 0)) (.int 1))]),
      .expr (.bm (.var 3) .append [(.bin .RShift (.sub (.var 6) (.int 1)) (.int 1))])]
     []]
    []],
 .ret (.bf .sorted (.var 2))]
end
section
set_option tactic.hygienic true
theorem zip_lookup{ps:List Str}(hn:ps.Nodup):∀{rvs:List Value},rvs.length=ps.length→∀{i:Nat} {x:Str} {v:Value},ps[i]?=some x→rvs[i]?=some v→(ps.zip rvs).lookup x=some v:=by
 induction ps with
 | nil=>intro rvs _ i x v h;simp at h
 | cons p r ih=>
  intro rvs hl i x v h1 h2
  rw[List.nodup_cons] at hn
  induction rvs using List.casesOn with
  | nil=>simp at hl
  | cons w t=>
   rw[List.zip_cons_cons,List.lookup_cons]
   induction i using Nat.casesOn with
   | zero=>simp at h1 h2;subst h1 h2;simp
   | succ j=>
    have:x≠p:=fun e=>hn.1 (e▸List.mem_of_getElem? (by simpa using h1))
    have:(x==p)=false:=by simpa using this
    rw[this]
    exact ih hn.2 (by simpa using hl) (by simpa using h1) (by simpa using h2)
theorem zip_some{ps:List Str}(hn:ps.Nodup){rvs:List Value}(hl:rvs.length=ps.length){x:Str}(h:x∈ps):((ps.zip rvs).lookup x).isSome=true:=by
 refine oe (List.getElem?_of_mem h) fun i hi=>?_
 have hlt:=(List.getElem?_eq_some_iff.mp hi).1
 have:rvs[i]?=some rvs[i]:=List.getElem?_eq_getElem (by omega)
 rw[zip_lookup hn hl hi this];rfl
theorem zip_filterMap{ps:List Str}{l:List (Str × Value)}:∀{rvs:List Value},rvs.length=ps.length→(∀(i:Nat) (x:Str) (v:Value),ps[i]?=some x→rvs[i]?=some v→l.lookup x=some v)→(ps.filterMap fun n=>(l.lookup n).map (n,·))=ps.zip rvs:=by
 induction ps with
 | nil=>intro rvs h _;induction rvs using List.casesOn with | nil=>rfl | cons=>simp at h
 | cons p r ih=>
  intro rvs hl h
  induction rvs using List.casesOn with
  | nil=>simp at hl
  | cons w t=>
   rw[List.filterMap_cons,h 0 p w (by simp) (by simp),List.zip_cons_cons]
   simp only[Option.map_some]
   rw[ih (by simpa using hl) fun i x v h1 h2=>h (i+1) x v (by simpa using h1) (by simpa using h2)]
noncomputable def simpleParams(fd:FuncData)(ps:List Str):Bool:=
 fd.params.posonlyargs.isEmpty&&(fd.params.args.map (·.arg)==ps)&&fd.params.vararg.isNone&&fd.params.kwonlyargs.isEmpty&&fd.params.kwarg.isNone
theorem wpI{α:Type}{M:Model}{A:Around}{c:Prop}[Decidable c]{a b:Sem α}{Q:α→Shared→Prop}{E:Value→Shared→Prop}{s:Shared}(h:¬ c)(k:wpAny M A b Q E s):wpAny M A (if c then a else b) Q E s:=by rw[if_neg h];exact k
theorem binds_simple{K:Frag}{fd:FuncData}{ps:List Str}(hs:simpleParams fd ps=true)(hn:ps.Nodup)(hd:fd.defaults=.none∨∃T o items n,fd.defaults=.ref T∧K.lookup T=some o∧o.data=.seq items n):
  ∀s:Shared,K.In s.heap→∀rvs:List Value,rvs.length=ps.length→BindsTo s fd ⟨rvs,[]⟩ (ps.zip rvs):=by
 intro s X rvs hl M A E Q q
 obtain⟨nm,qn,P,bd,sc,gl,cl,df,kd,dc,pm,an,cd,ct,bi⟩:=fd
 obtain⟨po,ar,va,kw,kdf,ka,dfs⟩:=P
 simp only[simpleParams,Bool.and_eq_true,List.isEmpty_iff,beq_iff_eq,Option.isNone_iff_eq_none] at hs
 obtain⟨⟨⟨⟨rfl,rfl⟩,rfl⟩,rfl⟩,rfl⟩:=hs
 have hbind:∀{β:Type} (k:Option (Array Value)→Sem β) {Q:β→Shared→Prop},(∀r,wpAny M A (k r) Q E s)→wpAny M A (seqItems? df >>= k) Q E s:=fun k Q h=>by
  rcases hd with e | ⟨T,o,items,n,e,ho,hdd⟩
  ·have e:df=.none:=e
   rw[e];exact wpAny_bind (wpAny_pure (h _))
  ·have e:df=.ref T:=e
   rw[e];exact wpAny_bind (wpAny_seqItems (X _ _ ho) hdd (h _))
 have hmiss:∀k,List.filter (fun n=>(List.lookup n ((List.map (fun x=>x.arg) ar).zip rvs)).isNone) (List.take k (List.map (fun x=>x.arg) ar))=[]:=by
  intro k
  rw[List.filter_eq_nil_iff]
  intro x hx
  have:=zip_some hn hl (List.mem_of_mem_take hx)
  induction h:List.lookup x ((List.map (fun x=>x.arg) ar).zip rvs) using Option.casesOn with
  | none=>rw[h] at this;cases this
  | some v=>simp
 have hloop:∀l:List (Str × Value),(∀p∈l,p.1∈List.map (fun x=>x.arg) ar)→(forIn l ((List.map (fun x=>x.arg) ar).zip rvs) (fun x c=>if (List.lookup x.fst c).isNone=true then pure (ForInStep.yield (c++[(x.fst,x.snd)])) else pure (ForInStep.yield c)):Sem (List (Str × Value)))=pure ((List.map (fun x=>x.arg) ar).zip rvs):=by
  intro l
  induction l with
  | nil=>intro _;rfl
  | cons p r ih=>
   intro h
   rw[List.forIn_cons]
   have:=zip_some hn hl (h p List.mem_cons_self)
   have hnone:¬ (List.lookup p.1 ((List.map (fun x=>x.arg) ar).zip rvs)).isNone=true:=by
    induction h:List.lookup p.1 ((List.map (fun x=>x.arg) ar).zip rvs) using Option.casesOn with
    | none=>rw[h] at this;cases this
    | some v=>simp
   rw[if_neg hnone]
   exact ih fun q hq=>h q (List.mem_cons_of_mem _ hq)
 have hz:=zip_filterMap (ps:=List.map (fun x=>x.arg) ar) (l:=(List.map (fun x=>x.arg) ar).zip rvs) hl fun i x v a b=>zip_lookup hn hl a b
 have hp:∀X:List (Str × Value),X=(List.map (fun x=>x.arg) ar).zip rvs→wpAny M A (pure X:Sem (List (Str × Value))) Q E s:=fun X e=>by rw[e];exact wpAny_pure q
 refine wpAny_bind (wpAny_pure ?_)
 refine hbind _ fun r=>?_
 refine wpI (by exact fun h=>Bn (b:=true) h fun h1 _=>absurd (of_decide_eq_true h1) (Nat.not_lt.2 (Nat.le_of_eq hl))) (wpI (by exact fun h=>ff ((congrArg (fun l:List Str=>!l.isEmpty) (hmiss _)).symm.trans h)) (wpAny_bind (wpAny_of_eq (hloop _ fun p hp=>?_) (wpAny_bind (wpAny_pure (wpI (by exact ff) (hp _ ((congrArg (List.filterMap fun n=>Option.map (fun x=>(n,x)) (List.lookup n ((List.map (fun x=>x.arg) ar).zip rvs))) (List.append_nil _)).trans hz))))))))
 refine oe (List.getElem?_of_mem hp) fun i hi=>?_
 obtain⟨a,b⟩:=p
 rw[List.getElem?_zip_eq_some] at hi
 exact List.mem_of_mem_drop (List.mem_of_getElem? hi.1)
noncomputable def fnD(d:Data)(f:FuncData→Bool):Bool:=match d with
 | .func fd=>f fd
 | _=>false
@[elab_as_elim] theorem fnD_k{t:Data}{f:FuncData→Bool}{P:Data→Prop}(h:fnD t f=true)(k:∀fd,f fd=true→P (.func fd)):P t:=by
 revert h
 induction t using Data.casesOn with
 | func fd=>exact k fd
 | _=>exact ff
noncomputable def sqD(d:Data):Bool:=match d with
 | .seq _ _=>true
 | _=>false
@[elab_as_elim] theorem sqD_k{t:Data}{P:Data→Prop}(h:sqD t=true)(k:∀a b,P (.seq a b)):P t:=by
 revert h
 induction t using Data.casesOn with
 | seq a b=>exact fun _=>k a b
 | _=>exact ff
noncomputable def bdS(d:FuncBody)(f:List Stmt→Bool):Bool:=match d with
 | .stmts b=>f b
 | _=>false
@[elab_as_elim] theorem bdS_k{t:FuncBody}{f:List Stmt→Bool}{P:FuncBody→Prop}(h:bdS t f=true)(k:∀b,f b=true→P (.stmts b)):P t:=by
 revert h
 induction t using FuncBody.casesOn with
 | stmts b=>exact k b
 | _=>exact ff
noncomputable def dfV(K:Frag)(v:Value):Bool:=match v with
 | .none=>true
 | .ref T=>someE (K.lookup T) fun o=>sqD o.data
 | _=>false
theorem dfV_k{K:Frag}{v:Value}(h:dfV K v=true):v=.none∨∃T o items n,v=.ref T∧K.lookup T=some o∧o.data=.seq items n:=by
 revert h
 induction v using Value.casesOn with
 | none=>exact fun _=>.inl rfl
 | ref T=>exact fun h=>.inr (B1 (P:=fun x=>K.lookup T=x→_) h (fun o h e=>sqD_k (P:=fun d=>o.data=d→_) h (fun a b e2=>⟨T,o,a,b,rfl,e,e2⟩) rfl) rfl)
 | _=>exact ff
noncomputable def fnChk(K:Frag)(a:Addr)(ps ns:List Str)(ir:List IS):Bool:=someE (K.lookup a) fun o=>fnD o.data fun fd=>bdS fd.body fun body=>
 codeIn K fd.code fd.qualname&&fd.globals==mainGlobals&&fd.builtins==builtinsNs&&fd.closure.isEmpty&&fd.scope.kind==.function && !fd.scope.isCoroutine && !fd.scope.isGenerator&&scopeOk fd.scope ps ns&&simpleParams fd ps &&
   decide ps.Nodup&&dfV K fd.defaults&&mSs fd.scope ns ir body
theorem fnChk_ok{K:Frag}{a:Addr}{ps ns:List Str}{ir:List IS}(h:fnChk K a ps ns ir=true):∃o fd body,FnOk K a ps ns ir o fd body:=
 B1 (P:=fun x=>K.lookup a=x→_) h (fun o h e=>fnD_k (P:=fun d=>o.data=d→_) h (fun fd h e2=>bdS_k (P:=fun b=>fd.body=b→_) h (fun body h e3=>Bn h fun h h12=>Bn h fun h h11=>Bn h fun h h10=>Bn h fun h h9=>
  an8k h fun h1 h2 h3 h4 h5 h6 h7 h8=>⟨o,fd,body,e,e2,h1,e3,eq_of_beq h2,eq_of_beq h3,List.isEmpty_iff.mp h4,eq_of_beq h5,nt h6,nt h7,h8,h12,binds_simple h9 (of_decide_eq_true h10) (dfV_k h11)⟩) rfl) rfl) rfl
end
section
noncomputable def runR(tb:String→Option Builtin)(p:Program)(w:World)(n₀:Nat)(ann:Option Value)(f:SharedT→Thread→Option SharedT)(s:SharedT)(t:Thread):Option SharedT:=match through t with
  | true=>some s
  | false=>match stepOk n₀ ann t with
   | false=>none
   | true=>match stepT (denote tb) p w s t with
    | some (s',t')=>f s' t'
    | none=>none
noncomputable def runT(tb:String→Option Builtin)(p:Program)(w:World)(n₀:Nat)(ann:Option Value):Nat→SharedT→Thread→Option SharedT
 | 0=>fun _ _=>none
 | n+1=>runR tb p w n₀ ann (runT tb p w n₀ ann n)
theorem runT_of{tb:String→Option Builtin}{p:Program}{w:World}{n₀:Nat}{ann:Option Value}:∀{n:Nat} {s s':SharedT} {t:Thread},runT tb p w n₀ ann n s t=some s'→topRun tb p w n₀ ann n s.abs t=some s'.abs
 | 0,_,_,_,h=>by cases h
 | n+1,s,s',t,h=>by
  have h:runR tb p w n₀ ann (runT tb p w n₀ ann n) s t=some s':=h
  unfold runR at h
  unfold topRun
  induction he:through t using Bool.casesOn with
  | true=>rw[he] at h;cases h;rfl
  | false=>
   simp only[he] at h
   induction hk:stepOk n₀ ann t using Bool.casesOn with
   | false=>rw[hk] at h;cases h
   | true=>
    simp only[hk] at h
    induction hs:stepT (denote tb) p w s t using Option.casesOn with
    | none=>rw[hs] at h;cases h
    | some r=>obtain⟨s₂,t₂⟩:=r;rw[hs] at h;rw[stepT_spec hs];exact runT_of h
noncomputable def T0(P:Params):BT:=.node (boot_o_0 P) (.node (boot_o_1 P) (.node (boot_o_3 P) (.node (boot_o_7 P) .nil .nil) .nil) (.node (boot_o_5 P) (.node (boot_o_9 P) .nil .nil) .nil)) (.node (boot_o_2 P) (.node (boot_o_4 P) (.node (boot_o_8 P) .nil .nil) .nil) (.node (boot_o_6 P) (.node (boot_o_10 P) .nil .nil) .nil))
theorem T0_abs(P:Params):absHeap (T0 P) 11 {}=boot_heap P:=by kernel_rfl
noncomputable def topT(p:Program)(w:World)(os:OsState)(N:Nat):Option SharedT:=runT treeTable p w 11 (some (.ref 6)) N ⟨T0 w.params,11,{},#[],boot_drawn,boot_toks,os⟩ (topStub p)
theorem left_of{p q:Program}{loose:List Str}{Xt:Shared→Bool}{α:Type}{Yf:Shared→α}{Ya:World→α}{N:Nat}
  (op:∀w:World,(fencedOpening treeTable p w N).map (fun s=>(s.heap,s.gens,s.drawn,s.toks))=some (boot_heap w.params,#[],boot_drawn,boot_toks))
  (size:∀P,((boot_heap P).isNs mainGlobals,(boot_heap P).objs.size,(boot_heap P).nsMap mainGlobals "__annotations__")=(true,11,some (.ref 6)))
  (run:∀w os,(topT p w os N).map (fun s=>((staticsOk (importedModules p.main.body) (boot_heap w.params) s.abs.heap&&namesBound p s.abs.heap&&gensDone s.abs&&laidKept (boot_heap w.params) s.abs.heap),
   openSeen q loose (importedModules p.main.body) Xt true s.abs,Yf s.abs))=some (true,openGood q loose,Ya w)):LeftO p q loose Xt Yf Ya N:=fun w=>by
 obtain⟨⟨h,gs,d,k,os⟩,e,e'⟩:=Option.map_eq_some_iff.mp (op w)
 simp only[Prod.mk.injEq] at e'
 refine oa3 e' fun z0_ z1_ z2_ z3_=>?_;subst z0_;subst z1_;subst z2_;subst z3_
 have sz:=size w.params
 simp only[Prod.mk.injEq] at sz
 refine oa2 sz fun z1 z2 z3=>?_
 refine oea (Option.map_eq_some_iff.mp (run w os)) fun s r1 r2=>?_
 simp only[Prod.mk.injEq] at r2
 refine oa2 r2 fun c1 c2 c3=>?_
 have r:=runT_of r1
 have ea:SharedT.abs ⟨T0 w.params,11,{},#[],boot_drawn,boot_toks,os⟩=⟨boot_heap w.params,#[],boot_drawn,boot_toks,os⟩:=by
  unfold SharedT.abs
  simp only[T0_abs]
 simp only[ea] at r
 unfold openEnds
 simp only[e,Option.bind_some]
 unfold topFrom
 simp only[z1,z2,z3,r]
 simp[c1,c2,c3]
end
section
set_option tactic.hygienic true
noncomputable def fA:Fn→Addr
 | .variableOf=>28
 | .coneCnf=>33
 | .aigCnf=>40
 | .luby=>47
 | .slot=>54
 | .plainClause=>61
 | .sInit=>73
 | .sValue=>80
 | .sLevel=>87
 | .sAdd=>94
 | .sAttach=>101
 | .sLearn=>108
 | .sRefute=>115
 | .sAssign=>122
 | .sDecide=>129
 | .sCancel=>136
 | .sPropagate=>143
 | .sStill=>150
 | .sForces=>157
 | .sBump=>164
 | .sAnalyze=>171
 | .sOrdered=>178
 | .sFree=>185
 | .sAssume=>192
 | .sSolve=>199
 | .sLeave=>206
 | .sModel=>213
 | .fullTable=>227
 | .varTable=>234
 | .lowBit=>241
 | .aInit=>255
 | .aAddInput=>262
 | .aIsAnd=>276
 | .aLand=>283
 | .literalWord=>347
 | .coneEquiv=>354
 | .coneInputs=>359
 | .coneWords=>366
 | .tableDifference=>373
 | .solverParting=>380
 | .parting=>387
 | .lSalt=>394
 | .lPinch=>401
 | .lValues=>408
 | .lBelow=>413
 | .lRight=>420
 | .lChain=>427
noncomputable def clA:Cl→Addr
 | .aig=>336
 | .solver=>216
noncomputable def PS:Fn→List Str
 | .variableOf=>ps_variableOf
 | .aigCnf=>ps_aigCnf
 | .luby=>ps_luby
 | .slot=>ps_slot
 | .plainClause=>ps_plainClause
 | .sInit=>ps_sInit
 | .sValue=>ps_sValue
 | .sLevel=>ps_sLevel
 | .sAdd=>ps_sAdd
 | .sAttach=>ps_sAttach
 | .sLearn=>ps_sLearn
 | .sRefute=>ps_sRefute
 | .sAssign=>ps_sAssign
 | .sDecide=>ps_sDecide
 | .sCancel=>ps_sCancel
 | .sPropagate=>ps_sPropagate
 | .sStill=>ps_sStill
 | .sForces=>ps_sForces
 | .sBump=>ps_sBump
 | .sAnalyze=>ps_sAnalyze
 | .sOrdered=>ps_sOrdered
 | .sFree=>ps_sFree
 | .sAssume=>ps_sAssume
 | .sSolve=>ps_sSolve
 | .sLeave=>ps_sLeave
 | .sModel=>ps_sModel
 | .fullTable=>ps_fullTable
 | .varTable=>ps_varTable
 | .lowBit=>ps_lowBit
 | .aInit=>ps_aInit
 | .aAddInput=>ps_aAddInput
 | .aIsAnd=>ps_aIsAnd
 | .aLand=>ps_aLand
 | .literalWord=>ps_literalWord
 | .coneInputs=>ps_coneInputs
 | .coneWords=>ps_coneWords
 | .tableDifference=>ps_tableDifference
 | .solverParting=>ps_solverParting
 | .parting=>ps_parting
 | .lSalt=>ps_lSalt
 | .lPinch=>ps_lPinch
 | .lValues=>ps_lValues
 | .lBelow=>ps_lBelow
 | .lRight=>ps_lRight
 | .lChain=>ps_lChain
 | .coneCnf=>ps_coneCnf
 | .coneEquiv=>ps_coneEquiv
noncomputable def NS:Fn→List Str
 | .variableOf=>ns_variableOf
 | .aigCnf=>ns_aigCnf
 | .luby=>ns_luby
 | .slot=>ns_slot
 | .plainClause=>ns_plainClause
 | .sInit=>ns_sInit
 | .sValue=>ns_sValue
 | .sLevel=>ns_sLevel
 | .sAdd=>ns_sAdd
 | .sAttach=>ns_sAttach
 | .sLearn=>ns_sLearn
 | .sRefute=>ns_sRefute
 | .sAssign=>ns_sAssign
 | .sDecide=>ns_sDecide
 | .sCancel=>ns_sCancel
 | .sPropagate=>ns_sPropagate
 | .sStill=>ns_sStill
 | .sForces=>ns_sForces
 | .sBump=>ns_sBump
 | .sAnalyze=>ns_sAnalyze
 | .sOrdered=>ns_sOrdered
 | .sFree=>ns_sFree
 | .sAssume=>ns_sAssume
 | .sSolve=>ns_sSolve
 | .sLeave=>ns_sLeave
 | .sModel=>ns_sModel
 | .fullTable=>ns_fullTable
 | .varTable=>ns_varTable
 | .lowBit=>ns_lowBit
 | .aInit=>ns_aInit
 | .aAddInput=>ns_aAddInput
 | .aIsAnd=>ns_aIsAnd
 | .aLand=>ns_aLand
 | .literalWord=>ns_literalWord
 | .coneInputs=>ns_coneInputs
 | .coneWords=>ns_coneWords
 | .tableDifference=>ns_tableDifference
 | .solverParting=>ns_solverParting
 | .parting=>ns_parting
 | .lSalt=>ns_lSalt
 | .lPinch=>ns_lPinch
 | .lValues=>ns_lValues
 | .lBelow=>ns_lBelow
 | .lRight=>ns_lRight
 | .lChain=>ns_lChain
 | .coneCnf=>ns_coneCnf
 | .coneEquiv=>ns_coneEquiv
noncomputable def IR:Fn→List IS
 | .variableOf=>ir_variableOf
 | .aigCnf=>ir_aigCnf
 | .luby=>ir_luby
 | .slot=>ir_slot
 | .plainClause=>ir_plainClause
 | .sInit=>ir_sInit
 | .sValue=>ir_sValue
 | .sLevel=>ir_sLevel
 | .sAdd=>ir_sAdd
 | .sAttach=>ir_sAttach
 | .sLearn=>ir_sLearn
 | .sRefute=>ir_sRefute
 | .sAssign=>ir_sAssign
 | .sDecide=>ir_sDecide
 | .sCancel=>ir_sCancel
 | .sPropagate=>ir_sPropagate
 | .sStill=>ir_sStill
 | .sForces=>ir_sForces
 | .sBump=>ir_sBump
 | .sAnalyze=>ir_sAnalyze
 | .sOrdered=>ir_sOrdered
 | .sFree=>ir_sFree
 | .sAssume=>ir_sAssume
 | .sSolve=>ir_sSolve
 | .sLeave=>ir_sLeave
 | .sModel=>ir_sModel
 | .fullTable=>ir_fullTable
 | .varTable=>ir_varTable
 | .lowBit=>ir_lowBit
 | .aInit=>ir_aInit
 | .aAddInput=>ir_aAddInput
 | .aIsAnd=>ir_aIsAnd
 | .aLand=>ir_aLand
 | .literalWord=>ir_literalWord
 | .coneInputs=>ir_coneInputs
 | .coneWords=>ir_coneWords
 | .tableDifference=>ir_tableDifference
 | .solverParting=>ir_solverParting
 | .parting=>ir_parting
 | .lSalt=>ir_lSalt
 | .lPinch=>ir_lPinch
 | .lValues=>ir_lValues
 | .lBelow=>ir_lBelow
 | .lRight=>ir_lRight
 | .lChain=>ir_lChain
 | .coneCnf=>ir_coneCnf
 | .coneEquiv=>ir_coneEquiv
noncomputable def NP:Fn→Nat
 | .variableOf=>1
 | .aigCnf=>2
 | .luby=>1
 | .slot=>1
 | .plainClause=>1
 | .sInit=>2
 | .sValue=>2
 | .sLevel=>1
 | .sAdd=>2
 | .sAttach=>2
 | .sLearn=>2
 | .sRefute=>1
 | .sAssign=>3
 | .sDecide=>2
 | .sCancel=>2
 | .sPropagate=>1
 | .sStill=>3
 | .sForces=>2
 | .sBump=>2
 | .sAnalyze=>2
 | .sOrdered=>3
 | .sFree=>1
 | .sAssume=>2
 | .sSolve=>3
 | .sLeave=>2
 | .sModel=>1
 | .fullTable=>1
 | .varTable=>2
 | .lowBit=>1
 | .aInit=>1
 | .aAddInput=>1
 | .aIsAnd=>2
 | .aLand=>3
 | .literalWord=>3
 | .coneInputs=>2
 | .coneWords=>3
 | .tableDifference=>5
 | .solverParting=>5
 | .parting=>4
 | .lSalt=>1
 | .lPinch=>2
 | .lValues=>2
 | .lBelow=>2
 | .lRight=>3
 | .lChain=>4
 | .coneCnf=>2
 | .coneEquiv=>2
noncomputable def NL:Fn→Nat
 | .variableOf=>1
 | .aigCnf=>6
 | .luby=>2
 | .slot=>0
 | .plainClause=>2
 | .sInit=>0
 | .sValue=>0
 | .sLevel=>0
 | .sAdd=>3
 | .sAttach=>1
 | .sLearn=>0
 | .sRefute=>0
 | .sAssign=>1
 | .sDecide=>0
 | .sCancel=>2
 | .sPropagate=>5
 | .sStill=>2
 | .sForces=>1
 | .sBump=>1
 | .sAnalyze=>8
 | .sOrdered=>2
 | .sFree=>2
 | .sAssume=>1
 | .sSolve=>7
 | .sLeave=>0
 | .sModel=>0
 | .fullTable=>0
 | .varTable=>1
 | .lowBit=>1
 | .aInit=>0
 | .aAddInput=>1
 | .aIsAnd=>0
 | .aLand=>1
 | .literalWord=>0
 | .coneInputs=>0
 | .coneWords=>7
 | .tableDifference=>6
 | .solverParting=>6
 | .parting=>3
 | .lSalt=>3
 | .lPinch=>0
 | .lValues=>4
 | .lBelow=>3
 | .lRight=>6
 | .lChain=>4
 | .coneCnf=>5
 | .coneEquiv=>5
noncomputable def allFn:List Fn:=[.variableOf,.coneCnf,.aigCnf,.luby,.slot,.plainClause,.sInit,.sValue,.sLevel,.sAdd,.sAttach,.sLearn,.sRefute,.sAssign,.sDecide,.sCancel,.sPropagate,.sStill,.sForces,.sBump,.sAnalyze,.sOrdered,.sFree,.sAssume,.sSolve,.sLeave,.sModel,.fullTable,.varTable,.lowBit,.aInit,.aAddInput,.aIsAnd,.aLand,.literalWord,.coneEquiv,.coneInputs,.coneWords,.tableDifference,.solverParting,.parting,.lSalt,.lPinch,.lValues,.lBelow,.lRight,.lChain]
theorem mem_allFn(f:Fn):f∈allFn:=List.mem_of_getElem? (i:=f.ctorIdx) (by induction f using Fn.casesOn <;> rfl)
noncomputable def frA:List Addr:=[2,3,15,17,18,20,21,22,24,25,27,28,29,32,33,34,36,37,39,40,41,43,44,46,47,48,50,51,53,54,55,57,58,60,61,69,72,73,74,76,77,79,80,81,83,84,86,87,88,90,91,93,94,95,97,98,100,101,102,104,105,107,108,109,111,112,114,115,116,118,119,121,122,123,125,126,128,129,130,132,133,135,136,137,139,140,142,143,144,146,147,149,150,151,153,154,156,157,158,160,161,163,164,165,167,168,170,171,172,174,175,177,178,179,181,182,184,185,186,188,189,191,192,193,194,195,198,199,200,202,203,205,206,207,209,210,212,213,214,215,216,217,218,221,223,224,226,227,228,230,231,233,234,235,237,238,240,241,249,251,252,254,255,256,258,259,261,262,263,265,266,268,269,270,272,273,275,276,277,279,280,282,283,284,286,287,289,290,291,293,294,296,297,298,300,301,303,304,305,307,308,310,311,312,314,315,317,318,319,321,322,324,325,326,327,329,330,332,333,334,335,336,337,338,341,343,344,346,347,348,350,351,353,354,355,358,359,360,362,363,365,366,367,369,370,372,373,374,376,377,379,380,381,383,384,386,387,388,390,391,393,394,395,397,398,400,401,402,404,405,407,408,409,412,413,414,416,417,419,420,421,423,424,426,427,428,430,431,433,434]
noncomputable def frag(h:Heap):Frag:=frA.filterMap fun a=>(h.get? a).map fun o=>(a,o)
theorem frag_in(h:Heap):(frag h).In h:=by
 have key:∀(l:List Addr) a o,(l.filterMap fun a=>(h.get? a).map fun o=>(a,o)).lookup a=some o→h.get? a=some o:=by
  intro l a o
  induction l with
  | nil=>intro e;cases e
  | cons x l ih=>
   intro e
   rw[List.filterMap_cons] at e
   induction hx:h.get? x using Option.casesOn with
   | none=>rw[hx] at e;exact ih e
   | some y=>
    rw[hx] at e
    simp only[Option.map_some,List.lookup_cons] at e
    induction q:a==x using Bool.casesOn with
    | true=>rw[q] at e;cases e;rw[eq_of_beq q];exact hx
    | false=>rw[q] at e;exact ih e
 exact key frA
noncomputable def vlI(v:Value)(i:Int):Bool:=match v with
 | .int j _=>j==i
 | _=>false
theorem vlI_k{t:Value}{i:Int}(h:vlI t i=true):∃k,t=.int i k:=by
 revert h
 induction t using Value.casesOn with
 | int j k=>exact fun h=>⟨k,congrArg (fun x=>Value.int x k) (eq_of_beq h)⟩
 | _=>exact ff
noncomputable def vlR(v:Value)(a:Addr):Bool:=match v with
 | .ref b=>b==a
 | _=>false
theorem vlR_k{t:Value}{a:Addr}(h:vlR t a=true):t=.ref a:=by
 revert h
 induction t using Value.casesOn with
 | ref b=>exact fun h=>congrArg Value.ref (eq_of_beq h)
 | _=>exact ff
noncomputable def vlB(v:Value):Bool:=match v with
 | .builtin s=>s == "object.__setattr__"
 | _=>false
theorem vlB_k{t:Value}(h:vlB t=true):t=.builtin "object.__setattr__":=by
 revert h
 induction t using Value.casesOn with
 | builtin b=>exact fun h=>congrArg Value.builtin (eq_of_beq h)
 | _=>exact ff
noncomputable def isIntAt(K:Frag)(x:Str)(i:Int):Bool:=someE (nsIn K mainGlobals x) fun y=>someE y fun v=>vlI v i
theorem isIntAt_of{K:Frag}{x:Str}{i:Int}(h:isIntAt K x i=true):∃t,nsIn K mainGlobals x=some (some (.int i t)):=
 B1 (P:=fun y=>∃t,y=some (some (.int i t))) h fun y h=>B1 (P:=fun y=>∃t,some y=some (some (.int i t))) h fun v h=>(vlI_k h).elim fun k e=>⟨k,by rw[e]⟩
noncomputable def refAt(x:Option (Option Value))(a:Addr):Bool:=someE x fun y=>someE y fun v=>vlR v a
theorem refAt_of{x:Option (Option Value)}{a:Addr}(h:refAt x a=true):x=some (some (.ref a)):=
 B1 h fun y h=>B1 (P:=fun y=>some y=some (some (.ref a))) h fun v h=>congrArg (fun v=>some (some v)) (vlR_k h)
noncomputable def isNo(x:Option (Option Value)):Bool:=someE x noneE
theorem isNo_of{x:Option (Option Value)}(h:isNo x=true):x=some none:=
 B1 h fun y h=>noneE_k (P:=fun y=>some y=some none) h rfl
noncomputable def isSet(x:Option (Option Value)):Bool:=someE x fun y=>someE y vlB
theorem isSet_of{x:Option (Option Value)}(h:isSet x=true):x=some (some (.builtin "object.__setattr__")):=
 B1 h fun y h=>B1 (P:=fun y=>some y=some (some (.builtin "object.__setattr__"))) h fun v h=>congrArg (fun v=>some (some v)) (vlB_k h)
noncomputable def fnC(K:Frag)(f:Fn):Bool:=fnChk K (fA f) (PS f) (NS f) (IR f)&&keepIn K (.ref (fA f))&&isFn K (.ref (fA f))&&(match f.cl with
 | none=>refAt (nsIn K mainGlobals f.name) (fA f)
 | some c=>refAt (findIn K (.ref (clA c)) f.name) (fA f))
noncomputable def atChk(K:Frag)(C:Addr)(a:At):Bool:=isNo (findIn K (.ref C) a.name)&&isNo (takerIn K C a.name)
noncomputable def clC(K:Frag)(c:Cl):Bool:=refAt (nsIn K mainGlobals c.name) (clA c)&&keepIn K (.ref (clA c))&&isSet (findIn K (.ref (clA c)) "__setattr__")&&plainOver K (clA c)&&hasDictIn K (clA c)&&plainGet K (clA c) "" && makesIn K (clA c) &&
 At.all.all fun a=>!(c.has a)||atChk K (clA c) a
noncomputable def chk(K:Frag):Bool:=allFn.all (fnC K)&&(clC K .aig&&clC K .solver)&&[BF.len,.abs,.sorted,.list,.tuple].all (fun f=>isNo (nsIn K mainGlobals (Str.ofString f.name)))&&isNo (nsIn K mainGlobals (Str.ofString "range"))&&globs.all (fun p=>isIntAt K p.1 p.2) &&
 K.all fun p=>match p.2.cls with | .type t=>t != "list" | _=>true
structure KOk (K:Frag):Prop where
 fn:∀f,fnC K f=true
 cl:∀c,clC K c=true
 bf:∀f:BF,nsIn K mainGlobals (Str.ofString f.name)=some none
 rg:nsIn K mainGlobals (Str.ofString "range")=some none
 gi:∀p∈globs,∃t,nsIn K mainGlobals p.1=some (some (.int p.2 t))
 nl:∀p∈K,(match p.2.cls with | .type t=>t != "list" | _=>true)=true
theorem chk_ok{K:Frag}(h:chk K=true):KOk K:=by
 exact an6k h fun h1 h2 h4 h5 h6 h7=>⟨fun f=>List.all_eq_true.mp h1 f (mem_allFn f),fun c=>by induction c using Cl.casesOn with | aig=>exact(an2 h2).1 | solver=>exact(an2 h2).2,fun f=>isNo_of (List.all_eq_true.mp h4 f (List.mem_of_getElem? (i:=match f with | .len=>0 | .abs=>1 | .sorted=>2 | .list=>3 | .tuple=>4) (by induction f using BF.casesOn <;> rfl))),isNo_of h5,fun p hp=>isIntAt_of (List.all_eq_true.mp h6 p hp),List.all_eq_true.mp h7⟩
section
variable {K:Frag}
theorem KOk.chk(h:KOk K)(f:Fn):fnChk K (fA f) (PS f) (NS f) (IR f)=true:=(an2 (an2 (an2 (h.fn f)).1).1).1
theorem KOk.keep(h:KOk K)(f:Fn):keepIn K (.ref (fA f))=true:=(an2 (an2 (an2 (h.fn f)).1).1).2
theorem KOk.isfn(h:KOk K)(f:Fn):isFn K (.ref (fA f))=true:=(an2 (an2 (h.fn f)).1).2
theorem KOk.gfn(h:KOk K)(f:Fn)(hf:f.cl=none):nsIn K mainGlobals f.name=some (some (.ref (fA f))):=by
 have:=(an2 (h.fn f)).2
 rw[hf] at this
 exact refAt_of this
theorem KOk.meth(h:KOk K)(f:Fn)(c:Cl)(hf:f.cl=some c):findIn K (.ref (clA c)) f.name=some (some (.ref (fA f))):=by
 have:=(an2 (h.fn f)).2
 rw[hf] at this
 exact refAt_of this
theorem or_of{a b:Bool}(h:(!a||b)=true)(ha:a=true):b=true:=by rw[ha] at h;exact h
theorem KOk.cls(h:KOk K)(c:Cl):nsIn K mainGlobals c.name=some (some (.ref (clA c)))∧keepIn K (.ref (clA c))=true∧findIn K (.ref (clA c)) "__setattr__" = some (some (.builtin "object.__setattr__"))∧plainOver K (clA c)=true∧hasDictIn K (clA c)=true∧plainGet K (clA c) "" = true∧makesIn K (clA c)=true∧
  ∀a:At,c.has a=true→findIn K (.ref (clA c)) a.name=some none∧takerIn K (clA c) a.name=some none:=
 an8k (h.cl c) fun h1 h2 h3 h4 h5 h6 h7 h8=>⟨refAt_of h1,h2,isSet_of h3,h4,h5,h6,h7,fun a ha=>Bn (or_of (List.all_eq_true.mp h8 a a.mem_all) ha) fun h1 h2=>⟨isNo_of h1,isNo_of h2⟩⟩
end
end
section
noncomputable abbrev rr:OpenRow:=PySem.Challenge.rw_pq0468_01.row
noncomputable abbrev pp:Program:=PySem.Challenge.pw_pq0468_01
noncomputable def qv:Program:=view pp [38]
noncomputable def lo:List Str:=["_wall","variable_of","cone_nodes","cone_nodes_cnf","aig_cnf","RESTART_UNIT","ACTIVITY_LIMIT","ACTIVITY_SCALE","luby","slot","plain_clause","Solver","full_table","var_table","low_bit","Aig","literal_word","cone_nodes_equiv","cone_inputs","cone_words","table_difference","TABLE_INPUTS","solver_parting","parting","_law_salt","_law_pinch","_law_values","_law_below","_law_right","_law_chain","__name__"]
noncomputable def dlaw:DefRec:=(((pp.main.body[38]?).bind fun s=>match s with | .FunctionDef n a b _ _ _ sc _ _ po=>some (⟨n,a,b,sc,po⟩:DefRec) | _=>none).getD ⟨"",⟨[],[],none,[],[],none,[]⟩,[],⟨.module,[],false,false,[]⟩,default⟩)
noncomputable def Says(w:World)(h:Heap):Prop:=∃K:Frag,K.In h∧KOk K
noncomputable def hook:Hook:=⟨Bool,fun s=>chk (frag s.heap),fun _=>true,Says,fun w s e=>⟨frag s.heap,frag_in _,chk_ok e⟩,fun w h h' ⟨K,k1,k2⟩ k=>⟨K,k1.keeps k,k2⟩⟩
noncomputable def xt(s:Shared):Bool:=recOk rr.records s
noncomputable def tGet(t:BT)(n a:Nat):Option Obj:=match Nat.blt a n with
 | true=>alive ((t.get a).getD default)
 | false=>none
theorem tGet_abs{t:BT}{n:Nat}{life:Life}{a:Nat}:(absHeap t n life).get? a=tGet t n a:=by
 unfold tGet
 induction h:Nat.blt a n using Bool.casesOn with
 | true=>
  have h:a<n:=Nat.blt_eq▸h
  unfold Heap.get?
  rw[absHeap_at,if_pos h]
  generalize (t.get a).getD default=o
  induction o using Obj.casesOn with
  | mk c d dt sl=>induction dt using Data.casesOn <;> rfl
 | false=>exact abs_get_none fun q=>ff (h.symm.trans (Nat.blt_eq.mpr q))
noncomputable def fragT(s:SharedT):Frag:=frA.filterMap fun a=>(tGet s.tree s.n a).map fun o=>(a,o)
theorem fragT_eq(s:SharedT):frag s.abs.heap=fragT s:=congrArg (fun f=>frA.filterMap f) (funext fun a=>congrArg (fun x:Option Obj=>x.map fun o=>(a,o)) tGet_abs)
noncomputable def stA(w:World)(s:SharedT):Bool:=staticsOk (importedModules pp.main.body) (boot_heap w.params) s.abs.heap&&namesBound pp s.abs.heap&&gensDone s.abs&&laidKept (boot_heap w.params) s.abs.heap
theorem run_k(w:World)(os:OsState):(topT pp w os 2500).map (fun s=>(stA w s,openSeen qv lo (importedModules pp.main.body) xt true s.abs,chk (fragT s)))=some (true,openGood qv lo,true):=by kernel_rfl
theorem run_ok(w:World)(os:OsState):(topT pp w os 2500).map (fun s=>((staticsOk (importedModules pp.main.body) (boot_heap w.params) s.abs.heap&&namesBound pp s.abs.heap&&gensDone s.abs&&laidKept (boot_heap w.params) s.abs.heap),
   openSeen qv lo (importedModules pp.main.body) xt true s.abs,hook.obs s.abs))=some (true,openGood qv lo,hook.val w):=
 (congrArg (fun f=>(topT pp w os 2500).map f) (funext fun s=>congrArg (fun k:Frag=>(stA w s,openSeen qv lo (importedModules pp.main.body) xt true s.abs,chk k)) (fragT_eq s))).trans (run_k w os)
theorem op1:opening pp=plainProg pp.main.scope.names:=by kernel_rfl
theorem op2(s:Shared):fenceModules? pp s=some s:=by kernel_rfl
theorem op3(P:Params):((boot_heap P).isNs mainGlobals,(boot_heap P).objs.size,(boot_heap P).nsMap mainGlobals "__annotations__")=(true,11,some (.ref 6)):=by kernel_rfl
theorem left_ok:LeftO pp qv lo xt hook.obs hook.val 2500:=
 left_of (boot_open op1 (by kernel_rfl) op2) op3 run_ok
end
section
theorem aI{a b:Bool}(h:a=true)(k:b=true):(a&&b)=true:=by rw[h,k];rfl
noncomputable abbrev px:Program:=PySem.Challenge.rw_pq0468_01.row.toRowW.prog
theorem wA:(sreFenced px.main&&((moduleNames px.main.body).isEmpty||lookedIntoSs (moduleNames px.main.body) px.main.body))=true:=by kernel_rfl
theorem wB:namesResolve px=true:=by kernel_rfl
theorem wC:(px.boundNames.all fun n=>!worldNames.contains n)=true:=by kernel_rfl
theorem wD:noRoadLSs { strict:=!(importedModules px.main.body).all cThrough.contains,foot:=none,bare:=(["vars","dir","locals"]:List Str).filter (readsOut px px.main.body) } px.main.body=true:=by kernel_rfl
theorem wE:(namesMeet px px.main.body fun _ n=>attrL n)=true:=by kernel_rfl
theorem wL:looksOpen px=true:=aI (aI (aI (aI wA wB) wC) wD) wE
theorem ws:OpenLaw.wellSaid PySem.Challenge.rw_pq0468_01=true:=by
 unfold OpenLaw.wellSaid OpenRow.wellSaid OpenRow.partSaid
 rw[wL]
 kernel_rfl
theorem df1:defOf qv rr.name=some (dlaw,[]):=by kernel_rfl
theorem df2:rr.prog.theDef rr.name=some (dlaw.params,dlaw.body,dlaw.scope):=by kernel_rfl
theorem df3:kwWritten? dlaw.params.kwonlyargs dlaw.params.kw_defaults=some []:=by kernel_rfl
theorem df4:(!rr.writes||rr.records.isEmpty)=true:=by kernel_rfl
theorem df5:(chainsOk qv&&opensWell rr.prog&&(frees rr.toRowW&&rr.within.isEmpty))=true:=by kernel_rfl
theorem df6:PySem.Challenge.rw_pq0468_01.row.prog.bare:=⟨rfl,rfl,rfl,rfl,rfl,by decide +kernel⟩
theorem df7:PySem.Challenge.rw_pq0468_01.row.toRowW.promised:=by w_witness2
theorem head_of(call:WalkO qv lo (fun _ _=>True∧True) Says rr.toRowW dlaw [] fun f vs=>PySem.call f vs):PySem.Challenge.rw_pq0468_01.Holds:=by
 refine holds_law ws fun said=>?_
 exact holds_open (r:=rr) (q:=qv) (loose:=lo) (Xt:=xt) (XP:=fun _ _=>True∧True) (Yf:=hook.obs) (Ya:=hook.val) (YP:=Says) (N:=2500) (d:=dlaw) (kwd:=[]) left_ok hook.of hook.keeps (fun _ _=>⟨trivial,trivial⟩) (fun _ _ _ _ _=>⟨trivial,trivial⟩) df1 df2 df3 (fun s e=>recFacts_of e) df4 said df5 df6 df7 call
end
section
theorem lookup_in{K:Frag}{a:Addr}{o:Obj}(h:K.lookup a=some o):(a,o)∈K:=by
 induction K with
 | nil=>cases h
 | cons p r ih=>
  obtain⟨b,q⟩:=p
  rw[List.lookup_cons] at h
  induction e:a==b using Bool.casesOn with
  | true=>rw[e] at h;cases h;rw[eq_of_beq e];exact List.mem_cons_self
  | false=>rw[e] at h;exact List.mem_cons_of_mem _ (ih h)
theorem ns_hide{h:Heap}{a l:Addr}{m:Str→Option Value}{items:Array Value}(x:h.Ns a m)(y:h.IsList l items):(hideAll h [l]).Ns a m:=by
 refine oe3a2 x fun o es ep e hd r=>?_
 refine⟨o,es,ep,hideAll_get [l] e ?_,hd,r⟩
 intro q
 refine oe y fun o' w0_=>?_;refine oa2 w0_ fun e' _ w1_=>?_;clear w0_;refine oe w1_ fun n hd'=>?_;clear w1_
 rw[List.mem_singleton] at q;subst q
 rw[e] at e';cases e';rw[hd] at hd';cases hd'
noncomputable abbrev BB (prog:Program) (w:World) (s:Shared) (l:Addr) (K:Frag):Base:=⟨prog,w,{ s with heap:=hideAll s.heap [l] },K,clA⟩
theorem glo_of{prog:Program}{w:World}{s₁:Shared}{p:Program}{loose:List Str}{mean:ExcName→Option Value}{mg mb:Str→Option Value}{l:Addr}{items:Array Value}{K:Frag}
  (T:Top p loose mean mg mb s₁.heap) (hi:importsNone p=true) (X:K.In s₁.heap) (k:KOk K) (hl:s₁.heap.IsList l items):Glo (BB prog w s₁ l K) fA:=by
 refine⟨⟨fun a o e=>hideAll_get [l] (X a o e) ?_,?_,?_⟩,⟨mg,mb,ns_hide T.g hl,ns_hide T.b hl,T.builtins⟩,k.gfn,fun c=>(k.cls c).1,k.bf,k.rg,k.gi,fun c=>?_,fun c=>(k.cls c).2.1,k.keep,k.isfn,k.meth⟩
 ·intro q
  rw[List.mem_singleton] at q;subst q
  refine oea2 hl fun o' e' hc _=>?_
  have:=X _ _ e
  rw[e'] at this;cases this
  have:=k.nl _ (lookup_in e)
  rw[hc] at this
  simp at this
 ·refine oea T.nolimit fun mc h1 h2=>?_
  exact⟨mc,ns_hide h1 hl,h2⟩
 ·refine oea ((T.seer hi).mods) fun mm h1 _=>?_
  refine oe3a (ns_hide h1 hl) fun o es ep e r=>?_
  exact⟨o,e⟩
 ·refine oa7 (k.cls c) fun _ _ h3 h4 h5 h6 h7 h8=>?_
  exact⟨h3,h4,h5,h6,h7,h8⟩
end
section
set_option tactic.hygienic true
structure Cx (B:Base):Prop where
 g:Glo B fA
 k:KOk B.K
noncomputable def H₀(a:Addr)(ns:List Int)(ob:Obj):CH:=fun x=>if x=a then some (.frz (ns.map .int) ob) else none
noncomputable def LawW(B:Base)(a:Addr)(ns:List Int)(ob:Obj):Prop:=
 WSs B fA 100 ir_law ⟨[.ref a,.undef,.undef,.undef,.undef,.undef,.undef,.undef,.undef,.undef],H₀ a ns ob⟩ (RetQ fun v H=>v=.bool true∧H a=some (.frz (ns.map .int) ob))
theorem ints_map{vs:List Value}{ns:List Int}(h:IntsAre vs ns):vs.map cv=ns.map .int:=by
 induction h with
 | nil=>rfl
 | cons n t _ ih=>simp[cv,ih]
theorem all_beq{α β:Type}[BEq β][LawfulBEq β]{l:List α}{f:α→β}{b:β}(h:l.all (fun x=>f x==b)=true):∀x,x∈l→f x=b:=fun x hx=>eq_of_beq (List.all_eq_true.mp h x hx)
theorem holds_of(h:∀(B:Base) (a:Addr) (ns:List Int) (ob:Obj),Cx B→ns.length≤63→LawW B a ns ob):PySem.Challenge.rw_pq0468_01.Holds:=head_of (by
 intro w s₀ s₁ mg mb G Y fa o pm cd doc dV kV ho hd hcd hD hmg hg args vals as hpre hlay hrd hwl hlo
 k_behind G ho hd hcd hD hmg hpre hlay hrd hwl hlo cd
 rename_i X V T TB TE TW x1 x2 M cdv x3 ns hs hlay hL1 hr1 hl2 x4 x5 a vs x6 hL ra w1 r0 hI hr hc1 hc2 K0 h₁ F N0
 refine oea Y fun K KX KO=>?_
 have hi:importsNone qv=true:=by kernel_rfl
 have g:Glo (BB PySem.Challenge.rw_pq0468_01.row.prog w s₁ a K) fA:=glo_of T hi KX KO hL
 refine oe (id hL) fun ob w0_=>?_;refine oa2 w0_ fun hob hcls w1_=>?_;clear w0_;refine oe w1_ fun nn hdat=>?_;clear w1_
 have hlen:ns.length≤63:=by omega
 have hW:=h (BB PySem.Challenge.rw_pq0468_01.row.prog w s₁ a K) a ns ob ⟨g,KO⟩ hlen
 unfold LawW at hW
 have hFr:∀b o,s₁.heap.get? b=some o→h₁.get? b=some o:=F.keep
 refine oe3a3 (id F.ns) fun os es ep hLoc hLd hLk hLm=>?_
 have hLnone:s₁.heap.get? s₁.heap.objs.size=none:=Bf _
 have haL:a≠s₁.heap.objs.size:=fun e=>by rw[e,hLnone] at hob;cases hob
 let F0:Fz:=fun b=>(hideAll s₁.heap [a]).get? b
 have R0:∀tk,RH (BB PySem.Challenge.rw_pq0468_01.row.prog w s₁ a K) (H₀ a ns ob) F0 { s₁ with heap:=h₁,toks:=tk }:=by
  intro tk
  refine⟨fun b o e=>?_,fun b o e=>hFr _ _ (of_hideAll [a] e),fun b o e z=>?_,fun b c d f e=>?_,fun b o e=>e,⟨rfl,rfl⟩⟩
  ·unfold H₀ at e
   split at e
   ·rename_i q;cases e;subst q
    refine⟨hFr _ _ hob,vs.toArray,nn,hcls,hdat,?_⟩
    simpa using ints_map hI
   ·cases e
  ·rcases z with ⟨o',z⟩ | ⟨x,c,f,z⟩
   ·unfold H₀ at z;split at z
    ·rename_i q;subst q;rw[show F0 b=_ from hideAll_none [b] (List.mem_singleton.mpr rfl)] at e;cases e
    ·cases z
   ·unfold H₀ at z;split at z <;> cases z
  ·unfold H₀ at e;split at e <;> cases e
 refine wpAny_mono (soundSs (ns:=ns_law) g ir_law ?e0 ?hm hW _ ?hA F0 _ (R0 _) ?L) (fun fl s' z=>?_) fun _ _ z=>z.elim
 case e0=>
  refine⟨rfl,rfl,rfl,by decide +kernel,?_,?_⟩
  ·intro x hx
   left
   revert x
   refine all_beq ?_
   kernel_rfl
  ·have:ns_law.all (fun x=>!(x==("__debug__" : Str)) && !(x==("__classdict__" : Str)))=true:=by decide +kernel
   exact fun x hx=>by simpa using List.all_eq_true.mp this x hx
 case hm=>kernel_rfl
 case hA=>exact⟨rfl,(by show callerA.depth+1+2*100<900;decide +kernel),(by show callerA.units+3+10*100<9000;decide +kernel)⟩
 case L=>
  refine⟨⟨_,F.ns,fun i x v e1 e2 e3 e4=>?_⟩,(fun x c e=>nomatch e),(fun i x v c e1 e2 e3 e4 e5=>nomatch e5),fun b p=>?_,(fun x y c e=>nomatch e)⟩
  ·match i,e2 with
   | 0,e2=>
    cases e1;cases e2
    exact⟨_,rfl,rfl⟩
   | 1,e2 | 2,e2 | 3,e2 | 4,e2 | 5,e2 | 6,e2 | 7,e2 | 8,e2 | 9,e2=>cases e2;exact absurd rfl e3
   | i+10,e2=>simp at e2
  ·have hb:b=s₁.heap.objs.size:=by rcases p with p | ⟨x,p⟩;exact p;cases p
   subst hb
   refine⟨?_,?_⟩
   ·induction e:F0 s₁.heap.objs.size using Option.casesOn with
    | none=>rfl
    | some o=>have:=of_hideAll [a] e;rw[hLnone] at this;cases this
   ·rintro(⟨o,e⟩ | ⟨x,c,f,e⟩)
    ·have e:(if _ then _ else _)=_:=e
     split at e
     ·rename_i q;exact haL q.symm
     ·cases e
    ·have e:(if _ then _ else _)=_:=e
     split at e <;> cases e
 refine oea2 z fun σ' R' L' q=>?_
 induction fl using Flow.casesOn with
 | ret v=>
  refine oa q fun q1 q2=>?_
  have:=cv_bool q1;subst this
  refine⟨.inl ⟨.bool true,.bool true,[],rfl,fun _=>rfl,.bool true,(by kernel_rfl),fun _=>⟨List.nodup_nil,fun _ h=>nomatch h⟩⟩,fun b o e=>?_,R'.rest.2,R'.rest.1.trans hg⟩
  by_cases hba:b=a
  ·subst hba
   refine oa (R'.obj _ _ q2) fun r1 _=>?_
   rw[hob] at e;cases e;exact r1
  ·exact R'.fr b o (hideAll_get [a] e (by simpa using hba))
 | next=>have:=q.1;cases this
 | brk=>exact q.elim
 | cont=>exact q.elim)
end
section
theorem np_all(f:Fn):(PS f).length=NP f:=by induction f using Fn.casesOn <;> rfl
theorem nl_all(f:Fn):(NS f).length-(PS f).length=NL f:=by induction f using Fn.casesOn <;> rfl
theorem Cx.call{B:Base}(C:Cx B){f:Fn}{n:Nat}{vs:List CV}{H:CH}{Q:CV→CH→Prop}(hn:0<n)(hl:vs.length=NP f)
  (h:WSs B fA (n-1) (IR f) ⟨vs++List.replicate (NL f) .undef,H⟩ (RetQ Q)):FT B fA n f vs H Q:=by
 refine oe3 (fnChk_ok (C.k.chk f)) fun o fd body ok=>?_
 obtain⟨m,rfl⟩:∃m,n=m+1:=⟨n-1,by exact ar0 hn⟩
 exact FT_of C.g ok (by rw[hl,np_all]) (by rw[nl_all];exact h)
@[simp] theorem NL_variableOf:NL .variableOf=1:=rfl
@[simp] theorem NL_aigCnf:NL .aigCnf=6:=rfl
@[simp] theorem NL_luby:NL .luby=2:=rfl
@[simp] theorem NL_slot:NL .slot=0:=rfl
@[simp] theorem NL_plainClause:NL .plainClause=2:=rfl
@[simp] theorem NL_sInit:NL .sInit=0:=rfl
@[simp] theorem NL_sValue:NL .sValue=0:=rfl
@[simp] theorem NL_sLevel:NL .sLevel=0:=rfl
@[simp] theorem NL_sAdd:NL .sAdd=3:=rfl
@[simp] theorem NL_sAttach:NL .sAttach=1:=rfl
@[simp] theorem NL_sLearn:NL .sLearn=0:=rfl
@[simp] theorem NL_sRefute:NL .sRefute=0:=rfl
@[simp] theorem NL_sAssign:NL .sAssign=1:=rfl
@[simp] theorem NL_sDecide:NL .sDecide=0:=rfl
@[simp] theorem NL_sCancel:NL .sCancel=2:=rfl
@[simp] theorem NL_sPropagate:NL .sPropagate=5:=rfl
@[simp] theorem NL_sStill:NL .sStill=2:=rfl
@[simp] theorem NL_sForces:NL .sForces=1:=rfl
@[simp] theorem NL_sBump:NL .sBump=1:=rfl
@[simp] theorem NL_sAnalyze:NL .sAnalyze=8:=rfl
@[simp] theorem NL_sOrdered:NL .sOrdered=2:=rfl
@[simp] theorem NL_sFree:NL .sFree=2:=rfl
@[simp] theorem NL_sAssume:NL .sAssume=1:=rfl
@[simp] theorem NL_sSolve:NL .sSolve=7:=rfl
@[simp] theorem NL_sLeave:NL .sLeave=0:=rfl
@[simp] theorem NL_sModel:NL .sModel=0:=rfl
@[simp] theorem NL_fullTable:NL .fullTable=0:=rfl
@[simp] theorem NL_varTable:NL .varTable=1:=rfl
@[simp] theorem NL_lowBit:NL .lowBit=1:=rfl
@[simp] theorem NL_aInit:NL .aInit=0:=rfl
@[simp] theorem NL_aAddInput:NL .aAddInput=1:=rfl
@[simp] theorem NL_aIsAnd:NL .aIsAnd=0:=rfl
@[simp] theorem NL_aLand:NL .aLand=1:=rfl
@[simp] theorem NL_literalWord:NL .literalWord=0:=rfl
@[simp] theorem NL_coneInputs:NL .coneInputs=0:=rfl
@[simp] theorem NL_coneWords:NL .coneWords=7:=rfl
@[simp] theorem NL_tableDifference:NL .tableDifference=6:=rfl
@[simp] theorem NL_solverParting:NL .solverParting=6:=rfl
@[simp] theorem NL_parting:NL .parting=3:=rfl
@[simp] theorem NL_lSalt:NL .lSalt=3:=rfl
@[simp] theorem NL_lPinch:NL .lPinch=0:=rfl
@[simp] theorem NL_lValues:NL .lValues=4:=rfl
@[simp] theorem NL_lBelow:NL .lBelow=3:=rfl
@[simp] theorem NL_lRight:NL .lRight=6:=rfl
@[simp] theorem NL_lChain:NL .lChain=4:=rfl
@[simp] theorem NL_coneCnf:NL .coneCnf=5:=rfl
@[simp] theorem NL_coneEquiv:NL .coneEquiv=5:=rfl
end
section
section
variable {B:Base} {fa:Fn→Addr} {n:Nat}
@[simp] theorem WE_e0(i:Int)(t:Bool)(σ:CS)(Q:CV→CS→Prop):WE B fa n (.int i) t σ Q=(fin t Q (.int i) σ):=rfl
@[simp] theorem WE_e1(b:Bool)(t:Bool)(σ:CS)(Q:CV→CS→Prop):WE B fa n (.bool b) t σ Q=(fin t Q (.bool b) σ):=rfl
@[simp] theorem WE_e2 (t:Bool)(σ:CS)(Q:CV→CS→Prop):WE B fa n (.none) t σ Q=(fin t Q .none σ):=rfl
@[simp] theorem WE_e3(i:Nat)(t:Bool)(σ:CS)(Q:CV→CS→Prop):WE B fa n (.var i) t σ Q=(Def (σ.get i) (fin t Q (σ.get i) σ)):=rfl
@[simp] theorem WE_e4(s:Str)(i:Int)(t:Bool)(σ:CS)(Q:CV→CS→Prop):WE B fa n (.glob s i) t σ Q=(fin t Q (.int i) σ):=rfl
@[simp] theorem WE_e5(e:IE)(a:At)(t:Bool)(σ:CS)(Q:CV→CS→Prop):WE B fa n (.attr e a) t σ Q=(WE B fa n e false σ fun v σ₁=>Opt (attrV σ₁.heap v a) fun r=>fin t Q r σ₁):=rfl
@[simp] theorem WE_e6(e i:IE)(t:Bool)(σ:CS)(Q:CV→CS→Prop):WE B fa n (.sub e i) t σ Q=(WE B fa n e false σ fun v σ₁=>WE B fa n i false σ₁ fun k σ₂=>Opt (subV σ₂.heap v k) fun r=>fin t Q r σ₂):=rfl
@[simp] theorem WE_e7(e u:IE)(t:Bool)(σ:CS)(Q:CV→CS→Prop):WE B fa n (.upto e u) t σ Q=(WE B fa n e false σ fun v σ₁=>WE B fa n u false σ₁ fun k σ₂=>Opt (uptoV σ₂.heap v k) fun r=>r.go σ₂.heap fun c H=>fin t Q c ⟨σ₂.vars,H⟩):=rfl
@[simp] theorem WE_e8(o:Operator)(a b:IE)(t:Bool)(σ:CS)(Q:CV→CS→Prop):WE B fa n (.bin o a b) t σ Q=(WE B fa n a false σ fun v σ₁=>WE B fa n b false σ₁ fun k σ₂=>Opt (binV o σ₂.heap v k) fun r=>r.go σ₂.heap fun c H=>fin t Q c ⟨σ₂.vars,H⟩):=rfl
@[simp] theorem WE_e9(a:IE)(t:Bool)(σ:CS)(Q:CV→CS→Prop):WE B fa n (.neg a) t σ Q=(WE B fa n a false σ fun v σ₁=>Opt (negV v) fun r=>fin t Q r σ₁):=rfl
@[simp] theorem WE_e10(a:IE)(t:Bool)(σ:CS)(Q:CV→CS→Prop):WE B fa n (.not a) t σ Q=(Tst t (WE B fa n a true σ (notV Q))):=rfl
@[simp] theorem WE_e11(o:CmpOp)(a b:IE)(t:Bool)(σ:CS)(Q:CV→CS→Prop):WE B fa n (.cmp o a b) t σ Q=(WE B fa n a false σ fun v σ₁=>WE B fa n b false σ₁ fun k σ₂=>Opt (Bm o σ₂.heap v k) fun r=>fin t Q (.bool r) σ₂):=rfl
@[simp] theorem WE_e12(es:List IE)(t:Bool)(σ:CS)(Q:CV→CS→Prop):WE B fa n (.and es) t σ Q=(Tst t (WA B fa n es σ Q)):=rfl
@[simp] theorem WE_e13(es:List IE)(t:Bool)(σ:CS)(Q:CV→CS→Prop):WE B fa n (.or es) t σ Q=(Tst t (WO B fa n es σ Q)):=rfl
@[simp] theorem WE_e14(c a b:IE)(t:Bool)(σ:CS)(Q:CV→CS→Prop):WE B fa n (.ite c a b) t σ Q=(WE B fa n c true σ fun v σ₁=>Br v (WE B fa n a t σ₁ Q) (WE B fa n b t σ₁ Q)):=rfl
@[simp] theorem WE_e15(f:Fn)(es:List IE)(t:Bool)(σ:CS)(Q:CV→CS→Prop):WE B fa n (.fn f es) t σ Q=(WL B fa n es σ fun vs σ₁=>FT B fa n f vs σ₁.heap fun r H=>fin t Q r ⟨σ₁.vars,H⟩):=rfl
@[simp] theorem WE_e16(c:Cl)(es:List IE)(t:Bool)(σ:CS)(Q:CV→CS→Prop):WE B fa n (.cls c es) t σ Q=(WL B fa n es σ fun vs σ₁=>0<n∧∀x d,σ₁.heap x=none→FT B fa n.pred c.init (.ref x::vs) (σ₁.heap.put x (.inst c d fun _=>.undef)) fun r H=>r=.none∧fin t Q (.ref x) ⟨σ₁.vars,H⟩):=rfl
@[simp] theorem WE_e17(o:IE)(f:Fn)(es:List IE)(t:Bool)(σ:CS)(Q:CV→CS→Prop):WE B fa n (.mth o f es) t σ Q=(WE B fa n o false σ fun v σ₁=>MOk σ₁.heap v f∧WL B fa n es σ₁ fun vs σ₂=>FT B fa n f (v::vs) σ₂.heap fun r H=>fin t Q r ⟨σ₂.vars,H⟩):=rfl
@[simp] theorem WE_e18(f:BF)(e:IE)(t:Bool)(σ:CS)(Q:CV→CS→Prop):WE B fa n (.bf f e) t σ Q=(WE B fa n e false σ fun v σ₁=>Opt (bfV f σ₁.heap v) fun r=>r.go σ₁.heap fun c H=>fin t Q c ⟨σ₁.vars,H⟩):=rfl
@[simp] theorem WE_e19(o:IE)(m:BM)(es:List IE)(t:Bool)(σ:CS)(Q:CV→CS→Prop):WE B fa n (.bm o m es) t σ Q=(WE B fa n o false σ fun v σ₁=>bmOk m σ₁.heap v=true∧WL B fa n es σ₁ fun vs σ₂=>Opt (bmV m σ₂.heap v vs) fun r=>r.go σ₂.heap fun c H=>fin t Q c ⟨σ₂.vars,H⟩):=rfl
@[simp] theorem WE_e20(es:List IE)(t:Bool)(σ:CS)(Q:CV→CS→Prop):WE B fa n (.list es) t σ Q=(WL B fa n es σ fun vs σ₁=>vs.length≤lim∧Rng σ₁ (fin t Q) (.list vs)):=rfl
@[simp] theorem WE_e21(es:List IE)(t:Bool)(σ:CS)(Q:CV→CS→Prop):WE B fa n (.tup es) t σ Q=(WL B fa n es σ fun vs σ₁=>vs.length≤lim∧Rng σ₁ (fin t Q) (.tup vs)):=rfl
@[simp] theorem WE_e22(p:Bool)(t:Bool)(σ:CS)(Q:CV→CS→Prop):WE B fa n (.dict0 p) t σ Q=((Rng σ (fin t Q) (if p=true then .dictp [] else .dicti []))):=rfl
@[simp] theorem WE_e23(k v:Int)(t:Bool)(σ:CS)(Q:CV→CS→Prop):WE B fa n (.dict1 k v) t σ Q=(Rng σ (fin t Q) (.dicti [(k,.int v)])):=rfl
@[simp] theorem WE_e24(es:List IE)(t:Bool)(σ:CS)(Q:CV→CS→Prop):WE B fa n (.range es) t σ Q=(WL B fa n es σ fun vs σ₁=>Opt (rangeV vs) fun o=>Rng σ₁ (fin t Q) o):=rfl
@[simp] theorem WS_e25(i:Nat)(e:IE)(σ:CS)(Q:CF→CS→Prop):WS B fa n (.setv i e) σ Q=(WE B fa n e false σ fun v σ₁=>Q .next (σ₁.set i v)):=rfl
@[simp] theorem WS_e26(i:Nat)(e:IE)(σ:CS)(Q:CF→CS→Prop):WS B fa n (.asgComp i e) σ Q=(WE B fa n e false σ fun v σ₁=>Q .next (σ₁.set i v)):=rfl
@[simp] theorem WS_e27(o:IE)(a:At)(e:IE)(σ:CS)(Q:CF→CS→Prop):WS B fa n (.setattr o a e) σ Q=(WE B fa n e false σ fun v σ₁=>WE B fa n o false σ₁ fun ov σ₂=>Opt (setA σ₂.heap ov a v) fun H=>Q .next ⟨σ₂.vars,H⟩):=rfl
@[simp] theorem WS_e28(o i e:IE)(σ:CS)(Q:CF→CS→Prop):WS B fa n (.setsub o i e) σ Q=(WE B fa n e false σ fun v σ₁=>WE B fa n o false σ₁ fun ov σ₂=>WE B fa n i false σ₂ fun iv σ₃=>Opt (setI σ₃.heap ov iv v) fun H=>Q .next ⟨σ₃.vars,H⟩):=rfl
@[simp] theorem WS_e29(ts:List Tg)(e:IE)(σ:CS)(Q:CF→CS→Prop):WS B fa n (.unpack ts e) σ Q=(WE B fa n e false σ fun v σ₁=>∃a vs,v=.ref a∧σ₁.heap a=some (.tup vs)∧vs.length=ts.length∧WT B fa n ts vs σ₁ (Q .next)):=rfl
@[simp] theorem WS_e30(i j:Nat)(σ:CS)(Q:CF→CS→Prop):WS B fa n (.swap i j) σ Q=(σ.get i≠.undef∧σ.get j≠.undef∧Q .next ((σ.set j (σ.get i)).set i (σ.get j))):=rfl
@[simp] theorem WS_e31(i:Nat)(o:Operator)(e:IE)(σ:CS)(Q:CF→CS→Prop):WS B fa n (.augv i o e) σ Q=(σ.get i≠.undef∧WE B fa n e false σ fun v σ₁=>Opt (binV o σ₁.heap (σ.get i) v) fun r=>∃c,r=.v (.int c)∧Q .next (σ₁.set i (.int c))):=rfl
@[simp] theorem WS_e32(o i:IE)(op:Operator)(e:IE)(σ:CS)(Q:CF→CS→Prop):WS B fa n (.augsub o i op e) σ Q=(WE B fa n o false σ fun ov σ₁=>WE B fa n i false σ₁ fun iv σ₂=>Opt (subV σ₂.heap ov iv) fun old=>WE B fa n e false σ₂ fun v σ₃=>
   Opt (binV op σ₃.heap old v) fun r=>∃c,r=.v (.int c)∧Opt (setI σ₃.heap ov iv (.int c)) fun H=>Q .next ⟨σ₃.vars,H⟩):=rfl
@[simp] theorem WS_e33(e:IE)(σ:CS)(Q:CF→CS→Prop):WS B fa n (.expr e) σ Q=(WE B fa n e false σ fun _ σ₁=>Q .next σ₁):=rfl
@[simp] theorem WS_e34(t:IE)(a b:List IS)(σ:CS)(Q:CF→CS→Prop):WS B fa n (.ite t a b) σ Q=(WE B fa n t true σ fun v σ₁=>Br v (WSs B fa n a σ₁ Q) (WSs B fa n b σ₁ Q)):=rfl
@[simp] theorem WS_e35(e:IE)(σ:CS)(Q:CF→CS→Prop):WS B fa n (.ret e) σ Q=(WE B fa n e false σ fun v σ₁=>Q (.ret v) σ₁):=rfl
@[simp] theorem WS_e36 (σ:CS)(Q:CF→CS→Prop):WS B fa n (.ret0) σ Q=(Q (.ret .none) σ):=rfl
@[simp] theorem WS_e37 (σ:CS)(Q:CF→CS→Prop):WS B fa n (.brk) σ Q=(Q .brk σ):=rfl
@[simp] theorem WSs_nil(σ:CS)(Q:CF→CS→Prop):WSs B fa n [] σ Q=Q .next σ:=rfl
@[simp] theorem WL_nil(σ:CS)(Q:List CV→CS→Prop):WL B fa n [] σ Q=Q [] σ:=rfl
@[simp] theorem WL_cons(e:IE)(r:List IE)(σ:CS)(Q:List CV→CS→Prop):WL B fa n (e::r) σ Q=WE B fa n e false σ fun v σ₁=>WL B fa n r σ₁ fun vs σ₂=>Q (v::vs) σ₂:=rfl
@[simp] theorem WA_nil(σ:CS)(Q:CV→CS→Prop):WA B fa n [] σ Q=Q (.bool true) σ:=rfl
@[simp] theorem WA_cons(e:IE)(r:List IE)(σ:CS)(Q:CV→CS→Prop):WA B fa n (e::r) σ Q=WE B fa n e true σ fun v σ₁=>Br v (WA B fa n r σ₁ Q) (Q (.bool false) σ₁):=rfl
@[simp] theorem WO_nil(σ:CS)(Q:CV→CS→Prop):WO B fa n [] σ Q=Q (.bool false) σ:=rfl
@[simp] theorem WO_cons(e:IE)(r:List IE)(σ:CS)(Q:CV→CS→Prop):WO B fa n (e::r) σ Q=WE B fa n e true σ fun v σ₁=>Br v (Q (.bool true) σ₁) (WO B fa n r σ₁ Q):=rfl
@[simp] theorem WT_nil(σ:CS)(Q:CS→Prop):WT B fa n [] [] σ Q=Q σ:=rfl
@[simp] theorem WT_v(i:Nat)(r:List Tg)(x:CV)(xs:List CV)(σ:CS)(Q:CS→Prop):WT B fa n (.v i::r) (x::xs) σ Q=WT B fa n r xs (σ.set i x) Q:=rfl
@[simp] theorem WT_s(o i:IE)(r:List Tg)(x:CV)(xs:List CV)(σ:CS)(Q:CS→Prop):WT B fa n (.s o i::r) (x::xs) σ Q=WE B fa n o false σ fun ov σ₁=>WE B fa n i false σ₁ fun iv σ₂=>Opt (setI σ₂.heap ov iv x) fun H=>WT B fa n r xs ⟨σ₂.vars,H⟩ Q:=rfl
noncomputable def Sq(B:Base)(fa:Fn→Addr)(n:Nat)(r:List IS)(Q:CF→CS→Prop):CF→CS→Prop:=SqK (fun σ=>WSs B fa n r σ Q) Q
@[simp] theorem Aa(s:IS)(r:List IS)(σ:CS)(Q:CF→CS→Prop):WSs B fa n (s::r) σ Q=WS B fa n s σ (Sq B fa n r Q):=rfl
theorem wsc{s:IS}{r:List IS}{σ:CS}{Q:CF→CS→Prop}(h:WS B fa n s σ (Sq B fa n r Q)):WSs B fa n (s::r) σ Q:=h
theorem ifp{c:Prop}[d:Decidable c]{P Q:Prop}(h:c)(p:P):if c then P else Q:=by rw[if_pos h];exact p
theorem ifn{c:Prop}[d:Decidable c]{P Q:Prop}(h:¬ c)(p:Q):if c then P else Q:=by rw[if_neg h];exact p
@[simp] theorem Al(r:List IS)(Q:CF→CS→Prop)(σ:CS):Sq B fa n r Q .next σ=WSs B fa n r σ Q:=rfl
@[simp] theorem Sq_ret(r:List IS)(Q:CF→CS→Prop)(v:CV)(σ:CS):Sq B fa n r Q (.ret v) σ=Q (.ret v) σ:=rfl
@[simp] theorem Sq_brk(r:List IS)(Q:CF→CS→Prop)(σ:CS):Sq B fa n r Q .brk σ=Q .brk σ:=rfl
noncomputable def Lp(I:CS→Prop)(Q:CF→CS→Prop)(f:CF)(σ:CS):Prop:=match f with
 | .next=>I σ
 | .brk=>Q .next σ
 | .ret v=>Q (.ret v) σ
@[simp] theorem Lp_next(I:CS→Prop)(Q:CF→CS→Prop)(σ:CS):Lp I Q .next σ=I σ:=rfl
@[simp] theorem Lp_brk(I:CS→Prop)(Q:CF→CS→Prop)(σ:CS):Lp I Q .brk σ=Q .next σ:=rfl
@[simp] theorem Lp_ret(I:CS→Prop)(Q:CF→CS→Prop)(v:CV)(σ:CS):Lp I Q (.ret v) σ=Q (.ret v) σ:=rfl
theorem ws_whl{t:IE}{b:List IS}{σ:CS}{Q:CF→CS→Prop}(I:Nat→CS→Prop)(m:Nat)(h0:I m σ)
  (h:∀m σ₁,I m σ₁→WE B fa n t true σ₁ fun v σ₂=>Br v (WSs B fa n b σ₂ (Lp (fun σ₃=>∃k,k<m∧I k σ₃) Q)) (Q .next σ₂)):WS B fa n (.whl t b) σ Q:=⟨I,⟨m,h0⟩,h⟩
noncomputable def ForK(B:Base)(fa:Fn→Addr)(n:Nat)(x:Nat)(b:List IS)(Q:CF→CS→Prop)(v:CV)(σ₁:CS):Prop:=
 ∃a o items,v=.ref a∧σ₁.heap a=some o∧Bc o=some items∧items.length≤lim∧∃I:Nat→CS→Prop,I 0 σ₁∧
   (∀i y σ₂,items[i]?=some y→I i σ₂→σ₂.heap a=some o∧WSs B fa n b (σ₂.set x y) (Lp (I (i+1)) Q))∧(∀σ₂,I items.length σ₂→σ₂.heap a=some o∧Q .next σ₂)
@[simp] theorem WS_for(x:Nat)(e:IE)(b:List IS)(σ:CS)(Q:CF→CS→Prop):WS B fa n (.for x e b) σ Q=WE B fa n e false σ (ForK B fa n x b Q):=rfl
noncomputable def CompK(B:Base)(fa:Fn→Addr)(n:Nat)(elt:IE)(cond:List IE)(free:List Nat)(t:Bool)(Q:CV→CS→Prop)(v:CV)(σ₁:CS):Prop:=
 ∃a o items,v=.ref a∧σ₁.heap a=some o∧Bc o=some items∧items.length≤lim∧
   ∃I:Nat→List CV→CH→Prop,I 0 [] σ₁.heap∧
    (∀i x acc H,items[i]?=some x→I i acc H→H a=some o∧
     WA B fa n cond ⟨x::free.map σ₁.get,H⟩ fun b σ₂=>Br b (WE B fa n elt false σ₂ fun y σ₃=>I (i+1) (acc++[y]) σ₃.heap) (I (i+1) acc σ₂.heap))∧
    (∀acc H,I items.length acc H→H a=some o∧∀d,H d=none→fin t Q (.ref d) ⟨σ₁.vars,H.put d (.list acc)⟩)
@[simp] theorem WE_comp(elt iter:IE)(cond:List IE)(free:List Nat)(t:Bool)(σ:CS)(Q:CV→CS→Prop):WE B fa n (.comp elt iter cond free) t σ Q=WE B fa n iter false σ (CompK B fa n elt cond free t Q):=rfl
theorem Bp{x:Nat}{b:List IS}{Q:CF→CS→Prop}{a:Addr}{items:List CV}{σ₁:CS}(h:σ₁.heap a=some (.list items))(hl:items.length≤lim)(I:Nat→CS→Prop)(h0:I 0 σ₁)
  (h1:∀i y σ₂,items[i]?=some y→I i σ₂→σ₂.heap a=some (.list items)∧WSs B fa n b (σ₂.set x y) (Lp (I (i+1)) Q)) (h2:∀σ₂,I items.length σ₂→σ₂.heap a=some (.list items)∧Q .next σ₂):ForK B fa n x b Q (.ref a) σ₁:=
 ⟨a,_,items,rfl,h,rfl,hl,I,h0,h1,h2⟩
theorem forK_tup{x:Nat}{b:List IS}{Q:CF→CS→Prop}{a:Addr}{items:List CV}{σ₁:CS}(h:σ₁.heap a=some (.tup items))(hl:items.length≤lim)(I:Nat→CS→Prop)(h0:I 0 σ₁)
  (h1:∀i y σ₂,items[i]?=some y→I i σ₂→σ₂.heap a=some (.tup items)∧WSs B fa n b (σ₂.set x y) (Lp (I (i+1)) Q)) (h2:∀σ₂,I items.length σ₂→σ₂.heap a=some (.tup items)∧Q .next σ₂):ForK B fa n x b Q (.ref a) σ₁:=
 ⟨a,_,items,rfl,h,rfl,hl,I,h0,h1,h2⟩
theorem items_up(a b:Nat):Bc (.range a b 1)=some ((List.range (b-a)).map fun i=>.int ((a+i:Nat):Int)):=by
 unfold Bc Bw
 dsimp
 simp
theorem forK_up{x:Nat}{b:List IS}{Q:CF→CS→Prop}{lo hi:Nat}{vars:List CV}{H:CH}(hhi:hi≤lim)
  (h:∀a,H a=none→∃I:Nat→CS→Prop,I 0 ⟨vars,H.put a (.range lo hi 1)⟩∧
   (∀i σ₂,i<hi-lo→I i σ₂→σ₂.heap a=some (.range lo hi 1)∧WSs B fa n b (σ₂.set x (.int ((lo+i:Nat):Int))) (Lp (I (i+1)) Q))∧
   (∀σ₂,I (hi-lo) σ₂→σ₂.heap a=some (.range lo hi 1)∧Q .next σ₂)):Rng ⟨vars,H⟩ (fin false (ForK B fa n x b Q)) (.range lo hi 1):=by
 intro a ha
 refine oea2 (h a ha) fun I h0 h1 h2=>?_
 refine⟨a,_,_,rfl,CH.put_self ..,items_up lo hi,by simp;exact ar1 hhi,I,h0,fun i y σ₂ hy hi'=>?_,fun σ₂ hi'=>h2 σ₂ (by simpa using hi')⟩
 rw[List.getElem?_map,Option.map_eq_some_iff] at hy
 refine oea hy fun j hj z2_=>?_;subst z2_
 obtain⟨hlt,he⟩:=List.getElem?_eq_some_iff.mp hj
 simp at hlt he
 subst he
 exact h1 i σ₂ hlt hi'
theorem range1{b:Nat}(h:b≤lim):rangeV [.int b]=some (.range 0 b 1):=by
 have:(0:Int)≤b∧(b:Int)≤lim:=⟨by exact ar2,by exact_mod_cast h⟩
 exact if_pos this
theorem forK_up0{x:Nat}{b:List IS}{Q:CF→CS→Prop}{hi:Nat}{vars:List CV}{H:CH}(hhi:hi≤lim)
  (h:∀a,H a=none→∃I:Nat→CS→Prop,I 0 ⟨vars,H.put a (.range 0 hi 1)⟩∧
   (∀i σ₂,i<hi→I i σ₂→σ₂.heap a=some (.range 0 hi 1)∧WSs B fa n b (σ₂.set x (.int (i:Int))) (Lp (I (i+1)) Q))∧
   (∀σ₂,I hi σ₂→σ₂.heap a=some (.range 0 hi 1)∧Q .next σ₂)):Rng ⟨vars,H⟩ (fin false (ForK B fa n x b Q)) (.range 0 hi 1):=by
 refine forK_up (lo:=0) hhi fun a ha=>?_
 refine oea2 (h a ha) fun I h0 h1 h2=>?_
 refine⟨I,h0,fun i σ₂ hi' hI=>?_,fun σ₂ hI=>h2 σ₂ (by simpa using hI)⟩
 have:=h1 i σ₂ (by omega) hI
 simpa using this
theorem range2{a b:Nat}(h:b≤lim)(h2:a≤lim):rangeV [.int a,.int b]=some (.range a b 1):=by
 have:(0:Int)≤a∧(a:Int)≤lim∧(0:Int)≤b∧(b:Int)≤lim:=⟨by lia,by exact_mod_cast h2,by lia,by exact_mod_cast h⟩
 exact if_pos this
end
@[simp] theorem RetQ_next(Q:CV→CH→Prop)(σ:CS):RetQ Q .next σ=Q .none σ.heap:=rfl
@[simp] theorem RetQ_ret(Q:CV→CH→Prop)(v:CV)(σ:CS):RetQ Q (.ret v) σ=Q v σ.heap:=rfl
@[simp] theorem get_0(a0:CV)(l:List CV)(H:CH):CS.get ⟨a0::l,H⟩ 0=a0:=rfl
@[simp] theorem get_1(a0 a1:CV)(l:List CV)(H:CH):CS.get ⟨a0::a1::l,H⟩ 1=a1:=rfl
@[simp] theorem get_2(a0 a1 a2:CV)(l:List CV)(H:CH):CS.get ⟨a0::a1::a2::l,H⟩ 2=a2:=rfl
@[simp] theorem get_3(a0 a1 a2 a3:CV)(l:List CV)(H:CH):CS.get ⟨a0::a1::a2::a3::l,H⟩ 3=a3:=rfl
@[simp] theorem get_4(a0 a1 a2 a3 a4:CV)(l:List CV)(H:CH):CS.get ⟨a0::a1::a2::a3::a4::l,H⟩ 4=a4:=rfl
@[simp] theorem get_5(a0 a1 a2 a3 a4 a5:CV)(l:List CV)(H:CH):CS.get ⟨a0::a1::a2::a3::a4::a5::l,H⟩ 5=a5:=rfl
@[simp] theorem get_6(a0 a1 a2 a3 a4 a5 a6:CV)(l:List CV)(H:CH):CS.get ⟨a0::a1::a2::a3::a4::a5::a6::l,H⟩ 6=a6:=rfl
@[simp] theorem get_7(a0 a1 a2 a3 a4 a5 a6 a7:CV)(l:List CV)(H:CH):CS.get ⟨a0::a1::a2::a3::a4::a5::a6::a7::l,H⟩ 7=a7:=rfl
@[simp] theorem get_8(a0 a1 a2 a3 a4 a5 a6 a7 a8:CV)(l:List CV)(H:CH):CS.get ⟨a0::a1::a2::a3::a4::a5::a6::a7::a8::l,H⟩ 8=a8:=rfl
@[simp] theorem get_9(a0 a1 a2 a3 a4 a5 a6 a7 a8 a9:CV)(l:List CV)(H:CH):CS.get ⟨a0::a1::a2::a3::a4::a5::a6::a7::a8::a9::l,H⟩ 9=a9:=rfl
@[simp] theorem get_10(a0 a1 a2 a3 a4 a5 a6 a7 a8 a9 a10:CV)(l:List CV)(H:CH):CS.get ⟨a0::a1::a2::a3::a4::a5::a6::a7::a8::a9::a10::l,H⟩ 10=a10:=rfl
theorem get_mk(vs:List CV)(H:CH)(i:Nat):CS.get ⟨vs,H⟩ i=vs.getD i .undef:=rfl
@[simp] theorem set_0(a0 v:CV)(l:List CV)(H:CH):CS.set ⟨a0::l,H⟩ 0 v=⟨v::l,H⟩:=rfl
@[simp] theorem set_1(a0 a1 v:CV)(l:List CV)(H:CH):CS.set ⟨a0::a1::l,H⟩ 1 v=⟨a0::v::l,H⟩:=rfl
@[simp] theorem set_2(a0 a1 a2 v:CV)(l:List CV)(H:CH):CS.set ⟨a0::a1::a2::l,H⟩ 2 v=⟨a0::a1::v::l,H⟩:=rfl
@[simp] theorem set_3(a0 a1 a2 a3 v:CV)(l:List CV)(H:CH):CS.set ⟨a0::a1::a2::a3::l,H⟩ 3 v=⟨a0::a1::a2::v::l,H⟩:=rfl
@[simp] theorem set_4(a0 a1 a2 a3 a4 v:CV)(l:List CV)(H:CH):CS.set ⟨a0::a1::a2::a3::a4::l,H⟩ 4 v=⟨a0::a1::a2::a3::v::l,H⟩:=rfl
@[simp] theorem set_5(a0 a1 a2 a3 a4 a5 v:CV)(l:List CV)(H:CH):CS.set ⟨a0::a1::a2::a3::a4::a5::l,H⟩ 5 v=⟨a0::a1::a2::a3::a4::v::l,H⟩:=rfl
@[simp] theorem set_6(a0 a1 a2 a3 a4 a5 a6 v:CV)(l:List CV)(H:CH):CS.set ⟨a0::a1::a2::a3::a4::a5::a6::l,H⟩ 6 v=⟨a0::a1::a2::a3::a4::a5::v::l,H⟩:=rfl
@[simp] theorem set_7(a0 a1 a2 a3 a4 a5 a6 a7 v:CV)(l:List CV)(H:CH):CS.set ⟨a0::a1::a2::a3::a4::a5::a6::a7::l,H⟩ 7 v=⟨a0::a1::a2::a3::a4::a5::a6::v::l,H⟩:=rfl
@[simp] theorem set_8(a0 a1 a2 a3 a4 a5 a6 a7 a8 v:CV)(l:List CV)(H:CH):CS.set ⟨a0::a1::a2::a3::a4::a5::a6::a7::a8::l,H⟩ 8 v=⟨a0::a1::a2::a3::a4::a5::a6::a7::v::l,H⟩:=rfl
@[simp] theorem set_9(a0 a1 a2 a3 a4 a5 a6 a7 a8 a9 v:CV)(l:List CV)(H:CH):CS.set ⟨a0::a1::a2::a3::a4::a5::a6::a7::a8::a9::l,H⟩ 9 v=⟨a0::a1::a2::a3::a4::a5::a6::a7::a8::v::l,H⟩:=rfl
@[simp] theorem set_10(a0 a1 a2 a3 a4 a5 a6 a7 a8 a9 a10 v:CV)(l:List CV)(H:CH):CS.set ⟨a0::a1::a2::a3::a4::a5::a6::a7::a8::a9::a10::l,H⟩ 10 v=⟨a0::a1::a2::a3::a4::a5::a6::a7::a8::a9::v::l,H⟩:=rfl
theorem set_mk(vs:List CV)(H:CH)(i:Nat)(v:CV):CS.set ⟨vs,H⟩ i v=⟨vs.set i v,H⟩:=rfl
@[simp] theorem Ax(H:CH)(Q:CV→CH→Prop)(c:CV):RV.go H Q (.v c)=Q c H:=rfl
@[simp] theorem go_new(H:CH)(Q:CV→CH→Prop)(o:CO):RV.go H Q (.new o)=∀a,H a=none→Q (.ref a) (H.put a o):=rfl
@[simp] theorem Bk(H:CH)(Q:CV→CH→Prop)(c:CV)(a:Addr)(o:CO):RV.go H Q (.upd c a o)=Q c (H.put a o):=rfl
@[simp] theorem cmp_Lt(H:CH)(x y:Int):Bm .Lt H (.int x) (.int y)=some (decide (x<y)):=rfl
@[simp] theorem cmp_LtE(H:CH)(x y:Int):Bm .LtE H (.int x) (.int y)=some (decide (x≤y)):=rfl
@[simp] theorem cmp_Gt(H:CH)(x y:Int):Bm .Gt H (.int x) (.int y)=some (decide (y<x)):=rfl
@[simp] theorem cmp_GtE(H:CH)(x y:Int):Bm .GtE H (.int x) (.int y)=some (decide (y≤x)):=rfl
@[simp] theorem cmp_Eq(H:CH)(x y:Int):Bm .Eq H (.int x) (.int y)=some (decide (x=y)):=rfl
@[simp] theorem cmp_NotEq(H:CH)(x y:Int):Bm .NotEq H (.int x) (.int y)=some (decide (x≠y)):=rfl
@[simp] theorem cmp_Is_n(H:CH):Bm .Is H .none .none=some true:=rfl
@[simp] theorem cmp_Is_r(H:CH)(a:Addr):Bm .Is H (.ref a) .none=some false:=rfl
@[simp] theorem cmp_Is_b(H:CH)(x:Bool):Bm .Is H (.bool x) .none=some false:=rfl
@[simp] theorem cmp_IsNot_n(H:CH):Bm .IsNot H .none .none=some false:=rfl
@[simp] theorem cmp_IsNot_r(H:CH)(a:Addr):Bm .IsNot H (.ref a) .none=some true:=rfl
@[simp] theorem cmp_NotEq_b(H:CH)(x y:Bool):Bm .NotEq H (.bool x) (.bool y)=some (x != y):=rfl
@[simp] theorem Ao(o:Operator)(H:CH)(x y:Int):binV o H (.int x) (.int y)=(Aw o x y).map fun r=>.v (.int r):=rfl
@[simp] theorem io_Add(x y:Int):Aw .Add x y=some (x+y):=rfl
@[simp] theorem io_Sub(x y:Int):Aw .Sub x y=some (x-y):=rfl
@[simp] theorem neg_int(x:Int):negV (.int x)=some (.int (-x)):=rfl
@[simp] theorem br_pd(p:Prop)[Decidable p](P Q:Prop):Br (.bool !decide p) P Q↔if p then Q else P:=by by_cases h:p <;> simp[h]
@[simp] theorem truth_bool(H:CH)(b:Bool):truth H (.bool b)=some b:=rfl
theorem oat{H:CH}{v:CV}{c:Cl}{f:At→CV}(h:∀a,Cl.has c a=true→attrV H v a=some (f a)){a:At}(ha:Cl.has c a=true){P:CV→Prop}(q:P (f a)):Opt (attrV H v a) P:=Opt.mk (h a ha) q
end
section
set_option genInjectivity true
inductive IF where
 | values | levels | reasons | phases | activity | trail | limits
 deriving DecidableEq
noncomputable def IF.at:IF→At
 | .values=>.values | .levels=>.levels | .reasons=>.reasons | .phases=>.phases | .activity=>.activity | .trail=>.trail | .limits=>.limits
structure St where
 count:Nat
 fld:IF→List Int
 cls:List (List Int)
 wat:List (List Int)
 step:Int
 head:Int
 refuted:Bool
 learned:List CV
 found:List CV
set_option genCtorIdx false in
inductive SR where
 | i (f:IF) | cs | cl (k:Nat) | ws | wa (k:Nat) | le | fo
noncomputable def SR.ctorIdx(x:SR):Nat:=SR.casesOn x (fun _=>0) 1 (fun _=>2) 3 (fun _=>4) 5 6
deriving instance DecidableEq for SR
structure Ad where
 self:Addr
 d:Addr
 r:SR→Addr
noncomputable def cont(st:St)(S:Ad):SR→Option CO
 | .i f=>some (.list ((st.fld f).map .int))
 | .cs=>some (.list ((List.range st.cls.length).map fun k=>.ref (S.r (.cl k))))
 | .cl k=>(st.cls[k]?).map fun c=>.list (c.map .int)
 | .ws=>some (.list ((List.range st.wat.length).map fun k=>.ref (S.r (.wa k))))
 | .wa k=>(st.wat[k]?).map fun c=>.list (c.map .int)
 | .le=>some (.list st.learned)
 | .fo=>some (.list st.found)
noncomputable def Bd(st:St)(S:Ad):At→CV
 | .count=>.int st.count
 | .clauses=>.ref (S.r .cs)
 | .watches=>.ref (S.r .ws)
 | .values=>.ref (S.r (.i .values))
 | .levels=>.ref (S.r (.i .levels))
 | .reasons=>.ref (S.r (.i .reasons))
 | .phases=>.ref (S.r (.i .phases))
 | .activity=>.ref (S.r (.i .activity))
 | .trail=>.ref (S.r (.i .trail))
 | .limits=>.ref (S.r (.i .limits))
 | .step=>.int st.step
 | .head=>.int st.head
 | .learned=>.ref (S.r .le)
 | .refuted=>.bool st.refuted
 | .found=>.ref (S.r .fo)
 | .nodes=>.undef
 | .inputs=>.undef
 | .outputs=>.undef
 | .table=>.undef
structure Sv (Fm H:CH) (S:Ad) (st:St):Prop where
 self:H S.self=some (.inst .solver S.d (Bd st S))
 mem:∀r o,cont st S r=some o→H (S.r r)=some o
 inj:∀r r' o o',cont st S r=some o→cont st S r'=some o'→S.r r=S.r r'→r=r'
 fr:∀x o,Fm x=some o→H x=some o
 ap:∀x o,Fm x=some o→x≠S.self∧∀r o',cont st S r=some o'→S.r r≠x
section
variable {Fm H:CH} {S:Ad} {st st':St}
theorem cont_list{r:SR}{o:CO}(h:cont st S r=some o):∃vs,o=.list vs:=by
 induction r using SR.casesOn <;> simp only[cont,Option.map_eq_some_iff,Option.some.injEq] at h
 case cl=>refine oea h fun c _ z2_=>?_;subst z2_;exact⟨_,rfl⟩
 case wa=>refine oea h fun c _ z2_=>?_;subst z2_;exact⟨_,rfl⟩
 all_goals subst h;exact⟨_,rfl⟩
theorem Sv.ns(h:Sv Fm H S st){r:SR}{o:CO}(e:cont st S r=some o):S.r r≠S.self:=by
 intro q
 have:=h.mem r o e
 rw[q,h.self] at this
 refine oe (cont_list e) fun vs z1_=>?_;subst z1_
 cases this
theorem so_nu{a:At}(h:Cl.has .solver a=true):Bd st S a≠.undef:=by
 induction a using At.casesOn <;> first | exact ff h | exact nofun
theorem Sv.attr(h:Sv Fm H S st)(a:At)(ha:Cl.has .solver a=true):attrV H (.ref S.self) a=some (Bd st S a):=
 (congrArg (fun o=>Option.bind o (CO.attr a)) h.self).trans (if_pos ⟨ha,so_nu ha⟩)
theorem Sv.attrs(h:Sv Fm H S st):∀a,Cl.has .solver a=true→attrV H (.ref S.self) a=some (Bd st S a):=h.attr
@[simp] theorem has_count:Cl.has .solver .count=true:=by decide
@[simp] theorem so_count:Bd st S .count=.int st.count:=rfl
@[simp] theorem has_clauses:Cl.has .solver .clauses=true:=by decide
@[simp] theorem so_clauses:Bd st S .clauses=.ref (S.r .cs):=rfl
@[simp] theorem has_watches:Cl.has .solver .watches=true:=by decide
@[simp] theorem so_watches:Bd st S .watches=.ref (S.r .ws):=rfl
@[simp] theorem has_values:Cl.has .solver .values=true:=by decide
@[simp] theorem so_values:Bd st S .values=.ref (S.r (.i .values)):=rfl
@[simp] theorem has_levels:Cl.has .solver .levels=true:=by decide
@[simp] theorem so_levels:Bd st S .levels=.ref (S.r (.i .levels)):=rfl
@[simp] theorem has_reasons:Cl.has .solver .reasons=true:=by decide
@[simp] theorem so_reasons:Bd st S .reasons=.ref (S.r (.i .reasons)):=rfl
@[simp] theorem has_phases:Cl.has .solver .phases=true:=by decide
@[simp] theorem so_phases:Bd st S .phases=.ref (S.r (.i .phases)):=rfl
@[simp] theorem has_activity:Cl.has .solver .activity=true:=by decide
@[simp] theorem so_activity:Bd st S .activity=.ref (S.r (.i .activity)):=rfl
@[simp] theorem has_trail:Cl.has .solver .trail=true:=by decide
@[simp] theorem so_trail:Bd st S .trail=.ref (S.r (.i .trail)):=rfl
@[simp] theorem has_limits:Cl.has .solver .limits=true:=by decide
@[simp] theorem so_limits:Bd st S .limits=.ref (S.r (.i .limits)):=rfl
@[simp] theorem has_step:Cl.has .solver .step=true:=by decide
@[simp] theorem so_step:Bd st S .step=.int st.step:=rfl
@[simp] theorem has_head:Cl.has .solver .head=true:=by decide
@[simp] theorem so_head:Bd st S .head=.int st.head:=rfl
@[simp] theorem has_learned:Cl.has .solver .learned=true:=by decide
@[simp] theorem so_learned:Bd st S .learned=.ref (S.r .le):=rfl
@[simp] theorem has_refuted:Cl.has .solver .refuted=true:=by decide
@[simp] theorem so_refuted:Bd st S .refuted=.bool st.refuted:=rfl
@[simp] theorem has_found:Cl.has .solver .found=true:=by decide
@[simp] theorem so_found:Bd st S .found=.ref (S.r .fo):=rfl
theorem Sv.set(h:Sv Fm H S st)(r:SR)(o:CO)(hr:∃o₀,cont st S r=some o₀)(hc:∀r',cont st' S r'=if r'=r then some o else cont st S r')(hs:Bd st' S=Bd st S):Sv Fm (H.put (S.r r) o) S st':=by
 refine oe hr fun o₀ hr=>?_
 have live:∀r' o',cont st' S r'=some o'→∃o'',cont st S r'=some o'':=fun r' o' e=>by
  rw[hc] at e
  split at e
  ·rename_i q;exact⟨o₀,q▸hr⟩
  ·exact⟨_,e⟩
 refine⟨?_,fun r' o' e=>?_,fun r1 r2 o1 o2 e1 e2 q=>?_,fun x o' e=>?_,fun x o' e=>⟨(h.ap x o' e).1,fun r' o'' e'=>?_⟩⟩
 ·rw[CH.put_ne _ _ (Ne.symm (h.ns hr)),hs];exact h.self
 ·rw[hc] at e
  split at e
  ·rename_i q;cases e;rw[q,CH.put_self]
  ·rename_i q
   rw[CH.put_ne _ _ (fun e'=>q (h.inj _ _ _ _ e hr e'))];exact h.mem _ _ e
 ·refine oe (live _ _ e1) fun p1 e1=>?_
  refine oe (live _ _ e2) fun p2 e2=>?_
  exact h.inj _ _ _ _ e1 e2 q
 ·rw[CH.put_ne _ _ (fun q=>(h.ap x o' e).2 r o₀ hr q.symm)];exact h.fr x o' e
 ·refine oe (live _ _ e') fun p e'=>?_
  exact(h.ap x o' e).2 _ _ e'
theorem Sv.setF(h:Sv Fm H S st)(f:At→CV)(hc:∀r',cont st' S r'=cont st S r')(hf:f=Bd st' S):Sv Fm (H.put S.self (.inst .solver S.d f)) S st':=by
 subst hf
 refine⟨CH.put_self ..,fun r' o' e=>?_,fun r1 r2 o1 o2 e1 e2 q=>h.inj _ _ _ _ (hc r1▸e1) (hc r2▸e2) q,fun x o' e=>?_,fun x o' e=>⟨(h.ap x o' e).1,fun r' o'' e'=>(h.ap x o' e).2 r' o'' (hc r'▸e')⟩⟩
 ·rw[hc] at e;rw[CH.put_ne _ _ (h.ns e)];exact h.mem _ _ e
 ·rw[CH.put_ne _ _ (h.ap x o' e).1];exact h.fr x o' e
theorem Sv.alloc(h:Sv Fm H S st){a:Addr}(o:CO)(ha:H a=none):Sv (Fm.put a o) (H.put a o) S st:=by
 have ne:∀x p,H x=some p→x≠a:=fun x p e q=>by rw[q,ha] at e;cases e
 refine⟨by rw[CH.put_ne _ _ (ne _ _ h.self)];exact h.self,fun r o' e=>by rw[CH.put_ne _ _ (ne _ _ (h.mem r o' e))];exact h.mem r o' e,h.inj,fun x o' e=>?_,fun x o' e=>?_⟩
 ·by_cases q:x=a
  ·subst q;rw[CH.put_self] at e ⊢;exact e
  ·rw[CH.put_ne _ _ q] at e ⊢;exact h.fr x o' e
 ·by_cases q:x=a
  ·subst q;exact⟨fun q=>ne _ _ h.self q.symm,fun r o'' e'=>ne _ _ (h.mem r o'' e')⟩
  ·rw[CH.put_ne _ _ q] at e;exact h.ap x o' e
theorem Sv.side(h:Sv Fm H S st){a:Addr}{o₀:CO}(o:CO)(ha:Fm a=some o₀):Sv (Fm.put a o) (H.put a o) S st:=by
 refine oa (h.ap a o₀ ha) fun p1 p2=>?_
 refine⟨by rw[CH.put_ne _ _ (Ne.symm p1)];exact h.self,fun r o' e=>by rw[CH.put_ne _ _ (p2 r o' e)];exact h.mem r o' e,h.inj,fun x o' e=>?_,fun x o' e=>?_⟩
 ·by_cases q:x=a
  ·subst q;rw[CH.put_self] at e ⊢;exact e
  ·rw[CH.put_ne _ _ q] at e ⊢;exact h.fr x o' e
 ·by_cases q:x=a
  ·subst q;exact⟨p1,p2⟩
  ·rw[CH.put_ne _ _ q] at e;exact h.ap x o' e
theorem Sv.weak(h:Sv Fm H S st){Fm':CH}(k:∀x o,Fm' x=some o→Fm x=some o):Sv Fm' H S st:=
 ⟨h.self,h.mem,h.inj,fun x o e=>h.fr x o (k x o e),fun x o e=>h.ap x o (k x o e)⟩
noncomputable def CH.del(H:CH)(a:Addr):CH:=fun x=>if x=a then none else H x
theorem CH.del_le(H:CH)(a:Addr):∀x o,(H.del a) x=some o→H x=some o:=fun x o e=>by
 unfold CH.del at e;split at e
 ·cases e
 ·exact e
theorem CH.del_put{H:CH}{a:Addr}{o:CO}(h:H a=none):(H.put a o).del a=H:=by
 funext x
 unfold CH.del CH.put
 split
 ·rename_i q;rw[q,h]
 ·rfl
noncomputable def Ad.upd(S:Ad)(r:SR)(a:Addr):Ad:={ S with r:=fun x=>if x=r then a else S.r x }
theorem Sv.adopt(h:Sv Fm H S st){r:SR}{a:Addr}{o:CO}(ha:Fm a=some o)(hs:Bd st' (S.upd r a)=Bd st S)(hc:∀r',r'≠r→cont st' (S.upd r a) r'=cont st S r')(hr:cont st' (S.upd r a) r=some o):
  Sv (Fm.del a) H (S.upd r a) st':=by
 refine oa (h.ap a o ha) fun p1 p2=>?_
 refine⟨by rw[hs];exact h.self,fun r' o' e=>?_,fun r1 r2 o1 o2 e1 e2 q=>?_,fun x o' e=>h.fr x o' (Fm.del_le a x o' e),fun x o' e=>⟨(h.ap x o' (Fm.del_le a x o' e)).1,fun r' o'' e'=>?_⟩⟩
 ·by_cases q:r'=r
  ·subst q;rw[hr] at e;cases e
   show H (if r'=r' then a else S.r r')=_
   rw[if_pos rfl];exact h.fr a o ha
  ·rw[hc r' q] at e
   show H (if r'=r then a else S.r r')=_
   rw[if_neg q];exact h.mem r' o' e
 ·have q:(if r1=r then a else S.r r1)=(if r2=r then a else S.r r2):=q
  by_cases q1:r1=r <;> by_cases q2:r2=r
  ·rw[q1,q2]
  ·rw[if_pos q1,if_neg q2] at q;rw[hc r2 q2] at e2;exact absurd q.symm (p2 _ _ e2)
  ·rw[if_neg q1,if_pos q2] at q;rw[hc r1 q1] at e1;exact absurd q (p2 _ _ e1)
  ·rw[if_neg q1,if_neg q2] at q;rw[hc r1 q1] at e1;rw[hc r2 q2] at e2;exact h.inj _ _ _ _ e1 e2 q
 ·show(if r'=r then a else S.r r')≠x
  have hx:x≠a:=fun q=>by unfold CH.del at e;rw[if_pos q] at e;cases e
  split
  ·exact Ne.symm hx
  ·rename_i q;rw[hc r' q] at e';exact(h.ap x o' (Fm.del_le a x o' e)).2 r' o'' e'
end
end
section
noncomputable def St.upd(st:St)(f:IF)(l:List Int):St:={ st with fld:=fun g=>if g=f then l else st.fld g }
@[simp] theorem upd_self(st:St)(f:IF)(l:List Int):(st.upd f l).fld f=l:=by simp[St.upd]
theorem An(st:St){f g:IF}(l:List Int)(h:g≠f):(st.upd f l).fld g=st.fld g:=by simp[St.upd,h]
@[simp] theorem upd_count(st:St)(f:IF)(l:List Int):(st.upd f l).count=st.count:=rfl
@[simp] theorem upd_cls(st:St)(f:IF)(l:List Int):(st.upd f l).cls=st.cls:=rfl
@[simp] theorem upd_wat(st:St)(f:IF)(l:List Int):(st.upd f l).wat=st.wat:=rfl
@[simp] theorem upd_step(st:St)(f:IF)(l:List Int):(st.upd f l).step=st.step:=rfl
@[simp] theorem upd_head(st:St)(f:IF)(l:List Int):(st.upd f l).head=st.head:=rfl
@[simp] theorem upd_refuted(st:St)(f:IF)(l:List Int):(st.upd f l).refuted=st.refuted:=rfl
@[simp] theorem upd_learned(st:St)(f:IF)(l:List Int):(st.upd f l).learned=st.learned:=rfl
@[simp] theorem upd_found(st:St)(f:IF)(l:List Int):(st.upd f l).found=st.found:=rfl
theorem idx_of{k:Int}{n:Nat}(h0:0≤k)(h1:k.toNat<n)(h2:n≤lim):idx k n=some k.toNat:=by
 unfold idx
 simp only[Ab] at h2
 rw[if_pos]
 exact ar363 h1 h0 h2
section
variable {Fm H:CH} {S:Ad} {st st':St}
theorem Sv.getI(h:Sv Fm H S st)(f:IF):H (S.r (.i f))=some (.list ((st.fld f).map .int)):=h.mem (.i f) _ rfl
theorem rdL{H:CH}{a:Addr}{l:List Int}(e:H a=some (.list (l.map .int))){k:Int}(h0:0≤k)(h1:k.toNat<l.length)(h2:l.length≤lim):subV H (.ref a) (.int k)=some (.int (l.getD k.toNat 0)):=by
 simp only[subV,CO.sub,Ae,Af,Option.bind_some,e,List.length_map]
 simp only[idx_of h0 h1 h2]
 simp[h1]
theorem wrL{H:CH}{a:Addr}{l:List Int}(e:H a=some (.list (l.map .int))){k v:Int}(h0:0≤k)(h1:k.toNat<l.length)(h2:l.length≤lim):setI H (.ref a) (.int k) (.int v)=some (H.put a (.list ((l.set k.toNat v).map .int))):=by
 simp only[setI,setI_e,tp_tup,Ae,Af,Option.bind_some,e,List.length_map]
 simp only[idx_of h0 h1 h2]
 simp
theorem apL{H:CH}{a:Addr}{l:List Int}(e:H a=some (.list (l.map .int))){v:Int}(h2:l.length<lim):bmV .append H (.ref a) [.int v]=some (.upd .none a (.list ((l++[v]).map .int))):=by
 simp[bmV_e,CH.lsA,get2_e,Bi,two_two,B8,Ah,Ae,Af,Option.bind_some,e,h2]
theorem okA{H:CH}{a:Addr}{l:List CV}(e:H a=some (.list l)):bmOk .append H (.ref a)=true:=by simp[bmOk,bmLook_e,CH.lsA,isD_e,Ah,Ae,Af,Option.bind_some,e]
theorem okP{H:CH}{a:Addr}{l:List CV}(e:H a=some (.list l)):bmOk .pop0 H (.ref a)=true:=by simp[bmOk,bmLook_e,CH.lsA,isD_e,Ah,Ae,Af,Option.bind_some,e]
theorem lenL{H:CH}{a:Addr}{l:List CV}(e:H a=some (.list l))(h2:l.length≤lim):bfV .len H (.ref a)=some (.v (.int l.length)):=by
 simp[bfV_e,CH.lsA,len_e,mkList_e,Ah,Bx,Ae,Af,Option.bind_some,e,h2]
theorem Sv.putI(h:Sv Fm H S st)(f:IF)(l:List Int):Sv Fm (H.put (S.r (.i f)) (.list (l.map .int))) S (st.upd f l):=by
 refine h.set (.i f) _ ⟨_,rfl⟩ (fun r'=>?_) rfl
 induction r' using SR.casesOn with
 | i g=>
  by_cases q:g=f
  ·subst q;simp[cont]
  ·have:SR.i g≠SR.i f:=fun e=>q (by cases e;rfl)
   simp[cont,An _ _ q,q]
 | _=>rfl
theorem absI(l:Int):bfV .abs H (.int l)=some (.v (.int l.natAbs)):=rfl
noncomputable def St.v(st:St)(l:Int):Int:=if l<0 then -((st.fld .values).getD l.natAbs 0) else (st.fld .values).getD l.natAbs 0
noncomputable def St.assign(st:St)(l r:Int):St:=
 (((st.upd .values ((st.fld .values).set l.natAbs (if 0<l then 1 else -1))).upd .levels ((st.fld .levels).set l.natAbs (st.fld .limits).length)).upd .reasons ((st.fld .reasons).set l.natAbs r)).upd .trail (st.fld .trail++[l])
structure St.Wf (st:St):Prop where
 cnt:st.count≤100
 len:∀f,f≠.trail→f≠.limits→(st.fld f).length=st.count+1
 wat:st.wat.length=2*st.count+2
 tr:(st.fld .trail).length≤1000
 li:(st.fld .limits).length≤1000
theorem St.Wf.l{st:St}(w:st.Wf)(f:IF)(h:f≠.trail)(h2:f≠.limits):(st.fld f).length≤lim:=by rw[w.len f h h2];have:=w.cnt;rw[Ab];exact ar73 this
noncomputable def Vl(st:St)(l:Int):Prop:=l≠0∧l.natAbs≤st.count
theorem Sv.wI(h:Sv Fm H S st)(f:IF){k v:Int}(h0:0≤k)(h1:k.toNat<(st.fld f).length)(h2:(st.fld f).length≤lim){P:CH→Prop}(q:∀H',Sv Fm H' S (st.upd f ((st.fld f).set k.toNat v))→P H'):
  Opt (setI H (.ref (S.r (.i f))) (.int k) (.int v)) P:=Opt.mk (wrL (h.getI f) h0 h1 h2) (q _ (h.putI f _))
theorem Sv.apI(h:Sv Fm H S st)(f:IF){v:Int}(h2:(st.fld f).length<lim){P:CV→CH→Prop}(q:∀H',Sv Fm H' S (st.upd f (st.fld f++[v]))→P .none H'):
  bmOk .append H (.ref (S.r (.i f)))=true∧Opt (bmV .append H (.ref (S.r (.i f))) [.int v]) fun r=>RV.go H P r:=⟨okA (h.getI f),Opt.mk (apL (h.getI f) h2) (q _ (h.putI f _))⟩
theorem Sv.rI(h:Sv Fm H S st)(f:IF){k:Int}(h0:0≤k)(h1:k.toNat<(st.fld f).length)(h2:(st.fld f).length≤lim){P:CV→Prop}(q:P (.int ((st.fld f).getD k.toNat 0))):
  Opt (subV H (.ref (S.r (.i f))) (.int k)) P:=Opt.mk (rdL (h.getI f) h0 h1 h2) (q)
theorem Sv.setScalar(h:Sv Fm H S st){a:At}{v:CV}(ha:Cl.has .solver a=true)(hv:v≠.undef)(hc:∀r',cont st' S r'=cont st S r')(hf:(fun y=>if y=a then v else Bd st S y)=Bd st' S){P:CH→Prop}(q:∀H',Sv Fm H' S st'→P H'):
  Opt (setA H (.ref S.self) a v) P:=by
 refine Opt.mk ?_ (q _ (h.setF (st':=st') _ hc hf))
 simp only[setA,CO.setA,Ae,Af,Option.bind_some,h.self]
 rw[if_pos ⟨ha,hv⟩]
theorem Sv.obj(h:Sv Fm H S st){f:Fn}(hf:f.cl=some .solver:=by rfl):MOk H (.ref S.self) f:=⟨_,_,_,_,rfl,h.self,hf⟩
variable {B:Base} {n:Nat} {Q:CV→CH→Prop}
theorem ft_value(C:Cx B)(hn:0<n)(h:Sv Fm H S st)(w:st.Wf){l:Int}(hl:l.natAbs≤st.count)(q:Q (.int (st.v l)) H):FT B fA n .sValue [.ref S.self,.int l] H Q:=by
 have e:=h.getI .values
 have lv:=w.len .values (by simp) (by simp)
 have ll:=w.l .values (by simp) (by simp)
 refine C.call hn rfl ?_
 refine wsc ?_
 unfold St.v at q
 by_cases hneg:l<0
 ·rw[if_pos hneg] at q
  dsimp
  repeat ((first | refine oat h.attrs rfl ?_);try dsimp )
  simp[hneg,h.attrs]
  rw[rdL e (by exact ar364 hneg) (by exact ar365 hl lv) ll]
  simpa[show(-l).toNat=l.natAbs by exact ar366 hneg] using q
 ·rw[if_neg hneg] at q
  dsimp
  repeat ((first | refine oat h.attrs rfl ?_);try dsimp )
  simp[hneg,h.attrs]
  rw[rdL e (by exact ar367 hneg) (by exact ar368 hl lv) ll]
  simpa[show l.toNat=l.natAbs by exact ar369 hneg] using q
theorem ft_level(C:Cx B)(hn:0<n)(h:Sv Fm H S st)(w:st.Wf)(q:Q (.int (st.fld .limits).length) H):FT B fA n .sLevel [.ref S.self] H Q:=by
 refine C.call hn rfl ?_
 dsimp
 simp[show IR .sLevel=ir_sLevel from rfl,ir_sLevel,Aa,h.attrs]
 simp only[lenL (h.getI .limits) (by have:=w.li;simp[Ab];exact ar370 this)]
 simpa using q
theorem ft_assign(C:Cx B)(hn:1<n)(h:Sv Fm H S st)(w:st.Wf){l r:Int}(hl:l.natAbs≤st.count)(ht:(st.fld .trail).length<1000)(q:∀H',Sv Fm H' S (st.assign l r)→Q .none H'):
  FT B fA n .sAssign [.ref S.self,.int l,.int r] H Q:=by
 have lv:=w.len .values (by simp) (by simp)
 have ll:=w.l .values (by simp) (by simp)
 have lv2:=w.len .levels (by simp) (by simp)
 have ll2:=w.l .levels (by simp) (by simp)
 have lv3:=w.len .reasons (by simp) (by simp)
 have ll3:=w.l .reasons (by simp) (by simp)
 refine C.call (by exact ar24 hn) rfl ?_
 simp[show IR .sAssign=ir_sAssign from rfl,ir_sAssign,absI]
 unfold St.assign at q
 split
 all_goals
  simp only[h.attrs,has_values,has_levels,has_reasons,has_trail,has_limits,so_values,so_levels,so_reasons,so_trail,so_limits,Ac]
  refine h.wI .values (by exact ar30) (by simp;exact ar32 hl lv) ll fun H1 h1=>⟨h1.obj,?_⟩
  refine ft_level C (by exact ar371 hn) h1 ⟨w.cnt,fun f h1 h2=>?_,w.wat,w.tr,w.li⟩ ?_
  ·by_cases e:f=.values
   ·subst e;simp[lv]
   ·rw[An _ _ e];exact w.len f h1 h2
  simp only[h1.attrs,has_values,has_levels,has_reasons,has_trail,has_limits,so_values,so_levels,so_reasons,so_trail,so_limits,Ac]
  refine h1.wI .levels (by lia) (by simp;rw[An _ _ (by simp)];exact ar32 hl lv2) (by rw[An _ _ (by simp)];exact ll2) fun H2 h2=>?_
  simp only[h2.attrs,has_values,has_levels,has_reasons,has_trail,has_limits,so_values,so_levels,so_reasons,so_trail,so_limits,Ac]
  refine h2.wI .reasons (by lia) (by rw[An _ _ (by simp),An _ _ (by simp)];simp;exact ar32 hl lv3) (by rw[An _ _ (by simp),An _ _ (by simp)];exact ll3) fun H3 h3=>?_
  simp only[h3.attrs,has_values,has_levels,has_reasons,has_trail,has_limits,so_values,so_levels,so_reasons,so_trail,so_limits,Ac]
  refine h3.apI .trail (by rw[An _ _ (by simp),An _ _ (by simp),An _ _ (by simp)];rw[Ab];exact ar188 ht) fun H4 h4=>q _ ?_
  simpa[An, *] using h4
end
end
section
section
variable {Fm H:CH} {S:Ad} {st st':St}
theorem Sv.adoptR(h:Sv Fm H S st){r r0:SR}{a:Addr}{o o0:CO}(ha:Fm a=some o)(hne:r0≠r)(hl:∃o₁,cont st S r0=some o₁)(hs:Bd st' (S.upd r a)=Bd st S)
  (hc:∀r',r'≠r→r'≠r0→cont st' (S.upd r a) r'=cont st S r') (hr:cont st' (S.upd r a) r=some o) (h0:cont st' (S.upd r a) r0=some o0) :
  Sv (Fm.del a) (H.put (S.r r0) o0) (S.upd r a) st':=by
 refine oa (h.ap a o ha) fun p1 p2=>?_
 refine oe hl fun o₁ hl=>?_
 have live:∀r' o',r'≠r→cont st' (S.upd r a) r'=some o'→∃o'',cont st S r'=some o'':=fun r' o' q e=>by
  by_cases q0:r'=r0
  ·exact⟨o₁,q0▸hl⟩
  ·rw[hc r' q q0] at e;exact⟨_,e⟩
 refine⟨by rw[hs];show(H.put (S.r r0) o0) S.self=some (.inst .solver S.d (Bd st S));rw[CH.put_ne _ _ (Ne.symm (h.ns hl))];exact h.self,fun r' o' e=>?_,fun r1 r2 o1 o2 e1 e2 q=>?_,fun x o' e=>?_,fun x o' e=>⟨(h.ap x o' (Fm.del_le a x o' e)).1,fun r' o'' e'=>?_⟩⟩
 ·by_cases q:r'=r
  ·subst q;rw[hr] at e;cases e
   show(H.put (S.r r0) o0) (if r'=r' then a else S.r r')=_
   rw[if_pos rfl,CH.put_ne _ _ (Ne.symm (p2 _ _ hl))];exact h.fr a o ha
  ·show(H.put (S.r r0) o0) (if r'=r then a else S.r r')=_
   rw[if_neg q]
   by_cases q0:r'=r0
   ·subst q0;rw[h0] at e;cases e;exact CH.put_self ..
   ·rw[hc r' q q0] at e
    rw[CH.put_ne _ _ (fun z=>q0 (h.inj _ _ _ _ e hl z))];exact h.mem r' o' e
 ·have q:(if r1=r then a else S.r r1)=(if r2=r then a else S.r r2):=q
  by_cases q1:r1=r <;> by_cases q2:r2=r
  ·rw[q1,q2]
  ·rw[if_pos q1,if_neg q2] at q;refine oe (live _ _ q2 e2) fun _ e2=>?_;exact absurd q.symm (p2 _ _ e2)
  ·rw[if_neg q1,if_pos q2] at q;refine oe (live _ _ q1 e1) fun _ e1=>?_;exact absurd q (p2 _ _ e1)
  ·rw[if_neg q1,if_neg q2] at q;refine oe (live _ _ q1 e1) fun _ e1=>?_;refine oe (live _ _ q2 e2) fun _ e2=>?_;exact h.inj _ _ _ _ e1 e2 q
 ·have e':=Fm.del_le a x o' e
  rw[CH.put_ne _ _ (fun z=>(h.ap x o' e').2 _ _ hl z.symm)];exact h.fr x o' e'
 ·show(if r'=r then a else S.r r')≠x
  have hx:x≠a:=fun q=>by unfold CH.del at e;rw[if_pos q] at e;cases e
  split
  ·exact Ne.symm hx
  ·rename_i q;refine oe (live _ _ q e') fun _ e'=>?_;exact(h.ap x o' (Fm.del_le a x o' e)).2 r' _ e'
theorem Sv.adoptS(h:Sv Fm H S st){r:SR}{a:Addr}{o:CO}(f:At→CV)(ha:Fm a=some o)(hf:f=Bd st' (S.upd r a))(hc:∀r',r'≠r→cont st' (S.upd r a) r'=cont st S r')(hr:cont st' (S.upd r a) r=some o):
  Sv (Fm.del a) (H.put S.self (.inst .solver S.d f)) (S.upd r a) st':=by
 subst hf
 refine oa (h.ap a o ha) fun p1 p2=>?_
 refine⟨CH.put_self ..,fun r' o' e=>?_,fun r1 r2 o1 o2 e1 e2 q=>?_,fun x o' e=>?_,fun x o' e=>⟨(h.ap x o' (Fm.del_le a x o' e)).1,fun r' o'' e'=>?_⟩⟩
 ·by_cases q:r'=r
  ·subst q;rw[hr] at e;cases e
   show(H.put S.self _) (if r'=r' then a else S.r r')=_
   rw[if_pos rfl,CH.put_ne _ _ p1];exact h.fr a o ha
  ·show(H.put S.self _) (if r'=r then a else S.r r')=_
   rw[if_neg q]
   rw[hc r' q] at e
   rw[CH.put_ne _ _ (h.ns e)];exact h.mem r' o' e
 ·have q:(if r1=r then a else S.r r1)=(if r2=r then a else S.r r2):=q
  by_cases q1:r1=r <;> by_cases q2:r2=r
  ·rw[q1,q2]
  ·rw[if_pos q1,if_neg q2] at q;rw[hc _ q2] at e2;exact absurd q.symm (p2 _ _ e2)
  ·rw[if_neg q1,if_pos q2] at q;rw[hc _ q1] at e1;exact absurd q (p2 _ _ e1)
  ·rw[if_neg q1,if_neg q2] at q;rw[hc _ q1] at e1;rw[hc _ q2] at e2;exact h.inj _ _ _ _ e1 e2 q
 ·have e':=Fm.del_le a x o' e
  rw[CH.put_ne _ _ (h.ap x o' e').1];exact h.fr x o' e'
 ·show(if r'=r then a else S.r r')≠x
  have hx:x≠a:=fun q=>by unfold CH.del at e;rw[if_pos q] at e;cases e
  split
  ·exact Ne.symm hx
  ·rename_i q;rw[hc _ q] at e';exact(h.ap x o' (Fm.del_le a x o' e)).2 r' _ e'
theorem Sv.adoptA(h:Sv Fm H S st){r:SR}{a:Addr}{o:CO}{x:At}(ha:Fm a=some o)(hx:Cl.has .solver x=true)(hf:(fun y=>if y=x then .ref a else Bd st S y)=Bd st' (S.upd r a))
  (hc:∀r',r'≠r→cont st' (S.upd r a) r'=cont st S r') (hr:cont st' (S.upd r a) r=some o) {P:CH→Prop} (q:∀H',Sv (Fm.del a) H' (S.upd r a) st'→P H'):Opt (setA H (.ref S.self) x (.ref a)) P:=by
 refine Opt.mk ?_ (q _ (h.adoptS _ ha hf hc hr))
 simp only[setA,CO.setA,Ae,Af,Option.bind_some,h.self]
 rw[if_pos ⟨hx,by simp⟩]
theorem Az(h:Sv Fm H S st){a:Addr}(ha:H a=none):Fm a=none:=by
 induction e:Fm a using Option.casesOn with
 | none=>rfl
 | some o=>have:=h.fr a o e;rw[ha] at this;cases this
@[simp] theorem adupd_self(S:Ad)(r:SR)(a:Addr):(S.upd r a).r r=a:=by simp[Ad.upd]
theorem adupd_ne(S:Ad){r r':SR}(a:Addr)(h:r'≠r):(S.upd r a).r r'=S.r r':=by simp[Ad.upd,h]
@[simp] theorem adupd_s(S:Ad)(r:SR)(a:Addr):(S.upd r a).self=S.self:=rfl
@[simp] theorem adupd_d(S:Ad)(r:SR)(a:Addr):(S.upd r a).d=S.d:=rfl
noncomputable def St.updC(st:St)(k:Nat)(c:List Int):St:={ st with cls:=st.cls.set k c }
noncomputable def St.updW(st:St)(k:Nat)(c:List Int):St:={ st with wat:=st.wat.set k c }
@[simp] theorem updC_fld(st:St)(k:Nat)(c:List Int):(st.updC k c).fld=st.fld:=rfl
@[simp] theorem updC_wat(st:St)(k:Nat)(c:List Int):(st.updC k c).wat=st.wat:=rfl
@[simp] theorem updC_count(st:St)(k:Nat)(c:List Int):(st.updC k c).count=st.count:=rfl
@[simp] theorem updC_cls(st:St)(k:Nat)(c:List Int):(st.updC k c).cls=st.cls.set k c:=rfl
@[simp] theorem updW_fld(st:St)(k:Nat)(c:List Int):(st.updW k c).fld=st.fld:=rfl
@[simp] theorem updW_cls(st:St)(k:Nat)(c:List Int):(st.updW k c).cls=st.cls:=rfl
@[simp] theorem updW_count(st:St)(k:Nat)(c:List Int):(st.updW k c).count=st.count:=rfl
@[simp] theorem updW_wat(st:St)(k:Nat)(c:List Int):(st.updW k c).wat=st.wat.set k c:=rfl
theorem Sv.putC(h:Sv Fm H S st){k:Nat}(hk:k<st.cls.length)(c:List Int):Sv Fm (H.put (S.r (.cl k)) (.list (c.map .int))) S (st.updC k c):=by
 refine h.set (.cl k) _ ⟨_,by simp[cont,List.getElem?_eq_getElem hk];rfl⟩ (fun r'=>?_) rfl
 induction r' using SR.casesOn with
 | cl j=>
  by_cases q:j=k
  ·subst q;simp[cont,hk]
  ·have:SR.cl j≠SR.cl k:=fun e=>q (by cases e;rfl)
   simp[cont,q,List.getElem?_set_ne (Ne.symm q)]
 | cs=>simp[cont]
 | _=>rfl
theorem Sv.putW(h:Sv Fm H S st){k:Nat}(hk:k<st.wat.length)(c:List Int):Sv Fm (H.put (S.r (.wa k)) (.list (c.map .int))) S (st.updW k c):=by
 refine h.set (.wa k) _ ⟨_,by simp[cont,List.getElem?_eq_getElem hk];rfl⟩ (fun r'=>?_) rfl
 induction r' using SR.casesOn with
 | wa j=>
  by_cases q:j=k
  ·subst q;simp[cont,hk]
  ·have:SR.wa j≠SR.wa k:=fun e=>q (by cases e;rfl)
   simp[cont,q,List.getElem?_set_ne (Ne.symm q)]
 | ws=>simp[cont]
 | _=>rfl
theorem rdRef{H:CH}{a:Addr}{l:List CV}(e:H a=some (.list l)){k:Int}(h0:0≤k)(h1:k.toNat<l.length)(h2:l.length≤lim):subV H (.ref a) (.int k)=l[k.toNat]?:=by
 simp only[subV,CO.sub,Ae,Af,Option.bind_some,e]
 rw[idx_of h0 h1 h2]
 rfl
theorem Sv.rC(h:Sv Fm H S st){k:Int}(h0:0≤k)(h1:k.toNat<st.cls.length)(h2:st.cls.length≤lim){P:CV→Prop}(q:P (.ref (S.r (.cl k.toNat)))):Opt (subV H (.ref (S.r .cs)) (.int k)) P:=by
 rw[rdRef (h.mem .cs _ rfl) h0 (by simpa using h1) (by simpa using h2)]
 simpa[h1] using q
theorem Sv.rW(h:Sv Fm H S st){k:Int}(h0:0≤k)(h1:k.toNat<st.wat.length)(h2:st.wat.length≤lim){P:CV→Prop}(q:P (.ref (S.r (.wa k.toNat)))):Opt (subV H (.ref (S.r .ws)) (.int k)) P:=by
 rw[rdRef (h.mem .ws _ rfl) h0 (by simpa using h1) (by simpa using h2)]
 simpa[h1] using q
theorem Sv.getC(h:Sv Fm H S st){k:Nat}{c:List Int}(hc:st.cls[k]?=some c):H (S.r (.cl k))=some (.list (c.map .int)):=h.mem (.cl k) _ (by simp[cont,hc])
theorem Sv.getW(h:Sv Fm H S st){k:Nat}{c:List Int}(hc:st.wat[k]?=some c):H (S.r (.wa k))=some (.list (c.map .int)):=h.mem (.wa k) _ (by simp[cont,hc])
theorem Sv.rCl(h:Sv Fm H S st){k:Nat}{c:List Int}(hc:st.cls[k]?=some c){j:Int}(h0:0≤j)(h1:j.toNat<c.length)(h2:c.length≤lim){P:CV→Prop}(q:P (.int (c.getD j.toNat 0))):Opt (subV H (.ref (S.r (.cl k))) (.int j)) P:=
 Opt.mk (rdL (h.getC hc) h0 h1 h2) (q)
theorem Sv.wCl(h:Sv Fm H S st){k:Nat}{c:List Int}(hc:st.cls[k]?=some c){j v:Int}(h0:0≤j)(h1:j.toNat<c.length)(h2:c.length≤lim){P:CH→Prop}(q:∀H',Sv Fm H' S (st.updC k (c.set j.toNat v))→P H'):
  Opt (setI H (.ref (S.r (.cl k))) (.int j) (.int v)) P:=Opt.mk (wrL (h.getC hc) h0 h1 h2) (q _ (h.putC (List.getElem?_eq_some_iff.mp hc).1 _))
theorem Sv.apW(h:Sv Fm H S st){k:Nat}{l:List Int}(hc:st.wat[k]?=some l){v:Int}(h2:l.length<lim){P:CV→CH→Prop}(q:∀H',Sv Fm H' S (st.updW k (l++[v]))→P .none H'):
  bmOk .append H (.ref (S.r (.wa k)))=true∧Opt (bmV .append H (.ref (S.r (.wa k))) [.int v]) fun r=>RV.go H P r:=⟨okA (h.getW hc),Opt.mk (apL (h.getW hc) h2) (q _ (h.putW (List.getElem?_eq_some_iff.mp hc).1 _))⟩
variable {B:Base} {n:Nat} {Q:CV→CH→Prop}
noncomputable def Ag(x:Int):Int:=if x<0 then 1-2*x else 2*x
theorem ft_slot(C:Cx B)(hn:0<n){x:Int}(h:Q (.int (Ag x)) H):FT B fA n .slot [.int x] H Q:=by
 refine C.call hn rfl ?_
 dsimp
 simp[show IR .slot=ir_slot from rfl,ir_slot,Ai,Ak]
 split <;> simpa[Ag, *] using h
theorem assign_wf{l r:Int}(w:st.Wf)(ht:(st.fld .trail).length<1000):(st.assign l r).Wf:=by
 refine⟨w.cnt,fun f h1 h2=>?_,w.wat,?_,?_⟩
 ·unfold St.assign
  rw[An _ _ h1]
  by_cases e3:f=.reasons
  ·subst e3;simp;exact w.len _ (by simp) (by simp)
  ·rw[An _ _ e3]
   by_cases e2:f=.levels
   ·subst e2;simp;exact w.len _ (by simp) (by simp)
   ·rw[An _ _ e2]
    by_cases e1:f=.values
    ·subst e1;simp;exact w.len _ (by simp) (by simp)
    ·rw[An _ _ e1];exact w.len f h1 h2
 ·unfold St.assign;simp[An];exact ar459 ht
 ·unfold St.assign;simp[An];exact w.li
noncomputable def St.decide(st:St)(l:Int):St:=(st.upd .limits (st.fld .limits++[((st.fld .trail).length:Int)])).assign l (-1)
theorem ft_decide(C:Cx B)(hn:2<n)(h:Sv Fm H S st)(w:st.Wf){l:Int}(hl:l.natAbs≤st.count)(ht:(st.fld .trail).length<1000)(hli:(st.fld .limits).length<1000)(q:∀H',Sv Fm H' S (st.decide l)→Q .none H'):
  FT B fA n .sDecide [.ref S.self,.int l] H Q:=by
 refine C.call (by exact ar3 hn) rfl ?_
 refine wsc ?_
 dsimp
 repeat ((first | refine oat h.attrs rfl ?_);try dsimp )
 simp[h.attrs]
 refine⟨okA (h.getI .limits),?_⟩
 rw[lenL (h.getI .trail) (by have:=w.tr;simp[Ab];exact ar23 ht)]
 simp only[Ac,Ax,List.length_map]
 refine(h.apI .limits (by have:=w.li;rw[Ab];exact ar188 hli) fun H1 h1=>⟨h1.obj,?_⟩).2
 refine ft_assign C (by exact ar21 hn) h1 ?_ hl (by simpa[An] using ht) fun H2 h2=>q H2 h2
 refine⟨w.cnt,fun f a b=>?_,w.wat,?_,?_⟩
 ·rw[An _ _ b];exact w.len f a b
 ·rw[An _ _ (by simp)];exact w.tr
 ·simp;exact ar459 hli
end
end
section
section
variable {Fm H:CH} {S:Ad} {st st':St}
noncomputable def St.push(st:St)(c:List Int):St:={ st with cls:=st.cls++[c] }
noncomputable def St.addW(st:St)(k:Nat)(x:Int):St:=st.updW k (st.wat.getD k []++[x])
noncomputable def St.attach(st:St)(c:List Int):St:=((st.push c).addW (Ag (c.getD 0 0)).toNat st.cls.length).addW (Ag (c.getD 1 0)).toNat st.cls.length
@[simp] theorem push_fld(st:St)(c:List Int):(st.push c).fld=st.fld:=rfl
@[simp] theorem push_wat(st:St)(c:List Int):(st.push c).wat=st.wat:=rfl
@[simp] theorem push_count(st:St)(c:List Int):(st.push c).count=st.count:=rfl
@[simp] theorem push_cls(st:St)(c:List Int):(st.push c).cls=st.cls++[c]:=rfl
@[simp] theorem addW_fld(st:St)(k:Nat)(c:Int):(st.addW k c).fld=st.fld:=rfl
@[simp] theorem addW_cls(st:St)(k:Nat)(c:Int):(st.addW k c).cls=st.cls:=rfl
@[simp] theorem addW_count(st:St)(k:Nat)(c:Int):(st.addW k c).count=st.count:=rfl
@[simp] theorem addW_len(st:St)(k:Nat)(c:Int):(st.addW k c).wat.length=st.wat.length:=by simp[St.addW]
@[simp] theorem attach_fld(st:St)(c:List Int):(st.attach c).fld=st.fld:=rfl
@[simp] theorem Bv(st:St)(c:List Int):(st.attach c).cls=st.cls++[c]:=rfl
@[simp] theorem attach_count(st:St)(c:List Int):(st.attach c).count=st.count:=rfl
@[simp] theorem attach_len(st:St)(c:List Int):(st.attach c).wat.length=st.wat.length:=by simp[St.attach]
theorem apV{H:CH}{a:Addr}{l:List CV}(e:H a=some (.list l)){v:CV}(h2:l.length<lim):bmV .append H (.ref a) [v]=some (.upd .none a (.list (l++[v]))):=by
 simp[bmV_e,CH.lsA,get2_e,Bi,two_two,B8,Ah,Ae,Af,Option.bind_some,e,h2]
theorem Bq{st:St}{l:Int}(h:Vl st l):0≤Ag l∧(Ag l).toNat<2*st.count+2∧2≤Ag l:=by
 refine oa h fun h1 h2=>?_
 unfold Ag
 split <;> (first | exact ar460 h2 (by assumption) | exact ar461 h2 h1 (by assumption) | lia)
theorem Sv.pushC(h:Sv Fm H S st){a:Addr}{c:List Int}(ha:Fm a=some (.list (c.map .int))):
  Sv (Fm.del a) (H.put (S.r .cs) (.list ((List.range st.cls.length).map (fun k=>CV.ref (S.r (.cl k)))++[.ref a]))) (S.upd (.cl st.cls.length) a) (st.push c):=by
 refine h.adoptR ha (by simp) ⟨_,rfl⟩ rfl (fun r' h1 h2=>?_) ?_ ?_
 ·induction r' using SR.casesOn with
  | cl j=>
   have:j≠st.cls.length:=fun e=>h1 (by rw[e])
   simp only[cont,push_cls]
   rw[List.getElem?_append]
   split
   ·rfl
   ·rename_i q
    rw[List.getElem?_eq_none (by simp;exact ar462 this q),List.getElem?_eq_none (by exact ar60 q)]
  | ws=>simp[cont,Ad.upd]
  | _=>first | rfl | exact absurd rfl h2
 ·simp[cont]
 ·simp only[cont,push_cls,List.length_append,List.length_singleton,List.range_succ,List.map_append,List.map_cons,List.map_nil,adupd_self]
  congr 3
  apply List.map_congr_left
  intro k hk
  rw[adupd_ne]
  simp at hk ⊢;exact ar463 hk
theorem Sv.addWOp(h:Sv Fm H S st){k:Nat}(hk:k<st.wat.length){v:Int}(h2:∀l∈st.wat,l.length<lim){P:CV→CH→Prop}(q:∀H',Sv Fm H' S (st.addW k v)→P .none H'):
  bmOk .append H (.ref (S.r (.wa k)))=true∧Opt (bmV .append H (.ref (S.r (.wa k))) [.int v]) fun r=>RV.go H P r:=by
 have e:st.wat[k]?=some st.wat[k]:=List.getElem?_eq_getElem hk
 refine h.apW e (h2 _ (List.getElem_mem hk)) fun H' h'=>q H' ?_
 unfold St.addW
 rw[List.getD_eq_getElem?_getD,e]
 exact h'
variable {B:Base} {n:Nat} {Q:CV→CH→Prop}
theorem ft_attach(C:Cx B)(hn:1<n)(h:Sv Fm H S st)(w:st.Wf){a:Addr}{c:List Int}(ha:Fm a=some (.list (c.map .int)))(h2:2≤c.length)(hl:c.length≤lim)(hv:∀l∈c,Vl st l)(hc:st.cls.length<lim)(hw:∀l∈st.wat,l.length+1<lim)
  (q:∀H',Sv (Fm.del a) H' (S.upd (.cl st.cls.length) a) (st.attach c)→Q (.int st.cls.length) H'):FT B fA n .sAttach [.ref S.self,.ref a] H Q:=by
 have p:=h.pushC ha
 have v0:=Bq (hv (c.getD 0 0) (by rw[List.getD_eq_getElem?_getD,List.getElem?_eq_getElem (by exact ar5 h2)];exact List.getElem_mem _))
 have v1:=Bq (hv (c.getD 1 0) (by rw[List.getD_eq_getElem?_getD,List.getElem?_eq_getElem (by exact ar13 h2)];exact List.getElem_mem _))
 refine C.call (by exact ar24 hn) rfl ?_
 refine wsc ?_
 dsimp
 repeat ((first | refine oat h.attrs rfl ?_);try dsimp )
 rw[lenL (h.mem .cs _ rfl) (by simp;exact ar172 hc)]
 simp only[Ac,Ax,List.length_map,List.length_range,Al]
 dsimp
 repeat ((first | refine oat h.attrs rfl ?_);try dsimp )
 refine⟨okA (h.mem .cs _ rfl),?_⟩
 rw[apV (h.mem .cs _ rfl) (by simp;exact ar101 hc)]
 simp only[Ac,Bk,Al]
 generalize hH1:H.put (S.r .cs) _=H1 at p ⊢
 have gc:=p.getC (k:=st.cls.length) (c:=c) (by simp)
 simp only[adupd_self] at gc
 have at1:=p.attrs
 simp only[adupd_s] at at1
 repeat ((first | refine oat at1 rfl ?_);try dsimp )
 rw[rdL gc (k:=0) (by exact ar4) (by simp;lia) hl]
 simp only[Ac]
 refine ft_slot C (by exact ar371 hn) ?_
 refine p.rW v0.1 (by rw[push_wat,w.wat];exact v0.2.1) (by rw[push_wat,w.wat];have:=w.cnt;rw[Ab];exact ar15 this) ?_
 refine p.addWOp (by rw[push_wat,w.wat];exact v0.2.1) (fun l hl=>by have:=hw l hl;exact ar464 this) fun H2 h2=>?_
 have gc2:=h2.getC (k:=st.cls.length) (c:=c) (by simp)
 simp only[adupd_self] at gc2
 have at2:=h2.attrs
 simp only[adupd_s] at at2
 repeat ((first | refine oat at2 rfl ?_);try dsimp )
 rw[rdL gc2 (k:=1) (by lia) (by simp;lia) hl]
 simp only[Ac]
 refine ft_slot C (by lia) ?_
 refine h2.rW v1.1 (by rw[addW_len,push_wat,w.wat];exact v1.2.1) (by rw[addW_len,push_wat,w.wat];have:=w.cnt;rw[Ab];lia) ?_
 refine h2.addWOp (by rw[addW_len,push_wat,w.wat];exact v1.2.1) (fun l hl=>?_) fun H3 h3=>?_
 ·simp only[St.addW,updW_wat,push_wat] at hl
  rcases List.mem_or_eq_of_mem_set hl with m | m
  ·have:=hw l m;lia
  ·subst m
   simp only[List.length_append,List.length_singleton]
   have:=hw (st.wat.getD (Ag (c.getD 0 0)).toNat []) (by rw[List.getD_eq_getElem?_getD,List.getElem?_eq_getElem (by rw[w.wat];exact ar465 v0)];exact List.getElem_mem _)
   exact this
 ·exact q H3 h3
end
end
section
section
variable {Fm H:CH} {S:Ad} {st st':St} {B:Base} {n:Nat} {Q:CV→CH→Prop}
noncomputable def St.cut(st:St)(lv j:Nat)(vals ph:List Int):St:=
 { st with head:=j,fld:=fun f=>match f with
  | .values=>vals
  | .phases=>ph
  | .trail=>(st.fld .trail).take j
  | .limits=>(st.fld .limits).take lv
  | f=>st.fld f }
noncomputable def Zero(vals vals':List Int)(ls:List Int):Prop:=vals'.length=vals.length∧∀i,vals'.getD i 0=if i∈ls.map Int.natAbs then 0 else vals.getD i 0
noncomputable def Pm(ph:List Int):Prop:=∀i,0<i→i<ph.length→ph.getD i 0=1∨ph.getD i 0 = -1
theorem popL{H:CH}{a:Addr}{l:List Int}{x:Int}(e:H a=some (.list ((l++[x]).map .int)))(h2:l.length<lim):bmV .pop0 H (.ref a) []=some (.upd (.int x) a (.list (l.map .int))):=by
 simp[bmV_e,CH.lsA,get2_e,Bi,two_two,B8,Ah,Ae,Af,Option.bind_some,e]
 exact h2
theorem Sv.popI(h:Sv Fm H S st)(f:IF){l:List Int}{x:Int}(e:st.fld f=l++[x])(h2:l.length<lim){P:CV→CH→Prop}(q:∀H',Sv Fm H' S (st.upd f l)→P (.int x) H'):
  bmOk .pop0 H (.ref (S.r (.i f)))=true∧Opt (bmV .pop0 H (.ref (S.r (.i f))) []) fun r=>RV.go H P r:=
 ⟨okP (h.getI f),Opt.mk (popL (by rw[← e];exact h.getI f) h2) (q _ (h.putI f _))⟩
noncomputable def St.part(st:St)(vals ph tr:List Int):St:=((st.upd .values vals).upd .phases ph).upd .trail tr
theorem take_last{l:List Int}{j:Nat}(h:j<l.length):l.take (j+1)=l.take j++[l[j]]:=by
 rw[List.take_add_one,List.getElem?_eq_getElem h];rfl
theorem Zero.step{vals vals' ls:List Int}{l:Int}(z:Zero vals vals' ls):Zero vals (vals'.set l.natAbs 0) (l::ls):=by
 refine⟨by simpa using z.1,fun i=>?_⟩
 rw[List.getD_eq_getElem?_getD,List.getElem?_set]
 have:=z.2 i
 rw[List.getD_eq_getElem?_getD] at this
 by_cases hi:l.natAbs=i
 ·subst hi
  simp
  split <;> simp
 ·rw[if_neg hi,this]
  have:i≠l.natAbs:=fun e=>hi e.symm
  simp[this]
theorem ft_cancel(C:Cx B)(hn:1<n)(h:Sv Fm H S st)(w:st.Wf){lv:Nat}{len:Nat}(hl:lv<(st.fld .limits).length)(hlen:(st.fld .limits).getD lv 0=len)(hlt:len≤(st.fld .trail).length)
  (hv:∀l∈st.fld .trail,l.natAbs≤st.count∧((st.fld .values).getD l.natAbs 0=1∨(st.fld .values).getD l.natAbs 0 = -1)) (hnd:((st.fld .trail).map Int.natAbs).Nodup) (hp:Pm (st.fld .phases))
  (q:∀H' a vals ph,Zero (st.fld .values) vals ((st.fld .trail).drop len)→ph.length=(st.fld .phases).length→Pm ph→Sv Fm H' (S.upd (.i .limits) a) (st.cut lv len vals ph)→Q .none H') :
  FT B fA n .sCancel [.ref S.self,.int lv] H Q:=by
 have lv1:=w.len .values (by simp) (by simp)
 have ll1:=w.l .values (by simp) (by simp)
 have lv2:=w.len .phases (by simp) (by simp)
 have ll2:=w.l .phases (by simp) (by simp)
 have hli:=w.li
 have htr:=w.tr
 refine C.call (by exact ar24 hn) rfl ?_
 refine wsc ?_
 dsimp
 repeat ((first | refine oat h.attrs rfl ?_);try dsimp )
 refine⟨h.obj,ft_level C (by exact ar371 hn) h w ?_⟩
 simp[hl]
 rw[if_neg (by exact ar466 hl)]
 repeat ((first | refine oat h.attrs rfl ?_);try dsimp )
 refine h.rI .limits (by exact ar2) (by simpa using hl) (by rw[Ab];exact ar370 hli) ?_
 rw[show((lv:Int).toNat)=lv by simp,hlen]
 obtain⟨I,hI⟩:∃I:Nat→CS→Prop,∀m σ,I m σ↔(∃H1 vals ph x j,σ=⟨[.ref S.self,.int lv,.int len,x],H1⟩∧j=len+m∧j≤(st.fld .trail).length∧Zero (st.fld .values) vals ((st.fld .trail).drop j)∧ph.length=(st.fld .phases).length∧Pm ph∧
  Sv Fm H1 S (st.part vals ph ((st.fld .trail).take j))):=⟨_,fun _ _=>Iff.rfl⟩
 refine ws_whl I ((st.fld .trail).length-len) ((hI _ _).mpr ⟨H,st.fld .values,st.fld .phases,.undef,(st.fld .trail).length,rfl,by exact ar467 hlt,Nat.le_refl _,⟨rfl,by simp⟩,rfl,hp,?_⟩) ?_
 ·have:st.part (st.fld .values) (st.fld .phases) ((st.fld .trail).take (st.fld .trail).length)=st:=by
   unfold St.part St.upd
   induction st using St.casesOn
   congr
   funext g
   induction g using IF.casesOn <;> first | rfl | simp
  rw[this];exact h
 ·intro m σ₁ hi
  refine oe5 ((hI _ _).mp hi) fun H1 vals ph x j w0_=>?_;refine oa6 w0_ fun z5_ hj hjl hz hpl hpm h1=>?_;clear w0_;subst z5_
  have tl:((st.part vals ph ((st.fld .trail).take j)).fld .trail)=(st.fld .trail).take j:=by simp[St.part]
  dsimp
  repeat ((first | refine oat h1.attrs rfl ?_);try dsimp )
  rw[lenL (h1.getI .trail) (by rw[tl];simp[Ab];exact ar468 htr)]
  simp only[Ac,Ax,List.length_map,tl,List.length_take,br_pd,B4,cmp_Gt,fin_bool]
  rw[Nat.min_eq_left hjl]
  split
  ·rename_i hgt
   obtain⟨i,rfl⟩:∃i,j=i+1:=⟨j-1,by exact ar469 hgt⟩
   have hi:i<(st.fld .trail).length:=by exact ar470 hjl
   have hmem:=hv _ (List.getElem_mem hi)
   repeat ((first | refine oat h1.attrs rfl ?_);try dsimp )
   refine h1.popI .trail (l:=(st.fld .trail).take i) (x:=(st.fld .trail)[i]) (by rw[tl,take_last hi]) (by simp[Ab];exact ar471 htr) fun H2 h2=>?_
   repeat ((first | refine oat h2.attrs rfl ?_);try dsimp )
   simp[h2.attrs]
   have e2:(((st.part vals ph ((st.fld .trail).take (i+1))).upd .trail ((st.fld .trail).take i)))=st.part vals ph ((st.fld .trail).take i):=by
    unfold St.part St.upd
    simp only[St.mk.injEq,true_and,and_true]
    funext g
    by_cases e:g=.trail <;> simp[e]
   rw[e2] at h2
   have f1:(st.part vals ph ((st.fld .trail).take i)).fld .values=vals:=by simp[St.part,An]
   have f2:(st.part vals ph ((st.fld .trail).take i)).fld .phases=ph:=by simp[St.part,An]
   refine h2.rI .values (by exact ar30) (by rw[f1,hz.1];exact ar472 hmem lv1) (by rw[f1,hz.1];exact ll1) ?_
   dsimp
   repeat ((first | refine oat h2.attrs rfl ?_);try dsimp )
   simp[h2.attrs]
   rw[f1]
   refine h2.wI .phases (by lia) (by rw[f2,hpl];exact ar472 hmem lv2) (by rw[f2,hpl];exact ll2) fun H3 h3=>?_
   repeat ((first | refine oat h3.attrs rfl ?_);try dsimp )
   rw[f2] at h3
   refine h3.wI .values (by lia) (by rw[An _ _ (by simp),f1,hz.1];lia) (by rw[An _ _ (by simp),f1,hz.1];exact ll1) fun H4 h4=>?_
   rw[An _ _ (by simp),f1] at h4
   have hd:(st.fld .trail).drop i=(st.fld .trail)[i]::(st.fld .trail).drop (i+1):=List.drop_eq_getElem_cons hi
   have hval:vals.getD ((st.fld .trail)[i]).natAbs 0=1∨vals.getD ((st.fld .trail)[i]).natAbs 0 = -1:=by
    rw[hz.2,if_neg]
    ·exact hmem.2
    ·intro hm
     rw[List.map_drop] at hm
     have:=hnd
     rw[← List.take_append_drop (i+1) ((st.fld .trail).map Int.natAbs),List.nodup_append] at this
     refine this.2.2 _ ?_ _ hm rfl
     rw[← List.map_take,take_last hi]
     exact List.mem_map_of_mem (List.mem_append_right _ (List.mem_singleton.mpr rfl))
   refine⟨i-len,by exact ar473 hgt hj,(hI _ _).mpr ⟨H4,vals.set ((st.fld .trail)[i]).natAbs 0,ph.set ((st.fld .trail)[i]).natAbs (vals.getD ((st.fld .trail)[i]).natAbs 0),_,i,rfl,by lia,by exact ar475 hjl,hd▸hz.step,by simpa using hpl,fun y hy hy2=>?_,?_⟩⟩
   ·rw[List.getD_eq_getElem?_getD,List.getElem?_set]
    split
    ·rename_i e
     simp only[List.length_set] at hy2
     rw[if_pos (by exact ar476 hmem hpl lv2)];exact hval
    ·have:=hpm y hy (by simpa using hy2)
     rwa [List.getD_eq_getElem?_getD] at this
   ·have:(((st.part vals ph ((st.fld .trail).take i)).upd .phases (ph.set ((st.fld .trail)[i]).natAbs (vals.getD ((st.fld .trail)[i]).natAbs 0))).upd .values (vals.set ((st.fld .trail)[i]).natAbs 0)) =
      st.part (vals.set ((st.fld .trail)[i]).natAbs 0) (ph.set ((st.fld .trail)[i]).natAbs (vals.getD ((st.fld .trail)[i]).natAbs 0)) ((st.fld .trail).take i):=by
     unfold St.part St.upd
     simp only[St.mk.injEq,true_and,and_true]
     funext g
     induction g using IF.casesOn <;> first | rfl | simp
    rw[← this]
    simpa using h4
  ·rename_i hle
   have hjeq:j=len:=by exact ar477 hle hj
   subst hjeq
   have tl2:((st.part vals ph ((st.fld .trail).take j)).fld .limits)=st.fld .limits:=by simp[St.part,An]
   repeat ((first | refine oat h1.attrs rfl ?_);try dsimp )
   simp only[uptoV,lf_e,Ae,Af,Option.bind_some,h1.getI .limits,tl2]
   rw[if_pos ⟨by lia,by exact ar478 hli hl,by simp[Ab];lia⟩]
   intro a ha
   have h5:=h1.alloc (.list (((st.fld .limits).take lv).map .int)) ha
   simp
   rw[← List.map_take]
   refine h5.adoptA (x:=.limits) (st':=(st.part vals ph ((st.fld .trail).take j)).upd .limits ((st.fld .limits).take lv)) (r:=.i .limits) (o:=.list (((st.fld .limits).take lv).map .int)) (CH.put_self ..) rfl
    (by funext y;induction y using At.casesOn <;> first | rfl | simp[Ad.upd,St.upd,St.part]) (fun r' hr'=>by
     induction r' using SR.casesOn with
     | i g=>
      have:g≠.limits:=fun e=>hr' (by rw[e])
      simp[cont,An _ _ this]
     | _=>first | rfl | simp[cont,Ad.upd,St.upd,St.part]) (by simp[cont]) fun H6 h6=>?_
   rw[CH.del_put (Az h1 ha)] at h6
   refine h6.setScalar (a:=.head) (v:=.int j) (st':=st.cut lv j vals ph) rfl (by simp) (fun r'=>?_) ?_ fun H7 h7=>q H7 a vals ph hz hpl hpm h7
   ·have key:(st.cut lv j vals ph).fld=((st.part vals ph ((st.fld .trail).take j)).upd .limits ((st.fld .limits).take lv)).fld:=by
     funext g
     induction g using IF.casesOn <;> first | rfl | simp[St.cut,St.part,St.upd]
    induction r' using SR.casesOn <;> simp only[cont,key] <;> rfl
   ·funext y
    induction y using At.casesOn <;> first | rfl | simp[St.cut,St.part,St.upd]
end
end
section
section
variable {Fm H:CH} {S:Ad} {st st':St} {B:Base} {n:Nat} {Q:CV→CH→Prop}
theorem upd_wf(w:st.Wf){f:IF}{l:List Int}(h1:f≠.trail)(h2:f≠.limits)(hl:l.length=st.count+1):(st.upd f l).Wf:=by
 refine⟨w.cnt,fun g a b=>?_,w.wat,?_,?_⟩
 ·by_cases e:g=f
  ·subst e;simpa using hl
  ·rw[An _ _ e];exact w.len g a b
 ·rw[An _ _ (Ne.symm h1)];exact w.tr
 ·rw[An _ _ (Ne.symm h2)];exact w.li
theorem ft_free(C:Cx B)(hn:1<n)(h:Sv Fm H S st)(w:st.Wf)
  (q0:∀H',Sv Fm H' S st→(∀v,1≤v→v≤st.count→(st.fld .values).getD v 0≠0)→Q (.int 0) H') (q1:∀(v:Nat) H',Sv Fm H' S st→1≤v→v≤st.count→(st.fld .values).getD v 0=0→Q (.int v) H'):FT B fA n .sFree [.ref S.self] H Q:=by
 have lv1:=w.len .values (by simp) (by simp)
 have ll1:=w.l .values (by simp) (by simp)
 have lv2:=w.len .activity (by simp) (by simp)
 have ll2:=w.l .activity (by simp) (by simp)
 have hc:=w.cnt
 refine C.call (by exact ar24 hn) rfl ?_
 simp only[show IR .sFree=ir_sFree from rfl]
 simp only[ir_sFree,NL_sFree,Aa]
 dsimp
 repeat ((first | refine oat h.attrs rfl ?_);try dsimp )
 have hr:rangeV [.int 1,.int ((st.count:Int)+1)]=some (.range ((1:Nat):Int) ((st.count+1:Nat):Int) 1):=by
  have:=range2 (a:=1) (b:=st.count+1) (by rw[Ab];exact ar73 hc) (by rw[Ab];exact ar78)
  simpa using this
 simp only[hr,Ac]
 refine forK_up (by rw[Ab];lia) fun a ha=>?_
 have h1:=h.alloc (.range ((1:Nat):Int) ((st.count+1:Nat):Int) 1) ha
 have hfm:=Az h ha
 obtain⟨I,hI⟩:∃I:Nat→CS→Prop,∀i σ,I i σ↔(∃(b:Nat) (x:CV) (H1:CH),σ=⟨[.ref S.self,.int b,x],H1⟩∧b≤st.count∧Sv (Fm.put a (.range ((1:Nat):Int) ((st.count+1:Nat):Int) 1)) H1 S st∧(1≤b→(st.fld .values).getD b 0=0)∧(b=0→∀v,1≤v→v≤i→(st.fld .values).getD v 0≠0)):=⟨_,fun _ _=>Iff.rfl⟩
 refine⟨I,(hI _ _).mpr ⟨0,.undef,_,rfl,by exact ar304,h1,by exact ar479,fun _ v _ _=>by exact ar480 (by assumption) (by assumption)⟩,fun i σ₂ hi hh=>?_,fun σ₂ hh=>?_⟩
 ·refine oe3 ((hI _ _).mp hh) fun b x H1 w0_=>?_;refine oa4 w0_ fun z3_ hb h2 p1 p2=>?_;clear w0_;subst z3_
  refine⟨h2.fr _ _ (CH.put_self ..),?_⟩
  have cst:(1:Int)+i=((i+1:Nat):Int):=by exact ar481
  dsimp
  repeat ((first | refine oat h2.attrs rfl ?_);try dsimp )
  simp[h2.attrs]
  refine h2.rI .values (by exact ar27) (by exact ar482 hi lv1) ll1 ?_
  simp only[show((1:Int)+i).toNat=i+1 by exact ar483]
  simp
  split
  ·rename_i hz
   split
   ·rename_i hb0
    refine(hI _ _).mpr ⟨i+1,.int ((i+1:Nat):Int),_,by rw[cst],by exact ar484 hi,h2,fun _=>by simpa using hz,by lia⟩
   ·rename_i hb0
    refine h2.rI .activity (by lia) (by exact ar482 hi lv2) ll2 ?_
    repeat ((first | refine oat h2.attrs rfl ?_);try dsimp )
    simp[h2.attrs]
    refine h2.rI .activity (by exact ar2) (by exact ar485 lv2 hb) ll2 ?_
    simp
    split
    ·exact(hI _ _).mpr ⟨i+1,.int ((i+1:Nat):Int),_,by rw[cst],by lia,h2,fun _=>by simpa using hz,by lia⟩
    ·exact(hI _ _).mpr ⟨b,_,_,rfl,hb,h2,p1,fun e=>absurd e hb0⟩
  ·rename_i hz
   refine(hI _ _).mpr ⟨b,_,_,rfl,hb,h2,p1,fun e v v1 v2=>?_⟩
   by_cases hv:v=i+1
   ·subst hv;simpa using hz
   ·exact p2 e v v1 (by exact ar486 v2 hv)
 ·refine oe3 ((hI _ _).mp hh) fun b x H1 w0_=>?_;refine oa4 w0_ fun z3_ hb h2 p1 p2=>?_;clear w0_;subst z3_
  refine⟨h2.fr _ _ (CH.put_self ..),?_⟩
  have h3:Sv Fm H1 S st:=h2.weak fun x o e=>by
   rw[CH.put_ne];exact e
   intro q;rw[q,hfm] at e;cases e
  simp
  by_cases hb0:b=0
  ·subst hb0;exact q0 _ h3 fun v v1 v2=>p2 rfl v v1 (by exact ar487 v2)
  ·exact q1 b _ h3 (by exact ar488 hb0) hb (p1 (by lia))
noncomputable def St.ref(st:St):St:={ st with refuted:=true }
theorem ft_refute(C:Cx B)(hn:1<n)(h:Sv Fm H S st)(hl:st.learned.length<lim)(q:∀t H',Sv Fm H' S { st with refuted:=true,learned:=st.learned++[.ref t] }→Q .none H'):FT B fA n .sRefute [.ref S.self] H Q:=by
 refine C.call (by lia) rfl ?_
 refine wsc ?_
 dsimp
 simp
 refine h.setScalar (a:=.refuted) (v:=.bool true) (st':={ st with refuted:=true }) rfl (by simp) (fun r'=>by induction r' using SR.casesOn <;> rfl) (by funext y;induction y using At.casesOn <;> rfl) fun H1 h1=>?_
 repeat ((first | refine oat h1.attrs rfl ?_);try dsimp )
 refine⟨okA (h1.mem .le _ rfl),fun t ht=>?_⟩
 have h2:=h1.alloc (.tup []) ht
 dsimp
 rw[apV (h2.mem .le _ rfl) (by exact hl)]
 dsimp
 have h3:=(h2.set (st':={ st with refuted:=true,learned:=st.learned++[.ref t] }) .le (.list (st.learned++[.ref t])) ⟨_,rfl⟩ (fun r'=>by induction r' using SR.casesOn <;> simp[cont]) rfl).weak (Fm':=Fm) fun x o e=>by
  rw[CH.put_ne];exact e
  intro q;rw[q,Az h1 ht] at e;cases e
 exact q t _ h3
theorem ft_forces(C:Cx B)(hn:2<n)(h:Sv Fm H S st)(w:st.Wf){k:Nat}{c:List Int}(hk:st.cls[k]?=some c)(hkl:st.cls.length≤lim)(hc0:0<c.length)(hcl:c.length≤lim)(hv:(c.getD 0 0).natAbs≤st.count)(ht:(st.fld .trail).length<1000)
  (q0:st.v (c.getD 0 0)=0→∀H',Sv Fm H' S (st.assign (c.getD 0 0) k)→Q (.bool (decide ((st.assign (c.getD 0 0) k).v (c.getD 0 0)<0))) H') (q1:st.v (c.getD 0 0)≠0→Q (.bool (decide (st.v (c.getD 0 0)<0))) H) :
  FT B fA n .sForces [.ref S.self,.int k] H Q:=by
 have hkk:=(List.getElem?_eq_some_iff.mp hk).1
 refine C.call (by exact ar3 hn) rfl ?_
 refine wsc ?_
 dsimp
 repeat ((first | refine oat h.attrs rfl ?_);try dsimp )
 refine h.rC (by exact ar2) (by simpa using hkk) hkl ?_
 simp
 refine h.rCl (k:=k) hk (by lia) (by simpa using hc0) hcl ?_
 simp
 refine⟨h.obj,?_⟩
 refine ft_value C (by exact ar6 hn) h w hv ?_
 simp
 split
 ·rename_i hz
  refine⟨h.obj,ft_assign C (by exact ar21 hn) h w hv ht fun H1 h1=>?_⟩
  refine⟨h1.obj,ft_value C (by lia) h1 (assign_wf w ht) hv ?_⟩
  simpa using q0 (by simpa using hz) H1 h1
 ·rename_i hz
  refine⟨h.obj,ft_value C (by lia) h w hv ?_⟩
  simpa using q1 (by simpa using hz)
end
end
section
section
variable {Fm H:CH} {S:Ad} {st st':St} {B:Base} {n:Nat} {Q:CV→CH→Prop}
noncomputable def St.act(st:St)(a:List Int)(s:Int):St:={ st.upd .activity a with step:=s }
@[simp] theorem act_count(st:St)(a:List Int)(s:Int):(st.act a s).count=st.count:=rfl
@[simp] theorem act_cls(st:St)(a:List Int)(s:Int):(st.act a s).cls=st.cls:=rfl
@[simp] theorem act_wat(st:St)(a:List Int)(s:Int):(st.act a s).wat=st.wat:=rfl
@[simp] theorem act_head(st:St)(a:List Int)(s:Int):(st.act a s).head=st.head:=rfl
@[simp] theorem act_refuted(st:St)(a:List Int)(s:Int):(st.act a s).refuted=st.refuted:=rfl
@[simp] theorem act_learned(st:St)(a:List Int)(s:Int):(st.act a s).learned=st.learned:=rfl
@[simp] theorem act_step(st:St)(a:List Int)(s:Int):(st.act a s).step=s:=rfl
@[simp] theorem act_self(st:St)(a:List Int)(s:Int):(st.act a s).fld .activity=a:=by simp[St.act]
theorem act_ne(st:St)(a:List Int)(s:Int){f:IF}(h:f≠.activity):(st.act a s).fld f=st.fld f:=by simp[St.act,An _ _ h]
theorem act_wf{a:List Int}{s:Int}(w:st.Wf)(ha:a.length=st.count+1):(st.act a s).Wf:=by
 have:=upd_wf (f:=.activity) (l:=a) w (by simp) (by simp) ha
 exact⟨this.cnt,this.len,this.wat,this.tr,this.li⟩
theorem act_upd{a:List Int}{s:Int}:st.upd .activity a=st.act a st.step:=rfl
theorem upd_upd(st:St)(f:IF)(a b:List Int):(st.upd f a).upd f b=st.upd f b:=by
 unfold St.upd
 simp only[St.mk.injEq,true_and,and_true]
 funext g
 by_cases h:g=f <;> simp[h]
theorem act_upd2(st:St)(a b:List Int)(s:Int):(st.act a s).upd .activity b=st.act b s:=by
 unfold St.act
 unfold St.upd
 simp only[St.mk.injEq,true_and,and_true]
 funext g
 by_cases h:g=.activity <;> simp[h]
theorem Sv.frput(h:Sv (Fm.put a o) H S st)(ha:Fm a=none):Sv Fm H S st:=h.weak fun x p e=>by
 rw[CH.put_ne];exact e
 intro q;rw[q,ha] at e;cases e
theorem ft_bump(C:Cx B)(hn:1<n)(h:Sv Fm H S st)(w:st.Wf){v:Nat}(hv:v≤st.count)(q:∀H' a s,a.length=st.count+1→Sv Fm H' S (st.act a s)→Q .none H'):FT B fA n .sBump [.ref S.self,.int v] H Q:=by
 have lv2:=w.len .activity (by simp) (by simp)
 have ll2:=w.l .activity (by simp) (by simp)
 have hc:=w.cnt
 refine C.call (by exact ar24 hn) rfl ?_
 refine wsc ?_
 dsimp
 repeat ((first | refine oat h.attrs rfl ?_);try dsimp )
 simp[h.attrs]
 refine h.rI .activity (by exact ar2) (by exact ar485 lv2 hv) ll2 ?_
 refine Opt.mk rfl ⟨_,rfl,?_⟩
 refine h.wI .activity (by lia) (by lia) ll2 fun H1 h1=>?_
 generalize hA:((st.fld .activity).set _ _)=A at h1
 have hAl:A.length=st.count+1:=by rw[← hA];simpa using lv2
 have hAll:A.length≤lim:=by rw[hAl];rw[Ab];exact ar73 hc
 simp only[act_upd (s:=st.step)] at h1
 repeat ((first | refine oat h1.attrs rfl ?_);try dsimp )
 simp[h1.attrs]
 refine h1.rI .activity (by lia) (by simp;exact ar134 hAl hv) (by simpa using hAll) ?_
 simp
 split
 ·have hr:rangeV [.int 1,.int ((st.count:Int)+1)]=some (.range ((1:Nat):Int) ((st.count+1:Nat):Int) 1):=by
   have:=range2 (a:=1) (b:=st.count+1) (by rw[Ab];lia) (by rw[Ab];exact ar78)
   simpa using this
  simp only[hr,Ac]
  refine forK_up (by rw[Ab];lia) fun a ha=>?_
  have h2:=h1.alloc (.range ((1:Nat):Int) ((st.count+1:Nat):Int) 1) ha
  have hfm:=Az h1 ha
  obtain⟨I,hI⟩:∃I:Nat→CS→Prop,∀i σ,I i σ↔(∃(A:List Int) (x:CV) (H1:CH),σ=⟨[.ref S.self,.int v,x],H1⟩∧A.length=st.count+1∧Sv (Fm.put a (.range ((1:Nat):Int) ((st.count+1:Nat):Int) 1)) H1 S (st.act A st.step)):=⟨_,fun _ _=>Iff.rfl⟩
  refine⟨I,(hI _ _).mpr ⟨A,.undef,_,rfl,hAl,h2⟩,fun i σ₂ hi hh=>?_,fun σ₂ hh=>?_⟩
  ·refine oe3a2 ((hI _ _).mp hh) fun A x H1 z3_ hb h2=>?_;subst z3_
   refine⟨h2.fr _ _ (CH.put_self ..),?_⟩
   dsimp
   repeat ((first | refine oat h2.attrs rfl ?_);try dsimp )
   refine h2.rI .activity (by exact ar27) (by simp;exact ar482 hi hb) (by rw[act_self,hb];rw[Ab];lia) ?_
   dsimp
   repeat ((first | refine oat h2.attrs rfl ?_);try dsimp )
   simp[Ai,h2.attrs]
   refine h2.wI .activity (by lia) (by simp;lia) (by rw[act_self,hb];rw[Ab];lia) fun H3 h3=>?_
   simp only[act_upd2] at h3
   exact(hI _ _).mpr ⟨_,_,_,rfl,by simpa using hb,h3⟩
  ·refine oe3a2 ((hI _ _).mp hh) fun A x H1 z3_ hb h2=>?_;subst z3_
   refine⟨h2.fr _ _ (CH.put_self ..),?_⟩
   have h3:Sv Fm H1 S (st.act A st.step):=h2.frput hfm
   dsimp
   repeat ((first | refine oat h3.attrs rfl ?_);try dsimp )
   simp[h3.attrs,Ai]
   exact h3.setScalar (a:=.step) (st':=st.act A (st.step.fdiv 1000000+1)) rfl (by simp) (fun r'=>by induction r' using SR.casesOn <;> rfl) (by funext y;induction y using At.casesOn <;> rfl) fun H4 h4=>q H4 _ _ hb h4
 ·exact q _ _ _ hAl h1
theorem ft_cancel0(C:Cx B)(hn:1<n)(h:Sv Fm H S st)(w:st.Wf){lv:Nat}(hl:(st.fld .limits).length≤lv)(q:Q .none H):FT B fA n .sCancel [.ref S.self,.int lv] H Q:=by
 refine C.call (by lia) rfl ?_
 refine wsc ?_
 simp[h.attrs]
 refine⟨h.obj,ft_level C (by exact ar371 hn) h w ?_⟩
 simp[hl]
 exact q
structure CutOk (st:St):Prop where
 sm:∀i<(st.fld .limits).length,∃len:Nat,(st.fld .limits).getD i 0=len∧len≤(st.fld .trail).length
 vl:∀l∈st.fld .trail,l.natAbs≤st.count∧((st.fld .values).getD l.natAbs 0=1∨(st.fld .values).getD l.natAbs 0 = -1)
 nd:((st.fld .trail).map Int.natAbs).Nodup
 ph:Pm (st.fld .phases)
theorem ft_leave(C:Cx B)(hn:2<n)(h:Sv Fm H S st)(w:st.Wf){v:CV}(hv:v≠.undef)(k:CutOk st)
  (q:∀H' S' st',(st'.found=st.found∧S'.self=S.self)→Sv Fm H' S' st'→Q v H'):FT B fA n .sLeave [.ref S.self,v] H Q:=by
 refine C.call (by exact ar3 hn) rfl ?_
 refine wsc ?_
 dsimp
 refine⟨h.obj,?_⟩
 by_cases hl:0<(st.fld .limits).length
 ·refine oea (k.sm 0 hl) fun len e1 e2=>?_
  refine ft_cancel C (lv:=0) (by exact ar21 hn) h w hl e1 e2 k.vl k.nd k.ph fun H' a vals ph hz hp hp2 h'=>?_
  exact Def.mk hv (q _ (S.upd (.i .limits) a) (st.cut 0 len vals ph) ⟨rfl,rfl⟩ h')
 ·refine ft_cancel0 C (lv:=0) (by lia) h w (by exact ar129 hl) ?_
  exact Def.mk hv (q _ _ _ ⟨rfl,rfl⟩ h)
theorem ft_assume(C:Cx B)(hn:1<n)(h:Sv Fm H S st)(w:st.Wf){a:Addr}(ha:H a=some (.tup []))(q:Q (.int 0) H):FT B fA n .sAssume [.ref S.self,.ref a] H Q:=by
 refine C.call (by lia) rfl ?_
 refine wsc ?_
 refine ws_whl (fun m σ=>σ=⟨[.ref S.self,.ref a,.undef],H⟩) 0 rfl ?_
 rintro m σ rfl
 dsimp
 simp
 refine⟨h.obj,ft_level C (by lia) h w ?_⟩
 have:bfV .len H (.ref a)=some (.v (.int 0)):=by
  try dsimp
  simp[bfV_e,CH.lsA,len_e,mkList_e,Ah,Bx,Ae,Af,Option.bind_some,ha]
 simp[this]
 rw[if_neg (by exact ar59)]
 exact q
theorem ft_model(C:Cx B)(hn:0<n)(h:Sv Fm H S st)(hl:st.found.length≤lim)(q:∀a,H a=none→Q (.ref a) (H.put a (.list st.found))):FT B fA n .sModel [.ref S.self] H Q:=by
 refine C.call (by exact ar489 hn) rfl ?_
 refine wsc ?_
 dsimp
 repeat ((first | refine oat h.attrs rfl ?_);try dsimp )
 have:bfV .list H (.ref (S.r .fo))=some (.new (.list st.found)):=by
  simp[bfV_e,CH.lsA,len_e,mkList_e,Ah,Bx,Ae,Af,Option.bind_some,h.mem .fo _ rfl,hl]
 simp[this]
 exact q
end
end
section
section
variable {Fm H:CH} {S:Ad} {st st':St} {B:Base} {n:Nat} {Q:CV→CH→Prop}
noncomputable def swp(c:List Int)(f:Int):List Int:=if c.getD 0 0=f then (c.set 0 (c.getD 1 0)).set 1 f else c
@[simp] theorem swp_len(c:List Int)(f:Int):(swp c f).length=c.length:=by unfold swp;split <;> simp
theorem updC_same{k:Nat}{c:List Int}(h:st.cls[k]?=some c):st.updC k c=st:=by
 unfold St.updC
 have:=List.getElem?_eq_some_iff.mp h
 obtain⟨h1,h2⟩:=this
 have:st.cls.set k c=st.cls:=by rw[← h2];exact List.set_getElem_self h1
 rw[this]
theorem Bz{k:Nat}{c d:List Int}(h:st.cls[k]?=some c):(st.updC k d).cls[k]?=some d:=by
 have:=(List.getElem?_eq_some_iff.mp h).1
 simp[this]
theorem updC_updC(k:Nat)(c d:List Int):(st.updC k c).updC k d=st.updC k d:=by unfold St.updC;simp
theorem updC_wf{k:Nat}{c:List Int}(w:st.Wf):(st.updC k c).Wf:=⟨w.cnt,w.len,w.wat,w.tr,w.li⟩
@[simp] theorem updC_v(k:Nat)(c:List Int)(l:Int):(st.updC k c).v l=st.v l:=rfl
@[simp] theorem addW_v(k:Nat)(c:Int)(l:Int):(st.addW k c).v l=st.v l:=rfl
theorem ft_still(C:Cx B)(hn:2<n)(h:Sv Fm H S st)(w:st.Wf){k:Nat}{c:List Int}{f:Int}(hk:st.cls[k]?=some c)(hkl:st.cls.length≤lim)(hc:2≤c.length)(hcl:c.length≤lim)(hv:∀l∈swp c f,Vl st l)
  (hw:∀l∈st.wat,l.length<lim)
  (q1:st.v ((swp c f).getD 0 0)=1→∀H',Sv Fm H' S (st.updC k (swp c f))→Q (.bool true) H')
  (q2:st.v ((swp c f).getD 0 0)≠1→(∀j,2≤j→j<c.length→st.v ((swp c f).getD j 0)<0)→∀H',Sv Fm H' S (st.updC k (swp c f))→Q (.bool true) H')
  (q3:st.v ((swp c f).getD 0 0)≠1→∀j,2≤j→j<c.length→0≤st.v ((swp c f).getD j 0)→∀H',Sv Fm H' S ((st.updC k (((swp c f).set 1 ((swp c f).getD j 0)).set j f)).addW (Ag ((swp c f).getD j 0)).toNat k)→Q (.bool false) H') :
  FT B fA n .sStill [.ref S.self,.int k,.int f] H Q:=by
 have hkk:=(List.getElem?_eq_some_iff.mp hk).1
 have val:∀j,j<c.length→Vl st ((swp c f).getD j 0):=fun j hj=>hv _ (by
  rw[List.getD_eq_getElem?_getD,List.getElem?_eq_getElem (by simpa using hj)];exact List.getElem_mem _)
 refine C.call (by exact ar3 hn) rfl ?_
 refine wsc ?_
 dsimp[-Aa]
 repeat ((first | refine oat h.attrs rfl ?_);try dsimp[-Aa])
 refine h.rC (by exact ar2) (by simpa using hkk) hkl ?_
 simp[-Aa]
 refine wsc ?_
 simp[-Aa]
 refine h.rCl (k:=k) hk (by exact ar4) (by simp;exact ar5 hc) hcl ?_
 have main:∀H1,Sv Fm H1 S (st.updC k (swp c f))→WSs B fA (n-1) [
   .ite (.cmp .Eq (.mth (.var 0) .sValue [(.sub (.var 3) (.int 0))]) (.int 1)) [.ret (.bool true)] [],
   .for 4 (.range [(.int 2),(.bf .len (.var 3))]) [.ite (.cmp .GtE (.mth (.var 0) .sValue [(.sub (.var 3) (.var 4))]) (.int 0))
     [.setsub (.var 3) (.int 1) (.sub (.var 3) (.var 4)),.setsub (.var 3) (.var 4) (.var 2),.expr (.bm (.sub (.attr (.var 0) .watches) (.fn .slot [(.sub (.var 3) (.int 1))])) .append [(.var 1)]),.ret (.bool false)] []],
   .ret (.bool true)] ⟨[.ref S.self,.int k,.int f,.ref (S.r (.cl k)),.undef],H1⟩ (RetQ Q):=by
  intro H1 h1
  have gk:=Bz (d:=swp c f) hk
  simp
  refine⟨h1.obj,?_⟩
  refine h1.rCl (k:=k) gk (by lia) (by simp;lia) (by simpa using hcl) ?_
  refine ft_value C (by exact ar6 hn) h1 (updC_wf w) (val 0 (by lia)).2 ?_
  simp
  split
  ·rename_i e
   exact q1 (by simpa using e) H1 h1
  ·rename_i e
   have e':st.v ((swp c f).getD 0 0)≠1:=by simpa using e
   rw[lenL (h1.getC gk) (by simpa using hcl)]
   simp
   have hr:rangeV [.int 2,.int (c.length:Int)]=some (.range ((2:Nat):Int) ((c.length:Nat):Int) 1):=range2 (a:=2) (b:=c.length) hcl (by rw[Ab];exact ar7)
   rw[hr,Ac]
   refine forK_up hcl fun a ha=>?_
   have h2:=h1.alloc (.range ((2:Nat):Int) ((c.length:Nat):Int) 1) ha
   have hfm:=Az h1 ha
   obtain⟨I,hI⟩:∃I:Nat→CS→Prop,∀i σ,I i σ↔(∃(x:CV) (H1:CH),σ=⟨[.ref S.self,.int k,.int f,.ref (S.r (.cl k)),x],H1⟩∧(∀j,2≤j→j<2+i→j<c.length→st.v ((swp c f).getD j 0)<0)∧
    Sv (Fm.put a (.range ((2:Nat):Int) ((c.length:Nat):Int) 1)) H1 S (st.updC k (swp c f))):=⟨_,fun _ _=>Iff.rfl⟩
   refine⟨I,(hI _ _).mpr ⟨.undef,_,rfl,fun j _ _ _=>by exact ar8 (by assumption) (by assumption),h2⟩,fun i σ₂ hi hh=>?_,fun σ₂ hh=>?_⟩
   ·refine B3 ((hI _ _).mp hh) fun x H2 z2_ p h3=>?_;subst z2_
    refine⟨h3.fr _ _ (CH.put_self ..),?_⟩
    simp
    have tn:((2:Int)+i).toNat=2+i:=by exact ar9
    refine⟨h3.obj,?_⟩
    refine h3.rCl (k:=k) gk (by lia) (by simp;exact ar11 hi) (by simpa using hcl) ?_
    rw[tn]
    refine ft_value C (by lia) h3 (updC_wf w) (val (2+i) (by exact ar12 hi)).2 ?_
    simp
    split
    ·rename_i hge
     have hge:0≤st.v ((swp c f).getD (2+i) 0):=by simpa using hge
     refine h3.rCl (k:=k) gk (by lia) (by simp;lia) (by simpa using hcl) ?_
     rw[tn]
     refine h3.wCl (k:=k) gk (by lia) (by simp;exact ar13 hc) (by simpa using hcl) fun H4 h4=>?_
     rw[updC_updC] at h4
     have gk4:=Bz (d:=(swp c f).set (Int.toNat 1) ((swp c f).getD (2+i) 0)) hk
     refine h4.wCl (k:=k) gk4 (by lia) (by simp;lia) (by simpa using hcl) fun H5 h5=>?_
     rw[updC_updC,tn] at h5
     have gk5:=Bz (d:=((swp c f).set (Int.toNat 1) ((swp c f).getD (2+i) 0)).set (2+i) f) hk
     repeat ((first | refine oat h5.attrs rfl ?_);try dsimp )
     refine h5.rCl (k:=k) gk5 (by lia) (by simp;lia) (by simpa using hcl) ?_
     have ev:(((swp c f).set (Int.toNat 1) ((swp c f).getD (2+i) 0)).set (2+i) f).getD (Int.toNat 1) 0=(swp c f).getD (2+i) 0:=by
      rw[List.getD_eq_getElem?_getD,List.getElem?_set_ne (by simp;exact ar14),List.getElem?_set_self (by simp;lia)];rfl
     rw[ev]
     have sr:=Bq (val (2+i) (by lia))
     refine ft_slot C (by lia) ?_
     refine h5.rW sr.1 (by simp[w.wat];simpa using sr.2.1) (by simp[w.wat];have:=w.cnt;rw[Ab];exact ar15 this) ?_
     refine h5.addWOp (by rw[updC_wat,w.wat];exact sr.2.1) (by simpa using hw) fun H6 h6=>?_
     exact q3 e' (2+i) (by exact ar16) (by lia) hge H6 (h6.frput hfm)
    ·rename_i hlt
     refine(hI _ _).mpr ⟨_,_,rfl,fun j j1 j2 j3=>?_,h3⟩
     by_cases hj:j=2+i
     ·subst hj;simpa using hlt
     ·exact p j j1 (by exact ar17 j2 hj) j3
   ·refine B3 ((hI _ _).mp hh) fun x H2 z2_ p h3=>?_;subst z2_
    refine⟨h3.fr _ _ (CH.put_self ..),?_⟩
    exact q2 e' (fun j j1 j2=>p j j1 (by exact ar18 j2) j2) H2 (h3.frput hfm)
 simp[-Aa]
 split
 ·rename_i heq
  have heq:c.getD 0 0=f:=by simpa using heq
  refine wsc ?_
  simp[-Aa]
  refine h.rCl (k:=k) hk (by lia) (by simp;lia) hcl ?_
  refine h.wCl (k:=k) hk (by lia) (by simp;lia) hcl fun H1 h1=>?_
  refine wsc ?_
  simp[-Aa]
  have gk1:=Bz (d:=c.set (Int.toNat 0) (c.getD (Int.toNat 1) 0)) hk
  refine h1.wCl (k:=k) gk1 (by lia) (by simp;lia) (by simpa using hcl) fun H2 h2=>?_
  rw[updC_updC] at h2
  refine main H2 ?_
  unfold swp
  rw[if_pos heq]
  exact h2
 ·rename_i hne
  refine main H ?_
  unfold swp
  rw[if_neg (by simpa using hne),updC_same hk]
  exact h
end
end
section
section
variable {Fm H:CH} {S:Ad} {st st':St} {B:Base} {n:Nat} {Q:CV→CH→Prop}
noncomputable def St.le(st:St)(t:Addr):St:={ st with learned:=st.learned++[.ref t] }
@[simp] theorem le_fld(st:St)(t:Addr):(st.le t).fld=st.fld:=rfl
@[simp] theorem le_cls(st:St)(t:Addr):(st.le t).cls=st.cls:=rfl
@[simp] theorem le_wat(st:St)(t:Addr):(st.le t).wat=st.wat:=rfl
@[simp] theorem le_count(st:St)(t:Addr):(st.le t).count=st.count:=rfl
theorem le_wf{t:Addr}(w:st.Wf):(st.le t).Wf:=⟨w.cnt,w.len,w.wat,w.tr,w.li⟩
theorem push_wf{c:List Int}(w:st.Wf):(st.push c).Wf:=⟨w.cnt,w.len,w.wat,w.tr,w.li⟩
theorem attach_wf{c:List Int}(w:st.Wf):(st.attach c).Wf:=⟨w.cnt,w.len,by rw[attach_len];exact w.wat,w.tr,w.li⟩
theorem ft_learn(C:Cx B)(hn:2<n)(h:Sv Fm H S st)(w:st.Wf){a:Addr}{c:List Int}(ha:Fm a=some (.list (c.map .int)))(h1:1≤c.length)(hl:c.length≤lim)(hv:∀l∈c,Vl st l)(hc:st.cls.length<lim)
  (hw:∀l∈st.wat,l.length+1<lim) (hle:st.learned.length<lim) (ht:(st.fld .trail).length<1000)
  (q1:c.length=1→∀t H' S',S'.self=S.self→Sv (Fm.del a) H' S' ((st.le t).assign (c.getD 0 0) (-1))→Q .none H')
  (q2:2≤c.length→∀t H' S',S'.self=S.self→Sv (Fm.del a) H' S' (((st.le t).attach c).assign (c.getD 0 0) st.cls.length)→Q .none H'):FT B fA n .sLearn [.ref S.self,.ref a] H Q:=by
 have v0:=hv (c.getD 0 0) (by rw[List.getD_eq_getElem?_getD,List.getElem?_eq_getElem (by exact ar19 h1)];exact List.getElem_mem _)
 refine C.call (by exact ar3 hn) rfl ?_
 refine wsc ?_
 dsimp[-Aa]
 repeat ((first | refine oat h.attrs rfl ?_);try dsimp[-Aa])
 refine⟨okA (h.mem .le _ rfl),?_⟩
 have tp:bfV .tuple H (.ref a)=some (.new (.tup (c.map .int))):=by
  simp[bfV_e,CH.lsA,len_e,mkList_e,Ah,Bx,Ae,Af,Option.bind_some,h.fr a _ ha,hl]
 simp only[tp,Ac,go_new]
 intro t htn
 have g1:=h.alloc (.tup (c.map .int)) htn
 simp only[apV (g1.mem .le _ rfl) hle,Ac,Bk]
 have g2:Sv (Fm.put t (.tup (c.map .int))) ((H.put t (.tup (c.map .int))).put (S.r .le) (.list (st.learned++[.ref t]))) S (st.le t):=g1.set .le _ ⟨_,rfl⟩ (fun r'=>by induction r' using SR.casesOn <;> simp[cont,St.le]) rfl
 generalize CH.put _ (S.r .le) _=H1 at g2 ⊢
 have g3:=g2.frput (Az h htn)
 refine wsc ?_
 simp[-Aa]
 simp only[lenL (g3.fr a _ ha) (by simpa using hl)]
 simp[-Aa]
 split
 ·rename_i e
  have e:c.length=1:=by exact_mod_cast e
  simp
  refine⟨g3.obj,?_⟩
  simp only[rdL (g3.fr a _ ha) (k:=0) (by exact ar4) (by simp;lia) hl,Ac]
  exact ft_assign C (by exact ar21 hn) g3 (le_wf w) v0.2 ht fun H2 h2=>q1 e t H2 S rfl (h2.weak (CH.del_le Fm a))
 ·rename_i e
  have e:2≤c.length:=by
   have:¬ c.length=1:=fun q=>e (by exact_mod_cast q)
   exact ar22 h1 e
  simp
  refine⟨g3.obj,?_⟩
  simp only[rdL (g3.fr a _ ha) (k:=0) (by lia) (by simp;exact ar19 h1) hl,Ac]
  refine⟨g3.obj,ft_attach C (by lia) g3 (le_wf w) ha e hl hv hc hw fun H2 h2=>?_⟩
  exact ft_assign (S:=S.upd (.cl st.cls.length) a) C (by lia) h2 (attach_wf (le_wf w)) v0.2 ht fun H3 h3=>q2 e t H3 (S.upd (.cl st.cls.length) a) rfl h3
theorem perm_swap(r:List Int)(j:Nat)(hj:j<r.length):((r.set 0 (r.getD j 0)).set j (r.getD 0 0)).Perm r:=by
 have:((r.set 0 (r.getD j 0)).set j (r.getD 0 0))=(r.set 0 (r.getD j 0)).set j (r.getD 0 0):=rfl
 induction r using List.casesOn with
 | nil=>simp at hj
 | cons x t=>
  induction j using Nat.casesOn with
  | zero=>simp
  | succ j=>
   simp only[List.set_cons_zero,List.getD_cons_succ,List.set_cons_succ,List.getD_cons_zero]
   have hj:j<t.length:=by simpa using hj
   have e:t.getD j 0=t[j]:=by rw[List.getD_eq_getElem?_getD,List.getElem?_eq_getElem hj];rfl
   rw[e]
   have h1:t=t.take j++t[j]::t.drop (j+1):=by rw[List.getElem_cons_drop];simp
   have h2:t.set j x=t.take j++x::t.drop (j+1):=List.set_eq_take_append_cons_drop .. |>.trans (by rw[if_pos hj])
   rw[h2]
   conv=>rhs;rw[h1]
   have p1:(t[j]::(t.take j++x::t.drop (j+1))).Perm (t[j]::x::(t.take j++t.drop (j+1))):=List.Perm.cons _ List.perm_middle
   have p2:(x::(t.take j++t[j]::t.drop (j+1))).Perm (x::t[j]::(t.take j++t.drop (j+1))):=List.Perm.cons _ List.perm_middle
   exact p1.trans ((List.Perm.swap ..).trans p2.symm)
noncomputable def lvl(st:St)(l:Int):Int:=(st.fld .levels).getD l.natAbs 0
theorem ft_ordered(C:Cx B)(hn:1<n)(h:Sv Fm H S st)(w:st.Wf){a:Addr}{f:Int}{r:List Int}(ha:Fm a=some (.list (r.map .int)))(hl:r.length<1000)(hv:∀l∈r,l.natAbs≤st.count)
  (q:∀H' l t r' bk,H l=none→H t=none→l≠t→r'.Perm r→(r=[]→bk=0)→(r≠[]→bk=lvl st (r'.getD 0 0)∧∀x∈r',lvl st x≤bk)→Sv (((Fm.del a).put l (.list ((f::r').map .int))).put t (.tup [.ref l,.int bk])) H' S st→Q (.ref t) H') :
  FT B fA n .sOrdered [.ref S.self,.int f,.ref a] H Q:=by
 have lv1:=w.len .levels (by simp) (by simp)
 have ll1:=w.l .levels (by simp) (by simp)
 have hrl:r.length≤lim:=by rw[Ab];exact ar23 hl
 have hc:=w.cnt
 refine C.call (by exact ar24 hn) rfl ?_
 refine wsc ?_
 dsimp[-Aa]
 refine wsc ?_
 dsimp[-Aa]
 simp only[lenL (h.fr a _ ha) (by simpa using hrl)]
 dsimp[-Aa]
 simp[-Aa]
 have hr:rangeV [.int 1,.int (r.length:Int)]=some (.range ((1:Nat):Int) ((r.length:Nat):Int) 1):=range2 (a:=1) (b:=r.length) hrl (by rw[Ab];lia)
 simp only[hr,Ac]
 refine forK_up hrl fun b hb=>?_
 have h2:=h.alloc (.range ((1:Nat):Int) ((r.length:Nat):Int) 1) hb
 have hfm:=Az h hb
 have hab:a≠b:=fun e=>by rw[e,hfm] at ha;cases ha
 obtain⟨I,hI⟩:∃I:Nat→CS→Prop,∀i σ,I i σ↔(∃(x:CV) (H1:CH) (bt:Nat),σ=⟨[.ref S.self,.int f,.ref a,.int bt,x],H1⟩∧(r≠[]→bt<r.length)∧(r=[]→bt=0)∧(∀j,j<1+i→j<r.length→lvl st (r.getD j 0)≤lvl st (r.getD bt 0))∧
  (∀y,H1 y=none→H y=none)∧Sv (Fm.put b (.range ((1:Nat):Int) ((r.length:Nat):Int) 1)) H1 S st):=⟨_,fun _ _=>Iff.rfl⟩
 refine⟨I,(hI _ _).mpr ⟨.undef,_,0,rfl,fun q=>List.length_pos_iff.mpr q,fun _=>rfl,fun j j1 j2=>?_,fun y hy=>?_,h2⟩,fun i σ₂ hi hh=>?_,fun σ₂ hh=>?_⟩
 ·have e:j=0:=by exact ar25 j1
  subst e
  exact Int.le_refl _
 ·by_cases e:y=b
  ·rw[e];exact hb
  ·rw[CH.put_ne _ _ e] at hy;exact hy
 ·refine oe3 ((hI _ _).mp hh) fun x H1 bt w0_=>?_;refine oa5 w0_ fun z3_ p1 p0 p2 p3 h3=>?_;clear w0_;subst z3_
  have ha3:=h3.fr a (.list (r.map .int)) (by rw[CH.put_ne _ _ hab];exact ha)
  refine⟨h3.fr _ _ (CH.put_self ..),?_⟩
  have rne:r≠[]:=fun e=>by rw[e] at hi;simp at hi
  have bl:=p1 rne
  have m1:=hv (r.getD (1+i) 0) (by rw[List.getD_eq_getElem?_getD,List.getElem?_eq_getElem (by exact ar26 hi)];exact List.getElem_mem _)
  have m2:=hv (r.getD bt 0) (by rw[List.getD_eq_getElem?_getD,List.getElem?_eq_getElem (by lia)];exact List.getElem_mem _)
  dsimp
  repeat ((first | refine oat h3.attrs rfl ?_);try dsimp )
  rw[rdL ha3 (by exact ar27) (by exact ar28 hi) hrl,Ac]
  simp only[show((1:Int)+i).toNat=1+i by exact ar29]
  simp only[absI,Ac,Ax]
  refine h3.rI .levels (by exact ar30) (by exact ar31 m1 lv1) ll1 ?_
  dsimp
  repeat ((first | refine oat h3.attrs rfl ?_);try dsimp )
  simp[h3.attrs]
  rw[rdL ha3 (by exact ar2) (by lia) hrl,Ac]
  simp only[absI,Ac,Ax]
  refine h3.rI .levels (by exact ar30) (by simp at m2 ⊢;exact ar32 m2 lv1) ll1 ?_
  have e1:∀k:Nat,((k:Int)).toNat=k:=fun k=>by simp
  simp only[cmp_Gt,Ac,B4,fin_bool,e1]
  split
  ·rename_i hgt
   refine(hI _ _).mpr ⟨.int ((1+i:Nat):Int),_,1+i,by simp,fun _=>by lia,fun e=>absurd e rne,fun j j1 j2=>?_,p3,h3⟩
   by_cases hj:j=1+i
   ·rw[hj];exact Int.le_refl _
   ·exact Int.le_trans (p2 j (by exact ar33 j1 hj) j2) (Int.le_of_lt hgt)
  ·rename_i hle
   refine(hI _ _).mpr ⟨_,_,bt,rfl,p1,p0,fun j j1 j2=>?_,p3,h3⟩
   by_cases hj:j=1+i
   ·rw[hj];exact Int.not_lt.mp hle
   ·exact p2 j (by lia) j2
 ·refine oe3 ((hI _ _).mp hh) fun x H1 bt w0_=>?_;refine oa5 w0_ fun z3_ p1 p0 p2 p3 h3=>?_;clear w0_;subst z3_
  have ha3:=h3.fr a (.list (r.map .int)) (by rw[CH.put_ne _ _ hab];exact ha)
  refine⟨h3.fr _ _ (CH.put_self ..),?_⟩
  have h4:=h3.frput hfm
  simp only[Al,Aa]
  dsimp[-Aa]
  have tr:truth H1 (.ref a)=some (!r.isEmpty):=by
   simp only[truth_e,CH.lsA,Ah,Ae,Af,Option.bind_some,ha3]
   rw[if_pos (by simpa using hrl)]
   induction r using List.casesOn <;> rfl
  simp only[fin_true]
  show Opt (truth H1 (.ref a)) _
  simp only[tr,Ac,notV_bool]
  have neq:∀{G:CH} {o:CO} {l t:Addr},(G.put l o) t=none→t≠l∧G t=none:=fun {G o l t} e=>by
   have:t≠l:=fun q=>by rw[q,CH.put_self] at e;cases e
   exact⟨this,by rw[CH.put_ne _ _ this] at e;exact e⟩
  have wk:∀{G:CH} {l t:Addr} {o1 o2:CO},(∀y o,G y=some o→Fm y=some o)→∀y o,((G.put l o1).put t o2) y=some o→((Fm.put l o1).put t o2) y=some o:=fun {G l t o1 o2} k y o e=>by
   unfold CH.put at e ⊢
   split
   ·rename_i q;rw[if_pos q] at e;exact e
   ·rename_i q;rw[if_neg q] at e
    split
    ·rename_i q2;rw[if_pos q2] at e;exact e
    ·rename_i q2;rw[if_neg q2] at e;exact k y o e
  by_cases hre:r=[]
  ·subst hre
   dsimp
   simp
   refine⟨by rw[Ab];lia,fun l hl1=>?_⟩
   dsimp
   refine⟨by rw[Ab];lia,fun t ht1=>?_⟩
   refine oa (neq (G:=H1) (o:=.list [.int f]) (l:=l) (t:=t) ht1) fun n1 n2=>?_
   have h5:=(h4.alloc (.list [.int f]) hl1).alloc (.tup [.ref l,.int 0]) ht1
   refine q _ l t [] 0 (p3 l hl1) (p3 t n2) (Ne.symm n1) (List.Perm.refl _) (fun _=>rfl) (fun e=>absurd rfl e) (h5.weak (wk (CH.del_le Fm a)))
  ·have bl:=p1 hre
   have r0:0<r.length:=List.length_pos_iff.mpr hre
   have hie:r.isEmpty=false:=by induction r using List.casesOn with | nil=>exact absurd rfl hre | cons=>rfl
   have ha4:=h4.fr a _ ha
   simp only[hie]
   show WSs _ _ _ _ _ _
   refine wsc ?_
   dsimp[-Aa]
   simp[-Aa]
   simp only[rdL ha4 (k:=bt) (by lia) (by lia) hrl,Ac]
   simp only[rdL ha4 (k:=0) (by lia) (by exact ar34 r0) hrl,Ac]
   refine⟨by rw[Ab];lia,fun t0 ht0=>?_⟩
   have h5:=h4.alloc (.tup [.int (r.getD bt 0),.int (r.getD 0 0)]) ht0
   have nat0:a≠t0:=fun e=>by rw[e] at ha4;have:H1 t0=none:=ht0;rw[this] at ha4;cases ha4
   refine⟨t0,rfl,_,CH.put_self ..,rfl,?_⟩
   simp only[show((bt:Int).toNat)=bt by simp,show(Int.toNat 0)=0 from rfl]
   have psw:=perm_swap r bt bl
   have hmax:∀y∈r,lvl st y≤lvl st (r.getD bt 0):=fun y hy=>by
    obtain⟨j,hj,rfl⟩:=List.getElem_of_mem hy
    have:=p2 j (by lia) hj
    rwa [List.getD_eq_getElem?_getD,List.getElem?_eq_getElem hj] at this
   have hvb:=hv (r.getD bt 0) (by rw[List.getD_eq_getElem?_getD,List.getElem?_eq_getElem bl];exact List.getElem_mem _)
   have hb0:bt=0→r.getD bt 0=r.getD 0 0:=fun e=>by rw[e]
   generalize r.getD bt 0=vb at h5 psw hmax hvb hb0 ⊢
   generalize r.getD 0 0=v0 at h5 psw hb0 ⊢
   dsimp[-Aa]
   have ha5:(H1.put t0 (.tup [.int vb,.int v0])) a=some (.list (r.map .int)):=by rw[CH.put_ne _ _ nat0];exact ha4
   simp only[wrL ha5 (k:=0) (by lia) (by lia) hrl,Ac]
   have h6:=h5.side (.list ((r.set (Int.toNat 0) vb).map .int)) (a:=a) (by rw[CH.put_ne _ _ nat0];exact ha)
   have ha6:=h6.fr a _ (CH.put_self ..)
   have hn6:∀y,((H1.put t0 (.tup [.int vb,.int v0])).put a (.list ((r.set (Int.toNat 0) vb).map .int))) y=none→H1 y=none:=fun y hy=>(neq (neq hy).2).2
   generalize CH.put (H1.put t0 _) a _=H6 at h6 ha6 hn6 ⊢
   simp only[wrL ha6 (k:=bt) (by lia) (by simp;lia) (by simpa using hrl),Ac]
   have e7:(r.set (Int.toNat 0) vb).set (bt:Int).toNat v0=(r.set 0 vb).set bt v0:=by simp
   simp only[e7]
   have h7:=h6.side (.list (((r.set 0 vb).set bt v0).map .int)) (a:=a) (CH.put_self ..)
   have ha7:=h7.fr a _ (CH.put_self ..)
   have hn7:∀y,(H6.put a (.list (((r.set 0 vb).set bt v0).map .int))) y=none→H1 y=none:=fun y hy=>hn6 y (neq hy).2
   generalize CH.put H6 a _=H7 at h7 ha7 hn7 ⊢
   have l7:((r.set 0 vb).set bt v0).length=r.length:=by simp
   have g0:((r.set 0 vb).set bt v0).getD 0 0=vb:=by
    by_cases e:bt=0
    ·rw[hb0 e,e,List.getD_eq_getElem?_getD,List.getElem?_set_self (by simpa using r0)];rfl
    ·rw[List.getD_eq_getElem?_getD,List.getElem?_set_ne e,List.getElem?_set_self r0];rfl
   generalize (r.set 0 vb).set bt v0=r' at h7 ha7 hn7 l7 g0 psw ⊢
   dsimp
   refine⟨by rw[Ab];lia,fun l1 hl1=>?_⟩
   have h8:=h7.alloc (.list [.int f]) hl1
   have hal1:a≠l1:=fun e=>by rw[e] at ha7;have:H7 l1=none:=hl1;rw[this] at ha7;cases ha7
   have add:binV .Add (H7.put l1 (.list [.int f])) (.ref l1) (.ref a)=some (.new (.list ((f::r').map .int))):=by
    simp only[binV_e,refBin_e,CH.lsA,Bi,Ah,Ae,Af,Option.bind_some,CH.put_self,CH.put_ne _ _ hal1,ha7]
    rw[if_pos (by simp;rw[Ab];exact ar36 hl l7)]
    dsimp
    simp
   dsimp
   simp[add]
   intro l2 hl2
   have h9:=h8.alloc (.list ((f::r').map .int)) hl2
   have hal2:a≠l2:=fun e=>by rw[← e,CH.put_ne _ _ hal1,ha7] at hl2;cases hl2
   have ha9:((H7.put l1 (.list [.int f])).put l2 (.list ((f::r').map .int))) a=some (.list (r'.map .int)):=by rw[CH.put_ne _ _ hal2,CH.put_ne _ _ hal1];exact ha7
   simp only[List.map_cons] at h9 ha9 ⊢
   repeat ((first | refine oat h9.attrs rfl ?_);try dsimp )
   simp only[rdL ha9 (k:=0) (by lia) (by simp;exact ar37 r0 l7) (by exact ar38 l7 hrl),Ac]
   simp only[absI,Ac,Ax]
   simp only[show(Int.toNat 0)=0 from rfl,g0]
   refine h9.rI .levels (by exact ar30) (by simp;exact ar32 hvb lv1) ll1 ?_
   dsimp
   simp
   refine⟨by rw[Ab];lia,fun t ht=>?_⟩
   have h10:=h9.alloc (.tup [.ref l2,.int (lvl st vb)]) ht
   refine oa (neq ht) fun n1 n2=>?_
   refine oa (neq n2) fun n3 n4=>?_
   refine oa (neq hl2) fun n5 n6=>?_
   have fin:=h10.weak (Fm':=((Fm.del a).put l2 (.list ((f::r').map .int))).put t (.tup [.ref l2,.int (lvl st vb)])) (fun y o e=>by
    unfold CH.put at e ⊢
    split
    ·rename_i q;rw[if_pos q] at e;exact e
    ·rename_i q;rw[if_neg q] at e
     split
     ·rename_i q2;rw[if_pos q2] at e;exact e
     ·rename_i q2;rw[if_neg q2] at e
      unfold CH.del at e
      split at e
      ·cases e
      ·rename_i q3
       have hy:=h.fr y o e
       have q4:y≠l1:=fun z=>by subst z;have:=p3 y (hn7 y hl1);rw[this] at hy;cases hy
       have q5:y≠t0:=fun z=>by subst z;have:=p3 y ht0;rw[this] at hy;cases hy
       have q6:y≠b:=fun z=>by subst z;rw[hb] at hy;cases hy
       rw[if_neg q4,if_neg q3,if_neg q3,if_neg q5];exact e)
   refine q _ l2 t r' (lvl st vb) (p3 l2 (hn7 l2 n6)) (p3 t (hn7 t n4)) (Ne.symm n1) psw (fun e=>absurd e hre) (fun _=>⟨by rw[g0],fun y hy=>hmax y (psw.mem_iff.mp hy)⟩) ?_
   simpa[lvl] using fin
end
end
section
abbrev St.tr (st:St):List Int:=st.fld .trail
abbrev St.lis (st:St):List Int:=st.fld .limits
noncomputable def St.lev(st:St)(p:Nat):Nat:=st.lis.countP (fun x=>Decidable.decide (x≤(p:Int)))
structure Tr (st:St):Prop where
 lit:∀l∈st.tr,Vl st l
 nd:(st.tr.map Int.natAbs).Nodup
 val:∀l∈st.tr,st.v l=1
 off:∀i,i∉st.tr.map Int.natAbs→(st.fld .values).getD i 0=0
 ls:∀x∈st.lis,0≤x∧x<st.tr.length
 lm:st.lis.Pairwise (· < ·)
 lv:∀p l,st.tr[p]?=some l→lvl st l=st.lev p
noncomputable def Re(st:St):Prop:=∀p l,st.tr[p]?=some l→((st.fld .reasons).getD l.natAbs 0 = -1∧(st.lev p=0∨(p:Int)∈st.lis))∨
 ∃(k:Nat) (c:List Int),(st.fld .reasons).getD l.natAbs 0=k∧st.cls[k]?=some c∧l∈c∧∀m∈c,m≠l→∃q,q<p∧st.tr[q]?=some (-m)
noncomputable def Clz(st:St):Prop:=∀c∈st.cls,2≤c.length∧(∀l∈c,Vl st l∧l.natAbs≠1)∧(c.map Int.natAbs).Nodup
noncomputable def Wat(cls:List (List Int))(s:Nat)(x:Int):Prop:=∃(k:Nat) (c:List Int),x=k∧cls[k]?=some c∧((Ag (c.getD 0 0)).toNat=s∨(Ag (c.getD 1 0)).toNat=s)
structure Wt (cls wat:List (List Int)):Prop where
 mem:∀s x,x∈wat.getD s []↔Wat cls s x
 nd:∀s,(wat.getD s []).Nodup
noncomputable def Pair(c:List Int)(a b:Int):Prop:=(a=c.getD 0 0∧b=c.getD 1 0)∨(a=c.getD 1 0∧b=c.getD 0 0)
noncomputable def Clo(st:St)(h:Nat):Prop:=∀(k:Nat) c,st.cls[k]?=some c→∀a b,Pair c a b→∀q,q<h→st.tr[q]?=some (-a)→∃q',st.tr[q']?=some b∧st.lev q'≤st.lev q
noncomputable def tv(M:Nat→Bool)(l:Int):Bool:=if l<0 then !(M l.natAbs) else M l.natAbs
noncomputable def Sat(M:Nat→Bool)(c:List Int):Prop:=∃l∈c,tv M l=true
noncomputable def Mod(F:List (List Int))(M:Nat→Bool):Prop:=∀f∈F,Sat M f
structure Sd (F:List (List Int)) (st:St):Prop where
 cl:∀M,Mod F M→∀c∈st.cls,Sat M c
 tr:∀M,Mod F M→∀p l,st.tr[p]?=some l→st.lev p=0→tv M l=true
 kp:∀f∈F,∃c∈st.cls,∀l,l∈c↔l∈f
structure PI (F:List (List Int)) (st:St) (wat:List (List Int)) (h:Nat):Prop where
 wf:st.Wf
 tr:Tr st
 re:Re st
 cz:Clz st
 wt:Wt st.cls wat
 clo:Clo st h
 sd:Sd F st
 hl:h≤st.tr.length
 lh:∀x∈st.lis,x≤(h:Int)
 ph:Pm (st.fld .phases)
 nc:st.cls.length≤5000
 le:st.learned.length≤5000
theorem tv_neg(M:Nat→Bool){l:Int}(h:l≠0):tv M (-l) = !(tv M l):=by
 unfold tv
 by_cases h1:l<0
 ·rw[if_pos h1,if_neg (by exact ar549 h1)];simp
 ·rw[if_neg h1,if_pos (by exact ar550 h h1)];simp
theorem v_neg(st:St){l:Int}(h:l≠0):st.v (-l) = - st.v l:=by
 unfold St.v
 by_cases h1:l<0
 ·rw[if_pos h1,if_neg (by lia)];simp
 ·rw[if_neg h1,if_pos (by lia)];simp
theorem B9{a b:Int}(h:a.natAbs=b.natAbs):a=b∨a = -b:=Int.natAbs_eq_natAbs_iff.mp h
section
variable {st:St}
theorem Tr.one(t:Tr st){l:Int}(hl:Vl st l)(h:st.v l=1):l∈st.tr:=by
 by_cases hm:l.natAbs∈st.tr.map Int.natAbs
 ·refine oea (List.mem_map.mp hm) fun m hm1 hm2=>?_
  rcases B9 hm2 with e | e
  ·exact e▸hm1
  ·have:=t.val m hm1
   rw[e,v_neg st hl.1,h] at this;lia
 ·have:=t.off _ hm
  unfold St.v at h
  rw[this] at h
  split at h <;> lia
theorem Tr.zero(t:Tr st){l:Int}(hl:Vl st l)(h:st.v l=0):l.natAbs∉st.tr.map Int.natAbs:=by
 intro hm
 refine oea (List.mem_map.mp hm) fun m hm1 hm2=>?_
 have:=t.val m hm1
 rcases B9 hm2 with e | e
 ·rw[e,h] at this;lia
 ·rw[e,v_neg st hl.1,h] at this;lia
theorem Tr.tri(t:Tr st){l:Int}(hl:Vl st l):st.v l=1∨st.v l=0∨st.v l = -1:=by
 by_cases hm:l.natAbs∈st.tr.map Int.natAbs
 ·refine oea (List.mem_map.mp hm) fun m hm1 hm2=>?_
  have:=t.val m hm1
  rcases B9 hm2 with e | e
  ·rw[e] at this;exact .inl this
  ·rw[e,v_neg st hl.1] at this;right;right;exact ar42 this
 ·have:=t.off _ hm
  right;left
  unfold St.v
  rw[this];simp
theorem Tr.neg(t:Tr st){l:Int}(hl:Vl st l)(h:st.v l<0): -l∈st.tr:=by
 have hl':Vl st (-l):=⟨by have:=hl.1;exact ar64 this,by have:=hl.2;exact ar65 this⟩
 refine t.one hl' ?_
 rw[v_neg st hl.1]
 rcases t.tri hl with e | e | e <;> (first | exact ar551 h e | exact ar552 h e | exact ar553 e | lia)
theorem Tr.len(t:Tr st):st.tr.length≤st.count:=by
 have h1:(st.tr.map Int.natAbs).Nodup:=t.nd
 have h2:∀x∈st.tr.map Int.natAbs,x∈(List.range (st.count+1)).tail:=by
  intro x hx
  refine oea (List.mem_map.mp hx) fun m hm1 z2_=>?_;subst z2_
  have:=t.lit m hm1
  rw[List.range_succ_eq_map]
  simp only[List.tail_cons,List.mem_map,List.mem_range]
  refine⟨m.natAbs-1,?_,?_⟩
  ·have:=this.2;have:=this;have h0:=(t.lit m hm1).1;exact ar554 (by assumption) h0
  ·have h0:=(t.lit m hm1).1;lia
 have:=List.Nodup.length_le_of_subset h1 h2
 simpa using this
theorem lev_top(t:Tr st){p:Nat}(hp:∀x∈st.lis,x≤(p:Int)):st.lev p=st.lis.length:=by
 unfold St.lev
 rw[List.countP_eq_length]
 intro x hx
 simpa using hp x hx
theorem lev_mono{p q:Nat}(h:p≤q):st.lev p≤st.lev q:=by
 unfold St.lev
 apply List.countP_mono_left
 intro x _ hx
 simp at hx ⊢
 exact ar556 hx h
theorem lev_le{p:Nat}:st.lev p≤st.lis.length:=by unfold St.lev;exact List.countP_le_length
theorem as_values(l r:Int):(st.assign l r).fld .values=(st.fld .values).set l.natAbs (if 0<l then 1 else -1):=by simp[St.assign,An]
theorem as_levels(l r:Int):(st.assign l r).fld .levels=(st.fld .levels).set l.natAbs (st.fld .limits).length:=by simp[St.assign,An]
theorem as_reasons(l r:Int):(st.assign l r).fld .reasons=(st.fld .reasons).set l.natAbs r:=by simp[St.assign,An]
theorem Bb(l r:Int):(st.assign l r).fld .trail=st.fld .trail++[l]:=by simp[St.assign,An]
theorem Bh(l r:Int):(st.assign l r).fld .limits=st.fld .limits:=by simp[St.assign,An]
theorem as_phases(l r:Int):(st.assign l r).fld .phases=st.fld .phases:=by simp[St.assign,An]
theorem as_activity(l r:Int):(st.assign l r).fld .activity=st.fld .activity:=by simp[St.assign,An]
@[simp] theorem as_cls(l r:Int):(st.assign l r).cls=st.cls:=rfl
@[simp] theorem as_wat(l r:Int):(st.assign l r).wat=st.wat:=rfl
@[simp] theorem as_count(l r:Int):(st.assign l r).count=st.count:=rfl
@[simp] theorem as_head(l r:Int):(st.assign l r).head=st.head:=rfl
@[simp] theorem as_learned(l r:Int):(st.assign l r).learned=st.learned:=rfl
@[simp] theorem as_refuted(l r:Int):(st.assign l r).refuted=st.refuted:=rfl
theorem as_lev(l r:Int)(p:Nat):(st.assign l r).lev p=st.lev p:=by unfold St.lev;simp only[St.lis,Bh]
theorem as_v_self(w:st.Wf){l r:Int}(hl:Vl st l):(st.assign l r).v l=1:=by
 have:=w.len .values (by simp) (by simp)
 unfold St.v
 rw[as_values,List.getD_eq_getElem?_getD,List.getElem?_set_self (by have:=hl.2;exact ar32 this (by assumption))]
 have:=hl.1
 by_cases h:l<0
 ·rw[if_pos h];simp;exact ar557 h
 ·rw[if_neg h];simp;exact ar558 this h
theorem as_v_ne{l r m:Int}(h:m.natAbs≠l.natAbs):(st.assign l r).v m=st.v m:=by
 unfold St.v
 rw[as_values,List.getD_eq_getElem?_getD,List.getElem?_set_ne (Ne.symm h),← List.getD_eq_getElem?_getD]
theorem as_get{l r:Int}{p:Nat}{m:Int}(h:(st.assign l r).tr[p]?=some m):st.tr[p]?=some m∨(p=st.tr.length∧m=l):=by
 simp only[St.tr,Bb] at h
 rw[List.getElem?_append] at h
 split at h
 ·exact .inl h
 ·rename_i q
  have:p-(st.fld .trail).length=0:=by
   induction e:p-(st.fld .trail).length using Nat.casesOn with
   | zero=>rfl
   | succ j=>rw[e] at h;simp at h
  rw[this] at h
  simp at h
  exact .inr ⟨by simp at q;show p=(st.fld .trail).length;exact ar559 this q,h.symm⟩
theorem as_old{l r:Int}{p:Nat}{m:Int}(h:st.tr[p]?=some m):(st.assign l r).tr[p]?=some m:=by
 simp only[St.tr,Bb]
 rw[List.getElem?_append_left (List.getElem?_eq_some_iff.mp h).1];exact h
theorem as_new{l r:Int}:(st.assign l r).tr[st.tr.length]?=some l:=by
 simp[St.tr,Bb]
theorem Tr.assign(t:Tr st)(w:st.Wf){l r:Int}(hl:Vl st l)(h0:st.v l=0):Tr (st.assign l r):=by
 have hn:=t.zero hl h0
 have hll:=w.len .levels (by simp) (by simp)
 have mem_ne:∀m∈st.tr,m.natAbs≠l.natAbs:=fun m hm e=>hn (e▸List.mem_map_of_mem hm)
 refine⟨fun m hm=>?_,?_,fun m hm=>?_,fun i hi=>?_,fun x hx=>?_,?_,fun p m hm=>?_⟩
 ·simp only[St.tr,Bb,List.mem_append,List.mem_singleton] at hm
  rcases hm with hm | rfl
  ·exact t.lit m hm
  ·exact hl
 ·simp only[St.tr,Bb,List.map_append,List.map_cons,List.map_nil]
  rw[List.nodup_append]
  exact⟨t.nd,by simp,fun a ha b hb e=>by simp at hb;subst hb;subst e;exact hn ha⟩
 ·simp only[St.tr,Bb,List.mem_append,List.mem_singleton] at hm
  rcases hm with hm | rfl
  ·rw[as_v_ne (mem_ne m hm)];exact t.val m hm
  ·exact as_v_self w hl
 ·simp only[St.tr,Bb,List.map_append,List.mem_append,List.map_cons,List.map_nil,List.mem_singleton,not_or] at hi
  rw[as_values,List.getD_eq_getElem?_getD,List.getElem?_set_ne (Ne.symm hi.2),← List.getD_eq_getElem?_getD]
  exact t.off i hi.1
 ·simp only[St.lis,Bh] at hx
  have:=t.ls x hx
  simp only[St.tr,Bb,List.length_append,List.length_singleton]
  exact⟨this.1,by simp only[St.tr] at this;exact ar560 this⟩
 ·simp only[St.lis,Bh];exact t.lm
 ·rw[as_lev]
  unfold lvl
  rw[as_levels]
  rcases as_get hm with h | ⟨rfl,rfl⟩
  ·rw[List.getD_eq_getElem?_getD,List.getElem?_set_ne (Ne.symm (mem_ne m (List.mem_of_getElem? h))),← List.getD_eq_getElem?_getD]
   exact t.lv p m h
  ·rw[List.getD_eq_getElem?_getD,List.getElem?_set_self (by have:=hl.2;exact ar32 this hll)]
   rw[lev_top t (fun x hx=>by have:=(t.ls x hx).2;exact ar561 this)]
   rfl
theorem Re.assign(t:Tr st)(w:st.Wf)(re:Re st){l r:Int}(hl:Vl st l)(h0:st.v l=0)(hr:(r = -1∧(st.lis.length=0∨(st.tr.length:Int)∈st.lis))∨∃(k:Nat) (c:List Int),r=k∧st.cls[k]?=some c∧l∈c∧∀m∈c,m≠l→-m∈st.tr):Re (st.assign l r):=by
 have hn:=t.zero hl h0
 have hrl:=w.len .reasons (by simp) (by simp)
 intro p m hm
 rw[as_lev,as_reasons]
 dsimp only[St.lis,Bh,as_cls]
 rcases as_get hm with h | ⟨rfl,rfl⟩
 ·have hne:m.natAbs≠l.natAbs:=fun e=>hn (e▸List.mem_map_of_mem (List.mem_of_getElem? h))
  rw[List.getD_eq_getElem?_getD,List.getElem?_set_ne (Ne.symm hne),← List.getD_eq_getElem?_getD]
  rcases re p m h with q | ⟨k,c,q1,q2,q3,q4⟩
  ·exact .inl q
  ·refine .inr ⟨k,c,q1,q2,q3,fun x hx hxm=>?_⟩
   refine oea (q4 x hx hxm) fun q hq hq2=>?_
   exact⟨q,hq,as_old hq2⟩
 ·rw[List.getD_eq_getElem?_getD,List.getElem?_set_self (by have:=hl.2;exact ar32 this hrl)]
  rcases hr with ⟨rfl,q⟩ | ⟨k,c,rfl,q2,q3,q4⟩
  ·refine .inl ⟨rfl,?_⟩
   rcases q with q | q
   ·left;have:=lev_le (st:=st) (p:=st.tr.length);exact ar562 q this
   ·exact .inr q
  ·refine .inr ⟨k,c,rfl,q2,q3,fun x hx hxm=>?_⟩
   refine oe (List.getElem?_of_mem (q4 x hx hxm)) fun q hq=>?_
   exact⟨q,(List.getElem?_eq_some_iff.mp hq).1,as_old hq⟩
theorem Clo.assign{h:Nat}(c:Clo st h){l r:Int}(hh:h≤st.tr.length):Clo (st.assign l r) h:=by
 intro k d hd a b hp q hq ha
 rcases as_get ha with h1 | ⟨rfl,_⟩
 ·refine oea (c k d hd a b hp q hq h1) fun q' h2 h3=>?_
  exact⟨q',as_old h2,by rw[as_lev,as_lev];exact h3⟩
 ·lia
end
end
section
theorem Ay{c:List Int}{j:Nat}(h:j<c.length):c.getD j 0∈c:=by
 rw[List.getD_eq_getElem?_getD,List.getElem?_eq_getElem h];exact List.getElem_mem _
theorem slot_inj{st:St}{a b:Int}(ha:Vl st a)(hb:Vl st b)(h:(Ag a).toNat=(Ag b).toNat):a=b:=by
 have h1:=ha.1
 have h2:=hb.1
 unfold Ag at h
 split at h <;> split at h <;> (first | exact ar632 (by assumption) h | exact ar634 h1 (by assumption) h | lia)
theorem swp_perm{c:List Int}{f:Int}(h:2≤c.length):(swp c f).Perm c:=by
 unfold swp
 split
 ·rename_i e
  rw[← e];exact perm_swap c 1 (by exact ar13 h)
 ·exact List.Perm.refl _
theorem perm_swap2:∀(c:List Int) (i j:Nat),i<j→j<c.length→((c.set i (c.getD j 0)).set j (c.getD i 0)).Perm c
 | c,0,j,h,hj=>perm_swap c j hj
 | [],_+1,_,_,hj=>by simp at hj
 | x::t,i+1,0,h,_=>by lia
 | x::t,i+1,j+1,h,hj=>by
  exact(perm_swap2 t i j (by exact ar636 h) (by simpa using hj)).cons _
theorem swp_one{c:List Int}{f:Int}(h:2≤c.length)(hf:c.getD 0 0=f∨c.getD 1 0=f):(swp c f).getD 1 0=f:=by
 unfold swp
 split
 ·rw[List.getD_eq_getElem?_getD,List.getElem?_set_self (by simp;lia)];rfl
 ·rename_i e;exact hf.resolve_left e
theorem swp_pair{c:List Int}{f:Int}(h:2≤c.length):((swp c f).getD 0 0=c.getD 0 0∧(swp c f).getD 1 0=c.getD 1 0)∨((swp c f).getD 0 0=c.getD 1 0∧(swp c f).getD 1 0=c.getD 0 0):=by
 unfold swp
 split
 ·rename_i e
  right
  refine⟨?_,?_⟩
  ·rw[List.getD_eq_getElem?_getD,List.getElem?_set_ne (by exact ar637),List.getElem?_set_self (by exact ar5 h)];rfl
  ·rw[List.getD_eq_getElem?_getD,List.getElem?_set_self (by simp;lia)];simpa using e.symm
 ·exact .inl ⟨rfl,rfl⟩
theorem cls_get{cls:List (List Int)}{k j:Nat}{c d:List Int}(h:(cls.set k d)[j]?=some c):(j=k∧c=d)∨(j≠k∧cls[j]?=some c):=by
 by_cases e:j=k
 ·subst e
  rw[List.getElem?_set_self'] at h
  induction hx:cls[j]? using Option.casesOn with
  | none=>rw[hx] at h;cases h
  | some y=>rw[hx] at h;simp at h;exact .inl ⟨rfl,h.symm⟩
 ·rw[List.getElem?_set_ne (Ne.symm e)] at h
  exact .inr ⟨e,h⟩
theorem nodup_ne{c:List Int}(h:(c.map Int.natAbs).Nodup){i j:Nat}(hi:i<c.length)(hj:j<c.length)(hij:i≠j):(c.getD i 0).natAbs≠(c.getD j 0).natAbs:=by
 intro e
 have h1:(c.map Int.natAbs)[i]?=some ((c.getD i 0).natAbs):=by rw[List.getElem?_map,List.getElem?_eq_getElem hi,List.getD_eq_getElem?_getD,List.getElem?_eq_getElem hi];rfl
 have h2:(c.map Int.natAbs)[j]?=some ((c.getD j 0).natAbs):=by rw[List.getElem?_map,List.getElem?_eq_getElem hj,List.getD_eq_getElem?_getD,List.getElem?_eq_getElem hj];rfl
 obtain⟨p1,q1⟩:=List.getElem?_eq_some_iff.mp h1
 obtain⟨p2,q2⟩:=List.getElem?_eq_some_iff.mp h2
 exact hij ((List.getElem_inj h).mp (q1.trans (e.trans q2.symm)))
section
variable {F:List (List Int)} {st:St} {wat:List (List Int)} {h:Nat}
theorem sat_perm{M:Nat→Bool}{c d:List Int}(p:c.Perm d)(s:Sat M d):Sat M c:=by
 refine oea s fun l h1 h2=>?_
 exact⟨l,p.mem_iff.mpr h1,h2⟩
theorem Re.updC(re:Re st){k:Nat}{c d:List Int}(hk:st.cls[k]?=some c)(p:d.Perm c):Re (st.updC k d):=by
 intro q l hl
 rcases re q l hl with z | ⟨j,e,z1,z2,z3,z4⟩
 ·exact .inl z
 ·by_cases hj:j=k
  ·subst hj
   rw[hk] at z2;cases z2
   exact .inr ⟨j,d,z1,Bz hk,p.mem_iff.mpr z3,fun m hm=>z4 m (p.mem_iff.mp hm)⟩
  ·refine .inr ⟨j,e,z1,?_,z3,z4⟩
   simp only[updC_cls]
   rw[List.getElem?_set_ne (Ne.symm hj)];exact z2
theorem Clz.updC(cz:Clz st){k:Nat}{c d:List Int}(hk:st.cls[k]?=some c)(p:d.Perm c):Clz (st.updC k d):=by
 intro x hx
 rcases List.mem_or_eq_of_mem_set hx with m | m
 ·exact cz x m
 ·subst m
  refine oa2 (cz c (List.mem_of_getElem? hk)) fun a b e=>?_
  exact⟨by rw[p.length_eq];exact a,fun l hl=>b l (p.mem_iff.mp hl),(p.map Int.natAbs).nodup_iff.mpr e⟩
theorem Sd.updC(sd:Sd F st){k:Nat}{c d:List Int}(hk:st.cls[k]?=some c)(p:d.Perm c):Sd F (st.updC k d):=by
 refine⟨fun M hM x hx=>?_,sd.tr,fun f hf=>?_⟩
 ·rcases List.mem_or_eq_of_mem_set hx with m | m
  ·exact sd.cl M hM x m
  ·subst m;exact sat_perm p (sd.cl M hM c (List.mem_of_getElem? hk))
 ·refine oea (sd.kp f hf) fun x hx hx2=>?_
  refine oe (List.getElem?_of_mem hx) fun j hj=>?_
  by_cases e:j=k
  ·subst e
   rw[hk] at hj;cases hj
   exact⟨d,List.mem_of_getElem? (Bz hk),fun l=>p.mem_iff.trans (hx2 l)⟩
  ·refine⟨x,List.mem_of_getElem? (i:=j) ?_,hx2⟩
   simp only[updC_cls]
   rw[List.getElem?_set_ne (Ne.symm e)];exact hj
theorem Wt.updC{cls:List (List Int)}(w:Wt cls wat){k:Nat}{c d:List Int}(hk:cls[k]?=some c)(p:(d.getD 0 0=c.getD 0 0∧d.getD 1 0=c.getD 1 0)∨(d.getD 0 0=c.getD 1 0∧d.getD 1 0=c.getD 0 0)):Wt (cls.set k d) wat:=by
 refine⟨fun s x=>(w.mem s x).trans ⟨?_,?_⟩,w.nd⟩
 ·rintro⟨j,e,rfl,h2,h3⟩
  by_cases hj:j=k
  ·subst hj
   rw[hk] at h2;cases h2
   refine⟨j,d,rfl,?_,?_⟩
   ·rw[List.getElem?_set_self (List.getElem?_eq_some_iff.mp hk).1]
   ·rcases p with ⟨p1,p2⟩ | ⟨p1,p2⟩
    ·rw[p1,p2];exact h3
    ·rw[p1,p2];exact h3.symm
  ·exact⟨j,e,rfl,by rw[List.getElem?_set_ne (Ne.symm hj)];exact h2,h3⟩
 ·rintro⟨j,e,rfl,h2,h3⟩
  rcases cls_get h2 with ⟨rfl,rfl⟩ | ⟨hj,h2⟩
  ·refine⟨j,c,rfl,hk,?_⟩
   rcases p with ⟨p1,p2⟩ | ⟨p1,p2⟩
   ·rw[p1,p2] at h3;exact h3
   ·rw[p1,p2] at h3;exact h3.symm
  ·exact⟨j,e,rfl,h2,h3⟩
theorem Clo.updC(cl:Clo st h){k:Nat}{c d:List Int}(hk:st.cls[k]?=some c)(p:(d.getD 0 0=c.getD 0 0∧d.getD 1 0=c.getD 1 0)∨(d.getD 0 0=c.getD 1 0∧d.getD 1 0=c.getD 0 0)):Clo (st.updC k d) h:=by
 intro j e he a b hp q hq ha
 rcases cls_get he with ⟨rfl,rfl⟩ | ⟨hj,h2⟩
 ·refine cl j c hk a b ?_ q hq ha
  rcases p with ⟨p1,p2⟩ | ⟨p1,p2⟩
  ·unfold Pair at hp ⊢;rw[p1,p2] at hp;exact hp
  ·unfold Pair at hp ⊢;rw[p1,p2] at hp;exact hp.symm
 ·exact cl j e h2 a b hp q hq ha
theorem Tr.fld{st':St}(t:Tr st)(h1:st'.fld=st.fld)(h2:st'.count=st.count):Tr st':=by
 have hv:∀l,st'.v l=st.v l:=fun l=>by unfold St.v;rw[h1]
 refine⟨fun l hl=>?_,?_,fun l hl=>?_,fun i hi=>?_,fun x hx=>?_,?_,fun p l hl=>?_⟩
 ·have:=t.lit l (by simpa[St.tr,h1] using hl);unfold Vl at this ⊢;rw[h2];exact this
 ·simpa[St.tr,h1] using t.nd
 ·rw[hv];exact t.val l (by simpa[St.tr,h1] using hl)
 ·rw[h1];exact t.off i (by simpa[St.tr,h1] using hi)
 ·simp only[St.lis,St.tr,h1] at hx ⊢;exact t.ls x hx
 ·simp only[St.lis,h1];exact t.lm
 ·have:=t.lv p l (by simpa[St.tr,h1] using hl)
  unfold lvl St.lev at this ⊢
  simp only[St.lis,h1] at this ⊢;exact this
theorem PI.updC(pi:PI F st wat h){k:Nat}{c d:List Int}(hk:st.cls[k]?=some c)(p:d.Perm c)(pp:(d.getD 0 0=c.getD 0 0∧d.getD 1 0=c.getD 1 0)∨(d.getD 0 0=c.getD 1 0∧d.getD 1 0=c.getD 0 0)):PI F (st.updC k d) wat h:=
 ⟨updC_wf pi.wf,pi.tr.fld rfl rfl,pi.re.updC hk p,pi.cz.updC hk p,pi.wt.updC hk pp,pi.clo.updC hk pp,pi.sd.updC hk p,pi.hl,pi.lh,pi.ph,by simpa using pi.nc,pi.le⟩
theorem Bo{w:List (List Int)}{s t:Nat}{r:List Int}(hs:s<w.length):(w.set s r).getD t []=if t=s then r else w.getD t []:=by
 by_cases e:t=s
 ·subst e;rw[List.getD_eq_getElem?_getD,List.getElem?_set_self hs,if_pos rfl];rfl
 ·rw[List.getD_eq_getElem?_getD,List.getElem?_set_ne (Ne.symm e),if_neg e,List.getD_eq_getElem?_getD]
theorem PI.move{kept rest:List Int}{k:Nat}{c:List Int}{f:Int}{j:Nat}(pi:PI F st (st.wat.set (Ag f).toNat (kept++(k:Int)::rest)) h)(hk:st.cls[k]?=some c)(hf:c.getD 1 0=f)(hj:2≤j)(hjl:j<c.length)
  (hh:h<st.tr.length) (hth:st.tr[h]?=some (-f)) (hnf:0≤st.v (c.getD j 0)) :
  PI F ((st.updC k ((c.set 1 (c.getD j 0)).set j f)).addW (Ag (c.getD j 0)).toNat k) (((st.updC k ((c.set 1 (c.getD j 0)).set j f)).addW (Ag (c.getD j 0)).toNat k).wat.set (Ag f).toNat (kept++rest)) h:=by
 have hc:=pi.cz c (List.mem_of_getElem? hk)
 refine oa2 hc fun hc1 hc2 hc3=>?_
 have hkk:=(List.getElem?_eq_some_iff.mp hk).1
 have f_in:f∈c:=hf▸Ay (by lia)
 have vf:=(hc2 f f_in).1
 have vg:=(hc2 _ (Ay hjl)).1
 have sf:=Bq vf
 have sg:=Bq vg
 have hwl:=pi.wf.wat
 have e0:((c.set 1 (c.getD j 0)).set j f).getD 0 0=c.getD 0 0:=by
  rw[List.getD_eq_getElem?_getD,List.getElem?_set_ne (by exact ar639 hj),List.getElem?_set_ne (by lia),← List.getD_eq_getElem?_getD]
 have e1:((c.set 1 (c.getD j 0)).set j f).getD 1 0=c.getD j 0:=by
  rw[List.getD_eq_getElem?_getD,List.getElem?_set_ne (by exact ar180 hj),List.getElem?_set_self (by lia)];rfl
 have perm:((c.set 1 (c.getD j 0)).set j f).Perm c:=by
  rw[← hf];exact perm_swap2 c 1 j (by exact ar13 hj) hjl
 have neg_f:(Ag (c.getD j 0)).toNat≠(Ag f).toNat:=fun e=>by
  have:=slot_inj vg vf e
  exact nodup_ne hc3 (i:=j) (j:=1) hjl (by lia) (by lia) (by rw[this,hf])
 have neg_0:(Ag (c.getD j 0)).toNat≠(Ag (c.getD 0 0)).toNat:=fun e=>by
  have:=slot_inj vg (hc2 (c.getD 0 0) (Ay (by lia))).1 e
  exact nodup_ne hc3 (i:=j) (j:=0) hjl (by lia) (by lia) (by rw[this])
 have ne0f':(Ag (c.getD 0 0)).toNat≠(Ag f).toNat:=fun e=>by
  have:=slot_inj (hc2 (c.getD 0 0) (Ay (by lia))).1 vf e
  exact nodup_ne hc3 (i:=0) (j:=1) (by lia) (by lia) (by lia) (by rw[this,hf])
 generalize hd:(c.set 1 (c.getD j 0)).set j f=d at e0 e1 perm ⊢
 generalize hg:c.getD j 0=g at *
 have fv1:st.v (-f)=1:=pi.tr.val _ (List.mem_of_getElem? hth)
 have fv:st.v f = -1:=by rw[v_neg st vf.1] at fv1;exact ar42 fv1
 have hws:(Ag f).toNat<st.wat.length:=by rw[hwl];exact sf.2.1
 have hwg:(Ag g).toNat<st.wat.length:=by rw[hwl];exact sg.2.1
 have rowB:∀s,(st.wat.set (Ag f).toNat (kept++(k:Int)::rest)).getD s []=if s=(Ag f).toNat then kept++(k:Int)::rest else st.wat.getD s []:=fun s=>Bo hws
 have rowA:∀s,(((st.updC k d).addW (Ag g).toNat k).wat.set (Ag f).toNat (kept++rest)).getD s []=if s=(Ag f).toNat then kept++rest else if s=(Ag g).toNat then st.wat.getD (Ag g).toNat []++[(k:Int)] else st.wat.getD s []:=fun s=>by
  rw[Bo (by rw[addW_len];exact hws)]
  show(if s=_ then _ else (st.wat.set (Ag g).toNat (st.wat.getD (Ag g).toNat []++[(k:Int)])).getD s [])=_
  rw[Bo hwg]
 have kin:∀s,(k:Int)∈(st.wat.set (Ag f).toNat (kept++(k:Int)::rest)).getD s []→s=(Ag (c.getD 0 0)).toNat∨s=(Ag f).toNat:=fun s hs=>by
  refine B3 ((pi.wt.mem s _).mp hs) fun k' e h1 h2 h3=>?_
  have:k=k':=by exact_mod_cast h1
  subst this
  rw[hk] at h2;cases h2
  rw[hf] at h3
  exact h3.imp Eq.symm Eq.symm
 have knot:(k:Int)∉st.wat.getD (Ag g).toNat []:=fun hm=>by
  have:=kin (Ag g).toNat (by rw[rowB,if_neg neg_f];exact hm)
  rcases this with q | q
  ·exact neg_0 q
  ·exact neg_f q
 have ndB:=pi.wt.nd (Ag f).toNat
 rw[rowB,if_pos rfl] at ndB
 have ndk:=List.perm_middle.nodup_iff.mp ndB
 rw[List.nodup_cons] at ndk
 refine⟨⟨pi.wf.cnt,pi.wf.len,by rw[addW_len];exact pi.wf.wat,pi.wf.tr,pi.wf.li⟩,pi.tr.fld rfl rfl,pi.re.updC hk perm,pi.cz.updC hk perm,⟨fun s x=>?_,fun s=>?_⟩,?_,⟨(pi.sd.updC hk perm).cl,(pi.sd.updC hk perm).tr,(pi.sd.updC hk perm).kp⟩,pi.hl,pi.lh,pi.ph,by simpa using pi.nc,pi.le⟩
 ·rw[rowA]
  have B:=pi.wt.mem s x
  rw[rowB] at B
  constructor
  ·intro hx
   split at hx
   ·rename_i es
    rw[if_pos es] at B
    have hxk:x≠k:=fun e=>ndk.1 (e▸hx)
    obtain⟨k',e,h1,h2,h3⟩:=B.mp (by
     rcases List.mem_append.mp hx with m | m
     ·exact List.mem_append_left _ m
     ·exact List.mem_append_right _ (List.mem_cons_of_mem _ m))
    refine⟨k',e,h1,?_,h3⟩
    have:k≠k':=fun q=>hxk (by rw[h1,q])
    show(st.cls.set k d)[k']?=some e
    rw[List.getElem?_set_ne this];exact h2
   ·rename_i es
    split at hx
    ·rename_i eg
     rw[if_neg es] at B
     rcases List.mem_append.mp hx with m | m
     ·have hxk:x≠k:=fun e=>knot (e▸m)
      refine B3 (B.mp (eg▸m)) fun k' e h1 h2 h3=>?_
      refine⟨k',e,h1,?_,h3⟩
      have:k≠k':=fun q=>hxk (by rw[h1,q])
      show(st.cls.set k d)[k']?=some e
      rw[List.getElem?_set_ne this];exact h2
     ·rw[List.mem_singleton] at m
      exact⟨k,d,m,Bz hk,.inr (by rw[e1,eg])⟩
    ·rename_i eg
     rw[if_neg es] at B
     refine B3 (B.mp hx) fun k' e h1 h2 h3=>?_
     by_cases hkk':k=k'
     ·subst hkk'
      rw[hk] at h2;cases h2
      rw[hf] at h3
      refine⟨k,d,h1,Bz hk,.inl ?_⟩
      rw[e0];exact h3.resolve_right (fun q=>es q.symm)
     ·refine⟨k',e,h1,?_,h3⟩
      show(st.cls.set k d)[k']?=some e
      rw[List.getElem?_set_ne hkk'];exact h2
  ·rintro⟨k',e,h1,h2,h3⟩
   rcases cls_get (h2:(st.cls.set k d)[k']?=some e) with ⟨rfl,rfl⟩ | ⟨hne,h2⟩
   ·rw[e0,e1] at h3
    subst h1
    rcases h3 with h3 | h3
    ·have es:s≠(Ag f).toNat:=fun q=>ne0f' (h3.trans q)
     have eg:s≠(Ag g).toNat:=fun q=>neg_0 (q.symm.trans h3.symm)
     rw[if_neg es,if_neg eg]
     rw[if_neg es] at B
     exact B.mpr ⟨k',c,rfl,hk,.inl h3⟩
    ·have es:s≠(Ag f).toNat:=fun q=>neg_f (h3.trans q)
     rw[if_neg es,if_pos h3.symm]
     simp
   ·have hx:=B.mpr ⟨k',e,h1,h2,h3⟩
    have hxk:x≠k:=fun q=>hne (by rw[h1] at q;exact_mod_cast q)
    split
    ·rename_i es
     rw[if_pos es] at hx
     rcases List.mem_append.mp hx with m | m
     ·exact List.mem_append_left _ m
     ·rcases List.mem_cons.mp m with m | m
      ·exact absurd m hxk
      ·exact List.mem_append_right _ m
    ·rename_i es
     rw[if_neg es] at hx
     split
     ·rename_i eg
      rw[eg] at hx
      exact List.mem_append_left _ hx
     ·exact hx
 ·rw[rowA]
  have B:=pi.wt.nd s
  rw[rowB] at B
  split
  ·exact ndk.2
  ·rename_i es
   rw[if_neg es] at B
   split
   ·rename_i eg
    rw[List.nodup_append]
    exact⟨eg▸B,by simp,fun a ha b hb e=>by simp at hb;subst hb;subst e;exact knot ha⟩
   ·exact B
 ·intro k' e he a b hp q hq ha
  rcases cls_get (he:(st.cls.set k d)[k']?=some e) with ⟨rfl,rfl⟩ | ⟨hne,h2⟩
  ·unfold Pair at hp
   rw[e0,e1] at hp
   rcases hp with ⟨rfl,rfl⟩ | ⟨rfl,rfl⟩
   ·refine oea (pi.clo k' c hk _ _ (.inl ⟨rfl,rfl⟩) q hq ha) fun q' h3 _=>?_
    have:=pi.tr.val _ (List.mem_of_getElem? h3)
    rw[hf,fv] at this;lia
   ·have:=pi.tr.val _ (List.mem_of_getElem? ha)
    rw[v_neg st vg.1] at this
    lia
  ·exact pi.clo k' e h2 a b hp q hq ha
end
end
section
structure Grow (st st':St):Prop where
 cnt:st'.count=st.count
 lis:st'.lis=st.lis
 ph:st'.fld .phases=st.fld .phases
 le:st'.learned=st.learned
 rf:st'.refuted=st.refuted
 fo:st'.found=st.found
 nc:st'.cls.length=st.cls.length
 sp:st'.step=st.step
 tr:∃e,st'.tr=st.tr++e
theorem Grow.refl(st:St):Grow st st:=⟨rfl,rfl,rfl,rfl,rfl,rfl,rfl,rfl,[],by simp⟩
theorem Grow.trans{a b c:St}(x:Grow a b)(y:Grow b c):Grow a c:=by
 refine oe x.tr fun e he=>?_
 refine oe y.tr fun d hd=>?_
 exact⟨y.cnt.trans x.cnt,y.lis.trans x.lis,y.ph.trans x.ph,y.le.trans x.le,y.rf.trans x.rf,y.fo.trans x.fo,y.nc.trans x.nc,y.sp.trans x.sp,e++d,by rw[hd,he,List.append_assoc]⟩
theorem Grow.get{a b:St}(x:Grow a b){p:Nat}{l:Int}(h:a.tr[p]?=some l):b.tr[p]?=some l:=by
 refine oe x.tr fun e he=>?_
 rw[he,List.getElem?_append_left (List.getElem?_eq_some_iff.mp h).1];exact h
theorem Grow.lev{a b:St}(x:Grow a b)(p:Nat):b.lev p=a.lev p:=by unfold St.lev;rw[x.lis]
theorem Grow.mem{a b:St}(x:Grow a b){l:Int}(h:l∈a.tr):l∈b.tr:=by
 refine oe x.tr fun e he=>?_
 rw[he];exact List.mem_append_left _ h
theorem grow_updC(st:St)(k:Nat)(c:List Int):Grow st (st.updC k c):=⟨rfl,rfl,rfl,rfl,rfl,rfl,by simp,rfl,[],(List.append_nil _).symm⟩
theorem grow_addW(st:St)(k:Nat)(c:Int):Grow st (st.addW k c):=⟨rfl,rfl,rfl,rfl,rfl,rfl,rfl,rfl,[],(List.append_nil _).symm⟩
theorem grow_updW(st:St)(k:Nat)(c:List Int):Grow st (st.updW k c):=⟨rfl,rfl,rfl,rfl,rfl,rfl,rfl,rfl,[],(List.append_nil _).symm⟩
theorem grow_assign(st:St)(l r:Int):Grow st (st.assign l r):=⟨rfl,by simp only[St.lis,Bh],as_phases ..,rfl,rfl,rfl,rfl,rfl,[l],by simp only[St.tr,Bb]⟩
section
variable {F:List (List Int)} {st:St} {wat:List (List Int)} {h:Nat}
theorem PI.short(pi:PI F st wat h):st.tr.length≤100:=Nat.le_trans pi.tr.len pi.wf.cnt
theorem PI.force(pi:PI F st wat h){k:Nat}{c:List Int}(hk:st.cls[k]?=some c){l:Int}(hl:l∈c)(h0:st.v l=0)(oth:∀m∈c,m≠l→st.v m<0):PI F (st.assign l k) wat h:=by
 have hs:=pi.short
 refine oa2 (pi.cz c (List.mem_of_getElem? hk)) fun hc1 hc2 hc3=>?_
 have vl:=(hc2 l hl).1
 have neg:∀m∈c,m≠l→-m∈st.tr:=fun m hm hne=>pi.tr.neg (hc2 m hm).1 (oth m hm hne)
 refine⟨assign_wf pi.wf (by simp only[St.tr] at hs;exact ar46 hs),pi.tr.assign pi.wf vl h0,pi.re.assign pi.tr pi.wf vl h0 (.inr ⟨k,c,rfl,hk,hl,neg⟩),pi.cz,pi.wt,pi.clo.assign pi.hl,⟨pi.sd.cl,fun M hM p m hm hp=>?_,pi.sd.kp⟩,?_,?_,?_,pi.nc,pi.le⟩
 ·rw[as_lev] at hp
  rcases as_get hm with q | ⟨rfl,rfl⟩
  ·exact pi.sd.tr M hM p m q hp
  ·rw[lev_top pi.tr (fun x hx=>by have:=(pi.tr.ls x hx).2;exact ar561 this)] at hp
   refine oea (pi.sd.cl M hM c (List.mem_of_getElem? hk)) fun y hy hyt=>?_
   by_cases hym:y=m
   ·exact hym▸hyt
   ·refine oe (List.getElem?_of_mem (neg y hy hym)) fun q hq=>?_
    have:=pi.sd.tr M hM q _ hq (by have:=lev_le (st:=st) (p:=q);exact ar562 hp this)
    rw[tv_neg M (hc2 y hy).1.1,hyt] at this
    cases this
 ·have:=pi.hl
  simp only[St.tr,Bb,List.length_append,List.length_singleton] at this ⊢
  exact ar57 this
 ·simp only[St.lis,Bh];exact pi.lh
 ·rw[as_phases];exact pi.ph
noncomputable def Kp(st:St)(f x:Int):Prop:=∃(k:Nat) (c:List Int),x=k∧st.cls[k]?=some c∧c.getD 1 0=f∧c.getD 0 0∈st.tr
theorem Kp.grow{a b:St}{f x:Int}(kp:Kp a f x)(g:Grow a b)(hc:∀k:Nat,x=k→b.cls[k]?=a.cls[k]?):Kp b f x:=by
 refine oe2 kp fun k c w0_=>?_;refine oa3 w0_ fun h1 h2 h3 h4=>?_;clear w0_
 exact⟨k,c,h1,by rw[hc k h1];exact h2,h3,g.mem h4⟩
theorem PI.next{kept:List Int}{f:Int}(pi:PI F st (st.wat.set (Ag f).toNat kept) h)(hth:st.tr[h]?=some (-f))(vf:Vl st f)(kp:∀x∈kept,Kp st f x):PI F (st.updW (Ag f).toNat kept) (st.updW (Ag f).toNat kept).wat (h+1):=by
 have hw:(Ag f).toNat<st.wat.length:=by rw[pi.wf.wat];exact(Bq vf).2.1
 have hlt:=(List.getElem?_eq_some_iff.mp hth).1
 refine⟨⟨pi.wf.cnt,pi.wf.len,by simpa using pi.wf.wat,pi.wf.tr,pi.wf.li⟩,pi.tr.fld rfl rfl,pi.re,pi.cz,pi.wt,fun k c hk a b hp q hq ha=>?_,⟨pi.sd.cl,pi.sd.tr,pi.sd.kp⟩,hlt,fun x hx=>?_,pi.ph,pi.nc,pi.le⟩
 ·have hk:st.cls[k]?=some c:=hk
  by_cases hqh:q=h
  ·subst hqh
   have haf:a=f:=by
    have ha:st.tr[q]?=some (-a):=ha
    simp only[hth] at ha
    have:=Option.some.inj ha
    lia
   subst haf
   have hin:(k:Int)∈kept:=by
    have:=(pi.wt.mem (Ag a).toNat (k:Int)).mpr ⟨k,c,rfl,hk,?_⟩
    ·rw[Bo hw,if_pos rfl] at this;exact this
    ·rcases hp with ⟨e,_⟩ | ⟨e,_⟩
     ·left;rw[e]
     ·right;rw[e]
   refine oe2 (kp _ hin) fun k' c' w0_=>?_;refine oa3 w0_ fun h1 h2 h3 h4=>?_;clear w0_
   have:k=k':=by exact_mod_cast h1
   subst this
   have hk0:st.cls[k]?=some c:=hk
   rw[hk0] at h2;cases h2
   refine oa2 (pi.cz c (List.mem_of_getElem? hk0)) fun hc1 hc2 hc3=>?_
   refine oe (List.getElem?_of_mem h4) fun q' hq'=>?_
   have hb:b=c.getD 0 0:=by
    rcases hp with ⟨e,e2⟩ | ⟨e,e2⟩
    ·exact absurd (by rw[h3,← e]) (nodup_ne hc3 (i:=0) (j:=1) (by exact ar5 hc1) (by exact ar13 hc1) (by exact ar564))
    ·exact e2
   refine⟨q',by rw[hb];exact hq',?_⟩
   show st.lev q'≤st.lev q
   simp only[lev_top pi.tr (p:=q) pi.lh]
   exact lev_le
  ·exact pi.clo k c hk a b hp q (by exact ar397 hq hqh) ha
 ·have:=pi.lh x hx
  exact ar640 this
end
end
section
theorem Bg(H:CH)(a:Addr)(x y:CO):(H.put a x).put a y=H.put a y:=by
 funext z
 unfold CH.put
 split <;> rfl
theorem row_len{cls wat:List (List Int)}(w:Wt cls wat)(s:Nat):(wat.getD s []).length≤cls.length:=by
 have h1:=w.nd s
 have h2:∀x∈wat.getD s [],x∈(List.range cls.length).map (fun(k:Nat)=>(k:Int)):=fun x hx=>by
  refine B3 ((w.mem s x).mp hx) fun k c e hk _=>?_
  exact List.mem_map.mpr ⟨k,List.mem_range.mpr (List.getElem?_eq_some_iff.mp hk).1,e.symm⟩
 have:=List.Nodup.length_le_of_subset h1 h2
 simpa using this
theorem PI.rows{F:List (List Int)}{st:St}{wat:List (List Int)}{h:Nat}(pi:PI F st wat h):∀l∈wat,l.length≤5000:=fun l hl=>by
 refine oe (List.getElem?_of_mem hl) fun s hs=>?_
 have:=row_len pi.wt s
 rw[List.getD_eq_getElem?_getD,hs] at this
 exact Nat.le_trans this pi.nc
theorem rows_real{w:List (List Int)}{s:Nat}{row v:List Int}(h:∀l∈w.set s v,l.length≤5000)(hr:w[s]?=some row)(hl:row.length≤5000):∀l∈w,l.length≤5000:=fun l hm=>by
 refine oe (List.getElem?_of_mem hm) fun t ht=>?_
 by_cases e:t=s
 ·subst e;rw[hr] at ht;cases ht;exact hl
 ·exact h l (List.mem_of_getElem? (i:=t) (by rw[List.getElem?_set_ne (Ne.symm e)];exact ht))
inductive PropJ (F:List (List Int)) (Fm:CH) (S:Ad) (st0:St) (h:Nat) (f:Int) (row:List Int) (kk:Addr) (i:Nat) (σ:CS):Prop where
 | mk (st1:St) (kept:List Int) (cf:Int) (x:CV) (H1:CH) (h0:σ=⟨[.ref S.self,.int f,.ref (S.r (.wa (Ag f).toNat)),.ref kk,.int cf,x],H1⟩) (h1:Sv (Fm.put kk (.list (kept.map .int))) H1 S st1) (h2:Grow st0 st1) (h3:st1.head=((h+1:Nat):Int)) (h4:st1.wat[(Ag f).toNat]?=some row) (h5:PI F st1 (st1.wat.set (Ag f).toNat (kept++row.drop i)) h) (h6:kept.length≤i) (h7:((cf = -1∧∀x∈kept,Kp st1 f x)∨(∃(k:Nat) (c:List Int),cf=k∧st1.cls[k]?=some c∧f∈c∧∀l∈c,st1.v l<0))) (h8:(f.natAbs=1→st1.tr=st0.tr∧cf = -1)):PropJ F Fm S st0 h f row kk i σ
section
variable {F:List (List Int)} {Fm H:CH} {S:Ad} {st st':St} {B:Base} {n:Nat} {Q:CV→CH→Prop}
theorem prop_turn(C:Cx B)(hn:4≤n){st0:St}{h:Nat}{f:Int}{row:List Int}{kk:Addr}{i:Nat}{σ:CS}{Q:CF→CS→Prop}(vf:Vl st0 f)(hth:st0.tr[h]?=some (-f))(hrow:row.length≤5000)
  {y:Int} (hy:row[i]?=some y) (hJ:PropJ F Fm S st0 h f row kk i σ) :
  WSs B fA n [.ite (.or [(.cmp .GtE (.var 4) (.int 0)),(.mth (.var 0) .sStill [(.var 5),(.var 1)])])
     [.expr (.bm (.var 3) .append [(.var 5)]),
      .ite (.and [(.cmp .Lt (.var 4) (.int 0)),(.mth (.var 0) .sForces [(.var 5)])])
       [.setv 4 (.var 5)]
       []]
     []] (σ.set 5 (.int y)) (Lp (PropJ F Fm S st0 h f row kk (i+1)) Q):=by
 obtain⟨st1,kept,cf,x,H1,z5_,h1,g1,hd1,hr1,pi,hkl,hcf,hone⟩:=hJ;subst z5_
 have hil:=(List.getElem?_eq_some_iff.mp hy).1
 have hdrop:row.drop i=y::row.drop (i+1):=by rw[List.drop_eq_getElem_cons hil];congr 1;exact(List.getElem?_eq_some_iff.mp hy).2
 have vf1:Vl st1 f:=⟨vf.1,by rw[g1.cnt];exact vf.2⟩
 have hth1:=g1.get hth
 have hkk:∀{K:List Int} {G:CH} {st:St},Sv (Fm.put kk (.list (K.map .int))) G S st→G kk=some (.list (K.map .int)):=fun hh=>hh.fr kk _ (CH.put_self ..)
 have hlim:kept.length<lim:=by rw[Ab];exact ar39 hrow hil hkl
 have app:kept++row.drop i=(kept++[y])++row.drop (i+1):=by rw[hdrop];simp
 rcases hcf with ⟨rfl,hkp⟩ | ⟨ck,cc,rfl,hc1,hc2,hc3⟩
 ·-- no conflict yet
  have wm:y∈(st1.wat.set (Ag f).toNat (kept++row.drop i)).getD (Ag f).toNat []:=by
   rw[Bo (List.getElem?_eq_some_iff.mp hr1).1,if_pos rfl,hdrop];simp
  refine B3 ((pi.wt.mem _ _).mp wm) fun k c z2_ hk hslot=>?_;subst z2_
  refine oa2 (pi.cz c (List.mem_of_getElem? hk)) fun hcl hcv hcn=>?_
  have hf01:c.getD 0 0=f∨c.getD 1 0=f:=hslot.imp (fun e=>slot_inj (hcv _ (Ay (by exact ar5 hcl))).1 vf1 e) (fun e=>slot_inj (hcv _ (Ay (by exact ar13 hcl))).1 vf1 e)
  have fin:f∈c:=by
   rcases hf01 with e | e
   ·rw[← e];exact Ay (by lia)
   ·rw[← e];exact Ay (by lia)
  have fne:f.natAbs≠1:=(hcv f fin).2
  have clen:c.length≤lim:=by
   have h1:(c.map Int.natAbs).length≤(List.range (st1.count+1)).length:=List.Nodup.length_le_of_subset hcn fun z hz=>by
    refine oea (List.mem_map.mp hz) fun l hl z2_=>?_;subst z2_
    have:=(hcv l hl).1.2
    exact List.mem_range.mpr (by exact ar40 this)
   have:=pi.wf.cnt
   simp at h1;rw[Ab];lia
  have sp:=swp_perm (f:=f) hcl
  have s1:=swp_one hcl hf01
  have spp:=swp_pair (f:=f) hcl
  have pi2:=pi.updC hk sp spp
  have hknot:(k:Int)∉kept:=fun hm=>by
   have:=pi.wt.nd (Ag f).toNat
   rw[Bo (List.getElem?_eq_some_iff.mp hr1).1,if_pos rfl,hdrop,List.nodup_append] at this
   exact this.2.2 _ hm _ List.mem_cons_self rfl
  have fv1:st1.v f = -1:=by
   have:=pi.tr.val _ (List.mem_of_getElem? hth1)
   rw[v_neg st1 vf1.1] at this;exact ar42 this
  have hrows:=rows_real pi.rows hr1 hrow
  have stay:∀H2,Sv (Fm.put kk (.list (kept.map .int))) H2 S (st1.updC k (swp c f))→(st1.v ((swp c f).getD 0 0)=1∨∀j,2≤j→j<c.length→st1.v ((swp c f).getD j 0)<0)→
    WSs B fA n [.expr (.bm (.var 3) .append [(.var 5)]),.ite (.and [(.cmp .Lt (.var 4) (.int 0)),(.mth (.var 0) .sForces [(.var 5)])]) [.setv 4 (.var 5)] []]
     ⟨[.ref S.self,.int f,.ref (S.r (.wa (Ag f).toNat)),.ref kk,.int (-1),.int k],H2⟩ (Sq B fA n [] (Lp (PropJ F Fm S st0 h f row kk (i+1)) Q)):=by
   intro H2 h2 hcase
   refine wsc ?_
   dsimp[-Aa]
   refine⟨okA (hkk h2),?_⟩
   rw[apL (hkk h2) hlim,Ac,Bk]
   have h3:=h2.side (.list ((kept++[(k:Int)]).map .int)) (a:=kk) (CH.put_self ..)
   rw[Bg] at h3
   generalize CH.put H2 kk _=H3 at h3 ⊢
   have gk:=Bz (d:=swp c f) hk
   have g2:=g1.trans (grow_updC st1 k (swp c f))
   have hsl:(swp c f).length=c.length:=swp_len c f
   have v0:=(hcv _ (sp.mem_iff.mp (Ay (c:=swp c f) (j:=0) (by exact ar43 hcl hsl)))).1
   have kpk:∀st2:St,Grow (st1.updC k (swp c f)) st2→st2.cls=(st1.updC k (swp c f)).cls→(swp c f).getD 0 0∈st2.tr→∀z∈kept++[(k:Int)],Kp st2 f z:=by
    intro st2 gg hcls hmem z hz
    rcases List.mem_append.mp hz with m | m
    ·refine Kp.grow (hkp z m) ((grow_updC st1 k (swp c f)).trans gg) fun k' hk'=>?_
     rw[hcls]
     have:k≠k':=fun e=>hknot (by rw[e,← hk'];exact m)
     simp only[updC_cls]
     rw[List.getElem?_set_ne this]
    ·rw[List.mem_singleton] at m
     exact⟨k,swp c f,m,by rw[hcls];exact gk,s1,hmem⟩
   refine wsc ?_
   dsimp[-Aa]
   simp[-Aa]
   refine⟨h3.obj,?_⟩
   refine ft_forces C (by exact ar44 hn) h3 (updC_wf pi.wf) gk (by simp;have:=pi.nc;rw[Ab];exact ar45 this) (by lia) (by exact ar38 hsl clen) v0.2 (by have:=pi.short;simp only[St.tr] at this;simp;exact ar46 this) (fun hz H4 h4=>?_) (fun hz=>?_)
   ·-- forced
    have hz:st1.v ((swp c f).getD 0 0)=0:=hz
    have hoth:∀m∈swp c f,m≠(swp c f).getD 0 0→(st1.updC k (swp c f)).v m<0:=by
     intro m hm hne
     obtain⟨j,hj,rfl⟩:=List.getElem_of_mem hm
     have ej:(swp c f).getD j 0=(swp c f)[j]:=by rw[List.getD_eq_getElem?_getD,List.getElem?_eq_getElem hj];rfl
     rw[← ej] at hne ⊢
     match j,hj with
     | 0,_=>exact absurd rfl hne
     | 1,_=>rw[s1];show st1.v f<0;exact ar47 fv1
     | j+2,hj=>exact(hcase.resolve_left (by exact ar48 hz)) (j+2) (by exact ar49) (by lia)
    have pi3:=pi2.force gk (Ay (by lia)) hz hoth
    have vone:(((st1.updC k (swp c f)).assign ((swp c f).getD 0 0) k).v ((swp c f).getD 0 0))=1:=as_v_self (updC_wf pi.wf) v0
    rw[vone]
    have g3:=g2.trans (grow_assign (st1.updC k (swp c f)) ((swp c f).getD 0 0) k)
    dsimp
    simp
    refine⟨_,kept++[(k:Int)],-1,_,_,rfl,h4,g3,hd1,hr1,?_,by simp;exact ar51 hkl,.inl ⟨rfl,kpk _ (grow_assign ..) rfl (List.mem_of_getElem? as_new)⟩,fun e=>absurd e fne⟩
    have:=pi3
    rw[app] at this
    exact this
   ·have hz:st1.v ((swp c f).getD 0 0)≠0:=hz
    rw[fin_bool]
    show Br (.bool (decide (st1.v ((swp c f).getD 0 0)<0))) _ _
    rw[B4]
    have pi3:=pi2
    rw[app] at pi3
    split
    ·rename_i hlt
     dsimp
     refine⟨_,kept++[(k:Int)],k,_,_,rfl,h3,g2,hd1,hr1,pi3,by simp;lia,.inr ⟨k,swp c f,rfl,gk,sp.mem_iff.mpr fin,fun m hm=>?_⟩,fun e=>absurd e fne⟩
     obtain⟨j,hj,rfl⟩:=List.getElem_of_mem hm
     have ej:(swp c f).getD j 0=(swp c f)[j]:=by rw[List.getD_eq_getElem?_getD,List.getElem?_eq_getElem hj];rfl
     rw[← ej]
     match j,hj with
     | 0,_=>exact hlt
     | 1,_=>rw[s1];show st1.v f<0;lia
     | j+2,hj=>exact(hcase.resolve_left (by exact ar52 hlt)) (j+2) (by lia) (by lia)
    ·rename_i hge
     have v1:st1.v ((swp c f).getD 0 0)=1:=by
      rcases pi.tr.tri v0 with e | e | e <;> (first | exact ar53 e | exact ar54 e hz | exact ar55 e hge | lia)
     exact⟨_,kept++[(k:Int)],-1,_,_,rfl,h3,g2,hd1,hr1,pi3,by simp;lia,.inl ⟨rfl,kpk _ (Grow.refl _) rfl (pi.tr.one v0 v1)⟩,fun e=>absurd e fne⟩
  refine wsc ?_
  dsimp[-Aa]
  simp[-Aa]
  refine⟨h1.obj,?_⟩
  refine ft_still C (by lia) h1 pi.wf hk (by have:=pi.nc;rw[Ab];lia) hcl clen (fun l hl=>(hcv l (sp.mem_iff.mp hl)).1) (fun l hl=>by have:=hrows l hl;rw[Ab];exact ar56 this) (fun hv H2 h2=>?_) (fun hv hoth H2 h2=>?_) (fun hv j hj hjl hge H2 h2=>?_)
  ·dsimp[-Aa]
   exact stay H2 h2 (.inl hv)
  ·dsimp[-Aa]
   exact stay H2 h2 (.inr hoth)
  ·dsimp
   have pj:=pi2
   rw[hdrop] at pj
   have gk:=Bz (d:=swp c f) hk
   have ej:=PI.move (j:=j) (rest:=row.drop (i+1)) pj gk s1 hj (by simpa using hjl) (List.getElem?_eq_some_iff.mp hth1).1 hth1 hge
   rw[updC_updC] at ej
   have gg:=(grow_updC st1 k (((swp c f).set 1 ((swp c f).getD j 0)).set j f)).trans (grow_addW _ (Ag ((swp c f).getD j 0)).toNat k)
   refine⟨_,kept,-1,_,_,rfl,h2,g1.trans gg,hd1,?_,ej,by exact ar57 hkl,.inl ⟨rfl,fun z hz=>Kp.grow (hkp z hz) gg fun k' hk'=>?_⟩,fun e=>absurd e fne⟩
   ·have ne:(Ag ((swp c f).getD j 0)).toNat≠(Ag f).toNat:=fun e=>by
     have:=slot_inj (hcv _ (sp.mem_iff.mp (Ay (c:=swp c f) (j:=j) (by simpa using hjl)))).1 vf1 e
     rw[this] at hge
     have:st1.v f = -1:=fv1
     exact ar58 hge fv1
    show(st1.wat.set _ _)[_]?=_
    rw[List.getElem?_set_ne ne];exact hr1
   ·have:k≠k':=fun e=>hknot (by rw[e,← hk'];exact hz)
    show(st1.cls.set k _)[k']?=_
    rw[List.getElem?_set_ne this]
 ·refine wsc ?_
  dsimp
  simp
  refine⟨okA (hkk h1),?_⟩
  rw[apL (hkk h1) hlim,Ac,Bk]
  have h3:=h1.side (.list ((kept++[y]).map .int)) (a:=kk) (CH.put_self ..)
  rw[Bg] at h3
  simp
  have pi3:=pi
  rw[app] at pi3
  have:¬ ((ck:Int)<0):=by exact ar59
  simp[this]
  exact⟨st1,kept++[y],ck,_,_,rfl,by simpa using h3,g1,hd1,hr1,pi3,by simp;lia,.inr ⟨ck,cc,rfl,hc1,hc2,hc3⟩,hone⟩
end
end
section
section
variable {F:List (List Int)} {Fm H:CH} {S:Ad} {st st':St} {B:Base} {n:Nat} {Q:CV→CH→Prop}
theorem Sv.putRow(h:Sv Fm H S st){a:Addr}{l:List Int}(ha:Fm a=some (.list (l.map .int))){k:Nat}(hk:k<st.wat.length):
  Sv (Fm.del a) (H.put (S.r .ws) (.list (((List.range st.wat.length).map fun j=>CV.ref (S.r (.wa j))).set k (.ref a)))) (S.upd (.wa k) a) (st.updW k l):=by
 refine h.adoptR ha (by simp) ⟨_,rfl⟩ rfl (fun r' h1 h2=>?_) ?_ ?_
 ·induction r' using SR.casesOn with
  | wa j=>
   have:j≠k:=fun e=>h1 (by rw[e])
   simp[cont,List.getElem?_set_ne (Ne.symm this)]
  | cs=>simp[cont,Ad.upd]
  | _=>first | rfl | exact absurd rfl h2
 ·simp[cont,hk]
 ·simp only[cont,updW_wat,List.length_set]
  congr 2
  apply List.ext_getElem?
  intro i
  rw[List.getElem?_set]
  by_cases hi:k=i
  ·subst hi
   simp[hk]
  ·rw[if_neg hi,List.getElem?_map,List.getElem?_map]
   by_cases hin:i<st.wat.length
   ·rw[List.getElem?_range hin]
    simp only[Option.map_some]
    rw[adupd_ne]
    intro e;cases e;exact hi rfl
   ·rw[List.getElem?_eq_none (by simp;exact ar60 hin)];rfl
noncomputable def COnly(st:St)(h:Nat):Prop:=∀p l,h≤p→st.tr[p]?=some l→l.natAbs=1
structure PropA (F:List (List Int)) (st0 st:St):Prop where
 grow:Grow st0 st
 pi:PI F st st.wat st.tr.length
 hd:st.head=st.tr.length
structure PropB (F:List (List Int)) (st0 st:St) (h0 k:Nat):Prop where
 grow:Grow st0 st
 pi:∃h,h0≤h∧PI F st st.wat h∧∃c f,st.cls[k]?=some c∧f∈c∧st.tr[h]?=some (-f)∧∀l∈c,st.v l<0
theorem ft_propagate(C:Cx B)(hn:5≤n)(h:Sv Fm H S st){h0:Nat}(pi:PI F st st.wat h0)(hh:st.head=h0)
  (qA:∀H' S' st',S'.self=S.self→Sv Fm H' S' st'→PropA F st st'→(COnly st h0→st'.tr=st.tr)→Q (.int (-1)) H')
  (qB:∀H' S' st' k,S'.self=S.self→Sv Fm H' S' st'→PropB F st st' h0 k→¬ COnly st h0→Q (.int (k:Nat)) H'):FT B fA n .sPropagate [.ref S.self] H Q:=by
 refine C.call (by exact ar61 hn) rfl ?_
 refine wsc ?_
 obtain⟨I,hI⟩:∃I:Nat→CS→Prop,∀m σ,I m σ↔(∃(st1:St) (S1:Ad) (H1:CH) (h1:Nat) (x1 x2 x3 x4 x5:CV),σ=⟨[.ref S.self,x1,x2,x3,x4,x5],H1⟩∧S1.self=S.self∧Sv Fm H1 S1 st1∧Grow st st1∧st1.head=h1∧PI F st1 st1.wat h1∧h0≤h1∧
  m=st.count-h1∧(COnly st h0→st1.tr=st.tr)):=⟨_,fun _ _=>Iff.rfl⟩
 refine ws_whl I (st.count-h0) ((hI _ _).mpr ⟨st,S,H,h0,_,_,_,_,_,rfl,rfl,h,Grow.refl _,hh,pi,Nat.le_refl _,rfl,fun _=>rfl⟩) ?_
 intro m σ hi
 refine oe9 ((hI _ _).mp hi) fun st1 S1 H1 h1 x1 x2 x3 x4 x5 w0_=>?_;refine oa8 w0_ fun z9_ hs1 sv1 g1 hd1 pi1 hle z16_ hco=>?_;clear w0_;subst z9_;subst z16_
 have at1:=sv1.attrs
 rw[hs1] at at1
 have hshort:=pi1.short
 have hlen:(st1.fld .trail).length≤lim:=by simp only[St.tr] at hshort;rw[Ab];exact ar62 hshort
 simp only[WE_e11,WE_e5,WE_e3,WE_e18,get_mk,Aj,at1,has_clauses,has_watches,so_clauses,so_watches,Ac]
 dsimp[-Aa]
 repeat ((first | refine oat at1 rfl ?_);try dsimp[-Aa])
 rw[lenL (sv1.getI .trail) (by simpa using hlen)]
 dsimp[-Aa]
 simp[-Aa]
 have hheadr:st1.head=(h1:Int):=hd1
 split
 ·rename_i hlt
  rw[hheadr] at hlt
  have hlt:h1<st1.tr.length:=by simp only[St.tr];exact ar63 hlt
  have hget:st1.tr[h1]?=some st1.tr[h1]:=List.getElem?_eq_getElem hlt
  have hgetD:(st1.fld .trail).getD h1 0=st1.tr[h1]:=by
   rw[List.getD_eq_getElem?_getD];simp only[St.tr] at hget;rw[hget];rfl
  have vt:=pi1.tr.lit _ (List.getElem_mem hlt)
  obtain⟨f,hf⟩:∃f,f = -(st1.tr[h1]):=⟨_,rfl⟩
  have hth:st1.tr[h1]?=some (-f):=by rw[hf,Int.neg_neg];exact hget
  have vf:Vl st1 f:=by rw[hf];exact⟨by have:=vt.1;exact ar64 this,by have:=vt.2;exact ar65 this⟩
  have sr:=Bq vf
  have hwl:=pi1.wf.wat
  have hslot:(Ag f).toNat<st1.wat.length:=by rw[hwl];exact sr.2.1
  have hwlim:st1.wat.length≤lim:=by rw[hwl];have:=pi1.wf.cnt;rw[Ab];exact ar15 this
  generalize hK:Lp _ _=K
  refine wsc ?_
  dsimp[-Aa]
  repeat ((first | refine oat at1 rfl ?_);try dsimp[-Aa])
  rw[hheadr]
  rw[rdL (sv1.getI .trail) (k:=(h1:Int)) (by exact ar2) (by simp only[St.tr] at hlt;exact ar66 (by assumption)) hlen,Ac]
  rw[show((h1:Int).toNat)=h1 by simp,hgetD]
  simp only[neg_int,Ac,Aj,← hf,Al]
  refine wsc ?_
  dsimp[-Aa]
  repeat ((first | refine oat at1 rfl ?_);try dsimp[-Aa])
  rw[hheadr,← hs1]
  refine sv1.setScalar (a:=.head) (v:=.int ((h1:Int)+1)) (st':={ st1 with head:=((h1+1:Nat):Int) }) rfl (by simp) (fun r'=>by induction r' using SR.casesOn <;> rfl) (by funext y;induction y using At.casesOn <;> first | rfl | simp) fun H2 sv2=>?_
  have at2:=sv2.attrs
  rw[hs1] at at2 ⊢
  have pi2:PI F { st1 with head:=((h1+1:Nat):Int) } st1.wat h1:=⟨⟨pi1.wf.cnt,pi1.wf.len,pi1.wf.wat,pi1.wf.tr,pi1.wf.li⟩,pi1.tr.fld rfl rfl,pi1.re,pi1.cz,pi1.wt,pi1.clo,⟨pi1.sd.cl,pi1.sd.tr,pi1.sd.kp⟩,pi1.hl,pi1.lh,pi1.ph,pi1.nc,pi1.le⟩
  have g2:Grow st { st1 with head:=((h1+1:Nat):Int) }:=⟨g1.cnt,g1.lis,g1.ph,g1.le,g1.rf,g1.fo,g1.nc,g1.sp,g1.tr⟩
  generalize hst2:({ st1 with head:=((h1+1:Nat):Int) }:St)=st2 at *
  have e_tr:st2.tr=st1.tr:=by rw[← hst2]
  have e_wat:st2.wat=st1.wat:=by rw[← hst2]
  have e_cnt:st2.count=st1.count:=by rw[← hst2]
  have e_hd:st2.head=((h1+1:Nat):Int):=by rw[← hst2]
  have vf2:Vl st2 f:=⟨vf.1,by rw[e_cnt];exact vf.2⟩
  have hth2:st2.tr[h1]?=some (-f):=by rw[e_tr];exact hth
  rw[← e_wat] at pi2 hslot hwlim
  first | rw[Al,Aa] | refine wsc ?_
  dsimp[-Aa]
  repeat ((first | refine oat at2 rfl ?_);try dsimp[-Aa])
  refine ft_slot C (by exact ar67 hn) ?_
  refine sv2.rW sr.1 hslot hwlim ?_
  first | rw[Al,Aa] | refine wsc ?_
  dsimp[-Aa]
  simp[-Aa]
  intro kk hkk
  have sv3:=sv2.alloc (.list []) hkk
  have hfk:=Az sv2 hkk
  rw[Aj];first | rw[Al,Aa] | refine wsc ?_
  dsimp[-Aa]
  refine wsc ?_
  dsimp[-Aa]
  obtain⟨row,hrow⟩:∃row,st2.wat[(Ag f).toNat]?=some row:=⟨_,List.getElem?_eq_getElem hslot⟩
  have hrl:row.length≤5000:=pi2.rows row (List.mem_of_getElem? hrow)
  have hsame:st2.wat.set (Ag f).toNat row=st2.wat:=by
   have:=(List.getElem?_eq_some_iff.mp hrow).2
   rw[← this];exact List.set_getElem_self hslot
  refine Bp (items:=row.map .int) (sv3.getW hrow) (by simp;rw[Ab];exact ar45 hrl) (PropJ F Fm S1 st2 h1 f row kk) ?_ ?_ ?_
  ·refine⟨st2,[],-1,x5,_,by rw[hs1],sv3,Grow.refl _,e_hd,hrow,?_,Nat.le_refl _,.inl ⟨rfl,fun z hz=>nomatch hz⟩,fun _=>⟨rfl,rfl⟩⟩
   simp only[List.drop_zero,List.nil_append]
   rw[hsame];exact pi2
  ·intro i y σ₂ hy hJ
   rw[List.getElem?_map,Option.map_eq_some_iff] at hy
   refine oea hy fun y' hy' z2_=>?_;subst z2_
   refine⟨?_,prop_turn C (by exact ar68 hn) vf2 hth2 hrl hy' hJ⟩
   obtain⟨st3,kept,cf,x,H3,z5_,h3,g3,_,hr3,_⟩:=hJ;subst z5_
   exact h3.getW hr3
  ·intro σ₂ hJ
   obtain⟨st3,kept,cf,x,H3,z5_,h3,g3,hd3,hr3,pi3,hkl,hcf,hone⟩:=hJ;subst z5_
   refine⟨h3.getW hr3,?_⟩
   simp only[List.length_map,List.drop_length,List.append_nil] at pi3 hkl
   have hs3:(Ag f).toNat<st3.wat.length:=(List.getElem?_eq_some_iff.mp hr3).1
   have vf3:Vl st3 f:=⟨vf2.1,by rw[g3.cnt];exact vf2.2⟩
   have at3:=h3.attrs
   rw[hs1] at at3 ⊢
   first | rw[Al,Aa] | refine wsc ?_
   dsimp[-Aa]
   repeat ((first | refine oat at3 rfl ?_);try dsimp[-Aa])
   refine ft_slot C (by exact ar67 hn) ?_
   have hws:=h3.mem .ws _ rfl
   have set_ok:setI H3 (.ref (S1.r .ws)) (.int (Ag f)) (.ref kk)=some (H3.put (S1.r .ws) (.list (((List.range st3.wat.length).map fun j=>CV.ref (S1.r (.wa j))).set (Ag f).toNat (.ref kk)))):=by
    simp only[setI,setI_e,tp_tup,Ae,Af,Option.bind_some,hws]
    rw[idx_of sr.1 (by simpa using hs3) (by simp;rw[pi3.wf.wat];have:=pi3.wf.cnt;rw[Ab];lia)]
    rfl
   rw[set_ok,Ac]
   have sv4:=h3.putRow (a:=kk) (l:=kept) (CH.put_self ..) hs3
   rw[CH.del_put hfk] at sv4
   generalize CH.put H3 (S1.r .ws) _=H4 at sv4 ⊢
   have g4:=(g2.trans g3).trans (grow_updW st3 (Ag f).toNat kept)
   have tr4:(st3.updW (Ag f).toNat kept).tr=st3.tr:=rfl
   first | rw[Al,Aa] | refine wsc ?_
   dsimp[-Aa]
   simp[-Aa]
   rcases hcf with ⟨rfl,hkp⟩ | ⟨k,c,rfl,hc1,hc2,hc3⟩
   ·dsimp
    rw[← hK]
    dsimp
    have pn:=pi3.next (g3.get hth2) vf3 hkp
    have hm:st.count-(h1+1)<st.count-h1:=by
     have:=pi1.tr.len
     rw[g1.cnt] at this
     lia
    refine⟨_,hm,(hI _ _).mpr ⟨_,S1.upd (.wa (Ag f).toNat) kk,H4,h1+1,_,_,_,_,_,rfl,by simpa using hs1,sv4,g4,hd3,pn,by exact ar57 hle,rfl,fun hc=>?_⟩⟩
    rw[tr4,(hone ?_).1,e_tr,hco hc]
    have:=hc h1 (st1.tr[h1]) hle (by rw[← hco hc];exact hget)
    rw[hf];exact ar70 this
   ·dsimp
    rw[← hK]
    dsimp
    refine qB H4 (S1.upd (.wa (Ag f).toNat) kk) _ k (by simpa using hs1) sv4 ⟨g4,h1,hle,?_,c,f,hc1,hc2,g3.get hth2,hc3⟩ (fun hc=>?_)
    ·refine⟨⟨pi3.wf.cnt,pi3.wf.len,by simpa using pi3.wf.wat,pi3.wf.tr,pi3.wf.li⟩,pi3.tr.fld rfl rfl,pi3.re,pi3.cz,pi3.wt,pi3.clo,⟨pi3.sd.cl,pi3.sd.tr,pi3.sd.kp⟩,pi3.hl,pi3.lh,pi3.ph,pi3.nc,pi3.le⟩
    ·have h1':=hc h1 (st1.tr[h1]) hle (by rw[← hco hc];exact hget)
     have:=(hone (by rw[hf];exact ar70 h1')).2
     lia
 ·rename_i hge
  rw[hheadr] at hge
  have he:h1=st1.tr.length:=by have:=pi1.hl;simp only[St.tr] at this ⊢;exact ar72 this hge
  subst he
  refine wsc ?_
  dsimp
  exact qA H1 S1 st1 hs1 sv1 ⟨g1,pi1,hd1⟩ hco
end
end
section
noncomputable def Opn(st:St)(sb:List Bool)(q:Nat):Bool:=(Decidable.decide (st.lev q=st.lis.length))&&sb.getD (st.tr.getD q 0).natAbs false
noncomputable def ocn(st:St)(sb:List Bool)(P:Nat):Nat:=(List.range P).countP (Opn st sb)
structure AI (st:St) (sb:List Bool) (r:List Int):Prop where
 sl:sb.length=st.count+1
 s1:∀v,sb.getD v false=true→v≠1∧∃q l,st.tr[q]?=some l∧l.natAbs=v∧0<st.lev q
 r1:∀m∈r,∃q,st.tr[q]?=some (-m)∧0<st.lev q∧st.lev q<st.lis.length∧sb.getD m.natAbs false=true
 r2:∀q l,st.tr[q]?=some l→0<st.lev q→st.lev q<st.lis.length→sb.getD l.natAbs false=true→-l∈r
 rn:(r.map Int.natAbs).Nodup
 rv:∀m∈r,Vl st m∧m.natAbs≠1
theorem countP_flip{α:Type}[DecidableEq α]{a:α}{p q:α→Bool}(hp:p a=false)(hq:q a=true)(h:∀x,x≠a→p x=q x):∀l:List α,l.Nodup→a∈l→l.countP q=l.countP p+1:=by
 intro l
 induction l with
 | nil=>intro _ h;cases h
 | cons b l ih=>
  intro hnd hm
  rw[List.nodup_cons] at hnd
  rw[List.countP_cons,List.countP_cons]
  rcases List.mem_cons.mp hm with rfl | hm
  ·have:l.countP p=l.countP q:=by
    apply List.countP_congr
    intro x hx
    rw[h x (fun e=>hnd.1 (e▸hx))]
   rw[hp,hq,this];simp
  ·have hb:b≠a:=fun e=>hnd.1 (e▸hm)
   have:=ih hnd.2 hm
   rw[h b hb];lia
section
variable {st:St} {sb:List Bool} {r:List Int}
theorem tr_inj(t:Tr st){p q:Nat}{a b:Int}(h1:st.tr[p]?=some a)(h2:st.tr[q]?=some b)(e:a.natAbs=b.natAbs):p=q:=by
 have e1:(st.tr.map Int.natAbs)[p]?=some a.natAbs:=by rw[List.getElem?_map,h1];rfl
 have e2:(st.tr.map Int.natAbs)[q]?=some b.natAbs:=by rw[List.getElem?_map,h2];rfl
 obtain⟨p1,q1⟩:=List.getElem?_eq_some_iff.mp e1
 obtain⟨p2,q2⟩:=List.getElem?_eq_some_iff.mp e2
 exact(List.getElem_inj t.nd).mp (q1.trans (e.trans q2.symm))
theorem getDt{q:Nat}{l:Int}(h:st.tr[q]?=some l):st.tr.getD q 0=l:=by rw[List.getD_eq_getElem?_getD,h];rfl
theorem B0{v w:Nat}(hv:v<sb.length):(sb.set v true).getD w false=if w=v then true else sb.getD w false:=by
 by_cases e:w=v
 ·subst e;rw[List.getD_eq_getElem?_getD,List.getElem?_set_self hv,if_pos rfl];rfl
 ·rw[List.getD_eq_getElem?_getD,List.getElem?_set_ne (Ne.symm e),if_neg e,List.getD_eq_getElem?_getD]
theorem AI.see(t:Tr st)(a:AI st sb r){m:Int}{q P:Nat}(vm:Vl st m)(m1:m.natAbs≠1)(hq:st.tr[q]?=some (-m))(hqP:q<P)(h0:0<st.lev q)(hs:sb.getD m.natAbs false=false):
  (st.lev q=st.lis.length→AI st (sb.set m.natAbs true) r∧ocn st (sb.set m.natAbs true) P=ocn st sb P+1)∧
  (st.lev q≠st.lis.length→AI st (sb.set m.natAbs true) (r++[m])∧ocn st (sb.set m.natAbs true) P=ocn st sb P):=by
 have hv:m.natAbs<sb.length:=by rw[a.sl];have:=vm.2;exact ar40 this
 have s1':∀v,(sb.set m.natAbs true).getD v false=true→v≠1∧∃q l,st.tr[q]?=some l∧l.natAbs=v∧0<st.lev q:=fun v hv'=>by
  rw[B0 hv] at hv'
  split at hv'
  ·rename_i e;exact⟨by rw[e];exact m1,q,-m,hq,by rw[e];simp,h0⟩
  ·exact a.s1 v hv'
 have keep:∀w,sb.getD w false=true→(sb.set m.natAbs true).getD w false=true:=fun w hw=>by
  rw[B0 hv];split
  ·rfl
  ·exact hw
 have opn:∀x,x≠q→x<st.tr.length→Opn st sb x=Opn st (sb.set m.natAbs true) x:=fun x hx hxl=>by
  unfold Opn
  rw[B0 hv]
  have hg:st.tr[x]?=some st.tr[x]:=List.getElem?_eq_getElem hxl
  rw[getDt hg,if_neg]
  intro e
  exact hx (tr_inj t hg hq (by rw[e];simp))
 have opn':∀x,x≠q→¬ x<st.tr.length→Opn st sb x=Opn st (sb.set m.natAbs true) x:=fun x hx hxl=>by
  unfold Opn
  rw[B0 hv]
  have hg:st.tr.getD x 0=0:=by rw[List.getD_eq_getElem?_getD,List.getElem?_eq_none (by exact ar60 hxl)];rfl
  rw[hg,if_neg]
  intro e
  have:=vm.1
  simp at e;exact ar641 e this
 have opq:∀x,x≠q→Opn st sb x=Opn st (sb.set m.natAbs true) x:=fun x hx=>by
  by_cases hxl:x<st.tr.length
  ·exact opn x hx hxl
  ·exact opn' x hx hxl
 refine⟨fun hL=>⟨⟨by simpa using a.sl,s1',fun y hy=>?_,fun q' l hl h1 h2 hsb=>?_,a.rn,a.rv⟩,?_⟩,fun hL=>⟨⟨by simpa using a.sl,s1',fun y hy=>?_,fun q' l hl h1 h2 hsb=>?_,?_,fun y hy=>?_⟩,?_⟩⟩
 ·refine oea3 (a.r1 y hy) fun q' e1 e2 e3 e4=>?_
  exact⟨q',e1,e2,e3,keep _ e4⟩
 ·rw[B0 hv] at hsb
  split at hsb
  ·rename_i e
   have:=tr_inj t hl hq (by rw[e];simp)
   subst this;lia
  ·exact a.r2 q' l hl h1 h2 hsb
 ·unfold ocn
  refine countP_flip (a:=q) ?_ ?_ opq _ List.nodup_range (List.mem_range.mpr hqP)
  ·unfold Opn;rw[getDt hq,Int.natAbs_neg,hs,Bool.and_false]
  ·unfold Opn;rw[getDt hq,B0 hv];simp[hL]
 ·rcases List.mem_append.mp hy with hy | hy
  ·refine oea3 (a.r1 y hy) fun q' e1 e2 e3 e4=>?_
   exact⟨q',e1,e2,e3,keep _ e4⟩
  ·rw[List.mem_singleton] at hy;subst hy
   refine⟨q,hq,h0,?_,by rw[B0 hv,if_pos rfl]⟩
   have:=lev_le (st:=st) (p:=q);exact ar642 hL this
 ·rw[B0 hv] at hsb
  split at hsb
  ·rename_i e
   have:=tr_inj t hl hq (by rw[e];simp)
   subst this
   rw[hl] at hq
   have:=Option.some.inj hq
   rw[this];simp
  ·exact List.mem_append_left _ (a.r2 q' l hl h1 h2 hsb)
 ·rw[List.map_append,List.nodup_append]
  refine⟨a.rn,by simp,fun x hx y hy e=>?_⟩
  simp at hy;subst hy
  refine oea (List.mem_map.mp hx) fun z hz z2_=>?_;subst z2_
  refine oea3 (a.r1 z hz) fun _ _ _ _ e4=>?_
  rw[e,hs] at e4;cases e4
 ·rcases List.mem_append.mp hy with hy | hy
  ·exact a.rv y hy
  ·rw[List.mem_singleton] at hy;subst hy;exact⟨vm,m1⟩
 ·unfold ocn
  apply List.countP_congr
  intro x _
  by_cases hx:x=q
  ·subst hx
   unfold Opn;simp[hL]
  ·rw[opq x hx]
noncomputable def Gm(F:List (List Int))(st:St)(sb:List Bool)(r:List Int)(P:Nat)(s:Int):Prop:=
 ∀M,Mod F M→(∀m∈r,tv M m=false)→(∀q l,q<P→st.tr[q]?=some l→st.lev q=st.lis.length→sb.getD l.natAbs false=true→tv M l=true)→s≠0→tv M s=true→False
theorem Gm.clause{F:List (List Int)}{P:Nat}{s:Int}(sd:Sd F st)(cz:Clz st)(a:AI st sb r)(g:Gm F st sb r P s){k:Nat}{c:List Int}(hk:st.cls[k]?=some c)(hs:∀m∈c,m≠s→∃q,q<P∧st.tr[q]?=some (-m))
  (hd:∀m∈c,m≠s→∀q,st.tr[q]?=some (-m)→st.lev q=0∨sb.getD m.natAbs false=true) :
  ∀M,Mod F M→(∀m∈r,tv M m=false)→(∀q l,q<P→st.tr[q]?=some l→st.lev q=st.lis.length→sb.getD l.natAbs false=true→tv M l=true)→False:=by
 intro M hM h1 h2
 refine oea (sd.cl M hM c (List.mem_of_getElem? hk)) fun y hy hyt=>?_
 have vy:=((cz c (List.mem_of_getElem? hk)).2.1 y hy).1
 by_cases e:y=s
 ·exact g M hM h1 h2 (e▸vy.1) (e▸hyt)
 ·refine oea (hs y hy e) fun q hq hq2=>?_
  have neg:tv M (-y)=false:=by rw[tv_neg M vy.1,hyt];rfl
  by_cases h0:st.lev q=0
  ·rw[sd.tr M hM q _ hq2 h0] at neg;cases neg
  ·have seen:=(hd y hy e q hq2).resolve_left h0
   by_cases hL:st.lev q=st.lis.length
   ·rw[h2 q _ hq hq2 hL (by simpa using seen)] at neg;cases neg
   ·have:=lev_le (st:=st) (p:=q)
    have:=a.r2 q (-y) hq2 (by exact ar74 h0) (by exact ar643 this hL) (by simpa using seen)
    simp only[Int.neg_neg] at this
    rw[h1 y this] at hyt;cases hyt
theorem ocn_split{P' P:Nat}(h:P'<P)(hno:∀q,P'<q→q<P→sb.getD (st.tr.getD q 0).natAbs false=false):ocn st sb P=ocn st sb P'+(if Opn st sb P'=true then 1 else 0):=by
 unfold ocn
 obtain⟨d,rfl⟩:∃d,P=P'+1+d:=⟨P-P'-1,by exact ar644 h⟩
 induction d with
 | zero=>rw[Nat.add_zero,List.range_succ,List.countP_append];simp[List.countP_cons]
 | succ d ih=>
  rw[← Nat.add_assoc,List.range_succ,List.countP_append,ih (by lia) (fun q h1 h2=>hno q h1 (by exact ar646 h2))]
  have:Opn st sb (P'+1+d)=false:=by
   unfold Opn
   rw[hno (P'+1+d) (by lia) (by exact ar647)];simp
  simp[List.countP_cons,this]
theorem ocn_pos{P:Nat}(h:0<ocn st sb P):∃q,q<P∧Opn st sb q=true:=by
 unfold ocn at h
 refine oea (List.countP_pos_iff.mp h) fun q hq h2=>?_
 exact⟨q,List.mem_range.mp hq,h2⟩
end
end
section
theorem put_comm(H:CH){a b:Addr}(x y:CO)(h:a≠b):(H.put a x).put b y=(H.put b y).put a x:=by
 funext z
 unfold CH.put
 by_cases h1:z=b
 ·rw[if_pos h1,if_neg (fun e=>h (e.symm.trans h1)),if_pos h1]
 ·rw[if_neg h1]
  split
  ·rfl
  ·first | rfl | rw[if_neg h1]
theorem rdB{H:CH}{a:Addr}{l:List Bool}(e:H a=some (.list (l.map .bool))){k:Int}(h0:0≤k)(h1:k.toNat<l.length)(h2:l.length≤lim):subV H (.ref a) (.int k)=some (.bool (l.getD k.toNat false)):=by
 simp only[subV,CO.sub,Ae,Af,Option.bind_some,e,List.length_map]
 simp only[idx_of h0 h1 h2]
 simp[h1]
theorem wrB{H:CH}{a:Addr}{l:List Bool}(e:H a=some (.list (l.map .bool))){k:Int}{v:Bool}(h0:0≤k)(h1:k.toNat<l.length)(h2:l.length≤lim):setI H (.ref a) (.int k) (.bool v)=some (H.put a (.list ((l.set k.toNat v).map .bool))):=by
 simp only[setI,setI_e,tp_tup,Ae,Af,Option.bind_some,e,List.length_map]
 simp only[idx_of h0 h1 h2]
 simp
structure AnOut (F:List (List Int)) (st:St) (u:Int) (r:List Int) (bk:Int):Prop where
 u1:Vl st u∧u.natAbs≠1
 u2:∃p,st.tr[p]?=some (-u)∧st.lev p=st.lis.length
 r1:∀m∈r,∃q,st.tr[q]?=some (-m)∧0<st.lev q∧st.lev q<st.lis.length
 rv:∀m∈r,Vl st m∧m.natAbs≠1
 nd:((u::r).map Int.natAbs).Nodup
 b0:r=[]→bk=0
 b1:r≠[]→bk=lvl st (r.getD 0 0)∧∀x∈r,lvl st x≤bk
 sat:∀M,Mod F M→Sat M (u::r)
section
variable {F:List (List Int)} {Fm H:CH} {S:Ad} {st st':St} {B:Base} {n:Nat} {Q:CV→CH→Prop}
noncomputable abbrev FrA (Fm:CH) (sa ra:Addr) (sb:List Bool) (r:List Int):CH:=(Fm.put sa (.list (sb.map .bool))).put ra (.list (r.map .int))
theorem fra_sa{sa ra:Addr}{sb:List Bool}{r:List Int}(h:sa≠ra):FrA Fm sa ra sb r sa=some (.list (sb.map .bool)):=by rw[FrA,CH.put_ne _ _ h,CH.put_self]
theorem fra_ra{sa ra:Addr}{sb:List Bool}{r:List Int}:FrA Fm sa ra sb r ra=some (.list (r.map .int)):=by rw[FrA,CH.put_self]
theorem sv_seen{sa ra:Addr}{sb:List Bool}{r:List Int}(h:Sv (FrA Fm sa ra sb r) H S st)(hne:sa≠ra)(sb':List Bool):Sv (FrA Fm sa ra sb' r) (H.put sa (.list (sb'.map .bool))) S st:=by
 have:=h.side (.list (sb'.map .bool)) (fra_sa hne)
 rw[FrA,put_comm _ _ _ (Ne.symm hne),Bg] at this
 exact this
theorem sv_rest{sa ra:Addr}{sb:List Bool}{r:List Int}(h:Sv (FrA Fm sa ra sb r) H S st)(r':List Int):Sv (FrA Fm sa ra sb r') (H.put ra (.list (r'.map .int))) S st:=by
 have:=h.side (.list (r'.map .int)) fra_ra
 simp only[FrA,Bg] at this
 exact this
inductive AnJ (F:List (List Int)) (Fm:CH) (S:Ad) (st:St) (sa ra:Addr) (k0 P:Nat) (k:Nat) (sk:Int) (c:List Int) (i:Nat) (σ:CS):Prop where
 | mk (a:List Int) (s:Int) (sb:List Bool) (r:List Int) (x8 x9:CV) (H1:CH) (h0:σ=⟨[.ref S.self,.int k0,.ref sa,.ref ra,.int (ocn st sb P),.int P,.int k,.int sk,x8,x9],H1⟩) (h1:a.length=st.count+1) (h2:Sv (FrA Fm sa ra sb r) H1 S (st.act a s)) (h3:AI st sb r) (h4:Gm F st sb r P sk) (h5:(∀m∈c.take i,m≠sk→∀q,st.tr[q]?=some (-m)→st.lev q=0∨sb.getD m.natAbs false=true)) (h6:(0<ocn st sb P∨∃m∈c.drop i,m≠sk∧∃q,st.tr[q]?=some (-m)∧st.lev q=st.lis.length)):AnJ F Fm S st sa ra k0 P k sk c i σ
theorem an_turn(C:Cx B)(hn:2≤n){wat:List (List Int)}{h:Nat}(pi:PI F st wat h)(hL:0<st.lis.length){sa ra:Addr}(hne:sa≠ra){k0 P k:Nat}{sk:Int}{c:List Int}(hk:st.cls[k]?=some c)(hP:P≤st.tr.length)
  (hs:∀m∈c,m≠sk→∃q,q<P∧st.tr[q]?=some (-m)) {i:Nat} {y:Int} (hy:c[i]?=some y) {σ:CS} {Q:CF→CS→Prop} (hJ:AnJ F Fm S st sa ra k0 P k sk c i σ) :
  WSs B fA n [.setv 9 (.bf .abs (.var 8)),
    .ite (.and [(.cmp .NotEq (.var 8) (.var 7)),(.not (.sub (.var 2) (.var 9))),(.cmp .Gt (.sub (.attr (.var 0) .levels) (.var 9)) (.int 0))])
     [.setsub (.var 2) (.var 9) (.bool true),
      .expr (.mth (.var 0) .sBump [(.var 9)]),
      .ite (.cmp .Eq (.sub (.attr (.var 0) .levels) (.var 9)) (.mth (.var 0) .sLevel []))
       [.setv 4 (.bin .Add (.var 4) (.int 1))]
       [.expr (.bm (.var 3) .append [(.var 8)])]]
     []] (σ.set 8 (.int y)) (Lp (AnJ F Fm S st sa ra k0 P k sk c (i+1)) Q):=by
 obtain⟨a,s,sb,r,x8,x9,H1,z7_,hal,h1,ai,gm,htk,hoc⟩:=hJ;subst z7_
 have hym:=List.mem_of_getElem? hy
 refine oa2 (pi.cz c (List.mem_of_getElem? hk)) fun hcl hcv hcn=>?_
 refine oa (hcv y hym) fun vy y1=>?_
 have hil:=(List.getElem?_eq_some_iff.mp hy).1
 have htake:c.take (i+1)=c.take i++[y]:=by rw[List.take_add_one,hy];rfl
 have hdrop:c.drop i=y::c.drop (i+1):=by rw[List.drop_eq_getElem_cons hil];congr 1;exact(List.getElem?_eq_some_iff.mp hy).2
 have wa:=act_wf (s:=s) pi.wf hal
 have lvl_len:=pi.wf.len .levels (by simp) (by simp)
 have lvl_lim:=pi.wf.l .levels (by simp) (by simp)
 have hcnt:=pi.wf.cnt
 have hsb:H1 sa=some (.list (sb.map .bool)):=h1.fr _ _ (fra_sa hne)
 have sbl:sb.length≤lim:=by rw[ai.sl];rw[Ab];exact ar73 hcnt
 have vy2:=vy.2
 have e1:∀k:Nat,((k:Int)).toNat=k:=fun k=>by simp
 refine wsc ?_
 dsimp[-Aa]
 simp only[absI,Ac,Ax,Aa]
 dsimp[-Aa]
 simp[-Aa]
 have skip:(y=sk∨(∀q,st.tr[q]?=some (-y)→st.lev q=0∨sb.getD y.natAbs false=true))→AnJ F Fm S st sa ra k0 P k sk c (i+1) ⟨[.ref S.self,.int k0,.ref sa,.ref ra,.int (ocn st sb P),.int P,.int k,.int sk,.int y,.int y.natAbs],H1⟩:=by
  intro hsk
  refine⟨a,s,sb,r,_,_,H1,rfl,hal,h1,ai,gm,fun m hm hms q hq=>?_,?_⟩
  ·simp only[htake] at hm
   rcases List.mem_append.mp hm with hm | hm
   ·exact htk m hm hms q hq
   ·rw[List.mem_singleton] at hm;subst hm
    exact hsk.resolve_left hms q hq
  ·rcases hoc with h0 | ⟨m,hm,hms,q,hq,hql⟩
   ·exact .inl h0
   ·simp only[hdrop] at hm
    rcases List.mem_cons.mp hm with rfl | hm
    ·rcases(hsk.resolve_left hms) q hq with h0 | h0
     ·lia
     ·left
      refine oea (hs m hym hms) fun q' hq' hq2=>?_
      have:=tr_inj pi.tr hq hq2 rfl
      subst this
      unfold ocn
      simp only[List.countP_pos_iff]
      refine⟨q,List.mem_range.mpr hq',?_⟩
      unfold Opn
      rw[getDt hq,Int.natAbs_neg,h0,hql];simp
    ·exact .inr ⟨m,hm,hms,q,hq,hql⟩
 by_cases hys:y=sk
 ·dsimp
  simp[hys]
  subst hys
  exact skip (.inl rfl)
 ·try dsimp[-Aa]
  simp[hys,-Aa]
  rw[rdB hsb (by exact ar30) (by rw[e1,ai.sl];exact ar40 vy2) sbl,Ac,e1]
  induction hseen:sb.getD y.natAbs false using Bool.casesOn with
  | true=>
   dsimp
   simp
   exact skip (.inr fun _ _=>.inr hseen)
  | false=>
   dsimp[-Aa]
   repeat ((first | refine oat h1.attrs rfl ?_);try dsimp[-Aa])
   refine h1.rI .levels (by lia) (by rw[act_ne _ _ _ (by simp),e1];exact ar32 vy2 lvl_len) (by rw[act_ne _ _ _ (by simp)];exact lvl_lim) ?_
   rw[act_ne _ _ _ (by simp),e1]
   refine oea (hs y hym hys) fun q hqP hq=>?_
   have hlv:(st.fld .levels).getD y.natAbs 0=st.lev q:=by
    have:=pi.tr.lv q _ hq
    unfold lvl at this
    rw[Int.natAbs_neg] at this;exact this
   simp only[hlv]
   by_cases h0:st.lev q=0
   ·dsimp
    simp[h0]
    refine skip (.inr fun q' hq'=>.inl ?_)
    have:=tr_inj pi.tr hq' hq rfl
    rw[this];exact h0
   ·have hpos:0<st.lev q:=by exact ar74 h0
    dsimp[-Aa]
    simp[hpos,-Aa]
    refine oa (ai.see pi.tr vy y1 hq hqP (by lia) hseen) fun see1 see2=>?_
    have mono:∀w,sb.getD w false=true→(sb.set y.natAbs true).getD w false=true:=fun w hw=>by
     rw[B0 (by rw[ai.sl];lia)];split
     ·rfl
     ·exact hw
    have yseen:(sb.set y.natAbs true).getD y.natAbs false=true:=by rw[B0 (by rw[ai.sl];lia),if_pos rfl]
    have tk':∀m∈c.take (i+1),m≠sk→∀q,st.tr[q]?=some (-m)→st.lev q=0∨(sb.set y.natAbs true).getD m.natAbs false=true:=fun m hm hms q hq=>by
     simp only[htake] at hm
     rcases List.mem_append.mp hm with hm | hm
     ·exact(htk m hm hms q hq).imp_right (mono _)
     ·rw[List.mem_singleton] at hm;subst hm;exact .inr yseen
    refine wsc ?_
    dsimp[-Aa]
    rw[wrB hsb (by lia) (by rw[e1,ai.sl];lia) sbl,Ac,e1]
    have h2:=sv_seen h1 hne (sb.set y.natAbs true)
    generalize CH.put H1 sa _=H2 at h2 ⊢
    refine wsc ?_
    dsimp[-Aa]
    refine⟨h2.obj,ft_bump C (by exact ar13 hn) h2 wa (by simpa using vy2) fun H3 a3 s3 ha3 h3=>?_⟩
    have h3:Sv (FrA Fm sa ra (sb.set y.natAbs true) r) H3 S (st.act a3 s3):=by
     have e:(st.act a s).act a3 s3=st.act a3 s3:=by
      unfold St.act St.upd
      simp only[St.mk.injEq,true_and,and_true]
      funext g
      by_cases hg:g=.activity <;> simp[hg]
     rw[e] at h3;exact h3
    have ha3:a3.length=st.count+1:=ha3
    refine wsc ?_
    dsimp[-Aa]
    repeat ((first | refine oat h3.attrs rfl ?_);try dsimp[-Aa])
    refine h3.rI .levels (by lia) (by rw[act_ne _ _ _ (by simp),e1];lia) (by rw[act_ne _ _ _ (by simp)];exact lvl_lim) ?_
    rw[act_ne _ _ _ (by simp),e1,hlv]
    refine⟨h3.obj,ft_level C (by exact ar5 hn) h3 (act_wf (s:=s3) pi.wf ha3) ?_⟩
    rw[act_ne _ _ _ (by simp)]
    by_cases hq2:st.lev q=st.lis.length
    ·refine oa (see1 hq2) fun ai2 oc2=>?_
     have hq3:(st.lev q:Int)=((st.fld .limits).length:Int):=by rw[hq2]
     dsimp
     simp[hq3]
     refine⟨a3,s3,sb.set y.natAbs true,r,.int y,.int y.natAbs,H3,by rw[oc2];simp,ha3,h3,ai2,fun M hM g1 g2 g3 g4=>gm M hM g1 (fun q' l hq' hl hll hsl=>g2 q' l hq' hl hll (mono _ hsl)) g3 g4,tk',.inl (by lia)⟩
    ·refine oa (see2 hq2) fun ai2 oc2=>?_
     have hq3:¬ (st.lev q:Int)=((st.fld .limits).length:Int):=fun e=>hq2 (by exact_mod_cast e)
     dsimp
     simp[hq3]
     have hra:=h3.fr _ _ (fra_ra (Fm:=Fm) (sa:=sa) (sb:=sb.set y.natAbs true))
     refine⟨okA hra,?_⟩
     have rl:r.length≤200:=by
      have h1:(r.map Int.natAbs).length≤(List.range (st.count+1)).length:=List.Nodup.length_le_of_subset ai.rn fun z hz=>by
       refine oea (List.mem_map.mp hz) fun l hl z2_=>?_;subst z2_
       have:=(ai.rv l hl).1.2
       exact List.mem_range.mpr (by exact ar40 this)
      simp at h1;lia
     simp only[apL hra (by rw[Ab];exact ar76 rl),Ac,Bk]
     have h4:=sv_rest h3 (r++[y])
     refine⟨a3,s3,sb.set y.natAbs true,r++[y],.int y,.int y.natAbs,_,by rw[oc2],ha3,h4,ai2,fun M hM g1 g2 g3 g4=>gm M hM (fun m hm=>g1 m (List.mem_append_left _ hm)) (fun q' l hq' hl hll hsl=>g2 q' l hq' hl hll (mono _ hsl)) g3 g4,tk',?_⟩
     rcases hoc with h0 | ⟨m,hm,hms,q',hq',hql⟩
     ·exact .inl (by rw[oc2];exact h0)
     ·simp only[hdrop] at hm
      rcases List.mem_cons.mp hm with rfl | hm
      ·have:=tr_inj pi.tr hq' hq rfl
       rw[this] at hql;exact absurd hql hq2
      ·exact .inr ⟨m,hm,hms,q',hq',hql⟩
end
end
section
section
variable {F:List (List Int)} {Fm H:CH} {S:Ad} {st st':St} {B:Base} {n:Nat} {Q:CV→CH→Prop}
inductive AnI (F:List (List Int)) (Fm:CH) (S:Ad) (st:St) (sa ra:Addr) (k0:Nat) (P:Nat) (σ:CS):Prop where
 | mk (a:List Int) (s:Int) (sb:List Bool) (r:List Int) (k:Nat) (sk:Int) (c:List Int) (x8 x9:CV) (H1:CH) (h0:σ=⟨[.ref S.self,.int k0,.ref sa,.ref ra,.int (ocn st sb P),.int P,.int k,.int sk,x8,x9],H1⟩) (h1:a.length=st.count+1) (h2:Sv (FrA Fm sa ra sb r) H1 S (st.act a s)) (h3:AI st sb r) (h4:Gm F st sb r P sk) (h5:P≤st.tr.length) (h6:st.cls[k]?=some c) (h7:(∀m∈c,m≠sk→∃q,q<P∧st.tr[q]?=some (-m))) (h8:(0<ocn st sb P∨∃m∈c,m≠sk∧∃q,st.tr[q]?=some (-m)∧st.lev q=st.lis.length)):AnI F Fm S st sa ra k0 P σ
theorem rep_false(n:Nat)(v:Nat):(List.replicate n false).getD v false=false:=by
 simp only[List.getD_eq_getElem?_getD,List.getElem?_replicate]
 split <;> rfl
theorem ft_analyze(C:Cx B)(hn:3≤n)(h:Sv Fm H S st){wat:List (List Int)}{hh:Nat}(pi:PI F st wat hh)(hL:0<st.lis.length){k0:Nat}{c0:List Int}(hk0:st.cls[k0]?=some c0)(hv0:∀l∈c0,st.v l<0)
  (hcur:∃m∈c0,∃q,st.tr[q]?=some (-m)∧st.lev q=st.lis.length)
  (q:∀H' l t u r bk a s,Fm l=none→Fm t=none→l≠t→a.length=st.count+1→AnOut F st u r bk→Sv ((Fm.put l (.list ((u::r).map .int))).put t (.tup [.ref l,.int bk])) H' S (st.act a s)→Q (.ref t) H'):FT B fA n .sAnalyze [.ref S.self,.int k0] H Q:=by
 have hcnt:=pi.wf.cnt
 have hshort:=pi.short
 have hlen:(st.fld .trail).length≤lim:=by simp only[St.tr] at hshort;rw[Ab];exact ar62 hshort
 refine C.call (by exact ar77 hn) rfl ?_
 refine wsc ?_
 dsimp[-Aa]
 repeat ((first | refine oat h.attrs rfl ?_);try dsimp[-Aa])
 refine⟨by rw[Ab];exact ar78,fun s0 hs0=>?_⟩
 have g1:=h.alloc (.list [.bool false]) hs0
 have hf0:=Az h hs0
 have h1:=g1.frput hf0
 have rep:binV .Mult (H.put s0 (.list [.bool false])) (.ref s0) (.int ((st.count:Int)+1))=some (.new (.list ((List.replicate (st.count+1) false).map .bool))):=by
  simp only[binV_e,refBin_e,CH.lsA,Bi,Ah,Ae,Af,Option.bind_some,CH.put_self]
  rw[if_pos ⟨by exact ar79,by exact ar80 hcnt⟩]
  simp only[show((st.count:Int)+1).toNat=st.count+1 by exact ar81,List.map_replicate]
 have ai0:AI st (List.replicate (st.count+1) false) []:=by
  refine⟨by simp,fun v hv=>?_,(fun m hm=>nomatch hm),fun q' l _ _ _ hv=>?_,List.nodup_nil,(fun m hm=>nomatch hm)⟩
  ·rw[rep_false] at hv;cases hv
  ·rw[rep_false] at hv;cases hv
 have oc0:ocn st (List.replicate (st.count+1) false) (st.fld .trail).length=0:=by
  unfold ocn
  simp only[List.countP_eq_zero]
  intro x _
  unfold Opn
  rw[rep_false];simp
 generalize List.replicate (st.count+1) false=sb0 at rep ai0 oc0
 dsimp[-Aa]
 repeat ((first | refine oat h1.attrs rfl ?_);try dsimp[-Aa])
 simp only[rep,Ac,go_new]
 intro sa hsa
 have h2:=h1.alloc (.list (sb0.map .bool)) hsa
 have hfsa:=Az h1 hsa
 first | rw[Al,Aa] | refine wsc ?_
 simp[-Aa]
 intro ra hra
 have h3:=h2.alloc (.list []) hra
 have hfra:=Az h2 hra
 have hne:sa≠ra:=fun e=>by rw[← e,CH.put_self] at hfra;cases hfra
 have hfra':Fm ra=none:=by rw[CH.put_ne _ _ (Ne.symm hne)] at hfra;exact hfra
 have up:∀y,((H.put s0 (.list [.bool false])).put sa (.list (sb0.map .bool))).put ra (.list []) y=none→H y=none:=fun y hy=>by
  unfold CH.put at hy
  split at hy
  ·cases hy
  ·split at hy
   ·cases hy
   ·split at hy
    ·cases hy
    ·exact hy
 generalize ((H.put s0 (.list [.bool false])).put sa (.list (sb0.map .bool))).put ra (.list [])=H3 at h3 up ⊢
 have at3:=h3.attrs
 first | rw[Al,Aa] | refine wsc ?_
 simp[-Aa]
 refine wsc ?_
 dsimp[-Aa]
 repeat ((first | refine oat at3 rfl ?_);try dsimp[-Aa])
 simp only[lenL (h3.getI .trail) (by simpa using hlen)]
 simp[-Aa]
 refine wsc ?_
 simp[-Aa]
 refine wsc ?_
 simp[-Aa]
 refine wsc ?_
 have aself:st.act (st.fld .activity) st.step=st:=by
  unfold St.act St.upd
  induction st using St.casesOn
  simp only[St.mk.injEq,true_and,and_true]
  funext g
  by_cases hg:g=.activity <;> simp[hg]
 obtain⟨I,hI⟩:∃I:Nat→CS→Prop,∀m σ,I m σ↔AnI F Fm S st sa ra k0 m σ:=⟨_,fun _ _=>Iff.rfl⟩
 refine ws_whl I (st.fld .trail).length ((hI _ _).mpr ⟨st.fld .activity,st.step,sb0,[],k0,0,c0,.undef,.undef,H3,by rw[oc0];simp,pi.wf.len .activity (by simp) (by simp),by rw[aself];exact h3,ai0,fun M _ _ _ h0=>absurd rfl h0,Nat.le_refl _,hk0,fun m hm _=>?_,?_⟩) ?_
 ·refine oa2 (pi.cz c0 (List.mem_of_getElem? hk0)) fun hcl hcv hcn=>?_
  refine oe (List.getElem?_of_mem (pi.tr.neg (hcv m hm).1 (hv0 m hm))) fun q' hq'=>?_
  exact⟨q',(List.getElem?_eq_some_iff.mp hq').1,hq'⟩
 ·refine oe hcur fun m w0_=>?_;refine oa w0_ fun hm w1_=>?_;clear w0_;refine oe w1_ fun q' w2_=>?_;clear w1_;refine oa w2_ fun hq' hql=>?_;clear w2_
  exact .inr ⟨m,hm,(((pi.cz c0 (List.mem_of_getElem? hk0)).2.1 m hm).1).1,q',hq',hql⟩
 intro P σ hi
 obtain⟨a,s,sb,r,k,sk,c,x8,x9,H4,z10_,hal,h4,ai,gm,hP,hk,hs,hoc⟩:=(hI _ _).mp hi;subst z10_
 have hkk:=(List.getElem?_eq_some_iff.mp hk).1
 have at4:=h4.attrs
 refine oa2 (pi.cz c (List.mem_of_getElem? hk)) fun hcl hcv hcn=>?_
 have clen:c.length≤lim:=by
  have h1:(c.map Int.natAbs).length≤(List.range (st.count+1)).length:=List.Nodup.length_le_of_subset hcn fun z hz=>by
   refine oea (List.mem_map.mp hz) fun l hl z2_=>?_;subst z2_
   have:=(hcv l hl).1.2
   exact List.mem_range.mpr (by exact ar40 this)
  simp at h1;rw[Ab];lia
 have e1:∀k:Nat,((k:Int)).toNat=k:=fun k=>by simp
 simp[-Aa]
 generalize hK:Lp _ _=K
 refine wsc ?_
 dsimp[-Aa]
 repeat ((first | refine oat at4 rfl ?_);try dsimp[-Aa])
 refine h4.rC (by exact ar2) (by rw[e1];exact hkk) (by have:=pi.nc;simp;rw[Ab];exact ar45 this) ?_
 simp only[e1]
 refine Bp (items:=c.map .int) (h4.getC hk) (by simpa using clen) (AnJ F Fm S st sa ra k0 P k sk c) ⟨a,s,sb,r,x8,x9,H4,rfl,hal,h4,ai,gm,fun m hm=>by simp at hm,by simpa using hoc⟩ ?_ ?_
 ·intro i y σ₂ hy hJ
  simp only[List.getElem?_map,Option.map_eq_some_iff] at hy
  refine oea hy fun y' hy' z2_=>?_;subst z2_
  refine⟨?_,an_turn C (by exact ar82 hn) pi hL hne hk hP hs hy' hJ⟩
  obtain⟨a',s',sb',r',x8',x9',H5,z7_,_,h5,_⟩:=hJ;subst z7_
  exact h5.getC hk
 ·intro σ₂ hJ
  obtain⟨a,s,sb,r,x8,x9,H5,z7_,hal,h5,ai,gm,htk,hoc⟩:=hJ;subst z7_
  refine⟨h5.getC hk,?_⟩
  have at5:=h5.attrs
  have hsb:H5 sa=some (.list (sb.map .bool)):=h5.fr _ _ (fra_sa hne)
  have sbl:sb.length≤lim:=by rw[ai.sl];rw[Ab];exact ar73 hcnt
  have hoc:0<ocn st sb P:=by simpa using hoc
  have htk:∀m∈c,m≠sk→∀q,st.tr[q]?=some (-m)→st.lev q=0∨sb.getD m.natAbs false=true:=by simpa using htk
  have G2:=gm.clause pi.sd pi.cz ai hk hs htk
  refine oea (ocn_pos hoc) fun q0 hq0 ho0=>?_
  have hq0l:q0<st.tr.length:=by exact ar83 hq0 hP
  have ho0s:sb.getD (st.tr.getD q0 0).natAbs false=true∧st.lev q0=st.lis.length:=by
   unfold Opn at ho0;simp only[Bool.and_eq_true,decide_eq_true_eq] at ho0;exact⟨ho0.2,ho0.1⟩
  have tl:((st.act a s).fld .trail)=st.fld .trail:=act_ne _ _ _ (by simp)
  first | rw[Al,Aa] | refine wsc ?_
  simp[-Aa]
  refine wsc ?_
  obtain⟨I2,hI2⟩:∃I2:Nat→CS→Prop,∀m σ,I2 m σ↔(∃p,σ=⟨[.ref S.self,.int k0,.ref sa,.ref ra,.int (ocn st sb P),.int (p:Nat),.int k,.int sk,x8,x9],H5⟩∧q0≤p∧p<P∧m=p∧∀q,p<q→q<P→sb.getD (st.tr.getD q 0).natAbs false=false):=⟨_,fun _ _=>Iff.rfl⟩
  refine ws_whl I2 (P-1) ((hI2 _ _).mpr ⟨P-1,by rw[show((P:Int)-1)=((P-1:Nat):Int) by exact ar84 hq0],by exact ar85 hq0,by exact ar86 hq0,rfl,fun q h1 h2=>by lia⟩) ?_
  intro m σ hm
  refine oea4 ((hI2 _ _).mp hm) fun p z1_ hp0 hpP z4_ hno=>?_;subst z1_;subst z4_
  have hpl:m<st.tr.length:=by lia
  have vp:=pi.tr.lit _ (List.getElem_mem hpl)
  have hget:st.tr[m]?=some st.tr[m]:=List.getElem?_eq_getElem hpl
  have hgd:(st.fld .trail).getD m 0=st.tr[m]:=getDt hget
  generalize hK2:Lp _ _=K2
  dsimp[-Aa]
  repeat ((first | refine oat at5 rfl ?_);try dsimp[-Aa])
  simp only[rdL (h5.getI .trail) (k:=(m:Int)) (by lia) (by rw[tl,e1];exact hpl) (by rw[tl];exact hlen),Ac,e1,tl,hgd]
  rw[absI,Ac,Ax,rdB hsb (by exact ar30) (by rw[e1,ai.sl];have:=vp.2;exact ar40 this) sbl,Ac,e1]
  induction hseen:sb.getD (st.tr[m]).natAbs false using Bool.casesOn with
  | false=>
   simp[-Aa]
   refine wsc ?_
   simp[-Aa]
   simp only[← hK2]
   simp
   have hmq:m≠q0:=fun e=>by
    have h1:=ho0s.1
    rw[← e,getDt hget,hseen] at h1;cases h1
   refine⟨m-1,by exact ar87 hmq hp0,(hI2 _ _).mpr ⟨m-1,by rw[show((m:Int)-1)=((m-1:Nat):Int) by lia],by lia,by exact ar90 hpP,rfl,fun q h1 h2=>?_⟩⟩
   by_cases e:q=m
   ·rw[e,getDt hget];exact hseen
   ·exact hno q (by exact ar91 h1 e) h2
  | true=>
   have hlvm:st.lev m=st.lis.length:=by
    have h1:=lev_mono (st:=st) hp0
    have h2:=lev_le (st:=st) (p:=m)
    rw[ho0s.2] at h1;exact ar92 h2 h1
   have hopm:Opn st sb m=true:=by unfold Opn;rw[getDt hget,hseen,hlvm];simp
   have hoc2:ocn st sb P=ocn st sb m+1:=by rw[ocn_split hpP hno,hopm];simp
   obtain⟨u,hu⟩:∃u,u = -(st.tr[m]):=⟨_,rfl⟩
   have hum:st.tr[m] = -u:=by rw[hu,Int.neg_neg]
   have vm:=vp
   have vu:Vl st u:=by rw[hu];exact⟨by have:=vp.1;exact ar64 this,by have:=vp.2;exact ar65 this⟩
   have G3:∀M,Mod F M→(∀m∈r,tv M m=false)→(∀q l,q<m→st.tr[q]?=some l→st.lev q=st.lis.length→sb.getD l.natAbs false=true→tv M l=true)→tv M st.tr[m]=true→False:=fun M hM g1 g2 g3=>G2 M hM g1 fun q l hq hl hll hsl=>by
    by_cases e1:q<m
    ·exact g2 q l e1 hl hll hsl
    ·by_cases e2:q=m
     ·subst e2;rw[hget] at hl;cases hl;exact g3
     ·have:=hno q (by exact ar93 e1 e2) hq
      rw[getDt hl,hsl] at this;cases this
   have u1:u.natAbs≠1:=by rw[hu,Int.natAbs_neg];exact(ai.s1 _ hseen).1
   have hfsa':Fm sa=none:=hfsa
   simp[-Aa]
   refine wsc ?_
   dsimp[-Aa]
   repeat ((first | refine oat at5 rfl ?_);try dsimp[-Aa])
   simp only[rdL (h5.getI .trail) (k:=(m:Int)) (by lia) (by rw[tl,e1];exact hpl) (by rw[tl];exact hlen),Ac,e1,tl,hgd]
   first | rw[Al,Aa] | refine wsc ?_
   simp[-Aa]
   refine wsc ?_
   simp[-Aa]
   have ocm:((ocn st sb P:Int)-1)=((ocn st sb m:Nat):Int):=by rw[hoc2];simp
   simp only[ocm]
   have hra:H5 ra=some (.list (r.map .int)):=h5.fr _ _ fra_ra
   have rl:r.length≤101:=by
    have h1:(r.map Int.natAbs).length≤(List.range (st.count+1)).length:=List.Nodup.length_le_of_subset ai.rn fun z hz=>by
     refine oea (List.mem_map.mp hz) fun l hl z2_=>?_;subst z2_
     have:=(ai.rv l hl).1.2
     exact List.mem_range.mpr (by lia)
    simp at h1;lia
   by_cases hz:ocn st sb m=0
   ·simp[hz,-Aa]
    refine wsc ?_
    simp
    refine⟨h5.obj,?_⟩
    simp only[← hu]
    refine ft_ordered C (by exact ar95 hn) h5 (act_wf (s:=s) pi.wf hal) fra_ra (by exact ar96 rl) (fun l hl=>(ai.rv l hl).1.2) fun H6 l t r' bk hl ht hlt hp hb0 hb1 h6=>?_
    have hfl:=Az h5 hl
    have hft:=Az h5 ht
    have fr0:∀x,FrA Fm sa ra sb r x=none→Fm x=none:=fun x hx=>by
     unfold FrA CH.put at hx
     split at hx
     ·cases hx
     ·split at hx
      ·cases hx
      ·exact hx
    have lvl_eq:∀x,lvl (st.act a s) x=lvl st x:=fun x=>by unfold lvl;rw[act_ne _ _ _ (by simp)]
    have noopen:∀q,q<m→Opn st sb q=false:=fun q hq=>by
     induction e:Opn st sb q using Bool.casesOn with
     | false=>rfl
     | true=>
      have:0<ocn st sb m:=by
       unfold ocn;rw[List.countP_pos_iff];exact⟨q,List.mem_range.mpr hq,e⟩
      lia
    have h7:Sv ((Fm.put l (.list ((u::r').map .int))).put t (.tup [.ref l,.int bk])) H6 S (st.act a s):=h6.weak fun x o e=>by
     unfold CH.put at e ⊢
     split
     ·rename_i e2;rw[if_pos e2] at e;exact e
     ·rename_i e2;rw[if_neg e2] at e
      split
      ·rename_i e3;rw[if_pos e3] at e;exact e
      ·rename_i e3;rw[if_neg e3] at e
       have nra:x≠ra:=fun z=>by rw[z,hfra'] at e;cases e
       have nsa:x≠sa:=fun z=>by rw[z,hfsa'] at e;cases e
       unfold CH.del FrA CH.put
       rw[if_neg nra,if_neg nra,if_neg nsa];exact e
    simp only[← hK]
    simp
    refine q H6 l t u r' bk a s (fr0 l hfl) (fr0 t hft) hlt hal ⟨⟨vu,u1⟩,⟨m,by rw[← hum];exact hget,hlvm⟩,fun x hx=>?_,fun x hx=>ai.rv x (hp.mem_iff.mp hx),?_,fun e=>hb0 (by rw[e] at hp;exact hp.symm.eq_nil),fun e=>?_,fun M hM=>?_⟩ h7
    ·refine oea3 (ai.r1 x (hp.mem_iff.mp hx)) fun q' e1 e2 e3 _=>?_
     exact⟨q',e1,e2,e3⟩
    ·simp only[List.map_cons,List.nodup_cons]
     refine⟨fun hx=>?_,(hp.map Int.natAbs).nodup_iff.mpr ai.rn⟩
     refine oea (List.mem_map.mp hx) fun x hx1 hx2=>?_
     refine oea3 (ai.r1 x (hp.mem_iff.mp hx1)) fun q' e1 e2 e3 _=>?_
     have:=tr_inj pi.tr e1 hget (by rw[hum,Int.natAbs_neg,Int.natAbs_neg];exact hx2)
     rw[this,hlvm] at e3;exact ar97 e3
    ·have:=hb1 (fun z=>e (by rw[z] at hp;exact hp.eq_nil))
     simp only[lvl_eq] at this
     exact this
    ·by_cases hsat:Sat M (u::r')
     ·exact hsat
     ·exfalso
      have hno':∀x∈u::r',tv M x=false:=fun x hx=>by
       induction e:tv M x using Bool.casesOn with
       | false=>rfl
       | true=>exact absurd ⟨x,hx,e⟩ hsat
      refine G3 M hM (fun x hx=>hno' x (List.mem_cons_of_mem _ (hp.mem_iff.mpr hx))) (fun q l hq hl hll hsl=>?_) ?_
      ·have:=noopen q hq
       unfold Opn at this
       rw[getDt hl,hsl,hll] at this;simp at this
      ·have:=hno' u List.mem_cons_self
       rw[hum,tv_neg M vu.1,this];rfl
   ·have hzz:¬ ((ocn st sb m:Int)=0):=by exact ar98 hz
    simp[hz,-Aa]
    refine wsc ?_
    dsimp[-Aa]
    repeat ((first | refine oat at5 rfl ?_);try dsimp[-Aa])
    simp only[absI,Ac,Ax]
    have rl5:((st.act a s).fld .reasons)=st.fld .reasons:=act_ne _ _ _ (by simp)
    have hrl:=pi.wf.len .reasons (by simp) (by simp)
    have hrll:=pi.wf.l .reasons (by simp) (by simp)
    simp only[rdL (h5.getI .reasons) (k:=((st.tr[m]).natAbs:Int)) (by lia) (by rw[rl5,e1];have:=vp.2;exact ar32 this hrl) (by rw[rl5];exact hrll),Ac,e1,rl5]
    rcases pi.re m _ hget with ⟨z1,z2⟩ | ⟨k',c',z1,z2,z3,z4⟩
    ·exfalso
     rcases z2 with z2 | z2
     ·exact ar99 hL z2 hlvm
     ·-- a decision stands lowest on its level
      refine oea (ocn_pos (st:=st) (sb:=sb) (P:=m) (by exact ar74 hz)) fun q1 hq1 ho1=>?_
      have hl1:st.lev q1=st.lis.length:=by
       unfold Opn at ho1;simp only[Bool.and_eq_true,decide_eq_true_eq] at ho1;exact ho1.1
      unfold St.lev at hl1
      simp only[List.countP_eq_length] at hl1
      have:=hl1 _ z2
      simp at this
      exact ar100 hq1 this
    ·simp only[z1]
     simp only[← hK]
     simp
     refine⟨m,by exact ar101 hpP,(hI _ _).mpr ⟨a,s,sb,r,k',st.tr[m],c',x8,x9,H5,rfl,hal,h5,ai,fun M hM g1 g2 g3 g4=>G3 M hM g1 g2 g4,by exact ar102 hpP hP,z2,z4,.inl (by lia)⟩⟩
end
end
section
section
variable {F:List (List Int)} {st:St} {wat:List (List Int)} {h:Nat}
theorem lis_get{i:Nat}(t:Tr st)(hi:i<st.lis.length):∃j:Nat,st.lis[i]?=some (j:Int)∧j<st.tr.length:=by
 have hm:=List.getElem_mem hi
 refine oa (t.ls _ hm) fun h1 h2=>?_
 refine⟨(st.lis[i]).toNat,?_,by exact ar648 h2 h1⟩
 rw[List.getElem?_eq_getElem hi]
 congr 1;exact ar649 h1
theorem lis_lt(t:Tr st){i k:Nat}{x y:Int}(hx:st.lis[i]?=some x)(hy:st.lis[k]?=some y)(h:i<k):x<y:=by
 obtain⟨h1,rfl⟩:=List.getElem?_eq_some_iff.mp hx
 obtain⟨h2,rfl⟩:=List.getElem?_eq_some_iff.mp hy
 exact List.pairwise_iff_getElem.mp t.lm i k h1 h2 h
theorem lis_take(t:Tr st){i j:Nat}(hi:st.lis[i]?=some (j:Int)){x:Int}(hx:x∈st.lis):x∈st.lis.take i↔x<j:=by
 have hil:=(List.getElem?_eq_some_iff.mp hi).1
 constructor
 ·intro hm
  refine oe (List.getElem?_of_mem hm) fun k hk=>?_
  rw[List.getElem?_take] at hk
  split at hk
  ·rename_i hki;exact lis_lt t hk hi hki
  ·cases hk
 ·intro hlt
  refine oe (List.getElem?_of_mem hx) fun k hk=>?_
  have:k<i:=by
   rcases Nat.lt_trichotomy k i with h | h | h
   ·exact h
   ·subst h;rw[hk] at hi;have:=Option.some.inj hi;lia
   ·have:=lis_lt t hi hk h;exact ar650 hlt this
  exact List.mem_of_getElem? (i:=k) (by rw[List.getElem?_take,if_pos this];exact hk)
theorem lev_below(t:Tr st){i j:Nat}(hi:st.lis[i]?=some (j:Int)){p:Nat}(hp:p<j):(st.lis.take i).countP (fun x=>Decidable.decide (x≤(p:Int)))=st.lev p:=by
 unfold St.lev
 conv=>rhs;rw[← List.take_append_drop i st.lis]
 rw[List.countP_append]
 have:(st.lis.drop i).countP (fun x=>Decidable.decide (x≤(p:Int)))=0:=by
  rw[List.countP_eq_zero]
  intro x hx
  refine oe (List.getElem?_of_mem hx) fun k hk=>?_
  rw[List.getElem?_drop] at hk
  have hge:(j:Int)≤x:=by
   by_cases e:k=0
   ·subst e;rw[Nat.add_zero,hi] at hk;have:=Option.some.inj hk;lia
   ·have:=lis_lt t hi hk (by exact ar651 e);lia
  simp;exact ar653 hge hp
 exact ar654 this
theorem lev_lt(t:Tr st){i j:Nat}(hi:st.lis[i]?=some (j:Int)){p:Nat}(hp:p<j):st.lev p≤i:=by
 rw[← lev_below t hi hp]
 exact Nat.le_trans List.countP_le_length (by rw[List.length_take];exact Nat.min_le_left _ _)
theorem lev_ge(t:Tr st){i j:Nat}(hi:st.lis[i]?=some (j:Int)){p:Nat}(hp:j≤p):i+1≤st.lev p:=by
 have hil:=(List.getElem?_eq_some_iff.mp hi).1
 unfold St.lev
 conv=>rhs;rw[← List.take_append_drop (i+1) st.lis]
 rw[List.countP_append]
 have:(st.lis.take (i+1)).countP (fun x=>Decidable.decide (x≤(p:Int)))=i+1:=by
  have e:(st.lis.take (i+1)).length=i+1:=by rw[List.length_take];exact ar655 hil
  have q:(st.lis.take (i+1)).countP (fun x=>Decidable.decide (x≤(p:Int)))=(st.lis.take (i+1)).length:=List.countP_eq_length.mpr ?_
  ·rw[q,e]
  intro x hx
  refine oe (List.getElem?_of_mem hx) fun k hk=>?_
  rw[List.getElem?_take] at hk
  split at hk
  ·rename_i hki
   by_cases e:k=i
   ·subst e;rw[hi] at hk;have:=Option.some.inj hk;simp;lia
   ·have:=lis_lt t hk hi (by exact ar397 hki e);simp;exact ar656 this hp
  ·cases hk
 exact ar657 this
theorem cut_tr(lv j:Nat)(vals ph:List Int):(st.cut lv j vals ph).tr=st.tr.take j:=rfl
theorem cut_lis(lv j:Nat)(vals ph:List Int):(st.cut lv j vals ph).lis=st.lis.take lv:=rfl
theorem take_get{l:List Int}{j p:Nat}{x:Int}(h:(l.take j)[p]?=some x):p<j∧l[p]?=some x:=by
 rw[List.getElem?_take] at h
 split at h
 ·exact⟨by assumption,h⟩
 ·cases h
theorem PI.cut(pi:PI F st wat h){lv j:Nat}(hi:st.lis[lv]?=some (j:Int)){vals ph:List Int}(hz:Zero (st.fld .values) vals ((st.fld .trail).drop j))(hpl:ph.length=(st.fld .phases).length)(hp:Pm ph):
  PI F (st.cut lv j vals ph) wat j:=by
 have t:=pi.tr
 refine oa (t.ls _ (List.mem_of_getElem? hi)) fun _ hjl=>?_
 have hjl:j<st.tr.length:=by exact ar63 hjl
 have hjh:j≤h:=by have:=pi.lh _ (List.mem_of_getElem? hi);exact ar658 this
 have lvc:∀p,p<j→(st.cut lv j vals ph).lev p=st.lev p:=fun p hp=>lev_below t hi hp
 have vkeep:∀i,i∉(st.tr.drop j).map Int.natAbs→vals.getD i 0=(st.fld .values).getD i 0:=fun i hi=>by rw[hz.2 i];exact if_neg hi
 have take_nd:∀l∈st.tr.take j,l.natAbs∉(st.tr.drop j).map Int.natAbs:=fun l hl hm=>by
  have hnd:=t.nd
  rw[← List.take_append_drop j st.tr,List.map_append,List.nodup_append] at hnd
  exact hnd.2.2 _ (List.mem_map_of_mem hl) _ hm rfl
 have vv:∀l,l.natAbs∉(st.tr.drop j).map Int.natAbs→(st.cut lv j vals ph).v l=st.v l:=fun l hl=>by
  unfold St.v
  show(if l<0 then -(vals.getD l.natAbs 0) else vals.getD l.natAbs 0)=_
  simp only[vkeep _ hl]
 have memt:∀l∈st.tr.take j,l∈st.tr:=fun l hl=>List.mem_of_mem_take hl
 refine⟨⟨pi.wf.cnt,fun f h1 h2=>?_,pi.wf.wat,?_,?_⟩,⟨fun l hl=>t.lit l (memt l hl),?_,fun l hl=>?_,fun i hi'=>?_,fun x hx=>?_,?_,fun p l hl=>?_⟩,fun p l hl=>?_,pi.cz,pi.wt,fun k c hk a b hpr q hq ha=>?_,⟨pi.sd.cl,fun M hM p l hl hlev=>?_,pi.sd.kp⟩,?_,fun x hx=>?_,hp,pi.nc,pi.le⟩
 ·induction f using IF.casesOn with
  | values=>show vals.length=_;rw[hz.1];exact pi.wf.len .values (by simp) (by simp)
  | phases=>show ph.length=_;rw[hpl];exact pi.wf.len .phases (by simp) (by simp)
  | levels=>exact pi.wf.len .levels h1 h2
  | reasons=>exact pi.wf.len .reasons h1 h2
  | activity=>exact pi.wf.len .activity h1 h2
  | trail=>exact absurd rfl h1
  | limits=>exact absurd rfl h2
 ·show(st.tr.take j).length≤1000
  rw[List.length_take];have:=pi.wf.tr;simp only[St.tr];exact ar659 this
 ·show(st.lis.take lv).length≤1000
  rw[List.length_take];have:=pi.wf.li;simp only[St.lis];exact ar659 this
 ·rw[cut_tr,List.map_take];exact t.nd.sublist (List.take_sublist _ _)
 ·rw[vv l (take_nd l hl)];exact t.val l (memt l hl)
 ·show vals.getD i 0=0
  simp only[hz.2 i]
  split
  ·rfl
  ·rename_i hd
   apply t.off
   intro hm
   rw[← List.take_append_drop j st.tr,List.map_append,List.mem_append] at hm
   rcases hm with hm | hm
   ·exact hi' hm
   ·exact hd hm
 ·simp only[cut_lis] at hx
  have hx0:=List.mem_of_mem_take hx
  have:=(lis_take t hi hx0).mp hx
  have h0:=(t.ls x hx0).1
  simp only[cut_tr,List.length_take]
  exact⟨h0,by exact ar660 this (by assumption)⟩
 ·rw[cut_lis];exact t.lm.sublist (List.take_sublist _ _)
 ·simp only[cut_tr] at hl
  refine oa (take_get hl) fun hpj hl=>?_
  simp only[lvc p hpj]
  exact t.lv p l hl
 ·simp only[cut_tr] at hl
  refine oa (take_get hl) fun hpj hl=>?_
  simp only[lvc p hpj]
  rcases pi.re p l hl with ⟨z1,z2⟩ | ⟨k,c,z1,z2,z3,z4⟩
  ·refine .inl ⟨z1,z2.imp id fun z=>?_⟩
   simp only[cut_lis]
   exact(lis_take t hi z).mpr (by exact ar661 hpj)
  ·refine .inr ⟨k,c,z1,z2,z3,fun m hm hne=>?_⟩
   refine oea (z4 m hm hne) fun q hq hq2=>?_
   exact⟨q,hq,by rw[cut_tr,List.getElem?_take,if_pos (by exact ar531 hq hpj)];exact hq2⟩
 ·simp only[cut_tr] at ha
  refine oa (take_get ha) fun _ ha=>?_
  refine oea (pi.clo k c hk a b hpr q (by exact ar83 hq hjh) ha) fun q' h1 h2=>?_
  have hq'j:q'<j:=by
   rcases Nat.lt_or_ge q' j with e | e
   ·exact e
   ·have:=lev_ge t hi e
    have:=lev_lt t hi hq
    exact ar662 (by assumption) this h2
  refine⟨q',by rw[cut_tr,List.getElem?_take,if_pos hq'j];exact h1,?_⟩
  rw[lvc q' hq'j,lvc q hq];exact h2
 ·simp only[cut_tr] at hl
  refine oa (take_get hl) fun hpj hl=>?_
  simp only[lvc p hpj] at hlev
  exact pi.sd.tr M hM p l hl hlev
 ·rw[cut_tr,List.length_take];exact ar663 (by assumption)
 ·simp only[cut_lis] at hx
  have:=(lis_take t hi (List.mem_of_mem_take hx)).mp hx
  exact ar561 this
end
end
section
section
variable {F:List (List Int)} {st:St} {wat:List (List Int)} {h:Nat}
theorem PI.le_(pi:PI F st wat h)(t:PySem.Addr)(hl:st.learned.length<5000):PI F (st.le t) wat h:=
 ⟨le_wf pi.wf,pi.tr.fld rfl rfl,pi.re,pi.cz,pi.wt,pi.clo,⟨pi.sd.cl,pi.sd.tr,pi.sd.kp⟩,pi.hl,pi.lh,pi.ph,pi.nc,by simp[St.le];exact ar664 hl⟩
theorem PI.act(pi:PI F st wat h){a:List Int}{s:Int}(ha:a.length=st.count+1):PI F (st.act a s) wat h:=by
 have e:∀f,f≠.activity→(st.act a s).fld f=st.fld f:=fun f hf=>act_ne _ _ _ hf
 have et:(st.act a s).tr=st.tr:=e _ (by simp)
 have el:(st.act a s).lis=st.lis:=e _ (by simp)
 have ev:∀l,(st.act a s).v l=st.v l:=fun l=>by unfold St.v;rw[e _ (by simp)]
 have elev:∀p,(st.act a s).lev p=st.lev p:=fun p=>by unfold St.lev;rw[el]
 refine⟨act_wf pi.wf ha,⟨fun l hl=>?_,?_,fun l hl=>?_,fun i hi=>?_,fun x hx=>?_,?_,fun p l hl=>?_⟩,fun p l hl=>?_,pi.cz,pi.wt,fun k c hk x y hp q hq hx=>?_,⟨pi.sd.cl,fun M hM p l hl hp=>?_,pi.sd.kp⟩,?_,?_,?_,pi.nc,pi.le⟩
 ·rw[et] at hl;exact pi.tr.lit l hl
 ·rw[et];exact pi.tr.nd
 ·rw[et] at hl;rw[ev];exact pi.tr.val l hl
 ·rw[et] at hi;rw[e _ (by simp)];exact pi.tr.off i hi
 ·rw[el] at hx;rw[et];exact pi.tr.ls x hx
 ·rw[el];exact pi.tr.lm
 ·rw[et] at hl;rw[elev];unfold lvl;rw[e _ (by simp)];exact pi.tr.lv p l hl
 ·rw[et] at hl;rw[elev,el,e _ (by simp)]
  rcases pi.re p l hl with z | ⟨k,c,z1,z2,z3,z4⟩
  ·exact .inl z
  ·exact .inr ⟨k,c,z1,z2,z3,fun m hm hne=>by rw[et];exact z4 m hm hne⟩
 ·rw[et] at hx ⊢
  refine oea (pi.clo k c hk x y hp q hq hx) fun q' h1 h2=>?_
  exact⟨q',h1,by rw[elev,elev];exact h2⟩
 ·rw[et] at hl;rw[elev] at hp;exact pi.sd.tr M hM p l hl hp
 ·rw[et];exact pi.hl
 ·rw[el];exact pi.lh
 ·rw[e _ (by simp)];exact pi.ph
theorem PI.learn1(pi:PI F st wat h)(hlis:st.lis=[]){u:Int}(vu:Vl st u)(h0:st.v u=0)(hs:∀M,Mod F M→tv M u=true):PI F (st.assign u (-1)) wat h:=by
 have hsh:=pi.short
 refine⟨assign_wf pi.wf (by simp only[St.tr] at hsh;exact ar46 hsh),pi.tr.assign pi.wf vu h0,pi.re.assign pi.tr pi.wf vu h0 (.inl ⟨rfl,.inl (by rw[hlis];rfl)⟩),pi.cz,pi.wt,pi.clo.assign pi.hl,⟨pi.sd.cl,fun M hM p m hm hp=>?_,pi.sd.kp⟩,?_,?_,?_,pi.nc,pi.le⟩
 ·rw[as_lev] at hp
  rcases as_get hm with q | ⟨rfl,rfl⟩
  ·exact pi.sd.tr M hM p m q hp
  ·exact hs M hM
 ·have:=pi.hl
  simp only[St.tr,Bb,List.length_append,List.length_singleton] at this ⊢
  exact ar57 this
 ·simp only[St.lis,Bh];exact pi.lh
 ·rw[as_phases];exact pi.ph
theorem PI.learn2(pi:PI F st st.wat h)(hh:h=st.tr.length){u:Int}{r:List Int}(hr:r≠[])(vu:Vl st u)(hv:∀m∈u::r,Vl st m∧m.natAbs≠1)(hnd:((u::r).map Int.natAbs).Nodup)(h0:st.v u=0)(hf:∀m∈r,-m∈st.tr)
  (hq:∃q,st.tr[q]?=some (-(r.getD 0 0))∧st.lev q=st.lis.length) (hs:∀M,Mod F M→Sat M (u::r)) (hn:st.cls.length<5000) :
  PI F ((st.attach (u::r)).assign u st.cls.length) ((st.attach (u::r)).assign u st.cls.length).wat h:=by
 have hsh:=pi.short
 have hrl:0<r.length:=List.length_pos_iff.mpr hr
 have e1:(u::r).getD 1 0=r.getD 0 0:=rfl
 have r0m:r.getD 0 0∈r:=Ay hrl
 have vr0:=(hv _ (List.mem_cons_of_mem _ r0m)).1
 have s0:=Bq vu
 have s1:=Bq vr0
 have hwl:=pi.wf.wat
 have ne01:(Ag u).toNat≠(Ag (r.getD 0 0)).toNat:=fun e=>by
  have:=slot_inj vu vr0 e
  rw[List.map_cons,List.nodup_cons] at hnd
  exact hnd.1 (this▸List.mem_map_of_mem r0m)
 have rowA:∀s,(st.attach (u::r)).wat.getD s []=if s=(Ag (r.getD 0 0)).toNat then st.wat.getD s []++[(st.cls.length:Int)] else if s=(Ag u).toNat then st.wat.getD s []++[(st.cls.length:Int)] else st.wat.getD s []:=fun s=>by
  show((st.wat.set (Ag u).toNat (st.wat.getD (Ag u).toNat []++[(st.cls.length:Int)])).set (Ag (r.getD 0 0)).toNat ((st.wat.set (Ag u).toNat (st.wat.getD (Ag u).toNat []++[(st.cls.length:Int)])).getD (Ag (r.getD 0 0)).toNat []++[(st.cls.length:Int)])).getD s []=_
  rw[Bo (by rw[List.length_set,hwl];exact s1.2.1)]
  split
  ·rename_i e
   rw[Bo (by rw[hwl];exact s0.2.1),if_neg (Ne.symm ne01),e]
  ·rw[Bo (by rw[hwl];exact s0.2.1)]
   split
   ·rename_i e;rw[e]
   ·rfl
 have knew:∀s,(st.cls.length:Int)∉st.wat.getD s []:=fun s hm=>by
  refine B3 ((pi.wt.mem s _).mp hm) fun k c h1 h2 _=>?_
  have:=(List.getElem?_eq_some_iff.mp h2).1
  exact ar563 this h1
 have wt':Wt (st.cls++[u::r]) (st.attach (u::r)).wat:=by
  refine⟨fun s x=>?_,fun s=>?_⟩
  ·rw[rowA]
   have B:=pi.wt.mem s x
   have up:Wat st.cls s x→Wat (st.cls++[u::r]) s x:=fun⟨k,c,h1,h2,h3⟩=>⟨k,c,h1,by rw[List.getElem?_append_left (List.getElem?_eq_some_iff.mp h2).1];exact h2,h3⟩
   have newk:(st.cls++[u::r])[st.cls.length]?=some (u::r):=by simp
   constructor
   ·intro hx
    split at hx
    ·rename_i e
     rcases List.mem_append.mp hx with m | m
     ·exact up (B.mp m)
     ·rw[List.mem_singleton] at m
      exact⟨st.cls.length,u::r,m,newk,.inr (by rw[e1,e])⟩
    ·split at hx
     ·rename_i e
      rcases List.mem_append.mp hx with m | m
      ·exact up (B.mp m)
      ·rw[List.mem_singleton] at m
       exact⟨st.cls.length,u::r,m,newk,.inl (by rw[e];rfl)⟩
     ·exact up (B.mp hx)
   ·rintro⟨k,c,h1,h2,h3⟩
    rw[List.getElem?_append] at h2
    split at h2
    ·have:=B.mpr ⟨k,c,h1,h2,h3⟩
     split
     ·exact List.mem_append_left _ this
     ·split
      ·exact List.mem_append_left _ this
      ·exact this
    ·rename_i hk
     have:k-st.cls.length=0:=by
      induction e:k-st.cls.length using Nat.casesOn with
      | zero=>rfl
      | succ j=>rw[e] at h2;simp at h2
     rw[this] at h2
     simp at h2
     subst h2
     have hkk:k=st.cls.length:=by exact ar197 this hk
     subst hkk
     rcases h3 with h3 | h3
     ·have e:s=(Ag u).toNat:=h3.symm
      rw[if_neg (by rw[e];exact ne01),if_pos e]
      simp[h1]
     ·have e:s=(Ag (r.getD 0 0)).toNat:=h3.symm
      rw[if_pos e]
      simp[h1]
  ·rw[rowA]
   have nd2:(st.wat.getD s []++[(st.cls.length:Int)]).Nodup:=by
    rw[List.nodup_append]
    exact⟨pi.wt.nd s,by simp,fun a ha b hb e=>by simp at hb;subst hb;subst e;exact knew s ha⟩
   split
   ·exact nd2
   ·split
    ·exact nd2
    ·exact pi.wt.nd s
 have tr0:Tr (st.attach (u::r)):=pi.tr.fld rfl rfl
 have wf0:(st.attach (u::r)).Wf:=attach_wf pi.wf
 have re0:Re (st.attach (u::r)):=fun p l hl=>by
  rcases pi.re p l hl with z | ⟨k,c,z1,z2,z3,z4⟩
  ·exact .inl z
  ·exact .inr ⟨k,c,z1,by rw[Bv,List.getElem?_append_left (List.getElem?_eq_some_iff.mp z2).1];exact z2,z3,z4⟩
 have newk:(st.attach (u::r)).cls[st.cls.length]?=some (u::r):=by simp
 refine⟨assign_wf wf0 (by simp only[St.tr] at hsh;simp;lia),tr0.assign wf0 vu h0,re0.assign tr0 wf0 vu h0 (.inr ⟨st.cls.length,u::r,rfl,newk,List.mem_cons_self,fun m hm hne=>?_⟩),fun c hc=>?_,wt',fun k c hk a b hp q hq' ha=>?_,⟨fun M hM c hc=>?_,fun M hM p m hm hp=>?_,fun f hf=>?_⟩,?_,?_,?_,?_,pi.le⟩
 ·rcases List.mem_cons.mp hm with e | hm
  ·exact absurd e hne
  ·exact hf m hm
 ·simp only[as_cls,Bv,List.mem_append,List.mem_singleton] at hc
  rcases hc with hc | rfl
  ·exact pi.cz c hc
  ·exact⟨by simp;exact ar665 hrl,hv,hnd⟩
 ·have hlt:q<st.tr.length:=by exact ar226 hq' hh
  have hk:(st.cls++[u::r])[k]?=some c:=hk
  have ha':st.tr[q]?=some (-a):=by
   rcases as_get ha with z | ⟨z,_⟩
   ·exact z
   ·have:(st.attach (u::r)).tr=st.tr:=rfl
    rw[this] at z;lia
  rw[List.getElem?_append] at hk
  split at hk
  ·refine oea (pi.clo k c hk a b hp q hq' ha') fun q' h1 h2=>?_
   exact⟨q',as_old h1,by rw[as_lev,as_lev];exact h2⟩
  ·rename_i hkl
   have:k-st.cls.length=0:=by
    induction e:k-st.cls.length using Nat.casesOn with
    | zero=>rfl
    | succ j=>rw[e] at hk;simp at hk
   rw[this] at hk
   simp at hk
   subst hk
   rcases hp with ⟨e,e2⟩ | ⟨e,e2⟩
   ·exfalso
    have e:a=u:=e
    subst e
    have:=pi.tr.val _ (List.mem_of_getElem? ha')
    rw[v_neg st vu.1,h0] at this
    lia
   ·have eA:a=r.getD 0 0:=e
    have e2:b=u:=e2
    subst e2
    refine oea hq fun q2 hq2 hq3=>?_
    have:=tr_inj pi.tr ha' hq2 (by rw[eA])
    subst this
    refine⟨st.tr.length,as_new,?_⟩
    rw[as_lev,as_lev]
    show st.lev _≤st.lev q
    rw[hq3];exact lev_le
 ·simp only[as_cls,Bv,List.mem_append,List.mem_singleton] at hc
  rcases hc with hc | rfl
  ·exact pi.sd.cl M hM c hc
  ·exact hs M hM
 ·rw[as_lev] at hp
  change st.lev p=0 at hp
  rcases as_get hm with z | ⟨z,rfl⟩
  ·exact pi.sd.tr M hM p m z hp
  ·have z:p=st.tr.length:=z
   rw[lev_top pi.tr (fun x hx=>by have:=(pi.tr.ls x hx).2;exact ar666 this z)] at hp
   refine oea (hs M hM) fun y hy hyt=>?_
   rcases List.mem_cons.mp hy with e | hy
   ·exact e▸hyt
   ·refine oe (List.getElem?_of_mem (hf y hy)) fun q hq=>?_
    have:=pi.sd.tr M hM q _ hq (by have:=lev_le (st:=st) (p:=q);exact ar562 hp this)
    rw[tv_neg M (hv y (List.mem_cons_of_mem _ hy)).1.1,hyt] at this
    cases this
 ·refine oea (pi.sd.kp f hf) fun c hc hc2=>?_
  exact⟨c,by simp[hc],hc2⟩
 ·simp only[St.tr,Bb,List.length_append,List.length_singleton]
  show h≤st.tr.length+1
  exact ar667 hh
 ·simp only[St.lis,Bh];exact pi.lh
 ·rw[as_phases];exact pi.ph
 ·simp;exact ar664 hn
end
end
section
noncomputable def nIn(inp:List Nat)(α:List Int):Nat:=inp.countP (fun v=>Decidable.decide (v∉α.map Int.natAbs))
noncomputable def Clsd(F:List (List Int))(α:List Int):Prop:=∀f∈F,(∃l∈f,l∈α)∨(∃l₁∈f,∃l₂∈f,l₁≠l₂∧l₁.natAbs∉α.map Int.natAbs∧l₂.natAbs∉α.map Int.natAbs)
noncomputable def Cons(cnt:Nat)(α:List Int):Prop:=(α.map Int.natAbs).Nodup∧∀l∈α,l≠0∧l.natAbs≤cnt
structure KP (F:List (List Int)) (inp:List Nat) (cnt:Nat):Prop where
 c7:inp.length≤7
 n1:1∉inp
 k1:∀α,Cons cnt α→Clsd F α→nIn inp α=0→∀v,2≤v→v≤cnt→v∈α.map Int.natAbs
 k2:∀α β,Cons cnt α→Cons cnt β→Clsd F α→Clsd F β→(∀l∈α,l∈β)→∀v,2≤v→v≤cnt→v∉α.map Int.natAbs→v∈β.map Int.natAbs→nIn inp β<nIn inp α
structure Bud (F:List (List Int)) (inp:List Nat) (st:St) (since:Nat) (bs:List Nat) (x:Nat):Prop where
 len:bs.length=st.lis.length
 sum:since+bs.sum+x≤128
 pos:1≤x
 top:∀β,Cons st.count β→Clsd F β→(∀l∈st.tr,l∈β)→2^(nIn inp β)≤x
 pre:∀(i j:Nat) (d:Int),st.lis[i]?=some (j:Int)→st.tr[j]?=some d→Clsd F (st.tr.take j)∧((d.natAbs≠1∧1≤nIn inp (st.tr.take j)∧2^(nIn inp (st.tr.take j)-1)≤bs.getD i 0)∨
  (d.natAbs=1∧(st.lis[i+1]?=some ((j+1:Nat):Int)∨(i+1=st.lis.length∧st.tr.length=j+1))))
section
variable {F:List (List Int)} {inp:List Nat} {st st':St} {wat:List (List Int)} {h:Nat} {since x:Nat} {bs:List Nat}
theorem Tr.cons(t:Tr st):Cons st.count st.tr:=⟨t.nd,fun l hl=>t.lit l hl⟩
theorem cons_take{cnt:Nat}{α:List Int}(c:Cons cnt α)(j:Nat):Cons cnt (α.take j):=⟨by rw[List.map_take];exact c.1.sublist (List.take_sublist _ _),fun l hl=>c.2 l (List.mem_of_mem_take hl)⟩
theorem nIn_le{α β:List Int}(hs:∀l∈α,l∈β):nIn inp β≤nIn inp α:=by
 unfold nIn
 apply List.countP_mono_left
 intro v _ hv
 simp only[decide_eq_true_eq] at hv ⊢
 intro hm
 apply hv
 refine oea (List.mem_map.mp hm) fun l hl z2_=>?_;subst z2_
 exact List.mem_map_of_mem (hs l hl)
theorem nIn_7(k:KP F inp st.count)(α:List Int):nIn inp α≤7:=Nat.le_trans List.countP_le_length k.c7
theorem clsd_of(pi:PI F st wat st.tr.length):Clsd F st.tr:=by
 intro f hf
 refine oea (pi.sd.kp f hf) fun c hc hcf=>?_
 refine oe (List.getElem?_of_mem hc) fun k hk=>?_
 refine oa2 (pi.cz c hc) fun hcl hcv hcn=>?_
 have m0:c.getD 0 0∈c:=Ay (by exact ar5 hcl)
 have m1:c.getD 1 0∈c:=Ay (by exact ar13 hcl)
 have key:∀a b,Pair c a b→a∈c→b∈c→a.natAbs∈st.tr.map Int.natAbs→∃l∈f,l∈st.tr:=by
  intro a b hp ha hb hm
  refine oea (List.mem_map.mp hm) fun l hl hla=>?_
  rcases B9 hla with e | e
  ·exact⟨a,(hcf a).mp ha,e▸hl⟩
  ·refine oe (List.getElem?_of_mem hl) fun q hq=>?_
   refine oea (pi.clo k c hk a b hp q (List.getElem?_eq_some_iff.mp hq).1 (e▸hq)) fun q' h1 _=>?_
   exact⟨b,(hcf b).mp hb,List.mem_of_getElem? h1⟩
 by_cases h0:(c.getD 0 0).natAbs∈st.tr.map Int.natAbs
 ·exact .inl (key _ _ (.inl ⟨rfl,rfl⟩) m0 m1 h0)
 ·by_cases h1:(c.getD 1 0).natAbs∈st.tr.map Int.natAbs
  ·exact .inl (key _ _ (.inr ⟨rfl,rfl⟩) m1 m0 h1)
  ·refine .inr ⟨c.getD 0 0,(hcf _).mp m0,c.getD 1 0,(hcf _).mp m1,fun e=>?_,h0,h1⟩
   exact nodup_ne hcn (i:=0) (j:=1) (by lia) (by lia) (by exact ar564) (by rw[e])
theorem Bud.fresh(k:KP F inp st.count)(hl:st.lis=[]):Bud F inp st 0 [] 128:=by
 refine⟨by rw[hl];rfl,by simp,by exact ar668,fun β _ _ _=>?_,fun i j d hi=>by rw[hl] at hi;simp at hi⟩
 have:=Nat.pow_le_pow_right (n:=2) (by exact ar292) (nIn_7 k β)
 exact this
theorem Bud.grow(b:Bud F inp st since bs x)(t:Tr st)(g:Grow st st')(lh:∀y∈st.lis,y≤(h:Int))(hco:COnly st h→st'.tr=st.tr):Bud F inp st' since bs x:=by
 refine oe g.tr fun e he=>?_
 refine⟨by rw[g.lis];exact b.len,b.sum,b.pos,fun β h1 h2 h3=>b.top β (by rw[← g.cnt];exact h1) h2 fun l hl=>h3 l (g.mem hl),fun i j d hi hd=>?_⟩
 rw[g.lis] at hi ⊢
 refine oa (t.ls _ (List.mem_of_getElem? hi)) fun _ hj=>?_
 have hj:j<st.tr.length:=by exact ar63 hj
 have hd':st.tr[j]?=some d:=by rw[he,List.getElem?_append_left hj] at hd;exact hd
 have htk:st'.tr.take j=st.tr.take j:=by rw[he,List.take_append_of_le_length (by exact ar669 (by assumption))]
 rw[htk]
 refine oa (b.pre i j d hi hd') fun p1 p2=>?_
 refine⟨p1,p2.imp id fun⟨z1,z2⟩=>⟨z1,z2.imp id fun⟨w1,w2⟩=>⟨w1,?_⟩⟩⟩
 rw[hco,w2]
 intro p l hp hl
 have hjh:=lh _ (List.mem_of_getElem? hi)
 have hpl:=(List.getElem?_eq_some_iff.mp hl).1
 have:p=j:=by exact ar670 hpl hp hjh (by assumption)
 subst this
 rw[hd'] at hl;cases hl;exact z1
theorem sum_set_last(bs:List Nat):True:=trivial
theorem Bud.decide(k:KP F inp st.count)(b:Bud F inp st since bs x)(t:Tr st)(hc:Clsd F st.tr){d:Int}(vd:Vl st d)(hd:d.natAbs∉st.tr.map Int.natAbs):∃bs' x',Bud F inp (st.decide d) since bs' x':=by
 have htr:(st.decide d).tr=st.tr++[d]:=by simp only[St.tr,St.decide,Bb,An _ _ (show IF.trail≠IF.limits by simp)]
 have hlis:(st.decide d).lis=st.lis++[(st.tr.length:Int)]:=by simp only[St.lis,St.decide,Bh,upd_self]
 have hcnt:(st.decide d).count=st.count:=rfl
 have htop:=b.top st.tr t.cons hc (fun _ h=>h)
 have old:∀(i j:Nat) (e:Int),st.lis[i]?=some (j:Int)→(st.decide d).tr[j]?=some e→st.tr[j]?=some e∧(st.decide d).tr.take j=st.tr.take j:=fun i j e hi he=>by
  refine oa (t.ls _ (List.mem_of_getElem? hi)) fun _ hj=>?_
  have hj:j<st.tr.length:=by lia
  rw[htr] at he ⊢
  rw[List.getElem?_append_left hj] at he
  exact⟨he,List.take_append_of_le_length (by lia)⟩
 have pre:∀(w z:Nat),((d.natAbs≠1∧1≤nIn inp st.tr∧2^(nIn inp st.tr-1)≤w)∨d.natAbs=1)→∀(i j:Nat) (e:Int),(st.decide d).lis[i]?=some (j:Int)→(st.decide d).tr[j]?=some e→Clsd F ((st.decide d).tr.take j)∧((e.natAbs≠1∧1≤nIn inp ((st.decide d).tr.take j)∧2^(nIn inp ((st.decide d).tr.take j)-1)≤(bs++[w]).getD i 0)∨
  (e.natAbs=1∧((st.decide d).lis[i+1]?=some ((j+1:Nat):Int)∨(i+1=(st.decide d).lis.length∧(st.decide d).tr.length=j+1)))):=by
  intro w z hw i j e hi he
  rw[hlis] at hi
  by_cases hil:i<st.lis.length
  ·rw[List.getElem?_append_left hil] at hi
   refine oa (old i j e hi he) fun h1 h2=>?_
   rw[h2]
   refine oa (b.pre i j e hi h1) fun p1 p2=>?_
   refine⟨p1,?_⟩
   rcases p2 with ⟨z1,z2,z3⟩ | ⟨z1,z2⟩
   ·left
    refine⟨z1,z2,?_⟩
    rw[List.getD_eq_getElem?_getD,List.getElem?_append_left (by rw[b.len];exact hil),← List.getD_eq_getElem?_getD]
    exact z3
   ·right
    refine⟨z1,?_⟩
    left
    rw[hlis]
    rcases z2 with z2 | ⟨z2,z3⟩
    ·rw[List.getElem?_append_left (List.getElem?_eq_some_iff.mp z2).1];exact z2
    ·rw[List.getElem?_append_right (by exact ar671 z2),z2]
     simp[z3]
  ·have:i=st.lis.length:=by
    have:=(List.getElem?_eq_some_iff.mp hi).1
    simp at this;exact ar672 this hil
   subst this
   rw[List.getElem?_append_right (Nat.le_refl _)] at hi
   simp at hi
   have hj:j=st.tr.length:=by exact ar673 hi
   subst hj
   have hed:e=d:=by rw[htr] at he;simp at he;exact he.symm
   subst hed
   have htk:(st.decide e).tr.take st.tr.length=st.tr:=by rw[htr,List.take_append_of_le_length (Nat.le_refl _),List.take_length]
   rw[htk]
   refine⟨hc,hw.imp (fun⟨z1,z2,z3⟩=>⟨z1,z2,?_⟩) fun z1=>⟨z1,.inr ⟨by rw[hlis];simp,by rw[htr];simp⟩⟩⟩
   rw[List.getD_eq_getElem?_getD,List.getElem?_append_right (by rw[b.len];exact Nat.le_refl _),b.len]
   simpa using z3
 have hbl:∀w,(bs++[w]).length=(st.decide d).lis.length:=fun w=>by rw[hlis];simp[b.len]
 by_cases hd1:d.natAbs=1
 ·refine⟨bs++[0],x,hbl 0,by have:=b.sum;simp;exact ar674 this,b.pos,fun β h1 h2 h3=>b.top β h1 h2 fun l hl=>h3 l (by rw[htr];exact List.mem_append_left _ hl),pre 0 0 (.inr hd1)⟩
 ·have v2:2≤d.natAbs:=by have:=vd.1;exact ar675 this hd1
  have n1:1≤nIn inp st.tr:=by
   rcases Nat.eq_zero_or_pos (nIn inp st.tr) with e | e
   ·exact absurd (k.k1 st.tr t.cons hc e d.natAbs v2 vd.2) hd
   ·exact e
  have hpow:2^nIn inp st.tr=2^(nIn inp st.tr-1)+2^(nIn inp st.tr-1):=by
   obtain⟨m,hm⟩:∃m,nIn inp st.tr=m+1:=⟨nIn inp st.tr-1,by exact ar676 n1⟩
   rw[hm,Nat.pow_succ];simp;exact ar395
  refine⟨bs++[2^(nIn inp st.tr-1)],2^(nIn inp st.tr-1),hbl _,by have:=b.sum;simp;exact ar677 hpow htop this,Nat.one_le_two_pow,fun β h1 h2 h3=>?_,pre _ 0 (.inl ⟨hd1,n1,Nat.le_refl _⟩)⟩
  have hin:∀l∈st.tr,l∈β:=fun l hl=>h3 l (by rw[htr];exact List.mem_append_left _ hl)
  have:=k.k2 st.tr β t.cons h1 hc h2 hin d.natAbs v2 vd.2 hd (List.mem_map_of_mem (h3 d (by rw[htr];simp)))
  exact Nat.pow_le_pow_right (by lia) (by exact ar85 this)
end
end
section
theorem sum_at{bs:List Nat}{i:Nat}(hi:i<bs.length):(bs.take i).sum+bs.getD i 0≤bs.sum:=by
 conv=>rhs;rw[← List.take_append_drop i bs]
 simp only[List.sum_append,List.drop_eq_getElem_cons hi,List.sum_cons,List.getD_eq_getElem?_getD,List.getElem?_eq_getElem hi]
 show _+bs[i]≤_
 exact ar678
theorem sum_at2{bs:List Nat}{i:Nat}(hi:i+1<bs.length):(bs.take i).sum+bs.getD (i+1) 0≤bs.sum:=by
 have h1:=sum_at hi
 have h2:(bs.take i).sum≤(bs.take (i+1)).sum:=by
  rw[List.take_add_one,List.sum_append];exact ar679
 exact ar680 h2 h1
theorem two_le{st:St}{u:Int}(vu:Vl st u)(u1:u.natAbs≠1):2≤u.natAbs:=by have:=vu.1;exact ar681 this u1
section
variable {F:List (List Int)} {inp:List Nat} {st st':St} {wat:List (List Int)} {h:Nat} {since x:Nat} {bs:List Nat}
theorem Bud.back(k:KP F inp st.count)(b:Bud F inp st since bs x)(t:Tr st){lv j:Nat}(hi:st.lis[lv]?=some (j:Int))(hno:∀(i j':Nat) (d:Int),i+1=st.lis.length→st.lis[i]?=some (j':Int)→st.tr[j']?=some d→d.natAbs=1→st.tr.length=j'+1→False)
  {u:Int} (vu:Vl st u) (u1:u.natAbs≠1) (hu:u.natAbs∉(st.tr.take j).map Int.natAbs) (hlv:1≤lv→∃q m,st.tr[q]?=some m∧st.lev q=lv∧m.natAbs≠1)
  (h1:st'.lis=st.lis.take lv) (h2:st'.tr=st.tr.take j++[u]) (h3:st'.count=st.count):∃bs' x',Bud F inp st' (since+1) bs' x':=by
 have hil:=(List.getElem?_eq_some_iff.mp hi).1
 refine oa (t.ls _ (List.mem_of_getElem? hi)) fun _ hj=>?_
 have hj:j<st.tr.length:=by exact ar63 hj
 have hd:st.tr[j]?=some st.tr[j]:=List.getElem?_eq_getElem hj
 have v2:2≤u.natAbs:=two_le vu u1
 have hbl:=b.len
 have ltake:(st.tr.take j).length=j:=by rw[List.length_take];exact ar682 (by assumption)
 have pre:∀(i ji:Nat) (d:Int),st'.lis[i]?=some (ji:Int)→st'.tr[ji]?=some d→Clsd F (st'.tr.take ji)∧((d.natAbs≠1∧1≤nIn inp (st'.tr.take ji)∧2^(nIn inp (st'.tr.take ji)-1)≤(bs.take lv).getD i 0)∨
  (d.natAbs=1∧(st'.lis[i+1]?=some ((ji+1:Nat):Int)∨(i+1=st'.lis.length∧st'.tr.length=ji+1)))):=by
  intro i ji d hi' hd'
  rw[h1] at hi'
  rw[List.getElem?_take] at hi'
  split at hi'
  ·rename_i hilv
   have hlt:=lis_lt t hi' hi hilv
   have hji:ji<j:=by exact ar63 hlt
   have hd0:st.tr[ji]?=some d:=by
    rw[h2,List.getElem?_append_left (by exact ar683 ltake hlt),List.getElem?_take,if_pos hji] at hd';exact hd'
   have htk:st'.tr.take ji=st.tr.take ji:=by
    rw[h2,List.take_append_of_le_length (by exact ar684 ltake hlt),List.take_take,Nat.min_eq_left (by exact ar669 hlt)]
   rw[htk]
   refine oa (b.pre i ji d hi' hd0) fun p1 p2=>?_
   refine⟨p1,?_⟩
   rcases p2 with ⟨z1,z2,z3⟩ | ⟨z1,z2⟩
   ·left
    refine⟨z1,z2,?_⟩
    rw[List.getD_eq_getElem?_getD,List.getElem?_take,if_pos hilv,← List.getD_eq_getElem?_getD];exact z3
   ·right
    refine⟨z1,.inl ?_⟩
    have z2:st.lis[i+1]?=some ((ji+1:Nat):Int):=by
     rcases z2 with z2 | ⟨z2,_⟩
     ·exact z2
     ·lia
    rw[h1,List.getElem?_take]
    rw[if_pos]
    ·exact z2
    ·rcases Nat.lt_or_ge (i+1) lv with e | e
     ·exact e
     ·exfalso
      have e:i+1=lv:=by exact ar685 e hilv
      rw[e,hi] at z2
      have hjj:j=ji+1:=by have:=Option.some.inj z2;lia
      refine B3 (hlv (by exact ar686 hilv)) fun q m hq1 hq2 hq3=>?_
      have a1:ji≤q:=by
       rcases Nat.lt_or_ge q ji with e2 | e2
       ·have:=lev_lt t hi' e2;exact ar687 hilv hq2 this
       ·exact e2
      have a2:q<j:=by
       rcases Nat.lt_or_ge q j with e2 | e2
       ·exact e2
       ·have:=lev_ge t hi e2;exact ar166 this hq2
      have:q=ji:=by lia
      subst this
      rw[hd0] at hq1;cases hq1
      exact hq3 z1
  ·cases hi'
 have fin:∀y:Nat,(bs.take lv).sum+y≤bs.sum→1≤nIn inp (st.tr.take j)→2^(nIn inp (st.tr.take j)-1)≤y→Clsd F (st.tr.take j)→Bud F inp st' (since+1) (bs.take lv) y:=by
  intro y hy n1 hy2 hcl
  refine⟨by rw[h1,List.length_take,List.length_take,hbl],by have:=b.sum;have:=b.pos;exact ar688 this (by assumption) hy,Nat.le_trans Nat.one_le_two_pow hy2,fun β c1 c2 c3=>?_,pre⟩
  rw[h3] at c1
  have hin:∀l∈st.tr.take j,l∈β:=fun l hl=>c3 l (by rw[h2];exact List.mem_append_left _ hl)
  have:=k.k2 (st.tr.take j) β (cons_take t.cons j) c1 hcl c2 hin u.natAbs v2 vu.2 hu (List.mem_map_of_mem (c3 u (by rw[h2];simp)))
  exact Nat.le_trans (Nat.pow_le_pow_right (by exact ar292) (by exact ar85 this)) hy2
 refine oa (b.pre lv j _ hi hd) fun p1 p2=>?_
 rcases p2 with ⟨z1,z2,z3⟩ | ⟨z1,z2⟩
 ·exact⟨_,_,fin _ (sum_at (by exact ar225 hil hbl)) z2 z3 p1⟩
 ·have z2:st.lis[lv+1]?=some ((j+1:Nat):Int):=by
   rcases z2 with z2 | ⟨z2,z3⟩
   ·exact z2
   ·exact(hno lv j _ z2 hi hd z1 z3).elim
  have hl2:=(List.getElem?_eq_some_iff.mp z2).1
  refine oa (t.ls _ (List.mem_of_getElem? z2)) fun _ hj2=>?_
  have hj2:j+1<st.tr.length:=by exact ar689 hj2
  have hd2:st.tr[j+1]?=some st.tr[j+1]:=List.getElem?_eq_getElem hj2
  have ne:(st.tr[j+1]).natAbs≠1:=fun e=>by
   have:=tr_inj t hd hd2 (by rw[z1,e])
   exact ar690 this
  refine oa (b.pre (lv+1) (j+1) _ z2 hd2) fun q1 q2=>?_
  have q2:=q2.resolve_right (fun z=>ne z.1)
  have same:nIn inp (st.tr.take (j+1))=nIn inp (st.tr.take j):=by
   unfold nIn
   apply List.countP_congr
   intro v hv
   rw[List.take_add_one,hd]
   simp only[Option.toList,List.map_append,List.map_cons,List.map_nil,List.mem_append,List.mem_singleton,decide_eq_true_eq]
   have hv1:v≠(st.tr[j]).natAbs:=fun e=>k.n1 (by rw[e,z1] at hv;exact hv)
   simp[hv1]
  rw[same] at q2
  exact⟨_,_,fin _ (sum_at2 (by exact ar691 hl2 hbl)) q2.2.1 q2.2.2 p1⟩
theorem Bud.lt(b:Bud F inp st since bs x):since≤127:=by have:=b.sum;have:=b.pos;exact ar692 this (by assumption)
end
end
section
section
variable {F:List (List Int)} {inp:List Nat} {st st':St} {wat:List (List Int)} {h:Nat}
theorem dec_fld{d:Int}{f:IF}(h:f≠.limits)(h2:f≠.levels):(st.decide d).fld f=(st.assign d (-1)).fld f:=by
 unfold St.decide St.assign St.upd
 induction f using IF.casesOn <;> first | exact absurd rfl h | exact absurd rfl h2 | simp
theorem dec_lis(d:Int):(st.decide d).lis=st.lis++[(st.tr.length:Int)]:=by simp only[St.lis,St.decide,Bh,upd_self]
theorem dec_tr(d:Int):(st.decide d).tr=st.tr++[d]:=by simp only[St.tr,St.decide,Bb,An _ _ (show IF.trail≠IF.limits by simp)]
theorem dec_levels(d:Int):(st.decide d).fld .levels=(st.fld .levels).set d.natAbs (st.lis.length+1:Nat):=by
 simp[St.decide,as_levels,An,St.lis]
theorem dec_lev_old(d:Int){p:Nat}(hp:p<st.tr.length):(st.decide d).lev p=st.lev p:=by
 unfold St.lev
 simp only[dec_lis,List.countP_append]
 simp;omega
theorem dec_lev_new(t:Tr st)(d:Int):(st.decide d).lev st.tr.length=st.lis.length+1:=by
 unfold St.lev
 simp only[dec_lis,List.countP_append]
 have:=lev_top t (p:=st.tr.length) (fun x hx=>by have:=(t.ls x hx).2;exact ar561 this)
 unfold St.lev at this
 rw[this];simp
theorem dec_get(d:Int){p:Nat}{l:Int}(h:(st.decide d).tr[p]?=some l):(p<st.tr.length∧st.tr[p]?=some l)∨(p=st.tr.length∧l=d):=by
 rw[dec_tr,List.getElem?_append] at h
 split at h
 ·rename_i q;exact .inl ⟨q,h⟩
 ·rename_i q
  have:p-st.tr.length=0:=by
   induction e:p-st.tr.length using Nat.casesOn with
   | zero=>rfl
   | succ j=>rw[e] at h;simp at h
  rw[this] at h
  simp at h
  exact .inr ⟨by exact ar197 this q,h.symm⟩
theorem dec_old(d:Int){p:Nat}{l:Int}(h:st.tr[p]?=some l):(st.decide d).tr[p]?=some l:=by
 rw[dec_tr,List.getElem?_append_left (List.getElem?_eq_some_iff.mp h).1];exact h
theorem dec_v(d l:Int):(st.decide d).v l=(st.assign d (-1)).v l:=by unfold St.v;rw[dec_fld (by simp) (by simp)]
theorem PI.decide(pi:PI F st wat st.tr.length){d:Int}(vd:Vl st d)(h0:st.v d=0)(hl:st.lis.length<900):PI F (st.decide d) wat st.tr.length:=by
 have t:=pi.tr
 have hsh:=pi.short
 have ta:=t.assign (r:=-1) pi.wf vd h0
 have hn:=t.zero vd h0
 have wa:=assign_wf (l:=d) (r:=-1) pi.wf (by simp only[St.tr] at hsh;exact ar46 hsh)
 have hlv:=pi.wf.len .levels (by simp) (by simp)
 refine⟨⟨pi.wf.cnt,fun f h1 h2=>?_,pi.wf.wat,?_,?_⟩,⟨fun l hl=>?_,?_,fun l hl=>?_,fun i hi=>?_,fun x hx=>?_,?_,fun p l hl=>?_⟩,fun p l hl=>?_,pi.cz,pi.wt,fun k c hk a b hp q hq ha=>?_,⟨pi.sd.cl,fun M hM p l hl hp=>?_,pi.sd.kp⟩,?_,fun x hx=>?_,?_,pi.nc,pi.le⟩
 ·by_cases e:f=.levels
  ·subst e;rw[dec_levels,List.length_set];exact hlv
  ·rw[dec_fld h2 e];exact wa.len f h1 h2
 ·rw[show(st.decide d).fld .trail=st.tr++[d] from dec_tr d];simp;lia
 ·rw[show(st.decide d).fld .limits=st.lis++[(st.tr.length:Int)] from dec_lis d];simp;exact ar693 hl
 ·exact ta.lit l (by simp only[St.tr] at hl ⊢;rw[dec_fld (by simp) (by simp)] at hl;exact hl)
 ·simp only[St.tr];rw[dec_fld (by simp) (by simp)];exact ta.nd
 ·rw[dec_v];exact ta.val l (by simp only[St.tr] at hl ⊢;rw[dec_fld (by simp) (by simp)] at hl;exact hl)
 ·rw[dec_fld (by simp) (by simp)];exact ta.off i (by simp only[St.tr] at hi ⊢;rw[dec_fld (by simp) (by simp)] at hi;exact hi)
 ·rw[dec_lis,List.mem_append,List.mem_singleton] at hx
  rw[dec_tr,List.length_append,List.length_singleton]
  rcases hx with hx | rfl
  ·have:=t.ls x hx;exact ar694 this
  ·exact ar695
 ·rw[dec_lis,List.pairwise_append]
  exact⟨t.lm,by simp,fun a ha b hb=>by rw[List.mem_singleton] at hb;subst hb;exact(t.ls a ha).2⟩
 ·unfold lvl
  rw[dec_levels]
  rcases dec_get d hl with ⟨q,h1⟩ | ⟨rfl,rfl⟩
  ·rw[dec_lev_old d q]
   have:l.natAbs≠d.natAbs:=fun e=>hn (e▸List.mem_map_of_mem (List.mem_of_getElem? h1))
   rw[List.getD_eq_getElem?_getD,List.getElem?_set_ne (Ne.symm this),← List.getD_eq_getElem?_getD]
   exact t.lv p l h1
  ·rw[dec_lev_new t,List.getD_eq_getElem?_getD,List.getElem?_set_self (by have:=vd.2;exact ar32 this hlv)];rfl
 ·rw[dec_fld (by simp) (by simp),as_reasons,dec_lis]
  rcases dec_get d hl with ⟨q,h1⟩ | ⟨rfl,rfl⟩
  ·rw[dec_lev_old d q]
   have:l.natAbs≠d.natAbs:=fun e=>hn (e▸List.mem_map_of_mem (List.mem_of_getElem? h1))
   rw[List.getD_eq_getElem?_getD,List.getElem?_set_ne (Ne.symm this),← List.getD_eq_getElem?_getD]
   rcases pi.re p l h1 with ⟨z1,z2⟩ | ⟨k,c,z1,z2,z3,z4⟩
   ·exact .inl ⟨z1,z2.imp id fun z=>List.mem_append_left _ z⟩
   ·refine .inr ⟨k,c,z1,z2,z3,fun m hm hne=>?_⟩
    refine oea (z4 m hm hne) fun q hq hq2=>?_
    exact⟨q,hq,dec_old d hq2⟩
  ·have hrl:=pi.wf.len .reasons (by simp) (by simp)
   rw[List.getD_eq_getElem?_getD,List.getElem?_set_self (by have:=vd.2;exact ar32 this hrl)]
   exact .inl ⟨rfl,.inr (by simp)⟩
 ·rcases dec_get d ha with ⟨_,h1⟩ | ⟨z,_⟩
  ·refine oea (pi.clo k c hk a b hp q hq h1) fun q' h2 h3=>?_
   exact⟨q',dec_old d h2,by rw[dec_lev_old d (List.getElem?_eq_some_iff.mp h2).1,dec_lev_old d hq];exact h3⟩
  ·lia
 ·rcases dec_get d hl with ⟨q,h1⟩ | ⟨rfl,rfl⟩
  ·rw[dec_lev_old d q] at hp
   exact pi.sd.tr M hM p l h1 hp
  ·rw[dec_lev_new t] at hp;lia
 ·rw[dec_tr];simp
 ·rw[dec_lis,List.mem_append,List.mem_singleton] at hx
  rcases hx with hx | rfl
  ·have:=(t.ls x hx).2;lia
  ·exact Int.le_refl _
 ·rw[dec_fld (by simp) (by simp),as_phases];exact pi.ph
theorem PI.cutOk(pi:PI F st wat h):CutOk st:=by
 refine⟨fun i hi=>?_,fun l hl=>?_,pi.tr.nd,pi.ph⟩
 ·refine oea (lis_get pi.tr hi) fun j h1 h2=>?_
  refine⟨j,?_,Nat.le_of_lt h2⟩
  simp only[List.getD_eq_getElem?_getD]
  have h1:(st.fld .limits)[i]?=some (j:Int):=h1
  rw[h1];rfl
 ·have h1:=pi.tr.lit l hl
  refine⟨h1.2,?_⟩
  have h2:=pi.tr.val l hl
  unfold St.v at h2
  split at h2
  ·right;exact ar42 h2
  ·left;exact h2
theorem PI.model(pi:PI F st wat st.tr.length)(ha:∀v,1≤v→v≤st.count→(st.fld .values).getD v 0≠0)(hF:∀f∈F,∀l∈f,Vl st l):Mod F (fun v=>Decidable.decide ((st.fld .values).getD v 0=1)):=by
 intro f hf
 have all:∀l,Vl st l→l.natAbs∈st.tr.map Int.natAbs:=fun l hl=>by
  by_cases e:l.natAbs∈st.tr.map Int.natAbs
  ·exact e
  ·exact absurd (pi.tr.off _ e) (ha _ (by have:=hl.1;exact ar696 this) hl.2)
 rcases clsd_of pi f hf with ⟨l,h1,h2⟩ | ⟨l1,h1,l2,h2,h3,h4,h5⟩
 ·refine⟨l,h1,?_⟩
  have:=pi.tr.val l h2
  unfold St.v at this
  unfold tv
  split
  ·rename_i hneg
   rw[if_pos hneg] at this
   simp only[Bool.not_eq_true',decide_eq_false_iff_not]
   exact ar697 this
  ·rename_i hneg
   rw[if_neg hneg] at this
   simpa using this
 ·exact absurd (all l1 (hF f hf l1 h1)) h4
theorem PI.none(pi:PI F st wat h)(hl:st.lis=[]){k:Nat}{c:List Int}(hk:st.cls[k]?=some c)(hv:∀l∈c,st.v l<0):∀M,¬ Mod F M:=by
 intro M hM
 refine oea (pi.sd.cl M hM c (List.mem_of_getElem? hk)) fun y hy hyt=>?_
 have vy:=((pi.cz c (List.mem_of_getElem? hk)).2.1 y hy).1
 refine oe (List.getElem?_of_mem (pi.tr.neg vy (hv y hy))) fun q hq=>?_
 have:=pi.sd.tr M hM q _ hq (by have:=lev_le (st:=st) (p:=q);rw[hl] at this;simpa using this)
 rw[tv_neg M vy.1,hyt] at this
 cases this
end
end
section
section
variable {F:List (List Int)} {Fm H:CH} {S:Ad} {st st':St} {B:Base} {n:Nat} {Q:CV→CH→Prop}
noncomputable def lub:Nat→Int
 | 3 | 6=>2
 | 7=>4
 | _=>1
theorem ft_luby(C:Cx B)(hn:1≤n){t:Nat}(h1:1≤t)(h7:t≤7)(q:Q (.int (lub t)) H):FT B fA n .luby [.int t] H Q:=by
 refine C.call (by exact ar19 hn) rfl ?_
 refine wsc ?_
 dsimp[-Aa]
 refine wsc ?_
 obtain⟨I,hI⟩:∃I:Nat→CS→Prop,∀m σ,I m σ↔(∃(r:Nat) (b:CV),σ=⟨[.int t,.int r,b],H⟩∧m=r∧1≤r∧r≤7∧lub r=lub t):=⟨_,fun _ _=>Iff.rfl⟩
 refine ws_whl I t ((hI _ _).mpr ⟨t,.undef,rfl,rfl,h1,h7,rfl⟩) ?_
 intro m σ hi
 refine oe2 ((hI _ _).mp hi) fun r b w0_=>?_;refine oa4 w0_ fun z2_ z3_ r1 r7 hl=>?_;clear w0_;subst z2_;subst z3_
 generalize hK:Lp _ _=K
 have hok:bmOk .bitlen H (.int (m:Int))=true:=rfl
 have hbl:bmV .bitlen H (.int (m:Int)) []=some (.v (.int ((m.log2+1:Nat):Int))):=by
  have:Ak (m:Int):=by unfold Ak;simp;exact ar103 r7
  have hm:¬ ((m:Int)=0):=by exact ar104 r1
  dsimp
  simp[bmV_e,B8,this]
  intro e
  lia
 dsimp[-Aa]
 refine wsc ?_
 dsimp[-Aa]
 simp[-Aa,hok,hbl]
 refine wsc ?_
 dsimp[-Aa]
 simp[-Aa,Ai,Ak]
 have cases7:m=1∨m=2∨m=3∨m=4∨m=5∨m=6∨m=7:=by exact ar106 r1 r7
 have hlog:∀k:Nat,Nat.log2 k=Nat.log2 k:=fun _=>rfl
 rcases cases7 with rfl | rfl | rfl | rfl | rfl | rfl | rfl
 all_goals
  first
   | rw[show Nat.log2 1=0 by decide +kernel]
   | rw[show Nat.log2 2=1 by decide +kernel]
   | rw[show Nat.log2 3=1 by decide +kernel]
   | rw[show Nat.log2 4=2 by decide +kernel]
   | rw[show Nat.log2 5=2 by decide +kernel]
   | rw[show Nat.log2 6=2 by decide +kernel]
   | rw[show Nat.log2 7=2 by decide +kernel]
  dsimp
  simp[Ai,Ak]
  try (rw[← hK];simp;first | (rw[← hl] at q;exact q) | exact⟨_,by decide,(hI _ _).mpr ⟨1,_,rfl,rfl,by exact ar107,by exact ar108,hl⟩⟩ | exact⟨_,by decide,(hI _ _).mpr ⟨2,_,rfl,rfl,by lia,by lia,hl⟩⟩ | exact⟨_,by decide,(hI _ _).mpr ⟨3,_,rfl,rfl,by lia,by lia,hl⟩⟩)
 all_goals trace_state
end
end
section
section
variable {F:List (List Int)} {inp:List Nat} {Fm H:CH} {S:Ad} {st st':St} {B:Base} {n:Nat} {Q:CV→CH→Prop}
theorem Sv.sub{Fm':CH}(h:Sv Fm H S st)(hle:∀x o,Fm' x=some o→Fm x=some o):Sv Fm' H S st:=
 ⟨h.self,h.mem,h.inj,fun x o e=>h.fr x o (hle x o e),fun x o e=>h.ap x o (hle x o e)⟩
theorem Wt.len{cls wat:List (List Int)}(w:Wt cls wat):∀l∈wat,l.length≤cls.length:=by
 intro l hl
 refine oe (List.getElem?_of_mem hl) fun s hs=>?_
 have e:wat.getD s []=l:=by rw[List.getD_eq_getElem?_getD,hs];rfl
 have nd:=w.nd s
 simp only[e] at nd
 have sub:∀x∈l,x∈(List.range cls.length).map (fun(k:Nat)=>(k:Int)):=fun x hx=>by
  refine B3 ((w.mem s x).mp (by rw[e];exact hx)) fun k c z2_ hk _=>?_;subst z2_
  exact List.mem_map.mpr ⟨k,List.mem_range.mpr (List.getElem?_eq_some_iff.mp hk).1,rfl⟩
 have:=List.Nodup.length_le_of_subset nd sub
 simpa using this
theorem act_own(st:St)(s:Int):st.act (st.fld .activity) s = { st with step:=s }:=by
 have:st.upd .activity (st.fld .activity)=st:=by
  unfold St.upd
  have e:(fun g=>if g=IF.activity then st.fld .activity else st.fld g)=st.fld:=by
   funext y
   split
   ·rename_i e;rw[e]
   ·rfl
  rw[e]
 unfold St.act
 rw[this]
theorem cls_len{st:St}{c:List Int}(nd:(c.map Int.natAbs).Nodup)(hv:∀l∈c,Vl st l):c.length≤st.count+1:=by
 have sub:∀x∈c.map Int.natAbs,x∈List.range (st.count+1):=fun x hx=>by
  refine oea (List.mem_map.mp hx) fun l hl z2_=>?_;subst z2_
  have:=(hv l hl).2
  exact List.mem_range.mpr (by exact ar40 this)
 have:=List.Nodup.length_le_of_subset nd sub
 simpa using this
structure SolveI (F:List (List Int)) (inp:List Nat) (st:St) (h cf sn tn:Nat):Prop where
 pi:PI F st st.wat h
 hd:st.head=h
 rf:st.refuted=false
 t1:1≤tn
 t7:tn≤7
 cfb:cf≤127*(tn-1)+sn
 bud:∃bs x,Bud F inp st sn bs x
 nc:st.cls.length≤4000+cf
 le:st.learned.length≤cf
inductive SolveJ (F:List (List Int)) (inp:List Nat) (Fm:CH) (self:Addr) (cnt:Nat) (as:Addr) (m:Nat) (σ:CS):Prop where
 | mk (st:St) (S:Ad) (H:CH) (cf sn tn:Nat) (x6 x7 x8 x9:CV) (h0:σ=⟨[.ref self,.ref as,.int 1000,.int cf,.int sn,.int tn,x6,x7,x8,x9],H⟩) (h1:S.self=self) (h2:Sv Fm H S st) (h3:st.count=cnt) (h4:((st.refuted=true∧∀M,¬ Mod F M)∨(∃h,SolveI F inp st h cf sn tn∧m=(1000-cf)*1000+(10-tn)*200+(cnt-st.tr.length)+1))):SolveJ F inp Fm self cnt as m σ
theorem SolveI.lt{h cf sn tn:Nat}(s:SolveI F inp st h cf sn tn):sn≤127∧cf≤889:=by
 refine oe2 s.bud fun bs x b=>?_
 have:=b.lt
 have:=s.cfb
 have:=s.t7
 have:=s.t1
 have:127*(tn-1)≤127*6:=Nat.mul_le_mul_left _ (by exact ar109 (by assumption))
 exact ar110 this (by assumption) (by assumption)
set_option maxHeartbeats 2000000 in
theorem ft_solve(C:Cx B)(hn:6≤n)(h:Sv Fm H S st){as:Addr}(ha:Fm as=some (.tup []))(k:KP F inp st.count)(hF:∀f∈F,∀l∈f,Vl st l)
  (hst:(st.refuted=true∧∀M,¬ Mod F M)∨(st.refuted=false∧st.lis=[]∧st.learned=[]∧st.cls.length≤4000∧∃h,PI F st st.wat h∧st.head=h))
  (qF:∀H' S' st',S'.self=S.self→Sv Fm H' S' st'→(∀M,¬ Mod F M)→Q (.bool false) H')
  (qT:∀H' S' st' (fl:List Bool),S'.self=S.self→Sv Fm H' S' st'→st'.found=fl.map .bool→fl.length=st.count+1→Mod F (fun v=>fl.getD v false)→Q (.bool true) H') :
  FT B fA n .sSolve [.ref S.self,.ref as,.int 1000] H Q:=by
 refine C.call (by exact ar111 hn) rfl ?_
 refine wsc ?_
 dsimp[-Aa]
 refine wsc ?_
 dsimp[-Aa]
 refine wsc ?_
 dsimp[-Aa]
 refine wsc ?_
 obtain⟨I,hI⟩:∃I:Nat→CS→Prop,∀m σ,I m σ↔SolveJ F inp Fm S.self st.count as m σ:=⟨_,fun _ _=>Iff.rfl⟩
 refine ws_whl I ((1000-0)*1000+(10-1)*200+(st.count-st.tr.length)+1) ((hI _ _).mpr ⟨st,S,H,0,0,1,_,_,_,_,rfl,rfl,h,rfl,?_⟩) ?_
 ·rcases hst with z | ⟨z1,z2,z3,z4,h0,z5,z6⟩
  ·exact .inl z
  ·exact .inr ⟨h0,⟨z5,z6,z1,by exact ar107,by exact ar108,by exact ar112,⟨[],128,Bud.fresh k z2⟩,by exact ar113 z4,by rw[z3];simp⟩,rfl⟩
 intro m σ hi
 obtain⟨s1,S1,H1,cf,sn,tn,x6,x7,x8,x9,z10_,hs1,sv1,hc1,hcase⟩:=(hI _ _).mp hi;subst z10_
 have at1:=sv1.attrs
 rw[hs1] at at1
 generalize hK:Lp _ _=K
 dsimp[-Aa]
 repeat ((first | refine oat at1 rfl ?_);try dsimp[-Aa])
 rcases hcase with ⟨hr,hno⟩ | ⟨h0,si,hm⟩
 ·-- refuted
  rw[hr]
  dsimp
  simp
  exact qF H1 S1 s1 hs1 sv1 hno
 rw[si.rf]
 simp[-Aa]
 have lt:=si.lt
 have kk:KP F inp s1.count:=by rw[hc1];exact k
 have hFF:∀f∈F,∀l∈f,Vl s1 l:=fun f hf l hl=>⟨(hF f hf l hl).1,by rw[hc1];exact(hF f hf l hl).2⟩
 refine oe2 si.bud fun bs x bud=>?_
 refine wsc ?_
 dsimp[-Aa]
 refine⟨by rw[← hs1];exact sv1.obj,?_⟩
 rw[← hs1]
 refine ft_propagate C (by exact ar114 hn) sv1 si.pi si.hd (fun H2 S2 s2 hs2 sv2 pa hco=>?_) (fun H2 S2 s2 kc hs2 sv2 pb hnc=>?_)
 ·-- no conflict
  have c2:s2.count=st.count:=pa.grow.cnt.trans hc1
  have bud2:=bud.grow si.pi.tr pa.grow si.pi.lh hco
  have hs2':S2.self=S.self:=hs2.trans hs1
  rw[hs1]
  refine wsc ?_
  dsimp[-Aa]
  simp[-Aa]
  refine wsc ?_
  dsimp[-Aa]
  refine ft_luby C (by exact ar115 hn) si.t1 si.t7 ?_
  dsimp[-Aa]
  simp[-Aa,Ai,Ak]
  have rf2:s2.refuted=false:=pa.grow.rf.trans si.rf
  have cnt2:s2.count≤100:=pa.pi.wf.cnt
  have tl2:=pa.pi.tr.len
  have trg:s1.tr.length≤s2.tr.length:=by refine oe pa.grow.tr fun e he=>?_;rw[he];simp
  have lislen:s2.lis.length≤s2.tr.length:=by
   have nd:s2.lis.Nodup:=pa.pi.tr.lm.imp (fun h=>by exact ar116 h)
   have sub:∀x∈s2.lis,x∈(List.range s2.tr.length).map (fun(k:Nat)=>(k:Int)):=fun x hx=>by
    have:=pa.pi.tr.ls x hx
    exact List.mem_map.mpr ⟨x.toNat,List.mem_range.mpr (by exact ar117 this),by exact ar118 this⟩
   have:=List.Nodup.length_le_of_subset nd sub
   simpa using this
  have nc2:s2.cls.length≤4000+cf:=by rw[pa.grow.nc];exact si.nc
  have le2:s2.learned.length≤cf:=by rw[pa.grow.le];exact si.le
  split
  ·-- a restart
   rename_i hres
   have t6:tn≤6:=by
    rcases Nat.lt_or_ge tn 7 with e | e
    ·exact ar119 e
    ·have:tn=7:=by have:=si.t7;exact ar120 this e
     subst this
     have:lub 7=4:=rfl
     lia
   refine wsc ?_
   dsimp[-Aa]
   refine wsc ?_
   dsimp[-Aa]
   refine wsc ?_
   dsimp
   have cfb:=si.cfb
   have t1:=si.t1
   have hmul:127*(tn+1-1)=127*(tn-1)+127:=by exact ar122 t1
   have hme:(10-tn)*200=(10-(tn+1))*200+200:=by exact ar123 t6
   refine⟨by rw[← hs2'];exact sv2.obj,?_⟩
   rw[← hs2']
   by_cases hl:0<s2.lis.length
   ·refine oea (lis_get pa.pi.tr hl) fun j hj1 hj2=>?_
    have ck:=pa.pi.cutOk
    refine ft_cancel C (lv:=0) (len:=j) (by exact ar124 hn) sv2 pa.pi.wf hl (by rw[List.getD_eq_getElem?_getD];have hj1:(s2.fld .limits)[0]?=some (j:Int):=hj1;rw[hj1];rfl) (Nat.le_of_lt hj2) ck.vl ck.nd ck.ph fun H3 a vals ph hz hpl hpm h3=>?_
    have pc:=pa.pi.cut hj1 hz hpl hpm
    rw[← hK]
    dsimp
    refine⟨(1000-cf)*1000+(10-(tn+1))*200+(st.count-(s2.cut 0 j vals ph).tr.length)+1,by exact ar125 hme cnt2 c2 hm,(hI _ _).mpr ⟨s2.cut 0 j vals ph,S2.upd (.i .limits) a,H3,cf,0,tn+1,.int (-1),x7,x8,x9,by rw[hs2'];simp,hs2',h3,c2,.inr ⟨j,⟨pc,rfl,rf2,by exact ar126,by exact ar127 t6,by exact ar128 hmul lt cfb,⟨[],128,Bud.fresh (by show KP F inp s2.count;rw[c2];exact k) (by rw[cut_lis];simp)⟩,nc2,le2⟩,rfl⟩⟩⟩
   ·refine ft_cancel0 C (lv:=0) (by lia) sv2 pa.pi.wf (by simp only[St.lis] at hl;exact ar129 hl) ?_
    rw[← hK]
    dsimp
    refine⟨(1000-cf)*1000+(10-(tn+1))*200+(st.count-s2.tr.length)+1,by exact ar125 hme cnt2 c2 hm,(hI _ _).mpr ⟨s2,S2,H2,cf,0,tn+1,.int (-1),x7,x8,x9,by rw[hs2'];simp,hs2',sv2,c2,.inr ⟨s2.tr.length,⟨pa.pi,pa.hd,rf2,by lia,by lia,by lia,⟨[],128,Bud.fresh (by rw[c2];exact k) (List.length_eq_zero_iff.mp (by exact ar130 hl))⟩,nc2,le2⟩,rfl⟩⟩⟩
  ·-- a decision
   refine wsc ?_
   dsimp[-Aa]
   refine⟨by rw[← hs2'];exact sv2.obj,?_⟩
   rw[← hs2']
   refine ft_assume C (by lia) sv2 pa.pi.wf (sv2.fr as _ ha) ?_
   rw[hs2']
   refine wsc ?_
   dsimp[-Aa]
   simp[-Aa]
   refine wsc ?_
   dsimp[-Aa]
   simp[-Aa]
   refine wsc ?_
   dsimp[-Aa]
   refine⟨by rw[← hs2'];exact sv2.obj,?_⟩
   rw[← hs2']
   refine ft_free C (by lia) sv2 pa.pi.wf (fun H3 sv3 hall=>?_) (fun v H3 sv3 hv1 hv2 hv0=>?_)
   ·-- a model
    have at3:=sv3.attrs
    rw[hs2'] at at3 ⊢
    refine wsc ?_
    dsimp[-Aa]
    simp[-Aa]
    refine wsc ?_
    dsimp[-Aa]
    repeat ((first | refine oat at3 rfl ?_);try dsimp[-Aa])
    have gv:=sv3.getI .values
    have lvl:=pa.pi.wf.len .values (by simp) (by simp)
    obtain⟨fl,hfl⟩:∃fl:List Bool,fl=(s2.fld .values).map (fun x=>Decidable.decide (x=1)):=⟨_,rfl⟩
    have hfll:fl.length=s2.count+1:=by rw[hfl];simpa using lvl
    refine⟨_,_,(s2.fld .values).map .int,rfl,gv,rfl,by simp[lvl];rw[Ab];exact ar73 cnt2,(fun i acc G=>G=H3∧acc=(fl.take i).map .bool),⟨rfl,by simp⟩,?_,?_⟩
    ·rintro i y acc G hy ⟨rfl,rfl⟩
     rw[List.getElem?_map,Option.map_eq_some_iff] at hy
     refine oea hy fun y' hy' z2_=>?_;subst z2_
     refine⟨gv,?_⟩
     dsimp
     simp
     have hyl:=(List.getElem?_eq_some_iff.mp hy').1
     have:fl[i]?=some (Decidable.decide (y'=1)):=by rw[hfl,List.getElem?_map,hy'];rfl
     rw[List.take_add_one,List.getElem?_map,this]
     dsimp
     try simp
    ·rintro acc G ⟨rfl,rfl⟩
     refine⟨gv,fun d hd=>?_⟩
     have e:fl.take ((s2.fld .values).map CV.int).length=fl:=by rw[List.length_map,lvl,← hfll,List.take_length]
     rw[e]
     have sv4:=sv3.alloc (.list (fl.map .bool)) hd
     have hfd:=Az sv3 hd
     dsimp[-Aa]
     rw[← hs2']
     refine sv4.adoptA (x:=.found) (r:=.fo) (o:=.list (fl.map .bool)) (st':={ s2 with found:=fl.map .bool }) (CH.put_self ..) rfl (by funext y;induction y using At.casesOn <;> first | rfl | simp[Ad.upd]) (fun r' hr'=>by
      induction r' using SR.casesOn <;> first | exact absurd rfl hr' | rfl | simp[cont,Ad.upd]) (by simp[cont]) fun H5 sv5=>?_
     rw[CH.del_put hfd] at sv5
     refine wsc ?_
     dsimp[-Aa]
     refine⟨sv5.obj,?_⟩
     have ck:=pa.pi.cutOk
     refine ft_leave (S:=S2.upd .fo d) C (by exact ar131 hn) sv5 ⟨pa.pi.wf.cnt,pa.pi.wf.len,pa.pi.wf.wat,pa.pi.wf.tr,pa.pi.wf.li⟩ (by simp) ⟨ck.sm,ck.vl,ck.nd,ck.ph⟩ fun H6 S6 st6 hq sv6=>?_
     rw[← hK]
     dsimp
     have hmod:=pa.pi.model hall (fun f hf l hl=>⟨(hF f hf l hl).1,by rw[c2];exact(hF f hf l hl).2⟩)
     refine qT H6 S6 st6 fl (hq.2.trans hs2') sv6 hq.1 (by rw[hfll,c2]) ?_
     have efun:(fun v=>fl.getD v false)=(fun v=>Decidable.decide ((s2.fld .values).getD v 0=1)):=by
      funext v
      rw[hfl,List.getD_eq_getElem?_getD,List.getElem?_map,List.getD_eq_getElem?_getD]
      induction (s2.fld .values)[v]? using Option.casesOn <;> rfl
     rw[efun];exact hmod
   ·have at3:=sv3.attrs
    rw[hs2'] at at3 ⊢
    refine wsc ?_
    have hvne:(v:Int)≠0:=by exact ar132 hv1
    dsimp[-Aa]
    simp[-Aa,hvne,show v≠0 by exact ar133 hv1]
    refine wsc ?_
    dsimp[-Aa]
    repeat ((first | refine oat at3 rfl ?_);try dsimp[-Aa])
    have ck:=pa.pi.cutOk
    have phl:=pa.pi.wf.len .phases (by simp) (by simp)
    refine sv3.rI .phases (by exact ar2) (by simp;exact ar134 phl hv2) (by rw[phl];rw[Ab];lia) ?_
    have pm:=pa.pi.ph v (by lia) (by lia)
    obtain⟨d,hd⟩:∃d:Int,d=(v:Int)*(s2.fld .phases).getD v 0:=⟨_,rfl⟩
    have hda:d.natAbs=v:=by rcases pm with e | e <;> rw[hd,e] <;> (first | exact ar135 | exact ar136 | lia)
    have v0:s2.v d=0:=by unfold St.v;rw[hda,hv0];simp
    rw[List.getD_eq_getElem?_getD] at hd
    dsimp[-Aa]
    simp[-Aa,Ai,Ak,← hd]
    refine⟨.inl (by exact ar137 cnt2 hv2),?_⟩
    refine wsc ?_
    dsimp[-Aa]
    refine⟨by rw[← hs2'];exact sv3.obj,?_⟩
    rw[← hs2']
    have vd:Vl s2 d:=⟨by exact ar138 hda hv1,by exact ar139 hda hv2⟩
    have pid:=pa.pi.decide vd v0 (by exact ar140 cnt2 lislen tl2)
    have tl3:=pid.tr.len
    rw[dec_tr,List.length_append,List.length_singleton] at tl3
    refine oe2 (bud2.decide (by rw[c2];exact k) pa.pi.tr (clsd_of pa.pi) vd (pa.pi.tr.zero vd v0)) fun bs' x' bud3=>?_
    have tl3':s2.tr.length+1≤s2.count:=tl3
    refine ft_decide C (by lia) sv3 pa.pi.wf (by lia) (by simp only[St.tr] at tl3';exact ar141 cnt2 tl3') (by simp only[St.lis] at lislen;exact ar142 cnt2 tl3' lislen) fun H4 sv4=>?_
    rw[← hK]
    dsimp
    refine⟨(1000-cf)*1000+(10-tn)*200+(st.count-(s2.decide d).tr.length)+1,by rw[dec_tr,List.length_append,List.length_singleton];exact ar143 tl3' c2 trg hm,(hI _ _).mpr ⟨s2.decide d,S2,H4,cf,sn,tn,.int (-1),x7,x8,.int d,by rw[hs2'],hs2',sv4,c2,.inr ⟨s2.tr.length,⟨pid,pa.hd,rf2,si.t1,si.t7,si.cfb,⟨bs',x',bud3⟩,nc2,le2⟩,rfl⟩⟩⟩
 ·-- a conflict
  have c2:s2.count=st.count:=pb.grow.cnt.trans hc1
  have hs2':S2.self=S.self:=hs2.trans hs1
  have rf2:s2.refuted=false:=pb.grow.rf.trans si.rf
  have nc2:s2.cls.length≤4000+cf:=by rw[pb.grow.nc];exact si.nc
  have le2:s2.learned.length≤cf:=by rw[pb.grow.le];exact si.le
  refine oe pb.pi fun h3 w0_=>?_;refine oa2 w0_ fun hle3 pi3 w1_=>?_;clear w0_;refine oe2 w1_ fun c f w2_=>?_;clear w1_;refine oa3 w2_ fun hkc hfc hth hvc=>?_;clear w2_
  have trg:s1.tr.length≤s2.tr.length:=by refine oe pb.grow.tr fun e he=>?_;rw[he];simp
  rw[hs1]
  refine wsc ?_
  dsimp[-Aa]
  simp[-Aa]
  refine wsc ?_
  dsimp[-Aa]
  refine⟨by rw[← hs2'];exact sv2.obj,?_⟩
  rw[← hs2']
  refine ft_level C (by exact ar144 hn) sv2 pi3.wf ?_
  by_cases hL:s2.lis.length=0
  ·have hL':(s2.fld .limits).length=0:=hL
   dsimp[-Aa]
   simp[-Aa,hL']
   refine wsc ?_
   dsimp[-Aa]
   refine⟨sv2.obj,?_⟩
   refine ft_refute C (by lia) sv2 (by rw[Ab];exact ar145 lt le2) fun t H3 sv3=>?_
   have hno:=pi3.none (List.length_eq_zero_iff.mp hL) hkc hvc
   rw[← hK]
   dsimp
   exact⟨0,by exact ar146 hm,(hI _ _).mpr ⟨_,S2,H3,cf,sn,tn,_,_,_,_,by rw[hs2'],hs2',sv3,c2,.inl ⟨rfl,hno⟩⟩⟩
  ·have hL':(s2.fld .limits).length≠0:=hL
   dsimp[-Aa]
   simp[-Aa,hL']
   refine wsc ?_
   dsimp[-Aa]
   refine wsc ?_
   dsimp[-Aa]
   refine wsc ?_
   dsimp[-Aa]
   simp[-Aa]
   have t:=pi3.tr
   refine⟨sv2.obj,?_⟩
   refine ft_analyze C (by lia) sv2 pi3 (by exact ar74 hL) hkc hvc ⟨f,hfc,h3,hth,lev_top t pi3.lh⟩ fun H3 al at' u r bk ac stp hl1 hl2 hl3 hacl an sv3=>?_
   have sv3t:H3 at'=some (.tup [.ref al,.int bk]):=sv3.fr at' _ (by simp)
   refine⟨at',rfl,_,sv3t,rfl,?_⟩
   dsimp[-Aa]
   have hbk:0≤bk∧bk.toNat<s2.lis.length∧(∀m∈r,∀q,s2.tr[q]?=some (-m)→s2.lev q≤bk.toNat)∧(r≠[]→∃q,s2.tr[q]?=some (-(r.getD 0 0))∧s2.lev q=bk.toNat∧0<s2.lev q):=by
    by_cases hr:r=[]
    ·have:=an.b0 hr
     subst this
     exact⟨by lia,by simpa using Nat.pos_of_ne_zero hL,fun m hm=>(by rw[hr] at hm;cases hm),fun e=>absurd hr e⟩
    ·refine oa (an.b1 hr) fun b1 b2=>?_
     have r0:r.getD 0 0∈r:=Ay (List.length_pos_iff.mpr hr)
     refine oea2 (an.r1 _ r0) fun q hq1 hq2 hq3=>?_
     have e:=t.lv q _ hq1
     have e':lvl s2 (-(r.getD 0 0))=lvl s2 (r.getD 0 0):=by unfold lvl;rw[Int.natAbs_neg]
     rw[e',← b1] at e
     refine⟨by exact ar148 e,by exact ar149 e hq3,fun m hm q' hq'=>?_,fun _=>⟨q,hq1,by exact ar150 e,hq2⟩⟩
     have e2:=t.lv q' _ hq'
     have e3:lvl s2 (-m)=lvl s2 m:=by unfold lvl;rw[Int.natAbs_neg]
     have:=b2 m hm
     rw[e3] at e2
     exact ar151 e2 this
   refine oa3 hbk fun hb0 hbl hblev hbr=>?_
   obtain⟨lv,hlv⟩:∃lv:Nat,lv=bk.toNat:=⟨_,rfl⟩
   have hbk:bk=(lv:Int):=by lia
   rw[← hlv] at hbl hblev hbr
   subst hbk
   refine oea (lis_get t hbl) fun j hj1 hj2=>?_
   have piA:=pi3.act (s:=stp) hacl
   have ckA:=piA.cutOk
   have hfA:∀f,f≠.activity→(s2.act ac stp).fld f=s2.fld f:=fun f hf=>act_ne _ _ _ hf
   refine wsc ?_
   dsimp[-Aa]
   refine⟨sv3.obj,?_⟩
   refine ft_cancel C (lv:=lv) (len:=j) (by lia) sv3 piA.wf (by rw[hfA _ (by simp)];exact hbl) (by rw[hfA _ (by simp),List.getD_eq_getElem?_getD];have hj1:(s2.fld .limits)[lv]?=some (j:Int):=hj1;rw[hj1];rfl) (by rw[hfA _ (by simp)];exact Nat.le_of_lt hj2) ckA.vl ckA.nd ckA.ph fun H4 a vals ph hz hpl hpm sv4=>?_
   have pc:=piA.cut (lv:=lv) (j:=j) (by simp only[St.lis];rw[hfA _ (by simp)];exact hj1) hz hpl hpm
   obtain⟨s4,hs4⟩:∃s4,s4=(s2.act ac stp).cut lv j vals ph:=⟨_,rfl⟩
   rw[← hs4] at pc sv4
   have tr4:s4.tr=s2.tr.take j:=by rw[hs4,cut_tr];simp only[St.tr];rw[hfA _ (by simp)]
   have lis4:s4.lis=s2.lis.take lv:=by rw[hs4,cut_lis];simp only[St.lis];rw[hfA _ (by simp)]
   have hd4:s4.head=j:=by rw[hs4];rfl
   have rf4:s4.refuted=false:=by rw[hs4];exact rf2
   have cls4:s4.cls=s2.cls:=by rw[hs4];rfl
   have wat4:s4.wat=s2.wat:=by rw[hs4];rfl
   have le4:s4.learned=s2.learned:=by rw[hs4];rfl
   have cnt4:s4.count=s2.count:=by rw[hs4];rfl
   have lev4:∀p,p<j→s4.lev p=s2.lev p:=fun p hp=>by
    unfold St.lev
    rw[lis4]
    exact lev_below t hj1 hp
   rw[← wat4] at pc
   have lenj:(s2.tr.take j).length=j:=by rw[List.length_take];exact ar152 hj2
   have vl4:∀l,Vl s2 l→Vl s4 l:=fun l hl=>⟨hl.1,by rw[cnt4];exact hl.2⟩
   refine oea an.u2 fun pu hpu1 hpu2=>?_
   have huj:u.natAbs∉(s2.tr.take j).map Int.natAbs:=fun hm=>by
    refine oea (List.mem_map.mp hm) fun l hl hla=>?_
    refine oe (List.getElem?_of_mem hl) fun q hq=>?_
    refine oa (take_get hq) fun hq1 hq2=>?_
    have e:=tr_inj t hq2 hpu1 (by rw[Int.natAbs_neg];exact hla)
    have:=lev_lt t hj1 hq1
    rw[e,hpu2] at this
    exact ar100 hbl this
   have vu4:s4.v u=0:=by
    have:=pc.tr.off u.natAbs (by rw[tr4];exact huj)
    unfold St.v
    rw[this];simp
   have rneg:∀m∈r,∃q,q<j∧s2.tr[q]?=some (-m):=fun m hm=>by
    refine oea2 (an.r1 m hm) fun q hq _ _=>?_
    refine⟨q,?_,hq⟩
    have:=hblev m hm q hq
    rcases Nat.lt_or_ge q j with e | e
    ·exact e
    ·have:=lev_ge t hj1 e;exact ar153 this (by assumption)
   have bud2:=bud.grow si.pi.tr pb.grow si.pi.lh (fun e=>absurd e hnc)
   have budE:∀s5:St,s5.lis=s2.lis.take lv→s5.tr=s2.tr.take j++[u]→s5.count=s2.count→∃bs' x',Bud F inp s5 (sn+1) bs' x':=fun s5 e1 e2 e3=>by
    refine bud2.back (by rw[c2];exact k) t hj1 (fun i j' d hi1 hi2 hd1 hd2 hlast=>?_) an.u1.1 an.u1.2 huj (fun h1=>?_) e1 e2 e3
    ·apply hnc
     intro p l hp hpl
     have hjh:(j':Int)≤h0:=si.pi.lh _ (by rw[← pb.grow.lis];exact List.mem_of_getElem? hi2)
     refine oe pb.grow.tr fun e he=>?_
     have hpl':=(List.getElem?_eq_some_iff.mp hpl).1
     have:p=j':=by exact ar154 hpl' hlast trg hp hjh
     subst this
     have hd1':s1.tr[p]?=some d:=by rw[he,List.getElem?_append_left hpl'] at hd1;exact hd1
     rw[hpl] at hd1'
     cases hd1'
     exact hd2
    ·have hr:r≠[]:=fun e=>by
      have:=an.b0 e
      exact ar155 h1 this
     refine oea2 (hbr hr) fun q hq1 hq2 _=>?_
     refine⟨q,_,hq1,hq2,?_⟩
     rw[Int.natAbs_neg]
     exact(an.rv _ (Ay (List.length_pos_iff.mpr hr))).2
   have uv:∀l∈u::r,Vl s4 l∧l.natAbs≠1:=fun l hl=>by
    rcases List.mem_cons.mp hl with e | e
    ·subst e;exact⟨vl4 _ an.u1.1,an.u1.2⟩
    ·exact⟨vl4 _ (an.rv l e).1,(an.rv l e).2⟩
   have ulen:=cls_len an.nd (fun l hl=>(uv l hl).1)
   have cnt100:s4.count≤100:=pc.wf.cnt
   have w4:=pc.wt.len
   have sh4:=pc.short
   have tl4:s4.tr.length=j:=by rw[tr4,lenj]
   have ple:∀t',PI F (s4.le t') s4.wat j:=fun t'=>pc.le_ t' (by rw[le4];exact ar156 lt le2)
   have fin:∀H5 S5 s5,S5.self=S2.self→Sv Fm H5 S5 s5→PI F s5 s5.wat j→s5.head=j→s5.refuted=false→s5.cls.length≤4000+(cf+1)→s5.learned.length≤cf+1→s5.lis=s2.lis.take lv→s5.tr=s2.tr.take j++[u]→s5.count=s2.count→
     WSs B fA (n-1) [IS.setattr (IE.var 0) At.step (IE.bin Operator.Add (IE.bin Operator.Add ((IE.var 0).attr At.step) (IE.bin Operator.FloorDiv ((IE.var 0).attr At.step) (IE.int 16))) (IE.int 1)),IS.ite (IE.cmp CmpOp.GtE (IE.var 3) (IE.var 2)) [IS.ret ((IE.var 0).mth Fn.sLeave [IE.none])] []]
      { vars:=[CV.ref S2.self,CV.ref as,CV.int 1000,CV.int (↑cf+1),CV.int (↑sn+1),CV.int ↑tn,CV.int ↑kc,CV.ref al,CV.int ↑lv,x9],heap:=H5 } (Sq B fA (n-1) [] (Sq B fA (n-1) [] K)):=by
    intro H5 S5 s5 hs5 sv5 p5 hd5 rf5 nc5 le5 li5 tr5 ct5
    have at5:=sv5.attrs
    rw[hs5] at at5
    refine oe2 (budE s5 li5 tr5 ct5) fun bs' x' bud5=>?_
    refine wsc ?_
    dsimp[-Aa]
    repeat ((first | refine oat at5 rfl ?_);try dsimp[-Aa])
    simp[-Aa,at5,Ai,Ak]
    rw[← hs5]
    refine sv5.setScalar (a:=.step) (v:=.int (s5.step+s5.step.fdiv 16+1)) (st':={ s5 with step:=s5.step+s5.step.fdiv 16+1 }) rfl (by simp) (fun r'=>by induction r' using SR.casesOn <;> rfl) (by funext y;induction y using At.casesOn <;> rfl) fun H6 sv6=>?_
    have hbig:¬ (1000:Int)≤(cf:Int)+1:=by lia
    refine wsc ?_
    dsimp[-Aa]
    simp[-Aa,hbig]
    rw[← hK]
    dsimp
    have p6:=p5.act (a:=s5.fld .activity) (s:=s5.step+s5.step.fdiv 16+1) (p5.wf.len .activity (by simp) (by simp))
    rw[act_own] at p6
    have hcc:s5.count≤100:=p5.wf.cnt
    have cfb:=si.cfb
    refine⟨(1000-(cf+1))*1000+(10-tn)*200+(st.count-s5.tr.length)+1,by exact ar158 cnt100 c2 cnt4 lt hm,(hI _ _).mpr ⟨_,S5,H6,cf+1,sn+1,tn,.int kc,.ref al,.int lv,x9,by rw[hs5,hs2'];simp,hs5.trans hs2',sv6,ct5.trans c2,.inr ⟨j,⟨p6,hd5,rf5,si.t1,si.t7,by lia,budE _ li5 tr5 ct5,nc5,le5⟩,rfl⟩⟩⟩
   have frm:∀x o,Fm x=some o→(((Fm.put al (CO.list (List.map CV.int (u::r)))).put at' (CO.tup [CV.ref al,CV.int ↑lv])).del al) x=some o:=fun x o e=>by
    have n1:x≠al:=fun h=>by rw[h,hl1] at e;cases e
    have n2:x≠at':=fun h=>by rw[h,hl2] at e;cases e
    unfold CH.del
    rw[if_neg n1,CH.put_ne _ _ n2,CH.put_ne _ _ n1]
    exact e
   refine wsc ?_
   dsimp[-Aa]
   refine⟨sv4.obj,?_⟩
   refine ft_learn (c:=u::r) C (by lia) sv4 pc.wf (by rw[CH.put_ne _ _ hl3,CH.put_self]) (by simp) (by rw[Ab];exact ar160 cnt100 ulen) (fun l hl=>(uv l hl).1) (by rw[cls4];rw[Ab];exact ar161 lt nc2) (fun l hl=>by have:=w4 l hl;rw[cls4] at this;rw[Ab];exact ar162 lt nc2 this) (by rw[le4];rw[Ab];lia) (by simp only[St.tr] at sh4;exact ar46 sh4)
    (fun h1 t' H5 S5 hs5 sv5=>?_) (fun h2 t' H5 S5 hs5 sv5=>?_)
   ·have hr:r=[]:=by simpa using h1
    subst hr
    have hb:=an.b0 rfl
    have lv0:lv=0:=by exact ar163 hb
    subst lv0
    have vle:(s4.le t').v u=0:=vu4
    have p5:=(ple t').learn1 (u:=u) (by simp only[St.lis,le_fld];exact lis4) (uv u (by simp)).1 vle (fun M hM=>by
     refine oea (an.sat M hM) fun l hl hlt=>?_
     simp at hl
     exact hl▸hlt)
    exact fin H5 S5 _ hs5 (sv5.sub frm) p5 hd4 rf4 (by show s4.cls.length≤_;rw[cls4];lia) (by show(s4.learned++[_]).length≤_;rw[le4,List.length_append,List.length_singleton];exact ar165 le2)
     (by simp only[St.lis,Bh,le_fld];exact lis4) (by simp only[St.tr,Bb,le_fld];rw[show s4.fld .trail=_ from tr4];rfl) cnt4
   ·have hr:r≠[]:=by intro e;subst e;simp at h2
    refine oea2 (hbr hr) fun q hq1 hq2 hq3=>?_
    have hqj:q<j:=by
     rcases Nat.lt_or_ge q j with e | e
     ·exact e
     ·have:=lev_ge t hj1 e;exact ar166 this hq2
    have gt4:∀q m,q<j→s2.tr[q]?=some m→s4.tr[q]?=some m:=fun q m h1 h2=>by rw[tr4,List.getElem?_take,if_pos h1];exact h2
    have l4:s4.lis.length=lv:=by rw[lis4,List.length_take];exact ar152 hbl
    have p5:=(ple t').learn2 tl4.symm hr (uv u (by simp)).1 uv an.nd vu4 (fun m hm=>by
     refine oea (rneg m hm) fun q' h1 h2=>?_
     exact List.mem_of_getElem? (gt4 q' _ h1 h2)) ⟨q,gt4 q _ hqj hq1,by show s4.lev q=s4.lis.length;rw[lev4 q hqj,l4,hq2]⟩ an.sat (by show s4.cls.length<_;rw[cls4];lia)
    exact fin H5 S5 _ hs5 (sv5.sub frm) p5 hd4 rf4 (by show(s4.cls++[_]).length≤_;rw[cls4,List.length_append,List.length_singleton];lia) (by show(s4.learned++[_]).length≤_;rw[le4,List.length_append,List.length_singleton];lia)
     (by simp only[St.lis,Bh,le_fld];exact lis4) (by simp only[St.tr,Bb,le_fld];show s4.fld .trail++_=_;rw[show s4.fld .trail=_ from tr4];rfl) cnt4
end
end
section
set_option tactic.hygienic true
theorem compK_up0{B:Base}{fa:Fn→Addr}{n:Nat}{elt:IE}{cond:List IE}{free:List Nat}{t:Bool}{Q:CV→CS→Prop}{hi:Nat}{vars:List CV}{H:CH}(hhi:hi≤lim)
  (h:∀a,H a=none→∃I:Nat→List CV→CH→Prop,I 0 [] (H.put a (.range 0 hi 1))∧
   (∀i acc G,i<hi→I i acc G→G a=some (.range 0 hi 1)∧WA B fa n cond ⟨.int (i:Int)::free.map (CS.get ⟨vars,H⟩),G⟩ fun b σ₂=>Br b (WE B fa n elt false σ₂ fun y σ₃=>I (i+1) (acc++[y]) σ₃.heap) (I (i+1) acc σ₂.heap))∧
   (∀acc G,I hi acc G→G a=some (.range 0 hi 1)∧∀d,G d=none→fin t Q (.ref d) ⟨vars,G.put d (.list acc)⟩)):Rng ⟨vars,H⟩ (fin false (CompK B fa n elt cond free t Q)) (.range 0 hi 1):=by
 intro a ha
 refine oea2 (h a ha) fun I h0 h1 h2=>?_
 refine⟨a,_,_,rfl,CH.put_self ..,items_up 0 hi,by simp;omega,I,h0,fun i y acc G hy hi'=>?_,fun acc G hi'=>h2 acc G (by simpa using hi')⟩
 rw[List.getElem?_map,Option.map_eq_some_iff] at hy
 refine oea hy fun j hj z2_=>?_;subst z2_
 obtain⟨hlt,he⟩:=List.getElem?_eq_some_iff.mp hj
 simp at hlt he
 subst he
 have:=h1 i acc G hlt hi'
 have eg:(CS.get ⟨vars,H.put a (.range 0 hi 1)⟩)=CS.get ⟨vars,H⟩:=rfl
 rw[eg]
 simpa using this
structure Bl (Fm H:CH) (S:Ad) (P:SR→Option CO) (o:At→CV):Prop where
 self:H S.self=some (.inst .solver S.d o)
 mem:∀r p,P r=some p→H (S.r r)=some p
 ns:∀r p,P r=some p→S.r r≠S.self
 inj:∀r r' p p',P r=some p→P r'=some p'→S.r r=S.r r'→r=r'
 fr:∀x p,Fm x=some p→H x=some p
 ap:∀x p,Fm x=some p→x≠S.self∧∀r p',P r=some p'→S.r r≠x
section
variable {Fm H:CH} {S:Ad} {P:SR→Option CO} {o:At→CV}
theorem Bl.new(h:Bl Fm H S P o)(ρ:SR)(p:CO){a:Addr}(ha:H a=none):Bl Fm (H.put a p) (S.upd ρ a) (fun r=>if r=ρ then some p else P r) o:=by
 have ne:∀x q,H x=some q→x≠a:=fun x q e z=>by rw[z,ha] at e;cases e
 refine⟨?_,fun r q e=>?_,fun r q e=>?_,fun r r' q q' e e' z=>?_,fun x q e=>?_,fun x q e=>⟨(h.ap x q e).1,fun r q' e'=>?_⟩⟩
 ·show(H.put a p) S.self=_
  rw[CH.put_ne _ _ (ne _ _ h.self)];exact h.self
 ·try dsimp only at e
  unfold Ad.upd;dsimp only
  split at e
  ·rename_i z;rw[if_pos z,CH.put_self];exact e
  ·rename_i z;rw[if_neg z,CH.put_ne _ _ (ne _ _ (h.mem r q e))];exact h.mem r q e
 ·try dsimp only at e
  show(S.upd ρ a).r r≠S.self
  unfold Ad.upd;dsimp only
  split at e
  ·rename_i z;rw[if_pos z];exact Ne.symm (ne _ _ h.self)
  ·rename_i z;rw[if_neg z];exact h.ns r q e
 ·try dsimp only at e e'
  unfold Ad.upd at z;dsimp only at z
  split at e <;> split at e'
  ·rename_i z1 z2;exact z1.trans z2.symm
  ·rename_i z1 z2;rw[if_pos z1,if_neg z2] at z;exact absurd z.symm (ne _ _ (h.mem r' q' e'))
  ·rename_i z1 z2;rw[if_neg z1,if_pos z2] at z;exact absurd z (ne _ _ (h.mem r q e))
  ·rename_i z1 z2;rw[if_neg z1,if_neg z2] at z;exact h.inj r r' q q' e e' z
 ·rw[CH.put_ne _ _ (ne _ _ (h.fr x q e))];exact h.fr x q e
 ·try dsimp only at e'
  unfold Ad.upd;dsimp only
  split at e'
  ·rename_i z;rw[if_pos z];exact Ne.symm (ne _ _ (h.fr x q e))
  ·rename_i z;rw[if_neg z];exact(h.ap x q e).2 r q' e'
theorem Bl.setf(h:Bl Fm H S P o)(o':At→CV):Bl Fm (H.put S.self (.inst .solver S.d o')) S P o':=by
 refine⟨CH.put_self ..,fun r q e=>?_,h.ns,h.inj,fun x q e=>?_,h.ap⟩
 ·rw[CH.put_ne _ _ (h.ns r q e)];exact h.mem r q e
 ·rw[CH.put_ne _ _ (h.ap x q e).1];exact h.fr x q e
theorem Bl.side(h:Bl Fm H S P o)(p:CO){a:Addr}(ha:H a=none):Bl (Fm.put a p) (H.put a p) S P o:=by
 have ne:∀x q,H x=some q→x≠a:=fun x q e z=>by rw[z,ha] at e;cases e
 refine⟨by rw[CH.put_ne _ _ (ne _ _ h.self)];exact h.self,fun r q e=>by rw[CH.put_ne _ _ (ne _ _ (h.mem r q e))];exact h.mem r q e,h.ns,h.inj,fun x q e=>?_,fun x q e=>?_⟩
 ·by_cases z:x=a
  ·subst z;rw[CH.put_self] at e ⊢;exact e
  ·rw[CH.put_ne _ _ z] at e ⊢;exact h.fr x q e
 ·by_cases z:x=a
  ·subst z;exact⟨Ne.symm (ne _ _ h.self),fun r q' e'=>ne _ _ (h.mem r q' e')⟩
  ·rw[CH.put_ne _ _ z] at e;exact h.ap x q e
theorem Bl.sub(h:Bl Fm H S P o){Fm':CH}(k:∀x q,Fm' x=some q→Fm x=some q):Bl Fm' H S P o:=
 ⟨h.self,h.mem,h.ns,h.inj,fun x q e=>h.fr x q (k x q e),fun x q e=>h.ap x q (k x q e)⟩
theorem Bl.toSv{st:St}(h:Bl Fm H S P o)(hP:∀r,cont st S r=P r)(ho:Bd st S=o):Sv Fm H S st:=by
 refine⟨by rw[ho];exact h.self,fun r p e=>h.mem r p (by rw[← hP];exact e),fun r r' p p' e e'=>h.inj r r' p p' (by rw[← hP];exact e) (by rw[← hP];exact e'),h.fr,fun x p e=>⟨(h.ap x p e).1,fun r p' e'=>(h.ap x p e).2 r p' (by rw[← hP];exact e')⟩⟩
theorem Bl.attr(h:Bl Fm H S P o){a:At}(ha:Cl.has .solver a=true)(ρ:SR)(p:CO){d:Addr}(hd:H d=none){Q:CH→Prop}
  (q:∀H',Bl Fm H' (S.upd ρ d) (fun r=>if r=ρ then some p else P r) (fun y=>if y=a then .ref d else o y)→Q H'):Opt (setA (H.put d p) (.ref S.self) a (.ref d)) Q:=by
 have h1:=h.new ρ p hd
 refine Opt.mk ?_ (q _ (h1.setf _))
 simp only[setA,Ae,Option.bind_some]
 simp only[show(H.put d p) S.self=_ from h1.self]
 simp[CO.setA,ha]
theorem Bl.scal(h:Bl Fm H S P o){a:At}(ha:Cl.has .solver a=true){v:CV}(hv:v≠.undef){Q:CH→Prop}
  (q:∀H',Bl Fm H' S P (fun y=>if y=a then v else o y)→Q H'):Opt (setA H (.ref S.self) a v) Q:=by
 refine Opt.mk ?_ (q _ (h.setf _))
 simp only[setA,Ae,Option.bind_some]
 simp only[h.self]
 simp[CO.setA,ha,hv]
theorem Bl.rep{B:Base}{n c:Nat}(h:Bl Fm H S P o)(a:At)(ha:Cl.has .solver a=true)(ρ:SR){ve:IE}{v:CV}(hve:∀σ (K:CV→CS→Prop),WE B fA n ve false σ K=K v σ)(hc:c≤100){K:CF→CS→Prop}
  (q:∀H' d,Bl Fm H' (S.upd ρ d) (fun r=>if r=ρ then some (.list (List.replicate (c+1) v)) else P r) (fun y=>if y=a then .ref d else o y)→K .next ⟨[.ref S.self,.int c],H'⟩) :
  WS B fA n (.setattr (.var 0) a (.bin .Mult (.list [ve]) (.bin .Add (.var 1) (.int 1)))) ⟨[.ref S.self,.int c],H⟩ K:=by
 dsimp
 simp[hve,Ai,Ak]
 refine⟨by rw[Ab];exact ar78,fun s0 hs0=>?_⟩
 have h1:=h.side (.list [v]) hs0
 have rep:binV .Mult (H.put s0 (.list [v])) (.ref s0) (.int ((c:Int)+1))=some (.new (.list (List.replicate (c+1) v))):=by
  simp only[binV_e,refBin_e,CH.lsA,Bi,Ah,Ae,Af,Option.bind_some,CH.put_self]
  rw[if_pos ⟨by exact ar79,by exact ar80 hc⟩]
  rw[show((c:Int)+1).toNat=c+1 by exact ar81]
 dsimp
 simp[Ai,Ak,rep]
 intro d hd
 have h2:=h1.attr ha ρ (.list (List.replicate (c+1) v)) hd (Q:=fun H=>K .next ⟨[.ref S.self,.int c],H⟩) fun H' b=>q H' d (b.sub fun y p e=>by
  have:y≠s0:=fun z=>by
   rw[z] at e
   have:=h.fr _ _ e
   dsimp only at hs0
   rw[hs0] at this;cases this
  rw[CH.put_ne _ _ this];exact e)
 exact h2
theorem Bl.nil{B:Base}{n c:Nat}(h:Bl Fm H S P o)(a:At)(ha:Cl.has .solver a=true)(ρ:SR){K:CF→CS→Prop}
  (q:∀H' d,Bl Fm H' (S.upd ρ d) (fun r=>if r=ρ then some (.list []) else P r) (fun y=>if y=a then .ref d else o y)→K .next ⟨[.ref S.self,.int c],H'⟩) :
  WS B fA n (.setattr (.var 0) a (.list [])) ⟨[.ref S.self,.int c],H⟩ K:=by
 dsimp
 simp
 intro d hd
 dsimp
 exact h.attr ha ρ (.list []) hd (Q:=fun H=>K .next ⟨[.ref S.self,.int c],H⟩) fun H' b=>q H' d b
theorem Bl.sc{B:Base}{n c:Nat}(h:Bl Fm H S P o)(a:At)(ha:Cl.has .solver a=true){ve:IE}{v:CV}(hve:∀σ (K:CV→CS→Prop),WE B fA n ve false σ K=K v σ)(hv:v≠.undef){K:CF→CS→Prop}
  (q:∀H',Bl Fm H' S P (fun y=>if y=a then v else o y)→K .next ⟨[.ref S.self,.int c],H'⟩) :
  WS B fA n (.setattr (.var 0) a ve) ⟨[.ref S.self,.int c],H⟩ K:=by
 simp[hve]
 exact h.scal ha hv (Q:=fun H=>K .next ⟨[.ref S.self,.int c],H⟩) fun H' b=>q H' b
end
noncomputable def St.new(c:Nat):St where
 count:=c
 fld:=fun f=>match f with
  | .values=>List.replicate (c+1) 0
  | .levels=>List.replicate (c+1) 0
  | .reasons=>List.replicate (c+1) (-1)
  | .phases=>List.replicate (c+1) (-1)
  | .activity=>List.replicate (c+1) 0
  | .trail=>[]
  | .limits=>[]
 cls:=[]
 wat:=List.replicate (2*c+2) []
 step:=1
 head:=0
 refuted:=false
 learned:=[]
 found:=List.replicate (c+1) (.bool false)
noncomputable def PW(i:Nat):SR→Option CO:=fun r=>match r with
 | .cs=>some (.list [])
 | .wa k=>if k<i then some (.list []) else none
 | _=>none
noncomputable def PN(S:Ad)(c:Nat):SR→Option CO:=cont (St.new c) S
set_option maxHeartbeats 2000000 in
theorem ft_init{B:Base}{n c:Nat}{Fm H:CH}{x d:Addr}{Q:CV→CH→Prop}(C:Cx B)(hn:0<n)(hc:c≤100)(hH:∀y p,Fm y=some p→H y=some p)(hF:Fm x=none)(hx:H x=some (.inst .solver d fun _=>.undef))
  (q:∀H' S,S.self=x→Sv Fm H' S (St.new c)→Q .none H'):FT B fA n .sInit [.ref x,.int c] H Q:=by
 refine C.call hn rfl ?_
 have b0:Bl Fm H ⟨x,d,fun _=>x⟩ (fun _=>none) (fun _=>.undef):=⟨hx,(fun _ _ e=>by cases e),(fun _ _ e=>by cases e),(fun _ _ _ _ e=>by cases e),hH,fun y p e=>⟨fun z=>by (rw[z,hF] at e;cases e),fun _ _ e=>by cases e⟩⟩
 obtain⟨S0,hS0⟩:∃S0:Ad,S0=⟨x,d,fun _=>x⟩:=⟨_,rfl⟩
 rw[← hS0] at b0
 have hxs:x=S0.self:=by rw[hS0]
 rw[hxs]
 refine wsc ?_
 dsimp[-Aa]
 refine b0.scal rfl (by simp) fun H1 b1=>?_
 refine wsc ?_
 dsimp[-Aa]
 simp[-Aa]
 intro a2 ha2
 dsimp[-Aa]
 refine b1.attr (a:=.clauses) rfl .cs _ ha2 fun H2 b2=>?_
 refine wsc ?_
 dsimp[-Aa]
 simp[-Aa,Ai,Ak]
 have hr:rangeV [.int (2*(c:Int)+2)]=some (.range 0 ((2*c+2:Nat):Int) 1):=by
  have:=range1 (b:=2*c+2) (by rw[Ab];exact ar15 hc)
  push_cast at this ⊢
  exact this
 rw[hr]
 refine compK_up0 (by rw[Ab];lia) fun ar har=>?_
 obtain⟨o2,ho2⟩:∃o2:At→CV,o2=fun y=>if y=At.clauses then CV.ref a2 else if y=At.count then CV.int ↑c else CV.undef:=⟨_,rfl⟩
 rw[← ho2] at b2
 refine⟨fun i acc G=>∃S1:Ad,S1.self=S0.self∧S1.d=S0.d∧S1.r .cs=a2∧Bl (Fm.put ar (.range 0 ((2*c+2:Nat):Int) 1)) G S1 (PW i) o2∧acc=(List.range i).map fun k=>.ref (S1.r (.wa k)),⟨S0.upd SR.cs a2,rfl,rfl,by simp[Ad.upd],?_,rfl⟩,?_,?_⟩
 ·have:=b2.side (.range 0 ((2*c+2:Nat):Int) 1) har
  have e:(fun r=>if r=SR.cs then some (CO.list []) else none)=PW 0:=by funext r;induction r using SR.casesOn <;> first | rfl | simp[PW]
  rw[e] at this
  exact this
 ·rintro i acc G hi ⟨S1,e1,e2,e3,b3,rfl⟩
  refine⟨b3.fr _ _ (CH.put_self ..),?_⟩
  dsimp
  simp
  intro dd hdd
  dsimp
  have b4:=b3.new (.wa i) (.list []) hdd
  have e:(fun r=>if r=SR.wa i then some (CO.list []) else PW i r)=PW (i+1):=by
   funext r
   induction r using SR.casesOn <;> simp[PW]
   rename_i k
   by_cases h:k=i
   ·try dsimp
    simp[h]
   ·by_cases h2:k<i
    ·try dsimp
     try simp[h,h2,show k<i+1 by exact ar169 h2]
    ·try dsimp
     try simp[h,h2,show ¬ k<i+1 by exact ar170 h2 h]
  rw[e] at b4
  refine⟨S1.upd (.wa i) dd,e1,e2,by simp[Ad.upd,e3],b4,?_⟩
  rw[List.range_succ,List.map_append]
  simp[Ad.upd]
  intro k hk hk2
  exact ar171 hk hk2
 ·rintro acc G ⟨S1,e1,e2,e3,b3,hacc⟩
  refine⟨b3.fr _ _ (CH.put_self ..),fun dd hdd=>?_⟩
  dsimp[-Aa]
  rw[← e1]
  have b4:=b3.sub (Fm':=Fm) (fun y p e=>by
   have:y≠ar:=fun z=>by
    rw[z] at e
    have:=b2.fr _ _ e
    rw[har] at this;cases this
   rw[CH.put_ne _ _ this];exact e)
  refine b4.attr (a:=.watches) rfl .ws _ hdd fun H5 b5=>?_
  obtain⟨S5,hS5⟩:∃S5,S5=S1.upd .ws dd:=⟨_,rfl⟩
  rw[← hS5] at b5
  rw[show S1.self=S5.self by rw[hS5];rfl]
  refine wsc ?_
  refine b5.rep .values rfl (.i .values) (v:=.int 0) (fun _ _=>rfl) hc fun H6 d6 b6=>?_
  refine wsc ?_
  refine b6.rep .levels rfl (.i .levels) (v:=.int 0) (fun _ _=>rfl) hc fun H7 d7 b7=>?_
  refine wsc ?_
  refine b7.rep .reasons rfl (.i .reasons) (v:=.int (-1)) (fun _ _=>by simp) hc fun H8 d8 b8=>?_
  refine wsc ?_
  refine b8.rep .phases rfl (.i .phases) (v:=.int (-1)) (fun _ _=>by simp) hc fun H9 d9 b9=>?_
  refine wsc ?_
  refine b9.rep .activity rfl (.i .activity) (v:=.int 0) (fun _ _=>rfl) hc fun Ha da ba=>?_
  refine wsc ?_
  refine ba.sc .step rfl (v:=.int 1) (fun _ _=>rfl) (by simp) fun Hb bb=>?_
  refine wsc ?_
  refine bb.nil .trail rfl (.i .trail) fun Hc dc bc=>?_
  refine wsc ?_
  refine bc.nil .limits rfl (.i .limits) fun Hd dd bd=>?_
  refine wsc ?_
  refine bd.sc .head rfl (v:=.int 0) (fun _ _=>rfl) (by simp) fun He be=>?_
  refine wsc ?_
  refine be.nil .learned rfl .le fun Hf df bf=>?_
  refine wsc ?_
  refine bf.sc .refuted rfl (v:=.bool false) (fun _ _=>rfl) (by simp) fun Hg bg=>?_
  refine wsc ?_
  refine bg.rep .found rfl .fo (v:=.bool false) (fun _ _=>rfl) hc fun Hh dh bh=>?_
  dsimp
  obtain⟨S9,hS9⟩:∃S9,S9=((((((((S5.upd (SR.i IF.values) d6).upd (SR.i IF.levels) d7).upd (SR.i IF.reasons) d8).upd (SR.i IF.phases) d9).upd (SR.i IF.activity) da).upd (SR.i IF.trail) dc).upd (SR.i IF.limits) dd).upd SR.le df).upd SR.fo dh:=⟨_,rfl⟩
  rw[← hS9] at bh
  refine q Hh S9 ?_ (bh.toSv (fun r=>?_) ?_)
  ·rw[hS9,hS5,hxs,← e1];rfl
  ·induction r using SR.casesOn
   case i f=>induction f using IF.casesOn <;> first | rfl | simp[cont,St.new]
   case cs=>simp[cont,St.new,PW]
   case cl k=>simp[cont,St.new,PW]
   case ws=>
    dsimp
    simp[cont,St.new,hacc]
    intro k hk
    simp[hS9,hS5,Ad.upd]
   case wa k=>
    dsimp
    simp[cont,St.new,PW,List.getElem?_replicate]
   case le=>simp[cont,St.new]
   case fo=>simp[cont,St.new]
  ·funext y
   rw[ho2,hS9,hS5]
   induction y using At.casesOn <;> first | rfl | exact congrArg CV.ref e3.symm | exact congrArg CV.ref e3 | simp[Ad.upd,St.new,e3]
end
section
theorem allInts_map(l:List Int):Av (l.map CV.int)=some l:=by
 induction l with
 | nil=>rfl
 | cons a t ih=>simp[allInts_e,ih]
theorem cmp_in{H:CH}{a:Addr}{l:List Int}(h:H a=some (.list (l.map .int)))(x:Int):Bm .In H (.int x) (.ref a)=some (decide (x∈l)):=by
 simp[Bu,Ba,Bs,CH.lsA,h,allInts_map]
theorem cmp_nin{H:CH}{a:Addr}{l:List Int}(h:H a=some (.list (l.map .int)))(x:Int):Bm .NotIn H (.int x) (.ref a)=some (decide (x∉l)):=by
 simp[Bu,Ba,Bs,CH.lsA,h,allInts_map]
section
variable {B:Base} {n:Nat} {H:CH} {Q:CV→CH→Prop}
theorem ft_plain(C:Cx B)(hn:0<n){a:Addr}{f:List Int}(ha:H a=some (.tup (f.map .int)))(hl:f.length<lim)(nd:(f.map Int.natAbs).Nodup)
  (q:∀d,H d=none→Q (.ref d) (H.put d (.list (f.map .int)))):FT B fA n .plainClause [.ref a] H Q:=by
 refine C.call hn rfl ?_
 refine wsc ?_
 dsimp[-Aa]
 simp[-Aa]
 intro d hd
 dsimp[-Aa]
 refine wsc ?_
 dsimp[-Aa]
 have had:a≠d:=fun z=>by
  dsimp only at hd
  rw[← z,ha] at hd;cases hd
 have hk:∀o,(H.put d o) a=some (.tup (f.map .int)):=fun o=>by rw[CH.put_ne _ _ had];exact ha
 refine forK_tup (items:=f.map .int) (hk _) (by simp;exact ar172 hl) (fun i σ=>∃x,σ=⟨[.ref a,.ref d,x],H.put d (.list ((f.take i).map .int))⟩) ⟨_,rfl⟩ ?_ ?_
 ·rintro i y σ₂ hy ⟨x,rfl⟩
  rw[List.getElem?_map,Option.map_eq_some_iff] at hy
  refine oea hy fun l hl' z2_=>?_;subst z2_
  refine⟨hk _,?_⟩
  have hil:=(List.getElem?_eq_some_iff.mp hl').1
  have key:∀m∈f.take i,m.natAbs≠l.natAbs:=fun m hm e=>by
   refine oe (List.getElem?_of_mem hm) fun j hj=>?_
   rw[List.getElem?_take] at hj
   split at hj
   ·rename_i hji
    have h1:(f.map Int.natAbs)[j]?=some m.natAbs:=by rw[List.getElem?_map,hj];rfl
    have h2:(f.map Int.natAbs)[i]?=some l.natAbs:=by rw[List.getElem?_map,hl'];rfl
    obtain⟨p1,q1⟩:=List.getElem?_eq_some_iff.mp h1
    obtain⟨p2,q2⟩:=List.getElem?_eq_some_iff.mp h2
    have:=(List.getElem_inj nd).mp (q1.trans (e.trans q2.symm))
    exact ar173 hji this
   ·cases hj
  have hd1:(H.put d (.list ((f.take i).map .int))) d=some (.list ((f.take i).map .int)):=CH.put_self ..
  have c1 : -l∉f.take i:=fun hm=>key _ hm (by simp)
  have c2:l∉f.take i:=fun hm=>key _ hm rfl
  dsimp
  simp[cmp_in hd1,cmp_nin hd1,c1,c2,-List.map_take]
  refine⟨okA hd1,?_⟩
  rw[apV hd1 (by simp;exact ar174 hl)]
  dsimp
  rw[Bg,List.take_add_one,hl']
  dsimp
  simp
 ·rintro σ₂ ⟨x,rfl⟩
  refine⟨hk _,?_⟩
  have e:f.take (f.map CV.int).length=f:=by simp
  rw[e]
  dsimp
  exact q d hd
theorem ft_plain2(C:Cx B)(hn:0<n){a:Addr}{l:Int}(ha:H a=some (.tup [.int l,.int l]))(h0:l≠0)
  (q:∀d,H d=none→Q (.ref d) (H.put d (.list [.int l]))):FT B fA n .plainClause [.ref a] H Q:=by
 refine C.call hn rfl ?_
 refine wsc ?_
 dsimp[-Aa]
 simp[-Aa]
 intro d hd
 dsimp[-Aa]
 refine wsc ?_
 dsimp[-Aa]
 have had:a≠d:=fun z=>by
  dsimp only at hd
  rw[← z,ha] at hd;cases hd
 have hk:∀o,(H.put d o) a=some (.tup [.int l,.int l]):=fun o=>by rw[CH.put_ne _ _ had];exact ha
 refine forK_tup (items:=[.int l,.int l]) (hk _) (by simp;rw[Ab];exact ar7) (fun i σ=>∃x,σ=⟨[.ref a,.ref d,x],H.put d (.list (([l].take i).map .int))⟩) ⟨_,rfl⟩ ?_ ?_
 ·rintro i y σ₂ hy ⟨x,rfl⟩
  refine⟨hk _,?_⟩
  have hi:i<2:=by have:=(List.getElem?_eq_some_iff.mp hy).1;simpa using this
  rcases(by exact ar175 hi:i=0∨i=1) with rfl | rfl
  ·simp at hy
   subst hy
   have hd1:(H.put d (.list [])) d=some (.list (([]:List Int).map .int)):=CH.put_self ..
   dsimp
   simp[cmp_in hd1,cmp_nin hd1]
   refine⟨okA hd1,?_⟩
   rw[apV hd1 (by simp;rw[Ab];exact ar176)]
   dsimp
   simp
   rw[Bg]
  ·simp at hy
   subst hy
   have hd1:(H.put d (.list [.int l])) d=some (.list (([l]:List Int).map .int)):=CH.put_self ..
   have:¬ (-l=l):=by exact ar177 h0
   dsimp
   simp[cmp_in hd1,cmp_nin hd1,this]
 ·rintro σ₂ ⟨x,rfl⟩
  refine⟨hk _,?_⟩
  dsimp
  simp
  exact q d hd
end
end
section
section
variable {Fm H:CH} {S:Ad} {st:St} {B:Base} {n:Nat} {Q:CV→CH→Prop}
theorem ft_add(C:Cx B)(hn:3≤n)(h:Sv Fm H S st)(w:st.Wf)(rf:st.refuted=false){a:Addr}{f:List Int}(ha:Fm a=some (.tup (f.map .int)))(h2:2≤f.length)(hl:f.length<lim)(hv:∀l∈f,Vl st l)(nd:(f.map Int.natAbs).Nodup)
  (h0:∀l∈f,st.v l=0) (hc:st.cls.length<lim) (hw:∀l∈st.wat,l.length+1<lim) (q:∀H' S',S'.self=S.self→Sv Fm H' S' (st.attach f)→Q .none H'):FT B fA n .sAdd [.ref S.self,.ref a] H Q:=by
 refine C.call (by exact ar77 hn) rfl ?_
 refine wsc ?_
 simp[-Aa]
 refine ft_plain C (by exact ar178 hn) (h.fr a _ ha) hl nd fun d hd=>?_
 have h1:=h.alloc (.list (f.map .int)) hd
 have hfd:=Az h hd
 generalize H.put d (.list (f.map .int))=H1 at h1
 have at1:=h1.attrs
 refine wsc ?_
 dsimp[-Aa]
 repeat ((first | refine oat at1 rfl ?_);try dsimp[-Aa])
 simp[-Aa,at1,rf]
 refine wsc ?_
 simp[-Aa]
 intro d3 hd3
 simp[-Aa]
 have h3:=h1.alloc (.list []) hd3
 have hf3:=Az h1 hd3
 have hne:d≠d3:=fun z=>by rw[z,CH.put_self] at hf3;cases hf3
 refine wsc ?_
 simp[-Aa]
 generalize H1.put d3 (.list [])=H3 at h3
 obtain⟨I,hI⟩:∃I:Nat→CS→Prop,∀i σ,I i σ↔(∃(x:CV) (G:CH),σ=⟨[.ref S.self,.ref a,.ref d,.ref d3,x],G⟩∧Sv ((Fm.put d (.list (f.map .int))).put d3 (.list ((f.take i).map .int))) G S st):=⟨_,fun _ _=>Iff.rfl⟩
 have gd:∀o,((Fm.put d (.list (f.map .int))).put d3 o) d=some (.list (f.map .int)):=fun o=>by rw[CH.put_ne _ _ hne,CH.put_self]
 refine Bp (items:=f.map .int) (h3.fr d _ (gd _)) (by simp;exact ar172 hl) I ((hI _ _).mpr ⟨_,_,rfl,h3⟩) ?_ ?_
 ·intro i y σ₂ hy hi
  refine Be ((hI _ _).mp hi) fun x G z2_ hG=>?_;subst z2_
  rw[List.getElem?_map,Option.map_eq_some_iff] at hy
  refine oea hy fun l hl' z2_=>?_;subst z2_
  have lm:=List.mem_of_getElem? hl'
  refine⟨hG.fr d _ (gd _),?_⟩
  simp
  refine⟨hG.obj,ft_value C (by exact ar178 hn) hG w (hv l lm).2 ?_⟩
  simp[h0 l lm]
  refine⟨hG.obj,ft_value C (by lia) hG w (hv l lm).2 ?_⟩
  simp[h0 l lm]
  have g3:=hG.fr d3 _ (CH.put_self ..)
  refine⟨okA g3,?_⟩
  rw[apV g3 (by simp;exact ar174 hl)]
  have hs:=hG.side (.list ((f.take i).map .int++[.int l])) (CH.put_self ..)
  rw[Bg] at hs
  refine(hI _ _).mpr ⟨_,_,rfl,?_⟩
  rw[List.take_add_one,hl']
  simpa using hs
 ·intro σ₂ hi
  refine Be ((hI _ _).mp hi) fun x G z2_ hG=>?_;subst z2_
  refine⟨hG.fr d _ (gd _),?_⟩
  have e:f.take (f.map CV.int).length=f:=by simp
  rw[e] at hG
  have g3:=hG.fr d3 _ (CH.put_self ..)
  have tr:truth G (.ref d3)=some true:=by
   simp only[truth_e,CH.lsA,Ah,Ae,Af,Option.bind_some,g3]
   rw[if_pos (by simp;lia)]
   induction f using List.casesOn with
   | nil=>simp at h2
   | cons=>simp
  refine wsc ?_
  simp[-Aa]
  rw[fin_true]
  simp[-Aa,tr]
  refine wsc ?_
  simp[-Aa]
  rw[lenL g3 (by simp;lia)]
  have:¬ ((f.length:Int)=1):=by exact ar179 h2
  simp[-Aa,show f.length≠1 by exact ar180 h2]
  refine ifn this (wsc ?_)
  simp[-Aa]
  refine⟨hG.obj,?_⟩
  refine ft_attach C (by exact ar95 hn) hG w (CH.put_self ..) h2 (by lia) hv hc hw fun H5 h5=>?_
  refine q H5 (S.upd (.cl st.cls.length) d3) rfl (h5.sub fun y p e=>?_)
  have n1:y≠d:=fun z=>by rw[z,hfd] at e;cases e
  have n2:y≠d3:=fun z=>by
   rw[z] at e
   rw[CH.put_ne _ _ (Ne.symm hne)] at hf3
   rw[hf3] at e;cases e
  unfold CH.del
  rw[if_neg n2,CH.put_ne _ _ n2,CH.put_ne _ _ n1]
  exact e
theorem ft_add1(C:Cx B)(hn:3≤n)(h:Sv Fm H S st)(w:st.Wf)(rf:st.refuted=false){a:Addr}{l:Int}(ha:Fm a=some (.tup [.int l,.int l]))(hv:Vl st l)(hle:st.learned.length<lim)(ht:(st.fld .trail).length<1000)
  (q0:st.v l=0→∀H' S',S'.self=S.self→Sv Fm H' S' (st.assign l (-1))→Q .none H')
  (q1:st.v l = -1→∀t H' S',S'.self=S.self→Sv Fm H' S' { st with refuted:=true,learned:=st.learned++[.ref t] }→Q .none H') (hvv:st.v l=0∨st.v l = -1):FT B fA n .sAdd [.ref S.self,.ref a] H Q:=by
 refine C.call (by lia) rfl ?_
 refine wsc ?_
 dsimp[-Aa]
 refine ft_plain2 C (by lia) (h.fr a _ ha) hv.1 fun d hd=>?_
 have h1:=h.alloc (.list [.int l]) hd
 have hfd:=Az h hd
 generalize H.put d (.list [.int l])=H1 at h1
 have at1:=h1.attrs
 refine wsc ?_
 dsimp[-Aa]
 repeat ((first | refine oat at1 rfl ?_);try dsimp[-Aa])
 simp[-Aa,at1,rf]
 refine wsc ?_
 dsimp[-Aa]
 simp[-Aa]
 intro d3 hd3
 dsimp[-Aa]
 have h3:=h1.alloc (.list []) hd3
 have hf3:=Az h1 hd3
 have hne:d≠d3:=fun z=>by rw[z,CH.put_self] at hf3;cases hf3
 refine wsc ?_
 dsimp[-Aa]
 generalize H1.put d3 (.list [])=H3 at h3
 have gd:∀o,((Fm.put d (.list [.int l])).put d3 o) d=some (.list [.int l]):=fun o=>by rw[CH.put_ne _ _ hne,CH.put_self]
 have low:∀o y p,Fm y=some p→((Fm.put d (.list [.int l])).put d3 o) y=some p:=fun o y p e=>by
  have n1:y≠d:=fun z=>by rw[z,hfd] at e;cases e
  have n2:y≠d3:=fun z=>by
   rw[z] at e
   rw[CH.put_ne _ _ (Ne.symm hne)] at hf3
   rw[hf3] at e;cases e
  rw[CH.put_ne _ _ n2,CH.put_ne _ _ n1]
  exact e
 obtain⟨I,hI⟩:∃I:Nat→CS→Prop,∀i σ,I i σ↔(∃(x:CV) (G:CH),σ=⟨[.ref S.self,.ref a,.ref d,.ref d3,x],G⟩∧Sv ((Fm.put d (.list [.int l])).put d3 (.list (if st.v l=0 then ([l].take i).map .int else []))) G S st):=⟨_,fun _ _=>Iff.rfl⟩
 refine Bp (items:=[.int l]) (h3.fr d _ (gd _)) (by simp;rw[Ab];exact ar78) I ((hI _ _).mpr ⟨_,_,rfl,by simpa using h3⟩) ?_ ?_
 ·intro i y σ₂ hy hi
  refine Be ((hI _ _).mp hi) fun x G z2_ hG=>?_;subst z2_
  have hi0:i=0:=by have:=(List.getElem?_eq_some_iff.mp hy).1;simpa using this
  subst hi0
  simp at hy
  subst hy
  refine⟨hG.fr d _ (gd _),?_⟩
  dsimp
  refine⟨hG.obj,ft_value C (by lia) hG w hv.2 ?_⟩
  rcases hvv with e | e
  ·dsimp
   simp[e]
   refine⟨hG.obj,ft_value C (by lia) hG w hv.2 ?_⟩
   dsimp
   simp[e]
   have g3:G d3=some (.list []):=by have:=hG.fr d3 _ (CH.put_self ..);simpa using this
   refine⟨okA g3,?_⟩
   rw[apV g3 (by simp;rw[Ab];exact ar176)]
   have hs:=hG.side (.list [.int l]) (CH.put_self ..)
   rw[Bg] at hs
   refine(hI _ _).mpr ⟨_,_,rfl,?_⟩
   rw[if_pos e]
   exact hs
  ·dsimp
   simp[e]
   refine⟨hG.obj,ft_value C (by lia) hG w hv.2 ?_⟩
   dsimp
   simp[e]
   refine(hI _ _).mpr ⟨_,_,rfl,?_⟩
   rw[if_neg (by exact ar181 e)] at hG ⊢
   exact hG
 ·intro σ₂ hi
  refine Be ((hI _ _).mp hi) fun x G z2_ hG=>?_;subst z2_
  refine⟨hG.fr d _ (gd _),?_⟩
  rcases hvv with e | e
  ·rw[if_pos e] at hG
   have hG:Sv ((Fm.put d (.list [.int l])).put d3 (.list (([l]:List Int).map .int))) G S st:=hG
   have g3:=hG.fr d3 _ (CH.put_self ..)
   have tr:truth G (.ref d3)=some true:=by
    simp only[truth_e,CH.lsA,Ah,Ae,Af,Option.bind_some,g3]
    rw[if_pos (by simp;rw[Ab];lia)]
    simp
   refine wsc ?_
   dsimp[-Aa]
   rw[fin_true]
   dsimp[-Aa]
   simp[-Aa,tr]
   refine wsc ?_
   dsimp[-Aa]
   rw[lenL g3 (by simp;rw[Ab];lia)]
   dsimp[-Aa]
   simp[-Aa]
   refine wsc ?_
   dsimp[-Aa]
   refine⟨hG.obj,?_⟩
   rw[rdL g3 (k:=0) (by lia) (by simp) (by simp;rw[Ab];lia)]
   dsimp
   simp
   refine ft_assign C (by lia) hG w hv.2 ht fun H5 h5=>?_
   exact q0 e H5 S rfl (h5.sub (low _))
  ·rw[if_neg (by lia)] at hG
   have g3:=hG.fr d3 _ (CH.put_self ..)
   have tr:truth G (.ref d3)=some false:=by
    simp only[truth_e,CH.lsA,Ah,Ae,Af,Option.bind_some,g3]
    rw[if_pos (by simp)]
    dsimp
    simp
   refine wsc ?_
   dsimp[-Aa]
   rw[fin_true]
   dsimp[-Aa]
   simp[-Aa,tr]
   refine wsc ?_
   dsimp[-Aa]
   refine⟨hG.obj,ft_refute C (by lia) hG hle fun t H5 h5=>?_⟩
   exact q1 e t H5 S rfl (h5.sub (low _))
end
end
section
section
variable {F:List (List Int)} {st:St}
theorem Wt.attach(w:st.Wf)(wt:Wt st.cls st.wat){c:List Int}(va:Vl st (c.getD 0 0))(vb:Vl st (c.getD 1 0))(hne:(c.getD 0 0).natAbs≠(c.getD 1 0).natAbs):Wt (st.cls++[c]) (st.attach c).wat:=by
 have s0:=Bq va
 have s1:=Bq vb
 have hwl:=w.wat
 obtain⟨i0,hi0⟩:∃i,i=(Ag (c.getD 0 0)).toNat:=⟨_,rfl⟩
 obtain⟨i1,hi1⟩:∃i,i=(Ag (c.getD 1 0)).toNat:=⟨_,rfl⟩
 have l0:i0<st.wat.length:=by rw[hi0,hwl];exact s0.2.1
 have l1:i1<st.wat.length:=by rw[hi1,hwl];exact s1.2.1
 have ne01:i0≠i1:=fun e=>by
  rw[hi0,hi1] at e
  have:=slot_inj va vb e
  exact hne (by rw[this])
 have rowA:∀s,(st.attach c).wat.getD s []=if s=i1 then st.wat.getD s []++[(st.cls.length:Int)] else if s=i0 then st.wat.getD s []++[(st.cls.length:Int)] else st.wat.getD s []:=fun s=>by
  have e0:(st.attach c).wat=(st.wat.set i0 (st.wat.getD i0 []++[(st.cls.length:Int)])).set i1 ((st.wat.set i0 (st.wat.getD i0 []++[(st.cls.length:Int)])).getD i1 []++[(st.cls.length:Int)]):=by
   rw[hi0,hi1];rfl
  rw[e0,Bo (by rw[List.length_set];exact l1)]
  split
  ·rename_i e
   rw[Bo l0,if_neg (Ne.symm ne01),e]
  ·rw[Bo l0]
   split
   ·rename_i e;rw[e]
   ·rfl
 have knew:∀s,(st.cls.length:Int)∉st.wat.getD s []:=fun s hm=>by
  refine B3 ((wt.mem s _).mp hm) fun k c h1 h2 _=>?_
  have:=(List.getElem?_eq_some_iff.mp h2).1
  exact ar563 this h1
 refine⟨fun s x=>?_,fun s=>?_⟩
 ·rw[rowA]
  have B:=wt.mem s x
  have up:Wat st.cls s x→Wat (st.cls++[c]) s x:=fun⟨k,c',h1,h2,h3⟩=>⟨k,c',h1,by rw[List.getElem?_append_left (List.getElem?_eq_some_iff.mp h2).1];exact h2,h3⟩
  have newk:(st.cls++[c])[st.cls.length]?=some c:=by simp
  constructor
  ·intro hx
   split at hx
   ·rename_i e
    rcases List.mem_append.mp hx with m | m
    ·exact up (B.mp m)
    ·rw[List.mem_singleton] at m
     exact⟨st.cls.length,c,m,newk,.inr (by rw[e,hi1])⟩
   ·split at hx
    ·rename_i e
     rcases List.mem_append.mp hx with m | m
     ·exact up (B.mp m)
     ·rw[List.mem_singleton] at m
      exact⟨st.cls.length,c,m,newk,.inl (by rw[e,hi0])⟩
    ·exact up (B.mp hx)
  ·rintro⟨k,c',h1,h2,h3⟩
   rw[List.getElem?_append] at h2
   split at h2
   ·have:=B.mpr ⟨k,c',h1,h2,h3⟩
    split
    ·exact List.mem_append_left _ this
    ·split
     ·exact List.mem_append_left _ this
     ·exact this
   ·rename_i hk
    have:k-st.cls.length=0:=by
     induction e:k-st.cls.length using Nat.casesOn with
     | zero=>rfl
     | succ j=>rw[e] at h2;simp at h2
    rw[this] at h2
    simp at h2
    subst h2
    have hkk:k=st.cls.length:=by exact ar197 this hk
    subst hkk
    rcases h3 with h3 | h3
    ·have e:s=i0:=by rw[hi0];exact h3.symm
     rw[if_neg (by rw[e];exact ne01),if_pos e]
     simp[h1]
    ·have e:s=i1:=by rw[hi1];exact h3.symm
     rw[if_pos e]
     simp[h1]
 ·rw[rowA]
  have nd2:(st.wat.getD s []++[(st.cls.length:Int)]).Nodup:=by
   rw[List.nodup_append]
   exact⟨wt.nd s,by simp,fun a ha b hb e=>by simp at hb;subst hb;subst e;exact knew s ha⟩
  split
  ·exact nd2
  ·split
   ·exact nd2
   ·exact wt.nd s
theorem rep_getD{α:Type}{a:α}{n i:Nat}:(List.replicate n a).getD i a=a:=by
 rw[List.getD_eq_getElem?_getD,List.getElem?_replicate]
 split <;> rfl
theorem new_tr(c:Nat):(St.new c).tr=[]:=rfl
theorem new_lis(c:Nat):(St.new c).lis=[]:=rfl
theorem PI.new{c:Nat}(hc:c≤100):PI [] (St.new c) (St.new c).wat 0:=by
 refine⟨⟨hc,fun f h1 h2=>?_,by simp[St.new],by simp[St.new],by simp[St.new]⟩,⟨(fun l hl=>by cases hl),by simp[new_tr],(fun l hl=>by cases hl),fun i _=>rep_getD,(fun x hx=>by cases hx),List.Pairwise.nil,fun p l hl=>by simp[new_tr] at hl⟩,fun p l hl=>by simp[new_tr] at hl,
  (fun c hc=>by cases hc),⟨fun s x=>?_,fun s=>?_⟩,fun k c hk=>by simp[St.new] at hk,⟨(fun M _ c hc=>by cases hc),fun M _ p l hl=>by simp[new_tr] at hl,(fun f hf=>by cases hf)⟩,Nat.zero_le _,(fun x hx=>by cases hx),fun i h1 h2=>?_,by simp[St.new],by simp[St.new]⟩
 ·induction f using IF.casesOn <;> first | exact absurd rfl h1 | exact absurd rfl h2 | simp[St.new]
 ·have e:(St.new c).wat.getD s []=[]:=rep_getD
  rw[e]
  constructor
  ·intro h;cases h
  ·rintro⟨k,c',_,h,_⟩;simp[St.new] at h
 ·have e:(St.new c).wat.getD s []=[]:=rep_getD
  rw[e];exact List.nodup_nil
 ·right
  simp only[St.new,List.length_replicate] at h2 ⊢
  rw[List.getD_eq_getElem?_getD,List.getElem?_replicate,if_pos h2];rfl
theorem PI.attach0(pi:PI F st st.wat 0)(htr:st.tr=[])(hlis:st.lis=[]){f:List Int}(h2:2≤f.length)(hv:∀l∈f,Vl st l∧l.natAbs≠1)(nd:(f.map Int.natAbs).Nodup)(hn:st.cls.length<5000):
  PI (F++[f]) (st.attach f) (st.attach f).wat 0:=by
 have m0:f.getD 0 0∈f:=Ay (by exact ar5 h2)
 have m1:f.getD 1 0∈f:=Ay (by exact ar13 h2)
 have htr':(st.attach f).tr=[]:=htr
 refine⟨attach_wf pi.wf,pi.tr.fld rfl rfl,fun p l hl=>by rw[htr'] at hl;simp at hl,fun c hc=>?_,pi.wt.attach pi.wf (hv _ m0).1 (hv _ m1).1 (nodup_ne nd (by lia) (by lia) (by exact ar564)),fun k c hk a b hp q hq=>by lia,⟨fun M hM c hc=>?_,fun M hM p l hl=>by rw[htr'] at hl;simp at hl,fun g hg=>?_⟩,Nat.zero_le _,fun x hx=>?_,pi.ph,?_,pi.le⟩
 ·simp only[Bv] at hc
  rcases List.mem_append.mp hc with m | m
  ·exact pi.cz c m
  ·simp only[List.mem_singleton] at m
   subst m
   exact⟨h2,hv,nd⟩
 ·simp only[Bv] at hc
  rcases List.mem_append.mp hc with m | m
  ·exact pi.sd.cl M (fun g hg=>hM g (List.mem_append_left _ hg)) c m
  ·simp only[List.mem_singleton] at m
   subst m
   exact hM c (by simp)
 ·rcases List.mem_append.mp hg with m | m
  ·refine oea (pi.sd.kp g m) fun c h1 h2=>?_
   exact⟨c,by rw[Bv];exact List.mem_append_left _ h1,h2⟩
  ·simp only[List.mem_singleton] at m
   subst m
   exact⟨g,by rw[Bv];simp,fun l=>Iff.rfl⟩
 ·have:(st.attach f).lis=[]:=hlis
  rw[this] at hx;cases hx
 ·rw[Bv,List.length_append,List.length_singleton];exact ar565 hn
end
end
section
noncomputable def As(α:List Int)(l:Int):Prop:=l.natAbs∈α.map Int.natAbs
inductive Ch (F:List (List Int)):Int→List Int→List Int→Prop where
 | base (l:Int):l≠0→Ch F l [l] []
 | gate {p:Int} {ms gs:List Int} (o l:Int):Ch F p ms gs→l≠0→o≠0→(∃f∈F,∀x,x∈f↔x = -o∨x=p)→(∃f∈F,∀x,x∈f↔x = -o∨x=l)→(∃f∈F,∀x,x∈f↔x=o∨x = -p∨x = -l)→Ch F o (l::ms) (o::gs)
section
variable {F:List (List Int)} {α β:List Int} {cnt:Nat} {inp:List Nat}
theorem As.neg{l:Int}:As α (-l)↔As α l:=by unfold As;rw[Int.natAbs_neg]
theorem As.mem{l:Int}(h:l∈α):As α l:=List.mem_map_of_mem h
theorem As.cases{l:Int}(h:As α l):l∈α∨-l∈α:=by
 refine oea (List.mem_map.mp h) fun m hm e=>?_
 rcases B9 e with rfl | rfl
 ·exact .inl hm
 ·exact .inr hm
theorem Cons.no(c:Cons cnt α){l:Int}(h1:l∈α)(h2 : -l∈α):False:=by
 have hn:=(c.2 l h1).1
 refine oe (List.getElem?_of_mem h1) fun i hi=>?_
 refine oe (List.getElem?_of_mem h2) fun j hj=>?_
 have e1:(α.map Int.natAbs)[i]?=some l.natAbs:=by rw[List.getElem?_map,hi];rfl
 have e2:(α.map Int.natAbs)[j]?=some l.natAbs:=by rw[List.getElem?_map,hj];simp
 obtain⟨p1,q1⟩:=List.getElem?_eq_some_iff.mp e1
 obtain⟨p2,q2⟩:=List.getElem?_eq_some_iff.mp e2
 have:=(List.getElem_inj c.1).mp (q1.trans q2.symm)
 subst this
 rw[hi] at hj
 simp at hj
 exact ar566 hj hn
theorem cl2(c:Clsd F α){x y:Int}(h:∃f∈F,∀z,z∈f↔z=x∨z=y):x∈α∨y∈α∨(¬ As α x∧¬ As α y):=by
 refine oea h fun f hf hm=>?_
 rcases c f hf with ⟨l,h1,h2⟩ | ⟨l1,h1,l2,h2,h3,h4,h5⟩
 ·rcases(hm l).mp h1 with rfl | rfl
  ·exact .inl h2
  ·exact .inr (.inl h2)
 ·rcases(hm l1).mp h1 with rfl | rfl <;> rcases(hm l2).mp h2 with rfl | rfl
  ·exact absurd rfl h3
  ·exact .inr (.inr ⟨h4,h5⟩)
  ·exact .inr (.inr ⟨h5,h4⟩)
  ·exact absurd rfl h3
theorem cl3(c:Clsd F α){x y w:Int}(h:∃f∈F,∀z,z∈f↔z=x∨z=y∨z=w):x∈α∨y∈α∨w∈α∨(¬ As α x∧¬ As α y)∨(¬ As α x∧¬ As α w)∨(¬ As α y∧¬ As α w):=by
 refine oea h fun f hf hm=>?_
 rcases c f hf with ⟨l,h1,h2⟩ | ⟨l1,h1,l2,h2,h3,h4,h5⟩
 ·rcases(hm l).mp h1 with rfl | rfl | rfl
  ·exact .inl h2
  ·exact .inr (.inl h2)
  ·exact .inr (.inr (.inl h2))
 ·have k4:¬ As α l1:=h4
  have k5:¬ As α l2:=h5
  rcases(hm l1).mp h1 with rfl | rfl | rfl <;> rcases(hm l2).mp h2 with rfl | rfl | rfl <;> first | exact absurd rfl h3 | simp_all
theorem Ch.all{t:Int}{ms gs:List Int}(h:Ch F t ms gs)(cs:Cons cnt α)(c:Clsd F α)(ha:∀m∈ms,As α m):As α t∧∀g∈gs,As α g:=by
 induction h with
 | base l h0=>exact⟨ha l (by simp),fun g hg=>by cases hg⟩
 | @gate p ms gs o l hp hl ho c1 c2 c3 ih=>
  refine oa (ih fun m hm=>ha m (List.mem_cons_of_mem _ hm)) fun i1 i2=>?_
  have al:=ha l (by simp)
  have ao:As α o:=by
   rcases cl3 c c3 with z | z | z | z | z | z
   ·exact .mem z
   ·rcases cl2 c c1 with y | y | y
    ·exact As.neg.mp (.mem y)
    ·exact(cs.no y z).elim
    ·exact absurd i1 y.2
   ·rcases cl2 c c2 with y | y | y
    ·exact As.neg.mp (.mem y)
    ·exact(cs.no y z).elim
    ·exact absurd al y.2
   ·exact absurd (As.neg.mpr i1) z.2
   ·exact absurd (As.neg.mpr al) z.2
   ·exact absurd (As.neg.mpr al) z.2
  exact⟨ao,fun g hg=>by
   rcases List.mem_cons.mp hg with rfl | m
   ·exact ao
   ·exact i2 g m⟩
theorem Ch.tru{t:Int}{ms gs:List Int}(h:Ch F t ms gs)(cs:Cons cnt α)(c:Clsd F α)(ha:∀m∈ms,m∈α):t∈α∧∀g∈gs,g∈α:=by
 induction h with
 | base l h0=>exact⟨ha l (by simp),fun g hg=>by cases hg⟩
 | @gate p ms gs o l hp hl ho c1 c2 c3 ih=>
  refine oa (ih fun m hm=>ha m (List.mem_cons_of_mem _ hm)) fun i1 i2=>?_
  have al:=ha l (by simp)
  have ao:o∈α:=by
   rcases cl3 c c3 with z | z | z | z | z | z
   ·exact z
   ·exact(cs.no i1 z).elim
   ·exact(cs.no al z).elim
   ·exact absurd (As.neg.mpr (.mem i1)) z.2
   ·exact absurd (As.neg.mpr (.mem al)) z.2
   ·exact absurd (As.neg.mpr (.mem al)) z.2
  exact⟨ao,fun g hg=>by
   rcases List.mem_cons.mp hg with rfl | m
   ·exact ao
   ·exact i2 g m⟩
theorem Ch.down{t:Int}{ms gs:List Int}(h:Ch F t ms gs)(cs:Cons cnt α)(c:Clsd F α)(ht:t∈α):∀m∈ms,m∈α:=by
 induction h with
 | base l h0=>intro m hm;rw[List.mem_singleton] at hm;exact hm▸ht
 | @gate p ms gs o l hp hl ho c1 c2 c3 ih=>
  intro m hm
  have nn:∀{y:Int},(-o∈α∨y∈α∨(¬ As α (-o)∧¬ As α y))→y∈α:=fun h=>by
   rcases h with z | z | z
   ·exact(cs.no ht z).elim
   ·exact z
   ·exact absurd (As.neg.mpr (.mem ht)) z.1
  rcases List.mem_cons.mp hm with rfl | hm
  ·exact nn (cl2 c c2)
  ·exact ih (nn (cl2 c c1)) m hm
theorem Ch.sub{t:Int}{ms gs:List Int}(h:Ch F t ms gs){g:Int}(hg:g∈gs):∃ms' gs',Ch F g ms' gs'∧ms'.Sublist ms∧(∀α,Cons cnt α→Clsd F α→-g∈α→-t∈α):=by
 induction h with
 | base l h0=>cases hg
 | @gate p ms gs o l hp hl ho c1 c2 c3 ih=>
  rcases List.mem_cons.mp hg with rfl | hg
  ·exact⟨_,_,.gate g l hp hl ho c1 c2 c3,List.Sublist.refl _,fun _ _ _ h=>h⟩
  ·refine B3 (ih hg) fun ms' gs' h1 h2 h3=>?_
   refine⟨ms',gs',h1,h2.cons _,fun α cs c hn=>?_⟩
   have hp':=h3 α cs c hn
   rcases cl2 c c1 with z | z | z
   ·exact z
   ·exact(cs.no z hp').elim
   ·exact absurd (As.neg.mp (.mem hp')) z.2
theorem Ch.anew{t:Int}{ms gs:List Int}(h:Ch F t ms gs)(ca:Cons cnt α)(cb:Cons cnt β)(a:Clsd F α)(b:Clsd F β)(hs:∀l∈α,l∈β)(hi:∀m∈ms,As β m→As α m)
  (h1:(ms.map Int.natAbs).Nodup) (hx:∀x∈ms,∀y∈ms,¬ As β x→¬ As β y→x.natAbs=y.natAbs) (ht:As β t):As α t:=by
 induction h with
 | base l h0=>exact hi l (by simp) ht
 | @gate p ms gs o l hp hl ho c1 c2 c3 ih=>
  rw[List.map_cons,List.nodup_cons] at h1
  have ih:=ih (fun m hm=>hi m (List.mem_cons_of_mem _ hm)) h1.2 (fun x hx' y hy=>hx x (List.mem_cons_of_mem _ hx') y (List.mem_cons_of_mem _ hy))
  have same:∀{y:Int},As α y→y∈β→y∈α:=fun hy hb=>by
   rcases hy.cases with z | z
   ·exact z
   ·exact(cb.no hb (hs _ z)).elim
  have key:∀{y:Int},(-o∈α∨y∈α∨(¬ As α (-o)∧¬ As α y))→-y∈α→As α o:=fun h hy=>by
   rcases h with z | z | z
   ·exact As.neg.mp (.mem z)
   ·exact(ca.no z hy).elim
   ·exact absurd (As.neg.mp (.mem hy)) z.2
  rcases ht.cases with z | z
  ·-- true
   have hd:=(Ch.gate o l hp hl ho c1 c2 c3).down cb b z
   have hd':∀m∈l::ms,m∈α:=fun m hm=>same (hi m hm (.mem (hd m hm))) (hd m hm)
   exact .mem ((Ch.gate o l hp hl ho c1 c2 c3).tru ca a hd').1
  ·rcases cl3 b c3 with y | y | y | y | y | y
   ·exact(cb.no y z).elim
   ·have:=ih (As.neg.mp (.mem y))
    exact key (cl2 a c1) (same (As.neg.mpr this) y)
   ·exact key (cl2 a c2) (same (As.neg.mpr (hi l (by simp) (As.neg.mp (.mem y)))) y)
   ·exact absurd (As.neg.mp (.mem z)) y.1
   ·exact absurd (As.neg.mp (.mem z)) y.1
   ·exfalso
    have hl':¬ As β l:=fun e=>y.2 (As.neg.mpr e)
    have hall:∀m∈ms,As β m:=fun m hm=>by
     apply Classical.byContradiction
     intro hm'
     have:=hx l (by simp) m (List.mem_cons_of_mem _ hm) hl' hm'
     exact h1.1 (this▸List.mem_map_of_mem hm)
    exact y.1 (As.neg.mpr (hp.all cb b hall).1)
theorem kp_chain{a b:Int}{mA gA mB gB:List Int}(hA:Ch F a mA gA)(hB:Ch F b mB gB)(x1:∃f∈F,∀z,z∈f↔z=a∨z=b)(x2:∃f∈F,∀z,z∈f↔z = -a∨z = -b)
  (c7:inp.length≤7) (n1:1∉inp) (iA:∀v∈inp,v∈mA.map Int.natAbs) (iA':∀m∈mA,m.natAbs∈inp) (iB:∀m∈mB,m.natAbs∈inp) (ndA:(mA.map Int.natAbs).Nodup)
  (miss:∀x∈inp,∀y∈inp,x∉mB.map Int.natAbs→y∉mB.map Int.natAbs→x=y)
  (cov:∀v,2≤v→v≤cnt→v∈inp∨v∈gA.map Int.natAbs∨v∈gB.map Int.natAbs):KP F inp cnt:=by
 have k1:∀α,Cons cnt α→Clsd F α→nIn inp α=0→∀v,2≤v→v≤cnt→v∈α.map Int.natAbs:=fun α cs c h0 v h2 hv=>by
  have hall:∀v∈inp,v∈α.map Int.natAbs:=by
   unfold nIn at h0
   rw[List.countP_eq_zero] at h0
   intro v hv
   have:=h0 v hv
   simpa using this
  rcases cov v h2 hv with m | m | m
  ·exact hall v m
  ·refine oea (List.mem_map.mp m) fun g hg z2_=>?_;subst z2_
   exact(hA.all cs c fun m hm=>hall _ (iA' m hm)).2 g hg
  ·refine oea (List.mem_map.mp m) fun g hg z2_=>?_;subst z2_
   exact(hB.all cs c fun m hm=>hall _ (iB m hm)).2 g hg
 refine⟨c7,n1,k1,fun α β ca cb clα clβ hs v h2 hv hna hnb=>?_⟩
 apply Classical.byContradiction
 intro hlt
 have hle:=nIn_le (inp:=inp) hs
 have hin:∀v∈inp,v∈β.map Int.natAbs→v∈α.map Int.natAbs:=fun x hx hxb=>by
  apply Classical.byContradiction
  intro hxa
  apply hlt
  unfold nIn
  have e:∀y∈inp,decide (y∉β.map Int.natAbs)=true→decide (y∉α.map Int.natAbs)=true:=fun y _ hy=>by
   simp only[decide_eq_true_eq] at hy ⊢
   intro hm
   refine oea (List.mem_map.mp hm) fun l hl z2_=>?_;subst z2_
   exact hy (List.mem_map_of_mem (hs l hl))
  clear hlt hle c7 n1 iA iA' iB miss cov k1
  induction inp with
  | nil=>cases hx
  | cons y r ih=>
   rw[List.countP_cons,List.countP_cons]
   have mono:r.countP (fun v=>decide (v∉β.map Int.natAbs))≤r.countP (fun v=>decide (v∉α.map Int.natAbs)):=List.countP_mono_left fun z hz=>e z (List.mem_cons_of_mem _ hz)
   rcases List.mem_cons.mp hx with rfl | hx
   ·have:decide (x∉β.map Int.natAbs)=false:=by simpa using hxb
    have h3:decide (x∉α.map Int.natAbs)=true:=by simpa using hxa
    rw[this,h3]
    dsimp
    simp
    simp at mono
    exact ar567 mono
   ·have:=ih hx fun z hz=>e z (List.mem_cons_of_mem _ hz)
    have hy:=e y (by simp)
    by_cases q:decide (y∉β.map Int.natAbs)=true
    ·rw[q,hy q];lia
    ·simp only[Bool.not_eq_true] at q
     rw[q]
     simp only[Bool.false_eq_true,if_false]
     split <;> (first | exact ar568 this | exact ar569 this | lia)
 have same:∀{y:Int},As α y→y∈β→y∈α:=fun hy hb=>by
  rcases hy.cases with z | z
  ·exact z
  ·exact(cb.no hb (hs _ z)).elim
 have hi:∀m:Int,m.natAbs∈inp→As β m→As α m:=fun m hm h=>hin _ hm h
 have old:∀{g:Int} {ms gs:List Int},Ch F g ms gs→(∀m∈ms,m.natAbs∈inp)→g∈β→g∈α:=fun h hm hg=>by
  have hd:=h.down cb clβ hg
  exact(h.tru ca clα fun m hm'=>same (hi m (hm m hm') (.mem (hd m hm'))) (hd m hm')).1
 by_cases hfull:nIn inp β=0
 ·exact hna (k1 α ca clα (by exact ar570 hfull hlt) v h2 hv)
 have hatop:a∉β:=fun ht=>by
  apply hfull
  unfold nIn
  rw[List.countP_eq_zero]
  intro x hx
  have:=iA x hx
  refine oea (List.mem_map.mp this) fun m hm z2_=>?_;subst z2_
  have:=hA.down cb clβ ht m hm
  simp only[decide_not,Bool.not_eq_true',decide_eq_false_iff_not,Classical.not_not]
  exact List.mem_map_of_mem this
 have anew:∀{g:Int} {ms gs:List Int},Ch F g ms gs→(∀m∈ms,m.natAbs∈inp)→As β g→¬ As α g→-g∈β:=fun h hm hg hng=>by
  rcases hg.cases with z | z
  ·exact absurd (As.mem (old h hm z)) hng
  ·exact z
 rcases cl2 clβ x1 with z | z | z
 ·exact hatop z
 ·-- b true
  have hd:=hB.down cb clβ z
  have ha':∀m∈mB,m∈α:=fun m hm=>same (hi m (iB m hm) (.mem (hd m hm))) (hd m hm)
  have htB:=hB.tru ca clα ha'
  rcases cov v h2 hv with m | m | m
  ·exact hna (hin v m hnb)
  ·refine oea (List.mem_map.mp m) fun g hg z2_=>?_;subst z2_
   refine B3 (hA.sub (cnt:=cnt) hg) fun ms' gs' s1 s2 _=>?_
   refine hna (s1.anew ca cb clα clβ hs (fun m hm=>hi m (iA' m (s2.subset hm))) (ndA.sublist (s2.map _)) (fun x hx y hy nx ny=>?_) hnb)
   have nB:∀x,¬ As β x→x.natAbs∉mB.map Int.natAbs:=fun x nx hm=>by
    refine oea (List.mem_map.mp hm) fun m hm e=>?_
    apply nx
    unfold As
    rw[← e]
    exact List.mem_map_of_mem (hd m hm)
   exact miss _ (iA' x (s2.subset hx)) _ (iA' y (s2.subset hy)) (nB x nx) (nB y ny)
  ·refine oea (List.mem_map.mp m) fun g hg z2_=>?_;subst z2_
   exact hna (List.mem_map_of_mem (htB.2 g hg))
 ·-- both tops open
  rcases cov v h2 hv with m | m | m
  ·exact hna (hin v m hnb)
  ·refine oea (List.mem_map.mp m) fun g hg z2_=>?_;subst z2_
   refine B3 (hA.sub (cnt:=cnt) hg) fun ms' gs' s1 s2 s3=>?_
   have:=s3 β cb clβ (anew s1 (fun m hm=>iA' m (s2.subset hm)) hnb hna)
   exact z.1 (As.neg.mp (.mem this))
  ·refine oea (List.mem_map.mp m) fun g hg z2_=>?_;subst z2_
   refine B3 (hB.sub (cnt:=cnt) hg) fun ms' gs' s1 s2 s3=>?_
   have:=s3 β cb clβ (anew s1 (fun m hm=>iB m (s2.subset hm)) hnb hna)
   exact z.2 (As.neg.mp (.mem this))
end
end
section
theorem band1(x:Nat):Builtin.bitAnd (x:Int) 1=((x%2:Nat):Int):=by rw[bitAnd_m1];exact ar182
theorem bxor1(x:Nat):Builtin.bitXor (x:Int) 1=if x%2=1 then (x:Int)-1 else (x:Int)+1:=by
 rw[bitXor_and,bitAnd_m1];split <;> (first | exact ar183 (by assumption) | lia)
theorem bandN(x y:Nat):Builtin.bitAnd (x:Int) (y:Int)=((x &&& y:Nat):Int):=by
 rw[bitAnd_pp (by exact ar2) (by lia)];simp
theorem xor_and(x:Nat):∀y:Nat,x+y=(x ^^^ y)+2*(x &&& y):=by
 induction x using Nat.strongRecOn with
 | _ x ih=>
  intro y
  by_cases h:x=0
  ·subst h;simp
  ·have i:=ih (x/2) (by exact ar185 h) (y/2)
   have a1:=Nat.and_div_two (a:=x) (b:=y)
   have a2:=Nat.xor_div_two (a:=x) (b:=y)
   have b1:=Nat.and_mod_two_eq_one (a:=x) (b:=y)
   have b2:=Nat.xor_mod_two_eq_one (a:=x) (b:=y)
   simp only[← a1,← a2] at i
   lia
theorem bxorN(x y:Nat):Builtin.bitXor (x:Int) (y:Int)=((x ^^^ y:Nat):Int):=by
 rw[bitXor_and,bandN]
 have:=xor_and x y
 exact ar187 this
theorem shrN(x y:Nat):(x:Int).fdiv (2^y)=((x/2^y:Nat):Int):=by
 have h:(2:Int)^y=((2^y:Nat):Int):=by push_cast;rfl
 rw[h,Int.fdiv_eq_ediv_of_nonneg _ (Int.natCast_nonneg _)]
 exact(Int.natCast_ediv x (2^y)).symm
end
section
structure AA where
 a:Addr
 d:Addr
 na:Addr
 ia:Addr
 oa:Addr
 ta:Addr
 ts:Nat→Addr
abbrev Gr:=List (Option (Nat × Nat))
noncomputable def Bj(A:AA)(i:Nat):Option (Nat × Nat)→CV
 | none=>.none
 | some _=>.ref (A.ts i)
noncomputable def aigO(A:AA):At→CV
 | .nodes=>.ref A.na
 | .inputs=>.ref A.ia
 | .outputs=>.ref A.oa
 | .table=>.ref A.ta
 | _=>.undef
noncomputable def Le(H G:CH):Prop:=∀x o,H x=some o→G x=some o
theorem Le.refl(H:CH):Le H H:=fun _ _ h=>h
theorem Le.trans{H G K:CH}(h:Le H G)(k:Le G K):Le H K:=fun x o e=>k x o (h x o e)
theorem Le.put{H G:CH}(h:Le H G)(d:Addr)(o:CO):Le (H.put d o) (G.put d o):=fun x p e=>by
 by_cases z:x=d
 ·subst z;rw[CH.put_self] at e ⊢;exact e
 ·rw[CH.put_ne _ _ z] at e ⊢;exact h x p e
theorem Le.new{H:CH}{d:Addr}(h:H d=none)(o:CO):Le H (H.put d o):=fun x p e=>by
 have:x≠d:=fun z=>by rw[z,h] at e;cases e
 rw[CH.put_ne _ _ this];exact e
theorem Le.none{H G:CH}(h:Le H G){d:Addr}(e:G d=none):H d=none:=by
 induction q:H d using Option.casesOn with
 | none=>rfl
 | some o=>rw[h d o q] at e;cases e
structure AgR (H:CH) (A:AA) (g:Gr) (inps:List Nat):Prop where
 self:H A.a=some (.inst .aig A.d (aigO A))
 nodes:H A.na=some (.list (g.mapIdx fun i p=>Bj A i p))
 tup:∀i l r,g[i]?=some (some (l,r))→H (A.ts i)=some (.tup [.int (l:Nat),.int (r:Nat)])
 ins:H A.ia=some (.list (inps.map fun(i:Nat)=>.int i))
structure AgV (Fm H:CH) (A:AA) (g:Gr) (inps:List Nat) (tab:List (List Int × CV)):Prop extends AgR H A g inps where
 tabl:H A.ta=some (.dictp tab)
 outs:H A.oa=some (.list [])
 fr:Le Fm H
 ap:∀x o,Fm x=some o→x≠A.a∧x≠A.na∧x≠A.ia∧x≠A.oa∧x≠A.ta
 d1:A.na≠A.ia
 d2:A.na≠A.oa
 d3:A.ia≠A.oa
 tk:∀p∈tab,∃l r k:Nat,p=([(l:Int),(r:Int)],.int k)∧g[k]?=some (some (l,r))
 tl:tab.length≤g.length
section
variable {Fm H G:CH} {A:AA} {g:Gr} {inps:List Nat} {tab:List (List Int × CV)} {B:Base} {n:Nat} {Q:CV→CH→Prop}
theorem AgR.le(h:AgR H A g inps)(k:Le H G):AgR G A g inps:=⟨k _ _ h.self,k _ _ h.nodes,fun i l r e=>k _ _ (h.tup i l r e),k _ _ h.ins⟩
theorem aig_nu{a:At}(h:Cl.has .aig a=true):aigO A a≠.undef:=by
 induction a using At.casesOn <;> first | exact ff h | exact nofun
theorem AgR.attrs(h:AgR H A g inps):∀a,Cl.has .aig a=true→attrV H (.ref A.a) a=some (aigO A a):=fun a ha=>
 (congrArg (fun o=>Option.bind o (CO.attr a)) h.self).trans (if_pos ⟨ha,aig_nu ha⟩)
@[simp] theorem ahas_nodes:Cl.has .aig .nodes=true:=by decide
@[simp] theorem ao_nodes:aigO A .nodes=.ref A.na:=rfl
@[simp] theorem ahas_inputs:Cl.has .aig .inputs=true:=by decide
@[simp] theorem ao_inputs:aigO A .inputs=.ref A.ia:=rfl
@[simp] theorem ahas_outputs:Cl.has .aig .outputs=true:=by decide
@[simp] theorem ao_outputs:aigO A .outputs=.ref A.oa:=rfl
@[simp] theorem ahas_table:Cl.has .aig .table=true:=by decide
@[simp] theorem ao_table:aigO A .table=.ref A.ta:=rfl
theorem AgR.obj(h:AgR H A g inps){f:Fn}(hf:f.cl=some .aig:=by rfl):MOk H (.ref A.a) f:=⟨_,_,_,_,rfl,h.self,hf⟩
theorem AgR.node(h:AgR H A g inps)(hg:g.length≤lim){i:Nat}{p:Option (Nat × Nat)}(e:g[i]?=some p):subV H (.ref A.na) (.int i)=some (Bj A i p):=by
 have hi:=(List.getElem?_eq_some_iff.mp e).1
 rw[rdRef h.nodes (k:=(i:Int)) (by exact ar2) (by simpa using hi) (by simpa using hg)]
 rw[List.getElem?_mapIdx]
 simp[e]
theorem AgR.kid(h:AgR H A g inps){i l r:Nat}(e:g[i]?=some (some (l,r))):subV H (.ref (A.ts i)) (.int 0)=some (.int l)∧subV H (.ref (A.ts i)) (.int 1)=some (.int r):=by
 have:=h.tup i l r e
 constructor <;> (simp only[subV,CO.sub,Ae,Af,Option.bind_some,this];simp[idx])
theorem ft_isAnd(C:Cx B)(hn:0<n)(h:AgR H A g inps)(hg:g.length≤lim){i:Nat}{p:Option (Nat × Nat)}(e:g[i]?=some p)(q:Q (.bool p.isSome) H):FT B fA n .aIsAnd [.ref A.a,.int i] H Q:=by
 refine C.call hn rfl ?_
 refine wsc ?_
 dsimp
 repeat ((first | refine oat h.attrs rfl ?_);try dsimp )
 simp[h.attrs,h.node hg e]
 induction p using Option.casesOn with
 | none=>simpa[Bj] using q
 | some x=>simpa[Bj] using q
end
end
section
section
variable {Fm H G:CH} {A:AA} {g:Gr} {inps:List Nat} {tab:List (List Int × CV)} {B:Base} {n:Nat} {Q:CV→CH→Prop}
theorem setA_put{H:CH}{a d:Addr}{c:Cl}{f:At→CV}{x:At}{v:CV}(e:H a=some (.inst c d f))(h1:c.has x=true)(h2:v≠.undef):setA H (.ref a) x v=some (H.put a (.inst c d fun y=>if y=x then v else f y)):=by
 simp only[setA,CO.setA,Ae,Af,Option.bind_some,e]
 rw[if_pos ⟨h1,h2⟩]
theorem ft_aInit(C:Cx B)(hn:0<n){x d:Addr}(hH:Le Fm H)(hF:Fm x=none)(hx:H x=some (.inst .aig d fun _=>.undef))
  (q:∀H' A,A.a=x→AgV Fm H' A [none] [] []→Q .none H'):FT B fA n .aInit [.ref x] H Q:=by
 refine C.call hn rfl ?_
 refine wsc ?_
 dsimp[-Aa]
 refine⟨by rw[Ab];exact ar78,fun na hna=>?_⟩
 dsimp[-Aa]
 dsimp only at hna
 have n1:x≠na:=fun z=>by rw[← z,hx] at hna;cases hna
 rw[setA_put (by rw[CH.put_ne _ _ n1];exact hx) rfl (by simp)]
 refine wsc ?_
 dsimp[-Aa]
 simp[-Aa]
 intro ia hia
 dsimp[-Aa]
 dsimp only at hia
 have n2:x≠ia:=fun z=>by rw[← z,CH.put_self] at hia;cases hia
 rw[CH.put_ne _ _ (Ne.symm n2)] at hia
 have n3:ia≠na:=fun z=>by rw[z,CH.put_self] at hia;cases hia
 rw[CH.put_ne _ _ n3] at hia
 rw[setA_put (by rw[CH.put_ne _ _ n2,CH.put_self]) rfl (by simp)]
 refine wsc ?_
 dsimp[-Aa]
 simp[-Aa]
 intro oa hoa
 dsimp[-Aa]
 dsimp only at hoa
 have n4:x≠oa:=fun z=>by rw[← z,CH.put_self] at hoa;cases hoa
 rw[CH.put_ne _ _ (Ne.symm n4)] at hoa
 have n5:oa≠ia:=fun z=>by rw[z,CH.put_self] at hoa;cases hoa
 rw[CH.put_ne _ _ n5,CH.put_ne _ _ (Ne.symm n4)] at hoa
 have n6:oa≠na:=fun z=>by rw[z,CH.put_self] at hoa;cases hoa
 rw[CH.put_ne _ _ n6] at hoa
 rw[setA_put (by rw[CH.put_ne _ _ n4,CH.put_self]) rfl (by simp)]
 refine wsc ?_
 dsimp[-Aa]
 intro ta hta
 dsimp[-Aa]
 dsimp only at hta
 have m1:x≠ta:=fun z=>by rw[← z,CH.put_self] at hta;cases hta
 rw[CH.put_ne _ _ (Ne.symm m1)] at hta
 have m2:ta≠oa:=fun z=>by rw[z,CH.put_self] at hta;cases hta
 rw[CH.put_ne _ _ m2,CH.put_ne _ _ (Ne.symm m1)] at hta
 have m3:ta≠ia:=fun z=>by rw[z,CH.put_self] at hta;cases hta
 rw[CH.put_ne _ _ m3,CH.put_ne _ _ (Ne.symm m1)] at hta
 have m4:ta≠na:=fun z=>by rw[z,CH.put_self] at hta;cases hta
 rw[CH.put_ne _ _ m4] at hta
 rw[setA_put (by rw[CH.put_ne _ _ m1,CH.put_self]) rfl (by simp)]
 dsimp
 refine q _ ⟨x,d,na,ia,oa,ta,fun _=>x⟩ rfl ⟨⟨?_,?_,?_,?_⟩,?_,?_,fun y o e=>?_,fun y o e=>⟨fun z=>?_,fun z=>?_,fun z=>?_,fun z=>?_,fun z=>?_⟩,Ne.symm n3,Ne.symm n6,Ne.symm n5,(fun p hp=>by cases hp),by simp⟩
 ·rw[CH.put_self]
  congr 2
  funext y
  induction y using At.casesOn <;> first | rfl | simp[aigO]
 ·dsimp
  simp[CH.put,Ne.symm n1,Ne.symm n2,Ne.symm n3,Ne.symm n4,Ne.symm n5,Ne.symm n6,Ne.symm m1,Ne.symm m2,Ne.symm m3,Ne.symm m4,Bj]
 ·intro i l r e
  induction i using Nat.casesOn with
  | zero=>simp at e
  | succ j=>simp at e
 ·dsimp
  simp[CH.put,Ne.symm n1,Ne.symm n2,Ne.symm n3,Ne.symm n4,Ne.symm n5,Ne.symm n6,Ne.symm m1,Ne.symm m2,Ne.symm m3,Ne.symm m4]
 ·dsimp
  simp[CH.put,Ne.symm n1,Ne.symm n2,Ne.symm n3,Ne.symm n4,Ne.symm n5,Ne.symm n6,Ne.symm m1,Ne.symm m2,Ne.symm m3,Ne.symm m4]
 ·dsimp
  simp[CH.put,Ne.symm n1,Ne.symm n2,Ne.symm n3,Ne.symm n4,Ne.symm n5,Ne.symm n6,Ne.symm m1,Ne.symm m2,Ne.symm m3,Ne.symm m4]
 ·have k0:=hH y o e
  have y1:y≠x:=fun z=>by rw[z,hF] at e;cases e
  have y2:y≠na:=fun z=>by rw[z,hna] at k0;cases k0
  have y3:y≠ia:=fun z=>by rw[z,hia] at k0;cases k0
  have y4:y≠oa:=fun z=>by rw[z,hoa] at k0;cases k0
  have y5:y≠ta:=fun z=>by rw[z,hta] at k0;cases k0
  simp[CH.put,y1,y2,y3,y4,y5,k0]
 ·rw[z,hF] at e;cases e
 ·have k0:=hH y o e;rw[z,hna] at k0;cases k0
 ·have k0:=hH y o e;rw[z,hia] at k0;cases k0
 ·have k0:=hH y o e;rw[z,hoa] at k0;cases k0
 ·have k0:=hH y o e;rw[z,hta] at k0;cases k0
end
end
section
section
variable {Fm H G:CH} {A:AA} {g:Gr} {inps:List Nat} {tab:List (List Int × CV)} {B:Base} {n:Nat} {Q:CV→CH→Prop}
theorem AgV.dist(h:AgV Fm H A g inps tab):A.a≠A.na∧A.a≠A.ia∧A.a≠A.oa∧A.a≠A.ta∧A.ta≠A.na∧A.ta≠A.ia∧A.ta≠A.oa∧A.na≠A.ia∧A.na≠A.oa∧A.ia≠A.oa:=by
 have e1:=h.self
 have e2:=h.nodes
 have e3:=h.ins
 have e4:=h.outs
 have e5:=h.tabl
 refine⟨fun z=>?_,fun z=>?_,fun z=>?_,fun z=>?_,fun z=>?_,fun z=>?_,fun z=>?_,h.d1,h.d2,h.d3⟩
 ·rw[z,e2] at e1;cases e1
 ·rw[z,e3] at e1;cases e1
 ·rw[z,e4] at e1;cases e1
 ·rw[z,e5] at e1;cases e1
 ·rw[z,e2] at e5;cases e5
 ·rw[z,e3] at e5;cases e5
 ·rw[z,e4] at e5;cases e5
theorem AgV.tne(h:AgV Fm H A g inps tab){i l r:Nat}(e:g[i]?=some (some (l,r))):A.ts i≠A.na∧A.ts i≠A.ia∧A.ts i≠A.ta:=by
 have t:=h.tup i l r e
 refine⟨fun z=>?_,fun z=>?_,fun z=>?_⟩
 ·rw[z,h.nodes] at t;cases t
 ·rw[z,h.ins] at t;cases t
 ·rw[z,h.tabl] at t;cases t
theorem ft_addInput(C:Cx B)(hn:0<n)(h:AgV Fm H A g inps tab)(hg:g.length<1000)(hi:inps.length<1000)
  (q:∀H',AgV Fm H' A (g++[none]) (inps++[g.length]) tab→Q (.int ((2*g.length:Nat):Int)) H'):FT B fA n .aAddInput [.ref A.a] H Q:=by
 refine C.call hn rfl ?_
 refine oa9 h.dist fun p1 p2 p3 p4 p5 p6 p7 p8 p9 p10=>?_
 refine wsc ?_
 dsimp[-Aa]
 repeat ((first | refine oat h.attrs rfl ?_);try dsimp[-Aa])
 rw[lenL h.nodes (by simp;rw[Ab];exact ar23 hg)]
 simp[-Aa]
 refine wsc ?_
 dsimp[-Aa]
 repeat ((first | refine oat h.attrs rfl ?_);try dsimp[-Aa])
 refine⟨okA h.nodes,?_⟩
 rw[apV h.nodes (by simp;rw[Ab];exact ar188 hg)]
 simp only[Ac,Bk,Al]
 have enew:(g++[none]).mapIdx (fun i p=>Bj A i p)=g.mapIdx (fun i p=>Bj A i p)++[.none]:=by rw[List.mapIdx_concat];rfl
 have h1:AgV Fm (H.put A.na (.list (g.mapIdx (fun i p=>Bj A i p)++[.none]))) A (g++[none]) inps tab:=by
  refine⟨⟨by rw[CH.put_ne _ _ p1];exact h.self,by rw[CH.put_self,enew],fun i l r e=>?_,by rw[CH.put_ne _ _ (Ne.symm p8)];exact h.ins⟩,by rw[CH.put_ne _ _ p5];exact h.tabl,by rw[CH.put_ne _ _ (Ne.symm p9)];exact h.outs,fun x o e=>?_,h.ap,h.d1,h.d2,h.d3,fun p hp=>?_,by have:=h.tl;simp;exact ar57 this⟩
  ·have e':g[i]?=some (some (l,r)):=by
    rw[List.getElem?_append] at e
    split at e
    ·exact e
    ·induction hk:i-g.length using Nat.casesOn with
     | zero=>rw[hk] at e;simp at e
     | succ j=>rw[hk] at e;simp at e
   rw[CH.put_ne _ _ (h.tne e').1];exact h.tup i l r e'
  ·rw[CH.put_ne _ _ (h.ap x o e).2.1];exact h.fr x o e
  ·refine oe3a (h.tk p hp) fun l r k e1 e2=>?_
   exact⟨l,r,k,e1,by rw[List.getElem?_append_left (List.getElem?_eq_some_iff.mp e2).1];exact e2⟩
 generalize H.put A.na _=H1 at h1
 refine wsc ?_
 dsimp[-Aa]
 repeat ((first | refine oat h1.attrs rfl ?_);try dsimp[-Aa])
 refine⟨okA h1.ins,?_⟩
 rw[apV h1.ins (by simp;rw[Ab];exact ar188 hi)]
 have h2:AgV Fm (H1.put A.ia (.list ((inps.map fun(i:Nat)=>CV.int i)++[.int (g.length:Nat)]))) A (g++[none]) (inps++[g.length]) tab:=by
  refine⟨⟨by rw[CH.put_ne _ _ p2];exact h1.self,by rw[CH.put_ne _ _ p8];exact h1.nodes,fun i l r e=>?_,by rw[CH.put_self];simp⟩,by rw[CH.put_ne _ _ p6];exact h1.tabl,by rw[CH.put_ne _ _ (Ne.symm p10)];exact h1.outs,fun x o e=>?_,h1.ap,h1.d1,h1.d2,h1.d3,h1.tk,h1.tl⟩
  ·rw[CH.put_ne _ _ (h1.tne e).2.1];exact h1.tup i l r e
  ·rw[CH.put_ne _ _ (h1.ap x o e).2.2.1];exact h1.fr x o e
 refine wsc ?_
 simp[Ai,Ak]
 have:=q _ h2
 simpa using this
theorem AgV.new(h:AgV Fm H A g inps tab){d:Addr}(hd:H d=none)(o:CO):AgV Fm (H.put d o) A g inps tab:=
 ⟨h.toAgR.le (Le.new hd o),Le.new hd o _ _ h.tabl,Le.new hd o _ _ h.outs,h.fr.trans (Le.new hd o),h.ap,h.d1,h.d2,h.d3,h.tk,h.tl⟩
theorem ft_land(C:Cx B)(hn:0<n)(h:AgV Fm H A g inps tab)(hg:g.length<1000){l r:Nat}
  (q0:min l r=0∨((min l r:Nat):Int)=Builtin.bitXor (max l r:Nat) 1→Q (.int 0) H) (q1:min l r=1∨l=r→Q (.int (max l r:Nat)) H)
  (q2:∀(v:Nat) H' A' g' tab',A'.a=A.a→AgV Fm H' A' g' inps tab'→(g'=g∨(v=g.length∧g'=g++[some (min l r,max l r)]))→g'[v]?=some (some (min l r,max l r))→min l r≠0→min l r≠1→min l r≠max l r→((min l r:Nat):Int)≠Builtin.bitXor (max l r:Nat) 1→Q (.int ((2*v:Nat):Int)) H'):FT B fA n .aLand [.ref A.a,.int l,.int r] H Q:=by
 refine C.call hn rfl ?_
 refine oa9 h.dist fun p1 p2 p3 p4 p5 p6 p7 p8 p9 p10=>?_
 have key:∀a b:Nat,a=min l r→b=max l r→WSs B fA (n-1) ir_aLand.tail ⟨[.ref A.a,.int a,.int b,.undef],H⟩ (RetQ Q):=by
  intro a b ha hb
  rw[← ha,← hb] at q0 q1 q2
  rw[show ir_aLand.tail=_ from rfl,ir_aLand,List.tail_cons,Aa]
  dsimp[-Aa]
  simp[-Aa,Ai]
  by_cases z0:a=0
  ·refine ifp z0 (wsc ?_)
   simpa using q0 (.inl z0)
  by_cases z1:(a:Int)=Builtin.bitXor b 1
  ·rw[if_neg z0,if_pos z1,Aa]
   simpa using q0 (.inr (by simpa using z1))
  rw[if_neg z0,if_neg z1]
  refine wsc ?_
  dsimp[-Aa]
  simp[-Aa,Ai]
  by_cases z2:a=1
  ·refine ifp (show(a:Int)=1 by exact ar189 z2) (wsc ?_)
   simpa using q1 (.inl z2)
  by_cases z3:a=b
  ·rw[if_neg (show ¬ (a:Int)=1 by exact ar190 z2),if_pos (show(a:Int)=b by exact ar191 z3),Aa]
   simpa using q1 (.inr (by exact ar192 z3 hb ha))
  rw[if_neg (show ¬ (a:Int)=1 by exact ar190 z2),if_neg (show ¬ (a:Int)=b by exact ar193 z3)]
  refine wsc ?_
  dsimp[-Aa]
  repeat ((first | refine oat h.attrs rfl ?_);try dsimp[-Aa])
  refine⟨by simp[bmOk,bmLook_e,isD_e,h.tabl],by rw[Ab];exact ar7,fun t ht=>?_⟩
  have h1:=h.new ht (.tup [.int a,.int b])
  have ht1:(H.put t (.tup [.int a,.int b])) t=some (.tup [.int (a:Nat),.int (b:Nat)]):=CH.put_self ..
  generalize H.put t (.tup [.int a,.int b])=H1 at h1 ht1
  have gt:bmV .get2 H1 (.ref A.ta) [.ref t,.int (-1)]=some (.v (((tab.find? fun p=>p.1=[(a:Int),(b:Int)]).map (·.2)).getD (.int (-1)))):=by
   try dsimp
   simp[bmV_e,CH.lsA,get2_e,Bi,two_two,B8,Ah,Ae,Af,Option.bind_some,h1.tabl,ht1,allInts_e]
  simp only[Aj,gt,Ac,Ax]
  induction hf:tab.find? (fun p=>p.1=[(a:Int),(b:Int)]) using Option.casesOn with
  | some p=>
   refine oe3a (h.tk p (List.mem_of_find?_eq_some hf)) fun l' r' k e1 e2=>?_
   have e3:=List.find?_some hf
   rw[e1] at e3
   simp at e3
   refine oa e3 fun e3 e4=>?_
   have e3:l'=a:=by exact ar194 (by assumption)
   have e4:r'=b:=by lia
   subst e3 e4 e1
   dsimp[-Aa]
   refine wsc ?_
   dsimp[-Aa]
   simp[-Aa]
   refine ifn (show ¬ (k:Int)<0 by exact ar59) (wsc ?_)
   dsimp
   simp[Ai,Ak]
   have:=q2 k H1 A g tab rfl h1 (.inl rfl) e2 z0 z2 z3 z1
   simpa using this
  | none=>
   have hall:∀p∈tab,p.1≠[(a:Int),(b:Int)]:=fun p hp e=>by
    have:=List.find?_eq_none.mp hf p hp
    simp[e] at this
   dsimp[-Aa]
   refine wsc ?_
   dsimp[-Aa]
   simp[-Aa]
   refine wsc ?_
   dsimp[-Aa]
   repeat ((first | refine oat h1.attrs rfl ?_);try dsimp[-Aa])
   rw[lenL h1.nodes (by simp;rw[Ab];lia)]
   dsimp[-Aa]
   simp[-Aa]
   refine wsc ?_
   dsimp[-Aa]
   repeat ((first | refine oat h1.attrs rfl ?_);try dsimp[-Aa])
   refine⟨okA h1.nodes,by rw[Ab];lia,fun t2 ht2=>?_⟩
   have h2:=h1.new ht2 (.tup [.int a,.int b])
   have ht2':(H1.put t2 (.tup [.int a,.int b])) t2=some (.tup [.int (a:Nat),.int (b:Nat)]):=CH.put_self ..
   have tn:t2≠A.na:=fun z=>by
    dsimp only at ht2
    rw[z,h1.nodes] at ht2;cases ht2
   have tf:∀i l r,g[i]?=some (some (l,r))→A.ts i≠t2:=fun i l r e z=>by
    dsimp only at ht2
    rw[← z,h1.tup i l r e] at ht2;cases ht2
   generalize H1.put t2 (.tup [.int a,.int b])=H2 at h2 ht2'
   dsimp only[Aj]
   rw[apV h2.nodes (by simp;rw[Ab];lia)]
   dsimp only[Ac,Bk,Al]
   obtain⟨A',hA'⟩:∃A':AA,A' = { A with ts:=fun i=>if i=g.length then t2 else A.ts i }:=⟨_,rfl⟩
   have hobj:aigO A'=aigO A:=by rw[hA'];funext y;induction y using At.casesOn <;> rfl
   have hmi:(g++[some (a,b)]).mapIdx (fun i p=>Bj A' i p)=g.mapIdx (fun i p=>Bj A i p)++[.ref t2]:=by
    rw[List.mapIdx_concat]
    congr 1
    ·apply List.ext_getElem?
     intro i
     rw[List.getElem?_mapIdx,List.getElem?_mapIdx]
     induction hgi:g[i]? using Option.casesOn with
     | none=>rfl
     | some p=>
      have:=(List.getElem?_eq_some_iff.mp hgi).1
      dsimp only[Option.map_some,Option.some.injEq]
      induction p using Option.casesOn with
      | none=>rfl
      | some x=>simp[Bj,hA',show i≠g.length by exact ar196 this]
    ·try dsimp
     simp[Bj,hA']
   have h3:AgV Fm (H2.put A.na (.list (g.mapIdx (fun i p=>Bj A i p)++[.ref t2]))) A' (g++[some (a,b)]) inps tab:=by
    have ap:=h2.ap
    refine⟨⟨?_,?_,fun i l r e=>?_,?_⟩,?_,?_,fun x o e=>?_,?_,?_,?_,?_,fun p hp=>?_,by have:=h2.tl;simp;lia⟩
    ·rw[hobj,hA',CH.put_ne _ _ p1];exact h2.self
    ·rw[hmi,hA'];exact CH.put_self ..
    ·rw[List.getElem?_append] at e
     split at e
     ·rename_i hi
      have:A'.ts i=A.ts i:=by rw[hA'];simp[show i≠g.length by lia]
      rw[this,CH.put_ne _ _ (h2.tne e).1];exact h2.tup i l r e
     ·have hi:i=g.length:=by
       have:=(List.getElem?_eq_some_iff.mp e).1
       simp at this;exact ar197 this (by assumption)
      subst hi
      simp at e
      refine oa e fun z0_ z1_=>?_;subst z0_;subst z1_
      have:A'.ts g.length=t2:=by rw[hA'];simp
      rw[this,CH.put_ne _ _ tn];exact ht2'
    ·rw[hA',CH.put_ne _ _ (Ne.symm p8)];exact h2.ins
    ·rw[hA',CH.put_ne _ _ p5];exact h2.tabl
    ·rw[hA',CH.put_ne _ _ (Ne.symm p9)];exact h2.outs
    ·rw[CH.put_ne _ _ (ap x o e).2.1];exact h2.fr x o e
    ·rw[hA'];exact ap
    ·rw[hA'];exact h2.d1
    ·rw[hA'];exact h2.d2
    ·rw[hA'];exact h2.d3
    ·refine oe3a (h2.tk p hp) fun l r k e1 e2=>?_
     exact⟨l,r,k,e1,by rw[List.getElem?_append_left (List.getElem?_eq_some_iff.mp e2).1];exact e2⟩
   have at3:=h3.attrs
   have haa:A'.a=A.a:=by rw[hA']
   have hta:A'.ta=A.ta:=by rw[hA']
   generalize H2.put A.na (.list (g.mapIdx (fun i p=>Bj A i p)++[.ref t2]))=H3 at h3 at3
   rw[haa] at at3
   refine wsc ?_
   dsimp[-Aa]
   repeat ((first | refine oat at3 rfl ?_);try dsimp[-Aa])
   refine⟨by rw[Ab];lia,fun t3 ht3=>?_⟩
   have h4:=h3.new ht3 (.tup [.int a,.int b])
   have ht3':(H3.put t3 (.tup [.int a,.int b])) t3=some (.tup [.int (a:Nat),.int (b:Nat)]):=CH.put_self ..
   generalize H3.put t3 (.tup [.int a,.int b])=H4 at h4 ht3'
   dsimp only[Aj]
   have st:setI H4 (.ref A'.ta) (.ref t3) (.int (g.length:Nat))=some (H4.put A'.ta (.dictp (tab++[([(a:Int),(b:Int)],.int (g.length:Nat))]))):=by
    simp only[setI,setI_e,tp_tup,Ae,Af,Option.bind_some,h4.tabl,ht3',allInts_e,Option.map_some,Option.bind_some]
    rw[if_pos ⟨by have:=h.tl;rw[Ab];exact ar198 hg this,by simpa using hall⟩]
   rw[st,Ac]
   refine oa9 h4.dist fun k1 k2 k3 k4 k5 k6 k7 k8 k9 k10=>?_
   have h5:AgV Fm (H4.put A'.ta (.dictp (tab++[([(a:Int),(b:Int)],.int (g.length:Nat))]))) A' (g++[some (a,b)]) inps (tab++[([(a:Int),(b:Int)],.int (g.length:Nat))]):=by
    refine⟨⟨by rw[CH.put_ne _ _ k4];exact h4.self,by rw[CH.put_ne _ _ (Ne.symm k5)];exact h4.nodes,fun i l r e=>by rw[CH.put_ne _ _ (h4.tne e).2.2];exact h4.tup i l r e,by rw[CH.put_ne _ _ (Ne.symm k6)];exact h4.ins⟩,CH.put_self ..,by rw[CH.put_ne _ _ (Ne.symm k7)];exact h4.outs,fun x o e=>by rw[CH.put_ne _ _ (h4.ap x o e).2.2.2.2];exact h4.fr x o e,h4.ap,h4.d1,h4.d2,h4.d3,fun p hp=>?_,by have:=h.tl;simp;exact ar51 this⟩
    rcases List.mem_append.mp hp with m | m
    ·exact h4.tk p m
    ·rw[List.mem_singleton] at m
     exact⟨a,b,g.length,m,by simp⟩
   refine wsc ?_
   dsimp
   simp[Ai,Ak]
   have:=q2 g.length _ A' _ _ haa h5 (.inr ⟨rfl,rfl⟩) (by simp) z0 z2 z3 z1
   simpa using this
 refine wsc ?_
 dsimp[-Aa]
 simp[-Aa]
 by_cases hlr:r<l
 ·refine ifp hlr (wsc ?_)
  dsimp[-Aa]
  simp[-Aa]
  exact key r l (by exact ar199 hlr) (by lia)
 ·rw[if_neg hlr]
  exact key l r (by exact ar201 hlr) (by exact ar202 hlr)
end
end
section
noncomputable def vo(l:Nat):Int:=if l%2=1 then -((l/2+1:Nat):Int) else ((l/2+1:Nat):Int)
section
variable {Fm H G:CH} {A:AA} {g:Gr} {inps:List Nat} {B:Base} {n:Nat} {Q:CV→CH→Prop}
theorem ft_variableOf(C:Cx B)(hn:0<n){l:Nat}(q:Q (.int (vo l)) H):FT B fA n .variableOf [.int (l:Nat)] H Q:=by
 refine C.call hn rfl ?_
 refine wsc ?_
 have e:(l:Int).fdiv 2=((l/2:Nat):Int):=by have:=shrN l 1;simpa using this
 dsimp[-Aa]
 simp[-Aa,Ai,e]
 refine wsc ?_
 dsimp[-Aa]
 simp[-Aa,Ai,band1]
 unfold vo at q
 by_cases h:l%2=1
 ·simp only[if_pos h] at q
  refine ifp (by exact ar203 h) (wsc ?_)
  dsimp
  simpa using q
 ·simp only[if_neg h] at q
  refine ifn (by exact ar204 h) (wsc ?_)
  dsimp
  simpa using q
end
end
section
structure Wfg (g:Gr):Prop where
 z:g[0]?=some none
 lt:∀i l r,g[i]?=some (some (l,r))→l/2<i∧r/2<i
inductive Rch (g:Gr) (roots:List Nat):Nat→Prop where
 | root {i:Nat}:i∈roots→Rch g roots i
 | left {i l r:Nat}:Rch g roots i→g[i]?=some (some (l,r))→Rch g roots (l/2)
 | right {i l r:Nat}:Rch g roots i→g[i]?=some (some (l,r))→Rch g roots (r/2)
noncomputable def nstep(g:Gr)(M:Nat→Bool)(V:List Bool)(i:Nat):Bool:=
 match g[i]? with
 | some (some (l,r))=>(V.getD (l/2) false != (l%2==1))&&(V.getD (r/2) false != (r%2==1))
 | some none=>if i=0 then false else M i
 | none=>false
noncomputable def evl(g:Gr)(M:Nat→Bool):Nat→List Bool
 | 0=>[]
 | i+1=>evl g M i++[nstep g M (evl g M i) i]
noncomputable def ev(g:Gr)(M:Nat→Bool)(i:Nat):Bool:=(evl g M (i+1)).getD i false
noncomputable def lv(g:Gr)(M:Nat→Bool)(l:Nat):Bool:=ev g M (l/2) != (l%2==1)
section
variable {g:Gr} {M M':Nat→Bool} {roots:List Nat}
theorem evl_len(n:Nat):(evl g M n).length=n:=by
 induction n with
 | zero=>rfl
 | succ n ih=>show(evl g M n++[_]).length=_;rw[List.length_append,ih];rfl
theorem evl_get{i:Nat}:∀{n:Nat},i<n→(evl g M n)[i]?=some (ev g M i)
 | 0,h=>by lia
 | n+1,h=>by
  by_cases e:i=n
  ·subst e
   unfold ev
   rw[List.getD_eq_getElem?_getD,List.getElem?_eq_getElem (by rw[evl_len];exact ar571)]
   rfl
  ·have:=evl_get (n:=n) (i:=i) (by exact ar397 h e)
   show(evl g M n++[_])[i]?=_
   rw[List.getElem?_append_left (by rw[evl_len];lia)]
   exact this
theorem evl_getD{i n:Nat}(h:i<n):(evl g M n).getD i false=ev g M i:=by rw[List.getD_eq_getElem?_getD,evl_get h];rfl
theorem ev_step(i:Nat):ev g M i=nstep g M (evl g M i) i:=by
 unfold ev
 show(evl g M i++[_]).getD i false=_
 rw[List.getD_eq_getElem?_getD,List.getElem?_append_right (by rw[evl_len];lia),evl_len]
 simp
theorem ev_and(w:Wfg g){i l r:Nat}(e:g[i]?=some (some (l,r))):ev g M i=(lv g M l&&lv g M r):=by
 refine oa (w.lt i l r e) fun h1 h2=>?_
 rw[ev_step]
 unfold nstep lv
 rw[e]
 simp only
 rw[evl_getD h1,evl_getD h2]
theorem ev_in{i:Nat}(e:g[i]?=some none)(h:i≠0):ev g M i=M i:=by
 simp only[ev_step];unfold nstep;rw[e];simp[h]
theorem ev_0(w:Wfg g):ev g M 0=false:=by rw[ev_step];unfold nstep;rw[w.z];simp
theorem ev_congr(w:Wfg g)(h:∀i,Rch g roots i→g[i]?=some none→i≠0→M i=M' i):∀i,Rch g roots i→ev g M i=ev g M' i:=by
 intro i
 induction i using Nat.strongRecOn with
 | _ i ih=>
  intro hr
  induction e:g[i]? using Option.casesOn with
  | none=>rw[ev_step,ev_step];unfold nstep;rw[e]
  | some p=>
   induction p using Option.casesOn with
   | none=>
    by_cases z:i=0
    ·subst z;rw[ev_0 w,ev_0 w]
    ·rw[ev_in e z,ev_in e z];exact h i hr e z
   | some x=>
    obtain⟨l,r⟩:=x
    refine oa (w.lt i l r e) fun h1 h2=>?_
    rw[ev_and w e,ev_and w e]
    unfold lv
    rw[ih _ h1 (.left hr e),ih _ h2 (.right hr e)]
theorem Rch.len(w:Wfg g)(hr:∀r∈roots,r<g.length){i:Nat}(h:Rch g roots i):i<g.length:=by
 induction h with
 | root h=>exact hr _ h
 | left _ e _=>have:=(w.lt _ _ _ e).1;have:=(List.getElem?_eq_some_iff.mp e).1;exact ar573 (by assumption) a_ih
 | right _ e _=>have:=(w.lt _ _ _ e).2;have:=(List.getElem?_eq_some_iff.mp e).1;lia
theorem Wfg.land(w:Wfg g){a b:Nat}(ha:a/2<g.length)(hb:b/2<g.length):Wfg (g++[some (a,b)]):=by
 have h0:0<g.length:=(List.getElem?_eq_some_iff.mp w.z).1
 refine⟨by rw[List.getElem?_append_left h0];exact w.z,fun i l r e=>?_⟩
 rw[List.getElem?_append] at e
 split at e
 ·exact w.lt i l r e
 ·have:=(List.getElem?_eq_some_iff.mp e).1
  simp at this
  have hi:i=g.length:=by exact ar197 this (by assumption)
  subst hi
  simp at e
  refine oa e fun z0_ z1_=>?_;subst z0_;subst z1_
  exact⟨ha,hb⟩
theorem Wfg.inp(w:Wfg g):Wfg (g++[none]):=by
 have h0:0<g.length:=(List.getElem?_eq_some_iff.mp w.z).1
 refine⟨by rw[List.getElem?_append_left h0];exact w.z,fun i l r e=>?_⟩
 rw[List.getElem?_append] at e
 split at e
 ·exact w.lt i l r e
 ·have:=(List.getElem?_eq_some_iff.mp e).1
  simp at this
  have hi:i=g.length:=by lia
  subst hi
  simp at e
end
end
section
theorem items_down(a:Nat):Bc (.range a 0 (-1))=some ((List.range a).map fun i=>.int ((a-i:Nat):Int)):=by
 unfold Bc Bw
 dsimp
 simp
 intro i hi
 exact ar205 hi
theorem shr1(x:Nat):(x:Int).fdiv 2=((x/2:Nat):Int):=by have:=shrN x 1;simpa using this
section
variable {Fm H G:CH} {A:AA} {g:Gr} {inps:List Nat} {B:Base} {n:Nat} {Q:CV→CH→Prop}
structure Mk (g:Gr) (roots:List Nat) (us:List Bool) (k:Nat):Prop where
 len:us.length=g.length
 ro:∀r∈roots,us.getD r false=true
 ok:∀i,us.getD i false=true→Rch g roots i
 cl:∀i l r,k≤i→us.getD i false=true→g[i]?=some (some (l,r))→us.getD (l/2) false=true∧us.getD (r/2) false=true
theorem getB_set{us:List Bool}{k i:Nat}{b:Bool}(h:k<us.length):(us.set k b).getD i false=if i=k then b else us.getD i false:=by
 rw[List.getD_eq_getElem?_getD,List.getD_eq_getElem?_getD]
 by_cases e:i=k
 ·subst e;rw[List.getElem?_set_self h,if_pos rfl];rfl
 ·rw[List.getElem?_set_ne (Ne.symm e),if_neg e]
theorem Mk.full{roots:List Nat}{us:List Bool}(w:Wfg g)(m:Mk g roots us 1)(i:Nat):us.getD i false=true↔Rch g roots i:=by
 refine⟨m.ok i,fun h=>?_⟩
 induction h with
 | root h=>exact m.ro _ h
 | @left i l r _ e ih=>
  have:i≠0:=fun z=>by rw[z,w.z] at e;cases e
  exact(m.cl i l r (by exact ar206 this) ih e).1
 | @right i l r _ e ih=>
  have:i≠0:=fun z=>by rw[z,w.z] at e;cases e
  exact(m.cl i l r (by lia) ih e).2
theorem Mk.skip{roots:List Nat}{us:List Bool}{k:Nat}(m:Mk g roots us (k+1))(h:us.getD k false=false∨∀l r,g[k]?≠some (some (l,r))):Mk g roots us k:=by
 refine⟨m.len,m.ro,m.ok,fun i l r hi hu e=>?_⟩
 by_cases z:i=k
 ·subst z
  rcases h with h | h
  ·rw[h] at hu;cases hu
  ·exact absurd e (h l r)
 ·exact m.cl i l r (by exact ar207 hi z) hu e
theorem Mk.mark{roots:List Nat}{us:List Bool}{k l r:Nat}(w:Wfg g)(m:Mk g roots us (k+1))(hu:us.getD k false=true)(e:g[k]?=some (some (l,r))):Mk g roots ((us.set (l/2) true).set (r/2) true) k:=by
 refine oa (w.lt k l r e) fun h1 h2=>?_
 have hk:=(List.getElem?_eq_some_iff.mp e).1
 have hml:=m.len
 have key:∀i,((us.set (l/2) true).set (r/2) true).getD i false=if i=r/2 then true else if i=l/2 then true else us.getD i false:=fun i=>by
  rw[getB_set (by rw[List.length_set];exact ar208 h2 hk hml),getB_set (by lia)]
 have up:∀i,us.getD i false=true→((us.set (l/2) true).set (r/2) true).getD i false=true:=fun i h=>by
  rw[key];split
  ·rfl
  ·split
   ·rfl
   ·exact h
 refine⟨by simp[hml],fun x hx=>up x (m.ro x hx),fun i hi=>?_,fun i l' r' hi hu' e'=>?_⟩
 ·rw[key] at hi
  split at hi
  ·rename_i z;rw[z];exact .right (m.ok k hu) e
  ·split at hi
   ·rename_i z;rw[z];exact .left (m.ok k hu) e
   ·exact m.ok i hi
 ·by_cases z:i=k
  ·subst z
   rw[e] at e'
   cases e'
   exact⟨by rw[key];split <;> simp,by rw[key];simp⟩
  ·rw[key] at hu'
   rw[if_neg (by exact ar209 h2 hi),if_neg (by lia)] at hu'
   refine oa (m.cl i l' r' (by lia) hu' e') fun c1 c2=>?_
   exact⟨up _ c1,up _ c2⟩
end
end
section
section
variable {Fm H G:CH} {A:AA} {g:Gr} {inps:List Nat} {B:Base} {n:Nat} {Q:CV→CH→Prop}
theorem ft_coneCnf(C:Cx B)(hn:2≤n)(h:AgR H A g inps)(w:Wfg g)(hg:g.length<1000){la:Addr}{l r:Nat}(hl:H la=some (.list [.int (l:Nat),.int (r:Nat)]))(hl2:l/2<g.length)(hr2:r/2<g.length)
  (q:∀d G (us:List Bool),H d=none→us.length=g.length→(∀i,us.getD i false=true↔Rch g [l/2,r/2] i)→Le (H.put d (.list (((List.range g.length).filter fun i=>us.getD i false).map fun(i:Nat)=>.int i))) G→Q (.ref d) G):FT B fA n .coneCnf [.ref A.a,.ref la] H Q:=by
 refine C.call (by exact ar5 hn) rfl ?_
 have h0:0<g.length:=(List.getElem?_eq_some_iff.mp w.z).1
 refine wsc ?_
 dsimp[-Aa]
 repeat ((first | refine oat h.attrs rfl ?_);try dsimp[-Aa])
 refine⟨by rw[Ab];exact ar78,fun s0 hs0=>?_⟩
 have l1:=Le.new hs0 (.list [.bool false])
 have g1:=h.le l1
 have hs0':(H.put s0 (.list [.bool false])) s0=some (.list [.bool false]):=CH.put_self ..
 dsimp only at *
 generalize H.put s0 (.list [.bool false])=H1 at l1 g1 hs0'
 dsimp[-Aa]
 repeat ((first | refine oat g1.attrs rfl ?_);try dsimp[-Aa])
 rw[lenL g1.nodes (by simp;rw[Ab];exact ar23 hg)]
 have rep:binV .Mult H1 (.ref s0) (.int (g.length:Int))=some (.new (.list ((List.replicate g.length false).map .bool))):=by
  simp only[binV_e,refBin_e,CH.lsA,Bi,Ah,Ae,Af,Option.bind_some,hs0']
  rw[if_pos ⟨by exact ar2,by exact ar210 hg⟩]
  dsimp
  simp
 dsimp[-Aa]
 simp[-Aa,-List.map_replicate,rep]
 intro ud hud
 have hH:H ud=none:=l1.none hud
 have base:∀(us:List Bool) (G:CH),Le (H1.put ud (.list (us.map .bool))) G→AgR G A g inps∧G la=some (.list [.int (l:Nat),.int (r:Nat)])∧G ud=some (.list (us.map .bool)):=fun us G hG=>by
  have e:Le H1 G:=(Le.new hud _).trans hG
  exact⟨g1.le e,e _ _ (l1 _ _ hl),hG _ _ (CH.put_self ..)⟩
 refine wsc ?_
 dsimp[-Aa]
 obtain⟨I,hI⟩:∃I:Nat→CS→Prop,∀i σ,I i σ↔(∃(x3:CV) (us:List Bool) (G:CH),σ=⟨[.ref A.a,.ref la,.ref ud,x3,.undef,.undef,.undef],G⟩∧Le (H1.put ud (.list (us.map .bool))) G∧us.length=g.length∧(∀j,us.getD j false=true↔j∈[l/2,r/2].take i)):=⟨_,fun _ _=>Iff.rfl⟩
 have b0:=base _ _ (Le.refl (H1.put ud (.list ((List.replicate g.length false).map .bool))))
 refine Bp b0.2.1 (by simp;rw[Ab];lia) I ((hI _ _).mpr ⟨_,_,_,rfl,Le.refl _,by simp,fun j=>by rw[rep_getD];simp⟩) ?_ ?_
 ·intro i y σ₂ hy hi
  refine oe3a3 ((hI _ _).mp hi) fun x3 us G z3_ hle hul hus=>?_;subst z3_
  refine oa2 (base us G hle) fun ag gl gu=>?_
  refine⟨gl,?_⟩
  have stp:∀m:Nat,m/2<g.length→(∀j,((us.set (m/2) true).getD j false=true↔j∈[l/2,r/2].take (i+1)))→WSs B fA (n-1) [IS.setsub (IE.var 2) (IE.bin Operator.RShift (IE.var 3) (IE.int 1)) (IE.bool true)] ⟨[.ref A.a,.ref la,.ref ud,.int (m:Nat),.undef,.undef,.undef],G⟩ (Lp (I (i+1)) (Sq B fA (n-1) [IS.for 4
      (IE.range
       [IE.bin Operator.Sub (IE.bf BF.len ((IE.var 0).attr At.nodes)) (IE.int 1),IE.int 0,(IE.int 1).neg])
      [IS.ite (IE.and [(IE.var 2).sub (IE.var 4),(IE.var 0).mth Fn.aIsAnd [IE.var 4]])
        [IS.unpack [Tg.v 5,Tg.v 6] (((IE.var 0).attr At.nodes).sub (IE.var 4)),
         IS.setsub (IE.var 2) (IE.bin Operator.RShift (IE.var 5) (IE.int 1)) (IE.bool true),
         IS.setsub (IE.var 2) (IE.bin Operator.RShift (IE.var 6) (IE.int 1)) (IE.bool true)]
        []],
     IS.ret ((IE.var 0).comp (IE.range [IE.bf BF.len ((IE.var 0).attr At.nodes)]) [(IE.var 1).sub (IE.var 0)] [2])] (RetQ Q))):=by
   intro m hm hj
   refine wsc ?_
   dsimp
   simp[Ai,shr1]
   have e2:((m:Int)/2).toNat=m/2:=by exact ar211
   rw[wrB gu (k:=(m:Int)/2) (by exact ar212) (by rw[e2,hul];exact hm) (by rw[hul];rw[Ab];lia),e2]
   simp only[Ac]
   refine(hI _ _).mpr ⟨_,us.set (m/2) true,_,rfl,?_,by simp[hul],hj⟩
   have:=hle.put ud (.list ((us.set (m/2) true).map .bool))
   rw[Bg] at this
   exact this
  have hi2:i<2:=by have:=(List.getElem?_eq_some_iff.mp hy).1;simpa using this
  rcases(by exact ar175 hi2:i=0∨i=1) with rfl | rfl
  ·simp at hy
   subst hy
   exact stp l hl2 fun j=>by
    rw[getB_set (by exact ar213 hl2 hul)]
    have:=hus j
    by_cases hj:j=l/2 <;> simp_all
  ·simp at hy
   subst hy
   exact stp r hr2 fun j=>by
    rw[getB_set (by lia)]
    have:=hus j
    by_cases hj:j=r/2 <;> simp_all
 ·intro σ₂ hi
  refine oe3a3 ((hI _ _).mp hi) fun x3 us G z3_ hle hul hus=>?_;subst z3_
  refine oa2 (base us G hle) fun ag gl gu=>?_
  refine⟨gl,?_⟩
  have mk0:Mk g [l/2,r/2] us g.length:=⟨hul,fun x hx=>(hus x).mpr (by simpa using hx),fun j hj=>.root (by simpa using (hus j).mp hj),fun j l r hj hu e=>by have:=(List.getElem?_eq_some_iff.mp e).1;lia⟩
  simp only[Al]
  refine wsc ?_
  dsimp[-Aa]
  repeat ((first | refine oat ag.attrs rfl ?_);try dsimp[-Aa])
  rw[lenL ag.nodes (by simp;rw[Ab];lia)]
  have hr3:rangeV [.int ((g.length:Int)-1),.int 0,.int (-1)]=some (.range ((g.length-1:Nat):Int) 0 (-1)):=by
   have e:((g.length:Int)-1)=((g.length-1:Nat):Int):=by exact ar214 h0
   rw[e]
   exact if_pos ⟨by exact ar215,by rw[Ab];exact ar216 hg,by lia,Int.natCast_nonneg _,by trivial⟩
  dsimp[-Aa]
  simp[-Aa,Ai,hr3]
  intro ra hra
  have hra0:H1 ra=none:=by
   have:ra≠ud:=fun z=>by dsimp only at hra;rw[z,gu] at hra;cases hra
   have:=hle.none hra
   rwa [CH.put_ne _ _ ‹ra≠ud›] at this
  have rud:ra≠ud:=fun z=>by dsimp only at hra;rw[z,gu] at hra;cases hra
  simp only[Aj]
  obtain⟨J,hJ⟩:∃J:Nat→CS→Prop,∀i σ,J i σ↔(∃(x3 x4 x5 x6:CV) (us:List Bool) (G:CH),σ=⟨[.ref A.a,.ref la,.ref ud,x3,x4,x5,x6],G⟩∧Le ((H1.put ra (.range ((g.length-1:Nat):Int) 0 (-1))).put ud (.list (us.map .bool))) G∧Mk g [l/2,r/2] us (g.length-i)):=⟨_,fun _ _=>Iff.rfl⟩
  have base2:∀(us:List Bool) (G:CH),Le ((H1.put ra (.range ((g.length-1:Nat):Int) 0 (-1))).put ud (.list (us.map .bool))) G→AgR G A g inps∧G ra=some (.range ((g.length-1:Nat):Int) 0 (-1))∧G ud=some (.list (us.map .bool)):=fun us G hG=>by
   have e0:(H1.put ra (.range ((g.length-1:Nat):Int) 0 (-1))) ud=none:=by rw[CH.put_ne _ _ (Ne.symm rud)];exact hud
   have e:Le H1 G:=((Le.new hra0 _).trans (Le.new e0 _)).trans hG
   exact⟨g1.le e,hG _ _ (by rw[CH.put_ne _ _ rud,CH.put_self]),hG _ _ (CH.put_self ..)⟩
  refine⟨ra,_,_,rfl,CH.put_self ..,items_down (g.length-1),by simp;rw[Ab];lia,J,(hJ _ _).mpr ⟨_,_,_,_,us,_,rfl,?_,mk0⟩,?_,?_⟩
  ·have:=hle.put ra (.range ((g.length-1:Nat):Int) 0 (-1))
   rw[put_comm _ _ _ (Ne.symm rud)] at this
   exact this
  ·intro i y σ₂ hy hi
   refine oe6 ((hJ _ _).mp hi) fun x3 x4 x5 x6 us G w0_=>?_;refine oa2 w0_ fun z6_ hle mk=>?_;clear w0_;subst z6_
   refine oa2 (base2 us G hle) fun ag gr gu=>?_
   refine⟨gr,?_⟩
   rw[List.getElem?_map,Option.map_eq_some_iff] at hy
   refine oea hy fun j hj z2_=>?_;subst z2_
   obtain⟨hj1,hj2⟩:=List.getElem?_eq_some_iff.mp hj
   simp at hj1 hj2
   subst hj2
   obtain⟨k,hk⟩:∃k,k=g.length-1-i:=⟨_,rfl⟩
   have hk1:g.length-i=k+1:=by exact ar218 hj1 hk
   have hk2:g.length-(i+1)=k:=by exact ar219 hk
   rw[hk1] at mk
   rw[← hk]
   have mul:=mk.len
   obtain⟨p,hp⟩:∃p,g[k]?=some p:=⟨g[k],List.getElem?_eq_getElem (by exact ar220 h0 hk)⟩
   refine wsc ?_
   dsimp[-Aa]
   rw[rdB gu (k:=(k:Int)) (by exact ar2) (by simp;exact ar221 h0 mul hk) (by rw[mul];rw[Ab];lia)]
   simp only[Ac,Int.toNat_natCast]
   induction hu:us.getD k false using Bool.casesOn with
   | false=>
    dsimp
    exact(hJ _ _).mpr ⟨_,_,_,_,us,G,rfl,hle,by rw[hk2];exact mk.skip (.inl hu)⟩
   | true=>
    dsimp[-Aa]
    refine⟨ag.obj,ft_isAnd C (by exact ar222 hn) ag (by rw[Ab];lia) hp ?_⟩
    induction p using Option.casesOn with
    | none=>
     dsimp
     exact(hJ _ _).mpr ⟨_,_,_,_,us,G,rfl,hle,by rw[hk2];exact mk.skip (.inr fun l r e=>by rw[hp] at e;cases e)⟩
    | some x=>
     obtain⟨l',r'⟩:=x
     refine oa (w.lt k l' r' hp) fun w1 w2=>?_
     have hn':=ag.node (by rw[Ab];lia) hp
     have ht:=ag.tup k l' r' hp
     dsimp[-Aa]
     refine wsc ?_
     dsimp[-Aa]
     repeat ((first | refine oat ag.attrs rfl ?_);try dsimp[-Aa])
     simp[-Aa,ag.attrs,hn',Bj]
     refine⟨_,ht,rfl,?_⟩
     dsimp[-Aa]
     refine wsc ?_
     dsimp[-Aa]
     simp[-Aa,Ai,shr1]
     have e2:∀m:Nat,((m:Int)/2).toNat=m/2:=fun m=>by exact ar211
     rw[wrB gu (k:=(l':Int)/2) (by lia) (by rw[e2];exact ar223 w1 mul hk) (by rw[mul];rw[Ab];lia),e2]
     simp only[Ac]
     have gu2:(G.put ud (.list ((us.set (l'/2) true).map .bool))) ud=some (.list ((us.set (l'/2) true).map .bool)):=CH.put_self ..
     refine wsc ?_
     dsimp[-Aa]
     simp[-Aa,-List.map_set,Ai,shr1]
     rw[wrB gu2 (k:=(r':Int)/2) (by lia) (by rw[e2,List.length_set];exact ar223 w2 mul hk) (by rw[List.length_set,mul];rw[Ab];lia),e2]
     dsimp
     refine(hJ _ _).mpr ⟨_,_,_,_,(us.set (l'/2) true).set (r'/2) true,_,rfl,?_,by rw[hk2];exact mk.mark w hu hp⟩
     have:=hle.put ud (.list (((us.set (l'/2) true).set (r'/2) true).map .bool))
     rw[Bg] at this
     rw[Bg]
     exact this
  ·intro σ₂ hi
   refine oe6 ((hJ _ _).mp hi) fun x3 x4 x5 x6 us G w0_=>?_;refine oa2 w0_ fun z6_ hle mk=>?_;clear w0_;subst z6_
   refine oa2 (base2 us G hle) fun ag gr gu=>?_
   refine⟨gr,?_⟩
   have mul:=mk.len
   have mk1:Mk g [l/2,r/2] us 1:=by
    have:g.length-((List.range (g.length-1)).map fun(i:Nat)=>CV.int ((g.length-1-i:Nat):Int)).length=1:=by simp;exact ar224 h0
    rw[this] at mk
    exact mk
   have hHG:Le H G:=by
    have e0:(H1.put ra (.range ((g.length-1:Nat):Int) 0 (-1))) ud=none:=by rw[CH.put_ne _ _ (Ne.symm rud)];exact hud
    exact l1.trans (((Le.new hra0 _).trans (Le.new e0 _)).trans hle)
   simp only[Al]
   refine wsc ?_
   dsimp[-Aa]
   repeat ((first | refine oat ag.attrs rfl ?_);try dsimp[-Aa])
   rw[lenL ag.nodes (by simp;rw[Ab];lia)]
   simp only[Ac,Ax,List.length_mapIdx]
   rw[range1 (by rw[Ab];lia)]
   simp only[Ac]
   refine compK_up0 (by rw[Ab];lia) fun ca hca=>?_
   have lr:=Le.new hca (.range 0 (g.length:Int) 1)
   refine⟨fun i acc K=>K=G.put ca (.range 0 (g.length:Int) 1)∧acc=((List.range i).filter fun i=>us.getD i false).map fun(i:Nat)=>.int i,⟨rfl,rfl⟩,?_,?_⟩
   ·rintro i acc K hi ⟨rfl,rfl⟩
    refine⟨CH.put_self ..,?_⟩
    have gu':=lr _ _ gu
    dsimp
    simp
    rw[rdB gu' (k:=(i:Int)) (by lia) (by simp;exact ar225 hi mul) (by rw[mul];rw[Ab];lia)]
    simp only[Ac,Int.toNat_natCast]
    rw[List.range_succ,List.filter_append,List.map_append]
    induction hu:us.getD i false using Bool.casesOn with
    | true=>simp[List.getD_eq_getElem?_getD] at hu ⊢;simp[hu]
    | false=>simp[List.getD_eq_getElem?_getD] at hu ⊢;simp[hu]
   ·rintro acc K ⟨rfl,rfl⟩
    refine⟨CH.put_self ..,fun d hd=>?_⟩
    have hd0:=(hHG.trans lr).none hd
    exact q d _ us hd0 mul (fun i=>mk1.full w i) ((hHG.trans lr).put d _)
end
end
section
noncomputable def gcl(g:Gr)(i:Nat):List (List Int):=
 match g[i]? with
 | some (some (l,r))=>[[-((i:Int)+1),vo l],[-((i:Int)+1),vo r],[(i:Int)+1,-vo l,-vo r]]
 | _=>if i=0 then [[-1]] else []
theorem gcl_len(g:Gr)(i:Nat):(gcl g i).length≤3:=by
 have h0:(if i=0 then [[-1]] else []:List (List Int)).length≤3:=by by_cases h:i=0 <;> simp[h]
 unfold gcl
 induction g[i]? using Option.casesOn with
 | none=>exact h0
 | some o=>induction o using Option.casesOn with
  | none=>exact h0
  | some p=>induction p using Prod.casesOn with
   | mk l r=>exact Nat.le_refl 3
theorem gcl_fl(g:Gr):∀xs:List Nat,(xs.flatMap (gcl g)).length≤3*xs.length:=fun xs=>by
 induction xs with
 | nil=>exact Nat.le_refl 0
 | cons x xs ih=>
  rw[List.flatMap_cons,List.length_append]
  exact ar228 (gcl_len g x) ih
structure Tps (H:CH) (cs:List Addr) (F:List (List Int)):Prop where
 len:cs.length=F.length
 at_:∀(k:Nat) (a:Addr) (f:List Int),cs[k]?=some a→F[k]?=some f→H a=some (.tup (f.map .int))
section
variable {Fm H G:CH} {cs:List Addr} {F:List (List Int)}
theorem Tps.le(t:Tps H cs F)(h:Le H G):Tps G cs F:=⟨t.len,fun k a f e1 e2=>h _ _ (t.at_ k a f e1 e2)⟩
theorem Tps.push(t:Tps H cs F){d:Addr}{f:List Int}(hd:H d=some (.tup (f.map .int))):Tps H (cs++[d]) (F++[f]):=by
 have hl:=t.len
 refine⟨by simp[hl],fun k a f' e1 e2=>?_⟩
 rw[List.getElem?_append] at e1 e2
 by_cases z:k<cs.length
 ·rw[if_pos z] at e1
  rw[if_pos (by exact ar226 z hl)] at e2
  exact t.at_ k a f' e1 e2
 ·rw[if_neg z] at e1
  rw[if_neg (by exact ar227 hl z)] at e2
  have h1:=(List.getElem?_eq_some_iff.mp e1).1
  simp at h1
  have hk:k=cs.length:=by exact ar197 h1 z
  rw[hk] at e1 e2
  rw[hl] at e2
  simp at e1 e2
  subst e1 e2
  exact hd
theorem Tps.put(t:Tps G cs F){a:Addr}{vs:List CV}{o:CO}(ha:G a=some (.list vs)):Tps (G.put a o) cs F:=
 ⟨t.len,fun k x f e1 e2=>by
  have:=t.at_ k x f e1 e2
  rw[CH.put_ne _ _ (fun z=>by rw[z,ha] at this;cases this)];exact this⟩
structure PC (H G:CH) (cd cl va:Addr) (ns:List CV) (m:Nat) (cs:List Addr) (F:List (List Int)) (vs:List Int):Prop where
 le:Le H G
 d:G cd=some (.list ns)
 c:G cl=some (.list (cs.map .ref))
 v:G va=some (.list (vs.map .int))
 vl:vs.length=m
 t:Tps G cs F
 n1:H cl=none
 n2:H va=none
 e1:cd≠cl
 e2:cd≠va
 e3:va≠cl
 fh:∀a∈cs,H a=none
theorem PC.push{cd cl va t:Addr}{ns:List CV}{m:Nat}{vs:List Int}(p:PC H G cd cl va ns m cs F vs){f:List Int}(ht:G t=none):PC H ((G.put t (.tup (f.map .int))).put cl (.list (cs.map .ref++[.ref t]))) cd cl va ns m (cs++[t]) (F++[f]) vs:=by
 have k1:=Le.new ht (.tup (f.map .int))
 have nl:∀x o,H x=some o→x≠cl:=fun x o e z=>by rw[z,p.n1] at e;cases e
 refine⟨fun x o e=>by rw[CH.put_ne _ _ (nl x o e)];exact k1 _ _ (p.le x o e),by rw[CH.put_ne _ _ p.e1];exact k1 _ _ p.d,by rw[CH.put_self];simp,by rw[CH.put_ne _ _ p.e3];exact k1 _ _ p.v,p.vl,?_,p.n1,p.n2,p.e1,p.e2,p.e3,fun a ha=>by
  rcases List.mem_append.mp ha with m | m
  ·exact p.fh a m
  ·rw[List.mem_singleton] at m;subst m;exact p.le.none ht⟩
 exact((p.t.le k1).push (CH.put_self ..)).put (k1 _ _ p.c)
theorem PC.var{cd cl va:Addr}{ns:List CV}{m:Nat}{vs vs':List Int}(p:PC H G cd cl va ns m cs F vs)(hl:vs'.length=m):PC H (G.put va (.list (vs'.map .int))) cd cl va ns m cs F vs':=by
 have nl:∀x o,H x=some o→x≠va:=fun x o e z=>by rw[z,p.n2] at e;cases e
 exact⟨fun x o e=>by rw[CH.put_ne _ _ (nl x o e)];exact p.le x o e,by rw[CH.put_ne _ _ p.e2];exact p.d,by rw[CH.put_ne _ _ (Ne.symm p.e3)];exact p.c,CH.put_self ..,hl,p.t.put p.v,p.n1,p.n2,p.e1,p.e2,p.e3,p.fh⟩
end
section
variable {Fm H G:CH} {A:AA} {g:Gr} {inps:List Nat} {B:Base} {n:Nat} {Q:CV→CH→Prop}
theorem ft_aigCnf(C:Cx B)(hn:3≤n)(h:AgR H A g inps)(w:Wfg g)(hg:g.length<1000){la:Addr}{l r:Nat}(hl:H la=some (.list [.int (l:Nat),.int (r:Nat)]))(hl2:l/2<g.length)(hr2:r/2<g.length)
  (q:∀d G (us:List Bool) cl va (cs:List Addr),us.length=g.length→(∀i,us.getD i false=true↔Rch g [l/2,r/2] i)→Le H G→H cl=none→(∀a∈cs,H a=none)→G d=some (.tup [.ref cl,.ref va])→G cl=some (.list (cs.map .ref))→
   Tps G cs (((List.range g.length).filter fun i=>us.getD i false).flatMap (gcl g))→Q (.ref d) G):FT B fA n .aigCnf [.ref A.a,.ref la] H Q:=by
 refine C.call (by exact ar77 hn) rfl ?_
 have h0:0<g.length:=(List.getElem?_eq_some_iff.mp w.z).1
 refine wsc ?_
 dsimp[-Aa]
 repeat ((first | refine oat h.attrs rfl ?_);try dsimp[-Aa])
 simp[-Aa,h.attrs]
 intro cl hcl
 have l1:=Le.new hcl (.list [])
 have gcl1:(H.put cl (.list [])) cl=some (.list []):=CH.put_self ..
 dsimp only at *
 generalize H.put cl (.list [])=H1 at l1 gcl1
 dsimp[-Aa]
 refine wsc ?_
 dsimp[-Aa]
 refine⟨by rw[Ab];exact ar78,fun s0 hs0=>?_⟩
 dsimp only at *
 have l2:=Le.new hs0 (.list [.int 0])
 have gs0:(H1.put s0 (.list [.int 0])) s0=some (.list [.int 0]):=CH.put_self ..
 have g2:=h.le (l1.trans l2)
 have gcl2:=l2 _ _ gcl1
 generalize H1.put s0 (.list [.int 0])=H2 at l2 gs0 g2 gcl2
 dsimp[-Aa]
 repeat ((first | refine oat g2.attrs rfl ?_);try dsimp[-Aa])
 rw[lenL g2.nodes (by simp;rw[Ab];exact ar23 hg)]
 have rep:binV .Mult H2 (.ref s0) (.int (g.length:Int))=some (.new (.list ((List.replicate g.length (0:Int)).map .int))):=by
  simp only[binV_e,refBin_e,CH.lsA,Bi,Ah,Ae,Af,Option.bind_some,gs0]
  rw[if_pos ⟨by exact ar2,by exact ar210 hg⟩]
  dsimp
  simp
 dsimp[-Aa]
 simp[-Aa,-List.map_replicate,rep]
 intro va hva
 have l3:=Le.new hva (.list ((List.replicate g.length (0:Int)).map .int))
 have gva3:(H2.put va (.list ((List.replicate g.length (0:Int)).map .int))) va=_:=CH.put_self ..
 have g3:=g2.le l3
 have gcl3:=l3 _ _ gcl2
 have hvc:va≠cl:=fun z=>by rw[z,gcl2] at hva;cases hva
 have hHva:H va=none:=(l1.trans l2).none hva
 generalize H2.put va (.list ((List.replicate g.length (0:Int)).map .int))=H3 at l3 gva3 g3 gcl3
 have l03:Le H H3:=l1.trans (l2.trans l3)
 refine wsc ?_
 dsimp[-Aa]
 refine ft_coneCnf C (by exact ar82 hn) g3 w hg (l03 _ _ hl) hl2 hr2 fun cd G us hcd hul hus hG=>?_
 obtain⟨nl,hnl⟩:∃nl,nl=(List.range g.length).filter fun i=>us.getD i false:=⟨_,rfl⟩
 rw[← hnl] at hG
 have hnlen:nl.length≤g.length:=by rw[hnl];have:=List.length_filter_le (fun i=>us.getD i false) (List.range g.length);simpa using this
 have hnm:∀i∈nl,i<g.length:=fun i hi=>by rw[hnl] at hi;have:=(List.mem_filter.mp hi).1;simpa using this
 have l3G:Le H3 G:=(Le.new hcd _).trans hG
 have pc0:PC H G cd cl va (nl.map fun(i:Nat)=>.int i) g.length [] [] (List.replicate g.length 0):=⟨l03.trans l3G,hG _ _ (CH.put_self ..),l3G _ _ gcl3,l3G _ _ gva3,by simp,⟨rfl,fun k a f e=>by simp at e⟩,hcl,hHva,fun z=>(by rw[z,gcl3] at hcd;cases hcd),fun z=>(by rw[z,gva3] at hcd;cases hcd),hvc,(fun a ha=>by cases ha)⟩
 obtain⟨J,hJ⟩:∃J:Nat→CS→Prop,∀i σ,J i σ↔(∃(x4 x5 x6 x7:CV) (cs:List Addr) (vs:List Int) (G:CH),σ=⟨[.ref A.a,.ref la,.ref cl,.ref va,x4,x5,x6,x7],G⟩∧PC H G cd cl va (nl.map fun(i:Nat)=>.int i) g.length cs ((nl.take i).flatMap (gcl g)) vs):=⟨_,fun _ _=>Iff.rfl⟩
 have flen:=gcl_fl g
 refine Bp pc0.d (by simp;rw[Ab];exact ar229 hg hnlen) J ((hJ _ _).mpr ⟨_,_,_,_,_,_,_,rfl,pc0⟩) ?_ ?_
 ·intro i y σ₂ hy hi
  refine oe7 ((hJ _ _).mp hi) fun x4 x5 x6 x7 cs vs G w0_=>?_;refine oa w0_ fun z7_ pc=>?_;clear w0_;subst z7_
  refine⟨pc.d,?_⟩
  rw[List.getElem?_map,Option.map_eq_some_iff] at hy
  refine oea hy fun k hk z2_=>?_;subst z2_
  have hkg:=hnm k (List.mem_of_getElem? hk)
  have ag:=h.le pc.le
  have hcs:cs.length≤3*1000:=by
   rw[pc.t.len]
   have:=flen (nl.take i)
   have:(nl.take i).length≤nl.length:=List.length_take_le' ..
   exact ar230 hg (by assumption) this hnlen
  have tk:(nl.take (i+1)).flatMap (gcl g)=(nl.take i).flatMap (gcl g)++gcl g k:=by rw[List.take_add_one,hk];simp
  obtain⟨p,hp⟩:∃p,g[k]?=some p:=⟨g[k],List.getElem?_eq_getElem hkg⟩
  refine wsc ?_
  dsimp[-Aa]
  refine wsc ?_
  dsimp[-Aa]
  have vlen:=pc.vl
  rw[wrL pc.v (k:=(k:Int)) (by exact ar2) (by simp;exact ar225 hkg vlen) (by rw[vlen];rw[Ab];lia)]
  simp only[Ac,Int.toNat_natCast]
  have pc2:=pc.var (vs':=vs.set k ((k:Int)+1)) (by simp[vlen])
  generalize G.put va _=G2 at pc2
  have ag2:=h.le pc2.le
  refine wsc ?_
  dsimp[-Aa]
  simp[-Aa]
  by_cases hk0:k=0
  ·subst hk0
   refine ifp rfl (wsc ?_)
   dsimp[-Aa]
   refine⟨okA pc2.c,by rw[Ab];lia,fun t ht=>?_⟩
   have pc3:=pc2.push (f:=[-1]) ht
   simp only[Aj]
   rw[apV (Le.new ht _ _ _ pc2.c) (by simp;rw[Ab];exact ar231 hcs)]
   dsimp
   refine(hJ _ _).mpr ⟨_,_,_,_,cs++[t],vs.set 0 (((0:Nat):Int)+1),_,rfl,?_⟩
   rw[tk]
   have:gcl g 0=[[-1]]:=by unfold gcl;rw[w.z];rfl
   rw[this]
   exact pc3
  ·refine ifn hk0 (wsc ?_)
   dsimp[-Aa]
   refine⟨ag2.obj,ft_isAnd C (by exact ar178 hn) ag2 (by rw[Ab];lia) hp ?_⟩
   induction p using Option.casesOn with
   | none=>
    dsimp
    refine(hJ _ _).mpr ⟨_,_,_,_,cs,vs.set k ((k:Int)+1),_,rfl,?_⟩
    rw[tk]
    have:gcl g k=[]:=by unfold gcl;rw[hp];simp[hk0]
    rw[this,List.append_nil]
    exact pc2
   | some x=>
    obtain⟨l',r'⟩:=x
    dsimp[-Aa]
    refine oa (ag2.kid hp) fun kd1 kd2=>?_
    have nd:=ag2.node (by rw[Ab];lia) hp
    refine wsc ?_
    dsimp[-Aa]
    repeat ((first | refine oat ag2.attrs rfl ?_);try dsimp[-Aa])
    simp[-Aa,ag2.attrs,nd,Bj,kd1]
    refine ft_variableOf C (by lia) ?_
    refine wsc ?_
    dsimp[-Aa]
    repeat ((first | refine oat ag2.attrs rfl ?_);try dsimp[-Aa])
    simp[-Aa,ag2.attrs,nd,Bj,kd2]
    refine ft_variableOf C (by lia) ?_
    refine wsc ?_
    dsimp[-Aa]
    refine⟨okA pc2.c,by rw[Ab];lia,fun t1 ht1=>?_⟩
    have pc3:=pc2.push (f:=[-((k:Int)+1),vo l']) ht1
    simp only[Aj]
    rw[apV (Le.new ht1 _ _ _ pc2.c) (by simp;rw[Ab];lia)]
    simp[-Aa] at pc3 ⊢
    generalize (G2.put t1 _).put cl _=G3 at pc3 ⊢
    refine wsc ?_
    dsimp[-Aa]
    have e3:CO.list (cs.map .ref++[.ref t1])=.list ((cs++[t1]).map .ref):=by simp
    refine⟨okA pc3.c,by rw[Ab];lia,fun t2 ht2=>?_⟩
    have pc4:=pc3.push (f:=[-((k:Int)+1),vo r']) ht2
    simp only[Aj]
    rw[apV (Le.new ht2 _ _ _ pc3.c) (by simp;rw[Ab];exact ar232 hcs)]
    simp[-Aa] at pc4 ⊢
    generalize (G3.put t2 _).put cl _=G4 at pc4 ⊢
    refine wsc ?_
    dsimp[-Aa]
    refine⟨okA pc4.c,by rw[Ab];lia,fun t3 ht3=>?_⟩
    have pc5:=pc4.push (f:=[(k:Int)+1,-vo l',-vo r']) ht3
    simp only[Aj]
    rw[apV (Le.new ht3 _ _ _ pc4.c) (by simp;rw[Ab];exact ar233 hcs)]
    simp[-Aa] at pc5 ⊢
    refine(hJ _ _).mpr ⟨_,_,_,_,cs++[t1,t2,t3],vs.set k ((k:Int)+1),_,rfl,?_⟩
    rw[tk]
    have:gcl g k=[[-((k:Int)+1),vo l'],[-((k:Int)+1),vo r'],[(k:Int)+1,-vo l',-vo r']]:=by unfold gcl;rw[hp]
    rw[this]
    simpa using pc5
 ·intro σ₂ hi
  refine oe7 ((hJ _ _).mp hi) fun x4 x5 x6 x7 cs vs G w0_=>?_;refine oa w0_ fun z7_ pc=>?_;clear w0_;subst z7_
  refine⟨pc.d,?_⟩
  refine wsc ?_
  dsimp
  refine⟨by rw[Ab];lia,fun d hd=>?_⟩
  have k1:=Le.new hd (.tup [.ref cl,.ref va])
  have e:nl.take (nl.map fun(i:Nat)=>CV.int i).length=nl:=by simp
  have tt:=pc.t
  rw[e,hnl] at tt
  exact q d _ us cl va cs hul hus (pc.le.trans k1) pc.n1 pc.fh (CH.put_self ..) (k1 _ _ pc.c) (tt.le k1)
end
end
section
section
variable {g:Gr} {M M':Nat→Bool} {l r:Nat}
theorem vo_abs(x:Nat):(vo x).natAbs=x/2+1:=by unfold vo;split <;> (first | exact ar574 | exact ar575 | lia)
theorem vo_ne(x:Nat):vo x≠0:=by unfold vo;split <;> (first | exact ar576 | exact ar577 | lia)
theorem tv_vo(M':Nat→Bool)(x:Nat):tv M' (vo x)=(M' (x/2+1) != (x%2==1)):=by
 unfold tv
 rw[vo_abs]
 unfold vo
 by_cases h:x%2=1
 ·rw[if_pos h,if_pos (by lia)]
  have:(x%2==1)=true:=by simp[h]
  rw[this]
  induction M' (x/2+1) using Bool.casesOn <;> rfl
 ·rw[if_neg h,if_neg (by lia)]
  have:(x%2==1)=false:=beq_false_of_ne h
  rw[this]
  induction M' (x/2+1) using Bool.casesOn <;> rfl
noncomputable def pF(g:Gr)(us:List Bool)(l r:Nat):List (List Int):=((List.range g.length).filter fun i=>us.getD i false).flatMap (gcl g)++[[vo l,vo r]]++[[-vo l,-vo r]]
theorem tv_pos(N:Nat→Bool)(i:Nat):tv N ((i:Int)+1)=N (i+1):=by
 unfold tv
 rw[if_neg (by exact ar580)]
 congr 1
theorem tv_ng(N:Nat→Bool)(i:Nat):tv N (-((i:Int)+1)) = !(N (i+1)):=by
 rw[tv_neg N (by exact ar245),tv_pos]
theorem tv_nvo(N:Nat→Bool)(x:Nat):tv N (-vo x) = !(N (x/2+1) != (x%2==1)):=by
 rw[tv_neg N (vo_ne x),tv_vo]
theorem gcl_and{i a b:Nat}(e:g[i]?=some (some (a,b))):gcl g i=[[-((i:Int)+1),vo a],[-((i:Int)+1),vo b],[(i:Int)+1,-vo a,-vo b]]:=by unfold gcl;rw[e]
theorem gcl_0(w:Wfg g):gcl g 0=[[-1]]:=by unfold gcl;rw[w.z];rfl
theorem gcl_in{i:Nat}(e:g[i]?=some none)(h:i≠0):gcl g i=[]:=by unfold gcl;rw[e];simp[h]
variable {us:List Bool}
theorem mod_of(w:Wfg g)(hd:lv g M l≠lv g M r):Mod (pF g us l r) (fun v=>ev g M (v-1)):=by
 intro f hf
 have tvl:∀x,tv (fun v=>ev g M (v-1)) (vo x)=lv g M x:=fun x=>by rw[tv_vo];rfl
 rcases List.mem_append.mp hf with hf | hf
 ·rcases List.mem_append.mp hf with hf | hf
  ·refine oea (List.mem_flatMap.mp hf) fun i hi hfi=>?_
   have hig:i<g.length:=by have:=(List.mem_filter.mp hi).1;simpa using this
   obtain⟨p,hp⟩:∃p,g[i]?=some p:=⟨g[i],List.getElem?_eq_getElem hig⟩
   induction p using Option.casesOn with
   | none=>
    by_cases h0:i=0
    ·subst h0
     rw[gcl_0 w] at hfi
     rw[List.mem_singleton] at hfi
     subst hfi
     refine⟨-1,by simp,?_⟩
     have:=tv_ng (fun v=>ev g M (v-1)) 0
     simp[ev_0 w] at this
     exact this
    ·rw[gcl_in hp h0] at hfi;cases hfi
   | some x=>
    obtain⟨a,b⟩:=x
    rw[gcl_and hp] at hfi
    have e:=ev_and w (M:=M) hp
    have t1:=tv_ng (fun v=>ev g M (v-1)) i
    have t2:=tv_pos (fun v=>ev g M (v-1)) i
    simp only[Nat.add_sub_cancel] at t1 t2
    have na:∀x,tv (fun v=>ev g M (v-1)) (-vo x) = !(lv g M x):=fun x=>by rw[tv_neg _ (vo_ne x),tvl]
    simp only[List.mem_cons,List.not_mem_nil,or_false] at hfi
    rcases hfi with rfl | rfl | rfl
    ·induction ha:lv g M a using Bool.casesOn with
     | true=>exact⟨vo a,by simp,by rw[tvl,ha]⟩
     | false=>exact⟨_,List.mem_cons_self,by rw[t1,e,ha];rfl⟩
    ·induction hb:lv g M b using Bool.casesOn with
     | true=>exact⟨vo b,by simp,by rw[tvl,hb]⟩
     | false=>exact⟨_,List.mem_cons_self,by rw[t1,e,hb];simp⟩
    ·induction ha:lv g M a using Bool.casesOn with
     | false=>exact⟨-vo a,by simp,by rw[na,ha];rfl⟩
     | true=>
      induction hb:lv g M b using Bool.casesOn with
      | false=>exact⟨-vo b,by simp,by rw[na,hb];rfl⟩
      | true=>exact⟨_,List.mem_cons_self,by rw[t2,e,ha,hb];rfl⟩
  ·rw[List.mem_singleton] at hf
   subst hf
   induction ha:lv g M l using Bool.casesOn with
   | true=>exact⟨vo l,by simp,by rw[tvl,ha]⟩
   | false=>exact⟨vo r,by simp,by rw[tvl];induction hb:lv g M r using Bool.casesOn with
    | true=>rfl
    | false=>rw[ha,hb] at hd;exact absurd rfl hd⟩
 ·rw[List.mem_singleton] at hf
  subst hf
  have na:∀x,tv (fun v=>ev g M (v-1)) (-vo x) = !(lv g M x):=fun x=>by rw[tv_neg _ (vo_ne x),tvl]
  induction ha:lv g M l using Bool.casesOn with
  | false=>exact⟨-vo l,by simp,by rw[na,ha];rfl⟩
  | true=>exact⟨-vo r,by simp,by rw[na];induction hb:lv g M r using Bool.casesOn with
   | false=>rfl
   | true=>rw[ha,hb] at hd;exact absurd rfl hd⟩
theorem dif_of(w:Wfg g)(hr:∀x∈[l/2,r/2],x<g.length)(hus:∀i,us.getD i false=true↔Rch g [l/2,r/2] i){N:Nat→Bool}(hm:Mod (pF g us l r) N):lv g (fun i=>N (i+1)) l≠lv g (fun i=>N (i+1)) r:=by
 have key:∀i,Rch g [l/2,r/2] i→ev g (fun i=>N (i+1)) i=N (i+1):=by
  intro i
  induction i using Nat.strongRecOn with
  | _ i ih=>
   intro h
   have hig:=h.len w hr
   have hin:∀f∈gcl g i,Sat N f:=fun f hf=>hm f (List.mem_append_left _ (List.mem_append_left _ (List.mem_flatMap.mpr ⟨i,List.mem_filter.mpr ⟨by simpa using hig,by simpa using (hus i).mpr h⟩,hf⟩)))
   obtain⟨p,hp⟩:∃p,g[i]?=some p:=⟨g[i],List.getElem?_eq_getElem hig⟩
   induction p using Option.casesOn with
   | none=>
    by_cases h0:i=0
    ·subst h0
     rw[gcl_0 w] at hin
     refine oea (hin _ (List.mem_singleton.mpr rfl)) fun x hx hxt=>?_
     rw[List.mem_singleton] at hx
     subst hx
     have:=tv_ng N 0
     simp at this
     rw[this] at hxt
     rw[ev_0 w]
     simp at hxt
     exact hxt.symm
    ·rw[ev_in hp h0]
   | some x=>
    obtain⟨a,b⟩:=x
    refine oa (w.lt i a b hp) fun h1 h2=>?_
    rw[gcl_and hp] at hin
    have ea:lv g (fun i=>N (i+1)) a=tv N (vo a):=by rw[tv_vo];unfold lv;rw[ih _ h1 (.left h hp)]
    have eb:lv g (fun i=>N (i+1)) b=tv N (vo b):=by rw[tv_vo];unfold lv;rw[ih _ h2 (.right h hp)]
    rw[ev_and w hp,ea,eb]
    refine oea (hin _ (List.mem_cons_self)) fun x1 m1 t1=>?_
    refine oea (hin _ (List.mem_cons_of_mem _ (List.mem_cons_self))) fun x2 m2 t2=>?_
    refine oea (hin _ (List.mem_cons_of_mem _ (List.mem_cons_of_mem _ (List.mem_cons_self)))) fun x3 m3 t3=>?_
    simp only[List.mem_cons,List.not_mem_nil,or_false] at m1 m2 m3
    have n1:=tv_ng N i
    have n2:=tv_pos N i
    have n3:=tv_neg N (vo_ne a)
    have n4:=tv_neg N (vo_ne b)
    rcases m1 with rfl | rfl <;> rcases m2 with rfl | rfl <;> rcases m3 with rfl | rfl | rfl <;> simp_all
 have hl:=key (l/2) (.root (by simp))
 have hr':=key (r/2) (.root (by simp))
 refine oea (hm [vo l,vo r] (by unfold pF;simp)) fun x1 m1 t1=>?_
 refine oea (hm [-vo l,-vo r] (by unfold pF;simp)) fun x2 m2 t2=>?_
 have ea:lv g (fun i=>N (i+1)) l=tv N (vo l):=by rw[tv_vo];unfold lv;rw[hl]
 have eb:lv g (fun i=>N (i+1)) r=tv N (vo r):=by rw[tv_vo];unfold lv;rw[hr']
 have n3:=tv_neg N (vo_ne l)
 have n4:=tv_neg N (vo_ne r)
 rw[ea,eb]
 simp only[List.mem_cons,List.not_mem_nil,or_false] at m1 m2
 rcases m1 with rfl | rfl <;> rcases m2 with rfl | rfl <;> simp_all
end
end
section
section
variable {Fm H G:CH} {S:Ad} {st:St} {A:AA} {g:Gr} {inps:List Nat} {B:Base} {n:Nat} {Q:CV→CH→Prop}
noncomputable def Ext(Fm H G:CH):CH:=fun x=>match H x with
 | none=>G x
 | some _=>Fm x
theorem Sv.ext(h:Sv Fm H S st)(k:Le H G):Sv (Ext Fm H G) G S st:=by
 refine⟨k _ _ h.self,fun r o e=>k _ _ (h.mem r o e),h.inj,fun x o e=>?_,fun x o e=>?_⟩
 ·unfold Ext at e
  split at e
  ·exact e
  ·exact k _ _ (h.fr x o e)
 ·unfold Ext at e
  split at e
  ·rename_i hx
   exact⟨fun z=>(by rw[z,h.self] at hx;cases hx),fun r o' e' z=>(by rw[← z,h.mem r o' e'] at hx;cases hx)⟩
  ·exact h.ap x o e
theorem Ext.le(h:Le Fm H):Le Fm (Ext Fm H G):=fun x o e=>by unfold Ext;rw[h x o e];exact e
theorem Ext.new{x:Addr}(h:H x=none):Ext Fm H G x=G x:=by unfold Ext;rw[h]
structure Fill (Fm H:CH) (sf:Addr) (c:Nat) (F:List (List Int)) (S:Ad) (st:St):Prop where
 s:S.self=sf
 sv:Sv Fm H S st
 pi:PI F st st.wat 0
 tr:st.tr=[]
 lis:st.lis=[]
 hd:st.head=0
 rf:st.refuted=false
 le:st.learned=[]
 cl:st.cls.length=F.length
 ct:st.count=c
theorem Fill.add(C:Cx B)(hn:3≤n){sf:Addr}{c:Nat}{F:List (List Int)}(h:Fill Fm H sf c F S st){a:Addr}{f:List Int}(ha:Fm a=some (.tup (f.map .int)))(h2:2≤f.length)(hv:∀l∈f,l≠0∧l.natAbs≤c∧l.natAbs≠1)(nd:(f.map Int.natAbs).Nodup)(hF:F.length<4000)
  (q:∀H' S' st',Fill Fm H' sf c (F++[f]) S' st'→Q .none H'):FT B fA n .sAdd [.ref sf,.ref a] H Q:=by
 have vl:∀l∈f,Vl st l:=fun l hl=>⟨(hv l hl).1,by rw[h.ct];exact(hv l hl).2.1⟩
 have v0:∀l∈f,st.v l=0:=fun l hl=>by
  unfold St.v
  rw[h.pi.tr.off l.natAbs (by rw[h.tr];simp)];simp
 have hw:=h.pi.wt.len
 have fl:=cls_len nd vl
 have cw:=h.pi.wf.cnt
 have hcl:=h.cl
 rw[← h.s]
 refine ft_add C hn h.sv h.pi.wf h.rf ha h2 (by rw[Ab];exact ar234 cw fl) vl nd v0 (by rw[Ab];exact ar235 hF hcl) (fun l hl=>by have:=hw l hl;rw[Ab];exact ar236 hF hcl this) fun H' S' hs sv=>?_
 exact q H' S' _ ⟨hs.trans h.s,sv,h.pi.attach0 h.tr h.lis h2 (fun l hl=>⟨vl l hl,(hv l hl).2.2⟩) nd (by exact ar237 hF hcl),h.tr,h.lis,h.hd,h.rf,h.le,by simp[h.cl],h.ct⟩
end
end
section
structure COk (c:Nat) (f:List Int):Prop where
 two:2≤f.length
 lit:∀l∈f,l≠0∧l.natAbs≤c∧l.natAbs≠1
 nd:(f.map Int.natAbs).Nodup
structure GOk (g:Gr) (roots:List Nat):Prop where
 z:¬ Rch g roots 0
 k:∀i a b,Rch g roots i→g[i]?=some (some (a,b))→a/2≠b/2
theorem gcl_ok{g:Gr}{roots:List Nat}(w:Wfg g)(ok:GOk g roots){i:Nat}(h:Rch g roots i)(hi:i<g.length):∀f∈gcl g i,COk g.length f:=by
 intro f hf
 have i0:i≠0:=fun z=>ok.z (z▸h)
 induction hp:g[i]? using Option.casesOn with
 | none=>unfold gcl at hf;rw[hp] at hf;simp[i0] at hf
 | some p=>
  induction p using Option.casesOn with
  | none=>rw[gcl_in hp i0] at hf;cases hf
  | some x=>
   obtain⟨a,b⟩:=x
   refine oa (w.lt i a b hp) fun h1 h2=>?_
   have ha:a/2≠0:=fun z=>ok.z (z▸Rch.left h hp)
   have hb:b/2≠0:=fun z=>ok.z (z▸Rch.right h hp)
   have hab:=ok.k i a b h hp
   have v1:=vo_abs a
   have v2:=vo_abs b
   have n1:=vo_ne a
   have n2:=vo_ne b
   rw[gcl_and hp] at hf
   simp only[List.mem_cons,List.not_mem_nil,or_false] at hf
   rcases hf with rfl | rfl | rfl
   ·refine⟨by simp,fun l hl=>?_,?_⟩
    ·simp only[List.mem_cons,List.not_mem_nil,or_false] at hl
     rcases hl with rfl | rfl <;> refine⟨by (first | exact ar238 | exact ar241 n1 | lia),by (first | exact ar239 hi | exact ar242 v1 h1 hi | lia),by (first | exact ar240 i0 | exact ar243 v1 ha | lia)⟩
    ·simp;exact ar244 v1 h1
   ·refine⟨by simp,fun l hl=>?_,?_⟩
    ·simp only[List.mem_cons,List.not_mem_nil,or_false] at hl
     rcases hl with rfl | rfl <;> refine⟨by lia,by lia,by lia⟩
    ·simp;lia
   ·refine⟨by simp,fun l hl=>?_,?_⟩
    ·simp only[List.mem_cons,List.not_mem_nil,or_false] at hl
     rcases hl with rfl | rfl | rfl <;> refine⟨by (first | exact ar64 n1 | exact ar245 | lia),by (first | exact ar246 hi | exact ar248 v1 h1 hi | lia),by (first | exact ar247 i0 | exact ar249 v1 ha | lia)⟩
    ·simp;lia
theorem KP_bot(c:Nat):KP [[]] [] c:=by
 refine⟨by simp,by simp,fun α _ c=>?_,fun α β _ _ c=>?_⟩
 ·rcases c [] (by simp) with ⟨l,h,_⟩ | ⟨l,h,_⟩ <;> cases h
 ·rcases c [] (by simp) with ⟨l,h,_⟩ | ⟨l,h,_⟩ <;> cases h
theorem no_bot(M:Nat→Bool):¬ Mod [[]] M:=fun h=>by
 refine oea (h [] (by simp)) fun l h _=>?_
 cases h
section
variable {Fm H:CH} {S:Ad} {st:St} {A:AA} {g:Gr} {inps:List Nat} {B:Base} {n:Nat} {Q:CV→CH→Prop}
theorem Fill.side{sf:Addr}{c:Nat}{F:List (List Int)}(h:Fill Fm H sf c F S st){t:Addr}(ht:H t=none)(o:CO):Fill (Fm.put t o) (H.put t o) sf c F S st:=
 ⟨h.s,h.sv.alloc o ht,h.pi,h.tr,h.lis,h.hd,h.rf,h.le,h.cl,h.ct⟩
theorem Fill.sub{Fm':CH}{sf:Addr}{c:Nat}{F:List (List Int)}(h:Fill Fm H sf c F S st)(k:Le Fm' Fm):Fill Fm' H sf c F S st:=
 ⟨h.s,h.sv.sub k,h.pi,h.tr,h.lis,h.hd,h.rf,h.le,h.cl,h.ct⟩
end
end
section
theorem setD{H:CH}{a:Addr}{es:List (Int × CV)}(e:H a=some (.dicti es)){k:Int}{v:CV}(hn:∀p∈es,p.1≠k)(hl:es.length<lim):setI H (.ref a) (.int k) v=some (H.put a (.dicti (es++[(k,v)]))):=by
 simp only[setI,setI_e,tp_tup,Ae,Af,Option.bind_some,e]
 have:es.any (fun p=>decide (p.1=k))=false:=by
  rw[List.any_eq_false]
  intro p hp
  simpa using hn p hp
 rw[if_pos hl,this]
 rfl
section
variable {Fm H:CH} {S:Ad} {st:St} {B:Base} {n:Nat} {Q:CV→CH→Prop}
theorem sp_tail(C:Cx B)(hn:8≤n){c:Nat}{F:List (List Int)}{inp:List Nat}{ia:Addr}{inl:List Nat}{v0 v1 v2 x6:CV}(hFm:Le H Fm)(hin:H ia=some (.list (inl.map fun(i:Nat)=>.int i)))(ind:inl.Nodup)(inr:∀i∈inl,i<c)(h:Sv Fm G S st)(hcnt:st.count=c)(hc:c≤100)
  (k:KP F inp c) (hF:∀f∈F,∀l∈f,l≠0∧l.natAbs≤c)
  (hst:(st.refuted=true∧∀M,¬ Mod F M)∨(st.refuted=false∧st.lis=[]∧st.learned=[]∧st.cls.length≤4000∧∃h,PI F st st.wat h∧st.head=h))
  (qE:(∀M,¬ Mod F M)→∀d G,Le H G→G d=some (.dicti [])→Q (.ref d) G)
  (qS:∀N,Mod F N→∀d G,Le H G→G d=some (.dicti (inl.map fun(i:Nat)=>((i:Int),CV.int (if N (i+1) then 1 else 0))))→Q (.ref d) G) :
  WSs B fA n (ir_solverParting.drop 4) ⟨[v0,v1,v2,.ref ia,.int 1000,.ref S.self,x6,.undef,.undef,.undef,.undef],G⟩ (RetQ Q):=by
 rw[ir_solverParting]
 simp only[List.drop]
 refine wsc ?_
 dsimp[-Aa]
 simp[-Aa]
 refine⟨h.obj,fun as has=>?_⟩
 have h1:=h.alloc (.tup []) has
 dsimp only at has
 have hF1:Le H (Fm.put as (.tup [])):=hFm.trans (Le.new (Le.none h.fr has) _)
 generalize G.put as (.tup [])=G1 at h1
 dsimp[-Aa]
 refine ft_solve (n:=n) C (by exact ar251 hn) h1 (CH.put_self ..) (by rw[hcnt];exact k) (fun f hf l hl=>⟨(hF f hf l hl).1,by rw[hcnt];exact(hF f hf l hl).2⟩) hst (fun G2 S2 st2 hs2 sv2 hno=>?_) (fun G2 S2 st2 fl hs2 sv2 hfd hfl hmod=>?_)
 ·refine wsc ?_
  dsimp[-Aa]
  refine wsc ?_
  dsimp[-Aa]
  intro d hd
  dsimp[-Aa]
  refine wsc ?_
  dsimp
  exact qE hno d _ ((hF1.trans sv2.fr).trans (Le.new hd _)) (CH.put_self ..)
 ·refine wsc ?_
  dsimp[-Aa]
  refine wsc ?_
  dsimp[-Aa]
  intro d hd
  have l2:=hF1.trans sv2.fr
  have hHd:H d=none:=l2.none hd
  have sv3:=sv2.alloc (.dicti []) hd
  have hd3:(G2.put d (.dicti [])) d=some (.dicti []):=CH.put_self ..
  dsimp[-Aa]
  generalize G2.put d (.dicti [])=G3 at sv3 hd3
  refine wsc ?_
  dsimp[-Aa]
  refine wsc ?_
  dsimp[-Aa]
  rw[← hs2]
  refine⟨sv3.obj,ft_model C (by exact ar252 hn) sv3 (by rw[hfd];simp[hfl,hcnt];rw[Ab];exact ar73 hc) fun ma hma=>?_⟩
  have l3:Le H G3:=(hF1.trans (Le.new (Le.none sv2.fr hd) _)).trans sv3.fr
  have hHm:H ma=none:=l3.none hma
  have hmd:ma≠d:=fun z=>by rw[z,hd3] at hma;cases hma
  rw[hfd]
  obtain⟨N,hN⟩:∃N:Nat→Bool,N=fun v=>fl.getD v false:=⟨_,rfl⟩
  rw[← hN] at hmod
  obtain⟨es,hes⟩:∃es:List Nat→List (Int × CV),es=fun xs=>xs.map fun(i:Nat)=>((i:Int),CV.int (if N (i+1) then 1 else 0)):=⟨_,rfl⟩
  obtain⟨J,hJ⟩:∃J:Nat→CS→Prop,∀i σ,J i σ↔(∃(x:CV) (G:CH),σ=⟨[v0,v1,v2,.ref ia,.int 1000,.ref S2.self,x6,.bool true,.ref d,.ref ma,x],G⟩∧Le ((H.put ma (.list (fl.map .bool))).put d (.dicti (es (inl.take i)))) G):=⟨_,fun _ _=>Iff.rfl⟩
  have base:∀(i:Nat) (G:CH),Le ((H.put ma (.list (fl.map .bool))).put d (.dicti (es (inl.take i)))) G→Le H G∧G ia=some (.list (inl.map fun(i:Nat)=>.int i))∧G d=some (.dicti (es (inl.take i)))∧G ma=some (.list (fl.map .bool)):=fun i G hG=>by
   have e0:(H.put ma (.list (fl.map .bool))) d=none:=by rw[CH.put_ne _ _ (Ne.symm hmd)];exact hHd
   have e:Le H G:=((Le.new hHm _).trans (Le.new e0 _)).trans hG
   exact⟨e,e _ _ hin,hG _ _ (CH.put_self ..),hG _ _ (by rw[CH.put_ne _ _ hmd,CH.put_self])⟩
  have start:Le ((H.put ma (.list (fl.map .bool))).put d (.dicti (es (inl.take 0)))) (G3.put ma (.list (fl.map .bool))):=by
   have:es (inl.take 0)=[]:=by rw[hes];rfl
   rw[this,put_comm _ _ _ hmd]
   refine Le.put (fun x o e=>?_) _ _
   by_cases z:x=d
   ·subst z;rw[CH.put_self] at e;rw[hd3];exact e
   ·rw[CH.put_ne _ _ z] at e;exact l3 _ _ e
  have ilen:inl.length≤c:=by
   have sub:∀x∈inl,x∈List.range c:=fun x hx=>List.mem_range.mpr (inr x hx)
   have:=List.Nodup.length_le_of_subset ind sub
   simpa using this
  refine wsc ?_
  dsimp[-Aa]
  refine Bp (base 0 _ start).2.1 (by simp;rw[Ab];exact ar253 hc ilen) J ((hJ _ _).mpr ⟨_,_,rfl,start⟩) ?_ ?_
  ·intro i y σ₂ hy hi
   refine Be ((hJ _ _).mp hi) fun x G' z2_ hle=>?_;subst z2_
   refine oa3 (base i G' hle) fun b1 b2 b3 b4=>?_
   refine⟨b2,?_⟩
   rw[List.getElem?_map,Option.map_eq_some_iff] at hy
   refine oea hy fun m hm z2_=>?_;subst z2_
   have hmc:=inr m (List.mem_of_getElem? hm)
   refine wsc ?_
   dsimp[-Aa]
   rw[rdB b4 (k:=(m:Int)+1) (by exact ar79) (by exact ar254 hmc hcnt hfl) (by rw[Ab];exact ar255 hc hcnt hfl)]
   rw[show((m:Int)+1).toNat=m+1 by exact ar81]
   simp only[Ac]
   have hfresh:∀p∈es (inl.take i),p.1≠(m:Int):=fun p hp e=>by
    rw[hes] at hp
    refine oea (List.mem_map.mp hp) fun m' hm' z2_=>?_;subst z2_
    have:m'=m:=by have e:(m':Int)=m:=e;lia
    subst this
    refine oe (List.getElem?_of_mem hm') fun j hj=>?_
    rw[List.getElem?_take] at hj
    split at hj
    ·rename_i hji
     obtain⟨p1,q1⟩:=List.getElem?_eq_some_iff.mp hj
     obtain⟨p2,q2⟩:=List.getElem?_eq_some_iff.mp hm
     have:=(List.getElem_inj ind).mp (q1.trans q2.symm)
     exact ar173 hji this
    ·cases hj
   have eslen:(es (inl.take i)).length<lim:=by
    rw[hes];simp;rw[Ab];exact ar257 hc ilen
   have est:es (inl.take (i+1))=es (inl.take i)++[((m:Int),CV.int (if N (m+1) then 1 else 0))]:=by rw[hes,List.take_add_one,hm];simp
   have hNm:fl.getD (m+1) false=N (m+1):=by rw[hN]
   have nxt:J (i+1) ⟨[v0,v1,v2,.ref ia,.int 1000,.ref S2.self,x6,.bool true,.ref d,.ref ma,.int m],G'.put d (.dicti (es (inl.take i)++[((m:Int),CV.int (if N (m+1) then 1 else 0))]))⟩:=by
    refine(hJ _ _).mpr ⟨_,_,rfl,?_⟩
    rw[← est]
    have:=hle.put d (.dicti (es (inl.take (i+1))))
    rw[Bg] at this
    exact this
   rw[hNm]
   induction hb:N (m+1) using Bool.casesOn with
   | true=>
    rw[hb] at nxt
    dsimp
    rw[setD b3 hfresh eslen]
    simpa using nxt
   | false=>
    rw[hb] at nxt
    dsimp
    rw[setD b3 hfresh eslen]
    simpa using nxt
  ·intro σ₂ hi
   refine Be ((hJ _ _).mp hi) fun x G' z2_ hle=>?_;subst z2_
   refine oa3 (base _ G' hle) fun b1 b2 b3 b4=>?_
   refine⟨b2,?_⟩
   dsimp
   have et:inl.take (inl.map fun(i:Nat)=>CV.int i).length=inl:=by simp
   rw[et,hes] at b3
   exact qS N hmod d G' b1 b3
end
end
section
section
variable {Fm H:CH} {S:Ad} {st:St} {A:AA} {g:Gr} {inps:List Nat} {B:Base} {n:Nat} {Q:CV→CH→Prop}
theorem ft_solverParting(C:Cx B)(hn:10≤n)(h:AgR H A g inps)(w:Wfg g)(hg:g.length≤100){l r:Nat}(hl2:l/2<g.length)(hr2:r/2<g.length)
  (ok:GOk g [l/2,r/2]) {ia:Addr} {inl:List Nat} (hin:H ia=some (.list (inl.map fun(i:Nat)=>.int i))) (ind:inl.Nodup) (inr:∀i∈inl,i<g.length)
  (hc:l=r∨(l/2≠r/2∧∃inp,∀us:List Bool,(∀i,us.getD i false=true↔Rch g [l/2,r/2] i)→KP (pF g us l r) inp g.length))
  (qE:(∀M,lv g M l=lv g M r)→∀d G,Le H G→G d=some (.dicti [])→Q (.ref d) G)
  (qS:∀M,lv g M l≠lv g M r→∀d G,Le H G→G d=some (.dicti (inl.map fun(i:Nat)=>((i:Int),CV.int (if M i then 1 else 0))))→Q (.ref d) G) :
  FT B fA n .solverParting [.ref A.a,.int (l:Nat),.int (r:Nat),.ref ia,.int 1000] H Q:=by
 refine C.call (by exact ar258 hn) rfl ?_
 refine wsc ?_
 dsimp[-Aa]
 repeat ((first | refine oat h.attrs rfl ?_);try dsimp[-Aa])
 rw[lenL h.nodes (by simp;rw[Ab];exact ar62 hg)]
 dsimp[-Aa]
 simp[-Aa]
 refine⟨by exact ar259 hn,fun x d hx=>?_⟩
 refine ft_init (Fm:=H) C (by exact ar260 hn) hg (Le.new hx _) hx (CH.put_self ..) fun H1 S hs sv=>?_
 refine⟨rfl,?_⟩
 have l01:Le H H1:=sv.fr
 subst hs
 refine wsc ?_
 dsimp[-Aa]
 refine⟨by rw[Ab];exact ar7,fun la hla=>?_⟩
 dsimp only at hla
 have sv2:=(sv.alloc (.list [.int (l:Nat),.int (r:Nat)]) hla).sub (Le.new (Le.none l01 hla) _)
 have la2:(H1.put la (.list [.int (l:Nat),.int (r:Nat)])) la=_:=CH.put_self ..
 have l02:Le H (H1.put la (.list [.int (l:Nat),.int (r:Nat)])):=l01.trans (Le.new hla _)
 simp only[Aj]
 generalize H1.put la (.list [.int (l:Nat),.int (r:Nat)])=H2 at sv2 la2 l02
 refine ft_aigCnf C (by exact ar261 hn) (h.le l02) w (by exact ar46 hg) la2 hl2 hr2 fun d2 G us cl va cs hul hus hG hcl hcs gd gcl' tps=>?_
 have sb:subV G (.ref d2) (.int 0)=some (.ref cl):=by simp only[subV,CO.sub,Ae,Af,Option.bind_some,gd];simp[idx]
 rw[sb,Ac]
 generalize hK:Sq B fA (n-1) _ (RetQ Q)=K
 obtain⟨F,hF⟩:∃F,F=((List.range g.length).filter fun i=>us.getD i false).flatMap (gcl g):=⟨_,rfl⟩
 rw[← hF] at tps
 have fok:∀f∈F,COk g.length f:=fun f hf=>by
  rw[hF] at hf
  refine oea (List.mem_flatMap.mp hf) fun i hi hfi=>?_
  refine oa (List.mem_filter.mp hi) fun h1 h2=>?_
  exact gcl_ok w ok ((hus i).mp h2) (by simpa using h1) f hfi
 have flen:F.length≤300:=by
  have aux:=gcl_fl g
  have h1:=aux ((List.range g.length).filter fun i=>us.getD i false)
  have h2:=List.length_filter_le (fun i=>us.getD i false) (List.range g.length)
  rw[← hF] at h1
  simp only[List.length_range] at h2
  exact ar262 hg h1 h2
 have sv3:=sv2.ext hG
 obtain⟨Fm,hFm⟩:∃Fm,Fm=Ext H H2 G:=⟨_,rfl⟩
 rw[← hFm] at sv3
 have lF:Le H Fm:=hFm▸Ext.le l02
 have fcl:Fm cl=some (.list (cs.map .ref)):=by rw[hFm,Ext.new hcl];exact gcl'
 have ftp:Tps Fm cs F:=⟨tps.len,fun k a f e1 e2=>by rw[hFm,Ext.new (hcs a (List.mem_of_getElem? e1))];exact tps.at_ k a f e1 e2⟩
 have fill0:Fill Fm G S.self g.length [] S (St.new g.length):=⟨rfl,sv3,PI.new hg,rfl,rfl,rfl,rfl,rfl,rfl,rfl⟩
 obtain⟨J,hJ⟩:∃J:Nat→CS→Prop,∀i σ,J i σ↔(∃(x6:CV) (G:CH) (S':Ad) (st:St),σ=⟨[.ref A.a,.int (l:Nat),.int (r:Nat),.ref ia,.int 1000,.ref S.self,x6,.undef,.undef,.undef,.undef],G⟩∧Fill Fm G S.self g.length (F.take i) S' st):=⟨_,fun _ _=>Iff.rfl⟩
 refine Bp (items:=cs.map .ref) gcl' (by simp;rw[tps.len];rw[Ab];exact ar263 flen) J ((hJ _ _).mpr ⟨_,_,_,_,rfl,fill0⟩) ?_ ?_
 ·intro i y σ₂ hy hi
  refine oe4a ((hJ _ _).mp hi) fun x6 G' S' st z4_ fl=>?_;subst z4_
  refine⟨fl.sv.fr _ _ fcl,?_⟩
  rw[List.getElem?_map,Option.map_eq_some_iff] at hy
  refine oea hy fun a ha z2_=>?_;subst z2_
  have hil:=(List.getElem?_eq_some_iff.mp ha).1
  obtain⟨f,hf⟩:∃f,F[i]?=some f:=⟨F[i]'(by rw[← tps.len];exact hil),List.getElem?_eq_getElem _⟩
  have cok:=fok f (List.mem_of_getElem? hf)
  refine wsc ?_
  dsimp[-Aa]
  have ob:=fl.sv.obj (f:=.sAdd)
  rw[fl.s] at ob
  refine⟨ob,?_⟩
  refine fl.add C (by exact ar261 hn) (ftp.at_ i a f ha hf) cok.two cok.lit cok.nd (by simp;exact ar264 flen) fun H' S'' st' fl'=>?_
  refine(hJ _ _).mpr ⟨_,_,S'',st',rfl,?_⟩
  rw[List.take_add_one,hf]
  exact fl'
 ·intro σ₂ hi
  refine oe4a ((hJ _ _).mp hi) fun x6 G' S' st z4_ fl=>?_;subst z4_
  refine⟨fl.sv.fr _ _ fcl,?_⟩
  have et:F.take (cs.map CV.ref).length=F:=by rw[List.length_map,tps.len,List.take_length]
  rw[et] at fl
  rw[← hK]
  simp only[Al]
  refine wsc ?_
  dsimp[-Aa]
  have ob:=fl.sv.obj (f:=.sAdd)
  rw[fl.s] at ob
  refine⟨ob,?_⟩
  refine ft_variableOf C (by lia) ?_
  refine ft_variableOf C (by lia) ?_
  refine⟨by rw[Ab];lia,fun t1 ht1=>?_⟩
  dsimp only at ht1
  have hl0:l/2≠0:=fun z=>ok.z (z▸Rch.root (by simp))
  have hr0:r/2≠0:=fun z=>ok.z (z▸Rch.root (by simp))
  have a1:=vo_abs l
  have a2:=vo_abs r
  have n1:=vo_ne l
  have n2:=vo_ne r
  have fl1:=fl.side ht1 (.tup [.int (vo l),.int (vo r)])
  have lF1:Le H (Fm.put t1 (.tup [.int (vo l),.int (vo r)])):=lF.trans (Le.new (Le.none fl.sv.fr ht1) _)
  simp only[Aj]
  generalize G'.put t1 (.tup [.int (vo l),.int (vo r)])=G1 at fl1
  rcases hc with hlr | ⟨hlr,inp,hkp⟩
  ·subst hlr
   have w1:=fl1.pi.wf
   have c1:=fl1.ct
   have vl1:Vl st (vo l):=⟨n1,by rw[c1];exact ar265 a1 hl2⟩
   have htr1:(st.fld .trail).length<1000:=by have:=fl1.tr;simp only[St.tr] at this;rw[this];simp
   have v01:st.v (vo l)=0:=by
    unfold St.v
    rw[fl1.pi.tr.off (vo l).natAbs (by rw[fl1.tr];simp)];simp
   rw[← fl1.s]
   refine ft_add1 C (by lia) fl1.sv w1 fl1.rf (CH.put_self ..) vl1 (by rw[fl1.le];simp;rw[Ab];exact ar176) htr1 (fun _ G2 S2 hs2 sv2=>?_) (fun e=>by rw[v01] at e;cases e) (.inl v01)
   have w2:=assign_wf (l:=vo l) (r:=-1) w1 (by exact ar266 htr1)
   rw[fl1.s] at hs2
   refine wsc ?_
   dsimp[-Aa]
   have ob:=sv2.obj (f:=.sAdd)
   rw[hs2,← fl1.s] at ob
   refine⟨ob,?_⟩
   refine ft_variableOf C (by lia) ?_
   dsimp[-Aa]
   refine ft_variableOf C (by lia) ?_
   dsimp[-Aa]
   refine⟨by rw[Ab];lia,fun t2 ht2=>?_⟩
   dsimp only at ht2
   have sv3:=sv2.alloc (.tup [.int (-vo l),.int (-vo l)]) ht2
   have lF2:=lF1.trans (Le.new (Le.none sv2.fr ht2) (.tup [.int (-vo l),.int (-vo l)]))
   simp only[Aj]
   generalize G2.put t2 (.tup [.int (-vo l),.int (-vo l)])=G3 at sv3
   have vn:(st.assign (vo l) (-1)).v (-vo l) = -1:=by rw[v_neg _ n1,as_v_self w1 vl1]
   rw[fl1.s,← hs2]
   refine ft_add1 C (by lia) sv3 w2 fl1.rf (CH.put_self ..) ⟨by exact ar64 n1,by rw[Int.natAbs_neg];exact vl1.2⟩ (by show st.learned.length<_;rw[fl1.le];simp;rw[Ab];lia) (by rw[Bb];have:=fl1.tr;simp only[St.tr] at this;rw[this];simp) (fun e=>by rw[vn] at e;cases e) (fun _ t3 G4 S4 hs4 sv4=>?_) (.inr vn)
   rw[← hs4]
   exact sp_tail C (by exact ar267 hn) lF2 hin ind inr sv4 c1 hg (KP_bot _) (fun f hf x hx=>by rw[List.mem_singleton] at hf;subst hf;cases hx) (.inl ⟨rfl,no_bot⟩) (fun _=>qE fun M=>rfl) (fun N hN=>absurd hN (no_bot N))
  ·refine fl1.add (f:=[vo l,vo r]) C (by lia) (CH.put_self ..) (by simp) (fun x hx=>by
    simp only[List.mem_cons,List.not_mem_nil,or_false] at hx
    rcases hx with rfl | rfl <;> refine⟨by (first | exact ar241 n1 | lia),by lia,by (first | exact ar243 a1 hl0 | lia)⟩) (by simp;lia) (by exact ar269 flen) fun G2 S2 st2 fl2=>?_
   refine wsc ?_
   dsimp[-Aa]
   have ob:=fl2.sv.obj (f:=.sAdd)
   rw[fl2.s] at ob
   refine⟨ob,?_⟩
   refine ft_variableOf C (by lia) ?_
   dsimp[-Aa]
   refine ft_variableOf C (by lia) ?_
   dsimp[-Aa]
   refine⟨by rw[Ab];lia,fun t2 ht2=>?_⟩
   dsimp only at ht2
   have fl3:=fl2.side ht2 (.tup [.int (-vo l),.int (-vo r)])
   have lF2:=lF1.trans (Le.new (Le.none fl2.sv.fr ht2) (.tup [.int (-vo l),.int (-vo r)]))
   simp only[Aj]
   generalize G2.put t2 (.tup [.int (-vo l),.int (-vo r)])=G3 at fl3
   refine fl3.add (f:=[-vo l,-vo r]) C (by lia) (CH.put_self ..) (by simp) (fun x hx=>by
    simp only[List.mem_cons,List.not_mem_nil,or_false] at hx
    rcases hx with rfl | rfl <;> refine⟨by lia,by (first | exact ar270 a1 hl2 | lia),by (first | exact ar249 a1 hl0 | lia)⟩) (by simp;lia) (by simp;exact ar271 flen) fun G4 S4 st4 fl4=>?_
   have eF:F++[[vo l,vo r]]++[[-vo l,-vo r]]=pF g us l r:=by rw[hF];rfl
   rw[eF] at fl4
   rw[← fl4.s]
   refine sp_tail C (by lia) lF2 hin ind inr fl4.sv fl4.ct hg (hkp us hus) (fun f hf x hx=>?_) (.inr ⟨fl4.rf,fl4.lis,fl4.le,by rw[fl4.cl,← eF];simp;lia,0,fl4.pi,fl4.hd⟩) (fun hno=>qE fun M=>?_) (fun N hN=>qS _ (dif_of w (fun x hx=>?_) hus hN))
   ·rw[← eF] at hf
    rcases List.mem_append.mp hf with hf | hf
    ·rcases List.mem_append.mp hf with hf | hf
     ·have:=(fok f hf).lit x hx;exact⟨this.1,this.2.1⟩
     ·rw[List.mem_singleton] at hf
      subst hf
      simp only[List.mem_cons,List.not_mem_nil,or_false] at hx
      rcases hx with rfl | rfl <;> refine⟨by lia,by lia⟩
    ·rw[List.mem_singleton] at hf
     subst hf
     simp only[List.mem_cons,List.not_mem_nil,or_false] at hx
     rcases hx with rfl | rfl <;> refine⟨by lia,by lia⟩
   ·apply Classical.byContradiction
    intro hne
    exact hno _ (mod_of w hne)
   ·simp only[List.mem_cons,List.not_mem_nil,or_false] at hx
    rcases hx with rfl | rfl <;> assumption
end
end
section
structure Wk (g:Gr) (roots:List Nat) (z:Bool) (ks st:List Nat):Prop where
 nd:ks.Nodup
 kr:∀k∈ks,Rch g roots k∧(z=true→k≠0)
 sr:∀k∈st,Rch g roots k
 cr:∀k∈roots,k∈ks∨k∈st∨(z=true∧k=0)
 cc:∀k∈ks,∀l r,g[k]?=some (some (l,r))→(l/2∈ks∨l/2∈st∨(z=true∧l/2=0))∧(r/2∈ks∨r/2∈st∨(z=true∧r/2=0))
section
variable {g:Gr} {roots:List Nat} {z:Bool} {ks st:List Nat} {k l r:Nat}
theorem Wk.init:Wk g roots z [] roots:=⟨.nil,fun k h=>(by cases h),fun k h=>.root h,fun k h=>.inr (.inl h),fun k h=>(by cases h)⟩
theorem Wk.skip(h:Wk g roots z ks (st++[k]))(hk:k∈ks∨(z=true∧k=0)):Wk g roots z ks st:=by
 have mv:∀x,(x∈ks∨x∈st++[k]∨(z=true∧x=0))→x∈ks∨x∈st∨(z=true∧x=0):=fun x hx=>by
  rcases hx with hx | hx | hx
  ·exact .inl hx
  ·rcases List.mem_append.mp hx with hx | hx
   ·exact .inr (.inl hx)
   ·rw[List.mem_singleton] at hx
    subst hx
    rcases hk with hk | hk
    ·exact .inl hk
    ·exact .inr (.inr hk)
  ·exact .inr (.inr hx)
 exact⟨h.nd,h.kr,fun x hx=>h.sr x (List.mem_append_left _ hx),fun x hx=>mv x (h.cr x hx),fun x hx l r e=>⟨mv _ (h.cc x hx l r e).1,mv _ (h.cc x hx l r e).2⟩⟩
theorem Wk.add(h:Wk g roots z ks (st++[k]))(hk:k∉ks)(hz:z=true→k≠0)(ns:List Nat)(hs:∀x∈ns,Rch g roots x)(hc:∀l r,g[k]?=some (some (l,r))→l/2∈ns∧r/2∈ns):Wk g roots z (ks++[k]) (st++ns):=by
 have mv:∀x,(x∈ks∨x∈st++[k]∨(z=true∧x=0))→x∈ks++[k]∨x∈st++ns∨(z=true∧x=0):=fun x hx=>by
  rcases hx with hx | hx | hx
  ·exact .inl (List.mem_append_left _ hx)
  ·rcases List.mem_append.mp hx with hx | hx
   ·exact .inr (.inl (List.mem_append_left _ hx))
   ·exact .inl (List.mem_append_right _ hx)
  ·exact .inr (.inr hx)
 refine⟨?_,fun x hx=>?_,fun x hx=>?_,fun x hx=>mv x (h.cr x hx),fun x hx l r e=>?_⟩
 ·rw[List.nodup_append]
  refine⟨h.nd,by simp,fun a ha b hb=>?_⟩
  rw[List.mem_singleton] at hb
  subst hb
  exact fun e=>hk (e▸ha)
 ·rcases List.mem_append.mp hx with hx | hx
  ·exact h.kr x hx
  ·rw[List.mem_singleton] at hx
   subst hx
   exact⟨h.sr _ (by simp),hz⟩
 ·rcases List.mem_append.mp hx with hx | hx
  ·exact h.sr x (List.mem_append_left _ hx)
  ·exact hs x hx
 ·rcases List.mem_append.mp hx with hx | hx
  ·exact⟨mv _ (h.cc x hx l r e).1,mv _ (h.cc x hx l r e).2⟩
  ·rw[List.mem_singleton] at hx
   subst hx
   refine oa (hc l r e) fun h1 h2=>?_
   exact⟨.inr (.inl (List.mem_append_right _ h1)),.inr (.inl (List.mem_append_right _ h2))⟩
theorem Wk.top(h:Wk g roots z ks (st++[k])):Rch g roots k:=h.sr k (by simp)
theorem Wk.leaf(h:Wk g roots z ks (st++[k]))(hk:k∉ks)(hz:z=true→k≠0)(hc:∀l r,g[k]?≠some (some (l,r))):Wk g roots z (ks++[k]) st:=by
 have:=h.add hk hz [] (fun x hx=>by cases hx) (fun l r e=>absurd e (hc l r))
 simpa using this
theorem Wk.gate(h:Wk g roots z ks (st++[k]))(hk:k∉ks)(hz:z=true→k≠0)(e:g[k]?=some (some (l,r))):Wk g roots z (ks++[k]) (st++[l/2,r/2]):=by
 refine h.add hk hz _ (fun x hx=>?_) (fun l' r' e'=>?_)
 ·simp at hx
  rcases hx with rfl | rfl
  ·exact .left h.top e
  ·exact .right h.top e
 ·rw[e] at e';cases e';simp
theorem Wk.full(w:Wfg g)(h:Wk g roots z ks [])(i:Nat):i∈ks↔Rch g roots i∧(z=true→i≠0):=by
 refine⟨h.kr i,fun hh=>?_⟩
 have hr:=hh.1
 have hz:=hh.2
 clear hh
 have key:i∈ks∨(z=true∧i=0):=by
  clear hz
  induction hr with
  | root hx=>
   rcases h.cr _ hx with a | a | a
   ·exact .inl a
   ·cases a
   ·exact .inr a
  | @left i l r _ e ih=>
   rcases ih with a | a
   ·rcases(h.cc _ a l r e).1 with a | a | a
    ·exact .inl a
    ·cases a
    ·exact .inr a
   ·rw[a.2,w.z] at e;cases e
  | @right i l r _ e ih=>
   rcases ih with a | a
   ·rcases(h.cc _ a l r e).2 with a | a | a
    ·exact .inl a
    ·cases a
    ·exact .inr a
   ·rw[a.2,w.z] at e;cases e
 rcases key with a | a
 ·exact a
 ·exact absurd a.2 (hz a.1)
theorem Wk.len(w:Wfg g)(hr:∀r∈roots,r<g.length)(h:Wk g roots z ks st):ks.length≤g.length:=by
 have sub:∀x∈ks,x∈List.range g.length:=fun x hx=>List.mem_range.mpr ((h.kr x hx).1.len w hr)
 have:=List.Nodup.length_le_of_subset h.nd sub
 simpa using this
end
noncomputable def srt(ks:List Nat):List Nat:=ks.mergeSort fun x y=>decide (x≤y)
theorem mem_srt{ks:List Nat}{i:Nat}:i∈srt ks↔i∈ks:=List.mem_mergeSort
theorem srt_len(ks:List Nat):(srt ks).length=ks.length:=List.length_mergeSort _
theorem srt_pw{ks:List Nat}(h:ks.Nodup):(srt ks).Pairwise (· < ·):=by
 have h1:(srt ks).Pairwise fun x y=>decide (x≤y)=true:=List.pairwise_mergeSort (fun a b c=>by lia) (fun a b=>by lia) ks
 have h2:(srt ks).Nodup:=(List.mergeSort_perm ks _).nodup_iff.mpr h
 have h3:=h1.and h2
 refine h3.imp fun⟨a,b⟩=>?_
 simp at a
 lia
theorem srt_int(ks:List Nat):(ks.map fun(k:Nat)=>(k:Int)).mergeSort (fun x y=>decide (x≤y))=(srt ks).map fun(k:Nat)=>(k:Int):=by
 unfold srt
 rw[List.map_mergeSort]
 intro a _ b _
 simp
theorem pw_eq:∀{xs ys:List Nat},xs.Pairwise (· < ·)→ys.Pairwise (· < ·)→(∀i,i∈xs↔i∈ys)→xs=ys
 | [],[],_,_,_=>rfl
 | [],y::ys,_,_,h=>by have:=(h y).mpr (by simp);cases this
 | x::xs,[],_,_,h=>by have:=(h x).mp (by simp);cases this
 | x::xs,y::ys,h1,h2,h=>by
  rw[List.pairwise_cons] at h1 h2
  have e:x=y:=by
   have a:=(h x).mp (by simp)
   have b:=(h y).mpr (by simp)
   rw[List.mem_cons] at a b
   rcases a with a | a
   ·exact a
   ·rcases b with b | b
    ·exact b.symm
    ·have:=h1.1 _ b;have:=h2.1 _ a;exact ar581 this (by assumption)
  subst e
  refine congrArg _ (pw_eq h1.2 h2.2 fun i=>?_)
  have:=h i
  rw[List.mem_cons,List.mem_cons] at this
  constructor
  ·intro hi
   have l:=h1.1 _ hi
   rcases this.mp (.inr hi) with a | a
   ·lia
   ·exact a
  ·intro hi
   have l:=h2.1 _ hi
   rcases this.mpr (.inr hi) with a | a
   ·lia
   ·exact a
theorem pw_nd{xs:List Nat}(h:xs.Pairwise (· < ·)):xs.Nodup:=h.imp fun {a b} h=>by exact ar196 h
structure Cin (g:Gr) (roots inl:List Nat):Prop where
 pw:inl.Pairwise (· < ·)
 mem:∀i,i∈inl↔(Rch g roots i∧i≠0)∧g[i]?=some none
theorem Cin.uniq{g:Gr}{roots a b:List Nat}(h:Cin g roots a)(k:Cin g roots b):a=b:=pw_eq h.pw k.pw fun i=>by rw[h.mem,k.mem]
noncomputable def Mr(inl:List Nat)(ρ:Nat):Nat→Bool:=fun i=>ρ.testBit (inl.idxOf i)
theorem Mr_at{inl:List Nat}(nd:inl.Nodup){ρ j i:Nat}(e:inl[j]?=some i):Mr inl ρ i=ρ.testBit j:=by
 unfold Mr
 have hm:=List.mem_of_getElem? e
 have hl:=List.idxOf_lt_length_of_mem hm
 obtain⟨h,e2⟩:=List.getElem?_eq_some_iff.mp e
 have e3:=List.getElem_idxOf hl
 rw[(List.getElem_inj nd).mp (e3.trans e2.symm)]
theorem row_ex(f:Nat→Bool):∀k:Nat,∃ρ,ρ<2^k∧∀j,j<k→ρ.testBit j=f j
 | 0=>⟨0,by simp,fun j h=>by lia⟩
 | k+1=>by
  refine oea (row_ex f k) fun ρ h1 h2=>?_
  have p:2^(k+1)=2^k+2^k:=by rw[Nat.pow_succ];exact ar395
  induction hf:f k using Bool.casesOn with
  | false=>
   refine⟨ρ,by lia,fun j hj=>?_⟩
   by_cases e:j=k
   ·subst e;rw[hf];exact Nat.testBit_lt_two_pow h1
   ·exact h2 j (by exact ar397 hj e)
  | true=>
   refine⟨2^k+ρ,by lia,fun j hj=>?_⟩
   by_cases e:j=k
   ·subst e;rw[hf,Nat.testBit_two_pow_add_eq,Nat.testBit_lt_two_pow h1];rfl
   ·rw[Nat.testBit_two_pow_add_gt (by lia)];exact h2 j (by lia)
theorem rows_all{g:Gr}(w:Wfg g){l r:Nat}{inl:List Nat}(c:Cin g [l/2,r/2] inl)(h:∀ρ,ρ<2^inl.length→lv g (Mr inl ρ) l=lv g (Mr inl ρ) r)(M:Nat→Bool):lv g M l=lv g M r:=by
 refine oea (row_ex (fun j=>M (inl.getD j 0)) inl.length) fun ρ h1 h2=>?_
 have key:∀i,Rch g [l/2,r/2] i→ev g M i=ev g (Mr inl ρ) i:=ev_congr w fun i hi e z=>by
  have:=(c.mem i).mpr ⟨⟨hi,z⟩,e⟩
  refine oe (List.getElem?_of_mem this) fun j hj=>?_
  simp only[Mr_at (pw_nd c.pw) hj,h2 j (List.getElem?_eq_some_iff.mp hj).1,List.getD_eq_getElem?_getD,hj]
  rfl
 have:=h ρ h1
 unfold lv at this ⊢
 rw[key _ (.root (by simp)),key _ (.root (by simp))]
 exact this
noncomputable def full(k:Nat):Nat:=2^2^k-1
noncomputable def vt(i k:Nat):Nat:=full k ^^^ (full k/(2^2^i+1))
theorem vt_bits:∀k,k<7→∀i,i<k→∀ρ,ρ<2^k→(vt i k).testBit ρ=ρ.testBit i:=by decide +kernel
theorem full_lt(k:Nat):full k<2^2^k:=by have:=Nat.two_pow_pos (2^k);unfold full;omega
theorem vt_lt(i k:Nat):vt i k<2^2^k:=Nat.xor_lt_two_pow (full_lt k) (Nat.lt_of_le_of_lt (Nat.div_le_self ..) (full_lt k))
theorem full_bit{k ρ:Nat}(h:ρ<2^k):(full k).testBit ρ=true:=by
 unfold full
 rw[Nat.testBit_two_pow_sub_one]
 simpa using h
noncomputable def WB(g:Gr)(inl:List Nat)(w j:Nat):Prop:=w<2^2^inl.length∧∀ρ,ρ<2^inl.length→w.testBit ρ=ev g (Mr inl ρ) j
noncomputable def WL2(g:Gr)(inl:List Nat)(w l:Nat):Prop:=w<2^2^inl.length∧∀ρ,ρ<2^inl.length→w.testBit ρ=lv g (Mr inl ρ) l
section
variable {g:Gr} {inl:List Nat} {x y l r j:Nat}
theorem WB.lit(h:WB g inl x (l/2)):WL2 g inl (if l%2=1 then x ^^^ full inl.length else x) l:=by
 by_cases e:l%2=1
 ·rw[if_pos e]
  refine⟨Nat.xor_lt_two_pow h.1 (full_lt _),fun ρ hρ=>?_⟩
  rw[Nat.testBit_xor,h.2 ρ hρ,full_bit hρ]
  unfold lv
  rw[e]
  induction ev g (Mr inl ρ) (l/2) using Bool.casesOn <;> rfl
 ·rw[if_neg e]
  refine⟨h.1,fun ρ hρ=>?_⟩
  rw[h.2 ρ hρ]
  unfold lv
  have:(l%2==1)=false:=by simpa using e
  rw[this]
  induction ev g (Mr inl ρ) (l/2) using Bool.casesOn <;> rfl
theorem WB.and(w:Wfg g)(e:g[j]?=some (some (l,r)))(h:WL2 g inl x l)(k:WL2 g inl y r):WB g inl (x &&& y) j:=by
 refine⟨Nat.and_lt_two_pow _ k.1,fun ρ hρ=>?_⟩
 simp only[Nat.testBit_and,h.2 ρ hρ,k.2 ρ hρ,ev_and w e]
theorem WB.zero(w:Wfg g):WB g inl 0 0:=⟨Nat.two_pow_pos _,fun ρ _=>by rw[ev_0 w];simp⟩
theorem WB.inp(nd:inl.Nodup)(hk:inl.length<7){i:Nat}(hi:inl[i]?=some j)(e:g[j]?=some none)(z:j≠0):WB g inl (vt i inl.length) j:=
 ⟨vt_lt _ _,fun ρ hρ=>by rw[vt_bits _ hk _ (List.getElem?_eq_some_iff.mp hi).1 _ hρ,ev_in e z,Mr_at nd hi]⟩
end
noncomputable def PT(g:Gr)(l r:Nat)(inl:List Nat)(es:List (Nat × Bool)):Prop:=
 ((∀M,lv g M l=lv g M r)∧es=[])∨∃M,lv g M l≠lv g M r∧es=inl.map fun i=>(i,M i)
end
section
theorem valueOf_app{es:List (Int × CV)}{k k':Int}{v v':CV}(h:Ap es k=some v):Ap (es++[(k',v')]) k=some v:=by
 unfold Ap at h ⊢
 rw[List.find?_append]
 induction e:es.find? (fun p=>p.1=k) using Option.casesOn with
 | none=>rw[e] at h;cases h
 | some p=>rw[e] at h;simpa using h
theorem valueOf_new{es:List (Int × CV)}{k:Int}{v:CV}(h:∀p∈es,p.1≠k):Ap (es++[(k,v)]) k=some v:=by
 unfold Ap
 rw[List.find?_append]
 have:es.find? (fun p=>p.1=k)=none:=by rw[List.find?_eq_none];simpa using h
 rw[this]
 dsimp
 simp
structure Wds (g:Gr) (inl D:List Nat) (es:List (Int × CV)):Prop where
 len:es.length=D.length
 key:∀p∈es,∃j∈D,p.1=((j:Nat):Int)
 val:∀j∈D,∃x:Nat,Ap es (j:Int)=some (.int (x:Nat))∧WB g inl x j
theorem Wds.fresh{g:Gr}{inl D:List Nat}{es:List (Int × CV)}(h:Wds g inl D es){j:Nat}(hj:j∉D):∀p∈es,p.1≠(j:Int):=fun p hp e=>by
 refine oea (h.key p hp) fun i hi e2=>?_
 have:i=j:=by exact ar582 e2 e
 exact hj (this▸hi)
theorem Wds.add{g:Gr}{inl D:List Nat}{es:List (Int × CV)}(h:Wds g inl D es){j x:Nat}(hj:j∉D)(hx:WB g inl x j):Wds g inl (D++[j]) (es++[((j:Int),.int (x:Nat))]):=by
 refine⟨by simp[h.len],fun p hp=>?_,fun i hi=>?_⟩
 ·rcases List.mem_append.mp hp with hp | hp
  ·refine oea (h.key p hp) fun i hi e=>?_
   exact⟨i,List.mem_append_left _ hi,e⟩
  ·rw[List.mem_singleton] at hp
   subst hp
   exact⟨j,by simp,rfl⟩
 ·rcases List.mem_append.mp hi with hi | hi
  ·refine oea (h.val i hi) fun y h1 h2=>?_
   exact⟨y,valueOf_app h1,h2⟩
  ·rw[List.mem_singleton] at hi
   subst hi
   exact⟨x,valueOf_new (h.fresh hj),hx⟩
theorem Wds.zero{g:Gr}(w:Wfg g){inl:List Nat}:Wds g inl [0] [(0,.int 0)]:=by
 refine⟨rfl,fun p hp=>?_,fun i hi=>?_⟩
 ·rw[List.mem_singleton] at hp
  subst hp
  exact⟨0,by simp,rfl⟩
 ·rw[List.mem_singleton] at hi
  subst hi
  exact⟨0,rfl,WB.zero w⟩
theorem pw_take{nl:List Nat}(h:nl.Pairwise (· < ·)){i j c:Nat}(hj:nl[i]?=some j)(hc:c∈nl)(l:c<j):c∈nl.take i:=by
 refine oe (List.getElem?_of_mem hc) fun k hk=>?_
 obtain⟨k1,k2⟩:=List.getElem?_eq_some_iff.mp hk
 obtain⟨j1,j2⟩:=List.getElem?_eq_some_iff.mp hj
 have:k<i:=by
  apply Classical.byContradiction
  intro hh
  rcases Nat.lt_or_ge i k with a | a
  ·have:=List.pairwise_iff_getElem.mp h i k j1 k1 a
   exact ar583 this l k2 j2
  ·have:i=k:=by exact ar584 a hh
   subst this
   lia
 exact List.mem_of_getElem? (i:=k) (by rw[List.getElem?_take,if_pos this];exact hk)
theorem pw_ntake{nl:List Nat}(h:nl.Nodup){i j:Nat}(hj:nl[i]?=some j):j∉nl.take i:=fun hc=>by
 refine oe (List.getElem?_of_mem hc) fun k hk=>?_
 rw[List.getElem?_take] at hk
 split at hk
 ·obtain⟨k1,k2⟩:=List.getElem?_eq_some_iff.mp hk
  obtain⟨j1,j2⟩:=List.getElem?_eq_some_iff.mp hj
  have:=(List.getElem_inj h).mp (k2.trans j2.symm)
  exact ar173 (by assumption) this
 ·cases hk
end
section
theorem shlN{y:Nat}(h:y≤1000):Aw .LShift 1 (y:Int)=some ((2^y:Nat):Int):=by
 unfold Aw
 simp only
 rw[if_pos ⟨by exact ar2,by exact ar291 h,by decide⟩]
 simp
theorem p2{k:Nat}(h:k≤6):2^k≤64:=Nat.pow_le_pow_right (by exact ar292) h
section
variable {Fm H G:CH} {A:AA} {g:Gr} {inps:List Nat} {B:Base} {n:Nat} {Q:CV→CH→Prop}
theorem ft_fullTable(C:Cx B)(hn:0<n){k:Nat}(hk:k≤6)(q:Q (.int (full k:Nat)) H):FT B fA n .fullTable [.int k] H Q:=by
 refine C.call hn rfl ?_
 refine wsc ?_
 have h1:=p2 hk
 dsimp[-Aa]
 rw[shlN (by exact ar293 hk)]
 simp only[Option.map_some,Ac,Ax,Ao]
 rw[shlN (by exact ar294 h1)]
 dsimp
 have h2:=Nat.two_pow_pos (2^k)
 have e:(2:Int)^2^k-1=((full k:Nat):Int):=by
  unfold full
  have:((2^2^k-1:Nat):Int)=((2^2^k:Nat):Int)-1:=by exact ar295 h2
  rw[this]
  push_cast
  rfl
 rw[e]
 exact q
theorem ft_varTable(C:Cx B)(hn:2≤n){i k:Nat}(hk:k≤6)(hi:i<k)(q:Q (.int (vt i k:Nat)) H):FT B fA n .varTable [.int i,.int k] H Q:=by
 refine C.call (by exact ar5 hn) rfl ?_
 refine wsc ?_
 simp[-Aa]
 refine ft_fullTable C (by exact ar222 hn) hk ?_
 have h1:=p2 (k:=i) (by exact ar296 hk hi)
 have h3:2^i≤32:=by have:2^i≤2^5:=Nat.pow_le_pow_right (by lia) (by exact ar297 hk hi);exact ar298 this
 have h4:2^2^i≤4294967296:=Nat.le_trans (Nat.pow_le_pow_right (by lia) h3) (by decide)
 have h5:=Nat.two_pow_pos (2^i)
 refine wsc ?_
 simp[-Aa]
 rw[shlN (by lia)]
 simp only[Option.map_some,Ac,Ax,Ao]
 rw[shlN (by lia)]
 simp only[Option.map_some,Ac,Ax,Ao,io_Add]
 have e:Aw .FloorDiv ((full k:Nat):Int) (((2^2^i:Nat):Int)+1)=some ((full k/(2^2^i+1):Nat):Int):=by
  generalize 2^2^i=y at h4 h5
  unfold Aw
  simp only
  rw[if_pos (.inr ⟨by exact ar301,by unfold Ak;exact ar302 h4⟩)]
  have:((y:Int)+1)=((y+1:Nat):Int):=by exact ar303
  simp only[this,Int.fdiv_eq_ediv_of_nonneg _ (Int.natCast_nonneg _),Int.natCast_ediv]
 simp only[e]
 simp only[Option.map_some,Ac,Ax,Ao]
 unfold Aw
 simp only[Option.map_some,Ac,Ax,bxorN]
 exact q
theorem ft_lowBit(C:Cx B)(hn:0<n){w b:Nat}(hb:w.testBit b=true)(q:∀p:Nat,w.testBit p=true→Q (.int p) H):FT B fA n .lowBit [.int w] H Q:=by
 refine C.call hn rfl ?_
 refine wsc ?_
 dsimp[-Aa]
 refine wsc ?_
 obtain⟨I,hI⟩:∃I:Nat→CS→Prop,∀m σ,I m σ↔(∃p:Nat,σ=⟨[.int w,.int p],H⟩∧p≤b∧m=b-p):=⟨_,fun _ _=>Iff.rfl⟩
 refine ws_whl I b ((hI _ _).mpr ⟨0,rfl,by exact ar304,by exact ar305⟩) ?_
 intro m σ₁ hi
 refine oea2 ((hI _ _).mp hi) fun p z1_ hp hm=>?_;subst z1_
 have e:Aw .RShift (w:Int) (p:Int)=some ((w/2^p:Nat):Int):=by
  unfold Aw
  simp only
  rw[if_pos (by lia),Int.toNat_natCast,shrN]
 dsimp[-Aa]
 rw[e]
 simp only[Option.map_some,Ac,Ax,Ao]
 have e2:Aw .BitAnd ((w/2^p:Nat):Int) 1=some ((w/2^p%2:Nat):Int):=by
  unfold Aw
  simp only[band1]
 rw[e2]
 simp only[Option.map_some,Ac,Ax,cmp_Eq,B4,fin_bool]
 have tb:w.testBit p=decide (w/2^p%2=1):=Nat.testBit_eq_decide_div_mod_eq
 by_cases z:w/2^p%2=0
 ·rw[if_pos (by exact ar306 z)]
  have ne:p≠b:=fun e=>by
   subst e
   rw[tb] at hb
   simp at hb
   exact ar307 z hb
  refine wsc ?_
  dsimp
  simp
  exact⟨b-(p+1),by exact ar308 ne hp hm,(hI _ _).mpr ⟨p+1,by simp,by exact ar309 ne hp,rfl⟩⟩
 ·rw[if_neg (by exact ar310 z)]
  refine wsc ?_
  dsimp
  exact q p (by rw[tb];simp;exact ar311 z)
theorem ft_literalWord(C:Cx B)(hn:0<n){wd:Addr}{es:List (Int × CV)}(h:H wd=some (.dicti es)){l x f:Nat}(e:Ap es ((l/2:Nat):Int)=some (.int (x:Nat)))
  (q:Q (.int ((if l%2=1 then x ^^^ f else x:Nat):Int)) H):FT B fA n .literalWord [.ref wd,.int l,.int f] H Q:=by
 refine C.call hn rfl ?_
 refine wsc ?_
 have sb:subV H (.ref wd) (.int ((l/2:Nat):Int))=some (.int (x:Nat)):=by
  simp only[subV,CO.sub,Ae,Af,Option.bind_some,h]
  exact e
 have e2:(l:Int)/2=((l/2:Nat):Int):=by exact ar273
 dsimp[-Aa]
 simp[-Aa,Ai,band1]
 by_cases z:l%2=1
 ·rw[if_pos z] at q
  refine ifp (by exact ar203 z) (wsc ?_)
  dsimp
  simp[Ai,shr1]
  rw[e2,sb]
  simp only[Ao,Ai,Option.map_some,Ac,Ax,bxorN]
  exact q
 ·rw[if_neg z] at q
  refine ifn (by exact ar204 z) (wsc ?_)
  dsimp
  simp[Ai,shr1]
  rw[e2,sb]
  simpa using q
end
end
section
noncomputable def B5(g:Gr)(i:Nat):Bool:=match g[i]? with
 | some (some _)=>false
 | _=>true
theorem popN{H:CH}{a:Addr}{l:List Nat}{x:Nat}(e:H a=some (.list ((l++[x]).map fun(i:Nat)=>.int i)))(h2:l.length<lim):bmV .pop0 H (.ref a) []=some (.upd (.int x) a (.list (l.map fun(i:Nat)=>.int i))):=by
 simp[bmV_e,CH.lsA,get2_e,Bi,two_two,B8,Ah,Ae,Af,Option.bind_some,e]
 exact ar272 h2
theorem apN{H:CH}{a:Addr}{l:List Nat}{x:Nat}(e:H a=some (.list (l.map fun(i:Nat)=>.int i)))(h2:l.length<lim):bmV .append H (.ref a) [.int x]=some (.upd .none a (.list ((l++[x]).map fun(i:Nat)=>.int i))):=by
 simp[bmV_e,CH.lsA,get2_e,Bi,two_two,B8,Ah,Ae,Af,Option.bind_some,e,h2]
theorem trL{H:CH}{a:Addr}{l:List CV}(e:H a=some (.list l))(h2:l.length≤lim):truth H (.ref a)=some (!l.isEmpty):=by
 simp only[truth_e,CH.lsA,Ah,Ae,Af,Option.bind_some,e]
 rw[if_pos h2]
theorem valueOf_none{es:List (Int × CV)}{k:Int}:Ap es k=none↔∀p∈es,p.1≠k:=by
 unfold Ap
 rw[Option.map_eq_none_iff,List.find?_eq_none]
 simp
noncomputable def Two(H:CH)(a b:Addr)(x y:CO)(G:CH):Prop:=Le ((H.put a x).put b y) G
theorem Two.facts{H G:CH}{a b:Addr}{x y:CO}(ha:H a=none)(hb:H b=none)(ab:a≠b)(t:Two H a b x y G):Le H G∧G a=some x∧G b=some y:=by
 have e0:(H.put a x) b=none:=by rw[CH.put_ne _ _ (Ne.symm ab)];exact hb
 exact⟨((Le.new ha _).trans (Le.new e0 _)).trans t,t _ _ (by rw[CH.put_ne _ _ ab,CH.put_self]),t _ _ (CH.put_self ..)⟩
theorem Two.putb{H G:CH}{a b:Addr}{x y:CO}(t:Two H a b x y G)(z:CO):Two H a b x z (G.put b z):=by
 have:=Le.put t b z
 rw[Bg] at this
 exact this
theorem Two.puta{H G:CH}{a b:Addr}{x y:CO}(ab:a≠b)(t:Two H a b x y G)(z:CO):Two H a b z y (G.put a z):=by
 have:=Le.put t a z
 rw[put_comm _ _ _ (Ne.symm ab),Bg] at this
 exact this
theorem Two.new{H G:CH}{a b d:Addr}{x y:CO}(t:Two H a b x y G)(h:G d=none)(z:CO):Two H a b x y (G.put d z):=Le.trans t (Le.new h z)
section
variable {Fm H G:CH} {A:AA} {g:Gr} {inps:List Nat} {B:Base} {n:Nat} {Q:CV→CH→Prop}
theorem ft_coneInputs(C:Cx B)(hn:2≤n)(h:AgR H A g inps)(hg:g.length<1000){na:Addr}{nl:List Nat}(hl:H na=some (.list (nl.map fun(i:Nat)=>.int i)))(hr:∀i∈nl,i<g.length)(hlen:nl.length<1000)
  (q:∀d,H d=none→Q (.ref d) (H.put d (.list ((nl.filter (B5 g)).map fun(i:Nat)=>.int i)))):FT B fA n .coneInputs [.ref A.a,.ref na] H Q:=by
 refine C.call (by exact ar5 hn) rfl ?_
 refine wsc ?_
 dsimp[-Aa]
 refine⟨na,_,_,rfl,hl,rfl,by simp;rw[Ab];exact ar23 hlen,fun i acc G=>G=H∧acc=((nl.take i).filter (B5 g)).map fun(i:Nat)=>.int i,⟨rfl,rfl⟩,?_,?_⟩
 ·rintro i x acc G hx ⟨rfl,rfl⟩
  rw[List.getElem?_map,Option.map_eq_some_iff] at hx
  refine oea hx fun j hj z2_=>?_;subst z2_
  refine⟨hl,?_⟩
  have hjl:=hr j (List.mem_of_getElem? hj)
  obtain⟨p,hp⟩:∃p,g[j]?=some p:=⟨g[j],List.getElem?_eq_getElem hjl⟩
  dsimp
  simp
  refine⟨h.obj,ft_isAnd C (by exact ar222 hn) h (by rw[Ab];exact ar23 hg) hp ?_⟩
  have e:(nl.take (i+1)).filter (B5 g)=(nl.take i).filter (B5 g)++if B5 g j then [j] else []:=by
   rw[List.take_add_one,hj,List.filter_append]
   congr 1
   induction hb:B5 g j using Bool.casesOn <;> simp[hb]
  induction p using Option.casesOn with
  | none=>
   have:B5 g j=true:=by unfold B5;rw[hp]
   rw[this] at e
   dsimp
   simp[e]
  | some y=>
   have:B5 g j=false:=by unfold B5;rw[hp]
   rw[this] at e
   dsimp
   simp[e]
 ·rintro acc G ⟨rfl,rfl⟩
  refine⟨hl,fun d hd=>?_⟩
  have e:nl.take (nl.map fun(i:Nat)=>CV.int i).length=nl:=by simp
  rw[e]
  exact q d hd
theorem ft_coneEquiv(C:Cx B)(hn:1≤n)(h:AgR H A g inps)(w:Wfg g)(hg:g.length<60){ta:Addr}{l r:Nat}(hl:H ta=some (.tup [.int (l:Nat),.int (r:Nat)]))(hl2:l/2<g.length)(hr2:r/2<g.length)
  (q:∀d G (nl:List Nat),H d=none→nl.Pairwise (· < ·)→(∀i,i∈nl↔Rch g [l/2,r/2] i∧i≠0)→Le (H.put d (.list (nl.map fun(i:Nat)=>.int i))) G→Q (.ref d) G):FT B fA n .coneEquiv [.ref A.a,.ref ta] H Q:=by
 refine C.call (by exact ar19 hn) rfl ?_
 refine wsc ?_
 dsimp[-Aa]
 intro dd hdd
 dsimp[-Aa]
 refine wsc ?_
 dsimp[-Aa]
 simp[-Aa]
 intro sd hsd
 dsimp only at hsd hdd
 have ab:dd≠sd:=fun z=>by rw[← z,CH.put_self] at hsd;cases hsd
 have hsd0:H sd=none:=by rwa [CH.put_ne _ _ (Ne.symm ab)] at hsd
 have t0:Two H dd sd (.dicti []) (.list (([]:List Nat).map fun(i:Nat)=>.int i)) ((H.put dd (.dicti [])).put sd (.list [])):=Le.refl _
 generalize (H.put dd (.dicti [])).put sd (.list [])=G0 at t0
 dsimp[-Aa]
 refine wsc ?_
 dsimp[-Aa]
 obtain⟨J,hJ⟩:∃J:Nat→CS→Prop,∀i σ,J i σ↔(∃(x4:CV) (G:CH),σ=⟨[.ref A.a,.ref ta,.ref dd,.ref sd,x4,.undef,.undef],G⟩∧Two H dd sd (.dicti []) (.list (([l/2,r/2].take i).map fun(i:Nat)=>.int i)) G):=⟨_,fun _ _=>Iff.rfl⟩
 have f0:=t0.facts hdd hsd0 ab
 refine forK_tup (f0.1 _ _ hl) (by simp;rw[Ab];exact ar7) J ((hJ _ _).mpr ⟨_,_,rfl,t0⟩) ?_ ?_
 ·intro i y σ₂ hy hi
  refine Be ((hJ _ _).mp hi) fun x4 G z2_ t=>?_;subst z2_
  refine oa2 (t.facts hdd hsd0 ab) fun le g1 g2=>?_
  refine⟨le _ _ hl,?_⟩
  have stp:∀m:Nat,y=.int m→[l/2,r/2].take (i+1)=[l/2,r/2].take i++[m/2]→WSs B fA (n-1) [IS.expr (IE.bm (IE.var 3) BM.append [IE.bin Operator.RShift (IE.var 4) (IE.int 1)])] (CS.set ⟨[.ref A.a,.ref ta,.ref dd,.ref sd,x4,.undef,.undef],G⟩ 4 y) (fun f σ=>Lp (J (i+1)) (Sq B fA (n-1) (ir_coneEquiv.drop 3) (RetQ Q)) f σ):=by
   intro m hm e
   subst hm
   refine wsc ?_
   dsimp
   simp[Ai,shr1]
   refine⟨okA g2,?_⟩
   have e2:(m:Int)/2=((m/2:Nat):Int):=by exact ar273
   simp only[e2,apN g2 (by simp;rw[Ab];exact ar274)]
   refine(hJ _ _).mpr ⟨_,_,rfl,?_⟩
   simp only[e]
   exact t.putb _
  have hi2:i<2:=by have:=(List.getElem?_eq_some_iff.mp hy).1;simpa using this
  rcases(by exact ar175 hi2:i=0∨i=1) with rfl | rfl
  ·simp at hy
   exact stp l hy.symm rfl
  ·simp at hy
   exact stp r hy.symm rfl
 ·intro σ₂ hi
  refine Be ((hJ _ _).mp hi) fun x4 G z2_ t=>?_;subst z2_
  have f1:=t.facts hdd hsd0 ab
  refine⟨f1.1 _ _ hl,?_⟩
  refine wsc ?_
  simp only[List.length_cons,List.length_nil,List.take] at t
  have hrt:∀x∈[l/2,r/2],x<g.length:=fun x hx=>by simp at hx;rcases hx with rfl | rfl <;> assumption
  obtain⟨I,hI⟩:∃I:Nat→CS→Prop,∀m σ,I m σ↔(∃(x4 x5 x6:CV) (ks st:List Nat) (G:CH),σ=⟨[.ref A.a,.ref ta,.ref dd,.ref sd,x4,x5,x6],G⟩∧Two H dd sd (.dicti (ks.map fun(i:Nat)=>((i:Int),CV.bool true))) (.list (st.map fun(i:Nat)=>.int i)) G∧Wk g [l/2,r/2] true ks st∧m=3*(g.length-ks.length)+st.length∧m≤200):=⟨_,fun _ _=>Iff.rfl⟩
  refine ws_whl I (3*g.length+2) ((hI _ _).mpr ⟨_,_,_,[],[l/2,r/2],_,rfl,t,Wk.init,by simp,by exact ar275 hg⟩) ?_
  intro m σ₁ hi
  refine oe6 ((hI _ _).mp hi) fun x4 x5 x6 ks st G w0_=>?_;refine oa4 w0_ fun z6_ t wk hm hm2=>?_;clear w0_;subst z6_
  refine oa2 (t.facts hdd hsd0 ab) fun le g1 g2=>?_
  have ag:=h.le le
  have kl:=wk.len w hrt
  dsimp[-Aa]
  rw[fin_true]
  simp only
  simp only[trL g2 (by simp;rw[Ab];exact ar276 hm2 hm),Ac]
  rcases List.eq_nil_or_concat st with rfl | ⟨st',k,rfl⟩
  ·try dsimp[-Aa]
   simp[-Aa]
   refine wsc ?_
   dsimp[-Aa]
   have sb:bfV .sorted G (.ref dd)=some (.new (.list ((srt ks).map fun(i:Nat)=>.int i))):=by
    simp only[bfV_e,CH.lsA,len_e,mkList_e,Ah,Bx,Ae,Af,Option.bind_some,g1]
    rw[if_pos (by simp;exact ar277 hg kl)]
    have e1:((ks.map fun(i:Nat)=>((i:Int),CV.bool true)).map (·.1))=ks.map fun(i:Nat)=>(i:Int):=by simp
    simp only[e1,srt_int]
    simp
   simp only[sb]
   intro d hd
   have hd0:H d=none:=le.none hd
   exact q d _ (srt ks) hd0 (srt_pw wk.nd) (fun i=>by rw[mem_srt,wk.full w];simp) (le.put _ _)
  ·rw[List.concat_eq_append] at g2 wk t hm ⊢
   simp only[List.length_append,List.length_singleton] at hm
   simp only[show(!List.isEmpty (List.map (fun(i:Nat)=>CV.int i) (st'++[k])))=true by simp]
   simp only[Br_true,Aa]
   dsimp[-Aa]
   refine⟨okP g2,?_⟩
   simp only[popN g2 (by rw[Ab];exact ar278 hm2 hm)]
   simp only[Ac,Bk,Al]
   have t1:=t.putb (.list (st'.map fun(i:Nat)=>.int i))
   refine oa2 (t1.facts hdd hsd0 ab) fun le1 g11 g12=>?_
   generalize G.put sd (.list (st'.map fun(i:Nat)=>.int i))=G1 at t1 le1 g11 g12
   have ag1:=h.le le1
   have hk:=wk.top.len w hrt
   obtain⟨p,hp⟩:∃p,g[k]?=some p:=⟨g[k],List.getElem?_eq_getElem hk⟩
   refine wsc ?_
   dsimp[-Aa]
   simp[-Aa]
   by_cases z:k=0
   ·rw[if_pos (by exact ar279 z)]
    show ∃k,k<m∧I k _
    exact⟨3*(g.length-ks.length)+st'.length,by exact ar280 hm,(hI _ _).mpr ⟨_,_,_,ks,st',G1,rfl,t1,wk.skip (.inr ⟨rfl,z⟩),rfl,by exact ar281 hm2 hm⟩⟩
   ·rw[if_neg (by exact ar282 z)]
    have ni:Bm .NotIn G1 (.int (k:Int)) (.ref dd)=some (decide (k∉ks)):=by
     have e1:(Ap (ks.map fun(i:Nat)=>((i:Int),CV.bool true)) (k:Int)).isNone=decide (k∉ks):=by
      rw[Bool.eq_iff_iff,Option.isNone_iff_eq_none,valueOf_none]
      dsimp
      simp
      constructor
      ·intro hh hk'
       exact hh k hk' rfl
      ·intro hh a ha e
       have:a=k:=by exact ar283 e
       exact hh (this▸ha)
     simp only[Bu,Ba,CH.lsA,eqB_e,Bs,Ah,Bx,Ae,Af,Option.bind_some,g11]
     simp only[e1]
    simp only[ni]
    by_cases hks:k∈ks
    ·dsimp
     simp[hks]
     exact⟨3*(g.length-ks.length)+st'.length,by lia,(hI _ _).mpr ⟨_,_,_,ks,st',G1,rfl,t1,wk.skip (.inl hks),rfl,by lia⟩⟩
    ·dsimp[-Aa]
     simp[-Aa,hks]
     refine wsc ?_
     dsimp[-Aa]
     rw[setD g11 (fun p hp e=>by
      refine oea (List.mem_map.mp hp) fun a ha z2_=>?_;subst z2_
      have e:(a:Int)=k:=e
      have:a=k:=by lia
      exact hks (this▸ha)) (by simp;rw[Ab];exact ar284 hg kl)]
     have t2:=t1.puta ab (.dicti (ks.map (fun(i:Nat)=>((i:Int),CV.bool true))++[((k:Int),.bool true)]))
     rw[show ks.map (fun(i:Nat)=>((i:Int),CV.bool true))++[((k:Int),.bool true)]=(ks++[k]).map (fun(i:Nat)=>((i:Int),CV.bool true)) by simp] at t2 ⊢
     generalize G1.put dd _=G2 at t2
     refine oa2 (t2.facts hdd hsd0 ab) fun le2 g21 g22=>?_
     have ag2:=h.le le2
     refine wsc ?_
     dsimp[-Aa]
     repeat ((first | refine oat ag2.attrs rfl ?_);try dsimp[-Aa])
     try simp[-Aa,ag2.attrs,ag2.node (by rw[Ab];exact ar285 hg) hp]
     induction p using Option.casesOn with
     | none=>
      have wk2:=wk.leaf hks (fun _=>z) (fun l r e=>by rw[hp] at e;cases e)
      have:=wk2.len w hrt
      simp only[List.length_append,List.length_singleton] at this
      refine wsc ?_
      dsimp
      simp[Bj]
      exact⟨_,by simp;exact ar286 hm,(hI _ _).mpr ⟨_,_,_,ks++[k],st',G2,rfl,t2,wk2,rfl,by simp;exact ar287 hm2 hm⟩⟩
     | some x=>
      obtain⟨l',r'⟩:=x
      have wk2:=wk.gate hks (fun _=>z) hp
      have:=wk2.len w hrt
      simp only[List.length_append,List.length_singleton] at this
      refine wsc ?_
      dsimp[-Aa]
      simp[-Aa,Bj]
      refine wsc ?_
      dsimp[-Aa]
      simp[-Aa,Ai,ag2.kid hp,shr1]
      refine⟨okA g22,?_⟩
      have e2:∀m:Nat,(m:Int)/2=((m/2:Nat):Int):=fun m=>by lia
      simp only[e2,apN g22 (by rw[Ab];lia)]
      simp only[Ac,Bk,Al]
      have t3:=t2.putb (.list ((st'++[l'/2]).map fun(i:Nat)=>.int i))
      generalize G2.put sd _=G3 at t3
      refine oa2 (t3.facts hdd hsd0 ab) fun le3 g31 g32=>?_
      have ag3:=h.le le3
      refine wsc ?_
      dsimp[-Aa]
      simp[-Aa,Ai,ag3.kid hp,shr1]
      refine⟨okA g32,?_⟩
      simp only[e2,apN g32 (by simp;rw[Ab];exact ar288 hm2 hm)]
      simp only[Ac,Bk,Al]
      have t4:=t3.putb (.list ((st'++[l'/2]++[r'/2]).map fun(i:Nat)=>.int i))
      generalize G3.put sd _=G4 at t4
      simp only[List.append_assoc,List.singleton_append] at t4
      show ∃k,k<m∧I k _
      exact⟨_,by simp;lia,(hI _ _).mpr ⟨_,_,_,ks++[k],st'++[l'/2,r'/2],G4,rfl,t4,wk2,rfl,by simp;lia⟩⟩
end
end
section
noncomputable def One(H:CH)(a:Addr)(x:CO)(G:CH):Prop:=Le (H.put a x) G
theorem One.facts{H G:CH}{a:Addr}{x:CO}(ha:H a=none)(t:One H a x G):Le H G∧G a=some x:=
 ⟨(Le.new ha _).trans t,t _ _ (CH.put_self ..)⟩
theorem One.put{H G:CH}{a:Addr}{x:CO}(t:One H a x G)(z:CO):One H a z (G.put a z):=by
 have:=Le.put t a z
 rw[Bg] at this
 exact this
theorem Two.one{H G:CH}{a b:Addr}{x y:CO}(hb:H b=none)(ab:a≠b)(t:Two H a b x y G):One H a x G:=by
 have e0:(H.put a x) b=none:=by rw[CH.put_ne _ _ (Ne.symm ab)];exact hb
 exact(Le.new e0 _).trans t
theorem rdN{H:CH}{a:Addr}{l:List Nat}(e:H a=some (.list (l.map fun(i:Nat)=>.int i))){k x:Nat}(hk:l[k]?=some x)(h2:l.length≤lim):subV H (.ref a) (.int k)=some (.int x):=by
 have h1:=(List.getElem?_eq_some_iff.mp hk).1
 rw[rdRef e (by exact ar2) (by simpa using h1) (by simpa using h2)]
 simp[hk]
section
variable {Fm H G:CH} {A:AA} {g:Gr} {inps:List Nat} {B:Base} {n:Nat} {Q:CV→CH→Prop}
theorem ft_coneWords(C:Cx B)(hn:4≤n)(h:AgR H A g inps)(w:Wfg g)(hg:g.length<60){na ia:Addr}{nl inl roots:List Nat}(hna:H na=some (.list (nl.map fun(i:Nat)=>.int i)))(hia:H ia=some (.list (inl.map fun(i:Nat)=>.int i)))
  (pw:nl.Pairwise (· < ·)) (mem:∀i,i∈nl↔Rch g roots i∧i≠0) (hr:∀x∈roots,x<g.length) (hinl:inl=nl.filter (B5 g)) (hk:inl.length≤6)
  (q:∀d G es,H d=none→One H d (.dicti es) G→(∀j,Rch g roots j→∃x:Nat,Ap es (j:Int)=some (.int (x:Nat))∧WB g inl x j)→Q (.ref d) G):FT B fA n .coneWords [.ref A.a,.ref na,.ref ia] H Q:=by
 refine C.call (by exact ar312 hn) rfl ?_
 refine wsc ?_
 dsimp[-Aa]
 rw[lenL hia (by simp;rw[Ab];exact ar313 hk)]
 dsimp[-Aa]
 simp[-Aa]
 refine wsc ?_
 dsimp[-Aa]
 refine ft_fullTable C (by exact ar314 hn) hk ?_
 refine wsc ?_
 dsimp[-Aa]
 intro wd hwd
 dsimp only at hwd
 have ndn:=pw_nd pw
 have ndi:inl.Nodup:=hinl▸ndn.filter _
 have inm:∀i∈inl,(i∈nl∧g[i]?=some none):=fun i hi=>by
  rw[hinl] at hi
  refine oa (List.mem_filter.mp hi) fun h1 h2=>?_
  refine⟨h1,?_⟩
  have hl:=((mem i).mp h1).1.len w hr
  rw[List.getElem?_eq_getElem hl]
  unfold B5 at h2
  rw[List.getElem?_eq_getElem hl] at h2
  induction e:g[i] using Option.casesOn with
  | none=>rfl
  | some x=>rw[e] at h2;simp at h2
 have nlen:nl.length≤g.length:=by
  have sub:∀x∈nl,x∈List.range g.length:=fun x hx=>List.mem_range.mpr (((mem x).mp hx).1.len w hr)
  have:=List.Nodup.length_le_of_subset ndn sub
  simpa using this
 have t0:One H wd (.dicti [(0,.int 0)]) (H.put wd (.dicti [(0,.int 0)])):=Le.refl _
 simp only[Aj]
 generalize H.put wd (.dicti [(0,.int 0)])=G0 at t0
 dsimp[-Aa]
 refine wsc ?_
 dsimp[-Aa]
 rw[range1 (by rw[Ab];lia)]
 simp only[Ac]
 refine forK_up0 (by rw[Ab];lia) fun ra hra=>?_
 have f0:=t0.facts hwd
 have hra0:H ra=none:=f0.1.none hra
 have ab:wd≠ra:=fun z=>by rw[← z,f0.2] at hra;cases hra
 have t1:Two H wd ra (.dicti [(0,.int 0)]) (.range 0 (inl.length:Int) 1) (G0.put ra (.range 0 (inl.length:Int) 1)):=Le.put t0 _ _
 obtain⟨J,hJ⟩:∃J:Nat→CS→Prop,∀i σ,J i σ↔(∃(x6:CV) (es:List (Int × CV)) (G:CH),σ=⟨[.ref A.a,.ref na,.ref ia,.int (inl.length:Nat),.int (full inl.length:Nat),.ref wd,x6,.undef,.undef,.undef],G⟩∧Two H wd ra (.dicti es) (.range 0 (inl.length:Int) 1) G∧Wds g inl ([0]++inl.take i) es):=⟨_,fun _ _=>Iff.rfl⟩
 refine⟨J,(hJ _ _).mpr ⟨_,_,_,rfl,t1,Wds.zero w⟩,?_,?_⟩
 ·intro i σ₂ hi hj
  refine oe3a2 ((hJ _ _).mp hj) fun x6 es G z3_ t wds=>?_;subst z3_
  refine oa2 (t.facts hwd hra0 ab) fun le g1 g2=>?_
  refine⟨g2,?_⟩
  obtain⟨j,hj⟩:∃j,inl[i]?=some j:=⟨inl[i],List.getElem?_eq_getElem hi⟩
  have jm:=List.mem_of_getElem? hj
  have jz:=((mem j).mp (inm j jm).1).2
  refine wsc ?_
  dsimp[-Aa]
  refine ft_varTable C (by exact ar315 hn) hk hi ?_
  rw[rdN (le _ _ hia) hj (by rw[Ab];lia)]
  have fr:j∉[0]++inl.take i:=fun hh=>by
   rcases List.mem_append.mp hh with hh | hh
   ·simp at hh;exact jz hh
   ·exact pw_ntake ndi hj hh
  have esl:=wds.len
  rw[List.length_append,List.length_take] at esl
  simp only[Ac]
  rw[setD g1 (wds.fresh fr) (by rw[esl];simp;rw[Ab];exact ar316 hk)]
  dsimp
  refine(hJ _ _).mpr ⟨_,es++[((j:Int),.int (vt i inl.length:Nat))],_,rfl,t.puta ab _,?_⟩
  rw[List.take_add_one,hj,Option.toList_some,← List.append_assoc]
  exact wds.add fr (WB.inp ndi (by exact ar317 hk) hj (inm j jm).2 jz)
 ·intro σ₂ hj
  refine oe3a2 ((hJ _ _).mp hj) fun x6 es G z3_ t wds=>?_;subst z3_
  refine oa2 (t.facts hwd hra0 ab) fun le g1 g2=>?_
  refine⟨g2,?_⟩
  rw[List.take_length] at wds
  have t2:=t.one hra0 ab
  simp only[Al]
  refine wsc ?_
  dsimp[-Aa]
  obtain⟨K,hK⟩:∃K:Nat→CS→Prop,∀i σ,K i σ↔(∃(x7 x8 x9:CV) (es:List (Int × CV)) (G:CH),σ=⟨[.ref A.a,.ref na,.ref ia,.int (inl.length:Nat),.int (full inl.length:Nat),.ref wd,x6,x7,x8,x9],G⟩∧One H wd (.dicti es) G∧Wds g inl (([0]++inl)++(nl.take i).filter fun j=>!B5 g j) es):=⟨_,fun _ _=>Iff.rfl⟩
  refine Bp (le _ _ hna) (by simp;rw[Ab];exact ar318 hg nlen) K ((hK _ _).mpr ⟨_,_,_,es,G,rfl,t2,by simpa using wds⟩) ?_ ?_
  ·intro i y σ₂ hy hi
   refine oe5 ((hK _ _).mp hi) fun x7 x8 x9 es G w0_=>?_;refine oa2 w0_ fun z5_ t wds=>?_;clear w0_;subst z5_
   refine oa (t.facts hwd) fun le g1=>?_
   refine⟨le _ _ hna,?_⟩
   rw[List.getElem?_map,Option.map_eq_some_iff] at hy
   refine oea hy fun j hj z2_=>?_;subst z2_
   have jm:=List.mem_of_getElem? hj
   have jr:=(mem j).mp jm
   have jl:=jr.1.len w hr
   obtain⟨p,hp⟩:∃p,g[j]?=some p:=⟨g[j],List.getElem?_eq_getElem jl⟩
   have ag:=h.le le
   refine wsc ?_
   dsimp[-Aa]
   repeat ((first | refine oat ag.attrs rfl ?_);try dsimp[-Aa])
   try simp[-Aa,ag.attrs,ag.node (by rw[Ab];exact ar285 hg) hp]
   refine wsc ?_
   induction p using Option.casesOn with
   | none=>
    dsimp
    simp[Bj]
    refine(hK _ _).mpr ⟨_,_,_,es,G,rfl,t,?_⟩
    have:B5 g j=true:=by unfold B5;rw[hp]
    rw[List.take_add_one,hj,Option.toList_some,List.filter_append]
    simpa[this] using wds
   | some x=>
    obtain⟨l,r⟩:=x
    refine oa (w.lt j l r hp) fun l1 r1=>?_
    have isf:B5 g j=false:=by unfold B5;rw[hp]
    have cov:∀c,Rch g roots c→c<j→c∈([0]++inl)++(nl.take i).filter fun j=>!B5 g j:=fun c hc l=>by
     by_cases z:c=0
     ·subst z;simp
     ·have cm:=(mem c).mpr ⟨hc,z⟩
      have ct:=pw_take pw hj cm l
      by_cases b:B5 g c=true
      ·refine List.mem_append_left _ (List.mem_append_right _ ?_)
       rw[hinl]
       exact List.mem_filter.mpr ⟨cm,b⟩
      ·refine List.mem_append_right _ (List.mem_filter.mpr ⟨ct,?_⟩)
       simpa using b
    have fr:j∉([0]++inl)++(nl.take i).filter fun j=>!B5 g j:=fun hh=>by
     rcases List.mem_append.mp hh with hh | hh
     ·rcases List.mem_append.mp hh with hh | hh
      ·simp at hh;exact jr.2 hh
      ·have:=(inm j hh).2;rw[hp] at this;cases this
     ·exact pw_ntake ndn hj (List.mem_filter.mp hh).1
    refine oea (wds.val _ (cov _ (.left jr.1 hp) l1)) fun xl vl bl=>?_
    refine oea (wds.val _ (cov _ (.right jr.1 hp) r1)) fun xr vr br=>?_
    dsimp[-Aa]
    simp[-Aa,Bj]
    refine wsc ?_
    dsimp[-Aa]
    simp[-Aa,ag.kid hp]
    refine ft_literalWord C (by exact ar314 hn) g1 vl ?_
    refine wsc ?_
    dsimp[-Aa]
    simp[-Aa,ag.kid hp]
    refine ft_literalWord C (by lia) g1 vr ?_
    simp only[Ao,Ai,Option.map_some,Ac,Ax,bandN]
    have esl:=wds.len
    have dl:(([0]++inl)++(nl.take i).filter fun j=>!B5 g j).length≤100:=by
     have:=List.length_filter_le (fun j=>!B5 g j) (nl.take i)
     rw[List.length_take] at this
     simp only[List.length_append,List.length_singleton]
     exact ar319 hg hk nlen this
    rw[setD g1 (wds.fresh fr) (by rw[esl];rw[Ab];exact ar320 dl)]
    simp only[Ac,Al,WSs_nil,Lp_next]
    refine(hK _ _).mpr ⟨_,_,_,_,_,rfl,t.put _,?_⟩
    rw[List.take_add_one,hj,Option.toList_some,List.filter_append]
    have e:([j].filter fun j=>!B5 g j)=[j]:=by simp[isf]
    rw[e,← List.append_assoc]
    exact wds.add fr (WB.and w hp bl.lit br.lit)
  ·intro σ₂ hi
   refine oe5 ((hK _ _).mp hi) fun x7 x8 x9 es G w0_=>?_;refine oa2 w0_ fun z5_ t wds=>?_;clear w0_;subst z5_
   refine oa (t.facts hwd) fun le g1=>?_
   refine⟨le _ _ hna,?_⟩
   have et:nl.take (nl.map fun(i:Nat)=>CV.int i).length=nl:=by simp
   rw[et] at wds
   dsimp
   refine q wd G es hwd t fun j hj=>wds.val j ?_
   by_cases z:j=0
   ·subst z;simp
   ·have cm:=(mem j).mpr ⟨hj,z⟩
    by_cases b:B5 g j=true
    ·refine List.mem_append_left _ (List.mem_append_right _ ?_)
     rw[hinl]
     exact List.mem_filter.mpr ⟨cm,b⟩
    ·refine List.mem_append_right _ (List.mem_filter.mpr ⟨cm,?_⟩)
     simpa using b
end
end
section
noncomputable def ent(M:Nat→Bool)(xs:List Nat):List (Int × CV):=xs.map fun(i:Nat)=>((i:Int),CV.int (if M i then 1 else 0))
theorem ent_fresh{M:Nat→Bool}{xs:List Nat}{m:Nat}(h:m∉xs):∀p∈ent M xs,p.1≠(m:Int):=fun p hp e=>by
 refine oea (List.mem_map.mp hp) fun a ha z2_=>?_;subst z2_
 have e:(a:Int)=m:=e
 have:a=m:=by lia
 exact h (this▸ha)
theorem Cin.of{g:Gr}{roots nl:List Nat}(w:Wfg g)(hr:∀x∈roots,x<g.length)(pw:nl.Pairwise (· < ·))(mem:∀i,i∈nl↔Rch g roots i∧i≠0):Cin g roots (nl.filter (B5 g)):=by
 refine⟨pw.filter _,fun i=>?_⟩
 rw[List.mem_filter,mem]
 constructor
 ·rintro⟨h1,h2⟩
  refine⟨h1,?_⟩
  have hl:=h1.1.len w hr
  unfold B5 at h2
  rw[List.getElem?_eq_getElem hl] at h2 ⊢
  induction e:g[i] using Option.casesOn with
  | none=>rfl
  | some x=>rw[e] at h2;simp at h2
 ·rintro⟨h1,h2⟩
  refine⟨h1,?_⟩
  unfold B5
  rw[h2]
section
variable {Fm H G:CH} {A:AA} {g:Gr} {inps:List Nat} {B:Base} {n:Nat} {Q:CV→CH→Prop}
theorem ft_tableDifference(C:Cx B)(hn:5≤n)(h:AgR H A g inps)(w:Wfg g)(hg:g.length<60){na ia:Addr}{nl inl:List Nat}{l r:Nat}(hl2:l/2<g.length)(hr2:r/2<g.length)(hna:H na=some (.list (nl.map fun(i:Nat)=>.int i)))(hia:H ia=some (.list (inl.map fun(i:Nat)=>.int i)))
  (pw:nl.Pairwise (· < ·)) (mem:∀i,i∈nl↔Rch g [l/2,r/2] i∧i≠0) (hinl:inl=nl.filter (B5 g)) (hk:inl.length≤6)
  (qE:(∀M,lv g M l=lv g M r)→∀G,Le H G→Q .none G)
  (qS:∀M,lv g M l≠lv g M r→∀d G,Le H G→G d=some (.dicti (ent M inl))→Q (.ref d) G):FT B fA n .tableDifference [.ref A.a,.int (l:Nat),.int (r:Nat),.ref na,.ref ia] H Q:=by
 refine C.call (by exact ar61 hn) rfl ?_
 refine wsc ?_
 dsimp[-Aa]
 have hrt:∀x∈[l/2,r/2],x<g.length:=fun x hx=>by simp at hx;rcases hx with rfl | rfl <;> assumption
 have ci:Cin g [l/2,r/2] inl:=hinl▸Cin.of w hrt pw mem
 refine ft_coneWords C (by exact ar68 hn) h w hg hna hia pw mem hrt hinl hk fun wd G es hwd t val=>?_
 refine oa (t.facts hwd) fun le g1=>?_
 refine wsc ?_
 dsimp[-Aa]
 rw[lenL (le _ _ hia) (by simp;rw[Ab];exact ar313 hk)]
 dsimp[-Aa]
 simp[-Aa]
 refine ft_fullTable C (by exact ar67 hn) hk ?_
 refine oea (val _ (.root (by simp:l/2∈[l/2,r/2]))) fun xl vl bl=>?_
 refine oea (val _ (.root (by simp:r/2∈[l/2,r/2]))) fun xr vr br=>?_
 refine wsc ?_
 dsimp[-Aa]
 refine ft_literalWord C (by lia) g1 vl ?_
 refine ft_literalWord C (by lia) g1 vr ?_
 have cl:=bl.lit
 have cr:=br.lit
 generalize (if l%2=1 then xl ^^^ full inl.length else xl)=yl at cl
 generalize (if r%2=1 then xr ^^^ full inl.length else xr)=yr at cr
 simp only[Ao,Ai,Option.map_some,Ac,Ax,bxorN]
 obtain⟨D,hD⟩:∃D,D=yl ^^^ yr:=⟨_,rfl⟩
 have dlt:D<2^2^inl.length:=hD▸Nat.xor_lt_two_pow cl.1 cr.1
 have dbit:∀ρ,ρ<2^inl.length→D.testBit ρ=(lv g (Mr inl ρ) l != lv g (Mr inl ρ) r):=fun ρ hρ=>by rw[hD,Nat.testBit_xor,cl.2 ρ hρ,cr.2 ρ hρ]
 rw[← hD]
 refine wsc ?_
 dsimp[-Aa]
 simp[-Aa]
 by_cases z:D=0
 ·refine ifp z (wsc ?_)
  dsimp
  refine qE (rows_all w ci fun ρ hρ=>?_) G le
  have:=dbit ρ hρ
  rw[z] at this
  simpa using this.symm
 ·rw[if_neg z]
  refine wsc ?_
  dsimp[-Aa]
  refine oe (Nat.exists_testBit_of_ne_zero z) fun b hb=>?_
  refine ft_lowBit C (by lia) hb fun p hp=>?_
  have plt:p<2^inl.length:=by
   apply Classical.byContradiction
   intro hh
   have:D<2^p:=Nat.lt_of_lt_of_le dlt (Nat.pow_le_pow_right (by exact ar292) (by exact ar60 hh))
   rw[Nat.testBit_lt_two_pow this] at hp
   cases hp
  have hne:lv g (Mr inl p) l≠lv g (Mr inl p) r:=by
   have:=dbit p plt
   rw[hp] at this
   simpa using this.symm
  refine wsc ?_
  dsimp[-Aa]
  intro dd hdd
  have hdd0:H dd=none:=le.none hdd
  have t0:One H dd (.dicti []) (G.put dd (.dicti [])):=Le.put le dd _
  dsimp[-Aa]
  refine wsc ?_
  dsimp[-Aa]
  generalize G.put dd (.dicti [])=G1 at t0
  refine oa (t0.facts hdd0) fun le1 g11=>?_
  rw[lenL (le1 _ _ hia) (by simp;rw[Ab];lia)]
  simp only[Ac,Ax,List.length_map]
  rw[range1 (by rw[Ab];lia)]
  refine forK_up0 (by rw[Ab];lia) fun ra hra=>?_
  have hra0:H ra=none:=le1.none hra
  have ab:dd≠ra:=fun z=>by rw[← z,g11] at hra;cases hra
  have t1:Two H dd ra (.dicti (ent (Mr inl p) (inl.take 0))) (.range 0 (inl.length:Int) 1) (G1.put ra (.range 0 (inl.length:Int) 1)):=Le.put t0 _ _
  obtain⟨J,hJ⟩:∃J:Nat→CS→Prop,∀i σ,J i σ↔(∃(x10:CV) (G:CH),σ=⟨[.ref A.a,.int (l:Nat),.int (r:Nat),.ref na,.ref ia,.ref wd,.int (full inl.length:Nat),.int D,.int p,.ref dd,x10],G⟩∧Two H dd ra (.dicti (ent (Mr inl p) (inl.take i))) (.range 0 (inl.length:Int) 1) G):=⟨_,fun _ _=>Iff.rfl⟩
  refine⟨J,(hJ _ _).mpr ⟨_,_,rfl,t1⟩,?_,?_⟩
  ·intro i σ₂ hi hj
   refine Be ((hJ _ _).mp hj) fun x10 G z2_ t=>?_;subst z2_
   refine oa2 (t.facts hdd0 hra0 ab) fun le g1 g2=>?_
   refine⟨g2,?_⟩
   obtain⟨j,hj⟩:∃j,inl[i]?=some j:=⟨inl[i],List.getElem?_eq_getElem hi⟩
   have er:Aw .RShift (p:Int) (i:Int)=some ((p/2^i:Nat):Int):=by
    unfold Aw
    simp only
    rw[if_pos (by exact ar2),Int.toNat_natCast,shrN]
   have eb:Aw .BitAnd ((p/2^i:Nat):Int) 1=some (if Mr inl p j then 1 else 0):=by
    unfold Aw
    simp only[band1]
    rw[Mr_at (pw_nd ci.pw) hj,Nat.testBit_eq_decide_div_mod_eq]
    have:=Nat.mod_two_eq_zero_or_one (p/2^i)
    rcases this with e | e <;> rw[e] <;> rfl
   refine wsc ?_
   dsimp[-Aa]
   rw[er]
   simp only[Option.map_some,Ac,Ax,Ao]
   rw[eb]
   simp only[Option.map_some,Ac,Ax]
   rw[rdN (le _ _ hia) hj (by rw[Ab];lia)]
   simp only[Ac]
   rw[setD g1 (ent_fresh (pw_ntake (pw_nd ci.pw) hj)) (by unfold ent;simp;rw[Ab];exact ar321 hk)]
   dsimp
   refine(hJ _ _).mpr ⟨_,_,rfl,?_⟩
   have e:ent (Mr inl p) (inl.take (i+1))=ent (Mr inl p) (inl.take i)++[((j:Int),.int (if Mr inl p j then 1 else 0))]:=by
    unfold ent
    rw[List.take_add_one,hj]
    dsimp
    simp
   rw[e]
   exact t.puta ab _
  ·intro σ₂ hj
   refine Be ((hJ _ _).mp hj) fun x10 G z2_ t=>?_;subst z2_
   refine oa2 (t.facts hdd0 hra0 ab) fun le g1 g2=>?_
   refine⟨g2,?_⟩
   rw[List.take_length] at g1
   dsimp
   exact qS _ hne dd G le g1
theorem ft_parting(C:Cx B)(hn:12≤n)(h:AgR H A g inps)(w:Wfg g)(hg:g.length<60){l r:Nat}(hl2:l/2<g.length)(hr2:r/2<g.length){inl:List Nat}(ci:Cin g [l/2,r/2] inl)
  (hc:inl.length≤6∨(7≤inl.length∧GOk g [l/2,r/2]∧(l=r∨(l/2≠r/2∧∃inp,∀us:List Bool,(∀i,us.getD i false=true↔Rch g [l/2,r/2] i)→KP (pF g us l r) inp g.length))))
  (qE:(∀M,lv g M l=lv g M r)→∀d G,Le H G→G d=some (.dicti [])→Q (.ref d) G)
  (qS:∀M,lv g M l≠lv g M r→∀d G,Le H G→G d=some (.dicti (ent M inl))→Q (.ref d) G):FT B fA n .parting [.ref A.a,.int (l:Nat),.int (r:Nat),.int 1000] H Q:=by
 refine C.call (by exact ar322 hn) rfl ?_
 refine wsc ?_
 dsimp[-Aa]
 have hrt:∀x∈[l/2,r/2],x<g.length:=fun x hx=>by simp at hx;rcases hx with rfl | rfl <;> assumption
 refine⟨by rw[Ab];lia,fun ta hta=>?_⟩
 dsimp only at hta
 have l1:=Le.new hta (.tup [.int (l:Nat),.int (r:Nat)])
 have gta:(H.put ta (.tup [.int (l:Nat),.int (r:Nat)])) ta=some (.tup [.int (l:Nat),.int (r:Nat)]):=CH.put_self ..
 simp only[Aj]
 generalize H.put ta (.tup [.int (l:Nat),.int (r:Nat)])=H1 at l1 gta
 refine ft_coneEquiv C (by exact ar323 hn) (h.le l1) w hg gta hl2 hr2 fun na G nl hna pw mem hG=>?_
 have l2:Le H G:=l1.trans ((Le.new hna _).trans hG)
 have gna:=hG na _ (CH.put_self ..)
 have nlr:∀i∈nl,i<g.length:=fun i hi=>((mem i).mp hi).1.len w hrt
 have nlen:nl.length≤g.length:=by
  have sub:∀x∈nl,x∈List.range g.length:=fun x hx=>List.mem_range.mpr (nlr x hx)
  have:=List.Nodup.length_le_of_subset (pw_nd pw) sub
  simpa using this
 refine wsc ?_
 dsimp[-Aa]
 refine ft_coneInputs C (by lia) (h.le l2) (by exact ar325 hg) gna nlr (by exact ar326 hg nlen) fun ia hia=>?_
 have hinl:inl=nl.filter (B5 g):=ci.uniq (Cin.of w hrt pw mem)
 simp only[← hinl]
 have l3:Le H (G.put ia (.list (inl.map fun(i:Nat)=>.int i))):=l2.trans (Le.new hia _)
 have gia:(G.put ia (.list (inl.map fun(i:Nat)=>.int i))) ia=some (.list (inl.map fun(i:Nat)=>.int i)):=CH.put_self ..
 have gna2:(G.put ia (.list (inl.map fun(i:Nat)=>.int i))) na=some (.list (nl.map fun(i:Nat)=>.int i)):=Le.new hia _ _ _ gna
 generalize G.put ia (.list (inl.map fun(i:Nat)=>.int i))=G1 at l3 gia gna2
 have ag:=h.le l3
 have inlen:inl.length≤60:=by have:=List.length_filter_le (B5 g) nl;rw[hinl];exact ar327 hg this nlen
 refine wsc ?_
 dsimp[-Aa]
 simp only[lenL gia (by simp;rw[Ab];exact ar328 inlen)]
 dsimp[-Aa]
 simp[-Aa]
 by_cases z:inl.length≤6
 ·refine ifp (by exact ar329 z) (wsc ?_)
  dsimp[-Aa]
  refine ft_tableDifference C (by exact ar330 hn) ag w hg hl2 hr2 gna2 gia pw mem hinl z (fun he G le=>?_) (fun M hM d G le gd=>?_)
  ·refine wsc ?_
   dsimp
   intro d hd
   exact qE he d _ (l3.trans (le.trans (Le.new hd _))) (CH.put_self ..)
  ·refine wsc ?_
   dsimp
   exact qS M hM d G (l3.trans le) gd
 ·rw[if_neg (by exact ar331 z)]
  refine wsc ?_
  dsimp[-Aa]
  refine oa2 (hc.resolve_left z) fun _ ok hc=>?_
  refine ft_solverParting C (by exact ar332 hn) ag w (by lia) hl2 hr2 ok gia (pw_nd ci.pw) (fun i hi=>((ci.mem i).mp hi).1.1.len w hrt) hc (fun he d G le gd=>qE he d G (l3.trans le) gd) (fun M hM d G le gd=>qS M hM d G (l3.trans le) gd)
end
end
section
theorem allN(l:List Nat):Av (l.map fun(i:Nat)=>CV.int i)=some (l.map fun(i:Nat)=>(i:Int)):=by
 induction l with
 | nil=>rfl
 | cons x l ih=>simp[allInts_e,ih]
section
variable {Fm H G:CH} {A:AA} {g:Gr} {inps:List Nat} {B:Base} {n:Nat} {Q:CV→CH→Prop}
theorem ft_lPinch(C:Cx B)(hn:0<n){sd:Addr}{ss:List Nat}{many:Nat}(hm:0<many)(hl:ss.length≤60)(h:H sd=some (.list (ss.map fun(i:Nat)=>.int i)))
  (q:∀(p:Nat) (ss':List Nat) G,p<many→ss'.length≤60→Le (H.put sd (.list (ss'.map fun(i:Nat)=>.int i))) G→Q (.int p) G):FT B fA n .lPinch [.ref sd,.int many] H Q:=by
 refine C.call hn rfl ?_
 refine wsc ?_
 dsimp[-Aa]
 simp[-Aa]
 intro e he
 dsimp only at he
 have ne:sd≠e:=fun z=>by rw[← z,h] at he;cases he
 have h1:(H.put e (.list [])) sd=some (.list (ss.map fun(i:Nat)=>.int i)):=by rw[CH.put_ne _ _ ne];exact h
 have he1:(H.put e (.list [])) e=some (.list []):=CH.put_self ..
 have l1:∀o,Le (H.put sd o) ((H.put e (.list [])).put sd o):=fun o=>Le.put (Le.new he _) _ _
 have l1':Le (H.put sd (.list (ss.map fun(i:Nat)=>.int i))) (H.put e (.list [])):=fun x o ex=>by
  by_cases z:x=sd
  ·subst z;rw[CH.put_self] at ex;rw[h1];exact ex
  ·rw[CH.put_ne _ _ z] at ex;exact Le.new he _ x o ex
 generalize H.put e (.list [])=H1 at h1 he1 l1 l1'
 have cm:Bm .Eq H1 (.ref sd) (.ref e)=some (decide (ss=[])):=by
  simp only[Bu,Ba,CH.lsA,eqB_e,Bs,Ah,Bx,Ae,Af,Option.bind_some,h1,he1]
  rw[allN]
  dsimp
  simp[allInts_e]
 dsimp[-Aa]
 simp[-Aa,cm]
 by_cases z:ss=[]
 ·subst z
  dsimp
  exact q 0 [] H1 hm (by simp) l1'
 ·try dsimp[-Aa]
  simp[-Aa,z]
  rcases List.eq_nil_or_concat ss with r | ⟨s',k,rfl⟩
  ·exact absurd r z
  rw[List.concat_eq_append] at h1 hl
  refine wsc ?_
  dsimp
  refine⟨okP h1,?_⟩
  simp at hl
  rw[popN h1 (by rw[Ab];exact ar334 hl)]
  simp only[Ac,Bk]
  simp only[Ao,Ai]
  rw[if_pos (by exact ar335 hm)]
  simp only[Option.map_some,Ac,Ax]
  have e:(k:Int).fmod (many:Int)=((k%many:Nat):Int):=by
   rw[Int.fmod_eq_emod_of_nonneg _ (by exact ar2)]
   rfl
  rw[e]
  exact q (k%many) s' _ (Nat.mod_lt _ hm) (by exact ar336 hl) (l1 _)
theorem ft_lSalt(C:Cx B)(hn:0<n){a:Addr}{ns:List Int}{ob:Obj}(hl:ns.length≤63)(h:H a=some (.frz (ns.map .int) ob))
  (q:∀sd (ss:List Nat) G,H sd=none→ss.length≤60→One H sd (.list (ss.map fun(i:Nat)=>.int i)) G→Q (.ref sd) G):FT B fA n .lSalt [.ref a] H Q:=by
 refine C.call hn rfl ?_
 refine wsc ?_
 dsimp[-Aa]
 simp[-Aa]
 intro sd hsd
 dsimp only at hsd
 have t0:One H sd (.list (([]:List Nat).map fun(i:Nat)=>.int i)) (H.put sd (.list [])):=Le.refl _
 simp only[Aj]
 generalize H.put sd (.list [])=G0 at t0
 refine oa (t0.facts hsd) fun le0 g0=>?_
 dsimp[-Aa]
 refine wsc ?_
 dsimp[-Aa]
 have up:uptoV G0 (.ref a) (.int 30)=some (.new (.list ((ns.take 30).map .int))):=by
  simp only[uptoV,lf_e,Ae,Af,Option.bind_some,le0 _ _ h]
  rw[if_pos ⟨by exact ar337,by decide,by simp;rw[Ab];exact ar338 hl⟩]
  dsimp
  simp
 rw[up]
 simp only[Ac,go_new,Aj]
 intro ld hld
 have hld0:H ld=none:=le0.none hld
 have ab:sd≠ld:=fun z=>by rw[← z,g0] at hld;cases hld
 have t1:Two H sd ld (.list (([]:List Nat).map fun(i:Nat)=>.int i)) (.list ((ns.take 30).map .int)) (G0.put ld (.list ((ns.take 30).map .int))):=Le.put t0 _ _
 generalize G0.put ld (.list ((ns.take 30).map .int))=G1 at t1
 obtain⟨J,hJ⟩:∃J:Nat→CS→Prop,∀i σ,J i σ↔(∃(x2 x3:CV) (ss:List Nat) (G:CH),σ=⟨[.ref a,.ref sd,x2,x3],G⟩∧Two H sd ld (.list (ss.map fun(i:Nat)=>.int i)) (.list ((ns.take 30).map .int)) G∧ss.length≤50):=⟨_,fun _ _=>Iff.rfl⟩
 refine Bp (t1.facts hsd hld0 ab).2.2 (by simp;rw[Ab];exact ar339) J ((hJ _ _).mpr ⟨_,_,[],_,rfl,t1,by simp⟩) ?_ ?_
 ·intro i y σ₂ hy hi
  refine oe4 ((hJ _ _).mp hi) fun x2 x3 ss G w0_=>?_;refine oa2 w0_ fun z4_ t sl=>?_;clear w0_;subst z4_
  refine⟨(t.facts hsd hld0 ab).2.2,?_⟩
  rw[List.getElem?_map,Option.map_eq_some_iff] at hy
  refine oea hy fun c hc z2_=>?_;subst z2_
  obtain⟨I,hI⟩:∃I:Nat→CS→Prop,∀m σ,I m σ↔(∃(z:Int) (ss:List Nat) (G:CH),σ=⟨[.ref a,.ref sd,.int c,.int z],G⟩∧Two H sd ld (.list (ss.map fun(i:Nat)=>.int i)) (.list ((ns.take 30).map .int)) G∧ss.length≤50∧m=50-ss.length):=⟨_,fun _ _=>Iff.rfl⟩
  have key:∀z:Int,WSs B fA (n-1) (match ir_lSalt with | [_,.for _ _ [_,w],_,_]=>[w] | _=>[]) ⟨[.ref a,.ref sd,.int c,.int z],G⟩ (Lp (J (i+1)) (Sq B fA (n-1) (ir_lSalt.drop 2) (RetQ Q))):=by
   intro z
   rw[ir_lSalt]
   simp only
   refine wsc ?_
   refine ws_whl I (50-ss.length) ((hI _ _).mpr ⟨z,ss,G,rfl,t,sl,rfl⟩) ?_
   intro m σ₁ hi
   refine oe3a3 ((hI _ _).mp hi) fun z ss G z3_ t sl hm=>?_;subst z3_
   refine oa2 (t.facts hsd hld0 ab) fun le g1 g2=>?_
   dsimp[-Aa]
   simp[-Aa]
   rw[lenL g1 (by simp;rw[Ab];exact ar340 sl)]
   simp only[Ac,Ax,List.length_map,cmp_Lt,B4]
   by_cases l50:ss.length<50
   ·refine ifp (by exact ar341 l50) (wsc ?_)
    dsimp[-Aa]
    refine⟨okA g1,?_⟩
    simp only[Ai]
    rw[if_pos (by exact ar342)]
    simp only[Option.map_some,Ac,Ax]
    have e:z.fmod 157=((z.fmod 157).toNat:Int):=by
     have:=Int.fmod_nonneg_of_pos z (b:=157) (by lia)
     lia
    rw[e,apN g1 (by rw[Ab];exact ar344 l50)]
    simp only[Ac,Bk,Al]
    have t2:=t.puta ab (.list ((ss++[(z.fmod 157).toNat]).map fun(i:Nat)=>.int i))
    generalize G.put sd _=G2 at t2
    refine wsc ?_
    dsimp[-Aa]
    simp only[Ai]
    rw[if_pos (by lia)]
    simp only[Option.map_some,Ac,Ax,Al]
    refine wsc ?_
    dsimp
    simp
    by_cases zz:z.fdiv 157=0
    ·rw[if_pos zz]
     exact(hJ _ _).mpr ⟨_,_,_,G2,rfl,t2,by simp;exact ar345 l50⟩
    ·rw[if_neg zz]
     refine⟨50-(ss.length+1),by exact ar346 l50 hm,(hI _ _).mpr ⟨_,_,G2,rfl,t2,by simp;lia,by simp⟩⟩
   ·rw[if_neg (by exact ar347 l50)]
    exact(hJ _ _).mpr ⟨_,_,_,G,rfl,t,sl⟩
  refine wsc ?_
  dsimp[-Aa]
  simp[-Aa]
  by_cases c0:0≤c
  ·rw[if_pos c0]
   have:=key c
   rw[ir_lSalt] at this
   exact this
  ·rw[if_neg c0]
   simp only[Ai]
   rw[if_pos (.inl (by decide))]
   simp only[Option.map_some,Ac,Ax,Ao,Ai,Al]
   have:=key (3-2*c)
   rw[ir_lSalt] at this
   exact this
 ·intro σ₂ hi
  refine oe4 ((hJ _ _).mp hi) fun x2 x3 ss G w0_=>?_;refine oa2 w0_ fun z4_ t sl=>?_;clear w0_;subst z4_
  refine oa2 (t.facts hsd hld0 ab) fun le g1 g2=>?_
  refine⟨g2,?_⟩
  simp only[Al]
  refine wsc ?_
  dsimp[-Aa]
  have rv:bmV .reverse G (.ref sd) []=some (.upd .none sd (.list (ss.reverse.map fun(i:Nat)=>.int i))):=by
   try dsimp
   simp[bmV_e,CH.lsA,get2_e,Bi,two_two,B8,Ah,Ae,Af,Option.bind_some,g1]
   rw[Ab];lia
  refine⟨by simp[bmOk,bmLook_e,CH.lsA,isD_e,Ah,Ae,Af,Option.bind_some,g1],?_⟩
  rw[rv]
  dsimp
  exact q sd ss.reverse _ hsd (by simp;lia) ((t.puta ab _).one hld0 ab)
end
end
section
noncomputable def Ins(g:Gr)(inps:List Nat):Prop:=inps.Pairwise (· < ·)∧∀i,i∈inps↔i≠0∧g[i]?=some none
noncomputable def b2i(b:Bool):CV:=.int (if b then 1 else 0)
theorem bmod(b:Bool)(l:Nat):((if b then 1 else 0:Int)+(l:Int)).fmod 2=if (b != (l%2==1)) then 1 else 0:=by
 rw[Int.fmod_eq_emod_of_nonneg _ (by exact ar349)]
 rcases Nat.mod_two_eq_zero_or_one l with e | e <;> rw[e] <;> induction b using Bool.casesOn <;> simp <;> (first | exact ar203 e | exact ar350 e | exact ar351 e | lia)
theorem idxN{k:Nat}:∀{l:List Nat},k∈l→(l.map fun(i:Nat)=>(i:Int)).idxOf? (k:Int)=some (l.idxOf k)
 | [],h=>by cases h
 | x::l,h=>by
  simp only[List.map_cons,List.idxOf?_cons,List.idxOf_cons]
  by_cases e:x=k
  ·subst e;simp
  ·have h2:k∈l:=by rcases List.mem_cons.mp h with h | h;exact absurd h.symm e;exact h
   rw[if_neg (by simpa using fun z=>e (by exact ar283 z)),idxN h2]
   have:(x==k)=false:=by simpa using e
   rw[this];rfl
theorem memN{k:Nat}{l:List Nat}:decide ((k:Int)∈l.map fun(i:Nat)=>(i:Int))=decide (k∈l):=by
 apply decide_eq_decide.mpr
 rw[List.mem_map]
 exact⟨fun⟨a,ha,e⟩=>(show a=k by exact ar283 e)▸ha,fun h=>⟨k,h,rfl⟩⟩
theorem rdE{H:CH}{a:Addr}{l:List Bool}(e:H a=some (.list (l.map b2i))){k:Nat}(hk:k<l.length)(h2:l.length≤lim):subV H (.ref a) (.int k)=some (b2i (l.getD k false)):=by
 rw[rdRef e (by exact ar2) (by simpa using hk) (by simpa using h2)]
 simp[hk]
section
variable {Fm H G:CH} {A:AA} {g:Gr} {inps:List Nat} {B:Base} {n:Nat} {Q:CV→CH→Prop}
theorem ft_lValues(C:Cx B)(hn:0<n)(h:AgR H A g inps)(w:Wfg g)(hg:g.length<60)(hin:Ins g inps)(il:inps.length≤10){line:Nat}
  (q:∀d G,Le H G→G d=some (.list ((evl g (Mr inps line) g.length).map b2i))→Q (.ref d) G):FT B fA n .lValues [.ref A.a,.int line] H Q:=by
 refine C.call hn rfl ?_
 refine wsc ?_
 dsimp[-Aa]
 simp[-Aa]
 intro fd hfd
 dsimp only at hfd
 have t0:One H fd (.list ((evl g (Mr inps line) 0).map b2i)) (H.put fd (.list [])):=Le.refl _
 simp only[Aj]
 generalize H.put fd (.list [])=G0 at t0
 refine oa (t0.facts hfd) fun le0 g0=>?_
 dsimp[-Aa]
 refine wsc ?_
 dsimp[-Aa]
 repeat ((first | refine oat (h.le le0).attrs rfl ?_);try dsimp[-Aa])
 rw[lenL (h.le le0).nodes (by simp;rw[Ab];exact ar285 hg)]
 simp only[Ac,Ax,List.length_mapIdx]
 rw[range1 (by rw[Ab];lia)]
 simp only[Ac]
 refine forK_up0 (by rw[Ab];lia) fun ra hra=>?_
 have hra0:H ra=none:=le0.none hra
 have ab:fd≠ra:=fun z=>by rw[← z,g0] at hra;cases hra
 have t1:Two H fd ra (.list ((evl g (Mr inps line) 0).map b2i)) (.range 0 (g.length:Int) 1) (G0.put ra (.range 0 (g.length:Int) 1)):=Le.put t0 _ _
 obtain⟨J,hJ⟩:∃J:Nat→CS→Prop,∀i σ,J i σ↔(∃(x3 x4 x5:CV) (G:CH),σ=⟨[.ref A.a,.int line,.ref fd,x3,x4,x5],G⟩∧Two H fd ra (.list ((evl g (Mr inps line) i).map b2i)) (.range 0 (g.length:Int) 1) G):=⟨_,fun _ _=>Iff.rfl⟩
 refine⟨J,(hJ _ _).mpr ⟨_,_,_,_,rfl,t1⟩,?_,?_⟩
 ·intro i σ₂ hi hj
  refine oe4a ((hJ _ _).mp hj) fun x3 x4 x5 G z4_ t=>?_;subst z4_
  refine oa2 (t.facts hfd hra0 ab) fun le g1 g2=>?_
  refine⟨g2,?_⟩
  have ag:=h.le le
  obtain⟨p,hp⟩:∃p,g[i]?=some p:=⟨g[i],List.getElem?_eq_getElem hi⟩
  have nn:=ag.node (by rw[Ab];lia) hp
  have nxt:∀x3 x4 x5 G',G'=G.put fd (.list ((evl g (Mr inps line) (i+1)).map b2i))→J (i+1) ⟨[.ref A.a,.int line,.ref fd,x3,x4,x5],G'⟩:=fun x3 x4 x5 G' e=>(hJ _ _).mpr ⟨_,_,_,_,rfl,e▸t.puta ab _⟩
  have evs:(evl g (Mr inps line) (i+1)).map b2i=(evl g (Mr inps line) i).map b2i++[b2i (nstep g (Mr inps line) (evl g (Mr inps line) i) i)]:=by
   show(evl g (Mr inps line) i++[_]).map b2i=_
   simp
  have el:=evl_len (g:=g) (M:=Mr inps line) i
  refine wsc ?_
  dsimp[-Aa]
  repeat ((first | refine oat ag.attrs rfl ?_);try dsimp[-Aa])
  simp[-Aa,ag.attrs,nn]
  induction p using Option.casesOn with
  | some x=>
   obtain⟨l,r⟩:=x
   refine oa (w.lt i l r hp) fun l1 r1=>?_
   simp[-Aa,Bj]
   refine wsc ?_
   dsimp[-Aa]
   repeat ((first | refine oat ag.attrs rfl ?_);try dsimp[-Aa])
   simp[-Aa,ag.attrs,nn,Bj]
   refine⟨_,ag.tup i l r hp,rfl,?_⟩
   dsimp[-Aa]
   refine wsc ?_
   dsimp[-Aa]
   simp[-Aa,Ai,shr1]
   refine⟨okA g1,?_⟩
   have e2:∀m:Nat,(m:Int)/2=((m/2:Nat):Int):=fun m=>by exact ar273
   have md:∀(b:Bool) (m:Nat),Aw .Mod ((if b=true then 1 else 0:Int)+(m:Int)) 2=some (if (b != (m%2==1)) then 1 else 0):=fun b m=>by
    unfold Aw
    simp only
    rw[if_pos (by exact ar353),bmod]
   rw[e2,rdE g1 (by rw[el];exact l1) (by rw[el];rw[Ab];lia)]
   simp only[Ac,b2i,Ao,io_Add,Option.map_some,Ax,md]
   rw[e2,rdE g1 (by rw[el];exact r1) (by rw[el];rw[Ab];lia)]
   simp only[Ac,b2i,Ao,io_Add,Option.map_some,Ax,md]
   simp only[Ai]
   obtain⟨bl,hbl⟩:∃b:Bool,b=((evl g (Mr inps line) i).getD (l/2) false != (l%2==1)):=⟨_,rfl⟩
   obtain⟨br,hbr⟩:∃b:Bool,b=((evl g (Mr inps line) i).getD (r/2) false != (r%2==1)):=⟨_,rfl⟩
   rw[← hbl,← hbr]
   have ns:nstep g (Mr inps line) (evl g (Mr inps line) i) i=(bl&&br):=by
    unfold nstep;rw[hp,hbl,hbr]
   rw[ns] at evs
   have sm:Ak (if bl=true then 1 else 0):=by induction bl using Bool.casesOn <;> decide
   rw[if_pos (.inl sm)]
   simp only[Ac,Option.map_some,Ax]
   have em:CV.int ((if bl=true then (1:Int) else 0)*(if br=true then 1 else 0))=b2i (bl&&br):=by induction bl using Bool.casesOn <;> induction br using Bool.casesOn <;> rfl
   rw[em,apV g1 (by simp[el];rw[Ab];exact ar355 hg hi)]
   simp only[Ac,Bk,Al,WSs_nil,Lp_next]
   exact nxt _ _ _ _ (by rw[evs])
  | none=>
   try dsimp[-Aa]
   simp[-Aa,Bj]
   refine wsc ?_
   dsimp[-Aa]
   repeat ((first | refine oat ag.attrs rfl ?_);try dsimp[-Aa])
   have cm:Bm .In G (.int (i:Int)) (.ref A.ia)=some (decide (i∈inps)):=by
    simp only[Bu,Ba,CH.lsA,eqB_e,Bs,Ah,Bx,Ae,Af,Option.bind_some,ag.ins]
    rw[allN]
    simp only[Option.map_some,memN]
   rw[cm]
   simp only[Ac,B4]
   by_cases im:i∈inps
   ·refine ifp im (wsc ?_)
    have i0:=((hin.2 i).mp im).1
    dsimp[-Aa]
    repeat ((first | refine oat ag.attrs rfl ?_);try dsimp[-Aa])
    simp[-Aa,ag.attrs]
    refine⟨okA g1,by simp[bmOk,bmLook_e,CH.lsA,isD_e,Ah,Ae,Af,Option.bind_some,ag.ins],?_⟩
    have ix:bmV .index G (.ref A.ia) [.int (i:Int)]=some (.v (.int (inps.idxOf i:Nat))):=by
     simp only[bmV_e,CH.lsA,get2_e,Bi,two_two,B8,Ah,Ae,Af,Option.bind_some,ag.ins]
     rw[allN,Option.bind_some,idxN im,Option.bind_some,if_pos (by simp;rw[Ab];exact ar356 il)]
    have idl:=List.idxOf_lt_length_of_mem im
    obtain⟨k,hk⟩:∃k,k=inps.idxOf i:=⟨_,rfl⟩
    rw[ix,← hk]
    have ns:nstep g (Mr inps line) (evl g (Mr inps line) i) i=line.testBit k:=by
     unfold nstep Mr;rw[hp,hk];simp[i0]
    rw[ns] at evs
    simp only[Ac,Ax,Ao]
    have ep:Aw .Pow 2 (k:Int)=some ((2^k:Nat):Int):=by
     unfold Aw
     simp only
     rw[if_pos ⟨by exact ar2,by exact ar357 il idl hk,by decide⟩]
     dsimp
     try simp
    rw[ep]
    simp only[Ac,Ax,Ao,Option.map_some]
    have p2k:2^k≤1024:=by have:2^k≤2^10:=Nat.pow_le_pow_right (by exact ar292) (by lia);exact ar359 this
    have p2p:=Nat.two_pow_pos k
    have ef:Aw .FloorDiv (line:Int) ((2^k:Nat):Int)=some ((line/2^k:Nat):Int):=by
     unfold Aw
     simp only
     rw[if_pos (.inl ⟨by exact ar335 p2p,by lia⟩),Int.fdiv_eq_ediv_of_nonneg _ (Int.natCast_nonneg _),Int.natCast_ediv]
    rw[ef]
    simp only[Ac,Ax,Ao,Option.map_some]
    have eo:Aw .Mod ((line/2^k:Nat):Int) 2=some (if line.testBit k then 1 else 0):=by
     unfold Aw
     simp only
     rw[if_pos (by lia),Int.fmod_eq_emod_of_nonneg _ (by lia),Nat.testBit_eq_decide_div_mod_eq]
     have h2:(((line/2^k:Nat):Int))%2=((line/2^k%2:Nat):Int):=by exact ar182
     rw[h2]
     rcases Nat.mod_two_eq_zero_or_one (line/2^k) with e | e <;> rw[e] <;> rfl
    rw[eo]
    simp only[Ac,Ax,Ao,Option.map_some]
    rw[apV g1 (by simp[el];rw[Ab];lia)]
    simp only[Ac,Bk,Al,WSs_nil,Lp_next]
    exact nxt _ _ _ _ (by rw[evs];rfl)
   ·refine ifn im (wsc ?_)
    have i0:i=0:=Classical.byContradiction fun z=>im ((hin.2 i).mpr ⟨z,hp⟩)
    have ns:nstep g (Mr inps line) (evl g (Mr inps line) i) i=false:=by
     unfold nstep;rw[hp];simp[i0]
    rw[ns] at evs
    dsimp
    refine⟨okA g1,?_⟩
    rw[apV g1 (by simp[el];rw[Ab];exact ar361 i0)]
    simp only[Ac,Bk]
    exact nxt _ _ _ _ (by rw[evs];rfl)
 ·intro σ₂ hj
  refine oe4a ((hJ _ _).mp hj) fun x3 x4 x5 G z4_ t=>?_;subst z4_
  refine oa2 (t.facts hfd hra0 ab) fun le g1 g2=>?_
  refine⟨g2,?_⟩
  dsimp
  exact q fd G le g1
end
end
section
section
variable {Fm H G:CH} {A:AA} {g:Gr} {inps:List Nat} {B:Base} {n:Nat} {Q:CV→CH→Prop}
theorem ft_lBelow(C:Cx B)(hn:0<n)(h:AgR H A g inps)(w:Wfg g)(hg:g.length<60)(hin:Ins g inps)(il:inps.length≤10){la:Addr}{l r:Nat}(hla:H la=some (.list [.int (l:Nat),.int (r:Nat)]))(hl2:l/2<g.length)(hr2:r/2<g.length){inl:List Nat}(ci:Cin g [l/2,r/2] inl)
  (q:∀d G,Le H G→G d=some (.list (inl.map fun(i:Nat)=>.int i))→Q (.ref d) G):FT B fA n .lBelow [.ref A.a,.ref la] H Q:=by
 refine C.call hn rfl ?_
 refine wsc ?_
 dsimp[-Aa]
 refine⟨la,_,_,rfl,hla,rfl,by simp;rw[Ab];exact ar7,fun i acc G=>G=H∧acc=([l/2,r/2].take i).map fun(i:Nat)=>.int i,⟨rfl,rfl⟩,?_,?_⟩
 ·rintro i x acc G hx ⟨rfl,rfl⟩
  refine⟨hla,?_⟩
  have hi2:i<2:=by have:=(List.getElem?_eq_some_iff.mp hx).1;simpa using this
  rcases(by exact ar175 hi2:i=0∨i=1) with rfl | rfl
  ·simp at hx
   subst hx
   dsimp
   simp[Ai,shr1]
  ·simp at hx
   subst hx
   dsimp
   simp[Ai,shr1]
 ·rintro acc G ⟨rfl,rfl⟩
  refine⟨hla,fun wa hwa=>?_⟩
  have e:[l/2,r/2].take ([CV.int (l:Nat),CV.int (r:Nat)]).length=[l/2,r/2]:=rfl
  rw[e]
  have t0:One G wa (.list ([l/2,r/2].map fun(i:Nat)=>.int i)) (G.put wa (.list ([l/2,r/2].map fun(i:Nat)=>.int i))):=Le.refl _
  generalize G.put wa _=G0 at t0
  refine oa (t0.facts hwa) fun le0 g0=>?_
  dsimp[-Aa]
  refine wsc ?_
  dsimp[-Aa]
  simp[-Aa]
  intro se hse
  have hse0:G se=none:=le0.none hse
  have ab:se≠wa:=fun z=>by dsimp only at hse;rw[z,g0] at hse;cases hse
  have t1:Two G se wa (.list (([]:List Nat).map fun(i:Nat)=>.int i)) (.list ([l/2,r/2].map fun(i:Nat)=>.int i)) (G0.put se (.list [])):=by
   have:=Le.put t0 se (.list [])
   rw[put_comm _ _ _ (Ne.symm ab)] at this
   exact this
  generalize G0.put se (.list [])=G1 at t1
  dsimp[-Aa]
  refine wsc ?_
  have hrt:∀x∈[l/2,r/2],x<g.length:=fun x hx=>by simp at hx;rcases hx with rfl | rfl <;> assumption
  obtain⟨I,hI⟩:∃I:Nat→CS→Prop,∀m σ,I m σ↔(∃(x4:CV) (wa:Addr) (ks st:List Nat) (G':CH),σ=⟨[.ref A.a,.ref la,.ref wa,.ref se,x4],G'⟩∧G wa=none∧se≠wa∧Two G se wa (.list (ks.map fun(i:Nat)=>.int i)) (.list (st.map fun(i:Nat)=>.int i)) G'∧Wk g [l/2,r/2] false ks st∧m=3*(g.length-ks.length)+st.length∧m≤200):=⟨_,fun _ _=>Iff.rfl⟩
  refine ws_whl I (3*g.length+2) ((hI _ _).mpr ⟨_,wa,[],[l/2,r/2],_,rfl,hwa,ab,t1,Wk.init,by simp,by exact ar275 hg⟩) ?_
  clear t0 t1 g0 le0 hse ab hwa
  clear wa G0 G1
  intro m σ₁ hi
  refine oe5 ((hI _ _).mp hi) fun x4 wa ks st G1 w0_=>?_;refine oa6 w0_ fun z5_ hwa ab t wk hm hm2=>?_;clear w0_;subst z5_
  refine oa2 (t.facts hse0 hwa ab) fun le g1 g2=>?_
  have kl:=wk.len w hrt
  dsimp[-Aa]
  simp[-Aa]
  intro em hem
  have gem:(G1.put em (.list [])) em=some (.list []):=CH.put_self ..
  have t2:=t.new hem (.list [])
  generalize G1.put em (.list [])=G2 at gem t2
  refine oa2 (t2.facts hse0 hwa ab) fun le2 g21 g22=>?_
  have ag:=h.le le2
  have cm:Bm .NotEq G2 (.ref wa) (.ref em)=some (decide (st≠[])):=by
   simp only[Bu,Ba,CH.lsA,eqB_e,Bs,Ah,Bx,Ae,Af,Option.bind_some,g22,gem]
   rw[allN]
   dsimp
   simp[allInts_e]
  rw[Aj];dsimp only;rw[cm]
  simp only[Ac,B4]
  rcases List.eq_nil_or_concat st with rfl | ⟨st',k,rfl⟩
  ·refine ifn (by simp) (wsc ?_)
   dsimp[-Aa]
   repeat ((first | refine oat ag.attrs rfl ?_);try dsimp[-Aa])
   have full:=fun i=>wk.full w i
   have ef:inl=inps.filter fun i=>decide (i∈ks):=pw_eq ci.pw (hin.1.filter _) fun i=>by
    rw[ci.mem,List.mem_filter,hin.2]
    simp only[decide_eq_true_eq,full]
    constructor
    ·rintro⟨⟨a,b⟩,c⟩;exact⟨⟨b,c⟩,a,fun e=>by cases e⟩
    ·rintro⟨⟨b,c⟩,a,_⟩;exact⟨⟨a,b⟩,c⟩
   refine⟨A.ia,_,_,rfl,ag.ins,rfl,by simp;rw[Ab];exact ar356 il,fun i acc K=>K=G2∧acc=((inps.take i).filter fun i=>decide (i∈ks)).map fun(i:Nat)=>.int i,⟨rfl,rfl⟩,?_,?_⟩
   ·rintro i x acc K hx ⟨rfl,rfl⟩
    refine⟨ag.ins,?_⟩
    rw[List.getElem?_map,Option.map_eq_some_iff] at hx
    refine oea hx fun j hj z2_=>?_;subst z2_
    have cj:Bm .In K (.int (j:Int)) (.ref se)=some (decide (j∈ks)):=by
     simp only[Bu,Ba,CH.lsA,eqB_e,Bs,Ah,Bx,Ae,Af,Option.bind_some,g21]
     rw[allN]
     simp only[Option.map_some,memN]
    dsimp
    simp[cj]
    rw[List.take_add_one,hj,List.filter_append]
    by_cases jk:j∈ks
    ·dsimp
     simp[jk]
    ·dsimp
     simp[jk]
   ·rintro acc K ⟨rfl,rfl⟩
    refine⟨ag.ins,fun d hd=>?_⟩
    have e:inps.take (inps.map fun(i:Nat)=>CV.int i).length=inps:=by simp
    rw[e,← ef]
    exact q d _ (le2.trans (Le.new hd _)) (CH.put_self ..)
  ·rw[List.concat_eq_append] at g22 wk t2 hm ⊢
   simp only[List.length_append,List.length_singleton] at hm
   refine ifp (by simp) (wsc ?_)
   dsimp[-Aa]
   refine⟨okP g22,?_⟩
   rw[popN g22 (by rw[Ab];exact ar278 hm2 hm)]
   simp only[Ac,Bk,Al]
   have t3:=t2.putb (.list (st'.map fun(i:Nat)=>.int i))
   refine oa2 (t3.facts hse0 hwa ab) fun le3 g31 g32=>?_
   generalize G2.put wa (.list (st'.map fun(i:Nat)=>.int i))=G3 at t3 le3 g31 g32
   have hk:=wk.top.len w hrt
   obtain⟨p,hp⟩:∃p,g[k]?=some p:=⟨g[k],List.getElem?_eq_getElem hk⟩
   refine wsc ?_
   have cj:Bm .NotIn G3 (.int (k:Int)) (.ref se)=some (!decide (k∈ks)):=by
    simp only[Bu,Ba,CH.lsA,eqB_e,Bs,Ah,Bx,Ae,Af,Option.bind_some,g31]
    rw[allN]
    simp only[Option.map_some,memN]
   dsimp[-Aa]
   simp[-Aa,cj]
   by_cases hks:k∈ks
   ·dsimp
    simp[hks]
    exact⟨_,by exact ar280 hm,(hI _ _).mpr ⟨_,wa,ks,st',G3,rfl,hwa,ab,t3,wk.skip (.inl hks),rfl,by exact ar281 hm2 hm⟩⟩
   ·try dsimp[-Aa]
    simp[-Aa,hks]
    refine wsc ?_
    dsimp[-Aa]
    refine⟨okA g31,?_⟩
    rw[apN g31 (by rw[Ab];exact ar284 hg kl)]
    simp only[Ac,Bk,Al]
    have t4:=t3.puta ab (.list ((ks++[k]).map fun(i:Nat)=>.int i))
    generalize G3.put se _=G4 at t4
    refine oa2 (t4.facts hse0 hwa ab) fun le4 g41 g42=>?_
    have ag4:=h.le le4
    have nn:=ag4.node (by rw[Ab];exact ar285 hg) hp
    refine wsc ?_
    dsimp[-Aa]
    repeat ((first | refine oat ag4.attrs rfl ?_);try dsimp[-Aa])
    simp[-Aa,ag4.attrs,nn]
    induction p using Option.casesOn with
    | none=>
     have wk2:=wk.leaf hks (fun z=>by cases z) (fun l r e=>by rw[hp] at e;cases e)
     have:=wk2.len w hrt
     simp only[List.length_append,List.length_singleton] at this
     dsimp
     simp[Bj]
     exact⟨_,by simp;exact ar286 hm,(hI _ _).mpr ⟨_,wa,ks++[k],st',G4,rfl,hwa,ab,t4,wk2,rfl,by simp;exact ar287 hm2 hm⟩⟩
    | some x=>
     obtain⟨l',r'⟩:=x
     have wk2:=wk.gate hks (fun z=>by cases z) hp
     have:=wk2.len w hrt
     simp only[List.length_append,List.length_singleton] at this
     simp[-Aa,Bj]
     refine wsc ?_
     dsimp[-Aa]
     repeat ((first | refine oat ag4.attrs rfl ?_);try dsimp[-Aa])
     simp[-Aa,ag4.attrs,nn,Bj,ag4.kid hp,Ai,shr1]
     refine⟨by rw[Ab];lia,fun pa hpa=>?_⟩
     have e2:∀m:Nat,(m:Int)/2=((m/2:Nat):Int):=fun m=>by exact ar273
     rw[e2,e2] at *
     have gpa:(G4.put pa (.list [.int ((l'/2:Nat):Int),.int ((r'/2:Nat):Int)])) pa=some (.list [.int ((l'/2:Nat):Int),.int ((r'/2:Nat):Int)]):=CH.put_self ..
     have t5:=t4.new hpa (.list [.int ((l'/2:Nat):Int),.int ((r'/2:Nat):Int)])
     generalize G4.put pa _=G5 at gpa t5
     refine oa2 (t5.facts hse0 hwa ab) fun le5 g51 g52=>?_
     have bi:binV .Add G5 (.ref wa) (.ref pa)=some (.new (.list ((st'++[l'/2,r'/2]).map fun(i:Nat)=>.int i))):=by
      simp only[binV_e,refBin_e,CH.lsA,Bi,Ah,Ae,Af,Option.bind_some,g52,gpa]
      rw[if_pos (by simp;rw[Ab];exact ar362 hm2 hm)]
      dsimp
      simp
     rw[Aj];dsimp only;rw[bi]
     intro wb hwb
     have hwb0:G wb=none:=le5.none hwb
     have ab2:se≠wb:=fun z=>by rw[← z,g51] at hwb;cases hwb
     have t6:Two G se wb (.list ((ks++[k]).map fun(i:Nat)=>.int i)) (.list ((st'++[l'/2,r'/2]).map fun(i:Nat)=>.int i)) (G5.put wb (.list ((st'++[l'/2,r'/2]).map fun(i:Nat)=>.int i))):=Le.put (t5.one hwa ab) _ _
     generalize G5.put wb _=G6 at t6
     exact⟨_,by simp;lia,(hI _ _).mpr ⟨_,wb,ks++[k],st'++[l'/2,r'/2],G6,rfl,hwb0,ab2,t6,wk2,rfl,by simp;lia⟩⟩
end
end
section
theorem Two.le{H G K:CH}{a b:Addr}{x y:CO}(t:Two H a b x y G)(k:Le G K):Two H a b x y K:=Le.trans t k
theorem One.le{H G K:CH}{a:Addr}{x:CO}(t:One H a x G)(k:Le G K):One H a x K:=Le.trans t k
theorem valueOf_ent{M:Nat→Bool}{i:Nat}:∀{xs:List Nat},(Ap (ent M xs) (i:Int)).getD (.int 0)=.int (if decide (i∈xs)&&M i then 1 else 0)
 | []=>rfl
 | x::xs=>by
  have ih:=valueOf_ent (M:=M) (i:=i) (xs:=xs)
  by_cases e:x=i
  ·subst e
   unfold Ap ent
   simp
  ·have:Ap (ent M (x::xs)) (i:Int)=Ap (ent M xs) (i:Int):=by
    unfold Ap ent
    rw[List.map_cons,List.find?_cons_of_neg (by simpa using fun z=>e (by exact ar283 z))]
   rw[this,ih]
   have:decide (i∈x::xs)=decide (i∈xs):=by
    apply decide_eq_decide.mpr
    rw[List.mem_cons]
    exact⟨fun h=>h.resolve_left (Ne.symm e),.inr⟩
   rw[this]
theorem srt_of{xs:List Nat}(h:xs.Pairwise (· < ·)):srt xs=xs:=pw_eq (srt_pw (pw_nd h)) h fun i=>mem_srt
theorem lv_congr{g:Gr}(w:Wfg g){l r:Nat}{inl:List Nat}(ci:Cin g [l/2,r/2] inl){M N:Nat→Bool}(h:∀i∈inl,M i=N i):lv g M l=lv g N l∧lv g M r=lv g N r:=by
 have key:∀i,Rch g [l/2,r/2] i→ev g M i=ev g N i:=ev_congr w fun i hi e z=>h i ((ci.mem i).mpr ⟨⟨hi,z⟩,e⟩)
 unfold lv
 rw[key _ (.root (by simp)),key _ (.root (by simp))]
 exact⟨rfl,rfl⟩
theorem par4(a b:Bool)(l r:Nat):((if a then 1 else 0:Int)+(l:Int)+(if b then 1 else 0)+(r:Int)).fmod 2=if ((a != (l%2==1)) != (b != (r%2==1))) then 1 else 0:=by
 rw[Int.fmod_eq_emod_of_nonneg _ (by exact ar349)]
 rcases Nat.mod_two_eq_zero_or_one l with e | e <;> rcases Nat.mod_two_eq_zero_or_one r with f | f <;> rw[e,f] <;> induction a using Bool.casesOn <;> induction b using Bool.casesOn <;> simp <;> (first | exact ar372 f e | exact ar373 f e | exact ar376 e f | exact ar377 e f | exact ar380 f e | exact ar381 f e | exact ar382 f e | exact ar385 f e | lia)
section
variable {Fm H G:CH} {A:AA} {g:Gr} {inps:List Nat} {B:Base} {n:Nat} {Q:CV→CH→Prop}
theorem ft_lRight(C:Cx B)(hn:13≤n)(h:AgR H A g inps)(w:Wfg g)(hg:g.length<60)(hin:Ins g inps)(il:inps.length≤10){l r:Nat}(hl2:l/2<g.length)(hr2:r/2<g.length){inl:List Nat}(ci:Cin g [l/2,r/2] inl)(hz:inl≠[])
  (hc:inl.length≤6∨(7≤inl.length∧GOk g [l/2,r/2]∧(l=r∨(l/2≠r/2∧∃inp,∀us:List Bool,(∀i,us.getD i false=true↔Rch g [l/2,r/2] i)→KP (pF g us l r) inp g.length))))
  (q:∀G,Le H G→Q (.bool true) G):FT B fA n .lRight [.ref A.a,.int (l:Nat),.int (r:Nat)] H Q:=by
 refine C.call (by exact ar386 hn) rfl ?_
 refine wsc ?_
 dsimp[-Aa]
 repeat ((first | refine oat h.attrs rfl ?_);try dsimp[-Aa])
 rw[lenL h.ins (by simp;rw[Ab];exact ar356 il)]
 dsimp[-Aa]
 simp[-Aa]
 refine wsc ?_
 dsimp[-Aa]
 simp[-Aa]
 intro df hdf
 dsimp only at hdf
 obtain⟨D,hD⟩:∃D:Nat→Bool,D=fun line=>lv g (Mr inps line) l != lv g (Mr inps line) r:=⟨_,rfl⟩
 obtain⟨DL,hDL⟩:∃DL:Nat→List Nat,DL=fun i=>(List.range i).filter D:=⟨_,rfl⟩
 have DL0:DL 0=[]:=by rw[hDL];rfl
 have DLs:∀i,DL (i+1)=DL i++if D i then [i] else []:=fun i=>by
  rw[hDL]
  simp only
  rw[List.range_succ,List.filter_append]
  congr 1
  induction hb:D i using Bool.casesOn <;> simp[hb]
 have DLl:∀i,(DL i).length≤i:=fun i=>by
  rw[hDL]
  have:=List.length_filter_le D (List.range i)
  simpa using this
 have DLm:∀i j,j∈DL i↔j<i∧D j=true:=fun i j=>by rw[hDL];simp
 have t0:One H df (.list ((DL 0).map fun(i:Nat)=>.int i)) (H.put df (.list [])):=by rw[DL0];exact Le.refl _
 simp only[Aj]
 generalize H.put df (.list [])=G0 at t0
 refine oa (t0.facts hdf) fun le0 g0=>?_
 dsimp[-Aa]
 refine wsc ?_
 dsimp[-Aa]
 have p2k:2^inps.length≤1024:=by have:2^inps.length≤2^10:=Nat.pow_le_pow_right (by exact ar292) (by exact ar387 il);exact ar359 this
 have ep:∀k:Nat,k≤1000→Aw .Pow 2 (k:Int)=some ((2^k:Nat):Int):=fun k hk=>by
  unfold Aw
  simp only
  rw[if_pos ⟨by exact ar2,by exact ar291 hk,by decide⟩]
  dsimp
  try simp
 rw[ep _ (by exact ar388 il)]
 simp only[Ac,Ax,Option.map_some]
 rw[range1 (by rw[Ab];exact ar389 p2k)]
 simp only[Ac]
 refine forK_up0 (by rw[Ab];lia) fun ra hra=>?_
 have hra0:H ra=none:=le0.none hra
 have ab:df≠ra:=fun z=>by rw[← z,g0] at hra;cases hra
 obtain⟨rng,hrng⟩:∃rng:CO,rng=.range 0 ((2^inps.length:Nat):Int) 1:=⟨_,rfl⟩
 rw[← hrng]
 have t1:Two H df ra (.list ((DL 0).map fun(i:Nat)=>.int i)) rng (G0.put ra rng):=Le.put t0 _ _
 obtain⟨J,hJ⟩:∃J:Nat→CS→Prop,∀i σ,J i σ↔(∃(x5 x6:CV) (G:CH),σ=⟨[.ref A.a,.int l,.int r,.int (inps.length:Nat),.ref df,x5,x6,.undef,.undef],G⟩∧Two H df ra (.list ((DL i).map fun(i:Nat)=>.int i)) rng G):=⟨_,fun _ _=>Iff.rfl⟩
 refine⟨J,(hJ _ _).mpr ⟨_,_,_,rfl,t1⟩,?_,?_⟩
 ·intro i σ₂ hi hj
  refine oe3a ((hJ _ _).mp hj) fun x5 x6 G z3_ t=>?_;subst z3_
  refine oa2 (t.facts hdf hra0 ab) fun le g1 g2=>?_
  refine⟨g2,?_⟩
  refine wsc ?_
  dsimp[-Aa]
  refine ft_lValues C (by exact ar390 hn) (h.le le) w hg hin il fun vd G' leG gvd=>?_
  have t2:=t.le leG
  refine oa2 (t2.facts hdf hra0 ab) fun le2 g21 g22=>?_
  have el:=evl_len (g:=g) (M:=Mr inps i) g.length
  refine wsc ?_
  dsimp[-Aa]
  simp[-Aa,Ai,shr1]
  have e2:∀m:Nat,(m:Int)/2=((m/2:Nat):Int):=fun m=>by exact ar273
  rw[e2,rdE gvd (by rw[el];exact hl2) (by rw[el];rw[Ab];exact ar285 hg)]
  simp only[Ac,b2i,Ao,io_Add,Option.map_some,Ax]
  rw[e2,rdE gvd (by rw[el];exact hr2) (by rw[el];rw[Ab];lia)]
  simp only[Ac,b2i,Ao,io_Add,Option.map_some,Ax]
  simp only[Ai]
  rw[if_pos (by exact ar353),par4,evl_getD hl2,evl_getD hr2]
  have eD:((ev g (Mr inps i) (l/2) != (l%2==1)) != (ev g (Mr inps i) (r/2) != (r%2==1)))=D i:=by rw[hD];rfl
  rw[eD]
  have dls:=DLs i
  induction hb:D i using Bool.casesOn with
  | true=>
   rw[hb] at dls
   dsimp
   simp
   refine⟨okA g21,?_⟩
   have:=DLl i
   rw[apN g21 (by rw[Ab];exact ar391 p2k hi this)]
   simp only[Ac,Bk]
   refine(hJ _ _).mpr ⟨_,_,_,rfl,?_⟩
   rw[dls]
   exact t2.puta ab _
  | false=>
   rw[hb] at dls
   dsimp
   simp
   refine(hJ _ _).mpr ⟨_,_,_,rfl,?_⟩
   rw[dls]
   simpa using t2
 ·intro σ₂ hj
  refine oe3a ((hJ _ _).mp hj) fun x5 x6 G z3_ t=>?_;subst z3_
  refine oa2 (t.facts hdf hra0 ab) fun le g1 g2=>?_
  refine⟨g2,?_⟩
  have t2:=t.one hra0 ab
  simp only[Al]
  refine wsc ?_
  dsimp[-Aa]
  refine ft_parting C (by exact ar392 hn) (h.le le) w hg hl2 hr2 ci hc (fun hE td G2 le2 gtd=>?_) (fun M hM td G2 le2 gtd=>?_)
  ·have t3:=t2.le le2
   have dn:DL (2^inps.length)=[]:=by
    apply List.eq_nil_iff_forall_not_mem.mpr
    intro j hj
    have:=((DLm _ _).mp hj).2
    rw[hD] at this
    simp only[hE] at this
    simp at this
   rw[dn] at t3
   refine wsc ?_
   dsimp[-Aa]
   simp[-Aa]
   intro d1 hd1
   have g3:(G2.put d1 (.dicti [])) d1=some (.dicti []):=CH.put_self ..
   have gtd3:=Le.new hd1 (.dicti []) _ _ gtd
   have t4:=t3.le (Le.new hd1 (.dicti []))
   dsimp only
   generalize G2.put d1 (.dicti [])=G3 at g3 gtd3 t4
   simp only[Aj]
   have c1:Bm .Eq G3 (.ref td) (.ref d1)=some true:=by
    simp only[Bu,Ba,CH.lsA,eqB_e,Bs,Ah,Bx,Ae,Af,Option.bind_some,gtd3,g3]
    rfl
   rw[c1]
   dsimp[-Aa]
   simp[-Aa]
   intro d2 hd2
   have g4:(G3.put d2 (.list [])) d2=some (.list []):=CH.put_self ..
   have t5:=t4.le (Le.new hd2 (.list []))
   generalize G3.put d2 (.list [])=G4 at g4 t5
   refine oa (t5.facts hdf) fun le5 g5=>?_
   have c2:Bm .Eq G4 (.ref df) (.ref d2)=some true:=by
    simp only[Bu,Ba,CH.lsA,eqB_e,Bs,Ah,Bx,Ae,Af,Option.bind_some,g5,g4]
    rfl
   dsimp[-Aa]
   simp[-Aa,c2]
   refine wsc ?_
   dsimp[-Aa]
   simp[-Aa]
   intro d3 hd3
   have g6:(G4.put d3 (.list [])) d3=some (.list []):=CH.put_self ..
   have t6:=t5.le (Le.new hd3 (.list []))
   generalize G4.put d3 (.list [])=G5 at g6 t6
   refine oa (t6.facts hdf) fun le7 g7=>?_
   have c3:Bm .Eq G5 (.ref df) (.ref d3)=some true:=by
    simp only[Bu,Ba,CH.lsA,eqB_e,Bs,Ah,Bx,Ae,Af,Option.bind_some,g7,g6]
    rfl
   dsimp
   simp[c3]
   exact q G5 le7
  ·have t3:=t2.le le2
   refine oea (row_ex (fun j=>M (inps.getD j 0)) inps.length) fun ρ hρ hbit=>?_
   have ini:∀i∈inl,i∈inps:=fun i hi=>(hin.2 i).mpr ⟨((ci.mem i).mp hi).1.2,((ci.mem i).mp hi).2⟩
   have dρ:ρ∈DL (2^inps.length):=by
    refine(DLm _ _).mpr ⟨hρ,?_⟩
    have agr:∀i∈inl,Mr inps ρ i=M i:=fun i hi=>by
     refine oe (List.getElem?_of_mem (ini i hi)) fun j hj=>?_
     rw[Mr_at (pw_nd hin.1) hj,hbit j (List.getElem?_eq_some_iff.mp hj).1,List.getD_eq_getElem?_getD,hj]
     rfl
    refine oa (lv_congr w ci agr) fun a1 a2=>?_
    rw[hD]
    simp only[a1,a2]
    simpa using hM
   have dn:DL (2^inps.length)≠[]:=fun e=>by rw[e] at dρ;cases dρ
   refine wsc ?_
   dsimp[-Aa]
   simp[-Aa]
   intro d1 hd1
   have g3:(G2.put d1 (.dicti [])) d1=some (.dicti []):=CH.put_self ..
   have gtd3:=Le.new hd1 (.dicti []) _ _ gtd
   have t4:=t3.le (Le.new hd1 (.dicti []))
   dsimp only
   generalize G2.put d1 (.dicti [])=G3 at g3 gtd3 t4
   simp only[Aj]
   have c1:Bm .Eq G3 (.ref td) (.ref d1)=some false:=by
    simp only[Bu,Ba,CH.lsA,eqB_e,Bs,Ah,Bx,Ae,Af,Option.bind_some,gtd3,g3]
    unfold ent
    simpa using hz
   rw[c1]
   dsimp[-Aa]
   simp[-Aa]
   intro d2 hd2
   have g4:(G3.put d2 (.list [])) d2=some (.list []):=CH.put_self ..
   have t5:=t4.le (Le.new hd2 (.list []))
   have gtd4:=Le.new hd2 (.list []) _ _ gtd3
   generalize G3.put d2 (.list [])=G4 at g4 t5 gtd4
   refine oa (t5.facts hdf) fun le5 g5=>?_
   have c2:Bm .Eq G4 (.ref df) (.ref d2)=some false:=by
    simp only[Bu,Ba,CH.lsA,eqB_e,Bs,Ah,Bx,Ae,Af,Option.bind_some,g5,g4]
    rw[allN]
    simpa[allInts_e] using dn
   dsimp[-Aa]
   simp[-Aa,c2]
   refine wsc ?_
   dsimp[-Aa]
   simp[-Aa]
   intro d3 hd3
   have g6:(G4.put d3 (.list [])) d3=some (.list []):=CH.put_self ..
   have t6:=t5.le (Le.new hd3 (.list []))
   have gtd5:=Le.new hd3 (.list []) _ _ gtd4
   generalize G4.put d3 (.list [])=G5 at g6 t6 gtd5
   refine oa (t6.facts hdf) fun le7 g7=>?_
   have c3:Bm .Eq G5 (.ref df) (.ref d3)=some false:=by
    simp only[Bu,Ba,CH.lsA,eqB_e,Bs,Ah,Bx,Ae,Af,Option.bind_some,g7,g6]
    rw[allN]
    simpa[allInts_e] using dn
   dsimp[-Aa]
   simp[-Aa,c3]
   refine wsc ?_
   dsimp[-Aa]
   have ilen:inl.length≤inps.length:=List.Nodup.length_le_of_subset (pw_nd ci.pw) ini
   have sb:bfV .sorted G5 (.ref td)=some (.new (.list (inl.map fun(i:Nat)=>.int i))):=by
    simp only[bfV_e,CH.lsA,len_e,mkList_e,Ah,Bx,Ae,Af,Option.bind_some,gtd5]
    rw[if_pos (by unfold ent;simp;exact ar393 il ilen)]
    have e1:(ent M inl).map (·.1)=inl.map fun(i:Nat)=>(i:Int):=by unfold ent;simp
    rw[e1,srt_int,srt_of ci.pw]
    simp
   rw[sb]
   simp only[Ac,go_new]
   intro sa hsa
   have gsa:(G5.put sa (.list (inl.map fun(i:Nat)=>.int i))) sa=some (.list (inl.map fun(i:Nat)=>.int i)):=CH.put_self ..
   have t7:=t6.le (Le.new hsa (.list (inl.map fun(i:Nat)=>.int i)))
   have gtd6:=Le.new hsa (.list (inl.map fun(i:Nat)=>.int i)) _ _ gtd5
   generalize G5.put sa (.list (inl.map fun(i:Nat)=>.int i))=G6 at gsa t7 gtd6
   refine⟨by rw[Ab];lia,fun la hla=>?_⟩
   have gla:(G6.put la (.list [.int (l:Nat),.int (r:Nat)])) la=some (.list [.int (l:Nat),.int (r:Nat)]):=CH.put_self ..
   have l7:=Le.new hla (.list [.int (l:Nat),.int (r:Nat)])
   have t8:=t7.le l7
   have gtd7:=l7 _ _ gtd6
   have gsa7:=l7 _ _ gsa
   simp only[Aj]
   generalize G6.put la (.list [.int (l:Nat),.int (r:Nat)])=G7 at gla t8 gtd7 gsa7
   have f8:=t8.facts hdf
   refine ft_lBelow C (by lia) (h.le f8.1) w hg hin il gla hl2 hr2 ci fun ba G8 le8 gba=>?_
   have t9:=t8.le le8
   have gtd8:=le8 _ _ gtd7
   have gsa8:=le8 _ _ gsa7
   have c4:Bm .NotEq G8 (.ref sa) (.ref ba)=some false:=by
    simp only[Bu,Ba,CH.lsA,eqB_e,Bs,Ah,Bx,Ae,Af,Option.bind_some,gsa8,gba]
    rw[allN]
    dsimp
    simp
   rw[c4]
   dsimp[-Aa]
   refine wsc ?_
   dsimp[-Aa]
   refine wsc ?_
   dsimp[-Aa]
   rw[range1 (by rw[Ab];lia)]
   simp only[Ac]
   refine oa (t9.facts hdf) fun le9 g9=>?_
   refine forK_up0 (by rw[Ab];lia) fun ra hra=>?_
   have la9:=Le.new hra (.range 0 (inps.length:Int) 1)
   have gra:(G8.put ra (.range 0 (inps.length:Int) 1)) ra=some (.range 0 (inps.length:Int) 1):=CH.put_self ..
   have gtd9:=la9 _ _ gtd8
   have t10:=t9.le la9
   generalize G8.put ra (.range 0 (inps.length:Int) 1)=G9 at gra gtd9 t10
   refine oa (t10.facts hdf) fun le10 g10=>?_
   have ag:=h.le le10
   obtain⟨N,hN⟩:∃N:Nat→Bool,N=fun i=>decide (i∈inl)&&M i:=⟨_,rfl⟩
   obtain⟨K,hK⟩:∃K:Nat→CS→Prop,∀i σ,K i σ↔(∃(x8:CV) (x:Nat),σ=⟨[.ref A.a,.int l,.int r,.int (inps.length:Nat),.ref df,.int x,x6,.ref td,x8],G9⟩∧x<2^i∧∀j,j<i→x.testBit j=N (inps.getD j 0)):=⟨_,fun _ _=>Iff.rfl⟩
   refine⟨K,(hK _ _).mpr ⟨_,0,rfl,by simp,fun j hj=>by lia⟩,?_,?_⟩
   ·intro i σ₂ hi hj
    refine B3 ((hK _ _).mp hj) fun x8 x z2_ xl xb=>?_;subst z2_
    refine⟨gra,?_⟩
    obtain⟨j,hj⟩:∃j,inps[i]?=some j:=⟨inps[i],List.getElem?_eq_getElem hi⟩
    have jd:inps.getD i 0=j:=by rw[List.getD_eq_getElem?_getD,hj];rfl
    have gt:bmV .get2 G9 (.ref td) [.int (j:Int),.int 0]=some (.v (.int (if N j then 1 else 0))):=by
     simp only[bmV_e,CH.lsA,get2_e,Bi,two_two,B8,Ah,Ae,Af,Option.bind_some,gtd9]
     rw[Option.map_some,valueOf_ent,hN]
    refine wsc ?_
    dsimp[-Aa]
    repeat ((first | refine oat ag.attrs rfl ?_);try dsimp[-Aa])
    simp[-Aa,ag.attrs]
    rw[rdN ag.ins hj (by rw[Ab];lia)]
    simp only[Ac]
    refine⟨by simp[bmOk,bmLook_e,CH.lsA,isD_e,Ah,Ae,Af,Option.bind_some,gtd9],?_⟩
    rw[gt]
    simp only[Ac,Ax,Ao]
    rw[ep _ (by exact ar394 il hi)]
    simp only[Ac,Ax,Option.map_some,Ao]
    have sm:Ak (if N j=true then 1 else 0):=by induction N j using Bool.casesOn <;> decide
    simp only[Ai]
    rw[if_pos (.inl sm)]
    simp only[Ac,Ax,Option.map_some,Ao,io_Add]
    have ps:2^(i+1)=2^i+2^i:=by rw[Nat.pow_succ];exact ar395
    induction hb:N j using Bool.casesOn with
    | true=>
     refine⟨_,rfl,?_⟩
     dsimp
     simp
     rw[show((x:Int)+2^i)=((2^i+x:Nat):Int) by push_cast;exact Int.add_comm ..]
     refine(hK _ _).mpr ⟨_,2^i+x,rfl,by lia,fun k hk=>?_⟩
     by_cases e:k=i
     ·subst e
      rw[Nat.testBit_two_pow_add_eq,Nat.testBit_lt_two_pow xl,jd,hb];rfl
     ·rw[Nat.testBit_two_pow_add_gt (by exact ar397 hk e)];exact xb k (by lia)
    | false=>
     refine⟨_,rfl,?_⟩
     dsimp
     simp
     refine(hK _ _).mpr ⟨_,x,rfl,by lia,fun k hk=>?_⟩
     by_cases e:k=i
     ·subst e
      rw[Nat.testBit_lt_two_pow xl,jd,hb]
     ·exact xb k (by lia)
   ·intro σ₂ hj
    refine B3 ((hK _ _).mp hj) fun x8 x z2_ xl xb=>?_;subst z2_
    refine⟨gra,?_⟩
    have xin:x∈DL (2^inps.length):=by
     refine(DLm _ _).mpr ⟨xl,?_⟩
     have agr:∀i∈inl,Mr inps x i=M i:=fun i hi=>by
      refine oe (List.getElem?_of_mem (ini i hi)) fun j hj=>?_
      rw[Mr_at (pw_nd hin.1) hj,xb j (List.getElem?_eq_some_iff.mp hj).1,List.getD_eq_getElem?_getD,hj,hN]
      dsimp
      simp[hi]
     refine oa (lv_congr w ci agr) fun a1 a2=>?_
     rw[hD]
     simp only[a1,a2]
     simpa using hM
    have cj:Bm .In G9 (.int (x:Int)) (.ref df)=some true:=by
     simp only[Bu,Ba,CH.lsA,eqB_e,Bs,Ah,Bx,Ae,Af,Option.bind_some,g10]
     rw[allN]
     simp only[Option.map_some,memN]
     simpa using xin
    dsimp
    simp[cj]
    exact q G9 le10
end
end
section
noncomputable def GZ(g:Gr):Prop:=∀(i a b:Nat),g[i]?=some (some (a,b))→2≤a∧2≤b
noncomputable def GK(g:Gr):Prop:=∀(i a b:Nat),g[i]?=some (some (a,b))→2≤a∧2≤b∧a/2≠b/2
section
variable {g g':Gr} {roots:List Nat}
theorem GK.gz(h:GK g):GZ g:=fun i a b e=>⟨(h i a b e).1,(h i a b e).2.1⟩
theorem GZ.nz(h:GZ g)(hr:∀x∈roots,x≠0){i:Nat}(k:Rch g roots i):i≠0:=by
 induction k with
 | root h=>exact hr _ h
 | left _ e _=>have:=(h _ _ _ e).1;exact ar432 this
 | right _ e _=>have:=(h _ _ _ e).2;lia
theorem GK.ok(h:GK g)(hr:∀x∈roots,x≠0):GOk g roots:=⟨fun k=>h.gz.nz hr k rfl,fun i a b _ e=>(h i a b e).2.2⟩
theorem ex_in(w:Wfg g)(h:GZ g)(hr:∀x∈roots,x<g.length):∀i,i≠0→Rch g roots i→∃j,Rch g roots j∧j≠0∧g[j]?=some none:=by
 intro i
 induction i using Nat.strongRecOn with
 | _ i ih=>
  intro hi hk
  have hl:=hk.len w hr
  induction e:g[i]? using Option.casesOn with
  | none=>rw[List.getElem?_eq_none_iff] at e;lia
  | some p=>
   induction p using Option.casesOn with
   | none=>exact⟨i,hk,hi,e⟩
   | some x=>
    obtain⟨a,b⟩:=x
    have h1:=(w.lt i a b e).1
    have h2:=(h i a b e).1
    exact ih _ h1 (by exact ar432 h2) (.left hk e)
open Classical in
theorem Cin.ex(w:Wfg g)(hr:∀x∈roots,x<g.length):∃inl,Cin g roots inl:=by
 refine⟨(List.range g.length).filter fun i=>decide ((Rch g roots i∧i≠0)∧g[i]?=some none),List.Pairwise.filter _ List.pairwise_lt_range,fun i=>?_⟩
 rw[List.mem_filter,List.mem_range,decide_eq_true_eq]
 exact⟨fun h=>h.2,fun h=>⟨h.1.1.len w hr,h⟩⟩
theorem Cin.ne(w:Wfg g)(h:GZ g)(hr:∀x∈roots,x<g.length)(hz:∀x∈roots,x≠0)(hn:roots≠[]){inl:List Nat}(ci:Cin g roots inl):inl≠[]:=by
 refine oe2 (List.exists_cons_of_ne_nil hn) fun x xs z2_=>?_;subst z2_
 refine oea2 (ex_in w h hr x (hz x (by simp)) (.root (by simp))) fun j h1 h2 h3=>?_
 have:=(ci.mem j).mpr ⟨⟨h1,h2⟩,h3⟩
 intro e
 rw[e] at this
 cases this
inductive Chn (g:Gr):Nat→List Nat→List Nat→Prop where
 | base (l:Nat):2≤l→Chn g l [l] []
 | gate {p:Nat} {ms gs:List Nat} (v l:Nat):Chn g p ms gs→(g[v]?=some (some (p,l))∨g[v]?=some (some (l,p)))→Chn g (2*v) (l::ms) (v::gs)
theorem Chn.mono{p:Nat}{ms gs:List Nat}(h:∀(i:Nat) (x:Nat × Nat),g[i]?=some (some x)→g'[i]?=some (some x))(c:Chn g p ms gs):Chn g' p ms gs:=by
 induction c with
 | base l hl=>exact .base l hl
 | gate v l _ e ih=>exact .gate v l ih (e.imp (h _ _) (h _ _))
theorem Chn.rch{p:Nat}{ms gs:List Nat}(c:Chn g p ms gs):Rch g roots (p/2)→(∀v∈gs,Rch g roots v)∧(∀m∈ms,Rch g roots (m/2)):=by
 induction c with
 | base l hl=>exact fun h=>⟨fun v hv=>(by cases hv),fun m hm=>by rw[List.mem_singleton] at hm;exact hm▸h⟩
 | @gate p ms gs v l _ e ih=>
  intro h
  simp only[show 2*v/2=v by exact ar585] at h
  have hp:Rch g roots (p/2):=by rcases e with e | e;exact .left h e;exact .right h e
  have hl:Rch g roots (l/2):=by rcases e with e | e;exact .right h e;exact .left h e
  refine oa (ih hp) fun i1 i2=>?_
  refine⟨fun x hx=>?_,fun x hx=>?_⟩
  ·rcases List.mem_cons.mp hx with rfl | hx
   ·exact h
   ·exact i1 x hx
  ·rcases List.mem_cons.mp hx with rfl | hx
   ·exact hl
   ·exact i2 x hx
theorem vo_even(v:Nat):vo (2*v)=(v:Int)+1:=by
 unfold vo
 rw[if_neg (by exact ar586)]
 exact ar587
theorem Chn.ch{F:List (List Int)}{p:Nat}{ms gs:List Nat}(c:Chn g p ms gs):(∀v∈gs,∀f∈gcl g v,f∈F)→Ch F (vo p) (ms.map vo) (gs.map fun(v:Nat)=>(v:Int)+1):=by
 induction c with
 | base l hl=>exact fun _=>Ch.base _ (vo_ne l)
 | @gate p ms gs v l _ e ih=>
  intro hF
  have i:=ih fun x hx=>hF x (List.mem_cons_of_mem _ hx)
  have hv:=hF v (by simp)
  rw[vo_even]
  refine Ch.gate _ _ i (vo_ne l) (by exact ar245) ?_ ?_ ?_
  ·rcases e with e | e
   ·rw[gcl_and e] at hv
    exact⟨_,hv [-((v:Int)+1),vo p] (by simp),fun x=>by simp⟩
   ·rw[gcl_and e] at hv
    exact⟨_,hv [-((v:Int)+1),vo p] (by simp),fun x=>by simp⟩
  ·rcases e with e | e
   ·rw[gcl_and e] at hv
    exact⟨_,hv [-((v:Int)+1),vo l] (by simp),fun x=>by simp⟩
   ·rw[gcl_and e] at hv
    exact⟨_,hv [-((v:Int)+1),vo l] (by simp),fun x=>by simp⟩
  ·rcases e with e | e
   ·rw[gcl_and e] at hv
    exact⟨_,hv [(v:Int)+1,-vo p,-vo l] (by simp),fun x=>by simp⟩
   ·rw[gcl_and e] at hv
    exact⟨_,hv [(v:Int)+1,-vo l,-vo p] (by simp),fun x=>by
     simp only[List.mem_cons,List.not_mem_nil,or_false]
     constructor
     ·rintro(a | a | a);exact .inl a;exact .inr (.inr a);exact .inr (.inl a)
     ·rintro(a | a | a);exact .inl a;exact .inr (.inr a);exact .inr (.inl a)⟩
theorem Chn.top{p:Nat}{ms gs:List Nat}(c:Chn g p ms gs):(gs=[]∧ms=[p])∨(∃v,p=2*v∧v∈gs):=by
 cases c with
 | base l hl=>exact .inl ⟨rfl,rfl⟩
 | gate v l _ e=>exact .inr ⟨v,rfl,by simp⟩
theorem Chn.gates{p:Nat}{ms gs:List Nat}(c:Chn g p ms gs):∀v∈gs,∃a b,g[v]?=some (some (a,b)):=by
 induction c with
 | base l hl=>exact fun v hv=>by cases hv
 | gate v l _ e ih=>
  intro x hx
  rcases List.mem_cons.mp hx with rfl | hx
  ·rcases e with e | e <;> exact⟨_,_,e⟩
  ·exact ih x hx
theorem Chn.node{p:Nat}{ms gs:List Nat}(w:Wfg g)(c:Chn g p ms gs):2≤p:=by
 cases c with
 | base l hl=>exact hl
 | gate v l _ e=>
  have:v≠0:=fun z=>by subst z;rcases e with e | e <;> rw[w.z] at e <;> cases e
  exact ar588 this
theorem seven{v:Nat}:v∈[2,3,4,5,6,7,8]↔2≤v∧v≤8:=by simp;exact ar589
theorem chains_kp(w:Wfg g)(hin:Ins g [1,2,3,4,5,6,7]){l r:Nat}{mA gA mB gB:List Nat}(cA:Chn g l mA gA)(cB:Chn g r mB gB)(ndA:(mA.map (· / 2)).Nodup)(aA:∀i,1≤i→i≤7→i∈mA.map (· / 2))
  (rA:∀m∈mA,1≤m/2∧m/2≤7) (rB:∀m∈mB,1≤m/2∧m/2≤7) (miss:∀x y,1≤x→x≤7→1≤y→y≤7→x∉mB.map (· / 2)→y∉mB.map (· / 2)→x=y)
  (cov:∀i a b,g[i]?=some (some (a,b))→i∈gA∨i∈gB) {us:List Bool} (hus:∀i,us.getD i false=true↔Rch g [l/2,r/2] i):KP (pF g us l r) [2,3,4,5,6,7,8] g.length:=by
 have sub:∀v,Rch g [l/2,r/2] v→(∃a b,g[v]?=some (some (a,b)))→∀f∈gcl g v,f∈pF g us l r:=fun v hv hg f hf=>by
  unfold pF
  refine List.mem_append_left _ (List.mem_append_left _ (List.mem_flatMap.mpr ⟨v,List.mem_filter.mpr ⟨?_,(hus v).mpr hv⟩,hf⟩))
  refine oe2 hg fun a b e=>?_
  exact List.mem_range.mpr (List.getElem?_eq_some_iff.mp e).1
 have hA:=cA.ch (F:=pF g us l r) fun v hv=>sub v ((cA.rch (.root (by simp))).1 v hv) (cA.gates v hv)
 have hB:=cB.ch (F:=pF g us l r) fun v hv=>sub v ((cB.rch (.root (by simp))).1 v hv) (cB.gates v hv)
 have mv:∀(ms:List Nat) v,v+1∈(ms.map vo).map Int.natAbs↔v∈ms.map (· / 2):=fun ms v=>by
  simp only[List.map_map]
  simp only[List.mem_map,Function.comp,vo_abs]
  exact⟨fun⟨a,h1,h2⟩=>⟨a,h1,by exact ar590 h2⟩,fun⟨a,h1,h2⟩=>⟨a,h1,by exact ar591 h2⟩⟩
 refine kp_chain hA hB ⟨[vo l,vo r],?_,fun z=>by simp⟩ ⟨[-vo l,-vo r],?_,fun z=>by simp⟩ (by simp) (by simp) (fun v hv=>?_) (fun m hm=>?_) (fun m hm=>?_) ?_ (fun x hx y hy h1 h2=>?_) (fun v h2 hv=>?_)
 ·unfold pF;simp
 ·unfold pF;simp
 ·have:=seven.mp hv
  have:=(mv mA (v-1)).mpr (aA (v-1) (by exact ar592 this) (by exact ar593 this))
  rwa [show v-1+1=v by exact ar594 (by assumption)] at this
 ·refine oea (List.mem_map.mp hm) fun x hx z2_=>?_;subst z2_
  simp only[vo_abs]
  have:=rA x hx
  exact seven.mpr ⟨by lia,by lia⟩
 ·refine oea (List.mem_map.mp hm) fun x hx z2_=>?_;subst z2_
  simp only[vo_abs]
  have:=rB x hx
  exact seven.mpr ⟨by lia,by lia⟩
 ·have e:(mA.map vo).map Int.natAbs=(mA.map (· / 2)).map (· + 1):=by
   simp only[List.map_map,List.map_map]
   apply List.map_congr_left
   intro x _
   exact vo_abs x
  simp only[e]
  exact List.Pairwise.map _ (fun a b h=>by simpa using h) ndA
 ·have s1:=seven.mp hx
  have s2:=seven.mp hy
  have:=miss (x-1) (y-1) (by lia) (by lia) (by lia) (by lia) (fun h=>h1 (by have:=(mv mB (x-1)).mpr h;rwa [show x-1+1=x by lia] at this)) (fun h=>h2 (by have:=(mv mB (y-1)).mpr h;rwa [show y-1+1=y by lia] at this))
  lia
 ·have hl:v-1<g.length:=by exact ar598 h2 hv
  induction e:g[v-1]? using Option.casesOn with
  | none=>rw[List.getElem?_eq_none_iff] at e;lia
  | some p=>
   induction p using Option.casesOn with
   | none=>
    have:=(hin.2 (v-1)).mpr ⟨by exact ar599 h2,e⟩
    left
    simp only[seven]
    simp at this
    lia
   | some x=>
    obtain⟨a,b⟩:=x
    right
    have key:∀gs:List Nat,v-1∈gs→v∈(gs.map fun(v:Nat)=>(v:Int)+1).map Int.natAbs:=fun gs h=>by
     simp only[List.map_map]
     exact List.mem_map.mpr ⟨v-1,h,by simp only[Function.comp];exact ar601 h2⟩
    exact(cov _ a b e).imp (key _) (key _)
end
end
section
structure ChS (g0 g:Gr) (os:List Nat) (sk made:Nat) (ms gs:List Nat):Prop where
 w:Wfg g
 k:GK g
 ins:Ins g [1,2,3,4,5,6,7]
 nd:os.Nodup
 lt:∀o∈os,o<7
 ck:(made=1∧ms=[]∧gs=[])∨Chn g made ms gs
 mn:(ms.map (· / 2)).Nodup
 mr:∀m∈ms,1≤m/2∧m/2≤7∧m/2-1∉os
 al:∀i,i<7→i∈os∨i=sk∨i+1∈ms.map (· / 2)
 up:∀(i:Nat) (x:Nat × Nat),g0[i]?=some (some x)→g[i]?=some (some x)
 dn:∀(i:Nat) (x:Nat × Nat),g[i]?=some (some x)→g0[i]?=some (some x)∨i∈gs
 ln:g.length+os.length≤g0.length+7
structure Out (os:List Nat) (x:Nat) (os':List Nat):Prop where
 i:x∈os
 n:x∉os'
 d:os'.Nodup
 m:∀o,o∈os↔o=x∨o∈os'
 l:os.length=os'.length+1
theorem erase_perm:∀{l:List Nat} {i:Nat} (h:i<l.length),(l[i]::l.eraseIdx i).Perm l
 | [],i,h=>by simp at h
 | x::l,0,h=>.refl _
 | x::l,i+1,h=>(List.Perm.swap x (l[i]'(by simpa using h)) (l.eraseIdx i)).trans ((erase_perm (by simpa using h)).cons x)
theorem Out.of{os:List Nat}(h:os.Nodup){p:Nat}(hp:p<os.length):Out os os[p] (os.eraseIdx p):=by
 have pm:=erase_perm hp
 have nd:=pm.nodup_iff.mpr h
 rw[List.nodup_cons] at nd
 refine⟨List.getElem_mem hp,nd.1,nd.2,fun o=>by rw[← pm.mem_iff,List.mem_cons],?_⟩
 have:=pm.length_eq
 simpa using this.symm
section
variable {g0 g g':Gr} {os os':List Nat} {sk made x lit v:Nat} {ms gs:List Nat}
theorem ChS.init(w:Wfg g)(k:GK g)(ins:Ins g [1,2,3,4,5,6,7]):ChS g g [0,1,2,3,4,5,6] sk 1 [] []:=
 ⟨w,k,ins,by decide,by decide,.inl ⟨rfl,rfl,rfl⟩,by simp,by simp,fun i hi=>.inl (by simp;exact ar401 hi),fun _ _ h=>h,fun _ _ h=>.inl h,by simp⟩
theorem ChS.skip(h:ChS g0 g os sk made ms gs)(o:Out os x os')(e:x=sk):ChS g0 g os' sk made ms gs:=
 ⟨h.w,h.k,h.ins,o.d,fun y hy=>h.lt y ((o.m y).mpr (.inr hy)),h.ck,h.mn,fun m hm=>⟨(h.mr m hm).1,(h.mr m hm).2.1,fun hh=>(h.mr m hm).2.2 ((o.m _).mpr (.inr hh))⟩,
  fun i hi=>by
   rcases h.al i hi with a | a | a
   ·rcases(o.m i).mp a with b | b
    ·exact .inr (.inl (b.trans e))
    ·exact .inl b
   ·exact .inr (.inl a)
   ·exact .inr (.inr a),h.up,h.dn,by have:=h.ln;have:=o.l;exact ar602 this (by assumption)⟩
theorem ChS.add(h:ChS g0 g os sk made ms gs)(o:Out os x os')(hl:lit/2=x+1){made':Nat}{gs':List Nat}(w:Wfg g')(k:GK g')(ins:Ins g' [1,2,3,4,5,6,7])(c:Chn g' made' (lit::ms) gs')
  (up:∀(i:Nat) (x:Nat × Nat),g[i]?=some (some x)→g'[i]?=some (some x)) (dn:∀(i:Nat) (x:Nat × Nat),g'[i]?=some (some x)→g[i]?=some (some x)∨i∈gs') (sub:∀i∈gs,i∈gs') (ln:g'.length≤g.length+1):ChS g0 g' os' sk made' (lit::ms) gs':=by
 have x7:=h.lt x o.i
 refine⟨w,k,ins,o.d,fun y hy=>h.lt y ((o.m y).mpr (.inr hy)),.inr c,?_,fun m hm=>?_,fun i hi=>?_,fun i y e=>up i y (h.up i y e),fun i y e=>?_,by have:=h.ln;have:=o.l;exact ar603 this ln (by assumption)⟩
 ·rw[List.map_cons,List.nodup_cons]
  refine⟨fun hh=>?_,h.mn⟩
  refine oea (List.mem_map.mp hh) fun m hm e=>?_
  have:=(h.mr m hm).2.2
  apply this
  rw[show m/2-1=x by exact ar604 hl e]
  exact o.i
 ·rcases List.mem_cons.mp hm with rfl | hm
  ·refine⟨by exact ar605 hl,by exact ar606 x7 hl,?_⟩
   rw[show m/2-1=x by exact ar607 hl]
   exact o.n
  ·exact⟨(h.mr m hm).1,(h.mr m hm).2.1,fun hh=>(h.mr m hm).2.2 ((o.m _).mpr (.inr hh))⟩
 ·rw[List.map_cons,List.mem_cons]
  rcases h.al i hi with a | a | a
  ·rcases(o.m i).mp a with b | b
   ·exact .inr (.inr (.inl (by exact ar608 hl b)))
   ·exact .inl b
  ·exact .inr (.inl a)
  ·exact .inr (.inr (.inr a))
 ·rcases dn i y e with a | a
  ·rcases h.dn i y a with b | b
   ·exact .inl b
   ·exact .inr (sub i b)
  ·exact .inr a
theorem ChS.first(h:ChS g0 g os sk made ms gs)(o:Out os x os')(hl:lit/2=x+1)(e:ms=[]∧gs=[]):ChS g0 g os' sk lit [lit] []:=by
 refine oa e fun z0_ z1_=>?_;subst z0_;subst z1_
 exact h.add o hl h.w h.k h.ins (.base lit (by exact ar609 hl)) (fun _ _ h=>h) (fun _ _ h=>.inl h) (fun _ h=>h) (by exact ar544)
theorem ChS.ne(h:ChS g0 g os sk made ms gs)(o:x∈os)(hl:lit/2=x+1)(c:Chn g made ms gs):made/2≠lit/2∧made/2<g.length∧lit/2<g.length:=by
 have x7:=h.lt x o
 have gi:∀i,1≤i→i≤7→g[i]?=some none:=fun i h1 h2=>((h.ins.2 i).mp (by simp;exact ar106 h1 h2)).2
 have gx:=gi (x+1) (by exact ar126) (by exact ar610 x7)
 have lx:=(List.getElem?_eq_some_iff.mp gx).1
 rcases c.top with ⟨e1,e2⟩ | ⟨v,e1,e2⟩
 ·have mm:=h.mr made (by rw[e2];simp)
  have gm:=gi (made/2) mm.1 mm.2.1
  refine⟨fun e=>mm.2.2 ?_,(List.getElem?_eq_some_iff.mp gm).1,by exact ar611 lx hl⟩
  simp only[show made/2-1=x by exact ar604 hl e]
  exact o
 ·refine oe2 (c.gates v e2) fun a b e=>?_
  have hv:made/2=v:=by exact ar612 e1
  simp only[hv]
  refine⟨fun z=>?_,(List.getElem?_eq_some_iff.mp e).1,by lia⟩
  simp only[z,hl,gx] at e
  cases e
theorem ins_app(h:Ins g [1,2,3,4,5,6,7])(x:Nat × Nat):Ins (g++[some x]) [1,2,3,4,5,6,7]:=by
 refine⟨h.1,fun i=>?_⟩
 rw[h.2]
 constructor
 ·rintro⟨a,b⟩
  exact⟨a,by rw[List.getElem?_append_left (List.getElem?_eq_some_iff.mp b).1];exact b⟩
 ·rintro⟨a,b⟩
  refine⟨a,?_⟩
  rw[List.getElem?_append] at b
  split at b
  ·exact b
  ·have:=(List.getElem?_eq_some_iff.mp b).1
   simp at this
   have hi:i=g.length:=by exact ar197 this (by assumption)
   subst hi
   simp at b
theorem ChS.land(h:ChS g0 g os sk made ms gs)(o:Out os x os')(hl:lit/2=x+1)(c:Chn g made ms gs)(eg:g'=g∨(v=g.length∧g'=g++[some (min made lit,max made lit)]))(ev:g'[v]?=some (some (min made lit,max made lit))):
  ChS g0 g' os' sk (2*v) (lit::ms) (v::gs):=by
 refine oa2 (h.ne o.i hl c) fun n1 n2 n3=>?_
 have hm:=c.node h.w
 have pr:(min made lit,max made lit)=(made,lit)∨(min made lit,max made lit)=(lit,made):=by
  rcases Nat.le_total made lit with a | a
  ·left;rw[Nat.min_eq_left a,Nat.max_eq_right a]
  ·right;rw[Nat.min_eq_right a,Nat.max_eq_left a]
 have cg:∀g',(∀(i:Nat) (x:Nat × Nat),g[i]?=some (some x)→g'[i]?=some (some x))→g'[v]?=some (some (min made lit,max made lit))→Chn g' (2*v) (lit::ms) (v::gs):=fun g' hu e=>by
  refine .gate v lit (c.mono hu) ?_
  rcases pr with p | p <;> rw[p] at e
  ·exact .inl e
  ·exact .inr e
 rcases eg with rfl | ⟨rfl,rfl⟩
 ·exact h.add o hl h.w h.k h.ins (cg _ (fun _ _ h=>h) ev) (fun _ _ h=>h) (fun _ _ h=>.inl h) (fun i hi=>by simp[hi]) (by lia)
 ·have hu:∀(i:Nat) (x:Nat × Nat),g[i]?=some (some x)→(g++[some (min made lit,max made lit)])[i]?=some (some x):=fun i x e=>by
   rw[List.getElem?_append_left (List.getElem?_eq_some_iff.mp e).1];exact e
  have last:∀(i:Nat) (x:Nat × Nat),(g++[some (min made lit,max made lit)])[i]?=some (some x)→g[i]?=some (some x)∨(i=g.length∧x=(min made lit,max made lit)):=fun i x e=>by
   rw[List.getElem?_append] at e
   split at e
   ·exact .inl e
   ·have:=(List.getElem?_eq_some_iff.mp e).1
    simp at this
    have hi:i=g.length:=by exact ar197 this (by assumption)
    subst hi
    simp at e
    exact .inr ⟨rfl,by rw[e]⟩
  refine h.add o hl (h.w.land (by exact ar613 n2) (by exact ar614 n3 n2)) (fun i a b e=>?_) (ins_app h.ins _) (cg _ hu ev) hu (fun i y e=>?_) (fun i hi=>by simp[hi]) (by simp)
  ·rcases last i (a,b) e with e | ⟨_,e⟩
   ·exact h.k i a b e
   ·simp only[Prod.mk.injEq] at e
    refine oa e fun z0_ z1_=>?_;subst z0_;subst z1_
    have:2≤lit:=by lia
    lia
  ·rcases last i y e with e | ⟨rfl,e⟩
   ·exact .inl e
   ·exact .inr (by simp)
end
end
section
theorem eraseIdx_mapL{α β:Type}(f:α→β):∀(l:List α) (i:Nat),(l.map f).eraseIdx i=(l.eraseIdx i).map f
 | [],i=>rfl
 | x::l,0=>rfl
 | x::l,i+1=>congrArg (f x :: ·) (eraseIdx_mapL f l i)
section
variable {Fm Fm' H G:CH} {A:AA} {g:Gr} {inps:List Nat} {tab:List (List Int × CV)} {B:Base} {n:Nat} {Q:CV→CH→Prop}
theorem AgV.le2(h:AgV Fm H A g inps tab)(k:Le H G):AgV Fm G A g inps tab:=
 ⟨h.toAgR.le k,k _ _ h.tabl,k _ _ h.outs,h.fr.trans k,h.ap,h.d1,h.d2,h.d3,h.tk,h.tl⟩
theorem AgV.sub(h:AgV Fm H A g inps tab)(k:Le Fm' Fm):AgV Fm' H A g inps tab:=
 ⟨h.toAgR,h.tabl,h.outs,k.trans h.fr,fun x o e=>h.ap x o (k x o e),h.d1,h.d2,h.d3,h.tk,h.tl⟩
theorem AgV.alloc(h:AgV Fm H A g inps tab){d:Addr}(hd:H d=none)(o:CO):AgV (Fm.put d o) (H.put d o) A g inps tab:=by
 have l:=Le.new hd o
 refine⟨h.toAgR.le l,l _ _ h.tabl,l _ _ h.outs,Le.put h.fr d o,fun x o' e=>?_,h.d1,h.d2,h.d3,h.tk,h.tl⟩
 by_cases z:x=d
 ·subst z
  refine⟨fun z=>?_,fun z=>?_,fun z=>?_,fun z=>?_,fun z=>?_⟩
  ·rw[z,h.self] at hd;cases hd
  ·rw[z,h.nodes] at hd;cases hd
  ·rw[z,h.ins] at hd;cases hd
  ·rw[z,h.outs] at hd;cases hd
  ·rw[z,h.tabl] at hd;cases hd
 ·rw[CH.put_ne _ _ z] at e;exact h.ap x o' e
theorem AgV.cell(h:AgV Fm H A g inps tab){x:Addr}{xs:List CV}(hx:Fm x=some (.list xs))(ys:List CV):AgV (Fm.put x (.list ys)) (H.put x (.list ys)) A g inps tab:=by
 refine oa4 (h.ap x _ hx) fun a1 a2 a3 a4 a5=>?_
 have hH:=h.fr _ _ hx
 refine⟨⟨by rw[CH.put_ne _ _ (Ne.symm a1)];exact h.self,by rw[CH.put_ne _ _ (Ne.symm a2)];exact h.nodes,fun i l r e=>?_,by rw[CH.put_ne _ _ (Ne.symm a3)];exact h.ins⟩,by rw[CH.put_ne _ _ (Ne.symm a5)];exact h.tabl,by rw[CH.put_ne _ _ (Ne.symm a4)];exact h.outs,Le.put h.fr _ _,fun y o e=>?_,h.d1,h.d2,h.d3,h.tk,h.tl⟩
 ·have t:=h.tup i l r e
  have:A.ts i≠x:=fun z=>by rw[z,hH] at t;cases t
  rw[CH.put_ne _ _ this];exact t
 ·by_cases z:y=x
  ·subst z;exact⟨a1,a2,a3,a4,a5⟩
  ·rw[CH.put_ne _ _ z] at e;exact h.ap y o e
abbrev nl (l:List Nat):CO:=.list (l.map fun(i:Nat)=>.int i)
theorem ft_lChain(C:Cx B)(hn:3≤n){sd:Addr}{ss:List Nat}(h:AgV (Fm.put sd (nl ss)) H A g [1,2,3,4,5,6,7] tab)(hs:ss.length≤60)(w:Wfg g)(k:GK g)(ins:Ins g [1,2,3,4,5,6,7])(hg:g.length<50){sk tn:Nat}
  (q:∀(made:Nat) (ms gs:List Nat) (H':CH) (A':AA) (g':Gr) tab' (ss':List Nat),A'.a=A.a→ss'.length≤60→AgV (Fm.put sd (nl ss')) H' A' g' [1,2,3,4,5,6,7] tab'→ChS g g' [] sk made ms gs→Q (.int made) H'):FT B fA n .lChain [.ref sd,.ref A.a,.int sk,.int tn] H Q:=by
 refine C.call (by exact ar77 hn) rfl ?_
 refine wsc ?_
 dsimp[-Aa]
 rw[show rangeV [.int 7]=some (.range 0 7 1) from range1 (b:=7) (by rw[Ab];exact ar399)]
 simp only[Ac]
 intro r0 hr0
 have h1:=h.new hr0 (.range 0 7 1)
 have gr0:(H.put r0 (.range 0 7 1)) r0=some (.range 0 7 1):=CH.put_self ..
 simp only[Aj]
 generalize H.put r0 (.range 0 7 1)=H1 at h1 gr0
 have bl:bfV .list H1 (.ref r0)=some (.new (nl [0,1,2,3,4,5,6])):=by
  simp only[bfV_e,CH.lsA,len_e,mkList_e,Ah,Bx,Ae,Af,Option.bind_some,gr0]
  rw[show Bw 0 7 1=some [0,1,2,3,4,5,6] from by decide]
  dsimp
  simp[Ab]
 rw[bl]
 simp only[Ac,go_new]
 intro od hod
 have hsd:H1 sd=some (nl ss):=h1.fr _ _ (CH.put_self ..)
 have ne:od≠sd:=fun z=>by rw[z,hsd] at hod;cases hod
 have fod:∀o,(Fm.put sd o) od=none:=fun o=>by
  have:=Le.none h1.fr hod
  rw[CH.put_ne _ _ ne] at this ⊢
  exact this
 have h2:=h1.alloc hod (nl [0,1,2,3,4,5,6])
 generalize H1.put od (nl [0,1,2,3,4,5,6])=H2 at h2
 dsimp[-Aa]
 refine wsc ?_
 dsimp[-Aa]
 refine wsc ?_
 obtain⟨I,hI⟩:∃I:Nat→CS→Prop,∀m σ,I m σ↔(∃(x6 x7:CV) (made:Nat) (os ms gs ss':List Nat) (G:CH) (A':AA) (g':Gr) (tab':List (List Int × CV)),σ=⟨[.ref sd,.ref A.a,.int sk,.int tn,.ref od,.int made,x6,x7],G⟩∧A'.a=A.a∧ss'.length≤60∧AgV ((Fm.put sd (nl ss')).put od (nl os)) G A' g' [1,2,3,4,5,6,7] tab'∧ChS g g' os sk made ms gs∧m=os.length):=⟨_,fun _ _=>Iff.rfl⟩
 refine ws_whl I 7 ((hI _ _).mpr ⟨_,_,1,_,[],[],ss,_,A,g,tab,rfl,rfl,hs,h2,ChS.init w k ins,rfl⟩) ?_
 clear h2 H2 bl gr0 hod h1 hr0 hsd
 intro m σ₁ hi
 refine oe11 ((hI _ _).mp hi) fun x6 x7 made os ms gs ss' G A' g' tab' w0_=>?_;refine oa5 w0_ fun z11_ ea sl ag cs hm=>?_;clear w0_;subst z11_
 dsimp[-Aa]
 simp[-Aa]
 intro em hem
 have ag1:=ag.new hem (.list [])
 have gem:(G.put em (.list [])) em=some (.list []):=CH.put_self ..
 rw[Aj]
 dsimp only
 generalize G.put em (.list [])=G1 at ag1 gem
 have god:G1 od=some (nl os):=ag1.fr _ _ (CH.put_self ..)
 have gsd:G1 sd=some (nl ss'):=ag1.fr _ _ (by rw[CH.put_ne _ _ (Ne.symm ne),CH.put_self])
 have cm:Bm .NotEq G1 (.ref od) (.ref em)=some (decide (os≠[])):=by
  simp only[Bu,Ba,CH.lsA,eqB_e,Bs,Ah,Bx,Ae,Af,Option.bind_some,god,gem]
  rw[allN]
  dsimp
  simp[allInts_e]
 rw[cm]
 simp only[Ac,B4]
 by_cases ho:os=[]
 ·subst ho
  refine ifn (by simp) (wsc ?_)
  dsimp
  have ag2:=ag1.sub (Le.new (fod (nl ss')) (nl []))
  exact q made ms gs G1 A' g' tab' ss' ea sl ag2 cs
 ·have hol:0<os.length:=List.length_pos_iff.mpr ho
  have o7:os.length≤7:=by
   have sub:∀x∈os,x∈List.range 7:=fun x hx=>List.mem_range.mpr (cs.lt x hx)
   have:=List.Nodup.length_le_of_subset cs.nd sub
   simpa using this
  refine ifp ho (wsc ?_)
  dsimp[-Aa]
  refine⟨by simp[bmOk,bmLook_e,CH.lsA,isD_e,Ah,Ae,Af,Option.bind_some,god],?_⟩
  rw[lenL god (by simp;rw[Ab];exact ar400 o7)]
  simp only[Ac,Ax,List.length_map]
  refine ft_lPinch C (by exact ar178 hn) hol sl gsd fun p ss2 G2 hp sl2 le2=>?_
  have ag2:=(ag1.cell (x:=sd) (by rw[CH.put_ne _ _ (Ne.symm ne),CH.put_self]) (ss2.map fun(i:Nat)=>.int i)).le2 le2
  rw[put_comm _ _ _ ne,Bg] at ag2
  have god2:G2 od=some (nl os):=ag2.fr _ _ (CH.put_self ..)
  clear le2 gsd
  have out:=Out.of cs.nd hp
  obtain⟨x,hx⟩:∃x,x=os[p]:=⟨_,rfl⟩
  obtain⟨os',hos'⟩:∃os',os'=os.eraseIdx p:=⟨_,rfl⟩
  rw[← hx,← hos'] at out
  have x7:=cs.lt x out.i
  have pp:bmV .pop1 G2 (.ref od) [.int (p:Int)]=some (.upd (.int (x:Nat)) od (nl os')):=by
   simp only[bmV_e,CH.lsA,get2_e,Bi,two_two,B8,Ah,Ae,Af,Option.bind_some,god2]
   rw[idx_of (by exact ar2) (by simpa using hp) (by simp;rw[Ab];lia)]
   dsimp
   simp[hp,hx,hos']
   refine⟨by rw[Ab];lia,?_⟩
   rw[eraseIdx_mapL]
  rw[pp]
  simp only[Ac,Bk]
  have ag3:=ag2.cell (x:=od) (CH.put_self ..) (os'.map fun(i:Nat)=>.int i)
  rw[Bg] at ag3
  generalize G2.put od (nl os')=G3 at ag3
  have sn:subV G3 (.ref A'.ia) (.int (x:Int))=some (.int ((x+1:Nat):Int)):=by
   have hxx:[1,2,3,4,5,6,7][x]?=some (x+1):=by
    rcases(by exact ar401 x7:x=0∨x=1∨x=2∨x=3∨x=4∨x=5∨x=6) with e | e | e | e | e | e | e <;> subst e <;> rfl
   exact rdN ag3.ins hxx (by simp;rw[Ab];lia)
  have at3:=ag3.attrs
  rw[ea] at at3
  obtain⟨lit,hlit⟩:∃lit,lit=2*(x+1)+if x=tn then 1 else 0:=⟨_,rfl⟩
  have l2:lit/2=x+1:=by rw[hlit];split <;> (first | exact ar402 | exact ar403 | lia)
  have done:∀(x6 x7:CV) (made:Nat) (ms gs:List Nat) (G:CH) (A':AA) (g':Gr) (tab':List (List Int × CV)),A'.a=A.a→AgV ((Fm.put sd (nl ss2)).put od (nl os')) G A' g' [1,2,3,4,5,6,7] tab'→ChS g g' os' sk made ms gs→∃k,k<m∧I k ⟨[.ref sd,.ref A.a,.int sk,.int tn,.ref od,.int made,x6,x7],G⟩:=fun x6 x7 made ms gs G A' g' tab' ea ag cs=>⟨os'.length,by have:=out.l;exact ar404 hm this,(hI _ _).mpr ⟨_,_,made,os',ms,gs,ss2,G,A',g',tab',rfl,ea,sl2,ag,cs,rfl⟩⟩
  have key:WSs B fA (n-1) (match ir_lChain with | [_,_,.whl _ [_,_,c],_]=>[c] | _=>[]) ⟨[.ref sd,.ref A.a,.int sk,.int tn,.ref od,.int made,.int x,.int lit],G3⟩ (Lp (fun σ₃=>∃k,k<m∧I k σ₃) (Sq B fA (n-1) [IS.ret (IE.var 5)] (RetQ Q))):=by
   rw[ir_lChain]
   simp only
   refine wsc ?_
   dsimp[-Aa]
   simp[-Aa]
   by_cases xs:x=sk
   ·rw[if_pos (show(x:Int)=sk by exact ar191 xs)]
    exact done _ _ made ms gs G3 A' g' tab' ea ag3 (cs.skip out xs)
   ·refine ifn (show ¬ (x:Int)=sk by exact ar193 xs) (wsc ?_)
    dsimp
    have gl:g'.length<1000:=by have:=cs.ln;exact ar405 hg this
    refine⟨by have:=ag3.obj (f:=.aLand);rw[ea] at this;exact this,?_⟩
    rw[← ea]
    refine ft_land C (by lia) ag3 gl (fun c=>?_) (fun c=>?_) (fun v H' A2 g2 tab2 ea2 ag4 eg ev z0 z1 z2 z3=>?_)
    ·exfalso
     rw[bxor1] at c
     rcases cs.ck with ⟨e1,e2,e3⟩ | c0
     ·subst e1
      have:min 1 lit=1:=by exact ar406 hlit
      have m2:max 1 lit=lit:=by exact ar407 hlit
      rw[this,m2] at c
      rcases c with c | c
      ·exact ar408 c
      ·split at c <;> (first | exact ar409 (by assumption) c | exact ar410 c hlit | lia)
     ·refine oa2 (cs.ne out.i l2 c0) fun n1 n2 n3=>?_
      have:=c0.node cs.w
      rcases c with c | c
      ·exact ar411 this c hlit
      ·rcases Nat.le_total made lit with a | a
       ·rw[Nat.min_eq_left a,Nat.max_eq_right a] at c
        split at c <;> (first | exact ar412 (by assumption) n1 c | exact ar413 a c | lia)
       ·rw[Nat.min_eq_right a,Nat.max_eq_left a] at c
        split at c <;> (first | exact ar413 a c | lia)
    ·rcases cs.ck with ⟨e1,e2,e3⟩ | c0
     ·subst e1
      have m2:max 1 lit=lit:=by exact ar407 hlit
      rw[m2]
      rw[ea]
      exact done _ _ lit [lit] [] G3 A' g' tab' ea ag3 (cs.first out l2 ⟨e2,e3⟩)
     ·refine oa2 (cs.ne out.i l2 c0) fun n1 n2 n3=>?_
      have:=c0.node cs.w
      exfalso
      rcases c with c | c
      ·exact ar415 this c hlit
      ·rw[c] at n1;exact n1 rfl
    ·rcases cs.ck with ⟨e1,e2,e3⟩ | c0
     ·exfalso
      subst e1
      have:min 1 lit=1:=by exact ar406 hlit
      exact z1 this
     ·rw[ea]
      exact done _ _ (2*v) (lit::ms) (v::gs) H' A2 g2 tab2 (ea2.trans ea) ag4 (cs.land out l2 c0 eg ev)
  rw[ir_lChain] at key
  simp only at key
  refine wsc ?_
  dsimp[-Aa]
  repeat ((first | refine oat at3 rfl ?_);try dsimp[-Aa])
  simp[-Aa,at3,sn]
  simp only[Ai]
  rw[if_pos (.inl (by decide))]
  simp only[Option.map_some,Ac,Ax]
  by_cases xt:x=tn
  ·rw[if_pos xt] at hlit
   rw[if_pos (show(x:Int)=tn by lia)]
   simp only[Ao,io_Add,Option.map_some,Ac,Ax]
   rw[show(2*((x:Int)+1)+1)=(lit:Int) by exact ar416 hlit]
   exact key
  ·rw[if_neg xt] at hlit
   rw[if_neg (show ¬ (x:Int)=tn by lia)]
   simp only[Ao,io_Add,Option.map_some,Ac,Ax]
   rw[show(2*((x:Int)+1)+0)=(lit:Int) by exact ar417 hlit]
   exact key
end
end
section
noncomputable def gI(i:Nat):Gr:=List.replicate (i+1) none
noncomputable def iI(i:Nat):List Nat:=(List.range i).map (· + 1)
theorem gI_len(i:Nat):(gI i).length=i+1:=by unfold gI;simp
theorem iI_len(i:Nat):(iI i).length=i:=by unfold iI;simp
theorem gI_succ(i:Nat):gI i++[none]=gI (i+1):=by unfold gI;rw[List.replicate_succ' (n:=i+1)]
theorem iI_succ(i:Nat):iI i++[(gI i).length]=iI (i+1):=by unfold iI;rw[List.range_succ,List.map_append,gI_len];rfl
theorem gI_none{i j:Nat}{x:Nat × Nat}(e:(gI i)[j]?=some (some x)):False:=by
 unfold gI at e
 simp only[List.getElem?_replicate] at e
 split at e <;> cases e
theorem gI_w(i:Nat):Wfg (gI i):=⟨by unfold gI;simp,fun j l r e=>(gI_none e).elim⟩
theorem gI_k(i:Nat):GK (gI i):=fun j l r e=>(gI_none e).elim
theorem gI_ins(i:Nat):Ins (gI i) (iI i):=by
 refine⟨?_,fun j=>?_⟩
 ·unfold iI
  exact List.Pairwise.map _ (fun a b h=>by exact ar616 h) List.pairwise_lt_range
 ·unfold iI gI
  rw[List.mem_map,List.getElem?_replicate]
  constructor
  ·rintro⟨a,ha,rfl⟩
   rw[List.mem_range] at ha
   exact⟨by lia,by rw[if_pos (by exact ar616 ha)]⟩
  ·rintro⟨h1,h2⟩
   split at h2
   ·exact⟨j-1,by rw[List.mem_range];exact ar618 h1 (by assumption),by exact ar619 h1⟩
   ·cases h2
theorem ins_app2{g:Gr}{inps:List Nat}(h:Ins g inps)(x:Nat × Nat):Ins (g++[some x]) inps:=by
 refine⟨h.1,fun i=>?_⟩
 rw[h.2]
 constructor
 ·rintro⟨a,b⟩
  exact⟨a,by rw[List.getElem?_append_left (List.getElem?_eq_some_iff.mp b).1];exact b⟩
 ·rintro⟨a,b⟩
  refine⟨a,?_⟩
  rw[List.getElem?_append] at b
  split at b
  ·exact b
  ·have:=(List.getElem?_eq_some_iff.mp b).1
   simp at this
   have hi:i=g.length:=by exact ar197 this (by assumption)
   subst hi
   simp at b
structure Sm (g:Gr) (inps:List Nat) (m:Nat):Prop where
 w:Wfg g
 z:GZ g
 i:Ins g inps
 l:g.length≤m
 g3:3≤g.length
theorem Sm.land{g g':Gr}{inps:List Nat}{m l r v:Nat}(h:Sm g inps m)(l2:2≤l)(r2:2≤r)(hl:l/2<g.length)(hr:r/2<g.length)(eg:g'=g∨(v=g.length∧g'=g++[some (min l r,max l r)])):Sm g' inps (m+1):=by
 rcases eg with rfl | ⟨rfl,rfl⟩
 ·exact⟨h.w,h.z,h.i,by have:=h.l;exact ar57 this,h.g3⟩
 ·have hl:=h.l
  have h3:=h.g3
  refine⟨h.w.land (by exact ar613 (by assumption)) (by exact ar614 hr (by assumption)),fun i a b e=>?_,ins_app2 h.i _,by simp;exact ar51 hl,by simp;exact ar620 h3⟩
  simp only[List.getElem?_append] at e
  split at e
  ·exact h.z i a b e
  ·have:=(List.getElem?_eq_some_iff.mp e).1
   simp at this
   have hi:i=g.length:=by exact ar197 this (by assumption)
   subst hi
   simp at e
   lia
theorem two_chains{g0 g1 g2:Gr}{m1 m2 sk:Nat}{ms1 gs1 ms2 gs2:List Nat}(h0:∀(i:Nat) (x:Nat × Nat),g0[i]?≠some (some x))(c1:ChS g0 g1 [] 9 m1 ms1 gs1)(c2:ChS g1 g2 [] sk m2 ms2 gs2):
  (m1/2<g2.length∧m2/2<g2.length∧m1/2≠0∧m2/2≠0)∧∀inl,Cin g2 [m1/2,m2/2] inl→7≤inl.length∧GOk g2 [m1/2,m2/2]∧(m1=m2∨(m1/2≠m2/2∧∃inp,∀us:List Bool,(∀i,us.getD i false=true↔Rch g2 [m1/2,m2/2] i)→KP (pF g2 us m1 m2) inp g2.length)):=by
 have al:∀{g0 g:Gr} {sk m:Nat} {ms gs:List Nat},ChS g0 g [] sk m ms gs→∀i,i<7→i=sk∨i+1∈ms.map (· / 2):=fun c i hi=>(c.al i hi).resolve_left (by simp)
 have ch:∀{g0 g:Gr} {sk m:Nat} {ms gs:List Nat},ChS g0 g [] sk m ms gs→Chn g m ms gs∧∃v,m=2*v∧v∈gs:=fun {g0 g sk m ms gs} c=>by
  have a:=al c
  have a0:=a 0 (by exact ar622)
  have a1:=a 1 (by exact ar623)
  have a2:=a 2 (by exact ar624)
  rcases c.ck with ⟨e1,e2,e3⟩ | c0
  ·subst e2
   simp at a0 a1
   lia
  ·refine⟨c0,c0.top.resolve_left fun⟨e1,e2⟩=>?_⟩
   subst e2
   simp at a0 a1 a2
   exact ar625 a0 a1 a2
 refine oa (ch c1) fun k1 w0_=>?_;refine oe w0_ fun v1 w1_=>?_;clear w0_;refine oa w1_ fun e1 i1=>?_;clear w1_
 refine oa (ch c2) fun k2 w0_=>?_;refine oe w0_ fun v2 w1_=>?_;clear w0_;refine oa w1_ fun e2 i2=>?_;clear w1_
 have k1':=k1.mono c2.up
 have lt:∀{p v:Nat} {ms gs:List Nat},Chn g2 p ms gs→p=2*v→v∈gs→p/2<g2.length∧p/2≠0:=fun {p v ms gs} c e i=>by
  refine oe2 (c.gates v i) fun a b e'=>?_
  have hp:p/2=v:=by exact ar612 e
  simp only[hp]
  refine⟨(List.getElem?_eq_some_iff.mp e').1,fun z=>?_⟩
  simp only[z,c2.w.z] at e'
  cases e'
 refine oa (lt k1' e1 i1) fun p1 p2=>?_
 refine oa (lt k2 e2 i2) fun p3 p4=>?_
 have all1:∀i,1≤i→i≤7→i∈ms1.map (· / 2):=fun i h1 h2=>by
  have:=(al c1 (i-1) (by lia)).resolve_left (by exact ar627 h2)
  rwa [show i-1+1=i by exact ar628 h1] at this
 have hrt:∀x∈[m1/2,m2/2],x≠0:=fun x hx=>by simp at hx;rcases hx with rfl | rfl <;> assumption
 refine⟨⟨p1,p3,p2,p4⟩,fun inl ci=>⟨?_,c2.k.ok hrt,?_⟩⟩
 ·have sub:∀x∈[1,2,3,4,5,6,7],x∈inl:=fun x hx=>by
   have b:1≤x∧x≤7:=by simp at hx;exact ar629 hx
   refine oea (List.mem_map.mp (all1 x b.1 b.2)) fun m hm e=>?_
   have r:=(k1'.rch (roots:=[m1/2,m2/2]) (.root (by simp))).2 m hm
   have e:m/2=x:=e
   simp only[e] at r
   have:=(c2.ins.2 x).mp hx
   exact(ci.mem x).mpr ⟨⟨r,this.1⟩,this.2⟩
  have:=List.Nodup.length_le_of_subset (by decide:[1,2,3,4,5,6,7].Nodup) sub
  simpa using this
 ·by_cases z:m1=m2
  ·exact .inl z
  ·refine .inr ⟨by exact ar630 e2 e1 z,_,fun us hus=>chains_kp c2.w c2.ins k1' k2 c1.mn all1 (fun m hm=>⟨(c1.mr m hm).1,(c1.mr m hm).2.1⟩) (fun m hm=>⟨(c2.mr m hm).1,(c2.mr m hm).2.1⟩) (fun x y x1 x2 y1 y2 hx hy=>?_) (fun i a b e=>?_) hus⟩
   ·have a1:=(al c2 (x-1) (by lia)).resolve_right (by rwa [show x-1+1=x by lia])
    have a2:=(al c2 (y-1) (by lia)).resolve_right (by rwa [show y-1+1=y by lia])
    lia
   ·rcases c2.dn i _ e with e | e
    ·rcases c1.dn i _ e with e | e
     ·exact absurd e (h0 _ _)
     ·exact .inl e
    ·exact .inr e
end
section
section
variable {Fm Fm' H G:CH} {A:AA} {g:Gr} {inps:List Nat} {tab:List (List Int × CV)} {B:Base} {n:Nat} {Q:CV→CH→Prop}
theorem inputs_loop(C:Cx B)(hn:0<n){R:CF→CS→Prop}{m j:Nat}(hm:m≤20){vars:List CV}(hj:j≠3)(h3:∃x,vars=vars.set 3 x)(hv:vars.getD j .undef=.ref A.a)(h:AgV Fm H A [none] [] [])
  (k:∀x3 G,AgV Fm G A (gI m) (iI m) []→R .next ⟨vars.set 3 x3,G⟩):Rng ⟨vars,H⟩ (fin false (ForK B fA n 3 [.expr (.mth (.var j) .aAddInput [])] R)) (.range 0 (m:Int) 1):=by
 refine forK_up0 (by rw[Ab];exact ar418 hm) fun ra hra=>?_
 have h1:=h.alloc hra (.range 0 (m:Int) 1)
 have fr:=Le.none h.fr hra
 obtain⟨J,hJ⟩:∃J:Nat→CS→Prop,∀i σ,J i σ↔(∃(x:CV) (G:CH),σ=⟨vars.set 3 x,G⟩∧AgV (Fm.put ra (.range 0 (m:Int) 1)) G A (gI i) (iI i) []):=⟨_,fun _ _=>Iff.rfl⟩
 refine oe h3 fun x0 h3=>?_
 refine⟨J,(hJ _ _).mpr ⟨x0,_,by rw[← h3],h1⟩,?_,?_⟩
 ·intro i σ₂ hi hj'
  refine Be ((hJ _ _).mp hj') fun x G z2_ ag=>?_;subst z2_
  refine⟨ag.fr _ _ (CH.put_self ..),?_⟩
  have gv:∀y:CV,((vars.set 3 x).set 3 y).getD j .undef=.ref A.a:=fun y=>by
   rw[List.getD_eq_getElem?_getD,List.getElem?_set_ne (Ne.symm hj),List.getElem?_set_ne (Ne.symm hj),← List.getD_eq_getElem?_getD]
   exact hv
  rw[Aa,WS_e33,WE_e17,WE_e3,set_mk,get_mk,gv,Def_ref,Aj]
  refine⟨⟨A.a,_,_,_,rfl,ag.self,rfl⟩,?_⟩
  rw[WL_nil]
  refine ft_addInput C hn ag (by rw[gI_len];exact ar419 hm hi) (by rw[iI_len];exact ar420 hm hi) fun H' ag'=>?_
  rw[gI_succ,iI_succ] at ag'
  rw[Aj]
  refine(hJ _ _).mpr ⟨.int i,H',?_,ag'⟩
  rw[List.set_set]
 ·intro σ₂ hj'
  refine Be ((hJ _ _).mp hj') fun x G z2_ ag=>?_;subst z2_
  exact⟨ag.fr _ _ (CH.put_self ..),k x G (ag.sub (Le.new fr _))⟩
end
end
section
section
variable {Fm Fm' H G:CH} {A:AA} {g:Gr} {inps:List Nat} {tab:List (List Int × CV)} {B:Base} {n:Nat} {Q:CV→CH→Prop}
theorem ft_pinchA(C:Cx B)(hn:0<n){sd:Addr}{ss:List Nat}(h:AgV (Fm.put sd (nl ss)) H A g inps tab)(sl:ss.length≤60){many:Nat}(hm:0<many)
  (q:∀(p:Nat) (ss':List Nat) G,p<many→ss'.length≤60→AgV (Fm.put sd (nl ss')) G A g inps tab→Q (.int p) G):FT B fA n .lPinch [.ref sd,.int many] H Q:=by
 have gsd:H sd=some (nl ss):=h.fr _ _ (CH.put_self ..)
 refine ft_lPinch C hn hm sl gsd fun p ss2 G2 hp sl2 le2=>q p ss2 G2 hp sl2 ?_
 have:=(h.cell (x:=sd) (CH.put_self ..) (ss2.map fun(i:Nat)=>.int i)).le2 le2
 rw[Bg] at this
 exact this
theorem lands_loop(C:Cx B)(hn:3≤n){R:CF→CS→Prop}{m:Nat}(hm:m≤6){v0 x3 x4 v5 v6 v7 v8 v9:CV}{sd:Addr}{ss:List Nat}(h:AgV (Fm.put sd (nl ss)) H A g inps tab)(sl:ss.length≤60){c:Nat}(hc:c≤6)(sm:Sm g inps c)
  (k:∀x3 x4 G A' g' tab' (ss':List Nat),A'.a=A.a→ss'.length≤60→AgV (Fm.put sd (nl ss')) G A' g' inps tab'→Sm g' inps (c+m)→R .next ⟨[v0,.ref sd,.ref A.a,x3,x4,v5,v6,v7,v8,v9],G⟩) :
  Rng ⟨[v0,.ref sd,.ref A.a,x3,x4,v5,v6,v7,v8,v9],H⟩ (fin false (ForK B fA n 3 (match ir_law with | [_,_,_,.for _ _ b,_,_,_,_,_,_,_,_,_]=>b | _=>[]) R)) (.range 0 (m:Int) 1):=by
 refine forK_up0 (by rw[Ab];exact ar313 hm) fun ra hra=>?_
 have h1:=h.alloc hra (.range 0 (m:Int) 1)
 have gsd:H sd=some (nl ss):=h.fr _ _ (CH.put_self ..)
 have ne:sd≠ra:=fun z=>by rw[← z,gsd] at hra;cases hra
 have fr:∀o,(Fm.put sd o) ra=none:=fun o=>by
  have:=Le.none h.fr hra
  rw[CH.put_ne _ _ (Ne.symm ne)] at this ⊢
  exact this
 rw[put_comm _ _ _ ne] at h1
 obtain⟨J,hJ⟩:∃J:Nat→CS→Prop,∀i σ,J i σ↔(∃(x3 x4:CV) (G:CH) (A':AA) (g':Gr) (tab':List (List Int × CV)) (ss':List Nat),σ=⟨[v0,.ref sd,.ref A.a,x3,x4,v5,v6,v7,v8,v9],G⟩∧A'.a=A.a∧ss'.length≤60∧AgV ((Fm.put ra (.range 0 (m:Int) 1)).put sd (nl ss')) G A' g' inps tab'∧Sm g' inps (c+i)):=⟨_,fun _ _=>Iff.rfl⟩
 refine⟨J,(hJ _ _).mpr ⟨x3,x4,_,A,g,tab,ss,rfl,rfl,sl,h1,sm⟩,?_,?_⟩
 ·intro i σ₂ hi hj
  refine oe7 ((hJ _ _).mp hj) fun x3 x4 G A' g' tab' ss' w0_=>?_;refine oa4 w0_ fun z7_ ea sl ag sm=>?_;clear w0_;subst z7_
  refine⟨ag.fr _ _ (by rw[CH.put_ne _ _ (Ne.symm ne),CH.put_self]),?_⟩
  have gl:=sm.l
  have g3:=sm.g3
  rw[ir_law]
  simp only
  refine wsc ?_
  have at1:=ag.attrs
  rw[ea] at at1
  dsimp[-Aa]
  repeat ((first | refine oat at1 rfl ?_);try dsimp[-Aa])
  rw[lenL ag.nodes (by simp;rw[Ab];exact ar421 hc hm hi gl)]
  simp only[Ac,Ax,List.length_mapIdx,Ao]
  simp only[Ai]
  rw[if_pos (.inl (by decide))]
  simp only[Option.map_some,Ac,Ax,Al]
  refine wsc ?_
  simp[-Aa]
  refine⟨by have:=ag.obj (f:=.aLand);rw[ea] at this;exact this,?_⟩
  rw[show(2*(g'.length:Int)-2)=((2*g'.length-2:Nat):Int) by exact ar422 g3]
  refine ft_pinchA C (by exact ar77 hn) ag sl (by exact ar423 g3) fun p1 ss1 G1 hp1 sl1 ag1=>?_
  simp only[Ao,io_Add,Option.map_some,Ac,Ax]
  refine ft_pinchA C (by lia) ag1 sl1 (by exact ar424 hp1) fun p2 ss2 G2 hp2 sl2 ag2=>?_
  simp only[Ao,io_Sub,Option.map_some,Ac,Ax]
  rw[show(2+(p1:Int))=((2+p1:Nat):Int) by exact ar425,show(2*(g'.length:Int)-1-(p2:Int))=((2*g'.length-1-p2:Nat):Int) by exact ar426 hp2,← ea]
  refine ft_land C (by lia) ag2 (by lia) (fun _=>?_) (fun _=>?_) (fun v H' A2 g2 tab2 ea2 ag4 eg ev _ _ _ _=>?_)
  ·rw[ea]
   exact(hJ _ _).mpr ⟨_,_,G2,A',g',tab',ss2,rfl,ea,sl2,ag2,⟨sm.w,sm.z,sm.i,by exact ar428 gl,sm.g3⟩⟩
  ·rw[ea]
   exact(hJ _ _).mpr ⟨_,_,G2,A',g',tab',ss2,rfl,ea,sl2,ag2,⟨sm.w,sm.z,sm.i,by lia,sm.g3⟩⟩
  ·rw[ea]
   exact(hJ _ _).mpr ⟨_,_,H',A2,g2,tab2,ss2,rfl,ea2.trans ea,sl2,ag4,sm.land (by exact ar16) (by exact ar429 hp2) (by exact ar430 hp1) (by exact ar431 g3) eg⟩
 ·intro σ₂ hj
  refine oe7 ((hJ _ _).mp hj) fun x3 x4 G A' g' tab' ss' w0_=>?_;refine oa4 w0_ fun z7_ ea sl ag sm=>?_;clear w0_;subst z7_
  refine⟨ag.fr _ _ (by rw[CH.put_ne _ _ (Ne.symm ne),CH.put_self]),?_⟩
  refine k x3 x4 G A' g' tab' ss' ea sl (ag.sub ?_) sm
  rw[← put_comm _ _ _ ne]
  exact Le.new (fr _) _
theorem Sm.right(C:Cx B)(hn:13≤n)(h:AgR H A g inps){m:Nat}(sm:Sm g inps m)(hm:m≤50)(il:inps.length≤6){l r:Nat}(l2:2≤l)(r2:2≤r)(hl:l/2<g.length)(hr:r/2<g.length)(q:∀G,Le H G→Q (.bool true) G):FT B fA n .lRight [.ref A.a,.int (l:Nat),.int (r:Nat)] H Q:=by
 have gl:=sm.l
 have hrt:∀x∈[l/2,r/2],x<g.length:=fun x hx=>by simp at hx;rcases hx with rfl | rfl <;> assumption
 have hrz:∀x∈[l/2,r/2],x≠0:=fun x hx=>by simp at hx;rcases hx with rfl | rfl <;> (first | exact ar432 l2 | lia)
 refine oe (Cin.ex sm.w hrt) fun inl ci=>?_
 have sub:∀i∈inl,i∈inps:=fun i hi=>(sm.i.2 i).mpr ⟨((ci.mem i).mp hi).1.2,((ci.mem i).mp hi).2⟩
 have:=List.Nodup.length_le_of_subset (pw_nd ci.pw) sub
 exact ft_lRight C hn h sm.w (by exact ar433 hm gl) sm.i (by exact ar434 il) hl hr ci (ci.ne sm.w sm.z hrt hrz (by simp)) (.inl (by exact ar435 il this)) q
end
end
section
theorem law_ok(B:Base)(a:Addr)(ns:List Int)(ob:Obj)(C:Cx B)(hl:ns.length≤63):LawW B a ns ob:=by
 unfold LawW
 obtain⟨H0,hH0⟩:∃H0,H0=H₀ a ns ob:=⟨_,rfl⟩
 have ha:H0 a=some (.frz (ns.map .int) ob):=by rw[hH0];unfold H₀;simp
 simp only[← hH0]
 clear hH0
 generalize hQ:(RetQ fun v H=>v=CV.bool true∧H a=some (.frz (ns.map .int) ob))=Q
 have hQ2:∀G,Le H0 G→∀vs,Q (.ret (.bool true)) ⟨vs,G⟩:=fun G le vs=>by
  simp only[← hQ]
  exact⟨rfl,le _ _ ha⟩
 clear hQ
 simp only[ir_law,Aa]
 dsimp[-Aa]
 refine ft_lSalt C (by exact ar436) hl ha fun sd ss G hsd sl t=>?_
 have lf:∀o,Le H0 (H0.put sd o):=fun o=>Le.new hsd o
 refine wsc ?_
 dsimp[-Aa]
 simp[-Aa]
 intro x d hx
 have hFx:(H0.put sd (nl ss)) x=none:=Le.none t hx
 refine ft_aInit (Fm:=H0.put sd (nl ss)) C (by exact ar437) (Le.trans t (Le.new hx _)) hFx (CH.put_self ..) fun H1 A eA ag=>?_
 refine⟨rfl,?_⟩
 subst eA
 refine wsc ?_
 dsimp[-Aa]
 refine ft_pinchA (many:=3) C (by lia) ag sl (by exact ar438) fun p ss G hp sl ag=>?_
 simp only[Ao,io_Add,Option.map_some,Ac,Ax]
 rw[show(2+(p:Int))=((2+p:Nat):Int) by exact ar425,range1 (by rw[Ab];exact ar439 hp)]
 refine inputs_loop C (by lia) (by lia) (by lia) ⟨.undef,rfl⟩ rfl ag fun x3 G ag=>?_
 obtain⟨kk,hkk⟩:∃kk,kk=2+p:=⟨_,rfl⟩
 simp only[← hkk] at ag
 have sm:Sm (gI kk) (iI kk) (kk+1):=⟨gI_w _,(gI_k _).gz,gI_ins _,Nat.le_of_eq (gI_len _),by rw[gI_len];exact ar441 hkk⟩
 simp only[Al,List.set_cons_succ,List.set_cons_zero]
 refine wsc ?_
 dsimp[-Aa]
 refine ft_pinchA (many:=6) C (by lia) ag sl (by exact ar442) fun p6 ss G hp6 sl ag=>?_
 rw[range1 (by rw[Ab];exact ar443 hp6)]
 refine lands_loop C (by exact ar444) (by lia) ag sl (by exact ar446 hp hkk) sm fun x3 x4 G A' g tab ss ea sl ag sm=>?_
 have gl:=sm.l
 have g3:=sm.g3
 have at1:=ag.attrs
 simp only[ea] at at1
 refine wsc ?_
 dsimp[-Aa]
 repeat ((first | refine oat at1 rfl ?_);try dsimp[-Aa])
 simp only[lenL ag.nodes (by simp;rw[Ab];exact ar447 hp hp6 hkk gl)]
 simp only[Ac,Ax,List.length_mapIdx,Ao]
 simp only[Ai]
 rw[if_pos (.inl (by decide))]
 simp only[Option.map_some,Ac,Ax,Al]
 refine wsc ?_
 dsimp[-Aa]
 simp only[show(2*(g.length:Int)-2)=((2*g.length-2:Nat):Int) by exact ar422 g3]
 refine ft_pinchA C (by lia) ag sl (by exact ar423 g3) fun p1 ss G hp1 sl ag=>?_
 simp only[Ao,io_Add,Option.map_some,Ac,Ax]
 refine wsc ?_
 dsimp[-Aa]
 simp only[show(2*(g.length:Int)-2)=((2*g.length-2:Nat):Int) by lia]
 refine ft_pinchA C (by lia) ag sl (by exact ar424 hp1) fun p2 ss G hp2 sl ag=>?_
 simp only[Ao,io_Sub,Option.map_some,Ac,Ax]
 simp only[show(2+(p1:Int))=((2+p1:Nat):Int) by lia,show(2*(g.length:Int)-1-(p2:Int))=((2*g.length-1-p2:Nat):Int) by exact ar426 hp2]
 obtain⟨l,hl⟩:∃l,l=2+p1:=⟨_,rfl⟩
 obtain⟨r,hr⟩:∃r,r=2*g.length-1-p2:=⟨_,rfl⟩
 simp only[← hl,← hr]
 refine wsc ?_
 dsimp[-Aa]
 have ikk:(iI kk).length≤6:=by rw[iI_len];exact ar448 hp hkk
 simp only[← ea]
 refine Sm.right C (by lia) ag.toAgR sm (by exact ar449 hp hp6 hkk) ikk (by exact ar450 hl) (by exact ar451 hp2 hr) (by exact ar452 hp1 hl) (by exact ar453 g3 hr) fun G1 le1=>?_
 dsimp[-Aa]
 simp[-Aa]
 refine Sm.right C (by lia) (ag.toAgR.le le1) sm (by lia) ikk (by lia) (by lia) (by lia) (by lia) fun G2 le2=>?_
 dsimp[-Aa]
 simp[-Aa]
 have fr2:Le (H0.put sd (nl ss)) G2:=ag.fr.trans (le1.trans le2)
 clear ag sm
 refine wsc ?_
 dsimp[-Aa]
 simp[-Aa]
 intro x d hx
 have hFx:(H0.put sd (nl ss)) x=none:=Le.none fr2 hx
 refine ft_aInit (Fm:=H0.put sd (nl ss)) C (by lia) (Le.trans fr2 (Le.new hx _)) hFx (CH.put_self ..) fun H1 A2 eA ag=>?_
 refine⟨rfl,?_⟩
 subst eA
 refine wsc ?_
 dsimp[-Aa]
 simp only[show rangeV [.int 7]=some (.range 0 7 1) from range1 (b:=7) (by rw[Ab];lia)]
 refine inputs_loop (m:=7) C (by lia) (by lia) (by lia) ⟨_,rfl⟩ rfl ag fun x3 G ag=>?_
 simp only[Al,List.set_cons_succ,List.set_cons_zero]
 refine wsc ?_
 dsimp[-Aa]
 have i7:iI 7=[1,2,3,4,5,6,7]:=by decide
 simp only[i7] at ag
 refine ft_lChain (sk:=9) (tn:=9) C (by lia) ag sl (gI_w 7) (gI_k 7) (i7▸gI_ins 7) (by rw[gI_len];exact ar454) fun m1 ms1 gs1 G A3 g1 tab1 ss ea3 sl ag c1=>?_
 refine wsc ?_
 dsimp[-Aa]
 refine ft_pinchA (many:=10) C (by lia) ag sl (by exact ar455) fun sk ss G _ sl ag=>?_
 refine ft_pinchA (many:=12) C (by lia) ag sl (by exact ar456) fun tn ss G _ sl ag=>?_
 have ln1:=c1.ln
 simp only[gI_len] at ln1
 simp only[List.length_nil] at ln1
 simp only[← ea3]
 refine ft_lChain C (by lia) ag sl c1.w c1.k c1.ins (by exact ar457 ln1) fun m2 ms2 gs2 G A4 g2 tab2 ss ea4 sl ag c2=>?_
 have ln2:=c2.ln
 simp only[List.length_nil] at ln2
 simp only[← ea4]
 refine wsc ?_
 dsimp[-Aa]
 obtain⟨⟨b1,b2,z1,z2⟩,tc⟩:=two_chains (fun i x e=>(gI_none e).elim) c1 c2
 have hrt:∀x∈[m1/2,m2/2],x<g2.length:=fun x hx=>by simp at hx;rcases hx with rfl | rfl <;> assumption
 refine oe (Cin.ex c2.w hrt) fun inl ci=>?_
 refine oa2 (tc inl ci) fun il7 ok hc=>?_
 have hrz:∀x∈[m1/2,m2/2],x≠0:=fun x hx=>by simp at hx;rcases hx with rfl | rfl <;> assumption
 refine ft_lRight C (by lia) ag.toAgR c2.w (by exact ar458 ln1 ln2) c2.ins (by simp) b1 b2 ci (ci.ne c2.w c2.k.gz hrt hrz (by simp)) (.inr ⟨il7,ok,hc⟩) fun G3 le3=>?_
 exact hQ2 _ ((lf _).trans (ag.fr.trans le3)) _
end
end Mine
set_option maxRecDepth 100000 in
theorem PySem.Challenge.cw_pq0468_01_holds : PySem.Challenge.rw_pq0468_01.Holds :=
 Mine.holds_of fun B a ns ob C h=>Mine.law_ok B a ns ob C h
